import PyProof.Rows.All
import Wide.All
import OpenK.AllK
import Wide.FinOn
import HandS.ForMost
import HandS.ForExc
import HandS.Deep
import HandS.Flow
import HandS.IsInst
import HandS.TupAny
import HandS.Zip
import HandS.Strs
import PyProof.Rows.InDataRows
import KE.SortData
import HandS.More
import HandS.TryOnly
import HandS.Style
import HandS.Defaults
import HandS.Head0
import HandS.Head1
import HandS.Head2
import HandS.HeadEnd
import HandS.HeadHook1
import HandS.HeadHook2
import PySem.Challenge.RW_ownlists_k16_rests_of_bills
set_option Elab.async false
set_option linter.all false
set_option maxRecDepth 100000
/-! Mini: a small language of its own with a plain evaluator over data trees. -/
namespace Mini
/-- data trees -/
inductive D where
  | non | bl (b : Bool) | int (i : Int) | str (x : List Nat)
  | tup (xs : List D) | lst (xs : List D) | dic (kvs : List (D × D)) | obj (k : Nat)
  deriving Inhabited
/-- a value of an expression: a frozen tree, a cell, a new container that nobody holds yet -/
inductive RV where
  | imm (d : D) | cel (k : Nat) | fr (d : D)
inductive Stt where
  | live | lock | dead
abbrev Cells := List (Stt × D)
abbrev Slots := List (Option RV)
structure Exn where
  cls : Nat
  args : List D
inductive Res (α : Type) where
  | stuck | ok (a : α) (cs : Cells) | err (x : Exn) (cs : Cells)
def Res.bind {α β : Type} (r : Res α) (f : α → Cells → Res β) : Res β :=
  match r with
  | .stuck => .stuck
  | .ok a cs => f a cs
  | .err x cs => .err x cs
/-- what may fail plainly -/
def Res.opt {α : Type} (o : Option α) (cs : Cells) : Res α := match o with
  | some a => .ok a cs
  | none => .stuck

/-! ### lists -/
def nth {α : Type} : List α → Nat → Option α
  | [], _ => none
  | a :: _, 0 => some a
  | _ :: l, n + 1 => nth l n
def setN {α : Type} : List α → Nat → α → List α
  | [], _, _ => []
  | _ :: l, 0, x => x :: l
  | a :: l, n + 1, x => a :: setN l n x
def leq : List Nat → List Nat → Bool
  | [], [] => true
  | x :: xs, y :: ys => Nat.beq x y && leq xs ys
  | _, _ => false
def llt : List Nat → List Nat → Bool
  | _, [] => false
  | [], _ :: _ => true
  | x :: xs, y :: ys => if Nat.beq x y then llt xs ys else Nat.blt x y
abbrev LINE : Nat := 16777216

/-! ### == -/
mutual
def deq : D → D → Bool
  | .non, .non => true
  | .bl a, .bl b => a == b
  | .bl a, .int j => (if a then 1 else 0) == j
  | .int i, .bl b => i == (if b then 1 else 0)
  | .int i, .int j => i == j
  | .str x, .str y => leq x y
  | .tup xs, .tup ys => deqs xs ys
  | .lst xs, .lst ys => deqs xs ys
  | _, _ => false
def deqs : List D → List D → Bool
  | [], [] => true
  | x :: xs, y :: ys => deq x y && deqs xs ys
  | _, _ => false
end
def sOk : List Nat → Bool
  | [] => true
  | c :: cs => Nat.blt c 1114112 && sOk cs
/-! no dicts, no objects, at most so deep -/
mutual
def pl : Nat → D → Bool
  | _, .non => true
  | _, .bl _ => true
  | _, .int _ => true
  | _, .str x => sOk x
  | 0, .tup _ => false
  | 0, .lst _ => false
  | n + 1, .tup xs => pls n xs
  | n + 1, .lst xs => pls n xs
  | _, .dic _ => false
  | _, .obj _ => false
def pls : Nat → List D → Bool
  | _, [] => true
  | n, x :: xs => pl n x && pls n xs
end

/-! ### reading values -/
def dr (rv : RV) (cs : Cells) : Option D := match rv with
  | .imm d => some d
  | .fr d => some d
  | .cel k => (nth cs k).map (·.2)
/-- frozen -/
def toImm (rv : RV) (cs : Cells) : Option (D × Cells) := match rv with
  | .imm d => some (d, cs)
  | .fr d => some (d, cs)
  | .cel k => match nth cs k with
    | some (.live, d) => some (d, setN cs k (.dead, d))
    | some (.dead, d) => some (d, cs)
    | _ => none
def toImms : List RV → Cells → Option (List D × Cells)
  | [], cs => some ([], cs)
  | rv :: rvs, cs => match toImm rv cs with
    | some (d, cs1) => match toImms rvs cs1 with
      | some (ds, cs2) => some (d :: ds, cs2)
      | none => none
    | none => none
def truth : D → Option Bool
  | .non => some false
  | .bl b => some b
  | .int i => some (i != 0)
  | .str x => if x.length ≤ LINE then some (!x.isEmpty) else none
  | .tup xs => some (!xs.isEmpty)
  | .lst xs => some (!xs.isEmpty)
  | .dic xs => some (!xs.isEmpty)
  | .obj _ => none
def truthR (rv : RV) (cs : Cells) : Option Bool := match dr rv cs with
  | some d => truth d
  | none => none

def partR (rv : RV) (cs : Cells) : Option (Option Int) := match dr rv cs with
  | some (.int i) => some (some i)
  | _ => none

/-! ### operations -/
inductive BO where
  | add | sub | mul | fdiv | mod | pow
inductive CO where
  | eq | ne | lt | le | gt | ge | isin | notin
inductive Ty where
  | int | bool | str | list | tuple
/-- a new container (true) or a plain value -/
abbrev O1 := Option (Bool × D)
def in62 (i : Int) : Bool := decide (-4611686018427387904 ≤ i) && decide (i < 4611686018427387904)
def bnd64 (i : Int) : Bool := decide (-18446744073709551616 < i) && decide (i < 18446744073709551616)
def rep {α : Type} (xs : List α) : Nat → List α
  | 0 => []
  | n + 1 => xs ++ rep xs n
def binop : BO → D → D → O1
  | .add, .int i, .int j => some (false, .int (i + j))
  | .add, .str x, .str y => if x.length + y.length ≤ LINE then some (false, .str (x ++ y)) else none
  | .add, .lst x, .lst y => if x.length + y.length ≤ LINE then some (true, .lst (x ++ y)) else none
  | .add, .tup x, .tup y => if x.length + y.length ≤ LINE then some (false, .tup (x ++ y)) else none
  | .sub, .int i, .int j => some (false, .int (i - j))
  | .mul, .int i, .int j => if bnd64 i || bnd64 j then some (false, .int (i * j)) else none
  | .fdiv, .int i, .int j => if decide (0 < j) && decide (j < 1073741824) then some (false, .int (i / j)) else none
  | .mod, .int i, .int j => if decide (0 < j) then some (false, .int (i % j)) else none
  | .pow, .int i, .int j => if decide (0 ≤ j) && decide (j ≤ 1000000) && decide (i.natAbs < 18446744073709551616) then some (false, .int (i ^ j.toNat)) else none
  | _, _, _ => none
def memD (x : D) : List D → Bool
  | [] => false
  | y :: ys => deq y x || memD x ys
def isSub (x y : List Nat) : Bool := match y with
  | [] => x.isEmpty
  | b :: bs => x.isPrefixOf (b :: bs) || isSub x bs
def cmpop : CO → D → D → Option Bool
  | .eq, a, b => if pl 64 a && pl 64 b then some (deq a b) else none
  | .ne, a, b => if pl 64 a && pl 64 b then some (!deq a b) else none
  | .lt, .int i, .int j => some (decide (i < j))
  | .le, .int i, .int j => some (decide (i ≤ j))
  | .gt, .int i, .int j => some (decide (j < i))
  | .ge, .int i, .int j => some (decide (j ≤ i))
  | .lt, .str x, .str y => some (llt x y)
  | .isin, a, .lst ys => if pl 60 a && pls 60 ys then some (memD a ys) else none
  | .isin, a, .tup ys => if pl 60 a && pls 60 ys then some (memD a ys) else none
  | .notin, a, .lst ys => if pl 60 a && pls 60 ys then some (!memD a ys) else none
  | .notin, a, .tup ys => if pl 60 a && pls 60 ys then some (!memD a ys) else none
  | _, _, _ => none
def isTy : D → Ty → Option Bool
  | .non, _ => some false
  | .bl _, .int => some true
  | .bl _, .bool => some true
  | .bl _, _ => some false
  | .int _, .int => some true
  | .int _, _ => some false
  | .str _, .str => some true
  | .str _, _ => some false
  | .tup _, .tuple => some true
  | .tup _, _ => some false
  | .lst _, .list => some true
  | .lst _, _ => some false
  | .dic _, _ => some false
  | .obj _, _ => none
def isTys (d : D) : List Ty → Option Bool
  | [] => some false
  | t :: ts => match isTy d t with
    | some true => some true
    | some false => isTys d ts
    | none => none
/-- the place meant by an index -/
def ixOf (n : Nat) (i : Int) : Option Nat := if 0 ≤ i then (if i < n then some i.toNat else none) else if -(n : Int) ≤ i then some (i + n).toNat else none
def getIx : D → D → Option D
  | .lst xs, .int i => match ixOf xs.length i with
    | some j => nth xs j
    | none => none
  | .tup xs, .int i => match ixOf xs.length i with
    | some j => nth xs j
    | none => none
  | .str xs, .int i => if xs.length ≤ LINE then (match ixOf xs.length i with
    | some j => (nth xs j).map fun c => .str [c]
    | none => none) else none
  | _, _ => none
def sIx (n d : Nat) : Option Int → Nat
  | none => d
  | some i => if i < 0 then (i + (n : Int)).toNat else min i.toNat n
def cut {α : Type} (xs : List α) (lo hi : Option Int) : List α :=
  let n := xs.length
  let a := sIx n 0 lo
  (xs.drop a).take (sIx n n hi - a)
def slice (d : D) (lo hi : Option Int) : O1 := match d with
  | .lst xs => some (true, .lst (cut xs lo hi))
  | .tup xs => some (false, .tup (cut xs lo hi))
  | .str xs => if xs.length ≤ LINE then some (false, .str (cut xs lo hi)) else none
  | _ => none
def idxOf (x : D) : List D → Nat → Option Nat
  | [], _ => none
  | y :: ys, n => if deq y x then some n else idxOf x ys (n + 1)
/-- the items of what is walked -/
def items : D → Option (List D)
  | .lst xs => some xs
  | .tup xs => some xs
  | .str xs => some (xs.map fun c => .str [c])
  | _ => none

/-! ### order, sorting -/
mutual
def dlt : D → D → Bool
  | .int i, .int j => decide (i < j)
  | .str x, .str y => llt x y
  | .tup xs, .tup ys => dlts xs ys
  | .lst xs, .lst ys => dlts xs ys
  | .bl a, .bl b => !a && b
  | _, _ => false
def dlts : List D → List D → Bool
  | _, [] => false
  | [], _ :: _ => true
  | x :: xs, y :: ys => if deq x y then dlts xs ys else dlt x y
end
def insD (x : D) : List D → List D
  | [] => [x]
  | y :: ys => if dlt y x then y :: insD x ys else x :: y :: ys
/-- from the right: an item goes ahead of its equals, so the order of equals is kept -/
def isort : List D → List D
  | [] => []
  | x :: xs => insD x (isort xs)
mutual
def alk : D → D → Bool
  | .bl _, .bl _ => true
  | .int _, .int _ => true
  | .str _, .str _ => true
  | .tup xs, .tup ys => alks xs ys
  | .lst xs, .lst ys => alks xs ys
  | _, _ => false
def alks : List D → List D → Bool
  | x :: xs, y :: ys => alk x y && alks xs ys
  | _, _ => true
end
def alikes1 (x : D) : List D → Bool
  | [] => true
  | y :: ys => alk x y && alk y x && alikes1 x ys
def alikes : List D → Bool
  | [] => true
  | x :: xs => alk x x && alikes1 x xs && alikes xs
def allTup : List D → Bool
  | [] => true
  | .tup (_ :: _) :: r => allTup r
  | _ => false
def noTup : List D → Bool
  | [] => true
  | .int _ :: r => noTup r
  | .str _ :: r => noTup r
  | .bl _ :: r => noTup r
  | .lst _ :: r => noTup r
  | _ => false
def srtb (ds : List D) : Bool := allTup ds || noTup ds
def allBl : List D → Option Bool
  | [] => some true
  | .bl b :: r => match allBl r with
    | some c => some (b && c)
    | none => none
  | _ => none

inductive BI where
  | len | abs | int | min2 | max2 | tuple | list | sorted | all
def bi : BI → List D → O1
  | .len, [.lst xs] => some (false, .int xs.length)
  | .len, [.tup xs] => some (false, .int xs.length)
  | .len, [.str xs] => if xs.length ≤ LINE then some (false, .int xs.length) else none
  | .abs, [.int i] => some (false, .int (if i < 0 then -i else i))
  | .int, [.int i] => some (false, .int i)
  | .int, [.bl b] => some (false, .int (if b then 1 else 0))
  | .min2, [.int i, .int j] => some (false, .int (if j < i then j else i))
  | .max2, [.int i, .int j] => some (false, .int (if j > i then j else i))
  | .tuple, [.lst xs] => some (false, .tup xs)
  | .tuple, [.tup xs] => some (false, .tup xs)
  | .tuple, [.str xs] => if xs.length ≤ LINE then some (false, .tup (xs.map fun c => .str [c])) else none
  | .list, [.lst xs] => some (true, .lst xs)
  | .list, [.tup xs] => some (true, .lst xs)
  | .sorted, [.lst xs] => if pls 60 xs && alikes xs && srtb xs then some (true, .lst (isort xs)) else none
  | .all, [.lst xs] => match allBl xs with
    | some b => some (false, .bl b)
    | none => none
  | _, _ => none
def drs : List RV → Cells → Option (List D)
  | [], _ => some []
  | rv :: rvs, cs => match dr rv cs with
    | some d => match drs rvs cs with
      | some ds => some (d :: ds)
      | none => none
    | none => none
def out (o : O1) (cs : Cells) : Res RV := match o with
  | some (true, d) => .ok (.fr d) cs
  | some (false, d) => .ok (.imm d) cs
  | none => .stuck

/-! ### targets -/
inductive T where
  | v (i : Nat) | tu (ts : T) | nil | cons (a r : T)
mutual
def bindT : T → D → Slots → Option Slots
  | .v i, d, sl => if i < sl.length then some (setN sl i (some (.imm d))) else none
  | .tu ts, .tup ds, sl => bindTs ts ds sl
  | .tu ts, .lst ds, sl => bindTs ts ds sl
  | _, _, _ => none
def bindTs : T → List D → Slots → Option Slots
  | .nil, [], sl => some sl
  | .cons a r, d :: ds, sl => match bindT a d sl with
    | some sl1 => bindTs r ds sl1
    | none => none
  | _, _, _ => none
end
def wipeS (sl : Slots) : List Nat → Slots
  | [] => sl
  | i :: is => setN (wipeS sl is) i none

/-! ### expressions -/
inductive E where
  | var (i : Nat) | cst (d : D) | glob (d : D)
  | tup (as : E) | lst (as : E) | nil | cons (a r : E)
  | bin (o : BO) (a b : E) | neg (a : E)
  | cmp (o : CO) (a b : E) | chain (o p : CO) (a b c : E) | isN (a : E) | notN (a : E)
  | and (a b : E) | or (a b : E) | not (a : E) | ite (c a b : E)
  | ix (a i : E) | sl (a lo hi : E) | nop
  | isi (ts : List Ty) (a : E)
  | bi (f : BI) (as : E)
  | call (f : Nat) (pm : List Nat) (as : E)
  | app (o a : E) | popi (o i : E) | index (a b : E)
  | lc (own : List Nat) (t : T) (it c e : E)
  | repl (a b : E)
  | it (a : E) | rng1 (a : E) | rng2 (a b : E) | enm (a : E) | zip (a b : E)
def isNop : E → Bool
  | .nop => true
  | _ => false
/-- an argument: a frozen tree, or a container that the callee may change -/
inductive AV where
  | imm (d : D) | ref (st : Stt) (d : D)
inductive Out where
  | ret (b : Bool) (d : D) | exc (x : Exn)
abbrev CallT := Nat → List AV → Option (Out × Cells)
def permute (rvs : List RV) : List Nat → Option (List RV)
  | [] => some []
  | i :: is => match nth rvs i with
    | some rv => match permute rvs is with
      | some r => some (rv :: r)
      | none => none
    | none => none
def lent (rv : RV) (us : List Nat) : Bool := match rv with
  | .cel k => us.contains k
  | _ => false
/-- the arguments by the parameters' modes; the cells that are lent, in order (none: a new container) -/
def prep : List Bool → List RV → Cells → List Nat → Option (List AV × List (Option Nat) × Cells)
  | [], [], cs, _ => some ([], [], cs)
  | false :: ms, rv :: rvs, cs, us => if lent rv us then none else match toImm rv cs with
    | some (d, cs1) => match prep ms rvs cs1 us with
      | some (as, ks, cs2) => some (.imm d :: as, ks, cs2)
      | none => none
    | none => none
  | true :: ms, .imm d :: rvs, cs, us => match prep ms rvs cs us with
    | some (as, ks, cs2) => some (.imm d :: as, ks, cs2)
    | none => none
  | true :: ms, .fr d :: rvs, cs, us => match prep ms rvs cs us with
    | some (as, ks, cs2) => some (.ref .live d :: as, none :: ks, cs2)
    | none => none
  | true :: ms, .cel k :: rvs, cs, us => if us.contains k then none else match nth cs k with
    | some (.dead, d) => match prep ms rvs cs us with
      | some (as, ks, cs2) => some (.imm d :: as, ks, cs2)
      | none => none
    | some (st, d) => match prep ms rvs cs (k :: us) with
      | some (as, ks, cs2) => some (.ref st d :: as, some k :: ks, cs2)
      | none => none
    | none => none
  | _, _, _, _ => none
/-- the lent cells come back -/
def back : List (Option Nat) → Cells → Cells → Option Cells
  | [], [], cs => some cs
  | none :: ks, _ :: bs, cs => back ks bs cs
  | some k :: ks, b :: bs, cs => back ks bs (setN cs k b)
  | _, _, _ => none
def doCall (call : CallT) (modes : Nat → List Bool) (f : Nat) (rvs : List RV) (cs : Cells) : Res RV :=
  match prep (modes f) rvs cs [] with
  | some (as, ks, cs1) => match call f as with
    | some (.ret b d, bs) => match back ks bs cs1 with
      | some cs2 => .ok (if b then .fr d else .imm d) cs2
      | none => .stuck
    | some (.exc x, bs) => match back ks bs cs1 with
      | some cs2 => .err x cs2
      | none => .stuck
    | none => .stuck
  | none => .stuck
/-- a walked container is locked meanwhile -/
def lockC (rv : RV) (cs : Cells) : Cells := match rv with
  | .cel k => match nth cs k with
    | some (.live, d) => setN cs k (.lock, d)
    | _ => cs
  | _ => cs
def unlockC (rv : RV) (cs0 cs : Cells) : Cells := match rv with
  | .cel k => match nth cs0 k, nth cs k with
    | some (.live, _), some (.lock, d) => setN cs k (.live, d)
    | _, _ => cs
  | _ => cs
/-- a cell that is a list -/
def celLst (x : RV) (cs : Cells) : Bool := match x with
  | .cel k => match nth cs k with
    | some (_, .lst _) => true
    | _ => false
  | _ => false
def idxRes (d : D) (xs : List D) (cs : Cells) : Res RV := if pl 60 d && pls 60 xs then (match idxOf d xs 0 with
  | some j => .ok (.imm (.int j)) cs
  | none => .stuck) else .stuck
/-- a list (false) or a tuple (true) that stays as it is -/
def seqOf : RV → Option (Bool × List D)
  | .imm (.lst xs) => some (false, xs)
  | .fr (.lst xs) => some (false, xs)
  | .imm (.tup xs) => some (true, xs)
  | _ => none
def lcLoop (bind : D → Slots → Option Slots) (c : Slots → Cells → Res Bool) (e : Slots → Cells → Res RV) (sl : Slots) : List D → List D → Cells → Res (List D)
  | [], acc, cs => .ok acc.reverse cs
  | x :: xs, acc, cs => match bind x sl with
    | none => .stuck
    | some sl1 => match c sl1 cs with
      | .ok true cs1 => match e sl1 cs1 with
        | .ok rv cs2 => match toImm rv cs2 with
          | some (d, cs3) => lcLoop bind c e sl xs (d :: acc) cs3
          | none => .stuck
        | _ => .stuck
      | .ok false cs1 => lcLoop bind c e sl xs acc cs1
      | _ => .stuck
def rngD (lo : Int) : Nat → List D
  | 0 => []
  | n + 1 => .int lo :: rngD (lo + 1) n
def enums : List D → Int → List D
  | [], _ => []
  | d :: ds, i => .tup [.int i, d] :: enums ds (i + 1)
def zips : List D → List D → List D
  | x :: xs, y :: ys => .tup [x, y] :: zips xs ys
  | _, _ => []
mutual
def ev (call : CallT) (modes : Nat → List Bool) : E → Slots → Cells → Res RV
  | .var i, sl, cs => match nth sl i with
    | some (some rv) => .ok rv cs
    | _ => .stuck
  | .cst d, _, cs => .ok (.imm d) cs
  | .glob d, _, cs => .ok (.imm d) cs
  | .tup as, sl, cs => (evs call modes as sl cs).bind fun rvs cs1 => match toImms rvs cs1 with
    | some (ds, cs2) => if ds.length ≤ LINE then .ok (.imm (.tup ds)) cs2 else .stuck
    | none => .stuck
  | .lst as, sl, cs => (evs call modes as sl cs).bind fun rvs cs1 => match toImms rvs cs1 with
    | some (ds, cs2) => if ds.length ≤ LINE then .ok (.fr (.lst ds)) cs2 else .stuck
    | none => .stuck
  | .bin o a b, sl, cs => (ev call modes a sl cs).bind fun x cs1 => (ev call modes b sl cs1).bind fun y cs2 =>
    match dr x cs2, dr y cs2 with
    | some dx, some dy => out (binop o dx dy) cs2
    | _, _ => .stuck
  | .neg a, sl, cs => (ev call modes a sl cs).bind fun x cs1 => match dr x cs1 with
    | some (.int i) => .ok (.imm (.int (-i))) cs1
    | _ => .stuck
  | .cmp o a b, sl, cs => (ev call modes a sl cs).bind fun x cs1 => (ev call modes b sl cs1).bind fun y cs2 =>
    match dr x cs2, dr y cs2 with
    | some dx, some dy => match cmpop o dx dy with
      | some k => .ok (.imm (.bl k)) cs2
      | none => .stuck
    | _, _ => .stuck
  | .chain o p a b c, sl, cs => (ev call modes a sl cs).bind fun x cs1 => (ev call modes b sl cs1).bind fun y cs2 =>
    match dr x cs2, dr y cs2 with
    | some dx, some dy => match cmpop o dx dy with
      | some true => (ev call modes c sl cs2).bind fun z cs3 => match dr y cs3, dr z cs3 with
        | some dy', some dz => match cmpop p dy' dz with
          | some k => .ok (.imm (.bl k)) cs3
          | none => .stuck
        | _, _ => .stuck
      | some false => .ok (.imm (.bl false)) cs2
      | none => .stuck
    | _, _ => .stuck
  | .isN a, sl, cs => (ev call modes a sl cs).bind fun x cs1 => match dr x cs1 with
    | some .non => .ok (.imm (.bl true)) cs1
    | some _ => .ok (.imm (.bl false)) cs1
    | none => .stuck
  | .notN a, sl, cs => (ev call modes a sl cs).bind fun x cs1 => match dr x cs1 with
    | some .non => .ok (.imm (.bl false)) cs1
    | some _ => .ok (.imm (.bl true)) cs1
    | none => .stuck
  | .and a b, sl, cs => (ev call modes a sl cs).bind fun x cs1 => match truthR x cs1 with
    | some true => ev call modes b sl cs1
    | some false => .ok x cs1
    | none => .stuck
  | .or a b, sl, cs => (ev call modes a sl cs).bind fun x cs1 => match truthR x cs1 with
    | some true => .ok x cs1
    | some false => ev call modes b sl cs1
    | none => .stuck
  | .not a, sl, cs => (ev call modes a sl cs).bind fun x cs1 => match truthR x cs1 with
    | some k => .ok (.imm (.bl (!k))) cs1
    | none => .stuck
  | .ite c a b, sl, cs => (ev call modes c sl cs).bind fun x cs1 => match truthR x cs1 with
    | some true => ev call modes a sl cs1
    | some false => ev call modes b sl cs1
    | none => .stuck
  | .ix a b, sl, cs => (ev call modes a sl cs).bind fun x cs1 => (ev call modes b sl cs1).bind fun y cs2 =>
    match dr x cs2, dr y cs2 with
    | some dx, some dy => match getIx dx dy with
      | some d => .ok (.imm d) cs2
      | none => .stuck
    | _, _ => .stuck
  | .sl a lo hi, sl, cs => (ev call modes a sl cs).bind fun x cs1 =>
    (if isNop lo then Res.ok none cs1 else (ev call modes lo sl cs1).bind fun l cs2 => Res.opt (partR l cs2) cs2).bind fun l cs2 =>
    (if isNop hi then Res.ok none cs2 else (ev call modes hi sl cs2).bind fun h cs3 => Res.opt (partR h cs3) cs3).bind fun h cs3 =>
    match dr x cs3 with
    | some dx => out (slice dx l h) cs3
    | none => .stuck
  | .nop, _, cs => .ok (.imm .non) cs
  | .repl a b, sl, cs => (ev call modes a sl cs).bind fun x cs1 => (ev call modes b sl cs1).bind fun y cs2 =>
    match x, dr y cs2 with
    | .fr (.lst ds), some (.int j) => if decide (-9223372036854775808 ≤ j) && decide (j < 9223372036854775808) && decide (ds.length * j.toNat ≤ LINE) then .ok (.fr (.lst (rep ds j.toNat))) cs2 else .stuck
    | _, _ => .stuck
  | .isi ts a, sl, cs => (ev call modes a sl cs).bind fun x cs1 => match dr x cs1 with
    | some d => match isTys d ts with
      | some k => .ok (.imm (.bl k)) cs1
      | none => .stuck
    | none => .stuck
  | .bi f as, sl, cs => (evs call modes as sl cs).bind fun rvs cs1 => match drs rvs cs1 with
    | some ds => out (bi f ds) cs1
    | none => .stuck
  | .call f pm as, sl, cs => (evs call modes as sl cs).bind fun rvs cs1 => match permute rvs pm with
    | some rvs' => doCall call modes f rvs' cs1
    | none => .stuck
  | .app o a, sl, cs => (ev call modes o sl cs).bind fun x cs1 => if !celLst x cs1 then .stuck else (ev call modes a sl cs1).bind fun y cs2 =>
    match toImm y cs2 with
    | some (d, cs3) => match x with
      | .cel k => match nth cs3 k with
        | some (.live, .lst ds) => if ds.length < LINE then .ok (.imm .non) (setN cs3 k (.live, .lst (ds ++ [d]))) else .stuck
        | _ => .stuck
      | _ => .stuck
    | none => .stuck
  | .popi o a, sl, cs => (ev call modes o sl cs).bind fun x cs1 => if !celLst x cs1 then .stuck else (ev call modes a sl cs1).bind fun y cs2 =>
    match x, dr y cs2 with
    | .cel k, some (.int i) => match nth cs2 k with
      | some (.live, .lst ds) => if in62 i then (match ixOf ds.length i with
        | some j => match nth ds j with
          | some d => .ok (.imm d) (setN cs2 k (.live, .lst (ds.eraseIdx j)))
          | none => .stuck
        | none => .stuck) else .stuck
      | _ => .stuck
    | _, _ => .stuck
  | .index a b, sl, cs => (ev call modes a sl cs).bind fun x cs1 => match dr x cs1 with
    | some (.tup xs) => (ev call modes b sl cs1).bind fun y cs2 => match dr y cs2 with
      | some d => idxRes d xs cs2
      | none => .stuck
    | some (.lst _) => (ev call modes b sl cs1).bind fun y cs2 => match dr x cs2, dr y cs2 with
      | some (.lst xs), some d => idxRes d xs cs2
      | _, _ => .stuck
    | _ => .stuck
  | .lc own t it c e, sl, cs => (evIt call modes it sl cs).bind fun p cs1 => if p.2.length ≤ LINE then
    (match lcLoop (bindT t) (fun sl1 cs2 => if isNop c then .ok true cs2 else (ev call modes c sl1 cs2).bind fun x cs3 => Res.opt (truthR x cs3) cs3) (fun sl1 cs2 => ev call modes e sl1 cs2) (wipeS sl own) p.2 [] (lockC p.1 cs1) with
    | .ok ds' cs2 => .ok (.fr (.lst ds')) (unlockC p.1 cs1 cs2)
    | _ => .stuck) else .stuck
  | _, _, _ => .stuck
def evs (call : CallT) (modes : Nat → List Bool) : E → Slots → Cells → Res (List RV)
  | .nil, _, cs => .ok [] cs
  | .cons a r, sl, cs => (ev call modes a sl cs).bind fun x cs1 => (evs call modes r sl cs1).bind fun xs cs2 => .ok (x :: xs) cs2
  | _, _, _ => .stuck
def evIt (call : CallT) (modes : Nat → List Bool) : E → Slots → Cells → Res (RV × List D)
  | .rng1 a, sl, cs => (ev call modes a sl cs).bind fun x cs1 => match dr x cs1 with
    | some (.int j) => if in62 j then .ok (.imm .non, rngD 0 j.toNat) cs1 else .stuck
    | _ => .stuck
  | .rng2 a b, sl, cs => (ev call modes a sl cs).bind fun x cs1 => (ev call modes b sl cs1).bind fun y cs2 => match dr x cs2, dr y cs2 with
    | some (.int i), some (.int j) => if in62 i && in62 j then .ok (.imm .non, rngD i (j - i).toNat) cs2 else .stuck
    | _, _ => .stuck
  | .enm a, sl, cs => (ev call modes a sl cs).bind fun x cs1 => match dr x cs1 with
    | some (.lst ds) => .ok (x, enums ds 0) cs1
    | _ => .stuck
  | .zip a b, sl, cs => (ev call modes a sl cs).bind fun x cs1 => (ev call modes b sl cs1).bind fun y cs2 => match seqOf x, seqOf y with
    | some (true, xs), some (true, ys) => .ok (.imm .non, zips xs ys) cs2
    | some (false, xs), some (false, ys) => .ok (.imm .non, zips xs ys) cs2
    | _, _ => .stuck
  | .it e, sl, cs => (ev call modes e sl cs).bind fun x cs1 => match dr x cs1 with
    | some d => match items d with
      | some ds => .ok (x, ds) cs1
      | none => .stuck
    | none => .stuck
  | _, _, _ => .stuck
end

/-! ### statements -/
inductive S where
  | skip | seq (a b : S) | expr (e : E) | setv (i : Nat) (e : E) | unp (t : T) (e : E) | par (is : List Nat) (es : E)
  | seti (o i e : E) | ret (e : E) | retN | ite (c : E) (a b : S) | loop (t : T) (it : E) (b : S) | whil (n : Nat) (c : E) (b : S)
  | brk | cont | never
inductive Fl where
  | next | brk | cont | ret (rv : RV)
inductive RS where
  | stuck | ok (f : Fl) (sl : Slots) (cs : Cells) | err (x : Exn) (sl : Slots) (cs : Cells)
/-- a value goes to a slot -/
def store (i : Nat) (rv : RV) (sl : Slots) (cs : Cells) : Option (Slots × Cells) := if i < sl.length then (match rv with
  | .fr d => some (setN sl i (some (.cel cs.length)), cs ++ [(.live, d)])
  | rv => some (setN sl i (some rv), cs)) else none
def stores : List Nat → List RV → Slots → Cells → Option (Slots × Cells)
  | [], [], sl, cs => some (sl, cs)
  | i :: is, rv :: rvs, sl, cs => match store i rv sl cs with
    | some (sl1, cs1) => stores is rvs sl1 cs1
    | none => none
  | _, _, _, _ => none
def forLoop (bind : D → Slots → Option Slots) (b : Slots → Cells → RS) : List D → Slots → Cells → RS
  | [], sl, cs => .ok .next sl cs
  | x :: xs, sl, cs => match bind x sl with
    | none => .stuck
    | some sl1 => match b sl1 cs with
      | .ok .next sl2 cs2 => forLoop bind b xs sl2 cs2
      | .ok .cont sl2 cs2 => forLoop bind b xs sl2 cs2
      | .ok .brk sl2 cs2 => .ok .next sl2 cs2
      | r => r
def whileLoop (c : Slots → Cells → Res RV) (b : Slots → Cells → RS) : Nat → Slots → Cells → RS
  | 0, _, _ => .stuck
  | n + 1, sl, cs => match c sl cs with
    | .ok x cs1 => match truthR x cs1 with
      | some false => .ok .next sl cs1
      | some true => match b sl cs1 with
        | .ok .next sl2 cs2 => whileLoop c b n sl2 cs2
        | .ok .cont sl2 cs2 => whileLoop c b n sl2 cs2
        | .ok .brk sl2 cs2 => .ok .next sl2 cs2
        | r => r
      | none => .stuck
    | .err x cs1 => .err x sl cs1
    | .stuck => .stuck
def RS.unlock (rv : RV) (cs0 : Cells) : RS → RS
  | .ok f sl cs => .ok f sl (unlockC rv cs0 cs)
  | .err x sl cs => .err x sl (unlockC rv cs0 cs)
  | .stuck => .stuck
def Res.st {α : Type} (r : Res α) (sl : Slots) (f : α → Cells → RS) : RS := match r with
  | .ok a cs => f a cs
  | .err x cs => .err x sl cs
  | .stuck => .stuck
def ex (call : CallT) (modes : Nat → List Bool) : S → Slots → Cells → RS
  | .skip, sl, cs => .ok .next sl cs
  | .seq a b, sl, cs => match ex call modes a sl cs with
    | .ok .next sl1 cs1 => ex call modes b sl1 cs1
    | r => r
  | .expr e, sl, cs => (ev call modes e sl cs).st sl fun _ cs1 => .ok .next sl cs1
  | .setv i e, sl, cs => (ev call modes e sl cs).st sl fun rv cs1 => match store i rv sl cs1 with
    | some (sl1, cs2) => .ok .next sl1 cs2
    | none => .stuck
  | .unp t e, sl, cs => (ev call modes e sl cs).st sl fun rv cs1 => match dr rv cs1 with
    | some d => match bindT t d sl with
      | some sl1 => .ok .next sl1 cs1
      | none => .stuck
    | none => .stuck
  | .par is es, sl, cs => (evs call modes es sl cs).st sl fun rvs cs1 => match stores is rvs sl cs1 with
    | some (sl1, cs2) => .ok .next sl1 cs2
    | none => .stuck
  | .seti o i e, sl, cs => (ev call modes e sl cs).st sl fun v cs1 => (ev call modes o sl cs1).st sl fun x cs2 => (ev call modes i sl cs2).st sl fun y cs3 =>
    match toImm v cs3 with
    | some (d, cs4) => match x, dr y cs4 with
      | .cel k, some (.int n) => match nth cs4 k with
        | some (.live, .lst ds) => match ixOf ds.length n with
          | some j => .ok .next sl (setN cs4 k (.live, .lst (setN ds j d)))
          | none => .stuck
        | _ => .stuck
      | _, _ => .stuck
    | none => .stuck
  | .ret e, sl, cs => (ev call modes e sl cs).st sl fun rv cs1 => .ok (.ret rv) sl cs1
  | .retN, sl, cs => .ok (.ret (.imm .non)) sl cs
  | .ite c a b, sl, cs => (ev call modes c sl cs).st sl fun x cs1 => match truthR x cs1 with
    | some true => ex call modes a sl cs1
    | some false => ex call modes b sl cs1
    | none => .stuck
  | .loop t it b, sl, cs => (evIt call modes it sl cs).st sl fun p cs1 =>
    (forLoop (bindT t) (fun sl1 cs2 => ex call modes b sl1 cs2) p.2 sl (lockC p.1 cs1)).unlock p.1 cs1
  | .whil n c b, sl, cs => whileLoop (fun sl1 cs1 => ev call modes c sl1 cs1) (fun sl1 cs1 => ex call modes b sl1 cs1) n sl cs
  | .brk, sl, cs => .ok .brk sl cs
  | .cont, sl, cs => .ok .cont sl cs
  | .never, _, _ => .stuck

/-! ### functions -/
structure Fn where
  modes : List Bool
  ns : Nat
  body : S
def mkArgs : List AV → Nat → Slots × Cells
  | [], _ => ([], [])
  | .imm d :: as, k => ((some (.imm d)) :: (mkArgs as k).1, (mkArgs as k).2)
  | .ref st d :: as, k => ((some (.cel k)) :: (mkArgs as (k + 1)).1, (st, d) :: (mkArgs as (k + 1)).2)
def nones : Nat → Slots
  | 0 => []
  | n + 1 => none :: nones n
/-- what is handed back; the first m cells were lent -/
def fin (rv : RV) (cs : Cells) (m : Nat) : Option (Out × Cells) := match rv with
  | .imm d => some (.ret false d, cs.take m)
  | .fr d => some (.ret true d, cs.take m)
  | .cel k => match nth cs k with
    | some (.dead, d) => some (.ret false d, cs.take m)
    | some (.live, d) => if k < m then some (.ret false d, (setN cs k (.dead, d)).take m) else some (.ret true d, cs.take m)
    | _ => none
def runF (call : CallT) (modes : Nat → List Bool) (fn : Fn) (as : List AV) : Option (Out × Cells) :=
  if as.length = fn.modes.length then
    match mkArgs as 0 with
    | (sl, cs) => match ex call modes fn.body (sl ++ nones (fn.ns - as.length)) cs with
      | .ok (.ret rv) _ cs1 => fin rv cs1 cs.length
      | .ok .next _ cs1 => some (.ret false .non, cs1.take cs.length)
      | .err x _ cs1 => some (.exc x, cs1.take cs.length)
      | _ => none
  else none
def run (fs : List Fn) : Nat → CallT
  | 0, _, _ => none
  | n + 1, f, as => match nth fs f with
    | some fn => runF (run fs n) (fun g => match nth fs g with | some fn => fn.modes | none => []) fn as
    | none => none
end Mini

namespace Mini
open PySem PySem.Spec PyProof.Rows L2

theorem nth_eq {α : Type} : ∀ (l : List α) (i : Nat), nth l i = l[i]?
  | [], _ => rfl
  | _ :: _, 0 => rfl
  | _ :: l, i + 1 => by show nth l i = _; rw [nth_eq l i]; rfl
theorem setN_eq {α : Type} : ∀ (l : List α) (i : Nat) (x : α), setN l i x = l.set i x
  | [], _, _ => rfl
  | _ :: _, 0, _ => rfl
  | a :: l, i + 1, x => by show a :: setN l i x = _; rw [setN_eq l i x]; rfl
theorem leq_iff : ∀ (x y : List Nat), leq x y = true ↔ x = y
  | [], [] => by simp [leq]
  | [], _ :: _ => by simp [leq]
  | _ :: _, [] => by simp [leq]
  | x :: xs, y :: ys => by simp [leq, leq_iff xs ys]

/-! ### data in the heap -/
/-- a list of the written part -/
def KLst (K : PySem.W.Frag) (a : Addr) (xs : List V) : Prop := ∃ (o : Obj) (its : Array Value) (n : Nat), K.lookup a = some o ∧ o.cls = .type "list" ∧ o.dict = none ∧ o.data = .seq its n ∧ its.size ≤ sizeLine ∧ Vals xs its.toList
/-- a tuple that is known to have no dict of its own -/
def PTup (K : PySem.W.Frag) (H : Hp) (a : Addr) (xs : List V) : Prop :=
  (∃ o, H a = some (.frz o (.tup xs)) ∧ o.dict = none) ∨
    ∃ (o : Obj) (its : Array Value) (n : Nat), K.lookup a = some o ∧ o.cls = .type "tuple" ∧ o.dict = none ∧ o.data = .seq its n ∧ its.size ≤ sizeLine ∧ Vals xs its.toList
theorem PTup.sq {K : PySem.W.Frag} {H : Hp} {a : Addr} {xs : List V} (h : PTup K H a xs) : SqT K H a xs := by
  rcases h with ⟨o, h, _⟩ | ⟨o, its, n, h1, h2, _, h3, h4, h5⟩
  · exact .inl (.inr ⟨o, h⟩)
  · exact .inr ⟨o, its, n, h1, h2, h3, h4, h5⟩
mutual
/-- v is the tree d, for good: its lists stand in Z -/
inductive Dn (K : PySem.W.Frag) (Z : Addr → Prop) (H : Hp) : V → D → Prop
  | non : Dn K Z H .non .non
  | bl (b : Bool) : Dn K Z H (.bl b) (.bl b)
  | int (i : Int) : Dn K Z H (.int i) (.int i)
  | str (x : Str) : Dn K Z H (.str x) (.str x.cps.toList)
  | tup {a : Addr} {xs : List V} {ds : List D} : PTup K H a xs → Dns K Z H xs ds → Dn K Z H (.ref a) (.tup ds)
  | lst {a : Addr} {xs : List V} {ds : List D} : Z a → Rd H a (.lst xs) → Dns K Z H xs ds → Dn K Z H (.ref a) (.lst ds)
  | lstK {a : Addr} {xs : List V} {ds : List D} : KLst K a xs → Dns K Z H xs ds → Dn K Z H (.ref a) (.lst ds)
inductive Dns (K : PySem.W.Frag) (Z : Addr → Prop) (H : Hp) : List V → List D → Prop
  | nil : Dns K Z H [] []
  | cons {v : V} {vs : List V} {d : D} {ds : List D} : Dn K Z H v d → Dns K Z H vs ds → Dns K Z H (v :: vs) (d :: ds)
end
def tupO : HO → Prop
  | .tup _ => True
  | .frz _ (.tup _) => True
  | _ => False
/-- what trees lean on is kept -/
def Keep (Z : Addr → Prop) (H H' : Hp) : Prop := ∀ b o, H b = some o → (Z b ∨ tupO o) → H' b = some o
theorem pTup_keep {K : PySem.W.Frag} {Z : Addr → Prop} {H H' : Hp} {a : Addr} {xs : List V} (k : Keep Z H H') (h : PTup K H a xs) : PTup K H' a xs := by
  rcases h with ⟨o, h, e⟩ | h
  · exact .inl ⟨o, k _ _ h (.inr trivial), e⟩
  · exact .inr h
theorem rd_keep {Z : Addr → Prop} {H H' : Hp} {a : Addr} {u : HO} (k : Keep Z H H') (z : Z a) (h : Rd H a u) : Rd H' a u := by
  rcases h with h | ⟨o, h⟩
  · exact .inl (k _ _ h (.inl z))
  · exact .inr ⟨o, k _ _ h (.inl z)⟩
section
variable {K : PySem.W.Frag} {Z Z' : Addr → Prop} {H H' : Hp}
mutual
theorem Dn.keep (k : Keep Z H H') (zs : ∀ a, Z a → Z' a) : ∀ (d : D) (v : V), Dn K Z H v d → Dn K Z' H' v d
  | .non, _, h => by cases h; exact .non
  | .bl b, _, h => by cases h; exact .bl b
  | .int i, _, h => by cases h; exact .int i
  | .str x, _, h => by cases h; exact .str _
  | .tup ds, _, h => by
    cases h with
    | tup q r => exact .tup (pTup_keep k q) (Dns.keep k zs ds _ r)
  | .lst ds, _, h => by
    cases h with
    | lst z q r => exact .lst (zs _ z) (rd_keep k z q) (Dns.keep k zs ds _ r)
    | lstK q r => exact .lstK q (Dns.keep k zs ds _ r)
  | .dic _, _, h => by cases h
  | .obj _, _, h => by cases h
theorem Dns.keep (k : Keep Z H H') (zs : ∀ a, Z a → Z' a) : ∀ (ds : List D) (vs : List V), Dns K Z H vs ds → Dns K Z' H' vs ds
  | [], _, h => by cases h; exact .nil
  | d :: ds, _, h => by
    cases h with
    | cons a b => exact .cons (Dn.keep k zs d _ a) (Dns.keep k zs ds _ b)
end
end
section
variable {K : PySem.W.Frag} {Z : Addr → Prop} {H : Hp}
theorem Dns.length : ∀ {vs : List V} {ds : List D}, Dns K Z H vs ds → vs.length = ds.length
  | _, _, .nil => rfl
  | _, _, .cons _ r => by simp [Dns.length r]
theorem Dns.get : ∀ {vs : List V} {ds : List D} {i : Nat} {d : D}, Dns K Z H vs ds → ds[i]? = some d → ∃ v, vs[i]? = some v ∧ Dn K Z H v d
  | _, _, _, _, .nil, e => by simp at e
  | _, _, 0, _, .cons a _, e => by simp at e; subst e; exact ⟨_, rfl, a⟩
  | _, _, i + 1, d, .cons _ r, e => by
    obtain ⟨v, h1, h2⟩ := Dns.get (i := i) (d := d) r (by simpa using e)
    exact ⟨v, by simpa using h1, h2⟩
theorem Dns.get' : ∀ {vs : List V} {ds : List D} {i : Nat} {v : V}, Dns K Z H vs ds → vs[i]? = some v → ∃ d, ds[i]? = some d ∧ Dn K Z H v d
  | _, _, _, _, .nil, e => by simp at e
  | _, _, 0, _, .cons a _, e => by simp at e; subst e; exact ⟨_, rfl, a⟩
  | _, _, i + 1, v, .cons _ r, e => by
    obtain ⟨d, h1, h2⟩ := Dns.get' (i := i) (v := v) r (by simpa using e)
    exact ⟨d, by simpa using h1, h2⟩
theorem Dns.append : ∀ {vs ws : List V} {ds es : List D}, Dns K Z H vs ds → Dns K Z H ws es → Dns K Z H (vs ++ ws) (ds ++ es)
  | _, _, _, _, .nil, s => s
  | _, _, _, _, .cons a r, s => .cons a (Dns.append r s)
theorem Dns.take : ∀ {vs : List V} {ds : List D} (n : Nat), Dns K Z H vs ds → Dns K Z H (vs.take n) (ds.take n)
  | _, _, 0, _ => .nil
  | _, _, _ + 1, .nil => .nil
  | _, _, n + 1, .cons a r => .cons a (Dns.take n r)
theorem Dns.drop : ∀ {vs : List V} {ds : List D} (n : Nat), Dns K Z H vs ds → Dns K Z H (vs.drop n) (ds.drop n)
  | _, _, 0, h => h
  | _, _, _ + 1, .nil => .nil
  | _, _, n + 1, .cons _ r => Dns.drop n r
theorem Dns.set : ∀ {vs : List V} {ds : List D} {v : V} {d : D} (n : Nat), Dns K Z H vs ds → Dn K Z H v d → Dns K Z H (vs.set n v) (ds.set n d)
  | _, _, _, _, _, .nil, _ => .nil
  | _, _, _, _, 0, .cons _ r, h => .cons h r
  | _, _, _, _, n + 1, .cons a r, h => .cons a (Dns.set n r h)
theorem Dns.eraseIdx : ∀ {vs : List V} {ds : List D} (n : Nat), Dns K Z H vs ds → Dns K Z H (vs.eraseIdx n) (ds.eraseIdx n)
  | _, _, _, .nil => .nil
  | _, _, 0, .cons _ r => r
  | _, _, n + 1, .cons a r => .cons a (Dns.eraseIdx n r)
theorem Dns.one {v : V} {d : D} (h : Dn K Z H v d) : Dns K Z H [v] [d] := .cons h .nil
end
/-- a container that may change: its items are trees for good -/
def Cont (K : PySem.W.Frag) (Z : Addr → Prop) (H : Hp) (a : Addr) : D → Prop
  | .lst ds => ∃ xs, H a = some (.lst xs) ∧ Dns K Z H xs ds
  | _ => False
/-- v is d now -/
def Rdn (K : PySem.W.Frag) (Z : Addr → Prop) (H : Hp) (v : V) (d : D) : Prop := Dn K Z H v d ∨ ∃ a, v = .ref a ∧ Cont K Z H a d
section
variable {K : PySem.W.Frag} {Z Z' : Addr → Prop} {H H' : Hp} {v : V}
theorem Rdn.non (h : Rdn K Z H v .non) : v = .non := by
  rcases h with h | ⟨a, _, h⟩
  · cases h; rfl
  · exact h.elim
theorem Rdn.bl {b : Bool} (h : Rdn K Z H v (.bl b)) : v = .bl b := by
  rcases h with h | ⟨a, _, h⟩
  · cases h; rfl
  · exact h.elim
theorem Rdn.int {i : Int} (h : Rdn K Z H v (.int i)) : v = .int i := by
  rcases h with h | ⟨a, _, h⟩
  · cases h; rfl
  · exact h.elim
theorem Rdn.str {x : List Nat} (h : Rdn K Z H v (.str x)) : ∃ z : Str, v = .str z ∧ z.cps.toList = x := by
  rcases h with h | ⟨a, _, h⟩
  · cases h; exact ⟨_, rfl, rfl⟩
  · exact h.elim
theorem Rdn.tup {ds : List D} (h : Rdn K Z H v (.tup ds)) : ∃ a xs, v = .ref a ∧ PTup K H a xs ∧ Dns K Z H xs ds := by
  rcases h with h | ⟨a, _, h⟩
  · cases h with
    | tup q r => exact ⟨_, _, rfl, q, r⟩
  · exact h.elim
theorem Rdn.lst {ds : List D} (h : Rdn K Z H v (.lst ds)) : ∃ a xs, v = .ref a ∧ SqL K H a xs ∧ Dns K Z H xs ds := by
  rcases h with h | ⟨a, e, xs, h, r⟩
  · cases h with
    | lst z q r => exact ⟨_, _, rfl, .inl q, r⟩
    | lstK q r => exact ⟨_, _, rfl, .inr q, r⟩
  · exact ⟨_, _, e, SqL.of h, r⟩
theorem Rdn.nodic {kvs : List (D × D)} (h : Rdn K Z H v (.dic kvs)) : False := by
  rcases h with h | ⟨a, _, h⟩
  · cases h
  · exact h
theorem Rdn.noobj {k : Nat} (h : Rdn K Z H v (.obj k)) : False := by
  rcases h with h | ⟨a, _, h⟩
  · cases h
  · exact h
theorem Cont.keep {a : Addr} {d : D} (k : Keep Z H H') (zs : ∀ a, Z a → Z' a) (e : H' a = H a) (h : Cont K Z H a d) : Cont K Z' H' a d := by
  cases d with
  | lst ds =>
    obtain ⟨xs, h1, h2⟩ := h
    exact ⟨xs, e.trans h1, Dns.keep k zs _ _ h2⟩
  | _ => exact h.elim
theorem Cont.there {a : Addr} {d : D} (h : Cont K Z H a d) : ∃ o, H a = some o ∧ ¬ tupO o := by
  cases d with
  | lst ds =>
    obtain ⟨xs, h1, h2⟩ := h
    exact ⟨_, h1, fun z => z⟩
  | _ => exact h.elim
theorem Cont.dn {a : Addr} {d : D} (z : Z a) (h : Cont K Z H a d) : Dn K Z H (.ref a) d := by
  cases d with
  | lst ds =>
    obtain ⟨xs, h1, h2⟩ := h
    exact .lst z (.inl h1) h2
  | _ => exact h.elim
end

/-! ### the evaluator's state in the heap -/
structure G where
  Z : Addr → Prop
  as : List Addr
  cs : Cells
  H : Hp
def Live (g : G) (b : Addr) : Prop := ∃ (k : Nat) (d : D), g.as[k]? = some b ∧ g.cs[k]? = some (Stt.live, d)
structure Ext (g g' : G) : Prop where
  zsub : ∀ a, g.Z a → g'.Z a
  zold : ∀ a, g'.Z a → g.Z a ∨ Live g a ∨ g.H a = none
  pre : ∃ new, g'.as = g.as ++ new ∧ ∀ a ∈ new, g.H a = none
  dom : ∀ b o, g.H b = some o → ∃ o', g'.H b = some o'
  frame : ∀ b o, g.H b = some o → ¬ Live g b → g'.H b = some o
  live : ∀ b, Live g' b → Live g b ∨ g.H b = none
theorem Ext.refl (g : G) : Ext g g := ⟨fun _ h => h, fun _ h => .inl h, ⟨[], by simp, by simp⟩, fun _ o h => ⟨o, h⟩, fun _ _ h _ => h, fun _ h => .inl h⟩
theorem Ext.none {g g' : G} (e : Ext g g') {a : Addr} (h : g'.H a = none) : g.H a = none := by
  cases q : g.H a with
  | none => rfl
  | some o => obtain ⟨o', z⟩ := e.dom a o q; rw [h] at z; cases z
theorem Ext.trans {g1 g2 g3 : G} (a : Ext g1 g2) (b : Ext g2 g3) : Ext g1 g3 where
  zsub := fun x h => b.zsub x (a.zsub x h)
  zold := fun x h => by
    rcases b.zold x h with h | h | h
    · exact a.zold x h
    · exact .inr (a.live x h)
    · exact .inr (.inr (a.none h))
  pre := by
    obtain ⟨n1, e1, h1⟩ := a.pre
    obtain ⟨n2, e2, h2⟩ := b.pre
    refine ⟨n1 ++ n2, by rw [e2, e1, List.append_assoc], fun x hx => ?_⟩
    rcases List.mem_append.mp hx with h | h
    · exact h1 x h
    · exact a.none (h2 x h)
  dom := fun x o h => by
    obtain ⟨o', h⟩ := a.dom x o h
    exact b.dom x o' h
  frame := fun x o h n => b.frame x o (a.frame x o h n) fun l => by
    rcases a.live x l with l | l
    · exact n l
    · rw [l] at h; cases h
  live := fun x h => by
    rcases b.live x h with h | h
    · exact a.live x h
    · exact .inr (a.none h)
/-- a value of the evaluator in the heap; H0: what stood ahead of a new container -/
def RvRel (K : PySem.W.Frag) (H0 : Hp) (g : G) (v : V) : RV → Prop
  | .imm d => Dn K g.Z g.H v d
  | .cel k => ∃ a, g.as[k]? = some a ∧ v = .ref a
  | .fr d => ∃ a, v = .ref a ∧ Cont K g.Z g.H a d ∧ ¬ g.Z a ∧ a ∉ g.as ∧ H0 a = none
def SlotV (K : PySem.W.Frag) (g : G) (v : V) : RV → Prop
  | .imm d => Dn K g.Z g.H v d
  | .cel k => ∃ a, g.as[k]? = some a ∧ v = .ref a
  | .fr _ => False
structure SRel (K : PySem.W.Frag) (σ : L2.St) (sl : Slots) (g : G) : Prop where
  len : σ.length = sl.length
  slot : ∀ (i : Nat) (rv : RV), sl[i]? = some (some rv) → ∃ v, σ[i]? = some (some v) ∧ SlotV K g v rv
  clen : g.as.length = g.cs.length
  nd : g.as.Nodup
  cell : ∀ (k : Nat) (a : Addr) (st : Stt) (d : D), g.as[k]? = some a → g.cs[k]? = some (st, d) → Cont K g.Z g.H a d ∧ (st = .dead → g.Z a) ∧ (st ≠ .dead → ¬ g.Z a)
  zdom : ∀ a, g.Z a → ∃ o, g.H a = some o
section
variable {K : PySem.W.Frag} {σ : L2.St} {sl : Slots} {g g' : G} {H0 : Hp} {v : V} {rv : RV}
theorem SRel.live_noZ (s : SRel K σ sl g) {a : Addr} (l : Live g a) : ¬ g.Z a := by
  obtain ⟨k, d, h1, h2⟩ := l
  exact (s.cell k a _ d h1 h2).2.2 (by intro z; cases z)
theorem SRel.live_there (s : SRel K σ sl g) {a : Addr} (l : Live g a) : ∃ o, g.H a = some o ∧ ¬ tupO o := by
  obtain ⟨k, d, h1, h2⟩ := l
  exact (s.cell k a _ d h1 h2).1.there
theorem SRel.keep (s : SRel K σ sl g) (e : Ext g g') : Keep g.Z g.H g'.H := fun b o h z => e.frame b o h fun l => by
  rcases z with z | z
  · exact s.live_noZ l z
  · obtain ⟨o', h', n⟩ := s.live_there l
    rw [h] at h'; cases h'; exact n z
theorem SRel.dn (s : SRel K σ sl g) (e : Ext g g') {d : D} (h : Dn K g.Z g.H v d) : Dn K g'.Z g'.H v d := Dn.keep (s.keep e) e.zsub d v h
theorem SRel.dns (s : SRel K σ sl g) (e : Ext g g') {ds : List D} {vs : List V} (h : Dns K g.Z g.H vs ds) : Dns K g'.Z g'.H vs ds := Dns.keep (s.keep e) e.zsub ds vs h
theorem as_get (e : Ext g g') {k : Nat} {a : Addr} (h : g.as[k]? = some a) : g'.as[k]? = some a := by
  obtain ⟨n, e1, _⟩ := e.pre
  rw [e1, List.getElem?_append_left (List.getElem?_eq_some_iff.mp h).1]; exact h
theorem not_live_of_notin {a : Addr} (h : a ∉ g.as) : ¬ Live g a := fun ⟨k, d, h1, _⟩ => h (List.mem_of_getElem? h1)
/-- carried over -/
theorem SRel.rvx (s : SRel K σ sl g) (e : Ext g g') (h : RvRel K H0 g v rv) : RvRel K H0 g' v rv := by
  cases rv with
  | imm d => exact s.dn e h
  | cel k => obtain ⟨a, h1, h2⟩ := h; exact ⟨a, as_get e h1, h2⟩
  | fr d =>
    obtain ⟨a, h1, h2, h3, h4, h5⟩ := h
    obtain ⟨o, h6, _⟩ := h2.there
    have h7 := e.frame a o h6 (not_live_of_notin h4)
    refine ⟨a, h1, h2.keep (s.keep e) e.zsub (h7.trans h6.symm), fun z => ?_, fun z => ?_, h5⟩
    · rcases e.zold a z with z | z | z
      · exact h3 z
      · exact not_live_of_notin h4 z
      · rw [h6] at z; cases z
    · obtain ⟨n, e1, e2⟩ := e.pre
      rw [e1] at z
      rcases List.mem_append.mp z with z | z
      · exact h4 z
      · have := e2 a z; rw [h6] at this; cases this
theorem RvRel.weak {H1 : Hp} (h : RvRel K H1 g v rv) (w : ∀ a, H1 a = none → H0 a = none) : RvRel K H0 g v rv := by
  cases rv with
  | imm d => exact h
  | cel k => exact h
  | fr d =>
    obtain ⟨a, h1, h2, h3, h4, h5⟩ := h
    exact ⟨a, h1, h2, h3, h4, w a h5⟩
theorem SlotV.rvx (h : SlotV K g v rv) : RvRel K H0 g v rv := by
  cases rv with
  | imm d => exact h
  | cel k => exact h
  | fr d => exact h.elim
theorem SRel.slotv (s : SRel K σ sl g) (e : Ext g g') (h : SlotV K g v rv) : SlotV K g' v rv := by
  cases rv with
  | imm d => exact s.dn e h
  | cel k => obtain ⟨a, h1, h2⟩ := h; exact ⟨a, as_get e h1, h2⟩
  | fr d => exact h.elim
/-- what a value reads as -/
theorem SRel.read (s : SRel K σ sl g) {d : D} (h : RvRel K H0 g v rv) (hd : dr rv g.cs = some d) : Rdn K g.Z g.H v d := by
  cases rv with
  | imm e => cases hd; exact .inl h
  | cel k =>
    obtain ⟨a, h1, h2⟩ := h
    have hd : (nth g.cs k).map (·.2) = some d := hd
    rw [nth_eq] at hd
    cases q : g.cs[k]? with
    | none => rw [q] at hd; cases hd
    | some p =>
      rw [q] at hd
      cases hd
      exact .inr ⟨a, h2, (s.cell k a p.1 p.2 h1 q).1⟩
  | fr e =>
    cases hd
    obtain ⟨a, h1, h2, _⟩ := h
    exact .inr ⟨a, h1, h2⟩
end

/-! ### what is wanted behind an evaluation -/
def ExnRel (K : PySem.W.Frag) (g : G) (x : Exn) (cls : Value) (d : Option Addr) : Prop := False
def Post {α : Type} (K : PySem.W.Frag) (W : WX) (σ : L2.St) (sl : Slots) (g : G) (r : Res α) (P : α → G → Prop) : Prop := match r with
  | .ok a cs' => ∀ g', g'.cs = cs' → Ext g g' → SRel K σ sl g' → P a g'
  | .err x cs' => ∀ g' cls d, g'.cs = cs' → Ext g g' → SRel K σ sl g' → ExnRel K g' x cls d → W cls d σ g'.H
  | .stuck => False
section
variable {K : PySem.W.Frag} {W : WX} {σ : L2.St} {sl : Slots} {g g1 : G} {α β : Type}
theorem Post.mono {r : Res α} {P P' : α → G → Prop} (h : Post K W σ sl g r P) (m : ∀ a g', r = .ok a g'.cs → Ext g g' → SRel K σ sl g' → P a g' → P' a g') : Post K W σ sl g r P' := by
  cases r with
  | stuck => exact h
  | ok a cs => exact fun g' e1 e2 e3 => m a g' (by rw [e1]) e2 e3 (h g' e1 e2 e3)
  | err x cs => exact h
theorem Post.later {r : Res α} {P : α → G → Prop} (h : Post K W σ sl g r P) (e : Ext g g1) : Post K W σ sl g1 r P := by
  cases r with
  | stuck => exact h
  | ok a cs => exact fun g' e1 e2 e3 => h g' e1 (e.trans e2) e3
  | err x cs => exact fun g' cls d e1 e2 e3 e4 => h g' cls d e1 (e.trans e2) e3 e4
theorem Post.bind {r : Res α} {f : α → Cells → Res β} {P : β → G → Prop} (h : Post K W σ sl g (r.bind f) P) : Post K W σ sl g r fun a g' => Post K W σ sl g (f a g'.cs) P := by
  cases r with
  | stuck => exact h
  | ok a cs =>
    intro g' e1 e2 e3
    subst e1
    exact h
  | err x cs => exact h
end
/-- the reading of a Core expression -/
def TEv (K : PySem.W.Frag) (W : WX) (call : CallT) (modes : Nat → List Bool) (c : E) : TE := fun σ H Q => ∃ sl g, g.H = H ∧ SRel K σ sl g ∧
  Post K W σ sl g (ev call modes c sl g.cs) fun rv g' => ∀ v, RvRel K H g' v rv → Q v g'.H
end Mini

namespace Mini
open PySem PySem.Spec PyProof.Rows L2
section
variable {K : PySem.W.Frag} {σ : L2.St} {sl : Slots} {g g0 g' : G} {H0 : Hp} {v : V} {rv : RV}
theorem SRel.next (s : SRel K σ sl g) (e : Ext g g') (clen : g'.as.length = g'.cs.length) (nd : g'.as.Nodup)
    (cell : ∀ (k : Nat) (a : Addr) (st : Stt) (d : D), g'.as[k]? = some a → g'.cs[k]? = some (st, d) → Cont K g'.Z g'.H a d ∧ (st = .dead → g'.Z a) ∧ (st ≠ .dead → ¬ g'.Z a))
    (zdom : ∀ a, g'.Z a → ∃ o, g'.H a = some o) : SRel K σ sl g' :=
  ⟨s.len, fun i rv h => by
    obtain ⟨v, h1, h2⟩ := s.slot i rv h
    exact ⟨v, h1, s.slotv e h2⟩, clen, nd, cell, zdom⟩
/-- a new object is laid -/
theorem alloc_ext (s : SRel K σ sl g) {p : Addr} {o : HO} (hp : g.H p = none) : Ext g { g with H := upd g.H p o } where
  zsub := fun _ h => h
  zold := fun _ h => .inl h
  pre := ⟨[], by simp, by simp⟩
  dom := fun b u h => ⟨u, by show upd g.H p o b = _; rw [upd_ne (ne_of_none h hp)]; exact h⟩
  frame := fun b u h _ => by show upd g.H p o b = _; rw [upd_ne (ne_of_none h hp)]; exact h
  live := fun _ h => .inl h
theorem alloc_rel (s : SRel K σ sl g) {p : Addr} {o : HO} (hp : g.H p = none) : SRel K σ sl { g with H := upd g.H p o } := by
  have e := alloc_ext (o := o) s hp
  refine s.next e s.clen s.nd (fun k a st d h1 h2 => ?_) (fun a z => ?_)
  · obtain ⟨c, q⟩ := s.cell k a st d h1 h2
    obtain ⟨u, hu, _⟩ := c.there
    exact ⟨c.keep (s.keep e) e.zsub (by show upd g.H p o a = _; rw [upd_ne (ne_of_none hu hp)]), q⟩
  · obtain ⟨u, hu⟩ := s.zdom a z
    exact e.dom a u hu
/-- two new containers are not the same one -/
def Apart (v : V) (rv : RV) (v' : V) (rv' : RV) : Prop := match rv, rv' with
  | .fr _, .fr _ => v ≠ v'
  | _, _ => True
theorem zadd_srel (s : SRel K σ sl g) {a : Addr} {cs' : Cells} (hl : g.cs.length = cs'.length)
    (hc : ∀ (k : Nat) (b : Addr) (st : Stt) (d : D), g.as[k]? = some b → cs'[k]? = some (st, d) → ∃ st0, g.cs[k]? = some (st0, d) ∧ ((b = a ∧ st = .dead) ∨ (b ≠ a ∧ st = st0)))
    (ha : ∃ o, g.H a = some o) : SRel K σ sl { g with Z := fun b => g.Z b ∨ b = a, cs := cs' } := by
  have zs : ∀ b, g.Z b → g.Z b ∨ b = a := fun _ h => .inl h
  have kp : Keep g.Z g.H g.H := fun _ _ h _ => h
  refine ⟨s.len, fun i rv h => ?_, by rw [show ({ g with Z := fun b => g.Z b ∨ b = a, cs := cs' } : G).as = g.as from rfl, s.clen]; exact hl, s.nd, fun k b st d h1 h2 => ?_, fun b z => ?_⟩
  · obtain ⟨v, h1, h2⟩ := s.slot i rv h
    refine ⟨v, h1, ?_⟩
    cases rv with
    | imm d => exact Dn.keep kp zs d v h2
    | cel k => exact h2
    | fr d => exact h2.elim
  · obtain ⟨st0, h3, h4⟩ := hc k b st d h1 h2
    obtain ⟨c, q1, q2⟩ := s.cell k b st0 d h1 h3
    refine ⟨c.keep kp zs rfl, fun e => ?_, fun e z => ?_⟩
    · rcases h4 with ⟨h4, _⟩ | ⟨_, h4⟩
      · exact .inr h4
      · exact .inl (q1 (h4.symm.trans e))
    · rcases h4 with ⟨_, h4⟩ | ⟨h5, h4⟩
      · exact e h4
      · rcases z with z | z
        · exact q2 (fun z => e (h4.trans z)) z
        · exact h5 z
  · rcases z with z | z
    · exact s.zdom b z
    · rw [z]; exact ha
theorem set_get {α : Type} {l : List α} {k j : Nat} {x y : α} (h : (l.set k x)[j]? = some y) : (j = k ∧ y = x) ∨ (j ≠ k ∧ l[j]? = some y) := by
  by_cases e : k = j
  · subst e
    by_cases hk : k < l.length
    · rw [List.getElem?_set_self hk] at h; cases h; exact .inl ⟨rfl, rfl⟩
    · rw [List.getElem?_eq_none (by simpa using hk)] at h; cases h
  · rw [List.getElem?_set_ne e] at h; exact .inr ⟨fun z => e z.symm, h⟩
theorem nd_ix {α : Type} {l : List α} (hN : l.Nodup) {i j : Nat} {x : α} (a : l[i]? = some x) (b : l[j]? = some x) : i = j := by
  obtain ⟨h1, e1⟩ := List.getElem?_eq_some_iff.mp a
  obtain ⟨h2, e2⟩ := List.getElem?_eq_some_iff.mp b
  exact (List.getElem_inj hN).mp (e1.trans e2.symm)
/-- a value is frozen -/
theorem freeze (e : Ext g0 g) (s : SRel K σ sl g) (h : RvRel K g0.H g v rv) {d : D} {cs' : Cells} (ht : toImm rv g.cs = some (d, cs')) :
    ∃ g', g'.cs = cs' ∧ g'.H = g.H ∧ g'.as = g.as ∧ (∀ a, g.Z a → g'.Z a) ∧ Ext g0 g' ∧ SRel K σ sl g' ∧ Dn K g'.Z g'.H v d ∧ ∀ v' rv', RvRel K g0.H g v' rv' → Apart v rv v' rv' → RvRel K g0.H g' v' rv' := by
  cases rv with
  | imm d0 =>
    cases ht
    exact ⟨g, rfl, rfl, rfl, fun _ h => h, e, s, h, fun _ _ h _ => h⟩
  | fr d0 =>
    cases ht
    obtain ⟨a, rfl, h2, h3, h4, h5⟩ := h
    obtain ⟨o, ho, _⟩ := h2.there
    have kp : Keep g.Z g.H g.H := fun _ _ h _ => h
    have zs : ∀ b, g.Z b → g.Z b ∨ b = a := fun _ h => .inl h
    refine ⟨{ g with Z := fun b => g.Z b ∨ b = a }, rfl, rfl, rfl, zs, ?_, ?_, ?_, fun v' rv' q ap => ?_⟩
    · refine ⟨fun b z => .inl (e.zsub b z), fun b z => ?_, e.pre, e.dom, e.frame, e.live⟩
      rcases z with z | z
      · exact e.zold b z
      · exact .inr (.inr (by rw [z]; exact h5))
    · exact zadd_srel (cs' := g.cs) s rfl (fun k b st d h1 h2 => ⟨st, h2, .inr ⟨fun z => h4 (z ▸ List.mem_of_getElem? h1), rfl⟩⟩) ⟨o, ho⟩
    · exact (h2.keep (Z' := fun b => g.Z b ∨ b = a) kp zs rfl).dn (.inr rfl)
    · cases rv' with
      | imm d' => exact Dn.keep kp zs d' v' q
      | cel k => exact q
      | fr d' =>
        obtain ⟨a', rfl, q2, q3, q4, q5⟩ := q
        refine ⟨a', rfl, q2.keep kp zs rfl, fun z => ?_, q4, q5⟩
        rcases z with z | z
        · exact q3 z
        · exact ap (by rw [z])
  | cel k =>
    obtain ⟨a, ha, rfl⟩ := h
    have ht : (match nth g.cs k with | some (.live, d) => some (d, setN g.cs k (.dead, d)) | some (.dead, d) => some (d, g.cs) | _ => none) = some (d, cs') := ht
    rw [nth_eq] at ht
    cases hk : g.cs[k]? with
    | none => rw [hk] at ht; cases ht
    | some p =>
      obtain ⟨st, d1⟩ := p
      rw [hk] at ht
      cases st with
      | lock => cases ht
      | dead =>
        cases ht
        obtain ⟨c, q1, _⟩ := s.cell k a _ _ ha hk
        exact ⟨g, rfl, rfl, rfl, fun _ h => h, e, s, c.dn (q1 rfl), fun _ _ h _ => h⟩
      | live =>
        have ht : some (d1, setN g.cs k (.dead, d1)) = some (d, cs') := ht
        rw [setN_eq] at ht
        injection ht with ht
        injection ht with e1 e2
        subst e1; subst e2
        obtain ⟨c, _, q2⟩ := s.cell k a _ _ ha hk
        obtain ⟨o, ho, _⟩ := c.there
        have kp : Keep g.Z g.H g.H := fun _ _ h _ => h
        have zs : ∀ b, g.Z b → g.Z b ∨ b = a := fun _ h => .inl h
        have lv : Live g a := ⟨k, _, ha, hk⟩
        refine ⟨{ g with Z := fun b => g.Z b ∨ b = a, cs := g.cs.set k (.dead, d1) }, rfl, rfl, rfl, zs, ?_, ?_, ?_, fun v' rv' q ap => ?_⟩
        · refine ⟨fun b z => .inl (e.zsub b z), fun b z => ?_, e.pre, e.dom, e.frame, fun b l => ?_⟩
          · rcases z with z | z
            · exact e.zold b z
            · rw [z]; exact .inr (e.live a lv)
          · obtain ⟨j, d', l1, l2⟩ := l
            rcases set_get (show (g.cs.set k (.dead, d1))[j]? = some (Stt.live, d') from l2) with ⟨_, z⟩ | ⟨_, l2⟩
            · cases z
            · exact e.live b ⟨j, d', l1, l2⟩
        · refine zadd_srel (cs' := g.cs.set k (.dead, d1)) s (by simp) (fun j b st d h1 h2 => ?_) ⟨o, ho⟩
          rcases set_get h2 with ⟨z, z'⟩ | ⟨z, h2⟩
          · subst z; cases z'
            rw [ha] at h1; cases h1
            exact ⟨.live, hk, .inl ⟨rfl, rfl⟩⟩
          · exact ⟨st, h2, .inr ⟨fun z' => z (nd_ix s.nd (z' ▸ h1) ha), rfl⟩⟩
        · exact (c.keep (Z' := fun b => g.Z b ∨ b = a) kp zs rfl).dn (.inr rfl)
        · cases rv' with
          | imm d' => exact Dn.keep kp zs d' v' q
          | cel k => exact q
          | fr d' =>
            obtain ⟨a', rfl, q2, q3, q4, q5⟩ := q
            refine ⟨a', rfl, q2.keep kp zs rfl, fun z => ?_, q4, q5⟩
            rcases z with z | z
            · exact q3 z
            · exact q4 (z ▸ List.mem_of_getElem? ha)
/-! ### lists of values -/
inductive RvsRel (K : PySem.W.Frag) (H0 : Hp) (g : G) : List V → List RV → Prop
  | nil : RvsRel K H0 g [] []
  | cons {v : V} {vs : List V} {rv : RV} {rvs : List RV} : RvRel K H0 g v rv → (∀ v' rv', (v', rv') ∈ vs.zip rvs → Apart v rv v' rv') → RvsRel K H0 g vs rvs → RvsRel K H0 g (v :: vs) (rv :: rvs)
theorem RvsRel.length : ∀ {vs : List V} {rvs : List RV}, RvsRel K H0 g vs rvs → vs.length = rvs.length
  | _, _, .nil => rfl
  | _, _, .cons _ _ r => by simp [RvsRel.length r]
theorem SRel.rvs (s : SRel K σ sl g) (e : Ext g g') : ∀ {vs : List V} {rvs : List RV}, RvsRel K H0 g vs rvs → RvsRel K H0 g' vs rvs
  | _, _, .nil => .nil
  | _, _, .cons a b c => .cons (s.rvx e a) b (SRel.rvs s e c)
theorem RvsRel.weak {H1 : Hp} (w : ∀ a, H1 a = none → H0 a = none) : ∀ {vs : List V} {rvs : List RV}, RvsRel K H1 g vs rvs → RvsRel K H0 g vs rvs
  | _, _, .nil => .nil
  | _, _, .cons a b c => .cons (a.weak w) b (RvsRel.weak w c)
theorem RvsRel.map {g1 : G} : ∀ {vs : List V} {rvs : List RV}, RvsRel K H0 g vs rvs → (∀ v rv, (v, rv) ∈ vs.zip rvs → RvRel K H0 g v rv → RvRel K H0 g1 v rv) → RvsRel K H0 g1 vs rvs
  | _, _, .nil, _ => .nil
  | _, _, .cons a b c, f => .cons (f _ _ (by simp) a) b (RvsRel.map c fun v rv h => f v rv (by simp [h]))
theorem RvsRel.mem : ∀ {vs : List V} {rvs : List RV}, RvsRel K H0 g vs rvs → ∀ v rv, (v, rv) ∈ vs.zip rvs → RvRel K H0 g v rv
  | _, _, .nil, _, _, h => by simp at h
  | _, _, .cons a b c, v, rv, h => by
    rw [List.zip_cons_cons] at h
    rcases List.mem_cons.mp h with h | h
    · cases h; exact a
    · exact c.mem v rv h
/-- a list of values is frozen -/
theorem freezes : ∀ (rvs : List RV) (vs : List V) (g : G) (ds : List D) (cs' : Cells), Ext g0 g → SRel K σ sl g → RvsRel K g0.H g vs rvs → toImms rvs g.cs = some (ds, cs') →
    ∃ g', g'.cs = cs' ∧ g'.H = g.H ∧ g'.as = g.as ∧ (∀ a, g.Z a → g'.Z a) ∧ Ext g0 g' ∧ SRel K σ sl g' ∧ Dns K g'.Z g'.H vs ds
  | [], _, g, ds, cs', e, s, h, ht => by
    cases h
    cases ht
    exact ⟨g, rfl, rfl, rfl, fun _ h => h, e, s, .nil⟩
  | rv :: rvs, _, g, ds, cs', e, s, h, ht => by
    cases h with
    | cons a b c =>
      rename_i v vs
      unfold toImms at ht
      cases h1 : toImm rv g.cs with
      | none => rw [h1] at ht; cases ht
      | some p =>
        obtain ⟨d, cs1⟩ := p
        rw [h1] at ht
        dsimp only at ht
        obtain ⟨g1, e1, e2, e3, e4, e5, e6, e7, e8⟩ := freeze e s a h1
        cases h2 : toImms rvs cs1 with
        | none => rw [h2] at ht; cases ht
        | some p =>
          obtain ⟨ds2, cs2⟩ := p
          rw [h2] at ht
          dsimp only at ht
          injection ht with ht
          injection ht with ht1 ht2
          subst ht1; subst ht2
          have c' : RvsRel K g0.H g1 vs rvs := c.map fun v' rv' m q => e8 v' rv' q (b v' rv' m)
          obtain ⟨g2, f1, f2, f3, f4, f5, f6, f7⟩ := freezes rvs vs g1 ds2 cs2 e5 e6 c' (by rw [e1]; exact h2)
          refine ⟨g2, f1, f2.trans e2, f3.trans e3, fun a z => f4 a (e4 a z), f5, f6, .cons (Dn.keep (fun b o q _ => ?_) f4 d v e7) f7⟩
          rw [f2]; exact q
theorem reads (s : SRel K σ sl g) : ∀ {rvs : List RV} {vs : List V} {ds : List D}, RvsRel K H0 g vs rvs → drs rvs g.cs = some ds → Paired (Rdn K g.Z g.H) vs ds
  | [], _, ds, h, hd => by
    cases h
    cases hd
    exact .nil
  | rv :: rvs, _, ds, h, hd => by
    cases h with
    | cons a b c =>
      unfold drs at hd
      cases h1 : dr rv g.cs with
      | none => rw [h1] at hd; cases hd
      | some d =>
        rw [h1] at hd
        dsimp only at hd
        cases h2 : drs rvs g.cs with
        | none => rw [h2] at hd; cases hd
        | some ds2 =>
          rw [h2] at hd
          cases hd
          exact .cons (s.read a h1) (reads s c h2)
end
end Mini

namespace Mini
open PySem PySem.Spec PyProof.Rows L2
theorem PE.imp {X : Cx} {e : Expr} {t t' : TE} (h : PE X e t) (m : ∀ σ H Q, t' σ H Q → t σ H Q) : PE X e t' := ⟨fun pins s σ H Q I q => h.run pins s σ H Q I (m σ H Q q)⟩
theorem PT.imp {X : Cx} {e : Expr} {t t' : TT} (h : PT X e t) (m : ∀ σ H Q, t' σ H Q → t σ H Q) : PT X e t' := ⟨fun pins s σ H Q I q => h.run pins s σ H Q I (m σ H Q q)⟩
theorem PW.imp {X : Cx} {e : Expr} {t t' : TT} (h : PW X e t) (m : ∀ σ H Q, t' σ H Q → t σ H Q) : PW X e t' := ⟨fun wh pins s σ H Q I q => h.run wh pins s σ H Q I (m σ H Q q)⟩
theorem PA.imp {X : Cx} {es : List Expr} {t t' : TA} (h : PA X es t) (m : ∀ σ H Q, t' σ H Q → t σ H Q) : PA X es t' := ⟨fun pos pins s σ H Q I q => h.run pos pins s σ H Q I (m σ H Q q)⟩
theorem PS.imp {X : Cx} {st : Stmt} {t t' : TS} (h : PS X st t) (m : ∀ D σ H, t' D σ H → t D σ H) : PS X st t' := ⟨fun pins s σ H D I q => h.run pins s σ H D I (m D σ H q)⟩
theorem PSs.imp {X : Cx} {st : List Stmt} {t t' : TS} (h : PSs X st t) (m : ∀ D σ H, t' D σ H → t D σ H) : PSs X st t' := ⟨fun pins s σ H D I q => h.run pins s σ H D I (m D σ H q)⟩
section
variable {K : PySem.W.Frag} {W : WX} {call : CallT} {modes : Nat → List Bool} {σ : L2.St} {sl : Slots} {g g0 g1 g2 : G} {H H0 : Hp} {v w : V} {x y : RV} {β : Type}
/-- the end of an expression -/
abbrev Fin1 (K : PySem.W.Frag) (H : Hp) (Q : VK) : RV → G → Prop := fun rv g' => ∀ v, RvRel K H g' v rv → Q v g'.H
theorem apart_of (h1 : RvRel K H0 g1 v x) (h2 : RvRel K g1.H g2 w y) : Apart v x w y := by
  cases x with
  | fr d =>
    cases y with
    | fr d' =>
      obtain ⟨a, rfl, c, _⟩ := h1
      obtain ⟨b, rfl, _, _, _, hb⟩ := h2
      obtain ⟨o, ho, _⟩ := c.there
      intro e
      cases e
      rw [hb] at ho; cases ho
    | _ => trivial
  | _ => trivial
theorem TEv.one {a : E} {f : RV → Cells → Res β} {P : β → G → Prop} {R : V → Hp → Prop} (e0 : Ext g0 g) (s : SRel K σ sl g)
    (h : Post K W σ sl g0 ((ev call modes a sl g.cs).bind f) P)
    (hf : ∀ x v g1, Ext g g1 → SRel K σ sl g1 → RvRel K g.H g1 v x → Post K W σ sl g0 (f x g1.cs) P → R v g1.H) : TEv K W call modes a σ g.H R :=
  ⟨sl, g, rfl, s, (h.bind.later e0).mono fun x g1 _ e1 s1 p1 v r1 => hf x v g1 e1 s1 r1 p1⟩
theorem TEv.two {a b : E} {f : RV → RV → Cells → Res β} {P : β → G → Prop} {R : V → V → Hp → Prop} (s : SRel K σ sl g)
    (h : Post K W σ sl g ((ev call modes a sl g.cs).bind fun x cs1 => (ev call modes b sl cs1).bind fun y cs2 => f x y cs2) P)
    (hf : ∀ x y v w g2, Ext g g2 → SRel K σ sl g2 → RvRel K g.H g2 v x → RvRel K g.H g2 w y → Apart v x w y → Post K W σ sl g (f x y g2.cs) P → R v w g2.H) :
    TEv K W call modes a σ g.H fun v H1 => TEv K W call modes b σ H1 fun w H2 => R v w H2 := by
  refine TEv.one (Ext.refl g) s h fun x v g1 e1 s1 r1 p1 => ?_
  refine TEv.one e1 s1 p1 fun y w g2 e2 s2 r2 p2 => ?_
  exact hf x y v w g2 (e1.trans e2) s2 (s1.rvx e2 r1) (r2.weak fun a ha => e1.none ha) (apart_of r1 r2) p2
theorem Post.now {a : β} {P : β → G → Prop} (h : Post K W σ sl g (.ok a g2.cs) P) (e : Ext g g2) (s : SRel K σ sl g2) : P a g2 := h g2 rfl e s
/-- a new list, a new tuple -/
theorem fin_lst {ds : List D} {xs : List V} {Q : VK} {p : Addr} (e : Ext g g2) (s : SRel K σ sl g2) (hd : Dns K g2.Z g2.H xs ds) (h : Post K W σ sl g (.ok (.fr (.lst ds)) g2.cs) (Fin1 K g.H Q)) (hp : g2.H p = none) :
    Q (.ref p) (upd g2.H p (.lst xs)) := by
  have e3 := alloc_ext (o := .lst xs) s hp
  have s3 := alloc_rel (o := .lst xs) s hp
  refine h { g2 with H := upd g2.H p (.lst xs) } rfl (e.trans e3) s3 (.ref p) ⟨p, rfl, ⟨xs, upd_same, s.dns e3 hd⟩, fun z => ?_, fun z => ?_, e.none hp⟩
  · obtain ⟨o, ho⟩ := s.zdom p z
    rw [hp] at ho; cases ho
  · obtain ⟨k, hk⟩ := List.getElem?_of_mem z
    have : k < g2.cs.length := by rw [← s.clen]; exact (List.getElem?_eq_some_iff.mp hk).1
    obtain ⟨o, ho, _⟩ := (s.cell k p _ _ hk (List.getElem?_eq_getElem this)).1.there
    rw [hp] at ho; cases ho
theorem fin_tup {ds : List D} {xs : List V} {Q : VK} {p : Addr} {o : Obj} (e : Ext g g2) (s : SRel K σ sl g2) (hd : Dns K g2.Z g2.H xs ds) (h : Post K W σ sl g (.ok (.imm (.tup ds)) g2.cs) (Fin1 K H Q)) (hp : g2.H p = none) (ho : o.dict = none) :
    Q (.ref p) (upd g2.H p (.frz o (.tup xs))) := by
  have e3 := alloc_ext (o := .frz o (.tup xs)) s hp
  have s3 := alloc_rel (o := .frz o (.tup xs)) s hp
  exact h { g2 with H := upd g2.H p (.frz o (.tup xs)) } rfl (e.trans e3) s3 (.ref p) (.tup (.inl ⟨o, upd_same, ho⟩) (s.dns e3 hd))
theorem fin_imm {d : D} {Q : VK} (e : Ext g g2) (s : SRel K σ sl g2) (hd : Dn K g2.Z g2.H v d) (h : Post K W σ sl g (.ok (.imm d) g2.cs) (Fin1 K H Q)) : Q v g2.H := h.now e s v hd
/-! ### truth -/
theorem tru_of {d : D} {k : Bool} (h : Rdn K g.Z g.H v d) (ht : truth d = some k) : TruV K v g.H k := by
  cases d with
  | non => cases h.non; cases ht; rfl
  | bl b => cases h.bl; cases ht; rfl
  | int i => cases h.int; cases ht; rfl
  | str x =>
    obtain ⟨z, rfl, rfl⟩ := h.str
    have ht : (if z.cps.toList.length ≤ LINE then some (!z.cps.toList.isEmpty) else none) = some k := ht
    split at ht
    · cases ht
      rename_i hl
      have hl' : z.length ≤ sizeLine := by
        rw [sizeLine_eq]; simpa [Str.length] using hl
      refine ⟨hl', ?_⟩
      obtain ⟨⟨l⟩⟩ := z
      cases l with
      | nil => rfl
      | cons a l => simp [Str.length]; omega
    · cases ht
  | tup ds =>
    obtain ⟨a, xs, rfl, q, r⟩ := h.tup
    cases ht
    refine .inr (.inl ⟨xs, q.sq, ?_⟩)
    cases r <;> rfl
  | lst ds =>
    obtain ⟨a, xs, rfl, q, r⟩ := h.lst
    cases ht
    refine .inl ⟨xs, q, ?_⟩
    cases r <;> rfl
  | dic kvs => exact h.nodic.elim
  | obj k => exact h.noobj.elim
theorem truR_of {k : Bool} (s : SRel K σ sl g) (r : RvRel K H0 g v x) (ht : truthR x g.cs = some k) : TruV K v g.H k := by
  unfold truthR at ht
  cases hd : dr x g.cs with
  | none => rw [hd] at ht; cases ht
  | some d => rw [hd] at ht; exact tru_of (s.read r hd) ht
end

/-! ### the rules -/
section
variable {X : Cx} {W : WX} {call : CallT} {modes : Nat → List Bool} {e e1 e2 e3 : Expr} {c c1 c2 c3 : E} {pos : Pos}
abbrev TV (X : Cx) (W : WX) (call : CallT) (modes : Nat → List Bool) (c : E) : TE := TEv X.K W call modes c
theorem r_var {i : Nat} {x : Str} (hN : X.N[i]? = some x) (hv : Vis X.env.scope x) (hd : (x == ("__debug__" : Str)) = false) (hcd : (x == ("__classdict__" : Str)) = false) : PE X (.Name x pos) (TV X W call modes (.var i)) := by
  refine PE.imp (pe_var hN hv hd hcd) fun σ H Q h => ?_
  obtain ⟨sl, g, rfl, s, h⟩ := h
  simp only [ev] at h
  rw [nth_eq] at h
  cases q : sl[i]? with
  | none => rw [q] at h; exact h.elim
  | some o =>
    cases o with
    | none => rw [q] at h; exact h.elim
    | some rv =>
      rw [q] at h
      obtain ⟨v, hv, r⟩ := s.slot i rv q
      exact ⟨v, hv, h.now (Ext.refl g) s v r.rvx⟩
theorem r_const {v : V} {d : D} {co : Const} {j : Nat} (hp : PE X (.Constant co j pos) (tC v)) (hd : ∀ Z H, Dn X.K Z H v d) : PE X (.Constant co j pos) (TV X W call modes (.cst d)) := by
  refine PE.imp hp fun σ H Q h => ?_
  obtain ⟨sl, g, rfl, s, h⟩ := h
  simp only [ev] at h
  exact h.now (Ext.refl g) s v (hd _ _)
theorem r_bin {op : Operator} {o : BO} {r : R2} (ho : OpR X (binaryOp op) r)
    (hr : ∀ (σ : L2.St) (sl : Slots) (g g2 : G) (v w : V) (d d' : D) (Q : VK), Ext g g2 → SRel X.K σ sl g2 → Rdn X.K g2.Z g2.H v d → Rdn X.K g2.Z g2.H w d' → Post X.K W σ sl g (out (binop o d d') g2.cs) (Fin1 X.K g.H Q) → r v w g2.H Q)
    (ha : PE X e1 (TV X W call modes c1)) (hb : PE X e2 (TV X W call modes c2)) : PE X (.BinOp e1 op e2 pos) (TV X W call modes (.bin o c1 c2)) := by
  refine PE.imp (pe_op ho ha hb) fun σ H Q h => ?_
  obtain ⟨sl, g, rfl, s, h⟩ := h
  simp only [ev] at h
  refine TEv.two s h fun x y v w g2 ex s2 r1 r2 _ p => ?_
  cases q1 : dr x g2.cs with
  | none => rw [q1] at p; exact p.elim
  | some d =>
    cases q2 : dr y g2.cs with
    | none => rw [q1, q2] at p; exact p.elim
    | some d' =>
      rw [q1, q2] at p
      exact hr σ sl g g2 v w d d' Q ex s2 (s2.read r1 q1) (s2.read r2 q2) p
end
end Mini

namespace Mini
open PySem PySem.Spec PyProof.Rows L2
section
variable {X : Cx}
/-- two lists to be read, put together -/
def rCatL (K : PySem.W.Frag) : R2 := fun x y H Q => ∃ l b xs zs, x = .ref l ∧ y = .ref b ∧ SqL K H l xs ∧ SqL K H b zs ∧ xs.length + zs.length ≤ sizeLine ∧ ∀ p, H p = none → Q (.ref p) (upd H p (.lst (xs ++ zs)))
theorem op_catL : OpR X (binaryOp .Add) (rCatL X.K) := by
  intro pins s σ H x y v u Q I rx ry h
  obtain ⟨l, b, xs, zs, rfl, rfl, hH, hB, hz, q⟩ := h
  cases rx
  cases ry
  obtain ⟨its, r, ⟨⟨c1, d1, da1, s1⟩, n, e, h1, h2, h3⟩, z⟩ := I.list hH
  obtain ⟨its2, r2, ⟨⟨c2, d2, da2, s2⟩, n2, e2, h4, h5, h6⟩, z2⟩ := I.list hB
  simp only at h1 h2 h3 h4 h5 h6
  subst h1 h3 h4 h6
  have e3 := r.length
  have e4 := r2.length
  refine concat_meets ⟨_, e, rfl⟩ ⟨_, e2, rfl⟩ noFill_list_add seq_list_add PySem.F.slot_list_add PySem.F.entry_list_add (PySem.F.args_list_add_2 _ _)
    (list_addW l b its.toArray its2.toArray n n2 d1 d2 s1 s2 (by rw [List.size_toArray, List.size_toArray]; omega)) ⟨e, e2, ?_⟩
  have ea : its.toArray ++ its2.toArray = (its ++ its2).toArray := by simp
  rw [ea]
  exact ⟨.ref _, _, I.lnew (t' := s.toks) (r.append r2) (by rw [List.length_append]; omega), rfl, q _ I.fresh⟩
/-- t + u: a new tuple is known to have no dict of its own -/
def rCatF (K : PySem.W.Frag) : R2 := fun x y H Q => ∃ a b xs ys, x = .ref a ∧ y = .ref b ∧ SqT K H a xs ∧ SqT K H b ys ∧ xs.length + ys.length ≤ sizeLine ∧
  (xs = [] → Q (.ref b) H) ∧ (xs ≠ [] → ys = [] → Q (.ref a) H) ∧ (xs ≠ [] → ys ≠ [] → ∀ p o, H p = none → o.dict = none → Q (.ref p) (upd H p (.frz o (.tup (xs ++ ys)))))
theorem op_catF : OpR X (binaryOp .Add) (rCatF X.K) := by
  intro pins s σ H x y v u Q I rx ry h
  obtain ⟨a, b, xs, ys, rfl, rfl, ha, hb, hz, q0, q1, q2⟩ := h
  cases rx
  cases ry
  obtain ⟨its, r1, p1, _⟩ := I.tuple ha
  obtain ⟨its2, r2, p2, _⟩ := I.tuple hb
  obtain ⟨⟨cls, dd, data, sl⟩, ho, hc, n, hd⟩ := id p1
  obtain ⟨⟨cls2, dd2, data2, sl2⟩, ho2, hc2, n2, hd2⟩ := id p2
  simp only at hc hd hc2 hd2
  subst hc hd hc2 hd2
  have l1 := r1.length
  have l2 := r2.length
  by_cases hx : xs = []
  · subst hx
    cases r1
    exact cat_tup0 p1 p2 ⟨.ref b, H, I, rfl, q0 rfl⟩
  · have hx' : its ≠ [] := fun z => hx ((r1.nil_iff).mp z)
    by_cases hy : ys = []
    · have hy' : its2 = [] := (r2.nil_iff).mpr hy
      exact concat_meets ⟨_, ho, rfl⟩ ⟨_, ho2, rfl⟩ noFill_tuple_add seq_tuple_add PySem.F.slot_tuple_add PySem.F.entry_tuple_add (PySem.F.args_tuple_add_2 _ _)
        (tuple_addW1 a b its.toArray its2.toArray n n2 dd dd2 sl sl2 (by simpa using hx') (by simp [hy'])) ⟨ho, ho2, ⟨.ref a, H, I, rfl, q1 hx hy⟩⟩
    · have hy' : its2 ≠ [] := fun z => hy ((r2.nil_iff).mp z)
      refine concat_meets ⟨_, ho, rfl⟩ ⟨_, ho2, rfl⟩ noFill_tuple_add seq_tuple_add PySem.F.slot_tuple_add PySem.F.entry_tuple_add (PySem.F.args_tuple_add_2 _ _)
        (tuple_addW2 a b its.toArray its2.toArray n n2 dd dd2 sl sl2 (by simpa using hx') (by simpa using hy') (by rw [List.size_toArray, List.size_toArray]; omega)) ⟨ho, ho2, ?_⟩
      have ea : its.toArray ++ its2.toArray = (its ++ its2).toArray := by simp
      rw [ea]
      refine ⟨.ref s.heap.objs.size, _, I.laid (t' := s.toks) (o := .frz { cls := .type "tuple", data := .seq (its ++ its2).toArray } (.tup (xs ++ ys))) (fun b ob q => Heap.get?_push_of_some _ q) (Nat.le_refl _) ?_, rfl, q2 hx hy _ _ I.fresh rfl⟩
      exact ⟨Heap.get?_push_size _ rfl, by rw [List.length_append]; omega, _, r1.append r2, IsTup.new _ _⟩
def rAddA (K : PySem.W.Frag) : R2 := fun x y H Q => rI0 (fun i j => .int (i + j)) x y H Q ∨ (∃ i j, x = .str i ∧ y = .str j ∧ i.length + j.length ≤ sizeLine ∧ Q (.str (i ++ j)) H) ∨ rCatL K x y H Q ∨ rCatF K x y H Q
theorem op_addA : OpR X (binaryOp .Add) (rAddA X.K) := op_add.or (op_add_str.or (op_catL.or op_catF))
theorem str_app (x y : Str) : (x ++ y).cps.toList = x.cps.toList ++ y.cps.toList := by
  show (x.cps ++ y.cps).toList = _
  simp
theorem str_len (x : Str) : x.cps.toList.length = x.length := by simp [Str.length]
end
section
variable {X : Cx} {W : WX} {call : CallT} {modes : Nat → List Bool} {e e1 e2 e3 : Expr} {c c1 c2 c3 : E} {pos : Pos}
theorem r_add (ha : PE X e1 (TV X W call modes c1)) (hb : PE X e2 (TV X W call modes c2)) : PE X (.BinOp e1 .Add e2 pos) (TV X W call modes (.bin .add c1 c2)) := by
  refine r_bin op_addA (fun σ sl g g2 v w d d' Q ex s r1 r2 h => ?_) ha hb
  cases d <;> cases d' <;> first | exact h.elim | skip
  · cases r1.int; cases r2.int
    exact .inl ⟨_, _, rfl, rfl, fin_imm ex s (.int _) h⟩
  · obtain ⟨z, rfl, rfl⟩ := r1.str
    obtain ⟨z', rfl, rfl⟩ := r2.str
    simp only [binop] at h
    split at h
    · rename_i hl
      refine .inr (.inl ⟨_, _, rfl, rfl, by rw [sizeLine_eq, ← str_len, ← str_len]; exact hl, fin_imm ex s (d := .str (z.cps.toList ++ z'.cps.toList)) ?_ h⟩)
      rw [← str_app]; exact .str _
    · exact h.elim
  · obtain ⟨a, xs, rfl, q1, h1⟩ := r1.tup
    obtain ⟨b, ys, rfl, q2, h2⟩ := r2.tup
    rename_i ds es
    simp only [binop] at h
    split at h
    · rename_i hl
      have l1 := h1.length
      have l2 := h2.length
      refine .inr (.inr (.inr ⟨a, b, xs, ys, rfl, rfl, q1.sq, q2.sq, by rw [sizeLine_eq, l1, l2]; exact hl, fun e => ?_, fun _ e => ?_, fun _ _ p o hp ho => ?_⟩))
      · subst e
        cases h1
        exact fin_imm ex s (.tup q2 h2) h
      · subst e
        cases h2
        rw [List.append_nil] at h
        exact fin_imm ex s (.tup q1 h1) h
      · exact fin_tup ex s (h1.append h2) h hp ho
    · exact h.elim
  · obtain ⟨a, xs, rfl, q1, h1⟩ := r1.lst
    obtain ⟨b, ys, rfl, q2, h2⟩ := r2.lst
    simp only [binop] at h
    split at h
    · rename_i hl
      have l1 := h1.length
      have l2 := h2.length
      exact .inr (.inr (.inl ⟨a, b, xs, ys, rfl, rfl, q1, q2, by rw [sizeLine_eq, l1, l2]; exact hl, fun p hp => fin_lst ex s (h1.append h2) h hp⟩))
    · exact h.elim
theorem r_sub (ha : PE X e1 (TV X W call modes c1)) (hb : PE X e2 (TV X W call modes c2)) : PE X (.BinOp e1 .Sub e2 pos) (TV X W call modes (.bin .sub c1 c2)) := by
  refine r_bin op_sub (fun σ sl g g2 v w d d' Q ex s r1 r2 h => ?_) ha hb
  cases d <;> cases d' <;> first | exact h.elim | skip
  cases r1.int; cases r2.int
  exact ⟨_, _, rfl, rfl, fin_imm ex s (.int _) h⟩
theorem bnd64_ok {i : Int} (h : bnd64 i = true) : -(2 ^ 64) < i ∧ i < 2 ^ 64 := by
  simp only [bnd64, Bool.and_eq_true, decide_eq_true_eq] at h
  omega
theorem r_mul (ha : PE X e1 (TV X W call modes c1)) (hb : PE X e2 (TV X W call modes c2)) : PE X (.BinOp e1 .Mult e2 pos) (TV X W call modes (.bin .mul c1 c2)) := by
  refine r_bin op_mul (fun σ sl g g2 v w d d' Q ex s r1 r2 h => ?_) ha hb
  cases d <;> cases d' <;> first | exact h.elim | skip
  cases r1.int; cases r2.int
  simp only [binop] at h
  split at h
  · rename_i hb
    refine ⟨_, _, rfl, rfl, ?_, fin_imm ex s (.int _) h⟩
    rcases Bool.or_eq_true_iff.mp hb with hb | hb
    · exact .inl (bnd64_ok hb)
    · exact .inr (bnd64_ok hb)
  · exact h.elim
theorem r_fdiv (ha : PE X e1 (TV X W call modes c1)) (hb : PE X e2 (TV X W call modes c2)) : PE X (.BinOp e1 .FloorDiv e2 pos) (TV X W call modes (.bin .fdiv c1 c2)) := by
  refine r_bin op_fdiv (fun σ sl g g2 v w d d' Q ex s r1 r2 h => ?_) ha hb
  cases d <;> cases d' <;> first | exact h.elim | skip
  cases r1.int; cases r2.int
  simp only [binop] at h
  split at h
  · rename_i hb
    simp only [Bool.and_eq_true, decide_eq_true_eq] at hb
    exact ⟨_, _, rfl, rfl, hb, fin_imm ex s (.int _) h⟩
  · exact h.elim
theorem r_mod (ha : PE X e1 (TV X W call modes c1)) (hb : PE X e2 (TV X W call modes c2)) : PE X (.BinOp e1 .Mod e2 pos) (TV X W call modes (.bin .mod c1 c2)) := by
  refine r_bin op_mod (fun σ sl g g2 v w d d' Q ex s r1 r2 h => ?_) ha hb
  cases d <;> cases d' <;> first | exact h.elim | skip
  cases r1.int; cases r2.int
  simp only [binop] at h
  split at h
  · rename_i hb
    simp only [decide_eq_true_eq] at hb
    exact ⟨_, _, rfl, rfl, hb, fin_imm ex s (.int _) h⟩
  · exact h.elim
theorem r_pow (ha : PE X e1 (TV X W call modes c1)) (hb : PE X e2 (TV X W call modes c2)) : PE X (.BinOp e1 .Pow e2 pos) (TV X W call modes (.bin .pow c1 c2)) := by
  refine r_bin op_pow (fun σ sl g g2 v w d d' Q ex s r1 r2 h => ?_) ha hb
  cases d <;> cases d' <;> first | exact h.elim | skip
  cases r1.int; cases r2.int
  simp only [binop] at h
  split at h
  · rename_i hb
    simp only [Bool.and_eq_true, decide_eq_true_eq] at hb
    exact ⟨_, _, rfl, rfl, ⟨hb.1.1, hb.1.2, hb.2⟩, fin_imm ex s (.int _) h⟩
  · exact h.elim
theorem rep_eq {α : Type} (xs : List α) : ∀ n : Nat, rep xs n = (List.replicate n xs).flatten
  | 0 => rfl
  | n + 1 => by rw [rep, rep_eq xs n, List.replicate_succ]; rfl
theorem Dns.rep {K : PySem.W.Frag} {Z : Addr → Prop} {H : Hp} {vs : List V} {ds : List D} (h : Dns K Z H vs ds) : ∀ n : Nat, Dns K Z H (Mini.rep vs n) (Mini.rep ds n)
  | 0 => .nil
  | n + 1 => h.append (Dns.rep h n)
theorem r_repl (ha : PE X e1 (TV X W call modes c1)) (hb : PE X e2 (TV X W call modes c2)) : PE X (.BinOp e1 .Mult e2 pos) (TV X W call modes (.repl c1 c2)) := by
  refine PE.imp (pe_op op_rep ha hb) fun σ H Q h => ?_
  obtain ⟨sl, g, rfl, s, h⟩ := h
  simp only [ev] at h
  refine TEv.two s h fun x y v w g2 ex s2 r1 r2 _ p => ?_
  cases x with
  | imm d => exact p.elim
  | cel k => exact p.elim
  | fr d =>
    cases q2 : dr y g2.cs with
    | none => rw [q2] at p; cases d <;> exact p.elim
    | some d' =>
      rw [q2] at p
      cases d <;> cases d' <;> first | exact p.elim | skip
      rename_i ds j
      cases (s2.read r2 q2).int
      obtain ⟨a, rfl, ⟨xs, ha, hd⟩, _⟩ := r1
      dsimp only at p
      split at p
      · rename_i hb
        simp only [Bool.and_eq_true, decide_eq_true_eq] at hb
        have hl := hd.length
        refine ⟨a, j, xs, rfl, rfl, ha, hb.1.1, hb.1.2, by rw [sizeLine_eq, hl]; exact hb.2, fun p' hp => ?_⟩
        rw [← rep_eq]
        exact fin_lst ex s2 (hd.rep _) p hp
      · exact p.elim
theorem r_neg (ha : PE X e1 (TV X W call modes c1)) : PE X (.UnaryOp .USub e1 pos) (TV X W call modes (.neg c1)) := by
  refine PE.imp (pe_un un_neg ha) fun σ H Q h => ?_
  obtain ⟨sl, g, rfl, s, h⟩ := h
  simp only [ev] at h
  unfold tUn
  refine TEv.one (Ext.refl g) s h fun x v g2 ex s2 r1 p => ?_
  cases q1 : dr x g2.cs with
  | none => rw [q1] at p; exact p.elim
  | some d =>
    rw [q1] at p
    cases d <;> first | exact p.elim | skip
    cases (s2.read r1 q1).int
    exact ⟨_, rfl, fin_imm ex s2 (.int _) p⟩
theorem r_isN (ha : PE X e1 (TV X W call modes c1)) {j : Nat} {p2 : Pos} : PE X (.Compare e1 [.Is] [.Constant .none j p2] pos) (TV X W call modes (.isN c1)) := by
  refine PE.imp (pe_cmpR op_isN ha pe_non (nomark _)) fun σ H Q h => ?_
  obtain ⟨sl, g, rfl, s, h⟩ := h
  simp only [ev] at h
  unfold tOp tC
  refine TEv.one (Ext.refl g) s h fun x v g2 ex s2 r1 p => ?_
  refine ⟨rfl, ?_⟩
  cases q1 : dr x g2.cs with
  | none => rw [q1] at p; exact p.elim
  | some d =>
    rw [q1] at p
    have r := s2.read r1 q1
    cases d with
    | non => cases r.non; exact fin_imm ex s2 (.bl _) p
    | bl b => cases r.bl; exact fin_imm ex s2 (.bl _) p
    | int b => cases r.int; exact fin_imm ex s2 (.bl _) p
    | str b => obtain ⟨z, rfl, _⟩ := r.str; exact fin_imm ex s2 (.bl _) p
    | tup b => obtain ⟨a, xs, rfl, _⟩ := r.tup; exact fin_imm ex s2 (.bl _) p
    | lst b => obtain ⟨a, xs, rfl, _⟩ := r.lst; exact fin_imm ex s2 (.bl _) p
    | dic b => exact r.nodic.elim
    | obj b => exact r.noobj.elim
theorem r_notN (ha : PE X e1 (TV X W call modes c1)) {j : Nat} {p2 : Pos} : PE X (.Compare e1 [.IsNot] [.Constant .none j p2] pos) (TV X W call modes (.notN c1)) := by
  refine PE.imp (pe_cmpR op_notN ha pe_non (nomark _)) fun σ H Q h => ?_
  obtain ⟨sl, g, rfl, s, h⟩ := h
  simp only [ev] at h
  unfold tOp tC
  refine TEv.one (Ext.refl g) s h fun x v g2 ex s2 r1 p => ?_
  refine ⟨rfl, ?_⟩
  cases q1 : dr x g2.cs with
  | none => rw [q1] at p; exact p.elim
  | some d =>
    rw [q1] at p
    have r := s2.read r1 q1
    cases d with
    | non => cases r.non; exact fin_imm ex s2 (.bl _) p
    | bl b => cases r.bl; exact fin_imm ex s2 (.bl _) p
    | int b => cases r.int; exact fin_imm ex s2 (.bl _) p
    | str b => obtain ⟨z, rfl, _⟩ := r.str; exact fin_imm ex s2 (.bl _) p
    | tup b => obtain ⟨a, xs, rfl, _⟩ := r.tup; exact fin_imm ex s2 (.bl _) p
    | lst b => obtain ⟨a, xs, rfl, _⟩ := r.lst; exact fin_imm ex s2 (.bl _) p
    | dic b => exact r.nodic.elim
    | obj b => exact r.noobj.elim
end
end Mini

namespace Mini
open PySem PySem.Spec PyProof.Rows L2
/-! ### trees as the library's data -/
def mkS (x : List Nat) : Str := ⟨⟨x⟩⟩
theorem mkS_cps (z : Str) : mkS z.cps.toList = z := by
  obtain ⟨⟨l⟩⟩ := z
  rfl
mutual
def toPy : D → PyData
  | .non => .none
  | .bl b => .bool b
  | .int i => .int i
  | .str x => .str (mkS x)
  | .tup xs => .tuple (toPys xs)
  | .lst xs => .list (toPys xs)
  | .dic _ => .none
  | .obj _ => .none
def toPys : List D → List PyData
  | [] => []
  | x :: xs => toPy x :: toPys xs
end
theorem toPys_map : ∀ ds : List D, toPys ds = ds.map toPy
  | [] => by simp [toPys]
  | d :: ds => by simp [toPys, toPys_map ds]
theorem sOk_ok : ∀ x : List Nat, sOk x = true → PyData.strOk (mkS x) = true := by
  intro x h
  have : ∀ x : List Nat, sOk x = true → ∀ c ∈ x, c < 1114112 := by
    intro x
    induction x with
    | nil => intro _ c hc; simp at hc
    | cons a r ih =>
      intro h c hc
      simp only [sOk, Bool.and_eq_true, Nat.blt_eq] at h
      rcases List.mem_cons.mp hc with e | hc
      · rw [e]; exact h.1
      · exact ih h.2 c hc
  unfold PyData.strOk
  rw [Array.all_eq_true_iff_forall_mem]
  intro c hc
  have := this x h c (by simpa [mkS] using hc)
  simpa using this
mutual
theorem pl_lay : ∀ (n : Nat) (d : D), pl n d = true → (toPy d).canLay0 = true ∧ (toPy d).depth ≤ n
  | n, .non, _ => by simp [toPy, PyData.canLay0, PyData.depth]
  | n, .bl _, _ => by simp [toPy, PyData.canLay0, PyData.depth]
  | n, .int _, _ => by simp [toPy, PyData.canLay0, PyData.depth]
  | n, .str x, h => by
    have h : sOk x = true := by cases n <;> simpa [pl] using h
    simp [toPy, PyData.canLay0, PyData.depth, sOk_ok x h]
  | 0, .tup _, h => by simp [pl] at h
  | 0, .lst _, h => by simp [pl] at h
  | n + 1, .tup xs, h => by
    have := pls_lay n xs (by simpa [pl] using h)
    simp only [toPy, PyData.canLay0, PyData.depth]
    exact ⟨this.1, by omega⟩
  | n + 1, .lst xs, h => by
    have := pls_lay n xs (by simpa [pl] using h)
    simp only [toPy, PyData.canLay0, PyData.depth]
    exact ⟨this.1, by omega⟩
  | n, .dic _, h => by cases n <;> simp [pl] at h
  | n, .obj _, h => by cases n <;> simp [pl] at h
theorem pls_lay : ∀ (n : Nat) (ds : List D), pls n ds = true → PyData.canLayAll0 (toPys ds) = true ∧ PyData.depthAll (toPys ds) ≤ n
  | n, [], _ => by simp [toPys, PyData.canLayAll0, PyData.depthAll]
  | n, d :: ds, h => by
    have h : pl n d = true ∧ pls n ds = true := by
      cases n <;> simpa [pls] using h
    have h1 := pl_lay n d h.1
    have h2 := pls_lay n ds h.2
    simp only [toPys, PyData.canLayAll0, PyData.depthAll, h1.1, h2.1, Bool.and_self, true_and]
    omega
end
theorem leq_str (x y : List Nat) : leq x y = (mkS x == mkS y) := by
  by_cases h : x = y
  · subst h
    rw [(leq_iff x x).mpr rfl]
    simp
  · have h1 : leq x y = false := by
      cases q : leq x y with
      | false => rfl
      | true => exact absurd ((leq_iff x y).mp q) h
    have h2 : mkS x ≠ mkS y := fun z => h (by simpa [mkS] using z)
    rw [h1]
    exact (beq_eq_false_iff_ne.mpr h2).symm
mutual
theorem deq_eqv : ∀ (n : Nat) (a b : D), pl n a = true → pl n b = true → deq a b = PyData.eqv (toPy a) (toPy b)
  | n, .non, b, _, hb => by cases b <;> first | (cases n <;> simp [pl] at hb; done) | simp [deq, toPy, PyData.eqv]
  | n, .bl a, b, _, hb => by cases b <;> first | (cases n <;> simp [pl] at hb; done) | simp [deq, toPy, PyData.eqv]
  | n, .int a, b, _, hb => by cases b <;> first | (cases n <;> simp [pl] at hb; done) | simp [deq, toPy, PyData.eqv]
  | n, .str a, b, _, hb => by cases b <;> first | (cases n <;> simp [pl] at hb; done) | simp [deq, toPy, PyData.eqv, leq_str]
  | 0, .tup _, b, ha, _ => by simp [pl] at ha
  | 0, .lst _, b, ha, _ => by simp [pl] at ha
  | n + 1, .tup xs, b, ha, hb => by
    cases b <;> first | (simp [pl] at hb; done) | skip
    · simp [deq, toPy, PyData.eqv]
    · simp [deq, toPy, PyData.eqv]
    · simp [deq, toPy, PyData.eqv]
    · simp [deq, toPy, PyData.eqv]
    · rename_i ys
      simp only [deq, toPy, PyData.eqv]
      exact deqs_eqv n xs ys (by simpa [pl] using ha) (by simpa [pl] using hb)
    · simp [deq, toPy, PyData.eqv]
  | n + 1, .lst xs, b, ha, hb => by
    cases b <;> first | (simp [pl] at hb; done) | skip
    · simp [deq, toPy, PyData.eqv]
    · simp [deq, toPy, PyData.eqv]
    · simp [deq, toPy, PyData.eqv]
    · simp [deq, toPy, PyData.eqv]
    · simp [deq, toPy, PyData.eqv]
    · rename_i ys
      simp only [deq, toPy, PyData.eqv]
      exact deqs_eqv n xs ys (by simpa [pl] using ha) (by simpa [pl] using hb)
  | n, .dic _, b, ha, _ => by cases n <;> simp [pl] at ha
  | n, .obj _, b, ha, _ => by cases n <;> simp [pl] at ha
theorem deqs_eqv : ∀ (n : Nat) (a b : List D), pls n a = true → pls n b = true → deqs a b = PyData.eqvAll (toPys a) (toPys b)
  | n, [], [], _, _ => by simp [deqs, toPys, PyData.eqvAll]
  | n, [], _ :: _, _, _ => by simp [deqs, toPys, PyData.eqvAll]
  | n, _ :: _, [], _, _ => by simp [deqs, toPys, PyData.eqvAll]
  | n, x :: xs, y :: ys, ha, hb => by
    have ha : pl n x = true ∧ pls n xs = true := by cases n <;> simpa [pls] using ha
    have hb : pl n y = true ∧ pls n ys = true := by cases n <;> simpa [pls] using hb
    simp only [deqs, toPys, PyData.eqvAll]
    rw [deq_eqv n x y ha.1 hb.1, deqs_eqv n xs ys ha.2 hb.2]
end
section
variable {K : PySem.W.Frag} {Z : Addr → Prop} {H : Hp}
mutual
theorem Dn.dp : ∀ (n : Nat) (d : D) (v : V), pl n d = true → Dn K Z H v d → Dp K H v (toPy d)
  | n, .non, _, _, h => by cases h; simp only [toPy]; exact .non
  | n, .bl b, _, _, h => by cases h; simp only [toPy]; exact .bl b
  | n, .int b, _, _, h => by cases h; simp only [toPy]; exact .int b
  | n, .str b, _, _, h => by cases h; simp only [toPy, mkS_cps]; exact .str _
  | 0, .tup _, _, hp, _ => by simp [pl] at hp
  | 0, .lst _, _, hp, _ => by simp [pl] at hp
  | n + 1, .tup ds, _, hp, h => by
    cases h with
    | tup q r => simp only [toPy]; exact .tup q.sq (Dns.dp n ds _ (by simpa [pl] using hp) r)
  | n + 1, .lst ds, _, hp, h => by
    cases h with
    | lst z q r => simp only [toPy]; exact .lst (.inl q) (Dns.dp n ds _ (by simpa [pl] using hp) r)
    | lstK q r => simp only [toPy]; exact .lst (.inr q) (Dns.dp n ds _ (by simpa [pl] using hp) r)
  | n, .dic _, _, hp, _ => by cases n <;> simp [pl] at hp
  | n, .obj _, _, hp, _ => by cases n <;> simp [pl] at hp
theorem Dns.dp : ∀ (n : Nat) (ds : List D) (vs : List V), pls n ds = true → Dns K Z H vs ds → DpAll K H vs (toPys ds)
  | n, [], _, _, h => by cases h; simp only [toPys]; exact .nil
  | n, d :: ds, _, hp, h => by
    have hp : pl n d = true ∧ pls n ds = true := by cases n <;> simpa [pls] using hp
    cases h with
    | cons a b => simp only [toPys]; exact .cons (Dn.dp n d _ hp.1 a) (Dns.dp n ds _ hp.2 b)
end
theorem Rdn.dp {n : Nat} {d : D} {v : V} (hp : pl n d = true) (h : Rdn K Z H v d) : Dp K H v (toPy d) := by
  rcases h with h | ⟨a, rfl, h⟩
  · exact h.dp n d v hp
  · cases d <;> first | exact h.elim | skip
    rename_i ds
    obtain ⟨xs, h1, h2⟩ := h
    cases n with
    | zero => simp [pl] at hp
    | succ n => simp only [toPy]; exact .lst (SqL.of h1) (h2.dp n ds xs (by simpa [pl] using hp))
end
theorem shaped_of {n : Nat} {d : D} (h : pl n d = true) (hn : n ≤ 64) : SeqAt.shaped (toPy d) = true := by
  have := pl_lay n d h
  unfold SeqAt.shaped
  rw [this.1, decide_eq_true (by omega)]
  rfl
theorem memD_any : ∀ (n : Nat) (a : D) (ys : List D), pl n a = true → pls n ys = true → memD a ys = (toPys ys).any fun z => PyData.eqv z (toPy a)
  | n, a, [], _, _ => by simp [memD, toPys]
  | n, a, y :: ys, ha, hy => by
    have hy : pl n y = true ∧ pls n ys = true := by cases n <;> simpa [pls] using hy
    simp only [memD, toPys, List.any_cons]
    rw [deq_eqv n y a hy.1 ha, memD_any n a ys ha hy.2]
theorem idxOf_at : ∀ (n : Nat) (a : D) (ys : List D) (m j : Nat), pl n a = true → pls n ys = true → idxOf a ys m = some j →
    ∃ k z, j = m + k ∧ ys[k]? = some z ∧ PyData.eqv (toPy z) (toPy a) = true ∧ ∀ i z', i < k → ys[i]? = some z' → PyData.eqv (toPy z') (toPy a) = false
  | n, a, [], m, j, _, _, h => by simp [idxOf] at h
  | n, a, y :: ys, m, j, ha, hy, h => by
    have hy : pl n y = true ∧ pls n ys = true := by cases n <;> simpa [pls] using hy
    have e := deq_eqv n y a hy.1 ha
    unfold idxOf at h
    split at h
    · rename_i hd
      cases h
      exact ⟨0, y, rfl, rfl, e ▸ hd, fun i z' hi _ => absurd hi (Nat.not_lt_zero _)⟩
    · rename_i hd
      obtain ⟨k, z, h1, h2, h3, h4⟩ := idxOf_at n a ys (m + 1) j ha hy.2 h
      refine ⟨k + 1, z, by omega, by simpa using h2, h3, fun i z' hi hz => ?_⟩
      cases i with
      | zero =>
        simp at hz; subst hz
        rw [← e]; simpa using hd
      | succ i => exact h4 i z' (by omega) (by simpa using hz)
end Mini

namespace Mini
open PySem PySem.Spec PyProof.Rows L2
def cOp : CO → CmpOp
  | .eq => .Eq | .ne => .NotEq | .lt => .Lt | .le => .LtE | .gt => .Gt | .ge => .GtE | .isin => .In | .notin => .NotIn
theorem llt_dec : ∀ x y : List Nat, llt x y = decide (x < y)
  | [], [] => by simp [llt]
  | _ :: _, [] => by simp [llt]
  | [], _ :: _ => by simp [llt]
  | x :: xs, y :: ys => by
    unfold llt
    by_cases h : x = y
    · subst h
      rw [if_pos (by simp), llt_dec xs ys]
      simp
    · rw [if_neg (by simpa using h)]
      have : (x :: xs < y :: ys) ↔ x < y := by
        rw [List.cons_lt_cons_iff]
        constructor
        · rintro (a | ⟨a, _⟩)
          · exact a
          · exact absurd a h
        · exact .inl
      rw [decide_eq_decide.mpr this]
      by_cases q : x < y
      · simp [q]
      · rw [decide_eq_false q]
        cases r : Nat.blt x y with
        | false => rfl
        | true => rw [Nat.blt_eq] at r; exact absurd r q
section
variable {X : Cx}
def rInT (K : PySem.W.Frag) (neg : Bool) : R2 := fun x y H Q => ∃ d ds, Dp K H x d ∧ Dp K H y (.tuple ds) ∧ SeqAt.shaped d = true ∧ SeqAt.shaped (.tuple ds) = true ∧ Q (.bl (if neg then !(ds.any fun z => PyData.eqv z d) else (ds.any fun z => PyData.eqv z d))) H
theorem op_inT (hu : X.A.units + 65 < cLine) : OpR X (compareOp .In) (rInT X.K false) := by
  intro pins s σ H x y v u Q I rx ry h
  obtain ⟨d, ds, hd, he, sd, se, q⟩ := h
  obtain ⟨as, r1⟩ := Dp.reads I d x v hd rx
  obtain ⟨bs, r2⟩ := Dp.reads I (.tuple ds) y u he ry
  exact SeqAt.in_tuple_reads r2 r1 (SeqAt.canLay_of_shaped se) (SeqAt.canLay_of_shaped sd) (room_in_shaped sd hu) ⟨.bl _, H, I, rfl, q⟩
theorem op_notInT (hu : X.A.units + 65 < cLine) : OpR X (compareOp .NotIn) (rInT X.K true) := by
  intro pins s σ H x y v u Q I rx ry h
  obtain ⟨d, ds, hd, he, sd, se, q⟩ := h
  obtain ⟨as, r1⟩ := Dp.reads I d x v hd rx
  obtain ⟨bs, r2⟩ := Dp.reads I (.tuple ds) y u he ry
  exact SeqAt.notIn_tuple_reads r2 r1 (SeqAt.canLay_of_shaped se) (SeqAt.canLay_of_shaped sd) (room_in_shaped sd hu) ⟨.bl _, H, I, rfl, q⟩
def rCO (K : PySem.W.Frag) (o : CO) : R2 := fun x y H Q => ∃ Z d d' k, Rdn K Z H x d ∧ Rdn K Z H y d' ∧ cmpop o d d' = some k ∧ Q (.bl k) H
theorem op_CO (hu : X.A.units + 65 < cLine) (o : CO) : OpR X (compareOp (cOp o)) (rCO X.K o) := by
  intro pins s σ H x y v u Q I rx ry h
  obtain ⟨Z, d, d', k, h1, h2, hk, q⟩ := h
  have hu' : X.A.units + 64 < cLine := Nat.lt_of_succ_lt hu
  cases o with
  | eq =>
    have hk : (if (pl 64 d && pl 64 d') = true then some (deq d d') else none) = some k := by
      cases d <;> simpa only [cmpop] using hk
    split at hk
    · rename_i hp
      rw [Bool.and_eq_true] at hp
      cases hk
      rw [deq_eqv 64 d d' hp.1 hp.2] at q
      exact op_eqD hu' pins s σ H x y v u Q I rx ry ⟨_, _, h1.dp hp.1, h2.dp hp.2, shaped_of hp.1 (Nat.le_refl _), shaped_of hp.2 (Nat.le_refl _), q⟩
    · cases hk
  | ne =>
    have hk : (if (pl 64 d && pl 64 d') = true then some (!deq d d') else none) = some k := by
      cases d <;> simpa only [cmpop] using hk
    split at hk
    · rename_i hp
      rw [Bool.and_eq_true] at hp
      cases hk
      rw [deq_eqv 64 d d' hp.1 hp.2] at q
      exact op_neD hu' pins s σ H x y v u Q I rx ry ⟨_, _, h1.dp hp.1, h2.dp hp.2, shaped_of hp.1 (Nat.le_refl _), shaped_of hp.2 (Nat.le_refl _), q⟩
    · cases hk
  | lt =>
    cases d <;> cases d' <;> first | cases hk | skip
    · cases h1.int; cases h2.int
      exact op_lt pins s σ H _ _ v u Q I rx ry ⟨_, _, rfl, rfl, q⟩
    · obtain ⟨z, rfl, rfl⟩ := h1.str
      obtain ⟨z', rfl, rfl⟩ := h2.str
      rw [llt_dec] at q
      exact op_lt_str pins s σ H _ _ v u Q I rx ry ⟨_, _, rfl, rfl, q⟩
  | le =>
    cases d <;> cases d' <;> first | cases hk | skip
    cases h1.int; cases h2.int
    exact op_le pins s σ H _ _ v u Q I rx ry ⟨_, _, rfl, rfl, q⟩
  | gt =>
    cases d <;> cases d' <;> first | cases hk | skip
    cases h1.int; cases h2.int
    exact op_gt pins s σ H _ _ v u Q I rx ry ⟨_, _, rfl, rfl, q⟩
  | ge =>
    cases d <;> cases d' <;> first | cases hk | skip
    cases h1.int; cases h2.int
    exact op_ge pins s σ H _ _ v u Q I rx ry ⟨_, _, rfl, rfl, q⟩
  | isin =>
    cases d' with
    | lst ys =>
      have hk : (if (pl 60 d && pls 60 ys) = true then some (memD d ys) else none) = some k := by cases d <;> simpa only [cmpop] using hk
      split at hk
      · rename_i hp
        rw [Bool.and_eq_true] at hp
        cases hk
        have hp2 : pl 61 (.lst ys) = true := by simpa [pl] using hp.2
        rw [memD_any 60 d ys hp.1 hp.2] at q
        have := h2.dp hp2
        simp only [toPy] at this
        exact op_inD hu pins s σ H x y v u Q I rx ry ⟨_, _, h1.dp hp.1, this, shaped_of hp.1 (by decide), by have := shaped_of hp2 (by decide); simpa only [toPy] using this, q⟩
      · cases hk
    | tup ys =>
      have hk : (if (pl 60 d && pls 60 ys) = true then some (memD d ys) else none) = some k := by cases d <;> simpa only [cmpop] using hk
      split at hk
      · rename_i hp
        rw [Bool.and_eq_true] at hp
        cases hk
        have hp2 : pl 61 (.tup ys) = true := by simpa [pl] using hp.2
        rw [memD_any 60 d ys hp.1 hp.2] at q
        have := h2.dp hp2
        simp only [toPy] at this
        exact op_inT hu pins s σ H x y v u Q I rx ry ⟨_, _, h1.dp hp.1, this, shaped_of hp.1 (by decide), by have := shaped_of hp2 (by decide); simpa only [toPy] using this, q⟩
      · cases hk
    | _ => cases d <;> cases hk
  | notin =>
    cases d' with
    | lst ys =>
      have hk : (if (pl 60 d && pls 60 ys) = true then some (!memD d ys) else none) = some k := by cases d <;> simpa only [cmpop] using hk
      split at hk
      · rename_i hp
        rw [Bool.and_eq_true] at hp
        cases hk
        have hp2 : pl 61 (.lst ys) = true := by simpa [pl] using hp.2
        rw [memD_any 60 d ys hp.1 hp.2] at q
        have := h2.dp hp2
        simp only [toPy] at this
        exact op_notInD hu pins s σ H x y v u Q I rx ry ⟨_, _, h1.dp hp.1, this, shaped_of hp.1 (by decide), by have := shaped_of hp2 (by decide); simpa only [toPy] using this, q⟩
      · cases hk
    | tup ys =>
      have hk : (if (pl 60 d && pls 60 ys) = true then some (!memD d ys) else none) = some k := by cases d <;> simpa only [cmpop] using hk
      split at hk
      · rename_i hp
        rw [Bool.and_eq_true] at hp
        cases hk
        have hp2 : pl 61 (.tup ys) = true := by simpa [pl] using hp.2
        rw [memD_any 60 d ys hp.1 hp.2] at q
        have := h2.dp hp2
        simp only [toPy] at this
        exact op_notInT hu pins s σ H x y v u Q I rx ry ⟨_, _, h1.dp hp.1, this, shaped_of hp.1 (by decide), by have := shaped_of hp2 (by decide); simpa only [toPy] using this, q⟩
      · cases hk
    | _ => cases d <;> cases hk
end
/-! ### tests -/
/-- the end of a test -/
abbrev FinT (Q : Bool → Hp → Prop) : RV → G → Prop := fun rv g' => ∃ k, truthR rv g'.cs = some k ∧ Q k g'.H
/-- the reading of a Core expression as a test -/
def TTv (K : PySem.W.Frag) (W : WX) (call : CallT) (modes : Nat → List Bool) (c : E) : TT := fun σ H Q => ∃ sl g, g.H = H ∧ SRel K σ sl g ∧ Post K W σ sl g (ev call modes c sl g.cs) (FinT Q)
abbrev TTV (X : Cx) (W : WX) (call : CallT) (modes : Nat → List Bool) (c : E) : TT := TTv X.K W call modes c
section
variable {X : Cx} {W : WX} {call : CallT} {modes : Nat → List Bool} {e e1 e2 e3 : Expr} {c c1 c2 c3 : E} {pos : Pos}
theorem bin_get {σ : L2.St} {sl : Slots} {g g2 : G} {x y : RV} {β : Type} {f : D → D → Res β} {P : β → G → Prop}
    (p : Post X.K W σ sl g (match dr x g2.cs, dr y g2.cs with | some dx, some dy => f dx dy | _, _ => .stuck) P) : ∃ d d', dr x g2.cs = some d ∧ dr y g2.cs = some d' ∧ Post X.K W σ sl g (f d d') P := by
  cases q1 : dr x g2.cs with
  | none => rw [q1] at p; exact p.elim
  | some d =>
    cases q2 : dr y g2.cs with
    | none => rw [q1, q2] at p; exact p.elim
    | some d' => rw [q1, q2] at p; exact ⟨d, d', rfl, rfl, p⟩
theorem r_cmp {o : CO} (hu : X.A.units + 65 < cLine) (ha : PE X e1 (TV X W call modes c1)) (hb : PE X e2 (TV X W call modes c2)) (hm : behindInMarks (cOp o) e2 = false) :
    PE X (.Compare e1 [cOp o] [e2] pos) (TV X W call modes (.cmp o c1 c2)) := by
  refine PE.imp (pe_cmpR (op_CO hu o) ha hb hm) fun σ H Q h => ?_
  obtain ⟨sl, g, rfl, s, h⟩ := h
  simp only [ev] at h
  unfold tOp
  refine TEv.two s h fun x y v w g2 ex s2 r1 r2 _ p => ?_
  obtain ⟨d, d', q1, q2, p⟩ := bin_get p
  cases q3 : cmpop o d d' with
  | none => rw [q3] at p; exact p.elim
  | some k => rw [q3] at p; exact ⟨_, d, d', k, s2.read r1 q1, s2.read r2 q2, q3, fin_imm ex s2 (.bl _) p⟩
theorem t_cmp {o : CO} (hu : X.A.units + 65 < cLine) (ha : PE X e1 (TV X W call modes c1)) (hb : PE X e2 (TV X W call modes c2)) (hm : behindInMarks (cOp o) e2 = false) :
    PT X (.Compare e1 [cOp o] [e2] pos) (TTV X W call modes (.cmp o c1 c2)) := by
  refine PT.imp (pt_cmpR (op_CO hu o) ha hb hm) fun σ H Q h => ?_
  obtain ⟨sl, g, rfl, s, h⟩ := h
  simp only [ev] at h
  unfold tTest tOp
  refine TEv.two s h fun x y v w g2 ex s2 r1 r2 _ p => ?_
  obtain ⟨d, d', q1, q2, p⟩ := bin_get p
  cases q3 : cmpop o d d' with
  | none => rw [q3] at p; exact p.elim
  | some k =>
    rw [q3] at p
    obtain ⟨k', h1, h2⟩ := p.now ex s2
    cases h1
    exact ⟨_, d, d', k, s2.read r1 q1, s2.read r2 q2, q3, k, rfl, h2⟩
theorem r_chain {o o' : CO} (hu : X.A.units + 65 < cLine) (ha : PE X e1 (TV X W call modes c1)) (hb : PE X e2 (TV X W call modes c2)) (hc : PE X e3 (TV X W call modes c3)) (hm : lastMarks [cOp o, cOp o'] [e2, e3] = false) :
    PE X (.Compare e1 [cOp o, cOp o'] [e2, e3] pos) (TV X W call modes (.chain o o' c1 c2 c3)) := by
  refine PE.imp (pe_chain (op_CO hu o) (op_CO hu o') ha hb hc hm) fun σ H Q h => ?_
  obtain ⟨sl, g, rfl, s, h⟩ := h
  simp only [ev] at h
  unfold tChain
  refine TEv.two s h fun x y v w g2 ex s2 r1 r2 _ p => ?_
  obtain ⟨d, d', q1, q2, p⟩ := bin_get p
  cases q3 : cmpop o d d' with
  | none => rw [q3] at p; exact p.elim
  | some k =>
    rw [q3] at p
    refine ⟨_, d, d', k, s2.read r1 q1, s2.read r2 q2, q3, k, rfl, ?_⟩
    cases k with
    | false => exact fin_imm ex s2 (.bl _) p
    | true =>
      rw [if_pos rfl]
      refine TEv.one ex s2 p fun z u g3 ex3 s3 r3 p3 => ?_
      obtain ⟨d2, d3, q4, q5, p3⟩ := bin_get p3
      cases q6 : cmpop o' d2 d3 with
      | none => rw [q6] at p3; exact p3.elim
      | some k' => rw [q6] at p3; exact ⟨_, d2, d3, k', s3.read (s2.rvx ex3 r2) q4, s3.read r3 q5, q6, fin_imm (ex.trans ex3) s3 (.bl _) p3⟩
theorem t_chain {o o' : CO} (hu : X.A.units + 65 < cLine) (ha : PE X e1 (TV X W call modes c1)) (hb : PE X e2 (TV X W call modes c2)) (hc : PE X e3 (TV X W call modes c3)) (hm : lastMarks [cOp o, cOp o'] [e2, e3] = false) :
    PT X (.Compare e1 [cOp o, cOp o'] [e2, e3] pos) (TTV X W call modes (.chain o o' c1 c2 c3)) := by
  refine PT.imp (pt_chain (op_CO hu o) (op_CO hu o') ha hb hc hm) fun σ H Q h => ?_
  obtain ⟨sl, g, rfl, s, h⟩ := h
  simp only [ev] at h
  unfold tTest tChain
  refine TEv.two s h fun x y v w g2 ex s2 r1 r2 _ p => ?_
  obtain ⟨d, d', q1, q2, p⟩ := bin_get p
  cases q3 : cmpop o d d' with
  | none => rw [q3] at p; exact p.elim
  | some k =>
    rw [q3] at p
    refine ⟨_, d, d', k, s2.read r1 q1, s2.read r2 q2, q3, k, rfl, ?_⟩
    cases k with
    | false =>
      obtain ⟨k', h1, h2⟩ := p.now ex s2
      cases h1
      exact ⟨false, rfl, h2⟩
    | true =>
      rw [if_pos rfl]
      refine TEv.one ex s2 p fun z u g3 ex3 s3 r3 p3 => ?_
      obtain ⟨d2, d3, q4, q5, p3⟩ := bin_get p3
      cases q6 : cmpop o' d2 d3 with
      | none => rw [q6] at p3; exact p3.elim
      | some k' =>
        rw [q6] at p3
        obtain ⟨k'', h1, h2⟩ := p3.now (ex.trans ex3) s3
        cases h1
        exact ⟨_, d2, d3, k', s3.read (s2.rvx ex3 r2) q4, s3.read r3 q5, q6, k', rfl, h2⟩
/-- any value as a test -/
theorem t_val (he : ∀ whole, isTrue e X.env whole = (do let v ← whole; standAt e.pos; holding [v] (truthy v))) (ha : PE X e (TV X W call modes c)) : PT X e (TTV X W call modes c) := by
  refine PT.imp (pt_truth ha he) fun σ H Q h => ?_
  obtain ⟨sl, g, rfl, s, h⟩ := h
  refine ⟨sl, g, rfl, s, h.mono fun rv g' _ _ s' p v r => ?_⟩
  obtain ⟨k, h1, h2⟩ := p
  exact ⟨k, truR_of s' r h1, h2⟩
theorem TTv.one {K : PySem.W.Frag} {σ : L2.St} {sl : Slots} {g : G} {β : Type} {f : RV → Cells → Res β} {P : β → G → Prop} {R : Bool → Hp → Prop} (s : SRel K σ sl g)
    (h : Post K W σ sl g ((ev call modes c sl g.cs).bind f) P)
    (hf : ∀ x g1, Ext g g1 → SRel K σ sl g1 → Post K W σ sl g (f x g1.cs) P → ∃ k, truthR x g1.cs = some k ∧ R k g1.H) : TTv K W call modes c σ g.H R :=
  ⟨sl, g, rfl, s, h.bind.mono fun x g1 _ e1 s1 p1 => hf x g1 e1 s1 p1⟩
theorem t_not (ha : PT X e (TTV X W call modes c)) : PT X (.UnaryOp .Not e pos) (TTV X W call modes (.not c)) := by
  refine PT.imp (pt_not ha) fun σ H Q h => ?_
  obtain ⟨sl, g, rfl, s, h⟩ := h
  simp only [ev] at h
  unfold tNot
  refine TTv.one s h fun x g1 ex s1 p => ?_
  cases q : truthR x g1.cs with
  | none => rw [q] at p; exact p.elim
  | some k =>
    rw [q] at p
    obtain ⟨k', h1, h2⟩ := p.now ex s1
    cases h1
    exact ⟨k, rfl, h2⟩
theorem t_and1 (ha : PT X e (TTV X W call modes c)) : PW X (.BoolOp .And [e] pos) (TTV X W call modes c) := pw_and1 ha
theorem t_or1 (ha : PT X e (TTV X W call modes c)) : PW X (.BoolOp .Or [e] pos) (TTV X W call modes c) := pw_or1 ha
theorem t_and {rest : List Expr} (ha : PT X e (TTV X W call modes c1)) (hb : PW X (.BoolOp .And (e2 :: rest) pos) (TTV X W call modes c2)) : PW X (.BoolOp .And (e :: e2 :: rest) pos) (TTV X W call modes (.and c1 c2)) := by
  refine PW.imp (pw_and ha hb) fun σ H Q h => ?_
  obtain ⟨sl, g, rfl, s, h⟩ := h
  simp only [ev] at h
  unfold tAnd
  refine TTv.one s h fun x g1 ex s1 p => ?_
  cases q : truthR x g1.cs with
  | none => rw [q] at p; exact p.elim
  | some k =>
    rw [q] at p
    refine ⟨k, rfl, ?_⟩
    cases k with
    | true => rw [if_pos rfl]; exact ⟨sl, g1, rfl, s1, p.later ex⟩
    | false =>
      obtain ⟨k', h1, h2⟩ := p.now ex s1
      rw [q] at h1
      cases h1
      rw [if_neg (by decide)]
      exact h2
theorem t_or {rest : List Expr} (ha : PT X e (TTV X W call modes c1)) (hb : PW X (.BoolOp .Or (e2 :: rest) pos) (TTV X W call modes c2)) : PW X (.BoolOp .Or (e :: e2 :: rest) pos) (TTV X W call modes (.or c1 c2)) := by
  refine PW.imp (pw_or ha hb) fun σ H Q h => ?_
  obtain ⟨sl, g, rfl, s, h⟩ := h
  simp only [ev] at h
  unfold tOr
  refine TTv.one s h fun x g1 ex s1 p => ?_
  cases q : truthR x g1.cs with
  | none => rw [q] at p; exact p.elim
  | some k =>
    rw [q] at p
    refine ⟨k, rfl, ?_⟩
    cases k with
    | false => rw [if_neg (by decide)]; exact ⟨sl, g1, rfl, s1, p.later ex⟩
    | true =>
      obtain ⟨k', h1, h2⟩ := p.now ex s1
      rw [q] at h1
      cases h1
      rw [if_pos rfl]
      exact h2
/-! ### and, or, not, if as values -/
theorem r_and1 (ha : PE X e (TV X W call modes c)) {op : BoolOp} : PE X (.BoolOp op [e] pos) (TV X W call modes c) := pe_one ha
theorem r_and {rest : List Expr} (ha : PE X e (TV X W call modes c1)) (hb : PE X (.BoolOp .And (e2 :: rest) pos) (TV X W call modes c2)) : PE X (.BoolOp .And (e :: e2 :: rest) pos) (TV X W call modes (.and c1 c2)) := by
  refine PE.imp (pe_andT ha hb) fun σ H Q h => ?_
  obtain ⟨sl, g, rfl, s, h⟩ := h
  simp only [ev] at h
  unfold tAndT
  refine TEv.one (Ext.refl g) s h fun x v g1 ex s1 r p => ?_
  cases q : truthR x g1.cs with
  | none => rw [q] at p; exact p.elim
  | some k =>
    rw [q] at p
    refine ⟨k, truR_of s1 r q, ?_⟩
    cases k with
    | true => rw [if_pos rfl]; exact ⟨sl, g1, rfl, s1, (p.later ex).mono fun rv g' _ ex' s' p v r => p v (r.weak fun a => ex.none)⟩
    | false => rw [if_neg (by decide)]; exact p.now ex s1 v r
theorem r_or {rest : List Expr} (ha : PE X e (TV X W call modes c1)) (hb : PE X (.BoolOp .Or (e2 :: rest) pos) (TV X W call modes c2)) : PE X (.BoolOp .Or (e :: e2 :: rest) pos) (TV X W call modes (.or c1 c2)) := by
  refine PE.imp (pe_orT ha hb) fun σ H Q h => ?_
  obtain ⟨sl, g, rfl, s, h⟩ := h
  simp only [ev] at h
  unfold tOrT
  refine TEv.one (Ext.refl g) s h fun x v g1 ex s1 r p => ?_
  cases q : truthR x g1.cs with
  | none => rw [q] at p; exact p.elim
  | some k =>
    rw [q] at p
    refine ⟨k, truR_of s1 r q, ?_⟩
    cases k with
    | false => rw [if_neg (by decide)]; exact ⟨sl, g1, rfl, s1, (p.later ex).mono fun rv g' _ ex' s' p v r => p v (r.weak fun a => ex.none)⟩
    | true => rw [if_pos rfl]; exact p.now ex s1 v r
theorem r_not (ha : PE X e (TV X W call modes c)) : PE X (.UnaryOp .Not e pos) (TV X W call modes (.not c)) := by
  refine PE.imp (pe_notT ha) fun σ H Q h => ?_
  obtain ⟨sl, g, rfl, s, h⟩ := h
  simp only [ev] at h
  unfold tNotT
  refine TEv.one (Ext.refl g) s h fun x v g1 ex s1 r p => ?_
  cases q : truthR x g1.cs with
  | none => rw [q] at p; exact p.elim
  | some k =>
    rw [q] at p
    exact ⟨k, truR_of s1 r q, fin_imm ex s1 (.bl _) p⟩
theorem r_ite (hc : PT X e1 (TTV X W call modes c1)) (ha : PE X e2 (TV X W call modes c2)) (hb : PE X e3 (TV X W call modes c3)) : PE X (.IfExp e1 e2 e3 pos) (TV X W call modes (.ite c1 c2 c3)) := by
  refine PE.imp (pe_ifExp hc ha hb) fun σ H Q h => ?_
  obtain ⟨sl, g, rfl, s, h⟩ := h
  simp only [ev] at h
  unfold tIf
  refine TTv.one s h fun x g1 ex s1 p => ?_
  cases q : truthR x g1.cs with
  | none => rw [q] at p; exact p.elim
  | some k =>
    rw [q] at p
    refine ⟨k, rfl, ?_⟩
    cases k with
    | true => rw [if_pos rfl]; exact ⟨sl, g1, rfl, s1, (p.later ex).mono fun rv g' _ ex' s' p v r => p v (r.weak fun a => ex.none)⟩
    | false => rw [if_neg (by decide)]; exact ⟨sl, g1, rfl, s1, (p.later ex).mono fun rv g' _ ex' s' p v r => p v (r.weak fun a => ex.none)⟩
end
end Mini

namespace Mini
open PySem PySem.Spec PyProof.Rows L2
/-! ### argument lists, displays -/
abbrev FinA (K : PySem.W.Frag) (H : Hp) (Q : List V → Hp → Prop) : List RV → G → Prop := fun rvs g' => ∀ vs, RvsRel K H g' vs rvs → Q vs g'.H
def TAv (K : PySem.W.Frag) (W : WX) (call : CallT) (modes : Nat → List Bool) (c : E) : TA := fun σ H Q => ∃ sl g, g.H = H ∧ SRel K σ sl g ∧ Post K W σ sl g (evs call modes c sl g.cs) (FinA K H Q)
abbrev TAV (X : Cx) (W : WX) (call : CallT) (modes : Nat → List Bool) (c : E) : TA := TAv X.K W call modes c
section
variable {X : Cx} {W : WX} {call : CallT} {modes : Nat → List Bool} {e e1 e2 e3 : Expr} {es : List Expr} {c c1 c2 c3 : E} {pos : Pos}
theorem a_nil : PA X [] (TAV X W call modes .nil) := by
  refine PA.imp pa_nil fun σ H Q h => ?_
  obtain ⟨sl, g, rfl, s, h⟩ := h
  simp only [evs] at h
  exact h.now (Ext.refl g) s [] .nil
theorem apart_in {K : PySem.W.Frag} {H0 : Hp} {g1 g2 : G} {v : V} {x : RV} (h1 : RvRel K H0 g1 v x) : ∀ {vs : List V} {rvs : List RV}, RvsRel K g1.H g2 vs rvs → ∀ v' rv', (v', rv') ∈ vs.zip rvs → Apart v x v' rv' :=
  fun h v' rv' m => apart_of h1 (h.mem v' rv' m)
theorem a_cons (ha : PE X e (TV X W call modes c1)) (hr : PA X es (TAV X W call modes c2)) (hs : starEach (e :: es) X.env = (false, eval e X.env) :: starEach es X.env) : PA X (e :: es) (TAV X W call modes (.cons c1 c2)) := by
  refine PA.imp (pa_cons ha hr hs) fun σ H Q h => ?_
  obtain ⟨sl, g, rfl, s, h⟩ := h
  simp only [evs] at h
  unfold tCons
  refine TEv.one (Ext.refl g) s h fun x v g1 ex s1 r1 p => ?_
  refine ⟨sl, g1, rfl, s1, (p.bind.later ex).mono fun rvs g2 _ ex2 s2 p vs r2 => ?_⟩
  exact p.now (ex.trans ex2) s2 (v :: vs) (.cons (s1.rvx ex2 r1) (apart_in r1 r2) (r2.weak fun a ha => ex.none ha))
/-- a display -/
def tTupF (t : TA) : TE := fun σ H Q => t σ H fun xs H1 => xs.length ≤ sizeLine ∧ ∀ p o, H1 p = none → o.dict = none → Q (.ref p) (upd H1 p (.frz o (.tup xs)))
theorem pe_tupF {t : TA} {x1 : Nat} (h : PA X es t) : PE X (.Tuple es x1 pos) (tTupF t) := by
  refine ⟨fun pins s σ H Q I hq => ?_⟩
  refine wpAny_Tuple_spliced (thn (h.run pos pins s σ H _ I hq) fun us s1 ⟨xs, H1, I1, r, z, q⟩ => ⟨by rw [← r.length]; exact z, ?_⟩)
  have hf : H1 s1.heap.objs.size = none := I1.hok.fresh (Nat.le_refl _)
  refine ⟨.ref s1.heap.objs.size, upd H1 s1.heap.objs.size (.frz { cls := .type "tuple", data := .seq us.toArray } (.tup xs)), I1.laid (t' := s1.toks) (fun b u e => Heap.get?_push_of_some _ e) (Nat.le_refl _) ?_, rfl, q _ _ hf rfl⟩
  exact ⟨Heap.get?_push_size _ rfl, z, us, r, ⟨_, Heap.get?_push_size _ rfl, rfl, _, rfl⟩⟩
theorem TAv.one {K : PySem.W.Frag} {σ : L2.St} {sl : Slots} {g0 g : G} {β : Type} {f : List RV → Cells → Res β} {P : β → G → Prop} {R : List V → Hp → Prop} (e0 : Ext g0 g) (s : SRel K σ sl g)
    (h : Post K W σ sl g0 ((evs call modes c sl g.cs).bind f) P)
    (hf : ∀ rvs vs g1, Ext g g1 → SRel K σ sl g1 → RvsRel K g.H g1 vs rvs → Post K W σ sl g0 (f rvs g1.cs) P → R vs g1.H) : TAv K W call modes c σ g.H R :=
  ⟨sl, g, rfl, s, (h.bind.later e0).mono fun x g1 _ e1 s1 p1 v r1 => hf x v g1 e1 s1 r1 p1⟩
theorem r_tup {k : Nat} (h : PA X es (TAV X W call modes c)) : PE X (.Tuple es k pos) (TV X W call modes (.tup c)) := by
  refine PE.imp (pe_tupF h) fun σ H Q h => ?_
  obtain ⟨sl, g, rfl, s, h⟩ := h
  simp only [ev] at h
  unfold tTupF
  refine TAv.one (Ext.refl g) s h fun rvs vs g2 ex s2 r2 p => ?_
  cases q : toImms rvs g2.cs with
  | none => rw [q] at p; exact p.elim
  | some z =>
    obtain ⟨ds, cs2⟩ := z
    rw [q] at p
    dsimp only at p
    split at p
    · rename_i hl
      obtain ⟨g3, e1, e2, e3, e4, e5, e6, e7⟩ := freezes rvs vs g2 ds cs2 ex s2 r2 q
      subst e1
      rw [← e2]
      exact ⟨by rw [sizeLine_eq, e7.length]; exact hl, fun p' o hp ho => fin_tup e5 e6 e7 p hp ho⟩
    · exact p.elim
theorem r_lst (h : PA X es (TAV X W call modes c)) : PE X (.List es pos) (TV X W call modes (.lst c)) := by
  refine PE.imp (pe_lst h) fun σ H Q h => ?_
  obtain ⟨sl, g, rfl, s, h⟩ := h
  simp only [ev] at h
  unfold tLst
  refine TAv.one (Ext.refl g) s h fun rvs vs g2 ex s2 r2 p => ?_
  cases q : toImms rvs g2.cs with
  | none => rw [q] at p; exact p.elim
  | some z =>
    obtain ⟨ds, cs2⟩ := z
    rw [q] at p
    dsimp only at p
    split at p
    · rename_i hl
      obtain ⟨g3, e1, e2, e3, e4, e5, e6, e7⟩ := freezes rvs vs g2 ds cs2 ex s2 r2 q
      subst e1
      rw [← e2]
      exact ⟨by rw [sizeLine_eq, e7.length]; exact hl, fun p' hp => fin_lst e5 e6 e7 p hp⟩
    · exact p.elim
/-! ### subscripts -/
theorem ixOf_eq (n : Nat) (i : Int) : ixOf n i = ixN n i := rfl
theorem at_of {ds : List D} {K : PySem.W.Frag} {Z : Addr → Prop} {H : Hp} {xs : List V} {i : Int} {j : Nat} {d : D} (h : Dns K Z H xs ds) (hj : ixOf ds.length i = some j) (hd : nth ds j = some d) : ∃ v, atI xs i = some v ∧ Dn K Z H v d := by
  rw [nth_eq] at hd
  obtain ⟨v, h1, h2⟩ := h.get hd
  refine ⟨v, ?_, h2⟩
  unfold atI
  rw [h.length, ← ixOf_eq, hj]
  exact h1
theorem r_ix (ha : PE X e1 (TV X W call modes c1)) (hb : PE X e2 (TV X W call modes c2)) (hs : PlainIx e2) : PE X (.Subscript e1 e2 pos) (TV X W call modes (.ix c1 c2)) := by
  refine PE.imp (pe_ix ix_seq ha hb hs) fun σ H Q h => ?_
  obtain ⟨sl, g, rfl, s, h⟩ := h
  simp only [ev] at h
  unfold tOp
  refine TEv.two s h fun x y v w g2 ex s2 r1 r2 _ p => ?_
  obtain ⟨d, d', q1, q2, p⟩ := bin_get p
  have h1 := s2.read r1 q1
  have h2 := s2.read r2 q2
  cases q3 : getIx d d' with
  | none => rw [q3] at p; exact p.elim
  | some d2 =>
    rw [q3] at p
    cases d <;> first | (cases d' <;> cases q3; done) | skip
    · rename_i xs
      cases d' <;> first | (cases q3; done) | skip
      rename_i i
      cases h2.int
      obtain ⟨z, rfl, rfl⟩ := h1.str
      simp only [getIx] at q3
      split at q3
      · rename_i hl
        split at q3
        · rename_i j hj
          rw [nth_eq] at q3
          cases q4 : z.cps.toList[j]? with
          | none => rw [q4] at q3; cases q3
          | some cc =>
            rw [q4] at q3
            cases q3
            refine .inr (.inr ⟨z, i, cc, rfl, rfl, by rw [sizeLine_eq, ← str_len]; exact hl, ?_, fin_imm ex s2 (.str ⟨#[cc]⟩) p⟩)
            unfold atI
            rw [← ixOf_eq, hj]
            exact q4
        · cases q3
      · cases q3
    · cases d' <;> first | (cases q3; done) | skip
      rename_i ds i
      cases h2.int
      obtain ⟨a, xs, rfl, q, r⟩ := h1.tup
      simp only [getIx] at q3
      split at q3
      · rename_i j hj
        obtain ⟨v, e1, e2⟩ := at_of r hj q3
        exact .inr (.inl ⟨a, xs, i, v, rfl, rfl, q.sq, e1, fin_imm ex s2 e2 p⟩)
      · cases q3
    · cases d' <;> first | (cases q3; done) | skip
      rename_i ds i
      cases h2.int
      obtain ⟨a, xs, rfl, q, r⟩ := h1.lst
      simp only [getIx] at q3
      split at q3
      · rename_i j hj
        obtain ⟨v, e1, e2⟩ := at_of r hj q3
        exact .inl ⟨a, xs, i, v, rfl, rfl, q, e1, fin_imm ex s2 e2 p⟩
      · cases q3
end
end Mini

namespace Mini
open PySem PySem.Spec PyProof.Rows L2
/-! ### slices -/
section
variable {X : Cx}
def rSlF (K : PySem.W.Frag) : V → Option Int → Option Int → Hp → VK → Prop := fun x lo hi H Q => ∃ a xs, x = .ref a ∧ SqT K H a xs ∧
  (HT.sIx xs.length 0 lo = 0 ∧ HT.sIx xs.length xs.length hi = xs.length → Q (.ref a) H) ∧ (¬ (HT.sIx xs.length 0 lo = 0 ∧ HT.sIx xs.length xs.length hi = xs.length) → ∀ p o, H p = none → o.dict = none → Q (.ref p) (upd H p (.frz o (.tup (cutV xs lo hi)))))
theorem sl_tupF : SlR X (rSlF X.K) := by
  intro pins s σ H x v vl vu lo hi sl Q I rx hs pl pu h
  obtain ⟨a, xs, rfl, hx, q1, q2⟩ := h
  cases rx
  obtain ⟨its, r, ht, hz⟩ := I.tuple hx
  have hlen : its.toArray.size = xs.length := by rw [List.size_toArray]; exact r.length.symm
  refine ⟨"tuple", _, PyProof.Rows.slot_tuple_getitem.lookup, ht.typeIs, ?_⟩
  by_cases hw : HT.sIx xs.length 0 lo = 0 ∧ HT.sIx xs.length xs.length hi = xs.length
  · exact getItem_tuple_whole ht hs pl pu (by rw [hlen]; exact hw) ⟨.ref a, H, I, rfl, q1 hw⟩
  · refine HT.getItem_tuple_cut ht hs pl pu (by rw [hlen]; exact hw) ?_ (by rw [hlen]; exact hz)
    rw [hlen]
    refine ⟨.ref s.heap.objs.size, _, I.laid (t' := s.toks) (o := .frz { cls := .type "tuple", data := .seq ((its.toArray.toList.drop (HT.sIx xs.length 0 lo)).take (HT.sIx xs.length xs.length hi - HT.sIx xs.length 0 lo)).toArray } (.tup (cutV xs lo hi))) (fun b ob q => Heap.get?_push_of_some _ q) (Nat.le_refl _) ?_, rfl, q2 hw _ _ (I.hok.fresh (Nat.le_refl _)) rfl⟩
    · exact ⟨Heap.get?_push_size _ rfl, Nat.le_trans (cutV_length xs lo hi) hz, _, (r.drop (HT.sIx xs.length 0 lo)).take (HT.sIx xs.length xs.length hi - HT.sIx xs.length 0 lo), IsTup.new _ _⟩
def rSlAll (K : PySem.W.Frag) : V → Option Int → Option Int → Hp → VK → Prop := fun x lo hi H Q => rSlL K x lo hi H Q ∨ rSlF K x lo hi H Q ∨ rSlS x lo hi H Q
theorem sl_all : SlR X (rSlAll X.K) := sl_list.or (sl_tupF.or sl_str)
end
theorem sIx_eq (n d : Nat) (o : Option Int) : sIx n d o = HT.sIx n d o := by cases o <;> rfl
theorem cut_eq (xs : List V) (lo hi : Option Int) : cut xs lo hi = cutV xs lo hi := by
  unfold cut cutV
  simp only [sIx_eq]
theorem Dns.cut {K : PySem.W.Frag} {Z : Addr → Prop} {H : Hp} {xs : List V} {ds : List D} (h : Dns K Z H xs ds) (lo hi : Option Int) : Dns K Z H (cutV xs lo hi) (Mini.cut ds lo hi) := by
  rw [← cut_eq]
  unfold Mini.cut
  simp only [h.length]
  exact (h.drop _).take _
theorem cut_str (z : Str) (lo hi : Option Int) : (cutS z lo hi).cps.toList = cut z.cps.toList lo hi := by
  unfold cut cutS
  simp only [sIx_eq, str_len]
section
variable {X : Cx} {W : WX} {call : CallT} {modes : Nat → List Bool} {e e1 e2 e3 : Expr} {es : List Expr} {c c1 c2 c3 : E} {pos : Pos}
/-- a part of a slice -/
def TPv (K : PySem.W.Frag) (W : WX) (call : CallT) (modes : Nat → List Bool) (c : E) : TO := fun σ H Q => ∃ sl g, g.H = H ∧ SRel K σ sl g ∧
  Post K W σ sl g (if isNop c then Res.ok none g.cs else (ev call modes c sl g.cs).bind fun l cs2 => Res.opt (partR l cs2) cs2) fun o g' => Q o g'.H
theorem PO.imp {e : Option Expr} {t t' : TO} (h : PO X e t) (m : ∀ σ H Q, t' σ H Q → t σ H Q) : PO X e t' := ⟨fun pins s σ H Q I q => h.run pins s σ H Q I (m σ H Q q)⟩
theorem p_none : PO X none (TPv X.K W call modes .nop) := by
  refine PO.imp po_none fun σ H Q h => ?_
  obtain ⟨sl, g, rfl, s, h⟩ := h
  exact h.now (Ext.refl g) s
theorem p_some (hn : isNop c = false) (h : PE X e (TV X W call modes c)) : PO X (some e) (TPv X.K W call modes c) := by
  refine PO.imp (po_some h) fun σ H Q h => ?_
  obtain ⟨sl, g, rfl, s, h⟩ := h
  rw [hn, if_neg (by decide)] at h
  unfold tPart
  refine TEv.one (Ext.refl g) s h fun x v g1 ex s1 r1 p => ?_
  cases q : partR x g1.cs with
  | none => rw [q] at p; exact p.elim
  | some o =>
    rw [q] at p
    have p := Post.now (g2 := g1) p ex s1
    unfold partR at q
    cases q1 : dr x g1.cs with
    | none => rw [q1] at q; cases q
    | some d =>
      rw [q1] at q
      cases d <;> first | (cases q; done) | skip
      cases q
      cases (s1.read r1 q1).int
      exact ⟨_, rfl, p⟩
theorem TPv.one {K : PySem.W.Frag} {σ : L2.St} {sl : Slots} {g0 g : G} {β : Type} {f : Option Int → Cells → Res β} {P : β → G → Prop} {R : Option Int → Hp → Prop} (e0 : Ext g0 g) (s : SRel K σ sl g)
    (h : Post K W σ sl g0 ((if isNop c then Res.ok none g.cs else (ev call modes c sl g.cs).bind fun l cs2 => Res.opt (partR l cs2) cs2).bind f) P)
    (hf : ∀ o g1, Ext g g1 → SRel K σ sl g1 → Post K W σ sl g0 (f o g1.cs) P → R o g1.H) : TPv K W call modes c σ g.H R :=
  ⟨sl, g, rfl, s, (h.bind.later e0).mono fun x g1 _ e1 s1 p1 => hf x g1 e1 s1 p1⟩
theorem r_sl {lo hi : Option Expr} {p2 : Pos} (ha : PE X e1 (TV X W call modes c1)) (hl : PO X lo (TPv X.K W call modes c2)) (hh : PO X hi (TPv X.K W call modes c3)) :
    PE X (.Subscript e1 (.Slice lo hi none p2) pos) (TV X W call modes (.sl c1 c2 c3)) := by
  refine PE.imp (pe_slice sl_all ha hl hh) fun σ H Q h => ?_
  obtain ⟨sl, g, rfl, s, h⟩ := h
  simp only [ev] at h
  unfold tSl
  refine TEv.one (Ext.refl g) s h fun x v g1 ex1 s1 r1 p => ?_
  refine TPv.one ex1 s1 p fun l g2 ex2 s2 p => ?_
  refine TPv.one (ex1.trans ex2) s2 p fun h g3 ex3 s3 p => ?_
  have ex := (ex1.trans ex2).trans ex3
  have r3 := s2.rvx ex3 (s1.rvx ex2 r1)
  cases q1 : dr x g3.cs with
  | none => rw [q1] at p; exact p.elim
  | some d =>
    rw [q1] at p
    have hr := s3.read r3 q1
    cases d <;> first | exact p.elim | skip
    · obtain ⟨z, rfl, rfl⟩ := hr.str
      simp only [slice] at p
      split at p
      · rename_i hlen
        refine .inr (.inr ⟨z, rfl, by rw [sizeLine_eq, ← str_len]; exact hlen, fin_imm ex s3 ?_ p⟩)
        rw [← cut_str]; exact .str _
      · exact p.elim
    · obtain ⟨a, xs, rfl, q, r⟩ := hr.tup
      refine .inr (.inl ⟨a, xs, rfl, q.sq, fun hw => ?_, fun hw p' o hp ho => ?_⟩)
      · have p : Post X.K W σ sl g (.ok (.imm (.tup (cut _ l h))) g3.cs) (Fin1 X.K g.H Q) := p
        refine fin_imm ex s3 (.tup q ?_) p
        unfold cut
        simp only [sIx_eq]
        rw [← r.length, hw.1, hw.2, List.drop_zero, Nat.sub_zero, r.length, List.take_length]
        exact r
      · exact fin_tup ex s3 (r.cut l h) p hp ho
    · obtain ⟨a, xs, rfl, q, r⟩ := hr.lst
      exact .inl ⟨a, xs, rfl, q, fun p' hp => fin_lst ex s3 (r.cut l h) p hp⟩
/-! ### isinstance -/
def tyN : Ty → String
  | .int => "int" | .bool => "bool" | .str => "str" | .list => "list" | .tuple => "tuple"
def dTy : D → String
  | .non => "NoneType" | .bl _ => "bool" | .int _ => "int" | .str _ => "str" | .tup _ => "tuple" | .lst _ => "list" | .dic _ => "dict" | .obj _ => ""
theorem tyX_of {K : PySem.W.Frag} {Z : Addr → Prop} {H : Hp} {v : V} {d : D} (h : Rdn K Z H v d) : TyX K H v (.type (dTy d)) := by
  cases d with
  | non => cases h.non; exact .base .non
  | bl b => cases h.bl; exact .base (.bl b)
  | int b => cases h.int; exact .base (.int b)
  | str b => obtain ⟨z, rfl, _⟩ := h.str; exact .base (.str z)
  | tup ds =>
    obtain ⟨a, xs, rfl, q, _⟩ := h.tup
    rcases q with ⟨o, q, _⟩ | ⟨o, _, _, q, q2, _⟩
    · exact .fTuple q
    · exact .kTuple q q2
  | lst ds =>
    obtain ⟨a, xs, rfl, q, _⟩ := h.lst
    rcases q with (q | ⟨o, q⟩) | ⟨o, _, _, q, q2, _⟩
    · exact .base (.lst q)
    · exact .base (.frz q)
    · exact .kList q q2
  | dic kvs => exact h.nodic.elim
  | obj k => exact h.noobj.elim
theorem kit_one {K : PySem.W.Frag} (d : D) (t : Ty) (b : Bool) (h : isTy d t = some b) : PySem.W.kitOne K (.type (dTy d)) (.type (tyN t)) = some b := by
  cases d <;> cases t <;> cases h <;> (refine kit_ty ?_; dsimp only [dTy, tyN]; decide +kernel)
theorem kit_any {K : PySem.W.Frag} (d : D) : ∀ (ts : List Ty) (b : Bool), isTys d ts = some b → PySem.W.kitAny K (.type (dTy d)) (ts.map fun t => .type (tyN t)) = some b
  | [], b, h => by cases h; rfl
  | t :: ts, b, h => by
    unfold isTys at h
    split at h
    · rename_i q
      cases h
      exact kitAny_cons (r := true) (kit_one d t _ q) (fun z => nomatch z) fun _ => rfl
    · rename_i q
      exact kitAny_cons (kit_one d t _ q) (fun _ => kit_any d ts b h) fun z => nomatch z
    · cases h
/-- the classes of isinstance, written as names -/
inductive TyExpr (X : Cx) : Expr → List Ty → Prop
  | one {t : Ty} {x : Str} {p : Pos} (hg : Gl X x) (hm : X.mg x = none) (hb : bootBuiltins x = some (.type (tyN t))) (hn : x ≠ "__name__") (hd : (x == ("__debug__" : Str)) = false) : TyExpr X (.Name x p) [t]
theorem pe_ty {t : Ty} {x : Str} {p : Pos} (hg : Gl X x) (hm : X.mg x = none) (hb : bootBuiltins x = some (.type (tyN t))) (hn : x ≠ "__name__") (hd : (x == ("__debug__" : Str)) = false) : PE X (.Name x p) (tC (.ty (tyN t))) :=
  pe_bltn hg hm hb rfl hn hd
theorem r_isi1 {t : Ty} {x : Str} {p p2 : Pos} (hg : Gl X x) (hm : X.mg x = none) (hb : bootBuiltins x = some (.type (tyN t))) (hn : x ≠ "__name__") (hd : (x == ("__debug__" : Str)) = false)
    (gi : Gl X "isinstance") (mi : X.mg "isinstance" = none) (ha : PE X e (TV X W call modes c)) (he : starEach [e, .Name x p] X.env = (false, eval e X.env) :: starEach [.Name x p] X.env) :
    PE X (.Call (.Name "isinstance" p2) [e, .Name x p] [] pos) (TV X W call modes (.isi [t] c)) := by
  refine PE.imp (pe_callB call_isi gi mi (by decide +kernel) (pa_cons ha (pa_cons (pe_ty hg hm hb hn hd) pa_nil) he) (he := he)) fun σ H Q h => ?_
  obtain ⟨sl, g, rfl, s, h⟩ := h
  simp only [ev] at h
  unfold tCB tCons tC tNil
  refine TEv.one (Ext.refl g) s h fun x v g1 ex s1 r1 p => ?_
  cases q1 : dr x g1.cs with
  | none => rw [q1] at p; exact p.elim
  | some d =>
    rw [q1] at p
    dsimp only at p
    cases q2 : isTys d [t] with
    | none => rw [q2] at p; exact p.elim
    | some b =>
      rw [q2] at p
      have q3 : isTy d t = some b := by
        unfold isTys at q2
        split at q2
        · cases q2; assumption
        · cases q2; assumption
        · cases q2
      exact ⟨v, .ty (tyN t), _, _, b, rfl, .ty _, tyX_of (s1.read r1 q1), kit_one d t b q3, fin_imm ex s1 (.bl _) p⟩
theorem r_isi2 {t t' : Ty} {x x' : Str} {p p' p2 p3 : Pos} {k : Nat} (hg : Gl X x) (hm : X.mg x = none) (hb : bootBuiltins x = some (.type (tyN t))) (hn : x ≠ "__name__") (hd : (x == ("__debug__" : Str)) = false)
    (hg' : Gl X x') (hm' : X.mg x' = none) (hb' : bootBuiltins x' = some (.type (tyN t'))) (hn' : x' ≠ "__name__") (hd' : (x' == ("__debug__" : Str)) = false)
    (gi : Gl X "isinstance") (mi : X.mg "isinstance" = none) (ha : PE X e (TV X W call modes c)) (he : starEach [e, .Tuple [.Name x p, .Name x' p'] k p3] X.env = (false, eval e X.env) :: starEach [.Tuple [.Name x p, .Name x' p'] k p3] X.env) :
    PE X (.Call (.Name "isinstance" p2) [e, .Tuple [.Name x p, .Name x' p'] k p3] [] pos) (TV X W call modes (.isi [t, t'] c)) := by
  refine PE.imp (pe_callB call_isiT gi mi (by decide +kernel) (pa_cons ha (pa_cons (pe_tup (pa_cons (pe_ty hg hm hb hn hd) (pa_cons (pe_ty hg' hm' hb' hn' hd') pa_nil))) pa_nil) he) (he := he)) fun σ H Q h => ?_
  obtain ⟨sl, g, rfl, s, h⟩ := h
  simp only [ev] at h
  unfold tCB tCons
  refine TEv.one (Ext.refl g) s h fun x v g1 ex s1 r1 p => ?_
  cases q1 : dr x g1.cs with
  | none => rw [q1] at p; exact p.elim
  | some d =>
    rw [q1] at p
    dsimp only at p
    cases q2 : isTys d [t, t'] with
    | none => rw [q2] at p; exact p.elim
    | some b =>
      rw [q2] at p
      refine ⟨by show 2 ≤ sizeLine; decide, fun tp hp => ?_⟩
      have ex2 := alloc_ext (o := .tup [.ty (tyN t), .ty (tyN t')]) s1 hp
      have s2 := alloc_rel (o := .tup [.ty (tyN t), .ty (tyN t')]) s1 hp
      refine ⟨v, tp, _, _, _, b, rfl, upd_same, .cons (.ty _) (.cons (.ty _) .nil), tyX_of (s2.read (s1.rvx ex2 r1) q1), kit_any d [t, t'] b q2, ?_⟩
      exact fin_imm (g2 := { g1 with H := upd g1.H tp (.tup [.ty (tyN t), .ty (tyN t')]) }) (ex.trans ex2) s2 (.bl _) p
end
end Mini

namespace Mini
open PySem PySem.Spec PyProof.Rows L2
/-! ### sorting -/
mutual
theorem alk_alike : ∀ (x y : D), alk x y = true → PySem.W.alike (toPy x) (toPy y) = true
  | .non, y, h => by cases y <;> simp [alk] at h
  | .bl _, y, h => by cases y <;> first | (simp [alk] at h; done) | simp [toPy, PySem.W.alike]
  | .int _, y, h => by cases y <;> first | (simp [alk] at h; done) | simp [toPy, PySem.W.alike]
  | .str _, y, h => by cases y <;> first | (simp [alk] at h; done) | simp [toPy, PySem.W.alike]
  | .tup xs, y, h => by
    cases y <;> first | (simp [alk] at h; done) | skip
    simp only [toPy, PySem.W.alike]
    exact alks_alike xs _ (by simpa [alk] using h)
  | .lst xs, y, h => by
    cases y <;> first | (simp [alk] at h; done) | skip
    simp only [toPy, PySem.W.alike]
    exact alks_alike xs _ (by simpa [alk] using h)
  | .dic _, y, h => by cases y <;> simp [alk] at h
  | .obj _, y, h => by cases y <;> simp [alk] at h
theorem alks_alike : ∀ (xs ys : List D), alks xs ys = true → PySem.W.alikeAll (toPys xs) (toPys ys) = true
  | [], ys, _ => by cases ys <;> simp [toPys, PySem.W.alikeAll]
  | _ :: _, [], _ => by simp [toPys, PySem.W.alikeAll]
  | x :: xs, y :: ys, h => by
    simp only [alks, Bool.and_eq_true] at h
    simp only [toPys, PySem.W.alikeAll, Bool.and_eq_true]
    exact ⟨alk_alike x y h.1, alks_alike xs ys h.2⟩
end
mutual
theorem dlt_data : ∀ (n : Nat) (x y : D), pl n x = true → pl n y = true → alk x y = true → dlt x y = PySem.W.dataLt (toPy x) (toPy y)
  | _, .non, y, _, _, h => by cases y <;> simp [alk] at h
  | _, .bl a, y, _, _, h => by
    cases y with
    | bl b => cases a <;> cases b <;> decide
    | _ => simp [alk] at h
  | _, .int _, y, _, _, h => by
    cases y <;> first | (simp [alk] at h; done) | skip
    simp only [toPy, dlt]
    rw [PySem.W.dataLt_int]
  | _, .str a, y, _, _, h => by
    cases y with
    | str b =>
      simp only [toPy, dlt]
      rw [PySem.W.dataLt_str, llt_dec]
      rfl
    | _ => simp [alk] at h
  | 0, .tup xs, y, hp, _, h => by simp [pl] at hp
  | 0, .lst xs, y, hp, _, h => by simp [pl] at hp
  | n + 1, .tup xs, y, hx, hy, h => by
    cases y <;> first | (simp [alk] at h; done) | skip
    rename_i ys
    simp only [toPy, dlt]
    exact dlts_data n xs ys (by simpa [pl] using hx) (by simpa [pl] using hy) (by simpa [alk] using h)
  | n + 1, .lst xs, y, hx, hy, h => by
    cases y <;> first | (simp [alk] at h; done) | skip
    rename_i ys
    simp only [toPy, dlt]
    exact dlts_data n xs ys (by simpa [pl] using hx) (by simpa [pl] using hy) (by simpa [alk] using h)
  | _, .dic _, y, _, _, h => by cases y <;> simp [alk] at h
  | _, .obj _, y, _, _, h => by cases y <;> simp [alk] at h
theorem dlts_data : ∀ (n : Nat) (xs ys : List D), pls n xs = true → pls n ys = true → alks xs ys = true → dlts xs ys = PySem.W.rowLt (toPys xs) (toPys ys)
  | n, [], [], _, _, _ => by
    simp only [dlts, toPys]
    exact (lex_irrefl (O := itemOrd) _).symm
  | n, _ :: _, [], _, _, _ => by
    simp only [dlts, toPys]
    rfl
  | n, [], _ :: _, _, _, _ => by
    simp only [dlts, toPys]
    rfl
  | n, x :: xs, y :: ys, hx, hy, h => by
    simp only [alks, Bool.and_eq_true] at h
    have hx : pl n x = true ∧ pls n xs = true := by cases n <;> simpa [pls] using hx
    have hy : pl n y = true ∧ pls n ys = true := by cases n <;> simpa [pls] using hy
    simp only [dlts, toPys]
    unfold PySem.W.rowLt
    rw [PySem.W.dataLt_cons (alk_alike x y h.1), deq_eqv n x y hx.1 hy.1]
    split
    · exact dlts_data n xs ys hx.2 hy.2 h.2
    · exact dlt_data n x y hx.1 hy.1 h.1
end
/-- sorting from the right, by any order -/
def insBy {α : Type} (lt : α → α → Bool) (x : α) : List α → List α
  | [] => [x]
  | y :: ys => if lt y x then y :: insBy lt x ys else x :: y :: ys
def isortBy {α : Type} (lt : α → α → Bool) : List α → List α
  | [] => []
  | x :: xs => insBy lt x (isortBy lt xs)
section
variable {α : Type} {lt lt' le : α → α → Bool}
theorem insBy_mem (x z : α) : ∀ (ys : List α), z ∈ insBy lt x ys ↔ z = x ∨ z ∈ ys
  | [] => by simp [insBy]
  | y :: ys => by
    unfold insBy
    split
    · rw [List.mem_cons, insBy_mem x z ys, List.mem_cons]
      constructor
      · rintro (h | h | h) <;> simp [h]
      · rintro (h | h | h) <;> simp [h]
    · simp
theorem isortBy_mem (z : α) : ∀ (ys : List α), z ∈ isortBy lt ys ↔ z ∈ ys
  | [] => by simp [isortBy]
  | y :: ys => by
    unfold isortBy
    rw [insBy_mem, isortBy_mem z ys, List.mem_cons]
theorem insBy_congr (x : α) : ∀ (ys : List α), (∀ y ∈ ys, lt y x = lt' y x) → insBy lt x ys = insBy lt' x ys
  | [], _ => rfl
  | y :: ys, h => by
    unfold insBy
    rw [h y (by simp), insBy_congr x ys fun z hz => h z (by simp [hz])]
theorem isortBy_congr : ∀ (ys : List α), (∀ y ∈ ys, ∀ z ∈ ys, lt y z = lt' y z) → isortBy lt ys = isortBy lt' ys
  | [], _ => rfl
  | y :: ys, h => by
    unfold isortBy
    rw [isortBy_congr ys fun z hz w hw => h z (by simp [hz]) w (by simp [hw])]
    exact insBy_congr y _ fun z hz => h z (by simp [(isortBy_mem z ys).mp hz]) y (by simp)
theorem insBy_sorted (T : PySem.W.TotalLe le) (hl : ∀ a b, lt b a = !le a b) (x : α) : ∀ (ys : List α), ys.Pairwise (fun a b => le a b = true) → (insBy lt x ys).Pairwise (fun a b => le a b = true)
  | [], _ => by simp [insBy]
  | y :: ys, h => by
    have h' := List.pairwise_cons.mp h
    unfold insBy
    split
    · rename_i q
      rw [hl] at q
      have yx : le y x = true := by
        rcases T.total x y with z | z
        · rw [z] at q; cases q
        · exact z
      refine List.pairwise_cons.mpr ⟨fun z hz => ?_, insBy_sorted T hl x ys h'.2⟩
      rcases (insBy_mem x z ys).mp hz with e | e
      · rw [e]; exact yx
      · exact h'.1 z e
    · rename_i q
      rw [hl] at q
      have xy : le x y = true := by simpa using q
      refine List.pairwise_cons.mpr ⟨fun z hz => ?_, h⟩
      rcases List.mem_cons.mp hz with e | e
      · rw [e]; exact xy
      · exact T.trans _ _ _ xy (h'.1 z e)
theorem insBy_filter (T : PySem.W.TotalLe le) (hl : ∀ a b, lt b a = !le a b) (c x : α) : ∀ (ys : List α), (insBy lt x ys).filter (PySem.W.sameRank le c) = (x :: ys).filter (PySem.W.sameRank le c)
  | [] => rfl
  | y :: ys => by
    unfold insBy
    split
    · rename_i q
      rw [hl] at q
      have q : le x y = false := by simpa using q
      have ih := insBy_filter T hl c x ys
      rw [List.filter_cons, ih]
      by_cases hx : PySem.W.sameRank le c x = true
      · have hy : PySem.W.sameRank le c y = false := by
          cases hy : PySem.W.sameRank le c y with
          | false => rfl
          | true =>
            unfold PySem.W.sameRank at hx hy
            rw [Bool.and_eq_true] at hx hy
            rw [T.trans _ _ _ hx.2 hy.1] at q
            cases q
        simp [List.filter_cons, hx, hy]
      · simp [List.filter_cons, hx]
    · rfl
theorem isortBy_merge (T : PySem.W.TotalLe le) (hl : ∀ a b, lt b a = !le a b) (xs : List α) : isortBy lt xs = xs.mergeSort le := by
  have h1 : ∀ xs : List α, (isortBy lt xs).Pairwise (fun a b => le a b = true) := by
    intro xs
    induction xs with
    | nil => exact List.Pairwise.nil
    | cons x xs ih => exact insBy_sorted T hl x _ ih
  have h2 : ∀ (c : α) (xs : List α), (isortBy lt xs).filter (PySem.W.sameRank le c) = xs.filter (PySem.W.sameRank le c) := by
    intro c xs
    induction xs with
    | nil => rfl
    | cons x xs ih =>
      unfold isortBy
      rw [insBy_filter T hl c x, List.filter_cons, ih, ← List.filter_cons]
  exact PySem.W.sort_unique T (h1 xs) fun c => h2 c xs
end
theorem insD_by (x : D) : ∀ ys : List D, insD x ys = insBy dlt x ys
  | [] => rfl
  | y :: ys => by unfold insD insBy; rw [insD_by x ys]
theorem isort_by : ∀ ys : List D, isort ys = isortBy dlt ys
  | [] => rfl
  | y :: ys => by unfold isort isortBy; rw [isort_by ys, insD_by]
theorem alikes1_at {x : D} : ∀ {ys : List D}, alikes1 x ys = true → ∀ y ∈ ys, alk x y = true ∧ alk y x = true
  | [], _, y, hy => by simp at hy
  | z :: ys, h, y, hy => by
    simp only [alikes1, Bool.and_eq_true] at h
    rcases List.mem_cons.mp hy with e | hy
    · rw [e]; exact ⟨h.1.1, h.1.2⟩
    · exact alikes1_at h.2 y hy
theorem alikes_at : ∀ {ys : List D}, alikes ys = true → ∀ y ∈ ys, ∀ z ∈ ys, alk y z = true
  | [], _, y, hy, _, _ => by simp at hy
  | x :: ys, h, y, hy, z, hz => by
    simp only [alikes, Bool.and_eq_true] at h
    rcases List.mem_cons.mp hy with e | hy
    · rw [e]
      rcases List.mem_cons.mp hz with e' | hz
      · rw [e']; exact h.1.1
      · exact (alikes1_at h.1.2 z hz).1
    · rcases List.mem_cons.mp hz with e' | hz
      · rw [e']; exact (alikes1_at h.1.2 y hy).2
      · exact alikes_at h.2 y hy z hz
theorem pls_at {n : Nat} : ∀ {ys : List D}, pls n ys = true → ∀ y ∈ ys, pl n y = true
  | [], _, y, hy => by simp at hy
  | x :: ys, h, y, hy => by
    have h : pl n x = true ∧ pls n ys = true := by cases n <;> simpa [pls] using h
    rcases List.mem_cons.mp hy with e | hy
    · rw [e]; exact h.1
    · exact pls_at h.2 y hy
theorem isort_merge {ds : List D} (hp : pls 60 ds = true) (ha : alikes ds = true) : isort ds = ds.mergeSort (PySem.W.dataLe false toPy) := by
  rw [isort_by, isortBy_congr (lt' := fun x y => PySem.W.dataLt (toPy x) (toPy y)) ds fun y hy z hz => dlt_data 60 y z (pls_at hp y hy) (pls_at hp z hz) (alikes_at ha y hy z hz)]
  exact isortBy_merge (PySem.W.sortLe_total _ false _) (fun a b => by
    show PySem.W.dataLt (toPy b) (toPy a) = !(!PySem.W.dataLt (toPy b) (toPy a))
    rw [Bool.not_not]) ds
theorem allTup_at : ∀ {ds : List D}, allTup ds = true → ∀ d ∈ ds, ∃ x r, d = .tup (x :: r)
  | [], _, d, hd => by simp at hd
  | x :: ds, h, d, hd => by
    cases x <;> first | (simp [allTup] at h; done) | skip
    rename_i ys
    cases ys with
    | nil => simp [allTup] at h
    | cons y ys =>
      rcases List.mem_cons.mp hd with e | hd
      · exact ⟨y, ys, e⟩
      · exact allTup_at (by simpa [allTup] using h) d hd
theorem noTup_at : ∀ {ds : List D}, noTup ds = true → ∀ d ∈ ds, toPy d ≠ .none ∧ ∀ xs, toPy d ≠ .tuple xs
  | [], _, d, hd => by simp at hd
  | x :: ds, h, d, hd => by
    rcases List.mem_cons.mp hd with e | hd
    · subst e
      cases d <;> first | (simp [noTup] at h; done) | (simp [toPy])
    · refine noTup_at (ds := ds) ?_ d hd
      cases x <;> first | (simp [noTup] at h; done) | simpa [noTup] using h
theorem srtb_ok {ds : List D} (h : srtb ds = true) : PySem.W.Sortable (ds.map toPy) := by
  unfold srtb at h
  rcases Bool.or_eq_true_iff.mp h with h | h
  · refine .inl fun d hd => ?_
    obtain ⟨z, hz, rfl⟩ := List.mem_map.mp hd
    obtain ⟨x, r, rfl⟩ := allTup_at h z hz
    exact ⟨toPy x, toPys r, by simp [toPy, toPys]⟩
  · refine .inr fun d hd => ?_
    obtain ⟨z, hz, rfl⟩ := List.mem_map.mp hd
    exact noTup_at h z hz
section
variable {X : Cx}
def rSorted (K : PySem.W.Frag) : List V → Hp → VK → Prop := fun vs H Q => ∃ (Z : Addr → Prop) (a : Addr) (xs : List V) (ds : List D), vs = [V.ref a] ∧ SqL K H a xs ∧ Dns K Z H xs ds ∧ pls 60 ds = true ∧ alikes ds = true ∧ srtb ds = true ∧
  ∀ (ys : List V) (p : Addr), Dns K Z H ys (isort ds) → H p = none → Q (.ref p) (upd H p (.lst ys))
theorem dns_zip {K : PySem.W.Frag} {Z : Addr → Prop} {H : Hp} : ∀ {xs : List V} {ds : List D}, Dns K Z H xs ds → ∀ p ∈ xs.zip ds, Dn K Z H p.1 p.2
  | _, _, .nil, p, hp => by simp at hp
  | _, _, .cons a b, p, hp => by
    rw [List.zip_cons_cons] at hp
    rcases List.mem_cons.mp hp with e | hp
    · rw [e]; exact a
    · exact dns_zip b p hp
theorem dns_unzip {K : PySem.W.Frag} {Z : Addr → Prop} {H : Hp} : ∀ {l : List (V × D)}, (∀ p ∈ l, Dn K Z H p.1 p.2) → Dns K Z H (l.map (·.1)) (l.map (·.2))
  | [], _ => .nil
  | p :: l, h => .cons (h p (by simp)) (dns_unzip fun q hq => h q (by simp [hq]))
theorem dns_map2 {K : PySem.W.Frag} {Z : Addr → Prop} {H : Hp} : ∀ {xs : List V} {ds : List D}, Dns K Z H xs ds → (xs.zip ds).map (·.2) = ds
  | _, _, .nil => rfl
  | _, _, .cons a b => by rw [List.zip_cons_cons, List.map_cons, dns_map2 b]
theorem each_zip {K : PySem.W.Frag} {Z : Addr → Prop} {H : Hp} : ∀ {xs : List V} {ds : List D} {us : List Value}, Dns K Z H xs ds → Vals xs us → PySem.W.EachIs (fun (v : Value) (b : V × D) => RelV b.1 v) us (xs.zip ds)
  | _, _, _, .nil, .nil => .nil
  | _, _, _, .cons a b, .cons r t => .cons r (each_zip b t)
theorem each_reads {pins : List (Addr × Obj)} {σ : L2.St} {H : Hp} {s : Shared} {Z : Addr → Prop} (I : L2.Inv X pins σ H s) : ∀ (ds : List D) (xs : List V) (us : List Value), pls 60 ds = true → Dns X.K Z H xs ds → Vals xs us →
    PySem.W.EachIs (fun (v : Value) (b : V × D) => ∃ as, Reads s.heap v (toPy b.2) as) us (xs.zip ds)
  | [], _, _, _, h, r => by
    cases h; cases r; exact .nil
  | d :: ds, _, _, hp, h, r => by
    have hp : pl 60 d = true ∧ pls 60 ds = true := by simpa [pls] using hp
    cases h with
    | cons a b =>
      cases r with
      | cons r t => exact .cons (Dp.reads I _ _ _ (a.dp 60 d _ hp.1) r) (each_reads I ds _ _ hp.2 b t)
theorem vals_each : ∀ {us : List Value} {bs : List (V × D)}, PySem.W.EachIs (fun (v : Value) (b : V × D) => RelV b.1 v) us bs → Vals (bs.map (·.1)) us
  | _, _, .nil => .nil
  | _, _, .cons r t => .cons r (vals_each t)
theorem cr_sortedX (hu : X.A.units + 200 < cLine) : CallR X (.builtin "sorted") (rSorted X.K) := by
  intro pins s σ H vs us Q I r h
  obtain ⟨Z, a, xs, ds, rfl, hs, hd, hp, hal, hk, q⟩ := h
  obtain ⟨its, rv, hl, hz⟩ := I.list hs
  rw [Vals.ref1 r]
  have hlen := hd.length
  have ez : (xs.zip ds).map (·.2) = ds := dns_map2 hd
  have em : (xs.zip ds).map (fun b => toPy b.2) = ds.map toPy := by
    rw [← ez, List.map_map, ez]; rfl
  have hzl : (xs.zip ds).length = xs.length := by rw [List.length_zip, hlen]; exact Nat.min_self _
  have dep : ∀ d ∈ ds, (toPy d).depth ≤ 60 := fun d hd => (pl_lay 60 d (pls_at hp d hd)).2
  refine PySem.W.sorted_data (bs := xs.zip ds) (enc := fun b => toPy b.2) hl.isList (each_zip hd rv) (each_reads I ds xs its hp hd rv) ?_ ?_ (by rw [hzl]; exact hz) (fun b hb => ?_) fun out ho he => ?_
  · rw [em]
    intro d hd' d' hd''
    obtain ⟨z, hz, rfl⟩ := List.mem_map.mp hd'
    obtain ⟨z', hz', rfl⟩ := List.mem_map.mp hd''
    exact alk_alike z z' (alikes_at hal z hz z' hz')
  · rw [em]; exact srtb_ok hk
  · have : b.2 ∈ ds := by rw [← ez]; exact List.mem_map_of_mem hb
    have := dep b.2 this
    omega
  · obtain ⟨ep, he'⟩ := PyProof.Rows.sortedAll_at s.heap its out.toArray
    have vv := vals_each he
    have hq := q (((xs.zip ds).mergeSort (PySem.W.dataLe false fun b => toPy b.2)).map (·.1)) (s.heap.objs.size + 1) ?_ (I.hok.fresh (Nat.le_succ _))
    · refine ⟨.ref _, _, I.laid (o := .lst (((xs.zip ds).mergeSort (PySem.W.dataLe false fun b => toPy b.2)).map (·.1))) (t' := s.toks) (fun _ _ => PyProof.Rows.sortedAll_old) (Nat.le_succ _) ⟨?_, out, ep, vv, he'⟩, rfl, hq⟩
      rw [List.length_map, List.length_mergeSort, hzl]; exact hz
    · have e2 : ((xs.zip ds).mergeSort (PySem.W.dataLe false fun b => toPy b.2)).map (·.2) = isort ds := by
        rw [isort_merge hp hal, PySem.W.sort_maps (r := PySem.W.dataLe false fun b : V × D => toPy b.2) (s := PySem.W.dataLe false toPy) (fun b : V × D => b.2) (fun a _ b _ => rfl), ez]
      rw [← e2]
      exact dns_unzip fun p hp' => dns_zip hd p ((List.mergeSort_perm _ _).mem_iff.mp hp')
end
end Mini

namespace Mini
open PySem PySem.Spec PyProof.Rows L2
/-! ### calls of built-ins -/
section
variable {X : Cx} {W : WX} {call : CallT} {modes : Nat → List Bool} {e e1 e2 e3 : Expr} {es : List Expr} {c c1 c2 c3 : E} {pos p : Pos}
/-- a built-in by its rule on trees -/
def BiOk (X : Cx) (f : BI) (r : List V → Hp → VK → Prop) : Prop :=
  ∀ (W : WX) (σ : L2.St) (sl : Slots) (g g2 : G) (vs : List V) (ds : List D) (Q : VK), Ext g g2 → SRel X.K σ sl g2 → Paired (Rdn X.K g2.Z g2.H) vs ds → Post X.K W σ sl g (out (bi f ds) g2.cs) (Fin1 X.K g.H Q) → r vs g2.H Q
theorem bi_read {r : List V → Hp → VK → Prop} {f : BI} (hr : BiOk X f r) {σ : L2.St} {H : Hp} {Q : VK} (h : TV X W call modes (.bi f c) σ H Q) : tCB r (TAV X W call modes c) σ H Q := by
  obtain ⟨sl, g, rfl, s, h⟩ := h
  simp only [ev] at h
  unfold tCB
  refine TAv.one (Ext.refl g) s h fun rvs vs g2 ex s2 r2 p => ?_
  cases q : drs rvs g2.cs with
  | none => rw [q] at p; exact p.elim
  | some ds => rw [q] at p; exact hr W σ sl g g2 vs ds Q ex s2 (reads s2 r2 q) p
theorem r_biB {r : List V → Hp → VK → Prop} {f : BI} {id : String} {x : Str} (hc : CallR X (.builtin id) r) (hr : BiOk X f r) (hg : Gl X x) (hm : X.mg x = none) (hv : bootBuiltins x = some (.builtin id)) (ha : PA X (e :: es) (TAV X W call modes c))
    (hn : x ≠ "__name__") (hdb : (x == ("__debug__" : Str)) = false) (he : starEach (e :: es) X.env = (false, eval e X.env) :: starEach es X.env) (hpl : (backTo pos (starEach es X.env)).any (·.1) = false) :
    PE X (.Call (.Name x p) (e :: es) [] pos) (TV X W call modes (.bi f c)) :=
  PE.imp (pe_callB hc hg hm hv ha hn hdb he hpl) fun σ H Q h => bi_read hr h
theorem r_biT {r : List V → Hp → VK → Prop} {f : BI} {T : String} {x : Str} (hc : CallR X (.type T) r) (hr : BiOk X f r) (hg : Gl X x) (hm : X.mg x = none) (hv : bootBuiltins x = some (.type T)) (ha : PA X (e :: es) (TAV X W call modes c))
    (hn : x ≠ "__name__") (hdb : (x == ("__debug__" : Str)) = false) (he : starEach (e :: es) X.env = (false, eval e X.env) :: starEach es X.env) (hpl : (backTo pos (starEach es X.env)).any (·.1) = false) :
    PE X (.Call (.Name x p) (e :: es) [] pos) (TV X W call modes (.bi f c)) :=
  PE.imp (pe_callTy hc hg hm hv ha hn hdb he hpl) fun σ H Q h => bi_read hr h
theorem bi_len : BiOk X .len (fun xs H Q => ∃ x n, xs = [x] ∧ LenV X.K x H n ∧ Q (.int n) H) := by
  intro W σ sl g g2 vs ds Q ex s h p
  cases h with
  | nil => exact p.elim
  | cons a t =>
    cases t with
    | cons b t => rename_i d _ _ _ _; cases d <;> exact p.elim
    | nil =>
      rename_i v d
      cases d <;> first | exact p.elim | skip
      · obtain ⟨z, rfl, rfl⟩ := a.str
        simp only [bi] at p
        split at p
        · rename_i hl
          rw [str_len] at p
          exact ⟨_, z.length, rfl, ⟨by rw [sizeLine_eq, ← str_len]; exact hl, rfl⟩, fin_imm ex s (.int _) p⟩
        · exact p.elim
      · obtain ⟨b, xs, rfl, q, r⟩ := a.tup
        have p : Post X.K W σ sl g (.ok (.imm (.int _)) g2.cs) (Fin1 X.K g.H Q) := p
        rw [← r.length] at p
        exact ⟨_, xs.length, rfl, .inr ⟨xs, q.sq, rfl⟩, fin_imm ex s (.int _) p⟩
      · obtain ⟨b, xs, rfl, q, r⟩ := a.lst
        have p : Post X.K W σ sl g (.ok (.imm (.int _)) g2.cs) (Fin1 X.K g.H Q) := p
        rw [← r.length] at p
        exact ⟨_, xs.length, rfl, .inl ⟨xs, q, rfl⟩, fin_imm ex s (.int _) p⟩
theorem bi_abs : BiOk X .abs (fun xs H Q => ∃ i, xs = [.int i] ∧ Q (.int (if i < 0 then -i else i)) H) := by
  intro W σ sl g g2 vs ds Q ex s h p
  cases h with
  | nil => exact p.elim
  | cons a t =>
    cases t with
    | cons b t => rename_i d _ _ _ _; cases d <;> exact p.elim
    | nil =>
      rename_i v d
      cases d <;> first | exact p.elim | skip
      cases a.int
      exact ⟨_, rfl, fin_imm ex s (.int _) p⟩
theorem bi_int : BiOk X .int (fun xs H Q => (∃ i, xs = [.int i] ∧ Q (.int i) H) ∨ ∃ k, xs = [.bl k] ∧ Q (.int (if k then 1 else 0)) H) := by
  intro W σ sl g g2 vs ds Q ex s h p
  cases h with
  | nil => exact p.elim
  | cons a t =>
    cases t with
    | cons b t => rename_i d _ _ _ _; cases d <;> exact p.elim
    | nil =>
      rename_i v d
      cases d <;> first | exact p.elim | skip
      · cases a.bl
        exact .inr ⟨_, rfl, fin_imm ex s (.int _) p⟩
      · cases a.int
        exact .inl ⟨_, rfl, fin_imm ex s (.int _) p⟩
theorem bi_min2 : BiOk X .min2 (fun xs H Q => ∃ i j, xs = [.int i, .int j] ∧ Q (.int (if j < i then j else i)) H) := by
  intro W σ sl g g2 vs ds Q ex s h p
  cases h with
  | nil => exact p.elim
  | cons a t =>
    rename_i v d _ _
    cases t with
    | nil => cases d <;> exact p.elim
    | cons b t =>
      rename_i v' d' _ _
      cases t with
      | cons c t => cases d <;> cases d' <;> exact p.elim
      | nil =>
        cases d <;> cases d' <;> first | exact p.elim | skip
        cases a.int; cases b.int
        exact ⟨_, _, rfl, fin_imm ex s (.int _) p⟩
theorem bi_max2 : BiOk X .max2 (fun xs H Q => ∃ i j, xs = [.int i, .int j] ∧ Q (.int (if j > i then j else i)) H) := by
  intro W σ sl g g2 vs ds Q ex s h p
  cases h with
  | nil => exact p.elim
  | cons a t =>
    rename_i v d _ _
    cases t with
    | nil => cases d <;> exact p.elim
    | cons b t =>
      rename_i v' d' _ _
      cases t with
      | cons c t => cases d <;> cases d' <;> exact p.elim
      | nil =>
        cases d <;> cases d' <;> first | exact p.elim | skip
        cases a.int; cases b.int
        exact ⟨_, _, rfl, fin_imm ex s (.int _) p⟩
/-- tuple(x) -/
def rTupF (K : PySem.W.Frag) : List V → Hp → VK → Prop := fun xs H Q =>
  (∃ p ys, xs = [.ref p] ∧ SqL K H p ys ∧ ∀ l o, H l = none → o.dict = none → Q (.ref l) (upd H l (.frz o (.tup ys)))) ∨ (∃ p ys, xs = [.ref p] ∧ SqT K H p ys ∧ Q (.ref p) H) ∨
  (∃ z : Str, xs = [.str z] ∧ z.length ≤ sizeLine ∧ ∀ l o, H l = none → o.dict = none → Q (.ref l) (upd H l (.frz o (.tup (z.cps.toList.map fun c => V.str ⟨#[c]⟩)))))
theorem call_tupF (hc : X.calm = true) : CallR X (.type "tuple") (rTupF X.K) := by
  intro pins s σ H xs us Q I r h
  rcases h with ⟨p, ys, rfl, hq, q⟩ | ⟨p, ys, rfl, hq, q⟩ | ⟨z, rfl, hz, q⟩
  · obtain ⟨u, rfl, rx⟩ := vals1 r
    cases rx
    obtain ⟨its, r', pl, hz⟩ := I.list hq
    have hlen := r'.length
    refine call_tuple_list pl.isList (fun h' kp => ?_) (by simp only [List.size_toArray] <;> omega)
    have I1 : L2.Inv X pins σ H { s with heap := h' } := I.kept (t' := s.toks) kp
    have I2 : L2.Inv X pins σ (upd H h'.objs.size (.frz { cls := .type "tuple", data := .seq its.toArray } (.tup ys))) { s with heap := h'.push { cls := .type "tuple", data := .seq its.toArray } } :=
      I1.laid (t' := s.toks) (fun b o e => Heap.get?_push_of_some _ e) (Nat.le_refl _) ⟨Heap.get?_push_size _ rfl, hz, its, r', IsTup.new _ _⟩
    exact ⟨.ref h'.objs.size, _, I2, rfl, q _ _ (I1.hok.fresh (Nat.le_refl _)) rfl⟩
  · obtain ⟨u, rfl, rx⟩ := vals1 r
    cases rx
    obtain ⟨its, r', pl, hz⟩ := I.tuple hq
    exact call_tuple_same pl ⟨.ref p, H, I, rfl, q⟩
  · obtain ⟨u, rfl, t, rfl⟩ := vals1 r
    refine call_tuple_str (I.ok.hd hc) z t (fun h' tk acc kp hi => ?_) hz
    have I1 : L2.Inv X pins σ H { s with heap := h', toks := tk } := I.kept (t' := tk) kp
    have vv : Vals (z.cps.toList.map fun c => V.str ⟨#[c]⟩) acc.toList := by
      refine vals_of_idx _ _ (by simp [hi.1]) fun j u hu => ?_
      obtain ⟨c, t', h1, h2⟩ := hi.2 j u (by simpa using hu)
      refine ⟨.str ⟨#[c]⟩, ?_, t', h2⟩
      rw [List.getElem?_map]
      have : z.cps.toList[j]? = some c := by simpa using h1
      rw [this]; rfl
    have I2 : L2.Inv X pins σ (upd H h'.objs.size (.frz { cls := .type "tuple", data := .seq acc } (.tup (z.cps.toList.map fun c => V.str ⟨#[c]⟩)))) { s with heap := h'.push { cls := .type "tuple", data := .seq acc }, toks := tk } :=
      I1.laid (t' := tk) (fun b o e => Heap.get?_push_of_some _ e) (Nat.le_refl _) ⟨Heap.get?_push_size _ rfl, by simpa [Str.length] using hz, acc.toList, vv, by have := IsTup.new h' acc; simpa using this⟩
    exact ⟨.ref h'.objs.size, _, I2, rfl, q _ _ (I1.hok.fresh (Nat.le_refl _)) rfl⟩
theorem dns_signs {K : PySem.W.Frag} {Z : Addr → Prop} {H : Hp} : ∀ l : List Nat, Dns K Z H (l.map fun c => V.str ⟨#[c]⟩) (l.map fun c => D.str [c])
  | [] => .nil
  | c :: l => .cons (.str ⟨#[c]⟩) (dns_signs l)
theorem bi_tuple : BiOk X .tuple (rTupF X.K) := by
  intro W σ sl g g2 vs ds Q ex s h p
  cases h with
  | nil => exact p.elim
  | cons a t =>
    cases t with
    | cons b t => rename_i d _ _ _ _; cases d <;> exact p.elim
    | nil =>
      rename_i v d
      cases d <;> first | exact p.elim | skip
      · obtain ⟨z, rfl, rfl⟩ := a.str
        simp only [bi] at p
        split at p
        · rename_i hl
          exact .inr (.inr ⟨z, rfl, by rw [sizeLine_eq, ← str_len]; exact hl, fun l o hp ho => fin_tup ex s (dns_signs _) p hp ho⟩)
        · exact p.elim
      · obtain ⟨b, xs, rfl, q, r⟩ := a.tup
        exact .inr (.inl ⟨b, xs, rfl, q.sq, fin_imm ex s (.tup q r) p⟩)
      · obtain ⟨b, xs, rfl, q, r⟩ := a.lst
        exact .inl ⟨b, xs, rfl, q, fun l o hp ho => fin_tup ex s r p hp ho⟩
theorem bi_list : BiOk X .list (fun xs H Q => ∃ p ys, xs = [.ref p] ∧ (SqL X.K H p ys ∨ SqT X.K H p ys) ∧ ∀ l, H l = none → Q (.ref l) (upd H l (.lst ys))) := by
  intro W σ sl g g2 vs ds Q ex s h p
  cases h with
  | nil => exact p.elim
  | cons a t =>
    cases t with
    | cons b t => rename_i d _ _ _ _; cases d <;> exact p.elim
    | nil =>
      rename_i v d
      cases d <;> first | exact p.elim | skip
      · obtain ⟨b, xs, rfl, q, r⟩ := a.tup
        exact ⟨b, xs, rfl, .inr q.sq, fun l hp => fin_lst ex s r p hp⟩
      · obtain ⟨b, xs, rfl, q, r⟩ := a.lst
        exact ⟨b, xs, rfl, .inl q, fun l hp => fin_lst ex s r p hp⟩
theorem bi_sorted : BiOk X .sorted (rSorted X.K) := by
  intro W σ sl g g2 vs ds Q ex s h p
  cases h with
  | nil => exact p.elim
  | cons a t =>
    cases t with
    | cons b t => rename_i d _ _ _ _; cases d <;> exact p.elim
    | nil =>
      rename_i v d
      cases d <;> first | exact p.elim | skip
      rename_i ds
      obtain ⟨b, xs, rfl, q, r⟩ := a.lst
      simp only [bi] at p
      split at p
      · rename_i hc
        simp only [Bool.and_eq_true] at hc
        exact ⟨g2.Z, b, xs, ds, rfl, q, r, hc.1.1, hc.1.2, hc.2, fun ys p' hd hp => fin_lst ex s hd p hp⟩
      · exact p.elim
theorem allBl_vals {K : PySem.W.Frag} {Z : Addr → Prop} {H : Hp} : ∀ {ds : List D} {xs : List V} {k : Bool}, Dns K Z H xs ds → allBl ds = some k → ∃ bs : List Bool, xs = bs.map V.bl ∧ k = bs.all id
  | [], _, k, h, e => by
    cases h; cases e
    exact ⟨[], rfl, rfl⟩
  | d :: ds, _, k, h, e => by
    cases h with
    | cons a b =>
      cases d <;> first | (simp [allBl] at e; done) | skip
      rename_i x
      simp only [allBl] at e
      split at e
      · rename_i k' hk
        cases e
        obtain ⟨bs, h1, h2⟩ := allBl_vals b hk
        cases a
        exact ⟨x :: bs, by rw [h1]; rfl, by rw [h2]; rfl⟩
      · cases e
theorem bi_all : BiOk X .all (rAll X.K) := by
  intro W σ sl g g2 vs ds Q ex s h p
  cases h with
  | nil => exact p.elim
  | cons a t =>
    cases t with
    | cons b t => rename_i d _ _ _ _; cases d <;> exact p.elim
    | nil =>
      rename_i v d
      cases d <;> first | exact p.elim | skip
      rename_i ds
      obtain ⟨b, xs, rfl, q, r⟩ := a.lst
      simp only [bi] at p
      split at p
      · rename_i k hk
        obtain ⟨bs, rfl, rfl⟩ := allBl_vals r hk
        exact ⟨b, bs, rfl, q, fin_imm ex s (.bl _) p⟩
      · exact p.elim
end
end Mini

namespace Mini
open PySem PySem.Spec PyProof.Rows L2
section
variable {K : PySem.W.Frag} {σ : L2.St} {sl : Slots} {g : G}
/-- a live cell is written -/
theorem write_ok (s : SRel K σ sl g) {k : Nat} {a : Addr} {d : D} {ds' : List D} {xs' : List V} (ha : g.as[k]? = some a) (hk : g.cs[k]? = some (.live, d)) (hd : Dns K g.Z g.H xs' ds') :
    Ext g { g with H := upd g.H a (.lst xs'), cs := g.cs.set k (.live, .lst ds') } ∧ SRel K σ sl { g with H := upd g.H a (.lst xs'), cs := g.cs.set k (.live, .lst ds') } := by
  have lv : Live g a := ⟨k, d, ha, hk⟩
  have nz := s.live_noZ lv
  have kl : k < g.cs.length := (List.getElem?_eq_some_iff.mp hk).1
  have e : Ext g { g with H := upd g.H a (.lst xs'), cs := g.cs.set k (.live, .lst ds') } := by
    refine ⟨fun _ h => h, fun _ h => .inl h, ⟨[], by simp, by simp⟩, fun b o h => ?_, fun b o h n => ?_, fun b l => ?_⟩
    · by_cases hb : b = a
      · subst hb; exact ⟨_, upd_same⟩
      · exact ⟨o, by show upd g.H a _ b = _; rw [upd_ne hb]; exact h⟩
    · have hb : b ≠ a := fun z => n (z ▸ lv)
      show upd g.H a _ b = _
      rw [upd_ne hb]; exact h
    · obtain ⟨j, d', l1, l2⟩ := l
      rcases set_get (show (g.cs.set k (.live, .lst ds'))[j]? = some (Stt.live, d') from l2) with ⟨z, _⟩ | ⟨_, l2⟩
      · subst z
        exact .inl ⟨j, d, l1, hk⟩
      · exact .inl ⟨j, d', l1, l2⟩
  refine ⟨e, s.next e (by show g.as.length = (g.cs.set k _).length; rw [List.length_set]; exact s.clen) s.nd (fun j b st d' h1 h2 => ?_) (fun b z => ?_)⟩
  · rcases set_get (show (g.cs.set k (.live, .lst ds'))[j]? = some (st, d') from h2) with ⟨z, z'⟩ | ⟨z, h2⟩
    · subst z
      have h1 : g.as[j]? = some b := h1
      rw [ha] at h1
      cases h1
      cases z'
      exact ⟨⟨xs', upd_same, s.dns e hd⟩, fun z => (nomatch z), fun _ => nz⟩
    · obtain ⟨c, q⟩ := s.cell j b st d' h1 h2
      have hb : b ≠ a := fun e' => z (nd_ix s.nd (e' ▸ h1) ha)
      exact ⟨c.keep (s.keep e) e.zsub (by show upd g.H a _ b = _; rw [upd_ne hb]), q⟩
  · obtain ⟨o, ho⟩ := s.zdom b z
    exact e.dom b o ho
end
section
variable {X : Cx} {W : WX} {call : CallT} {modes : Nat → List Bool} {e e1 e2 e3 : Expr} {es : List Expr} {c c1 c2 c3 : E} {pos p apos : Pos}
theorem cel_lst {K : PySem.W.Frag} {σ : L2.St} {sl : Slots} {g1 : G} {H0 : Hp} {v : V} {x : RV} (s1 : SRel K σ sl g1) (r1 : RvRel K H0 g1 v x) (hc : celLst x g1.cs = true) :
    ∃ k a xs, x = .cel k ∧ g1.as[k]? = some a ∧ v = .ref a ∧ g1.H a = some (.lst xs) := by
  cases x with
  | imm d => cases hc
  | fr d => cases hc
  | cel k =>
    obtain ⟨a, ha, rfl⟩ := r1
    have hc : (match nth g1.cs k with | some (_, .lst _) => true | _ => false) = true := hc
    rw [nth_eq] at hc
    cases hk : g1.cs[k]? with
    | none => rw [hk] at hc; cases hc
    | some p =>
      obtain ⟨st, d⟩ := p
      rw [hk] at hc
      cases d <;> first | (cases hc; done) | skip
      obtain ⟨xs, hx, _⟩ := (s1.cell k a _ _ ha hk).1
      exact ⟨k, a, xs, rfl, ha, rfl, hx⟩
theorem hfew1 {cpos : Pos} (hs : starEach [e] X.env = (false, eval e X.env) :: starEach [] X.env) : ((backTo cpos (starEach [e] X.env)).all (fun x => !x.1) && (backToKw cpos (keywordEach [] X.env)).all (fun x => x.1.isSome)
      && decide (([e] : List Expr).length + ([] : List Keyword).length + (if ([] : List Keyword).isEmpty then 0 else 1) < 30)) = true := by
  rw [hs]
  rfl
theorem r_app (ho : PE X e1 (TV X W call modes c1)) (ha : PE X e2 (TV X W call modes c2)) (hbase : attributeBase e1 "append" X.env (eval e1 X.env) = eval e1 X.env) (hline : (apos.endLine == pos.line) = true)
    (hs : starEach [e2] X.env = (false, eval e2 X.env) :: starEach [] X.env) : PE X (.Call (.Attribute e1 "append" apos) [e2] [] pos) (TV X W call modes (.app c1 c2)) := by
  refine PE.imp (pe_bm PySem.F.plainAttrs_list PySem.F.slot_list_append PySem.F.type_list_append mt_append ho (pa_cons ha pa_nil hs) hbase (hfew1 hs) hline hs rfl) fun σ H Q h => ?_
  obtain ⟨sl, g, rfl, s, h⟩ := h
  simp only [ev] at h
  unfold tBM tCons tNil
  refine TEv.one (Ext.refl g) s h fun x v g1 ex1 s1 r1 p => ?_
  split at p
  · exact p.elim
  · rename_i hc
    have hc : celLst x g1.cs = true := by simpa using hc
    obtain ⟨k, a, xs, rfl, ha, rfl, hx⟩ := cel_lst s1 r1 hc
    refine ⟨.inl ⟨rfl, xs, SqL.of hx⟩, ?_⟩
    refine TEv.one ex1 s1 p fun y w g2 ex2 s2 r2 p => ?_
    have ex := ex1.trans ex2
    cases q : toImm y g2.cs with
    | none => rw [q] at p; exact p.elim
    | some z =>
      obtain ⟨d, cs3⟩ := z
      rw [q] at p
      dsimp only at p
      obtain ⟨g3, e1, e2, e3, e4, e5, e6, e7, _⟩ := freeze ex s2 (r2.weak fun a ha => ex1.none ha) q
      subst e1
      rw [nth_eq] at p
      split at p
      · rename_i ds hk
        split at p
        · rename_i hl
          have ha3 : g3.as[k]? = some a := by rw [e3]; exact as_get ex2 ha
          obtain ⟨c, _⟩ := e6.cell k a _ _ ha3 hk
          obtain ⟨ys, hy, hd⟩ := c
          have hlen := hd.length
          obtain ⟨w1, w2⟩ := write_ok (ds' := ds ++ [d]) (xs' := ys ++ [w]) e6 ha3 hk (hd.append (Dns.one e7))
          rw [setN_eq] at p
          rw [← e2]
          exact ⟨a, ys, w, rfl, rfl, hy, by rw [sizeLine_eq, hlen]; exact hl, p _ rfl (e5.trans w1) w2 .non .non⟩
        · exact p.elim
      · exact p.elim
theorem ixOf_seq {n : Nat} {i : Int} {j : Nat} (h : ixOf n i = some j) : seqIndex? i n = some j ∧ j < n ∧ -(n : Int) ≤ i ∧ i < n := ixN_seq h
theorem r_popi (ho : PE X e1 (TV X W call modes c1)) (ha : PE X e2 (TV X W call modes c2)) (hbase : attributeBase e1 "pop" X.env (eval e1 X.env) = eval e1 X.env) (hline : (apos.endLine == pos.line) = true)
    (hs : starEach [e2] X.env = (false, eval e2 X.env) :: starEach [] X.env) : PE X (.Call (.Attribute e1 "pop" apos) [e2] [] pos) (TV X W call modes (.popi c1 c2)) := by
  have hfew := hfew1 (cpos := pos) hs
  refine PE.imp (pe_bm PySem.F.plainAttrs_list PySem.F.slot_list_pop PySem.F.type_list_pop mt_popAt ho (pa_cons ha pa_nil hs) hbase hfew hline hs rfl) fun σ H Q h => ?_
  obtain ⟨sl, g, rfl, s, h⟩ := h
  simp only [ev] at h
  unfold tBM tCons tNil
  refine TEv.one (Ext.refl g) s h fun x v g1 ex1 s1 r1 p => ?_
  split at p
  · exact p.elim
  · rename_i hc
    have hc : celLst x g1.cs = true := by simpa using hc
    obtain ⟨k, a, xs, rfl, ha, rfl, hx⟩ := cel_lst s1 r1 hc
    refine ⟨.inl ⟨rfl, xs, SqL.of hx⟩, ?_⟩
    refine TEv.one ex1 s1 p fun y w g2 ex2 s2 r2 p => ?_
    have ex := ex1.trans ex2
    cases q : dr y g2.cs with
    | none => rw [q] at p; exact p.elim
    | some d =>
      rw [q] at p
      cases d <;> first | exact p.elim | skip
      rename_i i
      cases (s2.read r2 q).int
      dsimp only at p
      rw [nth_eq] at p
      split at p
      · rename_i ds hk
        split at p
        · rename_i hin
          simp only [in62, Bool.and_eq_true, decide_eq_true_eq] at hin
          split at p
          · rename_i j hj
            have ha2 := as_get ex2 ha
            obtain ⟨ys, hy, hd⟩ := (s2.cell k a _ _ ha2 hk).1
            have hlen := hd.length
            obtain ⟨q1, q2, q3, q4⟩ := ixOf_seq hj
            rw [nth_eq] at p
            split at p
            · rename_i d hdj
              obtain ⟨u, hu, hud⟩ := hd.get hdj
              obtain ⟨w1, w2⟩ := write_ok (ds' := ds.eraseIdx j) (xs' := ys.eraseIdx j) s2 ha2 hk (hd.eraseIdx j)
              rw [setN_eq] at p
              exact ⟨a, ys, i, j, u, rfl, rfl, hy, by omega, by omega, by rw [hlen]; exact q1, hu, p _ rfl (ex.trans w1) w2 u (s2.dn w1 hud)⟩
            · exact p.elim
          · exact p.elim
        · exact p.elim
      · exact p.elim
/-! ### x.index(y), x a list or a tuple -/
def rTIndexD (K : PySem.W.Frag) : V → List V → Hp → VK → Prop := fun x xs H Q => ∃ (a : Addr) (y : V) (d : PyData) (ds : List PyData) (j : Nat) (z : PyData), x = V.ref a ∧ xs = [y] ∧ Dp K H (V.ref a) (.tuple ds) ∧ Dp K H y d ∧
  SeqAt.shaped (.tuple ds) = true ∧ SeqAt.shaped d = true ∧ ds[j]? = some z ∧ PyData.eqv z d = true ∧ (∀ (m : Nat) (z' : PyData), m < j → ds[m]? = some z' → PyData.eqv z' d = false) ∧ Q (.int (j : Nat)) H
theorem mt_tindexD (hu : X.A.units + 65 < cLine) : MtR X "tuple.index" (rTIndexD X.K) := by
  intro pins s σ H x xs v us Q I rx rxs h
  obtain ⟨a, y, d, ds, j, z, rfl, rfl, hl, hy, sl, sd, hz, hzj, hno, q⟩ := h
  cases rx
  cases rxs with
  | cons ry rt =>
    rename_i uy ut
    cases rt
    obtain ⟨bs, r1⟩ := Dp.reads I d y uy hy ry
    have hxs : PyData.canLayAll0 ds = true := SeqAt.canLay_of_shaped sl
    have hroom : X.A.units + 1 + min (PyData.depthAll ds) d.depth < cLine := room_in_shaped sd hu
    cases hl with
    | tup hs ha =>
      obtain ⟨its, rv, ⟨⟨cls, dd, data, sls⟩, ho, hc, n, hdt⟩, hlen⟩ := I.tuple hs
      simp only at hc hdt
      subst hc hdt
      obtain ⟨as, h4⟩ := Dp.readsAll I ds _ its ha rv
      have hn : its.length = ds.length := SeqAt.ReadsAll.length ds its as h4
      have hmap : its.map (SeqAt.readOf s.heap) = ds := SeqAt.readsAll_map ds its as hxs h4
      have hvl := rv.length
      have hsl := sizeLine_eq
      obtain ⟨hjd, _⟩ := List.getElem?_eq_some_iff.mp hz
      have hjl : j < its.length := by omega
      have hj : j < its.toArray.size := by simpa using hjl
      have at_ : ∀ (m : Nat) (hm : m < its.toArray.size) (z' : PyData), ds[m]? = some z' → SeqAt.readOf s.heap its.toArray[m] = z' := by
        intro m hm z' hz'
        have hml : m < its.length := by simpa using hm
        rw [← hmap, List.getElem?_map, List.getElem?_eq_getElem hml] at hz'
        have e1 : SeqAt.readOf s.heap its[m] = z' := Option.some.inj (show some (SeqAt.readOf s.heap its[m]) = some z' from hz')
        simpa using e1
      refine call_meets PySem.F.slot_tuple_index ⟨_, ho, rfl⟩ PySem.F.entry_tuple_index (PySem.F.args_tuple_index_2 _ _)
        (TI.tuple_indexAt a its.toArray n dd sls uy (fun u => PyData.eqv (SeqAt.readOf s.heap u) d) j hj ?_ ?_) ⟨ho, SeqAt.items_eqAt (vs := its.toArray) (show ReadsAll s.heap its.toArray.toList ds as from h4) r1 hxs (SeqAt.canLay_of_shaped sd) hroom, ?_⟩
      · show PyData.eqv (SeqAt.readOf s.heap its.toArray[j]) d = true
        rw [at_ j hj z hz]
        exact hzj
      · intro m hm hmj
        have hmd : m < ds.length := by omega
        have hz' : ds[m]? = some ds[m] := List.getElem?_eq_getElem hmd
        show PyData.eqv (SeqAt.readOf s.heap its.toArray[m]) d = false
        rw [at_ m hm _ hz']
        exact hno m _ hmj hz'
      · exact ⟨.int (j : Nat), H, I.tok _, ⟨_, rfl⟩, q⟩
/-- the receiver is a list or a tuple -/
def SeqR (K : PySem.W.Frag) (x : V) (H : Hp) (tp : Bool) : Prop := if tp then ∃ a xs, x = .ref a ∧ PTup K H a xs else ∃ a xs, x = .ref a ∧ SqL K H a xs
def tIdx (K : PySem.W.Frag) (to te : TE) : TE := fun σ H Q => to σ H fun x H1 => ∃ tp, SeqR K x H1 tp ∧ te σ H1 fun y H2 => if tp then rTIndexD K x [y] H2 Q else rIndexD K x [y] H2 Q
theorem pe_index {to te : TE} (hu : X.A.units + 65 < cLine) (ho : PE X e1 to) (ha : PE X e2 te) (hbase : attributeBase e1 "index" X.env (eval e1 X.env) = eval e1 X.env) (hline : (apos.endLine == pos.line) = true)
    (hs : starEach [e2] X.env = (false, eval e2 X.env) :: starEach [] X.env) : PE X (.Call (.Attribute e1 "index" apos) [e2] [] pos) (tIdx X.K to te) := by
  refine ⟨fun pins s σ H Q I h => ?_⟩
  refine wpAny_Call_method_late hbase (hfew1 hs) hline rfl (thn (ho.run pins s σ H _ I h) fun v s1 ⟨x, H1, I1, r1, tp, ty, q1⟩ => ?_)
  have hA := (pa_cons ha pa_nil hs).run pos pins s1 σ H1 (fun xs H2 => match xs with | [y] => (if tp then rTIndexD X.K x [y] H2 Q else rIndexD X.K x [y] H2 Q) | _ => False) I1 q1
  have one : ∀ {xs : List V} {H2 : Hp}, (match xs with | [y] => (if tp then rTIndexD X.K x [y] H2 Q else rIndexD X.K x [y] H2 Q) | _ => False) → if tp then rTIndexD X.K x xs H2 Q else rIndexD X.K x xs H2 Q := fun {xs H2} h => by
    match xs, h with
    | [y], h => exact h
  rw [hs] at hA
  have hpl : (backTo pos ((false, eval e2 X.env) :: starEach [] X.env)).any (·.1) = false := rfl
  cases tp with
  | false =>
    obtain ⟨a, xs, rfl, hq⟩ := ty
    obtain ⟨h1, h2⟩ := tyV_is (T := "list") I1 r1 (.inl ⟨rfl, xs, hq⟩)
    refine ⟨"list", "list.index", PySem.F.plainAttrs_list, PySem.F.slot_list_index, PySem.F.type_list_index, h1, h2, ?_⟩
    rw [hs]
    refine Calls.callWith_builtin hpl (Calls.evalArgs_plain ?_)
    exact thn hA fun us s2 ⟨vs, H2, I2, r2, q2⟩ => mt_indexD hu pins s2 σ H2 _ vs v us Q I2 r1 r2 (one q2)
  | true =>
    obtain ⟨a, xs, rfl, hq⟩ := ty
    cases r1
    obtain ⟨its, _, pt, _⟩ := I1.tuple hq.sq
    refine ⟨"tuple", "tuple.index", PySem.F.plainAttrs_tuple, PySem.F.slot_tuple_index, PySem.F.type_tuple_index, pt.typeIs, fun a' e => ?_, ?_⟩
    · cases e
      rcases hq with ⟨o, hq, hd⟩ | ⟨o, _, _, hq, _, hd, _⟩
      · exact ⟨o, (I1.hok _ _ hq).1, hd⟩
      · exact ⟨o, I1.kIn _ o hq, hd⟩
    · rw [hs]
      refine Calls.callWith_builtin hpl (Calls.evalArgs_plain ?_)
      exact thn hA fun us s2 ⟨vs, H2, I2, r2, q2⟩ => mt_tindexD hu pins s2 σ H2 (.ref a) vs _ us Q I2 rfl r2 (one q2)
theorem r_index (hu : X.A.units + 65 < cLine) (ho : PE X e1 (TV X W call modes c1)) (ha : PE X e2 (TV X W call modes c2)) (hbase : attributeBase e1 "index" X.env (eval e1 X.env) = eval e1 X.env) (hline : (apos.endLine == pos.line) = true)
    (hs : starEach [e2] X.env = (false, eval e2 X.env) :: starEach [] X.env) : PE X (.Call (.Attribute e1 "index" apos) [e2] [] pos) (TV X W call modes (.index c1 c2)) := by
  refine PE.imp (pe_index hu ho ha hbase hline hs) fun σ H Q h => ?_
  obtain ⟨sl, g, rfl, s, h⟩ := h
  simp only [ev] at h
  unfold tIdx
  refine TEv.one (Ext.refl g) s h fun x v g1 ex1 s1 r1 p => ?_
  cases q0 : dr x g1.cs with
  | none => rw [q0] at p; exact p.elim
  | some d0 =>
    rw [q0] at p
    have rd0 := s1.read r1 q0
    cases d0 <;> first | exact p.elim | skip
    · rename_i ds
      obtain ⟨a, xs, rfl, pt, hd⟩ := rd0.tup
      refine ⟨true, ⟨a, xs, rfl, pt⟩, ?_⟩
      refine TEv.one ex1 s1 p fun y w g2 ex2 s2 r2 p => ?_
      have ex := ex1.trans ex2
      cases q2 : dr y g2.cs with
      | none => rw [q2] at p; exact p.elim
      | some d' =>
        rw [q2] at p
        rw [if_pos rfl]
        have h1 : Rdn X.K g2.Z g2.H (.ref a) (.tup ds) := .inl (s1.dn ex2 (.tup pt hd))
        have h2 := s2.read r2 q2
        have p : Post X.K W σ sl g (idxRes d' ds g2.cs) (Fin1 X.K g.H Q) := p
        unfold idxRes at p
        split at p
        · rename_i hp
          rw [Bool.and_eq_true] at hp
          split at p
          · rename_i j hj
            obtain ⟨k, z, h3, h4, h5, h6⟩ := idxOf_at 60 d' ds 0 j hp.1 hp.2 hj
            have hp2 : pl 61 (.tup ds) = true := by simpa [pl] using hp.2
            have hdp := h1.dp hp2
            have hsh := shaped_of hp2 (by decide)
            simp only [toPy] at hdp hsh
            refine ⟨a, w, toPy d', toPys ds, j, toPy z, rfl, rfl, hdp, h2.dp hp.1, hsh, shaped_of hp.1 (by decide), ?_, h5, fun m z' hm hz => ?_, fin_imm ex s2 (.int _) p⟩
            · rw [toPys_map, List.getElem?_map, show j = k by omega, h4]; rfl
            · rw [toPys_map, List.getElem?_map] at hz
              cases hz2 : ds[m]? with
              | none => rw [hz2] at hz; cases hz
              | some u => rw [hz2] at hz; cases hz; exact h6 m u (by omega) hz2
          · exact p.elim
        · exact p.elim
    · obtain ⟨a, xs, rfl, pt, _⟩ := rd0.lst
      refine ⟨false, ⟨a, xs, rfl, pt⟩, ?_⟩
      refine TEv.one ex1 s1 p fun y w g2 ex2 s2 r2 p => ?_
      have ex := ex1.trans ex2
      rw [if_neg (by decide)]
      cases q1 : dr x g2.cs with
      | none => rw [q1] at p; exact p.elim
      | some d0 =>
        rw [q1] at p
        cases q2 : dr y g2.cs with
        | none => rw [q2] at p; cases d0 <;> exact p.elim
        | some d' =>
          rw [q2] at p
          cases d0 <;> first | exact p.elim | skip
          rename_i ds
          have h1 := s2.read (s1.rvx ex2 r1) q1
          have h2 := s2.read r2 q2
          have p : Post X.K W σ sl g (idxRes d' ds g2.cs) (Fin1 X.K g.H Q) := p
          unfold idxRes at p
          split at p
          · rename_i hp
            rw [Bool.and_eq_true] at hp
            split at p
            · rename_i j hj
              obtain ⟨k, z, h3, h4, h5, h6⟩ := idxOf_at 60 d' ds 0 j hp.1 hp.2 hj
              have hp2 : pl 61 (.lst ds) = true := by simpa [pl] using hp.2
              have hdp := h1.dp hp2
              have hsh := shaped_of hp2 (by decide)
              simp only [toPy] at hdp hsh
              refine ⟨a, w, toPy d', toPys ds, j, toPy z, rfl, rfl, hdp, h2.dp hp.1, hsh, shaped_of hp.1 (by decide), ?_, h5, fun m z' hm hz => ?_, fin_imm ex s2 (.int _) p⟩
              · rw [toPys_map, List.getElem?_map, show j = k by omega, h4]; rfl
              · rw [toPys_map, List.getElem?_map] at hz
                cases hz2 : ds[m]? with
                | none => rw [hz2] at hz; cases hz
                | some u => rw [hz2] at hz; cases hz; exact h6 m u (by omega) hz2
            · exact p.elim
          · exact p.elim
end
end Mini

namespace Mini
open PySem PySem.Spec PyProof.Rows L2
/-! ### targets -/
section
variable {K : PySem.W.Frag} {σ : L2.St} {sl : Slots} {g : G}
theorem SRel.set (s : SRel K σ sl g) {i : Nat} {v : V} {rv : RV} (h : SlotV K g v rv) : SRel K (σ.set i (some v)) (sl.set i (some rv)) g := by
  refine ⟨by simp [s.len], fun j rv' hj => ?_, s.clen, s.nd, s.cell, s.zdom⟩
  rcases set_get hj with ⟨rfl, e⟩ | ⟨ne, hj⟩
  · cases e
    have hl : j < sl.length := by
      have := (List.getElem?_eq_some_iff.mp hj).1
      simpa using this
    exact ⟨v, by rw [List.getElem?_set_self (by rw [s.len]; exact hl)], h⟩
  · obtain ⟨w, h1, h2⟩ := s.slot j rv' hj
    exact ⟨w, by rw [List.getElem?_set_ne (fun e => ne e.symm)]; exact h1, h2⟩
/-- the same but at these slots -/
def Off (vs : List Nat) (σ σ' : L2.St) : Prop := σ'.length = σ.length ∧ ∀ i, i ∉ vs → σ'[i]? = σ[i]?
theorem Off.refl (vs : List Nat) (σ : L2.St) : Off vs σ σ := ⟨rfl, fun _ _ => rfl⟩
theorem Off.trans {vs : List Nat} {σ σ1 σ2 : L2.St} (a : Off vs σ σ1) (b : Off vs σ1 σ2) : Off vs σ σ2 := ⟨b.1.trans a.1, fun i h => (b.2 i h).trans (a.2 i h)⟩
theorem Off.set {vs : List Nat} {i : Nat} {x : Option V} (h : i ∈ vs) : Off vs σ (σ.set i x) := ⟨by simp, fun j hj => by
    have e : i ≠ j := fun e => hj (by rw [← e]; exact h)
    rw [List.getElem?_set_ne e]⟩
theorem Off.mono {vs ws : List Nat} {σ σ' : L2.St} (a : Off vs σ σ') (h : ∀ i ∈ vs, i ∈ ws) : Off ws σ σ' := ⟨a.1, fun i hi => a.2 i fun z => hi (h i z)⟩
theorem wipe_get {σ : L2.St} {i : Nat} : ∀ {vs : List Nat}, i ∉ vs → (wipe σ vs)[i]? = σ[i]?
  | [], _ => rfl
  | v :: vs, h => by
    unfold wipe
    rw [List.getElem?_set_ne (fun e => h (by simp [e])), wipe_get (fun z => h (by simp [z]))]
theorem wipe_in {σ : L2.St} {i : Nat} : ∀ {vs : List Nat}, i ∈ vs → i < σ.length → (wipe σ vs)[i]? = some none
  | [], h, _ => by simp at h
  | v :: vs, h, hl => by
    unfold wipe
    by_cases e : v = i
    · subst e
      rw [List.getElem?_set_self (by rw [wipe_length]; exact hl)]
    · rw [List.getElem?_set_ne e]
      rcases List.mem_cons.mp h with z | z
      · exact absurd z.symm e
      · exact wipe_in z hl
theorem Off.wipe {vs : List Nat} {σ σ' : L2.St} (a : Off vs σ σ') : L2.wipe σ' vs = L2.wipe σ vs := by
  refine List.ext_getElem? fun i => ?_
  by_cases h : i ∈ vs
  · by_cases hl : i < σ.length
    · rw [wipe_in h hl, wipe_in h (by rw [a.1]; exact hl)]
    · rw [List.getElem?_eq_none (by rw [wipe_length, a.1]; omega), List.getElem?_eq_none (by rw [wipe_length]; omega)]
  · rw [wipe_get h, wipe_get h, a.2 i h]
theorem wipe_wipe (vs : List Nat) (σ : L2.St) : L2.wipe (L2.wipe σ vs) vs = L2.wipe σ vs :=
  Off.wipe (σ := σ) ⟨wipe_length σ vs, fun i h => wipe_get h⟩
theorem wipeS_eq (sl : Slots) : ∀ is : List Nat, (wipeS sl is).length = sl.length
  | [] => rfl
  | i :: is => by unfold wipeS; rw [setN_eq, List.length_set, wipeS_eq sl is]
theorem wipeS_some {i : Nat} {rv : RV} : ∀ {is : List Nat}, (wipeS sl is)[i]? = some (some rv) → sl[i]? = some (some rv) ∧ i ∉ is
  | [], h => ⟨h, by simp⟩
  | j :: is, h => by
    unfold wipeS at h
    rw [setN_eq] at h
    rcases set_get h with ⟨_, e⟩ | ⟨ne, h⟩
    · cases e
    · obtain ⟨h1, h2⟩ := wipeS_some h
      exact ⟨h1, by simp only [List.mem_cons, not_or]; exact ⟨ne, h2⟩⟩
theorem SRel.wipe (s : SRel K σ sl g) (is : List Nat) : SRel K (L2.wipe σ is) (wipeS sl is) g := by
  refine ⟨by rw [wipe_length, wipeS_eq]; exact s.len, fun i rv h => ?_, s.clen, s.nd, s.cell, s.zdom⟩
  obtain ⟨h1, h2⟩ := wipeS_some h
  obtain ⟨v, h3, h4⟩ := s.slot i rv h1
  exact ⟨v, by rw [wipe_get h2]; exact h3, h4⟩
end
mutual
def tslots : T → List Nat
  | .v i => [i]
  | .tu ts => tsslots ts
  | .nil => []
  | .cons _ _ => []
def tsslots : T → List Nat
  | .cons a r => tslots a ++ tsslots r
  | _ => []
end
/-- what a target takes: a tuple may be one that is not known to be plain -/
def Yd (K : PySem.W.Frag) (g : G) (v : V) (d : D) : T → Prop
  | .v _ => Dn K g.Z g.H v d
  | _ => Rdn K g.Z g.H v d ∨ ∃ a xs ds, v = .ref a ∧ d = .tup ds ∧ SqT K g.H a xs ∧ Dns K g.Z g.H xs ds
theorem Yd.of {K : PySem.W.Frag} {g : G} {v : V} {d : D} (h : Dn K g.Z g.H v d) (t : T) : Yd K g v d t := by
  cases t with
  | v i => exact h
  | _ => exact .inl (.inl h)
def TGv (K : PySem.W.Frag) (t : T) : TG := fun v σ H Q => ∃ sl sl' g d, g.H = H ∧ SRel K σ sl g ∧ Yd K g v d t ∧ bindT t d sl = some sl' ∧ ∀ σ', SRel K σ' sl' g → Off (tslots t) σ σ' → Q σ' H
def TGsv (K : PySem.W.Frag) (t : T) : TGs := fun vs σ H Q => ∃ sl sl' g ds, g.H = H ∧ SRel K σ sl g ∧ Dns K g.Z g.H vs ds ∧ bindTs t ds sl = some sl' ∧ ∀ σ', SRel K σ' sl' g → Off (tsslots t) σ σ' → Q σ' H
section
variable {X : Cx} {tg : Expr} {tgs : List Expr} {t t1 t2 : T} {pos : Pos}
theorem PG.imp {u u' : TG} (h : PG X tg u) (m : ∀ v σ H Q, u' v σ H Q → u v σ H Q) : PG X tg u' := ⟨fun pins s σ H v w Q I r q => h.run pins s σ H v w Q I r (m v σ H Q q)⟩
theorem PGs.imp {u u' : TGs} (h : PGs X tgs u) (m : ∀ v σ H Q, u' v σ H Q → u v σ H Q) : PGs X tgs u' := ⟨fun pins s σ H v w Q I r q => h.run pins s σ H v w Q I r (m v σ H Q q)⟩
theorem PG.or {u u' : TG} (h : PG X tg u) (h' : PG X tg u') : PG X tg (fun v σ H Q => u v σ H Q ∨ u' v σ H Q) := ⟨fun pins s σ H v w Q I r q => by
  rcases q with q | q
  · exact h.run pins s σ H v w Q I r q
  · exact h'.run pins s σ H v w Q I r q⟩
theorem g_name {i : Nat} {x : Str} (hN : X.N.Nodup) (hi : X.N[i]? = some x) (hx : Loc X.env.scope x) (hf : X.fn x = true ∨ X.env.scope.names.lookup x = some .local) : PG X (.Name x pos) (TGv X.K (.v i)) := by
  refine PG.imp (pg_name hN hi hx hf) fun v σ H Q h => ?_
  obtain ⟨sl, sl', g, d, rfl, s, y, hb, q⟩ := h
  unfold bindT at hb
  split at hb
  · cases hb
    rw [setN_eq] at q
    exact q _ (s.set (rv := .imm d) y) (Off.set (by simp [tslots]))
  · cases hb
theorem gs_nil : PGs X [] (TGsv X.K .nil) := by
  refine PGs.imp pgs_nil fun vs σ H Q h => ?_
  obtain ⟨sl, sl', g, ds, rfl, s, y, hb, q⟩ := h
  cases ds with
  | nil =>
    cases y
    simp only [bindTs] at hb
    cases hb
    exact ⟨rfl, q σ s (Off.refl _ _)⟩
  | cons d ds => simp [bindTs] at hb
theorem gs_cons (h1 : PG X tg (TGv X.K t1)) (h2 : PGs X tgs (TGsv X.K t2)) (hs : (assignEach (tg :: tgs) X.env).map (·.2) = assign tg X.env :: (assignEach tgs X.env).map (·.2)) : PGs X (tg :: tgs) (TGsv X.K (.cons t1 t2)) := by
  refine PGs.imp (pgs_cons h1 h2 hs) fun vs σ H Q h => ?_
  obtain ⟨sl, sl', g, ds, rfl, s, y, hb, q⟩ := h
  cases ds with
  | nil => simp [bindTs] at hb
  | cons d ds =>
    cases y with
    | cons a b =>
      simp only [bindTs] at hb
      split at hb
      · rename_i sl1 hb1
        refine ⟨_, _, rfl, sl, sl1, g, d, rfl, s, Yd.of a t1, hb1, fun σ1 s1 o1 => ?_⟩
        refine ⟨sl1, sl', g, ds, rfl, s1, b, hb, fun σ2 s2 o2 => q σ2 s2 ?_⟩
        have e : tsslots (.cons t1 t2) = tslots t1 ++ tsslots t2 := by simp [tsslots]
        rw [e]
        exact (o1.mono fun i hi => List.mem_append_left _ hi).trans (o2.mono fun i hi => List.mem_append_right _ hi)
      · cases hb
theorem g_tup {k : Nat} {n : Nat} (hc : X.calm = true) (h : PGs X tgs (TGsv X.K t)) (hn : (assignEach tgs X.env).length = n) (hst : (assignEach tgs X.env).findIdx? (·.1) = none)
    (hlen : ∀ ds sl sl', bindTs t ds sl = some sl' → ds.length = n) : PG X (.Tuple tgs k pos) (TGv X.K (.tu t)) := by
  refine PG.imp (PG.or (pg_tup hc h hn hst) (pg_lst hc h hn hst)) fun v σ H Q h => ?_
  obtain ⟨sl, sl', g, d, rfl, s, y, hb, q⟩ := h
  have e : tslots (.tu t) = tsslots t := by simp [tslots]
  rw [e] at q
  have tupc : ∀ a xs ds, v = .ref a → SqT X.K g.H a xs → Dns X.K g.Z g.H xs ds → bindTs t ds sl = some sl' → gTup X.K n (TGsv X.K t) v σ g.H Q := fun a xs ds h1 h2 h3 h4 =>
    ⟨a, xs, h1, h2, by rw [h3.length]; exact hlen ds sl sl' h4, sl, sl', g, ds, rfl, s, h3, h4, q⟩
  have y : Rdn X.K g.Z g.H v d ∨ ∃ a xs ds, v = .ref a ∧ d = .tup ds ∧ SqT X.K g.H a xs ∧ Dns X.K g.Z g.H xs ds := y
  cases d with
  | tup ds =>
    simp only [bindT] at hb
    rcases y with y | ⟨a, xs, ds', h1, h2, h3, h4⟩
    · obtain ⟨a, xs, h1, h2, h3⟩ := y.tup
      exact .inl (tupc a xs ds h1 h2.sq h3 hb)
    · cases h2
      exact .inl (tupc a xs ds h1 h3 h4 hb)
  | lst ds =>
    simp only [bindT] at hb
    rcases y with y | ⟨a, xs, ds', h1, h2, h3, h4⟩
    · obtain ⟨a, xs, h1, h2, h3⟩ := y.lst
      exact .inr ⟨a, xs, h1, h2, by rw [h3.length]; exact hlen ds sl sl' hb, sl, sl', g, ds, rfl, s, h3, hb, q⟩
    · cases h2
  | _ => simp [bindT] at hb
end
end Mini

namespace Mini
open PySem PySem.Spec PyProof.Rows L2
/-! ### a walked container is locked -/
abbrev G.lk (g : G) (rv : RV) : G := { g with cs := lockC rv g.cs }
section
variable {K : PySem.W.Frag} {σ : L2.St} {sl : Slots} {g g' : G} {rv : RV}
theorem lock_get {cs : Cells} {j : Nat} {st : Stt} {d : D} (h : (lockC rv cs)[j]? = some (st, d)) : ∃ st0, cs[j]? = some (st0, d) ∧ (st = st0 ∨ (st0 = .live ∧ st = .lock ∧ rv = .cel j)) := by
  cases rv with
  | imm d => exact ⟨st, h, .inl rfl⟩
  | fr d => exact ⟨st, h, .inl rfl⟩
  | cel k =>
    simp only [lockC] at h
    rw [nth_eq] at h
    split at h
    · rename_i d' hk
      rw [setN_eq] at h
      rcases set_get h with ⟨rfl, e⟩ | ⟨_, h⟩
      · cases e; exact ⟨.live, hk, .inr ⟨rfl, rfl, rfl⟩⟩
      · exact ⟨st, h, .inl rfl⟩
    · exact ⟨st, h, .inl rfl⟩
theorem lock_len (cs : Cells) : (lockC rv cs).length = cs.length := by
  cases rv with
  | imm d => rfl
  | fr d => rfl
  | cel k =>
    simp only [lockC]
    split
    · rw [setN_eq, List.length_set]
    · rfl
theorem lock_live {b : Addr} (l : Live (g.lk rv) b) : Live g b := by
  obtain ⟨k, d, h1, h2⟩ := l
  obtain ⟨st0, h3, h4⟩ := lock_get h2
  rcases h4 with e | ⟨_, e, _⟩
  · exact ⟨k, d, h1, e ▸ h3⟩
  · cases e
theorem lock_ext : Ext g (g.lk rv) := ⟨fun _ h => h, fun _ h => .inl h, ⟨[], by simp, by simp⟩, fun _ o h => ⟨o, h⟩, fun _ _ h _ => h, fun _ h => .inl (lock_live h)⟩
theorem lock_rel (s : SRel K σ sl g) : SRel K σ sl (g.lk rv) :=
  s.next lock_ext (by show g.as.length = (lockC rv g.cs).length; rw [lock_len]; exact s.clen) s.nd (fun k a st d h1 h2 => by
    obtain ⟨st0, h3, h4⟩ := lock_get h2
    obtain ⟨c, q1, q2⟩ := s.cell k a st0 d h1 h3
    refine ⟨c, fun e => ?_, fun e => ?_⟩
    · rcases h4 with z | ⟨_, z, _⟩
      · exact q1 (z ▸ e)
      · rw [z] at e; cases e
    · rcases h4 with z | ⟨z, _, _⟩
      · exact q2 (z ▸ e)
      · exact q2 (by rw [z]; intro z; cases z)) s.zdom
/-- a locked cell is not live -/
theorem lock_cel {k : Nat} {a : Addr} (nd : g.as.Nodup) (h : g.as[k]? = some a) (e : rv = .cel k) : ¬ Live (g.lk rv) a := fun l => by
  obtain ⟨j, d, h1, h2⟩ := l
  have e' : j = k := nd_ix nd h1 h
  subst e'
  subst e
  have h2 : (lockC (.cel j) g.cs)[j]? = some (Stt.live, d) := h2
  simp only [lockC] at h2
  rw [nth_eq] at h2
  split at h2
  · rename_i d' hk
    rw [setN_eq] at h2
    rcases set_get h2 with ⟨_, e⟩ | ⟨ne, _⟩
    · cases e
    · exact ne rfl
  · rename_i hn
    exact hn d h2
theorem unlock_ok (hl : g.as.length = g.cs.length) (e : Ext (g.lk rv) g') (s : SRel K σ sl g') : Ext g { g' with cs := unlockC rv g.cs g'.cs } ∧ SRel K σ sl { g' with cs := unlockC rv g.cs g'.cs } := by
  have ul : ∀ {j : Nat} {st : Stt} {d : D}, (unlockC rv g.cs g'.cs)[j]? = some (st, d) → ∃ st0, g'.cs[j]? = some (st0, d) ∧ (st = st0 ∨ (st0 = .lock ∧ st = .live ∧ ∃ d0, g.cs[j]? = some (.live, d0))) := by
    intro j st d h
    cases rv with
    | imm d => exact ⟨st, h, .inl rfl⟩
    | fr d => exact ⟨st, h, .inl rfl⟩
    | cel k =>
      simp only [unlockC] at h
      rw [nth_eq, nth_eq] at h
      split at h
      · rename_i d0 d1 hk0 hk1
        rw [setN_eq] at h
        rcases set_get h with ⟨e', e3⟩ | ⟨_, h⟩
        · subst e'
          injection e3 with e1 e2
          subst e1; subst e2
          exact ⟨.lock, hk1, .inr ⟨rfl, rfl, d0, hk0⟩⟩
        · exact ⟨st, h, .inl rfl⟩
      · exact ⟨st, h, .inl rfl⟩
  have ulen : (unlockC rv g.cs g'.cs).length = g'.cs.length := by
    cases rv with
    | imm d => rfl
    | fr d => rfl
    | cel k =>
      simp only [unlockC]
      split
      · rw [setN_eq, List.length_set]
      · rfl
  have e0 := (lock_ext (g := g) (rv := rv)).trans e
  obtain ⟨new, e1, e2⟩ := e.pre
  have lv : ∀ b, Live { g' with cs := unlockC rv g.cs g'.cs } b → Live g b ∨ g.H b = none := fun b l => by
    obtain ⟨j, d, h1, h2⟩ := l
    obtain ⟨st0, h3, h4⟩ := ul h2
    rcases h4 with z | ⟨_, _, d0, z⟩
    · exact e0.live b ⟨j, d, h1, z ▸ h3⟩
    · left
      refine ⟨j, d0, ?_, z⟩
      have hj : j < g.as.length := by rw [hl]; exact (List.getElem?_eq_some_iff.mp z).1
      have h1 : g'.as[j]? = some b := h1
      rw [e1] at h1
      have h1 : (g.as ++ new)[j]? = some b := h1
      rw [List.getElem?_append_left hj] at h1
      exact h1
  have ex : Ext g { g' with cs := unlockC rv g.cs g'.cs } := ⟨e0.zsub, e0.zold, e0.pre, e0.dom, e0.frame, lv⟩
  refine ⟨ex, ⟨s.len, s.slot, by show g'.as.length = (unlockC rv g.cs g'.cs).length; rw [ulen]; exact s.clen, s.nd, fun j a st d h1 h2 => ?_, s.zdom⟩⟩
  obtain ⟨st0, h3, h4⟩ := ul h2
  obtain ⟨c, q1, q2⟩ := s.cell j a st0 d h1 h3
  refine ⟨c, fun e => ?_, fun e => ?_⟩
  · rcases h4 with z | ⟨_, z, _⟩
    · exact q1 (z ▸ e)
    · rw [z] at e; cases e
  · rcases h4 with z | ⟨z, _, _⟩
    · exact q2 (z ▸ e)
    · exact q2 (by rw [z]; intro z; cases z)
end
/-! ### what is walked -/
def tupIt : E → Bool
  | .enm _ => true
  | .zip _ _ => true
  | _ => false
def TurnV (K : PySem.W.Frag) (g : G) (tp : Bool) (x : V) (H' : Hp) (d : D) : Prop := match tp with
  | true => ∃ T x1 x2 d1 d2, x = .ref T ∧ g.H T = none ∧ H' = upd g.H T (.tup [x1, x2]) ∧ d = .tup [d1, d2] ∧ Dn K g.Z g.H x1 d1 ∧ Dn K g.Z g.H x2 d2
  | false => H' = g.H ∧ Dn K g.Z g.H x d
structure Walk (K : PySem.W.Frag) (g : G) (J : It) (tp : Bool) (ds : List D) : Prop where
  turn : ∀ g', Ext g g' → ∀ (i : Nat) (d : D), ds[i]? = some d → J.go i g'.H ∧ ∀ x H', J.yld i g'.H x H' → TurnV K g' tp x H' d
  stop : ∀ g', Ext g g' → J.stop ds.length g'.H
def TIv (K : PySem.W.Frag) (W : WX) (call : CallT) (modes : Nat → List Bool) (c : E) : TI := fun σ H R => ∃ sl g, g.H = H ∧ SRel K σ sl g ∧
  Post K W σ sl g (evIt call modes c sl g.cs) fun p g' => ∀ J, Walk K (g'.lk p.1) J (tupIt c) p.2 → R J g'.H
section
variable {X : Cx} {W : WX} {call : CallT} {modes : Nat → List Bool} {e e1 e2 e3 tg : Expr} {es : List Expr} {c c1 c2 c3 : E} {pos p : Pos}
theorem PI.imp {w w' : TI} (h : PI X tg e w) (m : ∀ σ H R, w' σ H R → w σ H R) : PI X tg e w' := ⟨fun pins s σ H R I q => h.run pins s σ H R I (m σ H R q)⟩
/-- a list stands still while it is walked -/
theorem lst_stays {K : PySem.W.Frag} {σ : L2.St} {sl : Slots} {g : G} {H0 : Hp} {v : V} {rv : RV} {ds : List D} (s : SRel K σ sl g) (h : RvRel K H0 g v rv) (hd : dr rv g.cs = some (.lst ds)) :
    ∃ a xs, v = .ref a ∧ Dns K g.Z g.H xs ds ∧ ∀ g', Ext (g.lk rv) g' → SqL K g'.H a xs := by
  cases rv with
  | imm d =>
    cases hd
    have h : Dn K g.Z g.H v (.lst ds) := h
    cases h with
    | lst z q r => exact ⟨_, _, rfl, r, fun g' e => .inl (rd_keep ((lock_rel (rv := .imm (.lst ds)) s).keep e) z q)⟩
    | lstK q r => exact ⟨_, _, rfl, r, fun g' e => .inr q⟩
  | fr d =>
    cases hd
    obtain ⟨a, h1, ⟨xs, h2, h3⟩, h4, h5, _⟩ := h
    exact ⟨a, xs, h1, h3, fun g' e => SqL.of (e.frame a _ h2 (not_live_of_notin h5))⟩
  | cel k =>
    obtain ⟨a, h1, h2⟩ := h
    have hd' : (nth g.cs k).map (·.2) = some (D.lst ds) := hd
    rw [nth_eq] at hd'
    cases q : g.cs[k]? with
    | none => rw [q] at hd'; cases hd'
    | some z =>
      obtain ⟨st, d⟩ := z
      rw [q] at hd'
      cases hd'
      obtain ⟨xs, h3, h4⟩ := (s.cell k a _ _ h1 q).1
      exact ⟨a, xs, h2, h4, fun g' e => SqL.of (e.frame a _ h3 (lock_cel s.nd h1 rfl))⟩
theorem tup_stays {K : PySem.W.Frag} {σ : L2.St} {sl : Slots} {g : G} {v : V} {ds : List D} (s : SRel K σ sl g) (h : Rdn K g.Z g.H v (.tup ds)) :
    ∃ a xs, v = .ref a ∧ Dns K g.Z g.H xs ds ∧ ∀ g', Ext g g' → SqT K g'.H a xs := by
  obtain ⟨a, xs, h1, h2, h3⟩ := h.tup
  exact ⟨a, xs, h1, h3, fun g' e => (pTup_keep (s.keep e) h2).sq⟩
theorem walk_list {K : PySem.W.Frag} {σ : L2.St} {sl : Slots} {g : G} {a : Addr} {xs : List V} {ds : List D} (s : SRel K σ sl g) (hd : Dns K g.Z g.H xs ds) (hs : ∀ g', Ext g g' → SqL K g'.H a xs) : Walk K g (Itl K a) false ds := by
  refine ⟨fun g' e i d hi => ?_, fun g' e => ⟨xs, hs g' e, by rw [hd.length]; exact Nat.le_refl _⟩⟩
  obtain ⟨x, hx, hxd⟩ := hd.get hi
  refine ⟨⟨xs, x, hs g' e, hx⟩, fun y H' hy => ?_⟩
  obtain ⟨rfl, hy⟩ := hy
  have := hy xs (hs g' e)
  rw [hx] at this
  cases this
  exact ⟨rfl, s.dn e hxd⟩
theorem walk_tup {K : PySem.W.Frag} {σ : L2.St} {sl : Slots} {g : G} {a : Addr} {xs : List V} {ds : List D} (s : SRel K σ sl g) (hd : Dns K g.Z g.H xs ds) (hs : ∀ g', Ext g g' → SqT K g'.H a xs) : Walk K g (Itt K a) false ds := by
  refine ⟨fun g' e i d hi => ?_, fun g' e => ⟨xs, hs g' e, by rw [hd.length]; exact Nat.le_refl _⟩⟩
  obtain ⟨x, hx, hxd⟩ := hd.get hi
  refine ⟨⟨xs, x, hs g' e, hx⟩, fun y H' hy => ?_⟩
  obtain ⟨rfl, hy⟩ := hy
  have := hy xs (hs g' e)
  rw [hx] at this
  cases this
  exact ⟨rfl, s.dn e hxd⟩
theorem walk_str {K : PySem.W.Frag} {g : G} (z : Str) : Walk K g (Its z) false (z.cps.toList.map fun c => D.str [c]) := by
  refine ⟨fun g' e i d hi => ?_, fun g' e => by show z.cps.size ≤ _; simp⟩
  rw [List.getElem?_map] at hi
  cases q : z.cps.toList[i]? with
  | none => rw [q] at hi; cases hi
  | some c =>
    rw [q] at hi
    cases hi
    have q' : z.cps[i]? = some c := by simpa using q
    refine ⟨(Array.getElem?_eq_some_iff.mp q').1, fun y H' hy => ?_⟩
    obtain ⟨rfl, c', h1, rfl⟩ := hy
    rw [q'] at h1
    cases h1
    exact ⟨rfl, .str ⟨#[c]⟩⟩
theorem rngD_get : ∀ (n : Nat) (lo : Int) (i : Nat) (d : D), (rngD lo n)[i]? = some d → i < n ∧ d = .int (lo + i)
  | 0, lo, i, d, h => by simp [rngD] at h
  | n + 1, lo, 0, d, h => by
    simp [rngD] at h
    subst h
    exact ⟨by omega, by simp⟩
  | n + 1, lo, i + 1, d, h => by
    simp only [rngD, List.getElem?_cons_succ] at h
    obtain ⟨h1, h2⟩ := rngD_get n (lo + 1) i d h
    exact ⟨by omega, by rw [h2]; congr 1; omega⟩
theorem rngD_len : ∀ (n : Nat) (lo : Int), (rngD lo n).length = n
  | 0, _ => rfl
  | n + 1, lo => by simp [rngD, rngD_len n]
theorem walk_rng {K : PySem.W.Frag} {g : G} (lo : Int) (n : Nat) : Walk K g (Itr lo n) false (rngD lo n) := by
  refine ⟨fun g' e i d hi => ?_, fun g' e => by show n ≤ _; rw [rngD_len]; exact Nat.le_refl _⟩
  obtain ⟨h1, rfl⟩ := rngD_get n lo i d hi
  exact ⟨h1, fun y H' ⟨h2, h3⟩ => ⟨h2, by rw [h3]; exact .int _⟩⟩
/-- a list, a tuple, a text -/
def iAny (K : PySem.W.Frag) (td : TE) : TI := fun σ H R => td σ H fun x H1 => (∃ a, x = .ref a ∧ (∃ xs, SqL K H1 a xs) ∧ R (Itl K a) H1) ∨ (∃ a, x = .ref a ∧ (∃ xs, SqT K H1 a xs) ∧ R (Itt K a) H1) ∨ (∃ z, x = .str z ∧ R (Its z) H1)
theorem pi_any {td : TE} (he : PE X e td) : PI X tg e (iAny X.K td) := by
  refine ⟨fun pins s σ H R I h => ?_⟩
  refine thn (he.run pins s σ H _ I h) fun v s1 ⟨x, H1, I1, r1, q1⟩ => ?_
  rcases q1 with ⟨a, rfl, ⟨xs, hq⟩, q⟩ | ⟨a, rfl, ⟨xs, hq⟩, q⟩ | ⟨z, rfl, q⟩
  · cases r1
    obtain ⟨its, rv, p, hz⟩ := I1.list hq
    refine wpAny_pyIter_list p.isList ?_
    refine ⟨s1.heap.objs.size, [s1.heap.objs.size], _, _, H1, rfl, I1.kept (t' := s1.toks) fun b o e => Heap.get?_push_of_some _ e, turn_list a _, ⟨_, Heap.get?_push_size _ rfl, rfl, rfl⟩, fun b hb => ?_, q⟩
    have e : b = s1.heap.objs.size := by simpa using hb
    subst e
    exact I1.fpOk (Nat.le_refl _) (I1.hok.fresh (Nat.le_refl _))
  · cases r1
    obtain ⟨its, rv, p, hz⟩ := I1.tuple hq
    refine wpAny_pyIter_tuple (show s1.heap.IsTuple a its.toArray from p) ?_
    refine ⟨s1.heap.objs.size, [s1.heap.objs.size], _, _, H1, rfl, I1.kept (t' := s1.toks) fun b o e => Heap.get?_push_of_some _ e, turn_tuple a _, ⟨_, Heap.get?_push_size _ rfl, rfl, rfl⟩, fun b hb => ?_, q⟩
    have e : b = s1.heap.objs.size := by simpa using hb
    subst e
    exact I1.fpOk (Nat.le_refl _) (I1.hok.fresh (Nat.le_refl _))
  · obtain ⟨t, rfl⟩ := r1
    cases ha : z.cps.all (· < 128)
    · exact wpAny_pyIter_wide ha (pi_one (tk := s1.toks) I1 _ (turn_str _ z t "str_iterator" (.inr rfl)) ⟨_, Heap.get?_push_size _ rfl, rfl, rfl⟩ q)
    · exact wpAny_pyIter_ascii ha (pi_one (tk := s1.toks) I1 _ (turn_str _ z t "str_ascii_iterator" (.inl rfl)) ⟨_, Heap.get?_push_size _ rfl, rfl, rfl⟩ q)
theorem i_val (he : PE X e (TV X W call modes c)) : PI X tg e (TIv X.K W call modes (.it c)) := by
  refine PI.imp (pi_any he) fun σ H R h => ?_
  obtain ⟨sl, g, rfl, s, h⟩ := h
  simp only [evIt] at h
  unfold iAny
  refine TEv.one (Ext.refl g) s h fun x v g1 ex s1 r1 p => ?_
  cases q1 : dr x g1.cs with
  | none => rw [q1] at p; exact p.elim
  | some d =>
    rw [q1] at p
    dsimp only at p
    cases q2 : items d with
    | none => rw [q2] at p; exact p.elim
    | some ds =>
      rw [q2] at p
      have p := fun J w => p.now ex s1 J w
      have rd := s1.read r1 q1
      cases d <;> first | (cases q2; done) | skip
      · cases q2
        obtain ⟨z, rfl, rfl⟩ := rd.str
        exact .inr (.inr ⟨z, rfl, p _ (walk_str z)⟩)
      · cases q2
        obtain ⟨a, xs, rfl, hd, hs⟩ := tup_stays s1 rd
        exact .inr (.inl ⟨a, rfl, ⟨xs, hs g1 (Ext.refl g1)⟩, p _ (walk_tup (lock_rel s1) hd fun g' e => hs g' (lock_ext.trans e))⟩)
      · cases q2
        obtain ⟨a, xs, rfl, hd, hs⟩ := lst_stays s1 r1 q1
        exact .inl ⟨a, rfl, ⟨xs, by
          obtain ⟨b, ys, e1, e2, e3⟩ := rd.lst
          exact hs (g1.lk x) (Ext.refl _)⟩, p _ (walk_list (lock_rel s1) hd hs)⟩
theorem i_rng1 (hg : Gl X "range") (hm : X.mg "range" = none) (he : PE X e (TV X W call modes c)) (hs : starEach [e] X.env = [(false, eval e X.env)]) : PI X tg (.Call (.Name "range" p) [e] [] pos) (TIv X.K W call modes (.rng1 c)) := by
  refine PI.imp (pi_range1 hg hm (pa_cons he pa_nil (by rw [hs]; rfl)) hs) fun σ H R h => ?_
  obtain ⟨sl, g, rfl, s, h⟩ := h
  simp only [evIt] at h
  unfold iRng1 tCons tNil
  refine TEv.one (Ext.refl g) s h fun x v g1 ex s1 r1 p => ?_
  cases q1 : dr x g1.cs with
  | none => rw [q1] at p; exact p.elim
  | some d =>
    rw [q1] at p
    cases d <;> first | exact p.elim | skip
    rename_i j
    cases (s1.read r1 q1).int
    dsimp only at p
    split at p
    · rename_i hin
      simp only [in62, Bool.and_eq_true, decide_eq_true_eq] at hin
      exact ⟨j, rfl, by omega, by omega, p.now ex s1 _ (walk_rng 0 _)⟩
    · exact p.elim
theorem i_rng2 (hg : Gl X "range") (hm : X.mg "range" = none) (he : PE X e1 (TV X W call modes c1)) (he2 : PE X e2 (TV X W call modes c2)) (hs : starEach [e1, e2] X.env = [(false, eval e1 X.env), (false, eval e2 X.env)])
    (hs2 : starEach [e2] X.env = [(false, eval e2 X.env)]) : PI X tg (.Call (.Name "range" p) [e1, e2] [] pos) (TIv X.K W call modes (.rng2 c1 c2)) := by
  refine PI.imp (pi_range2 hg hm (pa_cons he (pa_cons he2 pa_nil (by rw [hs2]; rfl)) (by rw [hs, hs2])) hs hs2) fun σ H R h => ?_
  obtain ⟨sl, g, rfl, s, h⟩ := h
  simp only [evIt] at h
  unfold iRng2 tCons tNil
  refine TEv.two s h fun x y v w g2 ex s2 r1 r2 _ p => ?_
  cases q1 : dr x g2.cs with
  | none => rw [q1] at p; exact p.elim
  | some d =>
    cases q2 : dr y g2.cs with
    | none => rw [q1, q2] at p; cases d <;> exact p.elim
    | some d' =>
      rw [q1, q2] at p
      cases d <;> cases d' <;> first | exact p.elim | skip
      rename_i i j
      cases (s2.read r1 q1).int
      cases (s2.read r2 q2).int
      dsimp only at p
      split at p
      · rename_i hin
        simp only [in62, Bool.and_eq_true, decide_eq_true_eq] at hin
        exact ⟨i, j, rfl, ⟨by omega, by omega, by omega, by omega⟩, p.now ex s2 _ (walk_rng i _)⟩
      · exact p.elim
theorem enums_get : ∀ (ds : List D) (k : Int) (i : Nat) (d : D), (enums ds k)[i]? = some d → ∃ d', ds[i]? = some d' ∧ d = .tup [.int (k + i), d']
  | [], k, i, d, h => by simp [enums] at h
  | x :: ds, k, 0, d, h => by
    simp [enums] at h
    exact ⟨x, rfl, by rw [← h]; simp⟩
  | x :: ds, k, i + 1, d, h => by
    simp only [enums, List.getElem?_cons_succ] at h
    obtain ⟨d', h1, h2⟩ := enums_get ds (k + 1) i d h
    exact ⟨d', by simpa using h1, by rw [h2]; congr 2; congr 1; omega⟩
theorem enums_len : ∀ (ds : List D) (k : Int), (enums ds k).length = ds.length
  | [], _ => rfl
  | x :: ds, k => by simp [enums, enums_len ds]
theorem i_enum {elts : List Expr} {kk : Nat} {tpos : Pos} (hg : Gl X "enumerate") (hm : X.mg "enumerate" = none) (he : PE X e (TV X W call modes c)) (hs : starEach [e] X.env = [(false, eval e X.env)]) :
    PI X (.Tuple elts kk tpos) (.Call (.Name "enumerate" p) [e] [] pos) (TIv X.K W call modes (.enm c)) := by
  refine PI.imp (pi_enum hg hm (pa_cons he pa_nil (by rw [hs]; rfl)) hs) fun σ H R h => ?_
  obtain ⟨sl, g, rfl, s, h⟩ := h
  simp only [evIt] at h
  unfold iEnum tCons tNil
  refine TEv.one (Ext.refl g) s h fun x v g1 ex s1 r1 p => ?_
  cases q1 : dr x g1.cs with
  | none => rw [q1] at p; exact p.elim
  | some d =>
    rw [q1] at p
    cases d <;> first | exact p.elim | skip
    rename_i ds
    obtain ⟨a, xs, rfl, hd, hs⟩ := lst_stays s1 r1 q1
    refine ⟨a, xs, rfl, hs (g1.lk x) (Ext.refl _), p.now ex s1 _ ⟨fun g' e i d hi => ?_, fun g' e => ⟨xs, hs g' e, by rw [enums_len, hd.length]; exact Nat.le_refl _⟩⟩⟩
    obtain ⟨d', h1, rfl⟩ := enums_get ds 0 i d hi
    obtain ⟨x', hx, hxd⟩ := hd.get h1
    refine ⟨⟨xs, x', hs g' e, hx⟩, fun y H' hy => ?_⟩
    obtain ⟨T, x2, h2, h3, h4, h5⟩ := hy
    have h5 := h5 xs (hs g' e)
    rw [hx] at h5
    cases h5
    exact ⟨T, .int (i : Nat), x', .int (i : Nat), d', h2, h3, h4, by simp, .int _, (lock_rel s1).dn e hxd⟩
theorem zips_get : ∀ (xs ys : List D) (i : Nat) (d : D), (zips xs ys)[i]? = some d → ∃ a b, xs[i]? = some a ∧ ys[i]? = some b ∧ d = .tup [a, b]
  | [], ys, i, d, h => by cases ys <;> simp [zips] at h
  | _ :: _, [], i, d, h => by simp [zips] at h
  | x :: xs, y :: ys, 0, d, h => by
    simp [zips] at h
    exact ⟨x, y, rfl, rfl, h.symm⟩
  | x :: xs, y :: ys, i + 1, d, h => by
    simp only [zips, List.getElem?_cons_succ] at h
    obtain ⟨a, b, h1, h2, h3⟩ := zips_get xs ys i d h
    exact ⟨a, b, by simpa using h1, by simpa using h2, h3⟩
theorem zips_len : ∀ (xs ys : List D), (zips xs ys).length = min xs.length ys.length
  | [], ys => by cases ys <;> simp [zips]
  | _ :: _, [] => by simp [zips]
  | x :: xs, y :: ys => by simp [zips, zips_len xs ys]
theorem seq_stays {K : PySem.W.Frag} {σ : L2.St} {sl : Slots} {g : G} {H0 : Hp} {v : V} {rv : RV} {b : Bool} {ds : List D} (s : SRel K σ sl g) (h : RvRel K H0 g v rv) (hd : seqOf rv = some (b, ds)) :
    ∃ a xs, v = .ref a ∧ Dns K g.Z g.H xs ds ∧ ∀ g', Ext g g' → if b then SqT K g'.H a xs else SqL K g'.H a xs := by
  cases rv with
  | cel k => cases hd
  | fr d =>
    cases d <;> cases hd
    obtain ⟨a, xs, h1, h2, h3⟩ := lst_stays s h rfl
    exact ⟨a, xs, h1, h2, fun g' e => by rw [if_neg (by decide)]; exact h3 g' e⟩
  | imm d =>
    cases d <;> cases hd
    · obtain ⟨a, xs, h1, h2, h3⟩ := tup_stays s (.inl h)
      exact ⟨a, xs, h1, h2, fun g' e => by rw [if_pos rfl]; exact h3 g' e⟩
    · obtain ⟨a, xs, h1, h2, h3⟩ := lst_stays s h rfl
      exact ⟨a, xs, h1, h2, fun g' e => by rw [if_neg (by decide)]; exact h3 g' e⟩
theorem i_zip {elts : List Expr} {kk : Nat} {tpos : Pos} (hg : Gl X "zip") (hm : X.mg "zip" = none) (he : PE X e1 (TV X W call modes c1)) (he2 : PE X e2 (TV X W call modes c2))
    (hs : starEach [e1, e2] X.env = (false, eval e1 X.env) :: starEach [e2] X.env) (hs2 : starEach [e2] X.env = (false, eval e2 X.env) :: starEach [] X.env) :
    PI X (.Tuple elts kk tpos) (.Call (.Name "zip" p) [e1, e2] [] pos) (TIv X.K W call modes (.zip c1 c2)) := by
  refine PI.imp (RZ.pi_zipA hg hm (pa_cons he (pa_cons he2 pa_nil hs2) hs) hs (by rw [hs2]; rfl)) fun σ H R h => ?_
  obtain ⟨sl, g, rfl, s, h⟩ := h
  simp only [evIt] at h
  unfold RZ.iZipA tCons tNil
  refine TEv.two s h fun x y v w g2 ex s2 r1 r2 _ p => ?_
  have fin : ∀ (b : Bool) (xs ys : List D), seqOf x = some (b, xs) → seqOf y = some (b, ys) → Post X.K W σ sl g (.ok (RV.imm .non, zips xs ys) g2.cs) (fun p g' => ∀ J, Walk X.K (g'.lk p.1) J (tupIt (.zip c1 c2)) p.2 → R J g'.H) →
      ∃ a b xs ys, [v, w] = [.ref a, .ref b] ∧ ((SqL X.K g2.H a xs ∧ SqL X.K g2.H b ys ∧ R (Itz X.K a b) g2.H) ∨ (SqT X.K g2.H a xs ∧ SqT X.K g2.H b ys ∧ R (RZ.ItzT X.K a b) g2.H)) := fun b xs ys h1 h2 p => by
    obtain ⟨a, us, rfl, d1, k1⟩ := seq_stays s2 r1 h1
    obtain ⟨a', us', rfl, d2, k2⟩ := seq_stays s2 r2 h2
    have p := fun J w => p.now ex s2 J w
    have l1 := d1.length
    have l2 := d2.length
    cases b with
    | false =>
      have k1 : ∀ g', Ext g2 g' → SqL X.K g'.H a us := fun g' e => by have := k1 g' e; rwa [if_neg (by decide)] at this
      have k2 : ∀ g', Ext g2 g' → SqL X.K g'.H a' us' := fun g' e => by have := k2 g' e; rwa [if_neg (by decide)] at this
      refine ⟨a, a', us, us', rfl, .inl ⟨k1 _ (Ext.refl _), k2 _ (Ext.refl _), p _ ⟨fun g' e i d hi => ?_, fun g' e => ⟨us, us', k1 g' e, k2 g' e, ?_⟩⟩⟩⟩
      · obtain ⟨da, db, h3, h4, rfl⟩ := zips_get xs ys i d hi
        obtain ⟨xa, h5, h6⟩ := d1.get h3
        obtain ⟨xb, h7, h8⟩ := d2.get h4
        refine ⟨⟨us, us', xa, xb, k1 g' e, k2 g' e, h5, h7⟩, fun z H' hz => ?_⟩
        obtain ⟨T, za, zb, e1, e2, e3, e4, e5⟩ := hz
        have e4 := e4 us (k1 g' e)
        have e5 := e5 us' (k2 g' e)
        rw [h5] at e4; rw [h7] at e5
        cases e4; cases e5
        exact ⟨T, xa, xb, da, db, e1, e2, e3, rfl, s2.dn e h6, s2.dn e h8⟩
      · show us.length ≤ (zips xs ys).length ∨ us'.length ≤ (zips xs ys).length
        rw [zips_len]; omega
    | true =>
      have k1 : ∀ g', Ext g2 g' → SqT X.K g'.H a us := fun g' e => by have := k1 g' e; rwa [if_pos rfl] at this
      have k2 : ∀ g', Ext g2 g' → SqT X.K g'.H a' us' := fun g' e => by have := k2 g' e; rwa [if_pos rfl] at this
      refine ⟨a, a', us, us', rfl, .inr ⟨k1 _ (Ext.refl _), k2 _ (Ext.refl _), p _ ⟨fun g' e i d hi => ?_, fun g' e => ⟨us, us', k1 g' e, k2 g' e, ?_⟩⟩⟩⟩
      · obtain ⟨da, db, h3, h4, rfl⟩ := zips_get xs ys i d hi
        obtain ⟨xa, h5, h6⟩ := d1.get h3
        obtain ⟨xb, h7, h8⟩ := d2.get h4
        refine ⟨⟨us, us', xa, xb, k1 g' e, k2 g' e, h5, h7⟩, fun z H' hz => ?_⟩
        obtain ⟨T, za, zb, e1, e2, e3, e4, e5⟩ := hz
        have e4 := e4 us (k1 g' e)
        have e5 := e5 us' (k2 g' e)
        rw [h5] at e4; rw [h7] at e5
        cases e4; cases e5
        exact ⟨T, xa, xb, da, db, e1, e2, e3, rfl, s2.dn e h6, s2.dn e h8⟩
      · show us.length ≤ (zips xs ys).length ∨ us'.length ≤ (zips xs ys).length
        rw [zips_len]; omega
  split at p
  · rename_i xs ys h1 h2
    exact fin true xs ys h1 h2 p
  · rename_i xs ys h1 h2
    exact fin false xs ys h1 h2 p
  · exact p.elim
end
end Mini

namespace Mini
open PySem PySem.Spec PyProof.Rows L2
theorem SRel.swap {K : PySem.W.Frag} {σ σ2 : L2.St} {sl sl2 : Slots} {g g3 : G} (s : SRel K σ sl g) (e : Ext g g3) (s3 : SRel K σ2 sl2 g3) : SRel K σ sl g3 := s.next e s3.clen s3.nd s3.cell s3.zdom
/-- nothing is raised -/
def WF : WX := fun _ _ _ _ => False
def TTc (K : PySem.W.Frag) (call : CallT) (modes : Nat → List Bool) (c : E) : TT := if isNop c then tYes else TTv K WF call modes c
/-- a list that is being made, at Dd -/
theorem grow {K : PySem.W.Frag} {σ : L2.St} {sl : Slots} {g g5 : G} {Dd : Addr} {ds : List D} {d : D} {y : V} (hn : g.H Dd = none) (e : Ext g g5) (s : SRel K σ sl g5) (r : RvRel K g.H g5 (.ref Dd) (.fr (.lst ds))) (hd : Dn K g5.Z g5.H y d) :
    ∃ acc, g5.H Dd = some (.lst acc) ∧ acc.length = ds.length ∧ Ext g { g5 with H := upd g5.H Dd (.lst (acc ++ [y])) } ∧ SRel K σ sl { g5 with H := upd g5.H Dd (.lst (acc ++ [y])) } ∧
      RvRel K g.H { g5 with H := upd g5.H Dd (.lst (acc ++ [y])) } (.ref Dd) (.fr (.lst (ds ++ [d]))) := by
  obtain ⟨a, h1, ⟨acc, h2, h3⟩, h4, h5, h6⟩ := r
  cases h1
  have kp : Keep g5.Z g5.H (upd g5.H Dd (.lst (acc ++ [y]))) := fun b o q z => by
    have hb : b ≠ Dd := fun e => by
      subst e
      rcases z with z | z
      · exact h4 z
      · rw [h2] at q; cases q; exact z
    rw [upd_ne hb]; exact q
  have cellne : ∀ {k : Nat} {b : Addr}, g5.as[k]? = some b → b ≠ Dd := fun h e => h5 (e ▸ List.mem_of_getElem? h)
  refine ⟨acc, h2, h3.length, ⟨e.zsub, e.zold, e.pre, fun b o q => ?_, fun b o q n => ?_, e.live⟩, ⟨s.len, fun i rv h => ?_, s.clen, s.nd, fun k b st d' q1 q2 => ?_, fun b z => ?_⟩, ⟨Dd, rfl, ⟨acc ++ [y], upd_same, ?_⟩, h4, h5, h6⟩⟩
  · obtain ⟨o', q'⟩ := e.dom b o q
    have hb : b ≠ Dd := fun z => by rw [z, hn] at q; cases q
    exact ⟨o', by show upd g5.H Dd _ b = _; rw [upd_ne hb]; exact q'⟩
  · have hb : b ≠ Dd := fun z => by rw [z, hn] at q; cases q
    show upd g5.H Dd _ b = _
    rw [upd_ne hb]; exact e.frame b o q n
  · obtain ⟨v, h7, h8⟩ := s.slot i rv h
    refine ⟨v, h7, ?_⟩
    cases rv with
    | imm d0 => exact Dn.keep kp (fun _ z => z) d0 v h8
    | cel k => exact h8
    | fr d0 => exact h8.elim
  · obtain ⟨c, q⟩ := s.cell k b st d' q1 q2
    exact ⟨c.keep kp (fun _ z => z) (by show upd g5.H Dd _ b = _; rw [upd_ne (cellne q1)]), q⟩
  · obtain ⟨o, ho⟩ := s.zdom b z
    have hb : b ≠ Dd := fun z' => h4 (z' ▸ z)
    exact ⟨o, by show upd g5.H Dd _ b = _; rw [upd_ne hb]; exact ho⟩
  · exact (Dns.keep kp (fun _ z => z) _ _ h3).append (Dns.one (Dn.keep kp (fun _ z => z) d y hd))
theorem ttc_read {K : PySem.W.Frag} {call : CallT} {modes : Nat → List Bool} {c : E} {σ : L2.St} {sl : Slots} {g : G} {b : Bool} {cs1 : Cells} {R : Bool → Hp → Prop} (s : SRel K σ sl g)
    (h : (if isNop c then .ok true g.cs else (ev call modes c sl g.cs).bind fun x cs3 => Res.opt (truthR x cs3) cs3) = Res.ok b cs1)
    (q : ∀ g3, g3.cs = cs1 → Ext g g3 → SRel K σ sl g3 → R b g3.H) : TTc K call modes c σ g.H R := by
  unfold TTc
  cases hn : isNop c with
  | true =>
    rw [hn, if_pos rfl] at h
    cases h
    rw [if_pos rfl]
    exact q g rfl (Ext.refl g) s
  | false =>
    rw [hn, if_neg (by decide)] at h
    rw [if_neg (by decide)]
    refine ⟨sl, g, rfl, s, ?_⟩
    cases hr : ev call modes c sl g.cs with
    | stuck => rw [hr] at h; cases h
    | err x cs => rw [hr] at h; cases h
    | ok x cs3 =>
      rw [hr] at h
      have h : Res.opt (truthR x cs3) cs3 = Res.ok b cs1 := h
      intro g3 e1 e2 e3
      subst e1
      cases ht : truthR x g3.cs with
      | none => rw [ht] at h; cases h
      | some k =>
        rw [ht] at h
        injection h with h1 h2
        subst h1
        exact ⟨k, ht, q g3 h2 e2 e3⟩
section
variable {X : Cx} {W : WX} {call : CallT} {modes : Nat → List Bool} {elt tg iter : Expr} {ifs : List Expr} {scope : Scope} {c it e : E} {t : T} {pos : Pos}
theorem lc_read {own : List Nat} {σ : L2.St} {H : Hp} {Q : VK} (ht : ∀ i ∈ tslots t, i ∈ own) (htp : tupIt it = true → ∃ ts, t = .tu ts) (h : TEv X.K W call modes (.lc own t it c e) σ H Q) :
    tLc (TIv X.K W call modes it) (TGv X.K t) (TTc X.K call modes c) (TEv X.K WF call modes e) own σ H Q := by
  obtain ⟨sl, g, rfl, s, h⟩ := h
  simp only [ev] at h
  unfold tLc
  refine ⟨sl, g, rfl, s, h.bind.mono fun p g1 _ ex1 s1 pp J wk Dd hD => ?_⟩
  obtain ⟨rv, ds⟩ := p
  dsimp only at pp wk
  split at pp
  case isFalse => exact pp.elim
  rename_i hlen
  generalize hC : (fun (sl1 : Slots) (cs2 : Cells) => if isNop c then Res.ok true cs2 else (ev call modes c sl1 cs2).bind fun x cs3 => Res.opt (truthR x cs3) cs3) = C at pp
  generalize hE : (fun (sl1 : Slots) (cs2 : Cells) => ev call modes e sl1 cs2) = Ee at pp
  cases hL : lcLoop (bindT t) C Ee (wipeS sl own) ds [] (lockC rv g1.cs) with
  | stuck => rw [hL] at pp; exact pp.elim
  | err x cs => rw [hL] at pp; exact pp.elim
  | ok ds' cs2 =>
    rw [hL] at pp
    have sL : SRel X.K σ sl (g1.lk rv) := lock_rel s1
    have sW := sL.wipe own
    let Iv : Nat → Hp → Prop := fun i Hc => ∃ g' acc, g'.H = Hc ∧ Ext (g1.lk rv) g' ∧ SRel X.K (wipe σ own) (wipeS sl own) g' ∧ RvRel X.K g1.H g' (.ref Dd) (.fr (.lst acc.reverse)) ∧ acc.length ≤ i ∧
      lcLoop (bindT t) C Ee (wipeS sl own) (ds.drop i) acc g'.cs = .ok ds' cs2
    refine ⟨fun i m Hc => m = ds.length - i ∧ i ≤ ds.length ∧ Iv i Hc, ⟨ds.length, by simp, Nat.zero_le _, ?_⟩, ?_⟩
    · have e3 := alloc_ext (o := .lst []) sL hD
      have s3 := alloc_rel (o := .lst []) sW hD
      refine ⟨{ g1.lk rv with H := upd g1.H Dd (.lst []) }, [], rfl, e3, s3, ⟨Dd, rfl, ⟨[], upd_same, .nil⟩, fun z => ?_, fun z => ?_, hD⟩, Nat.zero_le _, hL⟩
      · obtain ⟨o, ho⟩ := s1.zdom Dd z
        rw [hD] at ho; cases ho
      · obtain ⟨k, hk⟩ := List.getElem?_of_mem z
        have : k < g1.cs.length := by rw [← s1.clen]; exact (List.getElem?_eq_some_iff.mp hk).1
        obtain ⟨o, ho, _⟩ := (s1.cell k Dd _ _ hk (List.getElem?_eq_getElem this)).1.there
        rw [hD] at ho; cases ho
    · rintro i m Hc ⟨rfl, hi, g', acc, rfl, e', s', rD, hacc, hl⟩
      by_cases hlt : i < ds.length
      · refine .inr ?_
        have hd : ds[i]? = some ds[i] := List.getElem?_eq_getElem hlt
        obtain ⟨go, yl⟩ := wk.turn g' e' i ds[i] hd
        refine ⟨go, Iv (i + 1), fun H' q => ⟨ds.length - (i + 1), by omega, rfl, hlt, q⟩, fun x H' hy => ?_⟩
        have tv := yl x H' hy
        rw [List.drop_eq_getElem_cons hlt] at hl
        unfold lcLoop at hl
        -- the state at which the target is bound
        obtain ⟨gy, y1, y2, y3, y4, y5, y6⟩ : ∃ gy : G, gy.H = H' ∧ gy.cs = g'.cs ∧ Ext g' gy ∧ SRel X.K (wipe σ own) (wipeS sl own) gy ∧ RvRel X.K g1.H gy (.ref Dd) (.fr (.lst acc.reverse)) ∧ Yd X.K gy x ds[i] t := by
          cases htt : tupIt it with
          | false =>
            rw [htt] at tv
            obtain ⟨rfl, hx⟩ := tv
            exact ⟨g', rfl, rfl, Ext.refl g', s', rD, Yd.of hx t⟩
          | true =>
            rw [htt] at tv
            obtain ⟨T, x1, x2, d1, d2, rfl, hT, rfl, ed, hx1, hx2⟩ := tv
            obtain ⟨ts, rfl⟩ := htp htt
            have e3 := alloc_ext (o := .tup [x1, x2]) s' hT
            have s3 := alloc_rel (o := .tup [x1, x2]) s' hT
            refine ⟨{ g' with H := upd g'.H T (.tup [x1, x2]) }, rfl, rfl, e3, s3, s'.rvx e3 rD, .inr ⟨T, [x1, x2], [d1, d2], rfl, ed, .inl (.inl upd_same), .cons (s'.dn e3 hx1) (Dns.one (s'.dn e3 hx2))⟩⟩
        subst y1
        have ey := e'.trans y3
        cases hb : bindT t ds[i] (wipeS sl own) with
        | none => rw [hb] at hl; cases hl
        | some sl1 =>
          rw [hb] at hl
          dsimp only at hl
          refine ⟨wipeS sl own, sl1, gy, ds[i], rfl, y4, y6, hb, fun σ2 s2 off => ⟨?_, ?_⟩⟩
          · rw [Off.wipe (off.mono ht), wipe_wipe]
          · rw [← y2] at hl
            have hC1 : C sl1 gy.cs = (if isNop c then .ok true gy.cs else (ev call modes c sl1 gy.cs).bind fun x cs3 => Res.opt (truthR x cs3) cs3) := by rw [← hC]
            cases hc : C sl1 gy.cs with
            | stuck => rw [hc] at hl; cases hl
            | err z zs => rw [hc] at hl; cases hl
            | ok b cs1 =>
              rw [hc] at hl hC1
              refine ttc_read s2 hC1.symm fun g3 c3 e3 s3 => ?_
              have eL3 := ey.trans e3
              cases b with
              | false =>
                dsimp only at hl
                rw [if_neg (by decide)]
                refine ⟨g3, acc, rfl, eL3, y4.swap e3 s3, s2.rvx e3 y5, by omega, ?_⟩
                rw [c3]; exact hl
              | true =>
                dsimp only at hl
                rw [if_pos rfl]
                have hE1 : Ee sl1 cs1 = ev call modes e sl1 cs1 := by rw [← hE]
                cases he : Ee sl1 cs1 with
                | stuck => rw [he] at hl; cases hl
                | err z zs => rw [he] at hl; cases hl
                | ok rv2 cs4 =>
                  rw [he] at hl hE1
                  refine ⟨sl1, g3, rfl, s3, ?_⟩
                  rw [c3, ← hE1]
                  intro g4 c4 e4 s4 y r4
                  dsimp only at hl
                  cases hi2 : toImm rv2 cs4 with
                  | none => rw [hi2] at hl; cases hl
                  | some z =>
                    obtain ⟨d', cs5⟩ := z
                    rw [hi2] at hl
                    dsimp only at hl
                    have eL4 := eL3.trans e4
                    have rD3 := s2.rvx e3 y5
                    have ap := apart_of (v := .ref Dd) (x := .fr (.lst acc.reverse)) rD3 r4
                    have ap' : Apart y rv2 (.ref Dd) (.fr (.lst acc.reverse)) := by
                      cases rv2 with
                      | fr d0 => exact fun z => ap z.symm
                      | _ => trivial
                    obtain ⟨g5, f1, f2, f3, f4, f5, f6, f7, f8⟩ := freeze (g0 := g1.lk rv) eL4 s4 (r4.weak fun a ha => eL3.none ha) (by rw [c4]; exact hi2)
                    have rD5 := f8 (.ref Dd) (.fr (.lst acc.reverse)) (s3.rvx e4 rD3) ap'
                    obtain ⟨accV, w1, w2, w3, w4, w5⟩ := grow (g := g1.lk rv) hD f5 f6 rD5 f7
                    rw [← f2]
                    refine ⟨accV, w1, ?_, { g5 with H := upd g5.H Dd (.lst (accV ++ [y])) }, d' :: acc, rfl, w3, ?_, ?_, by simp only [List.length_cons]; omega, ?_⟩
                    · rw [w2, List.length_reverse, sizeLine_eq]
                      have hlen : ds.length ≤ 16777216 := hlen
                      omega
                    · exact sW.swap w3 w4
                    · rw [List.reverse_cons]; exact w5
                    · show lcLoop _ _ _ _ _ _ g5.cs = _
                      rw [f1]; exact hl
      · refine .inl ?_
        have ei : i = ds.length := by omega
        subst ei
        refine ⟨wk.stop g' e', ?_⟩
        rw [List.drop_length] at hl
        unfold lcLoop at hl
        injection hl with h1 h2
        subst h1; subst h2
        have sg : SRel X.K σ sl g' := sL.swap e' s'
        obtain ⟨u1, u2⟩ := unlock_ok s1.clen e' sg
        refine pp { g' with cs := unlockC rv g1.cs g'.cs } rfl (ex1.trans u1) u2 (.ref Dd) ?_
        obtain ⟨a, z1, z2, z3, z4, z5⟩ := rD
        exact ⟨a, z1, z2, z3, z4, ex1.none z5⟩
theorem r_lc {own : List (Str × Nat)} (hc : X.calm = true) (hN : X.N.Nodup) (hi : PI X tg iter (TIv X.K W call modes it)) (ok : BlkOk X.N X.env.scope scope own)
    (hg : ∀ (s : Shared) (H : Hp) (C : Addr) (cl : List (Str × Addr)) (fp : List Addr), PG (X.blk s H scope (compEnvC scope cl C X.env) fp) tg (TGv X.K t))
    (ht : ∀ (s : Shared) (H : Hp) (C : Addr) (cl : List (Str × Addr)) (fp : List Addr), PTs (X.blk s H scope (compEnvC scope cl C X.env) fp) ifs (TTc X.K call modes c))
    (he : ∀ (s : Shared) (H : Hp) (C : Addr) (cl : List (Str × Addr)) (fp : List Addr), PE (X.blk s H scope (compEnvC scope cl C X.env) fp) elt (TEv X.K WF call modes e)) (hs : ∀ x, foldedSetIterable iter X.env x = pure x)
    (hts : ∀ i ∈ tslots t, i ∈ own.map (·.2)) (htp : tupIt it = true → ∃ ts, t = .tu ts) :
    PE X (.ListComp elt [⟨tg, iter, ifs, 0⟩] scope pos) (TV X W call modes (.lc (own.map (·.2)) t it c e)) :=
  PE.imp (pe_lc hc hN hi ok hg ht he hs) fun σ H Q h => lc_read hts htp h
end
end Mini

namespace Mini
open PySem PySem.Spec PyProof.Rows L2
/-! ### statements -/
/-- what is wanted behind a statement -/
def PostS (K : PySem.W.Frag) (W : WX) (σ : L2.St) (g : G) (r : RS) (D : Ends) : Prop := match r with
  | .ok .next sl' cs' => ∀ σ' g', g'.cs = cs' → Ext g g' → SRel K σ' sl' g' → D.nx σ' g'.H
  | .ok .brk sl' cs' => ∀ σ' g', g'.cs = cs' → Ext g g' → SRel K σ' sl' g' → D.bk σ' g'.H
  | .ok .cont sl' cs' => ∀ σ' g', g'.cs = cs' → Ext g g' → SRel K σ' sl' g' → D.ct σ' g'.H
  | .ok (.ret rv) sl' cs' => ∀ σ' g' v, g'.cs = cs' → Ext g g' → SRel K σ' sl' g' → RvRel K g.H g' v rv → D.rt v g'.H
  | .err x sl' cs' => ∀ σ' g' cls d, g'.cs = cs' → Ext g g' → SRel K σ' sl' g' → ExnRel K g' x cls d → W cls d σ' g'.H
  | .stuck => False
def TSv (K : PySem.W.Frag) (W : WX) (call : CallT) (modes : Nat → List Bool) (b : S) : TS := fun D σ H => ∃ sl g, g.H = H ∧ SRel K σ sl g ∧ PostS K W σ g (ex call modes b sl g.cs) D
abbrev TSV (X : Cx) (W : WX) (call : CallT) (modes : Nat → List Bool) (b : S) : TS := TSv X.K W call modes b
section
variable {K : PySem.W.Frag} {W : WX} {σ σ1 : L2.St} {sl : Slots} {g g1 : G} {r : RS} {D D' : Ends}
theorem PostS.later (h : PostS K W σ g r D) (e : Ext g g1) : PostS K W σ1 g1 r D := by
  cases r with
  | stuck => exact h
  | err x sl cs => exact fun σ' g' cls d c1 c2 c3 c4 => h σ' g' cls d c1 (e.trans c2) c3 c4
  | ok f sl cs =>
    cases f with
    | next => exact fun σ' g' c1 c2 c3 => h σ' g' c1 (e.trans c2) c3
    | brk => exact fun σ' g' c1 c2 c3 => h σ' g' c1 (e.trans c2) c3
    | cont => exact fun σ' g' c1 c2 c3 => h σ' g' c1 (e.trans c2) c3
    | ret rv => exact fun σ' g' v c1 c2 c3 c4 => h σ' g' v c1 (e.trans c2) c3 (c4.weak fun a => e.none)
theorem PostS.st {α : Type} {q : Res α} {f : α → Cells → RS} (h : PostS K W σ g (q.st sl f) D) : Post K W σ sl g q fun a g' => PostS K W σ g (f a g'.cs) D := by
  cases q with
  | stuck => exact h
  | ok a cs => exact fun g' c1 c2 c3 => by subst c1; exact h
  | err x cs => exact fun g' cls d c1 c2 c3 c4 => h σ g' cls d c1 c2 c3 c4
end
section
variable {X : Cx} {W : WX} {call : CallT} {modes : Nat → List Bool} {e e1 e2 e3 : Expr} {c c1 c2 c3 : E} {st : Stmt} {sts : List Stmt} {b b1 b2 : S} {pos : Pos}
theorem TSv.one {K : PySem.W.Frag} {σ : L2.St} {sl : Slots} {g0 g : G} {f : RV → Cells → RS} {D : Ends} {R : V → Hp → Prop} (e0 : Ext g0 g) (s : SRel K σ sl g)
    (h : PostS K W σ g0 ((ev call modes c sl g.cs).st sl f) D)
    (hf : ∀ x v g1, Ext g g1 → SRel K σ sl g1 → RvRel K g.H g1 v x → PostS K W σ g0 (f x g1.cs) D → R v g1.H) : TEv K W call modes c σ g.H R :=
  ⟨sl, g, rfl, s, (h.st.later e0).mono fun x g1 _ e1 s1 p1 v r1 => hf x v g1 e1 s1 r1 p1⟩
theorem s_skip : PSs X [] (TSV X W call modes .skip) := by
  refine PSs.imp pss_nil fun D σ H h => ?_
  obtain ⟨sl, g, rfl, s, h⟩ := h
  simp only [ex] at h
  exact h σ g rfl (Ext.refl g) s
theorem s_pass : PS X (.Pass pos) (TSV X W call modes .skip) := by
  refine PS.imp ps_pass fun D σ H h => ?_
  obtain ⟨sl, g, rfl, s, h⟩ := h
  simp only [ex] at h
  exact h σ g rfl (Ext.refl g) s
theorem s_one (h : PS X st (TSV X W call modes b)) : PSs X [st] (TSV X W call modes b) := pss_one h
theorem s_seq (h1 : PS X st (TSV X W call modes b1)) (h2 : PSs X sts (TSV X W call modes b2)) : PSs X (st :: sts) (TSV X W call modes (.seq b1 b2)) := by
  refine PSs.imp (pss_cons h1 h2) fun D σ H h => ?_
  obtain ⟨sl, g, rfl, s, h⟩ := h
  simp only [ex] at h
  unfold tSeq
  refine ⟨sl, g, rfl, s, ?_⟩
  cases q : ex call modes b1 sl g.cs with
  | stuck => rw [q] at h; exact h.elim
  | err x sl1 cs1 => rw [q] at h; exact h
  | ok f sl1 cs1 =>
    rw [q] at h
    cases f with
    | next =>
      intro σ' g' c1 c2 c3
      subst c1
      exact ⟨sl1, g', rfl, c3, PostS.later h c2⟩
    | brk => exact h
    | cont => exact h
    | ret rv => exact h
theorem s_never : PS X st (TSV X W call modes .never) := by
  refine PS.imp ps_never fun D σ H h => ?_
  obtain ⟨sl, g, rfl, s, h⟩ := h
  simp only [ex] at h
  exact h.elim
theorem s_brk : PS X (.Break pos) (TSV X W call modes .brk) := by
  refine PS.imp ps_break fun D σ H h => ?_
  obtain ⟨sl, g, rfl, s, h⟩ := h
  simp only [ex] at h
  exact h σ g rfl (Ext.refl g) s
theorem s_cont : PS X (.Continue pos) (TSV X W call modes .cont) := by
  refine PS.imp ps_continue fun D σ H h => ?_
  obtain ⟨sl, g, rfl, s, h⟩ := h
  simp only [ex] at h
  exact h σ g rfl (Ext.refl g) s
theorem s_expr (he : PE X e (TV X W call modes c)) (hs : swapsWith e none pos.line X.env = pure false) : PS X (.Expr e pos) (TSV X W call modes (.expr c)) := by
  refine PS.imp (ps_expr he hs) fun D σ H h => ?_
  obtain ⟨sl, g, rfl, s, h⟩ := h
  simp only [ex] at h
  unfold tDrop
  exact TSv.one (Ext.refl g) s h fun x v g1 e1 s1 r1 p => p σ g1 rfl e1 s1
theorem s_ret (he : PE X e (TV X W call modes c)) : PS X (.Return (some e) pos) (TSV X W call modes (.ret c)) := by
  refine PS.imp (ps_ret he) fun D σ H h => ?_
  obtain ⟨sl, g, rfl, s, h⟩ := h
  simp only [ex] at h
  unfold tRet
  exact TSv.one (Ext.refl g) s h fun x v g1 e1 s1 r1 p => p σ g1 v rfl e1 s1 r1
theorem s_retN : PS X (.Return none pos) (TSV X W call modes .retN) := by
  refine PS.imp ps_retN fun D σ H h => ?_
  obtain ⟨sl, g, rfl, s, h⟩ := h
  simp only [ex] at h
  exact h σ g .non rfl (Ext.refl g) s .non
theorem s_ite (hc : PT X e (TTV X W call modes c)) (h1 : PSs X sts (TSV X W call modes b1)) {sts2 : List Stmt} (h2 : PSs X sts2 (TSV X W call modes b2)) : PS X (.If e sts sts2 pos) (TSV X W call modes (.ite c b1 b2)) := by
  refine PS.imp (ps_if hc h1 h2) fun D σ H h => ?_
  obtain ⟨sl, g, rfl, s, h⟩ := h
  simp only [ex] at h
  unfold tIfS
  refine ⟨sl, g, rfl, s, h.st.mono fun x g1 _ e1 s1 p => ?_⟩
  cases q : truthR x g1.cs with
  | none => rw [q] at p; exact p.elim
  | some k =>
    rw [q] at p
    refine ⟨k, q, ?_⟩
    cases k with
    | true => rw [if_pos rfl]; exact ⟨sl, g1, rfl, s1, PostS.later p e1⟩
    | false => rw [if_neg (by decide)]; exact ⟨sl, g1, rfl, s1, PostS.later p e1⟩
/-! ### stores -/
theorem store_rel {K : PySem.W.Frag} {σ : L2.St} {sl sl' : Slots} {g0 g : G} {i : Nat} {v : V} {rv : RV} {cs' : Cells} (e : Ext g0 g) (s : SRel K σ sl g) (r : RvRel K g0.H g v rv) (h : store i rv sl g.cs = some (sl', cs')) :
    ∃ g', g'.cs = cs' ∧ g'.H = g.H ∧ g'.Z = g.Z ∧ Ext g0 g' ∧ SRel K (σ.set i (some v)) sl' g' ∧ (∃ new, g'.as = g.as ++ new) ∧ ∀ v' rv', RvRel K g0.H g v' rv' → Apart v rv v' rv' → RvRel K g0.H g' v' rv' := by
  unfold store at h
  split at h
  · rename_i hl
    cases rv with
    | imm d =>
      cases h
      rw [setN_eq]
      exact ⟨g, rfl, rfl, rfl, e, s.set (rv := .imm d) r, ⟨[], by simp⟩, fun _ _ h _ => h⟩
    | cel k =>
      cases h
      rw [setN_eq]
      exact ⟨g, rfl, rfl, rfl, e, s.set (rv := .cel k) r, ⟨[], by simp⟩, fun _ _ h _ => h⟩
    | fr d =>
      cases h
      rw [setN_eq]
      obtain ⟨a, rfl, c, nz, na, h0⟩ := r
      have sz : SRel K σ sl { g with as := g.as ++ [a], cs := g.cs ++ [(.live, d)] } := by
        refine ⟨s.len, fun j rv hj => ?_, by simp [s.clen], ?_, fun k b st d' h1 h2 => ?_, s.zdom⟩
        · obtain ⟨w, h1, h2⟩ := s.slot j rv hj
          refine ⟨w, h1, ?_⟩
          cases rv with
          | imm d0 => exact h2
          | cel k =>
            obtain ⟨b, h3, h4⟩ := h2
            exact ⟨b, by show (g.as ++ [a])[k]? = _; rw [List.getElem?_append_left (List.getElem?_eq_some_iff.mp h3).1]; exact h3, h4⟩
          | fr d0 => exact h2.elim
        · show (g.as ++ [a]).Nodup
          rw [List.nodup_append]
          refine ⟨s.nd, by simp, fun x hx y hy => ?_⟩
          have : y = a := by simpa using hy
          subst this
          exact fun e => na (e ▸ hx)
        · have h1 : (g.as ++ [a])[k]? = some b := h1
          have h2 : (g.cs ++ [(Stt.live, d)])[k]? = some (st, d') := h2
          by_cases hk : k < g.as.length
          · rw [List.getElem?_append_left hk] at h1
            rw [List.getElem?_append_left (by rw [← s.clen]; exact hk)] at h2
            exact s.cell k b st d' h1 h2
          · have hk' : k = g.as.length := by
              have := (List.getElem?_eq_some_iff.mp h1).1
              simp at this
              omega
            subst hk'
            rw [List.getElem?_append_right (Nat.le_refl _), Nat.sub_self] at h1
            rw [s.clen, List.getElem?_append_right (Nat.le_refl _), Nat.sub_self] at h2
            cases h1; cases h2
            exact ⟨c, fun z => (nomatch z), fun _ => nz⟩
      refine ⟨{ g with as := g.as ++ [a], cs := g.cs ++ [(.live, d)] }, rfl, rfl, rfl, ?_, ?_, ⟨[a], rfl⟩, fun v' rv' q ap => ?_⟩
      · obtain ⟨new, e1, e2⟩ := e.pre
        refine ⟨e.zsub, e.zold, ⟨new ++ [a], by show g.as ++ [a] = _; rw [e1, List.append_assoc], fun b hb => ?_⟩, e.dom, e.frame, fun b l => ?_⟩
        · rcases List.mem_append.mp hb with hb | hb
          · exact e2 b hb
          · have : b = a := by simpa using hb
            rw [this]; exact h0
        · obtain ⟨k, d', l1, l2⟩ := l
          have l1 : (g.as ++ [a])[k]? = some b := l1
          have l2 : (g.cs ++ [(Stt.live, d)])[k]? = some (Stt.live, d') := l2
          by_cases hk : k < g.as.length
          · rw [List.getElem?_append_left hk] at l1
            rw [List.getElem?_append_left (by rw [← s.clen]; exact hk)] at l2
            exact e.live b ⟨k, d', l1, l2⟩
          · right
            have hk' : k = g.as.length := by
              have := (List.getElem?_eq_some_iff.mp l1).1
              simp at this
              omega
            subst hk'
            rw [List.getElem?_append_right (Nat.le_refl _), Nat.sub_self] at l1
            cases l1
            exact h0
      · refine sz.set (rv := .cel g.cs.length) ⟨a, ?_, rfl⟩
        show (g.as ++ [a])[g.cs.length]? = some a
        rw [← s.clen, List.getElem?_append_right (Nat.le_refl _), Nat.sub_self]
        rfl
      · cases rv' with
        | imm d0 => exact q
        | cel k =>
          obtain ⟨b, h3, h4⟩ := q
          exact ⟨b, by show (g.as ++ [a])[k]? = _; rw [List.getElem?_append_left (List.getElem?_eq_some_iff.mp h3).1]; exact h3, h4⟩
        | fr d0 =>
          obtain ⟨b, rfl, q2, q3, q4, q5⟩ := q
          refine ⟨b, rfl, q2, q3, fun z => ?_, q5⟩
          rcases List.mem_append.mp (show b ∈ g.as ++ [a] from z) with z | z
          · exact q4 z
          · have : b = a := by simpa using z
            exact ap (by rw [this])
  · cases h
theorem s_setv {i : Nat} {x : Str} {p' : Pos} (hN : X.N.Nodup) (hi : X.N[i]? = some x) (hx : Loc X.env.scope x) (he : PE X e (TV X W call modes c)) (hs : swapsWith e (some (.Name x p')) pos.line X.env = pure false) (hf : X.fn x = true ∨ X.env.scope.names.lookup x = some .local) :
    PS X (.Assign [.Name x p'] e pos) (TSV X W call modes (.setv i c)) := by
  refine PS.imp (ps_set hN hi hx he hs hf) fun D σ H h => ?_
  obtain ⟨sl, g, rfl, s, h⟩ := h
  simp only [ex] at h
  unfold tAsg gName
  refine TSv.one (Ext.refl g) s h fun x v g1 e1 s1 r1 p => ?_
  cases q : store i x sl g1.cs with
  | none => rw [q] at p; exact p.elim
  | some z =>
    obtain ⟨sl', cs'⟩ := z
    rw [q] at p
    obtain ⟨g', h1, h2, h3, h4, h5, _⟩ := store_rel e1 s1 r1 q
    rw [← h2]
    exact p _ g' h1 h4 h5
end
end Mini

namespace Mini
open PySem PySem.Spec PyProof.Rows L2
section
variable {X : Cx} {W : WX} {call : CallT} {modes : Nat → List Bool} {e e1 e2 e3 tg iter elt : Expr} {ifs : List Expr} {scope : Scope} {c c1 c2 c3 it ec : E} {st : Stmt} {sts : List Stmt} {b b1 b2 : S} {t : T} {pos : Pos}
/-- name = [..] on one line -/
theorem s_setLc {own : List (Str × Nat)} {i : Nat} {y : Str} {py spos : Pos} (hc : X.calm = true) (hN : X.N.Nodup) (hy : X.N[i]? = some y) (hyl : X.env.scope.names.lookup y = some .local)
    (hsw : swapsWith (.ListComp elt [⟨tg, iter, ifs, 0⟩] scope pos) (some (.Name y py)) spos.line X.env = pure true) (hi : PI X tg iter (TIv X.K W call modes it)) (ok : BlkOk X.N X.env.scope scope own)
    (hg : ∀ (s : Shared) (H : Hp) (C : Addr) (cl : List (Str × Addr)) (fp : List Addr), PG (X.blk s H scope (compEnvC scope cl C X.env) fp) tg (TGv X.K t))
    (ht : ∀ (s : Shared) (H : Hp) (C : Addr) (cl : List (Str × Addr)) (fp : List Addr), PTs (X.blk s H scope (compEnvC scope cl C X.env) fp) ifs (TTc X.K call modes c))
    (he : ∀ (s : Shared) (H : Hp) (C : Addr) (cl : List (Str × Addr)) (fp : List Addr), PE (X.blk s H scope (compEnvC scope cl C X.env) fp) elt (TEv X.K WF call modes ec)) (hs : ∀ x, foldedSetIterable iter X.env x = pure x)
    (hts : ∀ i ∈ tslots t, i ∈ own.map (·.2)) (htp : tupIt it = true → ∃ ts, t = .tu ts) :
    PS X (.Assign [.Name y py] (.ListComp elt [⟨tg, iter, ifs, 0⟩] scope pos) spos) (TSV X W call modes (.setv i (.lc (own.map (·.2)) t it c ec))) := by
  refine PS.imp (ps_setLc hc hN hy hyl hsw hi ok hg ht he hs) fun D σ H h => ?_
  obtain ⟨sl, g, rfl, s, h⟩ := h
  rw [ex] at h
  unfold tAsg gName
  refine lc_read hts htp (TSv.one (Ext.refl g) s h fun x v g1 e1 s1 r1 p => ?_)
  cases q : store i x sl g1.cs with
  | none => rw [q] at p; exact p.elim
  | some z =>
    obtain ⟨sl', cs'⟩ := z
    rw [q] at p
    obtain ⟨g', h1, h2, h3, h4, h5, _⟩ := store_rel e1 s1 r1 q
    rw [← h2]
    exact p _ g' h1 h4 h5
/-- (a, b, ..) = value -/
theorem s_unp (he : PE X e (TV X W call modes c)) (hg : PG X tg (TGv X.K t)) (htu : ∃ ts, t = .tu ts) (hs : swapsWithSole [tg] e pos.line X.env = pure false) (hw : swappedStores [tg] e X.env = pure none)
    (h1 : (assignEach [tg] X.env).map (·.2) = [assign tg X.env]) : PS X (.Assign [tg] e pos) (TSV X W call modes (.unp t c)) := by
  refine PS.imp (ps_asg he hg hs hw h1) fun D σ H h => ?_
  obtain ⟨sl, g, rfl, s, h⟩ := h
  simp only [ex] at h
  unfold tAsg
  refine TSv.one (Ext.refl g) s h fun x v g1 e1 s1 r1 p => ?_
  cases q : dr x g1.cs with
  | none => rw [q] at p; exact p.elim
  | some d =>
    rw [q] at p
    dsimp only at p
    cases q2 : bindT t d sl with
    | none => rw [q2] at p; exact p.elim
    | some sl' =>
      rw [q2] at p
      obtain ⟨ts, rfl⟩ := htu
      exact ⟨sl, sl', g1, d, rfl, s1, .inl (s1.read r1 q), q2, fun σ' s' _ => p σ' g1 rfl e1 s'⟩
/-- o[i] = value -/
theorem s_seti (he : PE X e3 (TV X W call modes c3)) (ho : PE X e1 (TV X W call modes c1)) (hi : PE X e2 (TV X W call modes c2)) {p2 : Pos}
    (ha : ∀ v, assign (.Subscript e1 e2 p2) X.env v = (do
      let ov ← holding [v] (eval e1 X.env)
      let iv ← holding [v, ov] (eval e2 X.env)
      standAt p2
      holding [v, ov, iv] (setItem ov iv v)
      release [v, ov, iv] []))
    (hs : swapsWithSole [.Subscript e1 e2 p2] e3 pos.line X.env = pure false) (hw : swappedStores [.Subscript e1 e2 p2] e3 X.env = pure none)
    (h1 : (assignEach [.Subscript e1 e2 p2] X.env).map (·.2) = [assign (.Subscript e1 e2 p2) X.env]) : PS X (.Assign [.Subscript e1 e2 p2] e3 pos) (TSV X W call modes (.seti c1 c2 c3)) := by
  refine PS.imp (ps_asg he (pg_sub ho hi set_list ha) hs hw h1) fun D σ H h => ?_
  obtain ⟨sl, g, rfl, s, h⟩ := h
  simp only [ex] at h
  unfold tAsg gSub
  refine TSv.one (Ext.refl g) s h fun z u g1 ex1 s1 r1 p => ?_
  refine TSv.one ex1 s1 p fun x v g2 ex2 s2 r2 p => ?_
  refine TSv.one (ex1.trans ex2) s2 p fun y w g3 ex3 s3 r3 p => ?_
  have ex := (ex1.trans ex2).trans ex3
  have r1' := s2.rvx ex3 (s1.rvx ex2 r1)
  cases q : toImm z g3.cs with
  | none => rw [q] at p; exact p.elim
  | some zz =>
    obtain ⟨d, cs4⟩ := zz
    rw [q] at p
    dsimp only at p
    obtain ⟨g4, e1, e2, e3, e4, e5, e6, e7, e8⟩ := freeze ex s3 r1' q
    subst e1
    cases x with
    | imm d0 => exact p.elim
    | fr d0 => exact p.elim
    | cel k =>
      obtain ⟨a, ha1, rfl⟩ := s2.rvx ex3 r2
      cases q2 : dr y g4.cs with
      | none => rw [q2] at p; exact p.elim
      | some dy =>
        rw [q2] at p
        cases dy <;> first | exact p.elim | skip
        rename_i n
        dsimp only at p
        rw [nth_eq] at p
        split at p
        · rename_i ds hk
          split at p
          · rename_i j hj
            have ha4 : g4.as[k]? = some a := by rw [e3]; exact ha1
            obtain ⟨xs, hx, hd⟩ := (e6.cell k a _ _ ha4 hk).1
            have hlen := hd.length
            have rw_ : w = .int n := by
              have apy : Apart u z w y := by
                have h13 := s1.rvx ex2 r1
                exact apart_of h13 r3
              have r3' := e8 w y (r3.weak fun a ha => (ex1.trans ex2).none ha) apy
              exact (e6.read r3' q2).int
            subst rw_
            obtain ⟨w1, w2⟩ := write_ok (ds' := ds.set j d) (xs' := xs.set j u) e6 ha4 hk (hd.set j e7)
            rw [setN_eq, setN_eq] at p
            rw [← e2]
            exact ⟨a, xs, n, j, rfl, rfl, hx, by rw [hlen]; exact hj, p σ _ rfl (e5.trans w1) w2⟩
          · exact p.elim
        · exact p.elim
theorem PostS.unl {K : PySem.W.Frag} {σ : L2.St} {g g1 g' : G} {rv : RV} {r : RS} {D : Ends} (ex1 : Ext g g1) (hl : g1.as.length = g1.cs.length) (e : Ext (g1.lk rv) g') (h : PostS K W σ g (r.unlock rv g1.cs) D) : PostS K W σ g' r D := by
  cases r with
  | stuck => exact h
  | err x sl cs =>
    intro σ2 g2 cls d c1 c2 c3 c4
    obtain ⟨u1, u2⟩ := unlock_ok hl (e.trans c2) c3
    subst c1
    exact h σ2 { g2 with cs := unlockC rv g1.cs g2.cs } cls d rfl (ex1.trans u1) u2 c4
  | ok f sl cs =>
    cases f with
    | next =>
      intro σ2 g2 c1 c2 c3
      obtain ⟨u1, u2⟩ := unlock_ok hl (e.trans c2) c3
      subst c1
      exact h σ2 { g2 with cs := unlockC rv g1.cs g2.cs } rfl (ex1.trans u1) u2
    | brk =>
      intro σ2 g2 c1 c2 c3
      obtain ⟨u1, u2⟩ := unlock_ok hl (e.trans c2) c3
      subst c1
      exact h σ2 { g2 with cs := unlockC rv g1.cs g2.cs } rfl (ex1.trans u1) u2
    | cont =>
      intro σ2 g2 c1 c2 c3
      obtain ⟨u1, u2⟩ := unlock_ok hl (e.trans c2) c3
      subst c1
      exact h σ2 { g2 with cs := unlockC rv g1.cs g2.cs } rfl (ex1.trans u1) u2
    | ret x =>
      intro σ2 g2 v c1 c2 c3 c4
      obtain ⟨u1, u2⟩ := unlock_ok hl (e.trans c2) c3
      subst c1
      refine h σ2 { g2 with cs := unlockC rv g1.cs g2.cs } v rfl (ex1.trans u1) u2 ?_
      have c5 : RvRel K g.H g2 v x := c4.weak fun a ha => ex1.none ((lock_ext.trans e).none ha)
      cases x with
      | imm d => exact c5
      | cel k => exact c5
      | fr d => exact c5
theorem s_for (hp : PassesOwn (model X.prog X.w) X.A X.env X.xe) (hc : X.calm = true) (hi : PI X tg iter (TIv X.K W call modes it)) (hg : PG X tg (TGv X.K t)) (hb : PSs X sts (TSV X W call modes b)) (hs : ∀ x, foldedSetIterable iter X.env x = pure x)
    (htp : tupIt it = true → ∃ ts, t = .tu ts) : PS X (.For tg iter sts [] pos) (TSV X W call modes (.loop t it b)) := by
  refine PS.imp (ps_for hp hc hi hg hb hs) fun D σ H h => ?_
  obtain ⟨sl, g, rfl, s, h⟩ := h
  simp only [ex] at h
  unfold tFor
  refine ⟨sl, g, rfl, s, h.st.mono fun p g1 _ ex1 s1 pp J wk => ?_⟩
  obtain ⟨rv, ds⟩ := p
  dsimp only at pp wk
  generalize hB : (fun (sl1 : Slots) (cs2 : Cells) => ex call modes b sl1 cs2) = B at pp
  have sL : SRel X.K σ sl (g1.lk rv) := lock_rel s1
  let Iv : Nat → L2.St → Hp → Prop := fun i σc Hc => ∃ slc g', g'.H = Hc ∧ Ext (g1.lk rv) g' ∧ SRel X.K σc slc g' ∧ PostS X.K W σ g ((forLoop (bindT t) B (ds.drop i) slc g'.cs).unlock rv g1.cs) D
  refine ⟨fun i m σc Hc => m = ds.length - i ∧ i ≤ ds.length ∧ Iv i σc Hc, ⟨ds.length, by simp, Nat.zero_le _, sl, g1.lk rv, rfl, Ext.refl _, sL, pp⟩, ?_⟩
  rintro i m σc Hc ⟨rfl, hi, slc, g', rfl, e', s', hl⟩
  by_cases hlt : i < ds.length
  · refine .inr ?_
    have hd : ds[i]? = some ds[i] := List.getElem?_eq_getElem hlt
    obtain ⟨go, yl⟩ := wk.turn g' e' i ds[i] hd
    refine ⟨go, Iv (i + 1), fun σ' H' q => ⟨ds.length - (i + 1), by omega, rfl, hlt, q⟩, fun x H' hy => ?_⟩
    have tv := yl x H' hy
    rw [List.drop_eq_getElem_cons hlt] at hl
    unfold forLoop at hl
    obtain ⟨gy, y1, y2, y3, y4, y6⟩ : ∃ gy : G, gy.H = H' ∧ gy.cs = g'.cs ∧ Ext g' gy ∧ SRel X.K σc slc gy ∧ Yd X.K gy x ds[i] t := by
      cases htt : tupIt it with
      | false =>
        rw [htt] at tv
        obtain ⟨rfl, hx⟩ := tv
        exact ⟨g', rfl, rfl, Ext.refl g', s', Yd.of hx t⟩
      | true =>
        rw [htt] at tv
        obtain ⟨T, x1, x2, d1, d2, rfl, hT, rfl, ed, hx1, hx2⟩ := tv
        obtain ⟨ts, rfl⟩ := htp htt
        have e3 := alloc_ext (o := .tup [x1, x2]) s' hT
        have s3 := alloc_rel (o := .tup [x1, x2]) s' hT
        refine ⟨{ g' with H := upd g'.H T (.tup [x1, x2]) }, rfl, rfl, e3, s3, .inr ⟨T, [x1, x2], [d1, d2], rfl, ed, .inl (.inl upd_same), .cons (s'.dn e3 hx1) (Dns.one (s'.dn e3 hx2))⟩⟩
    subst y1
    have ey := e'.trans y3
    cases hb : bindT t ds[i] slc with
    | none => rw [hb] at hl; exact hl.elim
    | some sl1 =>
      rw [hb] at hl
      dsimp only at hl
      refine ⟨slc, sl1, gy, ds[i], rfl, y4, y6, hb, fun σ2 s2 off => ⟨sl1, gy, rfl, s2, ?_⟩⟩
      rw [← y2] at hl
      have hB1 : B sl1 gy.cs = ex call modes b sl1 gy.cs := by rw [← hB]
      rw [← hB1]
      cases hr : B sl1 gy.cs with
      | stuck => rw [hr] at hl; exact hl.elim
      | err z zs cs2 => rw [hr] at hl; exact PostS.unl ex1 s1.clen ey hl
      | ok f sl2 cs2 =>
        rw [hr] at hl
        cases f with
        | next => exact fun σ' g3 c1 c2 c3 => ⟨sl2, g3, rfl, ey.trans c2, c3, by rw [c1]; exact hl⟩
        | cont => exact fun σ' g3 c1 c2 c3 => ⟨sl2, g3, rfl, ey.trans c2, c3, by rw [c1]; exact hl⟩
        | brk =>
          have hl : PostS X.K W σ g ((RS.ok .next sl2 cs2).unlock rv g1.cs) D := hl
          exact PostS.unl (r := .ok .next sl2 cs2) ex1 s1.clen ey hl
        | ret x => exact PostS.unl ex1 s1.clen ey hl
  · refine .inl ?_
    have ei : i = ds.length := by omega
    subst ei
    refine ⟨wk.stop g' e', ?_⟩
    rw [List.drop_length] at hl
    unfold forLoop at hl
    have hl := PostS.unl (r := .ok .next slc g'.cs) ex1 s1.clen e' hl
    exact hl σc g' rfl (Ext.refl g') s'
theorem s_while {n : Nat} (hp : PassesOwn (model X.prog X.w) X.A X.env X.xe) (hc : PT X e (TTV X W call modes c)) (hb : PSs X sts (TSV X W call modes b)) : PS X (.While e sts [] pos) (TSV X W call modes (.whil n c b)) := by
  refine PS.imp (ps_while hp hc hb) fun D σ H h => ?_
  obtain ⟨sl, g, rfl, s, h⟩ := h
  simp only [ex] at h
  unfold tWhile
  generalize hC : (fun (sl1 : Slots) (cs1 : Cells) => ev call modes c sl1 cs1) = C at h
  generalize hB : (fun (sl1 : Slots) (cs1 : Cells) => ex call modes b sl1 cs1) = B at h
  refine ⟨fun m σc Hc => ∃ slc g', g'.H = Hc ∧ Ext g g' ∧ SRel X.K σc slc g' ∧ PostS X.K W σ g (whileLoop C B m slc g'.cs) D, ⟨n, sl, g, rfl, Ext.refl g, s, h⟩, ?_⟩
  rintro m σc Hc ⟨slc, g', rfl, e', s', hl⟩
  cases m with
  | zero => exact hl.elim
  | succ m =>
    unfold whileLoop at hl
    refine ⟨slc, g', rfl, s', ?_⟩
    have hC1 : C slc g'.cs = ev call modes c slc g'.cs := by rw [← hC]
    rw [← hC1]
    cases hr : C slc g'.cs with
    | stuck => rw [hr] at hl; exact hl.elim
    | err z cs1 =>
      rw [hr] at hl
      exact fun g2 cls d c1 c2 c3 c4 => hl σc g2 cls d c1 (e'.trans c2) c3 c4
    | ok x cs1 =>
      rw [hr] at hl
      intro g2 c1 c2 c3
      subst c1
      dsimp only at hl
      cases ht : truthR x g2.cs with
      | none => rw [ht] at hl; exact hl.elim
      | some k =>
        rw [ht] at hl
        refine ⟨k, ht, ?_⟩
        cases k with
        | false =>
          rw [if_neg (by decide)]
          exact hl σc g2 rfl (e'.trans c2) c3
        | true =>
          rw [if_pos rfl]
          dsimp only at hl
          refine ⟨fun σ' H' => ∃ slc g', g'.H = H' ∧ Ext g g' ∧ SRel X.K σ' slc g' ∧ PostS X.K W σ g (whileLoop C B m slc g'.cs) D, fun σ' H' q => ⟨m, by omega, q⟩, ?_⟩
          refine ⟨slc, g2, rfl, c3, ?_⟩
          have hB1 : B slc g2.cs = ex call modes b slc g2.cs := by rw [← hB]
          rw [← hB1]
          have e2 := e'.trans c2
          cases hr2 : B slc g2.cs with
          | stuck => rw [hr2] at hl; exact hl.elim
          | err z zs cs2 => rw [hr2] at hl; exact fun σ' g3 cls d c1 c2 c3 c4 => hl σ' g3 cls d c1 (e2.trans c2) c3 c4
          | ok f sl2 cs2 =>
            rw [hr2] at hl
            cases f with
            | next => exact fun σ' g3 c1 c2 c3 => ⟨sl2, g3, rfl, e2.trans c2, c3, by rw [c1]; exact hl⟩
            | cont => exact fun σ' g3 c1 c2 c3 => ⟨sl2, g3, rfl, e2.trans c2, c3, by rw [c1]; exact hl⟩
            | brk =>
              intro σ' g3 c1 c2 c3
              exact hl σ' g3 c1 (e2.trans c2) c3
            | ret x => exact fun σ' g3 v c1 c2 c3 c4 => hl σ' g3 v c1 (e2.trans c2) c3 (c4.weak fun a => e2.none)
end
end Mini

namespace Mini
open PySem PySem.Spec PyProof.Rows L2
/-! ### calls of defs -/
inductive ArgL (K : PySem.W.Frag) (H0 : Hp) (g : G) : List V → List AV → List (Option Nat) → List Addr → Prop
  | nil : ArgL K H0 g [] [] [] []
  | imm {v : V} {d : D} {vs : List V} {as : List AV} {ks : List (Option Nat)} {las : List Addr} : Dn K g.Z g.H v d → ArgL K H0 g vs as ks las → ArgL K H0 g (v :: vs) (.imm d :: as) ks las
  | cel {k : Nat} {a : Addr} {st : Stt} {d : D} {vs : List V} {as : List AV} {ks : List (Option Nat)} {las : List Addr} : g.as[k]? = some a → g.cs[k]? = some (st, d) → st ≠ .dead → a ∉ las → ArgL K H0 g vs as ks las →
      ArgL K H0 g (.ref a :: vs) (.ref st d :: as) (some k :: ks) (a :: las)
  | new {a : Addr} {d : D} {vs : List V} {as : List AV} {ks : List (Option Nat)} {las : List Addr} : Cont K g.Z g.H a d → ¬ g.Z a → a ∉ g.as → H0 a = none → a ∉ las → ArgL K H0 g vs as ks las →
      ArgL K H0 g (.ref a :: vs) (.ref .live d :: as) (none :: ks) (a :: las)
section
variable {K : PySem.W.Frag} {σ : L2.St} {sl : Slots} {g0 : G}
def PrepQ (K : PySem.W.Frag) (σ : L2.St) (sl : Slots) (g0 g : G) (vs : List V) (rvs : List RV) (us : List Nat) (as : List AV) (ks : List (Option Nat)) (cs' : Cells) : Prop :=
    ∃ (g' : G) (las : List Addr), g'.cs = cs' ∧ g'.H = g.H ∧ g'.as = g.as ∧ (∀ a, g.Z a → g'.Z a) ∧ Ext g0 g' ∧ SRel K σ sl g' ∧ ArgL K g0.H g' vs as ks las ∧ (∀ k : Nat, k ∈ us → g'.cs[k]? = g.cs[k]?) ∧ (∀ k : Nat, k ∈ us → ∀ a, g.as[k]? = some a → a ∉ las) ∧
      (∀ v' rv', RvRel K g0.H g v' rv' → (∀ v'' rv'', (v'', rv'') ∈ vs.zip rvs → Apart v'' rv'' v' rv') → RvRel K g0.H g' v' rv') ∧
      (∀ a ∈ las, (∃ k : Nat, g.as[k]? = some a) ∨ ∃ d, (V.ref a, RV.fr d) ∈ vs.zip rvs)
theorem prep_ok : ∀ (ms : List Bool) (rvs : List RV) (vs : List V) (g : G) (us : List Nat) (as : List AV) (ks : List (Option Nat)) (cs' : Cells), Ext g0 g → SRel K σ sl g → RvsRel K g0.H g vs rvs → prep ms rvs g.cs us = some (as, ks, cs') →
    PrepQ K σ sl g0 g vs rvs us as ks cs'
  | [], rvs, vs, g, us, as, ks, cs', e, s, r, h => by
    cases rvs with
    | nil =>
      cases r
      simp only [prep] at h
      cases h
      exact ⟨g, [], rfl, rfl, rfl, fun _ z => z, e, s, .nil, fun _ _ => rfl, fun _ _ _ _ => by simp, fun _ _ h _ => h, fun a ha => by simp at ha⟩
    | cons rv rvs => simp [prep] at h
  | m :: ms, [], vs, g, us, as, ks, cs', e, s, r, h => by cases m <;> simp [prep] at h
  | false :: ms, rv :: rvs, _, g, us, as, ks, cs', e, s, r, h => by
    cases r with
    | cons ra ap rr =>
      rename_i v vs
      unfold prep at h
      split at h
      · cases h
      · rename_i hlent
        cases h1 : toImm rv g.cs with
        | none => rw [h1] at h; cases h
        | some z =>
          obtain ⟨d, cs1⟩ := z
          rw [h1] at h
          dsimp only at h
          cases h2 : prep ms rvs cs1 us with
          | none => rw [h2] at h; cases h
          | some z =>
            obtain ⟨as2, ks2, cs2⟩ := z
            rw [h2] at h
            dsimp only at h
            injection h with h
            injection h with ha h
            injection h with hk hc
            subst ha; subst hk; subst hc
            obtain ⟨g1, f1, f2, f3, f4, f5, f6, f7, f8⟩ := freeze e s ra h1
            have rr1 : RvsRel K g0.H g1 vs rvs := rr.map fun v' rv' m q => f8 v' rv' q (ap v' rv' m)
            obtain ⟨g2, las, k1, k2, k3, k4, k5, k6, k7, k8, k9, k10, k11⟩ := prep_ok ms rvs vs g1 us as2 ks2 cs2 f5 f6 rr1 (by rw [f1]; exact h2)
            have us1 : ∀ k ∈ us, g1.cs[k]? = g.cs[k]? := fun k hk => by
              rw [f1]
              cases rv with
              | imm d0 => cases h1; rfl
              | fr d0 => cases h1; rfl
              | cel j =>
                have hj : us.contains j ≠ true := by simpa [lent] using hlent
                have hjk : j ≠ k := fun z => hj (by rw [z]; simpa using hk)
                simp only [toImm] at h1
                split at h1
                · cases h1; rw [setN_eq, List.getElem?_set_ne hjk]
                · cases h1; rfl
                · cases h1
            refine ⟨g2, las, k1, k2.trans f2, k3.trans f3, fun a z => k4 a (f4 a z), k5, k6, .imm (Dn.keep (fun b o q _ => by rw [k2]; exact q) k4 d v f7) k7, fun k hk => (k8 k hk).trans (us1 k hk), fun k hk a ha => k9 k hk a (by rw [f3]; exact ha), fun v' rv' q aps => ?_, fun a ha => ?_⟩
            · refine k10 v' rv' (f8 v' rv' q (aps v rv (by simp))) fun v'' rv'' m => aps v'' rv'' (by simp [m])
            · rcases k11 a ha with ⟨k, hk⟩ | ⟨d0, hd⟩
              · exact .inl ⟨k, by rw [← f3]; exact hk⟩
              · exact .inr ⟨d0, by simp [hd]⟩
  | true :: ms, .imm d :: rvs, _, g, us, as, ks, cs', e, s, r, h => by
    cases r with
    | cons ra ap rr =>
      rename_i v vs
      unfold prep at h
      cases h2 : prep ms rvs g.cs us with
      | none => rw [h2] at h; cases h
      | some z =>
        obtain ⟨as2, ks2, cs2⟩ := z
        rw [h2] at h
        dsimp only at h
        injection h with h
        injection h with ha h
        injection h with hk hc
        subst ha; subst hk; subst hc
        obtain ⟨g2, las, k1, k2, k3, k4, k5, k6, k7, k8, k9, k10, k11⟩ := prep_ok ms rvs vs g us as2 ks2 cs2 e s rr h2
        refine ⟨g2, las, k1, k2, k3, k4, k5, k6, .imm (Dn.keep (fun b o q _ => by rw [k2]; exact q) k4 d v ra) k7, k8, k9, fun v' rv' q aps => k10 v' rv' q fun v'' rv'' m => aps v'' rv'' (by simp [m]), fun a ha => ?_⟩
        rcases k11 a ha with h | ⟨d0, hd⟩
        · exact .inl h
        · exact .inr ⟨d0, by simp [hd]⟩
  | true :: ms, .fr d :: rvs, _, g, us, as, ks, cs', e, s, r, h => by
    cases r with
    | cons ra ap rr =>
      rename_i v vs
      unfold prep at h
      cases h2 : prep ms rvs g.cs us with
      | none => rw [h2] at h; cases h
      | some z =>
        obtain ⟨as2, ks2, cs2⟩ := z
        rw [h2] at h
        dsimp only at h
        injection h with h
        injection h with ha h
        injection h with hk hc
        subst ha; subst hk; subst hc
        obtain ⟨g2, las, k1, k2, k3, k4, k5, k6, k7, k8, k9, k10, k11⟩ := prep_ok ms rvs vs g us as2 ks2 cs2 e s rr h2
        have ra2 := k10 v (.fr d) ra fun v'' rv'' m => by
          have := ap v'' rv'' m
          cases rv'' with
          | fr d0 => exact fun z => this z.symm
          | _ => trivial
        obtain ⟨a, rfl, q2, q3, q4, q5⟩ := id ra2
        obtain ⟨_, e1, _, _, na, _⟩ := id ra
        cases e1
        have hal : a ∉ las := fun hm => by
          rcases k11 a hm with ⟨k, hk⟩ | ⟨d0, hd⟩
          · exact na (List.mem_of_getElem? hk)
          · exact ap (.ref a) (.fr d0) hd rfl
        refine ⟨g2, a :: las, k1, k2, k3, k4, k5, k6, .new q2 q3 q4 q5 hal k7, k8, fun k hk b hb z => ?_, fun v' rv' q aps => k10 v' rv' q fun v'' rv'' m => aps v'' rv'' (by simp [m]), fun b hb => ?_⟩
        · rcases List.mem_cons.mp z with z | z
          · subst z; exact na (List.mem_of_getElem? hb)
          · exact k9 k hk b hb z
        · rcases List.mem_cons.mp hb with z | z
          · subst z; exact .inr ⟨d, by simp⟩
          · rcases k11 b z with h | ⟨d0, hd⟩
            · exact .inl h
            · exact .inr ⟨d0, by simp [hd]⟩
  | true :: ms, .cel k :: rvs, _, g, us, as, ks, cs', e, s, r, h => by
    cases r with
    | cons ra ap rr =>
      rename_i v vs
      obtain ⟨a, hka, rfl⟩ := ra
      unfold prep at h
      split at h
      · cases h
      · rename_i hus
        rw [nth_eq] at h
        cases hk : g.cs[k]? with
        | none => rw [hk] at h; cases h
        | some z =>
          obtain ⟨st, d⟩ := z
          rw [hk] at h
          have main : st ≠ .dead → (match prep ms rvs g.cs (k :: us) with | some (as, ks, cs2) => some (AV.ref st d :: as, some k :: ks, cs2) | none => none) = some (as, ks, cs') → PrepQ K σ sl g0 g (V.ref a :: vs) (RV.cel k :: rvs) us as ks cs' := fun hst h => by
            cases h2 : prep ms rvs g.cs (k :: us) with
            | none => rw [h2] at h; cases h
            | some z =>
              obtain ⟨as2, ks2, cs2⟩ := z
              rw [h2] at h
              dsimp only at h
              injection h with h
              injection h with ha h
              injection h with hk' hc
              subst ha; subst hk'; subst hc
              obtain ⟨g2, las, k1, k2, k3, k4, k5, k6, k7, k8, k9, k10, k11⟩ := prep_ok ms rvs vs g (k :: us) as2 ks2 cs2 e s rr h2
              exact ⟨g2, a :: las, k1, k2, k3, k4, k5, k6, .cel (by rw [k3]; exact hka) (by rw [k8 k (by simp)]; exact hk) hst (k9 k (by simp) a hka) k7, fun j hj => k8 j (by simp [hj]), fun j hj b hb z => by
                rcases List.mem_cons.mp z with z | z
                · subst z
                  have : j = k := nd_ix s.nd hb hka
                  subst this
                  exact hus (by simpa using hj)
                · exact k9 j (by simp [hj]) b hb z, fun v' rv' q aps => k10 v' rv' q fun v'' rv'' m => aps v'' rv'' (by simp [m]), fun b hb => by
                rcases List.mem_cons.mp hb with z | z
                · subst z; exact .inl ⟨k, hka⟩
                · rcases k11 b z with h | ⟨d0, hd⟩
                  · exact .inl h
                  · exact .inr ⟨d0, by simp [hd]⟩⟩
          cases st with
          | live => exact main (by intro z; cases z) h
          | lock => exact main (by intro z; cases z) h
          | dead =>
            dsimp only at h
            cases h2 : prep ms rvs g.cs us with
            | none => rw [h2] at h; cases h
            | some z =>
              obtain ⟨as2, ks2, cs2⟩ := z
              rw [h2] at h
              dsimp only at h
              injection h with h
              injection h with ha h
              injection h with hk' hc
              subst ha; subst hk'; subst hc
              obtain ⟨g2, las, k1, k2, k3, k4, k5, k6, k7, k8, k9, k10, k11⟩ := prep_ok ms rvs vs g us as2 ks2 cs2 e s rr h2
              obtain ⟨c, q1, _⟩ := s.cell k a _ _ hka hk
              refine ⟨g2, las, k1, k2, k3, k4, k5, k6, .imm (Dn.keep (fun b o q _ => by rw [k2]; exact q) k4 d _ (c.dn (q1 rfl))) k7, k8, k9, fun v' rv' q aps => k10 v' rv' q fun v'' rv'' m => aps v'' rv'' (by simp [m]), fun b hb => ?_⟩
              rcases k11 b hb with h | ⟨d0, hd⟩
              · exact .inl h
              · exact .inr ⟨d0, by simp [hd]⟩
end
end Mini

namespace Mini
open PySem PySem.Spec PyProof.Rows L2
section
variable {K : PySem.W.Frag} {σ : L2.St} {sl : Slots} {g g0 : G} {H0 : Hp}
theorem mkArgs_cells : ∀ (as : List AV) (n m : Nat), (mkArgs as n).2 = (mkArgs as m).2
  | [], _, _ => rfl
  | .imm d :: as, n, m => mkArgs_cells as n m
  | .ref st d :: as, n, m => by show (st, d) :: _ = (st, d) :: _; rw [mkArgs_cells as (n + 1) (m + 1)]
theorem mkArgs_slots : ∀ (as : List AV) (n : Nat), (mkArgs as n).1.length = as.length
  | [], _ => rfl
  | .imm d :: as, n => by show (mkArgs as n).1.length + 1 = _; rw [mkArgs_slots as n]; rfl
  | .ref st d :: as, n => by show (mkArgs as (n + 1)).1.length + 1 = _; rw [mkArgs_slots as (n + 1)]; rfl
theorem ArgL.vlen : ∀ {vs : List V} {as : List AV} {ks : List (Option Nat)} {las : List Addr}, ArgL K H0 g vs as ks las → vs.length = as.length
  | _, _, _, _, .nil => rfl
  | _, _, _, _, .imm _ r => by simp [ArgL.vlen r]
  | _, _, _, _, .cel _ _ _ _ r => by simp [ArgL.vlen r]
  | _, _, _, _, .new _ _ _ _ _ r => by simp [ArgL.vlen r]
theorem ArgL.clen : ∀ {vs : List V} {as : List AV} {ks : List (Option Nat)} {las : List Addr} (n : Nat), ArgL K H0 g vs as ks las → las.length = (mkArgs as n).2.length
  | _, _, _, _, _, .nil => rfl
  | _, _, _, _, n, .imm _ r => (ArgL.clen n r :)
  | _, _, _, _, n, .cel _ _ _ _ r => by simp [mkArgs, ArgL.clen (n + 1) r]
  | _, _, _, _, n, .new _ _ _ _ _ r => by simp [mkArgs, ArgL.clen (n + 1) r]
theorem ArgL.nd : ∀ {vs : List V} {as : List AV} {ks : List (Option Nat)} {las : List Addr}, ArgL K H0 g vs as ks las → las.Nodup
  | _, _, _, _, .nil => List.nodup_nil
  | _, _, _, _, .imm _ r => ArgL.nd r
  | _, _, _, _, .cel _ _ _ h r => List.nodup_cons.mpr ⟨h, ArgL.nd r⟩
  | _, _, _, _, .new _ _ _ _ h r => List.nodup_cons.mpr ⟨h, ArgL.nd r⟩
/-- where a lent container comes from -/
def From (H0 : Hp) (g : G) (a : Addr) (st : Stt) (d : D) : Prop := (∃ k : Nat, g.as[k]? = some a ∧ g.cs[k]? = some (st, d)) ∨ (a ∉ g.as ∧ H0 a = none)
theorem ArgL.cell (s : SRel K σ sl g) : ∀ {vs : List V} {as : List AV} {ks : List (Option Nat)} {las : List Addr} (n p : Nat) (a : Addr), ArgL K H0 g vs as ks las → las[p]? = some a →
    ∃ st d, (mkArgs as n).2[p]? = some (st, d) ∧ Cont K g.Z g.H a d ∧ st ≠ .dead ∧ ¬ g.Z a ∧ From H0 g a st d
  | _, _, _, _, _, _, _, .nil, h => by simp at h
  | _, _, _, _, n, p, a, .imm _ r, h => (ArgL.cell s n p a r h :)
  | _, _, _, _, n, 0, a, .cel (st := st) (d := d) h1 h2 h3 h4 r, h => by
    simp at h; subst h
    obtain ⟨c, _, q⟩ := s.cell _ _ _ _ h1 h2
    exact ⟨st, d, rfl, c, h3, q h3, .inl ⟨_, h1, h2⟩⟩
  | _, _, _, _, n, p + 1, a, .cel h1 h2 h3 h4 r, h => ArgL.cell s (n + 1) p a r (by simpa using h)
  | _, _, _, _, n, 0, a, .new (d := d) h1 h2 h3 h4 h5 r, h => by
    simp at h; subst h
    exact ⟨.live, d, rfl, h1, (fun z => nomatch z), h2, .inr ⟨h3, h4⟩⟩
  | _, _, _, _, n, p + 1, a, .new h1 h2 h3 h4 h5 r, h => ArgL.cell s (n + 1) p a r (by simpa using h)
theorem ArgL.slot : ∀ {vs : List V} {as : List AV} {ks : List (Option Nat)} {las : List Addr} (n i : Nat) (rv : RV), ArgL K H0 g vs as ks las → (mkArgs as n).1[i]? = some (some rv) →
    ∃ v, vs[i]? = some v ∧ ((∃ d, rv = .imm d ∧ Dn K g.Z g.H v d) ∨ ∃ k a, rv = .cel (n + k) ∧ las[k]? = some a ∧ v = .ref a)
  | _, _, _, _, _, _, _, .nil, h => by simp [mkArgs] at h
  | _, _, _, _, n, 0, rv, .imm (d := d) q r, h => by
    simp [mkArgs] at h; subst h
    exact ⟨_, rfl, .inl ⟨d, rfl, q⟩⟩
  | _, _, _, _, n, i + 1, rv, .imm q r, h => by
    obtain ⟨v, h1, h2⟩ := ArgL.slot n i rv r (by simpa [mkArgs] using h)
    exact ⟨v, by simpa using h1, h2⟩
  | _, _, _, _, n, 0, rv, .cel h1 h2 h3 h4 r, h => by
    simp [mkArgs] at h; subst h
    exact ⟨_, rfl, .inr ⟨0, _, rfl, rfl, rfl⟩⟩
  | _, _, _, _, n, i + 1, rv, .cel h1 h2 h3 h4 r, h => by
    obtain ⟨v, h1, h2⟩ := ArgL.slot (n + 1) i rv r (by simpa [mkArgs] using h)
    refine ⟨v, by simpa using h1, h2.imp id fun ⟨k, a, e1, e2, e3⟩ => ⟨k + 1, a, ?_, by simpa using e2, e3⟩⟩
    rw [e1]; congr 1; omega
  | _, _, _, _, n, 0, rv, .new h1 h2 h3 h4 h5 r, h => by
    simp [mkArgs] at h; subst h
    exact ⟨_, rfl, .inr ⟨0, _, rfl, rfl, rfl⟩⟩
  | _, _, _, _, n, i + 1, rv, .new h1 h2 h3 h4 h5 r, h => by
    obtain ⟨v, h1, h2⟩ := ArgL.slot (n + 1) i rv r (by simpa [mkArgs] using h)
    refine ⟨v, by simpa using h1, h2.imp id fun ⟨k, a, e1, e2, e3⟩ => ⟨k + 1, a, ?_, by simpa using e2, e3⟩⟩
    rw [e1]; congr 1; omega
/-- what comes back -/
theorem back_len : ∀ {ks : List (Option Nat)} {bs cs cs' : Cells}, back ks bs cs = some cs' → cs'.length = cs.length
  | [], [], _, _, h => by simp only [back] at h; cases h; rfl
  | [], _ :: _, _, _, h => by simp [back] at h
  | none :: ks, b :: bs, cs, cs', h => back_len (ks := ks) (bs := bs) (by simpa only [back] using h)
  | some k :: ks, b :: bs, cs, cs', h => by
    have := back_len (ks := ks) (bs := bs) (cs := setN cs k b) (by simpa only [back] using h)
    rw [this, setN_eq, List.length_set]
  | none :: _, [], _, _, h => by simp [back] at h
  | some _ :: _, [], _, _, h => by simp [back] at h
theorem back_out (nd : g.as.Nodup) : ∀ {vs : List V} {as : List AV} {ks : List (Option Nat)} {las : List Addr} {bs cs cs' : Cells}, ArgL K H0 g vs as ks las → back ks bs cs = some cs' →
    ∀ (k : Nat) (a : Addr), g.as[k]? = some a → a ∉ las → cs'[k]? = cs[k]?
  | _, _, _, _, [], cs, cs', .nil, h, k, a, _, _ => by simp only [back] at h; cases h; rfl
  | _, _, _, _, _ :: _, cs, cs', .nil, h, k, a, _, _ => by simp [back] at h
  | _, _, _, _, bs, cs, cs', .imm _ r, h, k, a, h1, h2 => back_out nd r h k a h1 h2
  | _, _, _, _, [], cs, cs', .cel _ _ _ _ r, h, k, a, _, _ => by simp [back] at h
  | _, _, _, _, b :: bs, cs, cs', .cel q1 q2 q3 q4 r, h, k, a, h1, h2 => by
    simp only [back] at h
    rw [back_out nd r h k a h1 (fun z => h2 (by simp [z])), setN_eq, List.getElem?_set_ne]
    intro e
    subst e
    rw [q1] at h1; cases h1
    exact h2 (by simp)
  | _, _, _, _, [], cs, cs', .new _ _ _ _ _ r, h, k, a, _, _ => by simp [back] at h
  | _, _, _, _, b :: bs, cs, cs', .new q1 q2 q3 q4 q5 r, h, k, a, h1, h2 => by
    simp only [back] at h
    exact back_out nd r h k a h1 (fun z => h2 (by simp [z]))
theorem back_in (nd : g.as.Nodup) : ∀ {vs : List V} {as : List AV} {ks : List (Option Nat)} {las : List Addr} {bs cs cs' : Cells}, g.as.length = cs.length → ArgL K H0 g vs as ks las → back ks bs cs = some cs' →
    ∀ (k : Nat) (a : Addr), g.as[k]? = some a → a ∈ las → ∃ p : Nat, las[p]? = some a ∧ cs'[k]? = bs[p]?
  | _, _, _, _, bs, cs, cs', _, .nil, h, k, a, _, h2 => by simp at h2
  | _, _, _, _, bs, cs, cs', hl, .imm _ r, h, k, a, h1, h2 => back_in nd hl r h k a h1 h2
  | _, _, _, _, [], cs, cs', _, .cel _ _ _ _ r, h, k, a, _, _ => by simp [back] at h
  | _, _, _, _, b :: bs, cs, cs', hl, .cel (k := k0) (a := a0) q1 q2 q3 q4 r, h, k, a, h1, h2 => by
    simp only [back] at h
    by_cases e : a = a0
    · subst e
      have : k = k0 := nd_ix nd h1 q1
      subst this
      refine ⟨0, rfl, ?_⟩
      rw [back_out nd r h k a h1 q4, setN_eq, List.getElem?_set_self (by rw [← hl]; exact (List.getElem?_eq_some_iff.mp h1).1)]
      rfl
    · have : a ∈ _ := (List.mem_cons.mp h2).resolve_left e
      obtain ⟨p, p1, p2⟩ := back_in nd (by rw [setN_eq, List.length_set]; exact hl) r h k a h1 this
      exact ⟨p + 1, by simpa using p1, by simpa using p2⟩
  | _, _, _, _, [], cs, cs', _, .new _ _ _ _ _ r, h, k, a, _, _ => by simp [back] at h
  | _, _, _, _, b :: bs, cs, cs', hl, .new (a := a0) q1 q2 q3 q4 q5 r, h, k, a, h1, h2 => by
    simp only [back] at h
    have e : a ≠ a0 := fun e => q3 (e ▸ List.mem_of_getElem? h1)
    have : a ∈ _ := (List.mem_cons.mp h2).resolve_left e
    obtain ⟨p, p1, p2⟩ := back_in nd hl r h k a h1 this
    exact ⟨p + 1, by simpa using p1, by simpa using p2⟩
end
/-- what a call leaves -/
def PostC (K : PySem.W.Frag) (g : G) (r : Option (Out × Cells)) (Q : VK) : Prop := match r with
  | some (.ret b d, bs) => ∀ g' v, g'.cs = bs → g'.as = g.as → Ext g g' → SRel K [] [] g' → RvRel K g.H g' v (if b then .fr d else .imm d) → Q v g'.H
  | some (.exc _, _) => True
  | none => False
def spF (K : PySem.W.Frag) (call : CallT) (f : Nat) : Sp := fun vs H Q _ => ∃ g args, g.H = H ∧ g.cs = (mkArgs args 0).2 ∧ SRel K (vs.map some) (mkArgs args 0).1 g ∧ PostC K g (call f args) Q
section
variable {K : PySem.W.Frag} {W : WX} {σ : L2.St} {sl : Slots} {g g2 : G} {call : CallT} {modes : Nat → List Bool} {f : Nat} {vs : List V} {rvs : List RV} {P : RV → G → Prop} {Q : VK} {E : XK}
theorem call_ok (e : Ext g g2) (s : SRel K σ sl g2) (r : RvsRel K g.H g2 vs rvs) (h : Post K W σ sl g (doCall call modes f rvs g2.cs) P)
    (hP : ∀ rv g' v, Ext g g' → SRel K σ sl g' → RvRel K g.H g' v rv → P rv g' → Q v g'.H) : spF K call f vs g2.H Q E := by
  unfold doCall at h
  cases h1 : prep (modes f) rvs g2.cs [] with
  | none => rw [h1] at h; exact h.elim
  | some z =>
    obtain ⟨as, ks, cs1⟩ := z
    rw [h1] at h
    dsimp only at h
    obtain ⟨g3, las, p1, p2, p3, p4, p5, p6, p7, _⟩ := prep_ok _ _ _ _ _ _ _ _ e s r h1
    have from_live : ∀ a, Live ⟨g3.Z, las, (mkArgs as 0).2, g3.H⟩ a → Live g3 a ∨ (a ∉ g3.as ∧ g.H a = none) := fun a ⟨k, d, l1, l2⟩ => by
      obtain ⟨st, d', q1, _, _, _, q5⟩ := p7.cell p6 0 k a l1
      have l2 : (mkArgs as 0).2[k]? = some (Stt.live, d) := l2
      rw [q1] at l2; cases l2
      rcases q5 with ⟨j, j1, j2⟩ | q5
      · exact .inl ⟨j, _, j1, j2⟩
      · exact .inr q5
    have live_g : ∀ a, Live ⟨g3.Z, las, (mkArgs as 0).2, g3.H⟩ a → Live g a ∨ g.H a = none := fun a l => by
      rcases from_live a l with l | l
      · exact p5.live a l
      · exact .inr l.2
    refine ⟨⟨g3.Z, las, (mkArgs as 0).2, g3.H⟩, as, p2, rfl, ?_, ?_⟩
    · refine ⟨by rw [List.length_map, mkArgs_slots]; exact p7.vlen, fun i rv hi => ?_, p7.clen 0, p7.nd, fun k a st d q1 q2 => ?_, p6.zdom⟩
      · obtain ⟨v, v1, v2⟩ := p7.slot 0 i rv hi
        refine ⟨v, by rw [List.getElem?_map, v1]; rfl, ?_⟩
        rcases v2 with ⟨d, rfl, v2⟩ | ⟨k, a, rfl, v2, rfl⟩
        · exact v2
        · exact ⟨a, by rw [Nat.zero_add]; exact v2, rfl⟩
      · obtain ⟨st', d', u1, u2, u3, u4, _⟩ := p7.cell p6 0 k a q1
        have q2 : (mkArgs as 0).2[k]? = some (st, d) := q2
        rw [u1] at q2; cases q2
        exact ⟨u2, fun z => (u3 z).elim, fun _ => u4⟩
    · cases hc : call f as with
      | none => rw [hc] at h; exact h.elim
      | some z =>
        obtain ⟨o, bs⟩ := z
        rw [hc] at h
        cases o with
        | exc x => trivial
        | ret b d =>
          intro g' v c1 c2 c3 c4 c5
          dsimp only at h
          cases hb : back ks bs cs1 with
          | none => rw [hb] at h; exact h.elim
          | some cs2 =>
            rw [hb] at h
            have c2 : g'.as = las := c2
            have kp : Keep g3.Z g3.H g'.H := fun b o q z => by
              have sc : SRel K (vs.map some) (mkArgs as 0).1 ⟨g3.Z, las, (mkArgs as 0).2, g3.H⟩ := by
                refine ⟨by rw [List.length_map, mkArgs_slots]; exact p7.vlen, fun i rv hi => ?_, p7.clen 0, p7.nd, fun k a st d q1 q2 => ?_, p6.zdom⟩
                · obtain ⟨v, v1, v2⟩ := p7.slot 0 i rv hi
                  refine ⟨v, by rw [List.getElem?_map, v1]; rfl, ?_⟩
                  rcases v2 with ⟨d, rfl, v2⟩ | ⟨k, a, rfl, v2, rfl⟩
                  · exact v2
                  · exact ⟨a, by rw [Nat.zero_add]; exact v2, rfl⟩
                · obtain ⟨st', d', u1, u2, u3, u4, _⟩ := p7.cell p6 0 k a q1
                  have q2 : (mkArgs as 0).2[k]? = some (st, d) := q2
                  rw [u1] at q2; cases q2
                  exact ⟨u2, fun z => (u3 z).elim, fun _ => u4⟩
              exact sc.keep c3 b o q z
            have lenc : g3.as.length = cs1.length := by rw [p6.clen, p1]
            have notlive : ∀ (k : Nat) (a : Addr), g3.as[k]? = some a → a ∉ las → ¬ Live ⟨g3.Z, las, (mkArgs as 0).2, g3.H⟩ a := fun k a _ h2 ⟨j, d, l1, _⟩ => h2 (List.mem_of_getElem? l1)
            have E1 : Ext g ⟨g'.Z, g3.as, cs2, g'.H⟩ := by
              refine ⟨fun a z => c3.zsub a (p5.zsub a z), fun a z => ?_, p5.pre, fun b o q => ?_, fun b o q nl => ?_, fun b l => ?_⟩
              · rcases c3.zold a z with z | z | z
                · exact p5.zold a z
                · exact .inr (live_g a z)
                · exact .inr (.inr (p5.none z))
              · obtain ⟨o1, q1⟩ := p5.dom b o q
                exact c3.dom b o1 q1
              · refine c3.frame b o (p5.frame b o q nl) fun l => ?_
                rcases live_g b l with l | l
                · exact nl l
                · rw [l] at q; cases q
              · obtain ⟨k, d', l1, l2⟩ := l
                have l1 : g3.as[k]? = some b := l1
                have l2 : cs2[k]? = some (Stt.live, d') := l2
                by_cases hm : b ∈ las
                · obtain ⟨p, q1, q2⟩ := back_in p6.nd lenc p7 hb k b l1 hm
                  rcases c3.live b ⟨p, d', by rw [c2]; exact q1, by rw [c1, ← q2]; exact l2⟩ with l | l
                  · exact live_g b l
                  · exact .inr (p5.none l)
                · rw [back_out p6.nd p7 hb k b l1 hm, ← p1] at l2
                  exact p5.live b ⟨k, d', l1, l2⟩
            have S1 : SRel K σ sl ⟨g'.Z, g3.as, cs2, g'.H⟩ := by
              refine ⟨s.len, fun i rv hi => ?_, by show g3.as.length = cs2.length; rw [back_len hb]; exact lenc, p6.nd, fun k a st d' h1 h2 => ?_, c4.zdom⟩
              · obtain ⟨w, w1, w2⟩ := p6.slot i rv hi
                refine ⟨w, w1, ?_⟩
                cases rv with
                | imm d0 => exact Dn.keep kp c3.zsub d0 w w2
                | cel k => exact w2
                | fr d0 => exact w2.elim
              · have h1 : g3.as[k]? = some a := h1
                have h2 : cs2[k]? = some (st, d') := h2
                by_cases hm : a ∈ las
                · obtain ⟨p, q1, q2⟩ := back_in p6.nd lenc p7 hb k a h1 hm
                  exact c4.cell p a st d' (by rw [c2]; exact q1) (by rw [c1, ← q2]; exact h2)
                · rw [back_out p6.nd p7 hb k a h1 hm, ← p1] at h2
                  obtain ⟨k1, k2, k3⟩ := p6.cell k a st d' h1 h2
                  obtain ⟨o, ho, _⟩ := k1.there
                  have nl := notlive k a h1 hm
                  refine ⟨k1.keep kp c3.zsub ((c3.frame a o ho nl).trans ho.symm), fun z => c3.zsub a (k2 z), fun z zz => ?_⟩
                  rcases c3.zold a zz with y | y | y
                  · exact k3 z y
                  · exact nl y
                  · have y : g3.H a = none := y
                    rw [ho] at y; cases y
            refine hP _ ⟨g'.Z, g3.as, cs2, g'.H⟩ v E1 S1 ?_ (h ⟨g'.Z, g3.as, cs2, g'.H⟩ rfl E1 S1)
            cases b with
            | false => exact c5
            | true =>
              obtain ⟨a, y1, y2, y3, y4, y5⟩ := c5
              have y5 : g3.H a = none := y5
              refine ⟨a, y1, y2, y3, fun z => ?_, p5.none y5⟩
              obtain ⟨k, hk, ek⟩ := List.getElem_of_mem (show a ∈ g3.as from z)
              have hk2 : k < g3.cs.length := by rw [← p6.clen]; exact hk
              have := (p6.cell k a _ _ (List.getElem?_eq_some_iff.mpr ⟨hk, ek⟩) (List.getElem?_eq_some_iff.mpr ⟨hk2, rfl⟩)).1.there
              obtain ⟨o, ho, _⟩ := this
              rw [y5] at ho; cases ho
end
end Mini

namespace Mini
open PySem PySem.Spec PyProof.Rows L2
theorem Apart.symm {v v' : V} {rv rv' : RV} (h : Apart v rv v' rv') : Apart v' rv' v rv := by
  cases rv <;> cases rv' <;> first | trivial | exact fun z => h z.symm
def elen : E → Nat
  | .cons _ r => elen r + 1
  | _ => 0
theorem evs_len (call : CallT) (modes : Nat → List Bool) : ∀ (c : E) (sl : Slots) (cs : Cells) (rvs : List RV) (cs' : Cells), evs call modes c sl cs = .ok rvs cs' → rvs.length = elen c := by
  intro c
  induction c with
  | cons a r _ ih =>
    intro sl cs rvs cs' h
    simp only [evs] at h
    cases q : ev call modes a sl cs with
    | stuck => rw [q] at h; cases h
    | err x c1 => rw [q] at h; cases h
    | ok x c1 =>
      rw [q] at h
      simp only [Res.bind] at h
      cases q2 : evs call modes r sl c1 with
      | stuck => rw [q2] at h; cases h
      | err x c1 => rw [q2] at h; cases h
      | ok xs c2 =>
        rw [q2] at h
        cases h
        simp [elen, ih sl c1 xs _ q2]
  | nil => intro sl cs rvs cs' h; simp only [evs] at h; cases h; rfl
  | _ => intro sl cs rvs cs' h; simp [evs] at h
theorem permute_get {rvs : List RV} : ∀ {pm : List Nat} {out : List RV}, permute rvs pm = some out → out.length = pm.length ∧ ∀ (i : Nat) (j : Nat) (rv : RV), pm[i]? = some j → out[i]? = some rv → rvs[j]? = some rv
  | [], out, h => by cases h; exact ⟨rfl, fun i j rv h => by simp at h⟩
  | p :: pm, out, h => by
    unfold permute at h
    rw [nth_eq] at h
    cases q : rvs[p]? with
    | none => rw [q] at h; cases h
    | some rv0 =>
      rw [q] at h
      dsimp only at h
      cases q2 : permute rvs pm with
      | none => rw [q2] at h; cases h
      | some r =>
        rw [q2] at h
        cases h
        obtain ⟨h1, h2⟩ := permute_get q2
        refine ⟨by simp [h1], fun i j rv a b => ?_⟩
        cases i with
        | zero => simp at a b; subst a; subst b; exact q
        | succ i => exact h2 i j rv (by simpa using a) (by simpa using b)
theorem range_all {α : Type} {d : α} : ∀ (vs : List α), (List.range vs.length).map (fun i => vs.getD i d) = vs := fun vs => by
  apply List.ext_getElem
  · simp
  · intro i h1 h2
    simp at h1
    rw [List.getElem_map, List.getElem_range, List.getD_eq_getElem?_getD, List.getElem?_eq_getElem h2]
    rfl
section
variable {K : PySem.W.Frag} {H0 : Hp} {g : G}
theorem RvsRel.get : ∀ {vs : List V} {rvs : List RV} (i : Nat) (rv : RV), RvsRel K H0 g vs rvs → rvs[i]? = some rv → ∃ v, vs[i]? = some v ∧ RvRel K H0 g v rv
  | _, _, _, _, .nil, h => by simp at h
  | _, _, 0, _, .cons a _ _, h => by simp at h; subst h; exact ⟨_, rfl, a⟩
  | _, _, i + 1, rv, .cons _ _ c, h => by
    obtain ⟨v, h1, h2⟩ := RvsRel.get i rv c (by simpa using h)
    exact ⟨v, by simpa using h1, h2⟩
theorem zip_get {α β : Type} {a : α} {b : β} : ∀ {as : List α} {bs : List β} (i : Nat), as[i]? = some a → bs[i]? = some b → (a, b) ∈ as.zip bs
  | [], _, _, h, _ => by simp at h
  | _ :: _, [], _, _, h => by simp at h
  | _ :: _, _ :: _, 0, h1, h2 => by simp at h1 h2; subst h1; subst h2; simp
  | _ :: as, _ :: bs, i + 1, h1, h2 => by
    have := zip_get (as := as) (bs := bs) i (by simpa using h1) (by simpa using h2)
    simp [this]
theorem RvsRel.apart {vs : List V} {rvs : List RV} (r : RvsRel K H0 g vs rvs) : ∀ (i j : Nat) (v v' : V) (rv rv' : RV), i < j → vs[i]? = some v → rvs[i]? = some rv → vs[j]? = some v' → rvs[j]? = some rv' → Apart v rv v' rv' := by
  induction r with
  | nil => intro i j v v' rv rv' _ h; simp at h
  | cons a b c ih =>
    intro i j v v' rv rv' hij h1 h2 h3 h4
    cases j with
    | zero => omega
    | succ j =>
      rw [List.getElem?_cons_succ] at h3 h4
      cases i with
      | zero =>
        rw [List.getElem?_cons_zero] at h1 h2
        cases h1; cases h2
        exact b v' rv' (zip_get j h3 h4)
      | succ i =>
        rw [List.getElem?_cons_succ] at h1 h2
        exact ih i j v v' rv rv' (by omega) h1 h2 h3 h4
theorem RvsRel.perm {vs : List V} {rvs : List RV} (r : RvsRel K H0 g vs rvs) : ∀ {pm : List Nat} {out : List RV}, pm.Nodup → permute rvs pm = some out → RvsRel K H0 g (pm.map fun i => vs.getD i .non) out
  | [], out, _, h => by cases h; exact .nil
  | p :: pm, out, nd, h => by
    unfold permute at h
    rw [nth_eq] at h
    cases q : rvs[p]? with
    | none => rw [q] at h; cases h
    | some rv0 =>
      rw [q] at h
      dsimp only at h
      cases q2 : permute rvs pm with
      | none => rw [q2] at h; cases h
      | some o =>
        rw [q2] at h
        cases h
        obtain ⟨nd1, nd2⟩ := List.nodup_cons.mp nd
        obtain ⟨v0, h1, h2⟩ := r.get p rv0 q
        have ev0 : vs.getD p .non = v0 := by rw [List.getD_eq_getElem?_getD, h1]; rfl
        refine .cons (by show RvRel K H0 g (vs.getD p .non) rv0; rw [ev0]; exact h2) (fun v' rv' m => ?_) (RvsRel.perm r nd2 q2)
        obtain ⟨pl, pg⟩ := permute_get q2
        obtain ⟨i, hi, ei⟩ := List.getElem_of_mem m
        rw [List.getElem_zip] at ei
        injection ei with e1 e2
        have hi1 : i < pm.length := by
          have := hi; rw [List.length_zip, List.length_map] at this; omega
        have hi2 : i < o.length := by rw [pl]; exact hi1
        rw [List.getElem_map] at e1
        have g1 := pg i pm[i] rv' (List.getElem?_eq_some_iff.mpr ⟨hi1, rfl⟩) (List.getElem?_eq_some_iff.mpr ⟨hi2, e2⟩)
        obtain ⟨v1, k1, _⟩ := r.get _ _ g1
        have ev1 : v' = v1 := by rw [← e1, List.getD_eq_getElem?_getD, k1]; rfl
        subst ev1
        show Apart (vs.getD p .non) rv0 v' rv'
        rw [ev0]
        have ne : p ≠ pm[i] := fun z => nd1 (z ▸ List.getElem_mem hi1)
        rcases Nat.lt_or_gt_of_ne ne with l | l
        · exact r.apart p pm[i] _ _ _ _ l h1 q k1 g1
        · exact (r.apart pm[i] p _ _ _ _ l k1 g1 h1 q).symm
end
theorem permute_range {rvs : List RV} : permute rvs (List.range rvs.length) = some rvs := by
  have : ∀ (n m : Nat), n + m = rvs.length → permute rvs (List.range' n m) = some (rvs.drop n) := by
    intro n m
    induction m generalizing n with
    | zero => intro h; simp [permute, List.drop_eq_nil_of_le (show rvs.length ≤ n by omega)]
    | succ m ih =>
      intro h
      have hn : n < rvs.length := by omega
      show permute rvs (n :: List.range' (n + 1) m) = _
      unfold permute
      rw [nth_eq, List.getElem?_eq_getElem hn, ih (n + 1) (by omega)]
      rw [List.drop_eq_getElem_cons hn]
  rw [List.range_eq_range', this 0 rvs.length (by omega), List.drop_zero]
section
variable {X : Cx} {W : WX} {call : CallT} {modes : Nat → List Bool} {e : Expr} {es : List Expr} {kws : List Keyword} {c : E} {pos p : Pos} {f : Addr} {fd : FuncData} {ps ks : List Str} {k fi : Nat} {pm : List Nat} {x : Str}
theorem call_read {σ : L2.St} {H : Hp} {Q : VK} (hnd : pm.Nodup) (h : TV X W call modes (.call fi pm c) σ H Q) : TAv X.K W call modes c σ H fun vs H1 => vs.length = elen c ∧ spF X.K call fi (pm.map fun i => vs.getD i .non) H1 Q E0 := by
  obtain ⟨sl, g, rfl, s, h⟩ := h
  simp only [ev] at h
  refine ⟨sl, g, rfl, s, h.bind.mono fun rvs g1 hr e1 s1 p vs r => ⟨?_, ?_⟩⟩
  · rw [r.length]; exact evs_len _ _ _ _ _ _ _ hr
  · cases q : permute rvs pm with
    | none => rw [q] at p; exact p.elim
    | some rvs' =>
      rw [q] at p
      exact call_ok e1 s1 (r.perm hnd q) p fun rv g' v _ _ r' h => h v r'
theorem r_call (F : FnOk X.prog X.w X.K X.mg X.base CX0 k f fd ps (spF X.K call fi)) (hr : Room k X.A) (hg : Gl X x) (hm : X.mg x = some (.ref f)) (hk : PySem.W.keepIn X.K (.ref f) = true) (hb : Binds X.K fd ps [])
    (ha : PA X (e :: es) (TAV X W call modes c)) (hpm : pm = List.range (elen c)) (hdb : (x == ("__debug__" : Str)) = false) (he : starEach (e :: es) X.env = (false, eval e X.env) :: starEach es X.env) (hpl : (backTo pos (starEach es X.env)).any (·.1) = false) :
    PE X (.Call (.Name x p) (e :: es) [] pos) (TV X W call modes (.call fi pm c)) := by
  refine PE.imp (pe_call (E := E0) F hr hg hm hk hb .nil pass0 ha hdb he hpl) fun σ H Q h => ?_
  subst hpm
  obtain ⟨sl, g, h1, s, h2⟩ := call_read List.nodup_range h
  refine ⟨sl, g, h1, s, h2.mono fun rvs g1 _ _ _ h vs r => ?_⟩
  obtain ⟨hl, h⟩ := h vs r
  rw [← hl, range_all] at h
  rw [List.append_nil]
  exact h
theorem r_call0 (F : FnOk X.prog X.w X.K X.mg X.base CX0 k f fd ps (spF X.K call fi)) (hr : Room k X.A) (hg : Gl X x) (hm : X.mg x = some (.ref f)) (hk : PySem.W.keepIn X.K (.ref f) = true) (hb : Binds X.K fd ps [])
    (hdb : (x == ("__debug__" : Str)) = false) :
    PE X (.Call (.Name x p) [] [] pos) (TV X W call modes (.call fi [] .nil)) := by
  refine PE.imp (pe_call0 (E := E0) F hr hg hm hk hb .nil pass0 hdb) fun σ H Q h => ?_
  obtain ⟨sl, g, rfl, s, h2⟩ := call_read List.nodup_nil h
  unfold tCall tNil
  simp only [evs] at h2
  exact (h2 g rfl (Ext.refl g) s [] .nil).2
theorem vals_getD : ∀ {zs : List V} {ws : List Value} (i : Nat), Vals zs ws → L2.RelV (zs.getD i .non) (ws.getD i .none)
  | _, _, _, .nil => rfl
  | _, _, 0, .cons a _ => a
  | _, _, i + 1, .cons _ r => vals_getD i r
theorem vals_perm {zs : List V} {ws : List Value} (r : Vals zs ws) : ∀ (pm : List Nat), Vals (pm.map fun i => zs.getD i .non) (pm.map fun i => ws.getD i .none)
  | [] => .nil
  | i :: pm => .cons (vals_getD i r) (vals_perm r pm)
/-- keywords alone -/
theorem r_callK (F : FnOk X.prog X.w X.K X.mg X.base CX0 k f fd ps (spF X.K call fi)) (hr : Room k X.A) (hg : Gl X x) (hm : X.mg x = some (.ref f)) (hk : PySem.W.keepIn X.K (.ref f) = true)
    (hb : ∀ (s : Shared) (ws : List Value), X.K.In s.heap → ws.length = ks.length → BindsTo s fd ⟨[], ks.zip ws⟩ (ps.zip (pm.map fun i => ws.getD i .none)))
    (hkw : PK X kws (TAV X W call modes c)) (hnd : pm.Nodup) (hlen : elen c = ks.length) (hall : (backToKw pos (keywordEach kws X.env)).all (·.1.isSome) = true) (hks : (backToKw pos (keywordEach kws X.env)).filterMap (·.1) = ks)
    (hdb : (x == ("__debug__" : Str)) = false) (hpl : ((backTo pos (starEach [] X.env)).any (·.1) || (backToKw pos (keywordEach kws X.env)).any (·.1.isNone)) = false) :
    PE X (.Call (.Name x p) [] kws pos) (TV X W call modes (.call fi pm c)) := by
  refine ⟨fun pins s σ H Q I h => ?_⟩
  have h := call_read hnd h
  refine wpAny_Call_Name_kw (ld_glob I hg hm ?_ hdb)
  refine PySem.W.callWith_KW0 (h₀ := X.base) I.ok.mod.kin hk hall ?_ hpl
  refine thn (hkw.run pos pins s σ H _ I h) fun ws s2 ⟨zs, H2, I2, rz, q1, q2⟩ => ⟨I2.kIn, ?_⟩
  rw [hks, List.append_nil]
  have lw : ws.length = ks.length := by rw [← rz.length, q1, hlen]
  have r2 : Vals (pm.map fun i => zs.getD i .non) (pm.map fun i => ws.getD i .none) := vals_perm rz pm
  refine wpAny_call (codeAny_mono (F.run X.A X.stack s2 H2 ⟨[], ks.zip ws⟩ _ _ Q E0 hr I2.env0 (hb s2 ws I2.kIn lw) r2 q2) fun r s' hq => ?_)
  cases r with
  | error e => exact hq.elim
  | ok fl =>
    cases fl with
    | ret u => exact I2.after hq
    | next => exact False.elim hq
    | brk => exact False.elim hq
    | cont => exact False.elim hq
theorem k_nil : PK X [] (TAV X W call modes .nil) := by
  refine ⟨fun pos pins s σ H Q I h => ?_⟩
  obtain ⟨sl, g, rfl, s1, h⟩ := h
  simp only [evs] at h
  exact pk_nil.run pos pins s σ _ Q I (h g rfl (Ext.refl g) s1 [] .nil)
theorem k_cons {c1 c2 : E} {nm : Option Str} {kpos : Pos} (ha : PE X e (TV X W call modes c1)) (hr : PK X kws (TAV X W call modes c2)) : PK X (⟨nm, e, kpos⟩ :: kws) (TAV X W call modes (.cons c1 c2)) := by
  refine ⟨fun pos pins s σ H Q I h => ?_⟩
  refine (pk_cons ha hr).run pos pins s σ H Q I ?_
  obtain ⟨sl, g, rfl, s, h⟩ := h
  simp only [evs] at h
  unfold tCons
  refine TEv.one (Ext.refl g) s h fun x v g1 ex s1 r1 p => ?_
  refine ⟨sl, g1, rfl, s1, (p.bind.later ex).mono fun rvs g2 _ ex2 s2 p vs r2 => ?_⟩
  exact p.now (ex.trans ex2) s2 (v :: vs) (.cons (s1.rvx ex2 r1) (apart_in r1 r2) (r2.weak fun a ha => ex.none ha))
end
end Mini

namespace Mini
open PySem PySem.Spec PyProof.Rows L2
theorem nones_eq : ∀ n : Nat, nones n = List.replicate n none
  | 0 => rfl
  | n + 1 => by show none :: nones n = _; rw [nones_eq n]; rfl
section
variable {K : PySem.W.Frag} {σ : L2.St} {sl : Slots} {g g' : G} {d : D} {rv : RV} {v : V}
theorem SRel.starts (s : SRel K σ sl g) (n : Nat) : SRel K (σ ++ List.replicate n none) (sl ++ nones n) g := by
  refine ⟨by simp [s.len, nones_eq], fun i rv h => ?_, s.clen, s.nd, s.cell, s.zdom⟩
  by_cases hi : i < sl.length
  · rw [List.getElem?_append_left hi] at h
    obtain ⟨v, h1, h2⟩ := s.slot i rv h
    exact ⟨v, by rw [List.getElem?_append_left (by rw [s.len]; exact hi)]; exact h1, h2⟩
  · rw [List.getElem?_append_right (by omega), nones_eq] at h
    rw [List.getElem?_replicate] at h
    split at h <;> cases h
/-- the callee's own cells go -/
theorem cut_rel (e : Ext g g') (s : SRel K σ sl g') (h0 : g.as.length = g.cs.length) :
    Ext g ⟨g'.Z, g.as, g'.cs.take g.cs.length, g'.H⟩ ∧ SRel K [] [] ⟨g'.Z, g.as, g'.cs.take g.cs.length, g'.H⟩ := by
  obtain ⟨new, e1, e2⟩ := e.pre
  have get : ∀ (k : Nat) (a : Addr), g.as[k]? = some a → g'.as[k]? = some a := fun k a h => as_get e h
  have getc : ∀ (k : Nat) (x : Stt × D), (g'.cs.take g.cs.length)[k]? = some x → g'.cs[k]? = some x := fun k x h => by
    rw [List.getElem?_take] at h
    split at h
    · exact h
    · cases h
  refine ⟨⟨e.zsub, e.zold, ⟨[], by simp, by simp⟩, e.dom, e.frame, fun b ⟨k, d, l1, l2⟩ => e.live b ⟨k, d, get k b l1, getc k _ l2⟩⟩, ⟨rfl, fun i rv h => by simp at h, ?_, ?_, fun k a st d h1 h2 => ?_, s.zdom⟩⟩
  · show g.as.length = (g'.cs.take g.cs.length).length
    have : g'.as.length = g.as.length + new.length := by rw [e1, List.length_append]
    have := s.clen
    rw [List.length_take]; omega
  · have := s.nd; rw [e1] at this
    exact (List.nodup_append.mp this).1
  · exact s.cell k a st d (get k a h1) (getc k _ h2)
theorem fin_ok {Q : VK} {r : Option (Out × Cells)} (e : Ext g g') (s : SRel K σ sl g') (h0 : g.as.length = g.cs.length) (hr : RvRel K g.H g' v rv) (h : PostC K g (fin rv g'.cs g.cs.length) Q) : Q v g'.H := by
  obtain ⟨E1, S1⟩ := cut_rel e s h0
  cases rv with
  | imm d => exact h ⟨g'.Z, g.as, g'.cs.take g.cs.length, g'.H⟩ v rfl rfl E1 S1 hr
  | fr d =>
    refine h ⟨g'.Z, g.as, g'.cs.take g.cs.length, g'.H⟩ v rfl rfl E1 S1 ?_
    obtain ⟨a, h1, h2, h3, h4, h5⟩ := hr
    refine ⟨a, h1, h2, h3, fun z => h4 ?_, h5⟩
    obtain ⟨new, e1, e2⟩ := e.pre
    rw [e1]
    exact List.mem_append_left _ z
  | cel k =>
    obtain ⟨a, hk, rfl⟩ := hr
    unfold fin at h
    dsimp only at h
    rw [nth_eq] at h
    cases q : g'.cs[k]? with
    | none => rw [q] at h; exact h.elim
    | some z =>
      obtain ⟨st, d⟩ := z
      rw [q] at h
      obtain ⟨c, c1, c2⟩ := s.cell k a st d hk q
      cases st with
      | lock => exact h.elim
      | dead => exact h ⟨g'.Z, g.as, g'.cs.take g.cs.length, g'.H⟩ _ rfl rfl E1 S1 (c.dn (c1 rfl))
      | live =>
        dsimp only at h
        obtain ⟨new, e1, e2⟩ := e.pre
        split at h
        · rename_i hm
          have la : Live g' a := ⟨k, d, hk, q⟩
          have hgk : g.as[k]? = some a := by
            rw [e1, List.getElem?_append_left (by rw [h0]; exact hm)] at hk; exact hk
          obtain ⟨o, ho, _⟩ := c.there
          have E2 : Ext g ⟨fun b => g'.Z b ∨ b = a, g'.as, setN g'.cs k (.dead, d), g'.H⟩ := by
            refine ⟨fun b z => .inl (e.zsub b z), fun b z => ?_, e.pre, e.dom, e.frame, fun b ⟨j, d', l1, l2⟩ => ?_⟩
            · rcases z with z | z
              · exact e.zold b z
              · rw [z]; exact .inr (e.live a la)
            · have l2 : (setN g'.cs k (Stt.dead, d))[j]? = some (Stt.live, d') := l2
              rw [setN_eq] at l2
              rcases set_get l2 with ⟨_, z⟩ | ⟨_, z⟩
              · cases z
              · exact e.live b ⟨j, d', l1, z⟩
          have S2 : SRel K σ sl ⟨fun b => g'.Z b ∨ b = a, g'.as, setN g'.cs k (.dead, d), g'.H⟩ := by
            refine zadd_srel s (by rw [setN_eq, List.length_set]) (fun j b st d' l1 l2 => ?_) ⟨o, ho⟩
            rw [setN_eq] at l2
            rcases set_get l2 with ⟨z1, z2⟩ | ⟨z1, z2⟩
            · cases z2
              subst z1
              rw [hk] at l1; cases l1
              exact ⟨.live, q, .inl ⟨rfl, rfl⟩⟩
            · exact ⟨st, z2, .inr ⟨fun z => z1 (nd_ix s.nd (z ▸ l1) hk), rfl⟩⟩
          obtain ⟨E3, S3⟩ := cut_rel E2 S2 h0
          refine h ⟨fun b => g'.Z b ∨ b = a, g.as, (setN g'.cs k (.dead, d)).take g.cs.length, g'.H⟩ _ rfl rfl E3 S3 ?_
          exact (S3.cell k a .dead d hgk (by
            show ((setN g'.cs k (Stt.dead, d)).take g.cs.length)[k]? = _
            rw [List.getElem?_take, if_pos hm, setN_eq, List.getElem?_set_self (List.getElem?_eq_some_iff.mp q).1])).1.dn (Or.inr rfl)
        · rename_i hm
          have hn : a ∈ new := by
            rw [e1, List.getElem?_append_right (by omega)] at hk
            exact List.mem_of_getElem? hk
          refine h ⟨g'.Z, g.as, g'.cs.take g.cs.length, g'.H⟩ _ rfl rfl E1 S1 ⟨a, rfl, c, c2 (by intro z; cases z), fun z => ?_, e2 a hn⟩
          have := s.nd
          rw [e1] at this
          exact (List.nodup_append.mp this).2.2 a z a hn rfl
end
section
variable {P : Program} {w : World} {K : PySem.W.Frag} {mg : Str → Option Value} {base : Heap}
def modesOf (fs : List Fn) : Nat → List Bool := fun g => match nth fs g with | some fn => fn.modes | none => []
/-- a def's body keeps the evaluator's promise -/
theorem fn_ok {fs : List Fn} {n i k : Nat} {fn : Fn} {x qual : Str} {st : Stmt} {f : Addr} {fd : FuncData} {N ps : List Str} (F : Fun K x qual st f fd) (S : FnScope N ps (defScope st)) (hf : nth fs i = some fn) (hm : fn.modes.length = ps.length) (hN : N.length = fn.ns)
    (hbody : ∀ (cdv : Value) (A : Around) (outer : List Env) (s : Shared) (H : Hp) (E : XK), Room k (A.deeper (envOfC qual (defScope st) s.heap.objs.size f cdv)) →
      PSs (cxOf CX0 P w K mg base N qual (defScope st) f cdv A outer s H E).nox (defBody st) (TSv K WF (run fs n) (modesOf fs) fn.body)) :
    FnOk P w K mg base CX0 (k + 1) f fd ps (spF K (run fs (n + 1)) i) := by
  have hrun : ∀ args, run fs (n + 1) i args = runF (run fs n) (modesOf fs) fn args := fun args => by
    show (match nth fs i with | some fn => runF (run fs n) (modesOf fs) fn args | none => none) = _
    rw [hf]
  have hlen : ∀ args : List AV, ¬ args.length = fn.modes.length → runF (run fs n) (modesOf fs) fn args = none := fun args h => by
    unfold runF; rw [if_neg h]
  refine Fun.ok F S (fun vs H Q E ⟨g, args, h1, h2, h3, h4⟩ => ?_) fun cdv A outer s H vs Q E hr hsp => ?_
  · rw [hrun] at h4
    by_cases hl : args.length = fn.modes.length
    · have := h3.len
      rw [List.length_map, mkArgs_slots] at this
      rw [this, hl, hm]
    · rw [hlen args hl] at h4; exact h4.elim
  · refine ⟨_, hbody cdv A outer s H E hr, ?_⟩
    obtain ⟨g, args, rfl, h2, h3, h4⟩ := hsp
    rw [hrun] at h4
    by_cases hl : args.length = fn.modes.length
    · have hv : vs.length = args.length := by
        have := h3.len
        rwa [List.length_map, mkArgs_slots] at this
      refine ⟨(mkArgs args 0).1 ++ nones (fn.ns - args.length), g, rfl, ?_, ?_⟩
      · unfold L2.start
        rw [hN, hv]
        exact h3.starts _
      · unfold runF at h4
        rw [if_pos hl] at h4
        dsimp only at h4
        rw [h2]
        have h0 : g.as.length = g.cs.length := h3.clen
        cases q : ex (run fs n) (modesOf fs) fn.body ((mkArgs args 0).1 ++ nones (fn.ns - args.length)) (mkArgs args 0).2 with
        | stuck => rw [q] at h4; exact h4
        | err x sl cs => exact fun σ' g' cls d _ _ _ z => z.elim
        | ok fl sl cs =>
          rw [q] at h4
          cases fl with
          | brk => exact h4.elim
          | cont => exact h4.elim
          | next =>
            intro σ' g' c1 c2 c3
            subst c1
            rw [← h2] at h4
            obtain ⟨E1, S1⟩ := cut_rel c2 c3 h0
            exact h4 ⟨g'.Z, g.as, g'.cs.take g.cs.length, g'.H⟩ .non rfl rfl E1 S1 .non
          | ret rv =>
            intro σ' g' v c1 c2 c3 c4
            subst c1
            rw [← h2] at h4
            exact fin_ok (r := none) c2 c3 h0 c4 h4
    · rw [hlen args hl] at h4; exact h4.elim
end
end Mini

namespace Mini
open PySem PySem.Spec PyProof.Rows L2
section
variable {X : Cx} {W : WX} {call : CallT} {modes : Nat → List Bool} {a b c : Expr} {ce : E} {pos : Pos}
theorem stores_len : ∀ {is : List Nat} {rvs : List RV} {sl : Slots} {cs : Cells} {z : Slots × Cells}, stores is rvs sl cs = some z → rvs.length = is.length
  | [], [], _, _, _, _ => rfl
  | [], _ :: _, _, _, _, h => by simp [stores] at h
  | _ :: _, [], _, _, _, h => by simp [stores] at h
  | i :: is, rv :: rvs, sl, cs, z, h => by
    unfold stores at h
    split at h
    · simp [stores_len h]
    · cases h
theorem stores_rel {K : PySem.W.Frag} {g0 : G} : ∀ {is : List Nat} {rvs : List RV} {vs : List V} {σ : L2.St} {sl sl' : Slots} {g : G} {cs' : Cells}, Ext g0 g → SRel K σ sl g → RvsRel K g0.H g vs rvs → stores is rvs sl g.cs = some (sl', cs') →
    ∃ g', g'.cs = cs' ∧ g'.H = g.H ∧ Ext g0 g' ∧ SRel K ((is.zip vs).foldl (fun σ p => σ.set p.1 (some p.2)) σ) sl' g'
  | [], [], _, σ, sl, sl', g, cs', e, s, .nil, h => by
    simp only [stores] at h
    cases h
    exact ⟨g, rfl, rfl, e, s⟩
  | [], _ :: _, _, _, _, _, _, _, _, _, _, h => by simp [stores] at h
  | _ :: _, [], _, _, _, _, _, _, _, _, _, h => by simp [stores] at h
  | i :: is, rv :: rvs, _, σ, sl, sl', g, cs', e, s, .cons (v := v) (vs := vs) ra ap rr, h => by
    unfold stores at h
    cases q : store i rv sl g.cs with
    | none => rw [q] at h; cases h
    | some z =>
      obtain ⟨sl1, cs1⟩ := z
      rw [q] at h
      dsimp only at h
      obtain ⟨g1, h1, h2, h3, h4, h5, _, h7⟩ := store_rel e s ra q
      subst h1
      obtain ⟨g2, k1, k2, k3, k4⟩ := stores_rel h4 h5 (rr.map fun v' rv' m q' => h7 v' rv' q' (ap v' rv' m)) h
      exact ⟨g2, k1, k2.trans h2, k3, k4⟩
theorem par_read {is : List Nat} {D : Ends} {σ : L2.St} {H : Hp} (h : TSV X W call modes (.par is ce) D σ H) :
    TAv X.K W call modes ce σ H fun vs H1 => vs.length = is.length ∧ D.nx ((is.zip vs).foldl (fun σ p => σ.set p.1 (some p.2)) σ) H1 := by
  obtain ⟨sl, g, rfl, s, h⟩ := h
  simp only [ex] at h
  refine ⟨sl, g, rfl, s, h.st.mono fun rvs g1 _ e1 s1 p vs r => ?_⟩
  cases q : stores is rvs sl g1.cs with
  | none => rw [q] at p; exact p.elim
  | some z =>
    obtain ⟨sl', cs'⟩ := z
    rw [q] at p
    obtain ⟨g', h1, h2, h3, h4⟩ := stores_rel e1 s1 r q
    refine ⟨by rw [r.length]; exact stores_len q, ?_⟩
    rw [← h2]
    exact p _ g' h1 h3 h4
theorem s_par2 {i j : Nat} {x y : Str} {px py pt : Pos} {kt k2 pt2} (hc : X.calm = true) (hN : X.N.Nodup) (hi : X.N[i]? = some x) (hj : X.N[j]? = some y) (hij : i ≠ j)
    (hx : X.env.scope.names.lookup x = some .local) (hy : X.env.scope.names.lookup y = some .local) (ha : PA X [a, b] (TAV X W call modes ce))
    (hw : swappedStores [.Tuple [.Name x px, .Name y py] kt pt] (.Tuple [a, b] k2 pt2) X.env = pure (some [x, y]))
    (hs : swapsWithSole [.Tuple [.Name x px, .Name y py] kt pt] (.Tuple [a, b] k2 pt2) pos.line X.env = pure false) :
    PS X (.Assign [.Tuple [.Name x px, .Name y py] kt pt] (.Tuple [a, b] k2 pt2) pos) (TSV X W call modes (.par [i, j] ce)) := by
  refine PS.imp (ps_par hc hN hi hj hij hx hy ha hw hs) fun D σ H h => ?_
  obtain ⟨sl, g, h1, s, h2⟩ := par_read h
  refine ⟨sl, g, h1, s, h2.mono fun rvs g1 _ _ _ h vs r => ?_⟩
  obtain ⟨hl, h⟩ := h vs r
  match vs, hl with
  | [v, w], _ => exact ⟨v, w, rfl, h⟩
theorem s_par3 {i j l : Nat} {x y z : Str} {px py pz pt : Pos} {kt k2 pt2} (hc : X.calm = true) (hN : X.N.Nodup) (hi : X.N[i]? = some x) (hj : X.N[j]? = some y) (hk : X.N[l]? = some z) (hij : i ≠ j) (hil : i ≠ l) (hjl : j ≠ l)
    (hx : X.env.scope.names.lookup x = some .local) (hy : X.env.scope.names.lookup y = some .local) (hz : X.env.scope.names.lookup z = some .local) (ha : PA X [a, b, c] (TAV X W call modes ce))
    (hw : swappedStores [.Tuple [.Name x px, .Name y py, .Name z pz] kt pt] (.Tuple [a, b, c] k2 pt2) X.env = pure (some [x, y, z]))
    (hs : swapsWithSole [.Tuple [.Name x px, .Name y py, .Name z pz] kt pt] (.Tuple [a, b, c] k2 pt2) pos.line X.env = pure false) :
    PS X (.Assign [.Tuple [.Name x px, .Name y py, .Name z pz] kt pt] (.Tuple [a, b, c] k2 pt2) pos) (TSV X W call modes (.par [i, j, l] ce)) := by
  refine PS.imp (ps_par3 hc hN hi hj hk hij hil hjl hx hy hz ha hw hs) fun D σ H h => ?_
  obtain ⟨sl, g, h1, s, h2⟩ := par_read h
  refine ⟨sl, g, h1, s, h2.mono fun rvs g1 _ _ _ h vs r => ?_⟩
  obtain ⟨hl, h⟩ := h vs r
  match vs, hl with
  | [u, v, w], _ => exact ⟨u, v, w, rfl, h⟩
end
end Mini

namespace Mini
open PySem PySem.Spec PyProof.Rows L2
/-! ### words for printed terms -/
/-- the built-ins that no def of the text hides -/
structure NoB (mg : Str → Option Value) : Prop where
  len : mg "len" = none
  abs : mg "abs" = none
  int : mg "int" = none
  bool : mg "bool" = none
  str : mg "str" = none
  min : mg "min" = none
  max : mg "max" = none
  tuple : mg "tuple" = none
  list : mg "list" = none
  sorted : mg "sorted" = none
  all : mg "all" = none
  isin : mg "isinstance" = none
  range : mg "range" = none
  enum : mg "enumerate" = none
  zip : mg "zip" = none
theorem bo_len : bootBuiltins "len" = some (.builtin "len") := by decide +kernel
theorem bo_abs : bootBuiltins "abs" = some (.builtin "abs") := by decide +kernel
theorem bo_int : bootBuiltins "int" = some (.type "int") := by decide +kernel
theorem bo_bool : bootBuiltins "bool" = some (.type "bool") := by decide +kernel
theorem bo_str : bootBuiltins "str" = some (.type "str") := by decide +kernel
theorem bo_min : bootBuiltins "min" = some (.builtin "min") := by decide +kernel
theorem bo_max : bootBuiltins "max" = some (.builtin "max") := by decide +kernel
theorem bo_tuple : bootBuiltins "tuple" = some (.type "tuple") := by decide +kernel
theorem bo_list : bootBuiltins "list" = some (.type "list") := by decide +kernel
theorem bo_sorted : bootBuiltins "sorted" = some (.builtin "sorted") := by decide +kernel
theorem bo_all : bootBuiltins "all" = some (.builtin "all") := by decide +kernel
section
variable {X : Cx} {W : WX} {call : CallT} {modes : Nat → List Bool} {e e1 e2 e3 : Expr} {es : List Expr} {c c1 c2 c3 : E} {pos p : Pos}
theorem w_int {i : Int} {j : Nat} : PE X (.Constant (.int i) j pos) (TV X W call modes (.cst (.int i))) := r_const pe_int fun _ _ => .int i
theorem w_bl {b : Bool} {j : Nat} : PE X (.Constant (.bool b) j pos) (TV X W call modes (.cst (.bl b))) := r_const pe_bl fun _ _ => .bl b
theorem w_non {j : Nat} : PE X (.Constant .none j pos) (TV X W call modes (.cst .non)) := r_const pe_non fun _ _ => .non
theorem w_str {x : Str} {j : Nat} {l : List Nat} (h : x.cps.toList = l) : PE X (.Constant (.str x) j pos) (TV X W call modes (.cst (.str l))) := r_const pe_str fun _ _ => h ▸ .str x
theorem w_len (hu : X.calm = true) (B : NoB X.mg) (ha : PA X [e] (TAV X W call modes c)) (hg : Gl X "len" := by rfl) (he : starEach [e] X.env = (false, eval e X.env) :: starEach [] X.env := by rfl) :
    PE X (.Call (.Name "len" p) [e] [] pos) (TV X W call modes (.bi .len c)) := r_biB call_len bi_len hg B.len bo_len ha (by decide) (by decide) he rfl
theorem w_abs (hu : X.calm = true) (B : NoB X.mg) (ha : PA X [e] (TAV X W call modes c)) (hg : Gl X "abs" := by rfl) (he : starEach [e] X.env = (false, eval e X.env) :: starEach [] X.env := by rfl) :
    PE X (.Call (.Name "abs" p) [e] [] pos) (TV X W call modes (.bi .abs c)) := r_biB call_abs bi_abs hg B.abs bo_abs ha (by decide) (by decide) he rfl
theorem w_intf (hu : X.calm = true) (B : NoB X.mg) (ha : PA X [e] (TAV X W call modes c)) (hg : Gl X "int" := by rfl) (he : starEach [e] X.env = (false, eval e X.env) :: starEach [] X.env := by rfl) :
    PE X (.Call (.Name "int" p) [e] [] pos) (TV X W call modes (.bi .int c)) := r_biT call_int1 bi_int hg B.int bo_int ha (by decide) (by decide) he rfl
theorem w_min (hu : X.calm = true) (B : NoB X.mg) (ha : PA X [e1, e2] (TAV X W call modes c)) (hg : Gl X "min" := by rfl) (he : starEach [e1, e2] X.env = (false, eval e1 X.env) :: starEach [e2] X.env := by rfl) (he2 : starEach [e2] X.env = (false, eval e2 X.env) :: starEach [] X.env := by rfl) :
    PE X (.Call (.Name "min" p) [e1, e2] [] pos) (TV X W call modes (.bi .min2 c)) := r_biB (call_min2 hu) bi_min2 hg B.min bo_min ha (by decide) (by decide) he (by rw [he2]; rfl)
theorem w_max (hu : X.calm = true) (B : NoB X.mg) (ha : PA X [e1, e2] (TAV X W call modes c)) (hg : Gl X "max" := by rfl) (he : starEach [e1, e2] X.env = (false, eval e1 X.env) :: starEach [e2] X.env := by rfl) (he2 : starEach [e2] X.env = (false, eval e2 X.env) :: starEach [] X.env := by rfl) :
    PE X (.Call (.Name "max" p) [e1, e2] [] pos) (TV X W call modes (.bi .max2 c)) := r_biB (call_max2 hu) bi_max2 hg B.max bo_max ha (by decide) (by decide) he (by rw [he2]; rfl)
theorem w_tuple (hu : X.calm = true) (B : NoB X.mg) (ha : PA X [e] (TAV X W call modes c)) (hg : Gl X "tuple" := by rfl) (he : starEach [e] X.env = (false, eval e X.env) :: starEach [] X.env := by rfl) :
    PE X (.Call (.Name "tuple" p) [e] [] pos) (TV X W call modes (.bi .tuple c)) := r_biT (call_tupF hu) bi_tuple hg B.tuple bo_tuple ha (by decide) (by decide) he rfl
theorem w_list (hu : X.calm = true) (B : NoB X.mg) (ha : PA X [e] (TAV X W call modes c)) (hg : Gl X "list" := by rfl) (he : starEach [e] X.env = (false, eval e X.env) :: starEach [] X.env := by rfl) :
    PE X (.Call (.Name "list" p) [e] [] pos) (TV X W call modes (.bi .list c)) := r_biT call_list_of bi_list hg B.list bo_list ha (by decide) (by decide) he rfl
theorem w_sorted (hu : X.A.units + 200 < cLine) (B : NoB X.mg) (ha : PA X [e] (TAV X W call modes c)) (hg : Gl X "sorted" := by rfl) (he : starEach [e] X.env = (false, eval e X.env) :: starEach [] X.env := by rfl) :
    PE X (.Call (.Name "sorted" p) [e] [] pos) (TV X W call modes (.bi .sorted c)) := r_biB (cr_sortedX hu) bi_sorted hg B.sorted bo_sorted ha (by decide) (by decide) he rfl
theorem w_all (hu : X.calm = true) (B : NoB X.mg) (ha : PA X [e] (TAV X W call modes c)) (hg : Gl X "all" := by rfl) (he : starEach [e] X.env = (false, eval e X.env) :: starEach [] X.env := by rfl) :
    PE X (.Call (.Name "all" p) [e] [] pos) (TV X W call modes (.bi .all c)) := r_biB (cr_all hu) bi_all hg B.all bo_all ha (by decide) (by decide) he rfl
theorem w_rng1 {tg : Expr} (B : NoB X.mg) (he : PE X e (TV X W call modes c)) (hg : Gl X "range" := by rfl) (hs : starEach [e] X.env = [(false, eval e X.env)] := by rfl) : PI X tg (.Call (.Name "range" p) [e] [] pos) (TIv X.K W call modes (.rng1 c)) := i_rng1 hg B.range he hs
theorem w_rng2 {tg : Expr} (B : NoB X.mg) (he : PE X e1 (TV X W call modes c1)) (he2 : PE X e2 (TV X W call modes c2)) (hg : Gl X "range" := by rfl) (hs : starEach [e1, e2] X.env = [(false, eval e1 X.env), (false, eval e2 X.env)] := by rfl)
    (hs2 : starEach [e2] X.env = [(false, eval e2 X.env)] := by rfl) : PI X tg (.Call (.Name "range" p) [e1, e2] [] pos) (TIv X.K W call modes (.rng2 c1 c2)) := i_rng2 hg B.range he he2 hs hs2
theorem w_enum {elts : List Expr} {kk : Nat} {tpos : Pos} (B : NoB X.mg) (he : PE X e (TV X W call modes c)) (hg : Gl X "enumerate" := by rfl) (hs : starEach [e] X.env = [(false, eval e X.env)] := by rfl) :
    PI X (.Tuple elts kk tpos) (.Call (.Name "enumerate" p) [e] [] pos) (TIv X.K W call modes (.enm c)) := i_enum hg B.enum he hs
theorem w_zip {elts : List Expr} {kk : Nat} {tpos : Pos} (B : NoB X.mg) (he : PE X e1 (TV X W call modes c1)) (he2 : PE X e2 (TV X W call modes c2)) (hg : Gl X "zip" := by rfl)
    (hs : starEach [e1, e2] X.env = (false, eval e1 X.env) :: starEach [e2] X.env := by rfl) (hs2 : starEach [e2] X.env = (false, eval e2 X.env) :: starEach [] X.env := by rfl) :
    PI X (.Tuple elts kk tpos) (.Call (.Name "zip" p) [e1, e2] [] pos) (TIv X.K W call modes (.zip c1 c2)) := i_zip hg B.zip he he2 hs hs2
theorem t_isN (ha : PE X e1 (TV X W call modes c1)) {j : Nat} {p2 : Pos} : PT X (.Compare e1 [.Is] [.Constant .none j p2] pos) (TTV X W call modes (.isN c1)) := by
  refine PT.imp (pt_cmpR op_isN ha pe_non (nomark _)) fun σ H Q h => ?_
  obtain ⟨sl, g, rfl, s, h⟩ := h
  simp only [ev] at h
  unfold tTest tOp tC
  refine TEv.one (Ext.refl g) s h fun x v g2 ex s2 r1 p => ?_
  refine ⟨rfl, ?_⟩
  cases q1 : dr x g2.cs with
  | none => rw [q1] at p; exact p.elim
  | some d =>
    rw [q1] at p
    have r := s2.read r1 q1
    by_cases hd : d = .non
    · subst hd
      obtain ⟨k', h1, h2⟩ := Post.now p ex s2
      cases h1
      cases r.non
      exact ⟨true, rfl, h2⟩
    · have p : Post X.K W σ sl g (.ok (.imm (.bl false)) g2.cs) (FinT Q) := by cases d <;> first | exact absurd rfl hd | exact p
      obtain ⟨k', h1, h2⟩ := Post.now p ex s2
      cases h1
      refine ⟨false, ?_, h2⟩
      have : v ≠ .non := fun z => by
        subst z
        rcases r with r | ⟨a, z, _⟩
        · cases r; exact hd rfl
        · cases z
      cases v <;> first | exact absurd rfl this | rfl
theorem t_notN (ha : PE X e1 (TV X W call modes c1)) {j : Nat} {p2 : Pos} : PT X (.Compare e1 [.IsNot] [.Constant .none j p2] pos) (TTV X W call modes (.notN c1)) := by
  refine PT.imp (pt_cmpR op_notN ha pe_non (nomark _)) fun σ H Q h => ?_
  obtain ⟨sl, g, rfl, s, h⟩ := h
  simp only [ev] at h
  unfold tTest tOp tC
  refine TEv.one (Ext.refl g) s h fun x v g2 ex s2 r1 p => ?_
  refine ⟨rfl, ?_⟩
  cases q1 : dr x g2.cs with
  | none => rw [q1] at p; exact p.elim
  | some d =>
    rw [q1] at p
    have r := s2.read r1 q1
    by_cases hd : d = .non
    · subst hd
      obtain ⟨k', h1, h2⟩ := Post.now p ex s2
      cases h1
      cases r.non
      exact ⟨false, rfl, h2⟩
    · have p : Post X.K W σ sl g (.ok (.imm (.bl true)) g2.cs) (FinT Q) := by cases d <;> first | exact absurd rfl hd | exact p
      obtain ⟨k', h1, h2⟩ := Post.now p ex s2
      cases h1
      refine ⟨true, ?_, h2⟩
      have : v ≠ .non := fun z => by
        subst z
        rcases r with r | ⟨a, z, _⟩
        · cases r; exact hd rfl
        · cases z
      cases v <;> first | exact absurd rfl this | rfl
end
end Mini

namespace Mini
open PySem PySem.Spec PyProof.Rows L2
def tl : T → Nat
  | .cons _ r => tl r + 1
  | _ => 0
theorem bindTs_len : ∀ (t : T) (ds : List D) (sl sl' : Slots), bindTs t ds sl = some sl' → ds.length = tl t := by
  intro t
  induction t with
  | cons a r _ ih =>
    intro ds sl sl' h
    cases ds with
    | nil => simp [bindTs] at h
    | cons d ds =>
      simp only [bindTs] at h
      split at h
      · simp [tl, ih ds _ _ h]
      · cases h
  | nil =>
    intro ds sl sl' h
    cases ds with
    | nil => rfl
    | cons d ds => simp [bindTs] at h
  | _ => intro ds sl sl' h; simp [bindTs] at h
section
variable {X : Cx} {W : WX} {call : CallT} {modes : Nat → List Bool} {e : Expr} {c : E} {pos : Pos} {tgs : List Expr} {t : T}
theorem w_tup {k : Nat} (hc : X.calm = true) (h : PGs X tgs (TGsv X.K t)) (hn : (assignEach tgs X.env).length = tl t) (hst : (assignEach tgs X.env).findIdx? (·.1) = none) : PG X (.Tuple tgs k pos) (TGv X.K (.tu t)) :=
  g_tup hc h hn hst fun ds sl sl' => bindTs_len t ds sl sl'
theorem c_none : PTs X [] (TTc X.K call modes .nop) := pts_nil
theorem c_one (hn : isNop c = false) (h : PT X e (TTv X.K WF call modes c)) : PTs X [e] (TTc X.K call modes c) := by
  unfold TTc
  rw [hn]
  exact pts_one h
theorem ntp {it : E} (h : tupIt it = false) : tupIt it = true → ∃ ts, t = .tu ts := fun z => by rw [h] at z; cases z
theorem u65 {k : Nat} {A : Around} (r : Room k A) : A.units + 65 < cLine := by have := r.un; omega
theorem u200 {k : Nat} {A : Around} (r : Room k A) : A.units + 200 < cLine := by have := r.un; omega
end
theorem room_of {n : Nat} (h : n ≤ 60) : Room n callerA := by
  have h1 : callerA.depth + 3 * 60 + 5 < recursionLimit := by decide
  have h2 : callerA.units + 16 * 60 + 200 < cLine := by decide
  exact ⟨rfl, by omega, by omega⟩
theorem dfl0 {K : PySem.W.Frag} {dV : Value} (h : DflV K dV []) : dV = .none := by
  rcases h with ⟨_, h⟩ | ⟨h, _⟩
  · exact h
  · exact absurd rfl h
section
variable {P : Program} {w : World} {K : PySem.W.Frag} {mg : Str → Option Value} {base : Heap}
abbrev FnP (K : PySem.W.Frag) (x : Str) (st : Stmt) (f : Addr) (fd : FuncData) : Prop := FunD K x x (defArgs st) (defBody st) (defScope st) [] [] f fd
theorem fn_okD {fs : List Fn} {n i : Nat} {fn : Fn} {x : Str} {st : Stmt} {f : Addr} {fd : FuncData} {N ps : List Str} (F : FnP K x st f fd) (S : FnScope N ps (defScope st)) (hf : nth fs i = some fn) (hm : fn.modes.length = ps.length) (hN : N.length = fn.ns)
    (hbody : ∀ (cdv : Value) (A : Around) (outer : List Env) (s : Shared) (H : Hp) (E : XK), Room n (A.deeper (envOfC x (defScope st) s.heap.objs.size f cdv)) →
      PSs (cxOf CX0 P w K mg base N x (defScope st) f cdv A outer s H E).nox (defBody st) (TSv K WF (run fs n) (modesOf fs) fn.body)) :
    FnOk P w K mg base CX0 (n + 1) f fd ps (spF K (run fs (n + 1)) i) := by
  have hrun : ∀ args, run fs (n + 1) i args = runF (run fs n) (modesOf fs) fn args := fun args => by
    show (match nth fs i with | some fn => runF (run fs n) (modesOf fs) fn args | none => none) = _
    rw [hf]
  have hlen : ∀ args : List AV, ¬ args.length = fn.modes.length → runF (run fs n) (modesOf fs) fn args = none := fun args h => by
    unfold runF; rw [if_neg h]
  refine FunD.ok F S (fun vs H Q E ⟨g, args, h1, h2, h3, h4⟩ => ?_) fun cdv A outer s H vs Q E hr hsp => ?_
  · rw [hrun] at h4
    by_cases hl : args.length = fn.modes.length
    · have := h3.len
      rw [List.length_map, mkArgs_slots] at this
      rw [this, hl, hm]
    · rw [hlen args hl] at h4; exact h4.elim
  · refine ⟨_, PSs.nox (hbody cdv A outer s H E hr), ?_⟩
    obtain ⟨g, args, rfl, h2, h3, h4⟩ := hsp
    rw [hrun] at h4
    by_cases hl : args.length = fn.modes.length
    · have hv : vs.length = args.length := by
        have := h3.len
        rwa [List.length_map, mkArgs_slots] at this
      refine ⟨(mkArgs args 0).1 ++ nones (fn.ns - args.length), g, rfl, ?_, ?_⟩
      · unfold L2.start
        rw [hN, hv]
        exact h3.starts _
      · unfold runF at h4
        rw [if_pos hl] at h4
        dsimp only at h4
        rw [h2]
        have h0 : g.as.length = g.cs.length := h3.clen
        cases q : ex (run fs n) (modesOf fs) fn.body ((mkArgs args 0).1 ++ nones (fn.ns - args.length)) (mkArgs args 0).2 with
        | stuck => rw [q] at h4; exact h4
        | err x sl cs => exact fun σ' g' cls d _ _ _ z => z.elim
        | ok fl sl cs =>
          rw [q] at h4
          cases fl with
          | brk => exact h4.elim
          | cont => exact h4.elim
          | next =>
            intro σ' g' c1 c2 c3
            subst c1
            rw [← h2] at h4
            obtain ⟨E1, S1⟩ := cut_rel c2 c3 h0
            exact h4 ⟨g'.Z, g.as, g'.cs.take g.cs.length, g'.H⟩ .non rfl rfl E1 S1 .non
          | ret rv =>
            intro σ' g' v c1 c2 c3 c4
            subst c1
            rw [← h2] at h4
            exact fin_ok (r := none) c2 c3 h0 c4 h4
    · rw [hlen args hl] at h4; exact h4.elim
/-- at the level 0, and off the text -/
theorem fn_ok0 {fs : List Fn} {i n : Nat} {f : Addr} {fd : FuncData} {ps : List Str} (h : ∀ as, run fs n i as = none) : FnOk P w K mg base CX0 n f fd ps (spF K (run fs n) i) := by
  have no : ∀ vs H Q E, ¬ spF K (run fs n) i vs H Q E := fun vs H Q E ⟨g, args, _, _, _, h4⟩ => by rw [h args] at h4; exact h4
  exact ⟨fun vs H Q E z => (no _ _ _ _ z).elim, fun A outer s H args us vs Q E _ _ _ _ z => (no _ _ _ _ z).elim⟩
theorem dns_ints {Z : Addr → Prop} {H : Hp} : ∀ ns : List Int, Dns K Z H (ns.map V.int) (ns.map D.int)
  | [] => .nil
  | n :: ns => .cons (.int n) (dns_ints ns)
/-- the law's end: the evaluator says True at every script -/
theorem law_end {fs : List Fn} {n L : Nat} {a : Addr} {ns : List Int} {H : Hp} {E : XK} (h : run fs n L [.imm (.lst (ns.map D.int))] = some (.ret false (.bl true), [])) (hS : SqL K H a (ns.map V.int)) :
    spF K (run fs n) L [.ref a] H (fun v _ => v = .bl true) E := by
  have hd : Dn K (fun b => b = a ∧ ∃ o, H a = some o) H (.ref a) (.lst (ns.map D.int)) := by
    rcases hS with hS | hS
    · refine .lst ⟨rfl, ?_⟩ hS (dns_ints ns)
      rcases hS with hS | ⟨o, hS⟩
      · exact ⟨_, hS⟩
      · exact ⟨_, hS⟩
    · exact .lstK hS (dns_ints ns)
  refine ⟨⟨fun b => b = a ∧ ∃ o, H a = some o, [], [], H⟩, [.imm (.lst (ns.map D.int))], rfl, rfl, ?_, ?_⟩
  · refine ⟨rfl, fun i rv hi => ?_, rfl, List.nodup_nil, fun k b st d h1 => by simp at h1, fun b hb => ?_⟩
    · cases i with
      | zero =>
        simp [mkArgs] at hi
        subst hi
        exact ⟨.ref a, rfl, hd⟩
      | succ i => simp [mkArgs] at hi
    · obtain ⟨rfl, h⟩ := hb
      exact h
  · rw [h]
    intro g' v _ _ _ _ r
    cases (show Dn K g'.Z g'.H v (.bl true) from r)
    rfl
end
end Mini

namespace Pl
open Mini
def mo (fs : List Fn) (g : Nat) : List Bool := match nth fs g with
  | some fn => fn.modes
  | none => []
theorem mo_eq {fs : List Fn} {i : Nat} {fn : Fn} (h : nth fs i = some fn) : mo fs i = fn.modes := by unfold mo; rw [h]
theorem run_eq {fs : List Fn} {i n : Nat} {fn : Fn} (h : nth fs i = some fn) (as : List AV) : run fs (n + 1) i as = runF (run fs n) (mo fs) fn as := by
  show (match nth fs i with | some fn => runF (run fs n) (mo fs) fn as | none => none) = _
  rw [h]
def good : Option (Out × Cells) → Bool
  | some (.ret false (.bl true), []) => true
  | _ => false
theorem good_eq {x : Option (Out × Cells)} (h : good x = true) : x = some (.ret false (.bl true), []) := by
  unfold good at h
  split at h
  · rfl
  · cases h
theorem lc_all {bind : D → Slots → Option Slots} {c : Slots → Cells → Res Bool} {e : Slots → Cells → Res RV} {sl : Slots} {cs : Cells} (p : D → Bool) (f : D → D) : ∀ (xs acc : List D),
    (∀ x ∈ xs, ∃ sl1, bind x sl = some sl1 ∧ c sl1 cs = .ok (p x) cs ∧ (p x = true → ∃ rv, e sl1 cs = .ok rv cs ∧ toImm rv cs = some (f x, cs))) → lcLoop bind c e sl xs acc cs = .ok (acc.reverse ++ (xs.filter p).map f) cs
  | [], acc, _ => by simp [lcLoop]
  | x :: xs, acc, h => by
    obtain ⟨sl1, h1, h2, h3⟩ := h x (by simp)
    have ih := fun acc => lc_all p f xs acc fun y hy => h y (by simp [hy])
    unfold lcLoop
    rw [h1]
    dsimp only
    rw [h2]
    cases hp : p x with
    | false =>
      dsimp only
      rw [ih acc]
      simp [hp]
    | true =>
      obtain ⟨rv, h4, h5⟩ := h3 hp
      dsimp only
      rw [h4]
      dsimp only
      rw [h5]
      dsimp only
      rw [ih (f x :: acc)]
      simp [hp]
theorem for_all {bind : D → Slots → Option Slots} {b : Slots → Cells → RS} (I : Nat → Slots → Cells → Prop) : ∀ (xs : List D) (i : Nat) (sl : Slots) (cs : Cells), I i sl cs →
    (∀ (j : Nat) (x : D) (sl : Slots) (cs : Cells), xs[j]? = some x → I (i + j) sl cs → ∃ sl1 sl2 cs2, bind x sl = some sl1 ∧ (b sl1 cs = .ok .next sl2 cs2 ∨ b sl1 cs = .ok .cont sl2 cs2) ∧ I (i + j + 1) sl2 cs2) →
    ∃ sl' cs', forLoop bind b xs sl cs = .ok .next sl' cs' ∧ I (i + xs.length) sl' cs'
  | [], i, sl, cs, h, _ => ⟨sl, cs, rfl, h⟩
  | x :: xs, i, sl, cs, h, hs => by
    obtain ⟨sl1, sl2, cs2, h1, h2, h3⟩ := hs 0 x sl cs rfl h
    obtain ⟨sl', cs', h4, h5⟩ := for_all I xs (i + 1) sl2 cs2 (by simpa using h3) fun j y sl cs hy hI => by
      have := hs (j + 1) y sl cs (by simpa using hy) (by rw [show i + (j + 1) = i + 1 + j by omega]; exact hI)
      rw [show i + (j + 1) + 1 = i + 1 + j + 1 by omega] at this
      exact this
    refine ⟨sl', cs', ?_, by rw [List.length_cons, show i + (xs.length + 1) = i + 1 + xs.length by omega]; exact h5⟩
    unfold forLoop
    rw [h1]
    dsimp only
    rcases h2 with h2 | h2 <;> rw [h2] <;> exact h4
def takeB : S :=
    (.seq (.ite (.cmp .gt (.ix (.var 0) (.cst (.int 0))) (.cst (.int 0))) (.seq (.setv 5 (.bin .mod (.bi .int (.cons (.ix (.var 0) (.cst (.int 0))) .nil)) (.var 1)))
    (.seq (.seti (.var 0) (.cst (.int 0)) (.bin .fdiv (.ix (.var 0) (.cst (.int 0))) (.var 1)))
    (.ret (.var 5)))) .skip)
    (.seq (.seti (.var 0) (.cst (.int 2)) (.bin .add (.ix (.var 0) (.cst (.int 2))) (.cst (.int 1))))
    (.seq (.setv 2 (.bin .mod (.bi .int (.cons (.bin .mul (.bin .add (.ix (.var 0) (.cst (.int 1))) (.bin .mul (.cst (.int 48271)) (.ix (.var 0) (.cst (.int 2))))) (.bin .add (.cst (.int 39373)) (.ix (.var 0) (.cst (.int 2))))) .nil)) (.cst (.int 2147483647))))
    (.seq (.setv 3 (.bin .add (.bin .mod (.bi .int (.cons (.var 2) .nil)) (.cst (.int 40009))) (.cst (.int 7))))
    (.seq (.setv 4 (.bin .mod (.bi .int (.cons (.bin .mul (.bin .add (.bin .add (.var 2) (.ix (.var 0) (.cst (.int 2)))) (.bin .fdiv (.ix (.var 0) (.cst (.int 1))) (.cst (.int 1000003)))) (.var 3)) .nil)) (.cst (.int 2147483629))))
    (.ret (.bin .mod (.bi .int (.cons (.bin .fdiv (.bin .mod (.bi .int (.cons (.bin .add (.bin .mul (.var 4) (.cst (.int 48271))) (.var 2)) .nil)) (.cst (.int 2147483587))) (.cst (.int 64))) .nil)) (.var 1))))))))
def takeF : Fn := ⟨[true, false], 6, takeB⟩
theorem ix0 {x : D} {xs : List D} : getIx (.lst (x :: xs)) (.int 0) = some x := by
  simp [getIx, ixOf, nth]
theorem ix1 {x y : D} {xs : List D} : getIx (.lst (x :: y :: xs)) (.int 1) = some y := by
  have : (1 : Int) < (xs.length : Int) + 1 + 1 := by omega
  simp [getIx, ixOf, nth, this]
theorem ix2 {x y z : D} {xs : List D} : getIx (.lst (x :: y :: z :: xs)) (.int 2) = some z := by
  have : (2 : Int) < (xs.length : Int) + 1 + 1 + 1 := by omega
  simp [getIx, ixOf, nth, this]
/-- the state of the law's draws -/
def Tub (k : Nat) (t : D) : Prop := ∃ a b c : Int, t = .lst [.int a, .int b, .int c] ∧ 0 ≤ a ∧ 0 ≤ b ∧ b < 4611686018427387904 ∧ 0 ≤ c ∧ c ≤ k
theorem Tub.mono {k l : Nat} {t : D} (h : Tub k t) (hl : k ≤ l) : Tub l t := by
  obtain ⟨a, b, c, e, h1, h2, h3, h4, h5⟩ := h
  exact ⟨a, b, c, e, h1, h2, h3, h4, by omega⟩
theorem take_spec {fs : List Fn} {i n k : Nat} (hf : nth fs i = some takeF) {t : D} {m : Int} (ht : Tub k t) (hk : k < 1000000000000) (hm : 0 < m) (hm2 : m < 1073741824) :
    ∃ (r : Int) (t' : D), 0 ≤ r ∧ r < m ∧ Tub (k + 1) t' ∧ run fs (n + 1) i [.ref .live t, .imm (.int m)] = some (.ret false (.int r), [(.live, t')]) := by
  obtain ⟨a, b, c, rfl, ha, hb, hb2, hc, hc2⟩ := ht
  rw [run_eq hf]
  by_cases h0 : 0 < a
  · refine ⟨a % m, .lst [.int (a / m), .int b, .int c], Int.emod_nonneg _ (by omega), Int.emod_lt_of_pos _ hm, ⟨_, _, _, rfl, Int.ediv_nonneg ha (by omega), hb, hb2, hc, by omega⟩, ?_⟩
    simp only [runF, takeF, mkArgs, takeB, List.length, nones, List.append, ↓reduceIte]
    simp [ex, ev, evs, nth, setN, Res.st, Res.bind, dr, drs, ix0, cmpop, h0, truthR, truth, bi, out, binop, hm, hm2, store, toImm, ixOf, fin, List.take]
  · have e1 : bnd64 48271 = true := by decide
    have e2 : bnd64 (39373 + (c + 1)) = true := by simp [bnd64]; omega
    have e4 : ∀ x : Int, bnd64 (x % 2147483647 % 40009 + 7) = true := fun x => by
      have h1 := Int.emod_nonneg (x % 2147483647) (show (40009 : Int) ≠ 0 by decide)
      have h2 := Int.emod_lt_of_pos (x % 2147483647) (show (0 : Int) < 40009 by decide)
      simp [bnd64]; omega
    generalize hc1 : c + 1 = c1 at e2
    generalize ho : (b + 48271 * c1) * (39373 + c1) % 2147483647 = o
    generalize hd : o % 40009 + 7 = d
    refine ⟨((o + c1 + b / 1000003) * d % 2147483629 * 48271 + o) % 2147483587 / 64 % m, .lst [.int a, .int b, .int c1], Int.emod_nonneg _ (show m ≠ 0 by omega), Int.emod_lt_of_pos _ hm, ⟨_, _, _, rfl, ha, hb, hb2, by omega, by omega⟩, ?_⟩
    have e5 : bnd64 d = true := by rw [← hd, ← ho]; exact e4 _
    simp only [runF, takeF, mkArgs, takeB, List.length, nones, List.append, ↓reduceIte]
    simp [ex, ev, evs, nth, setN, Res.st, Res.bind, dr, drs, ix0, ix1, ix2, cmpop, h0, truthR, truth, bi, out, binop, hm, hm2, store, toImm, ixOf, fin, List.take, e1, e2, e4, e5, hc1, ho, hd]
end Pl

namespace Pl
open Mini
theorem nth_get {α : Type} : ∀ (l : List α) (i : Nat), nth l i = l[i]?
  | [], _ => rfl
  | _ :: _, 0 => rfl
  | _ :: l, i + 1 => by show nth l i = _; rw [nth_get l i]; rfl
theorem rngP_len : ∀ (n : Nat) (lo : Int), (rngD lo n).length = n
  | 0, _ => rfl
  | n + 1, lo => by simp [rngD, rngP_len n]
theorem rngP_get : ∀ (n : Nat) (lo : Int) (j : Nat) (x : D), (rngD lo n)[j]? = some x → x = .int (lo + j) ∧ j < n
  | 0, _, _, _, h => by simp [rngD] at h
  | n + 1, lo, 0, x, h => by simp [rngD] at h; subst h; simp
  | n + 1, lo, j + 1, x, h => by
    obtain ⟨h1, h2⟩ := rngP_get n (lo + 1) j x (by simpa [rngD] using h)
    exact ⟨by rw [h1]; congr 1; omega, by omega⟩
theorem ixNat {n j : Nat} (h : j < n) : ixOf n (j : Int) = some j := by
  unfold ixOf
  rw [if_pos (by omega), if_pos (by omega)]
  rfl
theorem in62_nat {j : Nat} (h : j < 4611686018427387904) : in62 (j : Int) = true := by simp [in62]; omega
/-! ### the law's own draw of a few -/
def pickS (i : Nat) : S := (.expr (.app (.var 5) (.popi (.var 4) (.call i [0, 1] (.cons (.var 0) (.cons (.bi .len (.cons (.var 4) .nil)) .nil))))))
def pickL (i : Nat) : S := (.loop (.v 3) (.rng1 (.bi .min2 (.cons (.var 2) (.cons (.bi .len (.cons (.var 4) .nil)) .nil)))) (pickS i))
def pickB (i : Nat) : S :=
    (.seq (.par [4, 5] (.cons (.bi .list (.cons (.var 1) .nil)) (.cons (.lst .nil) .nil)))
    (.seq (pickL i)
    (.ret (.var 5))))
def pickF (i : Nat) : Fn := ⟨[true, false, false], 6, pickB i⟩
def seqD (b : Bool) (xs : List D) : D := if b then .tup xs else .lst xs
theorem erase_perm {α : Type} : ∀ (l : List α) (i : Nat) (x : α), l[i]? = some x → (x :: l.eraseIdx i).Perm l
  | [], _, _, h => by simp at h
  | a :: l, 0, x, h => by simp at h; subst h; exact .refl _
  | a :: l, i + 1, x, h => by
    have := erase_perm l i x (by simpa using h)
    exact (List.Perm.swap a x _).trans (this.cons a)
theorem pick_loop {fs : List Fn} {i n : Nat} (hf : nth fs i = some takeF) {few much : D} : ∀ (cnt : Nat) (lo : Int) (k : Nat) (t : D) (turn : Option RV) (left found : List D), Tub k t → k + cnt < 1000000000000 → cnt ≤ left.length → left.length < 1000000 → found.length + cnt < 1000000 →
    ∃ (turn' : Option RV) (t' : D) (left' more : List D), Tub (k + cnt) t' ∧ more.length = cnt ∧ (more ++ left').Perm left ∧
      forLoop (bindT (.v 3)) (fun sl1 cs2 => ex (run fs (n + 1)) (mo fs) (pickS i) sl1 cs2)
        (rngD lo cnt) [some (.cel 0), some (.imm few), some (.imm much), turn, some (.cel 1), some (.cel 2)] [(.live, t), (.live, .lst left), (.live, .lst found)] =
        .ok .next [some (.cel 0), some (.imm few), some (.imm much), turn', some (.cel 1), some (.cel 2)] [(.live, t'), (.live, .lst left'), (.live, .lst (found ++ more))]
  | 0, lo, k, t, turn, left, found, ht, hk, hl, _, _ => ⟨turn, t, left, [], ht, rfl, by simp, by simp [rngD, forLoop]⟩
  | cnt + 1, lo, k, t, turn, left, found, ht, hk, hl, hlen, hfl => by
    obtain ⟨r, t1, hr0, hr1, ht1, hrun⟩ := take_spec (n := n) hf (m := (left.length : Int)) ht (by omega) (by omega) (by omega)
    obtain ⟨j, rfl⟩ := Int.eq_ofNat_of_zero_le hr0
    have hj : j < left.length := by omega
    obtain ⟨turn', t', left', more, h1, h2, h3, h4⟩ := pick_loop hf cnt (lo + 1) (k + 1) t1 (some (.imm (.int lo))) (left.eraseIdx j) (found ++ [left[j]]) ht1 (by omega) (by rw [List.length_eraseIdx, if_pos hj]; omega) (by rw [List.length_eraseIdx, if_pos hj]; omega) (by simp; omega)
    refine ⟨turn', t', left', left[j] :: more, by rw [show k + (cnt + 1) = k + 1 + cnt by omega]; exact h1, by simp [h2], ?_, ?_⟩
    · exact ((h3.cons left[j])).trans (erase_perm left j _ (List.getElem?_eq_getElem hj))
    · show forLoop _ _ (.int lo :: rngD (lo + 1) cnt) _ _ = _
      unfold forLoop
      have hb : bindT (.v 3) (.int lo) [some (.cel 0), some (.imm few), some (.imm much), turn, some (.cel 1), some (.cel 2)] = some [some (.cel 0), some (.imm few), some (.imm much), some (.imm (.int lo)), some (.cel 1), some (.cel 2)] := by simp [bindT, setN]
      rw [hb]
      have hF : found.length < LINE := by show _ < 16777216; omega
      have hN : nth left j = some left[j] := by rw [nth_get, List.getElem?_eq_getElem hj]
      have hb2 : ex (run fs (n + 1)) (mo fs) (pickS i) [some (.cel 0), some (.imm few), some (.imm much), some (.imm (.int lo)), some (.cel 1), some (.cel 2)] [(.live, t), (.live, .lst left), (.live, .lst found)] =
          .ok .next [some (.cel 0), some (.imm few), some (.imm much), some (.imm (.int lo)), some (.cel 1), some (.cel 2)] [(.live, t1), (.live, .lst (left.eraseIdx j)), (.live, .lst (found ++ [left[j]]))] := by
        simp [pickS, ex, ev, evs, nth, setN, Res.st, Res.bind, dr, drs, bi, out, celLst, permute, doCall, mo_eq hf, takeF, prep, lent, toImm, hrun, back, ixNat hj, in62_nat (show j < 4611686018427387904 by omega), hN, hF]
      dsimp only
      rw [hb2]
      dsimp only
      rw [h4]
      simp
theorem pick_spec {fs : List Fn} {i p n k : Nat} (hf : nth fs i = some takeF) (hp : nth fs p = some (pickF i)) {t : D} {b : Bool} {xs : List D} {m : Int} (ht : Tub k t) (hk : k + xs.length < 1000000000000) (hl : xs.length < 100000) (hm : 0 ≤ m) (hm2 : m < 1073741824) :
    ∃ (t' : D) (ys rest : List D), Tub (k + xs.length) t' ∧ (ys ++ rest).Perm xs ∧ ys.length = min m.toNat xs.length ∧ run fs (n + 2) p [.ref .live t, .imm (seqD b xs), .imm (.int m)] = some (.ret true (.lst ys), [(.live, t')]) := by
  obtain ⟨m, rfl⟩ := Int.eq_ofNat_of_zero_le hm
  obtain ⟨turn', t', left', more, h1, h2, h3, h4⟩ := pick_loop (n := n) hf (few := seqD b xs) (much := .int m) (min m xs.length) 0 k t none xs [] ht (by omega) (by omega) (by omega) (by simp; omega)
  have hmin : (if (xs.length : Int) < m then (xs.length : Int) else m) = ((min m xs.length : Nat) : Int) := by split <;> omega
  have h62 : in62 ((min m xs.length : Nat) : Int) = true := in62_nat (by omega)
  have hL : ex (run fs (n + 1)) (mo fs) (pickL i) [some (.cel 0), some (.imm (seqD b xs)), some (.imm (.int m)), none, some (.cel 1), some (.cel 2)] [(.live, t), (.live, .lst xs), (.live, .lst [])] =
      .ok .next [some (.cel 0), some (.imm (seqD b xs)), some (.imm (.int m)), turn', some (.cel 1), some (.cel 2)] [(.live, t'), (.live, .lst left'), (.live, .lst more)] := by
    unfold pickL
    rw [ex]
    have : evIt (run fs (n + 1)) (mo fs) (.rng1 (.bi .min2 (.cons (.var 2) (.cons (.bi .len (.cons (.var 4) .nil)) .nil)))) [some (.cel 0), some (.imm (seqD b xs)), some (.imm (.int m)), none, some (.cel 1), some (.cel 2)] [(.live, t), (.live, .lst xs), (.live, .lst [])] =
        .ok (.imm .non, rngD 0 (min m xs.length)) [(.live, t), (.live, .lst xs), (.live, .lst [])] := by
      simp only [ev, evs, evIt, nth, Res.bind, dr, drs, bi, out, Option.map, hmin, h62, if_true, Int.toNat_natCast]
    rw [this]
    simp only [Res.st, lockC, unlockC, h4, RS.unlock, List.nil_append]
  refine ⟨t', more, left', h1.mono (by omega), h3, by simp [h2], ?_⟩
  rw [run_eq hp]
  simp only [runF, pickF, mkArgs, pickB, List.length, nones, List.append, ↓reduceIte]
  have hfew : bi .list [seqD b xs] = some (true, .lst xs) := by cases b <;> rfl
  simp [ex, ev, evs, nth, setN, Res.st, Res.bind, dr, drs, hfew, out, stores, store, toImms, hL, fin]
end Pl

namespace Pl
open Mini
/-! ### the law's box, cells -/
def boxB : S :=
    (.seq (.setv 2 (.ite (.cmp .lt (.var 1) (.bi .len (.cons (.var 0) .nil))) (.ix (.var 0) (.var 1)) (.cst (.int 0))))
    (.ret (.lst (.cons (.bin .mul (.bi .abs (.cons (.var 2) .nil)) (.bi .int (.cons (.cmp .ge (.bi .abs (.cons (.var 2) .nil)) (.bin .pow (.cst (.int 10)) (.cst (.int 18)))) .nil))) (.cons (.bin .add (.bin .add (.bin .mod (.bi .int (.cons (.var 2) .nil)) (.cst (.int 2305843009213693951))) (.bin .mul (.cst (.int 39373)) (.var 1))) (.cst (.int 1050316))) (.cons (.cst (.int 0)) .nil))))))
def boxF : Fn := ⟨[false, false], 3, boxB⟩
theorem box_spec {fs : List Fn} {i n : Nat} (hf : nth fs i = some boxF) {cs : List Int} {k : Nat} (hk : k < cs.length) (hk2 : k < 1000) :
    ∃ t, Tub 0 t ∧ run fs (n + 1) i [.imm (.lst (cs.map D.int)), .imm (.int k)] = some (.ret true t, []) := by
  rw [run_eq hf]
  have h1 : getIx (.lst (cs.map D.int)) (.int k) = some (.int cs[k]) := by
    simp [getIx, ixNat hk, nth_get, hk]
  generalize cs[k] = x at h1
  have hlt : decide ((k : Int) < ((cs.map D.int).length : Int)) = true := by simp [hk]
  generalize ha : (if x < 0 then -x else x) = a
  have ha0 : 0 ≤ a := by rw [← ha]; split <;> omega
  have hb : bnd64 (if decide (10 ^ 18 ≤ a) then 1 else 0) = true := by split <;> decide
  have h5 := Int.emod_nonneg x (show (2305843009213693951 : Int) ≠ 0 by decide)
  have h6 := Int.emod_lt_of_pos x (show (0 : Int) < 2305843009213693951 by decide)
  refine ⟨.lst [.int (a * (if decide (10 ^ 18 ≤ a) then 1 else 0)), .int (x % 2305843009213693951 + 39373 * k + 1050316), .int 0], ⟨_, _, _, rfl, ?_, by omega, by omega, by omega, by omega⟩, ?_⟩
  · split <;> simp [ha0]
  · simp only [runF, boxF, mkArgs, boxB, List.length, nones, List.append, ↓reduceIte]
    have e1 : bnd64 39373 = true := by decide
    have hlt' : k < cs.length := hk
    have b1 : bnd64 1 = true := by decide
    have b0 : bnd64 0 = true := by decide
    by_cases hh : 1000000000000000000 ≤ a
    · simp [ex, ev, evs, nth, setN, Res.st, Res.bind, dr, drs, bi, out, truthR, truth, store, stores, toImm, toImms, fin, binop, cmpop, celLst, permute, doCall, prep, lent, back, isNop, partR, Res.opt, LINE, h1, hlt', ha, e1, hh, b1]
    · simp [ex, ev, evs, nth, setN, Res.st, Res.bind, dr, drs, bi, out, truthR, truth, store, stores, toImm, toImms, fin, binop, cmpop, celLst, permute, doCall, prep, lent, back, isNop, partR, Res.opt, LINE, h1, hlt', ha, e1, hh, b0]
def cellS : S := (.seq (.setv 5 (.bin .mod (.bi .int (.cons (.var 3) .nil)) (.var 1)))
    (.seti (.var 2) (.var 5) (.bin .add (.ix (.var 2) (.var 5)) (.bin .mul (.var 4) (.bin .add (.var 3) (.cst (.int 2)))))))
def cellL : S := (.loop (.tu (.cons (.v 3) (.cons (.v 4) .nil))) (.enm (.sl (.var 0) (.var 1) (.cst (.int 63)))) cellS)
def cellsB : S :=
    (.seq (.setv 2 (.or (.bi .list (.cons (.sl (.var 0) .nop (.var 1)) .nil)) (.lst (.cons (.cst (.int 0)) .nil))))
    (.seq cellL
    (.ret (.var 2))))
def cellsF : Fn := ⟨[false, false], 6, cellsB⟩
theorem enums_len : ∀ (ds : List D) (i : Int), (enums ds i).length = ds.length
  | [], _ => rfl
  | d :: ds, i => by simp [enums, enums_len ds]
theorem setN_set {α : Type} : ∀ (l : List α) (i : Nat) (x : α), setN l i x = l.set i x
  | [], _, _ => rfl
  | _ :: _, 0, _ => rfl
  | a :: l, i + 1, x => by show a :: setN l i x = _; rw [setN_set l i x]; rfl
theorem cells_loop {fs : List Fn} {n : Nat} {sc : D} {m : Nat} (hm : 0 < m) : ∀ (xs : List Int) (k : Nat) (cs : List Int) (a b c : Option RV), k + xs.length < 1000 → cs.length = m →
    ∃ (a' b' c' : Option RV) (cs' : List Int), cs'.length = m ∧ forLoop (bindT (.tu (.cons (.v 3) (.cons (.v 4) .nil)))) (fun sl1 cs2 => ex (run fs n) (mo fs) cellS sl1 cs2) (enums (xs.map D.int) k) [some (.imm sc), some (.imm (.int m)), some (.cel 0), a, b, c] [(.live, .lst (cs.map D.int))] =
      .ok .next [some (.imm sc), some (.imm (.int m)), some (.cel 0), a', b', c'] [(.live, .lst (cs'.map D.int))]
  | [], k, cs, a, b, c, hk, hl => ⟨a, b, c, cs, hl, rfl⟩
  | x :: xs, k, cs, a, b, c, hk, hl => by
    obtain ⟨j, hj, hjl⟩ : ∃ j : Nat, (k : Int) % m = j ∧ j < m := ⟨k % m, by simp, Nat.mod_lt _ hm⟩
    have hsp : j < cs.length := by rw [hl]; exact hjl
    obtain ⟨a', b', c', cs', h1, h2⟩ := cells_loop hm xs (k + 1) (cs.set j (cs[j] + x * (k + 2))) (some (.imm (.int k))) (some (.imm (.int x))) (some (.imm (.int j))) (by simp at hk; omega) (by simp [hl])
    refine ⟨a', b', c', cs', h1, ?_⟩
    show forLoop _ _ (.tup [.int k, .int x] :: enums (xs.map D.int) (k + 1)) _ _ = _
    unfold forLoop
    have hb : bindT (.tu (.cons (.v 3) (.cons (.v 4) .nil))) (.tup [.int k, .int x]) [some (.imm sc), some (.imm (.int m)), some (.cel 0), a, b, c] = some [some (.imm sc), some (.imm (.int m)), some (.cel 0), some (.imm (.int k)), some (.imm (.int x)), c] := by simp [bindT, bindTs, setN]
    rw [hb]
    dsimp only
    have hmI : (0 : Int) < m := by omega
    have h3 : getIx (.lst (cs.map D.int)) (.int j) = some (.int cs[j]) := by simp [getIx, ixNat, hsp, nth_get]
    have h4 : bnd64 ((k : Int) + 2) = true := by simp [bnd64]; simp at hk; omega
    have h5 : ixOf cs.length (j : Int) = some j := ixNat hsp
    have hb2 : ex (run fs n) (mo fs) cellS [some (.imm sc), some (.imm (.int m)), some (.cel 0), some (.imm (.int k)), some (.imm (.int x)), c] [(.live, .lst (cs.map D.int))] =
        .ok .next [some (.imm sc), some (.imm (.int m)), some (.cel 0), some (.imm (.int k)), some (.imm (.int x)), some (.imm (.int j))] [(.live, .lst ((cs.set j (cs[j] + x * (k + 2))).map D.int))] := by
      simp [ex, ev, evs, nth, setN, Res.st, Res.bind, dr, drs, bi, out, truthR, truth, store, stores, toImm, toImms, fin, binop, cmpop, celLst, permute, doCall, prep, lent, back, isNop, partR, Res.opt, LINE, cellS, hm, hj, h3, h4, h5, setN_set, List.map_set]
    rw [hb2]
    dsimp only
    have := h2
    rw [show (((k + 1 : Nat)) : Int) = (k : Int) + 1 by omega] at this
    exact this
theorem cells_spec {fs : List Fn} {i n : Nat} (hf : nth fs i = some cellsF) {ns : List Int} {m : Nat} (hm : 0 < m) (hm2 : m ≤ 63) (hl : ns.length ≤ 63) :
    ∃ cs : List Int, cs ≠ [] ∧ cs.length ≤ m ∧ run fs (n + 1) i [.imm (.lst (ns.map D.int)), .imm (.int m)] = some (.ret true (.lst (cs.map D.int)), []) := by
  rw [run_eq hf]
  have hm0 : ¬ (m : Int) < 0 := by omega
  have hs1 : slice (.lst (ns.map D.int)) none (some (m : Int)) = some (true, .lst ((ns.take m).map D.int)) := by
    simp only [slice, cut, sIx, if_neg hm0, List.length_map, Int.toNat_natCast, List.drop_zero, Nat.sub_zero]
    congr 3
    rw [List.map_take, List.take_eq_take_iff]
    simp
  have hs2 : slice (.lst (ns.map D.int)) (some (m : Int)) (some 63) = some (true, .lst ((ns.drop m).map D.int)) := by
    simp only [slice, cut, sIx, if_neg hm0, List.length_map, Int.toNat_natCast, if_neg (show ¬ (63 : Int) < 0 by decide)]
    congr 3
    rw [List.map_drop, show min (Int.toNat 63) ns.length = ns.length by show min 63 _ = _; omega]
    by_cases h : m ≤ ns.length
    · rw [Nat.min_eq_left h, List.take_of_length_le (by simp)]
    · rw [Nat.min_eq_right (by omega), List.drop_eq_nil_of_le (by simp), List.drop_eq_nil_of_le (by simp; omega)]
      simp
  have loop : ∀ cs : List Int, cs.length = m ∨ ns.drop m = [] → ∃ (sl' : Slots) (cs' : List Int), cs'.length = cs.length ∧ sl'[2]? = some (some (.cel 0)) ∧
      ex (run fs n) (mo fs) cellL [some (.imm (.lst (ns.map D.int))), some (.imm (.int m)), some (.cel 0), none, none, none] [(.live, .lst (cs.map D.int))] = .ok .next sl' [(.live, .lst (cs'.map D.int))] := by
    intro cs hcs
    have hit : evIt (run fs n) (mo fs) (.enm (.sl (.var 0) (.var 1) (.cst (.int 63)))) [some (.imm (.lst (ns.map D.int))), some (.imm (.int m)), some (.cel 0), none, none, none] [(.live, .lst (cs.map D.int))] =
        .ok (.fr (.lst ((ns.drop m).map D.int)), enums ((ns.drop m).map D.int) 0) [(.live, .lst (cs.map D.int))] := by
      simp [ex, ev, evs, nth, setN, Res.st, Res.bind, dr, drs, bi, out, truthR, truth, store, stores, toImm, toImms, fin, binop, cmpop, celLst, permute, doCall, prep, lent, back, isNop, partR, Res.opt, LINE, evIt, hs2]
    rw [cellL, ex, hit]
    rcases hcs with h | h
    · obtain ⟨a', b', c', cs', h1, h2⟩ := cells_loop (fs := fs) (n := n) (sc := .lst (ns.map D.int)) hm (ns.drop m) 0 cs none none none (by simp; omega) h
      exact ⟨_, cs', by rw [h1, h], rfl, by simp only [Res.st, lockC, unlockC, RS.unlock]; rw [show ((0 : Nat) : Int) = 0 from rfl] at h2; rw [h2]⟩
    · exact ⟨_, cs, rfl, rfl, by rw [h]; rfl⟩
  by_cases h0 : ns = []
  · subst h0
    obtain ⟨sl', cs', h1, h2, h3⟩ := loop [0] (.inr (by simp))
    refine ⟨cs', fun z => by rw [z] at h1; simp at h1, by rw [h1]; exact hm, ?_⟩
    simp only [runF, cellsF, mkArgs, cellsB, List.length, nones, List.append, ↓reduceIte]
    have h3' := h3
    simp at hs1 h3'
    simp [ex, ev, evs, nth, setN, Res.st, Res.bind, dr, drs, bi, out, truthR, truth, store, stores, toImm, toImms, fin, binop, cmpop, celLst, permute, doCall, prep, lent, back, isNop, partR, Res.opt, LINE, hs1, h3']
    rw [nth_get, h2]
    simp [nth]
  · obtain ⟨sl', cs', h1, h2, h3⟩ := loop (ns.take m) (by
      by_cases h : m ≤ ns.length
      · left; simp [h]
      · right; exact List.drop_eq_nil_of_le (by omega))
    have hne : (ns.take m).isEmpty = false := by
      cases ns with
      | nil => exact absurd rfl h0
      | cons x r => cases m with
        | zero => omega
        | succ m => rfl
    refine ⟨cs', fun z => by rw [z] at h1; cases hh : ns.take m with
      | nil => rw [hh] at hne; cases hne
      | cons x r => rw [hh] at h1; simp at h1, by rw [h1]; simp; omega, ?_⟩
    simp only [runF, cellsF, mkArgs, cellsB, List.length, nones, List.append, ↓reduceIte]
    have hle : ((ns.take m).map D.int).isEmpty = false := by rw [List.isEmpty_map]; exact hne
    generalize (ns.take m).map D.int = l at hs1 h3 hle
    simp [ex, ev, evs, nth, setN, Res.st, Res.bind, dr, drs, bi, out, truthR, truth, store, stores, toImm, toImms, fin, binop, cmpop, celLst, permute, doCall, prep, lent, back, isNop, partR, Res.opt, LINE, hs1, hle, h3]
    rw [nth_get, h2]
    simp [nth]
end Pl

namespace Pl
open Mini
def sameC (i : Nat) : E := (.lc [3, 4] (.tu (.cons (.v 3) (.cons (.v 4) .nil))) (.zip (.var 0) (.var 1)) .nop (.call i [0, 1] (.cons (.var 3) (.cons (.var 4) .nil))))
def sameB (i : Nat) : S :=
    (.seq (.ite (.isi [.list, .tuple] (.var 1)) (.seq (.ite (.cmp .ne (.isi [.list] (.var 0)) (.isi [.list] (.var 1))) (.ret (.cst (.bl false))) .skip)
    (.seq (.ite (.cmp .ne (.isi [.tuple] (.var 0)) (.isi [.tuple] (.var 1))) (.ret (.cst (.bl false))) .skip)
    (.ret (.and (.cmp .eq (.bi .len (.cons (.var 0) .nil)) (.bi .len (.cons (.var 1) .nil))) (.bi .all (.cons (sameC i) .nil)))))) .skip)
    (.seq (.ite (.or (.isN (.var 1)) (.isi [.bool, .str] (.var 1))) (.seq (.setv 2 (.and (.cmp .eq (.isi [.bool] (.var 0)) (.isi [.bool] (.var 1))) (.cmp .eq (.isN (.var 0)) (.isN (.var 1)))))
    (.ret (.and (.var 2) (.cmp .eq (.var 0) (.var 1))))) .skip)
    (.ret (.and (.isi [.int] (.var 0)) (.and (.not (.isi [.bool] (.var 0))) (.cmp .eq (.var 0) (.var 1)))))))
def sameF (i : Nat) : Fn := ⟨[false, false], 5, sameB i⟩
def leaf : D → Prop
  | .non => True
  | .bl _ => True
  | .int _ => True
  | .str x => sOk x = true
  | _ => False
/-- plain data, at most so deep -/
def Pd : Nat → D → Prop
  | 0, d => leaf d
  | n + 1, d => leaf d ∨ ∃ (b : Bool) (ds : List D), d = seqD b ds ∧ ds.length ≤ 1000000 ∧ ∀ x ∈ ds, Pd n x
theorem leq_refl : ∀ x : List Nat, leq x x = true
  | [] => rfl
  | x :: xs => by simp [leq, leq_refl xs]
theorem same_leaf {fs : List Fn} {i n : Nat} (hf : nth fs i = some (sameF i)) {d : D} (h : leaf d) : run fs (n + 1) i [.imm d, .imm d] = some (.ret false (.bl true), []) := by
  rw [run_eq hf]
  simp only [runF, sameF, mkArgs, sameB, List.length, nones, List.append, ↓reduceIte]
  cases d with
  | non => simp [ex, ev, evs, nth, setN, Res.st, Res.bind, dr, drs, bi, out, truthR, truth, store, stores, toImm, toImms, fin, binop, cmpop, celLst, permute, doCall, prep, lent, back, isNop, partR, Res.opt, LINE, isTys, isTy, deq, pl]
  | bl b => simp [ex, ev, evs, nth, setN, Res.st, Res.bind, dr, drs, bi, out, truthR, truth, store, stores, toImm, toImms, fin, binop, cmpop, celLst, permute, doCall, prep, lent, back, isNop, partR, Res.opt, LINE, isTys, isTy, deq, pl]
  | int j => simp [ex, ev, evs, nth, setN, Res.st, Res.bind, dr, drs, bi, out, truthR, truth, store, stores, toImm, toImms, fin, binop, cmpop, celLst, permute, doCall, prep, lent, back, isNop, partR, Res.opt, LINE, isTys, isTy, deq, pl]
  | str x =>
    have h : sOk x = true := h
    simp [ex, ev, evs, nth, setN, Res.st, Res.bind, dr, drs, bi, out, truthR, truth, store, stores, toImm, toImms, fin, binop, cmpop, celLst, permute, doCall, prep, lent, back, isNop, partR, Res.opt, LINE, isTys, isTy, deq, pl, h, leq_refl]
  | _ => exact h.elim
theorem zips_same : ∀ (ds : List D) (p : D), p ∈ zips ds ds → ∃ d ∈ ds, p = .tup [d, d]
  | [], _, h => by simp [zips] at h
  | d :: ds, p, h => by
    rcases List.mem_cons.mp (show p ∈ .tup [d, d] :: zips ds ds from h) with h | h
    · exact ⟨d, by simp, h⟩
    · obtain ⟨x, hx, e⟩ := zips_same ds p h
      exact ⟨x, by simp [hx], e⟩
theorem zips_len : ∀ (ds : List D), (zips ds ds).length = ds.length
  | [] => rfl
  | d :: ds => by simp [zips, zips_len ds]
theorem allBl_true : ∀ (ds : List D), (∀ d ∈ ds, d = .bl true) → allBl ds = some true
  | [], _ => rfl
  | d :: ds, h => by
    rw [h d (by simp)]
    show (match allBl ds with | some c => some (true && c) | none => none) = _
    rw [allBl_true ds fun x hx => h x (by simp [hx])]
    rfl
theorem same_spec {fs : List Fn} {i : Nat} (hf : nth fs i = some (sameF i)) : ∀ (k n : Nat) (d : D), Pd k d → run fs (n + k + 1) i [.imm d, .imm d] = some (.ret false (.bl true), [])
  | 0, n, d, h => same_leaf hf h
  | k + 1, n, d, h => by
    rcases h with h | ⟨b, ds, rfl, hl, h⟩
    · exact same_leaf hf h
    · have ih := fun x hx => same_spec hf k n x (h x hx)
      rw [show n + (k + 1) + 1 = (n + k + 1) + 1 by omega, run_eq hf]
      have hC : ev (run fs (n + k + 1)) (mo fs) (sameC i) [some (.imm (seqD b ds)), some (.imm (seqD b ds)), none, none, none] [] = .ok (.fr (.lst ((zips ds ds).map fun _ => .bl true))) [] := by
        unfold sameC
        rw [ev]
        have hit : evIt (run fs (n + k + 1)) (mo fs) (.zip (.var 0) (.var 1)) [some (.imm (seqD b ds)), some (.imm (seqD b ds)), none, none, none] [] = .ok (.imm .non, zips ds ds) [] := by
          cases b <;> simp [ex, ev, evs, nth, setN, Res.st, Res.bind, dr, drs, bi, out, truthR, truth, store, stores, toImm, toImms, fin, binop, cmpop, celLst, permute, doCall, prep, lent, back, isNop, partR, Res.opt, LINE, evIt, seqD, seqOf]
        rw [hit]
        have hL : (zips ds ds).length ≤ LINE := by rw [zips_len]; show _ ≤ 16777216; omega
        simp only [Res.bind, hL, if_true, lockC]
        rw [lc_all (fun _ => true) (fun _ => .bl true)]
        · rw [List.filter_eq_self.mpr (fun _ _ => rfl)]
          simp [unlockC]
        · intro p hp
          obtain ⟨x, hx, rfl⟩ := zips_same ds p hp
          refine ⟨[some (.imm (seqD b ds)), some (.imm (seqD b ds)), none, some (.imm x), some (.imm x)], by simp [bindT, bindTs, setN, wipeS], by simp [isNop], fun _ => ⟨.imm (.bl true), ?_, rfl⟩⟩
          simp [ex, ev, evs, nth, setN, Res.st, Res.bind, dr, drs, bi, out, truthR, truth, store, stores, toImm, toImms, fin, binop, cmpop, celLst, permute, doCall, prep, lent, back, isNop, partR, Res.opt, LINE, mo_eq hf, sameF, ih x hx]
      have hA : allBl ((zips ds ds).map fun _ => D.bl true) = some true := allBl_true _ fun d hd => by
        obtain ⟨_, _, e⟩ := List.mem_map.mp hd
        exact e.symm
      simp only [runF, sameF, mkArgs, sameB, List.length, nones, List.append, ↓reduceIte]
      cases b <;> (simp only [seqD] at hC ⊢; simp at hC; simp [ex, ev, evs, nth, setN, Res.st, Res.bind, dr, drs, bi, out, truthR, truth, store, stores, toImm, toImms, fin, binop, cmpop, celLst, permute, doCall, prep, lent, back, isNop, partR, Res.opt, LINE, isTys, isTy, deq, pl, hC, hA])
end Pl

namespace Pl
open Mini
/-! ### lists of texts -/
abbrev SL (ss : List (List Nat)) : List D := ss.map D.str
theorem leq_dec : ∀ (x y : List Nat), leq x y = decide (x = y)
  | [], [] => rfl
  | [], _ :: _ => by simp [leq]
  | _ :: _, [] => by simp [leq]
  | x :: xs, y :: ys => by
    simp only [leq, leq_dec xs ys]
    by_cases h : x = y
    · by_cases h2 : xs = ys <;> simp [h, h2]
    · have : Nat.beq x y = false := by
        cases q : Nat.beq x y with
        | false => rfl
        | true => exact absurd (Nat.eq_of_beq_eq_true q) h
      simp [h, this]
theorem memD_str {b : List Nat} : ∀ (ss : List (List Nat)), memD (.str b) (SL ss) = decide (b ∈ ss)
  | [] => by simp [memD]
  | s :: ss => by
    show (deq (.str s) (.str b) || memD (.str b) (SL ss)) = _
    rw [memD_str ss]
    simp only [deq, leq_dec, List.mem_cons]
    by_cases h : s = b
    · simp [h]
    · have : ¬ b = s := fun z => h z.symm
      simp [h, this]
theorem idxOf_str {b : List Nat} : ∀ (ss : List (List Nat)) (n : Nat), b ∈ ss → idxOf (.str b) (SL ss) n = some (n + ss.idxOf b)
  | [], _, h => by simp at h
  | s :: ss, n, h => by
    show (if deq (.str s) (.str b) then some n else idxOf (.str b) (SL ss) (n + 1)) = _
    simp only [deq, leq_dec]
    by_cases e : s = b
    · simp [e]
    · have : ¬ b = s := fun z => e z.symm
      have hb : b ∈ ss := by simpa [this] using h
      rw [idxOf_str ss (n + 1) hb]
      have e2 : (s == b) = false := by simpa using e
      rw [List.idxOf_cons, e2]
      simp [e]
      omega
theorem pls_str {n : Nat} : ∀ (ss : List (List Nat)), (∀ s ∈ ss, sOk s = true) → pls n (SL ss) = true
  | [], _ => by simp [pls]
  | s :: ss, h => by
    show (pl n (.str s) && pls n (SL ss)) = true
    rw [pls_str ss fun x hx => h x (by simp [hx])]
    simp [pl, h s (by simp)]
theorem lc_inv {bind : D → Slots → Option Slots} {c : Slots → Cells → Res Bool} {e : Slots → Cells → Res RV} {sl : Slots} (I : Cells → Prop) (p : D → Bool) (f : D → D) : ∀ (xs acc : List D) (cs : Cells), I cs →
    (∀ x ∈ xs, ∀ cs, I cs → ∃ sl1 cs1, bind x sl = some sl1 ∧ c sl1 cs = .ok (p x) cs1 ∧ (p x = false → I cs1) ∧ (p x = true → ∃ rv cs2 cs3, e sl1 cs1 = .ok rv cs2 ∧ toImm rv cs2 = some (f x, cs3) ∧ I cs3)) →
    ∃ cs', I cs' ∧ lcLoop bind c e sl xs acc cs = .ok (acc.reverse ++ (xs.filter p).map f) cs'
  | [], acc, cs, h, _ => ⟨cs, h, by simp [lcLoop]⟩
  | x :: xs, acc, cs, h0, h => by
    obtain ⟨sl1, cs1, h1, h2, h3, h4⟩ := h x (by simp) cs h0
    have ih := fun acc cs hI => lc_inv I p f xs acc cs hI fun y hy => h y (by simp [hy])
    unfold lcLoop
    rw [h1]
    dsimp only
    rw [h2]
    cases hp : p x with
    | false =>
      obtain ⟨cs', k1, k2⟩ := ih acc cs1 (h3 hp)
      exact ⟨cs', k1, by dsimp only; rw [k2]; simp [hp]⟩
    | true =>
      obtain ⟨rv, cs2, cs3, h4, h5, h6⟩ := h4 hp
      obtain ⟨cs', k1, k2⟩ := ih (f x :: acc) cs3 h6
      refine ⟨cs', k1, ?_⟩
      dsimp only
      rw [h4]
      dsimp only
      rw [h5]
      dsimp only
      rw [k2]
      simp [hp]
theorem lc_nop {call : CallT} {modes : Nat → List Bool} {own : List Nat} {t : T} {it e : E} {sl : Slots} {cs cs1 : Cells} {p : RV × List D} (I : Cells → Prop) (f : D → D) (hit : evIt call modes it sl cs = .ok p cs1) (hL : p.2.length ≤ 16777216) (h0 : I (lockC p.1 cs1))
    (h : ∀ x ∈ p.2, ∀ c, I c → ∃ sl1 rv cs2 cs3, bindT t x (wipeS sl own) = some sl1 ∧ ev call modes e sl1 c = .ok rv cs2 ∧ toImm rv cs2 = some (f x, cs3) ∧ I cs3) :
    ∃ cs', I cs' ∧ ev call modes (.lc own t it .nop e) sl cs = .ok (.fr (.lst (p.2.map f))) (unlockC p.1 cs1 cs') := by
  obtain ⟨cs', k1, k2⟩ := lc_inv (bind := bindT t) (c := fun sl1 cs2 => if isNop .nop then .ok true cs2 else (ev call modes .nop sl1 cs2).bind fun x cs3 => Res.opt (truthR x cs3) cs3) (e := fun sl1 cs2 => ev call modes e sl1 cs2) (sl := wipeS sl own)
    I (fun _ => true) f p.2 [] (lockC p.1 cs1) h0 fun x hx c hc => by
      obtain ⟨sl1, rv, cs2, cs3, a1, a2, a3, a4⟩ := h x hx c hc
      exact ⟨sl1, c, a1, rfl, fun z => (nomatch z), fun _ => ⟨rv, cs2, cs3, a2, a3, a4⟩⟩
  refine ⟨cs', k1, ?_⟩
  rw [ev, hit]
  show (if p.2.length ≤ LINE then _ else _) = _
  rw [if_pos hL, k2, List.filter_eq_self.mpr (fun _ _ => rfl)]
  rfl
theorem lc_if {call : CallT} {modes : Nat → List Bool} {own : List Nat} {t : T} {it b e : E} {sl : Slots} {cs cs1 : Cells} {p : RV × List D} (hb : isNop b = false) (I : Cells → Prop) (q : D → Bool) (f : D → D) (hit : evIt call modes it sl cs = .ok p cs1) (hL : p.2.length ≤ 16777216) (h0 : I (lockC p.1 cs1))
    (h : ∀ x ∈ p.2, ∀ c, I c → ∃ sl1 rb cs2, bindT t x (wipeS sl own) = some sl1 ∧ ev call modes b sl1 c = .ok rb cs2 ∧ truthR rb cs2 = some (q x) ∧ (q x = false → I cs2) ∧ (q x = true → ∃ rv cs3 cs4, ev call modes e sl1 cs2 = .ok rv cs3 ∧ toImm rv cs3 = some (f x, cs4) ∧ I cs4)) :
    ∃ cs', I cs' ∧ ev call modes (.lc own t it b e) sl cs = .ok (.fr (.lst ((p.2.filter q).map f))) (unlockC p.1 cs1 cs') := by
  obtain ⟨cs', k1, k2⟩ := lc_inv (bind := bindT t) (c := fun sl1 cs2 => if isNop b then .ok true cs2 else (ev call modes b sl1 cs2).bind fun x cs3 => Res.opt (truthR x cs3) cs3) (e := fun sl1 cs2 => ev call modes e sl1 cs2) (sl := wipeS sl own)
    I q f p.2 [] (lockC p.1 cs1) h0 fun x hx c hc => by
      obtain ⟨sl1, rb, cs2, a1, a2, a3, a4, a5⟩ := h x hx c hc
      refine ⟨sl1, cs2, a1, ?_, a4, a5⟩
      rw [hb, a2]
      show Res.opt (truthR rb cs2) cs2 = _
      rw [a3]
      rfl
  refine ⟨cs', k1, ?_⟩
  rw [ev, hit]
  show (if p.2.length ≤ LINE then _ else _) = _
  rw [if_pos hL, k2]
  rfl
/-- a loop by its items and its body -/
theorem loop_ok {call : CallT} {modes : Nat → List Bool} {t : T} {it : E} {b : S} {sl sl' : Slots} {cs cs1 cs' : Cells} {p : RV × List D} (hit : evIt call modes it sl cs = .ok p cs1) (h : forLoop (bindT t) (fun sl1 cs2 => ex call modes b sl1 cs2) p.2 sl (lockC p.1 cs1) = .ok .next sl' cs') :
    ex call modes (.loop t it b) sl cs = .ok .next sl' (unlockC p.1 cs1 cs') := by
  rw [ex, hit]
  show RS.unlock _ _ (forLoop _ _ _ _ _) = _
  rw [h]
  rfl
theorem it_rng1 {call : CallT} {modes : Nat → List Bool} {a : E} {sl : Slots} {cs cs1 : Cells} {x : RV} {k : Nat} (h : ev call modes a sl cs = .ok x cs1) (hd : dr x cs1 = some (.int (k : Int))) (hk : k < 4611686018427387904) : evIt call modes (.rng1 a) sl cs = .ok (.imm .non, rngD 0 k) cs1 := by
  have h62 := in62_nat hk
  rw [evIt, h]
  show (match dr x cs1 with | some (.int j) => if in62 j then Res.ok (RV.imm .non, rngD 0 j.toNat) cs1 else .stuck | _ => .stuck) = _
  rw [hd]
  show (if in62 (k : Int) = true then Res.ok (RV.imm .non, rngD 0 (k : Int).toNat) cs1 else .stuck) = _
  rw [if_pos h62]
  rfl
theorem nth_last {α : Type} {x : α} : ∀ l : List α, nth (l ++ [x]) l.length = some x
  | [] => rfl
  | _ :: l => nth_last l
theorem setN_last {α : Type} {x y : α} : ∀ l : List α, setN (l ++ [x]) l.length y = l ++ [y]
  | [] => rfl
  | a :: l => by show a :: setN (l ++ [x]) l.length y = _; rw [setN_last l]; rfl
theorem str_items {n : Nat} (ss : List (List Nat)) : ∀ d ∈ SL ss, ∃ s ∈ ss, d = .str s := fun d hd => by
  obtain ⟨s, h1, h2⟩ := List.mem_map.mp hd
  exact ⟨s, h1, h2.symm⟩
def unS : D → List Nat
  | .str s => s
  | _ => []
theorem unS_map : ∀ ss : List (List Nat), (SL ss).map unS = ss
  | [] => rfl
  | s :: ss => by show s :: (SL ss).map unS = _; rw [unS_map ss]
/-! ### sorted -/
theorem insD_perm (x : D) : ∀ l : List D, (insD x l).Perm (x :: l)
  | [] => .refl _
  | y :: ys => by
    unfold insD
    split
    · exact ((insD_perm x ys).cons y).trans (.swap _ _ _)
    · exact .refl _
theorem isort_perm : ∀ l : List D, (isort l).Perm l
  | [] => .refl _
  | x :: xs => (insD_perm x _).trans ((isort_perm xs).cons x)
theorem alikes1_str (s : List Nat) : ∀ ss : List (List Nat), alikes1 (.str s) (SL ss) = true
  | [] => rfl
  | t :: ss => by
    show (alk (.str s) (.str t) && alk (.str t) (.str s) && alikes1 (.str s) (SL ss)) = true
    rw [alikes1_str s ss]
    rfl
theorem alikes_str : ∀ ss : List (List Nat), alikes (SL ss) = true
  | [] => rfl
  | s :: ss => by
    show (alk (.str s) (.str s) && alikes1 (.str s) (SL ss) && alikes (SL ss)) = true
    rw [alikes1_str s ss, alikes_str ss]
    rfl
theorem srtb_str (ss : List (List Nat)) : srtb (SL ss) = true := by
  have : noTup (SL ss) = true := by
    induction ss with
    | nil => rfl
    | cons s ss ih => exact ih
  unfold srtb
  rw [this, Bool.or_true]
theorem sorted_str (ss : List (List Nat)) (h : ∀ s ∈ ss, sOk s = true) : ∃ ss' : List (List Nat), ss'.Perm ss ∧ bi .sorted [.lst (SL ss)] = some (true, .lst (SL ss')) := by
  have hp := isort_perm (SL ss)
  have hall : ∀ d ∈ isort (SL ss), ∃ s, d = .str s := fun d hd => by
    obtain ⟨s, _, e⟩ := List.mem_map.mp (hp.mem_iff.mp hd)
    exact ⟨s, e.symm⟩
  have hex : ∀ l : List D, (∀ d ∈ l, ∃ s, d = .str s) → ∃ ss' : List (List Nat), l = SL ss' := by
    intro l
    induction l with
    | nil => exact fun _ => ⟨[], rfl⟩
    | cons d l ih =>
      intro h
      obtain ⟨s, rfl⟩ := h d (by simp)
      obtain ⟨ss', rfl⟩ := ih fun x hx => h x (by simp [hx])
      exact ⟨s :: ss', rfl⟩
  obtain ⟨ss', e⟩ := hex _ hall
  refine ⟨ss', ?_, ?_⟩
  · rw [e] at hp
    have := hp.map unS
    rwa [unS_map, unS_map] at this
  · simp only [bi, pls_str ss h, alikes_str, srtb_str, Bool.and_self, if_true, e]
end Pl

namespace Qk16
open Mini
/-- 0: tupled; 0 value 1 part -/
def c0_0 : E := (.lc [1] (.v 1) (.it (.var 0)) .nop (.call 0 [0] (.cons (.var 1) .nil)))
def b0 : S :=
    (.ret (.ite (.isi [.list, .tuple] (.var 0)) (.bi .tuple (.cons c0_0 .nil)) (.var 0)))
def f0 : Fn := ⟨[false], 2, b0⟩
/-- 1: rest_of; 0 one 1 other 2 bill 3 hidden 4 mate -/
def c1_0 : E := (.lc [4] (.v 4) (.it (.sl (.var 0) (.bin .add (.index (.var 0) (.var 2)) (.cst (.int 1))) .nop)) (.cmp .notin (.var 4) (.var 3)) (.var 4))
def b1 : S :=
    (.seq (.setv 3 (.sl (.var 1) .nop (.index (.var 1) (.var 2))))
    (.ret (.bi .tuple (.cons c1_0 .nil))))
def f1 : Fn := ⟨[false, false, false], 5, b1⟩
/-- 2: rest_beside; 0 one 1 other 2 bill -/
def b2 : S :=
    (.seq (.ite (.or (.cmp .notin (.var 2) (.var 0)) (.cmp .notin (.var 2) (.var 1))) (.ret (.cst .non)) .skip)
    (.ret (.call 1 [0, 1, 2] (.cons (.call 0 [0] (.cons (.var 0) .nil)) (.cons (.call 0 [0] (.cons (.var 1) .nil)) (.cons (.var 2) .nil))))))
def f2 : Fn := ⟨[false, false, false], 3, b2⟩
/-- 3: _law_box; 0 _law_script 1 _law_k 2 _law_cell -/
def b3 : S :=
    (.seq (.setv 2 (.ite (.cmp .lt (.var 1) (.bi .len (.cons (.var 0) .nil))) (.ix (.var 0) (.var 1)) (.cst (.int 0))))
    (.ret (.lst (.cons (.bin .mul (.bi .abs (.cons (.var 2) .nil)) (.bi .int (.cons (.cmp .ge (.bi .abs (.cons (.var 2) .nil)) (.bin .pow (.cst (.int 10)) (.cst (.int 18)))) .nil))) (.cons (.bin .add (.bin .add (.bin .mod (.bi .int (.cons (.var 2) .nil)) (.cst (.int 2305843009213693951))) (.bin .mul (.cst (.int 39373)) (.var 1))) (.cst (.int 1050316))) (.cons (.cst (.int 0)) .nil))))))
def f3 : Fn := ⟨[false, false], 3, b3⟩
/-- 4: _law_take; 0 _law_tub 1 _law_top_to 2 _law_once 3 _law_odd 4 _law_twice 5 _law_drawn -/
def b4 : S :=
    (.seq (.ite (.cmp .gt (.ix (.var 0) (.cst (.int 0))) (.cst (.int 0))) (.seq (.setv 5 (.bin .mod (.bi .int (.cons (.ix (.var 0) (.cst (.int 0))) .nil)) (.var 1)))
    (.seq (.seti (.var 0) (.cst (.int 0)) (.bin .fdiv (.ix (.var 0) (.cst (.int 0))) (.var 1)))
    (.ret (.var 5)))) .skip)
    (.seq (.seti (.var 0) (.cst (.int 2)) (.bin .add (.ix (.var 0) (.cst (.int 2))) (.cst (.int 1))))
    (.seq (.setv 2 (.bin .mod (.bi .int (.cons (.bin .mul (.bin .add (.ix (.var 0) (.cst (.int 1))) (.bin .mul (.cst (.int 48271)) (.ix (.var 0) (.cst (.int 2))))) (.bin .add (.cst (.int 39373)) (.ix (.var 0) (.cst (.int 2))))) .nil)) (.cst (.int 2147483647))))
    (.seq (.setv 3 (.bin .add (.bin .mod (.bi .int (.cons (.var 2) .nil)) (.cst (.int 40009))) (.cst (.int 7))))
    (.seq (.setv 4 (.bin .mod (.bi .int (.cons (.bin .mul (.bin .add (.bin .add (.var 2) (.ix (.var 0) (.cst (.int 2)))) (.bin .fdiv (.ix (.var 0) (.cst (.int 1))) (.cst (.int 1000003)))) (.var 3)) .nil)) (.cst (.int 2147483629))))
    (.ret (.bin .mod (.bi .int (.cons (.bin .fdiv (.bin .mod (.bi .int (.cons (.bin .add (.bin .mul (.var 4) (.cst (.int 48271))) (.var 2)) .nil)) (.cst (.int 2147483587))) (.cst (.int 64))) .nil)) (.var 1))))))))
def f4 : Fn := ⟨[true, false], 6, b4⟩
/-- 5: _law_cells; 0 _law_script 1 _law_most_so 2 _law_cells_so 3 _law_k 4 _law_far_so 5 _law_spot_so -/
def b5_0 : S := (.seq (.setv 5 (.bin .mod (.bi .int (.cons (.var 3) .nil)) (.var 1)))
    (.seti (.var 2) (.var 5) (.bin .add (.ix (.var 2) (.var 5)) (.bin .mul (.var 4) (.bin .add (.var 3) (.cst (.int 2)))))))
def l5_1 : S := (.loop (.tu (.cons (.v 3) (.cons (.v 4) .nil))) (.enm (.sl (.var 0) (.var 1) (.cst (.int 63)))) b5_0)
def b5 : S :=
    (.seq (.setv 2 (.or (.bi .list (.cons (.sl (.var 0) .nop (.var 1)) .nil)) (.lst (.cons (.cst (.int 0)) .nil))))
    (.seq l5_1
    (.ret (.var 2))))
def f5 : Fn := ⟨[false, false], 6, b5⟩
/-- 6: _law_pick; 0 _law_tub 1 _law_few_so 2 _law_much_so 3 _law_turn 4 _law_left 5 _law_found -/
def b6_0 : S := (.expr (.app (.var 5) (.popi (.var 4) (.call 4 [0, 1] (.cons (.var 0) (.cons (.bi .len (.cons (.var 4) .nil)) .nil))))))
def l6_1 : S := (.loop (.v 3) (.rng1 (.bi .min2 (.cons (.var 2) (.cons (.bi .len (.cons (.var 4) .nil)) .nil)))) b6_0)
def b6 : S :=
    (.seq (.par [4, 5] (.cons (.bi .list (.cons (.var 1) .nil)) (.cons (.lst .nil) .nil)))
    (.seq l6_1
    (.ret (.var 5))))
def f6 : Fn := ⟨[true, false, false], 6, b6⟩
/-- 7: _law_same; 0 _law_got 1 _law_due 2 _law_like 3 _law_mine 4 _law_its -/
def c7_0 : E := (.lc [3, 4] (.tu (.cons (.v 3) (.cons (.v 4) .nil))) (.zip (.var 0) (.var 1)) .nop (.call 7 [0, 1] (.cons (.var 3) (.cons (.var 4) .nil))))
def b7 : S :=
    (.seq (.ite (.isi [.list, .tuple] (.var 1)) (.seq (.ite (.cmp .ne (.isi [.list] (.var 0)) (.isi [.list] (.var 1))) (.ret (.cst (.bl false))) .skip)
    (.seq (.ite (.cmp .ne (.isi [.tuple] (.var 0)) (.isi [.tuple] (.var 1))) (.ret (.cst (.bl false))) .skip)
    (.ret (.and (.cmp .eq (.bi .len (.cons (.var 0) .nil)) (.bi .len (.cons (.var 1) .nil))) (.bi .all (.cons c7_0 .nil)))))) .skip)
    (.seq (.ite (.or (.isN (.var 1)) (.isi [.bool, .str] (.var 1))) (.seq (.setv 2 (.and (.cmp .eq (.isi [.bool] (.var 0)) (.isi [.bool] (.var 1))) (.cmp .eq (.isN (.var 0)) (.isN (.var 1)))))
    (.ret (.and (.var 2) (.cmp .eq (.var 0) (.var 1))))) .skip)
    (.ret (.and (.isi [.int] (.var 0)) (.and (.not (.isi [.bool] (.var 0))) (.cmp .eq (.var 0) (.var 1)))))))
def f7 : Fn := ⟨[false, false], 5, b7⟩
/-- 8: _law_line; 0 _law_tub 1 _law_tags_here 2 _law_most_so -/
def b8 : S :=
    (.ret (.bi .tuple (.cons (.call 6 [0, 1, 2] (.cons (.var 0) (.cons (.var 1) (.cons (.call 4 [0, 1] (.cons (.var 0) (.cons (.bin .add (.bi .min2 (.cons (.var 2) (.cons (.bi .len (.cons (.var 1) .nil)) .nil))) (.cst (.int 1))) .nil))) .nil)))) .nil)))
def f8 : Fn := ⟨[true, false, false], 3, b8⟩
/-- 9: _law_tags; 0 _law_tub 1 _law_many_so -/
def b9 : S :=
    (.ret (.bi .sorted (.cons (.call 6 [0, 1, 2] (.cons (.var 0) (.cons (.lst (.cons (.cst (.str [97])) (.cons (.cst (.str [98])) (.cons (.cst (.str [103, 97, 115])) (.cons (.cst (.str [114, 101, 110, 116])) (.cons (.cst (.str [116, 97, 120])) (.cons (.cst (.str [120])) (.cons (.cst (.str [122, 122, 122, 122, 122, 122, 122, 122])) .nil)))))))) (.cons (.bin .add (.cst (.int 1)) (.call 4 [0, 1] (.cons (.var 0) (.cons (.var 1) .nil)))) .nil)))) .nil)))
def f9 : Fn := ⟨[true, false], 2, b9⟩
/-- 10: _law_rest; 0 _law_near 1 _law_far 2 _law_tag 3 _law_found 4 _law_own -/
def b10_0 : S := (.ite (.or (.cmp .notin (.var 4) (.var 1)) (.cmp .gt (.index (.var 1) (.var 4)) (.index (.var 1) (.var 2)))) (.expr (.app (.var 3) (.var 4))) .skip)
def l10_1 : S := (.loop (.v 4) (.it (.sl (.var 0) (.bin .add (.index (.var 0) (.var 2)) (.cst (.int 1))) .nop)) b10_0)
def b10 : S :=
    (.seq (.setv 3 (.lst .nil))
    (.seq l10_1
    (.ret (.bi .tuple (.cons (.var 3) .nil)))))
def f10 : Fn := ⟨[false, false, false], 5, b10⟩
/-- 11: _law_kit;  -/
def b11 : S :=
    (.ret (.tup (.cons (.tup (.cons (.cst (.str [103, 97, 115])) (.cons (.cst (.str [114, 101, 110, 116])) (.cons (.cst (.str [116, 97, 120])) .nil)))) (.cons (.tup (.cons (.tup (.cons (.cst (.str [97, 110, 110])) (.cons (.tup (.cons (.cst (.str [114, 101, 110, 116])) (.cons (.cst (.str [103, 97, 115])) (.cons (.cst (.str [116, 97, 120])) .nil)))) .nil))) (.cons (.tup (.cons (.cst (.str [98, 111, 98])) (.cons (.tup (.cons (.cst (.str [103, 97, 115])) (.cons (.cst (.str [116, 97, 120])) .nil))) .nil))) (.cons (.tup (.cons (.cst (.str [99, 105, 100])) (.cons (.tup (.cons (.cst (.str [116, 97, 120])) (.cons (.cst (.str [114, 101, 110, 116])) .nil))) .nil))) .nil)))) .nil))))
def f11 : Fn := ⟨[], 0, b11⟩
/-- 12: _law_by_hand_right; 0 _law_got 1 _law_due 2 _law_mixed_so 3 _law_soft 4 _law_lap 5 _law_ann_so 6 _law_bob_so 7 _law_cid_so 8 _law_six_so 9 _law_back_so 10 _law_own 11 _law_tag 12 _law_k -/
def b12_0 : S := (.expr (.app (.var 0) (.call 2 [2, 1, 0] (.cons (.cst (.str [114, 101, 110, 116])) (.cons (.ix (.var 3) (.cst (.int 1))) (.cons (.ix (.var 3) (.cst (.int 0))) .nil))))))
def l12_1 : S := (.loop (.v 4) (.rng1 (.cst (.int 2))) b12_0)
def c12_2 : E := (.lc [11] (.v 11) (.it (.cst (.str [97, 98, 99, 100, 101, 102]))) .nop (.call 2 [0, 1, 2] (.cons (.var 2) (.cons (.var 8) (.cons (.var 11) .nil)))))
def c12_3 : E := (.lc [11] (.v 11) (.it (.cst (.str [97, 98, 99, 100, 101, 102]))) .nop (.call 2 [0, 1, 2] (.cons (.var 8) (.cons (.var 2) (.cons (.var 11) .nil)))))
def c12_4 : E := (.lc [12] (.v 12) (.rng2 (.cst (.int 1)) (.cst (.int 7))) .nop (.sl (.var 8) (.var 12) .nop))
def c12_5 : E := (.lc [11] (.v 11) (.it (.cst (.str [99, 100]))) .nop (.call 2 [0, 1, 2] (.cons (.var 8) (.cons (.tup (.cons (.cst (.str [100])) .nil)) (.cons (.var 11) .nil)))))
def c12_6 : E := (.lc [11] (.v 11) (.it (.cst (.str [97, 102]))) .nop (.call 2 [0, 1, 2] (.cons (.var 8) (.cons (.var 9) (.cons (.var 11) .nil)))))
def c12_7 : E := (.lc [11] (.v 11) (.it (.cst (.str [97, 98, 99, 100, 101, 102]))) .nop (.call 2 [0, 1, 2] (.cons (.var 8) (.cons (.var 8) (.cons (.var 11) .nil)))))
def c12_8 : E := (.lc [11] (.v 11) (.it (.tup (.cons (.cst (.str [103, 97, 115])) (.cons (.cst (.str [114, 101, 110, 116])) (.cons (.cst (.str [116, 97, 120])) .nil))))) .nop (.call 2 [0, 1, 2] (.cons (.var 7) (.cons (.var 5) (.cons (.var 11) .nil)))))
def c12_9 : E := (.lc [11] (.v 11) (.it (.tup (.cons (.cst (.str [103, 97, 115])) (.cons (.cst (.str [114, 101, 110, 116])) (.cons (.cst (.str [116, 97, 120])) .nil))))) .nop (.call 2 [0, 1, 2] (.cons (.var 5) (.cons (.var 7) (.cons (.var 11) .nil)))))
def c12_10 : E := (.lc [11] (.v 11) (.it (.tup (.cons (.cst (.str [103, 97, 115])) (.cons (.cst (.str [114, 101, 110, 116])) (.cons (.cst (.str [116, 97, 120])) .nil))))) .nop (.call 2 [0, 1, 2] (.cons (.var 6) (.cons (.var 5) (.cons (.var 11) .nil)))))
def c12_11 : E := (.lc [11] (.v 11) (.it (.tup (.cons (.cst (.str [103, 97, 115])) (.cons (.cst (.str [114, 101, 110, 116])) (.cons (.cst (.str [116, 97, 120])) .nil))))) .nop (.call 2 [0, 1, 2] (.cons (.var 5) (.cons (.var 6) (.cons (.var 11) .nil)))))
def c12_12 : E := (.lc [10] (.v 10) (.it (.ix (.call 11 [] .nil) (.cst (.int 1)))) .nop (.ix (.var 10) (.cst (.int 1))))
def b12 : S :=
    (.seq (.unp (.tu (.cons (.v 5) (.cons (.v 6) (.cons (.v 7) .nil)))) c12_12)
    (.seq (.setv 0 (.lst (.cons c12_11 (.cons c12_10 .nil))))
    (.seq (.setv 1 (.lst (.cons (.lst (.cons (.tup (.cons (.cst (.str [116, 97, 120])) .nil)) (.cons (.cst .non) (.cons (.tup .nil) .nil)))) (.cons (.lst (.cons (.tup (.cons (.cst (.str [116, 97, 120])) .nil)) (.cons (.cst .non) (.cons (.tup .nil) .nil)))) .nil))))
    (.seq (.setv 0 (.bin .add (.var 0) (.lst (.cons c12_9 (.cons c12_8 .nil)))))
    (.seq (.setv 1 (.bin .add (.var 1) (.lst (.cons (.lst (.cons (.cst .non) (.cons (.tup (.cons (.cst (.str [103, 97, 115])) .nil)) (.cons (.tup .nil) .nil)))) (.cons (.lst (.cons (.cst .non) (.cons (.tup .nil) (.cons (.tup .nil) .nil)))) .nil)))))
    (.seq (.unp (.tu (.cons (.v 8) (.cons (.v 9) .nil))) (.tup (.cons (.bi .tuple (.cons (.cst (.str [97, 98, 99, 100, 101, 102])) .nil)) (.cons (.bi .tuple (.cons (.cst (.str [102, 101, 100, 99, 98, 97])) .nil)) .nil))))
    (.seq (.expr (.app (.var 0) c12_7))
    (.seq (.expr (.app (.var 0) c12_6))
    (.seq (.expr (.app (.var 0) c12_5))
    (.seq (.setv 1 (.bin .add (.var 1) (.lst (.cons c12_4 (.cons (.lst (.cons (.tup .nil) (.cons (.tup .nil) .nil))) (.cons (.lst (.cons (.cst .non) (.cons (.tup (.cons (.cst (.str [101])) (.cons (.cst (.str [102])) .nil))) .nil))) .nil))))))
    (.seq (.setv 2 (.tup (.cons (.cst (.str [99])) (.cons (.cst (.str [97])) (.cons (.cst (.str [102])) (.cons (.cst (.str [98])) (.cons (.cst (.str [101])) (.cons (.cst (.str [100])) .nil))))))))
    (.seq (.expr (.app (.var 0) c12_3))
    (.seq (.expr (.app (.var 0) c12_2))
    (.seq (.setv 1 (.bin .add (.var 1) (.lst (.cons (.lst (.cons (.tup (.cons (.cst (.str [98])) (.cons (.cst (.str [100])) (.cons (.cst (.str [101])) (.cons (.cst (.str [102])) .nil))))) (.cons (.tup (.cons (.cst (.str [100])) (.cons (.cst (.str [101])) .nil))) (.cons (.tup (.cons (.cst (.str [100])) (.cons (.cst (.str [101])) (.cons (.cst (.str [102])) .nil)))) (.cons (.tup .nil) (.cons (.tup .nil) (.cons (.tup .nil) .nil))))))) .nil))))
    (.seq (.setv 1 (.bin .add (.var 1) (.lst (.cons (.lst (.cons (.tup (.cons (.cst (.str [102])) (.cons (.cst (.str [98])) (.cons (.cst (.str [101])) (.cons (.cst (.str [100])) .nil))))) (.cons (.tup (.cons (.cst (.str [101])) (.cons (.cst (.str [100])) .nil))) (.cons (.tup (.cons (.cst (.str [102])) (.cons (.cst (.str [101])) (.cons (.cst (.str [100])) .nil)))) (.cons (.tup .nil) (.cons (.tup .nil) (.cons (.tup .nil) .nil))))))) .nil))))
    (.seq (.setv 0 (.bin .add (.var 0) (.lst (.cons (.call 2 [0, 1, 2] (.cons (.tup .nil) (.cons (.tup (.cons (.cst (.str [97])) .nil)) (.cons (.cst (.str [97])) .nil)))) (.cons (.call 2 [0, 1, 2] (.cons (.tup (.cons (.cst (.str [97])) .nil)) (.cons (.tup .nil) (.cons (.cst (.str [97])) .nil)))) .nil)))))
    (.seq (.setv 0 (.bin .add (.var 0) (.lst (.cons (.call 2 [0, 1, 2] (.cons (.tup .nil) (.cons (.tup .nil) (.cons (.cst (.str [97])) .nil)))) .nil))))
    (.seq (.setv 0 (.bin .add (.var 0) (.lst (.cons (.call 2 [0, 1, 2] (.cons (.tup (.cons (.cst (.str [97])) .nil)) (.cons (.tup (.cons (.cst (.str [98])) .nil)) (.cons (.cst (.str [97])) .nil)))) (.cons (.call 2 [0, 1, 2] (.cons (.tup (.cons (.cst (.str [97])) .nil)) (.cons (.tup (.cons (.cst (.str [97])) .nil)) (.cons (.cst (.str [97])) .nil)))) .nil)))))
    (.seq (.expr (.app (.var 0) (.call 2 [0, 1, 2] (.cons (.tup (.cons (.cst (.str [97])) .nil)) (.cons (.tup (.cons (.cst (.str [97])) .nil)) (.cons (.cst (.str [97, 97])) .nil))))))
    (.seq (.setv 1 (.bin .add (.var 1) (.lst (.cons (.cst .non) (.cons (.cst .non) (.cons (.cst .non) (.cons (.cst .non) (.cons (.tup .nil) (.cons (.cst .non) .nil)))))))))
    (.seq (.setv 3 (.lst (.cons (.bi .list (.cons (.var 5) .nil)) (.cons (.bi .list (.cons (.var 7) .nil)) .nil))))
    (.seq l12_1
    (.ret (.call 7 [0, 1] (.cons (.bin .add (.var 0) (.var 3)) (.cons (.bin .add (.bin .add (.var 1) (.repl (.lst (.cons (.tup (.cons (.cst (.str [103, 97, 115])) .nil)) .nil)) (.cst (.int 2)))) (.lst (.cons (.lst (.cons (.cst (.str [114, 101, 110, 116])) (.cons (.cst (.str [103, 97, 115])) (.cons (.cst (.str [116, 97, 120])) .nil)))) (.cons (.lst (.cons (.cst (.str [116, 97, 120])) (.cons (.cst (.str [114, 101, 110, 116])) .nil))) .nil)))) .nil))))))))))))))))))))))))))
def f12 : Fn := ⟨[], 13, b12⟩
/-- 13: _law_right; 0 _law_tub 1 _law_turn 2 _law_tags_here 3 _law_tag 4 _law_near 5 _law_far 6 _law_due -/
def b13_0 : S := (.seq (.setv 6 (.ite (.and (.cmp .isin (.var 3) (.var 4)) (.cmp .isin (.var 3) (.var 5))) (.call 10 [0, 1, 2] (.cons (.var 4) (.cons (.var 5) (.cons (.var 3) .nil)))) (.cst .non)))
    (.ite (.not (.call 7 [0, 1] (.cons (.lst (.cons (.call 2 [0, 1, 2] (.cons (.var 4) (.cons (.var 5) (.cons (.var 3) .nil)))) (.cons (.call 2 [0, 1, 2] (.cons (.bi .list (.cons (.var 4) .nil)) (.cons (.bi .list (.cons (.var 5) .nil)) (.cons (.var 3) .nil)))) .nil))) (.cons (.lst (.cons (.var 6) (.cons (.var 6) .nil))) .nil)))) (.ret (.cst (.bl false))) .skip))
def l13_1 : S := (.loop (.v 3) (.it (.tup (.cons (.cst (.str [97])) (.cons (.cst (.str [98])) (.cons (.cst (.str [103, 97, 115])) (.cons (.cst (.str [114, 101, 110, 116])) (.cons (.cst (.str [116, 97, 120])) (.cons (.cst (.str [120])) (.cons (.cst (.str [122, 122, 122, 122, 122, 122, 122, 122])) .nil))))))))) b13_0)
def b13_2 : S := (.seq (.setv 2 (.call 9 [0, 1] (.cons (.var 0) (.cons (.cst (.int 6)) .nil))))
    (.seq (.par [4, 5] (.cons (.call 8 [0, 1, 2] (.cons (.var 0) (.cons (.var 2) (.cons (.cst (.int 6)) .nil)))) (.cons (.call 8 [0, 1, 2] (.cons (.var 0) (.cons (.var 2) (.cons (.cst (.int 6)) .nil)))) .nil)))
    l13_1))
def l13_3 : S := (.loop (.v 1) (.rng1 (.cst (.int 30))) b13_2)
def b13 : S :=
    (.seq l13_3
    (.ret (.cst (.bl true))))
def f13 : Fn := ⟨[true], 7, b13⟩
/-- 14: law; 0 _law_script 1 _law_cells_so 2 _law_k -/
def c14_0 : E := (.lc [2] (.v 2) (.rng1 (.bi .len (.cons (.var 1) .nil))) .nop (.call 13 [0] (.cons (.call 3 [0, 1] (.cons (.var 1) (.cons (.var 2) .nil))) .nil)))
def b14 : S :=
    (.seq (.ite (.not (.call 12 [] .nil)) (.ret (.cst (.bl false))) .skip)
    (.seq (.setv 1 (.call 5 [0, 1] (.cons (.var 0) (.cons (.cst (.int 3)) .nil))))
    (.ret (.bi .all (.cons c14_0 .nil)))))
def f14 : Fn := ⟨[false], 3, b14⟩
def fns : List Fn := [f0, f1, f2, f3, f4, f5, f6, f7, f8, f9, f10, f11, f12, f13, f14]
end Qk16

namespace Qk16
open PySem PySem.Spec PyProof.Rows L2 Mini
def top (i : Nat) : Stmt := PySem.Challenge.pw_ownlists_k16_rests_of_bills.main.body.getD i (.Pass ⟨0, 0, 0, 0⟩)
abbrev s0 : Stmt := top 1
abbrev N0 : List Str := ["value", "part"]
abbrev s1 : Stmt := top 3
abbrev N1 : List Str := ["one", "other", "bill", "hidden", "mate"]
abbrev s2 : Stmt := top 4
abbrev N2 : List Str := ["one", "other", "bill"]
abbrev s3 : Stmt := top 6
abbrev N3 : List Str := ["_law_script", "_law_k", "_law_cell"]
abbrev s4 : Stmt := top 7
abbrev N4 : List Str := ["_law_tub", "_law_top_to", "_law_once", "_law_odd", "_law_twice", "_law_drawn"]
abbrev s5 : Stmt := top 8
abbrev N5 : List Str := ["_law_script", "_law_most_so", "_law_cells_so", "_law_k", "_law_far_so", "_law_spot_so"]
abbrev s6 : Stmt := top 9
abbrev N6 : List Str := ["_law_tub", "_law_few_so", "_law_much_so", "_law_turn", "_law_left", "_law_found"]
abbrev s7 : Stmt := top 10
abbrev N7 : List Str := ["_law_got", "_law_due", "_law_like", "_law_mine", "_law_its"]
abbrev s8 : Stmt := top 11
abbrev N8 : List Str := ["_law_tub", "_law_tags_here", "_law_most_so"]
abbrev s9 : Stmt := top 12
abbrev N9 : List Str := ["_law_tub", "_law_many_so"]
abbrev s10 : Stmt := top 13
abbrev N10 : List Str := ["_law_near", "_law_far", "_law_tag", "_law_found", "_law_own"]
abbrev s11 : Stmt := top 14
abbrev N11 : List Str := []
abbrev s12 : Stmt := top 15
abbrev N12 : List Str := ["_law_got", "_law_due", "_law_mixed_so", "_law_soft", "_law_lap", "_law_ann_so", "_law_bob_so", "_law_cid_so", "_law_six_so", "_law_back_so", "_law_own", "_law_tag", "_law_k"]
abbrev s13 : Stmt := top 16
abbrev N13 : List Str := ["_law_tub", "_law_turn", "_law_tags_here", "_law_tag", "_law_near", "_law_far", "_law_due"]
abbrev s14 : Stmt := top 17
abbrev N14 : List Str := ["_law_script", "_law_cells_so", "_law_k"]
def psOf : Nat → List Str
  | 0 => ["value"]
  | 1 => ["one", "other", "bill"]
  | 2 => ["one", "other", "bill"]
  | 3 => ["_law_script", "_law_k"]
  | 4 => ["_law_tub", "_law_top_to"]
  | 5 => ["_law_script", "_law_most_so"]
  | 6 => ["_law_tub", "_law_few_so", "_law_much_so"]
  | 7 => ["_law_got", "_law_due"]
  | 8 => ["_law_tub", "_law_tags_here", "_law_most_so"]
  | 9 => ["_law_tub", "_law_many_so"]
  | 10 => ["_law_near", "_law_far", "_law_tag"]
  | 11 => []
  | 12 => []
  | 13 => ["_law_tub"]
  | 14 => ["_law_script"]
  | _ => []
theorem sc0 : FnScope N0 (psOf 0) (defScope s0) := ⟨rfl, rfl, rfl, by decide +kernel, rfl, by decide +kernel, by decide +kernel⟩
theorem sc1 : FnScope N1 (psOf 1) (defScope s1) := ⟨rfl, rfl, rfl, by decide +kernel, rfl, by decide +kernel, by decide +kernel⟩
theorem sc2 : FnScope N2 (psOf 2) (defScope s2) := ⟨rfl, rfl, rfl, by decide +kernel, rfl, by decide +kernel, by decide +kernel⟩
theorem sc3 : FnScope N3 (psOf 3) (defScope s3) := ⟨rfl, rfl, rfl, by decide +kernel, rfl, by decide +kernel, by decide +kernel⟩
theorem sc4 : FnScope N4 (psOf 4) (defScope s4) := ⟨rfl, rfl, rfl, by decide +kernel, rfl, by decide +kernel, by decide +kernel⟩
theorem sc5 : FnScope N5 (psOf 5) (defScope s5) := ⟨rfl, rfl, rfl, by decide +kernel, rfl, by decide +kernel, by decide +kernel⟩
theorem sc6 : FnScope N6 (psOf 6) (defScope s6) := ⟨rfl, rfl, rfl, by decide +kernel, rfl, by decide +kernel, by decide +kernel⟩
theorem sc7 : FnScope N7 (psOf 7) (defScope s7) := ⟨rfl, rfl, rfl, by decide +kernel, rfl, by decide +kernel, by decide +kernel⟩
theorem sc8 : FnScope N8 (psOf 8) (defScope s8) := ⟨rfl, rfl, rfl, by decide +kernel, rfl, by decide +kernel, by decide +kernel⟩
theorem sc9 : FnScope N9 (psOf 9) (defScope s9) := ⟨rfl, rfl, rfl, by decide +kernel, rfl, by decide +kernel, by decide +kernel⟩
theorem sc10 : FnScope N10 (psOf 10) (defScope s10) := ⟨rfl, rfl, rfl, by decide +kernel, rfl, by decide +kernel, by decide +kernel⟩
theorem sc11 : FnScope N11 (psOf 11) (defScope s11) := ⟨rfl, rfl, rfl, by decide +kernel, rfl, by decide +kernel, by decide +kernel⟩
theorem sc12 : FnScope N12 (psOf 12) (defScope s12) := ⟨rfl, rfl, rfl, by decide +kernel, rfl, by decide +kernel, by decide +kernel⟩
theorem sc13 : FnScope N13 (psOf 13) (defScope s13) := ⟨rfl, rfl, rfl, by decide +kernel, rfl, by decide +kernel, by decide +kernel⟩
theorem sc14 : FnScope N14 (psOf 14) (defScope s14) := ⟨rfl, rfl, rfl, by decide +kernel, rfl, by decide +kernel, by decide +kernel⟩
structure Ctx (K : PySem.W.Frag) (mg : Str → Option Value) (f : Nat → Addr) (fd : Nat → FuncData) : Prop where
  F0 : FnP K "tupled" s0 (f 0) (fd 0)
  F1 : FnP K "rest_of" s1 (f 1) (fd 1)
  F2 : FnP K "rest_beside" s2 (f 2) (fd 2)
  F3 : FnP K "_law_box" s3 (f 3) (fd 3)
  F4 : FnP K "_law_take" s4 (f 4) (fd 4)
  F5 : FnP K "_law_cells" s5 (f 5) (fd 5)
  F6 : FnP K "_law_pick" s6 (f 6) (fd 6)
  F7 : FnP K "_law_same" s7 (f 7) (fd 7)
  F8 : FnP K "_law_line" s8 (f 8) (fd 8)
  F9 : FnP K "_law_tags" s9 (f 9) (fd 9)
  F10 : FnP K "_law_rest" s10 (f 10) (fd 10)
  F11 : FnP K "_law_kit" s11 (f 11) (fd 11)
  F12 : FnP K "_law_by_hand_right" s12 (f 12) (fd 12)
  F13 : FnP K "_law_right" s13 (f 13) (fd 13)
  F14 : FnP K "law" s14 (f 14) (fd 14)
  M0 : mg "tupled" = some (.ref (f 0))
  M1 : mg "rest_of" = some (.ref (f 1))
  M2 : mg "rest_beside" = some (.ref (f 2))
  M3 : mg "_law_box" = some (.ref (f 3))
  M4 : mg "_law_take" = some (.ref (f 4))
  M5 : mg "_law_cells" = some (.ref (f 5))
  M6 : mg "_law_pick" = some (.ref (f 6))
  M7 : mg "_law_same" = some (.ref (f 7))
  M8 : mg "_law_line" = some (.ref (f 8))
  M9 : mg "_law_tags" = some (.ref (f 9))
  M10 : mg "_law_rest" = some (.ref (f 10))
  M11 : mg "_law_kit" = some (.ref (f 11))
  M12 : mg "_law_by_hand_right" = some (.ref (f 12))
  M13 : mg "_law_right" = some (.ref (f 13))
  M14 : mg "law" = some (.ref (f 14))
  B : NoB mg
section
variable {P : Program} {w : World} {K : PySem.W.Frag} {mg : Str → Option Value} {base : Heap} {f : Nat → Addr} {fd : Nat → FuncData}
theorem bd0 (C : Ctx K mg f fd) : Binds K (fd 0) (psOf 0) [] := C.F0.bindsN fun _ _ _ _ _ _ us hl => match us, hl with | [_], _ => rfl
theorem bd1 (C : Ctx K mg f fd) : Binds K (fd 1) (psOf 1) [] := C.F1.bindsN fun _ _ _ _ _ _ us hl => match us, hl with | [_, _, _], _ => rfl
theorem bd2 (C : Ctx K mg f fd) : Binds K (fd 2) (psOf 2) [] := C.F2.bindsN fun _ _ _ _ _ _ us hl => match us, hl with | [_, _, _], _ => rfl
theorem bd3 (C : Ctx K mg f fd) : Binds K (fd 3) (psOf 3) [] := C.F3.bindsN fun _ _ _ _ _ _ us hl => match us, hl with | [_, _], _ => rfl
theorem bd4 (C : Ctx K mg f fd) : Binds K (fd 4) (psOf 4) [] := C.F4.bindsN fun _ _ _ _ _ _ us hl => match us, hl with | [_, _], _ => rfl
theorem bd5 (C : Ctx K mg f fd) : Binds K (fd 5) (psOf 5) [] := C.F5.bindsN fun _ _ _ _ _ _ us hl => match us, hl with | [_, _], _ => rfl
theorem bd6 (C : Ctx K mg f fd) : Binds K (fd 6) (psOf 6) [] := C.F6.bindsN fun _ _ _ _ _ _ us hl => match us, hl with | [_, _, _], _ => rfl
theorem bd7 (C : Ctx K mg f fd) : Binds K (fd 7) (psOf 7) [] := C.F7.bindsN fun _ _ _ _ _ _ us hl => match us, hl with | [_, _], _ => rfl
theorem bd8 (C : Ctx K mg f fd) : Binds K (fd 8) (psOf 8) [] := C.F8.bindsN fun _ _ _ _ _ _ us hl => match us, hl with | [_, _, _], _ => rfl
theorem bd9 (C : Ctx K mg f fd) : Binds K (fd 9) (psOf 9) [] := C.F9.bindsN fun _ _ _ _ _ _ us hl => match us, hl with | [_, _], _ => rfl
theorem bd10 (C : Ctx K mg f fd) : Binds K (fd 10) (psOf 10) [] := C.F10.bindsN fun _ _ _ _ _ _ us hl => match us, hl with | [_, _, _], _ => rfl
theorem bd11 (C : Ctx K mg f fd) : Binds K (fd 11) (psOf 11) [] := C.F11.bindsN fun _ _ _ _ _ _ us hl => match us, hl with | [], _ => rfl
theorem bd12 (C : Ctx K mg f fd) : Binds K (fd 12) (psOf 12) [] := C.F12.bindsN fun _ _ _ _ _ _ us hl => match us, hl with | [], _ => rfl
theorem bd13 (C : Ctx K mg f fd) : Binds K (fd 13) (psOf 13) [] := C.F13.bindsN fun _ _ _ _ _ _ us hl => match us, hl with | [_], _ => rfl
theorem bd14 (C : Ctx K mg f fd) : Binds K (fd 14) (psOf 14) [] := C.F14.bindsN fun _ _ _ _ _ _ us hl => match us, hl with | [_], _ => rfl
theorem kb_2_210 (C : Ctx K mg f fd) (s : Shared) (ws : List Value) (_ : K.In s.heap) (hl : ws.length = (["bill", "other", "one"] : List Str).length) : BindsTo s (fd 2) ⟨[], (["bill", "other", "one"] : List Str).zip ws⟩ ((psOf 2).zip ([2, 1, 0].map fun i => ws.getD i .none)) := by
  obtain ⟨oc, od, dV, kV, doc, pm, an, cdv, ct, osl, e, _, _, hD, _⟩ := C.F2.ex
  rw [e, dfl0 hD]
  exact .of_eq (match ws, hl with | [_, _, _], _ => rfl)
abbrev IHt (P : Program) (w : World) (K : PySem.W.Frag) (mg : Str → Option Value) (base : Heap) (f : Nat → Addr) (fd : Nat → FuncData) (n : Nat) : Prop := ∀ i, FnOk P w K mg base CX0 n (f i) (fd i) (psOf i) (spF K (run fns n) i)
set_option maxHeartbeats 4000000 in
theorem body0 {n : Nat} (C : Ctx K mg f fd) (IH : IHt P w K mg base f fd n) : FnOk P w K mg base CX0 (n + 1) (f 0) (fd 0) (psOf 0) (spF K (run fns (n + 1)) 0) := by
  refine fn_okD C.F0 sc0 (fn := f0) rfl rfl rfl fun cdv A outer s H E hr => ?_
  have nd : (N0).Nodup := sc0.nd
  exact (s_one (s_ret (r_ite (t_val (fun _ => rfl) (r_isi2 (t := .list) (t' := .tuple) (by rfl) C.B.list bo_list (by decide) (by rfl) (by rfl) C.B.tuple bo_tuple (by decide) (by rfl) (by rfl) C.B.isin (r_var rfl (.inl rfl) rfl rfl) (by rfl))) (w_tuple rfl C.B (a_cons (r_lc (own := [("part", 1)]) rfl nd (i_val (r_var rfl (.inl rfl) rfl rfl)) (blkOk_by rfl) (fun _ _ _ _ _ => (g_name nd rfl (.inl rfl) (.inr rfl))) (fun _ _ _ _ _ => c_none) (fun _ _ _ _ _ => (r_call (IH 0) hr (by rfl) C.M0 C.F0.kp (bd0 C) (a_cons (r_var rfl (.inl rfl) rfl rfl) a_nil rfl) (by rfl) (by rfl) (by rfl) (by rfl))) (fun _ => rfl) (by decide) (ntp rfl)) a_nil rfl)) (r_var rfl (.inl rfl) rfl rfl))))
set_option maxHeartbeats 4000000 in
theorem body1 {n : Nat} (C : Ctx K mg f fd) (IH : IHt P w K mg base f fd n) : FnOk P w K mg base CX0 (n + 1) (f 1) (fd 1) (psOf 1) (spF K (run fns (n + 1)) 1) := by
  refine fn_okD C.F1 sc1 (fn := f1) rfl rfl rfl fun cdv A outer s H E hr => ?_
  have nd : (N1).Nodup := sc1.nd
  exact (s_seq (s_setv nd rfl (.inr rfl) (r_sl (r_var rfl (.inl rfl) rfl rfl) p_none (p_some rfl (r_index (u65 hr) (r_var rfl (.inl rfl) rfl rfl) (r_var rfl (.inl rfl) rfl rfl) rfl rfl rfl))) rfl (.inl rfl))
    (s_one (s_ret (w_tuple rfl C.B (a_cons (r_lc (own := [("mate", 4)]) rfl nd (i_val (r_sl (r_var rfl (.inl rfl) rfl rfl) (p_some rfl (r_add (r_index (u65 hr) (r_var rfl (.inl rfl) rfl rfl) (r_var rfl (.inl rfl) rfl rfl) rfl rfl rfl) w_int)) p_none)) (blkOk_by rfl) (fun _ _ _ _ _ => (g_name nd rfl (.inl rfl) (.inr rfl))) (fun _ _ _ _ _ => (c_one rfl (t_cmp (o := .notin) (u65 hr) (r_var rfl (.inl rfl) rfl rfl) (r_var rfl (.inr (.inl rfl)) rfl rfl) rfl))) (fun _ _ _ _ _ => (r_var rfl (.inl rfl) rfl rfl)) (fun _ => rfl) (by decide) (ntp rfl)) a_nil rfl)))))
set_option maxHeartbeats 4000000 in
theorem body2 {n : Nat} (C : Ctx K mg f fd) (IH : IHt P w K mg base f fd n) : FnOk P w K mg base CX0 (n + 1) (f 2) (fd 2) (psOf 2) (spF K (run fns (n + 1)) 2) := by
  refine fn_okD C.F2 sc2 (fn := f2) rfl rfl rfl fun cdv A outer s H E hr => ?_
  have nd : (N2).Nodup := sc2.nd
  exact (s_seq (s_ite (PW.pt (t_or (t_cmp (o := .notin) (u65 hr) (r_var rfl (.inl rfl) rfl rfl) (r_var rfl (.inl rfl) rfl rfl) rfl) (t_or1 (t_cmp (o := .notin) (u65 hr) (r_var rfl (.inl rfl) rfl rfl) (r_var rfl (.inl rfl) rfl rfl) rfl)))) (s_one (s_ret w_non)) s_skip)
    (s_one (s_ret (r_call (IH 1) hr (by rfl) C.M1 C.F1.kp (bd1 C) (a_cons (r_call (IH 0) hr (by rfl) C.M0 C.F0.kp (bd0 C) (a_cons (r_var rfl (.inl rfl) rfl rfl) a_nil rfl) (by rfl) (by rfl) (by rfl) (by rfl)) (a_cons (r_call (IH 0) hr (by rfl) C.M0 C.F0.kp (bd0 C) (a_cons (r_var rfl (.inl rfl) rfl rfl) a_nil rfl) (by rfl) (by rfl) (by rfl) (by rfl)) (a_cons (r_var rfl (.inl rfl) rfl rfl) a_nil rfl) rfl) rfl) (by rfl) (by rfl) (by rfl) (by rfl)))))
set_option maxHeartbeats 4000000 in
theorem body3 {n : Nat} (C : Ctx K mg f fd) (IH : IHt P w K mg base f fd n) : FnOk P w K mg base CX0 (n + 1) (f 3) (fd 3) (psOf 3) (spF K (run fns (n + 1)) 3) := by
  refine fn_okD C.F3 sc3 (fn := f3) rfl rfl rfl fun cdv A outer s H E hr => ?_
  have nd : (N3).Nodup := sc3.nd
  exact (s_seq (s_setv nd rfl (.inl rfl) (r_ite (t_cmp (o := .lt) (u65 hr) (r_var rfl (.inl rfl) rfl rfl) (w_len rfl C.B (a_cons (r_var rfl (.inl rfl) rfl rfl) a_nil rfl)) rfl) (r_ix (r_var rfl (.inl rfl) rfl rfl) (r_var rfl (.inl rfl) rfl rfl) (fun _ _ => rfl)) w_int) rfl (.inl rfl))
    (s_one (s_ret (r_lst (a_cons (r_mul (w_abs rfl C.B (a_cons (r_var rfl (.inl rfl) rfl rfl) a_nil rfl)) (w_intf rfl C.B (a_cons (r_cmp (o := .ge) (u65 hr) (w_abs rfl C.B (a_cons (r_var rfl (.inl rfl) rfl rfl) a_nil rfl)) (r_pow w_int w_int) rfl) a_nil rfl))) (a_cons (r_add (r_add (r_mod (w_intf rfl C.B (a_cons (r_var rfl (.inl rfl) rfl rfl) a_nil rfl)) w_int) (r_mul w_int (r_var rfl (.inl rfl) rfl rfl))) w_int) (a_cons w_int a_nil rfl) rfl) rfl)))))
set_option maxHeartbeats 4000000 in
theorem body4 {n : Nat} (C : Ctx K mg f fd) (IH : IHt P w K mg base f fd n) : FnOk P w K mg base CX0 (n + 1) (f 4) (fd 4) (psOf 4) (spF K (run fns (n + 1)) 4) := by
  refine fn_okD C.F4 sc4 (fn := f4) rfl rfl rfl fun cdv A outer s H E hr => ?_
  have nd : (N4).Nodup := sc4.nd
  exact (s_seq (s_ite (t_cmp (o := .gt) (u65 hr) (r_ix (r_var rfl (.inl rfl) rfl rfl) w_int (fun _ _ => rfl)) w_int rfl) (s_seq (s_setv nd rfl (.inl rfl) (r_mod (w_intf rfl C.B (a_cons (r_ix (r_var rfl (.inl rfl) rfl rfl) w_int (fun _ _ => rfl)) a_nil rfl)) (r_var rfl (.inl rfl) rfl rfl)) rfl (.inl rfl))
    (s_seq (s_seti (r_fdiv (r_ix (r_var rfl (.inl rfl) rfl rfl) w_int (fun _ _ => rfl)) (r_var rfl (.inl rfl) rfl rfl)) (r_var rfl (.inl rfl) rfl rfl) w_int (fun _ => rfl) rfl rfl rfl)
    (s_one (s_ret (r_var rfl (.inl rfl) rfl rfl))))) s_skip)
    (s_seq (s_seti (r_add (r_ix (r_var rfl (.inl rfl) rfl rfl) w_int (fun _ _ => rfl)) w_int) (r_var rfl (.inl rfl) rfl rfl) w_int (fun _ => rfl) rfl rfl rfl)
    (s_seq (s_setv nd rfl (.inl rfl) (r_mod (w_intf rfl C.B (a_cons (r_mul (r_add (r_ix (r_var rfl (.inl rfl) rfl rfl) w_int (fun _ _ => rfl)) (r_mul w_int (r_ix (r_var rfl (.inl rfl) rfl rfl) w_int (fun _ _ => rfl)))) (r_add w_int (r_ix (r_var rfl (.inl rfl) rfl rfl) w_int (fun _ _ => rfl)))) a_nil rfl)) w_int) rfl (.inl rfl))
    (s_seq (s_setv nd rfl (.inl rfl) (r_add (r_mod (w_intf rfl C.B (a_cons (r_var rfl (.inl rfl) rfl rfl) a_nil rfl)) w_int) w_int) rfl (.inl rfl))
    (s_seq (s_setv nd rfl (.inl rfl) (r_mod (w_intf rfl C.B (a_cons (r_mul (r_add (r_add (r_var rfl (.inl rfl) rfl rfl) (r_ix (r_var rfl (.inl rfl) rfl rfl) w_int (fun _ _ => rfl))) (r_fdiv (r_ix (r_var rfl (.inl rfl) rfl rfl) w_int (fun _ _ => rfl)) w_int)) (r_var rfl (.inl rfl) rfl rfl)) a_nil rfl)) w_int) rfl (.inl rfl))
    (s_one (s_ret (r_mod (w_intf rfl C.B (a_cons (r_fdiv (r_mod (w_intf rfl C.B (a_cons (r_add (r_mul (r_var rfl (.inl rfl) rfl rfl) w_int) (r_var rfl (.inl rfl) rfl rfl)) a_nil rfl)) w_int) w_int) a_nil rfl)) (r_var rfl (.inl rfl) rfl rfl)))))))))
set_option maxHeartbeats 4000000 in
theorem body5 {n : Nat} (C : Ctx K mg f fd) (IH : IHt P w K mg base f fd n) : FnOk P w K mg base CX0 (n + 1) (f 5) (fd 5) (psOf 5) (spF K (run fns (n + 1)) 5) := by
  refine fn_okD C.F5 sc5 (fn := f5) rfl rfl rfl fun cdv A outer s H E hr => ?_
  have nd : (N5).Nodup := sc5.nd
  exact (s_seq (s_setv nd rfl (.inl rfl) (r_or (w_list rfl C.B (a_cons (r_sl (r_var rfl (.inl rfl) rfl rfl) p_none (p_some rfl (r_var rfl (.inl rfl) rfl rfl))) a_nil rfl)) (r_and1 (r_lst (a_cons w_int a_nil rfl)))) rfl (.inl rfl))
    (s_seq (s_for PassesOwn.never rfl (w_enum C.B (r_sl (r_var rfl (.inl rfl) rfl rfl) (p_some rfl (r_var rfl (.inl rfl) rfl rfl)) (p_some rfl w_int))) (w_tup rfl (gs_cons (g_name nd rfl (.inl rfl) (.inl rfl)) (gs_cons (g_name nd rfl (.inl rfl) (.inl rfl)) gs_nil rfl) rfl) rfl rfl) (s_seq (s_setv nd rfl (.inl rfl) (r_mod (w_intf rfl C.B (a_cons (r_var rfl (.inl rfl) rfl rfl) a_nil rfl)) (r_var rfl (.inl rfl) rfl rfl)) rfl (.inl rfl))
    (s_one (s_seti (r_add (r_ix (r_var rfl (.inl rfl) rfl rfl) (r_var rfl (.inl rfl) rfl rfl) (fun _ _ => rfl)) (r_mul (r_var rfl (.inl rfl) rfl rfl) (r_add (r_var rfl (.inl rfl) rfl rfl) w_int))) (r_var rfl (.inl rfl) rfl rfl) (r_var rfl (.inl rfl) rfl rfl) (fun _ => rfl) rfl rfl rfl))) (fun _ => rfl) (fun _ => ⟨_, rfl⟩))
    (s_one (s_ret (r_var rfl (.inl rfl) rfl rfl)))))
set_option maxHeartbeats 4000000 in
theorem body6 {n : Nat} (C : Ctx K mg f fd) (IH : IHt P w K mg base f fd n) : FnOk P w K mg base CX0 (n + 1) (f 6) (fd 6) (psOf 6) (spF K (run fns (n + 1)) 6) := by
  refine fn_okD C.F6 sc6 (fn := f6) rfl rfl rfl fun cdv A outer s H E hr => ?_
  have nd : (N6).Nodup := sc6.nd
  exact (s_seq (s_par2 rfl nd rfl rfl (by decide) rfl rfl (a_cons (w_list rfl C.B (a_cons (r_var rfl (.inl rfl) rfl rfl) a_nil rfl)) (a_cons (r_lst a_nil) a_nil rfl) rfl) rfl rfl)
    (s_seq (s_for PassesOwn.never rfl (w_rng1 C.B (w_min rfl C.B (a_cons (r_var rfl (.inl rfl) rfl rfl) (a_cons (w_len rfl C.B (a_cons (r_var rfl (.inl rfl) rfl rfl) a_nil rfl)) a_nil rfl) rfl))) (g_name nd rfl (.inl rfl) (.inl rfl)) (s_one (s_expr (r_app (r_var rfl (.inl rfl) rfl rfl) (r_popi (r_var rfl (.inl rfl) rfl rfl) (r_call (IH 4) hr (by rfl) C.M4 C.F4.kp (bd4 C) (a_cons (r_var rfl (.inl rfl) rfl rfl) (a_cons (w_len rfl C.B (a_cons (r_var rfl (.inl rfl) rfl rfl) a_nil rfl)) a_nil rfl) rfl) (by rfl) (by rfl) (by rfl) (by rfl)) rfl rfl rfl) rfl rfl rfl) rfl)) (fun _ => rfl) (ntp rfl))
    (s_one (s_ret (r_var rfl (.inl rfl) rfl rfl)))))
set_option maxHeartbeats 4000000 in
theorem body7 {n : Nat} (C : Ctx K mg f fd) (IH : IHt P w K mg base f fd n) : FnOk P w K mg base CX0 (n + 1) (f 7) (fd 7) (psOf 7) (spF K (run fns (n + 1)) 7) := by
  refine fn_okD C.F7 sc7 (fn := f7) rfl rfl rfl fun cdv A outer s H E hr => ?_
  have nd : (N7).Nodup := sc7.nd
  exact (s_seq (s_ite (t_val (fun _ => rfl) (r_isi2 (t := .list) (t' := .tuple) (by rfl) C.B.list bo_list (by decide) (by rfl) (by rfl) C.B.tuple bo_tuple (by decide) (by rfl) (by rfl) C.B.isin (r_var rfl (.inl rfl) rfl rfl) (by rfl))) (s_seq (s_ite (t_cmp (o := .ne) (u65 hr) (r_isi1 (t := .list) (by rfl) C.B.list bo_list (by decide) (by rfl) (by rfl) C.B.isin (r_var rfl (.inl rfl) rfl rfl) (by rfl)) (r_isi1 (t := .list) (by rfl) C.B.list bo_list (by decide) (by rfl) (by rfl) C.B.isin (r_var rfl (.inl rfl) rfl rfl) (by rfl)) rfl) (s_one (s_ret w_bl)) s_skip)
    (s_seq (s_ite (t_cmp (o := .ne) (u65 hr) (r_isi1 (t := .tuple) (by rfl) C.B.tuple bo_tuple (by decide) (by rfl) (by rfl) C.B.isin (r_var rfl (.inl rfl) rfl rfl) (by rfl)) (r_isi1 (t := .tuple) (by rfl) C.B.tuple bo_tuple (by decide) (by rfl) (by rfl) C.B.isin (r_var rfl (.inl rfl) rfl rfl) (by rfl)) rfl) (s_one (s_ret w_bl)) s_skip)
    (s_one (s_ret (r_and (r_cmp (o := .eq) (u65 hr) (w_len rfl C.B (a_cons (r_var rfl (.inl rfl) rfl rfl) a_nil rfl)) (w_len rfl C.B (a_cons (r_var rfl (.inl rfl) rfl rfl) a_nil rfl)) rfl) (r_and1 (w_all rfl C.B (a_cons (r_lc (own := [("_law_mine", 3), ("_law_its", 4)]) rfl nd (w_zip C.B (r_var rfl (.inl rfl) rfl rfl) (r_var rfl (.inl rfl) rfl rfl)) (blkOk_by rfl) (fun _ _ _ _ _ => (w_tup rfl (gs_cons (g_name nd rfl (.inl rfl) (.inr rfl)) (gs_cons (g_name nd rfl (.inl rfl) (.inr rfl)) gs_nil rfl) rfl) rfl rfl)) (fun _ _ _ _ _ => c_none) (fun _ _ _ _ _ => (r_call (IH 7) hr (by rfl) C.M7 C.F7.kp (bd7 C) (a_cons (r_var rfl (.inl rfl) rfl rfl) (a_cons (r_var rfl (.inl rfl) rfl rfl) a_nil rfl) rfl) (by rfl) (by rfl) (by rfl) (by rfl))) (fun _ => rfl) (by decide) (fun _ => ⟨_, rfl⟩)) a_nil rfl)))))))) s_skip)
    (s_seq (s_ite (PW.pt (t_or (t_isN (r_var rfl (.inl rfl) rfl rfl)) (t_or1 (t_val (fun _ => rfl) (r_isi2 (t := .bool) (t' := .str) (by rfl) C.B.bool bo_bool (by decide) (by rfl) (by rfl) C.B.str bo_str (by decide) (by rfl) (by rfl) C.B.isin (r_var rfl (.inl rfl) rfl rfl) (by rfl)))))) (s_seq (s_setv nd rfl (.inl rfl) (r_and (r_cmp (o := .eq) (u65 hr) (r_isi1 (t := .bool) (by rfl) C.B.bool bo_bool (by decide) (by rfl) (by rfl) C.B.isin (r_var rfl (.inl rfl) rfl rfl) (by rfl)) (r_isi1 (t := .bool) (by rfl) C.B.bool bo_bool (by decide) (by rfl) (by rfl) C.B.isin (r_var rfl (.inl rfl) rfl rfl) (by rfl)) rfl) (r_and1 (r_cmp (o := .eq) (u65 hr) (r_isN (r_var rfl (.inl rfl) rfl rfl)) (r_isN (r_var rfl (.inl rfl) rfl rfl)) rfl))) rfl (.inl rfl))
    (s_one (s_ret (r_and (r_var rfl (.inl rfl) rfl rfl) (r_and1 (r_cmp (o := .eq) (u65 hr) (r_var rfl (.inl rfl) rfl rfl) (r_var rfl (.inl rfl) rfl rfl) rfl)))))) s_skip)
    (s_one (s_ret (r_and (r_isi1 (t := .int) (by rfl) C.B.int bo_int (by decide) (by rfl) (by rfl) C.B.isin (r_var rfl (.inl rfl) rfl rfl) (by rfl)) (r_and (r_not (r_isi1 (t := .bool) (by rfl) C.B.bool bo_bool (by decide) (by rfl) (by rfl) C.B.isin (r_var rfl (.inl rfl) rfl rfl) (by rfl))) (r_and1 (r_cmp (o := .eq) (u65 hr) (r_var rfl (.inl rfl) rfl rfl) (r_var rfl (.inl rfl) rfl rfl) rfl))))))))
set_option maxHeartbeats 4000000 in
theorem body8 {n : Nat} (C : Ctx K mg f fd) (IH : IHt P w K mg base f fd n) : FnOk P w K mg base CX0 (n + 1) (f 8) (fd 8) (psOf 8) (spF K (run fns (n + 1)) 8) := by
  refine fn_okD C.F8 sc8 (fn := f8) rfl rfl rfl fun cdv A outer s H E hr => ?_
  have nd : (N8).Nodup := sc8.nd
  exact (s_one (s_ret (w_tuple rfl C.B (a_cons (r_call (IH 6) hr (by rfl) C.M6 C.F6.kp (bd6 C) (a_cons (r_var rfl (.inl rfl) rfl rfl) (a_cons (r_var rfl (.inl rfl) rfl rfl) (a_cons (r_call (IH 4) hr (by rfl) C.M4 C.F4.kp (bd4 C) (a_cons (r_var rfl (.inl rfl) rfl rfl) (a_cons (r_add (w_min rfl C.B (a_cons (r_var rfl (.inl rfl) rfl rfl) (a_cons (w_len rfl C.B (a_cons (r_var rfl (.inl rfl) rfl rfl) a_nil rfl)) a_nil rfl) rfl)) w_int) a_nil rfl) rfl) (by rfl) (by rfl) (by rfl) (by rfl)) a_nil rfl) rfl) rfl) (by rfl) (by rfl) (by rfl) (by rfl)) a_nil rfl))))
set_option maxHeartbeats 4000000 in
theorem body9 {n : Nat} (C : Ctx K mg f fd) (IH : IHt P w K mg base f fd n) : FnOk P w K mg base CX0 (n + 1) (f 9) (fd 9) (psOf 9) (spF K (run fns (n + 1)) 9) := by
  refine fn_okD C.F9 sc9 (fn := f9) rfl rfl rfl fun cdv A outer s H E hr => ?_
  have nd : (N9).Nodup := sc9.nd
  exact (s_one (s_ret (w_sorted (u200 hr) C.B (a_cons (r_call (IH 6) hr (by rfl) C.M6 C.F6.kp (bd6 C) (a_cons (r_var rfl (.inl rfl) rfl rfl) (a_cons (r_lst (a_cons (w_str rfl) (a_cons (w_str rfl) (a_cons (w_str rfl) (a_cons (w_str rfl) (a_cons (w_str rfl) (a_cons (w_str rfl) (a_cons (w_str rfl) a_nil rfl) rfl) rfl) rfl) rfl) rfl) rfl)) (a_cons (r_add w_int (r_call (IH 4) hr (by rfl) C.M4 C.F4.kp (bd4 C) (a_cons (r_var rfl (.inl rfl) rfl rfl) (a_cons (r_var rfl (.inl rfl) rfl rfl) a_nil rfl) rfl) (by rfl) (by rfl) (by rfl) (by rfl))) a_nil rfl) rfl) rfl) (by rfl) (by rfl) (by rfl) (by rfl)) a_nil rfl))))
set_option maxHeartbeats 4000000 in
theorem body10 {n : Nat} (C : Ctx K mg f fd) (IH : IHt P w K mg base f fd n) : FnOk P w K mg base CX0 (n + 1) (f 10) (fd 10) (psOf 10) (spF K (run fns (n + 1)) 10) := by
  refine fn_okD C.F10 sc10 (fn := f10) rfl rfl rfl fun cdv A outer s H E hr => ?_
  have nd : (N10).Nodup := sc10.nd
  exact (s_seq (s_setv nd rfl (.inl rfl) (r_lst a_nil) rfl (.inl rfl))
    (s_seq (s_for PassesOwn.never rfl (i_val (r_sl (r_var rfl (.inl rfl) rfl rfl) (p_some rfl (r_add (r_index (u65 hr) (r_var rfl (.inl rfl) rfl rfl) (r_var rfl (.inl rfl) rfl rfl) rfl rfl rfl) w_int)) p_none)) (g_name nd rfl (.inl rfl) (.inl rfl)) (s_one (s_ite (PW.pt (t_or (t_cmp (o := .notin) (u65 hr) (r_var rfl (.inl rfl) rfl rfl) (r_var rfl (.inl rfl) rfl rfl) rfl) (t_or1 (t_cmp (o := .gt) (u65 hr) (r_index (u65 hr) (r_var rfl (.inl rfl) rfl rfl) (r_var rfl (.inl rfl) rfl rfl) rfl rfl rfl) (r_index (u65 hr) (r_var rfl (.inl rfl) rfl rfl) (r_var rfl (.inl rfl) rfl rfl) rfl rfl rfl) rfl)))) (s_one (s_expr (r_app (r_var rfl (.inl rfl) rfl rfl) (r_var rfl (.inl rfl) rfl rfl) rfl rfl rfl) rfl)) s_skip)) (fun _ => rfl) (ntp rfl))
    (s_one (s_ret (w_tuple rfl C.B (a_cons (r_var rfl (.inl rfl) rfl rfl) a_nil rfl))))))
set_option maxHeartbeats 4000000 in
theorem body11 {n : Nat} (C : Ctx K mg f fd) (IH : IHt P w K mg base f fd n) : FnOk P w K mg base CX0 (n + 1) (f 11) (fd 11) (psOf 11) (spF K (run fns (n + 1)) 11) := by
  refine fn_okD C.F11 sc11 (fn := f11) rfl rfl rfl fun cdv A outer s H E hr => ?_
  have nd : (N11).Nodup := sc11.nd
  exact (s_one (s_ret (r_tup (a_cons (r_tup (a_cons (w_str rfl) (a_cons (w_str rfl) (a_cons (w_str rfl) a_nil rfl) rfl) rfl)) (a_cons (r_tup (a_cons (r_tup (a_cons (w_str rfl) (a_cons (r_tup (a_cons (w_str rfl) (a_cons (w_str rfl) (a_cons (w_str rfl) a_nil rfl) rfl) rfl)) a_nil rfl) rfl)) (a_cons (r_tup (a_cons (w_str rfl) (a_cons (r_tup (a_cons (w_str rfl) (a_cons (w_str rfl) a_nil rfl) rfl)) a_nil rfl) rfl)) (a_cons (r_tup (a_cons (w_str rfl) (a_cons (r_tup (a_cons (w_str rfl) (a_cons (w_str rfl) a_nil rfl) rfl)) a_nil rfl) rfl)) a_nil rfl) rfl) rfl)) a_nil rfl) rfl))))
set_option maxHeartbeats 4000000 in
theorem body12 {n : Nat} (C : Ctx K mg f fd) (IH : IHt P w K mg base f fd n) : FnOk P w K mg base CX0 (n + 1) (f 12) (fd 12) (psOf 12) (spF K (run fns (n + 1)) 12) := by
  refine fn_okD C.F12 sc12 (fn := f12) rfl rfl rfl fun cdv A outer s H E hr => ?_
  have nd : (N12).Nodup := sc12.nd
  exact (s_seq (s_unp (r_lc (own := [("_law_own", 10)]) rfl nd (i_val (r_ix (r_call0 (IH 11) hr (by rfl) C.M11 C.F11.kp (bd11 C) (by rfl)) w_int (fun _ _ => rfl))) (blkOk_by rfl) (fun _ _ _ _ _ => (g_name nd rfl (.inl rfl) (.inr rfl))) (fun _ _ _ _ _ => c_none) (fun _ _ _ _ _ => (r_ix (r_var rfl (.inl rfl) rfl rfl) w_int (fun _ _ => rfl))) (fun _ => rfl) (by decide) (ntp rfl)) (w_tup rfl (gs_cons (g_name nd rfl (.inr rfl) (.inl rfl)) (gs_cons (g_name nd rfl (.inr rfl) (.inl rfl)) (gs_cons (g_name nd rfl (.inr rfl) (.inl rfl)) gs_nil rfl) rfl) rfl) rfl rfl) ⟨_, rfl⟩ rfl rfl rfl)
    (s_seq (s_setv nd rfl (.inl rfl) (r_lst (a_cons (r_lc (own := [("_law_tag", 11)]) rfl nd (i_val (r_tup (a_cons (w_str rfl) (a_cons (w_str rfl) (a_cons (w_str rfl) a_nil rfl) rfl) rfl))) (blkOk_by rfl) (fun _ _ _ _ _ => (g_name nd rfl (.inl rfl) (.inr rfl))) (fun _ _ _ _ _ => c_none) (fun _ _ _ _ _ => (r_call (IH 2) hr (by rfl) C.M2 C.F2.kp (bd2 C) (a_cons (r_var rfl (.inr (.inl rfl)) rfl rfl) (a_cons (r_var rfl (.inr (.inl rfl)) rfl rfl) (a_cons (r_var rfl (.inl rfl) rfl rfl) a_nil rfl) rfl) rfl) (by rfl) (by rfl) (by rfl) (by rfl))) (fun _ => rfl) (by decide) (ntp rfl)) (a_cons (r_lc (own := [("_law_tag", 11)]) rfl nd (i_val (r_tup (a_cons (w_str rfl) (a_cons (w_str rfl) (a_cons (w_str rfl) a_nil rfl) rfl) rfl))) (blkOk_by rfl) (fun _ _ _ _ _ => (g_name nd rfl (.inl rfl) (.inr rfl))) (fun _ _ _ _ _ => c_none) (fun _ _ _ _ _ => (r_call (IH 2) hr (by rfl) C.M2 C.F2.kp (bd2 C) (a_cons (r_var rfl (.inr (.inl rfl)) rfl rfl) (a_cons (r_var rfl (.inr (.inl rfl)) rfl rfl) (a_cons (r_var rfl (.inl rfl) rfl rfl) a_nil rfl) rfl) rfl) (by rfl) (by rfl) (by rfl) (by rfl))) (fun _ => rfl) (by decide) (ntp rfl)) a_nil rfl) rfl)) rfl (.inl rfl))
    (s_seq (s_setv nd rfl (.inl rfl) (r_lst (a_cons (r_lst (a_cons (r_tup (a_cons (w_str rfl) a_nil rfl)) (a_cons w_non (a_cons (r_tup a_nil) a_nil rfl) rfl) rfl)) (a_cons (r_lst (a_cons (r_tup (a_cons (w_str rfl) a_nil rfl)) (a_cons w_non (a_cons (r_tup a_nil) a_nil rfl) rfl) rfl)) a_nil rfl) rfl)) rfl (.inl rfl))
    (s_seq (s_setv nd rfl (.inl rfl) (r_add (r_var rfl (.inl rfl) rfl rfl) (r_lst (a_cons (r_lc (own := [("_law_tag", 11)]) rfl nd (i_val (r_tup (a_cons (w_str rfl) (a_cons (w_str rfl) (a_cons (w_str rfl) a_nil rfl) rfl) rfl))) (blkOk_by rfl) (fun _ _ _ _ _ => (g_name nd rfl (.inl rfl) (.inr rfl))) (fun _ _ _ _ _ => c_none) (fun _ _ _ _ _ => (r_call (IH 2) hr (by rfl) C.M2 C.F2.kp (bd2 C) (a_cons (r_var rfl (.inr (.inl rfl)) rfl rfl) (a_cons (r_var rfl (.inr (.inl rfl)) rfl rfl) (a_cons (r_var rfl (.inl rfl) rfl rfl) a_nil rfl) rfl) rfl) (by rfl) (by rfl) (by rfl) (by rfl))) (fun _ => rfl) (by decide) (ntp rfl)) (a_cons (r_lc (own := [("_law_tag", 11)]) rfl nd (i_val (r_tup (a_cons (w_str rfl) (a_cons (w_str rfl) (a_cons (w_str rfl) a_nil rfl) rfl) rfl))) (blkOk_by rfl) (fun _ _ _ _ _ => (g_name nd rfl (.inl rfl) (.inr rfl))) (fun _ _ _ _ _ => c_none) (fun _ _ _ _ _ => (r_call (IH 2) hr (by rfl) C.M2 C.F2.kp (bd2 C) (a_cons (r_var rfl (.inr (.inl rfl)) rfl rfl) (a_cons (r_var rfl (.inr (.inl rfl)) rfl rfl) (a_cons (r_var rfl (.inl rfl) rfl rfl) a_nil rfl) rfl) rfl) (by rfl) (by rfl) (by rfl) (by rfl))) (fun _ => rfl) (by decide) (ntp rfl)) a_nil rfl) rfl))) rfl (.inl rfl))
    (s_seq (s_setv nd rfl (.inl rfl) (r_add (r_var rfl (.inl rfl) rfl rfl) (r_lst (a_cons (r_lst (a_cons w_non (a_cons (r_tup (a_cons (w_str rfl) a_nil rfl)) (a_cons (r_tup a_nil) a_nil rfl) rfl) rfl)) (a_cons (r_lst (a_cons w_non (a_cons (r_tup a_nil) (a_cons (r_tup a_nil) a_nil rfl) rfl) rfl)) a_nil rfl) rfl))) rfl (.inl rfl))
    (s_seq (s_unp (r_tup (a_cons (w_tuple rfl C.B (a_cons (w_str rfl) a_nil rfl)) (a_cons (w_tuple rfl C.B (a_cons (w_str rfl) a_nil rfl)) a_nil rfl) rfl)) (w_tup rfl (gs_cons (g_name nd rfl (.inr rfl) (.inl rfl)) (gs_cons (g_name nd rfl (.inr rfl) (.inl rfl)) gs_nil rfl) rfl) rfl rfl) ⟨_, rfl⟩ rfl rfl rfl)
    (s_seq (s_expr (r_app (r_var rfl (.inl rfl) rfl rfl) (r_lc (own := [("_law_tag", 11)]) rfl nd (i_val (w_str rfl)) (blkOk_by rfl) (fun _ _ _ _ _ => (g_name nd rfl (.inl rfl) (.inr rfl))) (fun _ _ _ _ _ => c_none) (fun _ _ _ _ _ => (r_call (IH 2) hr (by rfl) C.M2 C.F2.kp (bd2 C) (a_cons (r_var rfl (.inr (.inl rfl)) rfl rfl) (a_cons (r_var rfl (.inr (.inl rfl)) rfl rfl) (a_cons (r_var rfl (.inl rfl) rfl rfl) a_nil rfl) rfl) rfl) (by rfl) (by rfl) (by rfl) (by rfl))) (fun _ => rfl) (by decide) (ntp rfl)) rfl rfl rfl) rfl)
    (s_seq (s_expr (r_app (r_var rfl (.inl rfl) rfl rfl) (r_lc (own := [("_law_tag", 11)]) rfl nd (i_val (w_str rfl)) (blkOk_by rfl) (fun _ _ _ _ _ => (g_name nd rfl (.inl rfl) (.inr rfl))) (fun _ _ _ _ _ => c_none) (fun _ _ _ _ _ => (r_call (IH 2) hr (by rfl) C.M2 C.F2.kp (bd2 C) (a_cons (r_var rfl (.inr (.inl rfl)) rfl rfl) (a_cons (r_var rfl (.inr (.inl rfl)) rfl rfl) (a_cons (r_var rfl (.inl rfl) rfl rfl) a_nil rfl) rfl) rfl) (by rfl) (by rfl) (by rfl) (by rfl))) (fun _ => rfl) (by decide) (ntp rfl)) rfl rfl rfl) rfl)
    (s_seq (s_expr (r_app (r_var rfl (.inl rfl) rfl rfl) (r_lc (own := [("_law_tag", 11)]) rfl nd (i_val (w_str rfl)) (blkOk_by rfl) (fun _ _ _ _ _ => (g_name nd rfl (.inl rfl) (.inr rfl))) (fun _ _ _ _ _ => c_none) (fun _ _ _ _ _ => (r_call (IH 2) hr (by rfl) C.M2 C.F2.kp (bd2 C) (a_cons (r_var rfl (.inr (.inl rfl)) rfl rfl) (a_cons (r_tup (a_cons (w_str rfl) a_nil rfl)) (a_cons (r_var rfl (.inl rfl) rfl rfl) a_nil rfl) rfl) rfl) (by rfl) (by rfl) (by rfl) (by rfl))) (fun _ => rfl) (by decide) (ntp rfl)) rfl rfl rfl) rfl)
    (s_seq (s_setv nd rfl (.inl rfl) (r_add (r_var rfl (.inl rfl) rfl rfl) (r_lst (a_cons (r_lc (own := [("_law_k", 12)]) rfl nd (w_rng2 C.B w_int w_int) (blkOk_by rfl) (fun _ _ _ _ _ => (g_name nd rfl (.inl rfl) (.inr rfl))) (fun _ _ _ _ _ => c_none) (fun _ _ _ _ _ => (r_sl (r_var rfl (.inr (.inl rfl)) rfl rfl) (p_some rfl (r_var rfl (.inl rfl) rfl rfl)) p_none)) (fun _ => rfl) (by decide) (ntp rfl)) (a_cons (r_lst (a_cons (r_tup a_nil) (a_cons (r_tup a_nil) a_nil rfl) rfl)) (a_cons (r_lst (a_cons w_non (a_cons (r_tup (a_cons (w_str rfl) (a_cons (w_str rfl) a_nil rfl) rfl)) a_nil rfl) rfl)) a_nil rfl) rfl) rfl))) rfl (.inl rfl))
    (s_seq (s_setv nd rfl (.inr rfl) (r_tup (a_cons (w_str rfl) (a_cons (w_str rfl) (a_cons (w_str rfl) (a_cons (w_str rfl) (a_cons (w_str rfl) (a_cons (w_str rfl) a_nil rfl) rfl) rfl) rfl) rfl) rfl)) rfl (.inl rfl))
    (s_seq (s_expr (r_app (r_var rfl (.inl rfl) rfl rfl) (r_lc (own := [("_law_tag", 11)]) rfl nd (i_val (w_str rfl)) (blkOk_by rfl) (fun _ _ _ _ _ => (g_name nd rfl (.inl rfl) (.inr rfl))) (fun _ _ _ _ _ => c_none) (fun _ _ _ _ _ => (r_call (IH 2) hr (by rfl) C.M2 C.F2.kp (bd2 C) (a_cons (r_var rfl (.inr (.inl rfl)) rfl rfl) (a_cons (r_var rfl (.inr (.inl rfl)) rfl rfl) (a_cons (r_var rfl (.inl rfl) rfl rfl) a_nil rfl) rfl) rfl) (by rfl) (by rfl) (by rfl) (by rfl))) (fun _ => rfl) (by decide) (ntp rfl)) rfl rfl rfl) rfl)
    (s_seq (s_expr (r_app (r_var rfl (.inl rfl) rfl rfl) (r_lc (own := [("_law_tag", 11)]) rfl nd (i_val (w_str rfl)) (blkOk_by rfl) (fun _ _ _ _ _ => (g_name nd rfl (.inl rfl) (.inr rfl))) (fun _ _ _ _ _ => c_none) (fun _ _ _ _ _ => (r_call (IH 2) hr (by rfl) C.M2 C.F2.kp (bd2 C) (a_cons (r_var rfl (.inr (.inl rfl)) rfl rfl) (a_cons (r_var rfl (.inr (.inl rfl)) rfl rfl) (a_cons (r_var rfl (.inl rfl) rfl rfl) a_nil rfl) rfl) rfl) (by rfl) (by rfl) (by rfl) (by rfl))) (fun _ => rfl) (by decide) (ntp rfl)) rfl rfl rfl) rfl)
    (s_seq (s_setv nd rfl (.inl rfl) (r_add (r_var rfl (.inl rfl) rfl rfl) (r_lst (a_cons (r_lst (a_cons (r_tup (a_cons (w_str rfl) (a_cons (w_str rfl) (a_cons (w_str rfl) (a_cons (w_str rfl) a_nil rfl) rfl) rfl) rfl)) (a_cons (r_tup (a_cons (w_str rfl) (a_cons (w_str rfl) a_nil rfl) rfl)) (a_cons (r_tup (a_cons (w_str rfl) (a_cons (w_str rfl) (a_cons (w_str rfl) a_nil rfl) rfl) rfl)) (a_cons (r_tup a_nil) (a_cons (r_tup a_nil) (a_cons (r_tup a_nil) a_nil rfl) rfl) rfl) rfl) rfl) rfl)) a_nil rfl))) rfl (.inl rfl))
    (s_seq (s_setv nd rfl (.inl rfl) (r_add (r_var rfl (.inl rfl) rfl rfl) (r_lst (a_cons (r_lst (a_cons (r_tup (a_cons (w_str rfl) (a_cons (w_str rfl) (a_cons (w_str rfl) (a_cons (w_str rfl) a_nil rfl) rfl) rfl) rfl)) (a_cons (r_tup (a_cons (w_str rfl) (a_cons (w_str rfl) a_nil rfl) rfl)) (a_cons (r_tup (a_cons (w_str rfl) (a_cons (w_str rfl) (a_cons (w_str rfl) a_nil rfl) rfl) rfl)) (a_cons (r_tup a_nil) (a_cons (r_tup a_nil) (a_cons (r_tup a_nil) a_nil rfl) rfl) rfl) rfl) rfl) rfl)) a_nil rfl))) rfl (.inl rfl))
    (s_seq (s_setv nd rfl (.inl rfl) (r_add (r_var rfl (.inl rfl) rfl rfl) (r_lst (a_cons (r_call (IH 2) hr (by rfl) C.M2 C.F2.kp (bd2 C) (a_cons (r_tup a_nil) (a_cons (r_tup (a_cons (w_str rfl) a_nil rfl)) (a_cons (w_str rfl) a_nil rfl) rfl) rfl) (by rfl) (by rfl) (by rfl) (by rfl)) (a_cons (r_call (IH 2) hr (by rfl) C.M2 C.F2.kp (bd2 C) (a_cons (r_tup (a_cons (w_str rfl) a_nil rfl)) (a_cons (r_tup a_nil) (a_cons (w_str rfl) a_nil rfl) rfl) rfl) (by rfl) (by rfl) (by rfl) (by rfl)) a_nil rfl) rfl))) rfl (.inl rfl))
    (s_seq (s_setv nd rfl (.inl rfl) (r_add (r_var rfl (.inl rfl) rfl rfl) (r_lst (a_cons (r_call (IH 2) hr (by rfl) C.M2 C.F2.kp (bd2 C) (a_cons (r_tup a_nil) (a_cons (r_tup a_nil) (a_cons (w_str rfl) a_nil rfl) rfl) rfl) (by rfl) (by rfl) (by rfl) (by rfl)) a_nil rfl))) rfl (.inl rfl))
    (s_seq (s_setv nd rfl (.inl rfl) (r_add (r_var rfl (.inl rfl) rfl rfl) (r_lst (a_cons (r_call (IH 2) hr (by rfl) C.M2 C.F2.kp (bd2 C) (a_cons (r_tup (a_cons (w_str rfl) a_nil rfl)) (a_cons (r_tup (a_cons (w_str rfl) a_nil rfl)) (a_cons (w_str rfl) a_nil rfl) rfl) rfl) (by rfl) (by rfl) (by rfl) (by rfl)) (a_cons (r_call (IH 2) hr (by rfl) C.M2 C.F2.kp (bd2 C) (a_cons (r_tup (a_cons (w_str rfl) a_nil rfl)) (a_cons (r_tup (a_cons (w_str rfl) a_nil rfl)) (a_cons (w_str rfl) a_nil rfl) rfl) rfl) (by rfl) (by rfl) (by rfl) (by rfl)) a_nil rfl) rfl))) rfl (.inl rfl))
    (s_seq (s_expr (r_app (r_var rfl (.inl rfl) rfl rfl) (r_call (IH 2) hr (by rfl) C.M2 C.F2.kp (bd2 C) (a_cons (r_tup (a_cons (w_str rfl) a_nil rfl)) (a_cons (r_tup (a_cons (w_str rfl) a_nil rfl)) (a_cons (w_str rfl) a_nil rfl) rfl) rfl) (by rfl) (by rfl) (by rfl) (by rfl)) rfl rfl rfl) rfl)
    (s_seq (s_setv nd rfl (.inl rfl) (r_add (r_var rfl (.inl rfl) rfl rfl) (r_lst (a_cons w_non (a_cons w_non (a_cons w_non (a_cons w_non (a_cons (r_tup a_nil) (a_cons w_non a_nil rfl) rfl) rfl) rfl) rfl) rfl))) rfl (.inl rfl))
    (s_seq (s_setv nd rfl (.inl rfl) (r_lst (a_cons (w_list rfl C.B (a_cons (r_var rfl (.inr (.inl rfl)) rfl rfl) a_nil rfl)) (a_cons (w_list rfl C.B (a_cons (r_var rfl (.inr (.inl rfl)) rfl rfl) a_nil rfl)) a_nil rfl) rfl)) rfl (.inl rfl))
    (s_seq (s_for PassesOwn.never rfl (w_rng1 C.B w_int) (g_name nd rfl (.inl rfl) (.inl rfl)) (s_one (s_expr (r_app (r_var rfl (.inl rfl) rfl rfl) (r_callK (ks := ["bill", "other", "one"]) (IH 2) hr (by rfl) C.M2 C.F2.kp (kb_2_210 C) (k_cons (w_str rfl) (k_cons (r_ix (r_var rfl (.inl rfl) rfl rfl) w_int (fun _ _ => rfl)) (k_cons (r_ix (r_var rfl (.inl rfl) rfl rfl) w_int (fun _ _ => rfl)) k_nil))) (by decide) (by rfl) (by rfl) (by rfl) (by rfl) (by rfl)) rfl rfl rfl) rfl)) (fun _ => rfl) (ntp rfl))
    (s_one (s_ret (r_call (IH 7) hr (by rfl) C.M7 C.F7.kp (bd7 C) (a_cons (r_add (r_var rfl (.inl rfl) rfl rfl) (r_var rfl (.inl rfl) rfl rfl)) (a_cons (r_add (r_add (r_var rfl (.inl rfl) rfl rfl) (r_repl (r_lst (a_cons (r_tup (a_cons (w_str rfl) a_nil rfl)) a_nil rfl)) w_int)) (r_lst (a_cons (r_lst (a_cons (w_str rfl) (a_cons (w_str rfl) (a_cons (w_str rfl) a_nil rfl) rfl) rfl)) (a_cons (r_lst (a_cons (w_str rfl) (a_cons (w_str rfl) a_nil rfl) rfl)) a_nil rfl) rfl))) a_nil rfl) rfl) (by rfl) (by rfl) (by rfl) (by rfl))))))))))))))))))))))))))
set_option maxHeartbeats 4000000 in
theorem body13 {n : Nat} (C : Ctx K mg f fd) (IH : IHt P w K mg base f fd n) : FnOk P w K mg base CX0 (n + 1) (f 13) (fd 13) (psOf 13) (spF K (run fns (n + 1)) 13) := by
  refine fn_okD C.F13 sc13 (fn := f13) rfl rfl rfl fun cdv A outer s H E hr => ?_
  have nd : (N13).Nodup := sc13.nd
  exact (s_seq (s_for PassesOwn.never rfl (w_rng1 C.B w_int) (g_name nd rfl (.inl rfl) (.inl rfl)) (s_seq (s_setv nd rfl (.inl rfl) (r_call (IH 9) hr (by rfl) C.M9 C.F9.kp (bd9 C) (a_cons (r_var rfl (.inl rfl) rfl rfl) (a_cons w_int a_nil rfl) rfl) (by rfl) (by rfl) (by rfl) (by rfl)) rfl (.inl rfl))
    (s_seq (s_par2 rfl nd rfl rfl (by decide) rfl rfl (a_cons (r_call (IH 8) hr (by rfl) C.M8 C.F8.kp (bd8 C) (a_cons (r_var rfl (.inl rfl) rfl rfl) (a_cons (r_var rfl (.inl rfl) rfl rfl) (a_cons w_int a_nil rfl) rfl) rfl) (by rfl) (by rfl) (by rfl) (by rfl)) (a_cons (r_call (IH 8) hr (by rfl) C.M8 C.F8.kp (bd8 C) (a_cons (r_var rfl (.inl rfl) rfl rfl) (a_cons (r_var rfl (.inl rfl) rfl rfl) (a_cons w_int a_nil rfl) rfl) rfl) (by rfl) (by rfl) (by rfl) (by rfl)) a_nil rfl) rfl) rfl rfl)
    (s_one (s_for PassesOwn.never rfl (i_val (r_tup (a_cons (w_str rfl) (a_cons (w_str rfl) (a_cons (w_str rfl) (a_cons (w_str rfl) (a_cons (w_str rfl) (a_cons (w_str rfl) (a_cons (w_str rfl) a_nil rfl) rfl) rfl) rfl) rfl) rfl) rfl))) (g_name nd rfl (.inl rfl) (.inl rfl)) (s_seq (s_setv nd rfl (.inl rfl) (r_ite (PW.pt (t_and (t_cmp (o := .isin) (u65 hr) (r_var rfl (.inl rfl) rfl rfl) (r_var rfl (.inl rfl) rfl rfl) rfl) (t_and1 (t_cmp (o := .isin) (u65 hr) (r_var rfl (.inl rfl) rfl rfl) (r_var rfl (.inl rfl) rfl rfl) rfl)))) (r_call (IH 10) hr (by rfl) C.M10 C.F10.kp (bd10 C) (a_cons (r_var rfl (.inl rfl) rfl rfl) (a_cons (r_var rfl (.inl rfl) rfl rfl) (a_cons (r_var rfl (.inl rfl) rfl rfl) a_nil rfl) rfl) rfl) (by rfl) (by rfl) (by rfl) (by rfl)) w_non) rfl (.inl rfl))
    (s_one (s_ite (t_not (t_val (fun _ => rfl) (r_call (IH 7) hr (by rfl) C.M7 C.F7.kp (bd7 C) (a_cons (r_lst (a_cons (r_call (IH 2) hr (by rfl) C.M2 C.F2.kp (bd2 C) (a_cons (r_var rfl (.inl rfl) rfl rfl) (a_cons (r_var rfl (.inl rfl) rfl rfl) (a_cons (r_var rfl (.inl rfl) rfl rfl) a_nil rfl) rfl) rfl) (by rfl) (by rfl) (by rfl) (by rfl)) (a_cons (r_call (IH 2) hr (by rfl) C.M2 C.F2.kp (bd2 C) (a_cons (w_list rfl C.B (a_cons (r_var rfl (.inl rfl) rfl rfl) a_nil rfl)) (a_cons (w_list rfl C.B (a_cons (r_var rfl (.inl rfl) rfl rfl) a_nil rfl)) (a_cons (r_var rfl (.inl rfl) rfl rfl) a_nil rfl) rfl) rfl) (by rfl) (by rfl) (by rfl) (by rfl)) a_nil rfl) rfl)) (a_cons (r_lst (a_cons (r_var rfl (.inl rfl) rfl rfl) (a_cons (r_var rfl (.inl rfl) rfl rfl) a_nil rfl) rfl)) a_nil rfl) rfl) (by rfl) (by rfl) (by rfl) (by rfl)))) (s_one (s_ret w_bl)) s_skip))) (fun _ => rfl) (ntp rfl))))) (fun _ => rfl) (ntp rfl))
    (s_one (s_ret w_bl)))
set_option maxHeartbeats 4000000 in
theorem body14 {n : Nat} (C : Ctx K mg f fd) (IH : IHt P w K mg base f fd n) : FnOk P w K mg base CX0 (n + 1) (f 14) (fd 14) (psOf 14) (spF K (run fns (n + 1)) 14) := by
  refine fn_okD C.F14 sc14 (fn := f14) rfl rfl rfl fun cdv A outer s H E hr => ?_
  have nd : (N14).Nodup := sc14.nd
  exact (s_seq (s_ite (t_not (t_val (fun _ => rfl) (r_call0 (IH 12) hr (by rfl) C.M12 C.F12.kp (bd12 C) (by rfl)))) (s_one (s_ret w_bl)) s_skip)
    (s_seq (s_setv nd rfl (.inr rfl) (r_call (IH 5) hr (by rfl) C.M5 C.F5.kp (bd5 C) (a_cons (r_var rfl (.inl rfl) rfl rfl) (a_cons w_int a_nil rfl) rfl) (by rfl) (by rfl) (by rfl) (by rfl)) rfl (.inl rfl))
    (s_one (s_ret (w_all rfl C.B (a_cons (r_lc (own := [("_law_k", 2)]) rfl nd (w_rng1 C.B (w_len rfl C.B (a_cons (r_var rfl (.inr (.inl rfl)) rfl rfl) a_nil rfl))) (blkOk_by rfl) (fun _ _ _ _ _ => (g_name nd rfl (.inl rfl) (.inr rfl))) (fun _ _ _ _ _ => c_none) (fun _ _ _ _ _ => (r_call (IH 13) hr (by rfl) C.M13 C.F13.kp (bd13 C) (a_cons (r_call (IH 3) hr (by rfl) C.M3 C.F3.kp (bd3 C) (a_cons (r_var rfl (.inr (.inl rfl)) rfl rfl) (a_cons (r_var rfl (.inl rfl) rfl rfl) a_nil rfl) rfl) (by rfl) (by rfl) (by rfl) (by rfl)) a_nil rfl) (by rfl) (by rfl) (by rfl) (by rfl))) (fun _ => rfl) (by decide) (ntp rfl)) a_nil rfl))))))
theorem all_ok (C : Ctx K mg f fd) : ∀ n, IHt P w K mg base f fd n
  | 0 => fun i => fn_ok0 fun _ => rfl
  | n + 1 => fun i => match i with
    | 0 => body0 C (all_ok C n)
    | 1 => body1 C (all_ok C n)
    | 2 => body2 C (all_ok C n)
    | 3 => body3 C (all_ok C n)
    | 4 => body4 C (all_ok C n)
    | 5 => body5 C (all_ok C n)
    | 6 => body6 C (all_ok C n)
    | 7 => body7 C (all_ok C n)
    | 8 => body8 C (all_ok C n)
    | 9 => body9 C (all_ok C n)
    | 10 => body10 C (all_ok C n)
    | 11 => body11 C (all_ok C n)
    | 12 => body12 C (all_ok C n)
    | 13 => body13 C (all_ok C n)
    | 14 => body14 C (all_ok C n)
    | i + 15 => fn_ok0 fun _ => rfl
end
/-! ### the head -/
def dd0 : He.DefD := ⟨("tupled", none), "tupled", "tupled", defArgs s0, defBody s0, defScope s0, [], []⟩
def dd1 : He.DefD := ⟨("rest_of", none), "rest_of", "rest_of", defArgs s1, defBody s1, defScope s1, [], []⟩
def dd2 : He.DefD := ⟨("rest_beside", none), "rest_beside", "rest_beside", defArgs s2, defBody s2, defScope s2, [], []⟩
def dd3 : He.DefD := ⟨("_law_box", none), "_law_box", "_law_box", defArgs s3, defBody s3, defScope s3, [], []⟩
def dd4 : He.DefD := ⟨("_law_take", none), "_law_take", "_law_take", defArgs s4, defBody s4, defScope s4, [], []⟩
def dd5 : He.DefD := ⟨("_law_cells", none), "_law_cells", "_law_cells", defArgs s5, defBody s5, defScope s5, [], []⟩
def dd6 : He.DefD := ⟨("_law_pick", none), "_law_pick", "_law_pick", defArgs s6, defBody s6, defScope s6, [], []⟩
def dd7 : He.DefD := ⟨("_law_same", none), "_law_same", "_law_same", defArgs s7, defBody s7, defScope s7, [], []⟩
def dd8 : He.DefD := ⟨("_law_line", none), "_law_line", "_law_line", defArgs s8, defBody s8, defScope s8, [], []⟩
def dd9 : He.DefD := ⟨("_law_tags", none), "_law_tags", "_law_tags", defArgs s9, defBody s9, defScope s9, [], []⟩
def dd10 : He.DefD := ⟨("_law_rest", none), "_law_rest", "_law_rest", defArgs s10, defBody s10, defScope s10, [], []⟩
def dd11 : He.DefD := ⟨("_law_kit", none), "_law_kit", "_law_kit", defArgs s11, defBody s11, defScope s11, [], []⟩
def dd12 : He.DefD := ⟨("_law_by_hand_right", none), "_law_by_hand_right", "_law_by_hand_right", defArgs s12, defBody s12, defScope s12, [], []⟩
def dd13 : He.DefD := ⟨("_law_right", none), "_law_right", "_law_right", defArgs s13, defBody s13, defScope s13, [], []⟩
def dd14 : He.DefD := ⟨("law", none), "law", "law", defArgs s14, defBody s14, defScope s14, [], []⟩
def fnl : List He.DefD := [dd0, dd1, dd2, dd3, dd4, dd5, dd6, dd7, dd8, dd9, dd10, dd11, dd12, dd13, dd14]
def fal : List He.Fa := [.glo "tupled", .glo "rest_of", .glo "rest_beside", .glo "_law_box", .glo "_law_take", .glo "_law_cells", .glo "_law_pick", .glo "_law_same", .glo "_law_line", .glo "_law_tags", .glo "_law_rest", .glo "_law_kit", .glo "_law_by_hand_right", .glo "_law_right", .glo "law", .free "len", .free "abs", .free "int", .free "bool", .free "str", .free "min", .free "max", .free "tuple", .free "list", .free "sorted", .free "all", .free "isinstance", .free "range", .free "enumerate", .free "zip"]
abbrev R : PySem.W.OpenRow := PySem.W.OpenLaw.row PySem.Challenge.rw_ownlists_k16_rests_of_bills
abbrev hk : PySem.W.Hook := He.hookD 30 fal fnl
def ob (s : PySem.W.SharedT) : He.AlD := He.obsDG 30 fal fnl (HandSHeadRun.getT s)
theorem ob_eq (s : PySem.W.SharedT) : ob s = hk.obs s.abs := He.obsDG_eq (HandSHeadRun.getT_eq s)
theorem runH (w : World) : HandSHeadRun.RunEq R (PySem.W.view R.prog [17]) hk ob 4000 ["tupled", "rest_of", "rest_beside", "_law_box", "_law_take", "_law_cells", "_law_pick", "_law_same", "_law_line", "_law_tags", "_law_rest", "_law_kit", "_law_by_hand_right", "_law_right"] w := by
  intro os
  kernel_rfl
def fOf (K : PySem.W.Frag) : Nat → Addr
  | 0 => He.ga K "tupled"
  | 1 => He.ga K "rest_of"
  | 2 => He.ga K "rest_beside"
  | 3 => He.ga K "_law_box"
  | 4 => He.ga K "_law_take"
  | 5 => He.ga K "_law_cells"
  | 6 => He.ga K "_law_pick"
  | 7 => He.ga K "_law_same"
  | 8 => He.ga K "_law_line"
  | 9 => He.ga K "_law_tags"
  | 10 => He.ga K "_law_rest"
  | 11 => He.ga K "_law_kit"
  | 12 => He.ga K "_law_by_hand_right"
  | 13 => He.ga K "_law_right"
  | 14 => He.ga K "law"
  | _ => He.ga K "law"
theorem facts {K : PySem.W.Frag} {h : Heap} {mg : Str → Option Value} (X : K.In h) (G : h.Ns mainGlobals mg) (c : He.SaysD fal fnl K) : ∃ fd : Nat → FuncData, Ctx K mg (fOf K) fd := by
  obtain ⟨e0, F0⟩ := c.def_ 0 (d := dd0) rfl
  obtain ⟨e1, F1⟩ := c.def_ 1 (d := dd1) rfl
  obtain ⟨e2, F2⟩ := c.def_ 2 (d := dd2) rfl
  obtain ⟨e3, F3⟩ := c.def_ 3 (d := dd3) rfl
  obtain ⟨e4, F4⟩ := c.def_ 4 (d := dd4) rfl
  obtain ⟨e5, F5⟩ := c.def_ 5 (d := dd5) rfl
  obtain ⟨e6, F6⟩ := c.def_ 6 (d := dd6) rfl
  obtain ⟨e7, F7⟩ := c.def_ 7 (d := dd7) rfl
  obtain ⟨e8, F8⟩ := c.def_ 8 (d := dd8) rfl
  obtain ⟨e9, F9⟩ := c.def_ 9 (d := dd9) rfl
  obtain ⟨e10, F10⟩ := c.def_ 10 (d := dd10) rfl
  obtain ⟨e11, F11⟩ := c.def_ 11 (d := dd11) rfl
  obtain ⟨e12, F12⟩ := c.def_ 12 (d := dd12) rfl
  obtain ⟨e13, F13⟩ := c.def_ 13 (d := dd13) rfl
  obtain ⟨e14, F14⟩ := c.def_ 14 (d := dd14) rfl
  refine ⟨fun i => match i with
    | 0 => e0
    | 1 => e1
    | 2 => e2
    | 3 => e3
    | 4 => e4
    | 5 => e5
    | 6 => e6
    | 7 => e7
    | 8 => e8
    | 9 => e9
    | 10 => e10
    | 11 => e11
    | 12 => e12
    | 13 => e13
    | 14 => e14
    | _ => e0, ?_⟩
  exact ⟨F0, F1, F2, F3, F4, F5, F6, F7, F8, F9, F10, F11, F12, F13, F14, He.glo_ok X G (c.fact 0 (f := .glo "tupled") rfl), He.glo_ok X G (c.fact 1 (f := .glo "rest_of") rfl), He.glo_ok X G (c.fact 2 (f := .glo "rest_beside") rfl), He.glo_ok X G (c.fact 3 (f := .glo "_law_box") rfl), He.glo_ok X G (c.fact 4 (f := .glo "_law_take") rfl), He.glo_ok X G (c.fact 5 (f := .glo "_law_cells") rfl), He.glo_ok X G (c.fact 6 (f := .glo "_law_pick") rfl), He.glo_ok X G (c.fact 7 (f := .glo "_law_same") rfl), He.glo_ok X G (c.fact 8 (f := .glo "_law_line") rfl), He.glo_ok X G (c.fact 9 (f := .glo "_law_tags") rfl), He.glo_ok X G (c.fact 10 (f := .glo "_law_rest") rfl), He.glo_ok X G (c.fact 11 (f := .glo "_law_kit") rfl), He.glo_ok X G (c.fact 12 (f := .glo "_law_by_hand_right") rfl), He.glo_ok X G (c.fact 13 (f := .glo "_law_right") rfl), He.glo_ok X G (c.fact 14 (f := .glo "law") rfl), ⟨He.free_ok X G (c.fact 15 (f := .free "len") rfl), He.free_ok X G (c.fact 16 (f := .free "abs") rfl), He.free_ok X G (c.fact 17 (f := .free "int") rfl), He.free_ok X G (c.fact 18 (f := .free "bool") rfl), He.free_ok X G (c.fact 19 (f := .free "str") rfl), He.free_ok X G (c.fact 20 (f := .free "min") rfl), He.free_ok X G (c.fact 21 (f := .free "max") rfl), He.free_ok X G (c.fact 22 (f := .free "tuple") rfl), He.free_ok X G (c.fact 23 (f := .free "list") rfl), He.free_ok X G (c.fact 24 (f := .free "sorted") rfl), He.free_ok X G (c.fact 25 (f := .free "all") rfl), He.free_ok X G (c.fact 26 (f := .free "isinstance") rfl), He.free_ok X G (c.fact 27 (f := .free "range") rfl), He.free_ok X G (c.fact 28 (f := .free "enumerate") rfl), He.free_ok X G (c.fact 29 (f := .free "zip") rfl)⟩⟩
end Qk16
open PySem PySem.W PySem.Calls PyProof.Rows in
theorem Qk16.holds_of {n : Nat} (hn : Nat.ble n 60 = true) (hl : ∀ ns : List Int, ns.length ≤ 63 → Mini.run Qk16.fns n 14 [.imm (.lst (ns.map Mini.D.int))] = some (.ret false (.bl true), [])) : PySem.Challenge.rw_ownlists_k16_rests_of_bills.Holds := by
  w_on; o_law
  refine HandSHeadRun.head_any (r := OpenLaw.row PySem.Challenge.rw_ownlists_k16_rests_of_bills) (q := view (OpenLaw.row PySem.Challenge.rw_ownlists_k16_rests_of_bills).prog [17]) (H := Qk16.hk) (ob := Qk16.ob) (M := 4000) (loose := ["tupled", "rest_of", "rest_beside", "_law_box", "_law_take", "_law_cells", "_law_pick", "_law_same", "_law_line", "_law_tags", "_law_rest", "_law_kit", "_law_by_hand_right", "_law_right"]) (d := HandSHeadRun.topDef (OpenLaw.row PySem.Challenge.rw_ownlists_k16_rests_of_bills).prog 17) (kwd := []) Qk16.ob_eq
    (by kernel_rfl) (fun s => by kernel_rfl) Qk16.runH (by kernel_rfl) (by kernel_rfl) (by kernel_rfl) (by rfl) (by first | assumption | decide +kernel) (by decide +kernel) ⟨rfl, rfl, rfl, rfl, rfl, by decide +kernel⟩ ?hw ?hc
  case hw => w_witness2
  case hc =>
    have hn := Nat.le_of_ble_eq_true hn
    refine L2.walk_ofE (l := PySem.Challenge.rw_ownlists_k16_rests_of_bills) (n := 63) (k := n) (x := "_law_script") (CX := L2.CX0) rfl (by decide) (by kernel_rfl) (Mini.room_of hn) ?F (fun _ _ _ _ z => z)
    intro w mg fa h Y G hmg0
    obtain ⟨K, KX, c⟩ := Y
    obtain ⟨fd, C⟩ := Qk16.facts KX G c
    have hmg : mg ("law" : PySem.Str) = some (.ref fa) := by
      have e : (HandSHeadRun.topDef (OpenLaw.row PySem.Challenge.rw_ownlists_k16_rests_of_bills).prog 17).name = ("law" : PySem.Str) := by kernel_rfl
      rw [← e]
      exact hmg0
    have e := hmg.symm.trans C.M14
    cases e
    have b := L2.FunD.bindsA (ps := ["_law_script"]) C.F14 fun _ _ _ _ _ _ us hl => match us, hl with | [_], _ => rfl
    exact ⟨K, fd 14, Mini.spF K (Mini.run Qk16.fns n) 14, KX, fun s v => b s [v] rfl, fun H a ns hle _ hS => Mini.law_end (hl ns hle) hS, fun base _ _ => Qk16.all_ok C n 14⟩

namespace Qk16
open Mini Pl
theorem h_take : nth fns 4 = some takeF := rfl
theorem h_pick : nth fns 6 = some (pickF 4) := rfl
theorem h_same : nth fns 7 = some (sameF 7) := rfl
theorem h_box : nth fns 3 = some boxF := rfl
theorem h_cells : nth fns 5 = some cellsF := rfl
theorem m0 : mo fns 0 = [false] := rfl
theorem m1 : mo fns 1 = [false, false, false] := rfl
theorem m2 : mo fns 2 = [false, false, false] := rfl
theorem m3 : mo fns 3 = [false, false] := rfl
theorem m4 : mo fns 4 = [true, false] := rfl
theorem m5 : mo fns 5 = [false, false] := rfl
theorem m6 : mo fns 6 = [true, false, false] := rfl
theorem m7 : mo fns 7 = [false, false] := rfl
theorem m8 : mo fns 8 = [true, false, false] := rfl
theorem m9 : mo fns 9 = [true, false] := rfl
theorem m10 : mo fns 10 = [false, false, false] := rfl
theorem m12 : mo fns 12 = [] := rfl
theorem m13 : mo fns 13 = [true] := rfl
/-! ### tupled -/
theorem tupled_str {n : Nat} {s : List Nat} : run fns (n + 1) 0 [.imm (.str s)] = some (.ret false (.str s), []) := by
  rw [run_eq (fn := f0) rfl]
  simp only [runF, f0, mkArgs, b0, List.length, nones, List.append, ↓reduceIte]
  simp [ex, ev, evs, nth, setN, Res.st, Res.bind, dr, drs, bi, out, truthR, truth, store, stores, toImm, toImms, fin, binop, cmpop, celLst, permute, doCall, prep, lent, back, isNop, partR, Res.opt, LINE, isTys, isTy]
theorem tupled_seq {n : Nat} {b : Bool} {ss : List (List Nat)} (hl : ss.length ≤ 1000) : run fns (n + 2) 0 [.imm (seqD b (SL ss))] = some (.ret false (.tup (SL ss)), []) := by
  rw [run_eq (fn := f0) rfl]
  have hC : ev (run fns (n + 1)) (mo fns) c0_0 [some (.imm (seqD b (SL ss))), none] [] = .ok (.fr (.lst (SL ss))) [] := by
    unfold c0_0
    rw [ev]
    have hit : evIt (run fns (n + 1)) (mo fns) (.it (.var 0)) [some (.imm (seqD b (SL ss))), none] [] = .ok (.imm (seqD b (SL ss)), SL ss) [] := by
      cases b <;> simp [ex, ev, evs, nth, setN, Res.st, Res.bind, dr, drs, bi, out, truthR, truth, store, stores, toImm, toImms, fin, binop, cmpop, celLst, permute, doCall, prep, lent, back, isNop, partR, Res.opt, LINE, evIt, seqD, items]
    rw [hit]
    have hL : (SL ss).length ≤ LINE := by rw [List.length_map]; show _ ≤ 16777216; omega
    simp only [Res.bind, hL, if_true, lockC]
    rw [lc_all (fun _ => true) id]
    · rw [List.filter_eq_self.mpr (fun _ _ => rfl)]
      simp [unlockC]
    · intro p hp
      obtain ⟨s, hs, rfl⟩ := str_items (n := 0) ss p hp
      refine ⟨[some (.imm (seqD b (SL ss))), some (.imm (.str s))], by simp [bindT, setN, wipeS], by simp [isNop], fun _ => ⟨.imm (.str s), ?_, rfl⟩⟩
      simp [ex, ev, evs, nth, setN, Res.st, Res.bind, dr, drs, bi, out, truthR, truth, store, stores, toImm, toImms, fin, binop, cmpop, celLst, permute, doCall, prep, lent, back, isNop, partR, Res.opt, LINE, m0, tupled_str]
  simp only [runF, f0, mkArgs, b0, List.length, nones, List.append, ↓reduceIte]
  cases b <;> (simp only [seqD] at hC ⊢; simp at hC; simp [ex, ev, evs, nth, setN, Res.st, Res.bind, dr, drs, bi, out, truthR, truth, store, stores, toImm, toImms, fin, binop, cmpop, celLst, permute, doCall, prep, lent, back, isNop, partR, Res.opt, LINE, isTys, isTy, hC])
/-! ### the rest of a bill -/
def rest (ss ts : List (List Nat)) (g : List Nat) : List (List Nat) := (ss.drop (ss.idxOf g + 1)).filter fun m => decide (m ∉ ts.take (ts.idxOf g))
theorem idx_res {g : List Nat} {ss : List (List Nat)} {cs : Cells} (hg : sOk g = true) (hs : ∀ s ∈ ss, sOk s = true) (h : g ∈ ss) : idxRes (.str g) (SL ss) cs = .ok (.imm (.int (ss.idxOf g))) cs := by
  unfold idxRes
  rw [pls_str ss hs, idxOf_str ss 0 h]
  simp [pl, hg]
theorem cut_to {ss : List (List Nat)} {j : Nat} (h : j ≤ ss.length) : slice (.tup (SL ss)) none (some (j : Int)) = some (false, .tup (SL (ss.take j))) := by
  have : ¬ (j : Int) < 0 := by omega
  simp only [slice, cut, sIx, if_neg this, List.length_map, Int.toNat_natCast, List.drop_zero, Nat.sub_zero, Nat.min_eq_left h, List.map_take]
theorem cut_from {ss : List (List Nat)} {j : Nat} (h : j ≤ ss.length) : slice (.tup (SL ss)) (some (j : Int)) none = some (false, .tup (SL (ss.drop j))) := by
  have : ¬ (j : Int) < 0 := by omega
  simp only [slice, cut, sIx, if_neg this, List.length_map, Int.toNat_natCast, Nat.min_eq_left h, List.map_drop]
  rw [List.take_of_length_le (by simp)]
theorem rest_of_spec {n : Nat} {ss ts : List (List Nat)} {g : List Nat} (hg : sOk g = true) (hs : ∀ s ∈ ss, sOk s = true) (ht : ∀ s ∈ ts, sOk s = true) (h1 : g ∈ ss) (h2 : g ∈ ts) (hl : ss.length ≤ 1000) :
    run fns (n + 1) 1 [.imm (.tup (SL ss)), .imm (.tup (SL ts)), .imm (.str g)] = some (.ret false (.tup (SL (rest ss ts g))), []) := by
  rw [run_eq (fn := f1) rfl]
  have i1 := List.idxOf_lt_length_iff.mpr h1
  have i2 := List.idxOf_lt_length_iff.mpr h2
  have hc1 := cut_to (Nat.le_of_lt i2)
  have hc2 := cut_from (ss := ss) (j := ss.idxOf g + 1) i1
  rw [show ((ss.idxOf g + 1 : Nat) : Int) = (ss.idxOf g : Int) + 1 by omega] at hc2
  have hC : ev (run fns n) (mo fns) c1_0 [some (.imm (.tup (SL ss))), some (.imm (.tup (SL ts))), some (.imm (.str g)), some (.imm (.tup (SL (ts.take (ts.idxOf g))))), none] [] = .ok (.fr (.lst (SL (rest ss ts g)))) [] := by
    unfold c1_0
    rw [ev]
    have hit : evIt (run fns n) (mo fns) (.it (.sl (.var 0) (.bin .add (.index (.var 0) (.var 2)) (.cst (.int 1))) .nop)) [some (.imm (.tup (SL ss))), some (.imm (.tup (SL ts))), some (.imm (.str g)), some (.imm (.tup (SL (ts.take (ts.idxOf g))))), none] [] = .ok (.imm (.tup (SL (ss.drop (ss.idxOf g + 1)))), SL (ss.drop (ss.idxOf g + 1))) [] := by
      simp [ex, ev, evs, nth, setN, Res.st, Res.bind, dr, drs, bi, out, truthR, truth, store, stores, toImm, toImms, fin, binop, cmpop, celLst, permute, doCall, prep, lent, back, isNop, partR, Res.opt, LINE, evIt, items, idx_res hg hs h1, hc2]
    rw [hit]
    have hL : (SL (ss.drop (ss.idxOf g + 1))).length ≤ LINE := by rw [List.length_map, List.length_drop]; show _ ≤ 16777216; omega
    simp only [Res.bind, hL, if_true, lockC]
    rw [lc_all (fun d => decide (unS d ∉ ts.take (ts.idxOf g))) id]
    · simp only [unlockC, List.reverse_nil, List.nil_append, List.map_id, rest, List.filter_map]
      rfl
    · intro p hp
      obtain ⟨s, hs', rfl⟩ := str_items (n := 0) _ p hp
      refine ⟨[some (.imm (.tup (SL ss))), some (.imm (.tup (SL ts))), some (.imm (.str g)), some (.imm (.tup (SL (ts.take (ts.idxOf g))))), some (.imm (.str s))], by simp [bindT, setN, wipeS], ?_, fun _ => ⟨.imm (.str s), by simp [ex, ev, evs, nth, setN, Res.st, Res.bind, dr, drs, bi, out, truthR, truth, store, stores, toImm, toImms, fin, binop, cmpop, celLst, permute, doCall, prep, lent, back, isNop, partR, Res.opt, LINE], rfl⟩⟩
      have e1 : sOk s = true := hs s (List.mem_of_mem_drop hs')
      have e2 := pls_str (n := 60) (ts.take (ts.idxOf g)) fun x hx => ht x (List.mem_of_mem_take hx)
      have e3 := memD_str (b := s) (ts.take (ts.idxOf g))
      generalize ts.take (ts.idxOf g) = hid at e2 e3
      simp [ex, ev, evs, nth, setN, Res.st, Res.bind, dr, drs, bi, out, truthR, truth, store, stores, toImm, toImms, fin, binop, cmpop, celLst, permute, doCall, prep, lent, back, isNop, partR, Res.opt, LINE, pl, e1, e2, e3, unS]
      by_cases hm : s ∈ hid <;> simp [hm]
  simp only [runF, f1, mkArgs, b1, List.length, nones, List.append, ↓reduceIte]
  generalize hid : ts.take (ts.idxOf g) = hh at hC hc1
  simp [ex, ev, evs, nth, setN, Res.st, Res.bind, dr, drs, bi, out, truthR, truth, store, stores, toImm, toImms, fin, binop, cmpop, celLst, permute, doCall, prep, lent, back, isNop, partR, Res.opt, LINE, idx_res hg ht h2, hc1, hC]
/-- what both should answer -/
def beside (ss ts : List (List Nat)) (g : List Nat) : D := if g ∈ ss ∧ g ∈ ts then .tup (SL (rest ss ts g)) else .non
theorem beside_spec {n : Nat} {b : Bool} {ss ts : List (List Nat)} {g : List Nat} (hg : sOk g = true) (hs : ∀ s ∈ ss, sOk s = true) (ht : ∀ s ∈ ts, sOk s = true) (hl : ss.length ≤ 1000) (hl2 : ts.length ≤ 1000) :
    run fns (n + 3) 2 [.imm (seqD b (SL ss)), .imm (seqD b (SL ts)), .imm (.str g)] = some (.ret false (beside ss ts g), []) := by
  rw [run_eq (fn := f2) rfl]
  have p1 := pls_str (n := 60) ss hs
  have p2 := pls_str (n := 60) ts ht
  have q1 := memD_str (b := g) ss
  have q2 := memD_str (b := g) ts
  have c1 : cmpop .notin (.str g) (seqD b (SL ss)) = some (!decide (g ∈ ss)) := by
    cases b <;> simp only [seqD, cmpop, p1, q1, pl, hg, Bool.and_self, if_true, Bool.false_eq_true, if_false]
  have c2 : cmpop .notin (.str g) (seqD b (SL ts)) = some (!decide (g ∈ ts)) := by
    cases b <;> simp only [seqD, cmpop, p2, q2, pl, hg, Bool.and_self, if_true, Bool.false_eq_true, if_false]
  have t1 := tupled_seq (n := n) (b := b) hl
  have t2 := tupled_seq (n := n) (b := b) hl2
  simp only [runF, f2, mkArgs, b2, List.length, nones, List.append, ↓reduceIte]
  by_cases h1 : g ∈ ss
  · by_cases h2 : g ∈ ts
    · have r := rest_of_spec (n := n + 1) hg hs ht h1 h2 hl
      generalize SL ss = A at *
      generalize SL ts = B at *
      simp only [beside, h1, h2, and_self, if_true]
      simp [ex, ev, evs, nth, setN, Res.st, Res.bind, dr, out, truthR, truth, toImm, fin, permute, doCall, prep, lent, back, c1, c2, h1, h2, m0, m1, t1, t2, r]
    · simp only [beside, h1, h2, and_false, if_false]
      simp [ex, ev, evs, nth, setN, Res.st, Res.bind, dr, out, truthR, truth, toImm, fin, permute, doCall, prep, lent, back, c1, c2, h1, h2]
  · simp only [beside, h1, false_and, if_false]
    simp [ex, ev, evs, nth, setN, Res.st, Res.bind, dr, out, truthR, truth, toImm, fin, permute, doCall, prep, lent, back, c1, h1]
/-! ### the law's own rest -/
def keeps (ts : List (List Nat)) (g o : List Nat) : Bool := decide (o ∉ ts) || decide (ts.idxOf g < ts.idxOf o)
theorem rest_loop {n : Nat} {ss ts : List (List Nat)} {g : List Nat} (hg : sOk g = true) (ht : ∀ s ∈ ts, sOk s = true) (h2 : g ∈ ts) : ∀ (xs : List (List Nat)) (found : List (List Nat)) (o : Option RV), (∀ s ∈ xs, sOk s = true) → found.length + xs.length < 1000000 →
    ∃ o', forLoop (bindT (.v 4)) (fun sl1 cs2 => ex (run fns n) (mo fns) b10_0 sl1 cs2) (SL xs) [some (.imm (.tup (SL ss))), some (.imm (.tup (SL ts))), some (.imm (.str g)), some (.cel 0), o] [(.live, .lst (SL found))] =
      .ok .next [some (.imm (.tup (SL ss))), some (.imm (.tup (SL ts))), some (.imm (.str g)), some (.cel 0), o'] [(.live, .lst (SL (found ++ xs.filter (keeps ts g))))]
  | [], found, o, _, _ => ⟨o, by simp [forLoop]⟩
  | x :: xs, found, o, hx, hl => by
    have e1 : sOk x = true := hx x (by simp)
    have e2 := pls_str (n := 60) ts ht
    have e3 := memD_str (b := x) ts
    have hF : found.length < 16777216 := by omega
    obtain ⟨o', h⟩ := rest_loop (n := n) (ss := ss) hg ht h2 xs (if keeps ts g x then found ++ [x] else found) (some (.imm (.str x))) (fun s hs => hx s (by simp [hs])) (by split <;> simp at hl ⊢ <;> omega)
    refine ⟨o', ?_⟩
    show forLoop _ _ (.str x :: SL xs) _ _ = _
    unfold forLoop
    have hb : bindT (.v 4) (.str x) [some (.imm (.tup (SL ss))), some (.imm (.tup (SL ts))), some (.imm (.str g)), some (.cel 0), o] = some [some (.imm (.tup (SL ss))), some (.imm (.tup (SL ts))), some (.imm (.str g)), some (.cel 0), some (.imm (.str x))] := by simp [bindT, setN]
    rw [hb]
    dsimp only
    have hb2 : ex (run fns n) (mo fns) b10_0 [some (.imm (.tup (SL ss))), some (.imm (.tup (SL ts))), some (.imm (.str g)), some (.cel 0), some (.imm (.str x))] [(.live, .lst (SL found))] =
        .ok .next [some (.imm (.tup (SL ss))), some (.imm (.tup (SL ts))), some (.imm (.str g)), some (.cel 0), some (.imm (.str x))] [(.live, .lst (SL (if keeps ts g x then found ++ [x] else found)))] := by
      have hgi : ∀ cs, idxRes (.str g) (SL ts) cs = .ok (.imm (.int (ts.idxOf g))) cs := fun cs => idx_res hg ht h2
      by_cases hm : x ∈ ts
      · have hxi : ∀ cs, idxRes (.str x) (SL ts) cs = .ok (.imm (.int (ts.idxOf x))) cs := fun cs => idx_res e1 ht hm
        by_cases hlt : ts.idxOf g < ts.idxOf x
        · have hk : keeps ts g x = true := by simp [keeps, hlt]
          simp only [hk, if_true, List.map_append]
          have hF2 : (SL found).length < 16777216 := by simpa using hF
          generalize SL ts = B at *
          generalize hCf : SL found = C at hF2
          simp [b10_0, ex, ev, evs, nth, setN, Res.st, Res.bind, dr, out, truthR, truth, toImm, cmpop, pl, e1, e2, e3, hm, hxi, hgi, hlt, celLst, hF2, LINE]
          exact hCf.symm
        · have hk : keeps ts g x = false := by simp [keeps, hlt, hm]
          simp only [hk, if_false, Bool.false_eq_true]
          generalize SL ts = B at *
          simp [b10_0, ex, ev, evs, nth, setN, Res.st, Res.bind, dr, out, truthR, truth, toImm, cmpop, pl, e1, e2, e3, hm, hxi, hgi, hlt]
      · have hk : keeps ts g x = true := by simp [keeps, hm]
        simp only [hk, if_true, List.map_append]
        have hF2 : (SL found).length < 16777216 := by simpa using hF
        generalize SL ts = B at *
        generalize hCf : SL found = C at hF2
        simp [b10_0, ex, ev, evs, nth, setN, Res.st, Res.bind, dr, out, truthR, truth, toImm, cmpop, pl, e1, e2, e3, hm, celLst, hF2, LINE]
        exact hCf.symm
    rw [hb2]
    dsimp only
    rw [h]
    by_cases hk : keeps ts g x = true <;> simp [hk]
theorem law_rest_spec {n : Nat} {ss ts : List (List Nat)} {g : List Nat} (hg : sOk g = true) (hs : ∀ s ∈ ss, sOk s = true) (ht : ∀ s ∈ ts, sOk s = true) (h1 : g ∈ ss) (h2 : g ∈ ts) (hl : ss.length ≤ 1000) :
    run fns (n + 1) 10 [.imm (.tup (SL ss)), .imm (.tup (SL ts)), .imm (.str g)] = some (.ret false (.tup (SL ((ss.drop (ss.idxOf g + 1)).filter (keeps ts g)))), []) := by
  rw [run_eq (fn := f10) rfl]
  have i1 := List.idxOf_lt_length_iff.mpr h1
  have hc2 := cut_from (ss := ss) (j := ss.idxOf g + 1) i1
  rw [show ((ss.idxOf g + 1 : Nat) : Int) = (ss.idxOf g : Int) + 1 by omega] at hc2
  obtain ⟨o', hL⟩ := rest_loop (n := n) (ss := ss) hg ht h2 (ss.drop (ss.idxOf g + 1)) [] none (fun s hs' => hs s (List.mem_of_mem_drop hs')) (by simp; omega)
  have hl10 : ex (run fns n) (mo fns) l10_1 [some (.imm (.tup (SL ss))), some (.imm (.tup (SL ts))), some (.imm (.str g)), some (.cel 0), none] [(.live, .lst [])] =
      .ok .next [some (.imm (.tup (SL ss))), some (.imm (.tup (SL ts))), some (.imm (.str g)), some (.cel 0), o'] [(.live, .lst (SL ((ss.drop (ss.idxOf g + 1)).filter (keeps ts g))))] := by
    unfold l10_1
    rw [ex]
    have hit : evIt (run fns n) (mo fns) (.it (.sl (.var 0) (.bin .add (.index (.var 0) (.var 2)) (.cst (.int 1))) .nop)) [some (.imm (.tup (SL ss))), some (.imm (.tup (SL ts))), some (.imm (.str g)), some (.cel 0), none] [(.live, .lst [])] = .ok (.imm (.tup (SL (ss.drop (ss.idxOf g + 1)))), SL (ss.drop (ss.idxOf g + 1))) [(.live, .lst [])] := by
      simp [ex, ev, evs, nth, setN, Res.st, Res.bind, dr, drs, bi, out, truthR, truth, store, stores, toImm, toImms, fin, binop, cmpop, celLst, permute, doCall, prep, lent, back, isNop, partR, Res.opt, LINE, evIt, items, idx_res hg hs h1, hc2]
    rw [hit]
    simp only [Res.st, lockC, unlockC]
    rw [show ([] : List D) = SL [] from rfl, hL]
    simp [RS.unlock, unlockC]
  simp only [runF, f10, mkArgs, b10, List.length, nones, List.append, ↓reduceIte]
  generalize (ss.drop (ss.idxOf g + 1)).filter (keeps ts g) = r at *
  simp [ex, ev, evs, nth, setN, Res.st, Res.bind, dr, drs, bi, out, truthR, truth, store, stores, toImm, toImms, fin, binop, cmpop, celLst, permute, doCall, prep, lent, back, isNop, partR, Res.opt, LINE, hl10]
/-- both say the same where no bill stands twice -/
theorem mem_take_idx {α : Type} [BEq α] [LawfulBEq α] (o : α) : ∀ (l : List α) (k : Nat), o ∈ l.take k ↔ o ∈ l ∧ l.idxOf o < k
  | [], k => by simp
  | a :: l, 0 => by simp
  | a :: l, k + 1 => by
    rw [List.take_succ_cons, List.mem_cons, mem_take_idx o l k, List.mem_cons, List.idxOf_cons]
    by_cases e : a = o
    · subst e; simp
    · have e1 : (a == o) = false := by simpa using e
      have e2 : ¬ o = a := fun z => e z.symm
      simp [e1, e2]
theorem rest_eq {ss ts : List (List Nat)} {g : List Nat} (hn : ss.Nodup) (h1 : g ∈ ss) (h2 : g ∈ ts) : (ss.drop (ss.idxOf g + 1)).filter (keeps ts g) = rest ss ts g := by
  unfold rest
  apply List.filter_congr
  intro o ho
  have hne : o ≠ g := fun e => by
    subst e
    have i1 := List.idxOf_lt_length_iff.mpr h1
    have hd : ss.drop (ss.idxOf o) = o :: ss.drop (ss.idxOf o + 1) := by
      rw [List.drop_eq_getElem_cons i1, List.getElem_idxOf]
    have := hn.sublist (List.drop_sublist (ss.idxOf o) ss)
    rw [hd] at this
    exact (List.nodup_cons.mp this).1 ho
  have key := mem_take_idx o ts (ts.idxOf g)
  unfold keeps
  by_cases hm : o ∈ ts
  · have hni : ts.idxOf o ≠ ts.idxOf g := fun e => hne (by
      have i1 := List.idxOf_lt_length_iff.mpr hm
      have i2 := List.idxOf_lt_length_iff.mpr h2
      have a1 : ts[ts.idxOf o] = o := List.getElem_idxOf i1
      have a2 : ts[ts.idxOf g] = g := List.getElem_idxOf i2
      rw [← a1, ← a2]
      congr 1)
    by_cases hlt : ts.idxOf o < ts.idxOf g
    · have : ¬ ts.idxOf g < ts.idxOf o := by omega
      simp [key, hm, hlt, this]
    · have : ts.idxOf g < ts.idxOf o := by omega
      simp [key, hm, hlt, this]
  · simp [key, hm]
/-! ### draws -/
theorem perm_SL {l : List D} {ss : List (List Nat)} (h : l.Perm (SL ss)) : ∃ ss' : List (List Nat), l = SL ss' ∧ ss'.Perm ss := by
  have hex : ∀ l : List D, (∀ d ∈ l, ∃ s, d = .str s) → ∃ ss' : List (List Nat), l = SL ss' := by
    intro l
    induction l with
    | nil => exact fun _ => ⟨[], rfl⟩
    | cons d l ih =>
      intro h
      obtain ⟨s, rfl⟩ := h d (by simp)
      obtain ⟨ss', rfl⟩ := ih fun x hx => h x (by simp [hx])
      exact ⟨s :: ss', rfl⟩
  obtain ⟨ss', rfl⟩ := hex l fun d hd => by
    obtain ⟨s, _, e⟩ := List.mem_map.mp (h.mem_iff.mp hd)
    exact ⟨s, e.symm⟩
  have := h.map unS
  rw [unS_map, unS_map] at this
  exact ⟨ss', rfl, this⟩
/-- some of these, each at most once -/
def Some' (us ss : List (List Nat)) : Prop := ∃ vs, (us ++ vs).Perm ss
theorem Some'.mem {us ss : List (List Nat)} (h : Some' us ss) : ∀ u ∈ us, u ∈ ss := fun u hu => by
  obtain ⟨vs, h⟩ := h
  exact h.mem_iff.mp (List.mem_append_left _ hu)
theorem Some'.nd {us ss : List (List Nat)} (h : Some' us ss) (hn : ss.Nodup) : us.Nodup := by
  obtain ⟨vs, h⟩ := h
  exact (List.nodup_append.mp (h.nodup_iff.mpr hn)).1
theorem Some'.len {us ss : List (List Nat)} (h : Some' us ss) : us.length ≤ ss.length := by
  obtain ⟨vs, h⟩ := h
  rw [← h.length_eq, List.length_append]; omega
theorem pick_str {n k : Nat} {t : D} {b : Bool} {ss : List (List Nat)} {m : Int} (ht : Tub k t) (hk : k + ss.length < 1000000000000) (hl : ss.length < 100000) (hm : 0 ≤ m) (hm2 : m < 1073741824) :
    ∃ (t' : D) (us : List (List Nat)), Tub (k + ss.length) t' ∧ Some' us ss ∧ run fns (n + 2) 6 [.ref .live t, .imm (seqD b (SL ss)), .imm (.int m)] = some (.ret true (.lst (SL us)), [(.live, t')]) := by
  obtain ⟨t', ys, rest, h1, h2, h3, h4⟩ := pick_spec (n := n) h_take h_pick (b := b) (xs := SL ss) ht (by simpa using hk) (by simpa using hl) hm hm2
  obtain ⟨ss', e, hp⟩ := perm_SL h2
  have e1 : ys = SL (ss'.take ys.length) := by
    show ys = List.map D.str (ss'.take ys.length)
    rw [List.map_take]
    have e' : List.map D.str ss' = ys ++ rest := e.symm
    rw [e', List.take_left]
  refine ⟨t', ss'.take ys.length, by simpa using h1, ⟨ss'.drop ys.length, by rw [List.take_append_drop]; exact hp⟩, ?_⟩
  rw [h4, ← e1]
theorem line_spec {n k : Nat} {t : D} {ss : List (List Nat)} (ht : Tub k t) (hk : k < 1000000000) (hl : ss.length < 1000) :
    ∃ (t' : D) (us : List (List Nat)), Tub (k + 1 + ss.length) t' ∧ Some' us ss ∧ run fns (n + 3) 8 [.ref .live t, .imm (.lst (SL ss)), .imm (.int 6)] = some (.ret false (.tup (SL us)), [(.live, t')]) := by
  obtain ⟨r, t1, r0, r1, ht1, hr⟩ := take_spec (n := n + 1) h_take (m := (if (ss.length : Int) < 6 then (ss.length : Int) else 6) + 1) ht (by omega) (by split <;> omega) (by split <;> omega)
  obtain ⟨t2, us, ht2, hs, hp⟩ := pick_str (n := n) (b := false) (ss := ss) ht1 (by omega) (by omega) r0 (by split at r1 <;> omega)
  refine ⟨t2, us, ht2, hs, ?_⟩
  rw [run_eq (fn := f8) rfl]
  simp only [runF, f8, mkArgs, b8, List.length, nones, List.append, ↓reduceIte]
  have hlen : (SL ss).length = ss.length := by simp
  rw [← hlen] at hr
  simp only [seqD, Bool.false_eq_true, if_false] at hp
  generalize SL ss = A at *
  generalize SL us = B at *
  simp [ex, ev, evs, nth, setN, Res.st, Res.bind, dr, drs, bi, out, toImm, fin, binop, permute, doCall, prep, lent, back, m4, m6, hr, hp]
abbrev seven : List (List Nat) := [[97], [98], [103, 97, 115], [114, 101, 110, 116], [116, 97, 120], [120], [122, 122, 122, 122, 122, 122, 122, 122]]
theorem seven_ok : ∀ s ∈ seven, sOk s = true := by decide
theorem seven_nd : seven.Nodup := by decide
theorem tags_spec {n k : Nat} {t : D} (ht : Tub k t) (hk : k < 1000000000) :
    ∃ (t' : D) (us : List (List Nat)), Tub (k + 8) t' ∧ Some' us seven ∧ run fns (n + 3) 9 [.ref .live t, .imm (.int 6)] = some (.ret true (.lst (SL us)), [(.live, t')]) := by
  obtain ⟨r, t1, r0, r1, ht1, hr⟩ := take_spec (n := n + 1) h_take (m := 6) ht (by omega) (by omega) (by omega)
  obtain ⟨t2, us, ht2, hs, hp⟩ := pick_str (n := n) (b := false) (ss := seven) (m := 1 + r) ht1 (by simp; omega) (by simp) (by omega) (by omega)
  obtain ⟨us', hp', hso⟩ := sorted_str us fun s h => seven_ok s (hs.mem s h)
  refine ⟨t2, us', ht2.mono (by simp), ?_, ?_⟩
  · obtain ⟨vs, hv⟩ := hs
    exact ⟨vs, (hp'.append_right vs).trans hv⟩
  · rw [run_eq (fn := f9) rfl]
    simp only [runF, f9, mkArgs, b9, List.length, nones, List.append, ↓reduceIte]
    simp only [seqD, Bool.false_eq_true, if_false] at hp
    have hp2 := hp
    simp only [SL, List.map] at hp2
    simp only [SL] at hso
    simp [ex, ev, evs, nth, setN, Res.st, Res.bind, dr, drs, out, toImm, toImms, fin, binop, permute, doCall, prep, lent, back, m4, m6, hr, hp2, hso, LINE]
/-! ### one round -/
theorem beside_pd {ss ts : List (List Nat)} {g : List Nat} (hs : ∀ s ∈ ss, sOk s = true) (hl : ss.length ≤ 1000) : Pd 1 (beside ss ts g) := by
  unfold beside
  split
  · refine .inr ⟨true, SL (rest ss ts g), rfl, ?_, fun x hx => ?_⟩
    · rw [List.length_map]
      unfold rest
      have := List.length_filter_le (fun m => decide (m ∉ ts.take (ts.idxOf g))) (ss.drop (ss.idxOf g + 1))
      rw [List.length_drop] at this
      omega
    · obtain ⟨s, h, rfl⟩ := str_items (n := 0) _ x hx
      have : s ∈ ss := List.mem_of_mem_drop (List.mem_filter.mp h).1
      exact hs s this
  · exact .inl trivial
theorem inner {n : Nat} {ss ts : List (List Nat)} {g : List Nat} {c1 c2 due : Option RV} {cs : Cells} (hg : sOk g = true) (hs : ∀ s ∈ ss, sOk s = true) (ht : ∀ s ∈ ts, sOk s = true) (hl : ss.length ≤ 1000) (hl2 : ts.length ≤ 1000) (hn : ss.Nodup) :
    ex (run fns (n + 3)) (mo fns) b13_0 [some (.cel 0), c1, c2, some (.imm (.str g)), some (.imm (.tup (SL ss))), some (.imm (.tup (SL ts))), due] cs =
      .ok .next [some (.cel 0), c1, c2, some (.imm (.str g)), some (.imm (.tup (SL ss))), some (.imm (.tup (SL ts))), some (.imm (beside ss ts g))] cs := by
  have p1 := pls_str (n := 60) ss hs
  have p2 := pls_str (n := 60) ts ht
  have q1 := memD_str (b := g) ss
  have q2 := memD_str (b := g) ts
  have c1' : cmpop .isin (.str g) (.tup (SL ss)) = some (decide (g ∈ ss)) := by
    simp only [cmpop, p1, q1, pl, hg, Bool.and_self, if_true]
  have c2' : cmpop .isin (.str g) (.tup (SL ts)) = some (decide (g ∈ ts)) := by
    simp only [cmpop, p2, q2, pl, hg, Bool.and_self, if_true]
  have k1 := beside_spec (n := n) (b := true) (g := g) hg hs ht hl hl2
  have k2 := beside_spec (n := n) (b := false) (g := g) hg hs ht hl hl2
  simp only [seqD, if_true, Bool.false_eq_true, if_false] at k1 k2
  have hsame := same_spec h_same 2 n (.lst [beside ss ts g, beside ss ts g]) (.inr ⟨false, _, rfl, by simp, fun x hx => by
    have : x = beside ss ts g := by simpa using hx
    rw [this]; exact beside_pd hs hl⟩)
  have hdue : (g ∈ ss ∧ g ∈ ts) → run fns (n + 3) 10 [.imm (.tup (SL ss)), .imm (.tup (SL ts)), .imm (.str g)] = some (.ret false (beside ss ts g), []) := fun h => by
    rw [law_rest_spec (n := n + 2) hg hs ht h.1 h.2 hl, rest_eq hn h.1 h.2]
    unfold beside
    rw [if_pos h]
  have hno : ¬ (g ∈ ss ∧ g ∈ ts) → beside ss ts g = .non := fun h => by
    unfold beside
    rw [if_neg h]
  generalize beside ss ts g = B at *
  generalize SL ss = A at *
  generalize SL ts = A2 at *
  have hl1 : bi .list [.tup A] = some (true, .lst A) := rfl
  have hl2 : bi .list [.tup A2] = some (true, .lst A2) := rfl
  by_cases h1 : g ∈ ss
  · by_cases h2 : g ∈ ts
    · have hd := hdue ⟨h1, h2⟩
      simp [b13_0, ex, ev, evs, nth, setN, Res.st, Res.bind, dr, drs, out, truthR, truth, toImm, toImms, store, permute, doCall, prep, lent, back, m2, m7, m10, c1', c2', h1, h2, hd, k1, k2, hl1, hl2, hsame, LINE]
    · have hd := hno (by simp [h2])
      subst hd
      simp [b13_0, ex, ev, evs, nth, setN, Res.st, Res.bind, dr, drs, out, truthR, truth, toImm, toImms, store, permute, doCall, prep, lent, back, m2, m7, m10, c1', c2', h1, h2, k1, k2, hl1, hl2, hsame, LINE]
  · have hd := hno (by simp [h1])
    subst hd
    simp [b13_0, ex, ev, evs, nth, setN, Res.st, Res.bind, dr, drs, out, truthR, truth, toImm, toImms, store, permute, doCall, prep, lent, back, m2, m7, m10, c1', c2', h1, k1, k2, hl1, hl2, hsame, LINE]
theorem inner_loop {n : Nat} {ss ts : List (List Nat)} {c1 c2 tg due : Option RV} {cs : Cells} (hs : ∀ s ∈ ss, sOk s = true) (ht : ∀ s ∈ ts, sOk s = true) (hl : ss.length ≤ 1000) (hl2 : ts.length ≤ 1000) (hn : ss.Nodup) :
    ∃ tg' due', ex (run fns (n + 3)) (mo fns) l13_1 [some (.cel 0), c1, c2, tg, some (.imm (.tup (SL ss))), some (.imm (.tup (SL ts))), due] cs =
      .ok .next [some (.cel 0), c1, c2, tg', some (.imm (.tup (SL ss))), some (.imm (.tup (SL ts))), due'] cs := by
  obtain ⟨sl', cs', h1, tg', due', h2, h3⟩ := for_all (bind := bindT (.v 3)) (b := fun sl1 cs2 => ex (run fns (n + 3)) (mo fns) b13_0 sl1 cs2)
    (fun _ sl cs' => ∃ tg' due', sl = [some (.cel 0), c1, c2, tg', some (.imm (.tup (SL ss))), some (.imm (.tup (SL ts))), due'] ∧ cs' = cs) (SL seven) 0 [some (.cel 0), c1, c2, tg, some (.imm (.tup (SL ss))), some (.imm (.tup (SL ts))), due] cs ⟨tg, due, rfl, rfl⟩ fun j x sl cs' hx ⟨tg', due', e1, e2⟩ => by
      subst e1; subst e2
      obtain ⟨g, hg, rfl⟩ := str_items (n := 0) seven x (List.mem_of_getElem? hx)
      exact ⟨_, _, _, by simp [bindT, setN]; rfl, .inl (inner (seven_ok g hg) hs ht hl hl2 hn), _, _, rfl, rfl⟩
  subst h2; subst h3
  refine ⟨tg', due', ?_⟩
  unfold l13_1
  rw [ex]
  have hit : evIt (run fns (n + 3)) (mo fns) (.it (.tup (.cons (.cst (.str [97])) (.cons (.cst (.str [98])) (.cons (.cst (.str [103, 97, 115])) (.cons (.cst (.str [114, 101, 110, 116])) (.cons (.cst (.str [116, 97, 120])) (.cons (.cst (.str [120])) (.cons (.cst (.str [122, 122, 122, 122, 122, 122, 122, 122])) .nil))))))))) [some (.cel 0), c1, c2, tg, some (.imm (.tup (SL ss))), some (.imm (.tup (SL ts))), due] cs' = .ok (.imm (.tup (SL seven)), SL seven) cs' := by
    simp [ex, ev, evs, nth, setN, Res.st, Res.bind, dr, drs, bi, out, truthR, truth, store, stores, toImm, toImms, fin, binop, cmpop, celLst, permute, doCall, prep, lent, back, isNop, partR, Res.opt, LINE, evIt, items]
  rw [hit]
  simp only [Res.st, lockC, h1, RS.unlock, unlockC]
theorem right_spec {n : Nat} {t : D} (ht : Tub 0 t) : ∃ t', run fns (n + 4) 13 [.ref .live t] = some (.ret false (.bl true), [(.live, t')]) := by
  obtain ⟨sl', cs', h1, t', rest, a1, a2, a3, a4, a5, a6, h2, h3, h4⟩ := for_all (bind := bindT (.v 1)) (b := fun sl1 cs2 => ex (run fns (n + 3)) (mo fns) b13_2 sl1 cs2)
    (fun i sl cs' => ∃ t' rest a1 a2 a3 a4 a5 a6, sl = [some (.cel 0), a1, a2, a3, a4, a5, a6] ∧ cs' = (.live, t') :: rest ∧ Tub (i * 40) t') (rngD 0 30) 0 [some (.cel 0), none, none, none, none, none, none] [(.live, t)]
    ⟨t, [], _, _, _, _, _, _, rfl, rfl, ht⟩ fun j x sl cs' hx ⟨t', rest, a1, a2, a3, a4, a5, a6, e1, e2, hT⟩ => by
      subst e1; subst e2
      obtain ⟨rfl, hj⟩ := rngP_get 30 0 j x hx
      obtain ⟨t1, tags, ht1, hs1, hr1⟩ := tags_spec (n := n) hT (by omega)
      have hlt := hs1.len
      simp at hlt
      obtain ⟨t2, near, ht2, hs2, hr2⟩ := line_spec (n := n) (ss := tags) ht1 (by omega) (by omega)
      obtain ⟨t3, far, ht3, hs3, hr3⟩ := line_spec (n := n) (ss := tags) ht2 (by omega) (by omega)
      have ok : ∀ us, Some' us tags → (∀ s ∈ us, sOk s = true) ∧ us.length ≤ 1000 ∧ us.Nodup := fun us h => ⟨fun s hs => seven_ok s (hs1.mem s (h.mem s hs)), by have := h.len; omega, h.nd (hs1.nd seven_nd)⟩
      obtain ⟨n1, n2, n3⟩ := ok near hs2
      obtain ⟨f1, f2, f3⟩ := ok far hs3
      obtain ⟨tg', due', hin⟩ := inner_loop (n := n) (c1 := some (.imm (.int (0 + (j : Int))))) (c2 := some (.cel (rest.length + 1))) (tg := a3) (due := a6) (cs := (.live, t3) :: (rest ++ [(.dead, .lst (SL tags))])) n1 f1 n2 f2 n3
      refine ⟨_, _, _, by simp [bindT, setN]; rfl, .inl (?_ : _ = RS.ok .next [some (.cel 0), some (.imm (.int (0 + (j : Int)))), some (.cel (rest.length + 1)), tg', some (.imm (.tup (SL near))), some (.imm (.tup (SL far))), due'] ((.live, t3) :: (rest ++ [(.dead, .lst (SL tags))]))), ⟨t3, _, _, _, _, _, _, _, rfl, rfl, ht3.mono (by omega)⟩⟩
      generalize SL tags = T at *
      generalize SL near = A at *
      generalize SL far = B at *
      simp only [Int.zero_add] at hin ⊢
      simp [b13_2, ex, ev, evs, nth, setN, Res.st, Res.bind, dr, drs, out, toImm, toImms, store, stores, permute, doCall, prep, lent, back, m9, m8, hr1, hr2, hr3, nth_last, setN_last, hin]
  subst h2; subst h3
  refine ⟨t', ?_⟩
  rw [run_eq (fn := f13) rfl]
  have hL : ex (run fns (n + 3)) (mo fns) l13_3 [some (.cel 0), none, none, none, none, none, none] [(.live, t)] = .ok .next [some (.cel 0), a1, a2, a3, a4, a5, a6] ((.live, t') :: rest) := by
    unfold l13_3
    rw [ex]
    have hit : evIt (run fns (n + 3)) (mo fns) (.rng1 (.cst (.int 30))) [some (.cel 0), none, none, none, none, none, none] [(.live, t)] = .ok (.imm .non, rngD 0 30) [(.live, t)] := by
      simp [ex, ev, evs, nth, setN, Res.st, Res.bind, dr, drs, bi, out, truthR, truth, store, stores, toImm, toImms, fin, binop, cmpop, celLst, permute, doCall, prep, lent, back, isNop, partR, Res.opt, LINE, evIt, in62]
    rw [hit]
    simp only [Res.st, lockC, h1, RS.unlock, unlockC]
  simp only [runF, f13, mkArgs, b13, List.length, nones, List.append, ↓reduceIte]
  simp [ex, ev, evs, nth, setN, Res.st, Res.bind, dr, drs, bi, out, truthR, truth, store, stores, toImm, toImms, fin, binop, cmpop, celLst, permute, doCall, prep, lent, back, isNop, partR, Res.opt, LINE, hL]
/-! ### the law -/
end Qk16

namespace Qk16
open Mini Pl
theorem all_right {n : Nat} {ns cs : List Int} (c1 : cs.length ≤ 3) : ∃ cs', ev (run fns (n + 5)) (mo fns) c14_0 [some (.imm (.lst (ns.map D.int))), some (.cel 0), none] [(.live, .lst (cs.map D.int))] = .ok (.fr (.lst ((rngD 0 cs.length).map fun _ => .bl true))) cs' := by
    unfold c14_0
    have hit : evIt (run fns (n + 5)) (mo fns) (.rng1 (.bi .len (.cons (.var 1) .nil))) [some (.imm (.lst (ns.map D.int))), some (.cel 0), none] [(.live, .lst (cs.map D.int))] = .ok (.imm .non, rngD 0 cs.length) [(.live, .lst (cs.map D.int))] := by
      exact it_rng1 (x := .imm (.int cs.length)) (by simp [ex, ev, evs, nth, setN, Res.st, Res.bind, dr, drs, bi, out, truthR, truth, store, stores, toImm, toImms, fin, binop, cmpop, celLst, permute, doCall, prep, lent, back, isNop, partR, Res.opt, LINE]) rfl (by omega)
    obtain ⟨cs', _, h⟩ := lc_nop (own := [2]) (t := .v 2) (e := .call 13 [0] (.cons (.call 3 [0, 1] (.cons (.var 1) (.cons (.var 2) .nil))) .nil)) (fun c => c = [(.live, .lst (cs.map D.int))] ∨ c = [(.dead, .lst (cs.map D.int))]) (fun _ => .bl true) hit (by show (rngD 0 cs.length).length ≤ _; rw [rngP_len]; omega) (.inl rfl) fun x hx c hc => by
        obtain ⟨j, hj⟩ := List.getElem?_of_mem hx
        obtain ⟨rfl, hj2⟩ := rngP_get _ _ _ _ hj
        obtain ⟨t, ht, hb⟩ := box_spec (fs := fns) (n := n + 4) h_box (cs := cs) (k := j) hj2 (by omega)
        obtain ⟨t', hr⟩ := right_spec (n := n + 1) ht
        refine ⟨[some (.imm (.lst (ns.map D.int))), some (.cel 0), some (.imm (.int j))], .imm (.bl true), [(.dead, .lst (cs.map D.int))], [(.dead, .lst (cs.map D.int))], by simp [bindT, setN, wipeS], ?_, rfl, .inr rfl⟩
        generalize cs.map D.int = C at *
        rcases hc with rfl | rfl <;> simp [ev, evs, nth, setN, Res.bind, dr, out, toImm, permute, doCall, prep, lent, back, m3, m13, hb, hr]
    exact ⟨_, h⟩
end Qk16

namespace Qk16
open Mini Pl
set_option maxHeartbeats 0 in
theorem hand_ok : good (run fns 11 12 []) = true := by decide +kernel
theorem fin_gen {call : CallT} {modes : Nat → List Bool} {A C : D} {B : List D} {cs' : Cells} (e5 : modes 5 = [false, false]) (e12 : modes 12 = []) (h1 : call 12 [] = some (.ret false (.bl true), [])) (h2 : call 5 [.imm A, .imm (.int 3)] = some (.ret true C, []))
    (hC : ev call modes c14_0 [some (.imm A), some (.cel 0), none] [(.live, C)] = .ok (.fr (.lst B)) cs') (hA : allBl B = some true) : runF call modes f14 [.imm A] = some (.ret false (.bl true), []) := by
  simp only [runF, f14, mkArgs, b14, List.length, nones, List.append, ↓reduceIte]
  simp [ex, ev, evs, nth, setN, Res.st, Res.bind, dr, drs, bi, out, truthR, truth, store, toImm, fin, permute, doCall, prep, lent, back, e5, e12, h1, h2, hC, hA]
theorem hA {B : List D} : allBl (B.map fun _ => D.bl true) = some true := allBl_true _ fun d hd => by
  obtain ⟨_, _, e⟩ := List.mem_map.mp hd
  exact e.symm
theorem law_gen {n : Nat} (by_hand : run fns (n + 5) 12 [] = some (.ret false (.bl true), [])) (ns : List Int) (hl : ns.length ≤ 63) : run fns (n + 6) 14 [.imm (.lst (ns.map D.int))] = some (.ret false (.bl true), []) := by
  obtain ⟨cs, c0, c1, hc⟩ := cells_spec (fs := fns) (n := n + 4) h_cells (ns := ns) (m := 3) (by decide) (by decide) hl
  obtain ⟨cs', hC⟩ := all_right (n := n) (ns := ns) c1
  rw [run_eq (n := n + 5) (fn := f14) rfl]
  exact fin_gen m5 m12 by_hand hc hC hA
theorem law_spec (ns : List Int) (hl : ns.length ≤ 63) : run fns 12 14 [.imm (.lst (ns.map D.int))] = some (.ret false (.bl true), []) := law_gen (n := 6) (good_eq hand_ok) ns hl
end Qk16

theorem PySem.Challenge.cw_ownlists_k16_rests_of_bills_holds : PySem.Challenge.rw_ownlists_k16_rests_of_bills.Holds :=
  Qk16.holds_of (n := 12) rfl Qk16.law_spec
