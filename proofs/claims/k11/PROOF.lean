import PyProof.Rows.All
import Wide.All
import OpenK.AllK
import Wide.FinOn
import HandS.ForMost
import HandS.Wide
import HandS.TupAny
import HandS.TupMul
import HandS.TupLe
import HandS.Deep
import HandS.SortInts
import HandS.Style
import HandS.IsInst
import HandS.RaiseMore
import HandS.Sort
import HandS.SortRule
import PyProof.ReprRoads
import PyProof.CallFns
import HandS.SetFor
import HandS.Strs
import HandS.Walk
import HandS.Zip
import KE.GoesNew
import KE.GoesMore
import HandS.Defaults
import HandS.Words
import HandS.Ends
import HandS.HeadEnd
import HandS.List
import HandS.Flow
import HandS.Head0
import HandS.Head1
import HandS.Head2
import HandS.HeadHook1
import HandS.HeadHook2
import HandS.More
import HandS.WordsExc
import KE.KStateDown
import PyProof.ReprLen
import PySem.Challenge.RW_discsight_k11_whole_each_sensor_by_itsel
set_option Elab.async false
set_option linter.all false
set_option maxRecDepth 100000
set_option Elab.async false
set_option linter.all false
set_option maxRecDepth 100000
/-! values, programs in slots, and what they compute -/
namespace Dl
open PySem

/-- p: never changes again; o: a list or a dict of one owner; ob: an object of one owner -/
inductive D where
  | p (d : PyData)
  | o (d : PyData)
  | ob (c : Nat) (fs : List (Str × D))
def D.dat : D → Option PyData
  | .p d => some d
  | .o d => some d
  | .ob _ _ => none
def D.own : D → Bool
  | .p _ => false
  | _ => true

abbrev Env := List (Option D)
structure Exn where
  c : Nat
  fs : List (Str × PyData)
inductive Res (α : Type) where
  | ok (a : α) (r : Env)
  | ex (x : Exn) (r : Env)
  | bad
def Res.bind {α β : Type} (x : Res α) (f : α → Env → Res β) : Res β := match x with
  | .ok a r => f a r
  | .ex x r => .ex x r
  | .bad => .bad
/-- a call's end: the value, the owned arguments as they are then -/
inductive CR where
  | ok (d : D) (outs : List D)
  | ex (x : Exn) (outs : List D)
  | bad
inductive Out where
  | nx (r : Env)
  | rt (d : D) (r : Env)
  | ct (r : Env)
  | bk (r : Env)
  | ex (x : Exn) (r : Env)
  | bad

inductive Op where
  | add | sub | mul | fdiv | mod | pow | shl | shr | xor
  deriving DecidableEq
inductive Cm where
  | eq | ne | lt | le | gt | ge | isin | notin | is | isnt
  deriving DecidableEq
inductive Bi where
  | len | tuple | list | abs | int | repr | str | min1 | max1 | min2 | max2 | sorted | all | any | sum | setsorted
  deriving DecidableEq
inductive Ty where
  | int | bool | tuple | list | str | dict
  deriving DecidableEq
inductive Tg where
  | v (i : Nat)
  | t (ts : List Tg)
mutual
inductive Ex where
  | var (i : Nat)
  | c (d : PyData)
  | tup (es : List Ex)
  | lst (es : List Ex)
  | bin (op : Op) (a b : Ex)
  | neg (a : Ex)
  | not (a : Ex)
  | cmp (op : Cm) (a b : Ex)
  | ch (op1 op2 : Cm) (a b c : Ex)
  | and (a b : Ex)
  | or (a b : Ex)
  | ite (c a b : Ex)
  | idx (a i : Ex)
  | slF (a lo : Ex)
  | slT (a hi : Ex)
  | slB (a lo hi : Ex)
  | rev (a : Ex)
  | call (f : Nat) (es : List Ex)
  | bi (b : Bi) (es : List Ex)
  | isT (a : Ex) (t : Ty)
  | inR (neg : Bool) (a lo hi : Ex)
  | lc (elt : Ex) (own : List Nat) (tg : Tg) (it : It) (cond : Ex)
  | lc2 (elt : Ex) (own : List Nat) (tg : Tg) (it : It) (cond : Ex) (tg2 : Tg) (it2 : It) (cond2 : Ex)
  | esc (e : Ex)
inductive It where
  | ex (e : Ex)
  | rng1 (a : Ex)
  | rng2 (a b : Ex)
  | zip2 (a b : Ex)
  | zip3 (a b c : Ex)
  | enum (a : Ex)
  | enumz (a b : Ex)
end
inductive St where
  | asg (i : Nat) (e : Ex)
  | unp (ts : List Tg) (e : Ex)
  | par (is : List Nat) (es : List Ex)
  | setI (i : Nat) (ix e : Ex)
  | exp (e : Ex)
  | app (i : Nat) (e : Ex)
  | ext (i : Nat) (e : Ex)
  | ret (e : Ex)
  | retN
  | ifs (c : Ex) (a b : List St)
  | for_ (t : Tg) (it : It) (body : List St)
  | whl (c : Ex) (body : List St)
  | pass
  | cont

/-! ### by data -/
def seqOf : PyData → Option (List PyData)
  | .list xs => some xs
  | .tuple xs => some xs
  | _ => none
def intOf : PyData → Option Int
  | .int i => some i
  | _ => none
def intsOf : List PyData → Option (List Int)
  | [] => some []
  | .int i :: r => (intsOf r).map (i :: ·)
  | _ :: _ => none
def boolsOf : List PyData → Option (List Bool)
  | [] => some []
  | .bool i :: r => (boolsOf r).map (i :: ·)
  | _ :: _ => none
def mulOk (i j : Int) : Bool := decide (-(2 ^ 64) < i ∧ i < 2 ^ 64) || decide (-(2 ^ 64) < j ∧ j < 2 ^ 64) || decide (i.natAbs.log2 + j.natAbs.log2 < 1000000)
def powOk (i j : Int) : Bool := decide (0 ≤ j ∧ j ≤ 1000000 ∧ i.natAbs < 2 ^ 64)
def repL (k : Int) (xs : List PyData) : List PyData := (List.replicate k.toNat xs).flatten
def repOk (k : Int) (xs : List PyData) : Bool := decide (0 < xs.length ∧ 2 ≤ k ∧ k ≤ 1000 ∧ xs.length ≤ 1000)
def binD : Op → PyData → PyData → Option D
  | .add, .int i, .int j => some (.p (.int (i + j)))
  | .add, .list xs, .list ys => if xs.length + ys.length ≤ sizeLine then some (.o (.list (xs ++ ys))) else none
  | .add, .tuple xs, .tuple ys => if xs.length + ys.length ≤ sizeLine then some (.p (.tuple (xs ++ ys))) else none
  | .add, .str x, .str y => if x.length + y.length ≤ sizeLine then some (.p (.str (x ++ y))) else none
  | .sub, .int i, .int j => some (.p (.int (i - j)))
  | .mul, .int i, .int j => if mulOk i j then some (.p (.int (i * j))) else none
  | .mul, .tuple xs, .int k => if repOk k xs then some (.p (.tuple (repL k xs))) else none
  | .fdiv, .int i, .int j => if 0 < j ∧ j.natAbs.log2 < 9000 then some (.p (.int (i / j))) else none
  | .mod, .int i, .int j => if 0 < j then some (.p (.int (i % j))) else none
  | .pow, .int i, .int j => if powOk i j then some (.p (.int (i ^ j.toNat))) else none
  | .shl, .int i, .int j => if powOk i j then some (.p (.int (i * 2 ^ j.toNat))) else none
  | .shr, .int i, .int j => if 0 ≤ j then some (.p (.int (i / 2 ^ j.toNat))) else none
  | .xor, .int i, .int j => some (.p (.int (Builtin.bitXor i j)))
  | _, _, _ => none
/-- shape that == serves -/
abbrev shp (d : PyData) : Bool := SeqAt.shaped d
def inD (y : PyData) (xs : List PyData) : Bool := xs.any fun x => PyData.eqv x y
def ltInts (xs ys : List PyData) : Option Bool := match intsOf xs, intsOf ys with
  | some ns, some ms => some (HT.lexLt ns ms)
  | _, _ => none
def cmpD : Cm → PyData → PyData → Option Bool
  | .eq, x, y => if shp x && shp y then some (PyData.eqv x y) else none
  | .ne, x, y => if shp x && shp y then some (!PyData.eqv x y) else none
  | .lt, .int i, .int j => some (decide (i < j))
  | .le, .int i, .int j => some (decide (i ≤ j))
  | .gt, .int i, .int j => some (decide (j < i))
  | .ge, .int i, .int j => some (decide (j ≤ i))
  | .lt, .tuple xs, .tuple ys => ltInts xs ys
  | .isin, y, .list xs => if shp y && shp (.list xs) then some (inD y xs) else none
  | .notin, y, .list xs => if shp y && shp (.list xs) then some (!inD y xs) else none
  | .isin, y, .tuple xs => if shp y && shp (.tuple xs) then some (inD y xs) else none
  | .notin, y, .tuple xs => if shp y && shp (.tuple xs) then some (!inD y xs) else none
  | .is, x, .none => some (match x with | .none => true | _ => false)
  | .isnt, x, .none => some (match x with | .none => false | _ => true)
  | .is, .bool a, .bool b => some (decide (a = b))
  | .isnt, .bool a, .bool b => some (!decide (a = b))
  | _, _, _ => none
def atP (xs : List PyData) (i : Int) : Option PyData := (L2.ixN xs.length i).bind fun j => xs[j]?
def idxD : PyData → PyData → Option PyData
  | .list xs, .int i => atP xs i
  | .tuple xs, .int i => atP xs i
  | _, _ => none
def cutP (xs : List PyData) (lo hi : Option Int) : List PyData := (xs.drop (HT.sIx xs.length 0 lo)).take (HT.sIx xs.length xs.length hi - HT.sIx xs.length 0 lo)
def slD (d : PyData) (lo hi : Option Int) : Option D := match d with
  | .list xs => some (.o (.list (cutP xs lo hi)))
  | .tuple xs => some (.p (.tuple (cutP xs lo hi)))
  | _ => none
def revD : PyData → Option D
  | .list xs => some (.o (.list xs.reverse))
  | _ => none
def isTy : PyData → Ty → Bool
  | .int _, .int => true
  | .bool _, .int => true
  | .bool _, .bool => true
  | .tuple _, .tuple => true
  | .list _, .list => true
  | .str _, .str => true
  | .dict _, .dict => true
  | _, _ => false
def lenD : PyData → Option Nat
  | .list xs => some xs.length
  | .tuple xs => some xs.length
  | _ => none
def reprOk (d : PyData) : Bool := d.showable && !d.hasDict && decide (d.depth ≤ 64) && decide (d.shown.length ≤ sizeLine)
def least : List Int → Option Int
  | [] => none
  | x :: xs => some (xs.foldl min x)
def most : List Int → Option Int
  | [] => none
  | x :: xs => some (xs.foldl max x)
def srtI (ns : List Int) : List Int := ns.mergeSort fun a b => decide (a ≤ b)
def leP (x y : Int × Int) : Bool := decide (x.1 < y.1 ∨ x.1 = y.1 ∧ x.2 ≤ y.2)
def srtP (ts : List (Int × Int)) : List (Int × Int) := ts.mergeSort leP
/-- of neighbours that are alike one is left -/
def dedupA {α : Type} [DecidableEq α] : List α → List α
  | x :: y :: r => if x = y then dedupA (y :: r) else x :: dedupA (y :: r)
  | l => l
def pairI (p : Int × Int) : PyData := .tuple [.int p.1, .int p.2]
def pairsOf : List PyData → Option (List (Int × Int))
  | [] => some []
  | .tuple [.int i, .int j] :: r => (pairsOf r).map ((i, j) :: ·)
  | _ :: _ => none
def sortD : PyData → Option D
  | .list xs => (match intsOf xs with
    | some ns => some (.o (.list ((srtI ns).map .int)))
    | none => (pairsOf xs).map fun ts => .o (.list ((srtP ts).map pairI)))
  | _ => none
def setMost : Nat := 4000
def setSortD (xs : List PyData) : Option D := if xs.length < setMost then (intsOf xs).map fun ns => .o (.list ((dedupA (srtI ns)).map .int)) else none
def arg1 (f : PyData → Option D) : List PyData → Option D
  | [d] => f d
  | _ => none
def arg2 (f : PyData → PyData → Option D) : List PyData → Option D
  | [d, e] => f d e
  | _ => none
def onInt (f : Int → Option D) : PyData → Option D
  | .int i => f i
  | _ => none
def onInt2 (f : Int → Int → Option D) : PyData → PyData → Option D
  | .int i, .int j => f i j
  | _, _ => none
def onInts (f : List Int → Option D) : PyData → Option D
  | .list xs => (intsOf xs).bind f
  | _ => none
def onBools (f : List Bool → Option D) : PyData → Option D
  | .list xs => (boolsOf xs).bind f
  | _ => none
def intD : PyData → Option D
  | .int i => some (.p (.int i))
  | .bool b => some (.p (.int (if b then 1 else 0)))
  | _ => none
def pI (i : Int) : D := .p (.int i)
def pB (c : Bool) : D := .p (.bool c)
def biD : Bi → List PyData → Option D
  | .len => arg1 fun d => (lenD d).map fun n => pI (n : Nat)
  | .tuple => arg1 fun d => (seqOf d).map fun xs => .p (.tuple xs)
  | .list => arg1 fun d => (seqOf d).map fun xs => .o (.list xs)
  | .abs => arg1 (onInt fun i => some (pI (if i < 0 then -i else i)))
  | .int => arg1 intD
  | .repr => arg1 fun d => if reprOk d then some (.p (.str d.shown)) else none
  | .str => arg1 (onInt fun i => if i.natAbs.log2 < 1920 then some (.p (.str (toString i))) else none)
  | .min1 => arg1 (onInts fun ns => (least ns).map pI)
  | .max1 => arg1 (onInts fun ns => (most ns).map pI)
  | .min2 => arg2 (onInt2 fun i j => some (pI (if j < i then j else i)))
  | .max2 => arg2 (onInt2 fun i j => some (pI (if j > i then j else i)))
  | .sorted => arg1 sortD
  | .setsorted => arg1 fun d => (seqOf d).bind setSortD
  | .all => arg1 (onBools fun bs => some (pB (bs.all id)))
  | .any => arg1 (onBools fun bs => some (pB (bs.any id)))
  | .sum => arg1 (onInts fun ns => some (pI ns.sum))

/-! ### operands -/
/-- an operand: a slot (read when all are there), or a value made -/
inductive Arg where
  | s (i : Nat)
  | t (d : D)
def Ex.vix : Ex → Option Nat
  | .var i => some i
  | _ => none
def getS (r : Env) (i : Nat) : Option D := match r[i]? with
  | some (some d) => some d
  | _ => none
def opnd (e : Ex) (f : Env → Res D) (r : Env) : Res Arg := match e.vix with
  | some i => (match getS r i with
    | some _ => .ok (.s i) r
    | none => .bad)
  | none => (f r).bind fun d r1 => .ok (.t d) r1
def Arg.get (r : Env) : Arg → Option D
  | .s i => getS r i
  | .t d => some d
def Arg.dat (r : Env) (a : Arg) : Option PyData := (a.get r).bind D.dat
def datsOf (r : Env) : List Arg → Option (List PyData)
  | [] => some []
  | a :: as => (a.dat r).bind fun d => (datsOf r as).map (d :: ·)
def ofO {α : Type} (x : Option α) (r : Env) : Res α := match x with
  | some a => .ok a r
  | none => .bad
/-- a value that is kept: a list of one owner is given up to all -/
def keep (r : Env) (d : D) : Res D := match d with
  | .ob _ _ => .bad
  | d => .ok d r
/-- a slot's value, kept elsewhere too -/
def escS (i : Nat) (r : Env) : Res D := match getS r i with
  | some (.p d) => .ok (.p d) r
  | some (.o d) => .ok (.p d) (r.set i (some (.p d)))
  | _ => .bad
/-- the arguments' values; what has one owner is taken out of its slot -/
def takeAll : List Arg → Env → Option (List D × Env)
  | [], r => some ([], r)
  | .s i :: as, r => (match getS r i with
    | some d => (takeAll as (if d.own then r.set i none else r)).map fun q => (d :: q.1, q.2)
    | none => none)
  | .t d :: as, r => (takeAll as r).map fun q => (d :: q.1, q.2)
/-- what a call leaves in the slots that were lent -/
def giveBack : List Arg → List D → List D → Env → Env
  | a :: as, d :: ds, outs, r => if d.own then (match outs with
      | o :: os => (match a with
        | .s i => giveBack as ds os (r.set i (some o))
        | .t _ => giveBack as ds os r)
      | [] => r) else giveBack as ds outs r
  | _, _, _, r => r
abbrev CS := Nat → List D → CR
def doCall (C : CS) (f : Nat) (as : List Arg) (r : Env) : Res D := match takeAll as r with
  | some (ds, r0) => (match C f ds with
    | .ok d outs => .ok d (giveBack as ds outs r0)
    | .ex x outs => .ex x (giveBack as ds outs r0)
    | .bad => .bad)
  | none => .bad
/-! ### targets -/
mutual
def asgT (lk : List Nat) : Tg → PyData → Env → Option Env
  | .v i, d, r => if lk.contains i then none else some (r.set i (some (.p d)))
  | .t ts, d, r => match d with
    | .tuple ds => asgTs lk ts ds r
    | _ => none
def asgTs (lk : List Nat) : List Tg → List PyData → Env → Option Env
  | [], [], r => some r
  | t :: ts, d :: ds, r => (asgT lk t d r).bind fun r1 => asgTs lk ts ds r1
  | _, _, _ => none
end
mutual
def tgIx : Tg → List Nat
  | .v i => [i]
  | .t ts => tgIxs ts
def tgIxs : List Tg → List Nat
  | [] => []
  | t :: ts => tgIx t ++ tgIxs ts
end
def wipeE (r : Env) : List Nat → Env
  | [] => r
  | i :: is => (wipeE r is).set i none
/-! ### comprehensions -/
def lcLoop (own : List Nat) (asg : PyData → Env → Option Env) (cnd : Env → Res Bool) (elt : Env → Res PyData) : List PyData → Env → Res (List PyData)
  | [], r => .ok [] r
  | x :: xs, r => match asg x (wipeE r own) with
    | none => .bad
    | some r1 => (cnd r1).bind fun b r2 => if b then (elt r2).bind fun y r3 => (lcLoop own asg cnd elt xs r3).bind fun ys r4 => .ok (y :: ys) r4
      else lcLoop own asg cnd elt xs r2
def lcLoop2 (own : List Nat) (asg : PyData → Env → Option Env) (cnd : Env → Res Bool) (inner : Env → Res (List PyData)) : List PyData → Env → Res (List PyData)
  | [], r => .ok [] r
  | x :: xs, r => match asg x (wipeE r own) with
    | none => .bad
    | some r1 => (cnd r1).bind fun b r2 => if b then (inner r2).bind fun y r3 => (lcLoop2 own asg cnd inner xs r3).bind fun ys r4 => .ok (y ++ ys) r4
      else lcLoop2 own asg cnd inner xs r2
def boolR (x : Res D) : Res Bool := x.bind fun d r => match d with
  | .p (.bool b) => .ok b r
  | _ => .bad
def datR (x : Res D) : Res PyData := x.bind fun d r => match d.dat with
  | some y => .ok y r
  | none => .bad
def intR (x : Res Arg) : Res Int := x.bind fun a r => match a.dat r with
  | some (.int i) => .ok i r
  | _ => .bad
def seqR (x : Res PyData) : Res (List PyData) := x.bind fun d r => ofO (seqOf d) r
def rngL (a b : Int) : List PyData := (List.range (b - a).toNat).map fun k => .int (a + (k : Nat))
def rngOk (a b : Int) : Bool := decide (-(2 ^ 62) ≤ a ∧ a < 2 ^ 62 ∧ -(2 ^ 62) ≤ b ∧ b < 2 ^ 62 ∧ b - a ≤ sizeLine)
def zipP (xs ys : List PyData) : List PyData := List.zipWith (fun x y => .tuple [x, y]) xs ys
def zip3P (xs ys zs : List PyData) : List PyData := List.zipWith (fun x p => .tuple [x, p.1, p.2]) xs (List.zip ys zs)
def enumP (k : Nat) : List PyData → List PyData
  | [] => []
  | x :: xs => .tuple [.int (k : Nat), x] :: enumP (k + 1) xs
def zipK (x y : PyData) : Option (List PyData) := (seqOf x).bind fun xs => (seqOf y).map fun ys => zipP xs ys
def zip3K (x y z : PyData) : Option (List PyData) := (seqOf x).bind fun xs => (seqOf y).bind fun ys => (seqOf z).map fun zs => zip3P xs ys zs
def enumK (x : PyData) : Option (List PyData) := (seqOf x).map fun xs => enumP 0 xs
/-- one, two, three operands -/
def un1 (fa : Env → Res Arg) (g : PyData → Option D) (r : Env) : Res D := (fa r).bind fun x r1 => match x.dat r1 with
  | some dx => ofO (g dx) r1
  | none => .bad
def bin2 (fa fb : Env → Res Arg) (g : PyData → PyData → Option D) (r : Env) : Res D := (fa r).bind fun x r1 => (fb r1).bind fun y r2 => match x.dat r2, y.dat r2 with
  | some dx, some dy => ofO (g dx dy) r2
  | _, _ => .bad
def tri3 (fa fb fc : Env → Res Arg) (g : PyData → PyData → PyData → Option D) (r : Env) : Res D := (fa r).bind fun x r1 => (fb r1).bind fun y r2 => (fc r2).bind fun z r3 => match x.dat r3, y.dat r3, z.dat r3 with
  | some dx, some dy, some dz => ofO (g dx dy dz) r3
  | _, _, _ => .bad
def cmpB (op : Cm) (x y : PyData) : Option D := (cmpD op x y).map pB
def chain3 (fa fb fc : Env → Res Arg) (g1 g2 : PyData → PyData → Option Bool) (r : Env) : Res D := (fa r).bind fun x r1 => (fb r1).bind fun y r2 => match x.dat r2, y.dat r2 with
  | some dx, some dy => (match g1 dx dy with
    | some true => (fc r2).bind fun z r4 => (match y.dat r4, z.dat r4 with
      | some dy2, some dz => ofO ((g2 dy2 dz).map pB) r4
      | _, _ => .bad)
    | some false => .ok (pB false) r2
    | none => .bad)
  | _, _ => .bad
def negD : PyData → Option D
  | .int i => some (.p (.int (-i)))
  | _ => none
def slFD (d : PyData) : PyData → Option D
  | .int i => slD d (some i) none
  | _ => none
def slTD (d : PyData) : PyData → Option D
  | .int i => slD d none (some i)
  | _ => none
def sl3 (fa fb fc : Env → Res Arg) (r : Env) : Res D := (fa r).bind fun x r1 => (intR (fb r1)).bind fun i r2 => (intR (fc r2)).bind fun j r3 => match x.dat r3 with
  | some dx => ofO (slD dx (some i) (some j)) r3
  | none => .bad
def inRD (neg : Bool) : PyData → PyData → PyData → Option D
  | .int i, .int l, .int h => some (pB (neg != decide (l ≤ i ∧ i < h)))
  | _, _, _ => none
def idxB (x y : PyData) : Option D := (idxD x y).map .p
mutual
def evE (C : CS) : Ex → Env → Res D
  | .var i, r => escS i r
  | .c d, r => .ok (.p d) r
  | .tup es, r => (evEs C es r).bind fun ds r1 => if ds.length ≤ sizeLine then .ok (.p (.tuple ds)) r1 else .bad
  | .lst es, r => (evEs C es r).bind fun ds r1 => if ds.length ≤ sizeLine then .ok (.o (.list ds)) r1 else .bad
  | .bin op a b, r => bin2 (opnd a (evE C a)) (opnd b (evE C b)) (binD op) r
  | .neg a, r => un1 (opnd a (evE C a)) negD r
  | .not a, r => (boolR (evE C a r)).bind fun b r1 => .ok (pB (!b)) r1
  | .cmp op a b, r => bin2 (opnd a (evE C a)) (opnd b (evE C b)) (cmpB op) r
  | .ch op1 op2 a b c, r => chain3 (opnd a (evE C a)) (opnd b (evE C b)) (opnd c (evE C c)) (cmpD op1) (cmpD op2) r
  | .and a b, r => (boolR (evE C a r)).bind fun k r1 => if k then evE C b r1 else .ok (pB false) r1
  | .or a b, r => (boolR (evE C a r)).bind fun k r1 => if k then .ok (pB true) r1 else evE C b r1
  | .ite c a b, r => (boolR (evE C c r)).bind fun k r1 => if k then evE C a r1 else evE C b r1
  | .idx a i, r => bin2 (opnd a (evE C a)) (opnd i (evE C i)) idxB r
  | .slF a lo, r => bin2 (opnd a (evE C a)) (opnd lo (evE C lo)) slFD r
  | .slT a hi, r => bin2 (opnd a (evE C a)) (opnd hi (evE C hi)) slTD r
  | .slB a lo hi, r => sl3 (opnd a (evE C a)) (opnd lo (evE C lo)) (opnd hi (evE C hi)) r
  | .rev a, r => un1 (opnd a (evE C a)) revD r
  | .call f es, r => (evAs C es r).bind fun as r1 => doCall C f as r1
  | .bi b es, r => (evAs C es r).bind fun as r1 => match datsOf r1 as with
    | some ds => ofO (biD b ds) r1
    | none => .bad
  | .isT a t, r => un1 (opnd a (evE C a)) (fun d => some (pB (isTy d t))) r
  | .inR neg a lo hi, r => tri3 (opnd a (evE C a)) (opnd lo (evE C lo)) (opnd hi (evE C hi)) (inRD neg) r
  | .lc elt own tg it cond, r => (evI C it r).bind fun xs r1 =>
    (lcLoop own (asgT [] tg) (fun r => boolR (evE C cond r)) (fun r => datR (evE C elt r)) xs r1).bind fun ds r2 => .ok (.o (.list ds)) (wipeE r2 own)
  | .lc2 elt own tg it cond tg2 it2 cond2, r => (evI C it r).bind fun xs r1 =>
    (lcLoop2 own (asgT [] tg) (fun r => boolR (evE C cond r)) (fun r => (evI C it2 r).bind fun ys r2 => lcLoop (tgIx tg2) (asgT [] tg2) (fun r => boolR (evE C cond2 r)) (fun r => datR (evE C elt r)) ys r2) xs r1).bind fun ds r2 =>
      if ds.length ≤ sizeLine then .ok (.o (.list ds)) (wipeE r2 own) else .bad
  | .esc e, r => evE C e r
def evEs (C : CS) : List Ex → Env → Res (List PyData)
  | [], r => .ok [] r
  | e :: es, r => (datR (evE C e r)).bind fun d r1 => (evEs C es r1).bind fun ds r2 => .ok (d :: ds) r2
def evAs (C : CS) : List Ex → Env → Res (List Arg)
  | [], r => .ok [] r
  | e :: es, r => (opnd e (evE C e) r).bind fun d r1 => (evAs C es r1).bind fun ds r2 => .ok (d :: ds) r2
def evI (C : CS) : It → Env → Res (List PyData)
  | .ex e, r => seqR (datR (evE C e r))
  | .rng1 a, r => (intR (opnd a (evE C a) r)).bind fun i r1 => if rngOk 0 i then .ok (rngL 0 i) r1 else .bad
  | .rng2 a b, r => (intR (opnd a (evE C a) r)).bind fun i r1 => (intR (opnd b (evE C b) r1)).bind fun j r2 => if rngOk i j then .ok (rngL i j) r2 else .bad
  | .zip2 a b, r => (datR (evE C a r)).bind fun x r1 => (datR (evE C b r1)).bind fun y r2 => ofO (zipK x y) r2
  | .zip3 a b c, r => (datR (evE C a r)).bind fun x r1 => (datR (evE C b r1)).bind fun y r2 => (datR (evE C c r2)).bind fun z r3 => ofO (zip3K x y z) r3
  | .enum a, r => (datR (evE C a r)).bind fun x r1 => ofO (enumK x) r1
  | .enumz a b, r => (seqR (datR (evE C a r))).bind fun xs r1 => (seqR (datR (evE C b r1))).bind fun ys r2 => .ok (enumP 0 (zipP xs ys)) r2
end
/-! ### statements -/
def Out.seq (o : Out) (f : Env → Out) : Out := match o with
  | .nx r => f r
  | o => o
def Res.out {α : Type} (x : Res α) (f : α → Env → Out) : Out := match x with
  | .ok a r => f a r
  | .ex x r => .ex x r
  | .bad => .bad
def setS (lk : List Nat) (i : Nat) (d : D) (r : Env) : Out := if lk.contains i then .bad else .nx (r.set i (some d))
def setAll (lk : List Nat) : List Nat → List D → Env → Out
  | [], [], r => .nx r
  | i :: is, d :: ds, r => (setS lk i d r).seq fun r1 => setAll lk is ds r1
  | _, _, _ => .bad
def forLoop (asg : PyData → Env → Option Env) (body : Env → Out) : List PyData → Env → Out
  | [], r => .nx r
  | x :: xs, r => match asg x r with
    | none => .bad
    | some r1 => (match body r1 with
      | .nx r2 => forLoop asg body xs r2
      | .ct r2 => forLoop asg body xs r2
      | .bk r2 => .nx r2
      | o => o)
def whLoop (cnd : Env → Res Bool) (body : Env → Out) : Nat → Env → Out
  | 0, _ => .bad
  | n + 1, r => (cnd r).out fun b r1 => if b then (match body r1 with
      | .nx r2 => whLoop cnd body n r2
      | .ct r2 => whLoop cnd body n r2
      | .bk r2 => .nx r2
      | o => o) else .nx r1
def wfuel : Nat := 1000000
/-- the values as they are made (owned ones stay so) -/
def evDs (C : CS) : List Ex → Env → Res (List D)
  | [], r => .ok [] r
  | e :: es, r => (evE C e r).bind fun d r1 => (evDs C es r1).bind fun ds r2 => .ok (d :: ds) r2
/-- what a return hands out: a slot's own list goes with it, a parameter's is given up -/
def retE (C : CS) (np : Nat) (e : Ex) (r : Env) : Res D := match e.vix with
  | some i => if i < np then escS i r else (match getS r i with
    | some d => .ok d (r.set i none)
    | none => .bad)
  | none => evE C e r
def setIx (xs : List PyData) (i : Int) (d : PyData) : Option (List PyData) := (L2.ixN xs.length i).map fun j => xs.set j d
def Out.ofO (x : Option Env) : Out := match x with
  | some r => .nx r
  | none => .bad
def asgS (lk : List Nat) (i : Nat) (f : Env → Res D) (r : Env) : Out := (f r).out fun d r1 => setS lk i d r1
def unpS (lk : List Nat) (ts : List Tg) (f : Env → Res PyData) (r : Env) : Out := (f r).out fun d r1 => Out.ofO (asgT lk (.t ts) d r1)
def parS (lk is : List Nat) (f : Env → Res (List D)) (r : Env) : Out := (f r).out fun ds r1 => setAll lk is ds r1
def listAt (r : Env) (i : Nat) : Option (List PyData) := match getS r i with
  | some (.o (.list xs)) => some xs
  | _ => none
def putL (r : Env) (i : Nat) (xs : List PyData) : Out := .nx (r.set i (some (.o (.list xs))))
def setIS (i : Nat) (fx : Env → Res Arg) (f : Env → Res PyData) (r : Env) : Out := (f r).out fun d r1 => match listAt r1 i with
  | some _ => (intR (fx r1)).out fun k r2 => (match (listAt r2 i).bind fun xs => setIx xs k d with
    | some ys => putL r2 i ys
    | none => .bad)
  | none => .bad
def appS (i : Nat) (f : Env → Res PyData) (r : Env) : Out := match listAt r i with
  | some _ => (f r).out fun d r1 => (match listAt r1 i with
    | some xs => if xs.length < sizeLine then putL r1 i (xs ++ [d]) else .bad
    | none => .bad)
  | none => .bad
def extS (i : Nat) (f : Env → Res D) (r : Env) : Out := match listAt r i with
  | some _ => (f r).out fun d r1 => (match listAt r1 i, d with
    | some xs, .o (.list ys) => if xs.length + ys.length ≤ sizeLine then putL r1 i (xs ++ ys) else .bad
    | _, _ => .bad)
  | none => .bad
def expS (f : Env → Res D) (r : Env) : Out := (f r).out fun _ r1 => .nx r1
def retS (f : Env → Res D) (r : Env) : Out := (f r).out fun d r1 => .rt d r1
def ifS (c : Env → Res Bool) (a b : Env → Out) (r : Env) : Out := (c r).out fun k r1 => if k then a r1 else b r1
def forS (fi : Env → Res (List PyData)) (asg : PyData → Env → Option Env) (body : Env → Out) (r : Env) : Out := (fi r).out fun xs r1 => forLoop asg body xs r1
mutual
def evS (C : CS) (np : Nat) (lk : List Nat) : St → Env → Out
  | .asg i e, r => asgS lk i (evE C e) r
  | .unp ts e, r => unpS lk ts (fun r => datR (evE C e r)) r
  | .par is es, r => parS lk is (evDs C es) r
  | .setI i ix e, r => setIS i (opnd ix (evE C ix)) (fun r => datR (evE C e r)) r
  | .exp e, r => expS (evE C e) r
  | .app i e, r => appS i (fun r => datR (evE C e r)) r
  | .ext i e, r => extS i (evE C e) r
  | .ret e, r => retS (retE C np e) r
  | .retN, r => .rt (.p .none) r
  | .ifs c a b, r => ifS (fun r => boolR (evE C c r)) (fun r => evSs C np lk a r) (fun r => evSs C np lk b r) r
  | .for_ t it body, r => forS (evI C it) (asgT lk t) (fun r => evSs C np lk body r) r
  | .whl c body, r => whLoop (fun r => boolR (evE C c r)) (fun r => evSs C np lk body r) wfuel r
  | .pass, r => .nx r
  | .cont, r => .ct r
def evSs (C : CS) (np : Nat) (lk : List Nat) : List St → Env → Out
  | [], r => .nx r
  | s :: ss, r => (evS C np lk s r).seq fun r1 => evSs C np lk ss r1
end
/-! ### defs -/
structure Fn where
  np : Nat
  ns : Nat
  body : List St
def ownIx : Nat → List D → List Nat
  | _, [] => []
  | k, d :: ds => if d.own then k :: ownIx (k + 1) ds else ownIx (k + 1) ds
def outsOf (r : Env) : List Nat → Option (List D)
  | [] => some []
  | i :: is => (getS r i).bind fun d => (outsOf r is).map (d :: ·)
def runF (C : CS) (fn : Fn) (ds : List D) : CR := if ds.length = fn.np then
    (match evSs C fn.np (ownIx 0 ds) fn.body (ds.map some ++ List.replicate (fn.ns - fn.np) none) with
    | .rt d r => (match outsOf r (ownIx 0 ds) with
      | some os => .ok d os
      | none => .bad)
    | .nx r => (match outsOf r (ownIx 0 ds) with
      | some os => .ok (.p .none) os
      | none => .bad)
    | .ex x r => (match outsOf r (ownIx 0 ds) with
      | some os => .ex x os
      | none => .bad)
    | _ => .bad) else .bad
def callF (T : List Fn) : Nat → CS
  | 0 => fun _ _ => .bad
  | k + 1 => fun f ds => match T[f]? with
    | some fn => runF (callF T k) fn ds
    | none => .bad
end Dl

set_option Elab.async false
set_option linter.all false
set_option maxRecDepth 100000
/-! what stands for data in the heap -/
namespace Dl
open PySem L2

/-- a list that no one changes: locked, or of the written part -/
def FL (K : PySem.W.Frag) (H : Hp) (a : Addr) (vs : List V) : Prop := (∃ o, H a = some (.frz o (.lst vs))) ∨ SqL K (fun _ => none) a vs
theorem sq_none {K : PySem.W.Frag} {H : Hp} {a : Addr} {vs : List V} (h : SqL K (fun _ => none) a vs) : SqL K H a vs := by
  rcases h with h | h
  · rcases h with h | ⟨o, h⟩ <;> cases h
  · exact .inr h
theorem FL.sq {K : PySem.W.Frag} {H : Hp} {a : Addr} {vs : List V} (h : FL K H a vs) : SqL K H a vs := by
  rcases h with ⟨o, h⟩ | h
  · exact .inl (.inr ⟨o, h⟩)
  · exact sq_none h
mutual
def Rep (K : PySem.W.Frag) (H : Hp) : PyData → V → Prop
  | .none, v => v = .non
  | .bool b, v => v = .bl b
  | .int i, v => v = .int i
  | .str x, v => v = .str x
  | .list ds, v => ∃ a vs, v = .ref a ∧ FL K H a vs ∧ Reps K H ds vs
  | .tuple ds, v => ∃ a vs, v = .ref a ∧ H a = some (.tup vs) ∧ Reps K H ds vs
  | .dict _, _ => False
def Reps (K : PySem.W.Frag) (H : Hp) : List PyData → List V → Prop
  | [], vs => vs = []
  | d :: ds, vs => ∃ v r, vs = v :: r ∧ Rep K H d v ∧ Reps K H ds r
end
/-- tuples and locked things stay -/
def Grow (H H' : Hp) : Prop := (∀ a xs, H a = some (.tup xs) → H' a = some (.tup xs)) ∧ ∀ a o u, H a = some (.frz o u) → H' a = some (.frz o u)
theorem Grow.refl (H : Hp) : Grow H H := ⟨fun _ _ h => h, fun _ _ _ h => h⟩
theorem Grow.trans {H1 H2 H3 : Hp} (a : Grow H1 H2) (b : Grow H2 H3) : Grow H1 H3 := ⟨fun x xs h => b.1 x xs (a.1 x xs h), fun x o u h => b.2 x o u (a.2 x o u h)⟩
theorem grow_new {H : Hp} {p : Addr} {o : HO} (h : H p = none) : Grow H (upd H p o) :=
  ⟨fun a xs e => by rw [upd_ne (ne_of_none e h)]; exact e, fun a x u e => by rw [upd_ne (ne_of_none e h)]; exact e⟩
theorem grow_own {H : Hp} {p : Addr} {xs : List V} {o : HO} (h : H p = some (.lst xs)) : Grow H (upd H p o) :=
  ⟨fun a ys e => by rw [upd_ne (ne_of e h (by intro z; cases z))]; exact e, fun a x u e => by rw [upd_ne (ne_of e h (by intro z; cases z))]; exact e⟩
section
variable {K : PySem.W.Frag} {H H' : Hp}
theorem FL.grow {a : Addr} {vs : List V} (g : Grow H H') (h : FL K H a vs) : FL K H' a vs := by
  rcases h with ⟨o, h⟩ | h
  · exact .inl ⟨o, g.2 a o _ h⟩
  · exact .inr h
mutual
theorem Rep.grow (g : Grow H H') : ∀ (d : PyData) (v : V), Rep K H d v → Rep K H' d v
  | .none, v, h => by unfold Rep at h ⊢; exact h
  | .bool b, v, h => by unfold Rep at h ⊢; exact h
  | .int i, v, h => by unfold Rep at h ⊢; exact h
  | .str x, v, h => by unfold Rep at h ⊢; exact h
  | .list ds, v, h => by
    unfold Rep at h ⊢
    obtain ⟨a, vs, e, f, r⟩ := h
    exact ⟨a, vs, e, f.grow g, Reps.grow g ds vs r⟩
  | .tuple ds, v, h => by
    unfold Rep at h ⊢
    obtain ⟨a, vs, e, f, r⟩ := h
    exact ⟨a, vs, e, g.1 a vs f, Reps.grow g ds vs r⟩
  | .dict _, v, h => by unfold Rep at h; exact h.elim
theorem Reps.grow (g : Grow H H') : ∀ (ds : List PyData) (vs : List V), Reps K H ds vs → Reps K H' ds vs
  | [], vs, h => by unfold Reps at h ⊢; exact h
  | d :: ds, vs, h => by
    unfold Reps at h ⊢
    obtain ⟨v, r, e, h1, h2⟩ := h
    exact ⟨v, r, e, Rep.grow g d v h1, Reps.grow g ds r h2⟩
end
theorem Reps.nil : Reps K H [] [] := by unfold Reps; rfl
theorem Reps.cons {d : PyData} {ds : List PyData} {v : V} {vs : List V} (a : Rep K H d v) (b : Reps K H ds vs) : Reps K H (d :: ds) (v :: vs) := by
  unfold Reps; exact ⟨v, vs, rfl, a, b⟩
theorem Reps.uncons {d : PyData} {ds : List PyData} {vs : List V} (h : Reps K H (d :: ds) vs) : ∃ v r, vs = v :: r ∧ Rep K H d v ∧ Reps K H ds r := by
  unfold Reps at h; exact h
theorem Reps.of_nil {vs : List V} (h : Reps K H [] vs) : vs = [] := by unfold Reps at h; exact h
theorem Reps.length : ∀ {ds : List PyData} {vs : List V}, Reps K H ds vs → vs.length = ds.length
  | [], vs, h => by rw [h.of_nil]; rfl
  | d :: ds, vs, h => by
    obtain ⟨v, r, rfl, _, h2⟩ := h.uncons
    rw [List.length_cons, List.length_cons, Reps.length h2]
theorem Reps.get : ∀ {ds : List PyData} {vs : List V} {i : Nat} {d : PyData}, Reps K H ds vs → ds[i]? = some d → ∃ v, vs[i]? = some v ∧ Rep K H d v
  | [], _, _, _, _, e => by simp at e
  | d :: ds, vs, 0, x, h, e => by
    obtain ⟨v, r, rfl, h1, h2⟩ := h.uncons
    simp at e; subst e
    exact ⟨v, rfl, h1⟩
  | d :: ds, vs, i + 1, x, h, e => by
    obtain ⟨v, r, rfl, h1, h2⟩ := h.uncons
    obtain ⟨u, e1, e2⟩ := Reps.get (i := i) h2 (by simpa using e)
    exact ⟨u, by simpa using e1, e2⟩
theorem Reps.getV : ∀ {ds : List PyData} {vs : List V} {i : Nat} {v : V}, Reps K H ds vs → vs[i]? = some v → ∃ d, ds[i]? = some d ∧ Rep K H d v := fun {ds vs i v} h e => by
  have hl : i < ds.length := by rw [← h.length]; exact (List.getElem?_eq_some_iff.mp e).1
  obtain ⟨u, e1, e2⟩ := h.get (List.getElem?_eq_getElem hl)
  rw [e] at e1; cases e1
  exact ⟨_, List.getElem?_eq_getElem hl, e2⟩
theorem Reps.append : ∀ {ds es : List PyData} {vs us : List V}, Reps K H ds vs → Reps K H es us → Reps K H (ds ++ es) (vs ++ us)
  | [], es, vs, us, h, q => by rw [h.of_nil]; exact q
  | d :: ds, es, vs, us, h, q => by
    obtain ⟨v, r, rfl, h1, h2⟩ := h.uncons
    exact Reps.cons h1 (Reps.append h2 q)
theorem Reps.take : ∀ (n : Nat) {ds : List PyData} {vs : List V}, Reps K H ds vs → Reps K H (ds.take n) (vs.take n)
  | 0, ds, vs, h => by simpa using Reps.nil
  | n + 1, [], vs, h => by rw [h.of_nil]; exact Reps.nil
  | n + 1, d :: ds, vs, h => by
    obtain ⟨v, r, rfl, h1, h2⟩ := h.uncons
    exact Reps.cons h1 (Reps.take n h2)
theorem Reps.drop : ∀ (n : Nat) {ds : List PyData} {vs : List V}, Reps K H ds vs → Reps K H (ds.drop n) (vs.drop n)
  | 0, ds, vs, h => h
  | n + 1, [], vs, h => by rw [h.of_nil]; exact Reps.nil
  | n + 1, d :: ds, vs, h => by
    obtain ⟨v, r, rfl, h1, h2⟩ := h.uncons
    exact Reps.drop n h2
theorem Reps.set : ∀ (i : Nat) {ds : List PyData} {vs : List V} {d : PyData} {v : V}, Reps K H ds vs → Rep K H d v → Reps K H (ds.set i d) (vs.set i v)
  | _, [], vs, d, v, h, q => by rw [h.of_nil]; exact Reps.nil
  | 0, e :: ds, vs, d, v, h, q => by
    obtain ⟨u, r, rfl, h1, h2⟩ := h.uncons
    exact Reps.cons q h2
  | i + 1, e :: ds, vs, d, v, h, q => by
    obtain ⟨u, r, rfl, h1, h2⟩ := h.uncons
    exact Reps.cons h1 (Reps.set i h2 q)
theorem Reps.reverse : ∀ {ds : List PyData} {vs : List V}, Reps K H ds vs → Reps K H ds.reverse vs.reverse
  | [], vs, h => by rw [h.of_nil]; exact Reps.nil
  | d :: ds, vs, h => by
    obtain ⟨u, r, rfl, h1, h2⟩ := h.uncons
    rw [List.reverse_cons, List.reverse_cons]
    exact Reps.append (Reps.reverse h2) (Reps.cons h1 Reps.nil)
theorem Reps.flat : ∀ (n : Nat) {ds : List PyData} {vs : List V}, Reps K H ds vs → Reps K H (List.replicate n ds).flatten (List.replicate n vs).flatten
  | 0, ds, vs, h => Reps.nil
  | n + 1, ds, vs, h => by
    rw [List.replicate_succ, List.replicate_succ, List.flatten_cons, List.flatten_cons]
    exact Reps.append h (Reps.flat n h)
theorem Rep.list {ds : List PyData} {v : V} (h : Rep K H (.list ds) v) : ∃ a vs, v = .ref a ∧ FL K H a vs ∧ Reps K H ds vs := by unfold Rep at h; exact h
theorem Rep.tuple {ds : List PyData} {v : V} (h : Rep K H (.tuple ds) v) : ∃ a vs, v = .ref a ∧ H a = some (.tup vs) ∧ Reps K H ds vs := by unfold Rep at h; exact h
theorem Rep.int {i : Int} {v : V} (h : Rep K H (.int i) v) : v = .int i := by unfold Rep at h; exact h
theorem Rep.bool {b : Bool} {v : V} (h : Rep K H (.bool b) v) : v = .bl b := by unfold Rep at h; exact h
theorem Rep.str {x : Str} {v : V} (h : Rep K H (.str x) v) : v = .str x := by unfold Rep at h; exact h
theorem Rep.none {v : V} (h : Rep K H .none v) : v = .non := by unfold Rep at h; exact h
theorem Rep.of_int (i : Int) : Rep K H (.int i) (.int i) := by unfold Rep; rfl
theorem Rep.of_bool (b : Bool) : Rep K H (.bool b) (.bl b) := by unfold Rep; rfl
theorem Rep.of_str (x : Str) : Rep K H (.str x) (.str x) := by unfold Rep; rfl
theorem Rep.of_none : Rep K H .none .non := by unfold Rep; rfl
theorem Rep.of_list {a : Addr} {ds : List PyData} {vs : List V} (f : FL K H a vs) (r : Reps K H ds vs) : Rep K H (.list ds) (.ref a) := by unfold Rep; exact ⟨a, vs, rfl, f, r⟩
theorem Rep.of_tuple {a : Addr} {ds : List PyData} {vs : List V} (f : H a = some (.tup vs)) (r : Reps K H ds vs) : Rep K H (.tuple ds) (.ref a) := by unfold Rep; exact ⟨a, vs, rfl, f, r⟩

/-- a value as it may be read -/
def RdV (K : PySem.W.Frag) (H : Hp) : PyData → V → Prop
  | .list ds, v => ∃ a vs, v = .ref a ∧ SqL K H a vs ∧ Reps K H ds vs
  | d, v => Rep K H d v
theorem Rep.rd : ∀ {d : PyData} {v : V}, Rep K H d v → RdV K H d v
  | .none, v, h => h
  | .bool b, v, h => h
  | .int i, v, h => h
  | .str x, v, h => h
  | .tuple ds, v, h => h
  | .dict ds, v, h => h
  | .list ds, v, h => by
    obtain ⟨a, vs, e, f, r⟩ := h.list
    exact ⟨a, vs, e, f.sq, r⟩

/-! ### values with their owners -/
def SRep (K : PySem.W.Frag) (H : Hp) : D → V → List Addr → Prop
  | .p d, v, F => Rep K H d v ∧ F = []
  | .o (.list ds), v, F => ∃ a vs, v = .ref a ∧ H a = some (.lst vs) ∧ Reps K H ds vs ∧ F = [a]
  | _, _, _ => False
theorem SRep.rd {d : D} {v : V} {F : List Addr} {x : PyData} (h : SRep K H d v F) (e : d.dat = some x) : RdV K H x v := by
  cases d with
  | p d => cases e; exact h.1.rd
  | ob c fs => cases e
  | o d =>
    cases e
    cases x with
    | list ds =>
      obtain ⟨a, vs, e, f, r, _⟩ := h
      exact ⟨a, vs, e, SqL.of f, r⟩
    | _ => exact h.elim
theorem SRep.keep {d : D} {v : V} {F : List Addr} (g : Grow H H') (k : ∀ a ∈ F, H' a = H a) (h : SRep K H d v F) : SRep K H' d v F := by
  cases d with
  | p d => exact ⟨Rep.grow g d v h.1, h.2⟩
  | ob c fs => exact h.elim
  | o d =>
    cases d with
    | list ds =>
      obtain ⟨a, vs, e, f, r, z⟩ := h
      refine ⟨a, vs, e, ?_, Reps.grow g ds vs r, z⟩
      rw [k a (by rw [z]; simp)]; exact f
    | _ => exact h.elim
theorem SRep.lst {d : D} {v : V} {F : List Addr} (h : SRep K H d v F) : ∀ a ∈ F, ∃ xs, H a = some (.lst xs) := by
  intro a ha
  cases d with
  | p d => rw [h.2] at ha; cases ha
  | ob c fs => exact h.elim
  | o d =>
    cases d with
    | list ds =>
      obtain ⟨b, vs, e, f, r, z⟩ := h
      rw [z] at ha
      cases List.mem_singleton.mp ha
      exact ⟨vs, f⟩
    | _ => exact h.elim
def SepF (K : PySem.W.Frag) (H : Hp) : List (V × D) → List Addr → Prop
  | [], F => F = []
  | x :: L, F => ∃ F1 F2, F = F1 ++ F2 ∧ SRep K H x.2 x.1 F1 ∧ SepF K H L F2
theorem SepF.lst : ∀ {L : List (V × D)} {F : List Addr}, SepF K H L F → ∀ a ∈ F, ∃ xs, H a = some (.lst xs)
  | [], F, h, a, ha => by rw [show F = [] from h] at ha; cases ha
  | x :: L, F, h, a, ha => by
    obtain ⟨F1, F2, rfl, h1, h2⟩ := h
    rcases List.mem_append.mp ha with q | q
    · exact h1.lst a q
    · exact SepF.lst h2 a q
theorem SepF.keep (g : Grow H H') : ∀ {L : List (V × D)} {F : List Addr}, (∀ a ∈ F, H' a = H a) → SepF K H L F → SepF K H' L F
  | [], F, _, h => h
  | x :: L, F, k, h => by
    obtain ⟨F1, F2, rfl, h1, h2⟩ := h
    exact ⟨F1, F2, rfl, h1.keep g fun a ha => k a (List.mem_append_left _ ha), SepF.keep g (fun a ha => k a (List.mem_append_right _ ha)) h2⟩
theorem SepF.append : ∀ {L M : List (V × D)} {F G : List Addr}, SepF K H L F → SepF K H M G → SepF K H (L ++ M) (F ++ G)
  | [], M, F, G, h, q => by rw [show F = [] from h]; exact q
  | x :: L, M, F, G, h, q => by
    obtain ⟨F1, F2, rfl, h1, h2⟩ := h
    exact ⟨F1, F2 ++ G, by rw [List.append_assoc], h1, SepF.append h2 q⟩
theorem SepF.split : ∀ {L M : List (V × D)} {F : List Addr}, SepF K H (L ++ M) F → ∃ F1 F2, F = F1 ++ F2 ∧ SepF K H L F1 ∧ SepF K H M F2
  | [], M, F, h => ⟨[], F, rfl, rfl, h⟩
  | x :: L, M, F, h => by
    obtain ⟨F1, F2, rfl, h1, h2⟩ := h
    obtain ⟨G1, G2, rfl, g1, g2⟩ := SepF.split h2
    exact ⟨F1 ++ G1, G2, by rw [List.append_assoc], ⟨F1, G1, rfl, h1, g1⟩, g2⟩
/-- all these values stand, no owned thing twice -/
def Sep (K : PySem.W.Frag) (H : Hp) (L : List (V × D)) : Prop := ∃ F, SepF K H L F ∧ F.Nodup
theorem Sep.nil : Sep K H [] := ⟨[], rfl, .nil⟩
theorem Sep.sub_aux : ∀ {L M : List (V × D)} {F : List Addr}, M.Sublist L → SepF K H L F → ∃ G, SepF K H M G ∧ G.Sublist F
  | [], M, F, s, h => by
    cases s
    exact ⟨[], rfl, List.nil_sublist _⟩
  | x :: L, M, F, s, h => by
    obtain ⟨F1, F2, rfl, h1, h2⟩ := h
    cases s with
    | cons _ s =>
      obtain ⟨G, g1, g2⟩ := Sep.sub_aux s h2
      exact ⟨G, g1, g2.trans (List.sublist_append_right _ _)⟩
    | cons_cons _ s =>
      obtain ⟨G, g1, g2⟩ := Sep.sub_aux s h2
      exact ⟨F1 ++ G, ⟨F1, G, rfl, h1, g1⟩, List.Sublist.append (List.Sublist.refl _) g2⟩
theorem Sep.sub {L M : List (V × D)} (s : M.Sublist L) (h : Sep K H L) : Sep K H M := by
  obtain ⟨F, h1, h2⟩ := h
  obtain ⟨G, g1, g2⟩ := Sep.sub_aux s h1
  exact ⟨G, g1, h2.sublist g2⟩
theorem Sep.perm_aux : ∀ {L M : List (V × D)}, L.Perm M → ∀ {F : List Addr}, SepF K H L F → ∃ G, SepF K H M G ∧ F.Perm G := by
  intro L M p
  induction p with
  | nil => intro F h; exact ⟨F, h, .refl _⟩
  | cons x p ih =>
    intro F h
    obtain ⟨F1, F2, rfl, h1, h2⟩ := h
    obtain ⟨G, g1, g2⟩ := ih h2
    exact ⟨F1 ++ G, ⟨F1, G, rfl, h1, g1⟩, g2.append_left F1⟩
  | swap x y l =>
    intro F h
    obtain ⟨F1, F2, rfl, h1, G1, G2, rfl, h2, h3⟩ := h
    refine ⟨G1 ++ (F1 ++ G2), ⟨G1, F1 ++ G2, rfl, h2, F1, G2, rfl, h1, h3⟩, ?_⟩
    rw [← List.append_assoc, ← List.append_assoc]
    exact List.perm_append_comm.append_right G2
  | trans p q ih1 ih2 =>
    intro F h
    obtain ⟨G, g1, g2⟩ := ih1 h
    obtain ⟨J, j1, j2⟩ := ih2 g1
    exact ⟨J, j1, g2.trans j2⟩
theorem Sep.perm {L M : List (V × D)} (p : L.Perm M) (h : Sep K H L) : Sep K H M := by
  obtain ⟨F, h1, h2⟩ := h
  obtain ⟨G, g1, g2⟩ := Sep.perm_aux p h1
  exact ⟨G, g1, (g2.nodup_iff).mp h2⟩
theorem Sep.cons_p {L : List (V × D)} {v : V} {d : PyData} (r : Rep K H d v) (h : Sep K H L) : Sep K H ((v, .p d) :: L) := by
  obtain ⟨F, h1, h2⟩ := h
  exact ⟨F, ⟨[], F, rfl, ⟨r, rfl⟩, h1⟩, h2⟩
theorem Sep.head {L : List (V × D)} {v : V} {d : D} (h : Sep K H ((v, d) :: L)) : ∃ F, SRep K H d v F := by
  obtain ⟨F, ⟨F1, F2, rfl, h1, h2⟩, _⟩ := h
  exact ⟨F1, h1⟩
theorem Sep.head_p {L : List (V × D)} {v : V} {d : PyData} (h : Sep K H ((v, .p d) :: L)) : Rep K H d v := by
  obtain ⟨F, h⟩ := h.head
  exact h.1
theorem Sep.tail {L : List (V × D)} {x : V × D} (h : Sep K H (x :: L)) : Sep K H L := h.sub (List.sublist_cons_self _ _)
theorem Sep.mem {L : List (V × D)} {v : V} {d : D} (h : Sep K H L) (m : (v, d) ∈ L) : ∃ F, SRep K H d v F := by
  obtain ⟨s, t, rfl⟩ := List.append_of_mem m
  exact (h.sub (show List.Sublist ((v, d) :: t) (s ++ (v, d) :: t) from List.sublist_append_right _ _)).head
theorem Sep.memP {L : List (V × D)} {v : V} {d : PyData} (h : Sep K H L) (m : (v, .p d) ∈ L) : Rep K H d v := by
  obtain ⟨F, r⟩ := h.mem m
  exact r.1
theorem Sep.rd {L : List (V × D)} {v : V} {d : D} {x : PyData} (h : Sep K H L) (m : (v, d) ∈ L) (e : d.dat = some x) : RdV K H x v := by
  obtain ⟨F, r⟩ := h.mem m
  exact r.rd e
/-- something new is laid -/
theorem Sep.laid {L : List (V × D)} {p : Addr} {o : HO} (hp : H p = none) (h : Sep K H L) : Sep K (upd H p o) L := by
  obtain ⟨F, h1, h2⟩ := h
  refine ⟨F, h1.keep (grow_new hp) fun a ha => ?_, h2⟩
  obtain ⟨xs, e⟩ := h1.lst a ha
  exact upd_ne (ne_of_none e hp)
theorem Sep.new_tup {L : List (V × D)} {p : Addr} {vs : List V} {ds : List PyData} (hp : H p = none) (r : Reps K H ds vs) (h : Sep K H L) : Sep K (upd H p (.tup vs)) ((.ref p, .p (.tuple ds)) :: L) :=
  Sep.cons_p (.of_tuple upd_same (Reps.grow (grow_new hp) _ _ r)) (h.laid hp)
theorem Sep.new_lst {L : List (V × D)} {p : Addr} {vs : List V} {ds : List PyData} (hp : H p = none) (r : Reps K H ds vs) (h : Sep K H L) : Sep K (upd H p (.lst vs)) ((.ref p, .o (.list ds)) :: L) := by
  obtain ⟨F, h1, h2⟩ := h
  have ne : ∀ a ∈ F, a ≠ p := fun a ha => by
    obtain ⟨xs, e⟩ := h1.lst a ha
    exact ne_of_none e hp
  refine ⟨p :: F, ⟨[p], F, rfl, ⟨p, vs, rfl, upd_same, Reps.grow (grow_new hp) _ _ r, rfl⟩, h1.keep (grow_new hp) fun a ha => upd_ne (ne a ha)⟩, ?_⟩
  exact List.nodup_cons.mpr ⟨fun hm => ne p hm rfl, h2⟩
/-- an owned list -/
theorem Sep.owned {L : List (V × D)} {v : V} {ds : List PyData} (h : Sep K H ((v, .o (.list ds)) :: L)) : ∃ a vs, v = .ref a ∧ H a = some (.lst vs) ∧ Reps K H ds vs ∧
    (∀ ws es, Reps K H es ws → Sep K (upd H a (.lst ws)) ((v, .o (.list es)) :: L)) ∧
    (∀ o, Sep K (upd H a (.frz o (.lst vs))) ((v, .p (.list ds)) :: L)) := by
  obtain ⟨F, ⟨F1, F2, rfl, ⟨a, vs, rfl, f, r, rfl⟩, h1⟩, nd⟩ := h
  have ne : ∀ b ∈ F2, b ≠ a := fun b hb e => by
    subst e
    exact (List.nodup_cons.mp nd).1 hb
  refine ⟨a, vs, rfl, f, r, fun ws es q => ⟨a :: F2, ⟨[a], F2, rfl, ⟨a, ws, rfl, upd_same, Reps.grow (grow_own f) _ _ q, rfl⟩, h1.keep (grow_own f) fun b hb => upd_ne (ne b hb)⟩, nd⟩, fun o => ?_⟩
  exact Sep.cons_p (.of_list (.inl ⟨o, upd_same⟩) (Reps.grow (grow_own f) _ _ r)) ⟨F2, h1.keep (grow_own f) fun b hb => upd_ne (ne b hb), (List.nodup_cons.mp nd).2⟩
theorem Sep.to_front {L M : List (V × D)} {x : V × D} (h : Sep K H (L ++ x :: M)) : Sep K H (x :: (L ++ M)) := h.perm List.perm_middle
theorem Sep.from_front {L M : List (V × D)} {x : V × D} (h : Sep K H (x :: (L ++ M))) : Sep K H (L ++ x :: M) := h.perm List.perm_middle.symm
end

/-! ### slots -/
inductive EnvR : L2.St → Env → List (V × D) → Prop where
  | nil : EnvR [] [] []
  | non {x : Option V} {σ : L2.St} {r : Env} {L : List (V × D)} (h : EnvR σ r L) : EnvR (x :: σ) (none :: r) L
  | som {v : V} {d : D} {σ : L2.St} {r : Env} {L : List (V × D)} (h : EnvR σ r L) : EnvR (some v :: σ) (some d :: r) ((v, d) :: L)
theorem EnvR.len : ∀ {σ : L2.St} {r : Env} {L : List (V × D)}, EnvR σ r L → σ.length = r.length
  | _, _, _, .nil => rfl
  | _, _, _, .non h => by simp [EnvR.len h]
  | _, _, _, .som h => by simp [EnvR.len h]
theorem getS_cons0 (x : Option D) (r : Env) : getS (x :: r) 0 = x := by unfold getS; simp; cases x <;> rfl
theorem getS_cons (x : Option D) (r : Env) (i : Nat) : getS (x :: r) (i + 1) = getS r i := by unfold getS; simp
theorem getS_some {r : Env} {i : Nat} {d : D} (h : getS r i = some d) : r[i]? = some (some d) := by
  unfold getS at h
  split at h
  · rename_i e; cases h; exact e
  · cases h
theorem EnvR.at : ∀ {σ : L2.St} {r : Env} {L : List (V × D)} {i : Nat} {d : D}, EnvR σ r L → getS r i = some d →
    ∃ v L1 L2, σ[i]? = some (some v) ∧ L = L1 ++ (v, d) :: L2 ∧ (∀ d', EnvR σ (r.set i (some d')) (L1 ++ (v, d') :: L2)) ∧ EnvR σ (r.set i none) (L1 ++ L2)
  | _, _, _, i, d, .nil, e => by simp [getS] at e
  | _, _, _, 0, d, .non h, e => by rw [getS_cons0] at e; cases e
  | _, _, _, i + 1, d, .non (x := x) h, e => by
    rw [getS_cons] at e
    obtain ⟨v, L1, L2, h1, h2, h3, h4⟩ := EnvR.at h e
    exact ⟨v, L1, L2, by simpa using h1, h2, fun d' => by simpa using EnvR.non (h3 d'), by simpa using EnvR.non h4⟩
  | _, _, _, 0, d, .som (v := v) (L := L) h, e => by
    rw [getS_cons0] at e; cases e
    exact ⟨v, [], L, rfl, rfl, fun d' => .som h, .non h⟩
  | _, _, _, i + 1, d, .som (v := u) (d := c) h, e => by
    rw [getS_cons] at e
    obtain ⟨v, L1, L2, h1, h2, h3, h4⟩ := EnvR.at h e
    exact ⟨v, (u, c) :: L1, L2, by simpa using h1, by rw [h2]; rfl, fun d' => by simpa using EnvR.som (h3 d'), by simpa using EnvR.som h4⟩
theorem EnvR.store : ∀ {σ : L2.St} {r : Env} {L : List (V × D)} (i : Nat) (v : V) (d : D), EnvR σ r L → i < r.length →
    ∃ L1 L2, EnvR (σ.set i (some v)) (r.set i (some d)) (L1 ++ (v, d) :: L2) ∧ (L1 ++ L2).Sublist L
  | _, _, _, i, v, d, .nil, e => absurd e (Nat.not_lt_zero _)
  | _, _, _, 0, v, d, .non (L := L) h, e => ⟨[], L, .som h, List.Sublist.refl _⟩
  | _, _, _, i + 1, v, d, .non h, e => by
    obtain ⟨L1, L2, h1, h2⟩ := EnvR.store i v d h (by simpa using e)
    exact ⟨L1, L2, by simpa using EnvR.non h1, h2⟩
  | _, _, _, 0, v, d, .som (L := L) h, e => ⟨[], L, .som h, List.sublist_cons_self _ _⟩
  | _, _, _, i + 1, v, d, .som (v := u) (d := c) h, e => by
    obtain ⟨L1, L2, h1, h2⟩ := EnvR.store i v d h (by simpa using e)
    exact ⟨(u, c) :: L1, L2, by simpa using EnvR.som h1, by simpa using h2⟩
/-- slots forgotten -/
theorem EnvR.drop1 : ∀ {σ : L2.St} {r : Env} {L : List (V × D)} (i : Nat) (x : Option V), EnvR σ r L → ∃ L', EnvR (σ.set i x) (r.set i none) L' ∧ L'.Sublist L
  | _, _, _, i, x, .nil => ⟨[], by simpa using EnvR.nil, List.Sublist.refl _⟩
  | _, _, _, 0, x, .non (L := L) h => ⟨L, .non h, List.Sublist.refl _⟩
  | _, _, _, i + 1, x, .non h => by
    obtain ⟨L', h1, h2⟩ := EnvR.drop1 i x h
    exact ⟨L', by simpa using EnvR.non h1, h2⟩
  | _, _, _, 0, x, .som (L := L) h => ⟨L, .non h, List.sublist_cons_self _ _⟩
  | _, _, _, i + 1, x, .som (v := u) (d := c) h => by
    obtain ⟨L', h1, h2⟩ := EnvR.drop1 i x h
    exact ⟨(u, c) :: L', by simpa using EnvR.som h1, h2.cons_cons _⟩
theorem EnvR.wipe {σ : L2.St} {r : Env} {L : List (V × D)} (h : EnvR σ r L) : ∀ vs : List Nat, ∃ L', EnvR (L2.wipe σ vs) (wipeE r vs) L' ∧ L'.Sublist L
  | [] => ⟨L, h, List.Sublist.refl _⟩
  | i :: vs => by
    obtain ⟨L1, h1, s1⟩ := EnvR.wipe h vs
    obtain ⟨L2, h2, s2⟩ := h1.drop1 i none
    exact ⟨L2, h2, s2.trans s1⟩
/-- unwiped slots: what a forgotten slot holds does not matter -/
theorem EnvR.other : ∀ {σ σ' : L2.St} {r : Env} {L : List (V × D)}, EnvR σ r L → σ'.length = σ.length → (∀ i d, getS r i = some d → σ'[i]? = σ[i]?) → EnvR σ' r L
  | _, σ', _, _, .nil, hl, _ => by
    have : σ' = [] := List.eq_nil_of_length_eq_zero (by simpa using hl)
    subst this; exact .nil
  | _, [], _, _, .non h, hl, _ => by simp at hl
  | _, y :: σ', _, _, .non h, hl, hk => .non (EnvR.other h (by simpa using hl) fun i d e => by simpa using hk (i + 1) d (by rw [getS_cons]; exact e))
  | _, [], _, _, .som h, hl, _ => by simp at hl
  | _, y :: σ', _, _, .som (v := v) (d := d) h, hl, hk => by
    have e := hk 0 d (by rw [getS_cons0])
    simp at e
    subst e
    exact .som (EnvR.other h (by simpa using hl) fun i d e => by simpa using hk (i + 1) d (by rw [getS_cons]; exact e))
theorem wipeE_len (r : Env) : ∀ vs, (wipeE r vs).length = r.length
  | [] => rfl
  | i :: vs => by unfold wipeE; rw [List.length_set, wipeE_len r vs]
theorem getS_wipe {r : Env} {i : Nat} {d : D} : ∀ {vs : List Nat}, getS (wipeE r vs) i = some d → getS r i = some d ∧ i ∉ vs
  | [], h => ⟨h, by simp⟩
  | j :: vs, h => by
    have h' := getS_some h
    unfold wipeE at h'
    by_cases e : j = i
    · subst e
      rw [List.getElem?_set] at h'
      split at h'
      · split at h' <;> cases h'
      · exact absurd rfl (by assumption)
    · rw [List.getElem?_set_ne e] at h'
      have h2 : getS (wipeE r vs) i = some d := by unfold getS; rw [h']
      obtain ⟨a, b⟩ := getS_wipe h2
      exact ⟨a, by simp only [List.mem_cons, not_or]; exact ⟨fun z => e z.symm, b⟩⟩
theorem wipe_get {σ : L2.St} {i : Nat} : ∀ {vs : List Nat}, i ∉ vs → (L2.wipe σ vs)[i]? = σ[i]?
  | [], _ => rfl
  | j :: vs, h => by
    unfold L2.wipe
    rw [List.getElem?_set_ne (fun e => h (by rw [e]; simp))]
    exact wipe_get fun m => h (List.mem_cons_of_mem _ m)
/-- behind a comprehension -/
theorem EnvR.unwipe {σ : L2.St} {r : Env} {L : List (V × D)} {vs : List Nat} (h : EnvR (L2.wipe σ vs) r L) : ∃ L', EnvR σ (wipeE r vs) L' ∧ L'.Sublist L := by
  obtain ⟨L', h1, s⟩ := h.wipe vs
  refine ⟨L', h1.other (by rw [L2.wipe_length, L2.wipe_length]) fun i d e => ?_, s⟩
  obtain ⟨_, n⟩ := getS_wipe e
  rw [wipe_get n, wipe_get n]
end Dl

set_option Elab.async false
set_option linter.all false
set_option maxRecDepth 100000
/-! readings by data: expressions -/
namespace Dl
open PySem PySem.Spec PyProof.Rows L2
section
variable {X : Cx}
theorem pe_mo {e : Expr} {t t' : TE} (h : PE X e t) (i : ∀ σ H Q, t' σ H Q → t σ H Q) : PE X e t' := ⟨fun pins s σ H Q I q => h.run pins s σ H Q I (i _ _ _ q)⟩
theorem pt_mo {e : Expr} {t t' : TT} (h : PT X e t) (i : ∀ σ H Q, t' σ H Q → t σ H Q) : PT X e t' := ⟨fun pins s σ H Q I q => h.run pins s σ H Q I (i _ _ _ q)⟩
theorem pw_mo {e : Expr} {t t' : TT} (h : PW X e t) (i : ∀ σ H Q, t' σ H Q → t σ H Q) : PW X e t' := ⟨fun wh pins s σ H Q I q => h.run wh pins s σ H Q I (i _ _ _ q)⟩
theorem pa_mo {e : List Expr} {t t' : TA} (h : PA X e t) (i : ∀ σ H Q, t' σ H Q → t σ H Q) : PA X e t' := ⟨fun pos pins s σ H Q I q => h.run pos pins s σ H Q I (i _ _ _ q)⟩
theorem ps_mo {e : Stmt} {t t' : TS} (h : PS X e t) (i : ∀ D σ H, t' D σ H → t D σ H) : PS X e t' := ⟨fun pins s σ H D I q => h.run pins s σ H D I (i _ _ _ q)⟩
theorem pss_mo {e : List Stmt} {t t' : TS} (h : PSs X e t) (i : ∀ D σ H, t' D σ H → t D σ H) : PSs X e t' := ⟨fun pins s σ H D I q => h.run pins s σ H D I (i _ _ _ q)⟩
theorem pg_mo {e : Expr} {t t' : TG} (h : PG X e t) (i : ∀ v σ H Q, t' v σ H Q → t v σ H Q) : PG X e t' := ⟨fun pins s σ H v u Q I r q => h.run pins s σ H v u Q I r (i _ _ _ _ q)⟩
theorem pi_mo {tg e : Expr} {t t' : TI} (h : PI X tg e t) (i : ∀ σ H Q, t' σ H Q → t σ H Q) : PI X tg e t' := ⟨fun pins s σ H Q I q => h.run pins s σ H Q I (i _ _ _ q)⟩
/-- a list that comes out may be given up to all -/
def tFrz (t : TE) : TE := fun σ H Q => t σ H fun v H1 => Q v H1 ∨ ∃ a xs, H1 a = some (.lst xs) ∧ ∀ o, Q v (upd H1 a (.frz o (.lst xs)))
theorem pe_frz {e : Expr} {t : TE} (h : PE X e t) : PE X e (tFrz t) := by
  refine ⟨fun pins s σ H Q I q => thn (h.run pins s σ H _ I q) fun u s1 ⟨v, H1, I1, r, z⟩ => ?_⟩
  rcases z with z | ⟨a, xs, e, z⟩
  · exact ⟨v, H1, I1, r, z⟩
  · obtain ⟨o, I2⟩ := I1.lock e trivial
    exact ⟨v, _, I2, r, z o⟩

/-! ### readings -/
abbrev Fr := PySem.W.Frag
def tE (K : Fr) (f : Env → Res D) : TE := fun σ H Q => ∃ r L T, EnvR σ r L ∧ Sep K H (L ++ T) ∧ ∃ d r', f r = .ok d r' ∧
  ∀ v H' L', EnvR σ r' L' → Sep K H' ((v, d) :: (L' ++ T)) → Q v H'
def tP (K : Fr) (f : Env → Res PyData) : TE := fun σ H Q => ∃ r L T, EnvR σ r L ∧ Sep K H (L ++ T) ∧ ∃ d r', f r = .ok d r' ∧
  ∀ v H' L', EnvR σ r' L' → Sep K H' ((v, .p d) :: (L' ++ T)) → Q v H'
def ArgR (σ : L2.St) : Arg → V → List (V × D) → Prop
  | .s i, v, E => σ[i]? = some (some v) ∧ E = []
  | .t d, v, E => E = [(v, d)]
def ArgsR (σ : L2.St) : List Arg → List V → List (V × D) → Prop
  | [], vs, E => vs = [] ∧ E = []
  | a :: as, vs, E => ∃ v r E1 E2, vs = v :: r ∧ E = E2 ++ E1 ∧ ArgR σ a v E1 ∧ ArgsR σ as r E2
def tA (K : Fr) (f : Env → Res Arg) : TE := fun σ H Q => ∃ r L T, EnvR σ r L ∧ Sep K H (L ++ T) ∧ ∃ a r', f r = .ok a r' ∧
  ∀ v H' L' E, EnvR σ r' L' → ArgR σ a v E → Sep K H' (E ++ (L' ++ T)) → Q v H'
def tAs (K : Fr) (f : Env → Res (List Arg)) : TA := fun σ H Q => ∃ r L T, EnvR σ r L ∧ Sep K H (L ++ T) ∧ ∃ as r', f r = .ok as r' ∧
  ∀ vs H' L' E, EnvR σ r' L' → ArgsR σ as vs E → Sep K H' (E ++ (L' ++ T)) → Q vs H'
def tPs (K : Fr) (f : Env → Res (List PyData)) : TA := fun σ H Q => ∃ r L T, EnvR σ r L ∧ Sep K H (L ++ T) ∧ ∃ ds r', f r = .ok ds r' ∧
  ∀ vs H' L', EnvR σ r' L' → Reps K H' ds vs → Sep K H' (L' ++ T) → Q vs H'
def tT (K : Fr) (f : Env → Res Bool) : TT := fun σ H Q => ∃ r L T, EnvR σ r L ∧ Sep K H (L ++ T) ∧ ∃ b r', f r = .ok b r' ∧
  ∀ H' L', EnvR σ r' L' → Sep K H' (L' ++ T) → Q b H'
abbrev SE (X : Cx) (e : Expr) (f : Env → Res D) : Prop := PE X e (tE X.K f)
abbrev SP (X : Cx) (e : Expr) (f : Env → Res PyData) : Prop := PE X e (tP X.K f)
abbrev SA (X : Cx) (e : Expr) (f : Env → Res Arg) : Prop := PE X e (tA X.K f)
abbrev SAs (X : Cx) (es : List Expr) (f : Env → Res (List Arg)) : Prop := PA X es (tAs X.K f)
abbrev SPs (X : Cx) (es : List Expr) (f : Env → Res (List PyData)) : Prop := PA X es (tPs X.K f)
abbrev SB (X : Cx) (e : Expr) (f : Env → Res Bool) : Prop := PT X e (tT X.K f)

theorem bind_ok {α β : Type} {x : Res α} {f : α → Env → Res β} {b : β} {r : Env} (h : x.bind f = .ok b r) : ∃ a r1, x = .ok a r1 ∧ f a r1 = .ok b r := by
  cases x with
  | ok a r1 => exact ⟨a, r1, rfl, h⟩
  | ex _ _ => cases h
  | bad => cases h
theorem ofO_ok {α : Type} {x : Option α} {r r' : Env} {a : α} (h : ofO x r = .ok a r') : x = some a ∧ r' = r := by
  cases x with
  | none => cases h
  | some b => cases h; exact ⟨rfl, rfl⟩

/-- what an operand is read as -/
theorem arg_rd {K : Fr} {σ : L2.St} {r : Env} {L M : List (V × D)} {H : Hp} {a : Arg} {v : V} {E : List (V × D)} {x : PyData} (he : EnvR σ r L) (ha : ArgR σ a v E) (hd : a.dat r = some x) (hs : Sep K H M) (hE : ∀ y ∈ E, y ∈ M) (hL : ∀ y ∈ L, y ∈ M) : RdV K H x v := by
  unfold Arg.dat at hd
  obtain ⟨d, e1, e2⟩ := Option.bind_eq_some_iff.mp hd
  cases a with
  | s i =>
    obtain ⟨e3, rfl⟩ := ha
    obtain ⟨u, L1, L2, h1, rfl, _, _⟩ := he.at (show getS r i = some d from e1)
    rw [h1] at e3; cases e3
    exact hs.rd (hL _ (by simp)) e2
  | t c =>
    obtain rfl : c = d := Option.some.inj e1
    obtain rfl : E = [(v, c)] := ha
    exact hs.rd (hE _ (by simp)) e2

/-! ### from a value to an operand, to what all may keep -/
theorem sa_of {e : Expr} {f : Env → Res D} {ir : Ex} (h : SE X e f) (n : ir.vix = none) : SA X e (opnd ir f) := by
  refine pe_mo h fun σ H Q ⟨r, L, T, he, hs, a, r', e1, q⟩ => ?_
  unfold opnd at e1
  rw [n] at e1
  obtain ⟨d, r1, e2, e3⟩ := bind_ok e1
  cases e3
  exact ⟨r, L, T, he, hs, d, r', e2, fun v H' L' h1 h2 => q v H' L' [(v, d)] h1 rfl h2⟩
theorem sa_var {i : Nat} {x : Str} {pos : Pos} {f : Env → Res D} (h : PE X (.Name x pos) (tVar i)) : SA X (.Name x pos) (opnd (.var i) f) := by
  refine pe_mo h fun σ H Q ⟨r, L, T, he, hs, a, r', e1, q⟩ => ?_
  unfold opnd at e1
  simp only [Ex.vix] at e1
  split at e1
  · rename_i d hd
    cases e1
    obtain ⟨v, L1, L2, h1, rfl, _, _⟩ := he.at hd
    exact ⟨v, h1, q v H _ [] he ⟨h1, rfl⟩ hs⟩
  · cases e1
theorem se_var {i : Nat} {x : Str} {pos : Pos} (h : PE X (.Name x pos) (tVar i)) : SE X (.Name x pos) (escS i) := by
  refine pe_mo (pe_frz h) fun σ H Q ⟨r, L, T, he, hs, d, r', e1, q⟩ => ?_
  unfold escS at e1
  split at e1
  · rename_i d' hd
    cases e1
    obtain ⟨v, L1, L2, h1, rfl, _, _⟩ := he.at hd
    exact ⟨v, h1, .inl (q v H _ he (Sep.cons_p (hs.memP (v := v) (d := d') (by simp)) hs))⟩
  · rename_i d' hd
    cases e1
    obtain ⟨v, L1, L2, h1, rfl, h2, _⟩ := he.at hd
    refine ⟨v, h1, .inr ?_⟩
    rw [List.append_assoc] at hs
    have hs2 := hs.to_front
    obtain ⟨F, hd2⟩ := hs2.head
    cases d' with
    | list ds =>
      obtain ⟨a, vs, rfl, e2, _, _, fz⟩ := hs2.owned
      refine ⟨a, vs, e2, fun o => q _ _ _ (h2 _) ?_⟩
      have hs3 := fz o
      rw [List.append_assoc]
      refine Sep.cons_p hs3.head_p ?_
      exact Sep.from_front hs3
    | _ => exact hd2.elim
  · cases e1
theorem sp_of {e : Expr} {f : Env → Res D} (h : SE X e f) : SP X e (fun r => datR (f r)) := by
  refine pe_mo (pe_frz h) fun σ H Q ⟨r, L, T, he, hs, d, r', e1, q⟩ => ?_
  obtain ⟨c, r1, e2, e3⟩ := bind_ok e1
  have e3 : (match c.dat with | some y => Res.ok y r1 | none => .bad) = .ok d r' := e3
  split at e3
  · rename_i y hy
    cases e3
    refine ⟨r, L, T, he, hs, c, r', e2, fun v H' L' h1 h2 => ?_⟩
    cases c with
    | p x => cases hy; exact .inl (q v H' L' h1 h2)
    | ob c fs => cases hy
    | o x =>
      cases hy
      obtain ⟨F, hd2⟩ := h2.head
      cases d with
      | list ds =>
        obtain ⟨a, vs, rfl, e4, _, _, fz⟩ := h2.owned
        exact .inr ⟨a, vs, e4, fun o => q _ _ _ h1 (fz o)⟩
      | _ => exact hd2.elim
  · cases e3

/-! ### rows of them -/
theorem sas_nil : SAs X [] (fun r => .ok [] r) := by
  refine pa_mo pa_nil fun σ H Q ⟨r, L, T, he, hs, as, r', e1, q⟩ => ?_
  cases e1
  exact q [] H L [] he ⟨rfl, rfl⟩ hs
theorem sas_cons {e : Expr} {es : List Expr} {f : Env → Res Arg} {g : Env → Res (List Arg)} (h1 : SA X e f) (h2 : SAs X es g) (hs : starEach (e :: es) X.env = (false, eval e X.env) :: starEach es X.env) :
    SAs X (e :: es) (fun r => (f r).bind fun d r1 => (g r1).bind fun ds r2 => .ok (d :: ds) r2) := by
  refine pa_mo (pa_cons h1 h2 hs) fun σ H Q ⟨r, L, T, he, hs, as, r', e1, q⟩ => ?_
  obtain ⟨a, r1, e2, e3⟩ := bind_ok e1
  obtain ⟨as', r2, e4, e5⟩ := bind_ok e3
  cases e5
  refine ⟨r, L, T, he, hs, a, r1, e2, fun v H1 L1 E1 g1 g2 g3 => ?_⟩
  refine ⟨r1, L1, E1 ++ T, g1, g3.perm ?_, as', r', e4, fun vs H2 L2 E2 k1 k2 k3 => ?_⟩
  · rw [← List.append_assoc, ← List.append_assoc]
    exact List.perm_append_comm.append_right T
  · refine q (v :: vs) H2 L2 (E2 ++ E1) k1 ⟨v, vs, E1, E2, rfl, rfl, g2, k2⟩ (k3.perm ?_)
    rw [List.append_assoc]
    refine List.Perm.append_left E2 ?_
    rw [← List.append_assoc, ← List.append_assoc]
    exact List.perm_append_comm.append_right T
theorem sps_nil : SPs X [] (fun r => .ok [] r) := by
  refine pa_mo pa_nil fun σ H Q ⟨r, L, T, he, hs, as, r', e1, q⟩ => ?_
  cases e1
  exact q [] H L he Reps.nil hs
/-- data that stand as a row -/
def rows : List V → List PyData → List (V × D)
  | v :: vs, d :: ds => (v, .p d) :: rows vs ds
  | _, _ => []
theorem sps_cons {e : Expr} {es : List Expr} {f : Env → Res PyData} {g : Env → Res (List PyData)} (h1 : SP X e f) (h2 : SPs X es g) (hs : starEach (e :: es) X.env = (false, eval e X.env) :: starEach es X.env) :
    SPs X (e :: es) (fun r => (f r).bind fun d r1 => (g r1).bind fun ds r2 => .ok (d :: ds) r2) := by
  refine pa_mo (pa_cons h1 h2 hs) fun σ H Q ⟨r, L, T, he, hs, as, r', e1, q⟩ => ?_
  obtain ⟨a, r1, e2, e3⟩ := bind_ok e1
  obtain ⟨as', r2, e4, e5⟩ := bind_ok e3
  cases e5
  refine ⟨r, L, T, he, hs, a, r1, e2, fun v H1 L1 g1 g3 => ?_⟩
  refine ⟨r1, L1, (v, .p a) :: T, g1, Sep.from_front g3, as', r', e4, fun vs H2 L2 k1 k2 k3 => ?_⟩
  have k4 := Sep.to_front k3
  exact q (v :: vs) H2 L2 k1 (Reps.cons k4.head_p k2) k4.tail

/-! ### displays -/
theorem se_tup {es : List Expr} {k : Nat} {pos : Pos} {f : Env → Res (List PyData)} (h : SPs X es f) : SE X (.Tuple es k pos) (fun r => (f r).bind fun ds r1 => if ds.length ≤ sizeLine then .ok (.p (.tuple ds)) r1 else .bad) := by
  refine pe_mo (pe_tup h) fun σ H Q ⟨r, L, T, he, hs, d, r', e1, q⟩ => ?_
  obtain ⟨ds, r1, e2, e3⟩ := bind_ok e1
  split at e3
  · rename_i hz
    cases e3
    exact ⟨r, L, T, he, hs, ds, r', e2, fun vs H' L' h1 h2 h3 => ⟨by rw [h2.length]; exact hz, fun p hp => q _ _ L' h1 (h3.new_tup hp h2)⟩⟩
  · cases e3
theorem se_lst {es : List Expr} {pos : Pos} {f : Env → Res (List PyData)} (h : SPs X es f) : SE X (.List es pos) (fun r => (f r).bind fun ds r1 => if ds.length ≤ sizeLine then .ok (.o (.list ds)) r1 else .bad) := by
  refine pe_mo (pe_lst h) fun σ H Q ⟨r, L, T, he, hs, d, r', e1, q⟩ => ?_
  obtain ⟨ds, r1, e2, e3⟩ := bind_ok e1
  split at e3
  · rename_i hz
    cases e3
    exact ⟨r, L, T, he, hs, ds, r', e2, fun vs H' L' h1 h2 h3 => ⟨by rw [h2.length]; exact hz, fun p hp => q _ _ L' h1 (h3.new_lst hp h2)⟩⟩
  · cases e3
theorem se_c {e : Expr} {d : PyData} {v : V} (h : PE X e (tC v)) (hv : ∀ H, Rep X.K H d v) : SE X e (fun r => .ok (.p d) r) := by
  refine pe_mo h fun σ H Q ⟨r, L, T, he, hs, d', r', e1, q⟩ => ?_
  cases e1
  exact q v H L he (Sep.cons_p (hv H) hs)

/-! ### one, two, three operands -/
theorem se_un1 {e : Expr} {fa : Env → Res Arg} {g : PyData → Option D} {r1 : V → Hp → VK → Prop} (h : PE X e (fun σ H Q => tA X.K fa σ H fun x H1 => r1 x H1 Q))
    (hr : ∀ dx c x H M Q, g dx = some c → RdV X.K H dx x → Sep X.K H M → (∀ v H', Sep X.K H' ((v, c) :: M) → Q v H') → r1 x H Q) : SE X e (un1 fa g) := by
  refine pe_mo h fun σ H Q ⟨r, L, T, he, hs, c, r', e1, q⟩ => ?_
  obtain ⟨a, s1, e2, e3⟩ := bind_ok e1
  have e3 : (match a.dat s1 with | some dx => ofO (g dx) s1 | none => .bad) = .ok c r' := e3
  split at e3
  · rename_i dx hx
    obtain ⟨e4, rfl⟩ := ofO_ok e3
    refine ⟨r, L, T, he, hs, a, r', e2, fun v H1 L1 E1 g1 g2 g3 => ?_⟩
    refine hr dx c v H1 _ _ e4 (arg_rd g1 g2 hx g3 (fun y hy => by simp [hy]) (fun y hy => by simp [hy])) g3 fun w H' k => q w H' L1 g1 (k.sub ?_)
    exact (List.sublist_append_right _ _).cons_cons _
  · cases e3
theorem se_bin2 {e : Expr} {fa fb : Env → Res Arg} {g : PyData → PyData → Option D} {r2 : R2} (h : PE X e (tOp r2 (tA X.K fa) (tA X.K fb)))
    (hr : ∀ dx dy c x y H M Q, g dx dy = some c → RdV X.K H dx x → RdV X.K H dy y → Sep X.K H M → (∀ v H', Sep X.K H' ((v, c) :: M) → Q v H') → r2 x y H Q) : SE X e (bin2 fa fb g) := by
  refine pe_mo h fun σ H Q ⟨r, L, T, he, hs, c, r', e1, q⟩ => ?_
  obtain ⟨a, s1, e2, e3⟩ := bind_ok e1
  obtain ⟨b, s2, e4, e5⟩ := bind_ok e3
  have e5 : (match a.dat s2, b.dat s2 with | some dx, some dy => ofO (g dx dy) s2 | _, _ => .bad) = .ok c r' := e5
  split at e5
  · rename_i dx dy hx hy
    obtain ⟨e6, rfl⟩ := ofO_ok e5
    refine ⟨r, L, T, he, hs, a, s1, e2, fun v H1 L1 E1 g1 g2 g3 => ?_⟩
    refine ⟨s1, L1, E1 ++ T, g1, g3.perm ?_, b, r', e4, fun u H2 L2 E2 k1 k2 k3 => ?_⟩
    · rw [← List.append_assoc, ← List.append_assoc]
      exact List.perm_append_comm.append_right T
    · refine hr dx dy c v u H2 _ _ e6 (arg_rd k1 g2 hx k3 (fun y hy => by simp [hy]) (fun y hy => by simp [hy])) (arg_rd k1 k2 hy k3 (fun y hy => by simp [hy]) (fun y hy => by simp [hy])) k3 fun w H' k => q w H' L2 k1 (k.sub ?_)
      refine List.Sublist.cons_cons _ ?_
      refine List.Sublist.trans ?_ (List.sublist_append_right _ _)
      exact List.Sublist.append (List.Sublist.refl _) (List.sublist_append_right _ _)
  · cases e5
theorem se_tri3 {e : Expr} {fa fb fc : Env → Res Arg} {g : PyData → PyData → PyData → Option D} {r3 : V → V → V → Hp → VK → Prop}
    (h : PE X e (fun σ H Q => tA X.K fa σ H fun x H1 => tA X.K fb σ H1 fun y H2 => tA X.K fc σ H2 fun z H3 => r3 x y z H3 Q))
    (hr : ∀ dx dy dz c x y z H M Q, g dx dy dz = some c → RdV X.K H dx x → RdV X.K H dy y → RdV X.K H dz z → Sep X.K H M → (∀ v H', Sep X.K H' ((v, c) :: M) → Q v H') → r3 x y z H Q) : SE X e (tri3 fa fb fc g) := by
  refine pe_mo h fun σ H Q ⟨r, L, T, he, hs, c, r', e1, q⟩ => ?_
  obtain ⟨a, s1, e2, e3⟩ := bind_ok e1
  obtain ⟨b, s2, e4, e5⟩ := bind_ok e3
  obtain ⟨d, s3, e6, e7⟩ := bind_ok e5
  have e7 : (match a.dat s3, b.dat s3, d.dat s3 with | some dx, some dy, some dz => ofO (g dx dy dz) s3 | _, _, _ => .bad) = .ok c r' := e7
  split at e7
  · rename_i dx dy dz hx hy hz
    obtain ⟨e8, rfl⟩ := ofO_ok e7
    refine ⟨r, L, T, he, hs, a, s1, e2, fun v H1 L1 E1 g1 g2 g3 => ?_⟩
    refine ⟨s1, L1, E1 ++ T, g1, g3.perm ?_, b, s2, e4, fun u H2 L2 E2 k1 k2 k3 => ?_⟩
    · rw [← List.append_assoc, ← List.append_assoc]
      exact List.perm_append_comm.append_right T
    refine ⟨s2, L2, E2 ++ (E1 ++ T), k1, k3.perm ?_, d, r', e6, fun w H3 L3 E3 m1 m2 m3 => ?_⟩
    · rw [← List.append_assoc, ← List.append_assoc (as := L2)]
      exact List.perm_append_comm.append_right _
    · refine hr dx dy dz c v u w H3 _ _ e8 (arg_rd m1 g2 hx m3 (fun y hy => by simp [hy]) (fun y hy => by simp [hy])) (arg_rd m1 k2 hy m3 (fun y hy => by simp [hy]) (fun y hy => by simp [hy])) (arg_rd m1 m2 hz m3 (fun y hy => by simp [hy]) (fun y hy => by simp [hy])) m3 fun w H' k => q w H' L3 m1 (k.sub ?_)
      refine List.Sublist.cons_cons _ ?_
      refine List.Sublist.trans ?_ (List.sublist_append_right _ _)
      refine List.Sublist.append (List.Sublist.refl _) ?_
      exact (List.sublist_append_right _ _).trans (List.sublist_append_right _ _)
  · cases e7
end
end Dl

set_option Elab.async false
set_option linter.all false
set_option maxRecDepth 100000
/-! operators, comparisons, subscripts by data -/
namespace Dl
open PySem PySem.Spec PyProof.Rows L2
section
variable {X : Cx}
/-- a rule of two values by data -/
def rG (K : Fr) (g : PyData → PyData → Option D) : R2 := fun x y H Q => ∃ dx dy c M, g dx dy = some c ∧ RdV K H dx x ∧ RdV K H dy y ∧ Sep K H M ∧ ∀ v H', Sep K H' ((v, c) :: M) → Q v H'
theorem se_bin2G {e : Expr} {fa fb : Env → Res Arg} {g : PyData → PyData → Option D} (h : PE X e (tOp (rG X.K g) (tA X.K fa) (tA X.K fb))) : SE X e (bin2 fa fb g) :=
  se_bin2 h fun dx dy c x y H M Q e1 e2 e3 e4 q => ⟨dx, dy, c, M, e1, e2, e3, e4, q⟩
theorem rd_int {K : Fr} {H : Hp} {i : Int} {v : V} (h : RdV K H (.int i) v) : v = .int i := Rep.int (K := K) (H := H) h
theorem rd_bool {K : Fr} {H : Hp} {i : Bool} {v : V} (h : RdV K H (.bool i) v) : v = .bl i := Rep.bool (K := K) (H := H) h
theorem rd_str {K : Fr} {H : Hp} {i : Str} {v : V} (h : RdV K H (.str i) v) : v = .str i := Rep.str (K := K) (H := H) h
theorem rd_none {K : Fr} {H : Hp} {v : V} (h : RdV K H .none v) : v = .non := Rep.none (K := K) (H := H) h
theorem rd_list {K : Fr} {H : Hp} {ds : List PyData} {v : V} (h : RdV K H (.list ds) v) : ∃ a vs, v = .ref a ∧ SqL K H a vs ∧ Reps K H ds vs := h
theorem rd_tup {K : Fr} {H : Hp} {ds : List PyData} {v : V} (h : RdV K H (.tuple ds) v) : ∃ a vs, v = .ref a ∧ H a = some (.tup vs) ∧ Reps K H ds vs := Rep.tuple (K := K) (H := H) h
theorem sep_int {K : Fr} {H : Hp} {M : List (V × D)} (i : Int) (h : Sep K H M) : Sep K H ((.int i, .p (.int i)) :: M) := Sep.cons_p (.of_int i) h
theorem sep_bool {K : Fr} {H : Hp} {M : List (V × D)} (i : Bool) (h : Sep K H M) : Sep K H ((.bl i, pB i) :: M) := Sep.cons_p (.of_bool i) h

mutual
theorem rep_dp {K : Fr} {H : Hp} : ∀ (d : PyData) (v : V), Rep K H d v → Dp K H v d
  | .none, v, h => by rw [h.none]; exact .non
  | .bool b, v, h => by rw [h.bool]; exact .bl b
  | .int i, v, h => by rw [h.int]; exact .int i
  | .str x, v, h => by rw [h.str]; exact .str x
  | .list ds, v, h => by
    obtain ⟨a, vs, rfl, f, r⟩ := h.list
    exact .lst f.sq (reps_dp ds vs r)
  | .tuple ds, v, h => by
    obtain ⟨a, vs, rfl, f, r⟩ := h.tuple
    exact .tup (SqT.of f) (reps_dp ds vs r)
  | .dict ds, v, h => by unfold Rep at h; exact h.elim
theorem reps_dp {K : Fr} {H : Hp} : ∀ (ds : List PyData) (vs : List V), Reps K H ds vs → DpAll K H vs ds
  | [], vs, h => by rw [h.of_nil]; exact .nil
  | d :: ds, vs, h => by
    obtain ⟨v, r, rfl, h1, h2⟩ := h.uncons
    exact .cons (rep_dp d v h1) (reps_dp ds r h2)
end
theorem rd_dp {K : Fr} {H : Hp} {d : PyData} {v : V} (h : RdV K H d v) : Dp K H v d := by
  cases d with
  | list ds =>
    obtain ⟨a, vs, rfl, f, r⟩ := rd_list h
    exact .lst f (reps_dp ds vs r)
  | none => exact rep_dp _ _ h
  | bool b => exact rep_dp _ _ h
  | int i => exact rep_dp _ _ h
  | str x => exact rep_dp _ _ h
  | tuple ds => exact rep_dp _ _ h
  | dict ds => exact rep_dp _ _ h
def opO : Op → Operator
  | .add => .Add | .sub => .Sub | .mul => .Mult | .fdiv => .FloorDiv | .mod => .Mod | .pow => .Pow | .shl => .LShift | .shr => .RShift | .xor => .BitXor
/-- two lists put together, however they stand -/
theorem op_catL : OpR X (binaryOp .Add) (fun x y H Q => ∃ a b xs ys, x = .ref a ∧ y = .ref b ∧ SqL X.K H a xs ∧ SqL X.K H b ys ∧ xs.length + ys.length ≤ sizeLine ∧ ∀ p, H p = none → Q (.ref p) (upd H p (.lst (xs ++ ys)))) := by
  intro pins s σ H x y v u Q I rx ry h
  obtain ⟨a, b, xs, ys, rfl, rfl, ha, hb, hz, q⟩ := h
  cases rx
  cases ry
  obtain ⟨its, r1, p1, _⟩ := I.list ha
  obtain ⟨its2, r2, p2, _⟩ := I.list hb
  obtain ⟨⟨c1, d1, t1, s1⟩, g1, g2, g3, g4⟩ := p1.isList
  obtain ⟨⟨c2, d2, t2, s2⟩, k1, k2, k3, k4⟩ := p2.isList
  simp only at g2 g4 k2 k4
  subst g2 g4 k2 k4
  refine concat_meets ⟨_, g1, rfl⟩ ⟨_, k1, rfl⟩ noFill_list_add seq_list_add PySem.F.slot_list_add PySem.F.entry_list_add (PySem.F.args_list_add_2 _ _)
    (list_addW a b its.toArray its2.toArray _ _ d1 d2 s1 s2 (by rw [List.size_toArray, List.size_toArray, ← r1.length, ← r2.length]; exact hz)) ⟨g1, k1, ?_⟩
  have e : its.toArray ++ its2.toArray = (its ++ its2).toArray := by simp
  rw [e]
  exact ⟨.ref _, _, I.lnew (t' := s.toks) (r1.append r2) (by rw [List.length_append]; exact hz), rfl, q _ I.fresh⟩
theorem nil_of {K : Fr} {H : Hp} {ds : List PyData} {vs : List V} (r : Reps K H ds vs) (e : vs = []) : ds = [] := by
  have := r.length
  rw [e] at this
  exact List.eq_nil_of_length_eq_zero this.symm
theorem opr_bin : ∀ op : Op, OpR X (binaryOp (opO op)) (rG X.K (binD op)) := by
  intro op pins s σ H x y v u Q I rx ry h
  obtain ⟨dx, dy, c, M, hg, hx, hy, hs, q⟩ := h
  cases op with
  | add =>
    cases dx <;> cases dy <;> first | (cases hg; done) | skip
    · cases hg
      exact op_add pins s σ H x y v u Q I rx ry ⟨_, _, rd_int hx, rd_int hy, q _ _ (sep_int _ hs)⟩
    · have hg : (if _ then some (D.p (PyData.str _)) else none) = some c := hg
      split at hg
      · rename_i hz
        cases hg
        exact op_add_str pins s σ H x y v u Q I rx ry ⟨_, _, rd_str hx, rd_str hy, hz, q _ _ (Sep.cons_p (.of_str _) hs)⟩
      · cases hg
    · have hg : (if _ then some (D.o (PyData.list _)) else none) = some c := hg
      split at hg
      · rename_i hz
        cases hg
        obtain ⟨a, vs, rfl, f1, r1⟩ := rd_list hx
        obtain ⟨b, us, rfl, f2, r2⟩ := rd_list hy
        exact op_catL pins s σ H _ _ v u Q I rx ry ⟨a, b, vs, us, rfl, rfl, f1, f2, by rw [r1.length, r2.length]; exact hz, fun p hp => q _ _ (hs.new_lst hp (r1.append r2))⟩
      · cases hg
    · have hg : (if _ then some (D.p (PyData.tuple _)) else none) = some c := hg
      split at hg
      · rename_i hz
        cases hg
        obtain ⟨a, vs, rfl, f1, r1⟩ := rd_tup hx
        obtain ⟨b, us, rfl, f2, r2⟩ := rd_tup hy
        refine op_catA pins s σ H _ _ v u Q I rx ry ⟨a, b, vs, us, rfl, rfl, SqT.of f1, SqT.of f2, by rw [r1.length, r2.length]; exact hz, fun e => ?_, fun _ e => ?_, fun _ _ p hp => q _ _ (hs.new_tup hp (r1.append r2))⟩
        · rw [nil_of r1 e] at q
          exact q _ _ (Sep.cons_p (.of_tuple f2 r2) hs)
        · rw [nil_of r2 e, List.append_nil] at q
          exact q _ _ (Sep.cons_p (.of_tuple f1 r1) hs)
      · cases hg
  | sub =>
    cases dx <;> cases dy <;> first | (cases hg; done) | skip
    cases hg
    exact op_sub pins s σ H x y v u Q I rx ry ⟨_, _, rd_int hx, rd_int hy, q _ _ (sep_int _ hs)⟩
  | mul =>
    cases dx <;> cases dy <;> first | (cases hg; done) | skip
    · have hg : (if _ then some (D.p (PyData.int _)) else none) = some c := hg
      split at hg
      · rename_i hz
        cases hg
        unfold mulOk at hz
        rcases Bool.or_eq_true_iff.mp hz with hz | hz
        · have hz : CMul _ _ := (Bool.or_eq_true_iff.mp hz).elim (fun z => .inl (of_decide_eq_true z)) fun z => .inr (of_decide_eq_true z)
          exact op_mul pins s σ H x y v u Q I rx ry ⟨_, _, rd_int hx, rd_int hy, hz, q _ _ (sep_int _ hs)⟩
        · exact op_mulW pins s σ H x y v u Q I rx ry ⟨_, _, rd_int hx, rd_int hy, (show _ + _ < 1000000 from of_decide_eq_true hz), q _ _ (sep_int _ hs)⟩
      · cases hg
    · have hg : (if _ then some (D.p (PyData.tuple _)) else none) = some c := hg
      split at hg
      · rename_i hz
        cases hg
        have hz := of_decide_eq_true hz
        obtain ⟨a, vs, rfl, f1, r1⟩ := rd_tup hx
        exact op_repT pins s σ H _ _ v u Q I rx ry ⟨a, _, vs, rfl, rd_int hy, SqT.of f1, fun e => by rw [nil_of r1 e] at hz; exact absurd hz.1 (Nat.lt_irrefl _), hz.2.1, hz.2.2.1, by rw [r1.length]; exact hz.2.2.2,
          fun p hp => q _ _ (hs.new_tup hp (r1.flat _))⟩
      · cases hg
  | fdiv =>
    cases dx <;> cases dy <;> first | (cases hg; done) | skip
    have hg : (if _ then some (D.p (PyData.int _)) else none) = some c := hg
    split at hg
    · rename_i hz
      cases hg
      exact op_fdivW pins s σ H x y v u Q I rx ry ⟨_, _, rd_int hx, rd_int hy, hz, q _ _ (sep_int _ hs)⟩
    · cases hg
  | mod =>
    cases dx <;> cases dy <;> first | (cases hg; done) | skip
    have hg : (if _ then some (D.p (PyData.int _)) else none) = some c := hg
    split at hg
    · rename_i hz
      cases hg
      exact op_mod pins s σ H x y v u Q I rx ry ⟨_, _, rd_int hx, rd_int hy, hz, q _ _ (sep_int _ hs)⟩
    · cases hg
  | pow =>
    cases dx <;> cases dy <;> first | (cases hg; done) | skip
    have hg : (if _ then some (D.p (PyData.int _)) else none) = some c := hg
    split at hg
    · rename_i hz
      cases hg
      exact op_pow pins s σ H x y v u Q I rx ry ⟨_, _, rd_int hx, rd_int hy, (show _ ∧ _ ∧ _ from of_decide_eq_true hz), q _ _ (sep_int _ hs)⟩
    · cases hg
  | shl =>
    cases dx <;> cases dy <;> first | (cases hg; done) | skip
    have hg : (if _ then some (D.p (PyData.int _)) else none) = some c := hg
    split at hg
    · rename_i hz
      cases hg
      exact op_shl pins s σ H x y v u Q I rx ry ⟨_, _, rd_int hx, rd_int hy, (show _ ∧ _ ∧ _ from of_decide_eq_true hz), q _ _ (sep_int _ hs)⟩
    · cases hg
  | shr =>
    cases dx <;> cases dy <;> first | (cases hg; done) | skip
    have hg : (if _ then some (D.p (PyData.int _)) else none) = some c := hg
    split at hg
    · rename_i hz
      cases hg
      exact op_shr pins s σ H x y v u Q I rx ry ⟨_, _, rd_int hx, rd_int hy, hz, q _ _ (sep_int _ hs)⟩
    · cases hg
  | xor =>
    cases dx <;> cases dy <;> first | (cases hg; done) | skip
    cases hg
    exact op_xor pins s σ H x y v u Q I rx ry ⟨_, _, rd_int hx, rd_int hy, q _ _ (sep_int _ hs)⟩
theorem se_bin {a b : Expr} {pos : Pos} {op : Op} {fa fb : Env → Res Arg} (ha : SA X a fa) (hb : SA X b fb) : SE X (.BinOp a (opO op) b pos) (bin2 fa fb (binD op)) :=
  se_bin2G (pe_op (opr_bin op) ha hb)

/-! ### comparisons -/
def cmO : Cm → CmpOp
  | .eq => .Eq | .ne => .NotEq | .lt => .Lt | .le => .LtE | .gt => .Gt | .ge => .GtE | .isin => .In | .notin => .NotIn | .is => .Is | .isnt => .IsNot
theorem ints_map : ∀ {xs : List PyData} {ns : List Int}, intsOf xs = some ns → xs = ns.map PyData.int
  | [], ns, h => by cases h; rfl
  | .int i :: r, ns, h => by
    unfold intsOf at h
    obtain ⟨ms, e1, rfl⟩ := Option.map_eq_some_iff.mp h
    rw [ints_map e1]; rfl
  | .none :: _, _, h => by cases h
  | .bool _ :: _, _, h => by cases h
  | .str _ :: _, _, h => by cases h
  | .list _ :: _, _, h => by cases h
  | .tuple _ :: _, _, h => by cases h
  | .dict _ :: _, _, h => by cases h
theorem bools_map : ∀ {xs : List PyData} {ns : List Bool}, boolsOf xs = some ns → xs = ns.map PyData.bool
  | [], ns, h => by cases h; rfl
  | .bool i :: r, ns, h => by
    unfold boolsOf at h
    obtain ⟨ms, e1, rfl⟩ := Option.map_eq_some_iff.mp h
    rw [bools_map e1]; rfl
  | .none :: _, _, h => by cases h
  | .int _ :: _, _, h => by cases h
  | .str _ :: _, _, h => by cases h
  | .list _ :: _, _, h => by cases h
  | .tuple _ :: _, _, h => by cases h
  | .dict _ :: _, _, h => by cases h
theorem reps_ints {K : Fr} {H : Hp} : ∀ {ns : List Int} {vs : List V}, Reps K H (ns.map PyData.int) vs → vs = ns.map V.int
  | [], vs, h => h.of_nil
  | n :: ns, vs, h => by
    obtain ⟨v, r, rfl, h1, h2⟩ := Reps.uncons (d := .int n) (ds := ns.map PyData.int) h
    rw [h1.int, reps_ints h2]; rfl
theorem reps_bools {K : Fr} {H : Hp} : ∀ {ns : List Bool} {vs : List V}, Reps K H (ns.map PyData.bool) vs → vs = ns.map V.bl
  | [], vs, h => h.of_nil
  | n :: ns, vs, h => by
    obtain ⟨v, r, rfl, h1, h2⟩ := Reps.uncons (d := .bool n) (ds := ns.map PyData.bool) h
    rw [h1.bool, reps_bools h2]; rfl
theorem reps_of_ints {K : Fr} {H : Hp} : ∀ (ns : List Int), Reps K H (ns.map PyData.int) (ns.map V.int)
  | [] => Reps.nil
  | n :: ns => Reps.cons (.of_int n) (reps_of_ints ns)
theorem opr_cmp (h64 : X.A.units + 65 < cLine) : ∀ op : Cm, OpR X (compareOp (cmO op)) (rG X.K (cmpB op)) := by
  intro op pins s σ H x y v u Q I rx ry h
  obtain ⟨dx, dy, c0, M, hg0, hx, hy, hs, q0⟩ := h
  unfold cmpB at hg0
  obtain ⟨c, hg, rfl⟩ := Option.map_eq_some_iff.mp hg0
  have q : ∀ H', Sep X.K H' M → Q (.bl c) H' := fun H' k => q0 _ _ (sep_bool c k)
  have ifs : ∀ {p b : Bool}, (if p = true then some b else none) = some c → p = true ∧ b = c := fun {p b} z => by
    split at z
    · cases z; exact ⟨by assumption, rfl⟩
    · cases z
  cases op with
  | eq =>
    have hg : (if (shp dx && shp dy) = true then some (PyData.eqv dx dy) else none) = some c := by cases dx <;> cases dy <;> exact hg
    obtain ⟨e1, e2⟩ := ifs hg
    obtain ⟨e3, e4⟩ := Bool.and_eq_true_iff.mp e1
    subst e2
    exact op_eqD (by omega) pins s σ H x y v u Q I rx ry ⟨dx, dy, rd_dp hx, rd_dp hy, e3, e4, q _ hs⟩
  | ne =>
    have hg : (if (shp dx && shp dy) = true then some (!PyData.eqv dx dy) else none) = some c := by cases dx <;> cases dy <;> exact hg
    obtain ⟨e1, e2⟩ := ifs hg
    obtain ⟨e3, e4⟩ := Bool.and_eq_true_iff.mp e1
    subst e2
    exact op_neD (by omega) pins s σ H x y v u Q I rx ry ⟨dx, dy, rd_dp hx, rd_dp hy, e3, e4, q _ hs⟩
  | lt =>
    cases dx <;> cases dy <;> first | (cases hg; done) | skip
    · cases hg
      exact op_lt pins s σ H x y v u Q I rx ry ⟨_, _, rd_int hx, rd_int hy, q _ hs⟩
    · rename_i xs ys
      have hg : (match intsOf xs, intsOf ys with | some ns, some ms => some (HT.lexLt ns ms) | _, _ => none) = some c := hg
      split at hg
      · rename_i ns ms e1 e2
        cases hg
        have := ints_map e1
        have := ints_map e2
        subst xs ys
        obtain ⟨a, vs, rfl, f1, r1⟩ := rd_tup hx
        obtain ⟨b, us, rfl, f2, r2⟩ := rd_tup hy
        rw [reps_ints r1] at f1
        rw [reps_ints r2] at f2
        exact op_ltT (by omega) pins s σ H _ _ v u Q I rx ry ⟨a, b, ns, ms, rfl, rfl, SqT.of f1, SqT.of f2, q _ hs⟩
      · cases hg
  | le =>
    cases dx <;> cases dy <;> first | (cases hg; done) | skip
    cases hg
    exact op_le pins s σ H x y v u Q I rx ry ⟨_, _, rd_int hx, rd_int hy, q _ hs⟩
  | gt =>
    cases dx <;> cases dy <;> first | (cases hg; done) | skip
    cases hg
    exact op_gt pins s σ H x y v u Q I rx ry ⟨_, _, rd_int hx, rd_int hy, q _ hs⟩
  | ge =>
    cases dx <;> cases dy <;> first | (cases hg; done) | skip
    cases hg
    exact op_ge pins s σ H x y v u Q I rx ry ⟨_, _, rd_int hx, rd_int hy, q _ hs⟩
  | isin =>
    cases dy with
    | list ys =>
      have hg : (if (shp dx && shp (.list ys)) = true then some (inD dx ys) else none) = some c := by cases dx <;> exact hg
      obtain ⟨e1, e2⟩ := ifs hg
      obtain ⟨e3, e4⟩ := Bool.and_eq_true_iff.mp e1
      subst e2
      exact op_inD h64 pins s σ H x y v u Q I rx ry ⟨dx, ys, rd_dp hx, rd_dp hy, e3, e4, q _ hs⟩
    | tuple ys =>
      have hg : (if (shp dx && shp (.tuple ys)) = true then some (inD dx ys) else none) = some c := by cases dx <;> exact hg
      obtain ⟨e1, e2⟩ := ifs hg
      obtain ⟨e3, e4⟩ := Bool.and_eq_true_iff.mp e1
      subst e2
      obtain ⟨as, r1⟩ := Dp.reads I dx x v (rd_dp hx) rx
      obtain ⟨bs, r2⟩ := Dp.reads I (.tuple ys) y u (rd_dp hy) ry
      exact SeqAt.in_tuple_reads r2 r1 (SeqAt.canLay_of_shaped e4) (SeqAt.canLay_of_shaped e3) (room_in_shaped e3 h64) ⟨.bl _, H, I, rfl, q _ hs⟩
    | none => cases dx <;> cases hg
    | bool _ => cases dx <;> cases hg
    | int _ => cases dx <;> cases hg
    | str _ => cases dx <;> cases hg
    | dict _ => cases dx <;> cases hg
  | notin =>
    cases dy with
    | list ys =>
      have hg : (if (shp dx && shp (.list ys)) = true then some (!inD dx ys) else none) = some c := by cases dx <;> exact hg
      obtain ⟨e1, e2⟩ := ifs hg
      obtain ⟨e3, e4⟩ := Bool.and_eq_true_iff.mp e1
      subst e2
      exact op_notInD h64 pins s σ H x y v u Q I rx ry ⟨dx, ys, rd_dp hx, rd_dp hy, e3, e4, q _ hs⟩
    | tuple ys =>
      have hg : (if (shp dx && shp (.tuple ys)) = true then some (!inD dx ys) else none) = some c := by cases dx <;> exact hg
      obtain ⟨e1, e2⟩ := ifs hg
      obtain ⟨e3, e4⟩ := Bool.and_eq_true_iff.mp e1
      subst e2
      obtain ⟨as, r1⟩ := Dp.reads I dx x v (rd_dp hx) rx
      obtain ⟨bs, r2⟩ := Dp.reads I (.tuple ys) y u (rd_dp hy) ry
      exact SeqAt.notIn_tuple_reads r2 r1 (SeqAt.canLay_of_shaped e4) (SeqAt.canLay_of_shaped e3) (room_in_shaped e3 h64) ⟨.bl _, H, I, rfl, q _ hs⟩
    | none => cases dx <;> cases hg
    | bool _ => cases dx <;> cases hg
    | int _ => cases dx <;> cases hg
    | str _ => cases dx <;> cases hg
    | dict _ => cases dx <;> cases hg
  | is =>
    cases dy with
    | none =>
      have e : decide (x = V.non) = c := by
        cases dx with
        | none => cases hg; rw [rd_none hx]; rfl
        | bool _ => cases hg; rw [rd_bool hx]; rfl
        | int _ => cases hg; rw [rd_int hx]; rfl
        | str _ => cases hg; rw [rd_str hx]; rfl
        | list _ => cases hg; obtain ⟨a, vs, rfl, _⟩ := rd_list hx; rfl
        | tuple _ => cases hg; obtain ⟨a, vs, rfl, _⟩ := rd_tup hx; rfl
        | dict _ => exact absurd (show Rep X.K H _ x from hx) (by unfold Rep; exact id)
      subst e
      exact op_isN pins s σ H x y v u Q I rx ry ⟨rd_none hy, q _ hs⟩
    | bool b =>
      cases dx <;> first | (cases hg; done) | skip
      cases hg
      exact op_is_bl pins s σ H x y v u Q I rx ry ⟨_, _, rd_bool hx, rd_bool hy, q _ hs⟩
    | int _ => cases dx <;> cases hg
    | str _ => cases dx <;> cases hg
    | list _ => cases dx <;> cases hg
    | tuple _ => cases dx <;> cases hg
    | dict _ => cases dx <;> cases hg
  | isnt =>
    cases dy with
    | none =>
      have e : (!decide (x = V.non)) = c := by
        cases dx with
        | none => cases hg; rw [rd_none hx]; rfl
        | bool _ => cases hg; rw [rd_bool hx]; rfl
        | int _ => cases hg; rw [rd_int hx]; rfl
        | str _ => cases hg; rw [rd_str hx]; rfl
        | list _ => cases hg; obtain ⟨a, vs, rfl, _⟩ := rd_list hx; rfl
        | tuple _ => cases hg; obtain ⟨a, vs, rfl, _⟩ := rd_tup hx; rfl
        | dict _ => exact absurd (show Rep X.K H _ x from hx) (by unfold Rep; exact id)
      subst e
      exact op_notN pins s σ H x y v u Q I rx ry ⟨rd_none hy, q _ hs⟩
    | bool b =>
      cases dx <;> first | (cases hg; done) | skip
      cases hg
      exact op_isnot_bl pins s σ H x y v u Q I rx ry ⟨_, _, rd_bool hx, rd_bool hy, q _ hs⟩
    | int _ => cases dx <;> cases hg
    | str _ => cases dx <;> cases hg
    | list _ => cases dx <;> cases hg
    | tuple _ => cases dx <;> cases hg
    | dict _ => cases dx <;> cases hg
theorem nomark2 (op : Cm) (b : Expr) (h : ∀ es k p, b ≠ .Set es k p) : behindInMarks (cmO op) b = false := by
  cases b <;> first | rfl | exact absurd rfl (h _ _ _)
theorem se_cmp {a b : Expr} {pos : Pos} {op : Cm} {fa fb : Env → Res Arg} (h64 : X.A.units + 65 < cLine) (ha : SA X a fa) (hb : SA X b fb) (hn : ∀ es k p, b ≠ .Set es k p) : SE X (.Compare a [cmO op] [b] pos) (bin2 fa fb (cmpB op)) :=
  se_bin2G (pe_cmpR (opr_cmp h64 op) ha hb (nomark2 op b hn))
end
end Dl

set_option Elab.async false
set_option linter.all false
set_option maxRecDepth 100000
/-! subscripts, slices, tests, chains by data -/
namespace Dl
open PySem PySem.Spec PyProof.Rows L2
section
variable {X : Cx}
theorem at_reps {K : Fr} {H : Hp} {ds : List PyData} {vs : List V} {i : Int} {d : PyData} (r : Reps K H ds vs) (h : atP ds i = some d) : ∃ v, atI vs i = some v ∧ Rep K H d v := by
  unfold atP at h
  obtain ⟨j, e1, e2⟩ := Option.bind_eq_some_iff.mp h
  obtain ⟨v, e3, e4⟩ := r.get e2
  refine ⟨v, ?_, e4⟩
  unfold atI
  rw [r.length, e1]
  exact e3
theorem ixr_D : IxR X (rG X.K idxB) := by
  intro value slice pins s σ H x y v u Q I rx ry h hs
  obtain ⟨dx, dy, c0, M, hg0, hx, hy, hsp, q⟩ := h
  unfold idxB at hg0
  obtain ⟨c, hg, rfl⟩ := Option.map_eq_some_iff.mp hg0
  cases dx <;> cases dy <;> first | (cases hg; done) | skip
  · obtain ⟨a, vs, rfl, f, r⟩ := rd_list hx
    obtain ⟨w, e1, e2⟩ := at_reps r hg
    exact ix_list value slice pins s σ H _ _ v u Q I rx ry ⟨a, vs, _, w, rfl, rd_int hy, f, e1, q _ _ (Sep.cons_p e2 hsp)⟩ hs
  · obtain ⟨a, vs, rfl, f, r⟩ := rd_tup hx
    obtain ⟨w, e1, e2⟩ := at_reps r hg
    exact ix_tup value slice pins s σ H _ _ v u Q I rx ry ⟨a, vs, _, w, rfl, rd_int hy, SqT.of f, e1, q _ _ (Sep.cons_p e2 hsp)⟩ hs
theorem plainIx {b : Expr} (h : ∀ l u t p, b ≠ .Slice l u t p) : PlainIx b := by
  intro o i
  cases b <;> first | rfl | exact absurd rfl (h _ _ _ _)
theorem se_idx {a b : Expr} {pos : Pos} {fa fb : Env → Res Arg} (ha : SA X a fa) (hb : SA X b fb) (hn : ∀ l u t p, b ≠ .Slice l u t p) : SE X (.Subscript a b pos) (bin2 fa fb idxB) :=
  se_bin2G (pe_ix ixr_D ha hb (plainIx hn))

/-! ### slices -/
def rGs (K : Fr) : V → Option Int → Option Int → Hp → VK → Prop := fun x lo hi H Q => ∃ dx c M, slD dx lo hi = some c ∧ RdV K H dx x ∧ Sep K H M ∧ ∀ v H', Sep K H' ((v, c) :: M) → Q v H'
theorem reps_cut {K : Fr} {H : Hp} {ds : List PyData} {vs : List V} (r : Reps K H ds vs) (lo hi : Option Int) : Reps K H (cutP ds lo hi) (cutV vs lo hi) := by
  unfold cutP cutV
  rw [r.length]
  exact (r.drop _).take _
theorem sIx_whole {ds : List PyData} {lo hi : Option Int} (h : HT.sIx ds.length 0 lo = 0 ∧ HT.sIx ds.length ds.length hi = ds.length) : cutP ds lo hi = ds := by
  unfold cutP
  rw [h.1, h.2]
  simp
theorem slr_D : SlR X (rGs X.K) := by
  intro pins s σ H x v vl vu lo hi sl Q I rx hs pl pu h
  obtain ⟨dx, c, M, hg, hx, hsp, q⟩ := h
  cases dx <;> first | (cases hg; done) | skip
  · cases hg
    obtain ⟨a, vs, rfl, f, r⟩ := rd_list hx
    exact sl_list pins s σ H _ v vl vu lo hi sl Q I rx hs pl pu ⟨a, vs, rfl, f, fun p hp => q _ _ (hsp.new_lst hp (reps_cut r lo hi))⟩
  · cases hg
    obtain ⟨a, vs, rfl, f, r⟩ := rd_tup hx
    refine sl_tupA pins s σ H _ v vl vu lo hi sl Q I rx hs pl pu ⟨a, vs, rfl, SqT.of f, fun e => ?_, fun _ p hp => q _ _ (hsp.new_tup hp (reps_cut r lo hi))⟩
    rw [r.length] at e
    rw [sIx_whole e] at q
    exact q _ _ (Sep.cons_p (.of_tuple f r) hsp)
theorem se_slF {a lo : Expr} {p2 pos : Pos} {fa fb : Env → Res Arg} (ha : SA X a fa) (hb : SA X lo fb) : SE X (.Subscript a (.Slice (some lo) none none p2) pos) (bin2 fa fb slFD) := by
  refine se_bin2 (r2 := fun x y H Q => ∃ i, y = .int i ∧ rGs X.K x (some i) none H Q) (pe_mo (pe_slice slr_D ha (po_some hb) po_none) fun σ H Q h => h) fun dx dy c x y H M Q hg hx hy hs q => ?_
  cases dy <;> first | (cases hg; done) | skip
  exact ⟨_, rd_int hy, dx, c, M, hg, hx, hs, q⟩
theorem se_slT {a hi : Expr} {p2 pos : Pos} {fa fb : Env → Res Arg} (ha : SA X a fa) (hb : SA X hi fb) : SE X (.Subscript a (.Slice none (some hi) none p2) pos) (bin2 fa fb slTD) := by
  refine se_bin2 (r2 := fun x y H Q => ∃ i, y = .int i ∧ rGs X.K x none (some i) H Q) (pe_mo (pe_slice slr_D ha po_none (po_some hb)) fun σ H Q h => h) fun dx dy c x y H M Q hg hx hy hs q => ?_
  cases dy <;> first | (cases hg; done) | skip
  exact ⟨_, rd_int hy, dx, c, M, hg, hx, hs, q⟩
/-- an int operand -/
def tI (K : Fr) (f : Env → Res Int) : TE := fun σ H Q => ∃ r L T, EnvR σ r L ∧ Sep K H (L ++ T) ∧ ∃ i r', f r = .ok i r' ∧ ∀ H' L', EnvR σ r' L' → Sep K H' (L' ++ T) → Q (.int i) H'
theorem si_of {e : Expr} {f : Env → Res Arg} (h : SA X e f) : PE X e (tI X.K fun r => intR (f r)) := by
  refine pe_mo h fun σ H Q ⟨r, L, T, he, hs, i, r', e1, q⟩ => ?_
  obtain ⟨a, r1, e2, e3⟩ := bind_ok e1
  have e3 : (match a.dat r1 with | some (.int i) => Res.ok i r1 | _ => .bad) = .ok i r' := e3
  split at e3
  · rename_i j hj
    cases e3
    refine ⟨r, L, T, he, hs, a, r', e2, fun v H' L' E g1 g2 g3 => ?_⟩
    rw [rd_int (arg_rd g1 g2 hj g3 (fun y hy => by simp [hy]) (fun y hy => by simp [hy]))]
    exact q H' L' g1 (g3.sub (List.sublist_append_right _ _))
  · cases e3
theorem se_slB {a lo hi : Expr} {p2 pos : Pos} {fa fb fc : Env → Res Arg} (ha : SA X a fa) (hb : SA X lo fb) (hc : SA X hi fc) : SE X (.Subscript a (.Slice (some lo) (some hi) none p2) pos) (sl3 fa fb fc) := by
  refine pe_mo (pe_slice slr_D ha (po_some (si_of hb)) (po_some (si_of hc))) fun σ H Q ⟨r, L, T, he, hs, c, r', e1, q⟩ => ?_
  obtain ⟨x, r1, e2, e3⟩ := bind_ok e1
  obtain ⟨i, r2, e4, e5⟩ := bind_ok e3
  obtain ⟨j, r3, e6, e7⟩ := bind_ok e5
  have e7 : (match x.dat r3 with | some dx => ofO (slD dx (some i) (some j)) r3 | none => .bad) = .ok c r' := e7
  split at e7
  · rename_i dx hx
    obtain ⟨e8, rfl⟩ := ofO_ok e7
    refine ⟨r, L, T, he, hs, x, r1, e2, fun v H1 L1 E1 g1 g2 g3 => ?_⟩
    refine ⟨r1, L1, E1 ++ T, g1, g3.perm ?_, i, r2, e4, fun H2 L2 k1 k2 => ⟨i, rfl, ?_⟩⟩
    · rw [← List.append_assoc, ← List.append_assoc]
      exact List.perm_append_comm.append_right T
    refine ⟨r2, L2, E1 ++ T, k1, k2, j, r', e6, fun H3 L3 m1 m2 => ⟨j, rfl, ?_⟩⟩
    refine ⟨dx, c, _, e8, arg_rd m1 g2 hx m2 (fun y hy => by simp [hy]) (fun y hy => by simp [hy]), m2, fun w H' k => q w H' L3 m1 (k.sub ?_)⟩
    exact List.Sublist.cons_cons _ (List.Sublist.append (List.Sublist.refl _) (List.sublist_append_right _ _))
  · cases e7
/-- the whole list from behind -/
theorem se_rev {a : Expr} {k : Nat} {p1 p2 p3 pos : Pos} {fa : Env → Res Arg} (ha : SA X a fa) : SE X (.Subscript a (.Slice none none (some (.UnaryOp .USub (.Constant (.int 1) k p1) p2)) p3) pos) (un1 fa revD) := by
  refine se_un1 (r1 := fun x H1 Q => ∃ b xs, x = .ref b ∧ SqL X.K H1 b xs ∧ ∀ p, H1 p = none → Q (.ref p) (upd H1 p (.lst xs.reverse))) (pe_mo (pe_revL ha) fun σ H Q h => h) fun dx c x H M Q hg hx hs q => ?_
  cases dx <;> first | (cases hg; done) | skip
  cases hg
  obtain ⟨b, vs, rfl, f, r⟩ := rd_list hx
  exact ⟨b, vs, rfl, f, fun p hp => q _ _ (hs.new_lst hp r.reverse)⟩
/-- -a -/
theorem se_neg {a : Expr} {pos : Pos} {fa : Env → Res Arg} (ha : SA X a fa) : SE X (.UnaryOp .USub a pos) (un1 fa negD) := by
  refine se_un1 (r1 := rU fun i => .int (-i)) (pe_mo (pe_un un_neg ha) fun σ H Q h => h) fun dx c x H M Q hg hx hs q => ?_
  cases dx <;> first | (cases hg; done) | skip
  cases hg
  exact ⟨_, rd_int hx, q _ _ (sep_int _ hs)⟩

/-! ### truths -/
/-- a truth -/
theorem boolR_ok {x : Res D} {b : Bool} {r : Env} (h : boolR x = .ok b r) : x = .ok (pB b) r := by
  obtain ⟨d, r1, e1, e2⟩ := bind_ok h
  have e2 : (match d with | .p (.bool b) => Res.ok b r1 | _ => .bad) = .ok b r := e2
  split at e2
  · cases e2; exact e1
  · cases e2
theorem se_bool {e : Expr} {f : Env → Res D} (h : SE X e f) : PE X e (fun σ H Q => ∃ r L T, EnvR σ r L ∧ Sep X.K H (L ++ T) ∧ ∃ b r', boolR (f r) = .ok b r' ∧ ∀ H' L', EnvR σ r' L' → Sep X.K H' (L' ++ T) → Q (.bl b) H') := by
  refine pe_mo h fun σ H Q ⟨r, L, T, he, hs, b, r', e1, q⟩ => ?_
  refine ⟨r, L, T, he, hs, pB b, r', boolR_ok e1, fun v H' L' g1 g2 => ?_⟩
  rw [(g2.head_p).bool]
  exact q H' L' g1 g2.tail
theorem sb_val {e : Expr} {f : Env → Res D} (h : SE X e f) (he : ∀ whole, isTrue e X.env whole = (do let v ← whole; standAt e.pos; holding [v] (truthy v))) : SB X e (fun r => boolR (f r)) := by
  refine pt_mo (pt_val (se_bool h) he) fun σ H Q ⟨r, L, T, he, hs, b, r', e1, q⟩ => ⟨r, L, T, he, hs, b, r', e1, fun H' L' g1 g2 => ⟨b, rfl, q H' L' g1 g2⟩⟩
theorem se_not {a : Expr} {pos : Pos} {f : Env → Res D} (ha : SE X a f) : SE X (.UnaryOp .Not a pos) (fun r => (boolR (f r)).bind fun b r1 => .ok (pB (!b)) r1) := by
  refine pe_mo (pe_not (se_bool ha)) fun σ H Q ⟨r, L, T, he, hs, c, r', e1, q⟩ => ?_
  obtain ⟨b, r1, e2, e3⟩ := bind_ok e1
  cases e3
  exact ⟨r, L, T, he, hs, b, r', e2, fun H' L' g1 g2 => ⟨b, rfl, q _ H' L' g1 (sep_bool _ g2)⟩⟩
theorem sb_not {a : Expr} {pos : Pos} {f : Env → Res D} (ha : SB X a (fun r => boolR (f r))) : SB X (.UnaryOp .Not a pos) (fun r => boolR ((boolR (f r)).bind fun b r1 => .ok (pB (!b)) r1)) := by
  refine pt_mo (pt_not ha) fun σ H Q ⟨r, L, T, he, hs, c, r', e1, q⟩ => ?_
  obtain ⟨b, r1, e2, e3⟩ := bind_ok (boolR_ok e1)
  cases e3
  exact ⟨r, L, T, he, hs, b, r', e2, q⟩
def andR (f g : Env → Res D) (r : Env) : Res D := (boolR (f r)).bind fun k r1 => if k then g r1 else .ok (pB false) r1
def orR (f g : Env → Res D) (r : Env) : Res D := (boolR (f r)).bind fun k r1 => if k then .ok (pB true) r1 else g r1
theorem se_and {a b : Expr} {es : List Expr} {pos : Pos} {f g : Env → Res D} (ha : SE X a f) (hb : SE X (.BoolOp .And (b :: es) pos) g) : SE X (.BoolOp .And (a :: b :: es) pos) (andR f g) := by
  refine pe_mo (pe_and (se_bool ha) hb) fun σ H Q ⟨r, L, T, he, hs, c, r', e1, q⟩ => ?_
  obtain ⟨k, r1, e2, e3⟩ := bind_ok e1
  refine ⟨r, L, T, he, hs, k, r1, e2, fun H' L' g1 g2 => ⟨k, rfl, ?_⟩⟩
  cases k with
  | true =>
    simp only [if_true] at e3 ⊢
    exact ⟨r1, L', T, g1, g2, c, r', e3, q⟩
  | false =>
    simp only [Bool.false_eq_true, if_false] at e3 ⊢
    cases e3
    exact q _ H' L' g1 (sep_bool _ g2)
theorem se_or {a b : Expr} {es : List Expr} {pos : Pos} {f g : Env → Res D} (ha : SE X a f) (hb : SE X (.BoolOp .Or (b :: es) pos) g) : SE X (.BoolOp .Or (a :: b :: es) pos) (orR f g) := by
  refine pe_mo (pe_or (se_bool ha) hb) fun σ H Q ⟨r, L, T, he, hs, c, r', e1, q⟩ => ?_
  obtain ⟨k, r1, e2, e3⟩ := bind_ok e1
  refine ⟨r, L, T, he, hs, k, r1, e2, fun H' L' g1 g2 => ⟨k, rfl, ?_⟩⟩
  cases k with
  | false =>
    simp only [Bool.false_eq_true, if_false] at e3 ⊢
    exact ⟨r1, L', T, g1, g2, c, r', e3, q⟩
  | true =>
    simp only [if_true] at e3 ⊢
    cases e3
    exact q _ H' L' g1 (sep_bool _ g2)
theorem se_one {a : Expr} {op : BoolOp} {pos : Pos} {f : Env → Res D} (ha : SE X a f) : SE X (.BoolOp op [a] pos) f := pe_one ha
/-- tests, whatever the whole is -/
abbrev SW (X : Cx) (e : Expr) (f : Env → Res Bool) : Prop := PW X e (tT X.K f)
theorem sw_one {a : Expr} {op : BoolOp} {pos : Pos} {f : Env → Res Bool} (ha : SB X a f) : SW X (.BoolOp op [a] pos) f := by
  cases op with
  | And => exact pw_and1 ha
  | Or => exact pw_or1 ha
theorem sw_and {a b : Expr} {es : List Expr} {pos : Pos} {f g : Env → Res D} (ha : SB X a (fun r => boolR (f r))) (hb : SW X (.BoolOp .And (b :: es) pos) (fun r => boolR (g r))) : SW X (.BoolOp .And (a :: b :: es) pos) (fun r => boolR (andR f g r)) := by
  refine pw_mo (pw_and ha hb) fun σ H Q ⟨r, L, T, he, hs, c, r', e1, q⟩ => ?_
  obtain ⟨k, r1, e2, e3⟩ := bind_ok (boolR_ok e1)
  refine ⟨r, L, T, he, hs, k, r1, e2, fun H' L' g1 g2 => ?_⟩
  cases k with
  | true =>
    simp only [if_true] at e3 ⊢
    exact ⟨r1, L', T, g1, g2, c, r', by show boolR (g r1) = _; rw [e3]; rfl, q⟩
  | false =>
    simp only [Bool.false_eq_true, if_false] at e3 ⊢
    cases e3
    exact q H' L' g1 g2
theorem sw_or {a b : Expr} {es : List Expr} {pos : Pos} {f g : Env → Res D} (ha : SB X a (fun r => boolR (f r))) (hb : SW X (.BoolOp .Or (b :: es) pos) (fun r => boolR (g r))) : SW X (.BoolOp .Or (a :: b :: es) pos) (fun r => boolR (orR f g r)) := by
  refine pw_mo (pw_or ha hb) fun σ H Q ⟨r, L, T, he, hs, c, r', e1, q⟩ => ?_
  obtain ⟨k, r1, e2, e3⟩ := bind_ok (boolR_ok e1)
  refine ⟨r, L, T, he, hs, k, r1, e2, fun H' L' g1 g2 => ?_⟩
  cases k with
  | false =>
    simp only [Bool.false_eq_true, if_false] at e3 ⊢
    exact ⟨r1, L', T, g1, g2, c, r', by show boolR (g r1) = _; rw [e3]; rfl, q⟩
  | true =>
    simp only [if_true] at e3 ⊢
    cases e3
    exact q H' L' g1 g2
theorem se_ite {c a b : Expr} {pos : Pos} {fc fa fb : Env → Res D} (hc : SB X c (fun r => boolR (fc r))) (ha : SE X a fa) (hb : SE X b fb) : SE X (.IfExp c a b pos) (fun r => (boolR (fc r)).bind fun k r1 => if k then fa r1 else fb r1) := by
  refine pe_mo (pe_ifExp hc ha hb) fun σ H Q ⟨r, L, T, he, hs, d, r', e1, q⟩ => ?_
  obtain ⟨k, r1, e2, e3⟩ := bind_ok e1
  refine ⟨r, L, T, he, hs, k, r1, e2, fun H' L' g1 g2 => ?_⟩
  cases k with
  | true =>
    simp only [if_true] at e3 ⊢
    exact ⟨r1, L', T, g1, g2, d, r', e3, q⟩
  | false =>
    simp only [Bool.false_eq_true, if_false] at e3 ⊢
    exact ⟨r1, L', T, g1, g2, d, r', e3, q⟩
/-- a comparison as a test -/
theorem sb_cmp {a b : Expr} {pos : Pos} {op : Cm} {fa fb : Env → Res Arg} (h64 : X.A.units + 65 < cLine) (ha : SA X a fa) (hb : SA X b fb) (hn : ∀ es k p, b ≠ .Set es k p) : SB X (.Compare a [cmO op] [b] pos) (fun r => boolR (bin2 fa fb (cmpB op) r)) := by
  refine pt_mo (pt_cmpR (opr_cmp h64 op) ha hb (nomark2 op b hn)) fun σ H Q ⟨r, L, T, he, hs, c, r', e1, q⟩ => ?_
  obtain ⟨x, s1, e2, e3⟩ := bind_ok (boolR_ok e1)
  obtain ⟨y, s2, e4, e5⟩ := bind_ok e3
  have e5 : (match x.dat s2, y.dat s2 with | some dx, some dy => ofO (cmpB op dx dy) s2 | _, _ => .bad) = .ok (pB c) r' := e5
  split at e5
  · rename_i dx dy hx hy
    obtain ⟨e6, rfl⟩ := ofO_ok e5
    refine ⟨r, L, T, he, hs, x, s1, e2, fun v H1 L1 E1 g1 g2 g3 => ?_⟩
    refine ⟨s1, L1, E1 ++ T, g1, g3.perm ?_, y, r', e4, fun u H2 L2 E2 k1 k2 k3 => ?_⟩
    · rw [← List.append_assoc, ← List.append_assoc]
      exact List.perm_append_comm.append_right T
    · refine ⟨dx, dy, pB c, _, e6, arg_rd k1 g2 hx k3 (fun y hy => by simp [hy]) (fun y hy => by simp [hy]), arg_rd k1 k2 hy k3 (fun y hy => by simp [hy]) (fun y hy => by simp [hy]), k3, fun w H' k => ⟨c, (k.head_p).bool, q H' L2 k1 (k.tail.sub ?_)⟩⟩
      refine List.Sublist.trans ?_ (List.sublist_append_right _ _)
      exact List.Sublist.append (List.Sublist.refl _) (List.sublist_append_right _ _)
  · cases e5
/-- a < b < c -/
theorem chain_rd {fa fb fc : Env → Res Arg} {o1 o2 : Cm} {σ : L2.St} {H : Hp} {R : V → Hp → Prop} {c : Bool} {r r' : Env} {L T : List (V × D)} (he : EnvR σ r L) (hs : Sep X.K H (L ++ T)) (e1 : chain3 fa fb fc (cmpD o1) (cmpD o2) r = .ok (pB c) r')
    (q : ∀ H' L', EnvR σ r' L' → Sep X.K H' (L' ++ T) → R (.bl c) H') :
    tA X.K fa σ H fun x H1 => tA X.K fb σ H1 fun y H2 => rG X.K (cmpB o1) x y H2 fun z H3 => ∃ k, z = .bl k ∧ (if k = true then tA X.K fc σ H3 fun w H4 => rG X.K (cmpB o2) y w H4 R else R (.bl false) H3) := by
  obtain ⟨x, s1, e2, e3⟩ := bind_ok e1
  obtain ⟨y, s2, e4, e5⟩ := bind_ok e3
  refine ⟨r, L, T, he, hs, x, s1, e2, fun v H1 L1 E1 g1 g2 g3 => ?_⟩
  refine ⟨s1, L1, E1 ++ T, g1, g3.perm ?_, y, s2, e4, fun u H2 L2 E2 k1 k2 k3 => ?_⟩
  · rw [← List.append_assoc, ← List.append_assoc]
    exact List.perm_append_comm.append_right T
  revert e5
  show (match x.dat s2, y.dat s2 with | some dx, some dy => _ | _, _ => _) = _ → _
  split
  · rename_i dx dy hx hy
    have rx := arg_rd k1 g2 hx k3 (fun y hy => by simp [hy]) (fun y hy => by simp [hy])
    have ry := arg_rd k1 k2 hy k3 (fun y hy => by simp [hy]) (fun y hy => by simp [hy])
    split
    · rename_i e6
      intro e5
      refine ⟨dx, dy, pB true, _, by unfold cmpB; rw [e6]; rfl, rx, ry, k3, fun w H3 k => ⟨true, (k.head_p).bool, ?_⟩⟩
      rw [if_pos rfl]
      have k := k.tail
      obtain ⟨z, s4, e7, e8⟩ := bind_ok e5
      refine ⟨s2, L2, E2 ++ (E1 ++ T), k1, k.perm ?_, z, s4, e7, fun w3 H4 L4 E4 m1 m2 m3 => ?_⟩
      · rw [← List.append_assoc, ← List.append_assoc (as := L2)]
        exact List.perm_append_comm.append_right _
      revert e8
      show (match y.dat s4, z.dat s4 with | some dy2, some dz => _ | _, _ => _) = _ → _
      split
      · rename_i dy2 dz hy2 hz2
        intro e8
        obtain ⟨e9, rfl⟩ := ofO_ok e8
        refine ⟨dy2, dz, pB c, _, e9, arg_rd m1 k2 hy2 m3 (fun y hy => by simp [hy]) (fun y hy => by simp [hy]), arg_rd m1 m2 hz2 m3 (fun y hy => by simp [hy]) (fun y hy => by simp [hy]), m3, fun w4 H5 n => ?_⟩
        rw [(n.head_p).bool]
        refine q H5 L4 m1 (n.tail.sub ?_)
        refine List.Sublist.trans ?_ (List.sublist_append_right _ _)
        exact List.Sublist.append (List.Sublist.refl _) ((List.sublist_append_right _ _).trans (List.sublist_append_right _ _))
      · intro e8; cases e8
    · rename_i e6
      intro e5
      cases e5
      refine ⟨dx, dy, pB false, _, by unfold cmpB; rw [e6]; rfl, rx, ry, k3, fun w H3 k => ⟨false, (k.head_p).bool, ?_⟩⟩
      rw [if_neg Bool.false_ne_true]
      refine q H3 L2 k1 (k.tail.sub ?_)
      refine List.Sublist.trans ?_ (List.sublist_append_right _ _)
      exact List.Sublist.append (List.Sublist.refl _) (List.sublist_append_right _ _)
    · intro e5; cases e5
  · intro e5; cases e5
theorem chain_pB {fa fb fc : Env → Res Arg} {g1 g2 : PyData → PyData → Option Bool} {r r' : Env} {d : D} (h : chain3 fa fb fc g1 g2 r = .ok d r') : ∃ c, d = pB c := by
  obtain ⟨x, s1, e2, e3⟩ := bind_ok h
  obtain ⟨y, s2, e4, e5⟩ := bind_ok e3
  revert e5
  show (match x.dat s2, y.dat s2 with | some dx, some dy => _ | _, _ => _) = _ → _
  split
  · split
    · intro e5
      obtain ⟨z, s4, e7, e8⟩ := bind_ok e5
      revert e8
      show (match y.dat s4, z.dat s4 with | some dy2, some dz => _ | _, _ => _) = _ → _
      split
      · intro e8
        obtain ⟨e9, rfl⟩ := ofO_ok e8
        obtain ⟨c, _, rfl⟩ := Option.map_eq_some_iff.mp e9
        exact ⟨c, rfl⟩
      · intro e8; cases e8
    · intro e5; cases e5; exact ⟨false, rfl⟩
    · intro e5; cases e5
  · intro e5; cases e5
end
end Dl

set_option Elab.async false
set_option linter.all false
set_option maxRecDepth 100000
/-! chains, isinstance, ranges asked, built-ins by data -/
namespace Dl
open PySem PySem.Spec PyProof.Rows L2
section
variable {X : Cx}
theorem se_ch {a b c : Expr} {pos : Pos} {o1 o2 : Cm} {fa fb fc : Env → Res Arg} (h64 : X.A.units + 65 < cLine) (ha : SA X a fa) (hb : SA X b fb) (hc : SA X c fc) (hm : lastMarks [cmO o1, cmO o2] [b, c] = false) :
    SE X (.Compare a [cmO o1, cmO o2] [b, c] pos) (chain3 fa fb fc (cmpD o1) (cmpD o2)) := by
  refine pe_mo (pe_chain (opr_cmp h64 o1) (opr_cmp h64 o2) ha hb hc hm) fun σ H Q ⟨r, L, T, he, hs, d, r', e1, q⟩ => ?_
  obtain ⟨k, rfl⟩ := chain_pB e1
  exact chain_rd he hs e1 fun H' L' g1 g2 => q _ H' L' g1 (sep_bool _ g2)
theorem rG_mono {K : Fr} {g : PyData → PyData → Option D} {x y : V} {H : Hp} {Q Q' : VK} (h : rG K g x y H Q) (i : ∀ v H', Q v H' → Q' v H') : rG K g x y H Q' := by
  obtain ⟨dx, dy, c, M, e1, e2, e3, e4, q⟩ := h
  exact ⟨dx, dy, c, M, e1, e2, e3, e4, fun v H' k => i _ _ (q v H' k)⟩
theorem tA_mono {K : Fr} {f : Env → Res Arg} {σ : L2.St} {H : Hp} {Q Q' : VK} (h : tA K f σ H Q) (i : ∀ v H', Q v H' → Q' v H') : tA K f σ H Q' := by
  obtain ⟨r, L, T, he, hs, a, r', e1, q⟩ := h
  exact ⟨r, L, T, he, hs, a, r', e1, fun v H' L' E g1 g2 g3 => i _ _ (q v H' L' E g1 g2 g3)⟩
theorem sb_ch {a b c : Expr} {pos : Pos} {o1 o2 : Cm} {fa fb fc : Env → Res Arg} (h64 : X.A.units + 65 < cLine) (ha : SA X a fa) (hb : SA X b fb) (hc : SA X c fc) (hm : lastMarks [cmO o1, cmO o2] [b, c] = false) :
    SB X (.Compare a [cmO o1, cmO o2] [b, c] pos) (fun r => boolR (chain3 fa fb fc (cmpD o1) (cmpD o2) r)) := by
  refine pt_mo (pt_chain (opr_cmp h64 o1) (opr_cmp h64 o2) ha hb hc hm) fun σ H Q ⟨r, L, T, he, hs, d, r', e1, q⟩ => ?_
  have e2 := boolR_ok e1
  exact chain_rd (R := fun x H' => ∃ k, x = .bl k ∧ Q k H') he hs e2 fun H' L' g1 g2 => ⟨d, rfl, q H' L' g1 g2⟩

/-! ### isinstance -/
def tyN : Ty → String
  | .int => "int" | .bool => "bool" | .tuple => "tuple" | .list => "list" | .str => "str" | .dict => "dict"
theorem rd_ty {K : Fr} {H : Hp} {d : PyData} {v : V} (h : RdV K H d v) : ∃ T : String, TyX K H v (.type T) ∧ ∀ t : Ty, PySem.W.kitOne K (.type T) (.type (tyN t)) = some (isTy d t) := by
  cases d with
  | none => rw [rd_none h]; exact ⟨"NoneType", .base .non, fun t => kit_ty (by cases t <;> (dsimp only [isTy, tyN]; decide +kernel))⟩
  | bool b => rw [rd_bool h]; exact ⟨"bool", .base (.bl _), fun t => kit_ty (by cases t <;> (dsimp only [isTy, tyN]; decide +kernel))⟩
  | int i => rw [rd_int h]; exact ⟨"int", .base (.int _), fun t => kit_ty (by cases t <;> (dsimp only [isTy, tyN]; decide +kernel))⟩
  | str x => rw [rd_str h]; exact ⟨"str", .base (.str _), fun t => kit_ty (by cases t <;> (dsimp only [isTy, tyN]; decide +kernel))⟩
  | list ds =>
    obtain ⟨a, vs, rfl, f, r⟩ := rd_list h
    refine ⟨"list", ?_, fun t => kit_ty (by cases t <;> (dsimp only [isTy, tyN]; decide +kernel))⟩
    rcases f with (f | ⟨o, f⟩) | ⟨o, its, n, e, c, _⟩
    · exact .base (.lst f)
    · exact .base (.frz f)
    · exact .kList e c
  | tuple ds =>
    obtain ⟨a, vs, rfl, f, r⟩ := rd_tup h
    exact ⟨"tuple", .base (.tup f), fun t => kit_ty (by cases t <;> (dsimp only [isTy, tyN]; decide +kernel))⟩
  | dict ds => exact absurd (show Rep K H _ v from h) (by unfold Rep; exact id)
theorem boot_ty : ∀ t : Ty, bootBuiltins (Str.ofString (tyN t)) = some (.type (tyN t)) := by intro t; cases t <;> decide +kernel
theorem ty_ne : ∀ t : Ty, (Str.ofString (tyN t)) ≠ ("__name__" : Str) := by intro t; cases t <;> decide
theorem ty_nd : ∀ t : Ty, (Str.ofString (tyN t) == ("__debug__" : Str)) = false := by intro t; cases t <;> decide
theorem se_isT {a : Expr} {p p2 pos : Pos} {t : Ty} {fa : Env → Res Arg} (ha : SA X a fa) (g1 : Gl X "isinstance") (m1 : X.mg "isinstance" = none) (g2 : Gl X (Str.ofString (tyN t))) (m2 : X.mg (Str.ofString (tyN t)) = none)
    (hs : starEach (a :: [.Name (Str.ofString (tyN t)) p2]) X.env = (false, eval a X.env) :: starEach [.Name (Str.ofString (tyN t)) p2] X.env) : SE X (.Call (.Name "isinstance" p) [a, .Name (Str.ofString (tyN t)) p2] [] pos) (un1 fa (fun d => some (pB (isTy d t)))) := by
  refine se_un1 (r1 := fun x H Q => rIsi X.K [x, .ty (tyN t)] H Q) (pe_mo (pe_callB call_isi g1 m1 boot_isinstance (pa_cons ha (pa_cons (pe_bltn (v := .ty (tyN t)) g2 m2 (boot_ty t) (show L2.RelV (.ty (tyN t)) (.type (tyN t)) from rfl) (ty_ne t) (ty_nd t)) pa_nil) hs) (he := hs)) fun σ H Q h => h) fun dx c x H M Q hg hx hs q => ?_
  cases hg
  obtain ⟨T, h1, h2⟩ := rd_ty hx
  exact ⟨x, _, _, _, _, rfl, .ty _, h1, h2 t, q _ _ (sep_bool _ hs)⟩

/-! ### i in range(lo, hi) -/
theorem op_notin_rng : OpR X (compareOp .NotIn) (fun x y H Q => ∃ i a lo hi, x = V.int i ∧ y = V.ref a ∧ H a = some (.rng lo hi) ∧ Q (.bl (!decide (lo ≤ i ∧ i < hi))) H) := by
  intro pins s σ H x y v u Q I rx ry h
  obtain ⟨i, a, lo, hi, rfl, rfl, ha, q⟩ := h
  obtain ⟨k, rfl⟩ := rx
  obtain rfl : u = Value.ref a := ry
  obtain ⟨t1, t2, t3, ho⟩ := I.hok a _ ha
  show wpAny _ _ (do return Value.bool (!(← contains (Value.ref a) (Value.int i k)))) _ _ s
  refine wpAny_bind (wpAny_contains_slot (T := "range") ⟨_, ho, rfl⟩ F.slot_range_contains (call_meets F.slot_range_contains ⟨_, ho, rfl⟩ F.entry_range_contains (F.args_range_contains_2 _ _) (q_contains a lo hi i t1 t2 t3 k)
    ⟨ho, wpAny_truthy_bool (wpAny_pure ⟨.bl _, H, I, rfl, ?_⟩)⟩))
  rw [place1]
  exact q
theorem boot_range' : bootBuiltins "range" = some (.type "range") := by decide +kernel
theorem op_rng (neg : Bool) : OpR X (compareOp (if neg then .NotIn else .In)) (fun x y H Q => ∃ i a lo hi, x = V.int i ∧ y = V.ref a ∧ H a = some (.rng lo hi) ∧ Q (.bl (neg != decide (lo ≤ i ∧ i < hi))) H) := by
  cases neg with
  | true => intro pins s σ H x y v u Q I rx ry h; obtain ⟨i, a, lo, hi, e1, e2, e3, q⟩ := h; exact op_notin_rng pins s σ H x y v u Q I rx ry ⟨i, a, lo, hi, e1, e2, e3, by simpa using q⟩
  | false => intro pins s σ H x y v u Q I rx ry h; obtain ⟨i, a, lo, hi, e1, e2, e3, q⟩ := h; exact op_in_rng pins s σ H x y v u Q I rx ry ⟨i, a, lo, hi, e1, e2, e3, by simpa using q⟩
theorem inR_rd {neg : Bool} {dx dy dz : PyData} {c : D} {x y z : V} {H : Hp} {M : List (V × D)} {Q : VK} (hg : inRD neg dx dy dz = some c) (hx : RdV X.K H dx x) (hy : RdV X.K H dy y) (hz : RdV X.K H dz z) (hs : Sep X.K H M) (q : ∀ v H', Sep X.K H' ((v, c) :: M) → Q v H') :
    ∃ i j, [y, z] = [V.int i, V.int j] ∧ ∀ p, H p = none → ∃ k a lo hi, x = V.int k ∧ V.ref p = V.ref a ∧ (upd H p (.rng i j)) a = some (.rng lo hi) ∧ Q (.bl (neg != decide (lo ≤ k ∧ k < hi))) (upd H p (.rng i j)) := by
  cases dx <;> cases dy <;> cases dz <;> first | (cases hg; done) | skip
  cases hg
  exact ⟨_, _, by rw [rd_int hy, rd_int hz], fun p hp => ⟨_, p, _, _, rd_int hx, rfl, upd_same, q _ _ (sep_bool _ (hs.laid hp))⟩⟩
theorem pa_two {b c : Expr} {tb tc : TE} (hb : PE X b tb) (hc : PE X c tc) (h1 : starEach (b :: [c]) X.env = (false, eval b X.env) :: starEach [c] X.env) (h2 : starEach (c :: []) X.env = (false, eval c X.env) :: starEach [] X.env) : PA X [b, c] (tCons tb (tCons tc tNil)) :=
  pa_cons hb (pa_cons hc pa_nil h2) h1
theorem plus_two {pos : Pos} {c : Expr} (h2 : starEach (c :: []) X.env = (false, eval c X.env) :: starEach [] X.env) : (backTo pos (starEach [c] X.env)).any (·.1) = false := by rw [h2]; rfl
theorem se_inR {a b c : Expr} {p pos pos2 : Pos} {neg : Bool} {fa fb fc : Env → Res Arg} (ha : SA X a fa) (hb : SA X b fb) (hc : SA X c fc) (g : Gl X "range") (m : X.mg "range" = none)
    (h1 : starEach (b :: [c]) X.env = (false, eval b X.env) :: starEach [c] X.env) (h2 : starEach (c :: []) X.env = (false, eval c X.env) :: starEach [] X.env) :
    SE X (.Compare a [if neg then .NotIn else .In] [.Call (.Name "range" p) [b, c] [] pos2] pos) (tri3 fa fb fc (inRD neg)) := by
  refine se_tri3 (r3 := fun x y z H Q => ∃ i j, [y, z] = [V.int i, V.int j] ∧ ∀ p, H p = none → ∃ k a lo hi, x = V.int k ∧ V.ref p = V.ref a ∧ (upd H p (.rng i j)) a = some (.rng lo hi) ∧ Q (.bl (neg != decide (lo ≤ k ∧ k < hi))) (upd H p (.rng i j)))
    (pe_mo (pe_cmpR (op_rng neg) ha (pe_callTy cr_range2 g m boot_range' (pa_two hb hc h1 h2) (he := h1) (hpl := plus_two h2)) (by cases neg <;> rfl)) fun σ H Q h => h) fun dx dy dz c x y z H M Q hg hx hy hz hs q => inR_rd hg hx hy hz hs q
theorem sb_inR {a b c : Expr} {p pos pos2 : Pos} {neg : Bool} {fa fb fc : Env → Res Arg} (ha : SA X a fa) (hb : SA X b fb) (hc : SA X c fc) (g : Gl X "range") (m : X.mg "range" = none)
    (h1 : starEach (b :: [c]) X.env = (false, eval b X.env) :: starEach [c] X.env) (h2 : starEach (c :: []) X.env = (false, eval c X.env) :: starEach [] X.env) :
    SB X (.Compare a [if neg then .NotIn else .In] [.Call (.Name "range" p) [b, c] [] pos2] pos) (fun r => boolR (tri3 fa fb fc (inRD neg) r)) := by
  refine pt_mo (pt_cmpR (op_rng neg) ha (pe_callTy cr_range2 g m boot_range' (pa_two hb hc h1 h2) (he := h1) (hpl := plus_two h2)) (by cases neg <;> rfl)) fun σ H Q ⟨r, L, T, he, hs, d, r', e1, q⟩ => ?_
  obtain ⟨x, s1, e2, e3⟩ := bind_ok (boolR_ok e1)
  obtain ⟨y, s2, e4, e5⟩ := bind_ok e3
  obtain ⟨z, s3, e6, e7⟩ := bind_ok e5
  have e7 : (match x.dat s3, y.dat s3, z.dat s3 with | some dx, some dy, some dz => ofO (inRD neg dx dy dz) s3 | _, _, _ => .bad) = .ok (pB d) r' := e7
  split at e7
  · rename_i dx dy dz hx hy hz
    obtain ⟨e8, rfl⟩ := ofO_ok e7
    refine ⟨r, L, T, he, hs, x, s1, e2, fun v H1 L1 E1 g1 g2 g3 => ?_⟩
    refine ⟨s1, L1, E1 ++ T, g1, g3.perm ?_, y, s2, e4, fun u H2 L2 E2 k1 k2 k3 => ?_⟩
    · rw [← List.append_assoc, ← List.append_assoc]
      exact List.perm_append_comm.append_right T
    refine ⟨s2, L2, E2 ++ (E1 ++ T), k1, k3.perm ?_, z, r', e6, fun w H3 L3 E3 m1 m2 m3 => ?_⟩
    · rw [← List.append_assoc, ← List.append_assoc (as := L2)]
      exact List.perm_append_comm.append_right _
    · obtain ⟨i, j, f1, f2⟩ := inR_rd (X := X) (Q := fun x H' => ∃ k, x = .bl k ∧ Q k H') e8 (arg_rd m1 g2 hx m3 (fun y hy => by simp [hy]) (fun y hy => by simp [hy])) (arg_rd m1 k2 hy m3 (fun y hy => by simp [hy]) (fun y hy => by simp [hy])) (arg_rd m1 m2 hz m3 (fun y hy => by simp [hy]) (fun y hy => by simp [hy])) m3 (fun w H' k => ⟨d, (k.head_p).bool, q H' L3 m1 (k.tail.sub (by
        refine List.Sublist.trans ?_ (List.sublist_append_right _ _)
        refine List.Sublist.append (List.Sublist.refl _) ?_
        exact (List.sublist_append_right _ _).trans (List.sublist_append_right _ _)))⟩)
      exact ⟨i, j, f1, f2⟩
  · cases e7

/-! ### built-ins -/
def RdVs (K : Fr) (H : Hp) : List PyData → List V → Prop
  | [], vs => vs = []
  | d :: ds, vs => ∃ v r, vs = v :: r ∧ RdV K H d v ∧ RdVs K H ds r
theorem args_rd {K : Fr} {σ : L2.St} {r : Env} {L M : List (V × D)} {H : Hp} (he : EnvR σ r L) (hs : Sep K H M) (hL : ∀ y ∈ L, y ∈ M) : ∀ {as : List Arg} {vs : List V} {E : List (V × D)} {ds : List PyData}, ArgsR σ as vs E → datsOf r as = some ds → (∀ y ∈ E, y ∈ M) → RdVs K H ds vs
  | [], vs, E, ds, ha, hd, hE => by
    cases hd
    obtain ⟨rfl, rfl⟩ := ha
    rfl
  | a :: as, vs, E, ds, ha, hd, hE => by
    unfold datsOf at hd
    obtain ⟨d, e1, e2⟩ := Option.bind_eq_some_iff.mp hd
    obtain ⟨ds', e3, rfl⟩ := Option.map_eq_some_iff.mp e2
    obtain ⟨v, vs', E1, E2, rfl, rfl, h1, h2⟩ := ha
    exact ⟨v, vs', rfl, arg_rd he h1 e1 hs (fun y hy => hE y (by simp [hy])) hL, args_rd he hs hL h2 e3 fun y hy => hE y (by simp [hy])⟩
def biR (b : Bi) (f : Env → Res (List Arg)) (r : Env) : Res D := (f r).bind fun as r1 => match datsOf r1 as with
  | some ds => ofO (biD b ds) r1
  | none => .bad
def rBi (K : Fr) (b : Bi) : List V → Hp → VK → Prop := fun vs H Q => ∃ ds c M, biD b ds = some c ∧ RdVs K H ds vs ∧ Sep K H M ∧ ∀ v H', Sep K H' ((v, c) :: M) → Q v H'
theorem se_biR {e : Expr} {b : Bi} {f : Env → Res (List Arg)} (h : PE X e (fun σ H Q => tAs X.K f σ H fun vs H1 => rBi X.K b vs H1 Q)) : SE X e (biR b f) := by
  refine pe_mo h fun σ H Q ⟨r, L, T, he, hs, c, r', e1, q⟩ => ?_
  obtain ⟨as, s1, e2, e3⟩ := bind_ok e1
  have e3 : (match datsOf s1 as with | some ds => ofO (biD b ds) s1 | none => .bad) = .ok c r' := e3
  split at e3
  · rename_i ds hd
    obtain ⟨e4, rfl⟩ := ofO_ok e3
    refine ⟨r, L, T, he, hs, as, r', e2, fun vs H1 L1 E1 g1 g2 g3 => ?_⟩
    refine ⟨ds, c, _, e4, args_rd g1 g3 (fun y hy => by simp [hy]) g2 hd (fun y hy => by simp [hy]), g3, fun w H' k => q w H' L1 g1 (k.sub ?_)⟩
    exact (List.sublist_append_right _ _).cons_cons _
  · cases e3
theorem rd1 {K : Fr} {H : Hp} {d : PyData} {vs : List V} (h : RdVs K H [d] vs) : ∃ v, vs = [v] ∧ RdV K H d v := by
  obtain ⟨v, r, rfl, h1, h2⟩ := h
  have : r = [] := h2
  subst this
  exact ⟨v, rfl, h1⟩
theorem rd2 {K : Fr} {H : Hp} {d e : PyData} {vs : List V} (h : RdVs K H [d, e] vs) : ∃ v u, vs = [v, u] ∧ RdV K H d v ∧ RdV K H e u := by
  obtain ⟨v, r, rfl, h1, h2⟩ := h
  obtain ⟨u, rfl, h3⟩ := rd1 h2
  exact ⟨v, u, rfl, h1, h3⟩
theorem rd_seq {K : Fr} {H : Hp} {d : PyData} {xs : List PyData} {v : V} (h : RdV K H d v) (e : seqOf d = some xs) : ∃ a vs, v = .ref a ∧ (SqL K H a vs ∨ SqT K H a vs) ∧ Reps K H xs vs := by
  cases d <;> first | (cases e; done) | skip
  · cases e
    obtain ⟨a, vs, rfl, f, r⟩ := rd_list h
    exact ⟨a, vs, rfl, .inl f, r⟩
  · cases e
    obtain ⟨a, vs, rfl, f, r⟩ := rd_tup h
    exact ⟨a, vs, rfl, .inr (SqT.of f), r⟩
theorem arg1_ok {f : PyData → Option D} {ds : List PyData} {c : D} (h : arg1 f ds = some c) : ∃ d, ds = [d] ∧ f d = some c := by
  unfold arg1 at h
  split at h
  · exact ⟨_, rfl, h⟩
  · cases h
theorem arg2_ok {f : PyData → PyData → Option D} {ds : List PyData} {c : D} (h : arg2 f ds = some c) : ∃ d e, ds = [d, e] ∧ f d e = some c := by
  unfold arg2 at h
  split at h
  · exact ⟨_, _, rfl, h⟩
  · cases h
theorem onInt_ok {f : Int → Option D} {d : PyData} {c : D} (h : onInt f d = some c) : ∃ i, d = .int i ∧ f i = some c := by
  unfold onInt at h
  split at h
  · exact ⟨_, rfl, h⟩
  · cases h
theorem onInt2_ok {f : Int → Int → Option D} {d e : PyData} {c : D} (h : onInt2 f d e = some c) : ∃ i j, d = .int i ∧ e = .int j ∧ f i j = some c := by
  unfold onInt2 at h
  split at h
  · exact ⟨_, _, rfl, rfl, h⟩
  · cases h
theorem onInts_ok {f : List Int → Option D} {d : PyData} {c : D} (h : onInts f d = some c) : ∃ ns, d = .list (ns.map .int) ∧ f ns = some c := by
  unfold onInts at h
  split at h
  · obtain ⟨ns, e1, e2⟩ := Option.bind_eq_some_iff.mp h
    exact ⟨ns, by rw [ints_map e1], e2⟩
  · cases h
theorem onBools_ok {f : List Bool → Option D} {d : PyData} {c : D} (h : onBools f d = some c) : ∃ ns, d = .list (ns.map .bool) ∧ f ns = some c := by
  unfold onBools at h
  split at h
  · obtain ⟨ns, e1, e2⟩ := Option.bind_eq_some_iff.mp h
    exact ⟨ns, by rw [bools_map e1], e2⟩
  · cases h
theorem rd_ints {K : Fr} {H : Hp} {ns : List Int} {v : V} (h : RdV K H (.list (ns.map .int)) v) : ∃ a, v = .ref a ∧ SqL K H a (ns.map V.int) := by
  obtain ⟨a, ws, rfl, f, r2⟩ := rd_list h
  rw [reps_ints r2] at f
  exact ⟨a, rfl, f⟩
theorem rd_bools {K : Fr} {H : Hp} {ns : List Bool} {v : V} (h : RdV K H (.list (ns.map .bool)) v) : ∃ a, v = .ref a ∧ SqL K H a (ns.map V.bl) := by
  obtain ⟨a, ws, rfl, f, r2⟩ := rd_list h
  rw [reps_bools r2] at f
  exact ⟨a, rfl, f⟩
theorem cr_len : CallR X (.builtin "len") (rBi X.K .len) := by
  intro pins s σ H vs us Q I r ⟨ds, c, M, hg, hd, hs, q⟩
  obtain ⟨d, rfl, hg1⟩ := arg1_ok hg
  obtain ⟨v, rfl, hv⟩ := rd1 hd
  obtain ⟨n, e1, rfl⟩ := Option.map_eq_some_iff.mp hg1
  have : ∃ a ws, v = .ref a ∧ (SqL X.K H a ws ∨ SqT X.K H a ws) ∧ ws.length = n := by
    cases d <;> first | (cases e1; done) | skip
    · cases e1
      obtain ⟨a, ws, rfl, f, r⟩ := rd_list hv
      exact ⟨a, ws, rfl, .inl f, r.length⟩
    · cases e1
      obtain ⟨a, ws, rfl, f, r⟩ := rd_tup hv
      exact ⟨a, ws, rfl, .inr (SqT.of f), r.length⟩
  obtain ⟨a, ws, rfl, f, rfl⟩ := this
  exact call_len_seq pins s σ H _ us Q I r ⟨a, ws, rfl, f, q _ _ (sep_int _ hs)⟩
theorem cr_tuple : CallR X (.type "tuple") (rBi X.K .tuple) := by
  intro pins s σ H vs us Q I r ⟨ds, c, M, hg, hd, hs, q⟩
  obtain ⟨d, rfl, hg1⟩ := arg1_ok hg
  obtain ⟨v, rfl, hv⟩ := rd1 hd
  obtain ⟨xs, e1, rfl⟩ := Option.map_eq_some_iff.mp hg1
  cases d <;> first | (cases e1; done) | skip
  · cases e1
    obtain ⟨a, ws, rfl, f, r2⟩ := rd_list hv
    exact call_tuple_of pins s σ H _ us Q I r ⟨a, ws, rfl, .inl ⟨f, fun p hp => q _ _ (hs.new_tup hp r2)⟩⟩
  · cases e1
    obtain ⟨a, ws, rfl, f, r2⟩ := rd_tup hv
    exact call_tuple_of pins s σ H _ us Q I r ⟨a, ws, rfl, .inr ⟨SqT.of f, q _ _ (Sep.cons_p (.of_tuple f r2) hs)⟩⟩
theorem cr_list : CallR X (.type "list") (rBi X.K .list) := by
  intro pins s σ H vs us Q I r ⟨ds, c, M, hg, hd, hs, q⟩
  obtain ⟨d, rfl, hg1⟩ := arg1_ok hg
  obtain ⟨v, rfl, hv⟩ := rd1 hd
  obtain ⟨xs, e1, rfl⟩ := Option.map_eq_some_iff.mp hg1
  obtain ⟨a, ws, rfl, f, r2⟩ := rd_seq hv e1
  exact call_list_of pins s σ H _ us Q I r ⟨a, ws, rfl, f, fun p hp => q _ _ (hs.new_lst hp r2)⟩
theorem cr_abs : CallR X (.builtin "abs") (rBi X.K .abs) := by
  intro pins s σ H vs us Q I r ⟨ds, c, M, hg, hd, hs, q⟩
  obtain ⟨d, rfl, hg1⟩ := arg1_ok hg
  obtain ⟨v, rfl, hv⟩ := rd1 hd
  obtain ⟨i, rfl, hg2⟩ := onInt_ok hg1
  cases hg2
  exact call_abs pins s σ H _ us Q I r ⟨i, by rw [rd_int hv], q _ _ (sep_int _ hs)⟩
theorem cr_int : CallR X (.type "int") (rBi X.K .int) := by
  intro pins s σ H vs us Q I r ⟨ds, c, M, hg, hd, hs, q⟩
  obtain ⟨d, rfl, hg1⟩ := arg1_ok hg
  obtain ⟨v, rfl, hv⟩ := rd1 hd
  unfold intD at hg1
  split at hg1
  · cases hg1
    exact call_int1 pins s σ H _ us Q I r (.inl ⟨_, by rw [rd_int hv], q _ _ (sep_int _ hs)⟩)
  · cases hg1
    exact call_int1 pins s σ H _ us Q I r (.inr ⟨_, by rw [rd_bool hv], q _ _ (sep_int _ hs)⟩)
  · cases hg1
theorem cr_str : CallR X (.type "str") (rBi X.K .str) := by
  intro pins s σ H vs us Q I r ⟨ds, c, M, hg, hd, hs, q⟩
  obtain ⟨d, rfl, hg1⟩ := arg1_ok hg
  obtain ⟨v, rfl, hv⟩ := rd1 hd
  obtain ⟨i, rfl, hg2⟩ := onInt_ok hg1
  split at hg2
  · rename_i hz
    cases hg2
    exact call_str_int pins s σ H _ us Q I r ⟨i, by rw [rd_int hv], hz, q _ _ (Sep.cons_p (.of_str _) hs)⟩
  · cases hg2
theorem cr_repr (hg0 : X.A.guards = some []) (h66 : X.A.units + 66 < cLine) : CallR X (.builtin "repr") (rBi X.K .repr) := by
  intro pins s σ H vs us Q I r ⟨ds, c, M, hg, hd, hs, q⟩
  obtain ⟨d, rfl, hg1⟩ := arg1_ok hg
  obtain ⟨v, rfl, hv⟩ := rd1 hd
  obtain ⟨u, rfl, ru⟩ := vals1 r
  split at hg1
  · rename_i hz
    cases hg1
    unfold reprOk at hz
    obtain ⟨z1, z4⟩ := Bool.and_eq_true_iff.mp hz
    obtain ⟨z1, z3⟩ := Bool.and_eq_true_iff.mp z1
    obtain ⟨z1, z2⟩ := Bool.and_eq_true_iff.mp z1
    have z2 : d.hasDict = false := by simpa using z2
    have z3 := of_decide_eq_true z3
    have z4 := of_decide_eq_true z4
    obtain ⟨as, rr⟩ := Dp.reads I d v u (rd_dp hv) ru
    have fin : ∀ {s' : Shared} {t : Tok}, Inv X pins σ H s' → EP X pins σ Q (.str d.shown t) s' := fun {s' t} J => ⟨.str d.shown, H, J, ⟨t, rfl⟩, q _ _ (Sep.cons_p (.of_str _) hs)⟩
    cases rr with
    | none => exact P.repr_of_none (by have := fin (t := s.toks) (I.tok (s.toks + 1)); simpa [PyData.shown] using this)
    | bool b => exact P.repr_of_bool (by have := fin (t := s.toks) (I.tok (s.toks + 1)); simpa [PyData.shown] using this)
    | int i t => exact P.repr_of_int (by simpa [PyData.showable] using z1) (by have := fin (t := s.toks) (I.tok (s.toks + 1)); simpa [PyData.shown] using this)
    | str x t => exact P.repr_of_str (by have := fin (t := s.toks) (I.tok (s.toks + 1)); simpa [PyData.shown] using this) (by simpa [PyData.shown] using z4)
    | list h1 h2 h3 h4 => exact repr_of_reads' (.list h1 h2 h3 h4) z1 (fun h => absurd h (by rw [z2]; exact Bool.false_ne_true)) hg0 (by omega) (fun _ _ e => e) (fun h' u tk k => fin (I.kept k)) z4
    | tuple h1 h2 h3 h4 => exact repr_of_reads' (.tuple h1 h2 h3 h4) z1 (fun h => absurd h (by rw [z2]; exact Bool.false_ne_true)) hg0 (by omega) (fun _ _ e => e) (fun h' u tk k => fin (I.kept k)) z4
    | dict h1 h2 h3 h4 h5 => exact absurd z2 (by simp [PyData.hasDict])
  · cases hg1
theorem fmin : ∀ (ns : List Int) (x : Int), ns.foldl min x ≤ x ∧ (∀ y ∈ ns, ns.foldl min x ≤ y) ∧ (ns.foldl min x = x ∨ ns.foldl min x ∈ ns)
  | [], x => ⟨Int.le_refl _, (fun y hy => by cases hy), Or.inl rfl⟩
  | z :: ns, x => by
    obtain ⟨h1, h2, h3⟩ := fmin ns (min x z)
    rw [List.foldl_cons]
    refine ⟨by omega, fun y hy => ?_, ?_⟩
    · rcases List.mem_cons.mp hy with rfl | hy
      · omega
      · exact h2 y hy
    · rcases h3 with h3 | h3
      · by_cases hxz : x ≤ z
        · left; omega
        · right; rw [h3]; have : min x z = z := by omega
          rw [this]; simp
      · right; simp [h3]
theorem fmax : ∀ (ns : List Int) (x : Int), x ≤ ns.foldl max x ∧ (∀ y ∈ ns, y ≤ ns.foldl max x) ∧ (ns.foldl max x = x ∨ ns.foldl max x ∈ ns)
  | [], x => ⟨Int.le_refl _, (fun y hy => by cases hy), Or.inl rfl⟩
  | z :: ns, x => by
    obtain ⟨h1, h2, h3⟩ := fmax ns (max x z)
    rw [List.foldl_cons]
    refine ⟨by omega, fun y hy => ?_, ?_⟩
    · rcases List.mem_cons.mp hy with rfl | hy
      · omega
      · exact h2 y hy
    · rcases h3 with h3 | h3
      · by_cases hxz : z ≤ x
        · left; omega
        · right; rw [h3]; have : max x z = z := by omega
          rw [this]; simp
      · right; simp [h3]
theorem least_min {ns : List Int} {m : Int} (h : least ns = some m) : m ∈ ns ∧ ∀ y ∈ ns, m ≤ y := by
  cases ns with
  | nil => cases h
  | cons x ns =>
    obtain rfl : ns.foldl min x = m := Option.some.inj h
    obtain ⟨h1, h2, h3⟩ := fmin ns x
    refine ⟨?_, fun y hy => ?_⟩
    · rcases h3 with h3 | h3
      · rw [h3]; simp
      · simp [h3]
    · rcases List.mem_cons.mp hy with rfl | hy
      · exact h1
      · exact h2 y hy
theorem most_max {ns : List Int} {m : Int} (h : most ns = some m) : m ∈ ns ∧ ∀ y ∈ ns, y ≤ m := by
  cases ns with
  | nil => cases h
  | cons x ns =>
    obtain rfl : ns.foldl max x = m := Option.some.inj h
    obtain ⟨h1, h2, h3⟩ := fmax ns x
    refine ⟨?_, fun y hy => ?_⟩
    · rcases h3 with h3 | h3
      · rw [h3]; simp
      · simp [h3]
    · rcases List.mem_cons.mp hy with rfl | hy
      · exact h1
      · exact h2 y hy
theorem cr_min1 (hc : X.calm = true) : CallR X (.builtin "min") (rBi X.K .min1) := by
  intro pins s σ H vs us Q I r ⟨ds, c, M, hg, hd, hs, q⟩
  obtain ⟨d, rfl, hg1⟩ := arg1_ok hg
  obtain ⟨v, rfl, hv⟩ := rd1 hd
  obtain ⟨ns, rfl, hg2⟩ := onInts_ok hg1
  obtain ⟨m, e3, rfl⟩ := Option.map_eq_some_iff.mp hg2
  obtain ⟨a, rfl, f⟩ := rd_ints hv
  obtain ⟨g1, g2⟩ := least_min e3
  refine L2.cr_min hc pins s σ H _ us Q I r ⟨a, ns, rfl, f, List.length_pos_of_mem g1, fun m' k1 k2 => ?_⟩
  have : m' = m := by have := k2 m g1; have := g2 m' k1; omega
  rw [this]
  exact q _ _ (sep_int _ hs)
theorem cr_max1 (hc : X.calm = true) : CallR X (.builtin "max") (rBi X.K .max1) := by
  intro pins s σ H vs us Q I r ⟨ds, c, M, hg, hd, hs, q⟩
  obtain ⟨d, rfl, hg1⟩ := arg1_ok hg
  obtain ⟨v, rfl, hv⟩ := rd1 hd
  obtain ⟨ns, rfl, hg2⟩ := onInts_ok hg1
  obtain ⟨m, e3, rfl⟩ := Option.map_eq_some_iff.mp hg2
  obtain ⟨a, rfl, f⟩ := rd_ints hv
  obtain ⟨g1, g2⟩ := most_max e3
  refine L2.cr_max hc pins s σ H _ us Q I r ⟨a, ns, rfl, f, List.length_pos_of_mem g1, fun m' k1 k2 => ?_⟩
  have : m' = m := by have := k2 m g1; have := g2 m' k1; omega
  rw [this]
  exact q _ _ (sep_int _ hs)
theorem cr_min2 (hc : X.calm = true) : CallR X (.builtin "min") (rBi X.K .min2) := by
  intro pins s σ H vs us Q I r ⟨ds, c, M, hg, hd, hs, q⟩
  obtain ⟨d, e, rfl, hg1⟩ := arg2_ok hg
  obtain ⟨v, u, rfl, h1, h2⟩ := rd2 hd
  obtain ⟨i, j, rfl, rfl, hg2⟩ := onInt2_ok hg1
  cases hg2
  exact call_min2 hc pins s σ H _ us Q I r ⟨i, j, by rw [rd_int h1, rd_int h2], q _ _ (sep_int _ hs)⟩
theorem cr_max2 (hc : X.calm = true) : CallR X (.builtin "max") (rBi X.K .max2) := by
  intro pins s σ H vs us Q I r ⟨ds, c, M, hg, hd, hs, q⟩
  obtain ⟨d, e, rfl, hg1⟩ := arg2_ok hg
  obtain ⟨v, u, rfl, h1, h2⟩ := rd2 hd
  obtain ⟨i, j, rfl, rfl, hg2⟩ := onInt2_ok hg1
  cases hg2
  exact call_max2 hc pins s σ H _ us Q I r ⟨i, j, by rw [rd_int h1, rd_int h2], q _ _ (sep_int _ hs)⟩
theorem cr_allB (hc : X.calm = true) : CallR X (.builtin "all") (rBi X.K .all) := by
  intro pins s σ H vs us Q I r ⟨ds, c, M, hg, hd, hs, q⟩
  obtain ⟨d, rfl, hg1⟩ := arg1_ok hg
  obtain ⟨v, rfl, hv⟩ := rd1 hd
  obtain ⟨ns, rfl, hg2⟩ := onBools_ok hg1
  cases hg2
  obtain ⟨a, rfl, f⟩ := rd_bools hv
  exact L2.cr_all hc pins s σ H _ us Q I r ⟨a, ns, rfl, f, q _ _ (sep_bool _ hs)⟩
theorem cr_anyB (hc : X.calm = true) : CallR X (.builtin "any") (rBi X.K .any) := by
  intro pins s σ H vs us Q I r ⟨ds, c, M, hg, hd, hs, q⟩
  obtain ⟨d, rfl, hg1⟩ := arg1_ok hg
  obtain ⟨v, rfl, hv⟩ := rd1 hd
  obtain ⟨ns, rfl, hg2⟩ := onBools_ok hg1
  cases hg2
  obtain ⟨a, rfl, f⟩ := rd_bools hv
  exact L2.cr_any hc pins s σ H _ us Q I r ⟨a, ns, rfl, f, q _ _ (sep_bool _ hs)⟩
theorem cr_sumB (hc : X.calm = true) : CallR X (.builtin "sum") (rBi X.K .sum) := by
  intro pins s σ H vs us Q I r ⟨ds, c, M, hg, hd, hs, q⟩
  obtain ⟨d, rfl, hg1⟩ := arg1_ok hg
  obtain ⟨v, rfl, hv⟩ := rd1 hd
  obtain ⟨ns, rfl, hg2⟩ := onInts_ok hg1
  cases hg2
  obtain ⟨a, rfl, f⟩ := rd_ints hv
  exact L2.cr_sum hc pins s σ H _ us Q I r ⟨a, ns, rfl, f, q _ _ (sep_int _ hs)⟩
end
end Dl

set_option Elab.async false
set_option linter.all false
set_option maxRecDepth 100000
/-! sorted, sorted(set(..)) by data -/
namespace Dl
open PySem PySem.Spec PyProof.Rows L2
abbrev emptyS (led : Bool) : Obj := { cls := .type "set", dict := none, data := .set #[] 0 (.fresh 0 0 led) }
section
variable {P : Program} {w : World} {A : Around} {E : Value → Shared → Prop} {s : Shared}
set_option maxHeartbeats 3200000 in
/-- set(l), l a list of ints: with what its walk wants to know -/
theorem set_of_ints {l : Addr} {its : Array Value} (ns : List Int) {Q : Value → Shared → Prop} (hh : A.handled = none) (gl : s.heap.IsList l its) (gi : IntsAre its.toList ns) (few : ns.length + 1 < scanBound)
    (fin : ∀ (g : Heap) (t c : Nat), SetR w g s.heap.objs.size (fun j => decide (j ∈ ns)) c → c ≤ ns.length → (∀ b o, s.heap.get? b = some o → g.get? b = some o) → Q (.ref s.heap.objs.size) { s with heap := g, toks := t }) :
    wpAny (model P w) A (call (.type "set") [.ref l]) Q E s := by
  have gsz : its.size = ns.length := by have q := IntsAre.length gi; rwa [Array.length_toList] at q
  obtain ⟨mc, mt, mro⟩ := F.called_set.mro
  have m1 := F.called_set.made; have m2 := F.called_set.sub; have m3 := F.called_set.notType; have m4 := F.called_set.canCreate; have m5 := F.typeCall_set_1 (.ref l)
  refine wpAny_call (codeAny_of_tree (show wpAny _ _ (callAny (.type "set") _) _ _ _ from wpAny_pure ⟨Code.quiet_builtin _ (by decide +kernel), codeAny_builtin F.entry_type_call ?_⟩))
  rw [Around.under_plain (weight_type_call_type "set" [.ref l] []) rfl]
  repeat (any_goals (first | assumption | wp_step))
  generalize hled : (!w.params.followText "set-order") = led
  refine codeAny_mono (code_set_led1 (.ref l) (E := E) (Q₁ := fun x s2 => x = .ref s.heap.objs.size ∧ s2 = { s with heap := s.heap.push (emptyS led) }) (by rw [hled]; exact ⟨rfl, rfl⟩)) fun r s1 hr => ?_
  match r, hr with
  | .error e, hr => exact hr
  | .ok .next, hr => exact hr.elim
  | .ok .brk, hr => exact hr.elim
  | .ok .cont, hr => exact hr.elim
  | .ok (.ret x), ⟨e1, e2⟩ =>
    subst e1 e2
    have at0 : (s.heap.push (emptyS led)).get? s.heap.objs.size = some (emptyS led) := Heap.get?_push_size _ rfl
    have tyS : Shared.TypeIs { s with heap := s.heap.push (emptyS led) } (.ref s.heap.objs.size) "set" := ⟨_, at0, rfl⟩
    have i1 := F.called_set.init.lookup; have i2 := F.called_set.init.bind (.ref s.heap.objs.size)
    repeat (any_goals (first | assumption | wp_step))
    refine codeAny_mono (codeAny_call_builtin (R := wants (fun r s2 => r = .none ∧ ∃ g t c, s2 = { s with heap := g, toks := t } ∧ SetR w g s.heap.objs.size (fun j => decide (j ∈ ns)) c ∧ c ≤ ns.length ∧ (∀ b o, s.heap.get? b = some o → g.get? b = some o)) E)
      F.called_set.init.plain F.entry_set_init (check_set_init_1 tyS ?_)) fun r2 s2 hr2 => ?_
    · obtain ⟨⟨oc, od, oa, os⟩, ho, hc, k, hd⟩ := gl
      simp only at hc hd
      subst hc hd
      have ho2 : (s.heap.push (emptyS led)).get? l = some ⟨.type "list", od, .seq its k, os⟩ := Heap.get?_push_of_some _ ho
      have u1 := F.sub_list_set; have u2 := F.sub_list_frozenset; have u3 : (Value.type "list" == Value.type "dict") = false := by decide
      have gl2 : (s.heap.push (emptyS led)).IsList l its := ⟨_, ho2, rfl, k, rfl⟩
      unfold Builtin.«set.__init__» noKeywords Builtin.Frozenset.updateFrom
      generalize hPI : pyIter = PI
      wp_walk
      subst hPI
      refine wpAny_pyIter_list gl2 (wpAny_bind (wpAny_runValue ?_))
      have lt0 : l < s.heap.objs.size := Heap.lt_size ho
      have calm3 : A.in1.in1.in1.handled = none := by simp [hh]
      have ne1 : l ≠ (s.heap.push (emptyS led)).objs.size := by rw [Heap.size_push]; exact Nat.ne_of_lt (Nat.lt_succ_of_lt lt0)
      have ne2 : s.heap.objs.size ∉ [(s.heap.push (emptyS led)).objs.size, l] := by rw [Heap.size_push]; simp only [List.mem_cons, List.not_mem_nil, or_false, not_or]; exact ⟨Nat.ne_of_lt (Nat.lt_succ_self _), Nat.ne_of_gt lt0⟩
      have vals : ∀ (i : Nat) (v : Value), its[i]? = some v → ∃ j t, ns[i]? = some j ∧ v = .int j t := fun i v hv => by
        have lt : i < ns.length := by rw [← gsz]; exact (Array.getElem?_eq_some_iff.mp hv).1
        obtain ⟨t, e⟩ := PyProof.Rows.IntsAre.int_at gi i v (by rw [Array.getElem?_toList]; exact hv)
        exact ⟨ns[i], t, List.getElem?_eq_getElem lt, by rw [e, List.getD_eq_getElem?_getD, List.getElem?_eq_getElem lt]; rfl⟩
      refine set_update_ints ((Walks.list calm3 _ l ne1 its).toS) s.heap.objs.size ne2 ns gsz few vals (its.size - 0) 0 _ (by omega) (Nat.zero_le _) ⟨⟨_, Heap.get?_push_size _ rfl, rfl, rfl⟩, gl2.push _⟩ ?first ?last
      case first =>
        refine ⟨0, Nat.le_refl 0, setR_new_at ?_⟩
        rw [hled]
        exact Heap.get?_push_of_some _ at0
      case last =>
        rintro ⟨g, gg, gd, gt, go⟩ c mv hc' hS
        obtain rfl : gg = s.gens := mv.gens
        obtain rfl : gd = s.drawn := mv.drawn
        obtain rfl : go = s.os := mv.os
        refine wpAny_pure (show wpAny _ _ (ret Value.none) _ _ _ from wpAny_pure ⟨rfl, g, gt, c, rfl, hS, by rw [gsz] at hc'; exact hc', fun b o e => ?_⟩)
        have b0 := Heap.lt_size e
        refine mv.heap b o (fun hm => ?_) (Heap.get?_push_of_some _ (Heap.get?_push_of_some _ e))
        rw [Heap.size_push] at hm
        simp only [List.mem_cons, List.not_mem_nil, or_false] at hm
        rcases hm with e1 | e1
        · exact Nat.ne_of_lt b0 e1
        · exact Nat.ne_of_lt (Nat.lt_succ_of_lt b0) e1
    · match r2, hr2 with
      | .error e, hr2 => exact hr2
      | .ok .next, hr2 => exact hr2.elim
      | .ok .brk, hr2 => exact hr2.elim
      | .ok .cont, hr2 => exact hr2.elim
      | .ok (.ret v), hr2 =>
        obtain ⟨rfl, g, t, c, rfl, k1, k2, k3⟩ := hr2
        repeat (any_goals (first | assumption | wp_step))
        exact fin _ _ _ k1 k2 k3
/-- sorted(s), s a set of ints of any size that is told -/
theorem sorted_of_set {a : Addr} {S : Int → Bool} {n : Nat} {Q : Value → Shared → Prop} (R : SetR w s.heap a S n) (hh : A.handled = none)
    (fin : ∀ t p (out : List Value) (c : Nat) (ns : List Int), (∀ b o, s.heap.get? b = some o → t.heap.get? b = some o) → t.gens = s.gens → t.os = s.os → s.heap.objs.size ≤ p → t.heap.get? p = some (seqObj "list" out.toArray c) → IntsAre out ns →
      ns.Pairwise (· ≤ ·) → ns.Nodup → (∀ k, k ∈ ns ↔ S k = true) → ns.length ≤ sizeLine → Q (.ref p) t) : wpAny (model P w) A (call (.builtin "sorted") [.ref a]) Q E s := by
  obtain ⟨o, es, ep, tb, ho, ex, hd, good, nd, mem, sc, fit, _, ris, led⟩ := R
  refine Calls.call_function_entry kind_sorted plain_sorted entry_sorted (args_sorted1 _) ?_
  unfold Builtin.«sorted»
  refine wpAny_bind (m := checkCount "sorted" 1 1 _) (wpAny_pure (wpAny_bind (collect_set (A := A.in1) hh ⟨o, ho, ex.1, hd⟩ fit sc ris led fun t1 vs old sz g1 o1 pm => ?_)))
  have gi : IntsAre vs (vs.map Builtin.Re.reRawOf) := ints_of vs fun v hv => by
    obtain ⟨e, he, q⟩ := List.mem_map.mp (pm.mem_iff.mp hv)
    obtain ⟨k, tk, h1, _⟩ := good e he
    exact ⟨k, tk, q ▸ h1⟩
  have pk : (vs.map Builtin.Re.reRawOf).Perm (es.toList.map keyOf) := by have q := pm.map Builtin.Re.reRawOf; rwa [List.map_map] at q
  have vl : vs.length ≤ sizeLine := by rw [pm.length_eq, List.length_map, Array.length_toList]; exact fits_of_scanBound sc
  refine wpAny_bind (wpAny_newList ?_ vl)
  have atL : (t1.heap.push (seqObj "list" vs.toArray 0)).get? t1.heap.objs.size = some (seqObj "list" vs.toArray 0) := Heap.get?_push_size _ rfl
  refine wpAny_bind (wpAny_holding (wpAny_call_entry slot_list_sort ⟨_, atL, rfl⟩ entry_list_sort (SrtO.list_sort_ord SrtO.swo_int atL vl (fun h2 => SrtO.ints_sortable gi h2) fun out b1 b2 => ⟨_, rfl, ?_⟩) (args_list_sort _)))
  obtain ⟨k1, k2, k3⟩ := SrtO.ints_out gi b1 b2
  obtain ⟨c, hc⟩ := sortedHeap_at (vs := vs) (out := out.toArray) atL
  have pn := k2.trans pk
  refine wpAny_pure ⟨_, rfl, fin _ t1.heap.objs.size out c _ (fun b u e => ?_) g1 o1 sz hc k1 k3 (pn.nodup_iff.mpr nd) (fun k => by rw [pn.mem_iff, ← mem k]) (by rw [k2.length_eq, List.length_map]; exact vl)⟩
  have lt := Heap.lt_size (old b u e)
  show (sortedHeap (t1.heap.push (seqObj "list" vs.toArray 0)) t1.heap.objs.size vs out.toArray).get? b = some u
  rw [sortedHeap_old (Nat.ne_of_lt lt) (by rw [Heap.size_push]; exact Nat.lt_succ_of_lt lt)]
  exact Heap.get?_push_of_some _ (old b u e)
end
end Dl

set_option Elab.async false
set_option linter.all false
set_option maxRecDepth 100000
/-! sorted, sorted(set(..)): rules -/
namespace Dl
open PySem PySem.Spec PyProof.Rows L2
theorem perm_one {α : Type} {le : α → α → Prop} (anti : ∀ x y, le x y → le y x → x = y) : ∀ {l m : List α}, l.Perm m → l.Pairwise le → m.Pairwise le → l = m
  | [], m, p, _, _ => (List.Perm.nil_eq p)
  | x :: l, [], p, _, _ => absurd p.length_eq (by simp)
  | x :: l, y :: m, p, h1, h2 => by
    have e : x = y := by
      rcases List.mem_cons.mp (p.mem_iff.mp List.mem_cons_self) with e | hx
      · exact e
      · rcases List.mem_cons.mp (p.mem_iff.mpr (List.mem_cons_self (a := y))) with e | hy
        · exact e.symm
        · exact anti x y ((List.pairwise_cons.mp h1).1 y hy) ((List.pairwise_cons.mp h2).1 x hx)
    subst e
    rw [perm_one anti p.cons_inv (List.pairwise_cons.mp h1).2 (List.pairwise_cons.mp h2).2]
theorem srtI_perm (ns : List Int) : (srtI ns).Perm ns := List.mergeSort_perm _ _
theorem srtI_le (ns : List Int) : (srtI ns).Pairwise (· ≤ ·) := by
  have := List.pairwise_mergeSort (le := fun a b : Int => decide (a ≤ b)) (fun a b c h1 h2 => by simp only [decide_eq_true_eq] at *; omega) (fun a b => by simp only [Bool.or_eq_true, decide_eq_true_eq]; omega) ns
  exact this.imp fun h => by simpa using h
theorem srtI_one {ns ms : List Int} (p : ms.Perm ns) (h : ms.Pairwise (· ≤ ·)) : ms = srtI ns :=
  perm_one (fun x y h1 h2 => by omega) (p.trans (srtI_perm ns).symm) h (srtI_le ns)
theorem srtP_perm (ns : List (Int × Int)) : (srtP ns).Perm ns := List.mergeSort_perm _ _
theorem srtP_le (ns : List (Int × Int)) : (srtP ns).Pairwise (fun a b => leP a b = true) :=
  List.pairwise_mergeSort (le := leP) (fun a b c h1 h2 => by unfold leP at *; simp only [decide_eq_true_eq] at *; omega) (fun a b => by unfold leP; simp only [Bool.or_eq_true, decide_eq_true_eq]; omega) ns
theorem leP_anti (x y : Int × Int) (h1 : leP x y = true) (h2 : leP y x = true) : x = y := by
  unfold leP at h1 h2
  simp only [decide_eq_true_eq] at h1 h2
  exact Prod.ext (by omega) (by omega)
theorem srtP_one {ns ms : List (Int × Int)} (p : ms.Perm ns) (h : ms.Pairwise (fun a b => leP a b = true)) : ms = srtP ns :=
  perm_one leP_anti (p.trans (srtP_perm ns).symm) h (srtP_le ns)
theorem dedup_mem {α : Type} [DecidableEq α] : ∀ (l : List α) (x : α), x ∈ dedupA l ↔ x ∈ l
  | [], x => by unfold dedupA; exact Iff.rfl
  | [y], x => by unfold dedupA; exact Iff.rfl
  | y :: z :: r, x => by
    unfold dedupA
    split
    · rename_i e
      subst e
      rw [dedup_mem (y :: r) x]
      simp
    · rw [List.mem_cons, dedup_mem (z :: r) x, List.mem_cons (a := x) (b := y)]
theorem dedup_lt : ∀ {l : List Int}, l.Pairwise (· ≤ ·) → (dedupA l).Pairwise (· < ·)
  | [], h => by unfold dedupA; exact .nil
  | [y], h => by unfold dedupA; simp
  | y :: z :: r, h => by
    obtain ⟨h1, h2⟩ := List.pairwise_cons.mp h
    unfold dedupA
    split
    · exact dedup_lt h2
    · rename_i ne
      refine List.pairwise_cons.mpr ⟨fun x hx => ?_, dedup_lt h2⟩
      have hx := (dedup_mem _ x).mp hx
      have a1 := h1 z List.mem_cons_self
      rcases List.mem_cons.mp hx with e | hx
      · omega
      · have := (List.pairwise_cons.mp h2).1 x hx
        omega
theorem asc_one : ∀ {l m : List Int}, l.Pairwise (· < ·) → m.Pairwise (· < ·) → (∀ x, x ∈ l ↔ x ∈ m) → l = m
  | [], [], _, _, _ => rfl
  | [], y :: m, _, _, h => absurd ((h y).mpr List.mem_cons_self) (by simp)
  | x :: l, [], _, _, h => absurd ((h x).mp List.mem_cons_self) (by simp)
  | x :: l, y :: m, h1, h2, h => by
    obtain ⟨a1, a2⟩ := List.pairwise_cons.mp h1
    obtain ⟨b1, b2⟩ := List.pairwise_cons.mp h2
    have e : x = y := by
      rcases List.mem_cons.mp ((h x).mp List.mem_cons_self) with e | hx
      · exact e
      · rcases List.mem_cons.mp ((h y).mpr List.mem_cons_self) with e | hy
        · exact e.symm
        · have := a1 y hy
          have := b1 x hx
          omega
    subst e
    rw [asc_one a2 b2 fun z => ?_]
    have hz := h z
    rw [List.mem_cons, List.mem_cons] at hz
    constructor
    · intro k
      rcases hz.mp (.inr k) with e | q
      · subst e; have := a1 z k; omega
      · exact q
    · intro k
      rcases hz.mpr (.inr k) with e | q
      · subst e; have := b1 z k; omega
      · exact q
theorem dedup_one {ns ms : List Int} (h : ms.Pairwise (· ≤ ·)) (nd : ms.Nodup) (hm : ∀ x, x ∈ ms ↔ x ∈ ns) : ms = dedupA (srtI ns) := by
  refine asc_one ?_ (dedup_lt (srtI_le ns)) fun x => by rw [hm, dedup_mem, (srtI_perm ns).mem_iff]
  exact (h.and nd).imp fun ⟨a, b⟩ => by omega
theorem pairs_map : ∀ {xs : List PyData} {ts : List (Int × Int)}, pairsOf xs = some ts → xs = ts.map pairI := by
  intro xs
  induction xs with
  | nil => intro ts h; cases h; rfl
  | cons x xs ih =>
    intro ts h
    unfold pairsOf at h
    split at h
    · rename_i e; cases e
    · rename_i i j r e
      cases e
      obtain ⟨ts', e1, rfl⟩ := Option.map_eq_some_iff.mp h
      rw [ih e1]; rfl
    · cases h
/-- the two ints of a pair that stands in H -/
def kP (H : Hp) (v : V) : Int × Int := match v with
  | .ref a => (match H a with
    | some (.tup [.int i, .int j]) => (i, j)
    | _ => (0, 0))
  | _ => (0, 0)
theorem reps_pairs {K : Fr} {H : Hp} : ∀ {ts : List (Int × Int)} {vs : List V}, Reps K H (ts.map pairI) vs → vs.map (kP H) = ts ∧ ∀ x ∈ vs, ∃ t, x = V.ref t ∧ H t = some (.tup [.int (kP H x).1, .int (kP H x).2])
  | [], vs, h => by rw [Reps.of_nil h]; exact ⟨rfl, fun x hx => by cases hx⟩
  | t :: ts, vs, h => by
    obtain ⟨v, r, rfl, h1, h2⟩ := Reps.uncons (d := pairI t) (ds := ts.map pairI) h
    obtain ⟨a, ws, rfl, f, g⟩ := (show Rep K H (.tuple [.int t.1, .int t.2]) v from h1).tuple
    obtain ⟨w1, r1, rfl, g1, g2⟩ := g.uncons
    obtain ⟨w2, r2, rfl, g3, g4⟩ := g2.uncons
    rw [g4.of_nil, g1.int, g3.int] at f
    have e : kP H (.ref a) = t := by unfold kP; simp only [f]
    obtain ⟨k1, k2⟩ := reps_pairs h2
    refine ⟨by rw [List.map_cons, e, k1], fun x hx => ?_⟩
    rcases List.mem_cons.mp hx with rfl | hx
    · exact ⟨a, rfl, by rw [e]; exact f⟩
    · exact k2 x hx
theorem pairs_reps {K : Fr} {H : Hp} : ∀ {vs : List V}, (∀ x ∈ vs, ∃ t, x = V.ref t ∧ H t = some (.tup [.int (kP H x).1, .int (kP H x).2])) → Reps K H ((vs.map (kP H)).map pairI) vs
  | [], _ => Reps.nil
  | v :: vs, h => by
    obtain ⟨t, rfl, e⟩ := h v List.mem_cons_self
    refine Reps.cons (.of_tuple e (Reps.cons (.of_int _) (Reps.cons (.of_int _) Reps.nil))) (pairs_reps fun x hx => h x (List.mem_cons_of_mem _ hx))
section
variable {X : Cx}
theorem cr_sortedD : CallR X (.builtin "sorted") (rBi X.K .sorted) := by
  intro pins s σ H vs us Q I r ⟨ds, c, M, hg, hd, hs, q⟩
  obtain ⟨d, rfl, hg1⟩ := arg1_ok hg
  obtain ⟨v, rfl, hv⟩ := rd1 hd
  cases d <;> first | (cases hg1; done) | skip
  rename_i xs
  have hg1 : (match intsOf xs with | some ns => some (D.o (.list ((srtI ns).map .int))) | none => (pairsOf xs).map fun ts => D.o (.list ((srtP ts).map pairI))) = some c := hg1
  split at hg1
  · rename_i ns e1
    cases hg1
    have := ints_map e1
    subst this
    obtain ⟨a, rfl, f⟩ := rd_ints hv
    refine L2.cr_sortedI pins s σ H _ us Q I r ⟨a, ns, rfl, f, fun ms p k1 k2 hp => ?_⟩
    rw [srtI_one k1 k2] at *
    exact q _ _ (hs.new_lst hp (reps_of_ints _))
  · obtain ⟨ts, e2, rfl⟩ := Option.map_eq_some_iff.mp hg1
    have := pairs_map e2
    subst this
    obtain ⟨a, ws, rfl, f, r2⟩ := rd_list hv
    obtain ⟨m1, m2⟩ := reps_pairs r2
    refine L2.cr_sortedPO pins s σ H _ us Q I r ⟨a, ws, kP H, rfl, f, m2, fun ys p k1 k2 hp => ?_⟩
    have e3 : ys.map (kP H) = srtP ts := by
      refine srtP_one (by rw [← m1]; exact k2.perm.map _) ?_
      refine List.pairwise_map.mpr (k1.imp fun {x y} h => ?_)
      have := SrtO.lexB_no.mp h
      unfold leP
      simp only [decide_eq_true_eq]
      omega
    have := pairs_reps (K := X.K) (H := H) (vs := ys) fun x hx => m2 x (k2.perm.mem_iff.mp hx)
    rw [e3] at this
    exact q _ _ (hs.new_lst hp this)
/-- set(l), set(t) of ints -/
def rSetI (K : Fr) (w : World) : List V → Hp → VK → Prop := fun vs H Q => ∃ (a : Addr) (ns : List Int), vs = [V.ref a] ∧ (SqL K H a (ns.map V.int) ∨ SqT K H a (ns.map V.int)) ∧ ns.length < setMost ∧
  ∀ p c, H p = none → Q (.ref p) (upd H p (SetO w p (fun j => decide (j ∈ ns)) c))
theorem cr_setI (hc : X.calm = true) : CallR X (.type "set") (rSetI X.K X.w) := by
  intro pins s σ H vs us Q I r ⟨a, ns, e, f, few, q⟩
  subst e
  rw [Vals.ref1 r]
  have sc : ns.length + 1 < scanBound := by show _ < 4096; have : setMost = 4000 := rfl; omega
  have fin : ∀ (g : Heap) (t c : Nat), SetR X.w g s.heap.objs.size (fun j => decide (j ∈ ns)) c → (∀ b o, s.heap.get? b = some o → g.get? b = some o) → EP X pins σ Q (.ref s.heap.objs.size) { s with heap := g, toks := t } := fun g t c R k =>
    ⟨.ref _, _, I.laid (t' := t) k (Nat.le_refl _) (setO_new R), rfl, q _ c I.fresh⟩
  rcases f with f | f
  · obtain ⟨its, rv, hl, hz⟩ := I.list f
    exact set_of_ints ns (I.ok.hd hc) hl.isList (by simpa using rv.ints) sc fun g t c R _ k => fin g t c R k
  · obtain ⟨its, rv, hl, hz⟩ := I.tuple f
    exact call_set_tupI ns (I.ok.hd hc) hl (by simpa using rv.ints) sc fun g t c R _ k => fin g t c R k
def rSortSet (w : World) : List V → Hp → VK → Prop := fun vs H Q => ∃ (a : Addr) (S : Int → Bool) (n : Nat), vs = [V.ref a] ∧ H a = some (SetO w a S n) ∧
  ∀ (ns : List Int) (p : Addr), ns.Pairwise (· ≤ ·) → ns.Nodup → (∀ k, k ∈ ns ↔ S k = true) → H p = none → Q (.ref p) (upd H p (.lst (ns.map V.int)))
theorem cr_sortSet (hc : X.calm = true) : CallR X (.builtin "sorted") (rSortSet X.w) := by
  intro pins s σ H vs us Q I r ⟨a, S, n, e, ha, q⟩
  subst e
  rw [Vals.ref1 r]
  refine sorted_of_set (setO_get I ha) (I.ok.hd hc) fun t p out c ns k g o hp hg hi h1 h2 h3 h4 => ?_
  have hn : H p = none := I.hok.fresh hp
  have J : Inv X pins σ (upd H p (.lst (ns.map V.int))) { s with heap := t.heap, gens := t.gens, drawn := t.drawn, toks := t.toks } :=
    I.call (ch := []) (Un.laid k hp hn) (I.hok.laid k hp ⟨by rw [List.length_map]; exact h4, out, c, vals_of_ints hi, hg⟩) (by rw [g]; exact I.bare) (fun _ z => nomatch z)
  have e : t = { s with heap := t.heap, gens := t.gens, drawn := t.drawn, toks := t.toks } := by
    cases t; cases s; cases o; rfl
  rw [e]
  exact ⟨.ref p, _, J, rfl, q ns p h1 h2 h3 hn⟩
theorem boot_sorted' : bootBuiltins "sorted" = some (.builtin "sorted") := by decide +kernel
theorem boot_set' : bootBuiltins "set" = some (.type "set") := by decide +kernel
theorem se_setsorted {a : Expr} {p p2 pos pos2 : Pos} {fa : Env → Res (List Arg)} (hc : X.calm = true) (ha : SAs X [a] fa) (g1 : Gl X "sorted") (m1 : X.mg "sorted" = none) (g2 : Gl X "set") (m2 : X.mg "set" = none)
    (h1 : starEach (a :: []) X.env = (false, eval a X.env) :: starEach [] X.env) : SE X (.Call (.Name "sorted" p) [.Call (.Name "set" p2) [a] [] pos2] [] pos) (biR .setsorted fa) := by
  refine se_biR (pe_mo (pe_callB (cr_sortSet hc) g1 m1 boot_sorted' (pa_cons (pe_callTy (cr_setI hc) g2 m2 boot_set' ha (he := h1)) pa_nil)) fun σ H Q h => ?_)
  obtain ⟨r, L, T, he, hs, as, r', e1, k⟩ := h
  refine ⟨r, L, T, he, hs, as, r', e1, fun vs H' L' E g1 g2 g3 => ?_⟩
  obtain ⟨ds, c, M, hg, hd, hs2, q⟩ := k vs H' L' E g1 g2 g3
  obtain ⟨d, rfl, hg1⟩ := arg1_ok hg
  obtain ⟨v, rfl, hv⟩ := rd1 hd
  obtain ⟨xs, e2, e3⟩ := Option.bind_eq_some_iff.mp hg1
  unfold setSortD at e3
  split at e3
  · rename_i few
    obtain ⟨ns, e4, rfl⟩ := Option.map_eq_some_iff.mp e3
    have := ints_map e4
    subst this
    obtain ⟨a, ws, rfl, f, r2⟩ := rd_seq hv e2
    rw [reps_ints r2] at f
    refine ⟨a, ns, rfl, f, by simpa using few, fun p c hp => ⟨p, _, c, rfl, upd_same, fun ms p2 k1 k2 k3 hp2 => ?_⟩⟩
    have e5 : ms = dedupA (srtI ns) := dedup_one k1 k2 fun x => by rw [k3 x]; simp
    subst e5
    exact q _ _ ((hs2.laid hp).new_lst hp2 (reps_of_ints _))
  · cases e3
end
end Dl

set_option Elab.async false
set_option linter.all false
set_option maxRecDepth 100000
/-! what is walked: lists, tuples, ranges, zip, enumerate -/
namespace Dl
open PySem PySem.Spec PyProof.Rows L2
/-- a list (false), a tuple (true) -/
def Sq (k : Bool) (K : Fr) (H : Hp) (a : Addr) (xs : List V) : Prop := match k with
  | true => SqT K H a xs
  | false => SqL K H a xs
def IsS (k : Bool) (h : Heap) (a : Addr) (its : Array Value) : Prop := match k with
  | true => h.IsTuple a its
  | false => h.IsList a its
def ItS (k : Bool) (h : Heap) (it a : Addr) (i : Nat) : Prop := match k with
  | true => h.IsTupleIter it a i
  | false => h.IsListIter it a i
def itO (k : Bool) (a : Addr) : Obj := match k with
  | true => { cls := .type "tuple_iterator", data := .fields #[.ref a, .int 0 0] }
  | false => { cls := .type "list_iterator", data := .fields #[.ref a, .int 0 0] }
section
variable {X : Cx} {pins : List (Addr × Obj)} {σ : L2.St} {H : Hp} {s : Shared} {k : Bool} {a : Addr} {xs ys : List V}
theorem inv_sq (I : Inv X pins σ H s) (h : Sq k X.K H a xs) : ∃ its : List Value, Vals xs its ∧ IsS k s.heap a its.toArray ∧ xs.length ≤ sizeLine ∧ a < s.heap.objs.size := by
  cases k with
  | true =>
    obtain ⟨its, r, p, z⟩ := I.tuple h
    obtain ⟨o, e, _⟩ := id p
    exact ⟨its, r, p, z, Heap.lt_size e⟩
  | false =>
    obtain ⟨its, r, p, z⟩ := I.list h
    exact ⟨its, r, p.isList, z, p.lt⟩
theorem inv_sq_inj (I : Inv X pins σ H s) (h : Sq k X.K H a xs) (h' : Sq k X.K H a ys) : xs = ys := by
  cases k with
  | true => exact I.tuple_inj h h'
  | false => exact I.list_inj h h'
end
theorem draws_s {prog : Program} {w : World} {A : Around} (k : Bool) (hh : A.handled = none) (it l : Addr) (hne : l ≠ it) (items : Array Value) :
    Draws prog w A it [it, l] items.size (fun i v => items[i]? = some v) (fun i h => ItS k h it l i ∧ IsS k h l items) := by
  cases k with
  | true => exact Draws.tuple hh it l hne items
  | false => exact Draws.list hh it l hne items
theorem begins_s (k : Bool) (l : Addr) (items : Array Value) : Begins (.ref l) (itO k l) fun h => IsS k h l items := by
  cases k with
  | true => exact begins_tuple l items
  | false => exact begins_list l items
theorem ItS.at {k : Bool} {h h' : Heap} {it a : Addr} {i : Nat} (x : ItS k h it a i) (e : ∀ o, h.get? it = some o → h'.get? it = some o) : ItS k h' it a i := by
  cases k with
  | true => exact Heap.IsTupleIter.at x e
  | false => exact Heap.IsListIter.at x e
theorem ItS.new {k : Bool} {h : Heap} {it a : Addr} (e : h.get? it = some (itO k a)) : ItS k h it a 0 := by
  cases k with
  | true => exact ⟨_, e, rfl, rfl⟩
  | false => exact ⟨_, e, rfl, rfl⟩
theorem ItS.obj {k : Bool} {h : Heap} {it a : Addr} {i : Nat} (x : ItS k h it a i) : ∃ o, h.get? it = some o ∧ ∀ v, o.data ≠ .cell v := by
  cases k with
  | true => obtain ⟨o, e, c, d⟩ := x; exact ⟨o, e, fun v z => by rw [d] at z; cases z⟩
  | false => obtain ⟨o, e, c, d⟩ := x; exact ⟨o, e, fun v z => by rw [d] at z; cases z⟩
/-- iterators that hand out new tuples -/
structure Src (P : Program) (w : World) (K : Fr) (tg : Expr) (J : L2.It) (fp : List Addr) (it : Addr) (tn : Nat → Heap → Prop) : Prop where
  mem : it ∈ fp
  obj : ∀ i h, tn i h → ∀ b ∈ fp, ∃ o, h.get? b = some o ∧ ∀ v, o.data ≠ .cell v
  keep : ∀ i h h', tn i h → (∀ b ∈ fp, ∀ o, h.get? b = some o → h'.get? b = some o) → tn i h'
  go : ∀ (X : Cx), X.prog = P → X.w = w → X.K = K → X.calm = true → ∀ (i : Nat) (pins : List (Addr × Obj)) (s : Shared) (σ : L2.St) (H : Hp), Inv X pins σ H s → tn i s.heap → J.go i H →
    ∃ fg wr n Y St, GoesN P w X.A tg it fg wr n Y St ∧ i < n ∧ St i s.heap ∧ (∀ h', St (i + 1) h' → tn (i + 1) h') ∧ (∀ b ∈ wr, b ∈ fp) ∧
      ∀ v h', Y i s.heap v h' → ∃ T vals xs, v = .ref T ∧ s.heap.objs.size ≤ T ∧ h'.IsTuple T (List.toArray vals) ∧ Vals xs vals ∧ xs.length ≤ sizeLine ∧ (H T = none → J.yld i H (.ref T) (upd H T (.tup xs)))
  stop : ∀ (X : Cx), X.prog = P → X.w = w → X.K = K → X.calm = true → ∀ (i : Nat) (pins : List (Addr × Obj)) (s : Shared) (σ : L2.St) (H : Hp), Inv X pins σ H s → tn i s.heap → J.stop i H →
    ∃ fg wr Y St, GoesN P w X.A tg it fg wr i Y St ∧ St i s.heap ∧ (∀ b ∈ wr, b ∈ fp)
  self : ∀ (A : Around) (i : Nat) (s : Shared) (Q : Value → Shared → Prop) (E : Value → Shared → Prop), tn i s.heap → Q (.ref it) s → wpAny (model P w) A (pyIter (.ref it)) Q E s
theorem Src.turn {P : Program} {w : World} {K : Fr} {tg : Expr} {J : L2.It} {fp : List Addr} {it : Addr} {tn : Nat → Heap → Prop} (S : Src P w K tg J fp it tn) : Turn P w K tg J fp it tn where
  mem := S.mem
  obj := S.obj
  keep := S.keep
  item := by
    intro X hP hw hK hc i pins s σ H E I hf st hg
    obtain ⟨fg, wr, n, Y, St, W, hi, hs, ht, hw', hy⟩ := S.go X hP hw hK hc i pins s σ H I st hg
    refine wpAny_mono (W.goes i s (fun v s2 => ∃ x H', Inv X pins σ H' s2 ∧ RelV x v ∧ J.yld i H x H' ∧ tn (i + 1) s2.heap ∧ ∀ b ∈ fp, H' b = none) E hi hs fun v h' tk hY st' hk htk => ?_) (fun r s1 q => q) fun _ _ q => q
    obtain ⟨T, vals, xs, rfl, hT, hTv, rv, hz, hyl⟩ := hy v h' hY
    subst hP hw
    have hn : H T = none := I.hok.fresh hT
    have new : ObjOk X.prog X.w (upd H T (.tup xs)) h' T (.tup xs) := ⟨hz, vals, rv, hTv⟩
    refine ⟨.ref T, _, I.turnedNew (t' := tk) (ch := wr) (fun b o hb e => hk b o hb e) (fun b hb => hf b (hw' b hb)) hT new, rfl, hyl hn, ht _ st', fun b hb => ?_⟩
    obtain ⟨o, e, _⟩ := S.obj _ _ st b hb
    rw [upd_ne (Nat.ne_of_lt (Nat.lt_of_lt_of_le (Heap.lt_size e) hT))]
    exact (hf b hb).1
  done := by
    intro X hP hw hK hc i pins s σ H E I hf st hg
    obtain ⟨fg, wr, Y, St, W, hs, hw'⟩ := S.stop X hP hw hK hc i pins s σ H I st hg
    subst hP hw
    exact W.stops s (fun s1 => Inv X pins σ H s1) E hs fun h' tk hk htk => I.turnedL (t' := tk) (ch := wr) (fun b o hb e => hk b o hb e) fun b hb => hf b (hw' b hb)
  self := S.self
/-! ### zip(a, b) -/
def J2 (k1 k2 : Bool) (K : Fr) (a b : Addr) : L2.It :=
  ⟨fun i H => ∃ (xs ys : List V) (x y : V), Sq k1 K H a xs ∧ Sq k2 K H b ys ∧ xs[i]? = some x ∧ ys[i]? = some y,
    fun i H v H' => ∃ T x y, v = .ref T ∧ H T = none ∧ H' = upd H T (.tup [x, y]) ∧ (∀ xs, Sq k1 K H a xs → xs[i]? = some x) ∧ ∀ ys, Sq k2 K H b ys → ys[i]? = some y,
    fun i H => ∃ xs ys : List V, Sq k1 K H a xs ∧ Sq k2 K H b ys ∧ min xs.length ys.length = i⟩
theorem src_zip2 {P : Program} {w : World} {K : Fr} {elts : List Expr} {kk : Nat} {tpos : Pos} (k1 k2 : Bool) {a b z TI TO i1 i2 : Addr} (h1 : a ≠ i1) (h2 : b ≠ i2) (S : ZipSep2 z TI TO i1 i2 [i1, a] [i2, b]) :
    Src P w K (.Tuple elts kk tpos) (J2 k1 k2 K a b) [z, TI, TO, i1, i2] z (fun i h => IsZip h z TI TO .none ∧ IsTupOf2 h TI (.ref i1) (.ref i2) ∧ (∃ a1 a2, IsTupOf2 h TO a1 a2) ∧ ItS k1 h i1 a i ∧ ItS k2 h i2 b i) where
  mem := by simp
  obj := fun i h st c hc => by
    obtain ⟨hz, hTI, ⟨x, y, hTO⟩, q1, q2⟩ := st
    have e' : c = z ∨ c = TI ∨ c = TO ∨ c = i1 ∨ c = i2 := by simpa using hc
    rcases e' with q | q | q | q | q
    · rw [q]; exact ⟨_, hz, fun v q => nomatch q⟩
    · rw [q]; exact ⟨_, hTI, fun v q => nomatch q⟩
    · rw [q]; exact ⟨_, hTO, fun v q => nomatch q⟩
    · rw [q]; exact q1.obj
    · rw [q]; exact q2.obj
  keep := fun i h h' st k => by
    obtain ⟨hz, hTI, ⟨x, y, hTO⟩, q1, q2⟩ := st
    exact ⟨k z (by simp) _ hz, k TI (by simp) _ hTI, ⟨x, y, k TO (by simp) _ hTO⟩, q1.at fun o q => k i1 (by simp) o q, q2.at fun o q => k i2 (by simp) o q⟩
  go := by
    intro X hP hw hK hc i pins s σ H I st hg
    subst hP hw hK
    obtain ⟨hz, hTI, hTO, q1, q2⟩ := st
    obtain ⟨xs, ys, x, y, hqx, hqy, hx, hy⟩ := hg
    obtain ⟨its, rv, p, _, _⟩ := inv_sq I hqx
    obtain ⟨its2, rv2, p2, _, _⟩ := inv_sq I hqy
    obtain ⟨u, hu, ru⟩ := rv.get hx
    obtain ⟨u2, hu2, ru2⟩ := rv2.get hy
    have hh : X.A.in1.handled = none := I.ok.hd hc
    have D1 := draws_s (prog := X.prog) (w := X.w) (A := X.A.in1) k1 hh i1 a h1 its.toArray
    have D2 := draws_s (prog := X.prog) (w := X.w) (A := X.A.in1) k2 hh i2 b h2 its2.toArray
    refine ⟨_, _, _, _, _, GoesN.zip2 (elts := elts) (x1 := kk) (pos := tpos) S D1 D2, ?_, ⟨hz, hTI, hTO, ⟨q1, p⟩, ⟨q2, p2⟩⟩, fun h' st' => ?_, fun c hc => ?_, fun v h' hY => ?_⟩
    · have := (List.getElem?_eq_some_iff.mp hu).1
      have := (List.getElem?_eq_some_iff.mp hu2).1
      simp; omega
    · obtain ⟨r1, r2, r3, r4, r5⟩ := st'
      exact ⟨r1, r2, r3, r4.1, r5.1⟩
    · simp at hc ⊢
      rcases hc with q | q | q | q <;> simp [q]
    · obtain ⟨T, x', y', e, hT, e1, e2, hv⟩ := hY
      have e1 : its.toArray[i]? = some x' := e1
      have e2 : its2.toArray[i]? = some y' := e2
      rw [List.getElem?_toArray, hu] at e1
      rw [List.getElem?_toArray, hu2] at e2
      cases e1
      cases e2
      exact ⟨T, [u, u2], [x, y], e, hT, hv, .cons ru (.cons ru2 .nil), by show 2 ≤ sizeLine; decide, fun hn => ⟨T, x, y, rfl, hn, rfl, fun l hl => by rw [inv_sq_inj I hl hqx]; exact hx, fun l hl => by rw [inv_sq_inj I hl hqy]; exact hy⟩⟩
  stop := by
    intro X hP hw hK hc i pins s σ H I st hg
    subst hP hw hK
    obtain ⟨hz, hTI, hTO, q1, q2⟩ := st
    obtain ⟨xs, ys, hqx, hqy, hi⟩ := hg
    obtain ⟨its, rv, p, _, _⟩ := inv_sq I hqx
    obtain ⟨its2, rv2, p2, _, _⟩ := inv_sq I hqy
    have hh : X.A.in1.handled = none := I.ok.hd hc
    have D1 := draws_s (prog := X.prog) (w := X.w) (A := X.A.in1) k1 hh i1 a h1 its.toArray
    have D2 := draws_s (prog := X.prog) (w := X.w) (A := X.A.in1) k2 hh i2 b h2 its2.toArray
    have hi : min its.toArray.size its2.toArray.size = i := by rw [← hi, rv.length, rv2.length]; simp
    have W := GoesN.zip2 (elts := elts) (x1 := kk) (pos := tpos) S D1 D2
    rw [hi] at W
    refine ⟨_, _, _, _, W, ⟨hz, hTI, hTO, ⟨q1, p⟩, ⟨q2, p2⟩⟩, fun c hc => ?_⟩
    simp at hc ⊢
    rcases hc with q | q | q | q <;> simp [q]
  self := fun A i s Q E st h => wpAny_pyIter_zip st.1 h
/-! ### zip(a, b, c) -/
def J3 (k1 k2 k3 : Bool) (K : Fr) (a b c : Addr) : L2.It :=
  ⟨fun i H => ∃ (xs ys zs : List V) (x y z : V), Sq k1 K H a xs ∧ Sq k2 K H b ys ∧ Sq k3 K H c zs ∧ xs[i]? = some x ∧ ys[i]? = some y ∧ zs[i]? = some z,
    fun i H v H' => ∃ T x y z, v = .ref T ∧ H T = none ∧ H' = upd H T (.tup [x, y, z]) ∧ (∀ xs, Sq k1 K H a xs → xs[i]? = some x) ∧ (∀ ys, Sq k2 K H b ys → ys[i]? = some y) ∧ ∀ zs, Sq k3 K H c zs → zs[i]? = some z,
    fun i H => ∃ xs ys zs : List V, Sq k1 K H a xs ∧ Sq k2 K H b ys ∧ Sq k3 K H c zs ∧ min (min xs.length ys.length) zs.length = i⟩
theorem src_zip3 {P : Program} {w : World} {K : Fr} {elts : List Expr} {kk : Nat} {tpos : Pos} (k1 k2 k3 : Bool) {a b c z TI TO i1 i2 i3 : Addr} (h1 : a ≠ i1) (h2 : b ≠ i2) (h3 : c ≠ i3) (S : ZipSep3 z TI TO i1 i2 i3 [i1, a] [i2, b] [i3, c]) :
    Src P w K (.Tuple elts kk tpos) (J3 k1 k2 k3 K a b c) [z, TI, TO, i1, i2, i3] z (fun i h => IsZip h z TI TO .none ∧ IsTupOf3 h TI (.ref i1) (.ref i2) (.ref i3) ∧ (∃ a1 a2 a3, IsTupOf3 h TO a1 a2 a3) ∧ ItS k1 h i1 a i ∧ ItS k2 h i2 b i ∧ ItS k3 h i3 c i) where
  mem := by simp
  obj := fun i h st c hc => by
    obtain ⟨hz, hTI, ⟨x, y, y', hTO⟩, q1, q2, q3⟩ := st
    have e' : c = z ∨ c = TI ∨ c = TO ∨ c = i1 ∨ c = i2 ∨ c = i3 := by simpa using hc
    rcases e' with q | q | q | q | q | q
    · rw [q]; exact ⟨_, hz, fun v q => nomatch q⟩
    · rw [q]; exact ⟨_, hTI, fun v q => nomatch q⟩
    · rw [q]; exact ⟨_, hTO, fun v q => nomatch q⟩
    · rw [q]; exact q1.obj
    · rw [q]; exact q2.obj
    · rw [q]; exact q3.obj
  keep := fun i h h' st k => by
    obtain ⟨hz, hTI, ⟨x, y, y', hTO⟩, q1, q2, q3⟩ := st
    exact ⟨k z (by simp) _ hz, k TI (by simp) _ hTI, ⟨x, y, y', k TO (by simp) _ hTO⟩, q1.at fun o q => k i1 (by simp) o q, q2.at fun o q => k i2 (by simp) o q, q3.at fun o q => k i3 (by simp) o q⟩
  go := by
    intro X hP hw hK hc i pins s σ H I st hg
    subst hP hw hK
    obtain ⟨hz, hTI, hTO, q1, q2, q3⟩ := st
    obtain ⟨xs, ys, zs, x, y, z', hqx, hqy, hqz, hx, hy, hz'⟩ := hg
    obtain ⟨its, rv, p, _, _⟩ := inv_sq I hqx
    obtain ⟨its2, rv2, p2, _, _⟩ := inv_sq I hqy
    obtain ⟨its3, rv3, p3, _, _⟩ := inv_sq I hqz
    obtain ⟨u, hu, ru⟩ := rv.get hx
    obtain ⟨u2, hu2, ru2⟩ := rv2.get hy
    obtain ⟨u3, hu3, ru3⟩ := rv3.get hz'
    have hh : X.A.in1.handled = none := I.ok.hd hc
    have D1 := draws_s (prog := X.prog) (w := X.w) (A := X.A.in1) k1 hh i1 a h1 its.toArray
    have D2 := draws_s (prog := X.prog) (w := X.w) (A := X.A.in1) k2 hh i2 b h2 its2.toArray
    have D3 := draws_s (prog := X.prog) (w := X.w) (A := X.A.in1) k3 hh i3 c h3 its3.toArray
    refine ⟨_, _, _, _, _, GoesN.zip3 (elts := elts) (x1 := kk) (pos := tpos) S D1 D2 D3, ?_, ⟨hz, hTI, hTO, ⟨q1, p⟩, ⟨q2, p2⟩, ⟨q3, p3⟩⟩, fun h' st' => ?_, fun c hc => ?_, fun v h' hY => ?_⟩
    · have := (List.getElem?_eq_some_iff.mp hu).1
      have := (List.getElem?_eq_some_iff.mp hu2).1
      have := (List.getElem?_eq_some_iff.mp hu3).1
      simp; omega
    · obtain ⟨r1, r2, r3, r4, r5, r6⟩ := st'
      exact ⟨r1, r2, r3, r4.1, r5.1, r6.1⟩
    · simp at hc ⊢
      rcases hc with q | q | q | q | q <;> simp [q]
    · obtain ⟨T, x', y', w', e, hT, e1, e2, e3, hv⟩ := hY
      have e1 : its.toArray[i]? = some x' := e1
      have e2 : its2.toArray[i]? = some y' := e2
      have e3 : its3.toArray[i]? = some w' := e3
      rw [List.getElem?_toArray, hu] at e1
      rw [List.getElem?_toArray, hu2] at e2
      rw [List.getElem?_toArray, hu3] at e3
      cases e1
      cases e2
      cases e3
      exact ⟨T, [u, u2, u3], [x, y, z'], e, hT, hv, .cons ru (.cons ru2 (.cons ru3 .nil)), by show 3 ≤ sizeLine; decide, fun hn => ⟨T, x, y, z', rfl, hn, rfl, fun l hl => by rw [inv_sq_inj I hl hqx]; exact hx, fun l hl => by rw [inv_sq_inj I hl hqy]; exact hy, fun l hl => by rw [inv_sq_inj I hl hqz]; exact hz'⟩⟩
  stop := by
    intro X hP hw hK hc i pins s σ H I st hg
    subst hP hw hK
    obtain ⟨hz, hTI, hTO, q1, q2, q3⟩ := st
    obtain ⟨xs, ys, zs, hqx, hqy, hqz, hi⟩ := hg
    obtain ⟨its, rv, p, _, _⟩ := inv_sq I hqx
    obtain ⟨its2, rv2, p2, _, _⟩ := inv_sq I hqy
    obtain ⟨its3, rv3, p3, _, _⟩ := inv_sq I hqz
    have hh : X.A.in1.handled = none := I.ok.hd hc
    have D1 := draws_s (prog := X.prog) (w := X.w) (A := X.A.in1) k1 hh i1 a h1 its.toArray
    have D2 := draws_s (prog := X.prog) (w := X.w) (A := X.A.in1) k2 hh i2 b h2 its2.toArray
    have D3 := draws_s (prog := X.prog) (w := X.w) (A := X.A.in1) k3 hh i3 c h3 its3.toArray
    have hi : min (min its.toArray.size its2.toArray.size) its3.toArray.size = i := by rw [← hi, rv.length, rv2.length, rv3.length]; simp
    have W := GoesN.zip3 (elts := elts) (x1 := kk) (pos := tpos) S D1 D2 D3
    rw [hi] at W
    refine ⟨_, _, _, _, W, ⟨hz, hTI, hTO, ⟨q1, p⟩, ⟨q2, p2⟩, ⟨q3, p3⟩⟩, fun c hc => ?_⟩
    simp at hc ⊢
    rcases hc with q | q | q | q | q <;> simp [q]
  self := fun A i s Q E st h => wpAny_pyIter_zip st.1 h
/-! ### enumerate(a) -/
def Je (k : Bool) (K : Fr) (a : Addr) : L2.It :=
  ⟨fun i H => ∃ (xs : List V) (x : V), Sq k K H a xs ∧ xs[i]? = some x,
    fun i H v H' => ∃ T x, v = .ref T ∧ H T = none ∧ H' = upd H T (.tup [.int (i : Nat), x]) ∧ ∀ xs, Sq k K H a xs → xs[i]? = some x,
    fun i H => ∃ xs : List V, Sq k K H a xs ∧ xs.length = i⟩
theorem src_enum {P : Program} {w : World} {K : Fr} {elts : List Expr} {kk : Nat} {tpos : Pos} (k : Bool) {a e it : Addr} (h1 : a ≠ it) (hei : e ≠ it) (hef : e ∉ [it, a]) :
    Src P w K (.Tuple elts kk tpos) (Je k K a) [e, it] e (fun i h => (∃ old, IsEnum h e it (0 + (i : Int)) old) ∧ ItS k h it a i) where
  mem := by simp
  obj := fun i h st c hc => by
    obtain ⟨⟨old, he⟩, q1⟩ := st
    have e' : c = e ∨ c = it := by simpa using hc
    rcases e' with q | q
    · rw [q]; exact ⟨_, he, fun v q => nomatch q⟩
    · rw [q]; exact q1.obj
  keep := fun i h h' st k => by
    obtain ⟨⟨old, he⟩, q1⟩ := st
    exact ⟨⟨old, k e (by simp) _ he⟩, q1.at fun o q => k it (by simp) o q⟩
  go := by
    intro X hP hw hK hc i pins s σ H I st hg
    subst hP hw hK
    obtain ⟨he, q1⟩ := st
    obtain ⟨xs, x, hqx, hx⟩ := hg
    obtain ⟨its, rv, p, _, _⟩ := inv_sq I hqx
    obtain ⟨u, hu, ru⟩ := rv.get hx
    have hh : X.A.in1.handled = none := I.ok.hd hc
    have D1 := draws_s (prog := X.prog) (w := X.w) (A := X.A.in1) k hh it a h1 its.toArray
    refine ⟨_, _, _, _, _, GoesN.enumFrom (elts := elts) (x1 := kk) (pos := tpos) 0 D1 e hei hef (by simp), ?_, ⟨he, ⟨q1, p⟩⟩, fun h' st' => ?_, fun c hc => ?_, fun v h' hY => ?_⟩
    · have := (List.getElem?_eq_some_iff.mp hu).1
      simp; omega
    · exact ⟨st'.1, st'.2.1⟩
    · simpa using hc
    · obtain ⟨T, t, x', e0, hT, e1, hv⟩ := hY
      have e1 : its.toArray[i]? = some x' := e1
      rw [List.getElem?_toArray, hu] at e1
      cases e1
      have ei : (0 : Int) + (i : Int) = ((i : Nat) : Int) := by omega
      rw [ei] at hv
      exact ⟨T, [.int (i : Nat) t, u], [.int (i : Nat), x], e0, hT, hv, .cons ⟨_, rfl⟩ (.cons ru .nil), by show 2 ≤ sizeLine; decide, fun hn => ⟨T, x, rfl, hn, rfl, fun l hl => by rw [inv_sq_inj I hl hqx]; exact hx⟩⟩
  stop := by
    intro X hP hw hK hc i pins s σ H I st hg
    subst hP hw hK
    obtain ⟨he, q1⟩ := st
    obtain ⟨xs, hqx, hi⟩ := hg
    obtain ⟨its, rv, p, _, _⟩ := inv_sq I hqx
    have hh : X.A.in1.handled = none := I.ok.hd hc
    have D1 := draws_s (prog := X.prog) (w := X.w) (A := X.A.in1) k hh it a h1 its.toArray
    have hi : its.toArray.size = i := by rw [← hi, rv.length]; simp
    have W := GoesN.enumFrom (elts := elts) (x1 := kk) (pos := tpos) 0 D1 e hei hef (by simp)
    rw [hi] at W
    refine ⟨_, _, _, _, W, ⟨he, ⟨q1, p⟩⟩, fun c hc => ?_⟩
    simpa using hc
  self := fun A i s Q E st h => let ⟨⟨_, he⟩, _⟩ := st; wpAny_pyIter_enum he h
end Dl

set_option Elab.async false
set_option linter.all false
set_option maxRecDepth 100000
/-! iterables: rules, readings -/
namespace Dl
open PySem PySem.Spec PyProof.Rows L2
section
variable {X : Cx}
def iZip2 (K : Fr) (ta : TA) : TI := fun σ H R => ta σ H fun vs H1 => ∃ k1 k2 a b xs ys, vs = [.ref a, .ref b] ∧ Sq k1 K H1 a xs ∧ Sq k2 K H1 b ys ∧ (xs.length ≤ sizeLine → ys.length ≤ sizeLine → R (J2 k1 k2 K a b) H1)
theorem pi_zip2 {e e2 : Expr} {ta : TA} {p pos tpos : Pos} {elts : List Expr} {kk : Nat} (hg : Gl X "zip") (hm : X.mg "zip" = none) (ha : PA X [e, e2] ta)
    (hs : starEach [e, e2] X.env = (false, eval e X.env) :: starEach [e2] X.env) (hpl : (backTo pos (starEach [e2] X.env)).any (·.1) = false) :
    PI X (.Tuple elts kk tpos) (.Call (.Name "zip" p) [e, e2] [] pos) (iZip2 X.K ta) := by
  refine ⟨fun pins s σ H R I h => ?_⟩
  refine Call_ (ld_blt I hg hm PyProof.Rows.boot_zip (PyProof.Rows.callWith_type1 (thn (ha.run pos pins s σ H _ I h) fun us s1 ⟨vs, H1, I1, r1, q1⟩ => ?_) hs hpl))
  obtain ⟨k1, k2, a, b, xs, ys, ex, hqx, hqy, q⟩ := q1
  subst ex
  cases r1 with
  | cons r rr =>
    cases rr with
    | cons r' rr =>
      cases rr
      cases r
      cases r'
      obtain ⟨its, rv, p1, z1, l1⟩ := inv_sq I1 hqx
      obtain ⟨its2, rv2, p2, z2, l2⟩ := inv_sq I1 hqy
      refine zip_begins2 (begins_s k1 a its.toArray) (begins_s k2 b its2.toArray) p1 p2 fun h' hz hTI hTO g1 g2 hsz hk => wpAny_pyIter_zip hz ?_
      have I2 : Inv X pins σ H1 { s1 with heap := h' } := I1.kept (t' := s1.toks) hk
      refine ⟨s1.heap.objs.size + 4, [s1.heap.objs.size + 4, s1.heap.objs.size + 2, s1.heap.objs.size + 3, s1.heap.objs.size, s1.heap.objs.size + 1], _, _, H1, rfl, I2,
        (src_zip2 k1 k2 (Nat.ne_of_lt l1) (Nat.ne_of_lt (Nat.lt_succ_of_lt l2)) (zip_sep2 (by simpa using l1) (by simpa using l2))).turn, ⟨hz, hTI, ⟨_, _, hTO⟩, ItS.new g1, ItS.new g2⟩, fun c hcm => ?_, q z1 z2⟩
      have hle : s1.heap.objs.size ≤ c := by
        simp at hcm
        rcases hcm with z | z | z | z | z <;> rw [z] <;> first | exact Nat.le_add_right _ _ | exact Nat.le_refl _
      exact I1.fpOk hle (I1.hok.fresh hle)
def iZip3 (K : Fr) (ta : TA) : TI := fun σ H R => ta σ H fun vs H1 => ∃ k1 k2 k3 a b c xs ys zs, vs = [.ref a, .ref b, .ref c] ∧ Sq k1 K H1 a xs ∧ Sq k2 K H1 b ys ∧ Sq k3 K H1 c zs ∧ (xs.length ≤ sizeLine → ys.length ≤ sizeLine → zs.length ≤ sizeLine → R (J3 k1 k2 k3 K a b c) H1)
theorem pi_zip3 {e e2 e3 : Expr} {ta : TA} {p pos tpos : Pos} {elts : List Expr} {kk : Nat} (hg : Gl X "zip") (hm : X.mg "zip" = none) (ha : PA X [e, e2, e3] ta)
    (hs : starEach [e, e2, e3] X.env = (false, eval e X.env) :: starEach [e2, e3] X.env) (hpl : (backTo pos (starEach [e2, e3] X.env)).any (·.1) = false) :
    PI X (.Tuple elts kk tpos) (.Call (.Name "zip" p) [e, e2, e3] [] pos) (iZip3 X.K ta) := by
  refine ⟨fun pins s σ H R I h => ?_⟩
  refine Call_ (ld_blt I hg hm PyProof.Rows.boot_zip (PyProof.Rows.callWith_type1 (thn (ha.run pos pins s σ H _ I h) fun us s1 ⟨vs, H1, I1, r1, q1⟩ => ?_) hs hpl))
  obtain ⟨k1, k2, k3, a, b, c, xs, ys, zs, ex, hqx, hqy, hqz, q⟩ := q1
  subst ex
  cases r1 with
  | cons r rr =>
    cases rr with
    | cons r' rr =>
      cases rr with
      | cons r'' rr =>
        cases rr
        cases r
        cases r'
        cases r''
        obtain ⟨its, rv, p1, z1, l1⟩ := inv_sq I1 hqx
        obtain ⟨its2, rv2, p2, z2, l2⟩ := inv_sq I1 hqy
        obtain ⟨its3, rv3, p3, z3, l3⟩ := inv_sq I1 hqz
        refine zip_begins3 (begins_s k1 a its.toArray) (begins_s k2 b its2.toArray) (begins_s k3 c its3.toArray) p1 p2 p3 fun h' hz hTI hTO g1 g2 g3 hsz hk => wpAny_pyIter_zip hz ?_
        have I2 : Inv X pins σ H1 { s1 with heap := h' } := I1.kept (t' := s1.toks) hk
        refine ⟨s1.heap.objs.size + 5, [s1.heap.objs.size + 5, s1.heap.objs.size + 3, s1.heap.objs.size + 4, s1.heap.objs.size, s1.heap.objs.size + 1, s1.heap.objs.size + 2], _, _, H1, rfl, I2,
          (src_zip3 k1 k2 k3 (Nat.ne_of_lt l1) (Nat.ne_of_lt (Nat.lt_succ_of_lt l2)) (Nat.ne_of_lt (Nat.lt_succ_of_lt (Nat.lt_succ_of_lt l3))) (zip_sep3 (by simpa using l1) (by simpa using l2) (by simpa using l3))).turn, ⟨hz, hTI, ⟨_, _, _, hTO⟩, ItS.new g1, ItS.new g2, ItS.new g3⟩, fun c hcm => ?_, q z1 z2 z3⟩
        have hle : s1.heap.objs.size ≤ c := by
          simp at hcm
          rcases hcm with z | z | z | z | z | z <;> rw [z] <;> first | exact Nat.le_add_right _ _ | exact Nat.le_refl _
        exact I1.fpOk hle (I1.hok.fresh hle)
def iEnumG (K : Fr) (ta : TA) : TI := fun σ H R => ta σ H fun vs H1 => ∃ k a xs, vs = [.ref a] ∧ Sq k K H1 a xs ∧ (xs.length ≤ sizeLine → R (Je k K a) H1)
set_option maxHeartbeats 1000000 in
theorem meets_enum1 {v : Value} {o : Obj} {G : Heap → Prop} (B : Begins v o G) :
    Meets (Builtin.«enumerate.__new__» ⟨[.type "enumerate", v], []⟩) (fun _ R s => G s.heap ∧ R (.ok (.ret (.ref (s.heap.push o).objs.size)))
      { s with heap := (s.heap.push o).push { cls := .type "enumerate", data := .fields #[.none, .bool false, .ref s.heap.objs.size, rawInt 0, .none, .none] } }) :=
  .of_wp fun prog w A R s ⟨g1, hr⟩ => by
    obtain ⟨hp, gn, dr, tk, os⟩ := s
    have sub := sub_enumerate
    have q1 : ∀ {A' : Around} {E : Value → Shared → Prop} {Q : Value → Shared → Prop}, Q (.ref hp.objs.size) ⟨hp.push o, gn, dr, tk, os⟩ → wpAny (model prog w) A' (pyIter v) Q E ⟨hp, gn, dr, tk, os⟩ :=
      fun q => B.iter prog w _ _ ⟨hp, gn, dr, tk, os⟩ _ g1 q
    wp_walk using q1
    refine wpAny_stack_any fun st => wpAny_pure ?_
    split
    · rename_i c _ _ _ _ _
      cases (c == Value.type "enumerate") <;> (wp_walk using q1; exact ⟨_, rfl, hr⟩)
    · wp_walk using q1
      exact ⟨_, rfl, hr⟩
/-- enumerate(v): its two new cells, whatever is walked -/
theorem enum_begins1 {prog : Program} {w : World} {A : Around} {E : Value → Shared → Prop} {s : Shared} (k : Bool) {l : Addr} {items : Array Value} {Q : Value → Shared → Prop} (h1 : IsS k s.heap l items)
    (h : ∀ h', IsEnum h' (s.heap.objs.size + 1) s.heap.objs.size 0 .none → ItS k h' s.heap.objs.size l 0 → h'.objs.size = s.heap.objs.size + 2 →
      (∀ b o, s.heap.get? b = some o → h'.get? b = some o) → Q (.ref (s.heap.objs.size + 1)) { s with heap := h' }) :
    wpAny (model prog w) A (call (.type "enumerate") [.ref l]) Q E s := by
  refine callType_new F.called_enumerate (by decide) (F.typeCall_enumerate_1 (.ref l)) (F.newCall_enumerate_1 (.ref l)) (fun obj => F.args_object_init_2 obj (.ref l)) F.entry_enumerate_new (meets_enum1 (begins_s k l items)) ⟨h1, ?_⟩
  have hz : (s.heap.push (itO k l)).objs.size = s.heap.objs.size + 1 := Heap.size_push ..
  have fr := (begins_s k l items).free
  show _ ∧ _
  rw [hz]
  have he : IsEnum ((s.heap.push (itO k l)).push { cls := .type "enumerate", data := .fields #[.none, .bool false, .ref s.heap.objs.size, rawInt 0, .none, .none] }) (s.heap.objs.size + 1) s.heap.objs.size 0 .none := by
    have := Heap.get?_push_size (s.heap.push (itO k l)) (o := { cls := .type "enumerate", data := .fields #[.none, .bool false, .ref s.heap.objs.size, rawInt 0, .none, .none] }) rfl
    rw [hz] at this; exact this
  exact ⟨⟨_, he, rfl⟩, h _ he (ItS.new (Heap.get?_push_of_some _ (Heap.get?_push_size _ fr))) (by rw [Heap.size_push, hz]) fun b o x => Heap.get?_push_of_some _ (Heap.get?_push_of_some _ x)⟩
theorem pi_enumG {e : Expr} {ta : TA} {p pos tpos : Pos} {elts : List Expr} {kk : Nat} (hg : Gl X "enumerate") (hm : X.mg "enumerate" = none) (ha : PA X [e] ta) (hs : starEach [e] X.env = (false, eval e X.env) :: starEach [] X.env) :
    PI X (.Tuple elts kk tpos) (.Call (.Name "enumerate" p) [e] [] pos) (iEnumG X.K ta) := by
  refine ⟨fun pins s σ H R I h => ?_⟩
  refine Call_ (ld_blt I hg hm boot_enumerate (PyProof.Rows.callWith_type1 (thn (ha.run pos pins s σ H _ I h) fun us s1 ⟨vs, H1, I1, r1, q1⟩ => ?_) hs rfl))
  obtain ⟨k, a, xs, ex, hq, q⟩ := q1
  subst ex
  cases r1 with
  | cons r rr =>
    cases rr
    cases r
    obtain ⟨its, rv, p', hz, l1⟩ := inv_sq I1 hq
    refine enum_begins1 k p' fun h' he hit hsz hk => wpAny_pyIter_enum he ?_
    have I2 : Inv X pins σ H1 { s1 with heap := h' } := I1.kept (t' := s1.toks) hk
    refine ⟨s1.heap.objs.size + 1, [s1.heap.objs.size + 1, s1.heap.objs.size], _, _, H1, rfl, I2, (src_enum k (Nat.ne_of_lt l1) (Nat.succ_ne_self _) ?_).turn, ⟨⟨.none, he⟩, hit⟩, fun b hb => ?_, q hz⟩
    · simp
      exact Nat.ne_of_gt (Nat.lt_succ_of_lt l1)
    · have e' : b = s1.heap.objs.size + 1 ∨ b = s1.heap.objs.size := by simpa using hb
      have hle : s1.heap.objs.size ≤ b := by
        rcases e' with z | z
        · rw [z]; exact Nat.le_add_right _ _
        · rw [z]; exact Nat.le_refl _
      exact I1.fpOk hle (I1.hok.fresh hle)
/-- a list or a tuple -/
def iSeq (K : Fr) (tl : TE) : TI := fun σ H R => tl σ H fun x H1 => ∃ k a xs, x = .ref a ∧ Sq k K H1 a xs ∧ (xs.length ≤ sizeLine → R (match k with | true => Itt K a | false => Itl K a) H1)
theorem pi_seq {tg l : Expr} {tl : TE} (hl : PE X l tl) : PI X tg l (iSeq X.K tl) := by
  refine ⟨fun pins s σ H R I h => ?_⟩
  refine thn (hl.run pins s σ H _ I h) fun v s1 ⟨x, H1, I1, r1, q1⟩ => ?_
  obtain ⟨k, a, xs, e, hq, q⟩ := q1
  subst e
  cases r1
  cases k with
  | true =>
    obtain ⟨its, rv, p, hz⟩ := I1.tuple hq
    refine wpAny_pyIter_tuple (show s1.heap.IsTuple a its.toArray from p) ?_
    refine ⟨s1.heap.objs.size, [s1.heap.objs.size], _, _, H1, rfl, I1.kept (t' := s1.toks) fun b o e => Heap.get?_push_of_some _ e, turn_tuple a _, ⟨_, Heap.get?_push_size _ rfl, rfl, rfl⟩, fun b hb => ?_, q hz⟩
    have e : b = s1.heap.objs.size := by simpa using hb
    subst e
    exact I1.fpOk (Nat.le_refl _) (I1.hok.fresh (Nat.le_refl _))
  | false =>
    obtain ⟨its, rv, p, hz⟩ := I1.list hq
    refine wpAny_pyIter_list p.isList ?_
    refine ⟨s1.heap.objs.size, [s1.heap.objs.size], _, _, H1, rfl, I1.kept (t' := s1.toks) fun b o e => Heap.get?_push_of_some _ e, turn_list a _, ⟨_, Heap.get?_push_size _ rfl, rfl, rfl⟩, fun b hb => ?_, q hz⟩
    have e : b = s1.heap.objs.size := by simpa using hb
    subst e
    exact I1.fpOk (Nat.le_refl _) (I1.hok.fresh (Nat.le_refl _))
/-! ### walks through data -/
/-- J goes through the data ds while E stands -/
structure DW (K : Fr) (J : L2.It) (E : List (V × D)) (ds : List PyData) : Prop where
  goes : ∀ i H, i < ds.length → Sep K H E → J.go i H
  stops : ∀ H, Sep K H E → J.stop ds.length H
  yields : ∀ i H x H' M, i < ds.length → Sep K H (E ++ M) → J.yld i H x H' → ∃ d, ds[i]? = some d ∧ Sep K H' ((x, .p d) :: (E ++ M))
  len : ds.length ≤ sizeLine
def tIt (K : Fr) (f : Env → Res (List PyData)) : TI := fun σ H R => ∃ r L T, EnvR σ r L ∧ Sep K H (L ++ T) ∧ ∃ ds r', f r = .ok ds r' ∧
  ∀ J H' L' E, EnvR σ r' L' → Sep K H' (E ++ (L' ++ T)) → DW K J E ds → R J H'
abbrev SI (X : Cx) (tg e : Expr) (f : Env → Res (List PyData)) : Prop := PI X tg e (tIt X.K f)
def seqK (k : Bool) (ds : List PyData) : PyData := match k with
  | true => .tuple ds
  | false => .list ds
theorem seq_k {d : PyData} {ds : List PyData} (h : seqOf d = some ds) : ∃ k, d = seqK k ds := by
  cases d <;> first | (cases h; done) | skip
  · cases h; exact ⟨false, rfl⟩
  · cases h; exact ⟨true, rfl⟩
theorem rep_sq {K : Fr} {H : Hp} {k : Bool} {ds : List PyData} {v : V} (h : Rep K H (seqK k ds) v) : ∃ a xs, v = .ref a ∧ Sq k K H a xs ∧ Reps K H ds xs := by
  cases k with
  | true =>
    obtain ⟨a, vs, e, f, r⟩ := h.tuple
    exact ⟨a, vs, e, SqT.of f, r⟩
  | false =>
    obtain ⟨a, vs, e, f, r⟩ := h.list
    exact ⟨a, vs, e, f.sq, r⟩
theorem dw_seq {K : Fr} (k : Bool) {a : Addr} {ds : List PyData} (hz : ds.length ≤ sizeLine) : DW K (match k with | true => Itt K a | false => Itl K a) [(.ref a, .p (seqK k ds))] ds := by
  have main : ∀ {H : Hp} {M : List (V × D)}, Sep K H ((.ref a, .p (seqK k ds)) :: M) → ∃ xs, Sq k K H a xs ∧ Reps K H ds xs := fun {H M} h => by
    obtain ⟨b, xs, e, f, r⟩ := rep_sq h.head_p
    cases e
    exact ⟨xs, f, r⟩
  refine ⟨fun i H hi h => ?_, fun H h => ?_, fun i H x H' M hi h y => ?_, hz⟩
  · obtain ⟨xs, f, r⟩ := main h
    have hx : i < xs.length := by rw [r.length]; exact hi
    cases k <;> exact ⟨xs, xs[i], f, by simp [hx]⟩
  · obtain ⟨xs, f, r⟩ := main h
    cases k <;> exact ⟨xs, f, by rw [r.length]; exact Nat.le_refl _⟩
  · obtain ⟨xs, f, r⟩ := main h
    have yy : H' = H ∧ xs[i]? = some x := by cases k <;> exact ⟨y.1, y.2 xs f⟩
    obtain ⟨rfl, y2⟩ := yy
    obtain ⟨d, e1, e2⟩ := r.getV y2
    exact ⟨d, e1, Sep.cons_p e2 h⟩
theorem si_seq {tg e : Expr} {f : Env → Res PyData} (h : SP X e f) : SI X tg e (fun r => seqR (f r)) := by
  refine pi_mo (pi_seq h) fun σ H R ⟨r, L, T, he, hs, ds, r', e1, q⟩ => ?_
  obtain ⟨d, r1, e2, e3⟩ := bind_ok e1
  obtain ⟨e4, rfl⟩ := ofO_ok e3
  refine ⟨r, L, T, he, hs, d, r', e2, fun v H' L' g1 g2 => ?_⟩
  obtain ⟨k, rfl⟩ := seq_k e4
  obtain ⟨a, xs, rfl, f, rr⟩ := rep_sq g2.head_p
  exact ⟨k, a, xs, rfl, f, fun hz => q _ H' L' [(.ref a, .p (seqK k ds))] g1 g2 (dw_seq k (by rw [← rr.length]; exact hz))⟩
theorem rng_len (a b : Int) : (rngL a b).length = (b - a).toNat := by unfold rngL; simp
theorem rng_get {a b : Int} {i : Nat} (h : i < (b - a).toNat) : (rngL a b)[i]? = some (.int (a + (i : Nat))) := by unfold rngL; simp [h]
theorem dw_rng {K : Fr} {a b : Int} (h : rngOk a b = true) : DW K (Itr a (b - a).toNat) [] (rngL a b) := by
  unfold rngOk at h
  have h := of_decide_eq_true h
  refine ⟨fun i H hi _ => by rw [rng_len] at hi; exact hi, fun H _ => by rw [rng_len]; exact Nat.le_refl _, fun i H x H' M hi hs y => ?_, by rw [rng_len]; omega⟩
  rw [rng_len] at hi
  obtain ⟨rfl, rfl⟩ := y
  exact ⟨_, rng_get hi, sep_int _ hs⟩
theorem si_rng1 {tg a : Expr} {p pos : Pos} {fa : Env → Res Arg} (ha : SA X a fa) (hg : Gl X "range") (hm : X.mg "range" = none) (h1 : starEach (a :: []) X.env = (false, eval a X.env) :: starEach [] X.env) :
    SI X tg (.Call (.Name "range" p) [a] [] pos) (fun r => (intR (fa r)).bind fun i r1 => if rngOk 0 i then .ok (rngL 0 i) r1 else .bad) := by
  refine pi_mo (pi_range1 hg hm (pa_cons (si_of ha) pa_nil h1) h1) fun σ H R ⟨r, L, T, he, hs, ds, r', e1, q⟩ => ?_
  obtain ⟨i, r1, e2, e3⟩ := bind_ok e1
  split at e3
  · rename_i hz
    cases e3
    refine ⟨r, L, T, he, hs, i, r', e2, fun H' L' g1 g2 => ⟨i, rfl, ?_⟩⟩
    have hz' := hz
    unfold rngOk at hz'
    have hz' := of_decide_eq_true hz'
    refine ⟨by omega, by omega, ?_⟩
    have := dw_rng (K := X.K) hz
    rw [show (i - 0) = i by omega] at this
    exact q _ H' L' [] g1 g2 this
  · cases e3
theorem si_rng2 {tg a b : Expr} {p pos : Pos} {fa fb : Env → Res Arg} (ha : SA X a fa) (hb : SA X b fb) (hg : Gl X "range") (hm : X.mg "range" = none)
    (h1 : starEach (a :: [b]) X.env = (false, eval a X.env) :: starEach [b] X.env) (h2 : starEach (b :: []) X.env = (false, eval b X.env) :: starEach [] X.env) :
    SI X tg (.Call (.Name "range" p) [a, b] [] pos) (fun r => (intR (fa r)).bind fun i r1 => (intR (fb r1)).bind fun j r2 => if rngOk i j then .ok (rngL i j) r2 else .bad) := by
  refine pi_mo (pi_range2 hg hm (pa_cons (si_of ha) (pa_cons (si_of hb) pa_nil h2) h1) (by rw [h1, h2]; rfl) h2) fun σ H R ⟨r, L, T, he, hs, ds, r', e1, q⟩ => ?_
  obtain ⟨i, r1, e2, e3⟩ := bind_ok e1
  obtain ⟨j, r2, e4, e5⟩ := bind_ok e3
  split at e5
  · rename_i hz
    cases e5
    refine ⟨r, L, T, he, hs, i, r1, e2, fun H' L' g1 g2 => ?_⟩
    refine ⟨r1, L', T, g1, g2, j, r', e4, fun H'' L'' k1 k2 => ?_⟩
    have hz' := hz
    unfold rngOk at hz'
    have hz' := of_decide_eq_true hz'
    exact ⟨i, j, rfl, ⟨by omega, by omega, by omega, by omega⟩, q _ H'' L'' [] k1 k2 (dw_rng (K := X.K) hz)⟩
  · cases e5
end
end Dl

set_option Elab.async false
set_option linter.all false
set_option maxRecDepth 100000
/-! zip, enumerate as data; targets; comprehensions -/
namespace Dl
open PySem PySem.Spec PyProof.Rows L2
section
variable {X : Cx}
theorem zipP_get {xs ys : List PyData} {i : Nat} {x y : PyData} (h1 : xs[i]? = some x) (h2 : ys[i]? = some y) : (zipP xs ys)[i]? = some (.tuple [x, y]) := by
  unfold zipP; rw [List.getElem?_zipWith, h1, h2]
theorem zipP_len (xs ys : List PyData) : (zipP xs ys).length = min xs.length ys.length := by unfold zipP; rw [List.length_zipWith]
theorem zip3P_get {xs ys zs : List PyData} {i : Nat} {x y z : PyData} (h1 : xs[i]? = some x) (h2 : ys[i]? = some y) (h3 : zs[i]? = some z) : (zip3P xs ys zs)[i]? = some (.tuple [x, y, z]) := by
  have e : (List.zip ys zs)[i]? = some (y, z) := by unfold List.zip; rw [List.getElem?_zipWith, h2, h3]
  unfold zip3P; rw [List.getElem?_zipWith, h1, e]
theorem zip3P_len (xs ys zs : List PyData) : (zip3P xs ys zs).length = min (min xs.length ys.length) zs.length := by unfold zip3P; rw [List.length_zipWith, List.length_zip]; omega
theorem enumP_get : ∀ {xs : List PyData} {k i : Nat} {x : PyData}, xs[i]? = some x → (enumP k xs)[i]? = some (.tuple [.int ((k + i : Nat)), x])
  | [], k, i, x, h => by simp at h
  | y :: xs, k, 0, x, h => by simp at h; subst h; unfold enumP; simp
  | y :: xs, k, i + 1, x, h => by
    unfold enumP
    rw [List.getElem?_cons_succ]
    rw [enumP_get (by simpa using h), show k + 1 + i = k + (i + 1) by omega]
theorem enumP_len : ∀ (xs : List PyData) (k : Nat), (enumP k xs).length = xs.length
  | [], k => rfl
  | y :: xs, k => by unfold enumP; rw [List.length_cons, List.length_cons, enumP_len xs]
/-- something held as the sequence ds -/
theorem sep_sq {K : Fr} {H : Hp} {k : Bool} {ds : List PyData} {a : Addr} {L : List (V × D)} (h : Sep K H L) (m : ((.ref a, .p (seqK k ds)) : V × D) ∈ L) : ∃ xs, Sq k K H a xs ∧ Reps K H ds xs := by
  obtain ⟨b, xs, e, f, r⟩ := rep_sq (h.memP m)
  cases e
  exact ⟨xs, f, r⟩
theorem dw_zip2 {K : Fr} {k1 k2 : Bool} {a b : Addr} {xs ys : List PyData} (hz : xs.length ≤ sizeLine) : DW K (J2 k1 k2 K a b) [(.ref a, .p (seqK k1 xs)), (.ref b, .p (seqK k2 ys))] (zipP xs ys) := by
  refine ⟨fun i H hi h => ?_, fun H h => ?_, fun i H v H' M hi h y => ?_, by rw [zipP_len]; omega⟩
  · obtain ⟨us, f1, r1⟩ := sep_sq (k := k1) (ds := xs) (a := a) h (by simp)
    obtain ⟨ws, f2, r2⟩ := sep_sq (k := k2) (ds := ys) (a := b) h (by simp)
    rw [zipP_len] at hi
    have h1 : i < us.length := by rw [r1.length]; omega
    have h2 : i < ws.length := by rw [r2.length]; omega
    exact ⟨us, ws, us[i], ws[i], f1, f2, by simp [h1], by simp [h2]⟩
  · obtain ⟨us, f1, r1⟩ := sep_sq (k := k1) (ds := xs) (a := a) h (by simp)
    obtain ⟨ws, f2, r2⟩ := sep_sq (k := k2) (ds := ys) (a := b) h (by simp)
    exact ⟨us, ws, f1, f2, by rw [r1.length, r2.length, zipP_len]⟩
  · obtain ⟨us, f1, r1⟩ := sep_sq (k := k1) (ds := xs) (a := a) h (by simp)
    obtain ⟨ws, f2, r2⟩ := sep_sq (k := k2) (ds := ys) (a := b) h (by simp)
    obtain ⟨T, x, y, rfl, hn, rfl, q1, q2⟩ := y
    obtain ⟨d1, e1, p1⟩ := r1.getV (q1 us f1)
    obtain ⟨d2, e2, p2⟩ := r2.getV (q2 ws f2)
    exact ⟨_, zipP_get e1 e2, h.new_tup hn (Reps.cons p1 (Reps.cons p2 Reps.nil))⟩
theorem dw_zip3 {K : Fr} {k1 k2 k3 : Bool} {a b c : Addr} {xs ys zs : List PyData} (hz : xs.length ≤ sizeLine) : DW K (J3 k1 k2 k3 K a b c) [(.ref a, .p (seqK k1 xs)), (.ref b, .p (seqK k2 ys)), (.ref c, .p (seqK k3 zs))] (zip3P xs ys zs) := by
  refine ⟨fun i H hi h => ?_, fun H h => ?_, fun i H v H' M hi h y => ?_, by rw [zip3P_len]; omega⟩
  · obtain ⟨us, f1, r1⟩ := sep_sq (k := k1) (ds := xs) (a := a) h (by simp)
    obtain ⟨ws, f2, r2⟩ := sep_sq (k := k2) (ds := ys) (a := b) h (by simp)
    obtain ⟨ts, f3, r3⟩ := sep_sq (k := k3) (ds := zs) (a := c) h (by simp)
    rw [zip3P_len] at hi
    have h1 : i < us.length := by rw [r1.length]; omega
    have h2 : i < ws.length := by rw [r2.length]; omega
    have h3 : i < ts.length := by rw [r3.length]; omega
    exact ⟨us, ws, ts, us[i], ws[i], ts[i], f1, f2, f3, by simp [h1], by simp [h2], by simp [h3]⟩
  · obtain ⟨us, f1, r1⟩ := sep_sq (k := k1) (ds := xs) (a := a) h (by simp)
    obtain ⟨ws, f2, r2⟩ := sep_sq (k := k2) (ds := ys) (a := b) h (by simp)
    obtain ⟨ts, f3, r3⟩ := sep_sq (k := k3) (ds := zs) (a := c) h (by simp)
    exact ⟨us, ws, ts, f1, f2, f3, by rw [r1.length, r2.length, r3.length, zip3P_len]⟩
  · obtain ⟨us, f1, r1⟩ := sep_sq (k := k1) (ds := xs) (a := a) h (by simp)
    obtain ⟨ws, f2, r2⟩ := sep_sq (k := k2) (ds := ys) (a := b) h (by simp)
    obtain ⟨ts, f3, r3⟩ := sep_sq (k := k3) (ds := zs) (a := c) h (by simp)
    obtain ⟨T, x, y, z, rfl, hn, rfl, q1, q2, q3⟩ := y
    obtain ⟨d1, e1, p1⟩ := r1.getV (q1 us f1)
    obtain ⟨d2, e2, p2⟩ := r2.getV (q2 ws f2)
    obtain ⟨d3, e3, p3⟩ := r3.getV (q3 ts f3)
    exact ⟨_, zip3P_get e1 e2 e3, h.new_tup hn (Reps.cons p1 (Reps.cons p2 (Reps.cons p3 Reps.nil)))⟩
theorem dw_enum {K : Fr} {k : Bool} {a : Addr} {xs : List PyData} (hz : xs.length ≤ sizeLine) : DW K (Je k K a) [(.ref a, .p (seqK k xs))] (enumP 0 xs) := by
  refine ⟨fun i H hi h => ?_, fun H h => ?_, fun i H v H' M hi h y => ?_, by rw [enumP_len]; exact hz⟩
  · obtain ⟨us, f1, r1⟩ := sep_sq (k := k) (ds := xs) (a := a) h (by simp)
    rw [enumP_len] at hi
    have h1 : i < us.length := by rw [r1.length]; omega
    exact ⟨us, us[i], f1, by simp [h1]⟩
  · obtain ⟨us, f1, r1⟩ := sep_sq (k := k) (ds := xs) (a := a) h (by simp)
    exact ⟨us, f1, by rw [r1.length, enumP_len]⟩
  · obtain ⟨us, f1, r1⟩ := sep_sq (k := k) (ds := xs) (a := a) h (by simp)
    obtain ⟨T, x, rfl, hn, rfl, q1⟩ := y
    obtain ⟨d1, e1, p1⟩ := r1.getV (q1 us f1)
    have := enumP_get (k := 0) e1
    rw [Nat.zero_add] at this
    exact ⟨_, this, h.new_tup hn (Reps.cons (.of_int _) (Reps.cons p1 Reps.nil))⟩
theorem si_zip2 {a b : Expr} {p pos tpos : Pos} {elts : List Expr} {kk : Nat} {fa fb : Env → Res PyData} (ha : SP X a fa) (hb : SP X b fb) (hg : Gl X "zip") (hm : X.mg "zip" = none)
    (h1 : starEach (a :: [b]) X.env = (false, eval a X.env) :: starEach [b] X.env) (h2 : starEach (b :: []) X.env = (false, eval b X.env) :: starEach [] X.env) :
    SI X (.Tuple elts kk tpos) (.Call (.Name "zip" p) [a, b] [] pos) (fun r => (fa r).bind fun x r1 => (fb r1).bind fun y r2 => ofO (zipK x y) r2) := by
  refine pi_mo (pi_zip2 hg hm (pa_cons ha (pa_cons hb pa_nil h2) h1) h1 (plus_two h2)) fun σ H R ⟨r, L, T, he, hs, ds, r', e1, q⟩ => ?_
  obtain ⟨x, r1, e2, e3⟩ := bind_ok e1
  obtain ⟨y, r2, e4, e5⟩ := bind_ok e3
  obtain ⟨e6, rfl⟩ := ofO_ok e5
  obtain ⟨xs, e7, e8⟩ := Option.bind_eq_some_iff.mp e6
  obtain ⟨ys, e9, rfl⟩ := Option.map_eq_some_iff.mp e8
  obtain ⟨k1, rfl⟩ := seq_k e7
  obtain ⟨k2, rfl⟩ := seq_k e9
  refine ⟨r, L, T, he, hs, _, r1, e2, fun v H1 L1 g1 g2 => ?_⟩
  refine ⟨r1, L1, (v, .p (seqK k1 xs)) :: T, g1, Sep.from_front g2, _, r', e4, fun u H2 L2 j1 j2 => ?_⟩
  have j3 := Sep.to_front (x := (v, .p (seqK k1 xs))) (L := (u, .p (seqK k2 ys)) :: L2) (M := T) j2
  obtain ⟨a, us, rfl, f1, q1⟩ := rep_sq (j3.memP (v := v) (d := seqK k1 xs) (by simp))
  obtain ⟨b, ws, rfl, f2, q2⟩ := rep_sq (j3.memP (v := u) (d := seqK k2 ys) (by simp))
  exact ⟨k1, k2, a, b, us, ws, rfl, f1, f2, fun z1 z2 => q _ H2 L2 [(.ref a, .p (seqK k1 xs)), (.ref b, .p (seqK k2 ys))] j1 j3 (dw_zip2 (by rw [← q1.length]; exact z1))⟩
theorem plus_three {pos : Pos} {b c : Expr} (h1 : starEach (b :: [c]) X.env = (false, eval b X.env) :: starEach [c] X.env) (h2 : starEach (c :: []) X.env = (false, eval c X.env) :: starEach [] X.env) : (backTo pos (starEach [b, c] X.env)).any (·.1) = false := by rw [h1, h2]; rfl
theorem si_zip3 {a b c : Expr} {p pos tpos : Pos} {elts : List Expr} {kk : Nat} {fa fb fc : Env → Res PyData} (ha : SP X a fa) (hb : SP X b fb) (hc : SP X c fc) (hg : Gl X "zip") (hm : X.mg "zip" = none)
    (h1 : starEach (a :: [b, c]) X.env = (false, eval a X.env) :: starEach [b, c] X.env) (h2 : starEach (b :: [c]) X.env = (false, eval b X.env) :: starEach [c] X.env) (h3 : starEach (c :: []) X.env = (false, eval c X.env) :: starEach [] X.env) :
    SI X (.Tuple elts kk tpos) (.Call (.Name "zip" p) [a, b, c] [] pos) (fun r => (fa r).bind fun x r1 => (fb r1).bind fun y r2 => (fc r2).bind fun z r3 => ofO (zip3K x y z) r3) := by
  refine pi_mo (pi_zip3 hg hm (pa_cons ha (pa_cons hb (pa_cons hc pa_nil h3) h2) h1) h1 (plus_three h2 h3)) fun σ H R ⟨r, L, T, he, hs, ds, r', e1, q⟩ => ?_
  obtain ⟨x, r1, e2, e3⟩ := bind_ok e1
  obtain ⟨y, r2, e4, e5⟩ := bind_ok e3
  obtain ⟨z, r3, e6, e7⟩ := bind_ok e5
  obtain ⟨e8, rfl⟩ := ofO_ok e7
  obtain ⟨xs, i1, e9⟩ := Option.bind_eq_some_iff.mp e8
  obtain ⟨ys, i2, e10⟩ := Option.bind_eq_some_iff.mp e9
  obtain ⟨zs, i3, rfl⟩ := Option.map_eq_some_iff.mp e10
  obtain ⟨k1, rfl⟩ := seq_k i1
  obtain ⟨k2, rfl⟩ := seq_k i2
  obtain ⟨k3, rfl⟩ := seq_k i3
  refine ⟨r, L, T, he, hs, _, r1, e2, fun v H1 L1 g1 g2 => ?_⟩
  refine ⟨r1, L1, (v, .p (seqK k1 xs)) :: T, g1, Sep.from_front g2, _, r2, e4, fun u H2 L2 j1 j2 => ?_⟩
  refine ⟨r2, L2, (u, .p (seqK k2 ys)) :: (v, .p (seqK k1 xs)) :: T, j1, Sep.from_front j2, _, r', e6, fun w H3 L3 m1 m2 => ?_⟩
  have m3 : Sep X.K H3 ((v, .p (seqK k1 xs)) :: (u, .p (seqK k2 ys)) :: (w, .p (seqK k3 zs)) :: (L3 ++ T)) := m2.perm (by
    refine List.Perm.trans (List.Perm.cons _ (List.perm_middle.trans (List.Perm.cons _ List.perm_middle))) ?_
    refine List.Perm.trans (List.Perm.swap _ _ _) ?_
    refine List.Perm.trans (List.Perm.cons _ (List.Perm.swap _ _ _)) ?_
    exact List.Perm.swap _ _ _)
  obtain ⟨a, us, rfl, f1, q1⟩ := rep_sq (m3.memP (v := v) (d := seqK k1 xs) (by simp))
  obtain ⟨b, ws, rfl, f2, q2⟩ := rep_sq (m3.memP (v := u) (d := seqK k2 ys) (by simp))
  obtain ⟨c, ts, rfl, f3, q3⟩ := rep_sq (m3.memP (v := w) (d := seqK k3 zs) (by simp))
  exact ⟨k1, k2, k3, a, b, c, us, ws, ts, rfl, f1, f2, f3, fun z1 z2 z3 => q _ H3 L3 [(.ref a, .p (seqK k1 xs)), (.ref b, .p (seqK k2 ys)), (.ref c, .p (seqK k3 zs))] m1 m3 (dw_zip3 (by rw [← q1.length]; exact z1))⟩
theorem si_enum {a : Expr} {p pos tpos : Pos} {elts : List Expr} {kk : Nat} {fa : Env → Res PyData} (ha : SP X a fa) (hg : Gl X "enumerate") (hm : X.mg "enumerate" = none)
    (h1 : starEach (a :: []) X.env = (false, eval a X.env) :: starEach [] X.env) : SI X (.Tuple elts kk tpos) (.Call (.Name "enumerate" p) [a] [] pos) (fun r => (fa r).bind fun x r1 => ofO (enumK x) r1) := by
  refine pi_mo (pi_enumG hg hm (pa_cons ha pa_nil h1) h1) fun σ H R ⟨r, L, T, he, hs, ds, r', e1, q⟩ => ?_
  obtain ⟨x, r1, e2, e3⟩ := bind_ok e1
  obtain ⟨e6, rfl⟩ := ofO_ok e3
  obtain ⟨xs, e7, rfl⟩ := Option.map_eq_some_iff.mp e6
  obtain ⟨k1, rfl⟩ := seq_k e7
  refine ⟨r, L, T, he, hs, _, r', e2, fun v H1 L1 g1 g2 => ?_⟩
  obtain ⟨a, us, rfl, f1, q1⟩ := rep_sq (g2.memP (v := v) (d := seqK k1 xs) (by simp))
  exact ⟨k1, a, us, rfl, f1, fun z1 => q _ H1 L1 [(.ref a, .p (seqK k1 xs))] g1 g2 (dw_enum (by rw [← q1.length]; exact z1))⟩
end
end Dl

set_option Elab.async false
set_option linter.all false
set_option maxRecDepth 100000
/-! targets; list comprehensions -/
namespace Dl
open PySem PySem.Spec PyProof.Rows L2
def tGt (K : Fr) (lk : List Nat) (tg : Tg) : TG := fun v σ H Q => ∃ d r L T r', EnvR σ r L ∧ Sep K H ((v, .p d) :: (L ++ T)) ∧ asgT lk tg d r = some r' ∧
  ∀ σ' L', EnvR σ' r' L' → σ'.length = σ.length → (∀ i, i ∉ tgIx tg → σ'[i]? = σ[i]?) → Sep K H (L' ++ T) → Q σ' H
def tGts (K : Fr) (lk : List Nat) (ts : List Tg) : TGs := fun vs σ H Q => ∃ ds r L T r', EnvR σ r L ∧ Reps K H ds vs ∧ Sep K H (L ++ T) ∧ asgTs lk ts ds r = some r' ∧
  ∀ σ' L', EnvR σ' r' L' → σ'.length = σ.length → (∀ i, i ∉ tgIxs ts → σ'[i]? = σ[i]?) → Sep K H (L' ++ T) → Q σ' H
theorem pg_mo' {X : Cx} {e : Expr} {t t' : TG} (h : PG X e t) (i : ∀ v σ H Q, t' v σ H Q → t v σ H Q) : PG X e t' := pg_mo h i
theorem pgs_mo {X : Cx} {e : List Expr} {t t' : TGs} (h : PGs X e t) (i : ∀ v σ H Q, t' v σ H Q → t v σ H Q) : PGs X e t' := ⟨fun pins s σ H v u Q I r q => h.run pins s σ H v u Q I r (i _ _ _ _ q)⟩
/-- a slot stored to, there or not -/
theorem EnvR.put {σ : L2.St} {r : Env} {L : List (V × D)} (h : EnvR σ r L) (i : Nat) (v : V) (d : D) :
    ∃ L', EnvR (σ.set i (some v)) (r.set i (some d)) L' ∧ ∀ K H T, Sep K H ((v, d) :: (L ++ T)) → Sep K H (L' ++ T) := by
  by_cases hi : i < r.length
  · obtain ⟨L1, L2, h1, h2⟩ := h.store i v d hi
    refine ⟨_, h1, fun K H T hs => ?_⟩
    rw [List.append_assoc]
    refine Sep.from_front ?_
    show Sep K H ((v, d) :: (L1 ++ (L2 ++ T)))
    rw [← List.append_assoc]
    exact hs.sub ((List.Sublist.append h2 (List.Sublist.refl T)).cons_cons _)
  · refine ⟨L, ?_, fun K H T hs => hs.tail⟩
    rw [List.set_eq_of_length_le (by rw [h.len]; omega), List.set_eq_of_length_le (by omega)]
    exact h
section
variable {X : Cx}
theorem pg_v {i : Nat} {e : Expr} (lk : List Nat) (h : PG X e (gName i)) : PG X e (tGt X.K lk (.v i)) := by
  refine pg_mo h fun v σ H Q ⟨d, r, L, T, r', he, hs, e1, q⟩ => ?_
  unfold asgT at e1
  split at e1
  · cases e1
  · cases e1
    obtain ⟨L', h1, h2⟩ := he.put i v (.p d)
    refine q _ L' h1 (by rw [List.length_set]) (fun j hj => ?_) (h2 _ _ _ hs)
    rw [List.getElem?_set_ne]
    intro z
    exact hj (by unfold tgIx; simp [z])
theorem pgs_n (lk : List Nat) : PGs X [] (tGts X.K lk []) := by
  refine pgs_mo pgs_nil fun vs σ H Q ⟨ds, r, L, T, r', he, hr, hs, e1, q⟩ => ?_
  cases ds with
  | nil =>
    unfold asgTs at e1
    cases e1
    exact ⟨hr.of_nil, q σ L he rfl (fun _ _ => rfl) hs⟩
  | cons d ds => cases e1
theorem pgs_c {e : Expr} {es : List Expr} {t : Tg} {ts : List Tg} {lk : List Nat} (h1 : PG X e (tGt X.K lk t)) (h2 : PGs X es (tGts X.K lk ts))
    (hs : (assignEach (e :: es) X.env).map (·.2) = assign e X.env :: (assignEach es X.env).map (·.2)) : PGs X (e :: es) (tGts X.K lk (t :: ts)) := by
  refine pgs_mo (pgs_cons h1 h2 hs) fun vs σ H Q ⟨ds, r, L, T, r', he, hr, hsp, e1, q⟩ => ?_
  cases ds with
  | nil => cases e1
  | cons d ds =>
    unfold asgTs at e1
    obtain ⟨r1, e2, e3⟩ := Option.bind_eq_some_iff.mp e1
    obtain ⟨v, us, rfl, p1, p2⟩ := hr.uncons
    refine ⟨v, us, rfl, d, r, L, T, r1, he, Sep.cons_p p1 hsp, e2, fun σ' L' g1 g2 g3 g4 => ?_⟩
    refine ⟨ds, r1, L', T, r', g1, p2, g4, e3, fun σ'' L'' k1 k2 k3 k4 => q σ'' L'' k1 (k2.trans g2) (fun i hi => ?_) k4⟩
    unfold tgIxs at hi
    rw [List.mem_append, not_or] at hi
    rw [k3 i hi.2, g3 i hi.1]
theorem pg_t {es : List Expr} {k : Nat} {pos : Pos} {ts : List Tg} {lk : List Nat} (hc : X.calm = true) (h : PGs X es (tGts X.K lk ts))
    (hn : (assignEach es X.env).length = ts.length) (hst : (assignEach es X.env).findIdx? (·.1) = none) : PG X (.Tuple es k pos) (tGt X.K lk (.t ts)) := by
  refine pg_mo (pg_tup hc h hn hst) fun v σ H Q ⟨d, r, L, T, r', he, hs, e1, q⟩ => ?_
  unfold asgT at e1
  split at e1
  · rename_i ds
    obtain ⟨a, xs, rfl, f, rr⟩ := (hs.head_p).tuple
    have hl : ∀ {ts : List Tg} {ds : List PyData} {r r' : Env}, asgTs lk ts ds r = some r' → ts.length = ds.length := by
      intro ts
      induction ts with
      | nil => intro ds r r' e; cases ds with
        | nil => rfl
        | cons d ds => cases e
      | cons t ts ih => intro ds r r' e; cases ds with
        | nil => cases e
        | cons d ds =>
          unfold asgTs at e
          obtain ⟨r1, e2, e3⟩ := Option.bind_eq_some_iff.mp e
          simp [ih e3]
    refine ⟨a, xs, rfl, SqT.of f, by rw [rr.length, hl e1], ds, r, L, T, r', he, rr, hs.tail, e1, fun σ' L' g1 g2 g3 g4 => q σ' L' g1 g2 (fun i hi => g3 i ?_) g4⟩
    unfold tgIx at hi
    exact hi
  · cases e1
end
theorem wipe_ext {σ σ' : L2.St} {vs : List Nat} (hl : σ'.length = σ.length) (h : ∀ i, i ∉ vs → σ'[i]? = σ[i]?) : L2.wipe σ' vs = L2.wipe σ vs := by
  have key : ∀ (i : Nat) (σ : L2.St) (vs : List Nat), i ∈ vs → (L2.wipe σ vs)[i]? = if i < σ.length then some none else none := by
    intro i σ vs
    induction vs with
    | nil => intro h; cases h
    | cons v vs ih =>
      intro hm
      unfold L2.wipe
      by_cases e : v = i
      · subst e
        rw [List.getElem?_set, if_pos rfl, L2.wipe_length]
      · rw [List.getElem?_set_ne e]
        exact ih (by rcases List.mem_cons.mp hm with z | z; exact absurd z.symm e; exact z)
  refine List.ext_getElem? fun i => ?_
  by_cases hi : i ∈ vs
  · rw [key i σ' vs hi, key i σ vs hi, hl]
  · rw [wipe_get hi, wipe_get hi, h i hi]
theorem wipe_sub {σ : L2.St} {vs us : List Nat} (h : ∀ i ∈ us, i ∈ vs) : L2.wipe (L2.wipe σ us) vs = L2.wipe σ vs :=
  wipe_ext (L2.wipe_length _ _) fun i hi => wipe_get fun m => hi (h i m)
theorem wipe_wipe {σ : L2.St} {vs : List Nat} : L2.wipe (L2.wipe σ vs) vs = L2.wipe σ vs := wipe_sub fun _ m => m
theorem wipeE_get {r : Env} {i : Nat} : ∀ {vs : List Nat}, i ∉ vs → (wipeE r vs)[i]? = r[i]?
  | [], _ => rfl
  | j :: vs, h => by
    unfold wipeE
    rw [List.getElem?_set_ne (fun e => h (by rw [e]; simp))]
    exact wipeE_get fun m => h (List.mem_cons_of_mem _ m)
theorem wipeE_ext {r r' : Env} {vs : List Nat} (hl : r'.length = r.length) (h : ∀ i, i ∉ vs → r'[i]? = r[i]?) : wipeE r' vs = wipeE r vs := by
  have key : ∀ (i : Nat) (r : Env) (vs : List Nat), i ∈ vs → (wipeE r vs)[i]? = if i < r.length then some none else none := by
    intro i r vs
    induction vs with
    | nil => intro h; cases h
    | cons v vs ih =>
      intro hm
      unfold wipeE
      by_cases e : v = i
      · subst e
        rw [List.getElem?_set, if_pos rfl, wipeE_len]
      · rw [List.getElem?_set_ne e]
        exact ih (by rcases List.mem_cons.mp hm with z | z; exact absurd z.symm e; exact z)
  refine List.ext_getElem? fun i => ?_
  by_cases hi : i ∈ vs
  · rw [key i r' vs hi, key i r vs hi, hl]
  · rw [wipeE_get hi, wipeE_get hi, h i hi]
theorem wipeE_sub {r : Env} {vs us : List Nat} (h : ∀ i ∈ us, i ∈ vs) : wipeE (wipeE r us) vs = wipeE r vs :=
  wipeE_ext (wipeE_len _ _) fun i hi => wipeE_get fun m => hi (h i m)
/-- what a comprehension's turns leave is known where the block began -/
theorem EnvR.out {σ : L2.St} {r : Env} {L : List (V × D)} {vs : List Nat} (h : EnvR (L2.wipe σ vs) (wipeE r vs) L) : EnvR σ (wipeE r vs) L :=
  h.other (L2.wipe_length _ _).symm fun i d e => (wipe_get (getS_wipe e).2).symm
theorem walk_dw {K : Fr} {J : L2.It} {E : List (V × D)} {ds : List PyData} (w : DW K J E ds) : L2.Walk J ds.length (fun H => Sep K H E) (fun i H x H' => J.yld i H x H') :=
  ⟨fun i H hi h => w.goes i H hi h, fun H h => w.stops H h, fun _ _ _ _ _ _ y => y⟩
theorem drop_get {α : Type} {l : List α} {i : Nat} {x : α} (h : l[i]? = some x) : l.drop i = x :: l.drop (i + 1) := by
  obtain ⟨hi, rfl⟩ := List.getElem?_eq_some_iff.mp h
  exact List.drop_eq_getElem_cons hi
/-- [elt for tg in it if cond] -/
def lcF (fi : Env → Res (List PyData)) (tg : Tg) (fc : Env → Res Bool) (fe : Env → Res PyData) (vs : List Nat) (r : Env) : Res D :=
  (fi r).bind fun xs r1 => (lcLoop vs (asgT [] tg) fc fe xs r1).bind fun ds r2 => .ok (.o (.list ds)) (wipeE r2 vs)
theorem lc_turn {vs : List Nat} {asg : PyData → Env → Option Env} {fc : Env → Res Bool} {fe : Env → Res PyData} {x : PyData} {xs ys : List PyData} {r r' : Env} (h : lcLoop vs asg fc fe (x :: xs) r = .ok ys r') :
    ∃ r1 b r2, asg x (wipeE r vs) = some r1 ∧ fc r1 = .ok b r2 ∧ (if b = true then ∃ y r3 zs, fe r2 = .ok y r3 ∧ ys = y :: zs ∧ lcLoop vs asg fc fe xs r3 = .ok zs r' else lcLoop vs asg fc fe xs r2 = .ok ys r') := by
  unfold lcLoop at h
  split at h
  · cases h
  · rename_i r1 e1
    obtain ⟨b, r2, e2, e3⟩ := bind_ok h
    refine ⟨r1, b, r2, e1, e2, ?_⟩
    cases b with
    | true =>
      simp only [if_true] at e3 ⊢
      obtain ⟨y, r3, e4, e5⟩ := bind_ok e3
      obtain ⟨zs, r4, e6, e7⟩ := bind_ok e5
      cases e7
      exact ⟨y, r3, zs, e4, rfl, e6⟩
    | false =>
      simp only [Bool.false_eq_true, if_false] at e3 ⊢
      exact e3
theorem lcLoop_len {vs : List Nat} {asg : PyData → Env → Option Env} {fc : Env → Res Bool} {fe : Env → Res PyData} : ∀ {xs ys : List PyData} {r r' : Env}, lcLoop vs asg fc fe xs r = .ok ys r' → ys.length ≤ xs.length
  | [], ys, r, r', h => by cases h; exact Nat.le_refl _
  | x :: xs, ys, r, r', h => by
    obtain ⟨r1, b, r2, e1, e2, e3⟩ := lc_turn h
    cases b with
    | true =>
      simp only [if_true] at e3
      obtain ⟨y, r3, zs, e4, rfl, e6⟩ := e3
      have := lcLoop_len e6
      simp; omega
    | false =>
      simp only [Bool.false_eq_true, if_false] at e3
      have := lcLoop_len e3
      simp; omega
theorem tlc_of {K : Fr} {fi : Env → Res (List PyData)} {tg : Tg} {fc : Env → Res Bool} {fe : Env → Res PyData} {vs : List Nat} (hsub : ∀ i ∈ tgIx tg, i ∈ vs) {σ : L2.St} {H : Hp} {Q : VK}
    (h : tE K (lcF fi tg fc fe vs) σ H Q) : tLc (tIt K fi) (tGt K [] tg) (tT K fc) (tP K fe) vs σ H Q := by
  obtain ⟨r, L, T, he, hs, d, r', e1, q⟩ := h
  obtain ⟨xs, r1, e2, e3⟩ := bind_ok e1
  obtain ⟨ds, r2, e4, e5⟩ := bind_ok e3
  cases e5
  refine ⟨r, L, T, he, hs, xs, r1, e2, fun J H1 L1 E g1 g2 dw => fun A hA => ?_⟩
  refine L2.lc_it (walk_dw dw) (fun i H => ∃ ra La acc ys, EnvR (L2.wipe σ vs) (wipeE ra vs) La ∧ Sep K H ((.ref A, .o (.list acc)) :: (E ++ (La ++ T))) ∧ lcLoop vs (asgT [] tg) fc fe (xs.drop i) ra = .ok ys r2 ∧ acc ++ ys = ds ∧ acc.length ≤ i) ?_ ?_ ?_ ?_
  · obtain ⟨La, h1, h2⟩ := g1.wipe vs
    refine ⟨r1, La, [], ds, h1, ?_, by rw [List.drop_zero]; exact e4, rfl, Nat.le_refl _⟩
    exact Sep.sub ((List.Sublist.append (List.Sublist.refl E) (List.Sublist.append h2 (List.Sublist.refl T))).cons_cons _) (g2.new_lst hA Reps.nil)
  · rintro i H hi ⟨ra, La, acc, ys, a1, a2, a3, a4, a5⟩
    exact a2.sub ((List.sublist_append_left _ _).cons _)
  · rintro i x H H' hi ⟨ra, La, acc, ys, a1, a2, a3, a4, a5⟩ y
    obtain ⟨dx, x1, x2⟩ := dw.yields i H x H' _ hi (Sep.from_front a2) y
    rw [drop_get x1] at a3
    obtain ⟨rb, b, rc, k1, k2, k3⟩ := lc_turn a3
    have x3 : Sep K H' ((x, .p dx) :: (La ++ ((.ref A, .o (.list acc)) :: (E ++ T)))) := x2.perm (List.Perm.cons _ (by
      refine List.perm_middle.trans (List.Perm.trans (List.Perm.cons _ ?_) List.perm_middle.symm)
      rw [← List.append_assoc, ← List.append_assoc]
      exact List.perm_append_comm.append_right T))
    refine ⟨dx, wipeE ra vs, La, (.ref A, .o (.list acc)) :: (E ++ T), rb, a1, x3, k1, fun σ2 Lb m1 m2 m3 m4 => ?_⟩
    have hw : L2.wipe σ2 vs = L2.wipe σ vs := by
      rw [← wipe_wipe (σ := σ)]
      exact wipe_ext m2 fun j hj => m3 j fun z => hj (hsub j z)
    refine ⟨hw, rb, Lb, _, m1, m4, b, rc, k2, fun H3 L3 n1 n2 => ?_⟩
    cases b with
    | true =>
      simp only [if_true] at k3 ⊢
      obtain ⟨dy, rd, zs, k4, rfl, k6⟩ := k3
      refine ⟨rc, L3, _, n1, n2, dy, rd, k4, fun yv H4 L4 p1 p2 => ?_⟩
      have p3 : Sep K H4 ((.ref A, .o (.list acc)) :: ((yv, .p dy) :: (E ++ (L4 ++ T)))) := p2.perm (by
        refine List.Perm.trans ?_ (List.Perm.swap _ _ _)
        refine List.Perm.cons _ (List.perm_middle.trans (List.Perm.cons _ ?_))
        rw [← List.append_assoc, ← List.append_assoc]
        exact List.perm_append_comm.append_right T)
      obtain ⟨A', us, eA, hA', ru, wr, _⟩ := p3.owned
      cases eA
      have hy : Rep K H4 dy yv := p3.memP (by simp)
      refine ⟨us, hA', ?_, ?_⟩
      · rw [ru.length]
        have := dw.len
        omega
      · obtain ⟨Ld, d1, d2⟩ := p1.wipe vs
        rw [hw] at d1
        refine ⟨rd, Ld, acc ++ [dy], zs, d1, ?_, k6, by rw [← a4]; simp, by simp; omega⟩
        refine (wr (us ++ [yv]) (acc ++ [dy]) (ru.append (Reps.cons hy Reps.nil))).sub (List.Sublist.cons_cons _ (List.Sublist.cons _ ?_))
        exact List.Sublist.append (List.Sublist.refl E) (List.Sublist.append d2 (List.Sublist.refl T))
    | false =>
      simp only [Bool.false_eq_true, if_false] at k3 ⊢
      obtain ⟨Ld, d1, d2⟩ := n1.wipe vs
      rw [hw] at d1
      refine ⟨rc, Ld, acc, ys, d1, ?_, k3, a4, by omega⟩
      have n3 : Sep K H3 ((.ref A, .o (.list acc)) :: (E ++ (L3 ++ T))) := n2.perm (List.perm_middle.trans (List.Perm.cons _ (by
        rw [← List.append_assoc, ← List.append_assoc]
        exact List.perm_append_comm.append_right T)))
      exact n3.sub (List.Sublist.cons_cons _ (List.Sublist.append (List.Sublist.refl E) (List.Sublist.append d2 (List.Sublist.refl T))))
  · rintro H ⟨ra, La, acc, ys, a1, a2, a3, a4, a5⟩
    rw [List.drop_length] at a3
    cases a3
    rw [List.append_nil] at a4
    subst a4
    exact q _ H La a1.out (a2.sub (List.Sublist.cons_cons _ (List.sublist_append_right _ _)))
section
variable {X : Cx}
theorem pts_mo {es : List Expr} {t t' : TT} (h : PTs X es t) (i : ∀ σ H Q, t' σ H Q → t σ H Q) : PTs X es t' := ⟨fun pins s σ H Q I q => h.run pins s σ H Q I (i _ _ _ q)⟩
theorem pts_no : PTs X [] (tT X.K fun r => .ok true r) := pts_mo pts_nil fun σ H Q ⟨r, L, T, he, hs, b, r', e1, q⟩ => by cases e1; exact q H L he hs
theorem se_lc {elt tg iter : Expr} {ifs : List Expr} {scope : Scope} {own : List (Str × Nat)} {pos : Pos} {fi : Env → Res (List PyData)} {tgi : Tg} {fc : Env → Res Bool} {fe : Env → Res PyData} (hc : X.calm = true) (hN : X.N.Nodup) (hi : SI X tg iter fi) (ok : BlkOk X.N X.env.scope scope own)
    (hsub : ∀ i ∈ tgIx tgi, i ∈ own.map (·.2)) (hg : ∀ (s : Shared) (H : Hp) (C : Addr) (cl : List (Str × Addr)) (fp : List Addr), PG (X.blk s H scope (compEnvC scope cl C X.env) fp) tg (tGt X.K [] tgi))
    (ht : ∀ (s : Shared) (H : Hp) (C : Addr) (cl : List (Str × Addr)) (fp : List Addr), PTs (X.blk s H scope (compEnvC scope cl C X.env) fp) ifs (tT X.K fc))
    (he : ∀ (s : Shared) (H : Hp) (C : Addr) (cl : List (Str × Addr)) (fp : List Addr), PE (X.blk s H scope (compEnvC scope cl C X.env) fp) elt (tP X.K fe)) (hs : ∀ x, foldedSetIterable iter X.env x = pure x) :
    SE X (.ListComp elt [⟨tg, iter, ifs, 0⟩] scope pos) (lcF fi tgi fc fe (own.map (·.2))) :=
  pe_mo (pe_lc hc hN hi ok hg ht he hs) fun _ _ _ h => tlc_of hsub h
end
end Dl

set_option Elab.async false
set_option linter.all false
set_option maxRecDepth 100000
/-! list comprehensions of two clauses -/
namespace Dl
open PySem PySem.Spec PyProof.Rows L2
theorem lc_in {J : L2.It} {n : Nat} {G : Hp → Prop} (w : L2.Walk J n G (fun i H x H' => J.yld i H x H')) {g : TG} {tt : TT} {te : TE} {vs : List Nat} {σ : L2.St} {H1 : Hp} {A : Addr} {Qd : Hp → Prop} (Pv : Nat → Hp → Prop) (h0 : Pv 0 H1) (hG : ∀ i H, i ≤ n → Pv i H → G H)
    (hs : ∀ i x H H', i < n → Pv i H → J.yld i H x H' → g x (L2.wipe σ vs) H' fun σ2 H2 => L2.wipe σ2 vs = L2.wipe σ vs ∧ tt σ2 H2 fun b H3 =>
      if b = true then te σ2 H3 fun y H4 => ∃ acc, H4 A = some (.lst acc) ∧ acc.length < sizeLine ∧ Pv (i + 1) (upd H4 A (.lst (acc ++ [y]))) else Pv (i + 1) H3) (hd : ∀ H, Pv n H → Qd H) :
    ∃ W : Nat → Nat → Hp → Prop, (∃ m, W 0 m H1) ∧ ∀ i m H, W i m H →
      (J.stop i H ∧ Qd H) ∨ (J.go i H ∧ ∃ Nx : Hp → Prop, (∀ H', Nx H' → ∃ m', m' < m ∧ W (i + 1) m' H') ∧ ∀ x H', J.yld i H x H' → g x (L2.wipe σ vs) H' fun σ2 H2 => L2.wipe σ2 vs = L2.wipe σ vs ∧ tt σ2 H2 fun b H3 =>
        if b = true then te σ2 H3 fun y H4 => ∃ acc, H4 A = some (.lst acc) ∧ acc.length < sizeLine ∧ Nx (upd H4 A (.lst (acc ++ [y]))) else Nx H3) := by
  refine ⟨fun i m H => m = n - i ∧ i ≤ n ∧ Pv i H, ⟨n, by simp, Nat.zero_le _, h0⟩, ?_⟩
  rintro i m H ⟨rfl, hi, p⟩
  by_cases hlt : i < n
  · exact .inr ⟨w.goes i H hlt (hG i H hi p), Pv (i + 1), fun H' p' => ⟨n - (i + 1), by omega, rfl, hlt, p'⟩, fun x H' y => hs i x H H' hlt p y⟩
  · obtain rfl : i = n := by omega
    exact .inl ⟨w.stops H (hG _ H hi p), hd H p⟩
/-- the inner loop of a comprehension, as data -/
theorem tlc_inner {K : Fr} {tg : Tg} {fc : Env → Res Bool} {fe : Env → Res PyData} {vs : List Nat} (hsub : ∀ i ∈ tgIx tg, i ∈ vs) {σ : L2.St} {H1 : Hp} {J : L2.It} {E : List (V × D)} {xs : List PyData} (dw : DW K J E xs) {A : Addr} {r1 r2 : Env} {L1 T : List (V × D)} {acc0 ds : List PyData} {Nx : Hp → Prop}
    (g1 : EnvR σ r1 L1) (g2 : Sep K H1 ((.ref A, .o (.list acc0)) :: (E ++ (L1 ++ T)))) (e4 : lcLoop vs (asgT [] tg) fc fe xs r1 = .ok ds r2) (hz : acc0.length + ds.length ≤ sizeLine)
    (q : ∀ H La, EnvR (L2.wipe σ vs) (wipeE r2 vs) La → Sep K H ((.ref A, .o (.list (acc0 ++ ds))) :: (La ++ T)) → Nx H) :
    ∃ W : Nat → Nat → Hp → Prop, (∃ m, W 0 m H1) ∧ ∀ i m H, W i m H →
      (J.stop i H ∧ Nx H) ∨ (J.go i H ∧ ∃ N : Hp → Prop, (∀ H', N H' → ∃ m', m' < m ∧ W (i + 1) m' H') ∧ ∀ x H', J.yld i H x H' → tGt K [] tg x (L2.wipe σ vs) H' fun σ2 H2 => L2.wipe σ2 vs = L2.wipe σ vs ∧ tT K fc σ2 H2 fun b H3 =>
        if b = true then tP K fe σ2 H3 fun y H4 => ∃ acc, H4 A = some (.lst acc) ∧ acc.length < sizeLine ∧ N (upd H4 A (.lst (acc ++ [y]))) else N H3) := by
  refine lc_in (walk_dw dw) (fun i H => ∃ ra La acc ys, EnvR (L2.wipe σ vs) (wipeE ra vs) La ∧ Sep K H ((.ref A, .o (.list acc)) :: (E ++ (La ++ T))) ∧ lcLoop vs (asgT [] tg) fc fe (xs.drop i) ra = .ok ys r2 ∧ acc ++ ys = acc0 ++ ds) ?_ ?_ ?_ ?_
  · obtain ⟨La, h1, h2⟩ := g1.wipe vs
    refine ⟨r1, La, acc0, ds, h1, ?_, by rw [List.drop_zero]; exact e4, rfl⟩
    exact g2.sub ((List.Sublist.append (List.Sublist.refl E) (List.Sublist.append h2 (List.Sublist.refl T))).cons_cons _)
  · rintro i H hi ⟨ra, La, acc, ys, a1, a2, a3, a4⟩
    exact a2.sub ((List.sublist_append_left _ _).cons _)
  · rintro i x H H' hi ⟨ra, La, acc, ys, a1, a2, a3, a4⟩ y
    obtain ⟨dx, x1, x2⟩ := dw.yields i H x H' _ hi (Sep.from_front a2) y
    rw [drop_get x1] at a3
    obtain ⟨rb, b, rc, k1, k2, k3⟩ := lc_turn a3
    have x3 : Sep K H' ((x, .p dx) :: (La ++ ((.ref A, .o (.list acc)) :: (E ++ T)))) := x2.perm (List.Perm.cons _ (by
      refine List.perm_middle.trans (List.Perm.trans (List.Perm.cons _ ?_) List.perm_middle.symm)
      rw [← List.append_assoc, ← List.append_assoc]
      exact List.perm_append_comm.append_right T))
    refine ⟨dx, wipeE ra vs, La, (.ref A, .o (.list acc)) :: (E ++ T), rb, a1, x3, k1, fun σ2 Lb m1 m2 m3 m4 => ?_⟩
    have hw : L2.wipe σ2 vs = L2.wipe σ vs := by
      rw [← wipe_wipe (σ := σ)]
      exact wipe_ext m2 fun j hj => m3 j fun z => hj (hsub j z)
    refine ⟨hw, rb, Lb, _, m1, m4, b, rc, k2, fun H3 L3 n1 n2 => ?_⟩
    cases b with
    | true =>
      simp only [if_true] at k3 ⊢
      obtain ⟨dy, rd, zs, k4, rfl, k6⟩ := k3
      refine ⟨rc, L3, _, n1, n2, dy, rd, k4, fun yv H4 L4 p1 p2 => ?_⟩
      have p3 : Sep K H4 ((.ref A, .o (.list acc)) :: ((yv, .p dy) :: (E ++ (L4 ++ T)))) := p2.perm (by
        refine List.Perm.trans ?_ (List.Perm.swap _ _ _)
        refine List.Perm.cons _ (List.perm_middle.trans (List.Perm.cons _ ?_))
        rw [← List.append_assoc, ← List.append_assoc]
        exact List.perm_append_comm.append_right T)
      obtain ⟨A', us, eA, hA', ru, wr, _⟩ := p3.owned
      cases eA
      have hy : Rep K H4 dy yv := p3.memP (by simp)
      refine ⟨us, hA', ?_, ?_⟩
      · rw [ru.length]
        have := congrArg List.length a4
        simp at this
        omega
      · obtain ⟨Ld, d1, d2⟩ := p1.wipe vs
        rw [hw] at d1
        refine ⟨rd, Ld, acc ++ [dy], zs, d1, ?_, k6, by rw [← a4]; simp⟩
        refine (wr (us ++ [yv]) (acc ++ [dy]) (ru.append (Reps.cons hy Reps.nil))).sub (List.Sublist.cons_cons _ (List.Sublist.cons _ ?_))
        exact List.Sublist.append (List.Sublist.refl E) (List.Sublist.append d2 (List.Sublist.refl T))
    | false =>
      simp only [Bool.false_eq_true, if_false] at k3 ⊢
      obtain ⟨Ld, d1, d2⟩ := n1.wipe vs
      rw [hw] at d1
      refine ⟨rc, Ld, acc, ys, d1, ?_, k3, a4⟩
      have n3 : Sep K H3 ((.ref A, .o (.list acc)) :: (E ++ (L3 ++ T))) := n2.perm (List.perm_middle.trans (List.Perm.cons _ (by
        rw [← List.append_assoc, ← List.append_assoc]
        exact List.perm_append_comm.append_right T)))
      exact n3.sub (List.Sublist.cons_cons _ (List.Sublist.append (List.Sublist.refl E) (List.Sublist.append d2 (List.Sublist.refl T))))
  · rintro H ⟨ra, La, acc, ys, a1, a2, a3, a4⟩
    rw [List.drop_length] at a3
    cases a3
    rw [List.append_nil] at a4
    subst a4
    exact q H La a1 (a2.sub (List.Sublist.cons_cons _ (List.sublist_append_right _ _)))
/-- [elt for tg in it if cond for tg2 in it2 if cond2] -/
def lc2F (fi : Env → Res (List PyData)) (tg : Tg) (fc : Env → Res Bool) (fi2 : Env → Res (List PyData)) (tg2 : Tg) (fc2 : Env → Res Bool) (fe : Env → Res PyData) (vs : List Nat) (r : Env) : Res D :=
  (fi r).bind fun xs r1 => (lcLoop2 vs (asgT [] tg) fc (fun r => (fi2 r).bind fun ys r2 => lcLoop (tgIx tg2) (asgT [] tg2) fc2 fe ys r2) xs r1).bind fun ds r2 => if ds.length ≤ sizeLine then .ok (.o (.list ds)) (wipeE r2 vs) else .bad
theorem lc_turn2 {vs : List Nat} {asg : PyData → Env → Option Env} {fc : Env → Res Bool} {fe : Env → Res (List PyData)} {x : PyData} {xs ys : List PyData} {r r' : Env} (h : lcLoop2 vs asg fc fe (x :: xs) r = .ok ys r') :
    ∃ r1 b r2, asg x (wipeE r vs) = some r1 ∧ fc r1 = .ok b r2 ∧ (if b = true then ∃ y r3 zs, fe r2 = .ok y r3 ∧ ys = y ++ zs ∧ lcLoop2 vs asg fc fe xs r3 = .ok zs r' else lcLoop2 vs asg fc fe xs r2 = .ok ys r') := by
  unfold lcLoop2 at h
  split at h
  · cases h
  · rename_i r1 e1
    obtain ⟨b, r2, e2, e3⟩ := bind_ok h
    refine ⟨r1, b, r2, e1, e2, ?_⟩
    cases b with
    | true =>
      simp only [if_true] at e3 ⊢
      obtain ⟨y, r3, e4, e5⟩ := bind_ok e3
      obtain ⟨zs, r4, e6, e7⟩ := bind_ok e5
      cases e7
      exact ⟨y, r3, zs, e4, rfl, e6⟩
    | false =>
      simp only [Bool.false_eq_true, if_false] at e3 ⊢
      exact e3
theorem perm_x {α : Type} (x : α) (A B C : List α) : (A ++ (x :: (B ++ C))).Perm (x :: (B ++ (A ++ C))) := by
  refine List.perm_middle.trans (List.Perm.cons _ ?_)
  rw [← List.append_assoc, ← List.append_assoc]
  exact List.perm_append_comm.append_right C
theorem tlc2_of {K : Fr} {fi fi2 : Env → Res (List PyData)} {tg tg2 : Tg} {fc fc2 : Env → Res Bool} {fe : Env → Res PyData} {vs : List Nat} (hsub : ∀ i ∈ tgIx tg, i ∈ vs) (hv : ∀ i ∈ tgIx tg2, i ∈ vs) {σ : L2.St} {H : Hp} {Q : VK}
    (h : tE K (lc2F fi tg fc fi2 tg2 fc2 fe vs) σ H Q) : tLc2 (tIt K fi) (tGt K [] tg) (tT K fc) (tIt K fi2) (tGt K [] tg2) (tT K fc2) (tP K fe) vs (tgIx tg2) σ H Q := by
  obtain ⟨r, L, T, he, hs, d, r', e1, q⟩ := h
  obtain ⟨xs, r1, e2, e3⟩ := bind_ok e1
  obtain ⟨ds, r2, e4, e5⟩ := bind_ok e3
  split at e5 <;> cases e5
  rename_i hz
  refine ⟨r, L, T, he, hs, xs, r1, e2, fun J H1 L1 E g1 g2 dw => fun A hA => ?_⟩
  refine ⟨fun i m H => m = xs.length - i ∧ i ≤ xs.length ∧ ∃ ra La acc ys, EnvR (L2.wipe σ vs) (wipeE ra vs) La ∧ Sep K H ((.ref A, .o (.list acc)) :: (E ++ (La ++ T))) ∧
    lcLoop2 vs (asgT [] tg) fc (fun r => (fi2 r).bind fun ys r2 => lcLoop (tgIx tg2) (asgT [] tg2) fc2 fe ys r2) (xs.drop i) ra = .ok ys r2 ∧ acc ++ ys = ds, ⟨xs.length, by simp, Nat.zero_le _, ?_⟩, ?_⟩
  · obtain ⟨La, h1, h2⟩ := g1.wipe vs
    refine ⟨r1, La, [], ds, h1, ?_, by rw [List.drop_zero]; exact e4, rfl⟩
    exact Sep.sub ((List.Sublist.append (List.Sublist.refl E) (List.Sublist.append h2 (List.Sublist.refl T))).cons_cons _) (g2.new_lst hA Reps.nil)
  rintro i m H ⟨rfl, hi, ra, La, acc, ys, a1, a2, a3, a4⟩
  have hE : Sep K H E := a2.sub ((List.sublist_append_left _ _).cons _)
  by_cases hlt : i < xs.length
  · refine .inr ⟨dw.goes i H hlt hE, fun H => ∃ ra La acc ys, EnvR (L2.wipe σ vs) (wipeE ra vs) La ∧ Sep K H ((.ref A, .o (.list acc)) :: (E ++ (La ++ T))) ∧
      lcLoop2 vs (asgT [] tg) fc (fun r => (fi2 r).bind fun ys r2 => lcLoop (tgIx tg2) (asgT [] tg2) fc2 fe ys r2) (xs.drop (i + 1)) ra = .ok ys r2 ∧ acc ++ ys = ds, fun H' p => ⟨xs.length - (i + 1), by omega, rfl, hlt, p⟩, fun x H' y => ?_⟩
    obtain ⟨dx, x1, x2⟩ := dw.yields i H x H' _ hlt (Sep.from_front a2) y
    rw [drop_get x1] at a3
    obtain ⟨rb, b, rc, k1, k2, k3⟩ := lc_turn2 a3
    have x3 : Sep K H' ((x, .p dx) :: (La ++ ((.ref A, .o (.list acc)) :: (E ++ T)))) := x2.perm (List.Perm.cons _ ((perm_x _ E La T).trans List.perm_middle.symm))
    refine ⟨dx, wipeE ra vs, La, (.ref A, .o (.list acc)) :: (E ++ T), rb, a1, x3, k1, fun σ2 Lb m1 m2 m3 m4 => ?_⟩
    have hw : L2.wipe σ2 vs = L2.wipe σ vs := by
      rw [← wipe_wipe (σ := σ)]
      exact wipe_ext m2 fun j hj => m3 j fun z => hj (hsub j z)
    refine ⟨hw, rb, Lb, _, m1, m4, b, rc, k2, fun H3 L3 n1 n2 => ?_⟩
    cases b with
    | true =>
      simp only [if_true] at k3 ⊢
      obtain ⟨dy, rd, zs, k4, rfl, k6⟩ := k3
      obtain ⟨xs1, re, k7, k8⟩ := bind_ok k4
      refine ⟨rc, L3, _, n1, n2, xs1, re, k7, fun J1 H4 L4 E1 p1 p2 dw1 => ?_⟩
      have p3 : Sep K H4 ((.ref A, .o (.list acc)) :: (E1 ++ (L4 ++ (E ++ T)))) := p2.perm (by
        rw [← List.append_assoc]
        refine List.perm_middle.trans (List.Perm.cons _ ?_)
        rw [List.append_assoc])
      refine tlc_inner (σ := σ2) (vs := tgIx tg2) (fun _ z => z) dw1 p1 p3 k8 ?_ fun H5 La5 f1 f2 => ?_
      · have := congrArg List.length a4
        simp at this
        omega
      · obtain ⟨Ld, d1, d2⟩ := f1.wipe vs
        rw [wipe_sub hv, hw, wipeE_sub hv] at d1
        refine ⟨rd, Ld, acc ++ dy, zs, d1, ?_, k6, by rw [← a4]; simp⟩
        refine (f2.perm (List.Perm.cons _ (show (La5 ++ (E ++ T)).Perm (E ++ (La5 ++ T)) by
          rw [← List.append_assoc, ← List.append_assoc]
          exact List.perm_append_comm.append_right T))).sub (List.Sublist.cons_cons _ (List.Sublist.append (List.Sublist.refl E) (List.Sublist.append d2 (List.Sublist.refl T))))
    | false =>
      simp only [Bool.false_eq_true, if_false] at k3 ⊢
      obtain ⟨Ld, d1, d2⟩ := n1.wipe vs
      rw [hw] at d1
      refine ⟨rc, Ld, acc, ys, d1, ?_, k3, a4⟩
      have n3 : Sep K H3 ((.ref A, .o (.list acc)) :: (E ++ (L3 ++ T))) := n2.perm (perm_x _ L3 E T)
      exact n3.sub (List.Sublist.cons_cons _ (List.Sublist.append (List.Sublist.refl E) (List.Sublist.append d2 (List.Sublist.refl T))))
  · obtain rfl : i = xs.length := by omega
    refine .inl ⟨dw.stops H hE, ?_⟩
    rw [List.drop_length] at a3
    cases a3
    rw [List.append_nil] at a4
    subst a4
    exact q _ H La a1.out (a2.sub (List.Sublist.cons_cons _ (List.sublist_append_right _ _)))
section
variable {X : Cx}
theorem se_lc2 {elt tg iter tg1 iter1 : Expr} {ifs ifs1 : List Expr} {scope : Scope} {own : List (Str × Nat)} {pos : Pos} {fi fi2 : Env → Res (List PyData)} {tgi tgi2 : Tg} {fc fc2 : Env → Res Bool} {fe : Env → Res PyData} (hc : X.calm = true) (hN : X.N.Nodup) (hi : SI X tg iter fi) (ok : BlkOk X.N X.env.scope scope own)
    (hsub : ∀ i ∈ tgIx tgi, i ∈ own.map (·.2)) (hv : ∀ i ∈ tgIx tgi2, i ∈ own.map (·.2)) (hg : ∀ (s : Shared) (H : Hp) (C : Addr) (cl : List (Str × Addr)) (fp : List Addr), PG (X.blk s H scope (compEnvC scope cl C X.env) fp) tg (tGt X.K [] tgi))
    (ht : ∀ (s : Shared) (H : Hp) (C : Addr) (cl : List (Str × Addr)) (fp : List Addr), PTs (X.blk s H scope (compEnvC scope cl C X.env) fp) ifs (tT X.K fc))
    (hi1 : ∀ (s : Shared) (H : Hp) (C : Addr) (cl : List (Str × Addr)) (fp : List Addr), PI (X.blk s H scope (compEnvC scope cl C X.env) fp) tg1 iter1 (tIt X.K fi2))
    (hg1 : ∀ (s : Shared) (H : Hp) (C : Addr) (cl : List (Str × Addr)) (fp : List Addr), PG (X.blk s H scope (compEnvC scope cl C X.env) fp) tg1 (tGt X.K [] tgi2))
    (ht1 : ∀ (s : Shared) (H : Hp) (C : Addr) (cl : List (Str × Addr)) (fp : List Addr), PTs (X.blk s H scope (compEnvC scope cl C X.env) fp) ifs1 (tT X.K fc2))
    (he : ∀ (s : Shared) (H : Hp) (C : Addr) (cl : List (Str × Addr)) (fp : List Addr), PE (X.blk s H scope (compEnvC scope cl C X.env) fp) elt (tP X.K fe)) (hs : ∀ x, foldedSetIterable iter X.env x = pure x) (hs1 : ∀ env x, foldedSetIterable iter1 env x = pure x) :
    SE X (.ListComp elt [⟨tg, iter, ifs, 0⟩, ⟨tg1, iter1, ifs1, 0⟩] scope pos) (lc2F fi tgi fc fi2 tgi2 fc2 fe (own.map (·.2))) :=
  pe_mo (pe_lc2 hc hN hi ok hv hg ht hi1 hg1 ht1 he hs hs1) fun _ _ _ h => tlc2_of hsub hv h
end
end Dl

set_option Elab.async false
set_option linter.all false
set_option maxRecDepth 100000
/-! calls: what a def promises, by data -/
namespace Dl
open PySem PySem.Spec PyProof.Rows L2
abbrev SpG := List V → Hp → VK → Prop
/-- a def's promise where no guard of repr is up -/
structure FnG (P : Program) (w : World) (K : Fr) (mg : Str → Option Value) (base : Heap) (k : Nat) (f : Addr) (fd : FuncData) (ps : List Str) (sp : SpG) : Prop where
  len : ∀ vs H Q, sp vs H Q → vs.length = ps.length
  run : ∀ (A : Around) (outer : List PySem.Env) (s : Shared) (H : Hp) (args : Args) (us : List Value) (vs : List V) (Q : VK), Room k A → A.guards = some [] → Env0 P w K mg base A outer s H →
    BindsTo s fd args (ps.zip us) → Vals vs us → sp vs H Q → codeAny (model P w) A (.call (.ref f) args) (L2.CR L2.CX0 outer P w H s Q L2.E0) s
theorem FnG.mono {P : Program} {w : World} {K : Fr} {mg : Str → Option Value} {base : Heap} {j k : Nat} {f : Addr} {fd : FuncData} {ps : List Str} {sp : SpG} (F : FnG P w K mg base j f fd ps sp) (h : j ≤ k) : FnG P w K mg base k f fd ps sp :=
  ⟨F.len, fun A outer s H args us vs Q hr => F.run A outer s H args us vs Q (hr.mono h)⟩
theorem fnG_of {P : Program} {w : World} {K : Fr} {mg : Str → Option Value} {base : Heap} {k : Nat} {f : Addr} {fd : FuncData} {x qual : Str} {params : Arguments} {body : List Stmt} {scope : Scope} {N ps : List Str} {sp : SpG}
    (F : FunD K x qual params body scope [] [] f fd) (S : FnScope N ps scope) (len : ∀ vs H Q, sp vs H Q → vs.length = ps.length)
    (hb : ∀ (cdv : Value) (A : Around) (outer : List PySem.Env) (s : Shared) (H : Hp) (vs : List V) (Q : VK), Room k (A.deeper (envOfC qual scope s.heap.objs.size f cdv)) → A.guards = some [] → sp vs H Q →
      ∃ t, PSs (cxOf L2.CX0 P w K mg base N qual scope f cdv A outer s H L2.E0) body t ∧ t { nx := fun _ H' => Q .non H', rt := Q } (L2.start N vs) H) : FnG P w K mg base (k + 1) f fd ps sp := by
  obtain ⟨oc, od, dV, kV, doc, pm, an, cdv, ct, osl, rfl, lk, hcd, _, _⟩ := F.ex
  refine ⟨len, fun A outer s H args us vs Q hr hG e0 hbi r hsp => ?_⟩
  have hln : vs.length = ps.length := len _ _ _ hsp
  have KX : K.In s.heap := e0.mod.kin.keeps fun b o e => (e0.bs b o e).1
  have nolim : s.heap.NoLimit := e0.mod.nolimit.keeps fun b o e => (e0.bs b o e).1
  have kinds : ∀ y ∈ ps.zip us, scope.names.lookup y.1 = some .local ∨ (scope.names.lookup y.1 = some .cell ∧ ((cellsFrom (s.heap.objs.size + 1) scope.names []).lookup y.1).isSome = true) := by
    rintro ⟨n, v⟩ hy
    exact (S.par n (List.of_mem_zip hy).1).imp id fun q => ⟨q, PySem.W.cellsFrom_some _ _ _ (.inl q)⟩
  refine codeAny_call_function hr.depth (KX _ _ lk) rfl S.co S.gen rfl (PySem.W.codeRec_of KX hcd) (hbi _ _ _ _ (wpAny_newFunctionEnv_cells S.kind kinds fun env he s1 x => ?_))
  subst he
  refine ⟨nolim.keeps x.toInCall.keep, codeAny_func ?_⟩
  obtain ⟨t, ht, hq⟩ := hb cdv A outer s H vs Q (hr.deeper _) hG hsp
  have I : Inv (cxOf L2.CX0 P w K mg base N qual scope f cdv A outer s H L2.E0) [] (L2.start N vs) H s1 := inv_start S hr.hd e0 hln r x
  refine wpAny_mono (ht.run [] s1 (L2.start N vs) H _ I hq) (fun fl s2 hs => ?_) fun e s2 hs => hs
  have fin : ∀ {σ' : L2.St} {H' : Hp} {v : V} {u : Value}, Inv (cxOf L2.CX0 P w K mg base N qual scope f cdv A outer s H L2.E0) [] σ' H' s2 → RelV v u → Q v H' → CE outer P w H s Q u s2 :=
    fun {σ' H' v u} J rv q => ⟨v, H', J.os, J.bare, J.base, J.hok, rv, q⟩
  cases fl with
  | ret u => obtain ⟨v, σ', H', J, rv, q⟩ := hs; exact fin J rv q
  | next => obtain ⟨σ', H', J, q⟩ := hs; exact fin (v := V.non) (u := Value.none) J rfl q
  | brk => obtain ⟨_, _, _, q⟩ := hs; exact q.elim
  | cont => obtain ⟨_, _, _, q⟩ := hs; exact q.elim
section
variable {X : Cx} {k : Nat} {f : Addr} {fd : FuncData} {ps : List Str} {sp : SpG}
theorem run_fnG {pins : List (Addr × Obj)} {σ : L2.St} {H : Hp} {s : Shared} {Q : VK} {us : List Value} {vs : List V} (F : FnG X.prog X.w X.K X.mg X.base k f fd ps sp) (hr : Room k X.A) (hG : X.A.guards = some []) (hb : Binds X.K fd ps [])
    (I : Inv X pins σ H s) (r : Vals vs us) (h : sp vs H Q) : wpAny (model X.prog X.w) X.A (call (.ref f) us) (EP X pins σ Q) X.xe s := by
  have hl : (us ++ []).length = ps.length := by rw [List.append_nil, ← r.length]; exact F.len _ _ _ h
  have bd := hb s us I.kIn hl
  rw [List.append_nil] at bd
  refine wpAny_call (codeAny_mono (F.run X.A X.stack s H ⟨us, []⟩ us vs Q hr hG I.env0 bd r h) fun r' s' hq => ?_)
  match r', hq with
  | .ok (.ret u), hq => exact I.after hq
theorem pe_callG {x : Str} {p pos : Pos} {e : Expr} {es : List Expr} {t : TA} (F : FnG X.prog X.w X.K X.mg X.base k f fd ps sp) (hr : Room k X.A) (hG : X.A.guards = some []) (hg : Gl X x) (hm : X.mg x = some (.ref f)) (hk : PySem.W.keepIn X.K (.ref f) = true) (hb : Binds X.K fd ps [])
    (ha : PA X (e :: es) t) (hdb : (x == ("__debug__" : Str)) = false) (he : starEach (e :: es) X.env = (false, eval e X.env) :: starEach es X.env) (hpl : (backTo pos (starEach es X.env)).any (·.1) = false) :
    PE X (.Call (.Name x p) (e :: es) [] pos) (fun σ H Q => t σ H fun vs H1 => sp vs H1 Q) := by
  refine ⟨fun pins s σ H Q I h => wpAny_Call_Name_kw (ld_glob I hg hm ?_ hdb)⟩
  exact PySem.W.callWith_K (h₀ := X.base) I.ok.mod.kin hk (thn (ha.run pos pins s σ H _ I h) fun us s1 ⟨vs, H1, I1, r, q⟩ => ⟨I1.kIn, run_fnG F hr hG hb I1 r q⟩) he hpl
end
/-! ### what is lent to a callee -/
def ownV : List V → List D → List V
  | v :: vs, d :: ds => if d.own then v :: ownV vs ds else ownV vs ds
  | _, _ => []
/-- by data: the def f of the table -/
def spF (K : Fr) (C : CS) (f : Nat) : SpG := fun vs H Q => ∃ ds M d outs, Sep K H (vs.zip ds ++ M) ∧ vs.length = ds.length ∧ C f ds = .ok d outs ∧ ∀ v H', Sep K H' ((v, d) :: ((ownV vs ds).zip outs ++ M)) → Q v H'
def lentOf : List Arg → List V → List D → List (Nat × V)
  | .s i :: as, v :: vs, d :: ds => if d.own then (i, v) :: lentOf as vs ds else lentOf as vs ds
  | .t _ :: as, _ :: vs, _ :: ds => lentOf as vs ds
  | _, _, _ => []
theorem set_none_get {r : Env} {i j : Nat} (h : r[j]? = some none) : (r.set i none)[j]? = some none := by
  rw [List.getElem?_set]
  split
  · rename_i e; subst e
    rw [if_pos (List.getElem?_eq_some_iff.mp h).1]
  · exact h
theorem take_none : ∀ {as : List Arg} {r r0 : Env} {ds : List D} {j : Nat}, takeAll as r = some (ds, r0) → r[j]? = some none → r0[j]? = some none
  | [], r, r0, ds, j, h, e => by cases h; exact e
  | .s i :: as, r, r0, ds, j, h, e => by
    unfold takeAll at h
    split at h
    · rename_i d hd
      obtain ⟨⟨ds', r'⟩, e1, e2⟩ := Option.map_eq_some_iff.mp h
      cases e2
      refine take_none e1 ?_
      split
      · exact set_none_get e
      · exact e
    · cases h
  | .t d :: as, r, r0, ds, j, h, e => by
    unfold takeAll at h
    obtain ⟨⟨ds', r'⟩, e1, e2⟩ := Option.map_eq_some_iff.mp h
    cases e2
    exact take_none e1 e
theorem getS_set_none {r : Env} {i : Nat} : getS (r.set i none) i = none := by
  unfold getS
  rw [List.getElem?_set, if_pos rfl]
  split
  · rename_i d e
    split at e <;> cases e
  · rfl
theorem getS_less {r : Env} {i j : Nat} (h : getS (r.set i none) j ≠ none) : getS r j ≠ none := by
  by_cases e : i = j
  · subst e
    exact absurd getS_set_none h
  · unfold getS at h ⊢
    rw [List.getElem?_set_ne e] at h
    exact h
theorem perm3 {α : Type} (x : α) (A B C : List α) : (x :: (A ++ (B ++ C))).Perm (A ++ (B ++ x :: C)) := by
  rw [← List.append_assoc, ← List.append_assoc]
  exact List.perm_middle.symm
theorem lent_some {σ : L2.St} : ∀ {as : List Arg} {r r0 : Env} {vs : List V} {E : List (V × D)} {ds : List D}, takeAll as r = some (ds, r0) → ArgsR σ as vs E → ∀ p ∈ lentOf as vs ds, getS r p.1 ≠ none
  | [], r, r0, vs, E, ds, h, ha, p, hp => by unfold lentOf at hp; cases hp
  | .s i :: as, r, r0, vs, E, ds, h, ha, p, hp => by
    obtain ⟨v, vr, E1, E2, rfl, rfl, h1, h2⟩ := ha
    unfold takeAll at h
    split at h
    · rename_i d hd
      obtain ⟨⟨ds', r'⟩, e1, e2⟩ := Option.map_eq_some_iff.mp h
      cases e2
      unfold lentOf at hp
      by_cases ow : d.own = true
      · rw [if_pos ow] at hp e1
        rcases List.mem_cons.mp hp with rfl | hp
        · rw [hd]; simp
        · exact getS_less (lent_some e1 h2 p hp)
      · rw [if_neg ow] at hp e1
        exact lent_some e1 h2 p hp
    · cases h
  | .t d :: as, r, r0, vs, E, ds, h, ha, p, hp => by
    obtain ⟨v, vr, E1, E2, rfl, rfl, h1, h2⟩ := ha
    unfold takeAll at h
    obtain ⟨⟨ds', r'⟩, e1, e2⟩ := Option.map_eq_some_iff.mp h
    cases e2
    unfold lentOf at hp
    exact lent_some e1 h2 p hp
/-- the arguments' things, apart; the rest -/
theorem lend {σ : L2.St} : ∀ {as : List Arg} {r r0 : Env} {L : List (V × D)} {vs : List V} {E : List (V × D)} {ds : List D}, EnvR σ r L → ArgsR σ as vs E → takeAll as r = some (ds, r0) →
    ∃ L0, EnvR σ r0 L0 ∧ vs.length = ds.length ∧ (∀ K H T, Sep K H (E ++ (L ++ T)) → Sep K H (vs.zip ds ++ (L0 ++ T))) ∧
      (∀ p ∈ lentOf as vs ds, σ[p.1]? = some (some p.2) ∧ r0[p.1]? = some none) ∧ ((lentOf as vs ds).map (·.1)).Nodup
  | [], r, r0, L, vs, E, ds, he, ha, h => by
    cases h
    obtain ⟨rfl, rfl⟩ := ha
    exact ⟨L, he, rfl, fun K H T hs => hs, fun p hp => (by unfold lentOf at hp; cases hp), (by unfold lentOf; exact .nil)⟩
  | .s i :: as, r, r0, L, vs, E, ds, he, ha, h => by
    obtain ⟨v, vr, E1, E2, rfl, rfl, h1, h2⟩ := ha
    obtain ⟨hv, rfl⟩ := h1
    unfold takeAll at h
    split at h
    · rename_i d hd
      obtain ⟨⟨ds', r'⟩, e1, e2⟩ := Option.map_eq_some_iff.mp h
      cases e2
      obtain ⟨u, L1, L2, hu, rfl, _, hw⟩ := he.at hd
      rw [hv] at hu; cases hu
      by_cases ow : d.own = true
      · rw [if_pos ow] at e1
        obtain ⟨L0, k1, k2, k3, k4, k5⟩ := lend hw h2 e1
        refine ⟨L0, k1, by simp [k2], fun K H T hs => ?_, fun p hp => ?_, ?_⟩
        · have hs2 : Sep K H ((v, d) :: (E2 ++ ((L1 ++ L2) ++ T))) := hs.perm (by
            rw [List.append_nil, List.append_assoc, List.append_assoc]
            show (E2 ++ (L1 ++ ((v, d) :: (L2 ++ T)))).Perm _
            rw [← List.append_assoc]
            refine List.perm_middle.trans (List.Perm.cons _ ?_)
            rw [List.append_assoc])
          show Sep K H ((v, d) :: (vr.zip ds' ++ (L0 ++ T)))
          have hs3 := k3 K H ((v, d) :: T) (hs2.perm (perm3 _ _ _ _))
          exact hs3.perm (by
            rw [← List.append_assoc, ← List.append_assoc]
            exact List.perm_middle)
        · unfold lentOf at hp
          rw [if_pos ow] at hp
          rcases List.mem_cons.mp hp with rfl | hp
          · refine ⟨hv, take_none e1 ?_⟩
            rw [List.getElem?_set, if_pos rfl, if_pos (List.getElem?_eq_some_iff.mp (getS_some hd)).1]
          · exact k4 p hp
        · unfold lentOf
          rw [if_pos ow]
          refine List.nodup_cons.mpr ⟨fun hm => ?_, k5⟩
          obtain ⟨p, hp, hpi⟩ := List.mem_map.mp hm
          have hpi : p.1 = i := hpi
          have z := lent_some e1 h2 p hp
          rw [hpi] at z
          exact z getS_set_none
      · rw [if_neg ow] at e1
        obtain ⟨L0, k1, k2, k3, k4, k5⟩ := lend he h2 e1
        refine ⟨L0, k1, by simp [k2], fun K H T hs => ?_, fun p hp => ?_, ?_⟩
        · rw [List.append_nil] at hs
          show Sep K H ((v, d) :: (vr.zip ds' ++ (L0 ++ T)))
          cases d with
          | p x => exact Sep.cons_p (hs.memP (by simp)) (k3 K H T hs)
          | o x => exact absurd rfl ow
          | ob c fs => exact absurd rfl ow
        · unfold lentOf at hp
          rw [if_neg ow] at hp
          exact k4 p hp
        · unfold lentOf
          rw [if_neg ow]
          exact k5
    · cases h
  | .t d :: as, r, r0, L, vs, E, ds, he, ha, h => by
    obtain ⟨v, vr, E1, E2, rfl, rfl, h1, h2⟩ := ha
    obtain rfl : E1 = [(v, d)] := h1
    unfold takeAll at h
    obtain ⟨⟨ds', r'⟩, e1, e2⟩ := Option.map_eq_some_iff.mp h
    cases e2
    obtain ⟨L0, k1, k2, k3, k4, k5⟩ := lend he h2 e1
    refine ⟨L0, k1, by simp [k2], fun K H T hs => ?_, fun p hp => ?_, ?_⟩
    · show Sep K H ((v, d) :: (vr.zip ds' ++ (L0 ++ T)))
      have hs3 := k3 K H ((v, d) :: T) (hs.perm (by
        rw [List.append_assoc]
        refine List.Perm.append_left E2 ?_
        show ((v, d) :: (L ++ T)).Perm _
        exact List.perm_middle.symm))
      exact hs3.perm (by
        rw [← List.append_assoc, ← List.append_assoc]
        exact List.perm_middle)
    · unfold lentOf at hp
      exact k4 p hp
    · unfold lentOf
      exact k5
/-- a forgotten slot whose value still stands is known again -/
theorem EnvR.fill : ∀ {σ : L2.St} {r : Env} {L : List (V × D)} {i : Nat} {v : V}, EnvR σ r L → r[i]? = some none → σ[i]? = some (some v) →
    ∃ L1 L2, L = L1 ++ L2 ∧ ∀ o, EnvR σ (r.set i (some o)) (L1 ++ (v, o) :: L2)
  | _, _, _, i, v, .nil, e1, e2 => by simp at e1
  | _, _, _, 0, v, .non (x := x) (L := L) h, e1, e2 => by
    simp at e2
    subst e2
    exact ⟨[], L, rfl, fun o => .som h⟩
  | _, _, _, i + 1, v, .non h, e1, e2 => by
    obtain ⟨L1, L2, h1, h2⟩ := EnvR.fill h (by simpa using e1) (by simpa using e2)
    exact ⟨L1, L2, h1, fun o => by simpa using EnvR.non (h2 o)⟩
  | _, _, _, 0, v, .som h, e1, e2 => by simp at e1
  | _, _, _, i + 1, v, .som (v := u) (d := c) h, e1, e2 => by
    obtain ⟨L1, L2, h1, h2⟩ := EnvR.fill h (by simpa using e1) (by simpa using e2)
    exact ⟨(u, c) :: L1, L2, by rw [h1]; rfl, fun o => by simpa using EnvR.som (h2 o)⟩
theorem give {σ : L2.St} : ∀ {as : List Arg} {r : Env} {L : List (V × D)} {vs : List V} {ds : List D} (outs : List D), EnvR σ r L → as.length = vs.length → vs.length = ds.length →
    (∀ p ∈ lentOf as vs ds, σ[p.1]? = some (some p.2) ∧ r[p.1]? = some none) → ((lentOf as vs ds).map (·.1)).Nodup →
    ∃ L2, EnvR σ (giveBack as ds outs r) L2 ∧ ∀ K H T, Sep K H ((ownV vs ds).zip outs ++ (L ++ T)) → Sep K H (L2 ++ T)
  | [], r, L, vs, ds, outs, he, _, _, hl, nd => by
    refine ⟨L, by unfold giveBack; exact he, fun K H T hs => hs.sub (List.sublist_append_right _ _)⟩
  | a :: as, r, L, [], ds, outs, he, e, _, hl, nd => by cases e
  | a :: as, r, L, v :: vs, [], outs, he, _, e, hl, nd => by cases e
  | a :: as, r, L, v :: vs, d :: ds, outs, he, l1, l2, hl, nd => by
    have m1 : as.length = vs.length := by simpa using l1
    have m2 : vs.length = ds.length := by simpa using l2
    by_cases ow : d.own = true
    · cases outs with
      | nil =>
        refine ⟨L, by unfold giveBack; rw [if_pos ow]; exact he, fun K H T hs => hs.sub (List.sublist_append_right _ _)⟩
      | cons o os =>
        cases a with
        | s i =>
          unfold lentOf at hl nd
          rw [if_pos ow] at hl nd
          obtain ⟨z1, z2⟩ := hl (i, v) List.mem_cons_self
          obtain ⟨L1, L2, rfl, hf⟩ := he.fill z2 z1
          obtain ⟨nd1, nd2⟩ := List.nodup_cons.mp nd
          obtain ⟨L3, k1, k2⟩ := give (as := as) (vs := vs) (ds := ds) os (hf o) m1 m2 (fun p hp => ⟨(hl p (List.mem_cons_of_mem _ hp)).1, by
            rw [List.getElem?_set_ne]
            · exact (hl p (List.mem_cons_of_mem _ hp)).2
            · intro z
              exact nd1 (List.mem_map.mpr ⟨p, hp, z.symm⟩)⟩) nd2
          refine ⟨L3, by unfold giveBack; rw [if_pos ow]; exact k1, fun K H T hs => k2 K H T ?_⟩
          unfold ownV at hs
          rw [if_pos ow] at hs
          have hs : Sep K H ((v, o) :: ((ownV vs ds).zip os ++ ((L1 ++ L2) ++ T))) := hs
          rw [List.append_assoc] at hs ⊢
          exact hs.perm (perm3 _ _ _ _)
        | t d' =>
          unfold lentOf at hl nd
          obtain ⟨L3, k1, k2⟩ := give (as := as) (vs := vs) (ds := ds) os he m1 m2 hl nd
          refine ⟨L3, by unfold giveBack; rw [if_pos ow]; exact k1, fun K H T hs => k2 K H T ?_⟩
          unfold ownV at hs
          rw [if_pos ow] at hs
          have hs : Sep K H ((v, o) :: ((ownV vs ds).zip os ++ (L ++ T))) := hs
          exact hs.tail
    · have hl' : (∀ p ∈ lentOf as vs ds, σ[p.1]? = some (some p.2) ∧ r[p.1]? = some none) ∧ ((lentOf as vs ds).map (·.1)).Nodup := by
        cases a with
        | s i =>
          unfold lentOf at hl nd
          rw [if_neg ow] at hl nd
          exact ⟨hl, nd⟩
        | t d' =>
          unfold lentOf at hl nd
          exact ⟨hl, nd⟩
      obtain ⟨L3, k1, k2⟩ := give (as := as) (vs := vs) (ds := ds) outs he m1 m2 hl'.1 hl'.2
      refine ⟨L3, by unfold giveBack; rw [if_neg ow]; exact k1, fun K H T hs => k2 K H T ?_⟩
      unfold ownV at hs
      rw [if_neg ow] at hs
      exact hs
theorem args_len {σ : L2.St} : ∀ {as : List Arg} {vs : List V} {E : List (V × D)}, ArgsR σ as vs E → as.length = vs.length
  | [], vs, E, h => by obtain ⟨rfl, _⟩ := h; rfl
  | a :: as, vs, E, h => by
    obtain ⟨v, r, E1, E2, rfl, _, _, h2⟩ := h
    simp [args_len h2]
section
variable {X : Cx}
def callR (C : CS) (f : Nat) (fa : Env → Res (List Arg)) (r : Env) : Res D := (fa r).bind fun as r1 => doCall C f as r1
/-- a call of the def f -/
theorem se_call {e : Expr} {C : CS} {f : Nat} {fa : Env → Res (List Arg)} (h : PE X e (fun σ H Q => tAs X.K fa σ H fun vs H1 => spF X.K C f vs H1 Q)) : SE X e (callR C f fa) := by
  refine pe_mo h fun σ H Q ⟨r, L, T, he, hs, d, r', e1, q⟩ => ?_
  obtain ⟨as, r1, e2, e3⟩ := bind_ok e1
  refine ⟨r, L, T, he, hs, as, r1, e2, fun vs H1 L1 E1 g1 g2 g3 => ?_⟩
  unfold doCall at e3
  split at e3
  · rename_i ds r0 ht
    split at e3
    · rename_i d' outs hC
      cases e3
      obtain ⟨L0, k1, k2, k3, k4, k5⟩ := lend g1 g2 ht
      obtain ⟨L2, m1, m2⟩ := give outs k1 (args_len g2) k2 k4 k5
      refine ⟨ds, L0 ++ T, d, outs, k3 _ _ _ g3, k2, hC, fun v H' hs' => q v H' L2 m1 ?_⟩
      have := m2 X.K H' ((v, d) :: T) (hs'.perm (perm3 _ _ _ _))
      exact this.perm List.perm_middle
    · cases e3
    · cases e3
  · cases e3
end
end Dl

set_option Elab.async false
set_option linter.all false
set_option maxRecDepth 100000
/-! statements by data -/
namespace Dl
open PySem PySem.Spec PyProof.Rows L2
def LkR (lk : List Nat) (σ σ' : L2.St) : Prop := ∀ i ∈ lk, σ'[i]? = σ[i]?
theorem LkR.rfl' {lk : List Nat} {σ : L2.St} : LkR lk σ σ := fun _ _ => rfl
theorem LkR.trans {lk : List Nat} {σ1 σ2 σ3 : L2.St} (a : LkR lk σ1 σ2) (b : LkR lk σ2 σ3) : LkR lk σ1 σ3 := fun i hi => (b i hi).trans (a i hi)
def OutR (K : Fr) (lk : List Nat) (σ : L2.St) (T : List (V × D)) (E : Ends) : Out → Prop
  | .nx r => ∀ σ' H' L', EnvR σ' r L' → LkR lk σ σ' → Sep K H' (L' ++ T) → E.nx σ' H'
  | .rt d r => ∀ v σ' H' L', EnvR σ' r L' → LkR lk σ σ' → Sep K H' ((v, d) :: (L' ++ T)) → E.rt v H'
  | .ct r => ∀ σ' H' L', EnvR σ' r L' → LkR lk σ σ' → Sep K H' (L' ++ T) → E.ct σ' H'
  | .bk r => ∀ σ' H' L', EnvR σ' r L' → LkR lk σ σ' → Sep K H' (L' ++ T) → E.bk σ' H'
  | .ex _ _ => False
  | .bad => False
def tSt (K : Fr) (lk : List Nat) (f : Env → Out) : TS := fun E σ H => ∃ r L T, EnvR σ r L ∧ Sep K H (L ++ T) ∧ OutR K lk σ T E (f r)
abbrev SS (X : Cx) (lk : List Nat) (st : Stmt) (f : Env → Out) : Prop := PS X st (tSt X.K lk f)
abbrev SSs (X : Cx) (lk : List Nat) (st : List Stmt) (f : Env → Out) : Prop := PSs X st (tSt X.K lk f)
theorem out_ok {α : Type} {x : Res α} {f : α → Env → Out} {K : Fr} {lk : List Nat} {σ : L2.St} {T : List (V × D)} {E : Ends} (h : OutR K lk σ T E (x.out f)) : ∃ a r1, x = .ok a r1 ∧ OutR K lk σ T E (f a r1) := by
  cases x with
  | ok a r => exact ⟨a, r, rfl, h⟩
  | ex x r => exact h.elim
  | bad => exact h.elim
theorem OutR.lkm {K : Fr} {lk : List Nat} {σ σ' : L2.St} {T : List (V × D)} {E : Ends} {o : Out} (l : LkR lk σ σ') (h : OutR K lk σ T E o) : OutR K lk σ' T E o := by
  cases o with
  | nx r => exact fun s2 H' L' a b c => h s2 H' L' a (l.trans b) c
  | rt d r => exact fun v s2 H' L' a b c => h v s2 H' L' a (l.trans b) c
  | ct r => exact fun s2 H' L' a b c => h s2 H' L' a (l.trans b) c
  | bk r => exact fun s2 H' L' a b c => h s2 H' L' a (l.trans b) c
  | ex _ _ => exact h
  | bad => exact h
section
variable {X : Cx} {lk : List Nat}
theorem ss_nx {st : Stmt} (h : PS X st tNext) : SS X lk st (fun r => .nx r) := ps_mo h fun E σ H ⟨r, L, T, he, hs, o⟩ => o σ H L he LkR.rfl' hs
theorem ss_ct {st : Stmt} (h : PS X st tCont) : SS X lk st (fun r => .ct r) := ps_mo h fun E σ H ⟨r, L, T, he, hs, o⟩ => o σ H L he LkR.rfl' hs
theorem ss_retN {pos : Pos} : SS X lk (.Return none pos) (fun r => .rt (.p .none) r) := ps_mo ps_retN fun E σ H ⟨r, L, T, he, hs, o⟩ => o _ σ H L he LkR.rfl' (Sep.cons_p .of_none hs)
/-- name = value -/
theorem ss_asg {st : Stmt} {i : Nat} {f : Env → Res D} {t : TE} (h : PS X st (tAsg t (gName i))) (ht : ∀ σ H Q, tE X.K f σ H Q → t σ H Q) : SS X lk st (asgS lk i f) := by
  refine ps_mo h fun E σ H ⟨r, L, T, he, hs, o⟩ => ?_
  obtain ⟨d, r1, e1, o⟩ := out_ok o
  refine ht _ _ _ ⟨r, L, T, he, hs, d, r1, e1, fun v H' L' g1 g2 => ?_⟩
  unfold setS at o
  split at o
  · exact o.elim
  · rename_i hl
    obtain ⟨L2, h1, h2⟩ := g1.put i v d
    refine o _ H' L2 h1 (fun j hj => ?_) (h2 _ _ _ g2)
    rw [List.getElem?_set_ne]
    intro z
    subst z
    exact hl (List.contains_iff_mem.mpr hj)
theorem asg_lk : ∀ {lk : List Nat}, (∀ {tg : Tg} {d : PyData} {r r' : Env}, asgT lk tg d r = some r' → ∀ i ∈ lk, i ∉ tgIx tg) := by
  intro lk
  have key : ∀ n : Nat, (∀ {tg : Tg} {d : PyData} {r r' : Env}, sizeOf tg < n → asgT lk tg d r = some r' → ∀ i ∈ lk, i ∉ tgIx tg) ∧ (∀ {ts : List Tg} {ds : List PyData} {r r' : Env}, sizeOf ts < n → asgTs lk ts ds r = some r' → ∀ i ∈ lk, i ∉ tgIxs ts) := by
    intro n
    induction n with
    | zero => exact ⟨fun h => absurd h (Nat.not_lt_zero _), fun h => absurd h (Nat.not_lt_zero _)⟩
    | succ n ih =>
      refine ⟨fun {tg d r r'} hz h i hi hm => ?_, fun {ts ds r r'} hz h i hi hm => ?_⟩
      · cases tg with
        | v j =>
          unfold asgT at h
          unfold tgIx at hm
          split at h
          · cases h
          · rename_i hl
            cases List.mem_singleton.mp hm
            exact hl (List.contains_iff_mem.mpr hi)
        | t ts =>
          unfold asgT at h
          unfold tgIx at hm
          split at h
          · exact ih.2 (by simp at hz; omega) h i hi hm
          · cases h
      · cases ts with
        | nil => unfold tgIxs at hm; cases hm
        | cons t ts =>
          cases ds with
          | nil => cases h
          | cons d ds =>
            unfold asgTs at h
            obtain ⟨r1, e2, e3⟩ := Option.bind_eq_some_iff.mp h
            unfold tgIxs at hm
            simp at hz
            rcases List.mem_append.mp hm with m | m
            · exact ih.1 (by omega) e2 i hi m
            · exact ih.2 (by omega) e3 i hi m
  intro tg d r r' h
  exact (key (sizeOf tg + 1)).1 (Nat.lt_succ_self _) h
/-- (a, b) = value -/
theorem ss_unp {st : Stmt} {ts : List Tg} {f : Env → Res PyData} (h : PS X st (tAsg (tP X.K f) (tGt X.K lk (.t ts)))) : SS X lk st (unpS lk ts f) := by
  refine ps_mo h fun E σ H ⟨r, L, T, he, hs, o⟩ => ?_
  obtain ⟨d, r1, e1, o⟩ := out_ok o
  cases e2 : asgT lk (.t ts) d r1 with
  | none => rw [e2] at o; exact o.elim
  | some r2 =>
    rw [e2] at o
    refine ⟨r, L, T, he, hs, d, r1, e1, fun v H' L' g1 g2 => ⟨d, r1, L', T, r2, g1, g2, e2, fun σ' L2 k1 k2 k3 k4 => o σ' H' L2 k1 (fun i hi => k3 i (asg_lk e2 i hi)) k4⟩⟩
/-- a statement whose value falls away -/
theorem ss_exp {st : Stmt} {f : Env → Res D} (h : PS X st (tDrop (tE X.K f))) : SS X lk st (expS f) := by
  refine ps_mo h fun E σ H ⟨r, L, T, he, hs, o⟩ => ?_
  obtain ⟨d, r1, e1, o⟩ := out_ok o
  exact ⟨r, L, T, he, hs, d, r1, e1, fun v H' L' g1 g2 => o σ H' L' g1 LkR.rfl' g2.tail⟩
theorem ss_ret {e : Expr} {pos : Pos} {f : Env → Res D} (h : SE X e f) : SS X lk (.Return (some e) pos) (retS f) := by
  refine ps_mo (ps_ret h) fun E σ H ⟨r, L, T, he, hs, o⟩ => ?_
  obtain ⟨d, r1, e1, o⟩ := out_ok o
  exact ⟨r, L, T, he, hs, d, r1, e1, fun v H' L' g1 g2 => o v σ H' L' g1 LkR.rfl' g2⟩
/-- a local goes out with what it owns -/
theorem se_out {i : Nat} {e : Expr} (h : PE X e (tVar i)) : SE X e (fun r => match getS r i with | some d => .ok d (r.set i none) | none => .bad) := by
  refine pe_mo h fun σ H Q ⟨r, L, T, he, hs, d, r', e1, q⟩ => ?_
  dsimp only at e1
  split at e1
  · rename_i d' hd
    cases e1
    obtain ⟨v, L1, L2, h1, rfl, _, h3⟩ := he.at hd
    refine ⟨v, h1, q v H _ h3 (hs.perm ?_)⟩
    rw [List.append_assoc, List.append_assoc]
    exact List.perm_middle
  · cases e1
theorem ss_if {c : Expr} {a b : List Stmt} {pos : Pos} {fc : Env → Res Bool} {fa fb : Env → Out} (hc : SB X c fc) (ha : SSs X lk a fa) (hb : SSs X lk b fb) : SS X lk (.If c a b pos) (ifS fc fa fb) := by
  refine ps_mo (ps_if hc ha hb) fun E σ H ⟨r, L, T, he, hs, o⟩ => ?_
  obtain ⟨k, r1, e1, o⟩ := out_ok o
  refine ⟨r, L, T, he, hs, k, r1, e1, fun H' L' g1 g2 => ?_⟩
  cases k with
  | true => simp only [if_true] at o ⊢; exact ⟨r1, L', T, g1, g2, o⟩
  | false => simp only [Bool.false_eq_true, if_false] at o ⊢; exact ⟨r1, L', T, g1, g2, o⟩
theorem sss_nil : SSs X lk [] (fun r => .nx r) := pss_mo pss_nil fun E σ H ⟨r, L, T, he, hs, o⟩ => o σ H L he LkR.rfl' hs
theorem sss_cons {s : Stmt} {ss : List Stmt} {f g : Env → Out} (h1 : SS X lk s f) (h2 : SSs X lk ss g) : SSs X lk (s :: ss) (fun r => (f r).seq g) := by
  refine pss_mo (pss_cons h1 h2) fun E σ H ⟨r, L, T, he, hs, o⟩ => ⟨r, L, T, he, hs, ?_⟩
  have o : OutR X.K lk σ T E ((f r).seq g) := o
  cases hf : f r with
  | nx r1 =>
    rw [hf] at o
    exact fun σ' H' L' a b c => ⟨r1, L', T, a, c, o.lkm b⟩
  | rt d r1 => rw [hf] at o; exact o
  | ct r1 => rw [hf] at o; exact o
  | bk r1 => rw [hf] at o; exact o
  | ex x r1 => rw [hf] at o; exact o
  | bad => rw [hf] at o; exact o
/-- for -/
theorem ss_for {tg iter : Expr} {body : List Stmt} {pos : Pos} {fi : Env → Res (List PyData)} {tgi : Tg} {fb : Env → Out} (hp : PassesOwn (model X.prog X.w) X.A X.env X.xe) (hc : X.calm = true) (hi : SI X tg iter fi) (hg : PG X tg (tGt X.K lk tgi)) (hb : SSs X lk body fb)
    (hs : ∀ x, foldedSetIterable iter X.env x = pure x) : SS X lk (.For tg iter body [] pos) (forS fi (asgT lk tgi) fb) := by
  refine ps_mo (ps_for hp hc hi hg hb hs) fun E σ H ⟨r, L, T, he, hsp, o⟩ => ?_
  obtain ⟨xs, r1, e1, o⟩ := out_ok o
  refine ⟨r, L, T, he, hsp, xs, r1, e1, fun J H1 L1 Ei g1 g2 dw => ?_⟩
  refine L2.for_it (walk_dw dw) (fun i σ' H => ∃ ra La, EnvR σ' ra La ∧ LkR lk σ σ' ∧ Sep X.K H (Ei ++ (La ++ T)) ∧ OutR X.K lk σ T E (forLoop (asgT lk tgi) fb (xs.drop i) ra)) ?_ ?_ ?_ ?_
  · exact ⟨r1, L1, g1, LkR.rfl', g2, by rw [List.drop_zero]; exact o⟩
  · rintro i σ' H hi ⟨ra, La, a1, a2, a3, a4⟩
    exact a3.sub (List.sublist_append_left _ _)
  · rintro i x σ' H H' hi ⟨ra, La, a1, a2, a3, a4⟩ y
    obtain ⟨dx, x1, x2⟩ := dw.yields i H x H' _ hi a3 y
    rw [drop_get x1] at a4
    unfold forLoop at a4
    cases e2 : asgT lk tgi dx ra with
    | none => rw [e2] at a4; exact a4.elim
    | some rb =>
      rw [e2] at a4
      dsimp only at a4
      have x3 : Sep X.K H' ((x, .p dx) :: (La ++ (Ei ++ T))) := x2.perm (List.Perm.cons _ (by
        rw [← List.append_assoc, ← List.append_assoc]
        exact List.perm_append_comm.append_right T))
      refine ⟨dx, ra, La, Ei ++ T, rb, a1, x3, e2, fun σ2 Lb m1 m2 m3 m4 => ?_⟩
      have lk2 : LkR lk σ σ2 := a2.trans fun j hj => m3 j (asg_lk e2 j hj)
      refine ⟨rb, Lb, Ei ++ T, m1, m4, ?_⟩
      have sw : ∀ {H : Hp} {Lc : List (V × D)}, Sep X.K H (Lc ++ (Ei ++ T)) → Sep X.K H (Ei ++ (Lc ++ T)) := fun h => h.perm (by
        rw [← List.append_assoc, ← List.append_assoc]
        exact List.perm_append_comm.append_right T)
      cases e3 : fb rb with
      | nx rc =>
        rw [e3] at a4
        exact fun σ3 H3 L3 b1 b2 b3 => ⟨rc, L3, b1, lk2.trans b2, sw b3, a4⟩
      | ct rc =>
        rw [e3] at a4
        exact fun σ3 H3 L3 b1 b2 b3 => ⟨rc, L3, b1, lk2.trans b2, sw b3, a4⟩
      | bk rc =>
        rw [e3] at a4
        exact fun σ3 H3 L3 b1 b2 b3 => a4 σ3 H3 L3 b1 (lk2.trans b2) (b3.sub (List.Sublist.append (List.Sublist.refl _) (List.sublist_append_right _ _)))
      | rt d rc =>
        rw [e3] at a4
        exact fun v σ3 H3 L3 b1 b2 b3 => a4 v σ3 H3 L3 b1 (lk2.trans b2) (b3.sub (List.Sublist.cons_cons _ (List.Sublist.append (List.Sublist.refl _) (List.sublist_append_right _ _))))
      | ex _ _ => rw [e3] at a4; exact a4.elim
      | bad => rw [e3] at a4; exact a4.elim
  · rintro σ' H ⟨ra, La, a1, a2, a3, a4⟩
    rw [List.drop_length] at a4
    exact a4 σ' H La a1 a2 (a3.sub (List.sublist_append_right _ _))
/-- while -/
theorem ss_whl {c : Expr} {body : List Stmt} {pos : Pos} {fc : Env → Res Bool} {fb : Env → Out} (hp : PassesOwn (model X.prog X.w) X.A X.env X.xe) (hc : SB X c fc) (hb : SSs X lk body fb) : SS X lk (.While c body [] pos) (fun r => whLoop fc fb wfuel r) := by
  refine ps_mo (ps_while hp hc hb) fun E σ H ⟨r, L, T, he, hsp, o⟩ => ?_
  refine ⟨fun m σ' H => ∃ ra La, EnvR σ' ra La ∧ LkR lk σ σ' ∧ Sep X.K H (La ++ T) ∧ OutR X.K lk σ T E (whLoop fc fb m ra), ⟨wfuel, r, L, he, LkR.rfl', hsp, o⟩, ?_⟩
  rintro m σ' H ⟨ra, La, a1, a2, a3, a4⟩
  cases m with
  | zero => exact a4.elim
  | succ m =>
    unfold whLoop at a4
    obtain ⟨b, rb, e1, a4⟩ := out_ok a4
    refine ⟨ra, La, T, a1, a3, b, rb, e1, fun H1 L1 g1 g2 => ?_⟩
    cases b with
    | true =>
      simp only [if_true] at a4 ⊢
      refine ⟨fun σ' H => ∃ ra La, EnvR σ' ra La ∧ LkR lk σ σ' ∧ Sep X.K H (La ++ T) ∧ OutR X.K lk σ T E (whLoop fc fb m ra), fun σ'' H'' n => ⟨m, Nat.lt_succ_self m, n⟩, rb, L1, T, g1, g2, ?_⟩
      cases e3 : fb rb with
      | nx rc => rw [e3] at a4; exact fun σ3 H3 L3 b1 b2 b3 => ⟨rc, L3, b1, a2.trans b2, b3, a4⟩
      | ct rc => rw [e3] at a4; exact fun σ3 H3 L3 b1 b2 b3 => ⟨rc, L3, b1, a2.trans b2, b3, a4⟩
      | bk rc => rw [e3] at a4; exact fun σ3 H3 L3 b1 b2 b3 => a4 σ3 H3 L3 b1 (a2.trans b2) b3
      | rt d rc => rw [e3] at a4; exact fun v σ3 H3 L3 b1 b2 b3 => a4 v σ3 H3 L3 b1 (a2.trans b2) b3
      | ex _ _ => rw [e3] at a4; exact a4.elim
      | bad => rw [e3] at a4; exact a4.elim
    | false =>
      simp only [Bool.false_eq_true, if_false] at a4 ⊢
      exact a4 σ' H1 L1 g1 a2 g2
/-! ### lists written -/
theorem listAt_get {r : Env} {i : Nat} {xs : List PyData} (h : listAt r i = some xs) : getS r i = some (.o (.list xs)) := by
  unfold listAt at h
  split at h
  · rename_i e; cases h; exact e
  · cases h
/-- the list in a slot, to be written -/
theorem slot_own {K : Fr} {σ : L2.St} {r : Env} {L T : List (V × D)} {H : Hp} {i : Nat} {xs : List PyData} (he : EnvR σ r L) (hs : Sep K H (L ++ T)) (h : listAt r i = some xs) :
    ∃ a vs, σ[i]? = some (some (.ref a)) ∧ H a = some (.lst vs) ∧ Reps K H xs vs ∧ ∀ ws es, Reps K H es ws → ∃ L', EnvR σ (r.set i (some (.o (.list es)))) L' ∧ Sep K (upd H a (.lst ws)) (L' ++ T) := by
  obtain ⟨v, L1, L2, h1, rfl, h2, _⟩ := he.at (listAt_get h)
  rw [List.append_assoc] at hs
  obtain ⟨a, vs, rfl, e2, e3, wr, _⟩ := (Sep.to_front (x := (v, D.o (.list xs))) (L := L1) (M := L2 ++ T) hs).owned
  refine ⟨a, vs, h1, e2, e3, fun ws es q => ⟨_, h2 (.o (.list es)), ?_⟩⟩
  rw [List.append_assoc]
  exact Sep.from_front (wr ws es q)
theorem ss_app {st : Stmt} {i : Nat} {f : Env → Res PyData} (h : PS X st (tDrop (tBM X.K "list" rAppend (tVar i) (tCons (tP X.K f) tNil)))) : SS X lk st (appS i f) := by
  refine ps_mo h fun E σ H ⟨r, L, T, he, hs, o⟩ => ?_
  unfold appS at o
  cases e0 : listAt r i with
  | none => rw [e0] at o; exact o.elim
  | some xs0 =>
    rw [e0] at o
    obtain ⟨a, vs, h1, h2, _, _⟩ := slot_own he hs e0
    obtain ⟨d, r1, e1, o⟩ := out_ok o
    refine ⟨.ref a, h1, .inl ⟨rfl, vs, SqL.of h2⟩, r, L, T, he, hs, d, r1, e1, fun v H' L' g1 g2 => ?_⟩
    cases e3 : listAt r1 i with
    | none => rw [e3] at o; exact o.elim
    | some xs =>
      rw [e3] at o
      dsimp only at o
      split at o
      · rename_i hz
        obtain ⟨b, ws, k1, k2, k3, k4⟩ := slot_own g1 g2.tail e3
        rw [h1] at k1
        cases k1
        obtain ⟨L2, m1, m2⟩ := k4 (ws ++ [v]) (xs ++ [d]) (k3.append (Reps.cons g2.head_p Reps.nil))
        exact ⟨a, ws, v, rfl, rfl, k2, by rw [k3.length]; exact hz, o σ _ L2 m1 LkR.rfl' m2⟩
      · exact o.elim
theorem ss_ext {st : Stmt} {i : Nat} {f : Env → Res D} (h : PS X st (tDrop (tBM X.K "list" rExtend (tVar i) (tCons (tE X.K f) tNil)))) : SS X lk st (extS i f) := by
  refine ps_mo h fun E σ H ⟨r, L, T, he, hs, o⟩ => ?_
  unfold extS at o
  cases e0 : listAt r i with
  | none => rw [e0] at o; exact o.elim
  | some xs0 =>
    rw [e0] at o
    obtain ⟨a, vs, h1, h2, _, _⟩ := slot_own he hs e0
    obtain ⟨d, r1, e1, o⟩ := out_ok o
    refine ⟨.ref a, h1, .inl ⟨rfl, vs, SqL.of h2⟩, r, L, T, he, hs, d, r1, e1, fun v H' L' g1 g2 => ?_⟩
    split at o
    · rename_i xs ys e3
      split at o
      · rename_i hz
        obtain ⟨b, us, rfl, hb, rb, _⟩ := g2.owned
        obtain ⟨c, ws, k1, k2, k3, k4⟩ := slot_own g1 g2.tail e3
        rw [h1] at k1
        cases k1
        obtain ⟨L2, m1, m2⟩ := k4 (ws ++ us) (xs ++ ys) (k3.append rb)
        exact ⟨a, b, ws, us, rfl, rfl, k2, hb, by rw [k3.length, rb.length]; exact hz, o σ _ L2 m1 LkR.rfl' m2⟩
      · exact o.elim
    · exact o.elim
theorem ss_setI {st : Stmt} {i : Nat} {fx : Env → Res Arg} {f : Env → Res PyData} (h : PS X st (tAsg (tP X.K f) (gSub (tVar i) (tI X.K fun r => intR (fx r)) rSetL))) : SS X lk st (setIS i fx f) := by
  refine ps_mo h fun E σ H ⟨r, L, T, he, hs, o⟩ => ?_
  obtain ⟨d, r1, e1, o⟩ := out_ok o
  cases e0 : listAt r1 i with
  | none => rw [e0] at o; exact o.elim
  | some xs0 =>
    rw [e0] at o
    obtain ⟨k, r2, e2, o⟩ := out_ok o
    cases e3 : (listAt r2 i).bind fun xs => setIx xs k d with
    | none => rw [e3] at o; exact o.elim
    | some ys =>
      rw [e3] at o
      obtain ⟨xs, e4, e5⟩ := Option.bind_eq_some_iff.mp e3
      obtain ⟨j, e6, rfl⟩ := Option.map_eq_some_iff.mp e5
      refine ⟨r, L, T, he, hs, d, r1, e1, fun v H' L' g1 g2 => ?_⟩
      obtain ⟨a, vs, h1, _, _, _⟩ := slot_own g1 g2.tail e0
      refine ⟨.ref a, h1, r1, L', (v, .p d) :: T, g1, Sep.from_front g2, k, r2, e2, fun H2 L2 b1 b2 => ?_⟩
      obtain ⟨b, ws, k1, k2, k3, k4⟩ := slot_own b1 b2 e4
      rw [h1] at k1
      cases k1
      have hv : Rep X.K H2 d v := b2.memP (by simp)
      obtain ⟨L3, m1, m2⟩ := k4 (ws.set j v) (xs.set j d) (k3.set j hv)
      refine ⟨a, ws, k, j, rfl, rfl, k2, by rw [k3.length]; exact e6, o σ _ L3 m1 LkR.rfl' (m2.sub ?_)⟩
      exact List.Sublist.append (List.Sublist.refl _) (List.sublist_cons_self _ _)
end
end Dl

set_option Elab.async false
set_option linter.all false
set_option maxRecDepth 100000
/-! from the text to slots -/
namespace Dl
open PySem
structure Ctx where
  N : List Str
  sc : Scope
  own : Option Scope
  fns : List (Str × List Bool)
  cs : List (Str × PyData)
def ixOf : List Str → Str → Option Nat
  | [], _ => none
  | y :: r, x => if y = x then some 0 else (ixOf r x).map (· + 1)
def optAll {α : Type} : List (Option α) → Option (List α)
  | [] => some []
  | x :: r => x.bind fun a => (optAll r).map (a :: ·)
def chk {α : Type} (b : Bool) (x : Option α) : Option α := if b then x else none
def Ctx.knd (Γ : Ctx) (x : Str) : Option NameKind := Γ.sc.names.lookup x
def Ctx.vis (Γ : Ctx) (x : Str) : Bool := (match Γ.knd x with
  | some .local => true
  | some .cell => true
  | some .free => true
  | _ => false) && !(x == ("__debug__" : Str)) && !(x == ("__classdict__" : Str))
def Ctx.fnB (Γ : Ctx) (x : Str) : Bool := match Γ.own with
  | none => true
  | some s => s.names.lookup x == some .cell
def Ctx.loc (Γ : Ctx) (x : Str) : Bool := match Γ.knd x with
  | some .local => true
  | some .cell => Γ.fnB x
  | _ => false
def Ctx.gl (Γ : Ctx) (x : Str) : Bool := (match Γ.knd x with
  | some .globalImplicit => true
  | _ => false) && !(x == ("__debug__" : Str))
def cOf : Const → Option PyData
  | .none => some .none
  | .bool b => some (.bool b)
  | .int i => some (.int i)
  | .str s => some (.str s)
  | _ => none
def opOf : Operator → Option Op
  | .Add => some .add
  | .Sub => some .sub
  | .Mult => some .mul
  | .FloorDiv => some .fdiv
  | .Mod => some .mod
  | .Pow => some .pow
  | .LShift => some .shl
  | .RShift => some .shr
  | .BitXor => some .xor
  | _ => none
def cmOf : CmpOp → Cm
  | .Eq => .eq | .NotEq => .ne | .Lt => .lt | .LtE => .le | .Gt => .gt | .GtE => .ge | .In => .isin | .NotIn => .notin | .Is => .is | .IsNot => .isnt
def biOf (f : Str) (n : Nat) : Option Bi :=
  if n = 1 then (if f = "len" then some .len else if f = "tuple" then some .tuple else if f = "list" then some .list else if f = "abs" then some .abs else if f = "int" then some .int
    else if f = "repr" then some .repr else if f = "str" then some .str else if f = "min" then some .min1 else if f = "max" then some .max1 else if f = "all" then some .all
    else if f = "any" then some .any else if f = "sum" then some .sum else if f = "sorted" then some .sorted else none)
  else if n = 2 then (if f = "min" then some .min2 else if f = "max" then some .max2 else none) else none
def tyOf (f : Str) : Option Ty :=
  if f = "int" then some .int else if f = "bool" then some .bool else if f = "tuple" then some .tuple else if f = "list" then some .list else if f = "str" then some .str else if f = "dict" then some .dict else none
def fnIx : List (Str × List Bool) → Str → Option (Nat × List Bool)
  | [], _ => none
  | y :: r, x => if y.1 = x then some (0, y.2) else (fnIx r x).map fun q => (q.1 + 1, q.2)
def tstB : Expr → Bool
  | .IfExp .. => false
  | _ => true
def noSet : Expr → Bool
  | .Set .. => false
  | _ => true
def noStar : Expr → Bool
  | .Starred .. => false
  | _ => true
def noLc : Expr → Bool
  | .ListComp .. => false
  | .SetComp .. => false
  | .DictComp .. => false
  | _ => true
def andAll : List Ex → Option Ex
  | [] => none
  | [x] => some x
  | x :: r => (andAll r).map (.and x)
def orAll : List Ex → Option Ex
  | [] => none
  | [x] => some x
  | x :: r => (orAll r).map (.or x)
def escB (b : Bool) (x : Ex) : Ex := if b && x.vix.isSome then .esc x else x
def escAll : List Bool → List Ex → List Ex
  | b :: bs, x :: xs => escB b x :: escAll bs xs
  | _, xs => xs
def rngOf (Γ : Ctx) (op : CmpOp) (b : Expr) : Option (Bool × Expr × Expr) := match b with
  | .Call (.Name f _) [lo, hi] [] _ => if f = "range" ∧ Γ.gl f = true then (match op with
    | .In => some (false, lo, hi)
    | .NotIn => some (true, lo, hi)
    | _ => none) else none
  | _ => none
def cTb (Γ : Ctx) : Nat → Expr → Option Tg
  | 0, _ => none
  | n + 1, .Name x _ => chk (Γ.loc x) ((ixOf Γ.N x).map .v)
  | n + 1, .Tuple es _ _ => (optAll (es.map (cTb Γ n))).map .t
  | n + 1, _ => none
abbrev cT (Γ : Ctx) : Expr → Option Tg := cTb Γ 6
def isTup : Expr → Bool
  | .Tuple .. => true
  | _ => false
def ownAt (N : List Str) (is : List Nat) : List (Str × Nat) := is.map fun i => (N.getD i default, i)
def Ctx.blk (Γ : Ctx) (scope : Scope) : Ctx := { Γ with sc := L2.relS scope Γ.sc, own := some scope }
section
variable (rec : Ctx → Expr → Option Ex) (Γ : Ctx)
def cCall (f : Str) (args : List Expr) : Option Ex := match fnIx Γ.fns f with
  | some (i, fl) => chk (!args.isEmpty) ((optAll (args.map (rec Γ))).map fun es => .call i (escAll fl es))
  | none => (match args with
    | [.Call (.Name g _) [a] [] _] => if f = "sorted" ∧ g = "set" ∧ Γ.gl g = true then (rec Γ a).map fun x => .bi .setsorted [x]
      else (biOf f args.length).bind fun b => (optAll (args.map (rec Γ))).map fun es => .bi b es
    | [a, .Name t _] => if f = "isinstance" ∧ Γ.gl t = true then (tyOf t).bind fun ty => (rec Γ a).map fun x => .isT x ty
      else (biOf f args.length).bind fun b => (optAll (args.map (rec Γ))).map fun es => .bi b es
    | _ => (biOf f args.length).bind fun b => (optAll (args.map (rec Γ))).map fun es => .bi b es)
def cIt (tg e : Expr) : Option It := match e with
  | .Call (.Name f _) [a] [] _ => if f = "range" ∧ Γ.gl f = true then (rec Γ a).map .rng1
    else if f = "enumerate" ∧ Γ.gl f = true ∧ isTup tg = true then (rec Γ a).map .enum else (rec Γ e).map .ex
  | .Call (.Name f _) [a, b] [] _ => if f = "range" ∧ Γ.gl f = true then (rec Γ a).bind fun x => (rec Γ b).map fun y => .rng2 x y
    else if f = "zip" ∧ Γ.gl f = true ∧ isTup tg = true then (rec Γ a).bind fun x => (rec Γ b).map fun y => .zip2 x y else (rec Γ e).map .ex
  | .Call (.Name f _) [a, b, c] [] _ => if f = "zip" ∧ Γ.gl f = true ∧ isTup tg = true then (rec Γ a).bind fun x => (rec Γ b).bind fun y => (rec Γ c).map fun z => .zip3 x y z else (rec Γ e).map .ex
  | e => (rec Γ e).map .ex
def cIfs (ifs : List Expr) : Option Ex := match ifs with
  | [] => some (.c (.bool true))
  | [c] => chk (tstB c) (rec Γ c)
  | _ => none
def cLc (elt : Expr) (gens : List Comprehension) (scope : Scope) : Option Ex := match gens with
  | [⟨tg, iter, ifs, as⟩] => chk (as == 0 && noSet iter) ((cT (Γ.blk scope) tg).bind fun t => chk (L2.blkC Γ.N Γ.sc scope (ownAt Γ.N (tgIx t)))
      ((cIt rec Γ tg iter).bind fun it => (cIfs rec (Γ.blk scope) ifs).bind fun c => (rec (Γ.blk scope) elt).map fun x => .lc x (tgIx t) t it c))
  | [⟨tg, iter, ifs, as⟩, ⟨tg2, iter2, ifs2, as2⟩] => chk (as == 0 && as2 == 0 && noSet iter && noSet iter2) ((cT (Γ.blk scope) tg).bind fun t => (cT (Γ.blk scope) tg2).bind fun t2 =>
      chk (L2.blkC Γ.N Γ.sc scope (ownAt Γ.N (tgIx t ++ tgIx t2))) ((cIt rec Γ tg iter).bind fun it => (cIfs rec (Γ.blk scope) ifs).bind fun c => (cIt rec (Γ.blk scope) tg2 iter2).bind fun it2 =>
        (cIfs rec (Γ.blk scope) ifs2).bind fun c2 => (rec (Γ.blk scope) elt).map fun x => .lc2 x (tgIx t ++ tgIx t2) t it c t2 it2 c2))
  | _ => none
def cSub (a s : Expr) : Option Ex := match s with
  | .Slice (some lo) none none _ => (rec Γ a).bind fun x => (rec Γ lo).map fun y => .slF x y
  | .Slice none (some hi) none _ => (rec Γ a).bind fun x => (rec Γ hi).map fun y => .slT x y
  | .Slice (some lo) (some hi) none _ => (rec Γ a).bind fun x => (rec Γ lo).bind fun y => (rec Γ hi).map fun z => .slB x y z
  | .Slice none none (some (.UnaryOp .USub (.Constant (.int i) _ _) _)) _ => chk (i == 1) ((rec Γ a).map .rev)
  | .Slice .. => none
  | s => (rec Γ a).bind fun x => (rec Γ s).map fun y => .idx x y
def cEb (e : Expr) : Option Ex := match e with
  | .Name x _ => if Γ.vis x then (ixOf Γ.N x).map .var else if Γ.gl x then (Γ.cs.lookup x).map .c else none
  | .Constant c _ _ => (cOf c).map .c
  | .Tuple es _ _ => (optAll (es.map (rec Γ))).map .tup
  | .List es _ => (optAll (es.map (rec Γ))).map .lst
  | .BinOp a op b _ => (opOf op).bind fun o => (rec Γ a).bind fun x => (rec Γ b).map fun y => .bin o x y
  | .UnaryOp .USub a _ => (rec Γ a).map .neg
  | .UnaryOp .Not a _ => chk (tstB a) ((rec Γ a).map .not)
  | .BoolOp .And (a :: b :: es) _ => chk ((a :: b :: es).all tstB) ((optAll ((a :: b :: es).map (rec Γ))).bind andAll)
  | .BoolOp .Or (a :: b :: es) _ => chk ((a :: b :: es).all tstB) ((optAll ((a :: b :: es).map (rec Γ))).bind orAll)
  | .IfExp c a b _ => chk (tstB c) ((rec Γ c).bind fun z => (rec Γ a).bind fun x => (rec Γ b).map fun y => .ite z x y)
  | .Compare a [op] [b] _ => (match rngOf Γ op b with
    | some (neg, lo, hi) => (rec Γ a).bind fun x => (rec Γ lo).bind fun y => (rec Γ hi).map fun z => .inR neg x y z
    | none => (rec Γ a).bind fun x => (rec Γ b).map fun y => .cmp (cmOf op) x y)
  | .Compare a [o1, o2] [b, c] _ => chk (!lastMarks [o1, o2] [b, c]) ((rec Γ a).bind fun x => (rec Γ b).bind fun y => (rec Γ c).map fun z => .ch (cmOf o1) (cmOf o2) x y z)
  | .Subscript a s _ => cSub rec Γ a s
  | .Call (.Name f _) args [] _ => chk (Γ.gl f) (cCall rec Γ f args)
  | .ListComp elt gens scope _ => cLc rec Γ elt gens scope
  | _ => none
end
def cE : Nat → Ctx → Expr → Option Ex
  | 0 => fun _ _ => none
  | n + 1 => cEb (cE n)
/-! ### statements -/
section
variable (rE : Ctx → Expr → Option Ex) (rS : Stmt → Option St) (Γ : Ctx)
def namesOf : List Expr → Option (List (Str × Nat))
  | [] => some []
  | .Name x p :: r => (namesOf r).map ((x, p.line) :: ·)
  | _ :: _ => none
/-- a, b = x, y stored from the right -/
def parOk (ns : List (Str × Nat)) (vs : List Expr) : Bool := (ns.length == 2 || ns.length == 3) && vs.length == ns.length && ns.all (fun q => Γ.knd q.1 == some .local && q.2 == ((ns.head?.map (·.2)).getD 0)) &&
  decide (ns.map (·.1)).Nodup && vs.all noStar && !(vs.all (foldedForSure 8)) && !(vs.all (constantsAlone 8))
/-- a, b = x, y stored from the left, one by one -/
def parUk (ns : List (Str × Nat)) (vs : List Expr) : Bool := decide (ns.length ≤ 1000) && vs.length == ns.length && ns.all (fun q => Γ.loc q.1) && decide (ns.map (·.1)).Nodup &&
  !((ns.length == 2 || ns.length == 3) && ns.all (fun q => Γ.knd q.1 == some .local && q.2 == ((ns.head?.map (·.2)).getD 0)))
def cAsg (tg e : Expr) (pos : Pos) : Option St := match tg with
  | .Name x py => chk (Γ.loc x) ((ixOf Γ.N x).bind fun i => (rE Γ e).map fun v => .asg i v)
  | .Tuple ts _ _ => (match e with
    | .Tuple vs _ _ => (namesOf ts).bind fun ns => chk (parOk Γ ns vs || parUk Γ ns vs) ((optAll (ns.map fun q => ixOf Γ.N q.1)).bind fun is => (optAll (vs.map (rE Γ))).map fun es => .par is es)
    | _ => chk (noLc e) ((cT Γ tg).bind fun t => (match t with
      | .t tl => (rE Γ e).map fun v => .unp tl v
      | .v _ => none)))
  | .Subscript (.Name x _) ix _ => chk (noLc e && Γ.vis x && (match ix with | .Slice .. => false | _ => true)) ((ixOf Γ.N x).bind fun i => (rE Γ ix).bind fun k => (rE Γ e).map fun v => .setI i k v)
  | _ => none
def cSb (s : Stmt) : Option St := match s with
  | .Expr (.Constant (.str _) _ _) _ => some .pass
  | .Expr (.Call (.Attribute (.Name x _) m apos) [e] [] cpos) _ => chk (Γ.vis x && apos.endLine == cpos.line) ((ixOf Γ.N x).bind fun i => (rE Γ e).bind fun v =>
      if m = "append" then some (.app i v) else if m = "extend" then some (.ext i v) else none)
  | .Expr e _ => chk (noLc e) ((rE Γ e).map .exp)
  | .Assign [tg] e pos => cAsg rE Γ tg e pos
  | .Return (some e) _ => (rE Γ e).map .ret
  | .Return none _ => some .retN
  | .If c a b _ => chk (tstB c) ((rE Γ c).bind fun k => (optAll (a.map rS)).bind fun x => (optAll (b.map rS)).map fun y => .ifs k x y)
  | .For tg it body [] _ => chk (noSet it) ((cT Γ tg).bind fun t => (cIt rE Γ tg it).bind fun i => (optAll (body.map rS)).map fun x => .for_ t i x)
  | .While c body [] _ => chk (tstB c) ((rE Γ c).bind fun k => (optAll (body.map rS)).map fun x => .whl k x)
  | .Pass _ => some .pass
  | .Continue _ => some .cont
  | _ => none
end
def cS (Γ : Ctx) : Nat → Stmt → Option St
  | 0 => fun _ => none
  | n + 1 => cSb (cE 20) (cS Γ n) Γ
/-! ### defs -/
def fnArgs : Stmt → Option (Str × List PySem.Arg × List Stmt × Scope)
  | .FunctionDef name args body _ _ _ scope _ _ _ => some (name, args.args, body, scope)
  | _ => none
def cBody (Γ : Ctx) (body : List Stmt) : Option (List St) := optAll (body.map (cS Γ 12))
def cFn (N : List Str) (fns : List (Str × List Bool)) (cs : List (Str × PyData)) (d : Stmt) : Option Fn := (fnArgs d).bind fun q => (cBody ⟨N, q.2.2.2, none, fns, cs⟩ q.2.2.1).map fun b => ⟨q.2.1.length, N.length, b⟩
end Dl

set_option Elab.async false
set_option linter.all false
set_option maxRecDepth 100000
/-! what is made from the text tells what the text does: expressions -/
namespace Dl
open PySem PySem.Spec PyProof.Rows L2
def bis : List Str := ["len", "tuple", "list", "abs", "int", "repr", "str", "min", "max", "all", "any", "sum", "sorted", "set", "isinstance", "range", "zip", "enumerate", "bool", "dict"]
structure OkX (Γ : Ctx) (k : Nat) (C : CS) (X : Cx) : Prop where
  N : X.N = Γ.N
  sc : X.env.scope = Γ.sc
  fn : ∀ x, Γ.fnB x = true → X.fn x = true
  nd : Γ.N.Nodup
  kind : Γ.sc.kind = .function
  calm : X.calm = true
  room : Room k X.A
  guards : X.A.guards = some []
  bi : ∀ x ∈ bis, X.mg x = none
  cs : ∀ x d, Γ.cs.lookup x = some d → ∃ u v, X.mg x = some u ∧ RelV v u ∧ ∀ H, Rep X.K H d v
  fns : ∀ x i fl, fnIx Γ.fns x = some (i, fl) → ∃ f fd ps, FnG X.prog X.w X.K X.mg X.base k f fd ps (spF X.K C i) ∧ X.mg x = some (.ref f) ∧ PySem.W.keepIn X.K (.ref f) = true ∧ Binds X.K fd ps []
section
variable {Γ : Ctx} {k : Nat} {C : CS} {X : Cx}
theorem OkX.glo (o : OkX Γ k C X) {x : Str} (h : Γ.gl x = true) : Gl X x ∧ (x == ("__debug__" : Str)) = false := by
  unfold Ctx.gl Ctx.knd at h
  obtain ⟨h1, h2⟩ := Bool.and_eq_true_iff.mp h
  refine ⟨?_, by simpa using h2⟩
  show X.env.scope.names.lookup x = some .globalImplicit
  rw [o.sc]
  split at h1
  · assumption
  · cases h1
theorem OkX.bln (o : OkX Γ k C X) {x : Str} (h : x ∈ bis := by decide) : X.mg x = none := o.bi x h
theorem OkX.u66 (o : OkX Γ k C X) : X.A.units + 66 < cLine := by have := o.room.un; omega
theorem ix_get : ∀ {N : List Str} {x : Str} {i : Nat}, ixOf N x = some i → N[i]? = some x
  | [], x, i, h => by cases h
  | y :: r, x, i, h => by
    unfold ixOf at h
    split at h
    · rename_i e; cases h; rw [e]; rfl
    · obtain ⟨j, e1, rfl⟩ := Option.map_eq_some_iff.mp h
      simpa using ix_get e1
theorem OkX.vis (o : OkX Γ k C X) {x : Str} {i : Nat} {pos : Pos} (h : Γ.vis x = true) (hi : ixOf Γ.N x = some i) : PE X (.Name x pos) (tVar i) := by
  unfold Ctx.vis Ctx.knd at h
  simp only [Bool.and_eq_true, Bool.not_eq_true'] at h
  obtain ⟨⟨h1, h2⟩, h3⟩ := h
  refine pe_var (by rw [o.N]; exact ix_get hi) ?_ h2 h3
  unfold Vis
  rw [o.sc]
  split at h1
  · exact .inl (by assumption)
  · exact .inr (.inl (by assumption))
  · exact .inr (.inr (by assumption))
  · cases h1
/-- a block within -/
theorem OkX.blk (o : OkX Γ k C X) {scope : Scope} {own : List (Str × Nat)} (hb : blkC Γ.N Γ.sc scope own = true) (s : Shared) (H : Hp) (A : Addr) (cl : List (Str × Addr)) (fp : List Addr) : OkX (Γ.blk scope) k C (X.blk s H scope (compEnvC scope cl A X.env) fp) where
  N := o.N
  sc := by show relS scope X.env.scope = relS scope Γ.sc; rw [o.sc]
  fn := fun x h => h
  nd := o.nd
  kind := (blkOk_by hb).kind
  calm := o.calm
  room := o.room
  guards := o.guards
  bi := o.bi
  cs := o.cs
  fns := o.fns
end
theorem chk_ok {α : Type} {b : Bool} {x : Option α} {a : α} (h : chk b x = some a) : b = true ∧ x = some a := by
  unfold chk at h
  split at h
  · exact ⟨by assumption, h⟩
  · cases h
theorem optAll_ok {α β : Type} {f : α → Option β} : ∀ {es : List α} {xs : List β}, optAll (es.map f) = some xs → Paired (fun e x => f e = some x) es xs
  | [], xs, h => by cases h; exact .nil
  | e :: es, xs, h => by
    obtain ⟨a, e1, e2⟩ := Option.bind_eq_some_iff.mp h
    obtain ⟨r, e3, rfl⟩ := Option.map_eq_some_iff.mp e2
    exact .cons e1 (optAll_ok e3)
theorem cm_back (op : CmpOp) : cmO (cmOf op) = op := by cases op <;> rfl
theorem op_back {op : Operator} {o : Op} (h : opOf op = some o) : opO o = op := by cases op <;> cases h <;> rfl
structure Sound (X : Cx) (C : CS) (e : Expr) (ir : Ex) : Prop where
  val : SE X e (evE C ir)
  tst : tstB e = true → SB X e (fun r => boolR (evE C ir r))
  var : ∀ i, ir.vix = some i → PE X e (tVar i)
  star : ∀ es, starEach (e :: es) X.env = (false, eval e X.env) :: starEach es X.env
  nset : noSet e = true
  nsl : ∀ l u t p, e ≠ .Slice l u t p
section
variable {X : Cx} {C : CS} {e : Expr} {ir : Ex}
theorem Sound.arg (s : Sound X C e ir) : SA X e (opnd ir (evE C ir)) := by
  cases h : ir.vix with
  | none => exact sa_of s.val h
  | some i =>
    have p := s.var i h
    have : ir = .var i := by cases ir <;> first | (cases h; rfl) | cases h
    subst this
    refine pe_mo p fun σ H Q ⟨r, L, T, he, hs, a, r', e1, q⟩ => ?_
    unfold opnd at e1
    simp only [Ex.vix] at e1
    split at e1
    · rename_i d hd
      cases e1
      obtain ⟨v, L1, L2, h1, rfl, _, _⟩ := he.at hd
      exact ⟨v, h1, q v H _ [] he ⟨h1, rfl⟩ hs⟩
    · cases e1
theorem Sound.dat (s : Sound X C e ir) : SP X e (fun r => datR (evE C ir r)) := sp_of s.val
theorem Sound.nset' (s : Sound X C e ir) : ∀ es k p, e ≠ .Set es k p := fun es k p z => by
  have := s.nset
  rw [z] at this
  cases this
/-- from a value whose test is the value's -/
theorem Sound.mk' (h : SE X e (evE C ir)) (t : ∀ whole, isTrue e X.env whole = (do let v ← whole; standAt e.pos; holding [v] (truthy v))) (v : ir.vix = none) (st : ∀ es, starEach (e :: es) X.env = (false, eval e X.env) :: starEach es X.env) (ns : noSet e = true)
    (nl : ∀ l u t p, e ≠ .Slice l u t p) : Sound X C e ir := ⟨h, fun _ => sb_val h t, fun i z => by (rw [v] at z; cases z), st, ns, nl⟩
theorem Sound.esc (s : Sound X C e ir) (b : Bool) : SA X e (opnd (escB b ir) (evE C (escB b ir))) := by
  unfold escB
  split
  · exact sa_of s.val rfl
  · exact s.arg
abbrev Sounds (X : Cx) (C : CS) : List Expr → List Ex → Prop := Paired (Sound X C)
theorem ev_bin (op : Op) (a b : Ex) : evE C (.bin op a b) = bin2 (opnd a (evE C a)) (opnd b (evE C b)) (binD op) := by funext r; rfl
theorem Sounds.dats : ∀ {es : List Expr} {xs : List Ex}, Sounds X C es xs → SPs X es (evEs C xs)
  | [], _, .nil => sps_nil
  | _ :: _, _, .cons a b => sps_cons a.dat (Sounds.dats b) (a.star _)
theorem Sounds.args : ∀ {es : List Expr} {xs : List Ex}, Sounds X C es xs → SAs X es (evAs C xs)
  | [], _, .nil => sas_nil
  | _ :: _, _, .cons a b => sas_cons a.arg (Sounds.args b) (a.star _)
theorem Sounds.escs : ∀ {es : List Expr} {xs : List Ex} (fl : List Bool), Sounds X C es xs → SAs X es (evAs C (escAll fl xs))
  | [], _, fl, .nil => by
    have : escAll fl [] = [] := by cases fl <;> rfl
    rw [this]
    exact sas_nil
  | _ :: _, _, [], .cons a b => sas_cons a.arg (Sounds.args b) (a.star _)
  | _ :: _, _, f :: fl, .cons a b => sas_cons (a.esc f) (Sounds.escs fl b) (a.star _)
theorem Sounds.plus : ∀ {es : List Expr} {xs : List Ex} {pos : Pos}, Sounds X C es xs → (backTo pos (starEach es X.env)).any (·.1) = false
  | [], _, pos, .nil => rfl
  | _ :: _, _, pos, .cons a b => by
    rw [a.star]
    have := Sounds.plus (pos := pos) b
    unfold backTo at this ⊢
    rw [List.map_cons, List.any_cons, this]
    rfl
end
/-! ### targets -/
section
variable {Γ : Ctx} {k : Nat} {C : CS} {X : Cx}
theorem OkX.put (o : OkX Γ k C X) {x : Str} {i : Nat} {pos : Pos} (h : Γ.loc x = true) (hi : ixOf Γ.N x = some i) : PG X (.Name x pos) (gName i) := by
  unfold Ctx.loc Ctx.knd at h
  have hN : X.N.Nodup := by rw [o.N]; exact o.nd
  have hg : X.N[i]? = some x := by rw [o.N]; exact ix_get hi
  split at h
  · rename_i e
    rw [← o.sc] at e
    exact pg_name hN hg (.inl e) (.inr e)
  · rename_i e
    rw [← o.sc] at e
    exact pg_name hN hg (.inr e) (.inl (o.fn x h))
  · cases h
theorem tg_ok (o : OkX Γ k C X) (lk : List Nat) : ∀ (n : Nat) {e : Expr} {t : Tg}, cTb Γ n e = some t → PG X e (tGt X.K lk t) ∧ (∀ es, (assignEach (e :: es) X.env) = (false, assign e X.env) :: assignEach es X.env)
  | 0, e, t, h => by unfold cTb at h; cases h
  | n + 1, e, t, h => by
    unfold cTb at h
    split at h
    · cases ‹Nat.succ n = _›
    · rename_i x pos e0
      cases e0
      obtain ⟨h1, h2⟩ := chk_ok h
      obtain ⟨i, h3, rfl⟩ := Option.map_eq_some_iff.mp h2
      exact ⟨pg_v lk (o.put h1 h3), fun es => rfl⟩
    · rename_i es kk pos e0
      cases e0
      obtain ⟨ts, h1, rfl⟩ := Option.map_eq_some_iff.mp h
      have rows : ∀ {es : List Expr} {ts : List Tg}, Paired (fun e t => cTb Γ n e = some t) es ts → PGs X es (tGts X.K lk ts) ∧ (assignEach es X.env).length = ts.length ∧ (assignEach es X.env).findIdx? (·.1) = none := by
        intro es
        induction es with
        | nil => intro ts p; cases p; exact ⟨pgs_n lk, rfl, rfl⟩
        | cons e es ih =>
          intro ts p
          cases p with
          | cons a b =>
            obtain ⟨p1, p2⟩ := tg_ok o lk n a
            obtain ⟨q1, q2, q3⟩ := ih b
            refine ⟨pgs_c p1 q1 (by rw [p2]; rfl), by rw [p2]; simp [q2], ?_⟩
            rw [p2, List.findIdx?_cons]
            simp [q3]
      obtain ⟨q1, q2, q3⟩ := rows (optAll_ok h1)
      exact ⟨pg_t o.calm q1 q2 q3, fun es => rfl⟩
    · cases h
end
/-! ### calls -/
section
variable {Γ : Ctx} {k : Nat} {C : CS} {X : Cx}
theorem bi_B {b : Bi} {id : String} {f : Str} {p pos : Pos} {e : Expr} {es : List Expr} {xs : List Ex} (hc : CallR X (.builtin id) (rBi X.K b)) (hv : bootBuiltins f = some (.builtin id)) (hn : f ≠ "__name__") (hm : X.mg f = none) (g : Gl X f ∧ (f == ("__debug__" : Str)) = false)
    (hs : Sounds X C (e :: es) xs) : SE X (.Call (.Name f p) (e :: es) [] pos) (evE C (.bi b xs)) := by
  cases hs with
  | cons a r => exact se_biR (pe_mo (pe_callB hc g.1 hm hv (Sounds.args (.cons a r)) hn g.2 (a.star _) (Sounds.plus r)) fun σ H Q h => h)
theorem bi_T {b : Bi} {id : String} {f : Str} {p pos : Pos} {e : Expr} {es : List Expr} {xs : List Ex} (hc : CallR X (.type id) (rBi X.K b)) (hv : bootBuiltins f = some (.type id)) (hn : f ≠ "__name__") (hm : X.mg f = none) (g : Gl X f ∧ (f == ("__debug__" : Str)) = false)
    (hs : Sounds X C (e :: es) xs) : SE X (.Call (.Name f p) (e :: es) [] pos) (evE C (.bi b xs)) := by
  cases hs with
  | cons a r => exact se_biR (pe_mo (pe_callTy hc g.1 hm hv (Sounds.args (.cons a r)) hn g.2 (a.star _) (Sounds.plus r)) fun σ H Q h => h)
theorem if_or {α : Type} {c : Prop} [Decidable c] {x y : Option α} {b : α} (h : (if c then x else y) = some b) : (c ∧ x = some b) ∨ (¬c ∧ y = some b) := by
  by_cases q : c
  · rw [if_pos q] at h; exact .inl ⟨q, h⟩
  · rw [if_neg q] at h; exact .inr ⟨q, h⟩
theorem bi_ok (o : OkX Γ k C X) {f : Str} {b : Bi} {p pos : Pos} {es : List Expr} {xs : List Ex} (g : Γ.gl f = true) (h : biOf f es.length = some b) (hs : Sounds X C es xs) : SE X (.Call (.Name f p) es [] pos) (evE C (.bi b xs)) := by
  have gg := o.glo g
  cases es with
  | nil => cases h
  | cons e es =>
    unfold biOf at h
    rcases if_or h with ⟨_, h⟩ | ⟨_, h⟩
    · rcases if_or h with ⟨rfl, h⟩ | ⟨_, h⟩
      · cases h; exact bi_B cr_len (by decide +kernel) (by decide) o.bln gg hs
      rcases if_or h with ⟨rfl, h⟩ | ⟨_, h⟩
      · cases h; exact bi_T cr_tuple (by decide +kernel) (by decide) o.bln gg hs
      rcases if_or h with ⟨rfl, h⟩ | ⟨_, h⟩
      · cases h; exact bi_T cr_list (by decide +kernel) (by decide) o.bln gg hs
      rcases if_or h with ⟨rfl, h⟩ | ⟨_, h⟩
      · cases h; exact bi_B cr_abs (by decide +kernel) (by decide) o.bln gg hs
      rcases if_or h with ⟨rfl, h⟩ | ⟨_, h⟩
      · cases h; exact bi_T cr_int (by decide +kernel) (by decide) o.bln gg hs
      rcases if_or h with ⟨rfl, h⟩ | ⟨_, h⟩
      · cases h; exact bi_B (cr_repr o.guards o.u66) (by decide +kernel) (by decide) o.bln gg hs
      rcases if_or h with ⟨rfl, h⟩ | ⟨_, h⟩
      · cases h; exact bi_T cr_str (by decide +kernel) (by decide) o.bln gg hs
      rcases if_or h with ⟨rfl, h⟩ | ⟨_, h⟩
      · cases h; exact bi_B (cr_min1 o.calm) (by decide +kernel) (by decide) o.bln gg hs
      rcases if_or h with ⟨rfl, h⟩ | ⟨_, h⟩
      · cases h; exact bi_B (cr_max1 o.calm) (by decide +kernel) (by decide) o.bln gg hs
      rcases if_or h with ⟨rfl, h⟩ | ⟨_, h⟩
      · cases h; exact bi_B (cr_allB o.calm) (by decide +kernel) (by decide) o.bln gg hs
      rcases if_or h with ⟨rfl, h⟩ | ⟨_, h⟩
      · cases h; exact bi_B (cr_anyB o.calm) (by decide +kernel) (by decide) o.bln gg hs
      rcases if_or h with ⟨rfl, h⟩ | ⟨_, h⟩
      · cases h; exact bi_B (cr_sumB o.calm) (by decide +kernel) (by decide) o.bln gg hs
      rcases if_or h with ⟨rfl, h⟩ | ⟨_, h⟩
      · cases h; exact bi_B cr_sortedD (by decide +kernel) (by decide) o.bln gg hs
      cases h
    · rcases if_or h with ⟨_, h⟩ | ⟨_, h⟩
      · rcases if_or h with ⟨rfl, h⟩ | ⟨_, h⟩
        · cases h; exact bi_B (cr_min2 o.calm) (by decide +kernel) (by decide) o.bln gg hs
        rcases if_or h with ⟨rfl, h⟩ | ⟨_, h⟩
        · cases h; exact bi_B (cr_max2 o.calm) (by decide +kernel) (by decide) o.bln gg hs
        cases h
      · cases h
abbrev Good (rec : Ctx → Expr → Option Ex) : Prop := ∀ {Γ : Ctx} {e : Expr} {ir : Ex}, rec Γ e = some ir → ∀ {k : Nat} {C : CS} {X : Cx}, OkX Γ k C X → Sound X C e ir
theorem Good.all {rec : Ctx → Expr → Option Ex} (g : Good rec) (o : OkX Γ k C X) : ∀ {es : List Expr} {xs : List Ex}, optAll (es.map (rec Γ)) = some xs → Sounds X C es xs := by
  intro es xs h
  have := optAll_ok h
  clear h
  induction this with
  | nil => exact .nil
  | cons a _ ih => exact .cons (g a o) ih
theorem tyOf_ok {t : Str} {ty : Ty} (h : tyOf t = some ty) : t = Str.ofString (tyN ty) := by
  unfold tyOf at h
  rcases if_or h with ⟨rfl, h⟩ | ⟨_, h⟩
  · cases h; rfl
  rcases if_or h with ⟨rfl, h⟩ | ⟨_, h⟩
  · cases h; rfl
  rcases if_or h with ⟨rfl, h⟩ | ⟨_, h⟩
  · cases h; rfl
  rcases if_or h with ⟨rfl, h⟩ | ⟨_, h⟩
  · cases h; rfl
  rcases if_or h with ⟨rfl, h⟩ | ⟨_, h⟩
  · cases h; rfl
  rcases if_or h with ⟨rfl, h⟩ | ⟨_, h⟩
  · cases h; rfl
  cases h
theorem ty_bis : ∀ t : Ty, Str.ofString (tyN t) ∈ bis := by intro t; cases t <;> decide
theorem call_ok {rec : Ctx → Expr → Option Ex} (gr : Good rec) (o : OkX Γ k C X) {f : Str} {p pos : Pos} {args : List Expr} {ir : Ex} (g : Γ.gl f = true) (h : cCall rec Γ f args = some ir) : SE X (.Call (.Name f p) args [] pos) (evE C ir) ∧ ir.vix = none := by
  have gg := o.glo g
  have dflt : ∀ {es : List Expr}, ((biOf f es.length).bind fun b => (optAll (es.map (rec Γ))).map fun xs => Ex.bi b xs) = some ir → SE X (.Call (.Name f p) es [] pos) (evE C ir) ∧ ir.vix = none := fun {es} h => by
    obtain ⟨b, h1, h2⟩ := Option.bind_eq_some_iff.mp h
    obtain ⟨xs, h3, rfl⟩ := Option.map_eq_some_iff.mp h2
    exact ⟨bi_ok o g h1 (gr.all o h3), rfl⟩
  unfold cCall at h
  split at h
  · rename_i i fl hf
    obtain ⟨h1, h2⟩ := chk_ok h
    obtain ⟨xs, h3, rfl⟩ := Option.map_eq_some_iff.mp h2
    obtain ⟨fa, fd, ps, F, m, kp, bd⟩ := o.fns _ _ _ hf
    have hs := gr.all o h3
    cases hs with
    | nil => cases h1
    | cons a r =>
      exact ⟨se_call (pe_mo (pe_callG F o.room o.guards gg.1 m kp bd (Sounds.escs fl (.cons a r)) gg.2 (a.star _) (Sounds.plus r)) fun σ H Q h => h), rfl⟩
  · split at h
    · rcases if_or h with ⟨e, h9⟩ | ⟨_, h9⟩
      · obtain ⟨rfl, rfl, e3⟩ := e
        obtain ⟨x, h3, rfl⟩ := Option.map_eq_some_iff.mp h9
        have s := gr h3 o
        exact ⟨se_setsorted o.calm (Sounds.args (.cons s .nil)) gg.1 o.bln (o.glo e3).1 o.bln (s.star []), rfl⟩
      · exact dflt h9
    · rcases if_or h with ⟨e, h9⟩ | ⟨_, h9⟩
      · obtain ⟨rfl, e2⟩ := e
        obtain ⟨ty, h1, h2⟩ := Option.bind_eq_some_iff.mp h9
        obtain ⟨x, h3, rfl⟩ := Option.map_eq_some_iff.mp h2
        have := tyOf_ok h1
        subst this
        have s := gr h3 o
        exact ⟨se_isT s.arg gg.1 o.bln (o.glo e2).1 (o.bi _ (ty_bis ty)) (s.star _), rfl⟩
      · exact dflt h9
    · exact dflt h
end
end Dl

set_option Elab.async false
set_option linter.all false
set_option maxRecDepth 100000
/-! soundness: iterables, comprehensions, all expressions -/
namespace Dl
open PySem PySem.Spec PyProof.Rows L2
section
variable {Γ : Ctx} {k : Nat} {C : CS} {X : Cx} {rec : Ctx → Expr → Option Ex}
theorem folded {e : Expr} (h : noSet e = true) (env : PySem.Env) (x : Value) : foldedSetIterable e env x = pure x := by
  cases e <;> first | rfl | cases h
theorem isTup_ok {tg : Expr} (h : isTup tg = true) : ∃ es k p, tg = .Tuple es k p := by
  cases tg <;> first | exact ⟨_, _, _, rfl⟩ | cases h
theorem it_ok (gr : Good rec) (o : OkX Γ k C X) {tg e : Expr} {it : It} (h : cIt rec Γ tg e = some it) : SI X tg e (evI C it) := by
  have dflt : ∀ {e : Expr}, (rec Γ e).map It.ex = some it → SI X tg e (evI C it) := fun {e} h => by
    obtain ⟨x, h1, rfl⟩ := Option.map_eq_some_iff.mp h
    exact si_seq (gr h1 o).dat
  unfold cIt at h
  split at h
  · rename_i f p a pos
    rcases if_or h with ⟨⟨rfl, g⟩, h9⟩ | ⟨_, h9⟩
    · obtain ⟨x, h1, rfl⟩ := Option.map_eq_some_iff.mp h9
      have s := gr h1 o
      exact si_rng1 s.arg (o.glo g).1 o.bln (s.star [])
    · rcases if_or h9 with ⟨⟨rfl, g, tt⟩, h8⟩ | ⟨_, h8⟩
      · obtain ⟨x, h1, rfl⟩ := Option.map_eq_some_iff.mp h8
        obtain ⟨es, kk, tp, rfl⟩ := isTup_ok tt
        have s := gr h1 o
        exact si_enum s.dat (o.glo g).1 o.bln (s.star [])
      · exact dflt h8
  · rename_i f p a b pos
    rcases if_or h with ⟨⟨rfl, g⟩, h9⟩ | ⟨_, h9⟩
    · obtain ⟨x, h1, h2⟩ := Option.bind_eq_some_iff.mp h9
      obtain ⟨y, h3, rfl⟩ := Option.map_eq_some_iff.mp h2
      have s := gr h1 o
      have t := gr h3 o
      exact si_rng2 s.arg t.arg (o.glo g).1 o.bln (s.star [b]) (t.star [])
    · rcases if_or h9 with ⟨⟨rfl, g, tt⟩, h8⟩ | ⟨_, h8⟩
      · obtain ⟨x, h1, h2⟩ := Option.bind_eq_some_iff.mp h8
        obtain ⟨y, h3, rfl⟩ := Option.map_eq_some_iff.mp h2
        obtain ⟨es, kk, tp, rfl⟩ := isTup_ok tt
        have s := gr h1 o
        have t := gr h3 o
        exact si_zip2 s.dat t.dat (o.glo g).1 o.bln (s.star [b]) (t.star [])
      · exact dflt h8
  · rename_i f p a b c pos
    rcases if_or h with ⟨⟨rfl, g, tt⟩, h8⟩ | ⟨_, h8⟩
    · obtain ⟨x, h1, h2⟩ := Option.bind_eq_some_iff.mp h8
      obtain ⟨y, h3, h4⟩ := Option.bind_eq_some_iff.mp h2
      obtain ⟨z, h5, rfl⟩ := Option.map_eq_some_iff.mp h4
      obtain ⟨es, kk, tp, rfl⟩ := isTup_ok tt
      have s := gr h1 o
      have t := gr h3 o
      have u := gr h5 o
      exact si_zip3 s.dat t.dat u.dat (o.glo g).1 o.bln (s.star [b, c]) (t.star [c]) (u.star [])
    · exact dflt h8
  · exact dflt h
theorem ifs_ok (gr : Good rec) (o : OkX Γ k C X) {ifs : List Expr} {c : Ex} (h : cIfs rec Γ ifs = some c) : PTs X ifs (tT X.K fun r => boolR (evE C c r)) := by
  unfold cIfs at h
  split at h
  · cases h
    exact pts_no
  · obtain ⟨h1, h2⟩ := chk_ok h
    exact pts_one ((gr h2 o).tst h1)
  · cases h
theorem own_snd (N : List Str) (is : List Nat) : (ownAt N is).map (·.2) = is := by
  unfold ownAt
  rw [List.map_map]
  exact List.map_id' is
theorem lc_ok (gr : Good rec) (o : OkX Γ k C X) {elt : Expr} {gens : List Comprehension} {scope : Scope} {pos : Pos} {ir : Ex} (h : cLc rec Γ elt gens scope = some ir) : SE X (.ListComp elt gens scope pos) (evE C ir) ∧ ir.vix = none := by
  have hN : X.N.Nodup := by rw [o.N]; exact o.nd
  unfold cLc at h
  split at h
  · rename_i tg iter ifs as
    obtain ⟨h1, h2⟩ := chk_ok h
    obtain ⟨t, h3, h4⟩ := Option.bind_eq_some_iff.mp h2
    obtain ⟨hb, h5⟩ := chk_ok h4
    obtain ⟨it, h6, h7⟩ := Option.bind_eq_some_iff.mp h5
    obtain ⟨c, h8, h9⟩ := Option.bind_eq_some_iff.mp h7
    obtain ⟨x, h10, rfl⟩ := Option.map_eq_some_iff.mp h9
    obtain ⟨ha, hs⟩ := Bool.and_eq_true_iff.mp h1
    have ha : as = 0 := by simpa using ha
    subst ha
    have bk : BlkOk X.N X.env.scope scope (ownAt Γ.N (tgIx t)) := by rw [o.N, o.sc]; exact blkOk_by hb
    have ob := o.blk hb
    refine ⟨?_, rfl⟩
    have := se_lc (pos := pos) (X := X) (tgi := t) (fi := evI C it) (fc := fun r => boolR (evE C c r)) (fe := fun r => datR (evE C x r)) o.calm hN (it_ok gr o h6) bk (fun i hi => by rw [own_snd]; exact hi)
      (fun s H A cl fp => (tg_ok (ob s H A cl fp) [] 6 h3).1) (fun s H A cl fp => ifs_ok gr (ob s H A cl fp) h8) (fun s H A cl fp => (gr h10 (ob s H A cl fp)).dat) (folded hs _)
    rw [own_snd] at this
    exact this
  · rename_i tg iter ifs as tg2 iter2 ifs2 as2
    obtain ⟨h1, h2⟩ := chk_ok h
    obtain ⟨t, h3, h4⟩ := Option.bind_eq_some_iff.mp h2
    obtain ⟨t2, h3', h4'⟩ := Option.bind_eq_some_iff.mp h4
    obtain ⟨hb, h5⟩ := chk_ok h4'
    obtain ⟨it, h6, h7⟩ := Option.bind_eq_some_iff.mp h5
    obtain ⟨c, h8, h9⟩ := Option.bind_eq_some_iff.mp h7
    obtain ⟨it2, h6', h7'⟩ := Option.bind_eq_some_iff.mp h9
    obtain ⟨c2, h8', h9'⟩ := Option.bind_eq_some_iff.mp h7'
    obtain ⟨x, h10, rfl⟩ := Option.map_eq_some_iff.mp h9'
    simp only [Bool.and_eq_true] at h1
    obtain ⟨⟨⟨ha, ha2⟩, hs⟩, hs2⟩ := h1
    have ha : as = 0 := by simpa using ha
    have ha2 : as2 = 0 := by simpa using ha2
    subst ha ha2
    have bk : BlkOk X.N X.env.scope scope (ownAt Γ.N (tgIx t ++ tgIx t2)) := by rw [o.N, o.sc]; exact blkOk_by hb
    have ob := o.blk hb
    refine ⟨?_, rfl⟩
    have := se_lc2 (pos := pos) (X := X) (tgi := t) (tgi2 := t2) (fi := evI C it) (fi2 := evI C it2) (fc := fun r => boolR (evE C c r)) (fc2 := fun r => boolR (evE C c2 r)) (fe := fun r => datR (evE C x r)) o.calm hN (it_ok gr o h6) bk
      (fun i hi => by rw [own_snd]; exact List.mem_append_left _ hi) (fun i hi => by rw [own_snd]; exact List.mem_append_right _ hi)
      (fun s H A cl fp => (tg_ok (ob s H A cl fp) [] 6 h3).1) (fun s H A cl fp => ifs_ok gr (ob s H A cl fp) h8) (fun s H A cl fp => it_ok gr (ob s H A cl fp) h6')
      (fun s H A cl fp => (tg_ok (ob s H A cl fp) [] 6 h3').1) (fun s H A cl fp => ifs_ok gr (ob s H A cl fp) h8') (fun s H A cl fp => (gr h10 (ob s H A cl fp)).dat) (folded hs _) (fun env x => folded hs2 env x)
    rw [own_snd] at this
    exact this
  · cases h
theorem sub_ok (gr : Good rec) (o : OkX Γ k C X) {a s : Expr} {pos : Pos} {ir : Ex} (h : cSub rec Γ a s = some ir) : SE X (.Subscript a s pos) (evE C ir) ∧ ir.vix = none := by
  unfold cSub at h
  split at h
  · obtain ⟨x, h1, h2⟩ := Option.bind_eq_some_iff.mp h
    obtain ⟨y, h3, rfl⟩ := Option.map_eq_some_iff.mp h2
    exact ⟨se_slF (gr h1 o).arg (gr h3 o).arg, rfl⟩
  · obtain ⟨x, h1, h2⟩ := Option.bind_eq_some_iff.mp h
    obtain ⟨y, h3, rfl⟩ := Option.map_eq_some_iff.mp h2
    exact ⟨se_slT (gr h1 o).arg (gr h3 o).arg, rfl⟩
  · obtain ⟨x, h1, h2⟩ := Option.bind_eq_some_iff.mp h
    obtain ⟨y, h3, h4⟩ := Option.bind_eq_some_iff.mp h2
    obtain ⟨z, h5, rfl⟩ := Option.map_eq_some_iff.mp h4
    exact ⟨se_slB (gr h1 o).arg (gr h3 o).arg (gr h5 o).arg, rfl⟩
  · obtain ⟨h0, h1⟩ := chk_ok h
    obtain ⟨x, h2, rfl⟩ := Option.map_eq_some_iff.mp h1
    have h0 := eq_of_beq h0
    subst h0
    exact ⟨se_rev (gr h2 o).arg, rfl⟩
  · cases h
  · obtain ⟨x, h1, h2⟩ := Option.bind_eq_some_iff.mp h
    obtain ⟨y, h3, rfl⟩ := Option.map_eq_some_iff.mp h2
    exact ⟨se_idx (gr h1 o).arg (gr h3 o).arg (gr h3 o).nsl, rfl⟩
theorem con_ok {c : Const} {kk : Nat} {pos : Pos} {d : PyData} (h : cOf c = some d) : SE X (.Constant c kk pos) (evE C (.c d)) := by
  cases c <;> cases h
  · exact se_c pe_non fun H => .of_none
  · exact se_c pe_bl fun H => .of_bool _
  · exact se_c pe_int fun H => .of_int _
  · exact se_c pe_str fun H => .of_str _
theorem and_ok {pos : Pos} : ∀ {es : List Expr} {xs : List Ex} {ir : Ex}, Sounds X C es xs → andAll xs = some ir → es.all tstB = true → SE X (.BoolOp .And es pos) (evE C ir) ∧ SW X (.BoolOp .And es pos) (fun r => boolR (evE C ir r))
  | [], _, ir, .nil, h, _ => by cases h
  | [a], _, ir, .cons (b := x) s .nil, h, ht => by
    have : x = ir := Option.some.inj h
    subst this
    have ht : tstB a = true := by simpa using ht
    exact ⟨se_one s.val, sw_one (s.tst ht)⟩
  | a :: b :: es, _, ir, .cons (b := x) s (.cons (b := y) (l₂ := ys) s2 r), h, ht => by
    have h : (andAll (y :: ys)).map (Ex.and x) = some ir := h
    obtain ⟨z, h1, rfl⟩ := Option.map_eq_some_iff.mp h
    have ht : tstB a = true ∧ (b :: es).all tstB = true := by simpa [List.all_cons] using ht
    obtain ⟨p1, p2⟩ := and_ok (es := b :: es) (.cons s2 r) h1 ht.2
    exact ⟨se_and s.val p1, sw_and (s.tst ht.1) p2⟩
theorem or_ok {pos : Pos} : ∀ {es : List Expr} {xs : List Ex} {ir : Ex}, Sounds X C es xs → orAll xs = some ir → es.all tstB = true → SE X (.BoolOp .Or es pos) (evE C ir) ∧ SW X (.BoolOp .Or es pos) (fun r => boolR (evE C ir r))
  | [], _, ir, .nil, h, _ => by cases h
  | [a], _, ir, .cons (b := x) s .nil, h, ht => by
    have : x = ir := Option.some.inj h
    subst this
    have ht : tstB a = true := by simpa using ht
    exact ⟨se_one s.val, sw_one (s.tst ht)⟩
  | a :: b :: es, _, ir, .cons (b := x) s (.cons (b := y) (l₂ := ys) s2 r), h, ht => by
    have h : (orAll (y :: ys)).map (Ex.or x) = some ir := h
    obtain ⟨z, h1, rfl⟩ := Option.map_eq_some_iff.mp h
    have ht : tstB a = true ∧ (b :: es).all tstB = true := by simpa [List.all_cons] using ht
    obtain ⟨p1, p2⟩ := or_ok (es := b :: es) (.cons s2 r) h1 ht.2
    exact ⟨se_or s.val p1, sw_or (s.tst ht.1) p2⟩
theorem andAll_vix {x y : Ex} {r : List Ex} {ir : Ex} (h : andAll (x :: y :: r) = some ir) : ir.vix = none := by
  have h : (andAll (y :: r)).map (Ex.and x) = some ir := h
  obtain ⟨z, h1, rfl⟩ := Option.map_eq_some_iff.mp h
  rfl
theorem orAll_vix {x y : Ex} {r : List Ex} {ir : Ex} (h : orAll (x :: y :: r) = some ir) : ir.vix = none := by
  have h : (orAll (y :: r)).map (Ex.or x) = some ir := h
  obtain ⟨z, h1, rfl⟩ := Option.map_eq_some_iff.mp h
  rfl
theorem rng_ok {op : CmpOp} {b lo hi : Expr} {neg : Bool} (h : rngOf Γ op b = some (neg, lo, hi)) : ∃ p pos, b = .Call (.Name "range" p) [lo, hi] [] pos ∧ Γ.gl "range" = true ∧ op = (if neg then .NotIn else .In) := by
  unfold rngOf at h
  split at h
  · rcases if_or h with ⟨⟨rfl, g⟩, h9⟩ | ⟨_, h9⟩
    · split at h9 <;> cases h9
      · exact ⟨_, _, rfl, g, rfl⟩
      · exact ⟨_, _, rfl, g, rfl⟩
    · cases h9
  · cases h
theorem cEb_ok (gr : Good rec) : Good (cEb rec) := by
  intro Γ e ir h k C X o
  unfold cEb at h
  split at h
  · -- a name
    rcases if_or h with ⟨hv, h1⟩ | ⟨_, h1⟩
    · obtain ⟨i, h2, rfl⟩ := Option.map_eq_some_iff.mp h1
      have p := o.vis (pos := ‹Pos›) hv h2
      exact ⟨se_var p, fun _ => sb_val (se_var p) (fun _ => rfl), fun j z => by cases z; exact p, fun _ => rfl, rfl, fun _ _ _ _ z => nomatch z⟩
    · rcases if_or h1 with ⟨hg, h2⟩ | ⟨_, h2⟩
      · obtain ⟨d, h3, rfl⟩ := Option.map_eq_some_iff.mp h2
        obtain ⟨u, v, m, rv, hr⟩ := o.cs _ _ h3
        have g := o.glo hg
        exact .mk' (se_c (pe_glob g.1 m rv g.2) hr) (fun _ => rfl) rfl (fun _ => rfl) rfl (fun _ _ _ _ z => nomatch z)
      · cases h2
  · obtain ⟨d, h1, rfl⟩ := Option.map_eq_some_iff.mp h
    exact .mk' (con_ok h1) (fun _ => rfl) rfl (fun _ => rfl) rfl (fun _ _ _ _ z => nomatch z)
  · obtain ⟨xs, h1, rfl⟩ := Option.map_eq_some_iff.mp h
    exact .mk' (se_tup (gr.all o h1).dats) (fun _ => rfl) rfl (fun _ => rfl) rfl (fun _ _ _ _ z => nomatch z)
  · obtain ⟨xs, h1, rfl⟩ := Option.map_eq_some_iff.mp h
    exact .mk' (se_lst (gr.all o h1).dats) (fun _ => rfl) rfl (fun _ => rfl) rfl (fun _ _ _ _ z => nomatch z)
  · obtain ⟨op, h1, h2⟩ := Option.bind_eq_some_iff.mp h
    obtain ⟨x, h3, h4⟩ := Option.bind_eq_some_iff.mp h2
    obtain ⟨y, h5, rfl⟩ := Option.map_eq_some_iff.mp h4
    have := op_back h1
    subst this
    exact .mk' (se_bin (gr h3 o).arg (gr h5 o).arg) (fun _ => rfl) rfl (fun _ => rfl) rfl (fun _ _ _ _ z => nomatch z)
  · obtain ⟨x, h1, rfl⟩ := Option.map_eq_some_iff.mp h
    exact .mk' (se_neg (gr h1 o).arg) (fun _ => rfl) rfl (fun _ => rfl) rfl (fun _ _ _ _ z => nomatch z)
  · obtain ⟨h0, h1⟩ := chk_ok h
    obtain ⟨x, h2, rfl⟩ := Option.map_eq_some_iff.mp h1
    have s := gr h2 o
    exact ⟨se_not s.val, fun _ => sb_not (s.tst h0), fun i z => by (cases z), fun _ => rfl, rfl, fun _ _ _ _ z => nomatch z⟩
  · rename_i a b es pos
    obtain ⟨h0, h1⟩ := chk_ok h
    obtain ⟨xs, h2, h3⟩ := Option.bind_eq_some_iff.mp h1
    have ss := gr.all o h2
    obtain ⟨p1, p2⟩ := and_ok (pos := pos) ss h3 h0
    refine ⟨p1, fun _ => p2.pt, fun i z => ?_, fun _ => rfl, rfl, fun _ _ _ _ z => nomatch z⟩
    cases ss with
    | cons _ r => cases r with
      | cons _ _ => rw [andAll_vix h3] at z; cases z
  · rename_i a b es pos
    obtain ⟨h0, h1⟩ := chk_ok h
    obtain ⟨xs, h2, h3⟩ := Option.bind_eq_some_iff.mp h1
    have ss := gr.all o h2
    obtain ⟨p1, p2⟩ := or_ok (pos := pos) ss h3 h0
    refine ⟨p1, fun _ => p2.pt, fun i z => ?_, fun _ => rfl, rfl, fun _ _ _ _ z => nomatch z⟩
    cases ss with
    | cons _ r => cases r with
      | cons _ _ => rw [orAll_vix h3] at z; cases z
  · obtain ⟨h0, h1⟩ := chk_ok h
    obtain ⟨z, h2, h3⟩ := Option.bind_eq_some_iff.mp h1
    obtain ⟨x, h4, h5⟩ := Option.bind_eq_some_iff.mp h3
    obtain ⟨y, h6, rfl⟩ := Option.map_eq_some_iff.mp h5
    exact ⟨se_ite ((gr h2 o).tst h0) (gr h4 o).val (gr h6 o).val, fun z => by (cases z), fun i z => by (cases z), fun _ => rfl, rfl, fun _ _ _ _ z => nomatch z⟩
  · rename_i a op b pos
    split at h
    · rename_i neg lo hi hr
      obtain ⟨p, pos2, rfl, g, rfl⟩ := rng_ok hr
      obtain ⟨x, h2, h3⟩ := Option.bind_eq_some_iff.mp h
      obtain ⟨y, h4, h5⟩ := Option.bind_eq_some_iff.mp h3
      obtain ⟨z, h6, rfl⟩ := Option.map_eq_some_iff.mp h5
      have sl := gr h4 o
      have sh := gr h6 o
      exact ⟨se_inR (gr h2 o).arg sl.arg sh.arg (o.glo g).1 o.bln (sl.star [hi]) (sh.star []), fun _ => sb_inR (gr h2 o).arg sl.arg sh.arg (o.glo g).1 o.bln (sl.star [hi]) (sh.star []), fun i z => by (cases z), fun _ => rfl, rfl, fun _ _ _ _ z => nomatch z⟩
    · obtain ⟨x, h2, h3⟩ := Option.bind_eq_some_iff.mp h
      obtain ⟨y, h4, rfl⟩ := Option.map_eq_some_iff.mp h3
      have u65 : X.A.units + 65 < cLine := by have := o.u66; omega
      have p1 := se_cmp (op := cmOf op) (pos := pos) u65 (gr h2 o).arg (gr h4 o).arg (gr h4 o).nset'
      have p2 := sb_cmp (op := cmOf op) (pos := pos) u65 (gr h2 o).arg (gr h4 o).arg (gr h4 o).nset'
      rw [cm_back] at p1 p2
      exact ⟨p1, fun _ => p2, fun i z => by (cases z), fun _ => rfl, rfl, fun _ _ _ _ z => nomatch z⟩
  · rename_i a o1 o2 b c pos
    obtain ⟨h0, h1⟩ := chk_ok h
    obtain ⟨x, h2, h3⟩ := Option.bind_eq_some_iff.mp h1
    obtain ⟨y, h4, h5⟩ := Option.bind_eq_some_iff.mp h3
    obtain ⟨z, h6, rfl⟩ := Option.map_eq_some_iff.mp h5
    have u65 : X.A.units + 65 < cLine := by have := o.u66; omega
    have hm : lastMarks [cmO (cmOf o1), cmO (cmOf o2)] [b, c] = false := by rw [cm_back, cm_back]; simpa using h0
    have p1 := se_ch (pos := pos) u65 (gr h2 o).arg (gr h4 o).arg (gr h6 o).arg hm
    have p2 := sb_ch (pos := pos) u65 (gr h2 o).arg (gr h4 o).arg (gr h6 o).arg hm
    rw [cm_back, cm_back] at p1 p2
    exact ⟨p1, fun _ => p2, fun i z => by (cases z), fun _ => rfl, rfl, fun _ _ _ _ z => nomatch z⟩
  · obtain ⟨p1, p2⟩ := sub_ok (pos := ‹Pos›) gr o h
    exact .mk' p1 (fun _ => rfl) p2 (fun _ => rfl) rfl (fun _ _ _ _ z => nomatch z)
  · obtain ⟨h0, h1⟩ := chk_ok h
    obtain ⟨p1, p2⟩ := call_ok gr o h0 h1
    exact .mk' p1 (fun _ => rfl) p2 (fun _ => rfl) rfl (fun _ _ _ _ z => nomatch z)
  · obtain ⟨p1, p2⟩ := lc_ok (pos := ‹Pos›) gr o h
    exact .mk' p1 (fun _ => rfl) p2 (fun _ => rfl) rfl (fun _ _ _ _ z => nomatch z)
  · cases h
theorem cE_ok : ∀ n : Nat, Good (cE n)
  | 0 => fun h => by (cases h)
  | n + 1 => cEb_ok (cE_ok n)
end
end Dl

set_option Elab.async false
set_option linter.all false
set_option maxRecDepth 100000
/-! soundness: statements -/
namespace Dl
open PySem PySem.Spec PyProof.Rows L2
/-! ### stored side by side -/
def tDs (K : Fr) (f : Env → Res (List D)) : TA := fun σ H Q => ∃ r L T, EnvR σ r L ∧ Sep K H (L ++ T) ∧ ∃ ds r', f r = .ok ds r' ∧
  ∀ vs H' L', EnvR σ r' L' → vs.length = ds.length → Sep K H' (vs.zip ds ++ (L' ++ T)) → Q vs H'
section
variable {X : Cx} {lk : List Nat}
theorem sds_nil : PA X [] (tDs X.K fun r => .ok [] r) := by
  refine pa_mo pa_nil fun σ H Q ⟨r, L, T, he, hs, as, r', e1, q⟩ => ?_
  cases e1
  exact q [] H L he rfl hs
theorem sds_cons {e : Expr} {es : List Expr} {f : Env → Res D} {g : Env → Res (List D)} (h1 : SE X e f) (h2 : PA X es (tDs X.K g)) (hs : starEach (e :: es) X.env = (false, eval e X.env) :: starEach es X.env) :
    PA X (e :: es) (tDs X.K fun r => (f r).bind fun d r1 => (g r1).bind fun ds r2 => .ok (d :: ds) r2) := by
  refine pa_mo (pa_cons h1 h2 hs) fun σ H Q ⟨r, L, T, he, hs, as, r', e1, q⟩ => ?_
  obtain ⟨a, r1, e2, e3⟩ := bind_ok e1
  obtain ⟨as', r2, e4, e5⟩ := bind_ok e3
  cases e5
  refine ⟨r, L, T, he, hs, a, r1, e2, fun v H1 L1 g1 g3 => ?_⟩
  refine ⟨r1, L1, (v, a) :: T, g1, Sep.from_front g3, as', r', e4, fun vs H2 L2 k1 k2 k3 => q (v :: vs) H2 L2 k1 (by simp [k2]) (k3.perm ?_)⟩
  show (vs.zip as' ++ (L2 ++ ((v, a) :: T))).Perm ((v, a) :: (vs.zip as' ++ (L2 ++ T)))
  exact (perm3 _ _ _ _).symm
theorem set_lk {lk : List Nat} {i : Nat} {σ : L2.St} {v : V} (h : ¬ lk.contains i = true) : LkR lk σ (σ.set i (some v)) := fun j hj => by
  rw [List.getElem?_set_ne]
  intro z
  subst z
  exact h (List.contains_iff_mem.mpr hj)
/-- what setAll leaves, value by value -/
theorem set_all {K : Fr} {T : List (V × D)} {E : Ends} {σ0 : L2.St} : ∀ {is : List Nat} {vs : List V} {ds : List D} {σ : L2.St} {r : Env} {L : List (V × D)} {H : Hp}, EnvR σ r L → LkR lk σ0 σ → vs.length = ds.length → Sep K H (vs.zip ds ++ (L ++ T)) → OutR K lk σ0 T E (setAll lk is ds r) →
    is.length = ds.length ∧ E.nx ((is.zip vs).foldl (fun s q => s.set q.1 (some q.2)) σ) H
  | [], [], [], σ, r, L, H, he, hl, _, hs, o => ⟨rfl, o σ H L he hl hs⟩
  | [], _ :: _, [], _, _, _, _, _, _, hn, _, _ => by cases hn
  | [], vs, d :: ds, σ, r, L, H, he, hl, hn, hs, o => o.elim
  | i :: is, vs, [], σ, r, L, H, he, hl, hn, hs, o => o.elim
  | i :: is, [], d :: ds, σ, r, L, H, he, hl, hn, hs, o => by cases hn
  | i :: is, v :: vs, d :: ds, σ, r, L, H, he, hl, hn, hs, o => by
    unfold setAll setS at o
    by_cases hc : lk.contains i = true
    · rw [if_pos hc] at o; exact o.elim
    · rw [if_neg hc] at o
      obtain ⟨L', h1, h2⟩ := he.put i v d
      have hs : Sep K H ((v, d) :: (vs.zip ds ++ (L ++ T))) := hs
      have hs2 := h2 K H (vs.zip ds ++ T) (hs.perm (List.Perm.cons _ (by
        rw [← List.append_assoc, ← List.append_assoc]
        exact List.perm_append_comm.append_right T)))
      have := set_all (is := is) (vs := vs) (ds := ds) h1 (hl.trans (set_lk hc)) (by simpa using hn) (hs2.perm (by
        rw [← List.append_assoc, ← List.append_assoc]
        exact List.perm_append_comm.append_right T)) o
      exact ⟨by simp [this.1], this.2⟩
end
theorem swaps_no {e : Expr} (h : noLc e = true) (t : Option Expr) (l : Nat) (env : PySem.Env) : swapsWith e t l env = pure false := by
  cases e <;> first | rfl | cases h
section
variable {Γ : Ctx} {k : Nat} {C : CS} {X : Cx}
theorem OkX.fnk (o : OkX Γ k C X) : X.env.blockKind = .function := by
  unfold Env.blockKind
  rw [o.sc, o.kind]
  rfl
theorem lc_set {rec : Ctx → Expr → Option Ex} (gr : Good rec) (o : OkX Γ k C X) {elt : Expr} {gens : List Comprehension} {scope : Scope} {pos spos py : Pos} {ir : Ex} {y : Str} {i : Nat} (h : cLc rec Γ elt gens scope = some ir) (hy : X.N[i]? = some y) (hyl : X.env.scope.names.lookup y = some .local)
    (hsw : swapsWith (.ListComp elt gens scope pos) (some (.Name y py)) spos.line X.env = pure true) (lk : List Nat) : SS X lk (.Assign [.Name y py] (.ListComp elt gens scope pos) spos) (asgS lk i (evE C ir)) := by
  have hN : X.N.Nodup := by rw [o.N]; exact o.nd
  unfold cLc at h
  split at h
  · rename_i tg iter ifs as
    obtain ⟨h1, h2⟩ := chk_ok h
    obtain ⟨t, h3, h4⟩ := Option.bind_eq_some_iff.mp h2
    obtain ⟨hb, h5⟩ := chk_ok h4
    obtain ⟨it, h6, h7⟩ := Option.bind_eq_some_iff.mp h5
    obtain ⟨c, h8, h9⟩ := Option.bind_eq_some_iff.mp h7
    obtain ⟨x, h10, rfl⟩ := Option.map_eq_some_iff.mp h9
    obtain ⟨ha, hs⟩ := Bool.and_eq_true_iff.mp h1
    have ha := eq_of_beq ha
    subst ha
    have bk : BlkOk X.N X.env.scope scope (ownAt Γ.N (tgIx t)) := by rw [o.N, o.sc]; exact blkOk_by hb
    have ob := o.blk hb
    refine ss_asg (ps_setLc (wi := tIt X.K (evI C it)) (g := tGt X.K [] t) (tt := tT X.K fun r => boolR (evE C c r)) (te := tP X.K fun r => datR (evE C x r)) o.calm hN hy hyl hsw (it_ok gr o h6) bk (fun s H A cl fp => (tg_ok (ob s H A cl fp) [] 6 h3).1) (fun s H A cl fp => ifs_ok gr (ob s H A cl fp) h8) (fun s H A cl fp => (gr h10 (ob s H A cl fp)).dat) (folded hs _)) fun σ H Q q => ?_
    rw [own_snd]
    exact tlc_of (fun _ z => z) q
  · rename_i tg iter ifs as tg2 iter2 ifs2 as2
    obtain ⟨h1, h2⟩ := chk_ok h
    obtain ⟨t, h3, h4⟩ := Option.bind_eq_some_iff.mp h2
    obtain ⟨t2, h3', h4'⟩ := Option.bind_eq_some_iff.mp h4
    obtain ⟨hb, h5⟩ := chk_ok h4'
    obtain ⟨it, h6, h7⟩ := Option.bind_eq_some_iff.mp h5
    obtain ⟨c, h8, h9⟩ := Option.bind_eq_some_iff.mp h7
    obtain ⟨it2, h6', h7'⟩ := Option.bind_eq_some_iff.mp h9
    obtain ⟨c2, h8', h9'⟩ := Option.bind_eq_some_iff.mp h7'
    obtain ⟨x, h10, rfl⟩ := Option.map_eq_some_iff.mp h9'
    simp only [Bool.and_eq_true] at h1
    obtain ⟨⟨⟨ha, ha2⟩, hs⟩, hs2⟩ := h1
    have ha := eq_of_beq ha
    have ha2 := eq_of_beq ha2
    subst ha ha2
    have bk : BlkOk X.N X.env.scope scope (ownAt Γ.N (tgIx t ++ tgIx t2)) := by rw [o.N, o.sc]; exact blkOk_by hb
    have ob := o.blk hb
    refine ss_asg (ps_setLc2 (vs1 := tgIx t2) (wi := tIt X.K (evI C it)) (g := tGt X.K [] t) (tt := tT X.K fun r => boolR (evE C c r)) (wi1 := tIt X.K (evI C it2)) (g1 := tGt X.K [] t2) (tt1 := tT X.K fun r => boolR (evE C c2 r)) (te := tP X.K fun r => datR (evE C x r)) o.calm hN hy hyl hsw (it_ok gr o h6) bk (fun i hi => by rw [own_snd]; exact List.mem_append_right _ hi) (fun s H A cl fp => (tg_ok (ob s H A cl fp) [] 6 h3).1) (fun s H A cl fp => ifs_ok gr (ob s H A cl fp) h8) (fun s H A cl fp => it_ok gr (ob s H A cl fp) h6')
      (fun s H A cl fp => (tg_ok (ob s H A cl fp) [] 6 h3').1) (fun s H A cl fp => ifs_ok gr (ob s H A cl fp) h8') (fun s H A cl fp => (gr h10 (ob s H A cl fp)).dat) (folded hs _) (fun env x => folded hs2 env x)) fun σ H Q q => ?_
    rw [own_snd]
    exact tlc2_of (fun _ z => List.mem_append_left _ z) (fun _ z => List.mem_append_right _ z) q
  · cases h
theorem OkX.locn (o : OkX Γ k C X) {x : Str} (h : Γ.loc x = true) : L2.Loc X.env.scope x ∧ (X.fn x = true ∨ X.env.scope.names.lookup x = some .local) := by
  unfold Ctx.loc Ctx.knd at h
  unfold L2.Loc
  rw [o.sc]
  split at h
  · exact ⟨.inl (by assumption), .inr (by assumption)⟩
  · exact ⟨.inr (by assumption), .inl (o.fn x h)⟩
  · cases h
theorem set_ok (o : OkX Γ k C X) {n : Nat} {x : Str} {py pos : Pos} {e : Expr} {i : Nat} {v : Ex} (hl : Γ.loc x = true) (hi : ixOf Γ.N x = some i) (he : cE n Γ e = some v) (lk : List Nat) : SS X lk (.Assign [.Name x py] e pos) (asgS lk i (evE C v)) := by
  have hN : X.N.Nodup := by rw [o.N]; exact o.nd
  have hg : X.N[i]? = some x := by rw [o.N]; exact ix_get hi
  obtain ⟨l1, l2⟩ := o.locn hl
  have plain : swapsWith e (some (.Name x py)) pos.line X.env = pure false → SS X lk (.Assign [.Name x py] e pos) (asgS lk i (evE C v)) := fun hs =>
    ss_asg (ps_set hN hg l1 (cE_ok n he o).val hs l2) fun _ _ _ q => q
  by_cases hn : noLc e = true
  · exact plain (swaps_no hn _ _ _)
  · cases e with
    | ListComp elt gens scope p =>
      cases n with
      | zero => cases he
      | succ n =>
        have he : cLc (cE n) Γ elt gens scope = some v := he
        have sw : swapsWith (.ListComp elt gens scope p) (some (.Name x py)) pos.line X.env = pure (X.env.blockKind == .function && X.env.kindOf x == some .local && py.line == p.line && !(scope.names.any fun (n, k) => n == x && (k == .local || k == .cell))) := rfl
        cases hb : (X.env.blockKind == .function && X.env.kindOf x == some .local && py.line == p.line && !(scope.names.any fun (n, k) => n == x && (k == .local || k == .cell))) with
        | true =>
          rw [hb] at sw
          simp only [Bool.and_eq_true] at hb
          exact lc_set (cE_ok n) o he hg (eq_of_beq hb.1.1.2) sw lk
        | false =>
          rw [hb] at sw
          exact plain sw
    | SetComp elt gens scope p =>
      cases n with
      | zero => cases he
      | succ n => cases he
    | DictComp ky vl gens scope p =>
      cases n with
      | zero => cases he
      | succ n => cases he
    | _ => exact absurd rfl hn
end
end Dl

set_option Elab.async false
set_option linter.all false
set_option maxRecDepth 100000
/-! soundness: all statements -/
namespace Dl
open PySem PySem.Spec PyProof.Rows L2
theorem swap2 {x y : Str} {px py pt pt2 : Pos} {kt k2 : Nat} {a b : Expr} {env : PySem.Env} (hf : env.blockKind = .function) (kx : env.kindOf x = some .local) (ky : env.kindOf y = some .local) (hp : py.line = px.line) (hne : x ≠ y)
    (sa : noStar a = true) (sb : noStar b = true) (h1 : ([a, b].all (foldedForSure 8)) = false) (h2 : ([a, b].all (constantsAlone 8)) = false) :
    swappedStores [.Tuple [.Name x px, .Name y py] kt pt] (.Tuple [a, b] k2 pt2) env = pure (some [x, y]) := by
  have e1 : (y == x) = false := by simpa using fun z => hne z.symm
  unfold swappedStores
  dsimp only
  rw [if_neg (by simp [hf]), if_neg (by
    rw [Bool.not_eq_true, List.any_eq_false]
    intro e he
    simp at he
    rcases he with rfl | rfl
    · cases e <;> first | (intro z; cases z; done) | cases sa
    · cases e <;> first | (intro z; cases z; done) | cases sb), if_neg (by simp [List.filterMap_cons, kx, ky, hp, Expr.pos, List.eraseDups, List.eraseDupsBy, List.eraseDupsBy.loop, e1]), if_neg (by rw [h1]; simp), if_neg (by rw [h2]; simp)]
  simp [List.filterMap_cons, kx, ky, hp, Expr.pos]
theorem swap3 {x y z : Str} {px py pz pt pt2 : Pos} {kt k2 : Nat} {a b c : Expr} {env : PySem.Env} (hf : env.blockKind = .function) (kx : env.kindOf x = some .local) (ky : env.kindOf y = some .local) (kz : env.kindOf z = some .local) (hp : py.line = px.line) (hq : pz.line = px.line)
    (hne : x ≠ y) (hnz : x ≠ z) (hyz : y ≠ z) (sa : noStar a = true) (sb : noStar b = true) (sc : noStar c = true) (h1 : ([a, b, c].all (foldedForSure 8)) = false) (h2 : ([a, b, c].all (constantsAlone 8)) = false) :
    swappedStores [.Tuple [.Name x px, .Name y py, .Name z pz] kt pt] (.Tuple [a, b, c] k2 pt2) env = pure (some [x, y, z]) := by
  have e1 : (y == x) = false := by simpa using fun z => hne z.symm
  have e2 : (z == x) = false := by simpa using fun z => hnz z.symm
  have e3 : (z == y) = false := by simpa using fun z => hyz z.symm
  unfold swappedStores
  dsimp only
  rw [if_neg (by simp [hf]), if_neg (by
    rw [Bool.not_eq_true, List.any_eq_false]
    intro e he
    simp at he
    rcases he with rfl | rfl | rfl
    · cases e <;> first | (intro z; cases z; done) | cases sa
    · cases e <;> first | (intro z; cases z; done) | cases sb
    · cases e <;> first | (intro z; cases z; done) | cases sc), if_neg (by simp [List.filterMap_cons, kx, ky, kz, hp, hq, Expr.pos, List.eraseDups, List.eraseDupsBy, List.eraseDupsBy.loop, e1, e2, e3]), if_neg (by rw [h1]; simp), if_neg (by rw [h2]; simp)]
  simp [List.filterMap_cons, kx, ky, kz, hp, hq, Expr.pos]

theorem len2 {α : Type} : ∀ {l : List α}, l.length = 2 → ∃ a b, l = [a, b]
  | [a, b], _ => ⟨a, b, rfl⟩
theorem len3 {α : Type} : ∀ {l : List α}, l.length = 3 → ∃ a b c, l = [a, b, c]
  | [a, b, c], _ => ⟨a, b, c, rfl⟩
theorem swaps_one {e : Expr} (h : noLc e = true) (t : Expr) (l : Nat) (env : PySem.Env) : swapsWithSole [t] e l env = pure false := by
  unfold swapsWithSole
  exact swaps_no h _ _ _
section
variable {Γ : Ctx} {k : Nat} {C : CS} {X : Cx}
theorem OkX.kd (o : OkX Γ k C X) {x : Str} (h : Γ.knd x = some .local) : X.env.scope.names.lookup x = some .local := by rw [o.sc]; exact h
theorem ds_ok {rec : Ctx → Expr → Option Ex} (gr : Good rec) (o : OkX Γ k C X) : ∀ {es : List Expr} {xs : List Ex}, Sounds X C es xs → PA X es (tDs X.K (evDs C xs))
  | [], _, .nil => sds_nil
  | _ :: _, _, .cons a b => sds_cons a.val (ds_ok gr o b) (a.star _)
theorem names_ok : ∀ {ts : List Expr} {ns : List (Str × Nat)}, namesOf ts = some ns → Paired (fun e q => ∃ p : Pos, e = .Name q.1 p ∧ p.line = q.2) ts ns
  | [], ns, h => by cases h; exact .nil
  | e :: ts, ns, h => by
    unfold namesOf at h
    split at h
    · rename_i e0; cases e0
    · rename_i x p r e0
      cases e0
      obtain ⟨n, h1, rfl⟩ := Option.map_eq_some_iff.mp h
      exact .cons ⟨p, rfl, rfl⟩ (names_ok h1)
    · cases h
theorem tag_ne (o : OkX Γ k C X) {x y : Str} {i j : Nat} (hi : ixOf Γ.N x = some i) (hj : ixOf Γ.N y = some j) (h : x ≠ y) : i ≠ j := fun e => by
  subst e
  have := (ix_get hi).symm.trans (ix_get hj)
  exact h (Option.some.inj this)
theorem par_ok (o : OkX Γ k C X) {n : Nat} {ts vs : List Expr} {ns : List (Str × Nat)} {is : List Nat} {es : List Ex} {kt k2 : Nat} {pt pt2 pos : Pos} (h1 : namesOf ts = some ns) (h2 : parOk Γ ns vs = true) (h3 : optAll (ns.map fun q => ixOf Γ.N q.1) = some is)
    (h4 : optAll (vs.map (cE n Γ)) = some es) (lk : List Nat) : SS X lk (.Assign [.Tuple ts kt pt] (.Tuple vs k2 pt2) pos) (parS lk is (evDs C es)) := by
  have hN : X.N.Nodup := by rw [o.N]; exact o.nd
  have gX : ∀ {x : Str} {i : Nat}, ixOf Γ.N x = some i → X.N[i]? = some x := fun {x i} h => by rw [o.N]; exact ix_get h
  have ss := Good.all (cE_ok n) o h4
  have pa := ds_ok (cE_ok n) o ss
  have p1 := names_ok h1
  have p3 := optAll_ok h3
  unfold parOk at h2
  simp only [Bool.and_eq_true, Bool.or_eq_true, decide_eq_true_eq, Bool.not_eq_true'] at h2
  obtain ⟨⟨⟨⟨⟨⟨q1, q2⟩, q3⟩, q4⟩, q5⟩, q6⟩, q7⟩ := h2
  have q2 : vs.length = ns.length := eq_of_beq q2
  rcases q1 with q1 | q1
  · have q1 : ns.length = 2 := eq_of_beq q1
    match ns, q1 with
    | [(x, l1), (y, l2)], _ =>
      match vs, q2 with
      | [a, b], _ =>
        cases p1 with
        | cons u1 p1 => cases p1 with
          | cons u2 p1 =>
            cases p1
            obtain ⟨px, rfl, rfl⟩ := u1
            obtain ⟨py, rfl, rfl⟩ := u2
            cases p3 with
            | cons i1 p3 => cases p3 with
              | cons i2 p3 =>
                cases p3
                rename_i i j
                simp at q3 q4 q5
                have kx := o.kd q3.1
                have ky := o.kd q3.2.1
                refine ps_mo (ps_par o.calm hN (gX i1) (gX i2) (tag_ne o i1 i2 q4) kx ky pa (swap2 o.fnk kx ky q3.2.2 q4 q5.1 q5.2 q6 q7) rfl) fun E σ H ⟨r, L, T, he, hs, out⟩ => ?_
                obtain ⟨ds, r1, e1, out⟩ := out_ok out
                refine ⟨r, L, T, he, hs, ds, r1, e1, fun us H' L' g1 g2 g3 => ?_⟩
                obtain ⟨w1, w2⟩ := set_all g1 LkR.rfl' g2 g3 out
                have lu : us.length = 2 := by rw [g2, ← w1]; rfl
                obtain ⟨v, w, rfl⟩ := len2 lu
                exact ⟨v, w, rfl, w2⟩
  · have q1 : ns.length = 3 := eq_of_beq q1
    match ns, q1 with
    | [(x, l1), (y, l2), (z, l3)], _ =>
      match vs, q2 with
      | [a, b, c], _ =>
        cases p1 with
        | cons u1 p1 => cases p1 with
          | cons u2 p1 => cases p1 with
            | cons u3 p1 =>
              cases p1
              obtain ⟨px, rfl, rfl⟩ := u1
              obtain ⟨py, rfl, rfl⟩ := u2
              obtain ⟨pz, rfl, rfl⟩ := u3
              cases p3 with
              | cons i1 p3 => cases p3 with
                | cons i2 p3 => cases p3 with
                  | cons i3 p3 =>
                    cases p3
                    rename_i i j l
                    simp at q3 q4 q5
                    have kx := o.kd q3.1
                    have ky := o.kd q3.2.1.1
                    have kz := o.kd q3.2.2.1
                    refine ps_mo (ps_par3 o.calm hN (gX i1) (gX i2) (gX i3) (tag_ne o i1 i2 q4.1.1) (tag_ne o i1 i3 q4.1.2) (tag_ne o i2 i3 q4.2) kx ky kz pa (swap3 o.fnk kx ky kz q3.2.1.2 q3.2.2.2 q4.1.1 q4.1.2 q4.2 q5.1 q5.2.1 q5.2.2 q6 q7) rfl) fun E σ H ⟨r, L, T, he, hs, out⟩ => ?_
                    obtain ⟨ds, r1, e1, out⟩ := out_ok out
                    refine ⟨r, L, T, he, hs, ds, r1, e1, fun us H' L' g1 g2 g3 => ?_⟩
                    obtain ⟨w1, w2⟩ := set_all g1 LkR.rfl' g2 g3 out
                    have lu : us.length = 3 := by rw [g2, ← w1]; rfl
                    obtain ⟨v, w, u, rfl⟩ := len3 lu
                    exact ⟨v, w, u, rfl, w2⟩
/-- as many values as targets, stored from the left -/
def gStores : List Nat → TGs
  | [] => gNil
  | i :: is => gCons (gName i) (gStores is)
theorem gStores_ok {H : Hp} {Q : L2.St → Hp → Prop} : ∀ {is : List Nat} {vs : List V} {σ : L2.St}, vs.length = is.length → Q ((is.zip vs).foldl (fun s q => s.set q.1 (some q.2)) σ) H → gStores is vs σ H Q
  | [], [], σ, _, h => ⟨rfl, h⟩
  | [], _ :: _, _, e, _ => by cases e
  | i :: is, [], _, e, _ => by cases e
  | i :: is, v :: vs, σ, e, h => ⟨v, vs, rfl, gStores_ok (is := is) (vs := vs) (by simpa using e) h⟩
def tParU (is : List Nat) (ta : TA) : TS := fun D σ H => ta σ H fun vs H1 => vs.length = is.length ∧ D.nx ((is.zip vs).foldl (fun s q => s.set q.1 (some q.2)) σ) H1
theorem ps_parU {ts es : List Expr} {is : List Nat} {ta : TA} {kt k2 : Nat} {pt pt2 pos : Pos} (hc : X.calm = true) (hg : PGs X ts (gStores is)) (hn : (assignEach ts X.env).length = is.length) (hst : (assignEach ts X.env).findIdx? (·.1) = none)
    (few : is.length ≤ 1000) (ha : PA X es ta) (hw : swappedStores [.Tuple ts kt pt] (.Tuple es k2 pt2) X.env = pure none) : PS X (.Assign [.Tuple ts kt pt] (.Tuple es k2 pt2) pos) (tParU is ta) := by
  refine ⟨fun pins s σ H E I h => ?_⟩
  refine wpAny_Assign_stores (Tuple_ (thn (ha.run _ pins s σ H _ I h) fun us s1 ⟨vs, H1, I1, r1, q1⟩ => ?_)) rfl hw
  obtain ⟨hl, q1⟩ := q1
  have hu : us.length = is.length := by rw [← hl]; exact r1.length.symm
  refine wpAny_newObj_type ?_ (by show us.length ≤ sizeLine; rw [hu]; exact Nat.le_trans few (by decide))
  have J : Inv X pins σ H1 { s1 with heap := s1.heap.push { cls := .type "tuple", data := .seq us.toArray } } := I1.kept (t' := s1.toks) fun b o e => Heap.get?_push_of_some _ e
  show wpAny _ _ (assign (.Tuple ts kt pt) X.env (.ref s1.heap.objs.size)) _ _ _
  refine assign_Tuple_tuple (I.ok.hd hc) (IsTup.new s1.heap us.toArray) (by rw [hn]; simp [hu]) hst fun h' hx => ?_
  have J2 := J.kept (h' := h') (t' := s1.toks) fun b o e => hx b o (Nat.ne_of_lt (Heap.lt_size e)) e
  exact hg.run pins _ σ H1 vs us _ J2 r1 (gStores_ok hl q1)
theorem fm_all {α β : Type} {f : α → Option β} : ∀ {l : List α}, (l.filterMap f).length = l.length → ∀ x ∈ l, (f x).isSome = true
  | [], _, x, hx => by cases hx
  | a :: l, h, x, hx => by
    cases ha : f a with
    | none =>
      rw [List.filterMap_cons_none ha, List.length_cons] at h
      have := List.length_filterMap_le f l
      omega
    | some b =>
      rw [List.filterMap_cons_some ha, List.length_cons, List.length_cons] at h
      rcases List.mem_cons.mp hx with e | hx
      · rw [e, ha]; rfl
      · exact fm_all (by omega) x hx
theorem swapN {ts vs : List Expr} {ns : List (Str × Nat)} {env : PySem.Env} {kt k2 : Nat} {pt pt2 : Pos} (p : Paired (fun e q => ∃ p : Pos, e = .Name q.1 p ∧ p.line = q.2) ts ns)
    (h : ((ns.length == 2 || ns.length == 3) && ns.all (fun q => env.kindOf q.1 == some .local && q.2 == ((ns.head?.map (·.2)).getD 0))) = false) : swappedStores [.Tuple ts kt pt] (.Tuple vs k2 pt2) env = pure none := by
  have hlen : ts.length = ns.length := by
    clear h
    induction p with
    | nil => rfl
    | cons _ _ ih => rw [List.length_cons, List.length_cons, ih]
  have hhead : (ts.head?.map (·.pos.line)).getD 0 = (ns.head?.map (·.2)).getD 0 := by
    cases p with
    | nil => rfl
    | cons a _ => obtain ⟨q, rfl, e⟩ := a; exact e
  unfold swappedStores
  dsimp only
  rw [hhead]
  generalize (ns.head?.map (·.2)).getD 0 = line at h ⊢
  split
  · rfl
  · rename_i c1
    split
    · rfl
    · rw [if_pos]
      all_goals first
        | rfl
        | skip
      · cases hq : (ns.all (fun q => env.kindOf q.1 == some .local && q.2 == line)) with
        | true =>
          rw [hq, Bool.and_true] at h
          rw [← hlen] at h
          simp [h] at c1
        | false =>
          rw [Bool.or_eq_true]
          left
          rw [bne_iff_ne]
          intro hl
          have al := fm_all hl
          refine absurd hq ?_
          rw [Bool.not_eq_false, List.all_eq_true]
          clear h c1 hl hlen hhead hq
          intro q hq
          induction p with
          | nil => cases hq
          | cons a r ih =>
            rcases List.mem_cons.mp hq with e | hq
            · subst e
              obtain ⟨u, rfl, e2⟩ := a
              have := al _ List.mem_cons_self
              dsimp only at this
              split at this
              · rename_i hc; rw [← e2]; exact hc
              · cases this
            · exact ih (fun x hx => al x (List.mem_cons_of_mem _ hx)) hq
theorem parU_ok (o : OkX Γ k C X) {n : Nat} {ts vs : List Expr} {ns : List (Str × Nat)} {is : List Nat} {es : List Ex} {kt k2 : Nat} {pt pt2 pos : Pos} (h1 : namesOf ts = some ns) (h2 : parUk Γ ns vs = true) (h3 : optAll (ns.map fun q => ixOf Γ.N q.1) = some is)
    (h4 : optAll (vs.map (cE n Γ)) = some es) (lk : List Nat) : SS X lk (.Assign [.Tuple ts kt pt] (.Tuple vs k2 pt2) pos) (parS lk is (evDs C es)) := by
  have ss := Good.all (cE_ok n) o h4
  have pa := ds_ok (cE_ok n) o ss
  have p1 := names_ok h1
  have p3 := optAll_ok h3
  unfold parUk at h2
  simp only [Bool.and_eq_true, decide_eq_true_eq, Bool.not_eq_true'] at h2
  obtain ⟨⟨⟨⟨q1, q2⟩, q3⟩, q4⟩, q5⟩ := h2
  have rows : ∀ {ts : List Expr} {ns : List (Str × Nat)} {is : List Nat}, Paired (fun e q => ∃ p : Pos, e = .Name q.1 p ∧ p.line = q.2) ts ns → Paired (fun q i => ixOf Γ.N q.1 = some i) ns is → ns.all (fun q => Γ.loc q.1) = true →
      PGs X ts (gStores is) ∧ (assignEach ts X.env).length = is.length ∧ (assignEach ts X.env).findIdx? (·.1) = none ∧ is.length = ns.length := by
    intro ts ns is a
    induction a generalizing is with
    | nil => intro b _; cases b; exact ⟨pgs_nil, rfl, rfl, rfl⟩
    | cons u r ih =>
      intro b hl
      cases b with
      | cons v w =>
        rw [List.all_cons, Bool.and_eq_true] at hl
        obtain ⟨p, rfl, _⟩ := u
        obtain ⟨g1, g2, g3, g4⟩ := ih w hl.2
        exact ⟨pgs_cons (o.put hl.1 v) g1, by show _ + 1 = _ + 1; rw [g2], by
          show List.findIdx? _ ((false, _) :: _) = none
          rw [List.findIdx?_cons]
          simp [g3], by rw [List.length_cons, List.length_cons, g4]⟩
  obtain ⟨g1, g2, g3, g4⟩ := rows p1 p3 q3
  refine ps_mo (ps_parU o.calm g1 g2 g3 (by rw [g4]; exact q1) pa (swapN p1 ?_)) fun E σ H ⟨r, L, T, he, hs, out⟩ => ?_
  · have : (fun q : Str × Nat => X.env.kindOf q.1 == some .local && q.2 == ((ns.head?.map (·.2)).getD 0)) = fun q => Γ.knd q.1 == some .local && q.2 == ((ns.head?.map (·.2)).getD 0) := by
      funext q
      show (X.env.scope.names.lookup q.1 == _ && _) = (Γ.sc.names.lookup q.1 == _ && _)
      rw [o.sc]
    rw [this]
    exact q5
  · obtain ⟨ds, r1, e1, out⟩ := out_ok out
    refine ⟨r, L, T, he, hs, ds, r1, e1, fun us H' L' a1 a2 a3 => ?_⟩
    obtain ⟨w1, w2⟩ := set_all a1 LkR.rfl' a2 a3 out
    exact ⟨by rw [a2, w1], w2⟩
theorem ret_ok (o : OkX Γ k C X) {n : Nat} {e : Expr} {x : Ex} {pos : Pos} (h : cE n Γ e = some x) (np : Nat) (lk : List Nat) : SS X lk (.Return (some e) pos) (retS (retE C np x)) := by
  have s := cE_ok n h o
  cases hv : x.vix with
  | none =>
    have : retE C np x = evE C x := by funext r; unfold retE; rw [hv]
    rw [this]
    exact ss_ret s.val
  | some i =>
    have p := s.var i hv
    have hx : x = .var i := by cases x <;> first | (cases hv; rfl) | cases hv
    subst hx
    by_cases hi : i < np
    · have : retE C np (.var i) = evE C (.var i) := by funext r; unfold retE; simp only [Ex.vix]; rw [if_pos hi] <;> rfl
      rw [this]
      exact ss_ret s.val
    · have : retE C np (.var i) = fun r => match getS r i with | some d => Res.ok d (r.set i none) | none => .bad := by funext r; unfold retE; simp only [Ex.vix]; rw [if_neg hi]; all_goals (cases getS r i <;> rfl)
      rw [this]
      exact ss_ret (se_out p)
theorem asgn_ok (o : OkX Γ k C X) {n np : Nat} {tg e : Expr} {pos : Pos} {st : St} (h : cAsg (cE n) Γ tg e pos = some st) (lk : List Nat) : SS X lk (.Assign [tg] e pos) (evS C np lk st) := by
  unfold cAsg at h
  split at h
  · obtain ⟨h1, h2⟩ := chk_ok h
    obtain ⟨i, h3, h4⟩ := Option.bind_eq_some_iff.mp h2
    obtain ⟨v, h5, rfl⟩ := Option.map_eq_some_iff.mp h4
    exact set_ok o h1 h3 h5 lk
  · split at h
    · obtain ⟨ns, h1, h2⟩ := Option.bind_eq_some_iff.mp h
      obtain ⟨h3, h4⟩ := chk_ok h2
      obtain ⟨is, h5, h6⟩ := Option.bind_eq_some_iff.mp h4
      obtain ⟨es, h7, rfl⟩ := Option.map_eq_some_iff.mp h6
      rcases Bool.or_eq_true_iff.mp h3 with h3 | h3
      · exact par_ok o h1 h3 h5 h7 lk
      · exact parU_ok o h1 h3 h5 h7 lk
    · rename_i ts kt pt hnt
      obtain ⟨h1, h2⟩ := chk_ok h
      obtain ⟨t, h3, h4⟩ := Option.bind_eq_some_iff.mp h2
      split at h4
      · rename_i tl
        obtain ⟨v, h5, rfl⟩ := Option.map_eq_some_iff.mp h4
        obtain ⟨p1, p2⟩ := tg_ok o lk 6 h3
        refine ss_unp (ps_asg (cE_ok n h5 o).dat p1 (swaps_one h1 _ _ _) ?_ (by rw [p2]; rfl))
        cases e <;> first | rfl | exact absurd rfl (hnt _ _ _)
      · cases h4
  · rename_i x p ix tp
    obtain ⟨h1, h2⟩ := chk_ok h
    obtain ⟨i, h3, h4⟩ := Option.bind_eq_some_iff.mp h2
    obtain ⟨kx, h5, h6⟩ := Option.bind_eq_some_iff.mp h4
    obtain ⟨v, h7, rfl⟩ := Option.map_eq_some_iff.mp h6
    simp only [Bool.and_eq_true] at h1
    obtain ⟨⟨h8, h9⟩, h10⟩ := h1
    have sx := cE_ok n h5 o
    refine ss_setI (ps_asg (cE_ok n h7 o).dat (pg_sub (o.vis h9 h3) (si_of sx.arg) set_list (fun v => ?_)) (swaps_one h8 _ _ _) ?_ rfl)
    · cases ix <;> first | rfl | cases h10
    · cases e <;> rfl
  · cases h
abbrev GoodS (Γ : Ctx) (rS : Stmt → Option St) : Prop := ∀ {s : Stmt} {st : St}, rS s = some st → ∀ {k : Nat} {C : CS} {X : Cx}, OkX Γ k C X → PassesOwn (model X.prog X.w) X.A X.env X.xe → ∀ (np : Nat) (lk : List Nat), SS X lk s (evS C np lk st)
theorem GoodS.all {rS : Stmt → Option St} (g : GoodS Γ rS) (o : OkX Γ k C X) (hp : PassesOwn (model X.prog X.w) X.A X.env X.xe) (np : Nat) (lk : List Nat) : ∀ {ss : List Stmt} {xs : List St}, optAll (ss.map rS) = some xs → SSs X lk ss (evSs C np lk xs) := by
  intro ss xs h
  have := optAll_ok h
  clear h
  induction this with
  | nil => exact sss_nil
  | cons a _ ih => exact sss_cons (g a o hp np lk) ih
theorem cSb_ok {rS : Stmt → Option St} (gs : GoodS Γ rS) : GoodS Γ (cSb (cE 20) rS Γ) := by
  intro s st h k C X o hp np lk
  unfold cSb at h
  split at h
  · cases h
    exact ss_nx ps_doc
  · rename_i x p m apos e cpos pos
    obtain ⟨h1, h2⟩ := chk_ok h
    obtain ⟨i, h3, h4⟩ := Option.bind_eq_some_iff.mp h2
    obtain ⟨v, h5, h6⟩ := Option.bind_eq_some_iff.mp h4
    obtain ⟨hv, hl⟩ := Bool.and_eq_true_iff.mp h1
    have s := cE_ok 20 h5 o
    have few : ((backTo cpos (starEach (e :: []) X.env)).all (fun x => !x.1) && (backToKw cpos (keywordEach [] X.env)).all (fun x => x.1.isSome) && decide ((e :: []).length + ([] : List Keyword).length + (if ([] : List Keyword).isEmpty then 0 else 1) < 30)) = true := by
      rw [s.star []]; rfl
    rcases if_or h6 with ⟨rfl, h7⟩ | ⟨_, h7⟩
    · cases h7
      exact ss_app (ps_expr (pe_bm PySem.F.plainAttrs_list PySem.F.slot_list_append PySem.F.type_list_append mt_append (o.vis hv h3) (pa_cons s.dat pa_nil (s.star [])) rfl few hl (s.star []) rfl) rfl)
    · rcases if_or h7 with ⟨rfl, h8⟩ | ⟨_, h8⟩
      · cases h8
        exact ss_ext (ps_expr (pe_bm PySem.F.plainAttrs_list PySem.F.slot_list_extend PySem.F.type_list_extend mt_extend (o.vis hv h3) (pa_cons s.val pa_nil (s.star [])) rfl few hl (s.star []) rfl) rfl)
      · cases h8
  · obtain ⟨h1, h2⟩ := chk_ok h
    obtain ⟨v, h3, rfl⟩ := Option.map_eq_some_iff.mp h2
    exact ss_exp (ps_expr (cE_ok 20 h3 o).val (swaps_no h1 _ _ _))
  · exact asgn_ok o h lk
  · obtain ⟨v, h3, rfl⟩ := Option.map_eq_some_iff.mp h
    exact ret_ok o h3 np lk
  · cases h
    exact ss_retN
  · obtain ⟨h0, h1⟩ := chk_ok h
    obtain ⟨z, h2, h3⟩ := Option.bind_eq_some_iff.mp h1
    obtain ⟨x, h4, h5⟩ := Option.bind_eq_some_iff.mp h3
    obtain ⟨y, h6, rfl⟩ := Option.map_eq_some_iff.mp h5
    exact ss_if ((cE_ok 20 h2 o).tst h0) (gs.all o hp np lk h4) (gs.all o hp np lk h6)
  · obtain ⟨h0, h1⟩ := chk_ok h
    obtain ⟨t, h2, h3⟩ := Option.bind_eq_some_iff.mp h1
    obtain ⟨it, h4, h5⟩ := Option.bind_eq_some_iff.mp h3
    obtain ⟨y, h6, rfl⟩ := Option.map_eq_some_iff.mp h5
    exact ss_for hp o.calm (it_ok (cE_ok 20) o h4) (tg_ok o lk 6 h2).1 (gs.all o hp np lk h6) (folded h0 _)
  · obtain ⟨h0, h1⟩ := chk_ok h
    obtain ⟨z, h2, h3⟩ := Option.bind_eq_some_iff.mp h1
    obtain ⟨y, h6, rfl⟩ := Option.map_eq_some_iff.mp h3
    exact ss_whl hp ((cE_ok 20 h2 o).tst h0) (gs.all o hp np lk h6)
  · cases h
    exact ss_nx ps_pass
  · cases h
    exact ss_ct ps_continue
  · cases h
theorem cS_ok : ∀ n : Nat, GoodS Γ (cS Γ n)
  | 0 => fun h => by (cases h)
  | n + 1 => cSb_ok (cS_ok n)
end
end Dl

set_option Elab.async false
set_option linter.all false
set_option maxRecDepth 100000
/-! defs, level by level -/
namespace Dl
open PySem PySem.Spec PyProof.Rows L2
/-! ### binding -/
theorem zip_lookup {as : List Str} : ∀ {us : List Value}, as.Nodup → us.length = as.length → as.filterMap (fun n => ((as.zip us).lookup n).map (n, ·)) = as.zip us := by
  intro us nd hl
  suffices h : ∀ (bs : List Str) (ws : List Value) (pre : List (Str × Value)), (∀ n ∈ bs, pre.lookup n = none) → bs.Nodup → ws.length = bs.length → bs.filterMap (fun n => ((pre ++ bs.zip ws).lookup n).map (n, ·)) = bs.zip ws by
    simpa using h as us [] (by simp) nd hl
  intro bs
  induction bs with
  | nil => intro ws pre _ _ _; rfl
  | cons b bs ih =>
    intro ws pre hp hn hw
    cases ws with
    | nil => cases hw
    | cons w ws =>
      obtain ⟨n1, n2⟩ := List.nodup_cons.mp hn
      have e : (pre ++ (b :: bs).zip (w :: ws)).lookup b = some w := by
        rw [List.zip_cons_cons, List.lookup_append, hp b List.mem_cons_self]
        simp
      rw [List.filterMap_cons, e]
      have := ih ws (pre ++ [(b, w)]) (fun n hn => by
        rw [List.lookup_append, hp n (List.mem_cons_of_mem _ hn)]
        have : n ≠ b := fun z => n1 (z ▸ hn)
        simp [List.lookup, beq_false_of_ne this]) n2 (by simpa using hw)
      rw [List.append_assoc] at this
      simpa using this
def plainArgs (as : List PySem.Arg) : Arguments := { posonlyargs := [], args := as, vararg := none, kwonlyargs := [], kw_defaults := [], kwarg := none, defaults := [] }
theorem bind_gen (fd : FuncData) (as : List PySem.Arg) (h : fd.params = plainArgs as) (hd : fd.defaults = .none) (nd : (as.map (·.arg)).Nodup) (us : List Value) (hl : us.length = (as.map (·.arg)).length) : bindArgs fd ⟨us, []⟩ = pure ((as.map (·.arg)).zip us) := by
  unfold plainArgs at h
  have z := zip_lookup nd hl
  have e0 : seqItems? (.none : Value) = pure none := by rfl
  have ml : ∀ n ∈ (as.map (·.arg)), (((as.map (·.arg)).zip us).lookup n).isNone = false := fun n hn => by
    cases e : ((as.map (·.arg)).zip us).lookup n with
    | some v => rfl
    | none =>
      exfalso
      obtain ⟨i, hi, rfl⟩ := List.getElem_of_mem hn
      have := List.lookup_eq_none_iff.mp e (((as.map (·.arg)))[i], us[i]'(by omega)) (by
        rw [List.mem_iff_getElem]
        exact ⟨i, by simp at hi ⊢; omega, by simp⟩)
      simp at this
  unfold bindArgs
  simp only [h, hd, e0, List.map_nil, List.nil_append, List.append_nil, List.forIn_nil, pure_bind, bind_pure, Option.getD_none, List.drop_nil, List.zip_nil_right, List.length_nil, Nat.sub_zero, Option.isNone_none, List.isEmpty_nil, Bool.not_true, Bool.false_eq_true, if_false]
  rw [if_neg (by simp [hl]), List.take_length]
  have fz : List.filter (fun n => (((as.map (·.arg)).zip us).lookup n).isNone) (as.map (·.arg)) = [] := List.filter_eq_nil_iff.mpr fun n hn => by rw [ml n hn]; simp
  rw [fz, if_neg (by simp), z]
/-! ### the entry -/
theorem env_none : ∀ n : Nat, EnvR (List.replicate n none) (List.replicate n none) []
  | 0 => .nil
  | n + 1 => .non (env_none n)
theorem env_start : ∀ {vs : List V} {ds : List D} (n : Nat), vs.length = ds.length → EnvR (vs.map some ++ List.replicate n none) (ds.map some ++ List.replicate n none) (vs.zip ds)
  | [], [], n, _ => env_none n
  | [], _ :: _, n, h => by cases h
  | _ :: _, [], n, h => by cases h
  | v :: vs, d :: ds, n, h => .som (env_start n (by simpa using h))
def ownQ : Nat → List V → List D → List (Nat × V)
  | k, v :: vs, d :: ds => if d.own then (k, v) :: ownQ (k + 1) vs ds else ownQ (k + 1) vs ds
  | _, _, _ => []
theorem ownQ_fst : ∀ {vs : List V} {ds : List D} (k : Nat), vs.length = ds.length → (ownQ k vs ds).map (·.1) = ownIx k ds
  | [], [], k, _ => rfl
  | [], _ :: _, k, h => by cases h
  | _ :: _, [], k, h => by cases h
  | v :: vs, d :: ds, k, h => by
    unfold ownQ ownIx
    split
    · rw [List.map_cons, ownQ_fst (k + 1) (by simpa using h)]
    · exact ownQ_fst (k + 1) (by simpa using h)
theorem ownQ_snd : ∀ {vs : List V} {ds : List D} (k : Nat), (ownQ k vs ds).map (·.2) = ownV vs ds
  | [], [], k => rfl
  | [], _ :: _, k => rfl
  | _ :: _, [], k => rfl
  | v :: vs, d :: ds, k => by
    unfold ownQ ownV
    split
    · rw [List.map_cons, ownQ_snd (k + 1)]
    · exact ownQ_snd (k + 1)
theorem ownQ_get : ∀ {vs : List V} {ds : List D} (k : Nat) {p : Nat × V}, p ∈ ownQ k vs ds → k ≤ p.1 ∧ vs[p.1 - k]? = some p.2
  | [], [], k, p, h => by cases h
  | [], _ :: _, k, p, h => by cases h
  | _ :: _, [], k, p, h => by cases h
  | v :: vs, d :: ds, k, p, h => by
    unfold ownQ at h
    have tl : p ∈ ownQ (k + 1) vs ds → k ≤ p.1 ∧ (v :: vs)[p.1 - k]? = some p.2 := fun h => by
      obtain ⟨h1, h2⟩ := ownQ_get (k + 1) h
      refine ⟨by omega, ?_⟩
      rw [show p.1 - k = (p.1 - (k + 1)) + 1 by omega]
      simpa using h2
    split at h
    · rcases List.mem_cons.mp h with rfl | h
      · exact ⟨Nat.le_refl _, by simp⟩
      · exact tl h
    · exact tl h
theorem ownQ_nd : ∀ {vs : List V} {ds : List D} (k : Nat), ((ownQ k vs ds).map (·.1)).Nodup
  | [], [], k => .nil
  | [], _ :: _, k => .nil
  | _ :: _, [], k => .nil
  | v :: vs, d :: ds, k => by
    unfold ownQ
    split
    · refine List.nodup_cons.mpr ⟨fun hm => ?_, ownQ_nd (k + 1)⟩
      obtain ⟨p, hp, e⟩ := List.mem_map.mp hm
      have := (ownQ_get (k + 1) hp).1
      have e : p.1 = k := e
      omega
    · exact ownQ_nd (k + 1)
theorem outs_set {r : Env} {i : Nat} : ∀ {is : List Nat}, i ∉ is → outsOf (r.set i none) is = outsOf r is
  | [], _ => rfl
  | j :: is, h => by
    have e : getS (r.set i none) j = getS r j := by
      unfold getS
      rw [List.getElem?_set_ne (fun z => h (by rw [z]; simp))]
    unfold outsOf
    rw [e, outs_set fun m => h (List.mem_cons_of_mem _ m)]
theorem pick {σ : L2.St} : ∀ {q : List (Nat × V)} {outs : List D} {r : Env} {L : List (V × D)}, EnvR σ r L → (∀ p ∈ q, σ[p.1]? = some (some p.2)) → (q.map (·.1)).Nodup → outsOf r (q.map (·.1)) = some outs → ∃ R, L.Perm (((q.map (·.2)).zip outs) ++ R)
  | [], outs, r, L, he, _, _, h => by
    cases h
    exact ⟨L, .refl _⟩
  | (i, v) :: q, outs, r, L, he, hv, nd, h => by
    obtain ⟨n1, n2⟩ := List.nodup_cons.mp nd
    have h : ((getS r i).bind fun d => (outsOf r (q.map (·.1))).map (d :: ·)) = some outs := h
    obtain ⟨d, h1, h2⟩ := Option.bind_eq_some_iff.mp h
    obtain ⟨os, h3, rfl⟩ := Option.map_eq_some_iff.mp h2
    obtain ⟨u, L1, L2, k1, rfl, _, k2⟩ := he.at h1
    have hv0 := hv (i, v) List.mem_cons_self
    rw [k1] at hv0
    cases hv0
    obtain ⟨R, hR⟩ := pick k2 (fun p hp => hv p (List.mem_cons_of_mem _ hp)) n2 (by rw [outs_set n1]; exact h3)
    refine ⟨R, List.perm_middle.trans (List.Perm.cons _ hR)⟩
theorem sep_pick {K : Fr} {H : Hp} {σ' : L2.St} {vs : List V} {ds outs : List D} {r : Env} {L M : List (V × D)} {x : V × D} {n : Nat} (hl : vs.length = ds.length) (he : EnvR σ' r L) (lk : LkR (ownIx 0 ds) (vs.map some ++ List.replicate n none) σ') (ho : outsOf r (ownIx 0 ds) = some outs)
    (hs : Sep K H (x :: (L ++ M))) : Sep K H (x :: ((ownV vs ds).zip outs ++ M)) := by
  have ef := ownQ_fst (vs := vs) (ds := ds) 0 hl
  have es := ownQ_snd (vs := vs) (ds := ds) 0
  obtain ⟨R, hR⟩ := pick (q := ownQ 0 vs ds) he (fun p hp => by
    obtain ⟨_, h2⟩ := ownQ_get 0 hp
    rw [Nat.sub_zero] at h2
    have hm : p.1 ∈ ownIx 0 ds := by rw [← ef]; exact List.mem_map.mpr ⟨p, hp, rfl⟩
    rw [lk p.1 hm, List.getElem?_append_left (by simpa using (List.getElem?_eq_some_iff.mp h2).1), List.getElem?_map, h2]
    rfl) (ownQ_nd 0) (by rw [ef]; exact ho)
  rw [es] at hR
  refine (hs.perm (List.Perm.cons _ (hR.append_right M))).sub (List.Sublist.cons_cons _ ?_)
  exact List.Sublist.append (List.sublist_append_left _ _) (List.Sublist.refl _)
/-! ### a module of defs -/
structure Modu (P : Program) (w : World) (K : Fr) (mg : Str → Option Value) (defs : List Stmt) (nms : List (List Str)) (fnl : List (Str × List Bool)) (csl : List (Str × PyData)) (tab : List Fn) : Prop where
  comp : (defs.zip nms).map (fun q => cFn q.2 fnl csl q.1) = tab.map some
  len : nms.length = defs.length
  ix : ∀ x i fl, fnIx fnl x = some (i, fl) → ∃ d, defs[i]? = some d ∧ ∃ as b sc, fnArgs d = some (x, as, b, sc)
  fun_ : ∀ (i : Nat) (d : Stmt) (x : Str) (as : List PySem.Arg) (b : List Stmt) (sc : Scope), defs[i]? = some d → fnArgs d = some (x, as, b, sc) → ∃ f fd, FunD K x x (plainArgs as) b sc [] [] f fd ∧ mg x = some (.ref f)
  scope : ∀ (i : Nat) (d : Stmt) (N : List Str) (x : Str) (as : List PySem.Arg) (b : List Stmt) (sc : Scope), defs[i]? = some d → nms[i]? = some N → fnArgs d = some (x, as, b, sc) → FnScope N (as.map (·.arg)) sc
  bi : ∀ x ∈ bis, mg x = none
  cs : ∀ x d, csl.lookup x = some d → ∃ u v, mg x = some u ∧ RelV v u ∧ ∀ H, Rep K H d v
section
variable {P : Program} {w : World} {K : Fr} {mg : Str → Option Value} {defs : List Stmt} {nms : List (List Str)} {fnl : List (Str × List Bool)} {csl : List (Str × PyData)} {tab : List Fn}
theorem Modu.at (M : Modu P w K mg defs nms fnl csl tab) {i : Nat} {d : Stmt} (hd : defs[i]? = some d) : ∃ N fn, nms[i]? = some N ∧ tab[i]? = some fn ∧ cFn N fnl csl d = some fn := by
  have hi : i < nms.length := by rw [M.len]; exact (List.getElem?_eq_some_iff.mp hd).1
  have e := congrArg (fun l => l[i]?) M.comp
  simp only [List.getElem?_map] at e
  have z : (defs.zip nms)[i]? = some (d, nms[i]) := by
    rw [List.getElem?_zip_eq_some]
    exact ⟨hd, List.getElem?_eq_getElem hi⟩
  rw [z] at e
  cases ht : tab[i]? with
  | none => rw [ht] at e; cases e
  | some fn =>
    rw [ht] at e
    exact ⟨nms[i], fn, List.getElem?_eq_getElem hi, rfl, Option.some.inj e⟩
theorem FunD.bind {x : Str} {as : List PySem.Arg} {b : List Stmt} {sc : Scope} {f : Addr} {fd : FuncData} (F : FunD K x x (plainArgs as) b sc [] [] f fd) (nd : (as.map (·.arg)).Nodup) : (∀ us : List Value, us.length = (as.map (·.arg)).length → bindArgs fd ⟨us, []⟩ = pure ((as.map (·.arg)).zip us)) := by
  obtain ⟨oc, od, dV, kV, doc, pm, an, cdv, ct, osl, rfl, lk, hcd, hD, hK⟩ := F.ex
  rcases hD with ⟨_, rfl⟩ | ⟨e, _⟩
  · exact fun us hl => bind_gen _ as rfl rfl nd us hl
  · exact absurd rfl e
theorem level (M : Modu P w K mg defs nms fnl csl tab) : ∀ (k : Nat) (base : Heap) (i : Nat) (d : Stmt) (x : Str) (as : List PySem.Arg) (b : List Stmt) (sc : Scope) (f : Addr) (fd : FuncData), defs[i]? = some d → fnArgs d = some (x, as, b, sc) → FunD K x x (plainArgs as) b sc [] [] f fd →
    FnG P w K mg base k f fd (as.map (·.arg)) (spF K (callF tab k) i)
  | 0, base, i, d, x, as, b, sc, f, fd, hd, ha, F =>
    ⟨fun vs H Q ⟨ds, M', d', outs, _, _, h, _⟩ => by (cases h), fun A outer s H args us vs Q _ _ _ _ _ ⟨ds, M', d', outs, _, _, h, _⟩ => by (cases h)⟩
  | k + 1, base, i, d, x, as, b, sc, f, fd, hd, ha, F => by
    obtain ⟨N, fn, hN, ht, hc⟩ := M.at hd
    have S := M.scope i d N x as b sc hd hN ha
    obtain ⟨q, hq, hq2⟩ := Option.bind_eq_some_iff.mp hc
    rw [ha] at hq
    cases hq
    obtain ⟨body, hb, rfl⟩ := Option.map_eq_some_iff.mp hq2
    have call : ∀ ds, callF tab (k + 1) i ds = runF (callF tab k) ⟨as.length, N.length, body⟩ ds := fun ds => by
      show (match tab[i]? with | some fn => runF (callF tab k) fn ds | none => Dl.CR.bad) = _
      rw [ht]
    refine fnG_of F S (fun vs H Q ⟨ds, M', d', outs, _, hl, h, _⟩ => ?_) fun cdv A outer s H vs Q hr hG ⟨ds, M', d', outs, hs, hl, h, q⟩ => ?_
    · rw [call] at h
      unfold runF at h
      split at h
      · rename_i e
        rw [hl, List.length_map]
        exact e
      · cases h
    · rw [call] at h
      unfold runF at h
      split at h
      · rename_i e
        have e : ds.length = as.length := e
        have o : OkX ⟨N, sc, none, fnl, csl⟩ k (callF tab k) (cxOf L2.CX0 P w K mg base N x sc f cdv A outer s H L2.E0).nox := {
          N := rfl
          sc := rfl
          fn := fun _ _ => rfl
          nd := S.nd
          kind := S.kind
          calm := rfl
          room := hr
          guards := hG
          bi := M.bi
          cs := M.cs
          fns := fun y j fl hy => by
            obtain ⟨d2, e2, as2, b2, sc2, e3⟩ := M.ix y j fl hy
            obtain ⟨f2, fd2, F2, m2⟩ := M.fun_ j d2 y as2 b2 sc2 e2 e3
            obtain ⟨N2, fn2, hN2, _, _⟩ := M.at e2
            have S2 := M.scope j d2 N2 y as2 b2 sc2 e2 hN2 e3
            have nd2 : (as2.map (·.arg)).Nodup := by rw [← S2.pre]; exact S2.nd.sublist (List.take_sublist _ _)
            exact ⟨f2, fd2, _, level M k base j d2 y as2 b2 sc2 f2 fd2 e2 e3 F2, m2, F2.kp, .all (FunD.bind F2 nd2)⟩ }
        have pass : PassesOwn (model P w) (cxOf L2.CX0 P w K mg base N x sc f cdv A outer s H L2.E0).nox.A (cxOf L2.CX0 P w K mg base N x sc f cdv A outer s H L2.E0).nox.env (cxOf L2.CX0 P w K mg base N x sc f cdv A outer s H L2.E0).nox.xe := PassesOwn.never
        refine ⟨_, PSs.nox (GoodS.all (cS_ok (Γ := ⟨N, sc, none, fnl, csl⟩) 12) o pass as.length (ownIx 0 ds) hb), ?_⟩
        have hle : vs.length ≤ N.length := by
          have := congrArg List.length S.pre
          rw [List.length_take, List.length_map] at this
          omega
        refine ⟨ds.map some ++ List.replicate (N.length - as.length) none, vs.zip ds, M', ?_, hs, ?_⟩
        · have := env_start (vs := vs) (ds := ds) (N.length - as.length) hl
          unfold L2.start
          rw [show N.length - vs.length = N.length - as.length by rw [hl, e]]
          exact this
        · have h : (match evSs (callF tab k) as.length (ownIx 0 ds) body (ds.map some ++ List.replicate (N.length - as.length) none) with
            | .rt d r => (match outsOf r (ownIx 0 ds) with
              | some os => Dl.CR.ok d os
              | none => .bad)
            | .nx r => (match outsOf r (ownIx 0 ds) with
              | some os => .ok (.p .none) os
              | none => .bad)
            | .ex x r => (match outsOf r (ownIx 0 ds) with
              | some os => .ex x os
              | none => .bad)
            | _ => .bad) = .ok d' outs := h
          have hst : L2.start N vs = vs.map some ++ List.replicate (N.length - vs.length) none := rfl
          split at h
          · rename_i d2 r2 he
            split at h
            · rename_i os ho
              cases h
              rw [he]
              exact fun v σ' H' L' a1 a2 a3 => q v H' (sep_pick hl a1 a2 ho a3)
            · cases h
          · rename_i r2 he
            split at h
            · rename_i os ho
              cases h
              rw [he]
              exact fun σ' H' L' a1 a2 a3 => q .non H' (sep_pick hl a1 a2 ho (Sep.cons_p .of_none a3))
            · cases h
          · split at h <;> cases h
          · cases h
      · cases h
end
end Dl

set_option Elab.async false
set_option linter.all false
set_option maxRecDepth 100000
/-! the end of a law -/
namespace Dl
open PySem PySem.Spec PyProof.Rows L2
/-- the law's call, from what its def promises -/
theorem law_callG {P : Program} {w : World} {K : Fr} {mg mb : Str → Option Value} {k : Nat} {fa a : Addr} {fd : FuncData} {x : Str} {sp : SpG} {s : Shared} {vs : List Value} {ns : List Int}
    (KX : K.In s.heap) (hns : s.heap.Ns mainGlobals mg) (hb : s.heap.Ns builtinsNs mb) (hbb : ∀ x : Str, x ≠ "__name__" → mb x = bootBuiltins x) (hlim : s.heap.NoLimit) (hg : s.gens = #[])
    (ha : s.heap.get? a = some { cls := .type "list", data := .seq vs.toArray }) (hi : IntsAre vs ns) (hl : ns.length ≤ sizeLine) (hr : Room k callerA) (hG : callerA.guards = some [])
    (F : ∀ base : Heap, K.In base → base.Ns mainGlobals mg → FnG P w K mg base k fa fd [x] sp) (hbind : ∀ (s : Shared) (u : Value), BindsTo s fd ⟨[u], []⟩ [(x, u)])
    (hsp : ∀ H : Hp, Only H → SqL K H a (ns.map V.int) → sp [.ref a] H fun v _ => v = .bl true) :
    codeAny (model P w) callerA (.call (.ref fa) ⟨[.ref a], []⟩) (fun r s' => r = .ok (.ret (.bool true)) ∧ OldK s.heap s'.heap ∧ s'.os = s.os ∧ AllBare s'.gens) s := by
  have rv := vals_ints hi
  have nlen := hi.length
  have main : ∀ H : Hp, Only H → SqL K H a (ns.map V.int) → HOk P w H s.heap → (∀ b, H b ≠ none → b = a) → (H a ≠ none → K.lookup a = none) →
      codeAny (model P w) callerA (.call (.ref fa) ⟨[.ref a], []⟩) (fun r s' => r = .ok (.ret (.bool true)) ∧ OldK s.heap s'.heap ∧ s'.os = s.os ∧ AllBare s'.gens) s := by
    intro H hO hS hok onlyA nK
    have same : ∀ {b : Addr}, H b ≠ none → s.heap.get? b = some { cls := .type "list", data := .seq vs.toArray } := fun {b} n => by rw [onlyA b n]; exact ha
    have ns' : ∀ {b : Addr} {m : Str → Option Value}, s.heap.Ns b m → (hidT s.heap H).Ns b m := fun {b m} ⟨o, es, ep, e, d, rest⟩ => by
      refine ⟨o, es, ep, hidT_get e ?_, d, rest⟩
      by_cases q : H b = none
      · exact q
      · rw [same q] at e
        cases e
        have d' : Data.seq vs.toArray _ = Data.dict es ep := d
        cases d'
    have kin : K.In (hidT s.heap H) := fun b o e => hidT_get (KX b o e) (by
      by_cases q : H b = none
      · exact q
      · have eb := onlyA b q
        subst eb
        rw [nK q] at e
        cases e)
    have md : Mod K mg (hidT s.heap H) := ⟨kin, ns' hns, ⟨mb, ns' hb, hbb⟩, by obtain ⟨mc, h1, h2⟩ := hlim; exact ⟨mc, ns' h1, h2⟩⟩
    have e0 : Env0 P w K mg (hidT s.heap H) callerA [] s H :=
      ⟨rfl, md, fun b o e => of_hidT e, Nat.le_of_eq (hidT_size _ _), trivial, fun b z => absurd (show b ∈ ([] : List Addr) from z) (by simp), hok, .of_eq hg⟩
    refine codeAny_mono ((F _ kin (ns' hns)).run callerA [] s H ⟨[.ref a], []⟩ [.ref a] [.ref a] _ hr hG e0 (hbind s (.ref a)) (.cons rfl .nil) (hsp H hO hS)) fun r s' h => ?_
    match r, h with
    | .ok (.ret u), h =>
      obtain ⟨v, H', os, bare, un, hok', rr, q⟩ := h
      have q : v = .bl true := q
      subst q
      obtain rfl : u = Value.bool true := rr
      refine ⟨rfl, OldK.of_keep fun b o e => ?_, os, bare⟩
      rcases hO b with q | ⟨ob, xs, q⟩
      · exact un.keep b o e q (fun z => absurd (show b ∈ ([] : List Addr) from z) (by simp)) (by simp)
      · have q2 := un.frzs b ob _ q
        obtain ⟨e1, _⟩ := hok b _ q
        obtain ⟨e2, _⟩ := hok' b _ q2
        rw [e] at e1
        cases e1
        exact e2
  cases hk : K.lookup a with
  | some o =>
    have e := KX a o hk
    rw [ha] at e
    cases e
    exact main (fun _ => none) (fun _ => .inl rfl) (.inr ⟨_, vs.toArray, _, hk, rfl, rfl, rfl, by rw [List.size_toArray, nlen]; exact hl, by simpa using rv⟩)
      (fun b u z => by (have z : (none : Option HO) = some u := z); cases z) (fun b z => absurd rfl z) fun z => absurd rfl z
  | none =>
    refine main (fun b => if b = a then some (.frz { cls := .type "list", data := .seq vs.toArray } (.lst (ns.map V.int))) else none) (fun b => ?_) (.inl (.inr ⟨{ cls := .type "list", data := .seq vs.toArray }, if_pos rfl⟩)) (fun b u z => ?_) (fun b z => ?_) fun _ => hk
    · by_cases q : b = a
      · exact .inr ⟨_, _, if_pos q⟩
      · exact .inl (if_neg q)
    · by_cases q : b = a
      · subst q
        have z := (if_pos rfl).symm.trans z
        cases z
        exact ⟨ha, by rw [List.length_map]; exact hl, vs, _, rv, ha⟩
      · have z := (if_neg q).symm.trans z
        cases z
    · by_cases q : b = a
      · exact q
      · exact absurd (if_neg q) z
theorem walk_G {l : PySem.W.OpenLaw} {n k : Nat} {q : Program} {loose : List Str} {XP : (Str → Option Value) → Heap → Prop} {YP : World → Heap → Prop} {d : DefRec} {x : Str}
    (hn : l.most = some n) (hn2 : n ≤ sizeLine) (hdf : d.params.defaults = []) (hr : Room k callerA) (hG : callerA.guards = some [])
    (F : ∀ (w : World) (mg : Str → Option Value) (fa : Addr) (h : Heap), YP w h → h.Ns mainGlobals mg → mg d.name = some (.ref fa) →
      ∃ (K : Fr) (fd : FuncData) (sp : SpG), K.In h ∧ (∀ (s : Shared) (u : Value), BindsTo s fd ⟨[u], []⟩ [(x, u)]) ∧
        (∀ (H : Hp) (a : Addr) (ns : List Int), ns.length ≤ n → Only H → SqL K H a (ns.map V.int) → sp [.ref a] H fun v _ => v = .bl true) ∧
        ∀ base : Heap, K.In base → base.Ns mainGlobals mg → FnG l.prog w K mg base k fa fd [x] sp) :
    PySem.W.WalkO q loose XP YP l.row.toRowW d [] (fun f vs => PySem.call f vs) := by
  refine Att.attach_call hn hdf fun w s0 s1 mg mb fa o pm cd doc a vs ns G Y ho hd hcd hmg hobj hints hlen hg => ?_
  obtain ⟨K, fd, sp, KX, hb, hsp, hF⟩ := F w mg fa _ Y G.T.g hmg
  exact law_callG KX G.T.g G.T.b G.T.builtins G.T.nolimit hg hobj hints (Nat.le_trans hlen hn2) hr hG hF hb fun H hO hS => hsp H a ns hlen hO hS
/-! ### what the head says of a module -/
def plainB : Arguments → Bool
  | ⟨[], _, none, [], [], none, []⟩ => true
  | _ => false
theorem plain_of {a : Arguments} (h : plainB a = true) : a = plainArgs a.args := by
  unfold plainB at h
  split at h
  · rfl
  · cases h
def defD (s : Stmt) : Option He.DefD := match s with
  | .FunctionDef name args body _ _ _ scope _ _ _ => if plainB args then some ⟨(name, none), name, name, args, body, scope, [], []⟩ else none
  | _ => none
def defsOf (P : Program) : List Stmt := P.main.body.filter fun s => (defD s).isSome
def dsOf (P : Program) : List He.DefD := (defsOf P).filterMap defD
def faOf (P : Program) (csl : List (Str × PyData)) : List He.Fa := (dsOf P).map (fun d => He.Fa.glo d.name) ++ (bis.map He.Fa.free ++ csl.map fun q => match q.2 with
  | .int i => He.Fa.int q.1 i
  | .str z => He.Fa.str q.1 z
  | _ => He.Fa.free q.1)
def csOk (csl : List (Str × PyData)) : Bool := csl.all fun q => match q.2 with
  | .int _ => true
  | .str _ => true
  | _ => false
def scB (N : List Str) (ps : List Str) (sc : Scope) : Bool := (match sc.kind with | .function => true | _ => false) && !sc.isCoroutine && !sc.isGenerator && decide N.Nodup && decide (N.take ps.length = ps) &&
  ps.all (fun x => match sc.names.lookup x with | some .local => true | some .cell => true | _ => false) && sc.names.all fun y => match y.2 with | .free => false | _ => true
theorem sc_ok {N ps : List Str} {sc : Scope} (h : scB N ps sc = true) : FnScope N ps sc := by
  unfold scB at h
  simp only [Bool.and_eq_true, Bool.not_eq_true', decide_eq_true_eq, List.all_eq_true] at h
  obtain ⟨⟨⟨⟨⟨⟨h1, h2⟩, h3⟩, h4⟩, h5⟩, h6⟩, h7⟩ := h
  refine ⟨?_, h2, h3, h4, h5, fun x hx => ?_, fun y hy e => ?_⟩
  · split at h1
    · assumption
    · cases h1
  · have := h6 x hx
    split at this
    · exact .inl (by assumption)
    · exact .inr (by assumption)
    · cases this
  · have := h7 y hy
    rw [e] at this
    cases this
def fitB (P : Program) (nms : List (List Str)) (fnl : List (Str × List Bool)) (csl : List (Str × PyData)) : Bool :=
  decide (nms.length = (defsOf P).length) && decide (fnl.map (·.1) = (dsOf P).map (·.name)) && csOk csl && ((dsOf P).zip nms).all fun q => scB q.2 (q.1.params.args.map (·.arg)) q.1.scope
theorem all_fm {α β : Type} {f : α → Option β} : ∀ {l : List α}, (∀ x ∈ l, (f x).isSome = true) → ∀ i : Nat, (l.filterMap f)[i]? = l[i]?.bind f
  | [], _, i => by simp
  | x :: l, h, i => by
    have hx := h x List.mem_cons_self
    obtain ⟨y, hy⟩ := Option.isSome_iff_exists.mp hx
    rw [List.filterMap_cons, hy]
    cases i with
    | zero => simp [hy]
    | succ i => simpa using all_fm (fun x hx => h x (List.mem_cons_of_mem _ hx)) i
theorem ds_get {P : Program} {i : Nat} {d : Stmt} (h : (defsOf P)[i]? = some d) : ∃ e, defD d = some e ∧ (dsOf P)[i]? = some e := by
  have hm : ∀ x ∈ defsOf P, (defD x).isSome = true := fun x hx => (List.mem_filter.mp hx).2
  obtain ⟨e, he⟩ := Option.isSome_iff_exists.mp (hm d (List.mem_of_getElem? h))
  refine ⟨e, he, ?_⟩
  have := all_fm hm i
  rw [h] at this
  unfold dsOf
  rw [this]
  exact he
theorem defD_fn {d : Stmt} {e : He.DefD} (h : defD d = some e) : fnArgs d = some (e.name, e.params.args, e.body, e.scope) ∧ e.params = plainArgs e.params.args ∧ e.qual = e.name ∧ e.at_ = (e.name, none) ∧ e.dfl = [] ∧ e.kwd = [] := by
  unfold defD at h
  split at h
  · split at h
    · rename_i hp
      cases h
      exact ⟨rfl, plain_of hp, rfl, rfl, rfl, rfl⟩
    · cases h
  · cases h
theorem fnIx_get : ∀ {l : List (Str × List Bool)} {x : Str} {i : Nat} {fl : List Bool}, fnIx l x = some (i, fl) → (l.map (·.1))[i]? = some x
  | [], x, i, fl, h => by cases h
  | y :: r, x, i, fl, h => by
    unfold fnIx at h
    split at h
    · rename_i e
      cases h
      rw [← e]
      rfl
    · obtain ⟨q, e1, e2⟩ := Option.map_eq_some_iff.mp h
      cases e2
      have := fnIx_get (i := q.1) (fl := q.2) e1
      simpa using this
theorem cs_mem {α : Type} : ∀ {l : List (Str × α)} {x : Str} {d : α}, l.lookup x = some d → (x, d) ∈ l
  | (k, v) :: r, x, d, h => by
    rw [List.lookup_cons] at h
    cases hb : x == k with
    | true =>
      rw [hb] at h
      cases h
      rw [eq_of_beq hb]
      exact List.mem_cons_self
    | false =>
      rw [hb] at h
      exact List.mem_cons_of_mem _ (cs_mem h)
theorem modu_of {P : Program} {w : World} {K : Fr} {h : Heap} {mg : Str → Option Value} {nms : List (List Str)} {fnl : List (Str × List Bool)} {csl : List (Str × PyData)} {tab : List Fn} (c : He.SaysD (faOf P csl) (dsOf P) K) (X : K.In h) (G : h.Ns mainGlobals mg)
    (hc : ((defsOf P).zip nms).map (fun q => cFn q.2 fnl csl q.1) = tab.map some) (hf : fitB P nms fnl csl = true) : Modu P w K mg (defsOf P) nms fnl csl tab := by
  unfold fitB at hf
  simp only [Bool.and_eq_true, decide_eq_true_eq] at hf
  obtain ⟨⟨⟨f1, f2⟩, f3⟩, f4⟩ := hf
  have facts : ∀ f ∈ faOf P csl, f.ok K = true := fun f hf => by
    obtain ⟨i, hi, e⟩ := List.getElem_of_mem hf
    exact c.fact i (f := f) (by rw [List.getElem?_eq_getElem hi, e])
  refine ⟨hc, f1, fun x i fl hx => ?_, fun i d x as b sc hd ha => ?_, fun i d N x as b sc hd hN ha => ?_, fun x hx => ?_, fun x d hx => ?_⟩
  · have e := fnIx_get hx
    rw [f2, List.getElem?_map] at e
    obtain ⟨q, e1, e2⟩ := Option.map_eq_some_iff.mp e
    have hi : i < (defsOf P).length := by
      have := (List.getElem?_eq_some_iff.mp e1).1
      unfold dsOf at this
      exact Nat.lt_of_lt_of_le this (List.length_filterMap_le _ _)
    obtain ⟨e3, h3, h4⟩ := ds_get (List.getElem?_eq_getElem hi)
    rw [e1] at h4
    cases h4
    obtain ⟨z, _⟩ := defD_fn h3
    rw [e2] at z
    exact ⟨_, List.getElem?_eq_getElem hi, _, _, _, z⟩
  · obtain ⟨e, h1, h2⟩ := ds_get hd
    obtain ⟨z, z2, z3, z4, z5, z6⟩ := defD_fn h1
    rw [ha] at z
    cases z
    obtain ⟨fd, F⟩ := c.def_ i h2
    have m := He.glo_ok X G (facts (.glo e.name) (List.mem_append_left _ (List.mem_map.mpr ⟨e, List.mem_of_getElem? h2, rfl⟩)))
    refine ⟨_, fd, ?_, m⟩
    have g : He.fAd K e.at_ = He.ga K e.name := by rw [z4]; rfl
    rw [g] at F
    unfold He.DefD.dvs He.DefD.kws at F
    rw [z3, z5, z6, z2] at F
    exact F
  · obtain ⟨e, h1, h2⟩ := ds_get hd
    obtain ⟨z, z2, _⟩ := defD_fn h1
    rw [ha] at z
    cases z
    have := List.all_eq_true.mp f4 (e, N) (List.mem_of_getElem? (i := i) (by rw [List.getElem?_zip_eq_some]; exact ⟨h2, hN⟩))
    exact sc_ok this
  · exact He.free_ok X G (facts (.free x) (List.mem_append_right _ (List.mem_append_left _ (List.mem_map.mpr ⟨x, hx, rfl⟩))))
  · have hm := cs_mem hx
    have f := facts _ (List.mem_append_right _ (List.mem_append_right _ (List.mem_map.mpr ⟨(x, d), hm, rfl⟩)))
    unfold csOk at f3
    have f5 := List.all_eq_true.mp f3 (x, d) hm
    cases d with
    | int i =>
      obtain ⟨t, e⟩ := He.int_ok X G f
      exact ⟨_, .int i, e, ⟨t, rfl⟩, fun H => .of_int i⟩
    | str z =>
      obtain ⟨t, e⟩ := He.str_ok X G f
      exact ⟨_, .str z, e, ⟨t, rfl⟩, fun H => .of_str z⟩
    | _ => cases f5
/-- the law's def, called on a script -/
theorem law_F {P : Program} {w : World} {K : Fr} {h : Heap} {mg : Str → Option Value} {nms : List (List Str)} {fnl : List (Str × List Bool)} {csl : List (Str × PyData)} {tab : List Fn} {k i n : Nat} {d : Stmt} {fa : Addr} {x : Str} {ps : Str} {as : List PySem.Arg} {b : List Stmt} {sc : Scope}
    (c : He.SaysD (faOf P csl) (dsOf P) K) (X : K.In h) (G : h.Ns mainGlobals mg) (hc : ((defsOf P).zip nms).map (fun q => cFn q.2 fnl csl q.1) = tab.map some) (hf : fitB P nms fnl csl = true) (hd : (defsOf P)[i]? = some d) (ha : fnArgs d = some (x, as, b, sc)) (hp : as.map (·.arg) = [ps])
    (hm : mg x = some (.ref fa)) (math : ∀ ns : List Int, ns.length ≤ n → ∃ outs, callF tab k i [.p (.list (ns.map .int))] = .ok (pB true) outs) :
    ∃ (fd : FuncData) (sp : SpG), (∀ (s : Shared) (u : Value), BindsTo s fd ⟨[u], []⟩ [(ps, u)]) ∧ (∀ (H : Hp) (a : Addr) (ns : List Int), ns.length ≤ n → Only H → SqL K H a (ns.map V.int) → sp [.ref a] H fun v _ => v = .bl true) ∧
      ∀ base : Heap, K.In base → base.Ns mainGlobals mg → FnG P w K mg base k fa fd [ps] sp := by
  have M : Modu P w K mg (defsOf P) nms fnl csl tab := modu_of c X G hc hf
  obtain ⟨f, fd, F, m⟩ := M.fun_ i d x as b sc hd ha
  rw [hm] at m
  cases m
  have nd : (as.map (·.arg)).Nodup := by rw [hp]; simp
  refine ⟨fd, spF K (callF tab k) i, fun s u => ?_, fun H a ns hl hO hS => ?_, fun base _ _ => ?_⟩
  · have := FunD.bind F nd [u] (by rw [hp]; rfl)
    rw [hp] at this
    exact .of_eq this
  · obtain ⟨outs, e⟩ := math ns hl
    refine ⟨[.p (.list (ns.map .int))], [], pB true, outs, ?_, rfl, e, fun v H' hs => (hs.head_p).bool⟩
    refine Sep.cons_p (.of_list ?_ (reps_of_ints ns)) Sep.nil
    rcases hS with (q | q) | q
    · rcases hO a with z | ⟨o, xs, z⟩ <;> rw [q] at z <;> cases z
    · exact .inl q
    · exact .inr (.inr q)
  · have := level M k base i d x as b sc fa fd hd ha F
    rw [hp] at this
    exact this
end Dl

set_option Elab.async false
set_option linter.all false
set_option maxRecDepth 100000
/-! data that is small -/
namespace Dl
open PySem
/-- n levels, weight w at most; all ints below 2 ^ 64 -/
structure Sml (n w : Nat) (d : PyData) : Prop where
  lay : d.canLay0 = true
  leaf : d.leavesShort 66 = true
  show_ : d.showable = true
  dep : d.depth ≤ n
  wt : d.weight ≤ w
theorem Sml.mono {n w n' w' : Nat} {d : PyData} (h : Sml n w d) (hn : n ≤ n') (hw : w ≤ w') : Sml n' w' d := ⟨h.lay, h.leaf, h.show_, Nat.le_trans h.dep hn, Nat.le_trans h.wt hw⟩
theorem sml_int {i : Int} (h : -(2 ^ 64) < i) (h' : i < 2 ^ 64) : Sml 0 65 (.int i) := by
  have hl : i.natAbs.log2 < 64 := by
    by_cases z : i.natAbs = 0
    · rw [z]; decide
    · exact (Nat.log2_lt z).mpr (by omega)
  refine ⟨by simp [PyData.canLay0], ?_, by simp [PyData.showable]; omega, by simp [PyData.depth], ?_⟩
  · unfold PyData.leavesShort
    have := int_text_length_le (a := i) (k := 64) (by omega) hl
    simp only [PyData.shown, decide_eq_true_eq]
    have e : (Str.ofString (toString i)).length ≤ 65 := by
      rw [ofString_length]
      exact this
    exact decide_eq_true (Nat.le_trans e (show (65 : Nat) ≤ 66 by decide))
  · unfold PyData.weight
    split <;> omega
theorem sml_none : Sml 0 1 .none := ⟨rfl, rfl, rfl, Nat.le_refl _, by decide⟩
theorem sml_bool (b : Bool) : Sml 0 1 (.bool b) := ⟨rfl, rfl, rfl, Nat.le_refl _, by simp [PyData.weight]⟩
theorem sml_all {n w : Nat} : ∀ {xs : List PyData}, (∀ x ∈ xs, Sml n w x) → PyData.canLayAll0 xs = true ∧ PyData.leavesShortAll 66 xs = true ∧ PyData.showableAll xs = true ∧ PyData.depthAll xs ≤ n ∧ PyData.weightAll xs ≤ xs.length * (w + 1)
  | [], _ => ⟨by simp [PyData.canLayAll0], by simp [PyData.leavesShortAll], by simp [PyData.showableAll], by simp [PyData.depthAll], by simp [PyData.weightAll]⟩
  | x :: xs, h => by
    obtain ⟨a1, a2, a3, a4, a5⟩ := h x List.mem_cons_self
    obtain ⟨b1, b2, b3, b4, b5⟩ := sml_all fun y hy => h y (List.mem_cons_of_mem _ hy)
    refine ⟨by simp [PyData.canLayAll0, a1, b1], by simp [PyData.leavesShortAll, a2, b2], by simp [PyData.showableAll, a3, b3], by simp [PyData.depthAll]; omega, ?_⟩
    simp only [PyData.weightAll, List.length_cons]
    rw [Nat.add_mul]
    omega
theorem sml_tup {n w : Nat} {xs : List PyData} (h : ∀ x ∈ xs, Sml n w x) : Sml (n + 1) (xs.length * (w + 1)) (.tuple xs) := by
  obtain ⟨b1, b2, b3, b4, b5⟩ := sml_all h
  exact ⟨by simp [PyData.canLay0, b1], by simp [PyData.leavesShort, b2], by simp [PyData.showable, b3], by simp [PyData.depth]; omega, by simp [PyData.weight]; omega⟩
theorem sml_lst {n w : Nat} {xs : List PyData} (h : ∀ x ∈ xs, Sml n w x) : Sml (n + 1) (xs.length * (w + 1)) (.list xs) := by
  obtain ⟨b1, b2, b3, b4, b5⟩ := sml_all h
  exact ⟨by simp [PyData.canLay0, b1], by simp [PyData.leavesShort, b2], by simp [PyData.showable, b3], by simp [PyData.depth]; omega, by simp [PyData.weight]; omega⟩
theorem Sml.repr {n w : Nat} {d : PyData} (h : Sml n w d) (hn : n ≤ 64) (hw : w ≤ 240000) : reprOk d = true := by
  have e := PyData.shown_le 66 (by omega) d h.leaf
  have h1 := h.wt
  have h2 := h.dep
  have hz : sizeLine = 16777216 := rfl
  unfold reprOk
  simp only [Bool.and_eq_true, decide_eq_true_eq, Bool.not_eq_true']
  refine ⟨⟨⟨h.show_, PyData.hasDict_of_canLay d h.lay⟩, by omega⟩, ?_⟩
  rw [hz]
  omega
theorem Sml.shp {n w : Nat} {d : PyData} (h : Sml n w d) (hn : n ≤ 64) : shp d = true := by
  show (d.canLay0 && decide (d.depth ≤ 64)) = true
  have := h.dep
  simp [h.lay]
  omega
/-- lists of any ints -/
theorem shp_ints (xs : List Int) : shp (.list (xs.map .int)) = true := by
  have key : ∀ xs : List Int, PyData.canLayAll0 (xs.map .int) = true ∧ PyData.depthAll (xs.map .int) = 0 := by
    intro xs
    induction xs with
    | nil => exact ⟨by simp [PyData.canLayAll0], by simp [PyData.depthAll]⟩
    | cons x xs ih => exact ⟨by simp [PyData.canLayAll0, PyData.canLay0, ih.1], by simp [PyData.depthAll, PyData.depth, ih.2]⟩
  show ((PyData.list (xs.map .int)).canLay0 && decide ((PyData.list (xs.map .int)).depth ≤ 64)) = true
  simp [PyData.canLay0, PyData.depth, (key xs).1, (key xs).2]
/-- == of data tells whether they are alike, where no bool meets an int -/
theorem eqv_ints : ∀ (xs ys : List Int), PyData.eqvAll (xs.map .int) (ys.map .int) = decide (xs = ys)
  | [], [] => rfl
  | [], y :: ys => rfl
  | x :: xs, [] => rfl
  | x :: xs, y :: ys => by
    simp only [List.map_cons, PyData.eqvAll, PyData.eqv, eqv_ints xs ys, List.cons.injEq]
    by_cases h : x = y <;> simp [h]
theorem eqv_str (x y : Str) : PyData.eqv (.str x) (.str y) = (x == y) := by simp [PyData.eqv]
/-! ### reading and cutting -/
theorem atP_nat {xs : List PyData} {j : Nat} {d : PyData} (h : xs[j]? = some d) : atP xs (j : Int) = some d := by
  have hj := (List.getElem?_eq_some_iff.mp h).1
  unfold atP L2.ixN
  rw [if_pos (by omega), if_pos (by omega)]
  simpa using h
theorem atP_pos {xs : List PyData} {i : Int} (h0 : 0 ≤ i) : atP xs i = xs[i.toNat]? := by
  unfold atP L2.ixN
  rw [if_pos h0]
  split
  · rfl
  · rename_i h
    have : xs[i.toNat]? = none := List.getElem?_eq_none (by omega)
    rw [this]; rfl
theorem atP0 (w : PyData) (r : List PyData) : atP (w :: r) 0 = some w := atP_nat (j := 0) rfl
theorem atP1 (w x : PyData) (r : List PyData) : atP (w :: x :: r) 1 = some x := atP_nat (j := 1) rfl
theorem atP2 (w x y : PyData) (r : List PyData) : atP (w :: x :: y :: r) 2 = some y := atP_nat (j := 2) rfl
theorem atP3 (w x y z : PyData) (r : List PyData) : atP (w :: x :: y :: z :: r) 3 = some z := atP_nat (j := 3) rfl
theorem atP_int {xs : List Int} {i : Int} (h0 : 0 ≤ i) (h1 : i < xs.length) : ∃ v ∈ xs, atP (xs.map .int) i = some (.int v) := by
  rw [atP_pos h0]
  have h : i.toNat < xs.length := by omega
  exact ⟨xs[i.toNat], List.getElem_mem h, by simp [h]⟩
theorem powOk_of {i : Int} {j : Nat} (h : i.natAbs < 2 ^ 64) (hj : j ≤ 1000000) : powOk i j = true := by
  unfold powOk; simp; omega
theorem mulOk_of {i j : Int} (h : -(2 ^ 64) < i) (h' : i < 2 ^ 64) : mulOk i j = true := by
  unfold mulOk; simp; omega
theorem log_of {m : Int} (h : 0 < m) (h2 : m ≤ 2 ^ 62) : m.natAbs.log2 < 9000 := by
  have : m.natAbs < 2 ^ 63 := by omega
  have := (Nat.log2_lt (by omega)).mpr this
  omega
/-! ### loops -/
/-- a comprehension whose turns change nothing -/
theorem lc_pure {own : List Nat} {asg : PyData → Env → Option Env} {cnd : Env → Res Bool} {elt : Env → Res PyData} {R : Env → Prop} {p : PyData → Bool} {g : PyData → PyData} :
    ∀ {xs : List PyData}, (∀ x ∈ xs, ∀ r, R r → ∃ r1, asg x (wipeE r own) = some r1 ∧ cnd r1 = .ok (p x) r1 ∧ R r1 ∧ (p x = true → elt r1 = .ok (g x) r1)) → ∀ {r : Env}, R r → ∃ r', R r' ∧ lcLoop own asg cnd elt xs r = .ok ((xs.filter p).map g) r'
  | [], _, r, h => ⟨r, h, rfl⟩
  | x :: xs, hx, r, h => by
    obtain ⟨r1, e1, e2, e3, e4⟩ := hx x List.mem_cons_self r h
    have tl := lc_pure (xs := xs) (fun y hy => hx y (List.mem_cons_of_mem _ hy)) e3
    obtain ⟨r', e5, e6⟩ := tl
    refine ⟨r', e5, ?_⟩
    unfold lcLoop
    rw [e1]
    simp only [e2, Res.bind]
    cases hp : p x with
    | true =>
      simp only [if_true, e4 hp, e6, List.filter_cons, hp, List.map_cons]
    | false =>
      simp only [Bool.false_eq_true, if_false, e6, List.filter_cons, hp]
theorem lc_img {α : Type} {own : List Nat} {asg : PyData → Env → Option Env} {cnd : Env → Res Bool} {elt : Env → Res PyData} {R : Env → Prop} {h : α → PyData} {p : α → Bool} {g : α → PyData} :
    ∀ {ys : List α}, (∀ y ∈ ys, ∀ r, R r → ∃ r1, asg (h y) (wipeE r own) = some r1 ∧ cnd r1 = .ok (p y) r1 ∧ R r1 ∧ (p y = true → elt r1 = .ok (g y) r1)) → ∀ {r : Env}, R r → ∃ r', R r' ∧ lcLoop own asg cnd elt (ys.map h) r = .ok ((ys.filter p).map g) r'
  | [], _, r, hr => ⟨r, hr, rfl⟩
  | y :: ys, hx, r, hr => by
    obtain ⟨r1, e1, e2, e3, e4⟩ := hx y List.mem_cons_self r hr
    obtain ⟨r', e5, e6⟩ := lc_img (ys := ys) (fun y hy => hx y (List.mem_cons_of_mem _ hy)) e3
    refine ⟨r', e5, ?_⟩
    rw [List.map_cons]
    unfold lcLoop
    rw [e1]
    simp only [e2, Res.bind]
    cases hp : p y with
    | true => simp only [if_true, e4 hp, e6, List.filter_cons, hp, List.map_cons]
    | false => simp only [Bool.false_eq_true, if_false, e6, List.filter_cons, hp]
/-- a comprehension whose turns change what is around: S by the turn -/
theorem lc_st {α : Type} {own : List Nat} {asg : PyData → Env → Option Env} {elt : Env → Res PyData} {cnd : Env → Res Bool} {S : Nat → Env → Prop} {h : α → PyData} {Y : PyData → Prop} :
    ∀ {ys : List α} {i : Nat}, (∀ y ∈ ys, ∀ j r, i ≤ j → j < i + ys.length → S j r → ∃ r1 d r2, asg (h y) (wipeE r own) = some r1 ∧ cnd r1 = .ok true r1 ∧ elt r1 = .ok d r2 ∧ Y d ∧ S (j + 1) r2) → ∀ {r : Env}, S i r →
      ∃ ds r', ds.length = ys.length ∧ (∀ d ∈ ds, Y d) ∧ S (i + ys.length) r' ∧ lcLoop own asg cnd elt (ys.map h) r = .ok ds r'
  | [], i, _, r, hr => ⟨[], r, rfl, (fun d hd => by cases hd), hr, rfl⟩
  | y :: ys, i, hx, r, hr => by
    obtain ⟨r1, d, r2, e1, e2, e3, e4, e5⟩ := hx y List.mem_cons_self i r (Nat.le_refl _) (by simp) hr
    obtain ⟨ds, r', f1, f2, f3, f4⟩ := lc_st (ys := ys) (i := i + 1) (fun z hz j r h1 h2 h3 => hx z (List.mem_cons_of_mem _ hz) j r (by omega) (by simp; omega) h3) e5
    refine ⟨d :: ds, r', by simp [f1], fun x hx => ?_, by simpa [Nat.add_assoc, Nat.add_comm 1] using f3, ?_⟩
    · rcases List.mem_cons.mp hx with rfl | hx
      · exact e4
      · exact f2 x hx
    · rw [List.map_cons]
      unfold lcLoop
      rw [e1]
      simp only [e2, Res.bind, if_true, e3, f4]
/-- a for whose turns go on: S by the turn -/
theorem for_st {α : Type} {asg : PyData → Env → Option Env} {body : Env → Out} {S : Nat → Env → Prop} {h : α → PyData} :
    ∀ {ys : List α} {i : Nat}, (∀ y ∈ ys, ∀ j r, i ≤ j → j < i + ys.length → S j r → ∃ r1 r2, asg (h y) r = some r1 ∧ (body r1 = .nx r2 ∨ body r1 = .ct r2) ∧ S (j + 1) r2) → ∀ {r : Env}, S i r →
      ∃ r', S (i + ys.length) r' ∧ forLoop asg body (ys.map h) r = .nx r'
  | [], i, _, r, hr => ⟨r, hr, rfl⟩
  | y :: ys, i, hx, r, hr => by
    obtain ⟨r1, r2, e1, e2, e3⟩ := hx y List.mem_cons_self i r (Nat.le_refl _) (by simp) hr
    obtain ⟨r', f1, f2⟩ := for_st (ys := ys) (i := i + 1) (fun z hz j r h1 h2 h3 => hx z (List.mem_cons_of_mem _ hz) j r (by omega) (by simp; omega) h3) e3
    refine ⟨r', by simpa [Nat.add_assoc, Nat.add_comm 1] using f1, ?_⟩
    rw [List.map_cons]
    unfold forLoop
    rw [e1]
    rcases e2 with e2 | e2 <;> simp only [e2, f2]
/-- a while by a measure -/
theorem wh_st {cnd : Env → Res Bool} {body : Env → Out} {S : Nat → Env → Prop} {E : Env → Prop} (step : ∀ n r, S n r → (∃ r1, cnd r = .ok false r1 ∧ E r1) ∨ (∃ r1 r2 m, cnd r = .ok true r1 ∧ body r1 = .nx r2 ∧ m < n ∧ S m r2)) :
    ∀ (fuel n : Nat) (r : Env), n < fuel → S n r → ∃ r', E r' ∧ whLoop cnd body fuel r = .nx r'
  | 0, n, r, h, _ => absurd h (Nat.not_lt_zero _)
  | fuel + 1, n, r, h, hs => by
    rcases step n r hs with ⟨r1, e1, e2⟩ | ⟨r1, r2, m, e1, e2, e3, e4⟩
    · refine ⟨r1, e2, ?_⟩
      unfold whLoop
      rw [e1]
      rfl
    · obtain ⟨r', f1, f2⟩ := wh_st step fuel m r2 (by omega) e4
      refine ⟨r', f1, ?_⟩
      unfold whLoop
      rw [e1]
      simp only [Res.out, if_true, e2, f2]
theorem cut_from (xs : List PyData) (i : Nat) : cutP xs (some (i : Int)) none = xs.drop i := by
  unfold cutP
  rw [HT.sIx_nat, HT.sIx_none]
  by_cases h : i ≤ xs.length
  · rw [Nat.min_eq_left h, List.take_of_length_le (by simp)]
  · rw [Nat.min_eq_right (by omega), List.drop_eq_nil_of_le (by omega), List.drop_eq_nil_of_le (by omega)]
    simp
theorem cut_to (xs : List PyData) (i : Nat) : cutP xs none (some (i : Int)) = xs.take i := by
  unfold cutP
  rw [HT.sIx_nat, HT.sIx_none]
  simp only [List.drop_zero, Nat.sub_zero]
  by_cases h : i ≤ xs.length
  · rw [Nat.min_eq_left h]
  · rw [Nat.min_eq_right (by omega), List.take_of_length_le (by omega), List.take_of_length_le (by omega)]
theorem ints_of (ns : List Int) : intsOf (ns.map .int) = some ns := by
  induction ns with
  | nil => rfl
  | cons n ns ih => simp [intsOf, ih]
theorem zip_pairs (l m : List Int) : zipP (l.map .int) (m.map .int) = (List.zip l m).map pairI := by
  unfold zipP
  induction l generalizing m with
  | nil => simp
  | cons x l ih => cases m with
    | nil => simp
    | cons y m => simp [pairI, ih]
theorem rng_map (n : Nat) : rngL 0 (n : Int) = (List.range n).map fun i => PyData.int (i : Nat) := by
  unfold rngL
  simp
theorem rngOk_of {n : Nat} (h : n ≤ sizeLine) : rngOk 0 (n : Int) = true := by
  have : sizeLine = 16777216 := rfl
  unfold rngOk
  simp only [decide_eq_true_eq]
  omega
section
variable (C : CS) (r : Env)
theorem ev_var (i : Nat) : evE C (.var i) r = escS i r := rfl
theorem ev_c (d : PyData) : evE C (.c d) r = .ok (.p d) r := rfl
theorem ev_tup (es : List Ex) : evE C (.tup es) r = (evEs C es r).bind fun ds r1 => if ds.length ≤ sizeLine then .ok (.p (.tuple ds)) r1 else .bad := rfl
theorem ev_lst (es : List Ex) : evE C (.lst es) r = (evEs C es r).bind fun ds r1 => if ds.length ≤ sizeLine then .ok (.o (.list ds)) r1 else .bad := rfl
theorem ev_bop (op : Op) (a b : Ex) : evE C (.bin op a b) r = bin2 (opnd a (evE C a)) (opnd b (evE C b)) (binD op) r := rfl
theorem ev_neg (a : Ex) : evE C (.neg a) r = un1 (opnd a (evE C a)) negD r := rfl
theorem ev_not (a : Ex) : evE C (.not a) r = (boolR (evE C a r)).bind fun b r1 => .ok (pB (!b)) r1 := rfl
theorem ev_cmp (op : Cm) (a b : Ex) : evE C (.cmp op a b) r = bin2 (opnd a (evE C a)) (opnd b (evE C b)) (cmpB op) r := rfl
theorem ev_ch (o1 o2 : Cm) (a b c : Ex) : evE C (.ch o1 o2 a b c) r = chain3 (opnd a (evE C a)) (opnd b (evE C b)) (opnd c (evE C c)) (cmpD o1) (cmpD o2) r := rfl
theorem ev_and (a b : Ex) : evE C (.and a b) r = (boolR (evE C a r)).bind fun k r1 => if k then evE C b r1 else .ok (pB false) r1 := rfl
theorem ev_or (a b : Ex) : evE C (.or a b) r = (boolR (evE C a r)).bind fun k r1 => if k then .ok (pB true) r1 else evE C b r1 := rfl
theorem ev_ite (c a b : Ex) : evE C (.ite c a b) r = (boolR (evE C c r)).bind fun k r1 => if k then evE C a r1 else evE C b r1 := rfl
theorem ev_idx (a i : Ex) : evE C (.idx a i) r = bin2 (opnd a (evE C a)) (opnd i (evE C i)) idxB r := rfl
theorem ev_slF (a i : Ex) : evE C (.slF a i) r = bin2 (opnd a (evE C a)) (opnd i (evE C i)) slFD r := rfl
theorem ev_slT (a i : Ex) : evE C (.slT a i) r = bin2 (opnd a (evE C a)) (opnd i (evE C i)) slTD r := rfl
theorem ev_slB (a i j : Ex) : evE C (.slB a i j) r = sl3 (opnd a (evE C a)) (opnd i (evE C i)) (opnd j (evE C j)) r := rfl
theorem ev_rev (a : Ex) : evE C (.rev a) r = un1 (opnd a (evE C a)) revD r := rfl
theorem ev_call (f : Nat) (es : List Ex) : evE C (.call f es) r = (evAs C es r).bind fun as r1 => doCall C f as r1 := rfl
theorem ev_bi (b : Bi) (es : List Ex) : evE C (.bi b es) r = (evAs C es r).bind fun as r1 => match datsOf r1 as with
    | some ds => ofO (biD b ds) r1
    | none => .bad := rfl
theorem ev_isT (a : Ex) (t : Ty) : evE C (.isT a t) r = un1 (opnd a (evE C a)) (fun d => some (pB (isTy d t))) r := rfl
theorem ev_inR (n : Bool) (a b c : Ex) : evE C (.inR n a b c) r = tri3 (opnd a (evE C a)) (opnd b (evE C b)) (opnd c (evE C c)) (inRD n) r := rfl
theorem ev_esc (e : Ex) : evE C (.esc e) r = evE C e r := rfl
theorem ev_lc (elt : Ex) (own : List Nat) (tg : Tg) (it : It) (c : Ex) : evE C (.lc elt own tg it c) r = (evI C it r).bind fun xs r1 => (lcLoop own (asgT [] tg) (fun r => boolR (evE C c r)) (fun r => datR (evE C elt r)) xs r1).bind fun ds r2 => .ok (.o (.list ds)) (wipeE r2 own) := rfl
variable (np : Nat) (lk : List Nat)
theorem es_asg (i : Nat) (e : Ex) : evS C np lk (.asg i e) r = asgS lk i (evE C e) r := rfl
theorem es_unp (ts : List Tg) (e : Ex) : evS C np lk (.unp ts e) r = unpS lk ts (fun r => datR (evE C e r)) r := rfl
theorem es_par (is : List Nat) (es : List Ex) : evS C np lk (.par is es) r = parS lk is (evDs C es) r := rfl
theorem es_setI (i : Nat) (ix e : Ex) : evS C np lk (.setI i ix e) r = setIS i (opnd ix (evE C ix)) (fun r => datR (evE C e r)) r := rfl
theorem es_exp (e : Ex) : evS C np lk (.exp e) r = expS (evE C e) r := rfl
theorem es_app (i : Nat) (e : Ex) : evS C np lk (.app i e) r = appS i (fun r => datR (evE C e r)) r := rfl
theorem es_ext (i : Nat) (e : Ex) : evS C np lk (.ext i e) r = extS i (evE C e) r := rfl
theorem es_ret (e : Ex) : evS C np lk (.ret e) r = retS (retE C np e) r := rfl
theorem es_retN : evS C np lk .retN r = .rt (.p .none) r := rfl
theorem es_ifs (c : Ex) (a b : List St) : evS C np lk (.ifs c a b) r = ifS (fun r => boolR (evE C c r)) (fun r => evSs C np lk a r) (fun r => evSs C np lk b r) r := rfl
theorem es_for (t : Tg) (it : It) (b : List St) : evS C np lk (.for_ t it b) r = (evI C it r).out fun xs r1 => forLoop (asgT lk t) (fun r => evSs C np lk b r) xs r1 := rfl
theorem es_whl (c : Ex) (b : List St) : evS C np lk (.whl c b) r = whLoop (fun r => boolR (evE C c r)) (fun r => evSs C np lk b r) wfuel r := rfl
theorem es_pass : evS C np lk .pass r = .nx r := rfl
theorem es_cont : evS C np lk .cont r = .ct r := rfl
end
end Dl

set_option linter.all false
set_option maxRecDepth 100000
/-! texts of shown data are laid -/
namespace Dl
open PySem
def okS (x : Str) : Prop := PyData.strOk x = true
theorem okS_app {x y : Str} (h : okS x) (h2 : okS y) : okS (x ++ y) := by
  unfold okS PyData.strOk at *
  show ((x.cps ++ y.cps).all fun c => decide (c < 0x110000)) = true
  rw [Array.all_append, h, h2]
  rfl
theorem okS_of (s : String) : okS (Str.ofString s) := by
  unfold okS PyData.strOk
  rw [Str.ofString_eq_toList]
  simp only [List.all_toArray, List.all_map, List.all_eq_true]
  intro c _
  have h := c.valid
  simp only [UInt32.isValidChar, Nat.isValidChar] at h
  have : c.toNat = c.val.toNat := rfl
  simp only [Function.comp, decide_eq_true_eq]
  omega
theorem okS_from : ∀ (ts : List Str) (k : Nat) (acc : Str), okS acc → (∀ t ∈ ts, okS t) → okS (textFrom k acc ts)
  | [], _, _, h, _ => h
  | t :: ts, k, acc, h, ht => okS_from ts (k + 1) _ (okS_app (okS_app h (okS_of _)) (ht t List.mem_cons_self)) fun x hx => ht x (List.mem_cons_of_mem _ hx)
theorem okS_join : ∀ (ts : List Str), (∀ t ∈ ts, okS t) → okS (Str.join ", " ts)
  | [], _ => by unfold okS Str.join; simp [PyData.strOk, Str.empty]
  | [x], h => h x List.mem_cons_self
  | x :: y :: r, h => okS_app (okS_app (h x List.mem_cons_self) (okS_of ", ")) (okS_join (y :: r) fun z hz => h z (List.mem_cons_of_mem _ hz))
mutual
def noS : PyData → Bool
  | .none | .bool _ | .int _ => true
  | .str _ => false
  | .list xs | .tuple xs => noSs xs
  | .dict _ => false
def noSs : List PyData → Bool
  | [] => true
  | x :: xs => noS x && noSs xs
end
theorem noSs_all : ∀ {xs : List PyData}, (∀ x ∈ xs, noS x = true) → noSs xs = true
  | [], _ => by simp [noSs]
  | x :: xs, h => by simp [noSs, h x List.mem_cons_self, noSs_all fun y hy => h y (List.mem_cons_of_mem _ hy)]
mutual
theorem shown_ok : ∀ d : PyData, noS d = true → okS d.shown
  | .none, _ => by simpa only [PyData.shown] using okS_of "None"
  | .bool b, _ => by
    simp only [PyData.shown]
    cases b
    · exact okS_of "False"
    · exact okS_of "True"
  | .int i, _ => by simp only [PyData.shown]; exact okS_of _
  | .str _, h => by simp [noS] at h
  | .list xs, h => by
    simp only [noS] at h
    simp only [PyData.shown]
    exact okS_app (okS_from _ _ _ (okS_of "[") (shown_oks xs h)) (okS_of "]")
  | .tuple xs, h => by
    simp only [noS] at h
    simp only [PyData.shown]
    exact okS_app (okS_app (okS_of "(") (okS_join _ (shown_oks xs h))) (okS_of _)
  | .dict _, h => by simp [noS] at h
theorem shown_oks : ∀ xs : List PyData, noSs xs = true → ∀ t ∈ PyData.shownAll xs, okS t
  | [], _ => by simp [PyData.shownAll]
  | x :: xs, h => by
    simp only [noSs, Bool.and_eq_true] at h
    intro t ht
    simp only [PyData.shownAll, List.mem_cons] at ht
    rcases ht with rfl | ht
    · exact shown_ok x h.1
    · exact shown_oks xs h.2 t ht
end
theorem noS_ints (l : List Int) : noSs (l.map .int) = true := noSs_all fun x hx => by
  obtain ⟨i, _, rfl⟩ := List.mem_map.mp hx
  simp [noS]
theorem shp_shown {d : PyData} (h : noS d = true) : shp (.str d.shown) = true := by
  have h1 : PyData.strOk d.shown = true := shown_ok d h
  show (PyData.canLay0 (.str d.shown) && decide (PyData.depth (.str d.shown) ≤ 64)) = true
  simp [PyData.canLay0, PyData.depth, h1]
end Dl

set_option Elab.async false
set_option linter.all false
set_option maxRecDepth 100000
/-! what is known of slots; rules that walk through a text -/
namespace Lf
open PySem hiding Env Arg
open Dl
/-- u: nothing; x: this value; w: this data, owned or not -/
inductive Sl where
  | u
  | x (v : D)
  | w (v : PyData)
def SlOk : Sl → Option D → Prop
  | .u, _ => True
  | .x d, o => o = some d
  | .w v, o => o = some (.p v) ∨ o = some (.o v)
abbrev AE := List Sl
def Sat : Env → AE → Prop
  | [], [] => True
  | o :: r, s :: σ => SlOk s o ∧ Sat r σ
  | _, _ => False
def getA : AE → Nat → Sl
  | [], _ => .u
  | s :: _, 0 => s
  | _ :: σ, i + 1 => getA σ i
def setA : AE → Nat → Sl → AE
  | [], _, _ => []
  | _ :: σ, 0, s => s :: σ
  | a :: σ, i + 1, s => a :: setA σ i s
def wipeA (σ : AE) : List Nat → AE
  | [] => σ
  | i :: is => setA (wipeA σ is) i .u
def Sl.dat : Sl → Option PyData
  | .u => none
  | .x e => e.dat
  | .w v => some v
inductive Le : AE → AE → Prop where
  | n : Le [] []
  | u {s : Sl} {σ τ : AE} (h : Le σ τ) : Le (s :: σ) (.u :: τ)
  | s {s : Sl} {σ τ : AE} (h : Le σ τ) : Le (s :: σ) (s :: τ)
  | dp {v : PyData} {σ τ : AE} (h : Le σ τ) : Le (.x (.p v) :: σ) (.w v :: τ)
  | do_ {v : PyData} {σ τ : AE} (h : Le σ τ) : Le (.x (.o v) :: σ) (.w v :: τ)
theorem Le.sat {σ τ : AE} (h : Le σ τ) : ∀ {r : Env}, Sat r σ → Sat r τ := by
  induction h with
  | n => intro r hr; exact hr
  | u h ih => intro r hr; cases r with | nil => exact hr.elim | cons o r => exact ⟨trivial, ih hr.2⟩
  | s h ih => intro r hr; cases r with | nil => exact hr.elim | cons o r => exact ⟨hr.1, ih hr.2⟩
  | dp h ih => intro r hr; cases r with | nil => exact hr.elim | cons o r => exact ⟨.inl hr.1, ih hr.2⟩
  | do_ h ih => intro r hr; cases r with | nil => exact hr.elim | cons o r => exact ⟨.inr hr.1, ih hr.2⟩
theorem Le.refl : ∀ σ : AE, Le σ σ
  | [] => .n
  | _ :: σ => .s (Le.refl σ)
theorem getS_cn (o : Option D) (r : Env) (i : Nat) : getS (o :: r) (i + 1) = getS r i := by simp [getS]
theorem sat_get : ∀ {r : Env} {σ : AE} (i : Nat), Sat r σ → getA σ i ≠ .u → ∃ d, getS r i = some d ∧ SlOk (getA σ i) (some d)
  | [], [], i, _, h => absurd rfl h
  | o :: r, s :: σ, 0, hr, h => by
    have h1 := hr.1
    cases s with
    | u => exact absurd rfl h
    | x d => exact ⟨d, by unfold SlOk at h1; subst h1; rfl, rfl⟩
    | w v => rcases h1 with rfl | rfl; exact ⟨_, rfl, .inl rfl⟩; exact ⟨_, rfl, .inr rfl⟩
  | o :: r, s :: σ, i + 1, hr, h => by
    obtain ⟨d, h1, h2⟩ := sat_get (r := r) (σ := σ) i hr.2 h
    exact ⟨d, by rw [getS_cn]; exact h1, h2⟩
  | [], _ :: _, _, hr, _ => hr.elim
  | _ :: _, [], _, hr, _ => hr.elim
theorem sat_set : ∀ {r : Env} {σ : AE} (i : Nat) {o : Option D} {s : Sl}, Sat r σ → SlOk s o → Sat (r.set i o) (setA σ i s)
  | [], [], i, _, _, _, _ => trivial
  | a :: r, b :: σ, 0, _, _, hr, h => ⟨h, hr.2⟩
  | a :: r, b :: σ, i + 1, _, _, hr, h => ⟨hr.1, sat_set i hr.2 h⟩
  | [], _ :: _, _, _, _, hr, _ => hr.elim
  | _ :: _, [], _, _, _, hr, _ => hr.elim
theorem sat_u : ∀ {r : Env} {σ : AE} (i : Nat), Sat r σ → Sat r (setA σ i .u)
  | [], [], _, _ => trivial
  | a :: r, b :: σ, 0, hr => ⟨trivial, hr.2⟩
  | a :: r, b :: σ, i + 1, hr => ⟨hr.1, sat_u i hr.2⟩
  | [], _ :: _, _, hr => hr.elim
  | _ :: _, [], _, hr => hr.elim
theorem sat_wipe : ∀ {r : Env} {σ : AE} (is : List Nat), Sat r σ → Sat (wipeE r is) (wipeA σ is)
  | _, _, [], h => h
  | _, _, i :: is, h => sat_set i (sat_wipe is h) trivial
theorem sat_wipe_u : ∀ {r : Env} {σ : AE} (is : List Nat), Sat r σ → Sat r (wipeA σ is)
  | _, _, [], h => h
  | _, _, i :: is, h => sat_u i (sat_wipe_u is h)
theorem slok_dat {s : Sl} {d : D} {v : PyData} (h : SlOk s (some d)) (hv : s.dat = some v) : d.dat = some v := by
  cases s with
  | u => cases hv
  | x e => cases h; exact hv
  | w y => cases hv; rcases h with h | h <;> (cases h; rfl)
theorem dat_ne {σ : AE} {i : Nat} {v : PyData} (h : (getA σ i).dat = some v) : getA σ i ≠ .u := by
  intro e; rw [e] at h; cases h
theorem sat_dat {r : Env} {σ : AE} {i : Nat} {v : PyData} (hr : Sat r σ) (h : (getA σ i).dat = some v) : ∃ d, getS r i = some d ∧ d.dat = some v := by
  obtain ⟨d, h1, h2⟩ := sat_get i hr (dat_ne h)
  exact ⟨d, h1, slok_dat h2 h⟩
theorem sat_x {r : Env} {σ : AE} {i : Nat} {d : D} (hr : Sat r σ) (h : getA σ i = .x d) : getS r i = some d := by
  obtain ⟨e, h1, h2⟩ := sat_get i hr (by rw [h]; exact fun e => by cases e)
  rw [h] at h2
  cases h2
  exact h1
/-! ### triples -/
def Ev (C : CS) (σ : AE) (e : Ex) (s : Sl) (σ' : AE) : Prop := ∀ r, Sat r σ → ∃ d r', evE C e r = .ok d r' ∧ SlOk s (some d) ∧ Sat r' σ'
def EvEs (C : CS) (σ : AE) (es : List Ex) (vs : List PyData) (σ' : AE) : Prop := ∀ r, Sat r σ → ∃ r', evEs C es r = .ok vs r' ∧ Sat r' σ'
def EvI (C : CS) (σ : AE) (it : It) (vs : List PyData) (σ' : AE) : Prop := ∀ r, Sat r σ → ∃ r', evI C it r = .ok vs r' ∧ Sat r' σ'
inductive SArg where
  | s (i : Nat)
  | t (q : Sl)
def AOk : SArg → Arg → Prop
  | .s i, a => a = .s i
  | .t q, a => ∃ d, a = .t d ∧ SlOk q (some d)
def AsOk : List SArg → List Arg → Prop
  | [], [] => True
  | a :: as, b :: bs => AOk a b ∧ AsOk as bs
  | _, _ => False
def SArg.dat (σ : AE) : SArg → Option PyData
  | .s i => (getA σ i).dat
  | .t q => q.dat
theorem aok_dat {σ : AE} {r : Env} {a : SArg} {b : Arg} {v : PyData} (hr : Sat r σ) (h : AOk a b) (hv : a.dat σ = some v) : b.dat r = some v := by
  cases a with
  | s i =>
    cases h
    obtain ⟨d, h1, h2⟩ := sat_dat hr hv
    show (getS r i).bind D.dat = some v
    rw [h1]; exact h2
  | t s =>
    obtain ⟨d, rfl, h2⟩ := h
    exact slok_dat h2 hv
def OpV (C : CS) (σ : AE) (e : Ex) (a : SArg) (σ' : AE) : Prop := ∀ r, Sat r σ → ∃ b r', opnd e (evE C e) r = .ok b r' ∧ AOk a b ∧ Sat r' σ'
def EvAs (C : CS) (σ : AE) (es : List Ex) (as : List SArg) (σ' : AE) : Prop := ∀ r, Sat r σ → ∃ bs r', evAs C es r = .ok bs r' ∧ AsOk as bs ∧ Sat r' σ'
section
variable {C : CS} {σ σ1 σ2 σ3 : AE}
theorem Ev.le {e : Ex} {s : Sl} (h : Ev C σ e s σ1) (l : Le σ1 σ2) : Ev C σ e s σ2 := fun r hr => by
  obtain ⟨d, r', h1, h2, h3⟩ := h r hr
  exact ⟨d, r', h1, h2, l.sat h3⟩
theorem Ev.pre {e : Ex} {s : Sl} (l : Le σ σ1) (h : Ev C σ1 e s σ2) : Ev C σ e s σ2 := fun r hr => h r (l.sat hr)
theorem Ev.dd {e : Ex} {v : PyData} {d : D} (h : Ev C σ e (.x d) σ1) (hv : d = .p v ∨ d = .o v) : Ev C σ e (.w v) σ1 := fun r hr => by
  obtain ⟨d', r', h1, h2, h3⟩ := h r hr
  cases h2
  exact ⟨_, r', h1, by rcases hv with rfl | rfl; exact .inl rfl; exact .inr rfl, h3⟩
theorem EvI.pre {it : It} {vs : List PyData} (l : Le σ σ1) (h : EvI C σ1 it vs σ2) : EvI C σ it vs σ2 := fun r hr => h r (l.sat hr)
theorem op_v {i : Nat} {s : Sl} (h : getA σ i = s) (hs : s ≠ .u) : OpV C σ (.var i) (.s i) σ := fun r hr => by
  obtain ⟨d, h1, _⟩ := sat_get i hr (by rw [h]; exact hs)
  refine ⟨.s i, r, ?_, rfl, hr⟩
  unfold opnd
  simp only [Ex.vix, h1]
theorem op_vx {i : Nat} {d : D} (h : getA σ i = .x d) : OpV C σ (.var i) (.s i) σ := op_v h (fun e => by cases e)
theorem op_vd {i : Nat} {d : PyData} (h : getA σ i = .w d) : OpV C σ (.var i) (.s i) σ := op_v h (fun e => by cases e)
theorem op_e {e : Ex} {s : Sl} (hx : e.vix = none) (h : Ev C σ e s σ1) : OpV C σ e (.t s) σ1 := fun r hr => by
  obtain ⟨d, r', h1, h2, h3⟩ := h r hr
  refine ⟨.t d, r', ?_, ⟨d, rfl, h2⟩, h3⟩
  unfold opnd
  simp only [hx, h1, Res.bind]
theorem ev_p {i : Nat} {v : PyData} (h : getA σ i = .x (.p v)) : Ev C σ (.var i) (.x (.p v)) σ := fun r hr => by
  refine ⟨.p v, r, ?_, rfl, hr⟩
  show escS i r = _
  unfold escS
  rw [sat_x hr h]
theorem ev_o {i : Nat} {v : PyData} (h : getA σ i = .x (.o v)) : Ev C σ (.var i) (.x (.p v)) (setA σ i (.x (.p v))) := fun r hr => by
  refine ⟨.p v, r.set i (some (.p v)), ?_, rfl, sat_set i hr rfl⟩
  show escS i r = _
  unfold escS
  rw [sat_x hr h]
theorem ev_d {i : Nat} {v : PyData} (h : getA σ i = .w v) : Ev C σ (.var i) (.x (.p v)) (setA σ i (.w v)) := fun r hr => by
  obtain ⟨d, h1, h2⟩ := sat_get i hr (by rw [h]; exact fun e => by cases e)
  rw [h] at h2
  rcases h2 with h2 | h2 <;> cases h2
  · exact ⟨.p v, r, by show escS i r = _; unfold escS; rw [h1], rfl, by
      have := sat_set i (s := .w v) (o := some (.p v)) hr (.inl rfl)
      have e : r.set i (some (.p v)) = r := by
        unfold getS at h1
        split at h1
        · rename_i d0 h0; cases h1; exact List.ext_getElem? fun j => by
            by_cases hj : i = j
            · subst hj
              have hl : i < r.length := (List.getElem?_eq_some_iff.mp h0).1
              rw [List.getElem?_set_self hl, h0]
            · rw [List.getElem?_set_ne hj]
        · cases h1
      rw [e] at this
      exact this⟩
  · exact ⟨.p v, r.set i (some (.p v)), by show escS i r = _; unfold escS; rw [h1], rfl, sat_set i hr (.inl rfl)⟩
theorem ev_k (v : PyData) : Ev C σ (.c v) (.x (.p v)) σ := fun r hr => ⟨.p v, r, rfl, rfl, hr⟩
theorem ev_es {e : Ex} {s : Sl} (h : Ev C σ e s σ1) : Ev C σ (.esc e) s σ1 := h
theorem datR_ev {e : Ex} {s : Sl} {v : PyData} (h : Ev C σ e s σ1) (hv : s.dat = some v) : ∀ r, Sat r σ → ∃ r', datR (evE C e r) = .ok v r' ∧ Sat r' σ1 := fun r hr => by
  obtain ⟨d, r', h1, h2, h3⟩ := h r hr
  refine ⟨r', ?_, h3⟩
  rw [h1]
  show (match d.dat with | some y => Res.ok y r' | none => .bad) = _
  rw [slok_dat h2 hv]
theorem boolR_ev {e : Ex} {b : Bool} (h : Ev C σ e (.x (pB b)) σ1) : ∀ r, Sat r σ → ∃ r', boolR (evE C e r) = .ok b r' ∧ Sat r' σ1 := fun r hr => by
  obtain ⟨d, r', h1, h2, h3⟩ := h r hr
  cases h2
  exact ⟨r', by rw [h1]; rfl, h3⟩
theorem es_n : EvEs C σ [] [] σ := fun r hr => ⟨r, rfl, hr⟩
theorem es_c {e : Ex} {es : List Ex} {s : Sl} {v : PyData} {vs : List PyData} (h : Ev C σ e s σ1) (hv : s.dat = some v) (t : EvEs C σ1 es vs σ2) : EvEs C σ (e :: es) (v :: vs) σ2 := fun r hr => by
  obtain ⟨r1, h1, h2⟩ := datR_ev h hv r hr
  obtain ⟨r2, h3, h4⟩ := t r1 h2
  refine ⟨r2, ?_, h4⟩
  show (datR (evE C e r)).bind (fun d r1 => (evEs C es r1).bind fun ds r2 => .ok (d :: ds) r2) = _
  rw [h1]
  show (evEs C es r1).bind (fun ds r2 => .ok (v :: ds) r2) = _
  rw [h3]; rfl
theorem ev_tu {es : List Ex} {vs : List PyData} (h : EvEs C σ es vs σ1) (hl' : Nat.ble vs.length 1000 = true) : Ev C σ (.tup es) (.x (.p (.tuple vs))) σ1 := fun r hr => by
  obtain ⟨r1, h1, h2⟩ := h r hr
  have hl := Nat.le_of_ble_eq_true hl'
  refine ⟨_, r1, ?_, rfl, h2⟩
  have hz : sizeLine = 16777216 := rfl
  show (evEs C es r).bind (fun ds r1 => if ds.length ≤ sizeLine then .ok (D.p (.tuple ds)) r1 else .bad) = _
  rw [h1]
  show (if vs.length ≤ sizeLine then Res.ok (D.p (.tuple vs)) r1 else .bad) = _
  rw [if_pos (by omega)]
theorem ev_ls {es : List Ex} {vs : List PyData} (h : EvEs C σ es vs σ1) (hl' : Nat.ble vs.length 1000 = true) : Ev C σ (.lst es) (.x (.o (.list vs))) σ1 := fun r hr => by
  obtain ⟨r1, h1, h2⟩ := h r hr
  have hl := Nat.le_of_ble_eq_true hl'
  refine ⟨_, r1, ?_, rfl, h2⟩
  have hz : sizeLine = 16777216 := rfl
  show (evEs C es r).bind (fun ds r1 => if ds.length ≤ sizeLine then .ok (D.o (.list ds)) r1 else .bad) = _
  rw [h1]
  show (if vs.length ≤ sizeLine then Res.ok (D.o (.list vs)) r1 else .bad) = _
  rw [if_pos (by omega)]
theorem un_ok {a : Ex} {x : SArg} {g : PyData → Option D} {v : PyData} {d : D} (ha : OpV C σ a x σ1) (hv : x.dat σ1 = some v) (hg : g v = some d) :
    ∀ r, Sat r σ → ∃ r', un1 (opnd a (evE C a)) g r = .ok d r' ∧ Sat r' σ1 := fun r hr => by
  obtain ⟨b, r1, h1, h2, h3⟩ := ha r hr
  refine ⟨r1, ?_, h3⟩
  unfold un1
  rw [h1]
  simp only [Res.bind, aok_dat h3 h2 hv, hg, ofO]
theorem bin_ok {a b : Ex} {x y : SArg} {g : PyData → PyData → Option D} {v w : PyData} {d : D} (ha : OpV C σ a x σ1) (hb : OpV C σ1 b y σ2) (hv : x.dat σ2 = some v) (hw : y.dat σ2 = some w) (hg : g v w = some d) :
    ∀ r, Sat r σ → ∃ r', bin2 (opnd a (evE C a)) (opnd b (evE C b)) g r = .ok d r' ∧ Sat r' σ2 := fun r hr => by
  obtain ⟨b1, r1, h1, h2, h3⟩ := ha r hr
  obtain ⟨b2, r2, h4, h5, h6⟩ := hb r1 h3
  refine ⟨r2, ?_, h6⟩
  unfold bin2
  rw [h1]
  simp only [Res.bind, h4, aok_dat h6 h2 hv, aok_dat h6 h5 hw, hg, ofO]
theorem ev_bi2 {op : Op} {a b : Ex} {x y : SArg} {v w : PyData} {d : D} (ha : OpV C σ a x σ1) (hb : OpV C σ1 b y σ2) (hv : x.dat σ2 = some v) (hw : y.dat σ2 = some w) (hg : binD op v w = some d) : Ev C σ (.bin op a b) (.x d) σ2 := fun r hr => by
  obtain ⟨r', h1, h2⟩ := bin_ok ha hb hv hw hg r hr
  exact ⟨d, r', h1, rfl, h2⟩
theorem ev_cm {op : Cm} {a b : Ex} {x y : SArg} {v w : PyData} {k : Bool} (ha : OpV C σ a x σ1) (hb : OpV C σ1 b y σ2) (hv : x.dat σ2 = some v) (hw : y.dat σ2 = some w) (hg : cmpD op v w = some k) : Ev C σ (.cmp op a b) (.x (pB k)) σ2 := fun r hr => by
  obtain ⟨r', h1, h2⟩ := bin_ok (g := cmpB op) (d := pB k) ha hb hv hw (by unfold cmpB; rw [hg]; rfl) r hr
  exact ⟨_, r', h1, rfl, h2⟩
theorem ev_ix {a b : Ex} {x y : SArg} {v w d : PyData} (ha : OpV C σ a x σ1) (hb : OpV C σ1 b y σ2) (hv : x.dat σ2 = some v) (hw : y.dat σ2 = some w) (hg : idxD v w = some d) : Ev C σ (.idx a b) (.x (.p d)) σ2 := fun r hr => by
  obtain ⟨r', h1, h2⟩ := bin_ok (g := idxB) (d := .p d) ha hb hv hw (by unfold idxB; rw [hg]; rfl) r hr
  exact ⟨_, r', h1, rfl, h2⟩
theorem ev_sf {a b : Ex} {x y : SArg} {v w : PyData} {d : D} (ha : OpV C σ a x σ1) (hb : OpV C σ1 b y σ2) (hv : x.dat σ2 = some v) (hw : y.dat σ2 = some w) (hg : slFD v w = some d) : Ev C σ (.slF a b) (.x d) σ2 := fun r hr => by
  obtain ⟨r', h1, h2⟩ := bin_ok ha hb hv hw hg r hr
  exact ⟨d, r', h1, rfl, h2⟩
theorem ev_st {a b : Ex} {x y : SArg} {v w : PyData} {d : D} (ha : OpV C σ a x σ1) (hb : OpV C σ1 b y σ2) (hv : x.dat σ2 = some v) (hw : y.dat σ2 = some w) (hg : slTD v w = some d) : Ev C σ (.slT a b) (.x d) σ2 := fun r hr => by
  obtain ⟨r', h1, h2⟩ := bin_ok ha hb hv hw hg r hr
  exact ⟨d, r', h1, rfl, h2⟩
theorem ev_ng {a : Ex} {x : SArg} {i : Int} (ha : OpV C σ a x σ1) (hv : x.dat σ1 = some (.int i)) : Ev C σ (.neg a) (.x (.p (.int (-i)))) σ1 := fun r hr => by
  obtain ⟨r', h1, h2⟩ := un_ok (g := negD) ha hv rfl r hr
  exact ⟨_, r', h1, rfl, h2⟩
theorem ev_rv {a : Ex} {x : SArg} {vs : List PyData} (ha : OpV C σ a x σ1) (hv : x.dat σ1 = some (.list vs)) : Ev C σ (.rev a) (.x (.o (.list vs.reverse))) σ1 := fun r hr => by
  obtain ⟨r', h1, h2⟩ := un_ok (g := revD) ha hv rfl r hr
  exact ⟨_, r', h1, rfl, h2⟩
theorem ev_ty {a : Ex} {x : SArg} {v : PyData} {t : Ty} (ha : OpV C σ a x σ1) (hv : x.dat σ1 = some v) : Ev C σ (.isT a t) (.x (pB (isTy v t))) σ1 := fun r hr => by
  obtain ⟨r', h1, h2⟩ := un_ok (g := fun d => some (pB (isTy d t))) ha hv rfl r hr
  exact ⟨_, r', h1, rfl, h2⟩
theorem ev_nt {a : Ex} {k : Bool} (h : Ev C σ a (.x (pB k)) σ1) : Ev C σ (.not a) (.x (pB (!k))) σ1 := fun r hr => by
  obtain ⟨r', h1, h2⟩ := boolR_ev h r hr
  refine ⟨_, r', ?_, rfl, h2⟩
  show (boolR (evE C a r)).bind (fun b r1 => .ok (pB (!b)) r1) = _
  rw [h1]; rfl
theorem ev_an {a b : Ex} {k j : Bool} (h : Ev C σ a (.x (pB k)) σ1) (h2 : k = true → Ev C σ1 b (.x (pB j)) σ2) (l : Le σ1 σ3) (l2 : Le σ2 σ3) : Ev C σ (.and a b) (.x (pB (k && j))) σ3 := fun r hr => by
  obtain ⟨r1, e1, e2⟩ := boolR_ev h r hr
  have hu : evE C (.and a b) r = (boolR (evE C a r)).bind fun k r1 => if k then evE C b r1 else .ok (pB false) r1 := rfl
  rw [hu, e1]
  cases k with
  | true =>
    obtain ⟨d, r2, f1, f2, f3⟩ := h2 rfl r1 e2
    exact ⟨d, r2, f1, by simpa using f2, l2.sat f3⟩
  | false => exact ⟨_, r1, rfl, rfl, l.sat e2⟩
theorem ev_or' {a b : Ex} {k j : Bool} (h : Ev C σ a (.x (pB k)) σ1) (h2 : k = false → Ev C σ1 b (.x (pB j)) σ2) (l : Le σ1 σ3) (l2 : Le σ2 σ3) : Ev C σ (.or a b) (.x (pB (k || j))) σ3 := fun r hr => by
  obtain ⟨r1, e1, e2⟩ := boolR_ev h r hr
  have hu : evE C (.or a b) r = (boolR (evE C a r)).bind fun k r1 => if k then .ok (pB true) r1 else evE C b r1 := rfl
  rw [hu, e1]
  cases k with
  | false =>
    obtain ⟨d, r2, f1, f2, f3⟩ := h2 rfl r1 e2
    exact ⟨d, r2, f1, by simpa using f2, l2.sat f3⟩
  | true => exact ⟨_, r1, rfl, rfl, l.sat e2⟩
theorem ev_if {α : Type} (g : α → Sl) {c a b : Ex} {k : Bool} {x y : α} (h : Ev C σ c (.x (pB k)) σ1) (ha : k = true → Ev C σ1 a (g x) σ2) (hb : k = false → Ev C σ1 b (g y) σ2) : Ev C σ (.ite c a b) (g (if k = true then x else y)) σ2 := fun r hr => by
  obtain ⟨r1, e1, e2⟩ := boolR_ev h r hr
  have hu : evE C (.ite c a b) r = (boolR (evE C c r)).bind fun k r1 => if k then evE C a r1 else evE C b r1 := rfl
  rw [hu, e1]
  cases k with
  | true => exact ha rfl r1 e2
  | false => exact hb rfl r1 e2
theorem intR_ev {a : Ex} {x : SArg} {i : Int} (ha : OpV C σ a x σ1) (hv : x.dat σ1 = some (.int i)) : ∀ r, Sat r σ → ∃ r', intR (opnd a (evE C a) r) = .ok i r' ∧ Sat r' σ1 := fun r hr => by
  obtain ⟨b, r1, h1, h2, h3⟩ := ha r hr
  refine ⟨r1, ?_, h3⟩
  unfold intR
  rw [h1]
  simp only [Res.bind, aok_dat h3 h2 hv]
theorem ev_sb {a b c : Ex} {x y z : SArg} {v : PyData} {i j : Int} {d : D} (ha : OpV C σ a x σ1) (hb : OpV C σ1 b y σ2) (hy : y.dat σ2 = some (.int i)) (hc : OpV C σ2 c z σ3) (hz : z.dat σ3 = some (.int j)) (hv : x.dat σ3 = some v) (hg : slD v (some i) (some j) = some d) : Ev C σ (.slB a b c) (.x d) σ3 := fun r hr => by
  obtain ⟨b1, r1, h1, h2, h3⟩ := ha r hr
  obtain ⟨r2, h4, h5⟩ := intR_ev hb hy r1 h3
  obtain ⟨r3, h6, h7⟩ := intR_ev hc hz r2 h5
  refine ⟨d, r3, ?_, rfl, h7⟩
  have hu : evE C (.slB a b c) r = sl3 (opnd a (evE C a)) (opnd b (evE C b)) (opnd c (evE C c)) r := rfl
  rw [hu]
  unfold sl3
  rw [h1]
  simp only [Res.bind, h4, h6, aok_dat h7 h2 hv, hg, ofO]
theorem ev_in {neg : Bool} {a b c : Ex} {x y z : SArg} {i l h : Int} (ha : OpV C σ a x σ1) (hb : OpV C σ1 b y σ2) (hc : OpV C σ2 c z σ3) (hx : x.dat σ3 = some (.int i)) (hy : y.dat σ3 = some (.int l)) (hz : z.dat σ3 = some (.int h)) :
    Ev C σ (.inR neg a b c) (.x (pB (neg != decide (l ≤ i ∧ i < h)))) σ3 := fun r hr => by
  obtain ⟨b1, r1, h1, h2, h3⟩ := ha r hr
  obtain ⟨b2, r2, h4, h5, h6⟩ := hb r1 h3
  obtain ⟨b3, r3, h7, h8, h9⟩ := hc r2 h6
  refine ⟨_, r3, ?_, rfl, h9⟩
  have hu : evE C (.inR neg a b c) r = tri3 (opnd a (evE C a)) (opnd b (evE C b)) (opnd c (evE C c)) (inRD neg) r := rfl
  rw [hu]
  unfold tri3
  rw [h1]
  simp only [Res.bind, h4, h7, aok_dat h9 h2 hx, aok_dat h9 h5 hy, aok_dat h9 h8 hz, inRD, ofO]
theorem ev_ch3 {o1 o2 : Cm} {a b c : Ex} {x y z : SArg} {u v w : PyData} {k j : Bool} (ha : OpV C σ a x σ1) (hb : OpV C σ1 b y σ2) (hx : x.dat σ2 = some u) (hy : y.dat σ2 = some v) (h1 : cmpD o1 u v = some k)
    (hc : k = true → OpV C σ2 c z σ2) (hz : k = true → z.dat σ2 = some w) (h2 : k = true → cmpD o2 v w = some j) : Ev C σ (.ch o1 o2 a b c) (.x (pB (k && j))) σ2 := fun r hr => by
  obtain ⟨b1, r1, g1, g2, g3⟩ := ha r hr
  obtain ⟨b2, r2, g4, g5, g6⟩ := hb r1 g3
  have hu : evE C (.ch o1 o2 a b c) r = chain3 (opnd a (evE C a)) (opnd b (evE C b)) (opnd c (evE C c)) (cmpD o1) (cmpD o2) r := rfl
  rw [hu]
  unfold chain3
  rw [g1]
  simp only [Res.bind, g4, aok_dat g6 g2 hx, aok_dat g6 g5 hy, h1]
  cases k with
  | false => exact ⟨_, r2, rfl, rfl, g6⟩
  | true =>
    obtain ⟨b3, r3, g7, g8, g9⟩ := hc rfl r2 g6
    refine ⟨_, r3, ?_, rfl, g9⟩
    simp only [g7, aok_dat g9 g5 hy, aok_dat g9 g8 (hz rfl), h2 rfl]
    rfl
theorem as_n : EvAs C σ [] [] σ := fun r hr => ⟨[], r, rfl, trivial, hr⟩
theorem as_c {e : Ex} {es : List Ex} {a : SArg} {as : List SArg} (h : OpV C σ e a σ1) (t : EvAs C σ1 es as σ2) : EvAs C σ (e :: es) (a :: as) σ2 := fun r hr => by
  obtain ⟨b, r1, h1, h2, h3⟩ := h r hr
  obtain ⟨bs, r2, h4, h5, h6⟩ := t r1 h3
  refine ⟨b :: bs, r2, ?_, ⟨h2, h5⟩, h6⟩
  show (opnd e (evE C e) r).bind (fun d r1 => (evAs C es r1).bind fun ds r2 => .ok (d :: ds) r2) = _
  rw [h1]
  show (evAs C es r1).bind (fun ds r2 => .ok (b :: ds) r2) = _
  rw [h4]; rfl
def datsA (σ : AE) : List SArg → Option (List PyData)
  | [] => some []
  | a :: as => match a.dat σ with
    | some v => (match datsA σ as with
      | some vs => some (v :: vs)
      | none => none)
    | none => none
theorem datsA_ok {r : Env} (hr : Sat r σ) : ∀ {as : List SArg} {bs : List Arg} {vs : List PyData}, AsOk as bs → datsA σ as = some vs → datsOf r bs = some vs
  | [], [], vs, _, h => by cases h; rfl
  | [], _ :: _, vs, h, _ => h.elim
  | _ :: _, [], vs, h, _ => h.elim
  | a :: as, b :: bs, vs, h0, h => by
    obtain ⟨h1, h2⟩ := h0
    unfold datsA at h
    split at h
    · rename_i v hv
      split at h
      · rename_i ws hw
        cases h
        have := datsA_ok hr h2 hw
        unfold datsOf
        rw [aok_dat hr h1 hv, this]
        rfl
      · cases h
    · cases h
theorem ev_bu {b : Bi} {es : List Ex} {as : List SArg} {vs : List PyData} {d : D} (h : EvAs C σ es as σ1) (hv : datsA σ1 as = some vs) (hg : biD b vs = some d) : Ev C σ (.bi b es) (.x d) σ1 := fun r hr => by
  obtain ⟨bs, r1, h1, h2, h3⟩ := h r hr
  refine ⟨d, r1, ?_, rfl, h3⟩
  have hu : evE C (.bi b es) r = (evAs C es r).bind fun as r1 => match datsOf r1 as with
    | some ds => ofO (biD b ds) r1
    | none => .bad := rfl
  rw [hu, h1]
  simp only [Res.bind, datsA_ok h3 h2 hv, hg, ofO]
end
end Lf

set_option Elab.async false
set_option linter.all false
set_option maxRecDepth 100000
/-! calls, iterables, comprehensions, statements -/
namespace Lf
open PySem hiding Env Arg
open Dl
/-! ### calls -/
def VsOk : List Sl → List D → Prop
  | [], [] => True
  | s :: ss, d :: ds => SlOk s (some d) ∧ VsOk ss ds
  | _, _ => False
def takeA : List SArg → AE → Option (List D × AE)
  | [], σ => some ([], σ)
  | .s i :: as, σ => match getA σ i with
    | .x d => (match takeA as (cond d.own (setA σ i .u) σ) with
      | some q => some (d :: q.1, q.2)
      | none => none)
    | _ => none
  | .t q :: as, σ => match q with
    | .x d => (match takeA as σ with
      | some q => some (d :: q.1, q.2)
      | none => none)
    | _ => none
def giveA : List SArg → List D → List Sl → AE → AE
  | a :: as, d :: ds, outs, σ => match d.own with
    | true => (match outs with
      | o :: os => (match a with
        | .s i => giveA as ds os (setA σ i o)
        | .t _ => giveA as ds os σ)
      | [] => σ)
    | false => giveA as ds outs σ
  | _, _, _, σ => σ
def CallOk (C : CS) (f : Nat) (ds : List D) (res : Sl) (os : List Sl) : Prop := ∃ d o, C f ds = .ok d o ∧ SlOk res (some d) ∧ VsOk os o
theorem take_ok : ∀ {as : List SArg} {bs : List Arg} {σ : AE} {r : Env} {ds : List D} {σ' : AE}, Sat r σ → AsOk as bs → takeA as σ = some (ds, σ') → ∃ r', takeAll bs r = some (ds, r') ∧ Sat r' σ'
  | [], [], σ, r, ds, σ', hr, _, h => by cases h; exact ⟨r, rfl, hr⟩
  | [], _ :: _, _, _, _, _, _, h, _ => h.elim
  | _ :: _, [], _, _, _, _, _, h, _ => h.elim
  | .s i :: as, b :: bs, σ, r, ds, σ', hr, ha, h => by
    obtain ⟨h1, h2⟩ := ha
    cases h1
    unfold takeA at h
    split at h
    · rename_i d hd
      split at h
      · rename_i q hq
        cases h
        have hg := sat_x hr hd
        have hr2 : Sat (if d.own = true then r.set i none else r) (cond d.own (setA σ i .u) σ) := by
          cases d.own with
          | true => exact sat_set i hr trivial
          | false => exact hr
        obtain ⟨r', e1, e2⟩ := take_ok (as := as) hr2 h2 hq
        refine ⟨r', ?_, e2⟩
        unfold takeAll
        rw [hg]
        simp only [e1]
        rfl
      · cases h
    · cases h
  | .t q :: as, b :: bs, σ, r, ds, σ', hr, ha, h => by
    obtain ⟨⟨d, rfl, h1⟩, h2⟩ := ha
    unfold takeA at h
    split at h
    · rename_i d0
      split at h
      · rename_i q hq
        cases h
        cases h1
        obtain ⟨r', e1, e2⟩ := take_ok (as := as) hr h2 hq
        refine ⟨r', ?_, e2⟩
        unfold takeAll
        rw [e1]
        rfl
      · cases h
    · cases h
theorem give_ok : ∀ {as : List SArg} {bs : List Arg} {ds : List D} {os : List Sl} {o : List D} {r : Env} {σ : AE}, Sat r σ → AsOk as bs → VsOk os o → Sat (giveBack bs ds o r) (giveA as ds os σ)
  | [], [], ds, os, o, r, σ, hr, _, _ => by unfold giveBack giveA; exact hr
  | [], _ :: _, _, _, _, _, _, _, h, _ => h.elim
  | _ :: _, [], _, _, _, _, _, _, h, _ => h.elim
  | a :: as, b :: bs, [], os, o, r, σ, hr, _, _ => by unfold giveBack giveA; exact hr
  | a :: as, b :: bs, d :: ds, os, o, r, σ, hr, ⟨h1, h2⟩, ho => by
    unfold giveBack giveA
    cases hd : d.own with
    | false => simp only [hd]; exact give_ok hr h2 ho
    | true =>
      simp only [if_true]
      cases os with
      | nil => cases o with
        | nil => exact hr
        | cons _ _ => exact ho.elim
      | cons s ss => cases o with
        | nil => exact ho.elim
        | cons e es =>
          cases a with
          | s i => cases h1; exact give_ok (sat_set i hr ho.1) h2 ho.2
          | t q => obtain ⟨d, rfl, _⟩ := h1; exact give_ok hr h2 ho.2
section
variable {C : CS} {σ σ1 σ2 σ3 : AE}
theorem ev_ca {f : Nat} {es : List Ex} {as : List SArg} {ds : List D} {res : Sl} {os : List Sl} (h : EvAs C σ es as σ1) (ht : takeA as σ1 = some (ds, σ2)) (hc : CallOk C f ds res os) : Ev C σ (.call f es) res (giveA as ds os σ2) := fun r hr => by
  obtain ⟨bs, r1, h1, h2, h3⟩ := h r hr
  obtain ⟨r2, h4, h5⟩ := take_ok h3 h2 ht
  obtain ⟨d, o, h6, h7, h8⟩ := hc
  refine ⟨d, giveBack bs ds o r2, ?_, h7, give_ok h5 h2 h8⟩
  show (evAs C es r).bind (fun as r1 => doCall C f as r1) = _
  rw [h1]
  show doCall C f bs r1 = _
  unfold doCall
  rw [h4]
  simp only [h6]
/-- all arguments are such as never change -/
theorem ev_cp {f : Nat} {es : List Ex} {as : List SArg} {vs : List PyData} {res : Sl} (h : EvAs C σ es as σ1) (ht : takeA as σ1 = some (vs.map .p, σ1)) (hc : CallOk C f (vs.map .p) res []) : Ev C σ (.call f es) res σ1 := by
  have := ev_ca h ht hc
  have e : ∀ (as : List SArg) (vs : List PyData) (σ : AE), giveA as (vs.map .p) [] σ = σ := by
    intro as
    induction as with
    | nil => intro vs σ; cases vs <;> rfl
    | cons a as ih => intro vs σ; cases vs with
      | nil => rfl
      | cons v vs => exact ih vs σ
  rw [e] at this
  exact this
/-! ### targets -/
mutual
def asgA (lk : List Nat) : Tg → PyData → AE → Option AE
  | .v i, d, σ => if lk.contains i then none else some (setA σ i (.x (.p d)))
  | .t ts, d, σ => match d with
    | .tuple ds => asgAs lk ts ds σ
    | _ => none
def asgAs (lk : List Nat) : List Tg → List PyData → AE → Option AE
  | [], [], σ => some σ
  | t :: ts, d :: ds, σ => match asgA lk t d σ with
    | some τ => asgAs lk ts ds τ
    | none => none
  | _, _, _ => none
end
mutual
theorem asg_ok (lk : List Nat) : ∀ (t : Tg) (d : PyData) {r : Env} {σ τ : AE}, Sat r σ → asgA lk t d σ = some τ → ∃ r', asgT lk t d r = some r' ∧ Sat r' τ
  | .v i, d, r, σ, τ, hr, h => by
    unfold asgA at h
    unfold asgT
    split at h
    · cases h
    · rename_i hi
      cases h
      rw [if_neg hi]
      exact ⟨_, rfl, sat_set i hr rfl⟩
  | .t ts, d, r, σ, τ, hr, h => by
    unfold asgA at h
    unfold asgT
    split at h
    · exact asg_oks lk ts _ hr h
    · cases h
theorem asg_oks (lk : List Nat) : ∀ (ts : List Tg) (ds : List PyData) {r : Env} {σ τ : AE}, Sat r σ → asgAs lk ts ds σ = some τ → ∃ r', asgTs lk ts ds r = some r' ∧ Sat r' τ
  | [], [], r, σ, τ, hr, h => by unfold asgAs at h; cases h; exact ⟨r, rfl, hr⟩
  | [], _ :: _, _, _, _, _, h => by unfold asgAs at h; cases h
  | _ :: _, [], _, _, _, _, h => by unfold asgAs at h; cases h
  | t :: ts, d :: ds, r, σ, τ, hr, h => by
    unfold asgAs at h
    split at h
    · rename_i τ1 h1
      obtain ⟨r1, e1, e2⟩ := asg_ok lk t d hr h1
      obtain ⟨r2, e3, e4⟩ := asg_oks lk ts ds e2 h
      refine ⟨r2, ?_, e4⟩
      unfold asgTs
      rw [e1]
      exact e3
    · cases h
end
/-! ### iterables -/
@[irreducible] def rgI (a b : Int) : List Int := (List.range (b - a).toNat).map fun k => a + (k : Nat)
def RgOk (a b : Int) : Prop := -(2 ^ 62) ≤ a ∧ a < 2 ^ 62 ∧ -(2 ^ 62) ≤ b ∧ b < 2 ^ 62 ∧ b - a ≤ 16777216
theorem rgOk {a b : Int} (h : RgOk a b) : rngOk a b = true := by
  have hz : sizeLine = 16777216 := rfl
  unfold RgOk at h
  unfold rngOk
  simp only [decide_eq_true_eq]
  omega
theorem rg_map (a b : Int) : rngL a b = (rgI a b).map .int := by
  unfold rngL rgI
  rw [List.map_map]
  rfl
/-- numbered from 0 on -/
def enF {α : Type} : Nat → List α → List (Int × α)
  | _, [] => []
  | k, x :: xs => ((k : Int), x) :: enF (k + 1) xs
abbrev enI {α : Type} (xs : List α) : List (Int × α) := enF 0 xs
def eP2 {α β : Type} (f : α → PyData) (g : β → PyData) (p : α × β) : PyData := .tuple [f p.1, g p.2]
def eP3 {α β γ : Type} (f : α → PyData) (g : β → PyData) (h : γ → PyData) (p : α × β × γ) : PyData := .tuple [f p.1, g p.2.1, h p.2.2]
theorem en_map {α : Type} (f : α → PyData) : ∀ (k : Nat) (xs : List α), enumP k (xs.map f) = (enF k xs).map (eP2 .int f)
  | _, [] => rfl
  | k, x :: xs => congrArg (PyData.tuple [.int (k : Nat), f x] :: ·) (en_map f (k + 1) xs)
theorem zip_map2 {α β : Type} (f : α → PyData) (g : β → PyData) : ∀ (xs : List α) (ys : List β), zipP (xs.map f) (ys.map g) = (xs.zip ys).map (eP2 f g)
  | [], _ => by simp [zipP]
  | _ :: _, [] => by simp [zipP]
  | x :: xs, y :: ys => congrArg (PyData.tuple [f x, g y] :: ·) (zip_map2 f g xs ys)
theorem zip_map3 {α β γ : Type} (f : α → PyData) (g : β → PyData) (h : γ → PyData) : ∀ (xs : List α) (ys : List β) (zs : List γ), zip3P (xs.map f) (ys.map g) (zs.map h) = (xs.zip (ys.zip zs)).map (eP3 f g h)
  | [], _, _ => by simp [zip3P]
  | _ :: _, [], _ => by simp [zip3P]
  | _ :: _, _ :: _, [] => by simp [zip3P]
  | x :: xs, y :: ys, z :: zs => congrArg (PyData.tuple [f x, g y, h z] :: ·) (zip_map3 f g h xs ys zs)
theorem it_ex {e : Ex} {s : Sl} {v : PyData} {vs : List PyData} (h : Ev C σ e s σ1) (hv : s.dat = some v) (hs : seqOf v = some vs) : EvI C σ (.ex e) vs σ1 := fun r hr => by
  obtain ⟨r1, h1, h2⟩ := datR_ev h hv r hr
  refine ⟨r1, ?_, h2⟩
  show (datR (evE C e r)).bind (fun d r => ofO (seqOf d) r) = _
  rw [h1]
  show ofO (seqOf v) r1 = _
  rw [hs]; rfl
theorem it_r1 {a : Ex} {x : SArg} {n : Int} (ha : OpV C σ a x σ1) (hv : x.dat σ1 = some (.int n)) (hk : RgOk 0 n) : EvI C σ (.rng1 a) ((rgI 0 n).map .int) σ1 := fun r hr => by
  obtain ⟨r1, h1, h2⟩ := intR_ev ha hv r hr
  refine ⟨r1, ?_, h2⟩
  show (intR (opnd a (evE C a) r)).bind (fun i r1 => if rngOk 0 i then .ok (rngL 0 i) r1 else .bad) = _
  rw [h1, ← rg_map]
  show (if rngOk 0 n then Res.ok (rngL 0 n) r1 else .bad) = _
  rw [if_pos (rgOk hk)]
theorem it_r2 {a b : Ex} {x y : SArg} {m n : Int} (ha : OpV C σ a x σ1) (hv : x.dat σ1 = some (.int m)) (hb : OpV C σ1 b y σ2) (hw : y.dat σ2 = some (.int n)) (hk : RgOk m n) : EvI C σ (.rng2 a b) ((rgI m n).map .int) σ2 := fun r hr => by
  obtain ⟨r1, h1, h2⟩ := intR_ev ha hv r hr
  obtain ⟨r2, h3, h4⟩ := intR_ev hb hw r1 h2
  refine ⟨r2, ?_, h4⟩
  show (intR (opnd a (evE C a) r)).bind (fun i r1 => (intR (opnd b (evE C b) r1)).bind fun j r2 => if rngOk i j then .ok (rngL i j) r2 else .bad) = _
  rw [h1, ← rg_map]
  show (intR (opnd b (evE C b) r1)).bind (fun j r2 => if rngOk m j then .ok (rngL m j) r2 else .bad) = _
  rw [h3]
  show (if rngOk m n then Res.ok (rngL m n) r2 else .bad) = _
  rw [if_pos (rgOk hk)]
theorem it_z2 {α β : Type} {f : α → PyData} {g : β → PyData} {a b : Ex} {s t : Sl} {v w : PyData} {xs : List α} {ys : List β} (ha : Ev C σ a s σ1) (hv : s.dat = some v) (hb : Ev C σ1 b t σ2) (hw : t.dat = some w) (hx : seqOf v = some (xs.map f)) (hy : seqOf w = some (ys.map g)) :
    EvI C σ (.zip2 a b) ((xs.zip ys).map (eP2 f g)) σ2 := fun r hr => by
  obtain ⟨r1, h1, h2⟩ := datR_ev ha hv r hr
  obtain ⟨r2, h3, h4⟩ := datR_ev hb hw r1 h2
  refine ⟨r2, ?_, h4⟩
  show (datR (evE C a r)).bind (fun x r1 => (datR (evE C b r1)).bind fun y r2 => ofO (zipK x y) r2) = _
  rw [h1]
  show (datR (evE C b r1)).bind (fun y r2 => ofO (zipK v y) r2) = _
  rw [h3]
  show ofO (zipK v w) r2 = _
  unfold zipK
  rw [hx, hy]
  show Res.ok (zipP (xs.map f) (ys.map g)) r2 = _
  rw [zip_map2]
theorem it_z3 {α β γ : Type} {f : α → PyData} {g : β → PyData} {h : γ → PyData} {a b c : Ex} {s t q : Sl} {u v w : PyData} {xs : List α} {ys : List β} {zs : List γ} (ha : Ev C σ a s σ1) (hu : s.dat = some u) (hb : Ev C σ1 b t σ2) (hv : t.dat = some v) (hc : Ev C σ2 c q σ3) (hw : q.dat = some w) (hx : seqOf u = some (xs.map f)) (hy : seqOf v = some (ys.map g)) (hz : seqOf w = some (zs.map h)) :
    EvI C σ (.zip3 a b c) ((xs.zip (ys.zip zs)).map (eP3 f g h)) σ3 := fun r hr => by
  obtain ⟨r1, h1, h2⟩ := datR_ev ha hu r hr
  obtain ⟨r2, h3, h4⟩ := datR_ev hb hv r1 h2
  obtain ⟨r3, h5, h6⟩ := datR_ev hc hw r2 h4
  refine ⟨r3, ?_, h6⟩
  show (datR (evE C a r)).bind (fun x r1 => (datR (evE C b r1)).bind fun y r2 => (datR (evE C c r2)).bind fun z r3 => ofO (zip3K x y z) r3) = _
  rw [h1]
  show (datR (evE C b r1)).bind (fun y r2 => (datR (evE C c r2)).bind fun z r3 => ofO (zip3K u y z) r3) = _
  rw [h3]
  show (datR (evE C c r2)).bind (fun z r3 => ofO (zip3K u v z) r3) = _
  rw [h5]
  show ofO (zip3K u v w) r3 = _
  unfold zip3K
  rw [hx, hy, hz]
  show Res.ok (zip3P (xs.map f) (ys.map g) (zs.map h)) r3 = _
  rw [zip_map3]
theorem it_en {α : Type} {f : α → PyData} {a : Ex} {s : Sl} {v : PyData} {xs : List α} (ha : Ev C σ a s σ1) (hv : s.dat = some v) (hx : seqOf v = some (xs.map f)) : EvI C σ (.enum a) ((enI xs).map (eP2 .int f)) σ1 := fun r hr => by
  obtain ⟨r1, h1, h2⟩ := datR_ev ha hv r hr
  refine ⟨r1, ?_, h2⟩
  show (datR (evE C a r)).bind (fun x r1 => ofO (enumK x) r1) = _
  rw [h1]
  show ofO (enumK v) r1 = _
  unfold enumK
  rw [hx]
  show Res.ok (enumP 0 (xs.map f)) r1 = _
  rw [en_map]
theorem it_ez {α β : Type} {f : α → PyData} {g : β → PyData} {a b : Ex} {s t : Sl} {v w : PyData} {xs : List α} {ys : List β} (ha : Ev C σ a s σ1) (hv : s.dat = some v) (hx : seqOf v = some (xs.map f)) (hb : Ev C σ1 b t σ2) (hw : t.dat = some w) (hy : seqOf w = some (ys.map g)) :
    EvI C σ (.enumz a b) ((enI (xs.zip ys)).map (eP2 .int (eP2 f g))) σ2 := fun r hr => by
  obtain ⟨r1, h1, h2⟩ := datR_ev ha hv r hr
  obtain ⟨r2, h3, h4⟩ := datR_ev hb hw r1 h2
  refine ⟨r2, ?_, h4⟩
  show (seqR (datR (evE C a r))).bind (fun xs r1 => (seqR (datR (evE C b r1))).bind fun ys r2 => .ok (enumP 0 (zipP xs ys)) r2) = _
  rw [h1]
  unfold seqR
  simp only [Res.bind, hx, ofO, h3, hy]
  rw [zip_map2, en_map]
/-! ### comprehensions -/
theorem setA_len : ∀ (σ : AE) (i : Nat) (s : Sl), getA (setA σ i s) i = s ∨ getA (setA σ i s) i = .u
  | [], _, _ => .inr rfl
  | _ :: _, 0, _ => .inl rfl
  | _ :: σ, i + 1, s => setA_len σ i s
theorem getA_set_ne : ∀ (σ : AE) {i j : Nat} (s : Sl), i ≠ j → getA (setA σ i s) j = getA σ j
  | [], _, _, _, _ => rfl
  | _ :: _, 0, 0, _, h => absurd rfl h
  | _ :: _, 0, _ + 1, _, _ => rfl
  | _ :: _, _ + 1, 0, _, _ => rfl
  | _ :: σ, i + 1, j + 1, s, h => getA_set_ne σ s (fun e => h (by rw [e]))
theorem getA_wipe (σ : AE) : ∀ (is : List Nat) {j : Nat}, j ∈ is → getA (wipeA σ is) j = .u
  | i :: is, j, h => by
    unfold wipeA
    by_cases e : i = j
    · subst e
      rcases setA_len (wipeA σ is) i .u with h | h <;> exact h
    · rw [getA_set_ne _ _ e]
      exact getA_wipe σ is (List.mem_of_ne_of_mem (fun q => e q.symm) h)
theorem sat_setu : ∀ {r : Env} {σ : AE} {i : Nat} {o : Option D}, Sat r σ → getA σ i = .u → Sat (r.set i o) σ
  | [], [], _, _, _, _ => trivial
  | a :: r, b :: σ, 0, o, hr, h => by
    cases (show b = .u from h)
    exact ⟨trivial, hr.2⟩
  | a :: r, b :: σ, i + 1, o, hr, h => ⟨hr.1, sat_setu hr.2 h⟩
  | [], _ :: _, _, _, hr, _ => hr.elim
  | _ :: _, [], _, _, hr, _ => hr.elim
theorem sat_wipe_in {r : Env} {τ : AE} : ∀ (is : List Nat), Sat r τ → (∀ i ∈ is, getA τ i = .u) → Sat (wipeE r is) τ
  | [], h, _ => h
  | i :: is, h, hu => sat_setu (sat_wipe_in is h fun j hj => hu j (List.mem_cons_of_mem _ hj)) (hu i List.mem_cons_self)
theorem sat_again {r : Env} (is : List Nat) (h : Sat r (wipeA σ is)) : Sat (wipeE r is) (wipeA σ is) := sat_wipe_in is h fun i hi => getA_wipe σ is hi
theorem lc_loop {α β : Type} {h : α → PyData} {p : α → Bool} {enc : β → PyData} {g : α → β} {own : List Nat} {tg : Tg} {cond elt : Ex} {τ : AE} (hτ : ∀ i ∈ own, getA τ i = .u) : ∀ {ys : List α},
    (∀ y ∈ ys, ∃ σb σc, asgA [] tg (h y) τ = some σb ∧ Ev C σb cond (.x (pB (p y))) σc ∧ (p y = false → Le (wipeA σc own) τ) ∧ (p y = true → ∃ s σd, Ev C σc elt s σd ∧ s.dat = some (enc (g y)) ∧ Le (wipeA σd own) τ)) →
    ∀ r, Sat r τ → ∃ r', lcLoop own (asgT [] tg) (fun r => boolR (evE C cond r)) (fun r => datR (evE C elt r)) (ys.map h) r = .ok (((ys.filter p).map g).map enc) r' ∧ Sat r' τ
  | [], _, r, hr => ⟨r, rfl, hr⟩
  | y :: ys, hx, r, hr => by
    obtain ⟨σb, σc, a1, a2, a3, a4⟩ := hx y List.mem_cons_self
    obtain ⟨r1, e1, e2⟩ := asg_ok [] tg (h y) (sat_wipe_in own hr hτ) a1
    obtain ⟨r2, e3, e4⟩ := boolR_ev a2 r1 e2
    have ih := lc_loop hτ (ys := ys) fun z hz => hx z (List.mem_cons_of_mem _ hz)
    rw [List.map_cons]
    unfold lcLoop
    rw [e1]
    simp only [e3, Res.bind]
    cases hp : p y with
    | false =>
      obtain ⟨r', f1, f2⟩ := ih r2 ((a3 hp).sat (sat_wipe_u own e4))
      exact ⟨r', by simp only [Bool.false_eq_true, if_false, f1, List.filter_cons, hp], f2⟩
    | true =>
      obtain ⟨s, σd, b1, b2, b3⟩ := a4 hp
      obtain ⟨r3, e5, e6⟩ := datR_ev b1 b2 r2 e4
      obtain ⟨r', f1, f2⟩ := ih r3 (b3.sat (sat_wipe_u own e6))
      exact ⟨r', by simp only [if_true, e5, f1, List.filter_cons, hp, List.map_cons], f2⟩
theorem ev_lf {α β : Type} {h : α → PyData} (p : α → Bool) (enc : β → PyData) (g : α → β) {own : List Nat} {tg : Tg} {it : It} {cond elt : Ex} {ys : List α} (hi : EvI C σ it (ys.map h) σ1)
    (hx : ∀ y ∈ ys, ∃ σb σc, asgA [] tg (h y) (wipeA σ1 own) = some σb ∧ Ev C σb cond (.x (pB (p y))) σc ∧ (p y = false → Le (wipeA σc own) (wipeA σ1 own)) ∧ (p y = true → ∃ s σd, Ev C σc elt s σd ∧ s.dat = some (enc (g y)) ∧ Le (wipeA σd own) (wipeA σ1 own))) :
    Ev C σ (.lc elt own tg it cond) (.x (.o (.list (((ys.filter p).map g).map enc)))) (wipeA σ1 own) := fun r hr => by
  obtain ⟨r1, e1, e2⟩ := hi r hr
  obtain ⟨r2, e3, e4⟩ := lc_loop (fun i hi => getA_wipe σ1 own hi) hx r1 (sat_wipe_u own e2)
  refine ⟨_, wipeE r2 own, ?_, rfl, sat_again own e4⟩
  rw [Dl.ev_lc, e1]
  simp only [Res.bind, e3]
theorem ev_lm {α β : Type} {h : α → PyData} (enc : β → PyData) (g : α → β) {own : List Nat} {tg : Tg} {it : It} {elt : Ex} {ys : List α} (hi : EvI C σ it (ys.map h) σ1)
    (hx : ∀ y ∈ ys, ∃ σb s σd, asgA [] tg (h y) (wipeA σ1 own) = some σb ∧ Ev C σb elt s σd ∧ s.dat = some (enc (g y)) ∧ Le (wipeA σd own) (wipeA σ1 own)) :
    Ev C σ (.lc elt own tg it (.c (.bool true))) (.x (.o (.list ((ys.map g).map enc)))) (wipeA σ1 own) := by
  have := ev_lf (fun _ => true) enc g hi (cond := .c (.bool true)) (elt := elt) (own := own) (tg := tg) fun y hy => by
    obtain ⟨σb, s, σd, b1, b2, b3, b4⟩ := hx y hy
    exact ⟨σb, σb, b1, ev_k _, (fun e => absurd e (by decide)), fun _ => ⟨s, σd, b2, b3, b4⟩⟩
  rw [List.filter_eq_self.mpr (fun _ _ => rfl)] at this
  exact this
/-- turn by turn, with a state -/
def mapS {α β S : Type} (f : S → α → β × S) : S → List α → List β × S
  | s, [] => ([], s)
  | s, x :: xs => let q := f s x; let t := mapS f q.2 xs; (q.1 :: t.1, t.2)
def mapSOk {α β S : Type} (ok : S → α → Prop) (f : S → α → β × S) : S → List α → Prop
  | _, [] => True
  | s, x :: xs => ok s x ∧ mapSOk ok f (f s x).2 xs
theorem lc_loops {α β S : Type} {h : α → PyData} {enc : β → PyData} {inv : S → AE} {f : S → α → β × S} {ok : S → α → Prop} {own : List Nat} {tg : Tg} {elt : Ex} (hτ : ∀ s, ∀ i ∈ own, getA (inv s) i = .u) : ∀ {ys : List α},
    (∀ s, ∀ y ∈ ys, ok s y → ∃ σb t σd, asgA [] tg (h y) (inv s) = some σb ∧ Ev C σb elt t σd ∧ t.dat = some (enc (f s y).1) ∧ Le (wipeA σd own) (inv (f s y).2)) →
    ∀ s, mapSOk ok f s ys → ∀ r, Sat r (inv s) → ∃ r', lcLoop own (asgT [] tg) (fun r => boolR (evE C (.c (.bool true)) r)) (fun r => datR (evE C elt r)) (ys.map h) r = .ok ((mapS f s ys).1.map enc) r' ∧ Sat r' (inv (mapS f s ys).2)
  | [], _, s, _, r, hr => ⟨r, rfl, hr⟩
  | y :: ys, hx, s, hk, r, hr => by
    obtain ⟨σb, t, σd, a1, a2, a3, a4⟩ := hx s y List.mem_cons_self hk.1
    obtain ⟨r1, e1, e2⟩ := asg_ok [] tg (h y) (sat_wipe_in own hr (hτ s)) a1
    obtain ⟨r3, e5, e6⟩ := datR_ev a2 a3 r1 e2
    obtain ⟨r', f1, f2⟩ := lc_loops hτ (ys := ys) (fun s z hz => hx s z (List.mem_cons_of_mem _ hz)) (f s y).2 hk.2 r3 (a4.sat (sat_wipe_u own e6))
    refine ⟨r', ?_, f2⟩
    rw [List.map_cons]
    unfold lcLoop
    rw [e1]
    have hb : boolR (evE C (.c (.bool true)) r1) = .ok true r1 := rfl
    simp only [hb, Res.bind, if_true, e5, f1]
    rfl
theorem ev_lt {α β S : Type} {h : α → PyData} (enc : β → PyData) (inv : S → AE) (f : S → α → β × S) (ok : S → α → Prop) (s0 : S) {own : List Nat} {tg : Tg} {it : It} {elt : Ex} {ys : List α} (hi : EvI C σ it (ys.map h) σ1) (l : Le (wipeA σ1 own) (inv s0)) (hτ : ∀ s, ∀ i ∈ own, getA (inv s) i = .u)
    (hx : ∀ s, ∀ y ∈ ys, ok s y → ∃ σb t σd, asgA [] tg (h y) (inv s) = some σb ∧ Ev C σb elt t σd ∧ t.dat = some (enc (f s y).1) ∧ Le (wipeA σd own) (inv (f s y).2)) (hk : mapSOk ok f s0 ys) :
    Ev C σ (.lc elt own tg it (.c (.bool true))) (.x (.o (.list ((mapS f s0 ys).1.map enc)))) (inv (mapS f s0 ys).2) := fun r hr => by
  obtain ⟨r1, e1, e2⟩ := hi r hr
  obtain ⟨r2, e3, e4⟩ := lc_loops hτ hx s0 hk r1 (l.sat (sat_wipe_u own e2))
  refine ⟨_, wipeE r2 own, ?_, rfl, sat_wipe_in own e4 (hτ _)⟩
  rw [Dl.ev_lc, e1]
  simp only [Res.bind, e3]
theorem ev_lc2 (elt : Ex) (own : List Nat) (tg : Tg) (it : It) (c : Ex) (tg2 : Tg) (it2 : It) (c2 : Ex) (r : Env) : evE C (.lc2 elt own tg it c tg2 it2 c2) r = (evI C it r).bind fun xs r1 =>
    (lcLoop2 own (asgT [] tg) (fun r => boolR (evE C c r)) (fun r => (evI C it2 r).bind fun ys r2 => lcLoop (tgIx tg2) (asgT [] tg2) (fun r => boolR (evE C c2 r)) (fun r => datR (evE C elt r)) ys r2) xs r1).bind fun ds r2 =>
      if ds.length ≤ sizeLine then .ok (.o (.list ds)) (wipeE r2 own) else .bad := rfl
theorem lc_loop2 {α β : Type} {h : α → PyData} {p : α → Bool} {enc : β → PyData} {g : α → List β} {own : List Nat} {tg : Tg} {cond : Ex} {inner : Env → Res (List PyData)} {τ : AE} (hτ : ∀ i ∈ own, getA τ i = .u) : ∀ {ys : List α},
    (∀ y ∈ ys, ∃ σb σc, asgA [] tg (h y) τ = some σb ∧ Ev C σb cond (.x (pB (p y))) σc ∧ (p y = false → Le (wipeA σc own) τ) ∧ (p y = true → ∀ r, Sat r σc → ∃ r', inner r = .ok ((g y).map enc) r' ∧ Sat r' τ)) →
    ∀ r, Sat r τ → ∃ r', lcLoop2 own (asgT [] tg) (fun r => boolR (evE C cond r)) inner (ys.map h) r = .ok (((ys.filter p).flatMap g).map enc) r' ∧ Sat r' τ
  | [], _, r, hr => ⟨r, rfl, hr⟩
  | y :: ys, hx, r, hr => by
    obtain ⟨σb, σc, a1, a2, a3, a4⟩ := hx y List.mem_cons_self
    obtain ⟨r1, e1, e2⟩ := asg_ok [] tg (h y) (sat_wipe_in own hr hτ) a1
    obtain ⟨r2, e3, e4⟩ := boolR_ev a2 r1 e2
    have ih := lc_loop2 hτ (ys := ys) fun z hz => hx z (List.mem_cons_of_mem _ hz)
    rw [List.map_cons]
    unfold lcLoop2
    rw [e1]
    simp only [e3, Res.bind]
    cases hp : p y with
    | false =>
      obtain ⟨r', f1, f2⟩ := ih r2 ((a3 hp).sat (sat_wipe_u own e4))
      exact ⟨r', by simp only [Bool.false_eq_true, if_false, f1, List.filter_cons, hp], f2⟩
    | true =>
      obtain ⟨r3, e5, e6⟩ := a4 hp r2 e4
      obtain ⟨r', f1, f2⟩ := ih r3 e6
      exact ⟨r', by simp only [if_true, e5, f1, List.filter_cons, hp, List.flatMap_cons, List.map_append], f2⟩
/-- two fors, one condition behind them -/
theorem ev_l2 {α β γ : Type} {h : α → PyData} {h2 : β → PyData} (zs : α → List β) (p : α → β → Bool) (enc : γ → PyData) (g : α → β → γ) {own : List Nat} {tg tg2 : Tg} {it it2 : It} {cond2 elt : Ex} {ys : List α} (hi : EvI C σ it (ys.map h) σ1)
    (hx : ∀ y ∈ ys, ∃ σb σi, asgA [] tg (h y) (wipeA σ1 own) = some σb ∧ EvI C σb it2 ((zs y).map h2) σi ∧ Le (wipeA σi own) (wipeA σ1 own) ∧ ∀ z ∈ zs y, ∃ σe σc, asgA [] tg2 (h2 z) (wipeA σi (tgIx tg2)) = some σe ∧ Ev C σe cond2 (.x (pB (p y z))) σc ∧
      (p y z = false → Le (wipeA σc (tgIx tg2)) (wipeA σi (tgIx tg2))) ∧ (p y z = true → ∃ s σd, Ev C σc elt s σd ∧ s.dat = some (enc (g y z)) ∧ Le (wipeA σd (tgIx tg2)) (wipeA σi (tgIx tg2))))
    (hl : (ys.flatMap fun y => ((zs y).filter (p y)).map (g y)).length ≤ 16777216) (hsub : ∀ i ∈ tgIx tg2, i ∈ own) :
    Ev C σ (.lc2 elt own tg it (.c (.bool true)) tg2 it2 cond2) (.x (.o (.list ((ys.flatMap fun y => ((zs y).filter (p y)).map (g y)).map enc)))) (wipeA σ1 own) := fun r hr => by
  obtain ⟨r1, e1, e2⟩ := hi r hr
  have key := lc_loop2 (C := C) (h := h) (p := fun _ => true) (enc := enc) (g := fun y => ((zs y).filter (p y)).map (g y)) (own := own) (tg := tg) (cond := .c (.bool true)) (inner := fun r => (evI C it2 r).bind fun ys r2 => lcLoop (tgIx tg2) (asgT [] tg2) (fun r => boolR (evE C cond2 r)) (fun r => datR (evE C elt r)) ys r2) (τ := wipeA σ1 own) (fun i hi => getA_wipe σ1 own hi) (ys := ys) (fun y hy => by
    obtain ⟨σb, σi, b1, b2, b3, b4⟩ := hx y hy
    refine ⟨σb, σb, b1, ev_k _, (fun e => absurd e (by decide)), fun _ r hr => ?_⟩
    obtain ⟨r2, f1, f2⟩ := b2 r hr
    obtain ⟨r3, f3, f4⟩ := lc_loop (fun i hi => getA_wipe σi (tgIx tg2) hi) b4 r2 (sat_wipe_u _ f2)
    refine ⟨r3, ?_, ?_⟩
    · simp only [f1, Res.bind, f3]
    · refine b3.sat ?_
      have : ∀ (is js : List Nat) (σ : AE) {r : Env}, (∀ i ∈ is, i ∈ js) → Sat r (wipeA σ is) → Sat r (wipeA σ js) := by
        intro is js σ r hs hr
        exact (show Le (wipeA σ is) (wipeA σ js) from by
          have gl : ∀ (σ τ : AE), σ.length = τ.length → (∀ i, getA τ i = .u ∨ getA τ i = getA σ i) → Le σ τ := by
            intro σ
            induction σ with
            | nil => intro τ hl _; cases τ with | nil => exact .n | cons _ _ => cases hl
            | cons s σ ih => intro τ hl hg; cases τ with
              | nil => cases hl
              | cons t τ =>
                have t0 := hg 0
                have tl := ih τ (by simpa using hl) fun i => hg (i + 1)
                rcases t0 with e | e
                · cases (show t = .u from e); exact .u tl
                · cases (show t = s from e); exact .s tl
          have sl : ∀ (σ : AE) (i : Nat) (s : Sl), (setA σ i s).length = σ.length := by
            intro σ
            induction σ with
            | nil => intro i s; rfl
            | cons a σ ih => intro i s; cases i with
              | zero => rfl
              | succ i => simp [setA, ih]
          have wl : ∀ is : List Nat, (wipeA σ is).length = σ.length := by
            intro is
            induction is with
            | nil => rfl
            | cons i is ih => unfold wipeA; rw [sl, ih]
          have wg : ∀ (is : List Nat) (j : Nat), j ∉ is → getA (wipeA σ is) j = getA σ j := by
            intro is
            induction is with
            | nil => intro j _; rfl
            | cons i is ih => intro j hj; unfold wipeA; rw [getA_set_ne _ _ (fun e => hj (by rw [e]; exact List.mem_cons_self)), ih j (fun m => hj (List.mem_cons_of_mem _ m))]
          refine gl _ _ (by rw [wl, wl]) fun j => ?_
          by_cases hj : j ∈ js
          · exact .inl (getA_wipe σ js hj)
          · right
            rw [wg js j hj, wg is j (fun m => hj (hs j m))]).sat hr
      exact this _ _ σi hsub f4) r1 (sat_wipe_u own e2)
  obtain ⟨r2, e3, e4⟩ := key
  rw [List.filter_eq_self.mpr (fun _ _ => rfl)] at e3
  have hz : sizeLine = 16777216 := rfl
  refine ⟨_, wipeE r2 own, ?_, rfl, sat_again own e4⟩
  rw [ev_lc2, e1]
  show Res.bind (lcLoop2 _ _ _ _ _ _) _ = _
  rw [e3]
  show (if _ ≤ sizeLine then Res.ok _ _ else Res.bad) = _
  rw [if_pos (by rw [List.length_map]; omega)]
end
end Lf

set_option Elab.async false
set_option linter.all false
set_option maxRecDepth 100000
/-! statements -/
namespace Lf
open PySem hiding Env Arg
open Dl
inductive Step (S R : Type) where
  | nx (s : S)
  | rt (v : R)
def Step.bind {S R S' : Type} (x : Step S R) (f : S → Step S' R) : Step S' R := match x with
  | .nx s => f s
  | .rt v => .rt v
def SP {S R : Type} (inv : S → AE) (ret : R → Sl) (rinv : R → AE) (x : Step S R) (o : Out) : Prop := match x with
  | .nx s => ∃ r', (o = .nx r' ∨ o = .ct r') ∧ Sat r' (inv s)
  | .rt v => ∃ d r', o = .rt d r' ∧ SlOk (ret v) (some d) ∧ Sat r' (rinv v)
def ES (C : CS) (np : Nat) (lk : List Nat) (σ : AE) (ss : List St) (P : Out → Prop) : Prop := ∀ r, Sat r σ → P (evSs C np lk ss r)
def S1 (C : CS) (np : Nat) (lk : List Nat) (σ : AE) (s : St) (σ' : AE) : Prop := ∀ r, Sat r σ → ∃ r', evS C np lk s r = .nx r' ∧ Sat r' σ'
/-- goes to the end -/
def NX (σ : AE) (o : Out) : Prop := ∃ r', o = .nx r' ∧ Sat r' σ
section
variable {C : CS} {np : Nat} {lk : List Nat} {σ σ1 σ2 σ3 : AE}
theorem evSs_cons (s : St) (ss : List St) (r : Env) : evSs C np lk (s :: ss) r = (evS C np lk s r).seq fun r1 => evSs C np lk ss r1 := rfl
theorem evSs_app : ∀ (a b : List St) (r : Env), evSs C np lk (a ++ b) r = (evSs C np lk a r).seq fun r1 => evSs C np lk b r1
  | [], b, r => rfl
  | s :: a, b, r => by
    rw [List.cons_append, evSs_cons, evSs_cons]
    cases evS C np lk s r with
    | nx r1 => exact evSs_app a b r1
    | rt d r1 => rfl
    | ct r1 => rfl
    | bk r1 => rfl
    | ex x r1 => rfl
    | bad => rfl
theorem ss_c {s : St} {ss : List St} {P : Out → Prop} (h : S1 C np lk σ s σ1) (t : ES C np lk σ1 ss P) : ES C np lk σ (s :: ss) P := fun r hr => by
  obtain ⟨r1, h1, h2⟩ := h r hr
  rw [evSs_cons, h1]
  exact t r1 h2
theorem ES.pre {ss : List St} {P : Out → Prop} (l : Le σ σ1) (h : ES C np lk σ1 ss P) : ES C np lk σ ss P := fun r hr => h r (l.sat hr)
theorem S1.le {s : St} (h : S1 C np lk σ s σ1) (l : Le σ1 σ2) : S1 C np lk σ s σ2 := fun r hr => by
  obtain ⟨r1, h1, h2⟩ := h r hr
  exact ⟨r1, h1, l.sat h2⟩
theorem s_as {i : Nat} {e : Ex} {s : Sl} (h : Ev C σ e s σ1) (hl : lk.contains i = false) : S1 C np lk σ (.asg i e) (setA σ1 i s) := fun r hr => by
  obtain ⟨d, r1, h1, h2, h3⟩ := h r hr
  refine ⟨r1.set i (some d), ?_, sat_set i h3 h2⟩
  rw [es_asg]
  unfold asgS
  rw [h1]
  show setS lk i d r1 = _
  unfold setS
  rw [hl]
  rfl
theorem s_un {ts : List Tg} {e : Ex} {s : Sl} {v : PyData} (h : Ev C σ e s σ1) (hv : s.dat = some v) (ha : asgA lk (.t ts) v σ1 = some σ2) : S1 C np lk σ (.unp ts e) σ2 := fun r hr => by
  obtain ⟨r1, h1, h2⟩ := datR_ev h hv r hr
  obtain ⟨r2, h3, h4⟩ := asg_ok lk (.t ts) v h2 ha
  refine ⟨r2, ?_, h4⟩
  rw [es_unp]
  unfold unpS
  simp only [h1, Res.out, h3, Out.ofO]
def EvDs (C : CS) (σ : AE) (es : List Ex) (ss : List Sl) (σ' : AE) : Prop := ∀ r, Sat r σ → ∃ ds r', evDs C es r = .ok ds r' ∧ VsOk ss ds ∧ Sat r' σ'
theorem ds_n : EvDs C σ [] [] σ := fun r hr => ⟨[], r, rfl, trivial, hr⟩
theorem ds_c {e : Ex} {es : List Ex} {s : Sl} {ss : List Sl} (h : Ev C σ e s σ1) (t : EvDs C σ1 es ss σ2) : EvDs C σ (e :: es) (s :: ss) σ2 := fun r hr => by
  obtain ⟨d, r1, h1, h2, h3⟩ := h r hr
  obtain ⟨ds, r2, h4, h5, h6⟩ := t r1 h3
  refine ⟨d :: ds, r2, ?_, ⟨h2, h5⟩, h6⟩
  show (evE C e r).bind (fun d r1 => (evDs C es r1).bind fun ds r2 => .ok (d :: ds) r2) = _
  rw [h1]
  show (evDs C es r1).bind (fun ds r2 => .ok (d :: ds) r2) = _
  rw [h4]; rfl
def setAs : List Nat → List Sl → AE → AE
  | i :: is, s :: ss, σ => setAs is ss (setA σ i s)
  | _, _, σ => σ
theorem setAll_ok : ∀ {is : List Nat} {ss : List Sl} {ds : List D} {σ : AE} {r : Env}, is.length = ss.length → (∀ i ∈ is, lk.contains i = false) → Sat r σ → VsOk ss ds → ∃ r', setAll lk is ds r = .nx r' ∧ Sat r' (setAs is ss σ)
  | [], [], [], σ, r, _, _, hr, _ => ⟨r, rfl, hr⟩
  | [], [], _ :: _, _, _, _, _, _, h => h.elim
  | [], _ :: _, _, _, _, h, _, _, _ => by cases h
  | _ :: _, [], _, _, _, h, _, _, _ => by cases h
  | _ :: _, _ :: _, [], _, _, _, _, _, h => h.elim
  | i :: is, s :: ss, d :: ds, σ, r, hl, hk, hr, ⟨h1, h2⟩ => by
    obtain ⟨r', e1, e2⟩ := setAll_ok (is := is) (ss := ss) (ds := ds) (σ := setA σ i s) (r := r.set i (some d)) (by simpa using hl) (fun j hj => hk j (List.mem_cons_of_mem _ hj)) (sat_set i hr h1) h2
    refine ⟨r', ?_, e2⟩
    unfold setAll setS
    rw [hk i List.mem_cons_self]
    exact e1
theorem s_pa {is : List Nat} {es : List Ex} {ss : List Sl} (h : EvDs C σ es ss σ1) (hl : is.length = ss.length) (hk : is.all (fun i => !lk.contains i) = true) : S1 C np lk σ (.par is es) (setAs is ss σ1) := fun r hr => by
  obtain ⟨ds, r1, h1, h2, h3⟩ := h r hr
  obtain ⟨r2, h4, h5⟩ := setAll_ok (lk := lk) hl (fun i hi => by simpa using List.all_eq_true.mp hk i hi) h3 h2
  refine ⟨r2, ?_, h5⟩
  rw [es_par]
  unfold parS
  simp only [h1, Res.out, h4]
theorem s_ex {e : Ex} {s : Sl} (h : Ev C σ e s σ1) : S1 C np lk σ (.exp e) σ1 := fun r hr => by
  obtain ⟨d, r1, h1, h2, h3⟩ := h r hr
  refine ⟨r1, ?_, h3⟩
  rw [es_exp]
  unfold expS
  simp only [h1, Res.out]
theorem s_ps : S1 C np lk σ .pass σ := fun r hr => ⟨r, rfl, hr⟩
theorem listAt_ok {r : Env} {i : Nat} {xs : List PyData} (hr : Sat r σ) (h : getA σ i = .x (.o (.list xs))) : listAt r i = some xs := by
  unfold listAt
  rw [sat_x hr h]
theorem s_ap {i : Nat} {α : Type} {f : α → PyData} {e : Ex} {s : Sl} {y : α} {xs ws : List α} (hw : getA σ i = .x (.o (.list (ws.map f)))) (h : Ev C σ e s σ1) (hv : s.dat = some (f y)) (hx : getA σ1 i = .x (.o (.list (xs.map f)))) (hz : xs.length < 16777216) :
    S1 C np lk σ (.app i e) (setA σ1 i (.x (.o (.list ((xs ++ [y]).map f))))) := fun r hr => by
  obtain ⟨r1, h1, h2⟩ := datR_ev h hv r hr
  have hs : sizeLine = 16777216 := rfl
  refine ⟨r1.set i (some (.o (.list ((xs ++ [y]).map f)))), ?_, sat_set i h2 rfl⟩
  rw [es_app]
  unfold appS
  rw [listAt_ok hr hw]
  simp only [h1, Res.out, listAt_ok h2 hx, List.length_map]
  rw [if_pos (by omega)]
  unfold putL
  rw [List.map_append]
  rfl
theorem s_xt {i : Nat} {α : Type} {f : α → PyData} {e : Ex} {ys xs ws : List α} (hw : getA σ i = .x (.o (.list (ws.map f)))) (h : Ev C σ e (.x (.o (.list (ys.map f)))) σ1) (hx : getA σ1 i = .x (.o (.list (xs.map f)))) (hz : xs.length + ys.length ≤ 16777216) :
    S1 C np lk σ (.ext i e) (setA σ1 i (.x (.o (.list ((xs ++ ys).map f))))) := fun r hr => by
  obtain ⟨d, r1, h1, h2, h3⟩ := h r hr
  cases h2
  have hs : sizeLine = 16777216 := rfl
  refine ⟨r1.set i (some (.o (.list ((xs ++ ys).map f)))), ?_, sat_set i h3 rfl⟩
  rw [es_ext]
  unfold extS
  rw [listAt_ok hr hw]
  simp only [h1, Res.out, listAt_ok h3 hx, List.length_map]
  rw [if_pos (by omega)]
  unfold putL
  rw [List.map_append]
def IxOk {α : Type} (xs : List α) (i : Int) : Prop := -(xs.length : Int) ≤ i ∧ i < xs.length
def ixN {α : Type} (xs : List α) (i : Int) : Nat := if 0 ≤ i then i.toNat else (xs.length + i).toNat
def ixF {α : Type} [Inhabited α] (xs : List α) (i : Int) : α := (xs[ixN xs i]?).getD default
def setF {α : Type} (xs : List α) (i : Int) (y : α) : List α := xs.set (ixN xs i) y
theorem ixN_eq {α : Type} {xs : List α} {i : Int} (h : IxOk xs i) : L2.ixN xs.length i = some (ixN xs i) ∧ ixN xs i < xs.length := by
  obtain ⟨h1, h2⟩ := h
  unfold L2.ixN ixN
  by_cases h0 : 0 ≤ i
  · rw [if_pos h0, if_pos h0]
    exact ⟨by rw [if_pos (by omega)], by omega⟩
  · rw [if_neg h0, if_neg h0]
    refine ⟨?_, by omega⟩
    rw [if_pos (by omega), Int.add_comm]
theorem setIx_eq {α : Type} {f : α → PyData} {xs : List α} {i : Int} {y : α} (h : IxOk xs i) : setIx (xs.map f) i (f y) = some ((setF xs i y).map f) := by
  unfold setIx setF
  rw [List.length_map, (ixN_eq h).1]
  simp [List.map_set]
theorem s_st {i : Nat} {α : Type} {f : α → PyData} {e ix : Ex} {s : Sl} {y : α} {x : SArg} {xs ws : List α} {k : Int} (h : Ev C σ e s σ1) (hv : s.dat = some (f y)) (hw : getA σ1 i = .x (.o (.list (ws.map f)))) (hi : OpV C σ1 ix x σ2) (hk : x.dat σ2 = some (.int k)) (hx : getA σ2 i = .x (.o (.list (xs.map f)))) (hz : IxOk xs k) :
    S1 C np lk σ (.setI i ix e) (setA σ2 i (.x (.o (.list ((setF xs k y).map f))))) := fun r hr => by
  obtain ⟨r1, h1, h2⟩ := datR_ev h hv r hr
  obtain ⟨r2, h3, h4⟩ := intR_ev hi hk r1 h2
  refine ⟨r2.set i (some (.o (.list ((setF xs k y).map f)))), ?_, sat_set i h4 rfl⟩
  rw [es_setI]
  unfold setIS
  simp only [h1, Res.out, listAt_ok h2 hw, h3, listAt_ok h4 hx, Option.bind, setIx_eq hz]
  rfl
/-! ### ends -/
def RE (C : CS) (np : Nat) (σ : AE) (e : Ex) (s : Sl) (σ' : AE) : Prop := ∀ r, Sat r σ → ∃ d r', retE C np e r = .ok d r' ∧ SlOk s (some d) ∧ Sat r' σ'
theorem re_e {e : Ex} {s : Sl} (hx : e.vix = none) (h : Ev C σ e s σ1) : RE C np σ e s σ1 := fun r hr => by
  obtain ⟨d, r1, h1, h2, h3⟩ := h r hr
  refine ⟨d, r1, ?_, h2, h3⟩
  unfold retE
  rw [hx]
  exact h1
theorem re_p {i : Nat} {s : Sl} (hi : i < np) (h : Ev C σ (.var i) s σ1) : RE C np σ (.var i) s σ1 := fun r hr => by
  obtain ⟨d, r1, h1, h2, h3⟩ := h r hr
  refine ⟨d, r1, ?_, h2, h3⟩
  unfold retE
  simp only [Ex.vix, hi, if_true]
  exact h1
theorem re_l {i : Nat} {s : Sl} (hi : ¬ i < np) (h : getA σ i = s) (hs : s ≠ .u) : RE C np σ (.var i) s (setA σ i .u) := fun r hr => by
  obtain ⟨d, h1, h2⟩ := sat_get i hr (by rw [h]; exact hs)
  rw [h] at h2
  refine ⟨d, r.set i none, ?_, h2, sat_set i hr trivial⟩
  unfold retE
  simp only [Ex.vix]
  rw [if_neg hi, h1]
theorem re_lx {i : Nat} {d : D} (hi : ¬ i < np) (h : getA σ i = .x d) : RE C np σ (.var i) (.x d) (setA σ i .u) := re_l hi h (fun e => by cases e)
theorem re_lw {i : Nat} {d : PyData} (hi : ¬ i < np) (h : getA σ i = .w d) : RE C np σ (.var i) (.w d) (setA σ i .u) := re_l hi h (fun e => by cases e)
theorem RE.wd {e : Ex} {d : D} {v : PyData} (h : RE C np σ e (.x d) σ1) (hv : d = .p v ∨ d = .o v) : RE C np σ e (.w v) σ1 := fun r hr => by
  obtain ⟨d', r1, h1, h2, h3⟩ := h r hr
  cases h2
  exact ⟨d, r1, h1, by rcases hv with rfl | rfl; exact .inl rfl; exact .inr rfl, h3⟩
section
variable {S R S' : Type} {inv : S → AE} {inv' : S' → AE} {ret : R → Sl} {rinv : R → AE}
theorem sp_rt {e : Ex} {rest : List St} {v : R} (h : RE C np σ e (ret v) σ1) (l : Le σ1 (rinv v)) : ES C np lk σ (.ret e :: rest) (SP inv ret rinv (.rt v)) := fun r hr => by
  obtain ⟨d, r1, h1, h2, h3⟩ := h r hr
  refine ⟨d, r1, ?_, h2, l.sat h3⟩
  rw [evSs_cons, es_ret]
  unfold retS
  rw [h1]
  rfl
theorem sp_rn {rest : List St} {v : R} (h : ret v = .x (.p .none)) (l : Le σ (rinv v)) : ES C np lk σ (.retN :: rest) (SP inv ret rinv (.rt v)) := fun r hr => by
  refine ⟨.p .none, r, ?_, by rw [h]; rfl, l.sat hr⟩
  rw [evSs_cons, es_retN]
  rfl
theorem sp_en {s : S} (l : Le σ (inv s)) : ES C np lk σ [] (SP inv ret rinv (.nx s)) := fun r hr => ⟨r, .inl rfl, l.sat hr⟩
theorem sp_ct {s : S} {rest : List St} (l : Le σ (inv s)) : ES C np lk σ (.cont :: rest) (SP inv ret rinv (.nx s)) := fun r hr => ⟨r, .inr (by rw [evSs_cons, es_cont]; rfl), l.sat hr⟩
theorem nx_en (l : Le σ σ1) : ES C np lk σ [] (NX σ1) := fun r hr => ⟨r, rfl, l.sat hr⟩
theorem if_ev {c : Ex} {a b rest : List St} {k : Bool} {P : Out → Prop} (h : Ev C σ c (.x (pB k)) σ1) (ha : k = true → ES C np lk σ1 (a ++ rest) P) (hb : k = false → ES C np lk σ1 (b ++ rest) P) : ES C np lk σ (.ifs c a b :: rest) P := fun r hr => by
  obtain ⟨r1, h1, h2⟩ := boolR_ev h r hr
  rw [evSs_cons, es_ifs]
  unfold ifS
  simp only [h1, Res.out]
  cases k with
  | true => have := ha rfl r1 h2; rw [evSs_app] at this; exact this
  | false => have := hb rfl r1 h2; rw [evSs_app] at this; exact this
theorem sp_if {c : Ex} {a b rest : List St} {k : Bool} {x y : Step S R} (h : Ev C σ c (.x (pB k)) σ1) (ha : k = true → ES C np lk σ1 (a ++ rest) (SP inv ret rinv x)) (hb : k = false → ES C np lk σ1 (b ++ rest) (SP inv ret rinv y)) : ES C np lk σ (.ifs c a b :: rest) (SP inv ret rinv (if k = true then x else y)) := by
  refine if_ev h (fun hk => ?_) (fun hk => ?_)
  · have := ha hk; rw [hk]; exact this
  · have := hb hk; rw [hk]; exact this
/-- both ways go on -/
theorem s_if {α : Type} (inv : α → AE) {c : Ex} {a b : List St} {k : Bool} {x y : α} (h : Ev C σ c (.x (pB k)) σ1) (ha : k = true → ES C np lk σ1 a (NX (inv x))) (hb : k = false → ES C np lk σ1 b (NX (inv y))) : S1 C np lk σ (.ifs c a b) (inv (if k = true then x else y)) := fun r hr => by
  obtain ⟨r1, h1, h2⟩ := boolR_ev h r hr
  rw [es_ifs]
  unfold ifS
  simp only [h1, Res.out]
  cases k with
  | true => exact ha rfl r1 h2
  | false => exact hb rfl r1 h2
/-! ### loops -/
def loopF {α : Type} (f : S → α → Step S R) : S → List α → Step S R
  | s, [] => .nx s
  | s, x :: xs => (f s x).bind fun s' => loopF f s' xs
def loopOk {α : Type} (ok : S → α → Prop) (f : S → α → Step S R) : S → List α → Prop
  | _, [] => True
  | s, x :: xs => ok s x ∧ ∀ s', f s x = .nx s' → loopOk ok f s' xs
def foldOk {α : Type} (ok : S → α → Prop) (f : S → α → S) : S → List α → Prop
  | _, [] => True
  | s, x :: xs => ok s x ∧ foldOk ok f (f s x) xs
theorem for_sp {α : Type} {h : α → PyData} {f : S → α → Step S R} {ok : S → α → Prop} {t : Tg} {body : List St} : ∀ {ys : List α},
    (∀ s, ∀ y ∈ ys, ok s y → ∃ σb, asgA lk t (h y) (inv s) = some σb ∧ ES C np lk σb body (SP inv ret rinv (f s y))) → ∀ s, loopOk ok f s ys → ∀ r, Sat r (inv s) →
      match loopF f s ys with
      | .nx s' => ∃ r', forLoop (asgT lk t) (fun r => evSs C np lk body r) (ys.map h) r = .nx r' ∧ Sat r' (inv s')
      | .rt v => ∃ d r', forLoop (asgT lk t) (fun r => evSs C np lk body r) (ys.map h) r = .rt d r' ∧ SlOk (ret v) (some d) ∧ Sat r' (rinv v)
  | [], _, s, _, r, hr => ⟨r, rfl, hr⟩
  | y :: ys, hb, s, hk, r, hr => by
    obtain ⟨σb, a1, a2⟩ := hb s y List.mem_cons_self hk.1
    obtain ⟨r1, e1, e2⟩ := asg_ok lk t (h y) hr a1
    have e3 := a2 r1 e2
    have k2 := hk.2
    unfold loopF
    rw [List.map_cons]
    unfold forLoop
    rw [e1]
    cases hf : f s y with
    | nx s' =>
      rw [hf] at e3
      obtain ⟨r2, e4, e5⟩ := e3
      have ih := for_sp (ys := ys) (fun s z hz => hb s z (List.mem_cons_of_mem _ hz)) s' (k2 s' hf) r2 e5
      rcases e4 with e4 | e4 <;> (simp only [e4]; exact ih)
    | rt v =>
      rw [hf] at e3
      obtain ⟨d, r2, e4, e5, e6⟩ := e3
      exact ⟨d, r2, by simp only [e4], e5, e6⟩
theorem sp_fo {α : Type} {h : α → PyData} (inv : S → AE) (f : S → α → Step S R) (ok : S → α → Prop) (s0 : S) {g : S → Step S' R} {t : Tg} {it : It} {body rest : List St} {ys : List α} (hi : EvI C σ it (ys.map h) σ1) (l : Le σ1 (inv s0))
    (hb : ∀ s, ∀ y ∈ ys, ok s y → ∃ σb, asgA lk t (h y) (inv s) = some σb ∧ ES C np lk σb body (SP inv ret rinv (f s y))) (hk : loopOk ok f s0 ys)
    (hn : ∀ s, loopF f s0 ys = .nx s → ES C np lk (inv s) rest (SP inv' ret rinv (g s))) : ES C np lk σ (.for_ t it body :: rest) (SP inv' ret rinv ((loopF f s0 ys).bind g)) := fun r hr => by
  obtain ⟨r1, e1, e2⟩ := hi r hr
  have e3 := for_sp hb s0 hk r1 (l.sat e2)
  rw [evSs_cons, es_for, e1]
  cases hf : loopF f s0 ys with
  | nx s =>
    rw [hf] at e3
    obtain ⟨r2, e4, e5⟩ := e3
    simp only [Res.out, e4]
    exact hn s hf r2 e5
  | rt v =>
    rw [hf] at e3
    obtain ⟨d, r2, e4, e5, e6⟩ := e3
    simp only [Res.out, e4]
    exact ⟨d, r2, rfl, e5, e6⟩
theorem loop_fold {α : Type} (f : S → α → S) : ∀ (ys : List α) (s : S), loopF (R := R) (fun s y => .nx (f s y)) s ys = .nx (ys.foldl f s)
  | [], _ => rfl
  | y :: ys, s => by
    unfold loopF
    exact loop_fold f ys (f s y)
theorem loopOk_fold {α : Type} {ok : S → α → Prop} {f : S → α → S} : ∀ {ys : List α} {s : S}, foldOk ok f s ys → loopOk (R := R) ok (fun s y => .nx (f s y)) s ys
  | [], _, _ => trivial
  | y :: ys, s, h => ⟨h.1, fun s' e => by cases e; exact loopOk_fold h.2⟩
/-- no turn ends the def -/
theorem s_fo {α : Type} {h : α → PyData} (inv : S → AE) (f : S → α → S) (ok : S → α → Prop) (s0 : S) {t : Tg} {it : It} {body : List St} {ys : List α} (hi : EvI C σ it (ys.map h) σ1) (l : Le σ1 (inv s0))
    (hb : ∀ s, ∀ y ∈ ys, ok s y → ∃ σb, asgA lk t (h y) (inv s) = some σb ∧ ES C np lk σb body (SP (R := Unit) inv (fun _ => .u) (fun _ => []) (.nx (f s y)))) (hk : foldOk ok f s0 ys) : S1 C np lk σ (.for_ t it body) (inv (ys.foldl f s0)) := fun r hr => by
  obtain ⟨r1, e1, e2⟩ := hi r hr
  have e3 := for_sp hb s0 (loopOk_fold hk) r1 (l.sat e2)
  rw [loop_fold] at e3
  obtain ⟨r2, e4, e5⟩ := e3
  refine ⟨r2, ?_, e5⟩
  rw [es_for, e1]
  exact e4
/-! while: fuel -/
theorem fuEx : ∃ n : Nat, n = wfuel := ⟨_, rfl⟩
noncomputable def fu : Nat := Classical.choose fuEx
theorem fu_eq : fu = wfuel := Classical.choose_spec fuEx
def whF (c : S → Bool) (f : S → Step S R) : Nat → S → Step S R
  | 0, s => .nx s
  | n + 1, s => if c s = true then (f s).bind fun s' => whF c f n s' else .nx s
def whOk (cok : S → Prop) (c : S → Bool) (ok : S → Prop) (f : S → Step S R) : Nat → S → Prop
  | 0, _ => False
  | n + 1, s => cok s ∧ (c s = true → ok s ∧ ∀ s', f s = .nx s' → whOk cok c ok f n s')
theorem wh_sp {c : Ex} {cf : S → Bool} {cok ok : S → Prop} {f : S → Step S R} {body : List St} (hc : ∀ s, cok s → Ev C (inv s) c (.x (pB (cf s))) (inv s)) (hb : ∀ s, ok s → ES C np lk (inv s) body (SP inv ret rinv (f s))) :
    ∀ (n : Nat) (s : S), whOk cok cf ok f n s → ∀ r, Sat r (inv s) → match whF cf f n s with
      | .nx s' => ∃ r', whLoop (fun r => boolR (evE C c r)) (fun r => evSs C np lk body r) n r = .nx r' ∧ Sat r' (inv s')
      | .rt v => ∃ d r', whLoop (fun r => boolR (evE C c r)) (fun r => evSs C np lk body r) n r = .rt d r' ∧ SlOk (ret v) (some d) ∧ Sat r' (rinv v)
  | 0, s, h, _, _ => h.elim
  | n + 1, s, h, r, hr => by
    obtain ⟨r1, e1, e2⟩ := boolR_ev (hc s h.1) r hr
    have h2 := h.2
    unfold whF whLoop
    simp only [e1, Res.out]
    cases hcf : cf s with
    | false => exact ⟨r1, rfl, e2⟩
    | true =>
      obtain ⟨k1, k2⟩ := h2 hcf
      have e3 := hb s k1 r1 e2
      simp only [if_true]
      cases hf : f s with
      | nx s' =>
        rw [hf] at e3
        obtain ⟨r2, e4, e5⟩ := e3
        have ih := wh_sp hc hb n s' (k2 s' hf) r2 e5
        rcases e4 with e4 | e4 <;> (simp only [e4]; exact ih)
      | rt v =>
        rw [hf] at e3
        obtain ⟨d, r2, e4, e5, e6⟩ := e3
        exact ⟨d, r2, by simp only [e4], e5, e6⟩
theorem sp_wh (inv : S → AE) (cf : S → Bool) (cok ok : S → Prop) (f : S → Step S R) (s0 : S) {g : S → Step S' R} {c : Ex} {body rest : List St} (l : Le σ (inv s0)) (hc : ∀ s, cok s → Ev C (inv s) c (.x (pB (cf s))) (inv s)) (hb : ∀ s, ok s → ES C np lk (inv s) body (SP inv ret rinv (f s)))
    (hk : whOk cok cf ok f fu s0) (hn : ∀ s, whF cf f fu s0 = .nx s → ES C np lk (inv s) rest (SP inv' ret rinv (g s))) : ES C np lk σ (.whl c body :: rest) (SP inv' ret rinv ((whF cf f fu s0).bind g)) := fun r hr => by
  rw [fu_eq] at hk hn ⊢
  have e3 := wh_sp hc hb wfuel s0 hk r (l.sat hr)
  rw [evSs_cons, es_whl]
  cases hf : whF cf f wfuel s0 with
  | nx s =>
    rw [hf] at e3
    obtain ⟨r2, e4, e5⟩ := e3
    rw [e4]
    exact hn s hf r2 e5
  | rt v =>
    rw [hf] at e3
    obtain ⟨d, r2, e4, e5, e6⟩ := e3
    rw [e4]
    exact ⟨d, r2, rfl, e5, e6⟩
def whG (c : S → Bool) (f : S → S) : Nat → S → S
  | 0, s => s
  | n + 1, s => if c s = true then whG c f n (f s) else s
def whGOk (cok : S → Prop) (c : S → Bool) (ok : S → Prop) (f : S → S) : Nat → S → Prop
  | 0, _ => False
  | n + 1, s => cok s ∧ (c s = true → ok s ∧ whGOk cok c ok f n (f s))
theorem whF_G (c : S → Bool) (f : S → S) : ∀ (n : Nat) (s : S), whF (R := R) c (fun s => .nx (f s)) n s = .nx (whG c f n s)
  | 0, _ => rfl
  | n + 1, s => by
    unfold whF whG
    split
    · exact whF_G c f n (f s)
    · rfl
theorem whOk_G {cok ok : S → Prop} {c : S → Bool} {f : S → S} : ∀ {n : Nat} {s : S}, whGOk cok c ok f n s → whOk (R := R) cok c ok (fun s => .nx (f s)) n s
  | 0, _, h => h
  | n + 1, s, h => ⟨h.1, fun hc => ⟨(h.2 hc).1, fun s' e => by cases e; exact whOk_G (h.2 hc).2⟩⟩
theorem s_wh (inv : S → AE) (cf : S → Bool) (cok ok : S → Prop) (f : S → S) (s0 : S) {c : Ex} {body : List St} (l : Le σ (inv s0)) (hc : ∀ s, cok s → Ev C (inv s) c (.x (pB (cf s))) (inv s)) (hb : ∀ s, ok s → ES C np lk (inv s) body (SP (R := Unit) inv (fun _ => .u) (fun _ => []) (.nx (f s))))
    (hk : whGOk cok cf ok f fu s0) : S1 C np lk σ (.whl c body) (inv (whG cf f fu s0)) := fun r hr => by
  rw [fu_eq] at hk ⊢
  have e3 := wh_sp hc hb wfuel s0 (whOk_G hk) r (l.sat hr)
  rw [whF_G] at e3
  obtain ⟨r2, e4, e5⟩ := e3
  exact ⟨r2, e4, e5⟩
end
/-! ### defs -/
def outsA (σ : AE) : List Nat → List Sl
  | [] => []
  | i :: is => getA σ i :: outsA σ is
theorem outs_ok {r : Env} (hr : Sat r σ) : ∀ (is : List Nat), (∀ i ∈ is, getA σ i ≠ .u) → ∃ o, outsOf r is = some o ∧ VsOk (outsA σ is) o
  | [], _ => ⟨[], rfl, trivial⟩
  | i :: is, h => by
    obtain ⟨d, h1, h2⟩ := sat_get i hr (h i List.mem_cons_self)
    obtain ⟨o, h3, h4⟩ := outs_ok hr is fun j hj => h j (List.mem_cons_of_mem _ hj)
    refine ⟨d :: o, ?_, h2, h4⟩
    unfold outsOf
    rw [h1, h3]
    rfl
theorem sat_start (ds : List D) : ∀ n : Nat, Sat (ds.map some ++ List.replicate n none) (ds.map .x ++ List.replicate n .u) := by
  intro n
  induction ds with
  | nil =>
    show Sat (List.replicate n none) (List.replicate n .u)
    induction n with
    | zero => trivial
    | succ n ih => exact ⟨trivial, ih⟩
  | cons d ds ih => exact ⟨rfl, ih⟩
theorem call_ok {T : List Fn} {k f : Nat} {fn : Fn} {ds : List D} {R : Type} (ret : R → Sl) (rinv : R → AE) {v : R} {os : List Sl} (hf : T[f]? = some fn) (hl : ds.length = fn.np)
    (h : ES (callF T k) fn.np (ownIx 0 ds) (ds.map .x ++ List.replicate (fn.ns - fn.np) .u) fn.body (SP (S := Empty) (fun _ => []) ret rinv (.rt v))) (hu : ∀ i ∈ ownIx 0 ds, getA (rinv v) i ≠ .u) (ho : outsA (rinv v) (ownIx 0 ds) = os) :
    CallOk (callF T (k + 1)) f ds (ret v) os := by
  obtain ⟨d, r, h1, h2, h3⟩ := h _ (sat_start ds _)
  obtain ⟨o, h4, h5⟩ := outs_ok h3 _ hu
  refine ⟨d, o, ?_, h2, ho ▸ h5⟩
  unfold callF
  rw [hf]
  show runF (callF T k) fn ds = _
  unfold runF
  rw [if_pos hl, h1]
  simp only [h4]
end
end Lf

set_option Elab.async false
set_option linter.all false
set_option maxRecDepth 100000
/-! data of a type, and what is done with it -/
namespace Lf
open PySem hiding Env Arg
open Dl
abbrev eI : Int → PyData := .int
abbrev eB : Bool → PyData := .bool
abbrev eS : Str → PyData := .str
abbrev eA : PyData → PyData := fun d => d
abbrev eT {α : Type} (f : α → PyData) (xs : List α) : PyData := .tuple (xs.map f)
abbrev eL {α : Type} (f : α → PyData) (xs : List α) : PyData := .list (xs.map f)
abbrev eO {α : Type} (f : α → PyData) (x : Option α) : PyData := match x with
  | none => .none
  | some y => f y
abbrev eU : Unit → PyData := fun _ => .none
abbrev eP4 {α β γ δ : Type} (f : α → PyData) (g : β → PyData) (h : γ → PyData) (k : δ → PyData) (p : α × β × γ × δ) : PyData := .tuple [f p.1, g p.2.1, h p.2.2.1, k p.2.2.2]
abbrev eL2 {α β : Type} (f : α → PyData) (g : β → PyData) (p : α × β) : PyData := .list [f p.1, g p.2]
abbrev eL3 {α β γ : Type} (f : α → PyData) (g : β → PyData) (h : γ → PyData) (p : α × β × γ) : PyData := .list [f p.1, g p.2.1, h p.2.2]
/-- == tells whether they are alike -/
structure Enc {α : Type} [DecidableEq α] (n : Nat) (f : α → PyData) : Prop where
  lay : ∀ x, (f x).canLay0 = true
  dep : ∀ x, (f x).depth ≤ n
  eq : ∀ x y, PyData.eqv (f x) (f y) = decide (x = y)
/-- never nothing -/
def Nn {α : Type} (f : α → PyData) : Prop := ∀ x, f x ≠ .none
theorem eqvAll_map {α : Type} [DecidableEq α] {f : α → PyData} (h : ∀ x y, PyData.eqv (f x) (f y) = decide (x = y)) : ∀ xs ys : List α, PyData.eqvAll (xs.map f) (ys.map f) = decide (xs = ys)
  | [], [] => by simp [PyData.eqvAll]
  | [], _ :: _ => by simp [PyData.eqvAll]
  | _ :: _, [] => by simp [PyData.eqvAll]
  | x :: xs, y :: ys => by
    simp only [List.map_cons, PyData.eqvAll, h, eqvAll_map h xs ys, List.cons.injEq, Bool.decide_and]
theorem layAll_map {α : Type} {f : α → PyData} {n : Nat} (h : ∀ x, (f x).canLay0 = true) (hd : ∀ x, (f x).depth ≤ n) : ∀ xs : List α, PyData.canLayAll0 (xs.map f) = true ∧ PyData.depthAll (xs.map f) ≤ n
  | [] => ⟨by simp [PyData.canLayAll0], by simp [PyData.depthAll]⟩
  | x :: xs => by
    obtain ⟨h1, h2⟩ := layAll_map h hd xs
    have := hd x
    exact ⟨by simp [PyData.canLayAll0, h, h1], by simp [PyData.depthAll]; omega⟩
theorem enc_I : Enc 0 eI := ⟨fun x => by simp [PyData.canLay0], fun x => by simp [PyData.depth], fun x y => by simp [PyData.eqv]; by_cases h : x = y <;> simp [h]⟩
theorem enc_B : Enc 0 eB := ⟨fun x => by simp [PyData.canLay0], fun x => by simp [PyData.depth], fun x y => by cases x <;> cases y <;> rfl⟩
section
variable {α β γ δ : Type} [DecidableEq α] [DecidableEq β] [DecidableEq γ] [DecidableEq δ] {n m k l : Nat} {f : α → PyData} {g : β → PyData} {h : γ → PyData} {q : δ → PyData}
theorem enc_T (e : Enc n f) : Enc (n + 1) (eT f) := ⟨fun x => by simp [PyData.canLay0, (layAll_map e.lay e.dep x).1], fun x => by have := (layAll_map e.lay e.dep x).2; simp [PyData.depth]; omega, fun x y => by simp only [PyData.eqv, eqvAll_map e.eq]⟩
theorem enc_L (e : Enc n f) : Enc (n + 1) (eL f) := ⟨fun x => by simp [PyData.canLay0, (layAll_map e.lay e.dep x).1], fun x => by have := (layAll_map e.lay e.dep x).2; simp [PyData.depth]; omega, fun x y => by simp only [PyData.eqv, eqvAll_map e.eq]⟩
theorem enc_P2 (e : Enc n f) (e2 : Enc m g) : Enc (max n m + 1) (eP2 f g) := ⟨fun x => by simp [eP2, PyData.canLay0, PyData.canLayAll0, e.lay, e2.lay], fun x => by have := e.dep x.1; have := e2.dep x.2; simp [eP2, PyData.depth, PyData.depthAll]; omega,
  fun x y => by simp only [eP2, PyData.eqv, PyData.eqvAll, e.eq, e2.eq, Bool.and_true]; rw [← Bool.decide_and]; congr 1; rw [Prod.ext_iff]⟩
theorem enc_P3 (e : Enc n f) (e2 : Enc m g) (e3 : Enc k h) : Enc (max n (max m k) + 1) (eP3 f g h) := ⟨fun x => by simp [eP3, PyData.canLay0, PyData.canLayAll0, e.lay, e2.lay, e3.lay], fun x => by have := e.dep x.1; have := e2.dep x.2.1; have := e3.dep x.2.2; simp [eP3, PyData.depth, PyData.depthAll]; omega,
  fun x y => by simp only [eP3, PyData.eqv, PyData.eqvAll, e.eq, e2.eq, e3.eq, Bool.and_true]; rw [← Bool.decide_and, ← Bool.decide_and]; congr 1; rw [Prod.ext_iff, Prod.ext_iff]⟩
theorem enc_P4 (e : Enc n f) (e2 : Enc m g) (e3 : Enc k h) (e4 : Enc l q) : Enc (max n (max m (max k l)) + 1) (eP4 f g h q) := ⟨fun x => by simp [PyData.canLay0, PyData.canLayAll0, e.lay, e2.lay, e3.lay, e4.lay], fun x => by have := e.dep x.1; have := e2.dep x.2.1; have := e3.dep x.2.2.1; have := e4.dep x.2.2.2; simp [PyData.depth, PyData.depthAll]; omega,
  fun x y => by simp only [PyData.eqv, PyData.eqvAll, e.eq, e2.eq, e3.eq, e4.eq, Bool.and_true]; rw [← Bool.decide_and, ← Bool.decide_and, ← Bool.decide_and]; congr 1; rw [Prod.ext_iff, Prod.ext_iff, Prod.ext_iff]⟩
theorem eqv_none_l {d : PyData} (h : d ≠ .none) : PyData.eqv .none d = false := by cases d <;> first | rfl | exact absurd rfl h
theorem eqv_none_r {d : PyData} (h : d ≠ .none) : PyData.eqv d .none = false := by cases d <;> first | rfl | exact absurd rfl h
theorem o_lay (e : Enc n f) (x : Option α) : (eO f x).canLay0 = true ∧ (eO f x).depth ≤ n := by
  cases x with
  | none => exact ⟨by simp [PyData.canLay0], by simp [PyData.depth]⟩
  | some x => exact ⟨e.lay x, e.dep x⟩
theorem o_eq (e : Enc n f) (nn : Nn f) (x y : Option α) : PyData.eqv (eO f x) (eO f y) = decide (x = y) := by
  cases x with
  | none => cases y with
    | none => rfl
    | some y => exact eqv_none_l (nn y)
  | some x => cases y with
    | none => exact eqv_none_r (nn x)
    | some y =>
      show PyData.eqv (f x) (f y) = _
      rw [e.eq]
      by_cases h : x = y <;> simp [h]
theorem enc_O (e : Enc n f) (nn : Nn f) : Enc n (eO f) := ⟨fun x => (o_lay e x).1, fun x => (o_lay e x).2, o_eq e nn⟩
theorem cm_eqO (e : Enc n f) (nn : Nn f) (hn : n ≤ 64) (x y : Option α) : cmpD .eq (eO f x) (eO f y) = some (decide (x = y)) ∧ cmpD .ne (eO f x) (eO f y) = some (!decide (x = y)) := by
  have h1 : shp (eO f x) = true := by show ((eO f x).canLay0 && decide ((eO f x).depth ≤ 64)) = true; have := o_lay e x; simp [this.1]; omega
  have h2 : shp (eO f y) = true := by show ((eO f y).canLay0 && decide ((eO f y).depth ≤ 64)) = true; have := o_lay e y; simp [this.1]; omega
  have e1 : cmpD .eq (eO f x) (eO f y) = if shp (eO f x) && shp (eO f y) then some (PyData.eqv (eO f x) (eO f y)) else none := rfl
  have e2 : cmpD .ne (eO f x) (eO f y) = if shp (eO f x) && shp (eO f y) then some (!PyData.eqv (eO f x) (eO f y)) else none := rfl
  rw [e1, e2, h1, h2, o_eq e nn]
  exact ⟨rfl, rfl⟩
theorem Enc.shp (e : Enc n f) (hn : n ≤ 64) (x : α) : shp (f x) = true := by
  show ((f x).canLay0 && decide ((f x).depth ≤ 64)) = true
  have := e.dep x
  simp [e.lay]
  omega
theorem cm_eq (e : Enc n f) (hn : n ≤ 64) (x y : α) : cmpD .eq (f x) (f y) = some (decide (x = y)) := by
  have e1 : cmpD .eq (f x) (f y) = if Dl.shp (f x) && Dl.shp (f y) then some (PyData.eqv (f x) (f y)) else none := rfl
  rw [e1, e.shp hn, e.shp hn, e.eq]
  rfl
theorem cm_ne (e : Enc n f) (hn : n ≤ 64) (x y : α) : cmpD .ne (f x) (f y) = some (!decide (x = y)) := by
  have e1 : cmpD .ne (f x) (f y) = if Dl.shp (f x) && Dl.shp (f y) then some (!PyData.eqv (f x) (f y)) else none := rfl
  rw [e1, e.shp hn, e.shp hn, e.eq]
  rfl
theorem in_any (e : Enc n f) (y : α) : ∀ xs : List α, inD (f y) (xs.map f) = decide (y ∈ xs)
  | [] => by simp [inD]
  | x :: xs => by
    have := in_any e y xs
    unfold inD at *
    rw [List.map_cons, List.any_cons, this, e.eq]
    by_cases h : x = y
    · subst h; simp
    · have h2 : ¬ y = x := fun e => h e.symm
      simp [h, h2]
theorem cm_inL (e : Enc n f) (hn : n ≤ 63) (y : α) (xs : List α) : cmpD .isin (f y) (eL f xs) = some (decide (y ∈ xs)) ∧ cmpD .notin (f y) (eL f xs) = some (!decide (y ∈ xs)) := by
  have h1 := e.shp (by omega) y
  have h2 := (enc_L e).shp (by omega) xs
  have e1 : cmpD .isin (f y) (eL f xs) = if Dl.shp (f y) && Dl.shp (eL f xs) then some (inD (f y) (xs.map f)) else none := rfl
  have e2 : cmpD .notin (f y) (eL f xs) = if Dl.shp (f y) && Dl.shp (eL f xs) then some (!inD (f y) (xs.map f)) else none := rfl
  rw [e1, e2, h1, h2, in_any e]
  exact ⟨rfl, rfl⟩
theorem cm_inT (e : Enc n f) (hn : n ≤ 63) (y : α) (xs : List α) : cmpD .isin (f y) (eT f xs) = some (decide (y ∈ xs)) ∧ cmpD .notin (f y) (eT f xs) = some (!decide (y ∈ xs)) := by
  have h1 := e.shp (by omega) y
  have h2 := (enc_T e).shp (by omega) xs
  have e1 : cmpD .isin (f y) (eT f xs) = if Dl.shp (f y) && Dl.shp (eT f xs) then some (inD (f y) (xs.map f)) else none := rfl
  have e2 : cmpD .notin (f y) (eT f xs) = if Dl.shp (f y) && Dl.shp (eT f xs) then some (!inD (f y) (xs.map f)) else none := rfl
  rw [e1, e2, h1, h2, in_any e]
  exact ⟨rfl, rfl⟩
theorem cm_isO (nn : Nn f) (x : Option α) : cmpD .is (eO f x) .none = some x.isNone ∧ cmpD .isnt (eO f x) .none = some (!x.isNone) := by
  cases x with
  | none => exact ⟨rfl, rfl⟩
  | some x =>
    have := nn x
    show cmpD .is (f x) .none = some false ∧ cmpD .isnt (f x) .none = some true
    cases hx : f x <;> first | exact ⟨rfl, rfl⟩ | exact absurd hx this
end
def SOk (x : Str) : Prop := PyData.strOk x = true
theorem s_shp {x : Str} (h : SOk x) : shp (.str x) = true := by
  show (PyData.canLay0 (.str x) && decide (PyData.depth (.str x) ≤ 64)) = true
  simp [PyData.canLay0, PyData.depth, show PyData.strOk x = true from h]
theorem cm_eqS {x y : Str} (hx : SOk x) (hy : SOk y) : cmpD .eq (.str x) (.str y) = some (x == y) ∧ cmpD .ne (.str x) (.str y) = some (!(x == y)) := by
  have e1 : cmpD .eq (.str x) (.str y) = if Dl.shp (.str x) && Dl.shp (.str y) then some (PyData.eqv (.str x) (.str y)) else none := rfl
  have e2 : cmpD .ne (.str x) (.str y) = if Dl.shp (.str x) && Dl.shp (.str y) then some (!PyData.eqv (.str x) (.str y)) else none := rfl
  rw [e1, e2, s_shp hx, s_shp hy]
  simp [PyData.eqv]
/-! ### int -/
theorem cm_lt (i j : Int) : cmpD .lt (.int i) (.int j) = some (decide (i < j)) := rfl
theorem cm_le (i j : Int) : cmpD .le (.int i) (.int j) = some (decide (i ≤ j)) := rfl
theorem cm_gt (i j : Int) : cmpD .gt (.int i) (.int j) = some (decide (j < i)) := rfl
theorem cm_ge (i j : Int) : cmpD .ge (.int i) (.int j) = some (decide (j ≤ i)) := rfl
theorem cm_ltT (xs ys : List Int) : cmpD .lt (eT eI xs) (eT eI ys) = some (HT.lexLt xs ys) := by
  show ltInts (xs.map .int) (ys.map .int) = _
  unfold ltInts
  rw [ints_of, ints_of]
theorem bd_mul {i j : Int} (h : mulOk i j = true) : binD .mul (.int i) (.int j) = some (.p (.int (i * j))) := by show (if mulOk i j then some (D.p (.int (i * j))) else none) = _; rw [if_pos h]
theorem bd_mull {i j : Int} (h : -(2 ^ 64) < i ∧ i < 2 ^ 64) : binD .mul (.int i) (.int j) = some (.p (.int (i * j))) := bd_mul (mulOk_of h.1 h.2)
theorem bd_mulr {i j : Int} (h : -(2 ^ 64) < j ∧ j < 2 ^ 64) : binD .mul (.int i) (.int j) = some (.p (.int (i * j))) := bd_mul (by unfold mulOk; simp; omega)
theorem bd_fd {i j : Int} (h : 0 < j ∧ j < 2 ^ 64) : binD .fdiv (.int i) (.int j) = some (.p (.int (i / j))) := by
  show (if 0 < j ∧ j.natAbs.log2 < 9000 then some (D.p (.int (i / j))) else none) = _
  have h1 : j.natAbs < 2 ^ 64 := by omega
  have h2 := (Nat.log2_lt (by omega)).mpr h1
  rw [if_pos ⟨h.1, by omega⟩]
theorem bd_mod {i j : Int} (h : 0 < j) : binD .mod (.int i) (.int j) = some (.p (.int (i % j))) := by show (if 0 < j then some (D.p (.int (i % j))) else none) = _; rw [if_pos h]
theorem bd_pow {i j : Int} (h : 0 ≤ j ∧ j ≤ 1000000 ∧ i.natAbs < 2 ^ 64) : binD .pow (.int i) (.int j) = some (.p (.int (i ^ j.toNat))) := by show (if powOk i j then some (D.p (.int (i ^ j.toNat))) else none) = _; rw [if_pos (show powOk i j = true by unfold powOk; simpa using h)]
theorem bd_shl {i j : Int} (h : 0 ≤ j ∧ j ≤ 1000000 ∧ i.natAbs < 2 ^ 64) : binD .shl (.int i) (.int j) = some (.p (.int (i * 2 ^ j.toNat))) := by show (if powOk i j then some (D.p (.int (i * 2 ^ j.toNat))) else none) = _; rw [if_pos (show powOk i j = true by unfold powOk; simpa using h)]
theorem bd_shr {i j : Int} (h : 0 ≤ j) : binD .shr (.int i) (.int j) = some (.p (.int (i / 2 ^ j.toNat))) := by show (if 0 ≤ j then some (D.p (.int (i / 2 ^ j.toNat))) else none) = _; rw [if_pos h]
section
variable {α β γ : Type}
theorem bd_L {f : α → PyData} {xs ys : List α} (h : xs.length + ys.length ≤ 16777216) : binD .add (.list (xs.map f)) (.list (ys.map f)) = some (.o (.list ((xs ++ ys).map f))) := by
  have hz : sizeLine = 16777216 := rfl
  show (if (xs.map f).length + (ys.map f).length ≤ sizeLine then some (D.o (.list (xs.map f ++ ys.map f))) else none) = _
  simp only [List.length_map, List.map_append]
  rw [if_pos (by omega)]
theorem bd_T {f : α → PyData} {xs ys : List α} (h : xs.length + ys.length ≤ 16777216) : binD .add (.tuple (xs.map f)) (.tuple (ys.map f)) = some (.p (.tuple ((xs ++ ys).map f))) := by
  have hz : sizeLine = 16777216 := rfl
  show (if (xs.map f).length + (ys.map f).length ≤ sizeLine then some (D.p (.tuple (xs.map f ++ ys.map f))) else none) = _
  simp only [List.length_map, List.map_append]
  rw [if_pos (by omega)]
theorem at_ix [Inhabited α] {f : α → PyData} {xs : List α} {i : Int} (h : IxOk xs i) : atP (xs.map f) i = some (f (ixF xs i)) := by
  obtain ⟨h1, h2⟩ := ixN_eq h
  unfold atP ixF
  rw [List.length_map, h1]
  simp [h2]
theorem ix_L [Inhabited α] {f : α → PyData} {xs : List α} {i : Int} (h : IxOk xs i) : idxD (.list (xs.map f)) (.int i) = some (f (ixF xs i)) := at_ix h
theorem ix_T [Inhabited α] {f : α → PyData} {xs : List α} {i : Int} (h : IxOk xs i) : idxD (.tuple (xs.map f)) (.int i) = some (f (ixF xs i)) := at_ix h
theorem ix_t0 (w : PyData) (r : List PyData) : idxD (.tuple (w :: r)) (.int 0) = some w := atP0 w r
theorem ix_t1 (w x : PyData) (r : List PyData) : idxD (.tuple (w :: x :: r)) (.int 1) = some x := atP1 w x r
theorem ix_t2 (w x y : PyData) (r : List PyData) : idxD (.tuple (w :: x :: y :: r)) (.int 2) = some y := atP2 w x y r
theorem ix_t3 (w x y z : PyData) (r : List PyData) : idxD (.tuple (w :: x :: y :: z :: r)) (.int 3) = some z := atP3 w x y z r
theorem ix_l0 (w : PyData) (r : List PyData) : idxD (.list (w :: r)) (.int 0) = some w := atP0 w r
theorem ix_l1 (w x : PyData) (r : List PyData) : idxD (.list (w :: x :: r)) (.int 1) = some x := atP1 w x r
theorem ix_l2 (w x y : PyData) (r : List PyData) : idxD (.list (w :: x :: y :: r)) (.int 2) = some y := atP2 w x y r
/-- a part, as Python cuts -/
def cutF (xs : List α) (lo hi : Option Int) : List α := (xs.drop (HT.sIx xs.length 0 lo)).take (HT.sIx xs.length xs.length hi - HT.sIx xs.length 0 lo)
theorem cut_map (f : α → PyData) (xs : List α) (lo hi : Option Int) : cutP (xs.map f) lo hi = (cutF xs lo hi).map f := by
  unfold cutP cutF
  rw [List.length_map, List.map_take, List.map_drop]
theorem sf_L (f : α → PyData) (xs : List α) (i : Int) : slFD (.list (xs.map f)) (.int i) = some (.o (.list ((cutF xs (some i) none).map f))) := by show some (D.o (.list (cutP (xs.map f) (some i) none))) = _; rw [cut_map]
theorem sf_T (f : α → PyData) (xs : List α) (i : Int) : slFD (.tuple (xs.map f)) (.int i) = some (.p (.tuple ((cutF xs (some i) none).map f))) := by show some (D.p (.tuple (cutP (xs.map f) (some i) none))) = _; rw [cut_map]
theorem st_L (f : α → PyData) (xs : List α) (i : Int) : slTD (.list (xs.map f)) (.int i) = some (.o (.list ((cutF xs none (some i)).map f))) := by show some (D.o (.list (cutP (xs.map f) none (some i)))) = _; rw [cut_map]
theorem st_T (f : α → PyData) (xs : List α) (i : Int) : slTD (.tuple (xs.map f)) (.int i) = some (.p (.tuple ((cutF xs none (some i)).map f))) := by show some (D.p (.tuple (cutP (xs.map f) none (some i)))) = _; rw [cut_map]
theorem sb_L (f : α → PyData) (xs : List α) (i j : Int) : slD (.list (xs.map f)) (some i) (some j) = some (.o (.list ((cutF xs (some i) (some j)).map f))) := by show some (D.o (.list (cutP (xs.map f) (some i) (some j)))) = _; rw [cut_map]
theorem sb_T (f : α → PyData) (xs : List α) (i j : Int) : slD (.tuple (xs.map f)) (some i) (some j) = some (.p (.tuple ((cutF xs (some i) (some j)).map f))) := by show some (D.p (.tuple (cutP (xs.map f) (some i) (some j)))) = _; rw [cut_map]
theorem cutF_from (xs : List α) (i : Nat) : cutF xs (some (i : Int)) none = xs.drop i := by
  unfold cutF
  rw [HT.sIx_nat, HT.sIx_none]
  by_cases h : i ≤ xs.length
  · rw [Nat.min_eq_left h, List.take_of_length_le (by simp)]
  · rw [Nat.min_eq_right (by omega), List.drop_eq_nil_of_le (by omega), List.drop_eq_nil_of_le (by omega)]
    simp
theorem cutF_to (xs : List α) (i : Nat) : cutF xs none (some (i : Int)) = xs.take i := by
  unfold cutF
  rw [HT.sIx_nat, HT.sIx_none]
  simp only [List.drop_zero, Nat.sub_zero]
  by_cases h : i ≤ xs.length
  · rw [Nat.min_eq_left h]
  · rw [Nat.min_eq_right (by omega), List.take_of_length_le (by omega), List.take_of_length_le (by omega)]
/-! ### built-ins -/
theorem bi_lenL (f : α → PyData) (xs : List α) : biD .len [.list (xs.map f)] = some (.p (.int (xs.length : Int))) := by simp [biD, arg1, lenD, pI]
theorem bi_lenT (f : α → PyData) (xs : List α) : biD .len [.tuple (xs.map f)] = some (.p (.int (xs.length : Int))) := by simp [biD, arg1, lenD, pI]
theorem bi_tup (vs : List PyData) : biD .tuple [.list vs] = some (.p (.tuple vs)) := rfl
theorem bi_tup2 (vs : List PyData) : biD .tuple [.tuple vs] = some (.p (.tuple vs)) := rfl
theorem bi_lst (vs : List PyData) : biD .list [.list vs] = some (.o (.list vs)) := rfl
theorem bi_lst2 (vs : List PyData) : biD .list [.tuple vs] = some (.o (.list vs)) := rfl
def absI (i : Int) : Int := if i < 0 then -i else i
theorem bi_abs (i : Int) : biD .abs [.int i] = some (.p (.int (absI i))) := rfl
theorem bi_int (i : Int) : biD .int [.int i] = some (.p (.int i)) := rfl
theorem bi_intB (b : Bool) : biD .int [.bool b] = some (.p (.int (if b = true then 1 else 0))) := rfl
def RpOk (d : PyData) : Prop := reprOk d = true
@[irreducible] def shw (d : PyData) : Str := d.shown
theorem shw_eq (d : PyData) : shw d = d.shown := by unfold shw; rfl
theorem bi_rep {d : PyData} (h : RpOk d) : biD .repr [d] = some (.p (.str (shw d))) := by
  rw [shw_eq]
  show (if reprOk d then some (D.p (.str d.shown)) else none) = _
  rw [if_pos (show reprOk d = true from h)]
theorem bi_str {i : Int} (h : i.natAbs < 2 ^ 64) : biD .str [.int i] = some (.p (.str (toString i))) := by
  show (if i.natAbs.log2 < 1920 then some (D.p (.str (toString i))) else none) = _
  rw [if_pos]
  by_cases z : i.natAbs = 0
  · rw [z]; decide
  · have := (Nat.log2_lt z).mpr h
    omega
def minF (xs : List Int) : Int := (least xs).getD 0
def maxF (xs : List Int) : Int := (most xs).getD 0
theorem bi_mn {xs : List Int} (h : xs ≠ []) : biD .min1 [.list (xs.map .int)] = some (.p (.int (minF xs))) := by
  show (onInts (fun ns => (least ns).map pI) (.list (xs.map .int))) = _
  unfold onInts
  cases xs with
  | nil => exact absurd rfl h
  | cons x xs => simp only [ints_of, Option.bind]; rfl
theorem bi_mx {xs : List Int} (h : xs ≠ []) : biD .max1 [.list (xs.map .int)] = some (.p (.int (maxF xs))) := by
  show (onInts (fun ns => (most ns).map pI) (.list (xs.map .int))) = _
  unfold onInts
  cases xs with
  | nil => exact absurd rfl h
  | cons x xs => simp only [ints_of, Option.bind]; rfl
def min2F (i j : Int) : Int := if j < i then j else i
def max2F (i j : Int) : Int := if j > i then j else i
theorem bi_mn2 (i j : Int) : biD .min2 [.int i, .int j] = some (.p (.int (min2F i j))) := rfl
theorem bi_mx2 (i j : Int) : biD .max2 [.int i, .int j] = some (.p (.int (max2F i j))) := rfl
theorem bi_so (xs : List Int) : biD .sorted [.list (xs.map .int)] = some (.o (.list ((srtI xs).map .int))) := by
  show sortD (.list (xs.map .int)) = _
  unfold sortD
  simp only [ints_of]
theorem pairs_map : ∀ xs : List (Int × Int), pairsOf (xs.map (eP2 eI eI)) = some xs
  | [] => rfl
  | (a, b) :: xs => by simp [eP2, pairsOf, pairs_map xs]
theorem bi_so2 (xs : List (Int × Int)) : biD .sorted [.list (xs.map (eP2 eI eI))] = some (.o (.list ((srtP xs).map (eP2 eI eI)))) := by
  show sortD (.list (xs.map (eP2 eI eI))) = _
  cases xs with
  | nil => simp [sortD, intsOf, srtI, srtP]
  | cons x xs =>
    have h1 : intsOf ((x :: xs).map (eP2 eI eI)) = none := rfl
    unfold sortD
    simp only [h1, pairs_map]
    rfl
theorem bi_ss {xs : List Int} (h : xs.length < 4000) : biD .setsorted [.list (xs.map .int)] = some (.o (.list ((dedupA (srtI xs)).map .int))) := by
  show (seqOf (.list (xs.map .int))).bind setSortD = _
  show setSortD (xs.map .int) = _
  have hs : setMost = 4000 := rfl
  unfold setSortD
  rw [List.length_map, if_pos (by omega), ints_of]
  rfl
theorem bi_ssT {xs : List Int} (h : xs.length < 4000) : biD .setsorted [.tuple (xs.map .int)] = some (.o (.list ((dedupA (srtI xs)).map .int))) := by
  show (seqOf (.tuple (xs.map .int))).bind setSortD = _
  show setSortD (xs.map .int) = _
  have hs : setMost = 4000 := rfl
  unfold setSortD
  rw [List.length_map, if_pos (by omega), ints_of]
  rfl
theorem bools_of : ∀ bs : List Bool, boolsOf (bs.map .bool) = some bs
  | [] => rfl
  | b :: bs => by simp [boolsOf, bools_of bs]
theorem bi_all (bs : List Bool) : biD .all [.list (bs.map .bool)] = some (.p (.bool (bs.all id))) := by
  show onBools (fun bs => some (pB (bs.all id))) (.list (bs.map .bool)) = _
  unfold onBools
  simp only [bools_of, Option.bind]
  rfl
theorem bi_any (bs : List Bool) : biD .any [.list (bs.map .bool)] = some (.p (.bool (bs.any id))) := by
  show onBools (fun bs => some (pB (bs.any id))) (.list (bs.map .bool)) = _
  unfold onBools
  simp only [bools_of, Option.bind]
  rfl
theorem bi_sum (xs : List Int) : biD .sum [.list (xs.map .int)] = some (.p (.int xs.sum)) := by
  show onInts (fun ns => some (pI ns.sum)) (.list (xs.map .int)) = _
  unfold onInts
  simp only [ints_of, Option.bind]
  rfl
/-- what is there, where something is -/
def unO {α : Type} [Inhabited α] (x : Option α) : α := x.getD default
theorem un_some {α : Type} [Inhabited α] {f : α → PyData} {x : Option α} (h : x.isSome = true) : eO f x = f (unO x) := by
  cases x with
  | none => cases h
  | some y => rfl
end
end Lf

set_option Elab.async false
set_option linter.all false
set_option maxRecDepth 100000
/-! ways of a def, narrowing, the deck -/
namespace Lf
open PySem hiding Env Arg
open Dl
def Step.out {S R : Type} (x : Step S R) (g : S → R) : R := match x with
  | .nx s => g s
  | .rt v => v
section
variable {C : CS} {np : Nat} {lk : List Nat} {σ σ1 σ2 σ3 : AE}
section
variable {S R S' : Type} {inv : S → AE} {inv' : S' → AE} {ret : R → Sl} {rinv : R → AE}
/-- a def's own way -/
theorem sp_ifr {c : Ex} {a b rest : List St} {k : Bool} {x y : R} (h : Ev C σ c (.x (pB k)) σ1) (ha : k = true → ES C np lk σ1 (a ++ rest) (SP inv ret rinv (.rt x))) (hb : k = false → ES C np lk σ1 (b ++ rest) (SP inv ret rinv (.rt y))) : ES C np lk σ (.ifs c a b :: rest) (SP inv ret rinv (.rt (if k = true then x else y))) := by
  refine if_ev h (fun hk => ?_) (fun hk => ?_)
  · have := ha hk; rw [hk]; exact this
  · have := hb hk; rw [hk]; exact this
/-- a turn's way -/
theorem sp_ifn {c : Ex} {a b rest : List St} {k : Bool} {x y : S} (h : Ev C σ c (.x (pB k)) σ1) (ha : k = true → ES C np lk σ1 (a ++ rest) (SP inv ret rinv (.nx x))) (hb : k = false → ES C np lk σ1 (b ++ rest) (SP inv ret rinv (.nx y))) : ES C np lk σ (.ifs c a b :: rest) (SP inv ret rinv (.nx (if k = true then x else y))) := by
  refine if_ev h (fun hk => ?_) (fun hk => ?_)
  · have := ha hk; rw [hk]; exact this
  · have := hb hk; rw [hk]; exact this
theorem step_out {x : Step S R} {g : S → R} : (Step.rt (S := S') (x.out g)) = x.bind fun s => .rt (g s) := by cases x <;> rfl
theorem sp_fr {α : Type} {h : α → PyData} (inv : S → AE) (f : S → α → Step S R) (ok : S → α → Prop) (s0 : S) {g : S → R} {t : Tg} {it : It} {body rest : List St} {ys : List α} (hi : EvI C σ it (ys.map h) σ1) (l : Le σ1 (inv s0))
    (hb : ∀ s, ∀ y ∈ ys, ok s y → ∃ σb, asgA lk t (h y) (inv s) = some σb ∧ ES C np lk σb body (SP inv ret rinv (f s y))) (hk : loopOk ok f s0 ys)
    (hn : ∀ s, loopF f s0 ys = .nx s → ES C np lk (inv s) rest (SP inv' ret rinv (.rt (g s)))) : ES C np lk σ (.for_ t it body :: rest) (SP inv' ret rinv (.rt ((loopF f s0 ys).out g))) := by
  rw [step_out]
  exact sp_fo inv f ok s0 hi l hb hk hn
theorem sp_wr (inv : S → AE) (cf : S → Bool) (cok ok : S → Prop) (f : S → Step S R) (s0 : S) {g : S → R} {c : Ex} {body rest : List St} (l : Le σ (inv s0)) (hc : ∀ s, cok s → Ev C (inv s) c (.x (pB (cf s))) (inv s)) (hb : ∀ s, ok s → ES C np lk (inv s) body (SP inv ret rinv (f s)))
    (hk : whOk cok cf ok f fu s0) (hn : ∀ s, whF cf f fu s0 = .nx s → ES C np lk (inv s) rest (SP inv' ret rinv (.rt (g s)))) : ES C np lk σ (.whl c body :: rest) (SP inv' ret rinv (.rt ((whF cf f fu s0).out g))) := by
  rw [step_out]
  exact sp_wh inv cf cok ok f s0 l hc hb hk hn
end
/-! narrowing -/
theorem setA_self : ∀ {σ : AE} {i : Nat} {s : Sl}, getA σ i = s → s ≠ .u → setA σ i s = σ
  | [], _, _, h, hs => absurd h.symm hs
  | a :: σ, 0, s, h, _ => by cases h; rfl
  | a :: σ, i + 1, s, h, hs => congrArg (a :: ·) (setA_self (σ := σ) (i := i) h hs)
theorem setA_cast {α : Type} [Inhabited α] {e : α → PyData} {x : Option α} {i : Nat} (hs : x.isSome = true) (h : getA σ i = .x (.p (eO e x))) : setA σ i (.x (.p (e (unO x)))) = σ := by
  rw [← un_some (f := e) hs]
  exact setA_self h (fun e => by cases e)
theorem ES.nar {α : Type} [Inhabited α] {e : α → PyData} {x : Option α} {i : Nat} {ss : List St} {P : Out → Prop} (hs : x.isSome = true) (h : getA σ i = .x (.p (eO e x))) (t : ES C np lk (setA σ i (.x (.p (e (unO x))))) ss P) : ES C np lk σ ss P := by
  rw [setA_cast hs h] at t
  exact t
theorem Ev.nar {α : Type} [Inhabited α] {e : α → PyData} {x : Option α} {i : Nat} {ex : Ex} {s : Sl} (hs : x.isSome = true) (h : getA σ i = .x (.p (eO e x))) (t : Ev C (setA σ i (.x (.p (e (unO x))))) ex s σ1) (h1 : getA σ1 i = .x (.p (e (unO x)))) : Ev C σ ex s (setA σ1 i (.x (.p (eO e x)))) := by
  rw [setA_cast hs h] at t
  rw [un_some (f := e) hs, setA_self h1 (fun e => by cases e)]
  exact t
theorem some_of {α : Type} {x : Option α} {b : Bool} (h : x.isNone = b) (hb : b = false) : x.isSome = true := by
  subst hb
  cases x with
  | none => cases h
  | some y => rfl
theorem some_of' {α : Type} {x : Option α} (h : (!x.isNone) = true) : x.isSome = true := by
  cases x with
  | none => cases h
  | some y => rfl
theorem some_of'' {α : Type} {x : Option α} (h : (!x.isNone) = false → False) : x.isSome = true := by
  cases x with
  | none => exact (h rfl).elim
  | some y => rfl
end
theorem call_fn {T : List Fn} {k f : Nat} {fn : Fn} {ds : List D} {R : Type} (ret : R → Sl) (rinv : R → AE) (σ : AE) {v : R} (os : List Sl) (hf : T[f]? = some fn) (hl : ds.length = fn.np) (hσ : ds.map .x ++ List.replicate (fn.ns - fn.np) .u = σ)
    (lk : List Nat) (hlk : ownIx 0 ds = lk) (ho : outsA (rinv v) lk = os) (hu : lk.all (fun i => match getA (rinv v) i with | .u => false | _ => true) = true)
    (h : ES (callF T k) fn.np lk σ fn.body (SP (S := Empty) (fun _ => []) ret rinv (.rt v))) :
    CallOk (callF T (k + 1)) f ds (ret v) os := by
  subst hσ
  subst hlk
  exact call_ok ret rinv hf hl h (fun i hi => by
    have := List.all_eq_true.mp hu i hi
    intro e
    rw [e] at this
    cases this) ho
/-! ### the deck of draws -/
structure Deck where
  xs : List Int
  a : Int
  b : Int
  c : Int
def deckO (d : Deck) : D := .o (.list [.list (d.xs.map .int), .int d.a, .int d.b, .int d.c])
def mix1 (v c : Int) : Int := (v % 2147483629 + 32452843 * (c + 1)) ^ 5 % 2147483647
def mix2 (v c : Int) : Int := (mix1 v c * (2 * (c + 1) + 3) + 4211) ^ 3 % 2147483587
def deckV (d : Deck) : Int := if d.xs = [] then 59 else ixF d.xs (d.a % d.xs.length)
def drawF (d : Deck) (m : Int) : Int × Deck :=
  if 0 < d.b then (d.b % m, ⟨d.xs, d.a, d.b / m, d.c + 1⟩)
  else if 10 ^ 18 ≤ absI (deckV d) ∧ d.a + 1 ≤ d.xs.length then (absI (deckV d) % m, ⟨d.xs, d.a + 1, absI (deckV d) / m, d.c + 1⟩)
  else (mix2 (deckV d) d.c / 64 % m, ⟨d.xs, d.a + 1, d.b, d.c + 1⟩)
/-- a deck from which at most 10 ^ 9 were drawn -/
def DkOk (d : Deck) : Prop := 0 ≤ d.c ∧ d.c ≤ 10 ^ 9
def DrOk (d : Deck) (m : Int) : Prop := DkOk d ∧ 0 < m ∧ m ≤ 2 ^ 62
def oneF {α : Type} [Inhabited α] (d : Deck) (its : List α) : α × Deck := (ixF its (drawF d its.length).1, (drawF d its.length).2)
def OnOk {α : Type} (d : Deck) (its : List α) : Prop := DkOk d ∧ its ≠ [] ∧ (its.length : Int) ≤ 2 ^ 62
def deckI (xs : List Int) : Deck := ⟨cutF xs none (some 63), 0, 0, 0⟩
theorem drawF_lt (d : Deck) {m : Int} (h : 0 < m) : 0 ≤ (drawF d m).1 ∧ (drawF d m).1 < m := by
  have key : ∀ z : Int, 0 ≤ z % m ∧ z % m < m := fun z => ⟨Int.emod_nonneg z (by omega), Int.emod_lt_of_pos z h⟩
  unfold drawF
  split
  · exact key _
  · split <;> exact key _
theorem drawF_c (d : Deck) (m : Int) : (drawF d m).2.c = d.c + 1 := by
  unfold drawF
  split
  · rfl
  · split <;> rfl
theorem oneF_c {α : Type} [Inhabited α] (d : Deck) (its : List α) : (oneF d its).2.c = d.c + 1 := drawF_c d _
theorem ixF_mem {α : Type} [Inhabited α] {xs : List α} {i : Int} (h : IxOk xs i) : ixF xs i ∈ xs := by
  have := (ixN_eq h).2
  unfold ixF
  rw [List.getElem?_eq_getElem this]
  exact List.getElem_mem this
theorem oneF_mem {α : Type} [Inhabited α] (d : Deck) {its : List α} (h : its ≠ []) : (oneF d its).1 ∈ its := by
  have hl : (0 : Int) < (its.length : Int) := by cases its with | nil => exact absurd rfl h | cons _ _ => simp
  have := drawF_lt d hl
  exact ixF_mem ⟨by omega, by omega⟩
end Lf
namespace Lf
open PySem hiding Env Arg
open Dl
section
variable {C : CS} {np : Nat} {lk : List Nat} {σ σ1 σ2 σ3 : AE}
theorem sat_wcase {r : Env} {i : Nat} {v : PyData} : ∀ {σ : AE} {r : Env} {i : Nat}, getA σ i = .w v → Sat r σ → Sat r (setA σ i (.x (.p v))) ∨ Sat r (setA σ i (.x (.o v)))
  | [], _, _, h, _ => by cases h
  | s :: σ, [], _, _, hr => hr.elim
  | s :: σ, o :: r, 0, h, hr => by
    cases (show s = .w v from h)
    rcases hr.1 with e | e
    · exact .inl ⟨e, hr.2⟩
    · exact .inr ⟨e, hr.2⟩
  | s :: σ, o :: r, i + 1, h, hr => by
    rcases sat_wcase (r := r) (i := i) (σ := σ) (show getA σ i = .w v from h) hr.2 with g | g
    · exact .inl ⟨hr.1, g⟩
    · exact .inr ⟨hr.1, g⟩
/-- a slot owned or not: both ways -/
theorem Ev.wc {i : Nat} {v : PyData} {e : Ex} {s : Sl} (h : getA σ i = .w v) (hp : Ev C (setA σ i (.x (.p v))) e s σ1) (ho : Ev C (setA σ i (.x (.o v))) e s σ1) : Ev C σ e s σ1 := fun r hr => by
  rcases sat_wcase (r := r) (i := i) h hr with g | g
  · exact hp r g
  · exact ho r g
theorem ES.wc {i : Nat} {v : PyData} {ss : List St} {P : Out → Prop} (h : getA σ i = .w v) (hp : ES C np lk (setA σ i (.x (.p v))) ss P) (ho : ES C np lk (setA σ i (.x (.o v))) ss P) : ES C np lk σ ss P := fun r hr => by
  rcases sat_wcase (r := r) (i := i) h hr with g | g
  · exact hp r g
  · exact ho r g
/-- one argument made there, owned or not -/
inductive Wsp : List SArg → List SArg → List SArg → Prop where
  | here {v : PyData} {as : List SArg} : Wsp (.t (.w v) :: as) (.t (.x (.p v)) :: as) (.t (.x (.o v)) :: as)
  | next {a : SArg} {as bs cs : List SArg} (h : Wsp as bs cs) : Wsp (a :: as) (a :: bs) (a :: cs)
theorem Wsp.ok {as ap ao : List SArg} (h : Wsp as ap ao) : ∀ {bs : List Arg}, AsOk as bs → AsOk ap bs ∨ AsOk ao bs := by
  induction h with
  | here =>
    intro bs hb
    cases bs with
    | nil => exact hb.elim
    | cons b bs =>
      obtain ⟨⟨d, rfl, h1⟩, h2⟩ := hb
      rcases h1 with h1 | h1
      · exact .inl ⟨⟨d, rfl, h1⟩, h2⟩
      · exact .inr ⟨⟨d, rfl, h1⟩, h2⟩
  | next h ih =>
    intro bs hb
    cases bs with
    | nil => exact hb.elim
    | cons b bs =>
      rcases ih hb.2 with g | g
      · exact .inl ⟨hb.1, g⟩
      · exact .inr ⟨hb.1, g⟩
theorem ev_cw {f : Nat} {es : List Ex} {as ap ao : List SArg} {dp do_ : List D} {res : Sl} {op oo : List Sl} {τp τo : AE} (h : EvAs C σ es as σ1) (w : Wsp as ap ao) (tp : takeA ap σ1 = some (dp, τp)) (cp : CallOk C f dp res op) (lp : Le (giveA ap dp op τp) σ3) (to_ : takeA ao σ1 = some (do_, τo)) (co : CallOk C f do_ res oo) (lo : Le (giveA ao do_ oo τo) σ3) : Ev C σ (.call f es) res σ3 := fun r hr => by
  obtain ⟨bs, r1, h1, h2, h3⟩ := h r hr
  have hu : evE C (.call f es) r = doCall C f bs r1 := by
    show (evAs C es r).bind (fun as r1 => doCall C f as r1) = _
    rw [h1]; rfl
  rw [hu]
  rcases w.ok h2 with g | g
  · obtain ⟨r2, h4, h5⟩ := take_ok h3 g tp
    obtain ⟨d, o, h6, h7, h8⟩ := cp
    refine ⟨d, giveBack bs dp o r2, ?_, h7, lp.sat (give_ok h5 g h8)⟩
    unfold doCall
    rw [h4]
    simp only [h6]
  · obtain ⟨r2, h4, h5⟩ := take_ok h3 g to_
    obtain ⟨d, o, h6, h7, h8⟩ := co
    refine ⟨d, giveBack bs do_ o r2, ?_, h7, lo.sat (give_ok h5 g h8)⟩
    unfold doCall
    rw [h4]
    simp only [h6]
end
theorem in_anyS (y : Str) : ∀ xs : List Str, inD (.str y) (xs.map eS) = xs.any fun x => x == y
  | [] => rfl
  | x :: xs => by
    have := in_anyS y xs
    unfold inD at *
    rw [List.map_cons, List.any_cons, List.any_cons, this]
    rfl
theorem lay_strs : ∀ {xs : List Str}, (∀ x ∈ xs, SOk x) → PyData.canLayAll0 (xs.map .str) = true ∧ PyData.depthAll (xs.map .str) = 0
  | [], _ => ⟨by simp [PyData.canLayAll0], by simp [PyData.depthAll]⟩
  | x :: xs, h => by
    obtain ⟨h1, h2⟩ := lay_strs (xs := xs) fun y hy => h y (List.mem_cons_of_mem _ hy)
    have h3 : PyData.strOk x = true := h x List.mem_cons_self
    exact ⟨by simp [PyData.canLayAll0, PyData.canLay0, h1, h3], by simp [PyData.depthAll, PyData.depth, h2]⟩
theorem cm_inS {y : Str} {xs : List Str} (hy : SOk y) (hx : ∀ x ∈ xs, SOk x) : cmpD .isin (.str y) (eL eS xs) = some (xs.any fun x => x == y) ∧ cmpD .notin (.str y) (eL eS xs) = some (!(xs.any fun x => x == y)) := by
  have h1 := s_shp hy
  have h2 : shp (eL eS xs) = true := by
    obtain ⟨g1, g2⟩ := lay_strs hx
    show (PyData.canLay0 (.list (xs.map .str)) && decide (PyData.depth (.list (xs.map .str)) ≤ 64)) = true
    simp [PyData.canLay0, PyData.depth, g1, g2]
  have e1 : cmpD .isin (.str y) (eL eS xs) = if Dl.shp (.str y) && Dl.shp (eL eS xs) then some (inD (.str y) (xs.map eS)) else none := rfl
  have e2 : cmpD .notin (.str y) (eL eS xs) = if Dl.shp (.str y) && Dl.shp (eL eS xs) then some (!inD (.str y) (xs.map eS)) else none := rfl
  rw [e1, e2, h1, h2, in_anyS]
  exact ⟨rfl, rfl⟩
end Lf
namespace Lf
open PySem hiding Env Arg
open Dl
theorem Ev.cv {C : CS} {σ σ1 : AE} {e : Ex} {s t : Sl} (h : Ev C σ e s σ1) (hs : s = t) : Ev C σ e t σ1 := hs ▸ h
theorem rev_map {α : Type} (f : α → PyData) (xs : List α) : Sl.x (.o (.list (xs.map f).reverse)) = .x (.o (.list (xs.reverse.map f))) := by rw [List.map_reverse]
end Lf
namespace Lf
open PySem hiding Env Arg
open Dl
/-- a choice whose ways change what is around -/
theorem ev_iv {C : CS} {σ σ1 : AE} {α : Type} (g : α → Sl) (inv : α → AE) {c a b : Ex} {k : Bool} {x y : α} (h : Ev C σ c (.x (pB k)) σ1) (ha : k = true → Ev C σ1 a (g x) (inv x)) (hb : k = false → Ev C σ1 b (g y) (inv y)) : Ev C σ (.ite c a b) (g (if k = true then x else y)) (inv (if k = true then x else y)) := fun r hr => by
  obtain ⟨r1, e1, e2⟩ := boolR_ev h r hr
  have hu : evE C (.ite c a b) r = (boolR (evE C c r)).bind fun k r1 => if k then evE C a r1 else evE C b r1 := rfl
  rw [hu, e1]
  cases k with
  | true => exact ha rfl r1 e2
  | false => exact hb rfl r1 e2
theorem un_cv {α : Type} [Inhabited α] {f : α → PyData} {x : Option α} (h : x.isSome = true) : Sl.x (.p (eO f x)) = .x (.p (f (unO x))) := by rw [un_some (f := f) h]
end Lf
namespace Lf
open PySem hiding Env Arg
open Dl
theorem ev_tb {C : CS} {σ σ1 : AE} {a : Ex} {x : SArg} {v : PyData} {t : Ty} {b : Bool} (ha : OpV C σ a x σ1) (hv : x.dat σ1 = some v) (hb : isTy v t = b) : Ev C σ (.isT a t) (.x (pB b)) σ1 := hb ▸ ev_ty ha hv
end Lf
namespace Lf
open PySem hiding Env Arg
open Dl
theorem ev_anv {C : CS} {σ σ1 : AE} {S : Type} (inv : S → AE) {a b : Ex} {k j : Bool} {s s0 : S} (h : Ev C σ a (.x (pB k)) σ1) (hb : k = true → Ev C σ1 b (.x (pB j)) (inv s)) (l : Le σ1 (inv s0)) : Ev C σ (.and a b) (.x (pB (if k = true then (j, s) else (false, s0)).1)) (inv (if k = true then (j, s) else (false, s0)).2) := fun r hr => by
  obtain ⟨r1, e1, e2⟩ := boolR_ev h r hr
  have hu : evE C (.and a b) r = (boolR (evE C a r)).bind fun k r1 => if k then evE C b r1 else .ok (pB false) r1 := rfl
  rw [hu, e1]
  cases k with
  | true => exact hb rfl r1 e2
  | false => exact ⟨_, r1, rfl, rfl, l.sat e2⟩
theorem ev_orv {C : CS} {σ σ1 : AE} {S : Type} (inv : S → AE) {a b : Ex} {k j : Bool} {s s0 : S} (h : Ev C σ a (.x (pB k)) σ1) (hb : k = false → Ev C σ1 b (.x (pB j)) (inv s)) (l : Le σ1 (inv s0)) : Ev C σ (.or a b) (.x (pB (if k = true then (true, s0) else (j, s)).1)) (inv (if k = true then (true, s0) else (j, s)).2) := fun r hr => by
  obtain ⟨r1, e1, e2⟩ := boolR_ev h r hr
  have hu : evE C (.or a b) r = (boolR (evE C a r)).bind fun k r1 => if k then .ok (pB true) r1 else evE C b r1 := rfl
  rw [hu, e1]
  cases k with
  | false => exact hb rfl r1 e2
  | true => exact ⟨_, r1, rfl, rfl, l.sat e2⟩
end Lf
namespace Lf
open PySem hiding Env Arg
open Dl
theorem EvI.le {C : CS} {σ σ1 σ2 : AE} {it : It} {vs : List PyData} (h : EvI C σ it vs σ1) (l : Le σ1 σ2) : EvI C σ it vs σ2 := fun r hr => by
  obtain ⟨r', h1, h2⟩ := h r hr
  exact ⟨r', h1, l.sat h2⟩
end Lf
namespace Lf
open PySem hiding Env Arg
open Dl
/-- whether it is one of them -/
def memB {α : Type} [DecidableEq α] (y : α) (xs : List α) : Bool := decide (y ∈ xs)
theorem memB_iff {α : Type} [DecidableEq α] {y : α} {xs : List α} : memB y xs = true ↔ y ∈ xs := by unfold memB; simp
theorem cm_meL {α : Type} [DecidableEq α] {n : Nat} {f : α → PyData} (e : Enc n f) (hn : n ≤ 63) (y : α) (xs : List α) : cmpD .isin (f y) (eL f xs) = some (memB y xs) ∧ cmpD .notin (f y) (eL f xs) = some (!memB y xs) := by
  have h := cm_inL e hn y xs
  unfold memB
  exact ⟨by rw [h.1], by rw [h.2]⟩
theorem cm_meT {α : Type} [DecidableEq α] {n : Nat} {f : α → PyData} (e : Enc n f) (hn : n ≤ 63) (y : α) (xs : List α) : cmpD .isin (f y) (eT f xs) = some (memB y xs) ∧ cmpD .notin (f y) (eT f xs) = some (!memB y xs) := by
  have h := cm_inT e hn y xs
  unfold memB
  exact ⟨by rw [h.1], by rw [h.2]⟩
end Lf

set_option Elab.async false
set_option linter.all false
set_option maxRecDepth 100000
/-! plain functions, printed by lift.py --reg -/
namespace Q
open PySem hiding Env Arg
open Dl Lf
noncomputable section
def l_track_w0_c (size : Int) (wide : Int) (st : (Deck × (List Int) × Int)) : Bool := let deck_here_2 : Deck := st.1; let some_v_1 : List Int := st.2.1; let cell_1 : Int := st.2.2; ((decide ((cell_1 + (1 : Int)) < size)) && (decide ((some_v_1.length : Int) < (24 : Int))))
def l_track_w0_cok (size : Int) (wide : Int) (st : (Deck × (List Int) × Int)) : Prop := let deck_here_2 : Deck := st.1; let some_v_1 : List Int := st.2.1; let cell_1 : Int := st.2.2; True
def l_track_w0 (size : Int) (wide : Int) (st : (Deck × (List Int) × Int)) : (Deck × (List Int) × Int) := let deck_here_3 : Deck := st.1; let some_v_2 : List Int := st.2.1; let cell_2 : Int := st.2.2; let q_1 : (Int × Deck) := drawF deck_here_3 wide; let deck_here_4 : Deck := q_1.2; let cell_3 : Int := ((cell_2 + (1 : Int)) + q_1.1); (if (decide (cell_3 < size)) = true then (let some_v_3 : List Int := some_v_2 ++ [cell_3]; (deck_here_4, some_v_3, cell_3)) else (deck_here_4, some_v_2, cell_3))
def l_track_w0_ok (size : Int) (wide : Int) (st : (Deck × (List Int) × Int)) : Prop := let deck_here_3 : Deck := st.1; let some_v_2 : List Int := st.2.1; let cell_2 : Int := st.2.2; (DrOk deck_here_3 wide) ∧ (let q_1 : (Int × Deck) := drawF deck_here_3 wide; let deck_here_4 : Deck := q_1.2; let cell_3 : Int := ((cell_2 + (1 : Int)) + q_1.1); ((decide (cell_3 < size)) = true → (some_v_2.length < 16777216) ∧ (let some_v_3 : List Int := some_v_2 ++ [cell_3]; True)) ∧ True)
def l_track_b (deck_here : Deck) (size : Int) : ((Int × (List Int)) × Deck) := let q : (Int × Deck) := oneF deck_here [(1 : Int), (3 : Int), (6 : Int), (10 : Int), ((2 : Int) * size)]; let deck_here_1 : Deck := q.2; let some_v : List Int := ([] : List Int); let cell : Int := (0 : Int); let wide : Int := q.1; let st_1 : (Deck × (List Int) × Int) := whG (l_track_w0_c size wide) (l_track_w0 size wide) fu (deck_here_1, some_v, cell); let deck_here_5 : Deck := st_1.1; let some_v_4 : List Int := st_1.2.1; let cell_4 : Int := st_1.2.2; let q_2 : (Int × Deck) := drawF deck_here_5 (3 : Int); let deck_here_6 : Deck := q_2.2; let st_2 : (Deck × (List Int)) := (if (decide (q_2.1 = (0 : Int))) = true then (let q_3 : (Int × Deck) := drawF deck_here_6 (3 : Int); let deck_here_7 : Deck := q_3.2; let some_v_5 : List Int := (cutF some_v_4 (some q_3.1) none); (deck_here_7, some_v_5)) else (deck_here_6, some_v_4)); let deck_here_8 : Deck := st_2.1; let some_v_6 : List Int := st_2.2; let q_4 : (Int × Deck) := drawF deck_here_8 (2 : Int); let deck_here_9 : Deck := q_4.2; ((q_4.1, some_v_6), deck_here_9)
@[irreducible] def l_track (deck_here : Deck) (size : Int) : ((Int × (List Int)) × Deck) := l_track_b deck_here size
theorem l_track_eq (deck_here : Deck) (size : Int) : l_track deck_here size = l_track_b deck_here size := by unfold l_track; rfl
def l_track_ok (deck_here : Deck) (size : Int) : Prop := (OnOk deck_here [(1 : Int), (3 : Int), (6 : Int), (10 : Int), ((2 : Int) * size)]) ∧ (let q : (Int × Deck) := oneF deck_here [(1 : Int), (3 : Int), (6 : Int), (10 : Int), ((2 : Int) * size)]; let deck_here_1 : Deck := q.2; let some_v : List Int := ([] : List Int); let cell : Int := (0 : Int); let wide : Int := q.1; (whGOk (l_track_w0_cok size wide) (l_track_w0_c size wide) (l_track_w0_ok size wide) (l_track_w0 size wide) fu (deck_here_1, some_v, cell)) ∧ (let st_1 : (Deck × (List Int) × Int) := whG (l_track_w0_c size wide) (l_track_w0 size wide) fu (deck_here_1, some_v, cell); let deck_here_5 : Deck := st_1.1; let some_v_4 : List Int := st_1.2.1; let cell_4 : Int := st_1.2.2; (DrOk deck_here_5 (3 : Int)) ∧ (let q_2 : (Int × Deck) := drawF deck_here_5 (3 : Int); let deck_here_6 : Deck := q_2.2; ((decide (q_2.1 = (0 : Int))) = true → (DrOk deck_here_6 (3 : Int)) ∧ (let q_3 : (Int × Deck) := drawF deck_here_6 (3 : Int); let deck_here_7 : Deck := q_3.2; let some_v_5 : List Int := (cutF some_v_4 (some q_3.1) none); True)) ∧ (let st_2 : (Deck × (List Int)) := (if (decide (q_2.1 = (0 : Int))) = true then (let q_3 : (Int × Deck) := drawF deck_here_6 (3 : Int); let deck_here_7 : Deck := q_3.2; let some_v_5 : List Int := (cutF some_v_4 (some q_3.1) none); (deck_here_7, some_v_5)) else (deck_here_6, some_v_4)); let deck_here_8 : Deck := st_2.1; let some_v_6 : List Int := st_2.2; (DrOk deck_here_8 (2 : Int)) ∧ (let q_4 : (Int × Deck) := drawF deck_here_8 (2 : Int); let deck_here_9 : Deck := q_4.2; True)))))
def l_borders_b (size : Int) (track_here : (Int × (List Int))) : List Int := let some_v : List Int := track_here.2; (if (decide (((some_v.length : Int) % (2 : Int)) = (0 : Int))) = true then some_v else ([(0 : Int)] ++ some_v))
@[irreducible] def l_borders (size : Int) (track_here : (Int × (List Int))) : List Int := l_borders_b size track_here
theorem l_borders_eq (size : Int) (track_here : (Int × (List Int))) : l_borders size track_here = l_borders_b size track_here := by unfold l_borders; rfl
def l_borders_ok (size : Int) (track_here : (Int × (List Int))) : Prop := let some_v : List Int := track_here.2; ((decide (((some_v.length : Int) % (2 : Int)) = (0 : Int))) = false → ([(0 : Int)].length + some_v.length ≤ 16777216) ∧ True) ∧ True
def l_shortest_b (size : Int) (track_here : (Int × (List Int))) : Int := let some_v : List Int := (l_borders size track_here); (if (decide (some_v = ([] : List Int))) = true then size else (minF (List.map (fun y_v : (Int × Int) => let border : Int := y_v.1; let later : Int := y_v.2; ((later - border) % size)) (List.zip some_v ((cutF some_v (some (1 : Int)) none) ++ (cutF some_v none (some (1 : Int))))))))
@[irreducible] def l_shortest (size : Int) (track_here : (Int × (List Int))) : Int := l_shortest_b size track_here
theorem l_shortest_eq (size : Int) (track_here : (Int × (List Int))) : l_shortest size track_here = l_shortest_b size track_here := by unfold l_shortest; rfl
def l_shortest_ok (size : Int) (track_here : (Int × (List Int))) : Prop := (l_borders_ok size track_here) ∧ (let some_v : List Int := (l_borders size track_here); ((decide (some_v = ([] : List Int))) = false → ((cutF some_v (some (1 : Int)) none).length + (cutF some_v none (some (1 : Int))).length ≤ 16777216) ∧ (∀ y_v : (Int × Int), y_v ∈ (List.zip some_v ((cutF some_v (some (1 : Int)) none) ++ (cutF some_v none (some (1 : Int))))) → let border : Int := y_v.1; let later : Int := y_v.2; (0 < size) ∧ True) ∧ ((List.map (fun y_v : (Int × Int) => let border : Int := y_v.1; let later : Int := y_v.2; ((later - border) % size)) (List.zip some_v ((cutF some_v (some (1 : Int)) none) ++ (cutF some_v none (some (1 : Int)))))) ≠ []) ∧ True) ∧ True)
def l_disc_m0 (size : Int) (dk : Deck) (y_v : Int) : ((Int × (List Int)) × Deck) := let k_v : Int := y_v; let q_2 : ((Int × (List Int)) × Deck) := l_track dk size; let deck_here_3 : Deck := q_2.2; (q_2.1, deck_here_3)
def l_disc_m0_ok (size : Int) (dk : Deck) (y_v : Int) : Prop := let k_v : Int := y_v; (l_track_ok dk size) ∧ (let q_2 : ((Int × (List Int)) × Deck) := l_track dk size; let deck_here_3 : Deck := q_2.2; True)
def l_disc_l1 (wide : Int) (size : Int) (tracks : List (Int × (List Int))) (st : (Deck × (List (Int × Int × Int)))) (y_v_1 : Int) : (Deck × (List (Int × Int × Int))) := let deck_here_6 : Deck := st.1; let sensors_1 : List (Int × Int × Int) := st.2; let k_v_1 : Int := y_v_1; let q_5 : (Int × Deck) := drawF deck_here_6 (tracks.length : Int); let deck_here_7 : Deck := q_5.2; let q_6 : (Int × Deck) := drawF deck_here_7 size; let deck_here_8 : Deck := q_6.2; let number : Int := q_5.1; let low : Int := q_6.1; let more : Int := (min2F wide (l_shortest size (ixF tracks number))); let q_7 : (Int × Deck) := drawF deck_here_8 more; let deck_here_9 : Deck := q_7.2; let sensors_2 : List (Int × Int × Int) := sensors_1 ++ [(number, low, (low + q_7.1))]; (deck_here_9, sensors_2)
def l_disc_l1_ok (wide : Int) (size : Int) (tracks : List (Int × (List Int))) (st : (Deck × (List (Int × Int × Int)))) (y_v_1 : Int) : Prop := let deck_here_6 : Deck := st.1; let sensors_1 : List (Int × Int × Int) := st.2; let k_v_1 : Int := y_v_1; (DrOk deck_here_6 (tracks.length : Int)) ∧ (let q_5 : (Int × Deck) := drawF deck_here_6 (tracks.length : Int); let deck_here_7 : Deck := q_5.2; (DrOk deck_here_7 size) ∧ (let q_6 : (Int × Deck) := drawF deck_here_7 size; let deck_here_8 : Deck := q_6.2; let number : Int := q_5.1; let low : Int := q_6.1; (IxOk tracks number) ∧ (l_shortest_ok size (ixF tracks number)) ∧ (let more : Int := (min2F wide (l_shortest size (ixF tracks number))); (DrOk deck_here_8 more) ∧ (let q_7 : (Int × Deck) := drawF deck_here_8 more; let deck_here_9 : Deck := q_7.2; (sensors_1.length < 16777216) ∧ (let sensors_2 : List (Int × Int × Int) := sensors_1 ++ [(number, low, (low + q_7.1))]; True)))))
def l_disc_b (deck_here : Deck) (most_v : Int) (many : Int) (wide : Int) : ((Int × (List (Int × (List Int))) × (List (Int × Int × Int))) × Deck) := let q : (Int × Deck) := drawF deck_here (most_v - (1 : Int)); let deck_here_1 : Deck := q.2; let size : Int := ((2 : Int) + q.1); let q_1 : (Int × Deck) := drawF deck_here_1 (3 : Int); let deck_here_2 : Deck := q_1.2; let q_3 : (List (Int × (List Int)) × Deck) := mapS (l_disc_m0 size) deck_here_2 (rgI 0 ((1 : Int) + q_1.1)); let deck_here_4 : Deck := q_3.2; let tracks : List (Int × (List Int)) := q_3.1; let sensors : List (Int × Int × Int) := ([] : List (Int × Int × Int)); let q_4 : (Int × Deck) := drawF deck_here_4 many; let deck_here_5 : Deck := q_4.2; let st_1 : (Deck × (List (Int × Int × Int))) := List.foldl (l_disc_l1 wide size tracks) (deck_here_5, sensors) (rgI 0 ((1 : Int) + q_4.1)); let deck_here_10 : Deck := st_1.1; let sensors_3 : List (Int × Int × Int) := st_1.2; ((size, tracks, sensors_3), deck_here_10)
@[irreducible] def l_disc (deck_here : Deck) (most_v : Int) (many : Int) (wide : Int) : ((Int × (List (Int × (List Int))) × (List (Int × Int × Int))) × Deck) := l_disc_b deck_here most_v many wide
theorem l_disc_eq (deck_here : Deck) (most_v : Int) (many : Int) (wide : Int) : l_disc deck_here most_v many wide = l_disc_b deck_here most_v many wide := by unfold l_disc; rfl
def l_disc_ok (deck_here : Deck) (most_v : Int) (many : Int) (wide : Int) : Prop := (DrOk deck_here (most_v - (1 : Int))) ∧ (let q : (Int × Deck) := drawF deck_here (most_v - (1 : Int)); let deck_here_1 : Deck := q.2; let size : Int := ((2 : Int) + q.1); (DrOk deck_here_1 (3 : Int)) ∧ (let q_1 : (Int × Deck) := drawF deck_here_1 (3 : Int); let deck_here_2 : Deck := q_1.2; (RgOk 0 ((1 : Int) + q_1.1)) ∧ (mapSOk (l_disc_m0_ok size) (l_disc_m0 size) deck_here_2 (rgI 0 ((1 : Int) + q_1.1))) ∧ (let q_3 : (List (Int × (List Int)) × Deck) := mapS (l_disc_m0 size) deck_here_2 (rgI 0 ((1 : Int) + q_1.1)); let deck_here_4 : Deck := q_3.2; let tracks : List (Int × (List Int)) := q_3.1; let sensors : List (Int × Int × Int) := ([] : List (Int × Int × Int)); (DrOk deck_here_4 many) ∧ (let q_4 : (Int × Deck) := drawF deck_here_4 many; let deck_here_5 : Deck := q_4.2; (RgOk 0 ((1 : Int) + q_4.1)) ∧ (foldOk (l_disc_l1_ok wide size tracks) (l_disc_l1 wide size tracks) (deck_here_5, sensors) (rgI 0 ((1 : Int) + q_4.1))) ∧ (let st_1 : (Deck × (List (Int × Int × Int))) := List.foldl (l_disc_l1 wide size tracks) (deck_here_5, sensors) (rgI 0 ((1 : Int) + q_4.1)); let deck_here_10 : Deck := st_1.1; let sensors_3 : List (Int × Int × Int) := st_1.2; True)))))
def l_cells_l0 (track_here : (Int × (List Int))) (st : List Int) (y_v : Int) : List Int := let found_1 : List Int := st; let cell : Int := y_v; let found_2 : List Int := found_1 ++ [((track_here.1 + ((List.map (fun y_v_1 : Int => let border : Int := y_v_1; border) (List.filter (fun y_v_1 : Int => let border : Int := y_v_1; (decide (border ≤ cell))) track_here.2)).length : Int)) % (2 : Int))]; found_2
def l_cells_l0_ok (track_here : (Int × (List Int))) (st : List Int) (y_v : Int) : Prop := let found_1 : List Int := st; let cell : Int := y_v; (found_1.length < 16777216) ∧ (let found_2 : List Int := found_1 ++ [((track_here.1 + ((List.map (fun y_v_1 : Int => let border : Int := y_v_1; border) (List.filter (fun y_v_1 : Int => let border : Int := y_v_1; (decide (border ≤ cell))) track_here.2)).length : Int)) % (2 : Int))]; True)
def l_cells_b (size : Int) (track_here : (Int × (List Int))) : List Int := let found : List Int := ([] : List Int); let st_1 : List Int := List.foldl (l_cells_l0 track_here) found (rgI 0 size); let found_3 : List Int := st_1; found_3
@[irreducible] def l_cells (size : Int) (track_here : (Int × (List Int))) : List Int := l_cells_b size track_here
theorem l_cells_eq (size : Int) (track_here : (Int × (List Int))) : l_cells size track_here = l_cells_b size track_here := by unfold l_cells; rfl
def l_cells_ok (size : Int) (track_here : (Int × (List Int))) : Prop := let found : List Int := ([] : List Int); (RgOk 0 size) ∧ (foldOk (l_cells_l0_ok track_here) (l_cells_l0 track_here) found (rgI 0 size)) ∧ (let st_1 : List Int := List.foldl (l_cells_l0 track_here) found (rgI 0 size); let found_3 : List Int := st_1; True)
def l_possible_l0 (disc_here : (Int × (List (Int × (List Int))) × (List (Int × Int × Int)))) (cells_here : List (List Int)) (position : Int) (st : List (List Int)) (y_v : (Int × Int × Int)) : List (List Int) := let found_1 : List (List Int) := st; let number : Int := y_v.1; let low : Int := y_v.2.1; let high : Int := y_v.2.2; let some_v : List Int := (List.map (fun y_v_1 : Int => let seat : Int := y_v_1; (ixF (ixF cells_here number) ((position + seat) % disc_here.1))) (rgI low (high + (1 : Int)))); let found_2 : List (List Int) := found_1 ++ [(dedupA (srtI some_v))]; found_2
def l_possible_l0_ok (disc_here : (Int × (List (Int × (List Int))) × (List (Int × Int × Int)))) (cells_here : List (List Int)) (position : Int) (st : List (List Int)) (y_v : (Int × Int × Int)) : Prop := let found_1 : List (List Int) := st; let number : Int := y_v.1; let low : Int := y_v.2.1; let high : Int := y_v.2.2; (RgOk low (high + (1 : Int))) ∧ (∀ y_v_1 : Int, y_v_1 ∈ (rgI low (high + (1 : Int))) → let seat : Int := y_v_1; (IxOk cells_here number) ∧ (0 < disc_here.1) ∧ (IxOk (ixF cells_here number) ((position + seat) % disc_here.1)) ∧ True) ∧ (let some_v : List Int := (List.map (fun y_v_1 : Int => let seat : Int := y_v_1; (ixF (ixF cells_here number) ((position + seat) % disc_here.1))) (rgI low (high + (1 : Int)))); (List.length some_v < 4000) ∧ (found_1.length < 16777216) ∧ (let found_2 : List (List Int) := found_1 ++ [(dedupA (srtI some_v))]; True))
def l_possible_b (disc_here : (Int × (List (Int × (List Int))) × (List (Int × Int × Int)))) (cells_here : List (List Int)) (position : Int) : List (List Int) := let found : List (List Int) := ([] : List (List Int)); let st_1 : List (List Int) := List.foldl (l_possible_l0 disc_here cells_here position) found disc_here.2.2; let found_3 : List (List Int) := st_1; found_3
@[irreducible] def l_possible (disc_here : (Int × (List (Int × (List Int))) × (List (Int × Int × Int)))) (cells_here : List (List Int)) (position : Int) : List (List Int) := l_possible_b disc_here cells_here position
theorem l_possible_eq (disc_here : (Int × (List (Int × (List Int))) × (List (Int × Int × Int)))) (cells_here : List (List Int)) (position : Int) : l_possible disc_here cells_here position = l_possible_b disc_here cells_here position := by unfold l_possible; rfl
def l_possible_ok (disc_here : (Int × (List (Int × (List Int))) × (List (Int × Int × Int)))) (cells_here : List (List Int)) (position : Int) : Prop := let found : List (List Int) := ([] : List (List Int)); (foldOk (l_possible_l0_ok disc_here cells_here position) (l_possible_l0 disc_here cells_here position) found disc_here.2.2) ∧ (let st_1 : List (List Int) := List.foldl (l_possible_l0 disc_here cells_here position) found disc_here.2.2; let found_3 : List (List Int) := st_1; True)
def going_round_b (track : (Int × (List Int))) : List Int := (if (decide (((track.2.length : Int) % (2 : Int)) = (0 : Int))) = true then track.2 else ([(0 : Int)] ++ track.2))
@[irreducible] def going_round (track : (Int × (List Int))) : List Int := going_round_b track
theorem going_round_eq (track : (Int × (List Int))) : going_round track = going_round_b track := by unfold going_round; rfl
def going_round_ok (track : (Int × (List Int))) : Prop := ((decide (((track.2.length : Int) % (2 : Int)) = (0 : Int))) = false → ([(0 : Int)].length + track.2.length ≤ 16777216) ∧ True) ∧ True
def breaks_l1 (disc : (Int × (List (Int × (List Int))) × (List (Int × Int × Int)))) (low : Int) (high : Int) (st_1 : List Int) (y_v_1 : Int) : List Int := let found_2 : List Int := st_1; let border : Int := y_v_1; let found_3 : List Int := found_2 ++ [((border - low) % disc.1), ((border - high) % disc.1)]; found_3
def breaks_l1_ok (disc : (Int × (List (Int × (List Int))) × (List (Int × Int × Int)))) (low : Int) (high : Int) (st_1 : List Int) (y_v_1 : Int) : Prop := let found_2 : List Int := st_1; let border : Int := y_v_1; (0 < disc.1) ∧ (0 < disc.1) ∧ (found_2.length + [((border - low) % disc.1), ((border - high) % disc.1)].length ≤ 16777216) ∧ (let found_3 : List Int := found_2 ++ [((border - low) % disc.1), ((border - high) % disc.1)]; True)
def breaks_l0 (disc : (Int × (List (Int × (List Int))) × (List (Int × Int × Int)))) (st : List Int) (y_v : (Int × Int × Int)) : List Int := let found_1 : List Int := st; let track : Int := y_v.1; let low : Int := y_v.2.1; let high : Int := y_v.2.2; let st_2 : List Int := List.foldl (breaks_l1 disc low high) found_1 (going_round (ixF disc.2.1 track)); let found_4 : List Int := st_2; found_4
def breaks_l0_ok (disc : (Int × (List (Int × (List Int))) × (List (Int × Int × Int)))) (st : List Int) (y_v : (Int × Int × Int)) : Prop := let found_1 : List Int := st; let track : Int := y_v.1; let low : Int := y_v.2.1; let high : Int := y_v.2.2; (IxOk disc.2.1 track) ∧ (going_round_ok (ixF disc.2.1 track)) ∧ (foldOk (breaks_l1_ok disc low high) (breaks_l1 disc low high) found_1 (going_round (ixF disc.2.1 track))) ∧ (let st_2 : List Int := List.foldl (breaks_l1 disc low high) found_1 (going_round (ixF disc.2.1 track)); let found_4 : List Int := st_2; True)
def breaks_b (disc : (Int × (List (Int × (List Int))) × (List (Int × Int × Int)))) : List Int := let found : List Int := [(0 : Int)]; let st_3 : List Int := List.foldl (breaks_l0 disc) found disc.2.2; let found_5 : List Int := st_3; (dedupA (srtI found_5))
@[irreducible] def breaks (disc : (Int × (List (Int × (List Int))) × (List (Int × Int × Int)))) : List Int := breaks_b disc
theorem breaks_eq (disc : (Int × (List (Int × (List Int))) × (List (Int × Int × Int)))) : breaks disc = breaks_b disc := by unfold breaks; rfl
def breaks_ok (disc : (Int × (List (Int × (List Int))) × (List (Int × Int × Int)))) : Prop := let found : List Int := [(0 : Int)]; (foldOk (breaks_l0_ok disc) (breaks_l0 disc) found disc.2.2) ∧ (let st_3 : List Int := List.foldl (breaks_l0 disc) found disc.2.2; let found_5 : List Int := st_3; (List.length found_5 < 4000) ∧ True)
def colour_b (disc : (Int × (List (Int × (List Int))) × (List (Int × Int × Int)))) (track : Int) (cell : Int) : Int := let u : (Int × (List Int)) := (ixF disc.2.1 track); let first : Int := u.1; let borders : List Int := u.2; let place : Int := (cell % disc.1); ((first + ((List.map (fun y_v : Int => let border : Int := y_v; border) (List.filter (fun y_v : Int => let border : Int := y_v; (decide (border ≤ place))) borders)).length : Int)) % (2 : Int))
@[irreducible] def colour (disc : (Int × (List (Int × (List Int))) × (List (Int × Int × Int)))) (track : Int) (cell : Int) : Int := colour_b disc track cell
theorem colour_eq (disc : (Int × (List (Int × (List Int))) × (List (Int × Int × Int)))) (track : Int) (cell : Int) : colour disc track cell = colour_b disc track cell := by unfold colour; rfl
def colour_ok (disc : (Int × (List (Int × (List Int))) × (List (Int × Int × Int)))) (track : Int) (cell : Int) : Prop := (IxOk disc.2.1 track) ∧ (let u : (Int × (List Int)) := (ixF disc.2.1 track); let first : Int := u.1; let borders : List Int := u.2; (0 < disc.1) ∧ (let place : Int := (cell % disc.1); True))
def colours_b (disc : (Int × (List (Int × (List Int))) × (List (Int × Int × Int)))) (sensor : (Int × Int × Int)) (position : Int) : List Int := let track : Int := sensor.1; let low : Int := sensor.2.1; let high : Int := sensor.2.2; let some_v : (Int × Int) := ((colour disc track (position + low)), (colour disc track (position + high))); (if (decide (some_v.1 = some_v.2)) = true then [some_v.1] else [(0 : Int), (1 : Int)])
@[irreducible] def colours (disc : (Int × (List (Int × (List Int))) × (List (Int × Int × Int)))) (sensor : (Int × Int × Int)) (position : Int) : List Int := colours_b disc sensor position
theorem colours_eq (disc : (Int × (List (Int × (List Int))) × (List (Int × Int × Int)))) (sensor : (Int × Int × Int)) (position : Int) : colours disc sensor position = colours_b disc sensor position := by unfold colours; rfl
def colours_ok (disc : (Int × (List (Int × (List Int))) × (List (Int × Int × Int)))) (sensor : (Int × Int × Int)) (position : Int) : Prop := let track : Int := sensor.1; let low : Int := sensor.2.1; let high : Int := sensor.2.2; (colour_ok disc track (position + low)) ∧ (colour_ok disc track (position + high)) ∧ (let some_v : (Int × Int) := ((colour disc track (position + low)), (colour disc track (position + high))); True)
def possible_b (disc : (Int × (List (Int × (List Int))) × (List (Int × Int × Int)))) (position : Int) : List (List Int) := (List.map (fun y_v : (Int × Int × Int) => let sensor : (Int × Int × Int) := y_v; (colours disc sensor position)) disc.2.2)
@[irreducible] def possible (disc : (Int × (List (Int × (List Int))) × (List (Int × Int × Int)))) (position : Int) : List (List Int) := possible_b disc position
theorem possible_eq (disc : (Int × (List (Int × (List Int))) × (List (Int × Int × Int)))) (position : Int) : possible disc position = possible_b disc position := by unfold possible; rfl
def possible_ok (disc : (Int × (List (Int × (List Int))) × (List (Int × Int × Int)))) (position : Int) : Prop := (∀ y_v : (Int × Int × Int), y_v ∈ disc.2.2 → let sensor : (Int × Int × Int) := y_v; (colours_ok disc sensor position) ∧ True) ∧ True
def zones_l0 (disc : (Int × (List (Int × (List Int))) × (List (Int × Int × Int)))) (st : List (Int × Int × (List (List Int)))) (y_v : (Int × Int)) : List (Int × Int × (List (List Int))) := let found_1 : List (Int × Int × (List (List Int))) := st; let first : Int := y_v.1; let end_v : Int := y_v.2; let some_v : List (List Int) := (possible disc first); (if ((!decide (found_1 = ([] : List (Int × Int × (List (List Int)))))) && (decide ((ixF found_1 (-(1 : Int))).2.2 = some_v))) = true then (let found_2 : List (Int × Int × (List (List Int))) := setF found_1 (-(1 : Int)) ((ixF found_1 (-(1 : Int))).1, (end_v - (ixF found_1 (-(1 : Int))).1), some_v); found_2) else (let found_3 : List (Int × Int × (List (List Int))) := found_1 ++ [(first, (end_v - first), some_v)]; found_3))
def zones_l0_ok (disc : (Int × (List (Int × (List Int))) × (List (Int × Int × Int)))) (st : List (Int × Int × (List (List Int)))) (y_v : (Int × Int)) : Prop := let found_1 : List (Int × Int × (List (List Int))) := st; let first : Int := y_v.1; let end_v : Int := y_v.2; (possible_ok disc first) ∧ (let some_v : List (List Int) := (possible disc first); ((!decide (found_1 = ([] : List (Int × Int × (List (List Int)))))) = true → (IxOk found_1 (-(1 : Int))) ∧ True) ∧ (((!decide (found_1 = ([] : List (Int × Int × (List (List Int)))))) && (decide ((ixF found_1 (-(1 : Int))).2.2 = some_v))) = true → (IxOk found_1 (-(1 : Int))) ∧ (IxOk found_1 (-(1 : Int))) ∧ (IxOk found_1 (-(1 : Int))) ∧ (let found_2 : List (Int × Int × (List (List Int))) := setF found_1 (-(1 : Int)) ((ixF found_1 (-(1 : Int))).1, (end_v - (ixF found_1 (-(1 : Int))).1), some_v); True)) ∧ (((!decide (found_1 = ([] : List (Int × Int × (List (List Int)))))) && (decide ((ixF found_1 (-(1 : Int))).2.2 = some_v))) = false → (found_1.length < 16777216) ∧ (let found_3 : List (Int × Int × (List (List Int))) := found_1 ++ [(first, (end_v - first), some_v)]; True)) ∧ True)
def zones_b (disc : (Int × (List (Int × (List Int))) × (List (Int × Int × Int)))) : List (Int × Int × (List (List Int))) := let found : List (Int × Int × (List (List Int))) := ([] : List (Int × Int × (List (List Int)))); let every : List Int := (breaks disc); let st_1 : List (Int × Int × (List (List Int))) := List.foldl (zones_l0 disc) found (List.zip every ((cutF every (some (1 : Int)) none) ++ [disc.1])); let found_4 : List (Int × Int × (List (List Int))) := st_1; found_4
@[irreducible] def zones (disc : (Int × (List (Int × (List Int))) × (List (Int × Int × Int)))) : List (Int × Int × (List (List Int))) := zones_b disc
theorem zones_eq (disc : (Int × (List (Int × (List Int))) × (List (Int × Int × Int)))) : zones disc = zones_b disc := by unfold zones; rfl
def zones_ok (disc : (Int × (List (Int × (List Int))) × (List (Int × Int × Int)))) : Prop := (breaks_ok disc) ∧ (let found : List (Int × Int × (List (List Int))) := ([] : List (Int × Int × (List (List Int)))); let every : List Int := (breaks disc); ((cutF every (some (1 : Int)) none).length + [disc.1].length ≤ 16777216) ∧ (foldOk (zones_l0_ok disc) (zones_l0 disc) found (List.zip every ((cutF every (some (1 : Int)) none) ++ [disc.1]))) ∧ (let st_1 : List (Int × Int × (List (List Int))) := List.foldl (zones_l0 disc) found (List.zip every ((cutF every (some (1 : Int)) none) ++ [disc.1])); let found_4 : List (Int × Int × (List (List Int))) := st_1; True))
def l_great_m1 (size : Int) (dk : Deck) (y_v_1 : Int) : (Int × Deck) := let border : Int := y_v_1; let q_3 : (Int × Deck) := drawF dk (size - (1 : Int)); let deck_here_5 : Deck := q_3.2; (((1 : Int) + q_3.1), deck_here_5)
def l_great_m1_ok (size : Int) (dk : Deck) (y_v_1 : Int) : Prop := let border : Int := y_v_1; (DrOk dk (size - (1 : Int))) ∧ (let q_3 : (Int × Deck) := drawF dk (size - (1 : Int)); let deck_here_5 : Deck := q_3.2; True)
def l_great_l0 (size : Int) (st : (Deck × (List (Int × (List Int))))) (y_v : Int) : (Deck × (List (Int × (List Int)))) := let deck_here_3 : Deck := st.1; let tracks_1 : List (Int × (List Int)) := st.2; let k_v : Int := y_v; let q_2 : (Int × Deck) := drawF deck_here_3 (9 : Int); let deck_here_4 : Deck := q_2.2; let q_4 : (List Int × Deck) := mapS (l_great_m1 size) deck_here_4 (rgI 0 q_2.1); let deck_here_6 : Deck := q_4.2; let some_v : List Int := q_4.1; let q_5 : (Int × Deck) := drawF deck_here_6 (2 : Int); let deck_here_7 : Deck := q_5.2; let tracks_2 : List (Int × (List Int)) := tracks_1 ++ [(q_5.1, (dedupA (srtI some_v)))]; (deck_here_7, tracks_2)
def l_great_l0_ok (size : Int) (st : (Deck × (List (Int × (List Int))))) (y_v : Int) : Prop := let deck_here_3 : Deck := st.1; let tracks_1 : List (Int × (List Int)) := st.2; let k_v : Int := y_v; (DrOk deck_here_3 (9 : Int)) ∧ (let q_2 : (Int × Deck) := drawF deck_here_3 (9 : Int); let deck_here_4 : Deck := q_2.2; (RgOk 0 q_2.1) ∧ (mapSOk (l_great_m1_ok size) (l_great_m1 size) deck_here_4 (rgI 0 q_2.1)) ∧ (let q_4 : (List Int × Deck) := mapS (l_great_m1 size) deck_here_4 (rgI 0 q_2.1); let deck_here_6 : Deck := q_4.2; let some_v : List Int := q_4.1; (DrOk deck_here_6 (2 : Int)) ∧ (let q_5 : (Int × Deck) := drawF deck_here_6 (2 : Int); let deck_here_7 : Deck := q_5.2; (List.length some_v < 4000) ∧ (tracks_1.length < 16777216) ∧ (let tracks_2 : List (Int × (List Int)) := tracks_1 ++ [(q_5.1, (dedupA (srtI some_v)))]; True))))
def l_great_l2 (size : Int) (tracks_3 : List (Int × (List Int))) (st_2 : (Deck × (List (Int × Int × Int)))) (y_v_2 : Int) : (Deck × (List (Int × Int × Int))) := let deck_here_10 : Deck := st_2.1; let sensors_1 : List (Int × Int × Int) := st_2.2; let k_v_1 : Int := y_v_2; let q_7 : (Int × Deck) := drawF deck_here_10 (tracks_3.length : Int); let deck_here_11 : Deck := q_7.2; let q_8 : (Int × Deck) := drawF deck_here_11 size; let deck_here_12 : Deck := q_8.2; let number : Int := q_7.1; let low : Int := q_8.1; let more : Int := (l_shortest size (ixF tracks_3 number)); let q_9 : (Int × Deck) := drawF deck_here_12 more; let deck_here_13 : Deck := q_9.2; let q_10 : (Int × Deck) := drawF deck_here_13 more; let deck_here_14 : Deck := q_10.2; let q_11 : (Int × Deck) := oneF deck_here_14 [(0 : Int), q_9.1, q_10.1, (more - (1 : Int))]; let deck_here_15 : Deck := q_11.2; let sensors_2 : List (Int × Int × Int) := sensors_1 ++ [(number, low, (low + q_11.1))]; (deck_here_15, sensors_2)
def l_great_l2_ok (size : Int) (tracks_3 : List (Int × (List Int))) (st_2 : (Deck × (List (Int × Int × Int)))) (y_v_2 : Int) : Prop := let deck_here_10 : Deck := st_2.1; let sensors_1 : List (Int × Int × Int) := st_2.2; let k_v_1 : Int := y_v_2; (DrOk deck_here_10 (tracks_3.length : Int)) ∧ (let q_7 : (Int × Deck) := drawF deck_here_10 (tracks_3.length : Int); let deck_here_11 : Deck := q_7.2; (DrOk deck_here_11 size) ∧ (let q_8 : (Int × Deck) := drawF deck_here_11 size; let deck_here_12 : Deck := q_8.2; let number : Int := q_7.1; let low : Int := q_8.1; (IxOk tracks_3 number) ∧ (l_shortest_ok size (ixF tracks_3 number)) ∧ (let more : Int := (l_shortest size (ixF tracks_3 number)); (DrOk deck_here_12 more) ∧ (let q_9 : (Int × Deck) := drawF deck_here_12 more; let deck_here_13 : Deck := q_9.2; (DrOk deck_here_13 more) ∧ (let q_10 : (Int × Deck) := drawF deck_here_13 more; let deck_here_14 : Deck := q_10.2; (OnOk deck_here_14 [(0 : Int), q_9.1, q_10.1, (more - (1 : Int))]) ∧ (let q_11 : (Int × Deck) := oneF deck_here_14 [(0 : Int), q_9.1, q_10.1, (more - (1 : Int))]; let deck_here_15 : Deck := q_11.2; (sensors_1.length < 16777216) ∧ (let sensors_2 : List (Int × Int × Int) := sensors_1 ++ [(number, low, (low + q_11.1))]; True)))))))
def l_great_b (deck_here : Deck) (many : Int) : ((Int × (List (Int × (List Int))) × (List (Int × Int × Int))) × Deck) := let q : (Int × Deck) := drawF deck_here (999001 : Int); let deck_here_1 : Deck := q.2; let size : Int := ((1000 : Int) + q.1); let tracks : List (Int × (List Int)) := ([] : List (Int × (List Int))); let q_1 : (Int × Deck) := drawF deck_here_1 (3 : Int); let deck_here_2 : Deck := q_1.2; let st_1 : (Deck × (List (Int × (List Int)))) := List.foldl (l_great_l0 size) (deck_here_2, tracks) (rgI 0 ((1 : Int) + q_1.1)); let deck_here_8 : Deck := st_1.1; let tracks_3 : List (Int × (List Int)) := st_1.2; let sensors : List (Int × Int × Int) := ([] : List (Int × Int × Int)); let q_6 : (Int × Deck) := drawF deck_here_8 many; let deck_here_9 : Deck := q_6.2; let st_3 : (Deck × (List (Int × Int × Int))) := List.foldl (l_great_l2 size tracks_3) (deck_here_9, sensors) (rgI 0 ((1 : Int) + q_6.1)); let deck_here_16 : Deck := st_3.1; let sensors_3 : List (Int × Int × Int) := st_3.2; ((size, tracks_3, sensors_3), deck_here_16)
@[irreducible] def l_great (deck_here : Deck) (many : Int) : ((Int × (List (Int × (List Int))) × (List (Int × Int × Int))) × Deck) := l_great_b deck_here many
theorem l_great_eq (deck_here : Deck) (many : Int) : l_great deck_here many = l_great_b deck_here many := by unfold l_great; rfl
def l_great_ok (deck_here : Deck) (many : Int) : Prop := (DrOk deck_here (999001 : Int)) ∧ (let q : (Int × Deck) := drawF deck_here (999001 : Int); let deck_here_1 : Deck := q.2; let size : Int := ((1000 : Int) + q.1); let tracks : List (Int × (List Int)) := ([] : List (Int × (List Int))); (DrOk deck_here_1 (3 : Int)) ∧ (let q_1 : (Int × Deck) := drawF deck_here_1 (3 : Int); let deck_here_2 : Deck := q_1.2; (RgOk 0 ((1 : Int) + q_1.1)) ∧ (foldOk (l_great_l0_ok size) (l_great_l0 size) (deck_here_2, tracks) (rgI 0 ((1 : Int) + q_1.1))) ∧ (let st_1 : (Deck × (List (Int × (List Int)))) := List.foldl (l_great_l0 size) (deck_here_2, tracks) (rgI 0 ((1 : Int) + q_1.1)); let deck_here_8 : Deck := st_1.1; let tracks_3 : List (Int × (List Int)) := st_1.2; let sensors : List (Int × Int × Int) := ([] : List (Int × Int × Int)); (DrOk deck_here_8 many) ∧ (let q_6 : (Int × Deck) := drawF deck_here_8 many; let deck_here_9 : Deck := q_6.2; (RgOk 0 ((1 : Int) + q_6.1)) ∧ (foldOk (l_great_l2_ok size tracks_3) (l_great_l2 size tracks_3) (deck_here_9, sensors) (rgI 0 ((1 : Int) + q_6.1))) ∧ (let st_3 : (Deck × (List (Int × Int × Int))) := List.foldl (l_great_l2 size tracks_3) (deck_here_9, sensors) (rgI 0 ((1 : Int) + q_6.1)); let deck_here_16 : Deck := st_3.1; let sensors_3 : List (Int × Int × Int) := st_3.2; True)))))
def widened_b (size : Int) (sensor : (Int × Int × Int)) (k_v : Int) : (Int × Int × Int) := let track : Int := sensor.1; let low : Int := sensor.2.1; let high : Int := sensor.2.2; let turns : Int := (if (decide (low < k_v)) = true then ((((k_v - low) + size) - (1 : Int)) / size) else (0 : Int)); (track, ((low - k_v) + (turns * size)), ((high + k_v) + (turns * size)))
@[irreducible] def widened (size : Int) (sensor : (Int × Int × Int)) (k_v : Int) : (Int × Int × Int) := widened_b size sensor k_v
theorem widened_eq (size : Int) (sensor : (Int × Int × Int)) (k_v : Int) : widened size sensor k_v = widened_b size sensor k_v := by unfold widened; rfl
def widened_ok (size : Int) (sensor : (Int × Int × Int)) (k_v : Int) : Prop := let track : Int := sensor.1; let low : Int := sensor.2.1; let high : Int := sensor.2.2; ((decide (low < k_v)) = true → (0 < size ∧ size < 2 ^ 64) ∧ True) ∧ (let turns : Int := (if (decide (low < k_v)) = true then ((((k_v - low) + size) - (1 : Int)) / size) else (0 : Int)); (mulOk turns size = true) ∧ (mulOk turns size = true) ∧ True)
def is_integer_b (value : Int) (low : Int) (high : Int) : Bool := (if ((!true) || (false || (decide (value < low)))) = true then false else (false || (decide (value ≤ high))))
@[irreducible] def is_integer (value : Int) (low : Int) (high : Int) : Bool := is_integer_b value low high
theorem is_integer_eq (value : Int) (low : Int) (high : Int) : is_integer value low high = is_integer_b value low high := by unfold is_integer; rfl
def is_integer_ok (value : Int) (low : Int) (high : Int) : Prop := True
def is_ascending_b (numbers : List Int) : Bool := (List.all (List.map (fun y_v : (Int × Int) => let one : Int := y_v.1; let other : Int := y_v.2; (decide (one < other))) (List.zip numbers (cutF numbers (some (1 : Int)) none))) id)
@[irreducible] def is_ascending (numbers : List Int) : Bool := is_ascending_b numbers
theorem is_ascending_eq (numbers : List Int) : is_ascending numbers = is_ascending_b numbers := by unfold is_ascending; rfl
def is_ascending_ok (numbers : List Int) : Prop := True
def is_track_b (value : (Int × (List Int))) (size : Int) : Bool := (if ((!true) || ((!decide ((2 : Int) = (2 : Int))) || (!(is_integer value.1 (0 : Int) (1 : Int))))) = true then false else (let borders : List Int := value.2; (if ((!true) || (decide ((24 : Int) < (borders.length : Int)))) = true then false else ((List.all (List.map (fun y_v : Int => let border : Int := y_v; (is_integer border (1 : Int) (size - (1 : Int)))) borders) id) && (is_ascending borders)))))
@[irreducible] def is_track (value : (Int × (List Int))) (size : Int) : Bool := is_track_b value size
theorem is_track_eq (value : (Int × (List Int))) (size : Int) : is_track value size = is_track_b value size := by unfold is_track; rfl
def is_track_ok (value : (Int × (List Int))) (size : Int) : Prop := ((!true) = false → ((!decide ((2 : Int) = (2 : Int))) = false → (is_integer_ok value.1 (0 : Int) (1 : Int)) ∧ True) ∧ True) ∧ (((!true) || ((!decide ((2 : Int) = (2 : Int))) || (!(is_integer value.1 (0 : Int) (1 : Int))))) = false → let borders : List Int := value.2; (((!true) || (decide ((24 : Int) < (borders.length : Int)))) = false → (∀ y_v : Int, y_v ∈ borders → let border : Int := y_v; (is_integer_ok border (1 : Int) (size - (1 : Int))) ∧ True) ∧ ((List.all (List.map (fun y_v : Int => let border : Int := y_v; (is_integer border (1 : Int) (size - (1 : Int)))) borders) id) = true → (is_ascending_ok borders) ∧ True) ∧ True) ∧ True) ∧ True
def is_integer__b (value : Int) (low : Int) (high : Option Int) : Bool := (if ((!true) || (false || (decide (value < low)))) = true then false else ((Option.isNone high) || (let high_1 : Int := unO high; (decide (value ≤ high_1)))))
@[irreducible] def is_integer_ (value : Int) (low : Int) (high : Option Int) : Bool := is_integer__b value low high
theorem is_integer__eq (value : Int) (low : Int) (high : Option Int) : is_integer_ value low high = is_integer__b value low high := by unfold is_integer_; rfl
def is_integer__ok (value : Int) (low : Int) (high : Option Int) : Prop := True
def shortest_stretch_b (size : Int) (track : (Int × (List Int))) : Int := let borders : List Int := (going_round track); (if (decide (borders = ([] : List Int))) = true then size else (minF (List.map (fun y_v : (Int × Int) => let border : Int := y_v.1; let later : Int := y_v.2; ((later - border) % size)) (List.zip borders ((cutF borders (some (1 : Int)) none) ++ (cutF borders none (some (1 : Int))))))))
@[irreducible] def shortest_stretch (size : Int) (track : (Int × (List Int))) : Int := shortest_stretch_b size track
theorem shortest_stretch_eq (size : Int) (track : (Int × (List Int))) : shortest_stretch size track = shortest_stretch_b size track := by unfold shortest_stretch; rfl
def shortest_stretch_ok (size : Int) (track : (Int × (List Int))) : Prop := (going_round_ok track) ∧ (let borders : List Int := (going_round track); ((decide (borders = ([] : List Int))) = false → ((cutF borders (some (1 : Int)) none).length + (cutF borders none (some (1 : Int))).length ≤ 16777216) ∧ (∀ y_v : (Int × Int), y_v ∈ (List.zip borders ((cutF borders (some (1 : Int)) none) ++ (cutF borders none (some (1 : Int))))) → let border : Int := y_v.1; let later : Int := y_v.2; (0 < size) ∧ True) ∧ ((List.map (fun y_v : (Int × Int) => let border : Int := y_v.1; let later : Int := y_v.2; ((later - border) % size)) (List.zip borders ((cutF borders (some (1 : Int)) none) ++ (cutF borders none (some (1 : Int)))))) ≠ []) ∧ True) ∧ True)
def is_sensor_b (value : (Int × Int × Int)) (tracks : List (Int × (List Int))) (size : Int) : Bool := (if ((!true) || ((!decide ((3 : Int) = (3 : Int))) || (!(is_integer value.1 (0 : Int) ((tracks.length : Int) - (1 : Int)))))) = true then false else (let track : Int := value.1; let low : Int := value.2.1; let high : Int := value.2.2; (if ((!(is_integer low (0 : Int) (size - (1 : Int)))) || (!(is_integer_ high low none))) = true then false else (decide (((high - low) + (1 : Int)) ≤ (shortest_stretch size (ixF tracks track)))))))
@[irreducible] def is_sensor (value : (Int × Int × Int)) (tracks : List (Int × (List Int))) (size : Int) : Bool := is_sensor_b value tracks size
theorem is_sensor_eq (value : (Int × Int × Int)) (tracks : List (Int × (List Int))) (size : Int) : is_sensor value tracks size = is_sensor_b value tracks size := by unfold is_sensor; rfl
def is_sensor_ok (value : (Int × Int × Int)) (tracks : List (Int × (List Int))) (size : Int) : Prop := ((!true) = false → ((!decide ((3 : Int) = (3 : Int))) = false → (is_integer_ok value.1 (0 : Int) ((tracks.length : Int) - (1 : Int))) ∧ True) ∧ True) ∧ (((!true) || ((!decide ((3 : Int) = (3 : Int))) || (!(is_integer value.1 (0 : Int) ((tracks.length : Int) - (1 : Int)))))) = false → let track : Int := value.1; let low : Int := value.2.1; let high : Int := value.2.2; (is_integer_ok low (0 : Int) (size - (1 : Int))) ∧ ((!(is_integer low (0 : Int) (size - (1 : Int)))) = false → (is_integer__ok high low none) ∧ True) ∧ (((!(is_integer low (0 : Int) (size - (1 : Int)))) || (!(is_integer_ high low none))) = false → (IxOk tracks track) ∧ (shortest_stretch_ok size (ixF tracks track)) ∧ True) ∧ True) ∧ True
def is_disc_b (value : (Int × (List (Int × (List Int))) × (List (Int × Int × Int)))) : Bool := (if ((!true) || ((!decide ((3 : Int) = (3 : Int))) || (!(is_integer value.1 (2 : Int) (1000000 : Int))))) = true then false else (let size : Int := value.1; let tracks : List (Int × (List Int)) := value.2.1; let sensors : List (Int × Int × Int) := value.2.2; (if ((!true) || ((decide ((tracks.length : Int) < (1 : Int))) || (decide ((5 : Int) < (tracks.length : Int))))) = true then false else (if (!(List.all (List.map (fun y_v : (Int × (List Int)) => let track : (Int × (List Int)) := y_v; (is_track track size)) tracks) id)) = true then false else (if ((!true) || ((decide ((sensors.length : Int) < (1 : Int))) || (decide ((6 : Int) < (sensors.length : Int))))) = true then false else (List.all (List.map (fun y_v_1 : (Int × Int × Int) => let sensor : (Int × Int × Int) := y_v_1; (is_sensor sensor tracks size)) sensors) id))))))
@[irreducible] def is_disc (value : (Int × (List (Int × (List Int))) × (List (Int × Int × Int)))) : Bool := is_disc_b value
theorem is_disc_eq (value : (Int × (List (Int × (List Int))) × (List (Int × Int × Int)))) : is_disc value = is_disc_b value := by unfold is_disc; rfl
def is_disc_ok (value : (Int × (List (Int × (List Int))) × (List (Int × Int × Int)))) : Prop := ((!true) = false → ((!decide ((3 : Int) = (3 : Int))) = false → (is_integer_ok value.1 (2 : Int) (1000000 : Int)) ∧ True) ∧ True) ∧ (((!true) || ((!decide ((3 : Int) = (3 : Int))) || (!(is_integer value.1 (2 : Int) (1000000 : Int))))) = false → let size : Int := value.1; let tracks : List (Int × (List Int)) := value.2.1; let sensors : List (Int × Int × Int) := value.2.2; (((!true) || ((decide ((tracks.length : Int) < (1 : Int))) || (decide ((5 : Int) < (tracks.length : Int))))) = false → (∀ y_v : (Int × (List Int)), y_v ∈ tracks → let track : (Int × (List Int)) := y_v; (is_track_ok track size) ∧ True) ∧ ((!(List.all (List.map (fun y_v : (Int × (List Int)) => let track : (Int × (List Int)) := y_v; (is_track track size)) tracks) id)) = false → (((!true) || ((decide ((sensors.length : Int) < (1 : Int))) || (decide ((6 : Int) < (sensors.length : Int))))) = false → (∀ y_v_1 : (Int × Int × Int), y_v_1 ∈ sensors → let sensor : (Int × Int × Int) := y_v_1; (is_sensor_ok sensor tracks size) ∧ True) ∧ True) ∧ True) ∧ True) ∧ True) ∧ True
def wider_b (disc : (Int × (List (Int × (List Int))) × (List (Int × Int × Int)))) (k_v : Int) : Option (Int × (List (Int × (List Int))) × (List (Int × Int × Int))) := let found : (Int × (List (Int × (List Int))) × (List (Int × Int × Int))) := (disc.1, disc.2.1, (List.map (fun y_v : (Int × Int × Int) => let sensor : (Int × Int × Int) := y_v; (widened disc.1 sensor k_v)) disc.2.2)); (if (is_disc found) = true then (some found) else none)
@[irreducible] def wider (disc : (Int × (List (Int × (List Int))) × (List (Int × Int × Int)))) (k_v : Int) : Option (Int × (List (Int × (List Int))) × (List (Int × Int × Int))) := wider_b disc k_v
theorem wider_eq (disc : (Int × (List (Int × (List Int))) × (List (Int × Int × Int)))) (k_v : Int) : wider disc k_v = wider_b disc k_v := by unfold wider; rfl
def wider_ok (disc : (Int × (List (Int × (List Int))) × (List (Int × Int × Int)))) (k_v : Int) : Prop := (∀ y_v : (Int × Int × Int), y_v ∈ disc.2.2 → let sensor : (Int × Int × Int) := y_v; (widened_ok disc.1 sensor k_v) ∧ True) ∧ (let found : (Int × (List (Int × (List Int))) × (List (Int × Int × Int))) := (disc.1, disc.2.1, (List.map (fun y_v : (Int × Int × Int) => let sensor : (Int × Int × Int) := y_v; (widened disc.1 sensor k_v)) disc.2.2)); (is_disc_ok found) ∧ True)
def l_due_w1_c (disc_here : (Int × (List (Int × (List Int))) × (List (Int × Int × Int)))) (st_1 : Int) : Bool := let less_1 : Int := st_1; (decide (less_1 < (0 : Int)))
def l_due_w1_cok (disc_here : (Int × (List (Int × (List Int))) × (List (Int × Int × Int)))) (st_1 : Int) : Prop := let less_1 : Int := st_1; True
def l_due_w1 (disc_here : (Int × (List (Int × (List Int))) × (List (Int × Int × Int)))) (st_1 : Int) : Int := let less_2 : Int := st_1; let less_3 : Int := (less_2 + disc_here.1); less_3
def l_due_w1_ok (disc_here : (Int × (List (Int × (List Int))) × (List (Int × Int × Int)))) (st_1 : Int) : Prop := let less_2 : Int := st_1; let less_3 : Int := (less_2 + disc_here.1); True
def l_due_l0 (disc_here : (Int × (List (Int × (List Int))) × (List (Int × Int × Int)))) (k_v : Int) (st : List (Int × Int × Int)) (y_v : (Int × Int × Int)) : (Step (List (Int × Int × Int)) (Option (Int × (List (Int × (List Int))) × (List (Int × Int × Int))))) := let found_1 : List (Int × Int × Int) := st; let track_here : Int := y_v.1; let low : Int := y_v.2.1; let high : Int := y_v.2.2; (if (decide ((l_shortest disc_here.1 (ixF disc_here.2.1 track_here)) < (((high - low) + (1 : Int)) + ((2 : Int) * k_v)))) = true then (.rt none) else (let less : Int := (low - k_v); let st_2 : Int := whG (l_due_w1_c disc_here) (l_due_w1 disc_here) fu less; let less_4 : Int := st_2; let found_2 : List (Int × Int × Int) := found_1 ++ [(track_here, less_4, (((less_4 + high) - low) + ((2 : Int) * k_v)))]; (.nx found_2)))
def l_due_l0_ok (disc_here : (Int × (List (Int × (List Int))) × (List (Int × Int × Int)))) (k_v : Int) (st : List (Int × Int × Int)) (y_v : (Int × Int × Int)) : Prop := let found_1 : List (Int × Int × Int) := st; let track_here : Int := y_v.1; let low : Int := y_v.2.1; let high : Int := y_v.2.2; (IxOk disc_here.2.1 track_here) ∧ (l_shortest_ok disc_here.1 (ixF disc_here.2.1 track_here)) ∧ ((decide ((l_shortest disc_here.1 (ixF disc_here.2.1 track_here)) < (((high - low) + (1 : Int)) + ((2 : Int) * k_v)))) = false → let less : Int := (low - k_v); (whGOk (l_due_w1_cok disc_here) (l_due_w1_c disc_here) (l_due_w1_ok disc_here) (l_due_w1 disc_here) fu less) ∧ (let st_2 : Int := whG (l_due_w1_c disc_here) (l_due_w1 disc_here) fu less; let less_4 : Int := st_2; (found_1.length < 16777216) ∧ (let found_2 : List (Int × Int × Int) := found_1 ++ [(track_here, less_4, (((less_4 + high) - low) + ((2 : Int) * k_v)))]; True))) ∧ True
def l_due_b (disc_here : (Int × (List (Int × (List Int))) × (List (Int × Int × Int)))) (k_v : Int) : Option (Int × (List (Int × (List Int))) × (List (Int × Int × Int))) := let found : List (Int × Int × Int) := ([] : List (Int × Int × Int)); ((loopF (l_due_l0 disc_here k_v) found disc_here.2.2).out fun st_3 => let found_3 : List (Int × Int × Int) := st_3; (some (disc_here.1, disc_here.2.1, found_3)))
@[irreducible] def l_due (disc_here : (Int × (List (Int × (List Int))) × (List (Int × Int × Int)))) (k_v : Int) : Option (Int × (List (Int × (List Int))) × (List (Int × Int × Int))) := l_due_b disc_here k_v
theorem l_due_eq (disc_here : (Int × (List (Int × (List Int))) × (List (Int × Int × Int)))) (k_v : Int) : l_due disc_here k_v = l_due_b disc_here k_v := by unfold l_due; rfl
def l_due_ok (disc_here : (Int × (List (Int × (List Int))) × (List (Int × Int × Int)))) (k_v : Int) : Prop := let found : List (Int × Int × Int) := ([] : List (Int × Int × Int)); (loopOk (l_due_l0_ok disc_here k_v) (l_due_l0 disc_here k_v) found disc_here.2.2) ∧ True
def l_two_b (deck_here : Deck) : ((Int × (List (Int × (List Int))) × (List (Int × Int × Int))) × Deck) := let q : ((Int × (List (Int × (List Int))) × (List (Int × Int × Int))) × Deck) := l_disc deck_here (29 : Int) (4 : Int) (4 : Int); let deck_here_1 : Deck := q.2; let size : Int := q.1.1; let tracks : List (Int × (List Int)) := q.1.2.1; let sensors : List (Int × Int × Int) := q.1.2.2; let st : (Deck × (List (Int × Int × Int))) := (if (decide ((sensors.length : Int) = (1 : Int))) = true then (let u : (Int × Int × Int) := (ixF sensors (0 : Int)); let track_here : Int := u.1; let low : Int := u.2.1; let high : Int := u.2.2; let q_1 : (Int × Deck) := drawF deck_here_1 size; let deck_here_2 : Deck := q_1.2; let by_v : Int := q_1.1; let place : Int := ((low + by_v) % size); let sensors_1 : List (Int × Int × Int) := (sensors ++ [(track_here, place, ((place + high) - low))]); (deck_here_2, sensors_1)) else (deck_here_1, sensors)); let deck_here_3 : Deck := st.1; let sensors_2 : List (Int × Int × Int) := st.2; ((size, tracks, sensors_2), deck_here_3)
@[irreducible] def l_two (deck_here : Deck) : ((Int × (List (Int × (List Int))) × (List (Int × Int × Int))) × Deck) := l_two_b deck_here
theorem l_two_eq (deck_here : Deck) : l_two deck_here = l_two_b deck_here := by unfold l_two; rfl
def l_two_ok (deck_here : Deck) : Prop := (l_disc_ok deck_here (29 : Int) (4 : Int) (4 : Int)) ∧ (let q : ((Int × (List (Int × (List Int))) × (List (Int × Int × Int))) × Deck) := l_disc deck_here (29 : Int) (4 : Int) (4 : Int); let deck_here_1 : Deck := q.2; let size : Int := q.1.1; let tracks : List (Int × (List Int)) := q.1.2.1; let sensors : List (Int × Int × Int) := q.1.2.2; ((decide ((sensors.length : Int) = (1 : Int))) = true → (IxOk sensors (0 : Int)) ∧ (let u : (Int × Int × Int) := (ixF sensors (0 : Int)); let track_here : Int := u.1; let low : Int := u.2.1; let high : Int := u.2.2; (DrOk deck_here_1 size) ∧ (let q_1 : (Int × Deck) := drawF deck_here_1 size; let deck_here_2 : Deck := q_1.2; let by_v : Int := q_1.1; (0 < size) ∧ (let place : Int := ((low + by_v) % size); (sensors.length + [(track_here, place, ((place + high) - low))].length ≤ 16777216) ∧ (let sensors_1 : List (Int × Int × Int) := (sensors ++ [(track_here, place, ((place + high) - low))]); True))))) ∧ (let st : (Deck × (List (Int × Int × Int))) := (if (decide ((sensors.length : Int) = (1 : Int))) = true then (let u : (Int × Int × Int) := (ixF sensors (0 : Int)); let track_here : Int := u.1; let low : Int := u.2.1; let high : Int := u.2.2; let q_1 : (Int × Deck) := drawF deck_here_1 size; let deck_here_2 : Deck := q_1.2; let by_v : Int := q_1.1; let place : Int := ((low + by_v) % size); let sensors_1 : List (Int × Int × Int) := (sensors ++ [(track_here, place, ((place + high) - low))]); (deck_here_2, sensors_1)) else (deck_here_1, sensors)); let deck_here_3 : Deck := st.1; let sensors_2 : List (Int × Int × Int) := st.2; True))
def crossings_b (disc : (Int × (List (Int × (List Int))) × (List (Int × Int × Int)))) (sensor : (Int × Int × Int)) : List (Int × Int) := let track : Int := sensor.1; let low : Int := sensor.2.1; let high : Int := sensor.2.2; (List.map (fun y_v : Int => let border : Int := y_v; (((border - (1 : Int)) - high), ((high - low) + (1 : Int)))) (going_round (ixF disc.2.1 track)))
@[irreducible] def crossings (disc : (Int × (List (Int × (List Int))) × (List (Int × Int × Int)))) (sensor : (Int × Int × Int)) : List (Int × Int) := crossings_b disc sensor
theorem crossings_eq (disc : (Int × (List (Int × (List Int))) × (List (Int × Int × Int)))) (sensor : (Int × Int × Int)) : crossings disc sensor = crossings_b disc sensor := by unfold crossings; rfl
def crossings_ok (disc : (Int × (List (Int × (List Int))) × (List (Int × Int × Int)))) (sensor : (Int × Int × Int)) : Prop := let track : Int := sensor.1; let low : Int := sensor.2.1; let high : Int := sensor.2.2; (IxOk disc.2.1 track) ∧ (going_round_ok (ixF disc.2.1 track)) ∧ True
def joined_l0 (st : List (Int × Int)) (y_v : (Int × Int)) : List (Int × Int) := let found_1 : List (Int × Int) := st; let first : Int := y_v.1; let end_v : Int := y_v.2; (if ((!decide (found_1 = ([] : List (Int × Int)))) && (decide (first ≤ (ixF found_1 (-(1 : Int))).2))) = true then (let found_2 : List (Int × Int) := setF found_1 (-(1 : Int)) ((ixF found_1 (-(1 : Int))).1, (max2F (ixF found_1 (-(1 : Int))).2 end_v)); found_2) else (let found_3 : List (Int × Int) := found_1 ++ [(first, end_v)]; found_3))
def joined_l0_ok (st : List (Int × Int)) (y_v : (Int × Int)) : Prop := let found_1 : List (Int × Int) := st; let first : Int := y_v.1; let end_v : Int := y_v.2; ((!decide (found_1 = ([] : List (Int × Int)))) = true → (IxOk found_1 (-(1 : Int))) ∧ True) ∧ (((!decide (found_1 = ([] : List (Int × Int)))) && (decide (first ≤ (ixF found_1 (-(1 : Int))).2))) = true → (IxOk found_1 (-(1 : Int))) ∧ (IxOk found_1 (-(1 : Int))) ∧ (IxOk found_1 (-(1 : Int))) ∧ (let found_2 : List (Int × Int) := setF found_1 (-(1 : Int)) ((ixF found_1 (-(1 : Int))).1, (max2F (ixF found_1 (-(1 : Int))).2 end_v)); True)) ∧ (((!decide (found_1 = ([] : List (Int × Int)))) && (decide (first ≤ (ixF found_1 (-(1 : Int))).2))) = false → (found_1.length < 16777216) ∧ (let found_3 : List (Int × Int) := found_1 ++ [(first, end_v)]; True)) ∧ True
def joined_b (some_v : List (Int × Int)) : List (Int × Int) := let found : List (Int × Int) := ([] : List (Int × Int)); let st_1 : List (Int × Int) := List.foldl joined_l0 found some_v; let found_4 : List (Int × Int) := st_1; found_4
@[irreducible] def joined (some_v : List (Int × Int)) : List (Int × Int) := joined_b some_v
theorem joined_eq (some_v : List (Int × Int)) : joined some_v = joined_b some_v := by unfold joined; rfl
def joined_ok (some_v : List (Int × Int)) : Prop := let found : List (Int × Int) := ([] : List (Int × Int)); (foldOk joined_l0_ok joined_l0 found some_v) ∧ (let st_1 : List (Int × Int) := List.foldl joined_l0 found some_v; let found_4 : List (Int × Int) := st_1; True)
def pieces_of_l0 (size : Int) (st : List (Int × Int)) (y_v : (Int × Int)) : List (Int × Int) := let found_1 : List (Int × Int) := st; let first : Int := y_v.1; let many : Int := y_v.2; let begin : Int := (first % size); let end_v : Int := (begin + (min2F many size)); let found_2 : List (Int × Int) := found_1 ++ [(begin, (min2F end_v size))]; (if (decide (size < end_v)) = true then (let found_3 : List (Int × Int) := found_2 ++ [((0 : Int), (end_v - size))]; found_3) else found_2)
def pieces_of_l0_ok (size : Int) (st : List (Int × Int)) (y_v : (Int × Int)) : Prop := let found_1 : List (Int × Int) := st; let first : Int := y_v.1; let many : Int := y_v.2; (0 < size) ∧ (let begin : Int := (first % size); let end_v : Int := (begin + (min2F many size)); (found_1.length < 16777216) ∧ (let found_2 : List (Int × Int) := found_1 ++ [(begin, (min2F end_v size))]; ((decide (size < end_v)) = true → (found_2.length < 16777216) ∧ (let found_3 : List (Int × Int) := found_2 ++ [((0 : Int), (end_v - size))]; True)) ∧ True))
def pieces_of_b (size : Int) (arcs : List (Int × Int)) : List (Int × Int) := let found : List (Int × Int) := ([] : List (Int × Int)); let st_1 : List (Int × Int) := List.foldl (pieces_of_l0 size) found arcs; let found_4 : List (Int × Int) := st_1; (joined (srtP found_4))
@[irreducible] def pieces_of (size : Int) (arcs : List (Int × Int)) : List (Int × Int) := pieces_of_b size arcs
theorem pieces_of_eq (size : Int) (arcs : List (Int × Int)) : pieces_of size arcs = pieces_of_b size arcs := by unfold pieces_of; rfl
def pieces_of_ok (size : Int) (arcs : List (Int × Int)) : Prop := let found : List (Int × Int) := ([] : List (Int × Int)); (foldOk (pieces_of_l0_ok size) (pieces_of_l0 size) found arcs) ∧ (let st_1 : List (Int × Int) := List.foldl (pieces_of_l0 size) found arcs; let found_4 : List (Int × Int) := st_1; (joined_ok (srtP found_4)) ∧ True)
def common_l1 (first : Int) (end_v : Int) (st_1 : List (Int × Int)) (y_v_1 : (Int × Int)) : List (Int × Int) := let found_2 : List (Int × Int) := st_1; let begin : Int := y_v_1.1; let last : Int := y_v_1.2; (if (decide ((max2F first begin) < (min2F end_v last))) = true then (let found_3 : List (Int × Int) := found_2 ++ [((max2F first begin), (min2F end_v last))]; found_3) else found_2)
def common_l1_ok (first : Int) (end_v : Int) (st_1 : List (Int × Int)) (y_v_1 : (Int × Int)) : Prop := let found_2 : List (Int × Int) := st_1; let begin : Int := y_v_1.1; let last : Int := y_v_1.2; ((decide ((max2F first begin) < (min2F end_v last))) = true → (found_2.length < 16777216) ∧ (let found_3 : List (Int × Int) := found_2 ++ [((max2F first begin), (min2F end_v last))]; True)) ∧ True
def common_l0 (others : List (Int × Int)) (st : List (Int × Int)) (y_v : (Int × Int)) : List (Int × Int) := let found_1 : List (Int × Int) := st; let first : Int := y_v.1; let end_v : Int := y_v.2; let st_2 : List (Int × Int) := List.foldl (common_l1 first end_v) found_1 others; let found_4 : List (Int × Int) := st_2; found_4
def common_l0_ok (others : List (Int × Int)) (st : List (Int × Int)) (y_v : (Int × Int)) : Prop := let found_1 : List (Int × Int) := st; let first : Int := y_v.1; let end_v : Int := y_v.2; (foldOk (common_l1_ok first end_v) (common_l1 first end_v) found_1 others) ∧ (let st_2 : List (Int × Int) := List.foldl (common_l1 first end_v) found_1 others; let found_4 : List (Int × Int) := st_2; True)
def common_b (some_v : List (Int × Int)) (others : List (Int × Int)) : List (Int × Int) := let found : List (Int × Int) := ([] : List (Int × Int)); let st_3 : List (Int × Int) := List.foldl (common_l0 others) found some_v; let found_5 : List (Int × Int) := st_3; found_5
@[irreducible] def common (some_v : List (Int × Int)) (others : List (Int × Int)) : List (Int × Int) := common_b some_v others
theorem common_eq (some_v : List (Int × Int)) (others : List (Int × Int)) : common some_v others = common_b some_v others := by unfold common; rfl
def common_ok (some_v : List (Int × Int)) (others : List (Int × Int)) : Prop := let found : List (Int × Int) := ([] : List (Int × Int)); (foldOk (common_l0_ok others) (common_l0 others) found some_v) ∧ (let st_3 : List (Int × Int) := List.foldl (common_l0 others) found some_v; let found_5 : List (Int × Int) := st_3; True)
def crossing_seat_l0 (disc : (Int × (List (Int × (List Int))) × (List (Int × Int × Int)))) (position : Int) (low : Int) (high : Int) (st : Unit) (y_v : Int) : (Step Unit (Option Int)) := let border : Int := y_v; let seat : Int := (low + ((((border - (1 : Int)) - position) - low) % disc.1)); (if (decide (seat ≤ high)) = true then (.rt (some seat)) else (.nx ()))
def crossing_seat_l0_ok (disc : (Int × (List (Int × (List Int))) × (List (Int × Int × Int)))) (position : Int) (low : Int) (high : Int) (st : Unit) (y_v : Int) : Prop := let border : Int := y_v; (0 < disc.1) ∧ (let seat : Int := (low + ((((border - (1 : Int)) - position) - low) % disc.1)); True)
def crossing_seat_b (disc : (Int × (List (Int × (List Int))) × (List (Int × Int × Int)))) (sensor : (Int × Int × Int)) (position : Int) : Option Int := let track : Int := sensor.1; let low : Int := sensor.2.1; let high : Int := sensor.2.2; ((loopF (crossing_seat_l0 disc position low high) () (going_round (ixF disc.2.1 track))).out fun st_1 => none)
@[irreducible] def crossing_seat (disc : (Int × (List (Int × (List Int))) × (List (Int × Int × Int)))) (sensor : (Int × Int × Int)) (position : Int) : Option Int := crossing_seat_b disc sensor position
theorem crossing_seat_eq (disc : (Int × (List (Int × (List Int))) × (List (Int × Int × Int)))) (sensor : (Int × Int × Int)) (position : Int) : crossing_seat disc sensor position = crossing_seat_b disc sensor position := by unfold crossing_seat; rfl
def crossing_seat_ok (disc : (Int × (List (Int × (List Int))) × (List (Int × Int × Int)))) (sensor : (Int × Int × Int)) (position : Int) : Prop := let track : Int := sensor.1; let low : Int := sensor.2.1; let high : Int := sensor.2.2; (IxOk disc.2.1 track) ∧ (going_round_ok (ixF disc.2.1 track)) ∧ (loopOk (crossing_seat_l0_ok disc position low high) (crossing_seat_l0 disc position low high) () (going_round (ixF disc.2.1 track))) ∧ True
def together_l0 (disc : (Int × (List (Int × (List Int))) × (List (Int × Int × Int)))) (found : List (Int × Int)) (st : List Int) (y_v_1 : Int) : List Int := let seats_1 : List Int := st; let number : Int := y_v_1; let seats_2 : List Int := setF seats_1 number (unO (crossing_seat disc (ixF disc.2.2 number) (ixF found (0 : Int)).1)); seats_2
def together_l0_ok (disc : (Int × (List (Int × (List Int))) × (List (Int × Int × Int)))) (found : List (Int × Int)) (st : List Int) (y_v_1 : Int) : Prop := let seats_1 : List Int := st; let number : Int := y_v_1; (IxOk disc.2.2 number) ∧ (IxOk found (0 : Int)) ∧ (crossing_seat_ok disc (ixF disc.2.2 number) (ixF found (0 : Int)).1) ∧ (Option.isSome (crossing_seat disc (ixF disc.2.2 number) (ixF found (0 : Int)).1) = true) ∧ (IxOk seats_1 number) ∧ (let seats_2 : List Int := setF seats_1 number (unO (crossing_seat disc (ixF disc.2.2 number) (ixF found (0 : Int)).1)); True)
def together_b (disc : (Int × (List (Int × (List Int))) × (List (Int × Int × Int)))) (one : Int) (other : Int) : Option (Int × (List Int)) := let some_v : List (Int × Int) := (pieces_of disc.1 (crossings disc (ixF disc.2.2 one))); let found : List (Int × Int) := (common some_v (pieces_of disc.1 (crossings disc (ixF disc.2.2 other)))); (if (decide (found = ([] : List (Int × Int)))) = true then none else (let seats : List Int := (List.map (fun y_v : (Int × Int × Int) => let track : Int := y_v.1; let low : Int := y_v.2.1; let high : Int := y_v.2.2; low) disc.2.2); let st_1 : List Int := List.foldl (together_l0 disc found) seats [one, other]; let seats_3 : List Int := st_1; (some ((ixF found (0 : Int)).1, seats_3))))
@[irreducible] def together (disc : (Int × (List (Int × (List Int))) × (List (Int × Int × Int)))) (one : Int) (other : Int) : Option (Int × (List Int)) := together_b disc one other
theorem together_eq (disc : (Int × (List (Int × (List Int))) × (List (Int × Int × Int)))) (one : Int) (other : Int) : together disc one other = together_b disc one other := by unfold together; rfl
def together_ok (disc : (Int × (List (Int × (List Int))) × (List (Int × Int × Int)))) (one : Int) (other : Int) : Prop := (IxOk disc.2.2 one) ∧ (crossings_ok disc (ixF disc.2.2 one)) ∧ (pieces_of_ok disc.1 (crossings disc (ixF disc.2.2 one))) ∧ (let some_v : List (Int × Int) := (pieces_of disc.1 (crossings disc (ixF disc.2.2 one))); (IxOk disc.2.2 other) ∧ (crossings_ok disc (ixF disc.2.2 other)) ∧ (pieces_of_ok disc.1 (crossings disc (ixF disc.2.2 other))) ∧ (common_ok some_v (pieces_of disc.1 (crossings disc (ixF disc.2.2 other)))) ∧ (let found : List (Int × Int) := (common some_v (pieces_of disc.1 (crossings disc (ixF disc.2.2 other)))); ((decide (found = ([] : List (Int × Int)))) = false → let seats : List Int := (List.map (fun y_v : (Int × Int × Int) => let track : Int := y_v.1; let low : Int := y_v.2.1; let high : Int := y_v.2.2; low) disc.2.2); (foldOk (together_l0_ok disc found) (together_l0 disc found) seats [one, other]) ∧ (let st_1 : List Int := List.foldl (together_l0 disc found) seats [one, other]; let seats_3 : List Int := st_1; (IxOk found (0 : Int)) ∧ True)) ∧ True))
def l_changes_l0 (disc_here : (Int × (List (Int × (List Int))) × (List (Int × Int × Int)))) (position : Int) (some_v : List Int) (st : List Int) (y_v : Int) : List Int := let found_1 : List Int := st; let seat : Int := y_v; let place : Int := ((position + seat) % disc_here.1); (if (!decide ((ixF some_v place) = (ixF some_v ((place + (1 : Int)) % disc_here.1)))) = true then (let found_2 : List Int := found_1 ++ [seat]; found_2) else found_1)
def l_changes_l0_ok (disc_here : (Int × (List (Int × (List Int))) × (List (Int × Int × Int)))) (position : Int) (some_v : List Int) (st : List Int) (y_v : Int) : Prop := let found_1 : List Int := st; let seat : Int := y_v; (0 < disc_here.1) ∧ (let place : Int := ((position + seat) % disc_here.1); (IxOk some_v place) ∧ (0 < disc_here.1) ∧ (IxOk some_v ((place + (1 : Int)) % disc_here.1)) ∧ ((!decide ((ixF some_v place) = (ixF some_v ((place + (1 : Int)) % disc_here.1)))) = true → (found_1.length < 16777216) ∧ (let found_2 : List Int := found_1 ++ [seat]; True)) ∧ True)
def l_changes_b (disc_here : (Int × (List (Int × (List Int))) × (List (Int × Int × Int)))) (cells_here : List (List Int)) (number : Int) (position : Int) : List Int := let u : (Int × Int × Int) := (ixF disc_here.2.2 number); let track_here : Int := u.1; let low : Int := u.2.1; let high : Int := u.2.2; let some_v : List Int := (ixF cells_here track_here); let found : List Int := ([] : List Int); let st_1 : List Int := List.foldl (l_changes_l0 disc_here position some_v) found (rgI low (high + (1 : Int))); let found_3 : List Int := st_1; found_3
@[irreducible] def l_changes (disc_here : (Int × (List (Int × (List Int))) × (List (Int × Int × Int)))) (cells_here : List (List Int)) (number : Int) (position : Int) : List Int := l_changes_b disc_here cells_here number position
theorem l_changes_eq (disc_here : (Int × (List (Int × (List Int))) × (List (Int × Int × Int)))) (cells_here : List (List Int)) (number : Int) (position : Int) : l_changes disc_here cells_here number position = l_changes_b disc_here cells_here number position := by unfold l_changes; rfl
def l_changes_ok (disc_here : (Int × (List (Int × (List Int))) × (List (Int × Int × Int)))) (cells_here : List (List Int)) (number : Int) (position : Int) : Prop := (IxOk disc_here.2.2 number) ∧ (let u : (Int × Int × Int) := (ixF disc_here.2.2 number); let track_here : Int := u.1; let low : Int := u.2.1; let high : Int := u.2.2; (IxOk cells_here track_here) ∧ (let some_v : List Int := (ixF cells_here track_here); let found : List Int := ([] : List Int); (RgOk low (high + (1 : Int))) ∧ (foldOk (l_changes_l0_ok disc_here position some_v) (l_changes_l0 disc_here position some_v) found (rgI low (high + (1 : Int)))) ∧ (let st_1 : List Int := List.foldl (l_changes_l0 disc_here position some_v) found (rgI low (high + (1 : Int))); let found_3 : List Int := st_1; True)))
def l_shown_b (first : Int) (end_v : Int) : List Str := (List.map (fun y_v : Int => let number : Int := y_v; (shw (eI number))) (rgI first end_v))
@[irreducible] def l_shown (first : Int) (end_v : Int) : List Str := l_shown_b first end_v
theorem l_shown_eq (first : Int) (end_v : Int) : l_shown first end_v = l_shown_b first end_v := by unfold l_shown; rfl
def l_shown_ok (first : Int) (end_v : Int) : Prop := (RgOk first end_v) ∧ (∀ y_v : Int, y_v ∈ (rgI first end_v) → let number : Int := y_v; (RpOk (eI number)) ∧ True) ∧ True
def l_are_right_l0 (st : Unit) (y_v : (Int × (Int × Int × Int))) : (Step Unit Bool) := let seat : Int := y_v.1; let track_here : Int := y_v.2.1; let low : Int := y_v.2.2.1; let high : Int := y_v.2.2.2; (if (!(List.any (l_shown low (high + (1 : Int))) fun w => w == (shw (eI seat)))) = true then (.rt false) else (.nx ()))
def l_are_right_l0_ok (st : Unit) (y_v : (Int × (Int × Int × Int))) : Prop := let seat : Int := y_v.1; let track_here : Int := y_v.2.1; let low : Int := y_v.2.2.1; let high : Int := y_v.2.2.2; (RpOk (eI seat)) ∧ (l_shown_ok low (high + (1 : Int))) ∧ (SOk (shw (eI seat))) ∧ (∀ w ∈ (l_shown low (high + (1 : Int))), SOk w) ∧ True
def l_are_right_l1 (disc_here : (Int × (List (Int × (List Int))) × (List (Int × Int × Int)))) (cells_here : List (List Int)) (position : Int) (seats : List Int) (st_2 : Unit) (y_v_1 : Int) : (Step Unit Bool) := let number : Int := y_v_1; (if (!decide ((ixF seats number) ∈ (l_changes disc_here cells_here number position))) = true then (.rt false) else (.nx ()))
def l_are_right_l1_ok (disc_here : (Int × (List (Int × (List Int))) × (List (Int × Int × Int)))) (cells_here : List (List Int)) (position : Int) (seats : List Int) (st_2 : Unit) (y_v_1 : Int) : Prop := let number : Int := y_v_1; (IxOk seats number) ∧ (l_changes_ok disc_here cells_here number position) ∧ True
def l_are_right_b (disc_here : (Int × (List (Int × (List Int))) × (List (Int × Int × Int)))) (cells_here : List (List Int)) (numbers : List Int) (value : (Int × (List Int))) : Bool := (if ((!true) || ((!decide ((2 : Int) = (2 : Int))) || (!true))) = true then false else (let position : Int := value.1; let seats : List Int := value.2; (if (!decide ((seats.length : Int) = (disc_here.2.2.length : Int))) = true then false else (if (!(List.any (l_shown (0 : Int) disc_here.1) fun w => w == (shw (eI position)))) = true then false else ((loopF l_are_right_l0 () (List.zip seats disc_here.2.2)).out fun st_1 => ((loopF (l_are_right_l1 disc_here cells_here position seats) () numbers).out fun st_3 => true))))))
@[irreducible] def l_are_right (disc_here : (Int × (List (Int × (List Int))) × (List (Int × Int × Int)))) (cells_here : List (List Int)) (numbers : List Int) (value : (Int × (List Int))) : Bool := l_are_right_b disc_here cells_here numbers value
theorem l_are_right_eq (disc_here : (Int × (List (Int × (List Int))) × (List (Int × Int × Int)))) (cells_here : List (List Int)) (numbers : List Int) (value : (Int × (List Int))) : l_are_right disc_here cells_here numbers value = l_are_right_b disc_here cells_here numbers value := by unfold l_are_right; rfl
def l_are_right_ok (disc_here : (Int × (List (Int × (List Int))) × (List (Int × Int × Int)))) (cells_here : List (List Int)) (numbers : List Int) (value : (Int × (List Int))) : Prop := (((!true) || ((!decide ((2 : Int) = (2 : Int))) || (!true))) = false → let position : Int := value.1; let seats : List Int := value.2; ((!decide ((seats.length : Int) = (disc_here.2.2.length : Int))) = false → (RpOk (eI position)) ∧ (l_shown_ok (0 : Int) disc_here.1) ∧ (SOk (shw (eI position))) ∧ (∀ w ∈ (l_shown (0 : Int) disc_here.1), SOk w) ∧ ((!(List.any (l_shown (0 : Int) disc_here.1) fun w => w == (shw (eI position)))) = false → (loopOk l_are_right_l0_ok l_are_right_l0 () (List.zip seats disc_here.2.2)) ∧ (∀ st_1 : Unit, loopF l_are_right_l0 () (List.zip seats disc_here.2.2) = .nx st_1 → (loopOk (l_are_right_l1_ok disc_here cells_here position seats) (l_are_right_l1 disc_here cells_here position seats) () numbers) ∧ True) ∧ True) ∧ True) ∧ True) ∧ True
def l_all_seats_l1 (low : Int) (high : Int) (st_1 : List (List Int)) (y_v_1 : List Int) : List (List Int) := let more_1 : List (List Int) := st_1; let seats : List Int := y_v_1; let more_2 : List (List Int) := more_1 ++ (List.map (fun y_v_2 : Int => let seat : Int := y_v_2; (seats ++ [seat])) (rgI low (high + (1 : Int)))); more_2
def l_all_seats_l1_ok (low : Int) (high : Int) (st_1 : List (List Int)) (y_v_1 : List Int) : Prop := let more_1 : List (List Int) := st_1; let seats : List Int := y_v_1; (RgOk low (high + (1 : Int))) ∧ (∀ y_v_2 : Int, y_v_2 ∈ (rgI low (high + (1 : Int))) → let seat : Int := y_v_2; (seats.length + [seat].length ≤ 16777216) ∧ True) ∧ (more_1.length + (List.map (fun y_v_2 : Int => let seat : Int := y_v_2; (seats ++ [seat])) (rgI low (high + (1 : Int)))).length ≤ 16777216) ∧ (let more_2 : List (List Int) := more_1 ++ (List.map (fun y_v_2 : Int => let seat : Int := y_v_2; (seats ++ [seat])) (rgI low (high + (1 : Int)))); True)
def l_all_seats_l0 (st : List (List Int)) (y_v : (Int × Int × Int)) : List (List Int) := let found_1 : List (List Int) := st; let number : Int := y_v.1; let low : Int := y_v.2.1; let high : Int := y_v.2.2; let more : List (List Int) := ([] : List (List Int)); let st_2 : List (List Int) := List.foldl (l_all_seats_l1 low high) more found_1; let more_3 : List (List Int) := st_2; let found_2 : List (List Int) := more_3; found_2
def l_all_seats_l0_ok (st : List (List Int)) (y_v : (Int × Int × Int)) : Prop := let found_1 : List (List Int) := st; let number : Int := y_v.1; let low : Int := y_v.2.1; let high : Int := y_v.2.2; let more : List (List Int) := ([] : List (List Int)); (foldOk (l_all_seats_l1_ok low high) (l_all_seats_l1 low high) more found_1) ∧ (let st_2 : List (List Int) := List.foldl (l_all_seats_l1 low high) more found_1; let more_3 : List (List Int) := st_2; let found_2 : List (List Int) := more_3; True)
def l_all_seats_b (disc_here : (Int × (List (Int × (List Int))) × (List (Int × Int × Int)))) : List (List Int) := let found : List (List Int) := [([] : List Int)]; let st_3 : List (List Int) := List.foldl l_all_seats_l0 found disc_here.2.2; let found_3 : List (List Int) := st_3; found_3
@[irreducible] def l_all_seats (disc_here : (Int × (List (Int × (List Int))) × (List (Int × Int × Int)))) : List (List Int) := l_all_seats_b disc_here
theorem l_all_seats_eq (disc_here : (Int × (List (Int × (List Int))) × (List (Int × Int × Int)))) : l_all_seats disc_here = l_all_seats_b disc_here := by unfold l_all_seats; rfl
def l_all_seats_ok (disc_here : (Int × (List (Int × (List Int))) × (List (Int × Int × Int)))) : Prop := let found : List (List Int) := [([] : List Int)]; (foldOk l_all_seats_l0_ok l_all_seats_l0 found disc_here.2.2) ∧ (let st_3 : List (List Int) := List.foldl l_all_seats_l0 found disc_here.2.2; let found_3 : List (List Int) := st_3; True)
def l_read_b (disc_here : (Int × (List (Int × (List Int))) × (List (Int × Int × Int)))) (cells_here : List (List Int)) (position : Int) (seats : List Int) : List Int := (List.map (fun y_v : ((Int × Int × Int) × Int) => let sensor : (Int × Int × Int) := y_v.1; let seat : Int := y_v.2; (ixF (ixF cells_here sensor.1) ((position + seat) % disc_here.1))) (List.zip disc_here.2.2 seats))
@[irreducible] def l_read (disc_here : (Int × (List (Int × (List Int))) × (List (Int × Int × Int)))) (cells_here : List (List Int)) (position : Int) (seats : List Int) : List Int := l_read_b disc_here cells_here position seats
theorem l_read_eq (disc_here : (Int × (List (Int × (List Int))) × (List (Int × Int × Int)))) (cells_here : List (List Int)) (position : Int) (seats : List Int) : l_read disc_here cells_here position seats = l_read_b disc_here cells_here position seats := by unfold l_read; rfl
def l_read_ok (disc_here : (Int × (List (Int × (List Int))) × (List (Int × Int × Int)))) (cells_here : List (List Int)) (position : Int) (seats : List Int) : Prop := (∀ y_v : ((Int × Int × Int) × Int), y_v ∈ (List.zip disc_here.2.2 seats) → let sensor : (Int × Int × Int) := y_v.1; let seat : Int := y_v.2; (IxOk cells_here sensor.1) ∧ (0 < disc_here.1) ∧ (IxOk (ixF cells_here sensor.1) ((position + seat) % disc_here.1)) ∧ True) ∧ True
def l_row_b (deck_here : Deck) (disc_here : (Int × (List (Int × (List Int))) × (List (Int × Int × Int)))) (cells_here : List (List Int)) : (List (List Int) × Deck) := let q : (Int × Deck) := drawF deck_here disc_here.1; let deck_here_1 : Deck := q.2; let q_1 : (Int × Deck) := oneF deck_here_1 [(2 : Int), (4 : Int), (8 : Int), (50 : Int)]; let deck_here_2 : Deck := q_1.2; let q_2 : (Int × Deck) := drawF deck_here_2 q_1.1; let deck_here_3 : Deck := q_2.2; let position : Int := q.1; let many : Int := ((1 : Int) + q_2.1); let q_3 : ((List Int) × Deck) := oneF deck_here_3 (l_all_seats disc_here); let deck_here_4 : Deck := q_3.2; let seats : List Int := q_3.1; let found : List (List Int) := (List.map (fun y_v : Int => let k_v : Int := y_v; (l_read disc_here cells_here (position + k_v) seats)) (rgI 0 many)); let q_4 : (Int × Deck) := drawF deck_here_4 (2 : Int); let deck_here_5 : Deck := q_4.2; let st : (Deck × (List (List Int))) := (if (decide (q_4.1 = (0 : Int))) = true then (let q_5 : (Int × Deck) := drawF deck_here_5 many; let deck_here_6 : Deck := q_5.2; let q_6 : (Int × Deck) := drawF deck_here_6 (disc_here.2.2.length : Int); let deck_here_7 : Deck := q_6.2; let spot : Int := q_5.1; let sensor : Int := q_6.1; let marks : List Int := (ixF found spot); let found_1 : List (List Int) := setF found spot (((cutF marks none (some sensor)) ++ [((1 : Int) - (ixF marks sensor))]) ++ (cutF marks (some (sensor + (1 : Int))) none)); (deck_here_7, found_1)) else (deck_here_5, found)); let deck_here_8 : Deck := st.1; let found_2 : List (List Int) := st.2; (found_2, deck_here_8)
@[irreducible] def l_row (deck_here : Deck) (disc_here : (Int × (List (Int × (List Int))) × (List (Int × Int × Int)))) (cells_here : List (List Int)) : (List (List Int) × Deck) := l_row_b deck_here disc_here cells_here
theorem l_row_eq (deck_here : Deck) (disc_here : (Int × (List (Int × (List Int))) × (List (Int × Int × Int)))) (cells_here : List (List Int)) : l_row deck_here disc_here cells_here = l_row_b deck_here disc_here cells_here := by unfold l_row; rfl
def l_row_ok (deck_here : Deck) (disc_here : (Int × (List (Int × (List Int))) × (List (Int × Int × Int)))) (cells_here : List (List Int)) : Prop := (DrOk deck_here disc_here.1) ∧ (let q : (Int × Deck) := drawF deck_here disc_here.1; let deck_here_1 : Deck := q.2; (OnOk deck_here_1 [(2 : Int), (4 : Int), (8 : Int), (50 : Int)]) ∧ (let q_1 : (Int × Deck) := oneF deck_here_1 [(2 : Int), (4 : Int), (8 : Int), (50 : Int)]; let deck_here_2 : Deck := q_1.2; (DrOk deck_here_2 q_1.1) ∧ (let q_2 : (Int × Deck) := drawF deck_here_2 q_1.1; let deck_here_3 : Deck := q_2.2; let position : Int := q.1; let many : Int := ((1 : Int) + q_2.1); (l_all_seats_ok disc_here) ∧ (OnOk deck_here_3 (l_all_seats disc_here)) ∧ (let q_3 : ((List Int) × Deck) := oneF deck_here_3 (l_all_seats disc_here); let deck_here_4 : Deck := q_3.2; let seats : List Int := q_3.1; (RgOk 0 many) ∧ (∀ y_v : Int, y_v ∈ (rgI 0 many) → let k_v : Int := y_v; (l_read_ok disc_here cells_here (position + k_v) seats) ∧ True) ∧ (let found : List (List Int) := (List.map (fun y_v : Int => let k_v : Int := y_v; (l_read disc_here cells_here (position + k_v) seats)) (rgI 0 many)); (DrOk deck_here_4 (2 : Int)) ∧ (let q_4 : (Int × Deck) := drawF deck_here_4 (2 : Int); let deck_here_5 : Deck := q_4.2; ((decide (q_4.1 = (0 : Int))) = true → (DrOk deck_here_5 many) ∧ (let q_5 : (Int × Deck) := drawF deck_here_5 many; let deck_here_6 : Deck := q_5.2; (DrOk deck_here_6 (disc_here.2.2.length : Int)) ∧ (let q_6 : (Int × Deck) := drawF deck_here_6 (disc_here.2.2.length : Int); let deck_here_7 : Deck := q_6.2; let spot : Int := q_5.1; let sensor : Int := q_6.1; (IxOk found spot) ∧ (let marks : List Int := (ixF found spot); (IxOk marks sensor) ∧ ((cutF marks none (some sensor)).length + [((1 : Int) - (ixF marks sensor))].length ≤ 16777216) ∧ (((cutF marks none (some sensor)) ++ [((1 : Int) - (ixF marks sensor))]).length + (cutF marks (some (sensor + (1 : Int))) none).length ≤ 16777216) ∧ (IxOk found spot) ∧ (let found_1 : List (List Int) := setF found spot (((cutF marks none (some sensor)) ++ [((1 : Int) - (ixF marks sensor))]) ++ (cutF marks (some (sensor + (1 : Int))) none)); True))))) ∧ (let st : (Deck × (List (List Int))) := (if (decide (q_4.1 = (0 : Int))) = true then (let q_5 : (Int × Deck) := drawF deck_here_5 many; let deck_here_6 : Deck := q_5.2; let q_6 : (Int × Deck) := drawF deck_here_6 (disc_here.2.2.length : Int); let deck_here_7 : Deck := q_6.2; let spot : Int := q_5.1; let sensor : Int := q_6.1; let marks : List Int := (ixF found spot); let found_1 : List (List Int) := setF found spot (((cutF marks none (some sensor)) ++ [((1 : Int) - (ixF marks sensor))]) ++ (cutF marks (some (sensor + (1 : Int))) none)); (deck_here_7, found_1)) else (deck_here_5, found)); let deck_here_8 : Deck := st.1; let found_2 : List (List Int) := st.2; True)))))))
def l_begins_l1 (disc_here : (Int × (List (Int × (List Int))) × (List (Int × Int × Int)))) (cells_here : List (List Int)) (row_here : List (List Int)) (position : Int) (st_1 : List Int) (y_v_1 : List Int) : List Int := let found_2 : List Int := st_1; let seats : List Int := y_v_1; let fits : Bool := (decide ((List.map (fun y_v_2 : (Int × (List Int)) => let k_v : Int := y_v_2.1; let marks : List Int := y_v_2.2; k_v) (List.filter (fun y_v_2 : (Int × (List Int)) => let k_v : Int := y_v_2.1; let marks : List Int := y_v_2.2; (!decide ((l_read disc_here cells_here (position + k_v) seats) = marks))) (enI row_here))) = ([] : List Int))); (if (fits && (!decide (position ∈ found_2))) = true then (let found_3 : List Int := found_2 ++ [position]; found_3) else found_2)
def l_begins_l1_ok (disc_here : (Int × (List (Int × (List Int))) × (List (Int × Int × Int)))) (cells_here : List (List Int)) (row_here : List (List Int)) (position : Int) (st_1 : List Int) (y_v_1 : List Int) : Prop := let found_2 : List Int := st_1; let seats : List Int := y_v_1; (∀ y_v_2 : (Int × (List Int)), y_v_2 ∈ (enI row_here) → let k_v : Int := y_v_2.1; let marks : List Int := y_v_2.2; (l_read_ok disc_here cells_here (position + k_v) seats) ∧ True) ∧ (let fits : Bool := (decide ((List.map (fun y_v_2 : (Int × (List Int)) => let k_v : Int := y_v_2.1; let marks : List Int := y_v_2.2; k_v) (List.filter (fun y_v_2 : (Int × (List Int)) => let k_v : Int := y_v_2.1; let marks : List Int := y_v_2.2; (!decide ((l_read disc_here cells_here (position + k_v) seats) = marks))) (enI row_here))) = ([] : List Int))); ((fits && (!decide (position ∈ found_2))) = true → (found_2.length < 16777216) ∧ (let found_3 : List Int := found_2 ++ [position]; True)) ∧ True)
def l_begins_l0 (disc_here : (Int × (List (Int × (List Int))) × (List (Int × Int × Int)))) (cells_here : List (List Int)) (row_here : List (List Int)) (st : List Int) (y_v : Int) : List Int := let found_1 : List Int := st; let position : Int := y_v; let st_2 : List Int := List.foldl (l_begins_l1 disc_here cells_here row_here position) found_1 (l_all_seats disc_here); let found_4 : List Int := st_2; found_4
def l_begins_l0_ok (disc_here : (Int × (List (Int × (List Int))) × (List (Int × Int × Int)))) (cells_here : List (List Int)) (row_here : List (List Int)) (st : List Int) (y_v : Int) : Prop := let found_1 : List Int := st; let position : Int := y_v; (l_all_seats_ok disc_here) ∧ (foldOk (l_begins_l1_ok disc_here cells_here row_here position) (l_begins_l1 disc_here cells_here row_here position) found_1 (l_all_seats disc_here)) ∧ (let st_2 : List Int := List.foldl (l_begins_l1 disc_here cells_here row_here position) found_1 (l_all_seats disc_here); let found_4 : List Int := st_2; True)
def l_begins_b (disc_here : (Int × (List (Int × (List Int))) × (List (Int × Int × Int)))) (cells_here : List (List Int)) (row_here : List (List Int)) : List Int := let found : List Int := ([] : List Int); let st_3 : List Int := List.foldl (l_begins_l0 disc_here cells_here row_here) found (rgI 0 disc_here.1); let found_5 : List Int := st_3; found_5
@[irreducible] def l_begins (disc_here : (Int × (List (Int × (List Int))) × (List (Int × Int × Int)))) (cells_here : List (List Int)) (row_here : List (List Int)) : List Int := l_begins_b disc_here cells_here row_here
theorem l_begins_eq (disc_here : (Int × (List (Int × (List Int))) × (List (Int × Int × Int)))) (cells_here : List (List Int)) (row_here : List (List Int)) : l_begins disc_here cells_here row_here = l_begins_b disc_here cells_here row_here := by unfold l_begins; rfl
def l_begins_ok (disc_here : (Int × (List (Int × (List Int))) × (List (Int × Int × Int)))) (cells_here : List (List Int)) (row_here : List (List Int)) : Prop := let found : List Int := ([] : List Int); (RgOk 0 disc_here.1) ∧ (foldOk (l_begins_l0_ok disc_here cells_here row_here) (l_begins_l0 disc_here cells_here row_here) found (rgI 0 disc_here.1)) ∧ (let st_3 : List Int := List.foldl (l_begins_l0 disc_here cells_here row_here) found (rgI 0 disc_here.1); let found_5 : List Int := st_3; True)
def l_arcs_w1_c (size : Int) (some_v : List Int) (first : Int) (st_1 : Int) : Bool := let many_1 : Int := st_1; (decide (((first + many_1) % size) ∈ some_v))
def l_arcs_w1_cok (size : Int) (some_v : List Int) (first : Int) (st_1 : Int) : Prop := let many_1 : Int := st_1; (0 < size) ∧ True
def l_arcs_w1 (size : Int) (some_v : List Int) (first : Int) (st_1 : Int) : Int := let many_2 : Int := st_1; let many_3 : Int := (many_2 + (1 : Int)); many_3
def l_arcs_w1_ok (size : Int) (some_v : List Int) (first : Int) (st_1 : Int) : Prop := let many_2 : Int := st_1; let many_3 : Int := (many_2 + (1 : Int)); True
def l_arcs_l0 (size : Int) (some_v : List Int) (st : List (Int × Int)) (y_v : Int) : List (Int × Int) := let found_1 : List (Int × Int) := st; let first : Int := y_v; (if (!decide (((first - (1 : Int)) % size) ∈ some_v)) = true then (let many : Int := (1 : Int); let st_2 : Int := whG (l_arcs_w1_c size some_v first) (l_arcs_w1 size some_v first) fu many; let many_4 : Int := st_2; let found_2 : List (Int × Int) := found_1 ++ [(first, many_4)]; found_2) else found_1)
def l_arcs_l0_ok (size : Int) (some_v : List Int) (st : List (Int × Int)) (y_v : Int) : Prop := let found_1 : List (Int × Int) := st; let first : Int := y_v; (0 < size) ∧ ((!decide (((first - (1 : Int)) % size) ∈ some_v)) = true → let many : Int := (1 : Int); (whGOk (l_arcs_w1_cok size some_v first) (l_arcs_w1_c size some_v first) (l_arcs_w1_ok size some_v first) (l_arcs_w1 size some_v first) fu many) ∧ (let st_2 : Int := whG (l_arcs_w1_c size some_v first) (l_arcs_w1 size some_v first) fu many; let many_4 : Int := st_2; (found_1.length < 16777216) ∧ (let found_2 : List (Int × Int) := found_1 ++ [(first, many_4)]; True))) ∧ True
def l_arcs_b (size : Int) (some_v : List Int) : List (Int × Int) := (if (decide ((some_v.length : Int) = size)) = true then [((0 : Int), size)] else (let found : List (Int × Int) := ([] : List (Int × Int)); let st_3 : List (Int × Int) := List.foldl (l_arcs_l0 size some_v) found some_v; let found_3 : List (Int × Int) := st_3; found_3))
@[irreducible] def l_arcs (size : Int) (some_v : List Int) : List (Int × Int) := l_arcs_b size some_v
theorem l_arcs_eq (size : Int) (some_v : List Int) : l_arcs size some_v = l_arcs_b size some_v := by unfold l_arcs; rfl
def l_arcs_ok (size : Int) (some_v : List Int) : Prop := ((decide ((some_v.length : Int) = size)) = false → let found : List (Int × Int) := ([] : List (Int × Int)); (foldOk (l_arcs_l0_ok size some_v) (l_arcs_l0 size some_v) found some_v) ∧ (let st_3 : List (Int × Int) := List.foldl (l_arcs_l0 size some_v) found some_v; let found_3 : List (Int × Int) := st_3; True)) ∧ True
def stretches_l0 (disc : (Int × (List (Int × (List Int))) × (List (Int × Int × Int)))) (track : Int) (wanted : Int) (st : List (Int × Int)) (y_v : (Int × Int)) : List (Int × Int) := let found_1 : List (Int × Int) := st; let border : Int := y_v.1; let later : Int := y_v.2; (if (decide ((colour disc track border) = wanted)) = true then (let found_2 : List (Int × Int) := found_1 ++ [(border, ((later - border) % disc.1))]; found_2) else found_1)
def stretches_l0_ok (disc : (Int × (List (Int × (List Int))) × (List (Int × Int × Int)))) (track : Int) (wanted : Int) (st : List (Int × Int)) (y_v : (Int × Int)) : Prop := let found_1 : List (Int × Int) := st; let border : Int := y_v.1; let later : Int := y_v.2; (colour_ok disc track border) ∧ ((decide ((colour disc track border) = wanted)) = true → (0 < disc.1) ∧ (found_1.length < 16777216) ∧ (let found_2 : List (Int × Int) := found_1 ++ [(border, ((later - border) % disc.1))]; True)) ∧ True
def stretches_b (disc : (Int × (List (Int × (List Int))) × (List (Int × Int × Int)))) (track : Int) (wanted : Int) : List (Int × Int) := let borders : List Int := (going_round (ixF disc.2.1 track)); (if (decide (borders = ([] : List Int))) = true then (if (decide ((colour disc track (0 : Int)) = wanted)) = true then [((0 : Int), disc.1)] else ([] : List (Int × Int))) else (let found : List (Int × Int) := ([] : List (Int × Int)); let st_1 : List (Int × Int) := List.foldl (stretches_l0 disc track wanted) found (List.zip borders ((cutF borders (some (1 : Int)) none) ++ (cutF borders none (some (1 : Int))))); let found_3 : List (Int × Int) := st_1; found_3))
@[irreducible] def stretches (disc : (Int × (List (Int × (List Int))) × (List (Int × Int × Int)))) (track : Int) (wanted : Int) : List (Int × Int) := stretches_b disc track wanted
theorem stretches_eq (disc : (Int × (List (Int × (List Int))) × (List (Int × Int × Int)))) (track : Int) (wanted : Int) : stretches disc track wanted = stretches_b disc track wanted := by unfold stretches; rfl
def stretches_ok (disc : (Int × (List (Int × (List Int))) × (List (Int × Int × Int)))) (track : Int) (wanted : Int) : Prop := (IxOk disc.2.1 track) ∧ (going_round_ok (ixF disc.2.1 track)) ∧ (let borders : List Int := (going_round (ixF disc.2.1 track)); ((decide (borders = ([] : List Int))) = true → (colour_ok disc track (0 : Int)) ∧ True) ∧ ((decide (borders = ([] : List Int))) = false → let found : List (Int × Int) := ([] : List (Int × Int)); ((cutF borders (some (1 : Int)) none).length + (cutF borders none (some (1 : Int))).length ≤ 16777216) ∧ (foldOk (stretches_l0_ok disc track wanted) (stretches_l0 disc track wanted) found (List.zip borders ((cutF borders (some (1 : Int)) none) ++ (cutF borders none (some (1 : Int)))))) ∧ (let st_1 : List (Int × Int) := List.foldl (stretches_l0 disc track wanted) found (List.zip borders ((cutF borders (some (1 : Int)) none) ++ (cutF borders none (some (1 : Int))))); let found_3 : List (Int × Int) := st_1; True)) ∧ True)
def row_cells_l0 (disc : (Int × (List (Int × (List Int))) × (List (Int × Int × Int)))) (track : Int) (row : List Int) (changes : List Int) (st : List (Int × Int)) (y_v_4 : Int) : List (Int × Int) := let found_2 : List (Int × Int) := st; let border : Int := y_v_4; let first_2 : Int := (border - (ixF changes (0 : Int))); (if (decide ((List.map (fun y_v_5 : Int => let number_1 : Int := y_v_5; (colour disc track (first_2 + number_1))) (rgI 0 (row.length : Int))) = row)) = true then (let found_3 : List (Int × Int) := found_2 ++ [(first_2, (1 : Int))]; found_3) else found_2)
def row_cells_l0_ok (disc : (Int × (List (Int × (List Int))) × (List (Int × Int × Int)))) (track : Int) (row : List Int) (changes : List Int) (st : List (Int × Int)) (y_v_4 : Int) : Prop := let found_2 : List (Int × Int) := st; let border : Int := y_v_4; (IxOk changes (0 : Int)) ∧ (let first_2 : Int := (border - (ixF changes (0 : Int))); (RgOk 0 (row.length : Int)) ∧ (∀ y_v_5 : Int, y_v_5 ∈ (rgI 0 (row.length : Int)) → let number_1 : Int := y_v_5; (colour_ok disc track (first_2 + number_1)) ∧ True) ∧ ((decide ((List.map (fun y_v_5 : Int => let number_1 : Int := y_v_5; (colour disc track (first_2 + number_1))) (rgI 0 (row.length : Int))) = row)) = true → (found_2.length < 16777216) ∧ (let found_3 : List (Int × Int) := found_2 ++ [(first_2, (1 : Int))]; True)) ∧ True)
def row_cells_b (disc : (Int × (List (Int × (List Int))) × (List (Int × Int × Int)))) (track : Int) (row : List Int) : List (Int × Int) := let changes : List Int := (List.map (fun y_v : Int => let number : Int := y_v; number) (List.filter (fun y_v : Int => let number : Int := y_v; (!decide ((ixF row number) = (ixF row (number - (1 : Int)))))) (rgI (1 : Int) (row.length : Int)))); (if (decide (changes = ([] : List Int))) = true then (let found : List (Int × Int) := (List.map (fun y_v_1 : (Int × Int) => let first : Int := y_v_1.1; let many : Int := y_v_1.2; (first, ((many - (row.length : Int)) + (1 : Int)))) (List.filter (fun y_v_1 : (Int × Int) => let first : Int := y_v_1.1; let many : Int := y_v_1.2; (decide (many < disc.1))) (stretches disc track (ixF row (0 : Int))))); let whole : List (Int × Int) := (List.map (fun y_v_2 : (Int × Int) => let first_1 : Int := y_v_2.1; let many_1 : Int := y_v_2.2; ((0 : Int), disc.1)) (List.filter (fun y_v_2 : (Int × Int) => let first_1 : Int := y_v_2.1; let many_1 : Int := y_v_2.2; (decide (many_1 = disc.1))) (stretches disc track (ixF row (0 : Int))))); ((List.map (fun y_v_3 : (Int × Int) => let arc : (Int × Int) := y_v_3; arc) (List.filter (fun y_v_3 : (Int × Int) => let arc : (Int × Int) := y_v_3; (decide ((0 : Int) < arc.2))) found)) ++ whole)) else (let found_1 : List (Int × Int) := ([] : List (Int × Int)); let st_1 : List (Int × Int) := List.foldl (row_cells_l0 disc track row changes) found_1 (going_round (ixF disc.2.1 track)); let found_4 : List (Int × Int) := st_1; found_4))
@[irreducible] def row_cells (disc : (Int × (List (Int × (List Int))) × (List (Int × Int × Int)))) (track : Int) (row : List Int) : List (Int × Int) := row_cells_b disc track row
theorem row_cells_eq (disc : (Int × (List (Int × (List Int))) × (List (Int × Int × Int)))) (track : Int) (row : List Int) : row_cells disc track row = row_cells_b disc track row := by unfold row_cells; rfl
def row_cells_ok (disc : (Int × (List (Int × (List Int))) × (List (Int × Int × Int)))) (track : Int) (row : List Int) : Prop := (RgOk (1 : Int) (row.length : Int)) ∧ (∀ y_v : Int, y_v ∈ (rgI (1 : Int) (row.length : Int)) → let number : Int := y_v; (IxOk row number) ∧ (IxOk row (number - (1 : Int))) ∧ True) ∧ (let changes : List Int := (List.map (fun y_v : Int => let number : Int := y_v; number) (List.filter (fun y_v : Int => let number : Int := y_v; (!decide ((ixF row number) = (ixF row (number - (1 : Int)))))) (rgI (1 : Int) (row.length : Int)))); ((decide (changes = ([] : List Int))) = true → (IxOk row (0 : Int)) ∧ (stretches_ok disc track (ixF row (0 : Int))) ∧ (let found : List (Int × Int) := (List.map (fun y_v_1 : (Int × Int) => let first : Int := y_v_1.1; let many : Int := y_v_1.2; (first, ((many - (row.length : Int)) + (1 : Int)))) (List.filter (fun y_v_1 : (Int × Int) => let first : Int := y_v_1.1; let many : Int := y_v_1.2; (decide (many < disc.1))) (stretches disc track (ixF row (0 : Int))))); (IxOk row (0 : Int)) ∧ (stretches_ok disc track (ixF row (0 : Int))) ∧ (let whole : List (Int × Int) := (List.map (fun y_v_2 : (Int × Int) => let first_1 : Int := y_v_2.1; let many_1 : Int := y_v_2.2; ((0 : Int), disc.1)) (List.filter (fun y_v_2 : (Int × Int) => let first_1 : Int := y_v_2.1; let many_1 : Int := y_v_2.2; (decide (many_1 = disc.1))) (stretches disc track (ixF row (0 : Int))))); ((List.map (fun y_v_3 : (Int × Int) => let arc : (Int × Int) := y_v_3; arc) (List.filter (fun y_v_3 : (Int × Int) => let arc : (Int × Int) := y_v_3; (decide ((0 : Int) < arc.2))) found)).length + whole.length ≤ 16777216) ∧ True))) ∧ ((decide (changes = ([] : List Int))) = false → let found_1 : List (Int × Int) := ([] : List (Int × Int)); (IxOk disc.2.1 track) ∧ (going_round_ok (ixF disc.2.1 track)) ∧ (foldOk (row_cells_l0_ok disc track row changes) (row_cells_l0 disc track row changes) found_1 (going_round (ixF disc.2.1 track))) ∧ (let st_1 : List (Int × Int) := List.foldl (row_cells_l0 disc track row changes) found_1 (going_round (ixF disc.2.1 track)); let found_4 : List (Int × Int) := st_1; True)) ∧ True)
def arcs_of_b (size : Int) (some_v : List (Int × Int)) : List (Int × Int) := (if ((decide ((some_v.length : Int) < (2 : Int))) || ((decide ((0 : Int) < (ixF some_v (0 : Int)).1)) || (decide ((ixF some_v (-(1 : Int))).2 < size)))) = true then (List.map (fun y_v : (Int × Int) => let first : Int := y_v.1; let end_v : Int := y_v.2; (first, (end_v - first))) some_v) else (let found : List (Int × Int) := (List.map (fun y_v_1 : (Int × Int) => let first_1 : Int := y_v_1.1; let end_v_1 : Int := y_v_1.2; (first_1, (end_v_1 - first_1))) (cutF some_v (some (1 : Int)) (some (-(1 : Int))))); (found ++ [((ixF some_v (-(1 : Int))).1, ((size - (ixF some_v (-(1 : Int))).1) + (ixF some_v (0 : Int)).2))])))
@[irreducible] def arcs_of (size : Int) (some_v : List (Int × Int)) : List (Int × Int) := arcs_of_b size some_v
theorem arcs_of_eq (size : Int) (some_v : List (Int × Int)) : arcs_of size some_v = arcs_of_b size some_v := by unfold arcs_of; rfl
def arcs_of_ok (size : Int) (some_v : List (Int × Int)) : Prop := ((decide ((some_v.length : Int) < (2 : Int))) = false → (IxOk some_v (0 : Int)) ∧ ((decide ((0 : Int) < (ixF some_v (0 : Int)).1)) = false → (IxOk some_v (-(1 : Int))) ∧ True) ∧ True) ∧ (((decide ((some_v.length : Int) < (2 : Int))) || ((decide ((0 : Int) < (ixF some_v (0 : Int)).1)) || (decide ((ixF some_v (-(1 : Int))).2 < size)))) = false → let found : List (Int × Int) := (List.map (fun y_v_1 : (Int × Int) => let first_1 : Int := y_v_1.1; let end_v_1 : Int := y_v_1.2; (first_1, (end_v_1 - first_1))) (cutF some_v (some (1 : Int)) (some (-(1 : Int))))); (IxOk some_v (-(1 : Int))) ∧ (IxOk some_v (-(1 : Int))) ∧ (IxOk some_v (0 : Int)) ∧ (found.length + [((ixF some_v (-(1 : Int))).1, ((size - (ixF some_v (-(1 : Int))).1) + (ixF some_v (0 : Int)).2))].length ≤ 16777216) ∧ True) ∧ True
def along_l0 (disc : (Int × (List (Int × (List Int))) × (List (Int × Int × Int)))) (row : List (List Int)) (st : List (Int × Int)) (y_v : (Int × (Int × Int × Int))) : List (Int × Int) := let found_1 : List (Int × Int) := st; let number : Int := y_v.1; let track : Int := y_v.2.1; let low : Int := y_v.2.2.1; let high : Int := y_v.2.2.2; let cells : List (Int × Int) := (row_cells disc track (List.map (fun y_v_1 : List Int => let pattern : List Int := y_v_1; (ixF pattern number)) row)); let some_v : List (Int × Int) := (List.map (fun y_v_2 : (Int × Int) => let first : Int := y_v_2.1; let many : Int := y_v_2.2; ((first - high), ((many + high) - low))) cells); let found_2 : List (Int × Int) := (common found_1 (pieces_of disc.1 some_v)); found_2
def along_l0_ok (disc : (Int × (List (Int × (List Int))) × (List (Int × Int × Int)))) (row : List (List Int)) (st : List (Int × Int)) (y_v : (Int × (Int × Int × Int))) : Prop := let found_1 : List (Int × Int) := st; let number : Int := y_v.1; let track : Int := y_v.2.1; let low : Int := y_v.2.2.1; let high : Int := y_v.2.2.2; (∀ y_v_1 : List Int, y_v_1 ∈ row → let pattern : List Int := y_v_1; (IxOk pattern number) ∧ True) ∧ (row_cells_ok disc track (List.map (fun y_v_1 : List Int => let pattern : List Int := y_v_1; (ixF pattern number)) row)) ∧ (let cells : List (Int × Int) := (row_cells disc track (List.map (fun y_v_1 : List Int => let pattern : List Int := y_v_1; (ixF pattern number)) row)); let some_v : List (Int × Int) := (List.map (fun y_v_2 : (Int × Int) => let first : Int := y_v_2.1; let many : Int := y_v_2.2; ((first - high), ((many + high) - low))) cells); (pieces_of_ok disc.1 some_v) ∧ (common_ok found_1 (pieces_of disc.1 some_v)) ∧ (let found_2 : List (Int × Int) := (common found_1 (pieces_of disc.1 some_v)); True))
def along_b (disc : (Int × (List (Int × (List Int))) × (List (Int × Int × Int)))) (row : List (List Int)) : List (Int × Int) := let found : List (Int × Int) := [((0 : Int), disc.1)]; let st_1 : List (Int × Int) := List.foldl (along_l0 disc row) found (enI disc.2.2); let found_3 : List (Int × Int) := st_1; (arcs_of disc.1 found_3)
@[irreducible] def along (disc : (Int × (List (Int × (List Int))) × (List (Int × Int × Int)))) (row : List (List Int)) : List (Int × Int) := along_b disc row
theorem along_eq (disc : (Int × (List (Int × (List Int))) × (List (Int × Int × Int)))) (row : List (List Int)) : along disc row = along_b disc row := by unfold along; rfl
def along_ok (disc : (Int × (List (Int × (List Int))) × (List (Int × Int × Int)))) (row : List (List Int)) : Prop := let found : List (Int × Int) := [((0 : Int), disc.1)]; (foldOk (along_l0_ok disc row) (along_l0 disc row) found (enI disc.2.2)) ∧ (let st_1 : List (Int × Int) := List.foldl (along_l0 disc row) found (enI disc.2.2); let found_3 : List (Int × Int) := st_1; (arcs_of_ok disc.1 found_3) ∧ True)
def positions_b (disc : (Int × (List (Int × (List Int))) × (List (Int × Int × Int)))) (pattern : List Int) : List (Int × Int) := (along disc [pattern])
@[irreducible] def positions (disc : (Int × (List (Int × (List Int))) × (List (Int × Int × Int)))) (pattern : List Int) : List (Int × Int) := positions_b disc pattern
theorem positions_eq (disc : (Int × (List (Int × (List Int))) × (List (Int × Int × Int)))) (pattern : List Int) : positions disc pattern = positions_b disc pattern := by unfold positions; rfl
def positions_ok (disc : (Int × (List (Int × (List Int))) × (List (Int × Int × Int)))) (pattern : List Int) : Prop := (along_ok disc [pattern]) ∧ True
def l_alone_b (disc_here : (Int × (List (Int × (List Int))) × (List (Int × Int × Int)))) : List (Int × (List (Int × (List Int))) × (List (Int × Int × Int))) := (List.map (fun y_v : (Int × Int × Int) => let sensor : (Int × Int × Int) := y_v; (disc_here.1, disc_here.2.1, [sensor])) disc_here.2.2)
@[irreducible] def l_alone (disc_here : (Int × (List (Int × (List Int))) × (List (Int × Int × Int)))) : List (Int × (List (Int × (List Int))) × (List (Int × Int × Int))) := l_alone_b disc_here
theorem l_alone_eq (disc_here : (Int × (List (Int × (List Int))) × (List (Int × Int × Int)))) : l_alone disc_here = l_alone_b disc_here := by unfold l_alone; rfl
def l_alone_ok (disc_here : (Int × (List (Int × (List Int))) × (List (Int × Int × Int)))) : Prop := True
def l_holds_b (size : Int) (arcs : List (Int × Int)) (position : Int) : Bool := (!decide ((List.map (fun y_v : (Int × Int) => let first : Int := y_v.1; let many : Int := y_v.2; (1 : Int)) (List.filter (fun y_v : (Int × Int) => let first : Int := y_v.1; let many : Int := y_v.2; (decide (((position - first) % size) < many))) arcs)) = ([] : List Int)))
@[irreducible] def l_holds (size : Int) (arcs : List (Int × Int)) (position : Int) : Bool := l_holds_b size arcs position
theorem l_holds_eq (size : Int) (arcs : List (Int × Int)) (position : Int) : l_holds size arcs position = l_holds_b size arcs position := by unfold l_holds; rfl
def l_holds_ok (size : Int) (arcs : List (Int × Int)) (position : Int) : Prop := (∀ y_v : (Int × Int), y_v ∈ arcs → let first : Int := y_v.1; let many : Int := y_v.2; (0 < size) ∧ True) ∧ True
def can_read_b (disc : (Int × (List (Int × (List Int))) × (List (Int × Int × Int)))) (position : Int) (pattern : List Int) : Bool := (List.all (List.map (fun y_v : (Int × (List Int)) => let one : Int := y_v.1; let some_v : List Int := y_v.2; (decide (one ∈ some_v))) (List.zip pattern (possible disc position))) id)
@[irreducible] def can_read (disc : (Int × (List (Int × (List Int))) × (List (Int × Int × Int)))) (position : Int) (pattern : List Int) : Bool := can_read_b disc position pattern
theorem can_read_eq (disc : (Int × (List (Int × (List Int))) × (List (Int × Int × Int)))) (position : Int) (pattern : List Int) : can_read disc position pattern = can_read_b disc position pattern := by unfold can_read; rfl
def can_read_ok (disc : (Int × (List (Int × (List Int))) × (List (Int × Int × Int)))) (position : Int) (pattern : List Int) : Prop := (possible_ok disc position) ∧ True
def seats_for_l0 (disc : (Int × (List (Int × (List Int))) × (List (Int × Int × Int)))) (position : Int) (st : List Int) (y_v : ((Int × Int × Int) × Int)) : List Int := let found_1 : List Int := st; let track : Int := y_v.1.1; let low : Int := y_v.1.2.1; let high : Int := y_v.1.2.2; let one : Int := y_v.2; let found_2 : List Int := found_1 ++ [(if (decide ((colour disc track (position + low)) = one)) = true then low else high)]; found_2
def seats_for_l0_ok (disc : (Int × (List (Int × (List Int))) × (List (Int × Int × Int)))) (position : Int) (st : List Int) (y_v : ((Int × Int × Int) × Int)) : Prop := let found_1 : List Int := st; let track : Int := y_v.1.1; let low : Int := y_v.1.2.1; let high : Int := y_v.1.2.2; let one : Int := y_v.2; (colour_ok disc track (position + low)) ∧ (found_1.length < 16777216) ∧ (let found_2 : List Int := found_1 ++ [(if (decide ((colour disc track (position + low)) = one)) = true then low else high)]; True)
def seats_for_b (disc : (Int × (List (Int × (List Int))) × (List (Int × Int × Int)))) (position : Int) (pattern : List Int) : Option (List Int) := (if (!(can_read disc position pattern)) = true then none else (let found : List Int := ([] : List Int); let st_1 : List Int := List.foldl (seats_for_l0 disc position) found (List.zip disc.2.2 pattern); let found_3 : List Int := st_1; (some found_3)))
@[irreducible] def seats_for (disc : (Int × (List (Int × (List Int))) × (List (Int × Int × Int)))) (position : Int) (pattern : List Int) : Option (List Int) := seats_for_b disc position pattern
theorem seats_for_eq (disc : (Int × (List (Int × (List Int))) × (List (Int × Int × Int)))) (position : Int) (pattern : List Int) : seats_for disc position pattern = seats_for_b disc position pattern := by unfold seats_for; rfl
def seats_for_ok (disc : (Int × (List (Int × (List Int))) × (List (Int × Int × Int)))) (position : Int) (pattern : List Int) : Prop := (can_read_ok disc position pattern) ∧ ((!(can_read disc position pattern)) = false → let found : List Int := ([] : List Int); (foldOk (seats_for_l0_ok disc position) (seats_for_l0 disc position) found (List.zip disc.2.2 pattern)) ∧ (let st_1 : List Int := List.foldl (seats_for_l0 disc position) found (List.zip disc.2.2 pattern); let found_3 : List Int := st_1; True)) ∧ True
def reading_b (disc : (Int × (List (Int × (List Int))) × (List (Int × Int × Int)))) (position : Int) (seats : List Int) : List Int := (List.map (fun y_v : ((Int × Int × Int) × Int) => let sensor : (Int × Int × Int) := y_v.1; let seat : Int := y_v.2; (colour disc sensor.1 (position + seat))) (List.zip disc.2.2 seats))
@[irreducible] def reading (disc : (Int × (List (Int × (List Int))) × (List (Int × Int × Int)))) (position : Int) (seats : List Int) : List Int := reading_b disc position seats
theorem reading_eq (disc : (Int × (List (Int × (List Int))) × (List (Int × Int × Int)))) (position : Int) (seats : List Int) : reading disc position seats = reading_b disc position seats := by unfold reading; rfl
def reading_ok (disc : (Int × (List (Int × (List Int))) × (List (Int × Int × Int)))) (position : Int) (seats : List Int) : Prop := (∀ y_v : ((Int × Int × Int) × Int), y_v ∈ (List.zip disc.2.2 seats) → let sensor : (Int × Int × Int) := y_v.1; let seat : Int := y_v.2; (colour_ok disc sensor.1 (position + seat)) ∧ True) ∧ True
end
end Q

set_option Elab.async false
set_option linter.all false
set_option maxRecDepth 100000
/-! lists, turns, the deck -/
namespace Q
open PySem hiding Env Arg
open Dl Lf
abbrev TrT := Int × List Int
abbrev SeT := Int × Int × Int
abbrev DiT := Int × List TrT × List SeT
theorem mem_rg {a b x : Int} : x ∈ rgI a b ↔ a ≤ x ∧ x < b := by
  unfold rgI
  simp only [List.mem_map, List.mem_range]
  constructor
  · rintro ⟨k, h1, rfl⟩; omega
  · intro h; exact ⟨(x - a).toNat, by omega, by omega⟩
theorem len_rg (a b : Int) : (rgI a b).length = (b - a).toNat := by unfold rgI; simp
theorem rg_nil {a b : Int} (h : b ≤ a) : rgI a b = [] := by
  have := len_rg a b
  exact List.length_eq_zero_iff.mp (by omega)
theorem rg_get {a b : Int} {i : Nat} (h : i < (b - a).toNat) : (rgI a b)[i]? = some (a + (i : Int)) := by
  unfold rgI
  simp [h]
theorem rg_get_none {a b : Int} {i : Nat} (h : (b - a).toNat ≤ i) : (rgI a b)[i]? = none := List.getElem?_eq_none (by rw [len_rg]; exact h)
theorem rg_app {a m b : Int} (h : a ≤ m) (h2 : m ≤ b) : rgI a b = rgI a m ++ rgI m b := by
  refine List.ext_getElem? fun i => ?_
  by_cases h1 : i < (m - a).toNat
  · rw [List.getElem?_append_left (by rw [len_rg]; exact h1), rg_get h1, rg_get (by omega)]
  · rw [List.getElem?_append_right (by rw [len_rg]; omega), len_rg]
    by_cases h3 : i < (b - a).toNat
    · rw [rg_get h3, rg_get (by omega)]
      congr 1
      omega
    · rw [rg_get_none (by omega), rg_get_none (by omega)]
theorem rg_one (a : Int) : rgI a (a + 1) = [a] := by
  refine List.ext_getElem? fun i => ?_
  by_cases h : i < 1
  · rw [rg_get (by omega)]
    have : i = 0 := by omega
    subst this; simp
  · rw [rg_get_none (by omega), List.getElem?_eq_none (by simp; omega)]
theorem rg_snoc {a b : Int} (h : a ≤ b) : rgI a (b + 1) = rgI a b ++ [b] := by rw [rg_app h (by omega), rg_one]
theorem rg_cons {a b : Int} (h : a < b) : rgI a b = a :: rgI (a + 1) b := by rw [rg_app (m := a + 1) (by omega) (by omega), rg_one]; rfl
/-! ### turns -/
theorem fold_inv {α S : Type} {ok : S → α → Prop} {f : S → α → S} (I : Nat → S → Prop) : ∀ {xs : List α} {n : Nat} {s : S}, (∀ m s x, n ≤ m → m < n + xs.length → x ∈ xs → I m s → ok s x ∧ I (m + 1) (f s x)) → I n s → foldOk ok f s xs ∧ I (n + xs.length) (xs.foldl f s)
  | [], n, s, _, h => ⟨trivial, h⟩
  | x :: xs, n, s, hs, h => by
    obtain ⟨h1, h2⟩ := hs n s x (Nat.le_refl _) (by simp) List.mem_cons_self h
    obtain ⟨h3, h4⟩ := fold_inv I (xs := xs) (n := n + 1) (s := f s x) (fun m s y a b c d => hs m s y (by omega) (by simp; omega) (List.mem_cons_of_mem _ c) d) h2
    exact ⟨⟨h1, h3⟩, by simpa [Nat.add_assoc, Nat.add_comm 1] using h4⟩
theorem mapS_inv {α β S : Type} {ok : S → α → Prop} {f : S → α → β × S} (I : Nat → S → Prop) (Y : β → Prop) : ∀ {xs : List α} {n : Nat} {s : S}, (∀ m s x, n ≤ m → m < n + xs.length → x ∈ xs → I m s → ok s x ∧ Y (f s x).1 ∧ I (m + 1) (f s x).2) → I n s →
    mapSOk ok f s xs ∧ (∀ y ∈ (mapS f s xs).1, Y y) ∧ I (n + xs.length) (mapS f s xs).2 ∧ (mapS f s xs).1.length = xs.length
  | [], n, s, _, h => ⟨trivial, (fun y hy => absurd hy (by simp [mapS])), h, rfl⟩
  | x :: xs, n, s, hs, h => by
    obtain ⟨h1, h2, h3⟩ := hs n s x (Nat.le_refl _) (by simp) List.mem_cons_self h
    obtain ⟨h4, h5, h6, h7⟩ := mapS_inv I Y (xs := xs) (n := n + 1) (s := (f s x).2) (fun m s y a b c d => hs m s y (by omega) (by simp; omega) (List.mem_cons_of_mem _ c) d) h3
    refine ⟨⟨h1, h4⟩, fun y hy => ?_, by simpa [Nat.add_assoc, Nat.add_comm 1, mapS] using h6, by simp [mapS, h7]⟩
    rcases List.mem_cons.mp hy with rfl | hy
    · exact h2
    · exact h5 y hy
theorem loop_inv {α S R : Type} {ok : S → α → Prop} {f : S → α → Step S R} (I : Nat → S → Prop) : ∀ {xs : List α} {n : Nat} {s : S}, (∀ m s x, n ≤ m → m < n + xs.length → x ∈ xs → I m s → ok s x ∧ ∃ s', f s x = .nx s' ∧ I (m + 1) s') → I n s →
    loopOk ok f s xs ∧ ∃ s', loopF f s xs = .nx s' ∧ I (n + xs.length) s'
  | [], n, s, _, h => ⟨trivial, s, rfl, h⟩
  | x :: xs, n, s, hs, h => by
    obtain ⟨h1, s1, e1, h2⟩ := hs n s x (Nat.le_refl _) (by simp) List.mem_cons_self h
    obtain ⟨h3, s2, e2, h4⟩ := loop_inv I (xs := xs) (n := n + 1) (s := s1) (fun m s y a b c d => hs m s y (by omega) (by simp; omega) (List.mem_cons_of_mem _ c) d) h2
    refine ⟨⟨h1, fun s' e => by rw [e1] at e; cases e; exact h3⟩, s2, ?_, by simpa [Nat.add_assoc, Nat.add_comm 1] using h4⟩
    unfold loopF
    rw [e1]
    exact e2
theorem wh_inv {S : Type} {c : S → Bool} {cok ok : S → Prop} {f : S → S} (I : S → Prop) (m : S → Nat) (hs : ∀ s, I s → cok s ∧ (c s = true → ok s ∧ I (f s) ∧ m (f s) < m s)) : ∀ (n : Nat) (s : S), m s < n → I s → whGOk cok c ok f n s ∧ I (whG c f n s) ∧ c (whG c f n s) = false
  | 0, s, h, _ => absurd h (Nat.not_lt_zero _)
  | n + 1, s, h, hi => by
    obtain ⟨h1, h2⟩ := hs s hi
    unfold whGOk whG
    cases hc : c s with
    | false => exact ⟨⟨h1, fun e => by cases e⟩, hi, hc⟩
    | true =>
      obtain ⟨h3, h4, h5⟩ := h2 hc
      obtain ⟨g1, g2, g3⟩ := wh_inv I m hs n (f s) (by omega) h4
      exact ⟨⟨h1, fun _ => ⟨h3, g1⟩⟩, g2, g3⟩
theorem fu_big : fu = 1000000 := fu_eq
theorem foldl_app {α β : Type} (g : α → β) : ∀ (xs : List α) (s : List β), xs.foldl (fun st y => st ++ [g y]) s = s ++ xs.map g
  | [], s => by simp
  | x :: xs, s => by rw [List.foldl_cons, foldl_app g xs]; simp
theorem foldl_flat {α β : Type} (g : α → List β) : ∀ (xs : List α) (s : List β), xs.foldl (fun st y => st ++ g y) s = s ++ xs.flatMap g
  | [], s => by simp
  | x :: xs, s => by rw [List.foldl_cons, foldl_flat g xs]; simp
/-- a loop that only appends -/
theorem foldOk_app {α β : Type} {ok : List β → α → Prop} {f : List β → α → List β} (g : α → β) (hf : ∀ st y, f st y = st ++ [g y]) {xs : List α} {N : Nat} (hx : ∀ y ∈ xs, ∀ st : List β, st.length < N → ok st y) : ∀ {s : List β}, s.length + xs.length ≤ N → foldOk ok f s xs := by
  induction xs with
  | nil => intro s _; trivial
  | cons x xs ih =>
    intro s h
    simp only [List.length_cons] at h
    refine ⟨hx x List.mem_cons_self s (by omega), ?_⟩
    rw [hf]
    exact ih (fun y hy => hx y (List.mem_cons_of_mem _ hy)) (by simp; omega)
theorem ix_nat {α : Type} [Inhabited α] {xs : List α} {i : Int} (h0 : 0 ≤ i) (h1 : i < xs.length) : IxOk xs i ∧ xs[i.toNat]? = some (ixF xs i) := by
  have h : i.toNat < xs.length := by omega
  refine ⟨⟨by omega, h1⟩, ?_⟩
  unfold ixF ixN
  rw [if_pos h0, List.getElem?_eq_getElem h]
  rfl
theorem ix_in {α : Type} [Inhabited α] {xs : List α} {i : Int} (h0 : 0 ≤ i) (h1 : i < xs.length) : ixF xs i ∈ xs := List.mem_of_getElem? (ix_nat h0 h1).2
theorem ix_map {α β : Type} [Inhabited α] [Inhabited β] (f : α → β) {xs : List α} {i : Int} (h0 : 0 ≤ i) (h1 : i < xs.length) : ixF (xs.map f) i = f (ixF xs i) := by
  have h := (ix_nat h0 h1).2
  have h2 := (ix_nat (xs := xs.map f) h0 (by simpa using h1)).2
  rw [List.getElem?_map, h] at h2
  simpa using h2.symm
theorem ix_rg {n i : Int} (h0 : 0 ≤ i) (h1 : i < n) : ixF (rgI 0 n) i = i := by
  have h2 := (ix_nat (xs := rgI 0 n) h0 (by rw [len_rg]; omega)).2
  rw [rg_get (by omega)] at h2
  injection h2 with h2
  omega
theorem ix_last {α : Type} [Inhabited α] (xs : List α) (x : α) : IxOk (xs ++ [x]) (-1) ∧ ixF (xs ++ [x]) (-1) = x := by
  refine ⟨⟨by simp; omega, by simp; omega⟩, ?_⟩
  unfold ixF ixN
  rw [if_neg (by omega)]
  have : (((xs ++ [x]).length : Int) + -1).toNat = xs.length := by simp; omega
  rw [this]
  simp
theorem set_last {α : Type} (xs : List α) (x y : α) : setF (xs ++ [x]) (-1) y = xs ++ [y] := by
  unfold setF ixN
  rw [if_neg (by omega)]
  have : (((xs ++ [x]).length : Int) + -1).toNat = xs.length := by simp; omega
  rw [this]
  simp
theorem cut1 {α : Type} (xs : List α) : cutF xs (some 1) none = xs.drop 1 := cutF_from xs 1
theorem cut_1 {α : Type} (xs : List α) : cutF xs none (some 1) = xs.take 1 := cutF_to xs 1
theorem cut_n {α : Type} (xs : List α) {i : Int} (h : 0 ≤ i) : cutF xs (some i) none = xs.drop i.toNat := by
  have : i = ((i.toNat : Nat) : Int) := by omega
  rw [this, cutF_from]
  rfl
theorem snoc_of {α : Type} {xs : List α} (h : xs ≠ []) : ∃ ys y, xs = ys ++ [y] := ⟨xs.dropLast, xs.getLast h, (List.dropLast_concat_getLast h).symm⟩
/-! ### sorted, each once -/
theorem dedup_mem {x : Int} : ∀ {l : List Int}, x ∈ dedupA l ↔ x ∈ l
  | [] => by simp [dedupA]
  | [a] => by simp [dedupA]
  | a :: b :: r => by
    unfold dedupA
    split
    · rename_i h; subst h; rw [dedup_mem]; simp
    · rw [List.mem_cons, dedup_mem]; simp
theorem dedup_head {a : Int} : ∀ {l : List Int}, (∀ x ∈ l, a ≤ x) → ∀ x ∈ dedupA l, a ≤ x := fun h x hx => h x (dedup_mem.mp hx)
theorem dedup_asc : ∀ {l : List Int}, l.Pairwise (· ≤ ·) → (dedupA l).Pairwise (· < ·)
  | [], _ => by simp [dedupA]
  | [a], _ => by simp [dedupA]
  | a :: b :: r, h => by
    obtain ⟨h1, h2⟩ := List.pairwise_cons.mp h
    have ih := dedup_asc h2
    unfold dedupA
    split
    · exact ih
    · rename_i hn
      refine List.pairwise_cons.mpr ⟨fun x hx => ?_, ih⟩
      have hm := dedup_mem.mp hx
      have hb := h1 b List.mem_cons_self
      rcases List.mem_cons.mp hm with rfl | hm
      · omega
      · have := (List.pairwise_cons.mp h2).1 x hm
        omega
theorem srt_asc (l : List Int) : (srtI l).Pairwise (· ≤ ·) := by
  have := List.pairwise_mergeSort (le := fun a b : Int => decide (a ≤ b)) (fun a b c => by simp; omega) (fun a b => by simp; omega) l
  exact this.imp (by simp)
theorem srt_mem {x : Int} {l : List Int} : x ∈ srtI l ↔ x ∈ l := List.mem_mergeSort
theorem asc_eq : ∀ {a b : List Int}, a.Pairwise (· < ·) → b.Pairwise (· < ·) → (∀ x, x ∈ a ↔ x ∈ b) → a = b
  | [], [], _, _, _ => rfl
  | [], y :: b, _, _, h => absurd ((h y).mpr List.mem_cons_self) (by simp)
  | x :: a, [], _, _, h => absurd ((h x).mp List.mem_cons_self) (by simp)
  | x :: a, y :: b, ha, hb, h => by
    obtain ⟨a1, a2⟩ := List.pairwise_cons.mp ha
    obtain ⟨b1, b2⟩ := List.pairwise_cons.mp hb
    have e : x = y := by
      rcases List.mem_cons.mp ((h x).mp List.mem_cons_self) with e | m
      · exact e
      · rcases List.mem_cons.mp ((h y).mpr List.mem_cons_self) with e | m2
        · exact e.symm
        · have := b1 x m; have := a1 y m2; omega
    subst e
    congr 1
    refine asc_eq a2 b2 fun z => ⟨fun m => ?_, fun m => ?_⟩
    · rcases List.mem_cons.mp ((h z).mp (List.mem_cons_of_mem _ m)) with e | m2
      · have := a1 z m; omega
      · exact m2
    · rcases List.mem_cons.mp ((h z).mpr (List.mem_cons_of_mem _ m)) with e | m2
      · have := b1 z m; omega
      · exact m2
/-- ascending, each once -/
def srtD (l : List Int) : List Int := dedupA (srtI l)
theorem srtD_mem {x : Int} {l : List Int} : x ∈ srtD l ↔ x ∈ l := by unfold srtD; rw [dedup_mem, srt_mem]
theorem srtD_asc (l : List Int) : (srtD l).Pairwise (· < ·) := dedup_asc (srt_asc l)
theorem srtD_eq {l m : List Int} (h : m.Pairwise (· < ·)) (hm : ∀ x, x ∈ l ↔ x ∈ m) : srtD l = m := asc_eq (srtD_asc l) h fun x => by rw [srtD_mem]; exact hm x
/-! ### least and greatest -/
theorem minF_le {l : List Int} (h : l ≠ []) : minF l ∈ l ∧ ∀ x ∈ l, minF l ≤ x := by
  cases l with
  | nil => exact absurd rfl h
  | cons a l =>
    show (l.foldl min a) ∈ a :: l ∧ _
    have key : ∀ (l : List Int) (a : Int), (l.foldl min a ≤ a ∧ ∀ x ∈ l, l.foldl min a ≤ x) ∧ (l.foldl min a = a ∨ l.foldl min a ∈ l) := by
      intro l
      induction l with
      | nil => intro a; exact ⟨⟨Int.le_refl _, fun x hx => by cases hx⟩, .inl rfl⟩
      | cons b l ih =>
        intro a
        obtain ⟨⟨h1, h2⟩, h3⟩ := ih (min a b)
        rw [List.foldl_cons]
        refine ⟨⟨by omega, fun x hx => ?_⟩, ?_⟩
        · rcases List.mem_cons.mp hx with rfl | hx
          · omega
          · exact h2 x hx
        · rcases h3 with h3 | h3
          · rw [h3]
            by_cases hab : a ≤ b
            · left; omega
            · right; rw [show min a b = b by omega]; exact List.mem_cons_self
          · exact .inr (List.mem_cons_of_mem _ h3)
    obtain ⟨⟨h1, h2⟩, h3⟩ := key l a
    refine ⟨?_, fun x hx => ?_⟩
    · rcases h3 with h3 | h3
      · rw [h3]; exact List.mem_cons_self
      · exact List.mem_cons_of_mem _ h3
    · rcases List.mem_cons.mp hx with rfl | hx
      · exact h1
      · exact h2 x hx
theorem min2_eq (a b : Int) : min2F a b = min a b := by unfold min2F; split <;> omega
theorem max2_eq (a b : Int) : max2F a b = max a b := by unfold max2F; split <;> omega
/-! ### the deck -/
def Dk (n : Int) (d : Deck) : Prop := 0 ≤ d.c ∧ d.c ≤ n
theorem Dk.ok {n : Int} {d : Deck} (h : Dk n d) (hn : n ≤ 10 ^ 9) : DkOk d := ⟨h.1, by have := h.2; omega⟩
theorem Dk.mono {n m : Int} {d : Deck} (h : Dk n d) (hm : n ≤ m) : Dk m d := ⟨h.1, by have := h.2; omega⟩
theorem Dk.draw {n : Int} {d : Deck} (h : Dk n d) (m : Int) : Dk (n + 1) (drawF d m).2 := by
  have := drawF_c d m
  obtain ⟨h1, h2⟩ := h
  exact ⟨by omega, by omega⟩
theorem Dk.one {α : Type} [Inhabited α] {n : Int} {d : Deck} (h : Dk n d) (its : List α) : Dk (n + 1) (oneF d its).2 := h.draw _
theorem dk0 (ns : List Int) : Dk 0 (deckI ns) := ⟨Int.le_refl 0, Int.le_refl 0⟩
theorem Dk.dr {n m : Int} {d : Deck} (h : Dk n d) (hn : n ≤ 10 ^ 9) (h0 : 0 < m) (h1 : m ≤ 2 ^ 62) : DrOk d m := ⟨h.ok hn, h0, h1⟩
end Q

set_option Elab.async false
set_option linter.all false
set_option maxRecDepth 100000
/-! borders, stretches; what is drawn -/
namespace Q
open PySem hiding Env Arg
open Dl Lf
def gB (bs : List Int) : List Int := if bs.length % 2 = 0 then bs else 0 :: bs
theorem borders_eq (size : Int) (t : TrT) : l_borders size t = gB t.2 := by
  rw [l_borders_eq]
  unfold l_borders_b gB
  by_cases h : t.2.length % 2 = 0
  · have : ((t.2.length : Int) % 2 = 0) := by omega
    simp [h, this]
  · have : ¬ ((t.2.length : Int) % 2 = 0) := by omega
    simp [h, this]
theorem going_eq (t : TrT) : going_round t = gB t.2 := by
  rw [going_round_eq]
  unfold going_round_b gB
  by_cases h : t.2.length % 2 = 0
  · have : ((t.2.length : Int) % 2 = 0) := by omega
    simp [h, this]
  · have : ¬ ((t.2.length : Int) % 2 = 0) := by omega
    simp [h, this]
structure TrOk (size : Int) (bs : List Int) : Prop where
  asc : bs.Pairwise (· < ·)
  rng : ∀ b ∈ bs, 1 ≤ b ∧ b < size
  few : bs.length ≤ 24
theorem gB_len (bs : List Int) : (gB bs).length % 2 = 0 ∧ (gB bs).length ≤ bs.length + 1 := by
  unfold gB
  split
  · exact ⟨by assumption, by omega⟩
  · simp; omega
theorem gB_asc {size : Int} {bs : List Int} (h : TrOk size bs) : (gB bs).Pairwise (· < ·) := by
  unfold gB
  split
  · exact h.asc
  · exact List.pairwise_cons.mpr ⟨fun b hb => by have := h.rng b hb; omega, h.asc⟩
theorem gB_rng {size : Int} {bs : List Int} (h : TrOk size bs) : ∀ b ∈ gB bs, 0 ≤ b ∧ b < size := by
  intro b hb
  unfold gB at hb
  split at hb
  · have := h.rng b hb; omega
  · rename_i ho
    rcases List.mem_cons.mp hb with rfl | hb
    · cases bs with
      | nil => simp at ho
      | cons x xs => have := h.rng x List.mem_cons_self; omega
    · have := h.rng b hb; omega
theorem zip_next : ∀ (a : Int) (t : List Int) (z : Int), (a :: t).Pairwise (· < ·) → ∀ p ∈ List.zip (a :: t) (t ++ [z]), p.1 ∈ a :: t ∧ ((p.2 = z ∧ ∀ w ∈ a :: t, w ≤ p.1) ∨ (p.2 ∈ t ∧ p.1 < p.2 ∧ ∀ w ∈ a :: t, w ≤ p.1 ∨ p.2 ≤ w))
  | a, [], z, _, p, hp => by
    simp at hp; subst hp
    exact ⟨by simp, .inl ⟨rfl, by simp⟩⟩
  | a, b :: t, z, h, p, hp => by
    obtain ⟨h1, h2⟩ := List.pairwise_cons.mp h
    rcases List.mem_cons.mp hp with rfl | hp
    · refine ⟨List.mem_cons_self, .inr ⟨List.mem_cons_self, h1 b List.mem_cons_self, fun w hw => ?_⟩⟩
      rcases List.mem_cons.mp hw with rfl | hw
      · exact .inl (Int.le_refl _)
      · rcases List.mem_cons.mp hw with rfl | hw
        · exact .inr (Int.le_refl _)
        · have := (List.pairwise_cons.mp h2).1 w hw; right; show b ≤ w; omega
    · obtain ⟨g1, g2⟩ := zip_next b t z h2 p hp
      have ha := h1 p.1 g1
      refine ⟨List.mem_cons_of_mem _ g1, ?_⟩
      rcases g2 with ⟨g2, g3⟩ | ⟨g2, g3, g4⟩
      · refine .inl ⟨g2, fun w hw => ?_⟩
        rcases List.mem_cons.mp hw with rfl | hw
        · omega
        · exact g3 w hw
      · refine .inr ⟨List.mem_cons_of_mem _ g2, g3, fun w hw => ?_⟩
        rcases List.mem_cons.mp hw with rfl | hw
        · left; omega
        · exact g4 w hw
theorem zip_all : ∀ (a : Int) (t : List Int) (z : Int), ∀ u ∈ a :: t, ∃ v, (u, v) ∈ List.zip (a :: t) (t ++ [z])
  | a, [], z, u, hu => ⟨z, by simp at hu; subst hu; simp⟩
  | a, b :: t, z, u, hu => by
    rcases List.mem_cons.mp hu with rfl | hu
    · exact ⟨b, List.mem_cons_self⟩
    · obtain ⟨v, hv⟩ := zip_all b t z u hu
      exact ⟨v, List.mem_cons_of_mem _ hv⟩
def difs (size : Int) (l : List Int) : List Int := (List.zip l (l.drop 1 ++ l.take 1)).map fun p => (p.2 - p.1) % size
def shN (size : Int) (bs : List Int) : Int := if gB bs = [] then size else minF (difs size (gB bs))
theorem shortest_eq (size : Int) (t : TrT) : l_shortest size t = shN size t.2 := by
  rw [l_shortest_eq]
  unfold l_shortest_b shN difs
  simp only [borders_eq, cut1, cut_1, decide_eq_true_eq]
theorem emod_neg_pos {a s : Int} (h : -s ≤ a) (h2 : a < 0) : a % s = a + s := by
  have e : a % s = (a + s) % s := by simp
  rw [e, Int.emod_eq_of_lt (by omega) (by omega)]
theorem emod_pos {a s : Int} (h : 0 ≤ a) (h2 : a < s) : a % s = a := Int.emod_eq_of_lt h h2
theorem difs_ne {size : Int} {l : List Int} (h : l ≠ []) : difs size l ≠ [] := by
  cases l with
  | nil => exact absurd rfl h
  | cons x xs => simp [difs]
theorem gap {size : Int} {bs : List Int} (h : TrOk size bs) {u w : Int} (hu : u ∈ gB bs) (hw : w ∈ gB bs) (ne : u ≠ w) : shN size bs ≤ (w - u) % size := by
  have hasc := gB_asc h
  have hr := gB_rng h
  unfold shN
  cases hg : gB bs with
  | nil => rw [hg] at hu; cases hu
  | cons a t =>
    rw [hg] at hu hw hasc hr
    rw [if_neg (by simp)]
    obtain ⟨v, hv⟩ := zip_all a t a u hu
    obtain ⟨g1, g2⟩ := zip_next a t a hasc _ hv
    have hm := (minF_le (difs_ne (size := size) (l := a :: t) (by simp))).2 ((v - u) % size) (List.mem_map.mpr ⟨(u, v), by simpa using hv, rfl⟩)
    refine Int.le_trans hm ?_
    have ru := hr u hu
    have rw' := hr w hw
    have hamin : a ≤ w := by
      rcases List.mem_cons.mp hw with rfl | hw
      · exact Int.le_refl _
      · have := (List.pairwise_cons.mp hasc).1 w hw; omega
    rcases g2 with ⟨g2, g3⟩ | ⟨g2, g3, g4⟩
    · simp only at g2 g3
      have h1 := g3 w hw
      have h2 := g3 a List.mem_cons_self
      have ra := hr a List.mem_cons_self
      subst g2
      have : v ≠ u := by omega
      rw [emod_neg_pos (a := v - u) (by omega) (by omega), emod_neg_pos (a := w - u) (by omega) (by omega)]
      omega
    · simp only at g2 g3 g4
      have rv := hr v (List.mem_cons_of_mem _ g2)
      rw [emod_pos (a := v - u) (by omega) (by omega)]
      rcases g4 w hw with g | g
      · rw [emod_neg_pos (a := w - u) (by omega) (by omega)]; omega
      · rw [emod_pos (a := w - u) (by omega) (by omega)]; omega
theorem shN_pos {size : Int} {bs : List Int} (h : TrOk size bs) (hs : 1 ≤ size) : 1 ≤ shN size bs ∧ shN size bs ≤ size := by
  have hasc := gB_asc h
  have hr := gB_rng h
  have hl := (gB_len bs).1
  unfold shN
  cases hg : gB bs with
  | nil => rw [if_pos rfl]; omega
  | cons a t =>
    rw [hg] at hasc hr hl
    rw [if_neg (by simp)]
    obtain ⟨p, hp, he⟩ := List.mem_map.mp (minF_le (difs_ne (size := size) (l := a :: t) (by simp))).1
    rw [← he]
    have hp' : p ∈ List.zip (a :: t) (t ++ [a]) := by simpa using hp
    obtain ⟨g1, g2⟩ := zip_next a t a hasc p hp'
    have r1 := hr _ g1
    have c2 := Int.emod_lt_of_pos (p.2 - p.1) (show 0 < size by omega)
    refine ⟨?_, by omega⟩
    rcases g2 with ⟨g2, g3⟩ | ⟨g2, g3, g4⟩
    · have ra := hr a List.mem_cons_self
      cases t with
      | nil => simp at hl
      | cons b t =>
        have h1 := g3 b (by simp)
        have h2 := (List.pairwise_cons.mp hasc).1 b List.mem_cons_self
        rw [g2, emod_neg_pos (a := a - p.1) (by omega) (by omega)]
        omega
    · have r2 := hr _ (List.mem_cons_of_mem _ g2)
      rw [emod_pos (a := p.2 - p.1) (by omega) (by omega)]
      omega
theorem borders_ok {size : Int} {t : TrT} (h : t.2.length ≤ 1000) : l_borders_ok size t := ⟨fun _ => ⟨by simp; omega, trivial⟩, trivial⟩
theorem going_ok {t : TrT} (h : t.2.length ≤ 1000) : going_round_ok t := ⟨fun _ => ⟨by simp; omega, trivial⟩, trivial⟩
theorem shortest_ok {size : Int} {t : TrT} (h : t.2.length ≤ 1000) (hs : 0 < size) : l_shortest_ok size t := by
  refine ⟨borders_ok h, fun he => ⟨?_, fun _ _ => ⟨hs, trivial⟩, ?_, trivial⟩, trivial⟩
  · rw [borders_eq, cut1, cut_1]
    have := (gB_len t.2).2
    simp
    omega
  · rw [borders_eq] at he
    rw [borders_eq, cut1, cut_1]
    exact difs_ne (size := size) (by simpa using he)
/-! ### drawn tracks -/
structure TrV (size : Int) (t : TrT) : Prop where
  fst : 0 ≤ t.1 ∧ t.1 < 2
  ok : TrOk size t.2
theorem track_v {n : Int} {d : Deck} {size : Int} (h : Dk n d) (hn : n ≤ 10 ^ 8) (h2 : 2 ≤ size) (h3 : size ≤ 2 ^ 60) : l_track_ok d size ∧ TrV size (l_track d size).1 ∧ Dk (n + 40) (l_track d size).2 := by
  have hm := oneF_mem d (its := [(1 : Int), 3, 6, 10, 2 * size]) (by simp)
  have hq := h.one [(1 : Int), 3, 6, 10, 2 * size]
  generalize hqd : oneF d [(1 : Int), 3, 6, 10, 2 * size] = q at hm hq
  have hw : 1 ≤ q.1 ∧ q.1 ≤ 2 ^ 62 := by simp at hm; omega
  obtain ⟨w1, w2, w3⟩ := wh_inv (c := l_track_w0_c size q.1) (cok := l_track_w0_cok size q.1) (ok := l_track_w0_ok size q.1) (f := l_track_w0 size q.1)
    (fun s => s.2.1.Pairwise (· < ·) ∧ (∀ b ∈ s.2.1, 1 ≤ b ∧ b < size ∧ b ≤ s.2.2) ∧ 0 ≤ s.2.2 ∧ s.2.1.length ≤ 24 ∧ Dk (n + 1 + s.2.1.length + (if s.2.2 < size then 0 else 1)) s.1)
    (fun s => if s.2.2 < size then 26 - s.2.1.length else 0) (fun s ⟨i1, i2, i3, i4, i5⟩ => by
      refine ⟨trivial, fun hc => ?_⟩
      have hc' : s.2.2 + 1 < size ∧ (s.2.1.length : Int) < 24 := by simpa [l_track_w0_c] using hc
      have hlt : s.2.2 < size := by omega
      rw [if_pos hlt] at i5
      have hd := drawF_lt s.1 (show 0 < q.1 by omega)
      have hk := i5.draw q.1
      refine ⟨⟨i5.dr (by omega) (by omega) hw.2, fun _ => ⟨by omega, trivial⟩, trivial⟩, ?_⟩
      by_cases hb : s.2.2 + 1 + (drawF s.1 q.1).1 < size
      · have e : l_track_w0 size q.1 s = ((drawF s.1 q.1).2, s.2.1 ++ [s.2.2 + 1 + (drawF s.1 q.1).1], s.2.2 + 1 + (drawF s.1 q.1).1) := by simp [l_track_w0, hb]
        rw [e]
        refine ⟨⟨?_, ?_, by simp only; omega, by simp; omega, ?_⟩, ?_⟩
        · refine List.pairwise_append.mpr ⟨i1, by simp, fun a ha b hb => ?_⟩
          simp at hb; subst hb
          have := i2 a ha; omega
        · intro b hb2
          simp only [List.mem_append, List.mem_singleton] at hb2
          rcases hb2 with hb2 | rfl
          · have := i2 b hb2; simp only; omega
          · simp only; omega
        · simp only [List.length_append, List.length_singleton]
          rw [if_pos hb]
          exact hk.mono (by simp; omega)
        · simp only [List.length_append, List.length_singleton]
          rw [if_pos hb, if_pos hlt]; omega
      · have e : l_track_w0 size q.1 s = ((drawF s.1 q.1).2, s.2.1, s.2.2 + 1 + (drawF s.1 q.1).1) := by simp [l_track_w0, hb]
        rw [e]
        refine ⟨⟨i1, fun b hb2 => by have := i2 b hb2; simp only; omega, by simp only; omega, i4, ?_⟩, ?_⟩
        · simp only
          rw [if_neg hb]
          exact hk.mono (by omega)
        · simp only
          rw [if_neg hb, if_pos hlt]; omega)
    fu (q.2, [], 0) (by rw [fu_big]; simp only; split <;> simp) ⟨by simp, by simp, by simp, by simp, by simp only [List.length_nil]; rw [if_pos (by omega)]; exact hq.mono (by omega)⟩
  generalize hst : whG (l_track_w0_c size q.1) (l_track_w0 size q.1) fu (q.2, [], 0) = st at w2
  obtain ⟨i1, i2, i3, i4, i5⟩ := w2
  have k5 : Dk (n + 30) st.1 := i5.mono (by split <;> omega)
  have hd1 := drawF_lt st.1 (show (0 : Int) < 3 by omega)
  have k6 := k5.draw 3
  have hd2 := drawF_lt (drawF st.1 3).2 (show (0 : Int) < 3 by omega)
  have k7 := k6.draw 3
  -- what is left
  have hfin : ∀ (s2 : Deck × List Int), s2 = (if (decide ((drawF st.1 3).1 = 0)) = true then ((drawF (drawF st.1 3).2 3).2, cutF st.2.1 (some (drawF (drawF st.1 3).2 3).1) none) else ((drawF st.1 3).2, st.2.1)) → Dk (n + 32) s2.1 ∧ TrOk size s2.2 := by
    rintro s2 rfl
    split
    · refine ⟨k7.mono (by omega), ?_⟩
      simp only
      rw [cut_n _ hd2.1]
      exact ⟨i1.sublist (List.drop_sublist _ _), fun b hb => by have := i2 b (List.mem_of_mem_drop hb); omega, by simp; omega⟩
    · exact ⟨k6.mono (by omega), i1, fun b hb => by have := i2 b hb; omega, i4⟩
  obtain ⟨f1, f2⟩ := hfin _ rfl
  generalize hs2 : (if (decide ((drawF st.1 3).1 = 0)) = true then ((drawF (drawF st.1 3).2 3).2, cutF st.2.1 (some (drawF (drawF st.1 3).2 3).1) none) else ((drawF st.1 3).2, st.2.1)) = s2 at f1 f2
  have hd3 := drawF_lt s2.1 (show (0 : Int) < 2 by omega)
  have e : l_track d size = (((drawF s2.1 2).1, s2.2), (drawF s2.1 2).2) := by
    rw [l_track_eq]
    unfold l_track_b
    simp only [hqd, hst]
    rw [← hs2]
  rw [e]
  refine ⟨⟨⟨h.ok (by omega), by simp, by simp⟩, ?_⟩, ⟨hd3, f2⟩, (f1.draw 2).mono (by omega)⟩
  simp only [hqd, hst]
  refine ⟨w1, k5.dr (by omega) (by omega) (by omega), fun _ => ⟨k6.dr (by omega) (by omega) (by omega), trivial⟩, ?_⟩
  rw [hs2]
  exact ⟨f1.dr (by omega) (by omega) (by omega), trivial⟩
/-! ### drawn discs -/
structure DiscOk (d : DiT) : Prop where
  sz : 2 ≤ d.1
  sz2 : d.1 ≤ 2 ^ 24
  trk : ∀ t ∈ d.2.1, TrV d.1 t
  tfew : 1 ≤ d.2.1.length ∧ d.2.1.length ≤ 5
  sfew : 1 ≤ d.2.2.length ∧ d.2.2.length ≤ 6
  sen : ∀ s ∈ d.2.2, 0 ≤ s.1 ∧ s.1 < d.2.1.length ∧ 0 ≤ s.2.1 ∧ s.2.1 < d.1 ∧ s.2.1 ≤ s.2.2 ∧ s.2.2 - s.2.1 + 1 ≤ shN d.1 (ixF d.2.1 s.1).2
theorem disc_v {n : Int} {d : Deck} {most many wide : Int} (h : Dk n d) (hn : n ≤ 10 ^ 7) (h1 : 2 ≤ most) (h2 : most ≤ 2 ^ 24) (h3 : 1 ≤ many) (h4 : many ≤ 6) (h5 : 1 ≤ wide) :
    l_disc_ok d most many wide ∧ DiscOk (l_disc d most many wide).1 ∧ Dk (n + 200) (l_disc d most many wide).2 ∧ (l_disc d most many wide).1.1 ≤ most ∧ ((l_disc d most many wide).1.2.2.length : Int) ≤ many ∧ (l_disc d most many wide).1.2.1.length ≤ 3 ∧ ∀ s ∈ (l_disc d most many wide).1.2.2, s.2.2 - s.2.1 + 1 ≤ wide := by
  have d1 := drawF_lt d (show 0 < most - 1 by omega)
  have k1 := h.draw (most - 1)
  generalize hq1 : drawF d (most - 1) = q1 at d1 k1
  have d2 := drawF_lt q1.2 (show (0 : Int) < 3 by omega)
  have k2 := k1.draw 3
  generalize hq2 : drawF q1.2 3 = q2 at d2 k2
  obtain ⟨m1, m2, m3, m4⟩ := mapS_inv (ok := l_disc_m0_ok (2 + q1.1)) (f := l_disc_m0 (2 + q1.1)) (fun m s => Dk (n + 2 + 40 * m) s) (TrV (2 + q1.1)) (xs := rgI 0 (1 + q2.1)) (n := 0) (s := q2.2) (fun m s x h1 h2 hx hs => by
    have := len_rg 0 (1 + q2.1)
    obtain ⟨g1, g2, g3⟩ := track_v hs (by omega) (show 2 ≤ 2 + q1.1 by omega) (by omega)
    exact ⟨⟨g1, trivial⟩, g2, g3.mono (by omega)⟩) (k2.mono (by omega))
  have hlen := len_rg 0 (1 + q2.1)
  generalize hq3 : mapS (l_disc_m0 (2 + q1.1)) q2.2 (rgI 0 (1 + q2.1)) = q3 at m1 m2 m3 m4
  have k3 : Dk (n + 122) q3.2 := m3.mono (by omega)
  have d4 := drawF_lt q3.2 (show 0 < many by omega)
  have k4 := k3.draw many
  generalize hq4 : drawF q3.2 many = q4 at d4 k4
  have hlen4 := len_rg 0 (1 + q4.1)
  have hsz : ∀ j : Int, 0 ≤ j → j < q3.1.length → 1 ≤ shN (2 + q1.1) (ixF q3.1 j).2 ∧ shN (2 + q1.1) (ixF q3.1 j).2 ≤ 2 + q1.1 ∧ (ixF q3.1 j).2.length ≤ 24 := fun j j1 j2 => by
    have := m2 _ (ix_in j1 j2)
    have := shN_pos this.ok (by omega)
    exact ⟨this.1, this.2, (m2 _ (ix_in j1 j2)).ok.few⟩
  obtain ⟨f1, f2⟩ := fold_inv (ok := l_disc_l1_ok wide (2 + q1.1) q3.1) (f := l_disc_l1 wide (2 + q1.1) q3.1)
    (fun m s => Dk (n + 123 + 3 * m) s.1 ∧ s.2.length = m ∧ ∀ z ∈ s.2, 0 ≤ z.1 ∧ z.1 < q3.1.length ∧ 0 ≤ z.2.1 ∧ z.2.1 < 2 + q1.1 ∧ z.2.1 ≤ z.2.2 ∧ z.2.2 - z.2.1 + 1 ≤ shN (2 + q1.1) (ixF q3.1 z.1).2 ∧ z.2.2 - z.2.1 + 1 ≤ wide) (xs := rgI 0 (1 + q4.1)) (n := 0) (s := (q4.2, [])) (fun m s x a1 a2 hx ⟨i1, i2, i3⟩ => by
      have e1 := drawF_lt s.1 (show (0 : Int) < (q3.1.length : Int) by omega)
      have c1 := i1.draw (q3.1.length : Int)
      generalize hr1 : drawF s.1 (q3.1.length : Int) = r1 at e1 c1
      have e2 := drawF_lt r1.2 (show 0 < 2 + q1.1 by omega)
      have c2 := c1.draw (2 + q1.1)
      generalize hr2 : drawF r1.2 (2 + q1.1) = r2 at e2 c2
      have hz := hsz r1.1 e1.1 e1.2
      have hmo : 1 ≤ min2F wide (l_shortest (2 + q1.1) (ixF q3.1 r1.1)) ∧ min2F wide (l_shortest (2 + q1.1) (ixF q3.1 r1.1)) ≤ shN (2 + q1.1) (ixF q3.1 r1.1).2 ∧ min2F wide (l_shortest (2 + q1.1) (ixF q3.1 r1.1)) ≤ wide := by
        rw [min2_eq, shortest_eq]; omega
      generalize hmore : min2F wide (l_shortest (2 + q1.1) (ixF q3.1 r1.1)) = more at hmo
      have e3 := drawF_lt r2.2 (show 0 < more by omega)
      have c3 := c2.draw more
      have ef : l_disc_l1 wide (2 + q1.1) q3.1 s x = ((drawF r2.2 more).2, s.2 ++ [(r1.1, r2.1, r2.1 + (drawF r2.2 more).1)]) := by
        unfold l_disc_l1
        simp only [hr1, hr2, hmore]
      refine ⟨?_, ?_⟩
      · unfold l_disc_l1_ok
        simp only [hr1, hr2, hmore]
        exact ⟨i1.dr (by omega) (by omega) (by omega), c1.dr (by omega) (by omega) (by omega), (ix_nat e1.1 e1.2).1, shortest_ok (by omega) (by omega), c2.dr (by omega) (by omega) (by omega), by omega, trivial⟩
      · rw [ef]
        refine ⟨c3.mono (by simp; omega), by simp [i2], fun z hz' => ?_⟩
        simp only [List.mem_append, List.mem_singleton] at hz'
        rcases hz' with hz' | rfl
        · exact i3 z hz'
        · simp only; omega) ⟨k4.mono (by omega), rfl, by simp⟩
  generalize hst : List.foldl (l_disc_l1 wide (2 + q1.1) q3.1) (q4.2, []) (rgI 0 (1 + q4.1)) = st at f2
  obtain ⟨f2, f3, f4⟩ := f2
  have e : l_disc d most many wide = ((2 + q1.1, q3.1, st.2), st.1) := by
    rw [l_disc_eq]
    unfold l_disc_b
    simp only [hq1, hq2, hq3, hq4, hst]
  rw [e]
  refine ⟨?_, ⟨by simp only; omega, by simp only; omega, m2, by simp only; omega, by simp only; omega, fun s hs => ?_⟩, f2.mono (by omega), by simp only; omega, by simp only; omega, by simp only; omega, fun s hs => (f4 s hs).2.2.2.2.2.2⟩
  · unfold l_disc_ok
    simp only [hq1, hq2, hq3, hq4, hst]
    refine ⟨h.dr (by omega) (by omega) (by omega), k1.dr (by omega) (by omega) (by omega), ⟨by omega, by omega, by omega, by omega, by omega⟩, m1, k3.dr (by omega) (by omega) (by omega), ⟨by omega, by omega, by omega, by omega, by omega⟩, f1, trivial⟩
  · obtain ⟨a1, a2, a3, a4, a5, a6, a7⟩ := f4 s hs
    exact ⟨a1, a2, a3, a4, a5, a6⟩
end Q

set_option Elab.async false
set_option linter.all false
set_option maxRecDepth 100000
/-! colours, what is possible, zones -/
namespace Q
open PySem hiding Env Arg
open Dl Lf
def cnt (bs : List Int) (x : Int) : Int := ((bs.filter fun b => decide (b ≤ x)).length : Int)
def colN (t : TrT) (x : Int) : Int := (t.1 + cnt t.2 x) % 2
/-- the colour of any cell -/
def cc (size : Int) (t : TrT) (x : Int) : Int := colN t (x % size)
theorem colN_bd (t : TrT) (x : Int) : colN t x = 0 ∨ colN t x = 1 := by unfold colN; omega
theorem cc_bd (size : Int) (t : TrT) (x : Int) : cc size t x = 0 ∨ cc size t x = 1 := colN_bd _ _
theorem colour_at (d : DiT) (tr cell : Int) : colour d tr cell = cc d.1 (ixF d.2.1 tr) cell := by
  rw [colour_eq]
  unfold colour_b cc colN cnt
  simp
theorem cells_at (size : Int) (t : TrT) : l_cells size t = (rgI 0 size).map (colN t) := by
  rw [l_cells_eq]
  have : l_cells_l0 t = fun st y => st ++ [colN t y] := by
    funext st y
    unfold l_cells_l0 colN cnt
    simp
  unfold l_cells_b
  simp only [this, foldl_app, List.nil_append]
theorem cells_ok {size : Int} {t : TrT} (h0 : 0 ≤ size) (h1 : size ≤ 2 ^ 24) : l_cells_ok size t := by
  refine ⟨⟨by omega, by omega, by omega, by omega, by omega⟩, ?_, trivial⟩
  refine foldOk_app (g := colN t) (N := 16777216) (fun st y => by unfold l_cells_l0 colN cnt; simp) (fun y _ st hs => ⟨hs, trivial⟩) ?_
  rw [len_rg]
  simp
  omega
theorem cnt_step {x : Int} : ∀ {bs : List Int}, bs.Nodup → cnt bs x = cnt bs (x - 1) + (if x ∈ bs then 1 else 0)
  | [], _ => by simp [cnt]
  | b :: bs, h => by
    obtain ⟨h1, h2⟩ := List.nodup_cons.mp h
    have ih := cnt_step (x := x) h2
    unfold cnt at *
    by_cases e : x = b
    · subst e
      rw [if_neg h1] at ih
      simp only [List.filter_cons, List.mem_cons, true_or, if_true]
      rw [if_pos (by simp), if_neg (by simp; omega)]
      simp only [List.length_cons]
      omega
    · have e2 : (x ∈ b :: bs) ↔ x ∈ bs := by simp [e]
      simp only [List.filter_cons, e2]
      by_cases hb : b ≤ x
      · rw [if_pos (by simpa using hb), if_pos (by simp; omega)]
        simp only [List.length_cons]
        omega
      · rw [if_neg (by simpa using hb), if_neg (by simp; omega)]
        exact ih
theorem cnt_low {bs : List Int} {x : Int} (h : ∀ b ∈ bs, x < b) : cnt bs x = 0 := by
  unfold cnt
  rw [List.filter_eq_nil_iff.mpr (fun b hb => by have := h b hb; simp; omega)]
  rfl
theorem cnt_high {bs : List Int} {x : Int} (h : ∀ b ∈ bs, b ≤ x) : cnt bs x = bs.length := by
  unfold cnt
  rw [List.filter_eq_self.mpr (fun b hb => by have := h b hb; simpa using this)]
/-- colours change just at borders -/
theorem cc_step {size : Int} {t : TrT} (h : TrV size t) (hs : 2 ≤ size) (x : Int) : cc size t x ≠ cc size t (x - 1) ↔ x % size ∈ gB t.2 := by
  have nd : t.2.Nodup := h.ok.asc.imp (fun h => by omega)
  have e0 := Int.emod_nonneg x (show size ≠ 0 by omega)
  have e1 := Int.emod_lt_of_pos x (show 0 < size by omega)
  have hf := h.fst
  unfold cc colN gB
  by_cases hx : x % size = 0
  · have hx1 : (x - 1) % size = size - 1 := by
      have : (x - 1) % size = (x % size - 1) % size := by simp
      rw [this, hx]
      rw [emod_neg_pos (by omega) (by omega)]
      omega
    rw [hx, hx1, cnt_low (fun b hb => by have := h.ok.rng b hb; omega), cnt_high (fun b hb => by have := h.ok.rng b hb; omega)]
    have hn : (0 : Int) ∉ t.2 := fun m => by have := h.ok.rng 0 m; omega
    split
    · rename_i hl
      constructor
      · intro hh; exfalso; omega
      · intro hh; exact absurd hh hn
    · rename_i hl
      constructor
      · intro _; exact List.mem_cons_self
      · intro _; omega
  · have hx1 : (x - 1) % size = x % size - 1 := by
      have : (x - 1) % size = (x % size - 1) % size := by simp
      rw [this, emod_pos (by omega) (by omega)]
    rw [hx1, cnt_step nd]
    have hm : x % size ∈ (if t.2.length % 2 = 0 then t.2 else 0 :: t.2) ↔ x % size ∈ t.2 := by
      split
      · exact Iff.rfl
      · simp [hx]
    rw [hm]
    split
    · rename_i hin
      constructor
      · intro _; exact hin
      · intro _; omega
    · rename_i hin
      constructor
      · intro hh; exfalso; exact hh (by simp)
      · intro hh; exact absurd hh hin
theorem cc_const {size : Int} {t : TrT} (h : TrV size t) (hs : 2 ≤ size) {a : Int} : ∀ (n : Nat), (∀ x, a < x → x ≤ a + n → x % size ∉ gB t.2) → cc size t (a + n) = cc size t a
  | 0, _ => by simp
  | n + 1, hx => by
    have ih := cc_const h hs (a := a) n (fun x h1 h2 => hx x h1 (by omega))
    have hn := hx (a + (n + 1 : Nat)) (by omega) (by omega)
    have this : ¬ (cc size t (a + (n + 1 : Nat)) ≠ cc size t (a + (n + 1 : Nat) - 1)) := fun g => hn ((cc_step h hs (a + (n + 1 : Nat))).mp g)
    have e : a + ((n + 1 : Nat) : Int) - 1 = a + n := by omega
    rw [e] at this
    rw [← ih]
    exact Classical.not_not.mp this
theorem cc_same {size : Int} {t : TrT} (h : TrV size t) (hs : 2 ≤ size) {a b : Int} (hab : a ≤ b) (hx : ∀ x, a < x → x ≤ b → x % size ∉ gB t.2) : cc size t b = cc size t a := by
  have := cc_const h hs (a := a) (b - a).toNat (fun x h1 h2 => hx x h1 (by omega))
  rw [show a + ((b - a).toNat : Int) = b by omega] at this
  exact this
theorem far {size : Int} {t : TrT} (h : TrV size t) (hs : 2 ≤ size) {x y : Int} (hxy : x < y) (hx : x % size ∈ gB t.2) (hy : y % size ∈ gB t.2) : shN size t.2 ≤ y - x := by
  have hp := shN_pos h.ok (by omega)
  have hd : (y - x) % size ≤ y - x := by
    by_cases g : y - x < size
    · rw [emod_pos (by omega) g]; omega
    · have := Int.emod_lt_of_pos (y - x) (show 0 < size by omega); omega
  by_cases e : x % size = y % size
  · have hz : (y - x) % size = 0 := by
      rw [Int.sub_emod, e]; simp
    have hdv : size ∣ (y - x) := Int.dvd_of_emod_eq_zero hz
    have := Int.le_of_dvd (by omega) hdv
    omega
  · have g := gap h.ok hx hy e
    have : (y % size - x % size) % size = (y - x) % size := by rw [← Int.sub_emod]
    rw [this] at g
    omega
/-- a range that is no longer than a stretch reads one colour, or both ends are unlike -/
theorem range_one {size : Int} {t : TrT} (h : TrV size t) (hs : 2 ≤ size) {a b : Int} (hab : a ≤ b) (hl : b - a + 1 ≤ shN size t.2) (he : cc size t a = cc size t b) {x : Int} (h1 : a ≤ x) (h2 : x ≤ b) : cc size t x = cc size t a := by
  by_cases hc : ∃ z, a < z ∧ z ≤ b ∧ z % size ∈ gB t.2
  · obtain ⟨z, z1, z2, z3⟩ := hc
    exfalso
    have u1 : ∀ w, a < w → w ≤ b → w ≠ z → w % size ∉ gB t.2 := by
      intro w w1 w2 w3 w4
      by_cases g : w < z
      · have := far h hs g w4 z3; omega
      · have := far h hs (show z < w by omega) z3 w4; omega
    have c1 := cc_same h hs (a := a) (b := z - 1) (by omega) (fun w w1 w2 => u1 w w1 (by omega) (by omega))
    have c2 := cc_same h hs (a := z) (b := b) z2 (fun w w1 w2 => u1 w (by omega) w2 (by omega))
    have := (cc_step h hs z).mpr z3
    rw [c1, ← c2] at this
    exact this he.symm
  · exact cc_same h hs h1 (fun w w1 w2 hw => hc ⟨w, w1, by omega, hw⟩)
/-! ### what is possible -/
def colsN (size : Int) (t : TrT) (low high pos : Int) : List Int := if cc size t (pos + low) = cc size t (pos + high) then [cc size t (pos + low)] else [0, 1]
theorem colours_at (d : DiT) (s : SeT) (pos : Int) : colours d s pos = colsN d.1 (ixF d.2.1 s.1) s.2.1 s.2.2 pos := by
  rw [colours_eq]
  unfold colours_b colsN
  simp only [colour_at, decide_eq_true_eq]
def polN (d : DiT) (pos : Int) : List (List Int) := d.2.2.map fun s => colsN d.1 (ixF d.2.1 s.1) s.2.1 s.2.2 pos
theorem possible_at (d : DiT) (pos : Int) : possible d pos = polN d pos := by
  rw [possible_eq]
  unfold possible_b polN
  simp only [colours_at]
theorem cols_mem {size : Int} {t : TrT} (h : TrV size t) (hs : 2 ≤ size) {low high pos : Int} (hl : low ≤ high) (hh : high - low + 1 ≤ shN size t.2) (c : Int) : c ∈ colsN size t low high pos ↔ ∃ p, low ≤ p ∧ p ≤ high ∧ cc size t (pos + p) = c := by
  unfold colsN
  split
  · rename_i he
    constructor
    · intro hc; simp at hc; exact ⟨low, by omega, hl, hc.symm⟩
    · rintro ⟨p, p1, p2, rfl⟩
      have := range_one h hs (a := pos + low) (b := pos + high) (by omega) (by omega) he (x := pos + p) (by omega) (by omega)
      simp [this]
  · rename_i he
    constructor
    · intro hc
      have b1 := cc_bd size t (pos + low)
      have b2 := cc_bd size t (pos + high)
      simp at hc
      by_cases g : cc size t (pos + low) = c
      · exact ⟨low, by omega, hl, g⟩
      · refine ⟨high, hl, by omega, ?_⟩
        rcases hc with rfl | rfl <;> omega
    · rintro ⟨p, p1, p2, rfl⟩
      have := cc_bd size t (pos + p)
      simp; exact this
theorem cols_asc (size : Int) (t : TrT) (low high pos : Int) : (colsN size t low high pos).Pairwise (· < ·) := by
  unfold colsN
  split <;> simp
theorem poss_step {d : DiT} {cs : List (List Int)} {pos : Int} (st : List (List Int)) (y : SeT) : l_possible_l0 d cs pos st y = st ++ [srtD ((rgI y.2.1 (y.2.2 + 1)).map fun s => ixF (ixF cs y.1) ((pos + s) % d.1))] := by
  unfold l_possible_l0 srtD
  rfl
theorem cells_ix {d : DiT} (h : DiscOk d) {j : Int} (h0 : 0 ≤ j) (h1 : j < d.2.1.length) (x : Int) : ixF (ixF (d.2.1.map fun t => l_cells d.1 t) j) (x % d.1) = cc d.1 (ixF d.2.1 j) x := by
  have hs := h.sz
  have e0 := Int.emod_nonneg x (show d.1 ≠ 0 by omega)
  have e1 := Int.emod_lt_of_pos x (show 0 < d.1 by omega)
  rw [ix_map _ h0 h1, cells_at, ix_map _ e0 (by rw [len_rg]; omega), ix_rg e0 e1]
  rfl
theorem sen_trk {d : DiT} (h : DiscOk d) {s : SeT} (hs : s ∈ d.2.2) : TrV d.1 (ixF d.2.1 s.1) := by
  obtain ⟨a1, a2, _⟩ := h.sen s hs
  exact h.trk _ (ix_in a1 a2)
theorem l_possible_at {d : DiT} (h : DiscOk d) (pos : Int) : l_possible d (d.2.1.map fun t => l_cells d.1 t) pos = polN d pos := by
  rw [l_possible_eq]
  unfold l_possible_b polN
  have e : ∀ (st : List (List Int)) (y : SeT), l_possible_l0 d (d.2.1.map fun t => l_cells d.1 t) pos st y = (fun st y => st ++ [srtD ((rgI y.2.1 (y.2.2 + 1)).map fun s => ixF (ixF (d.2.1.map fun t => l_cells d.1 t) y.1) ((pos + s) % d.1))]) st y := fun st y => poss_step st y
  have e2 : l_possible_l0 d (d.2.1.map fun t => l_cells d.1 t) pos = (fun st y => st ++ [srtD ((rgI y.2.1 (y.2.2 + 1)).map fun s => ixF (ixF (d.2.1.map fun t => l_cells d.1 t) y.1) ((pos + s) % d.1))]) := by funext st y; exact e st y
  simp only [e2]
  rw [foldl_app (fun y : SeT => srtD ((rgI y.2.1 (y.2.2 + 1)).map fun s => ixF (ixF (d.2.1.map fun t => l_cells d.1 t) y.1) ((pos + s) % d.1))), List.nil_append]
  refine List.map_congr_left fun s hs => ?_
  obtain ⟨a1, a2, a3, a4, a5, a6⟩ := h.sen s hs
  refine srtD_eq (cols_asc _ _ _ _ _) fun x => ?_
  rw [cols_mem (sen_trk h hs) h.sz a5 a6, List.mem_map]
  constructor
  · rintro ⟨p, p1, rfl⟩
    have := mem_rg.mp p1
    exact ⟨p, by omega, by omega, (cells_ix h a1 a2 _).symm⟩
  · rintro ⟨p, p1, p2, rfl⟩
    exact ⟨p, mem_rg.mpr ⟨p1, by omega⟩, cells_ix h a1 a2 _⟩
theorem l_possible_k {d : DiT} (h : DiscOk d) (hw : ∀ s ∈ d.2.2, s.2.2 - s.2.1 + 1 ≤ 3000) (pos : Int) : l_possible_ok d (d.2.1.map fun t => l_cells d.1 t) pos := by
  have hs := h.sz
  have hz2 := h.sz2
  refine ⟨?_, trivial⟩
  refine foldOk_app (N := 1000) (g := fun y : SeT => srtD ((rgI y.2.1 (y.2.2 + 1)).map fun s => ixF (ixF (d.2.1.map fun t => l_cells d.1 t) y.1) ((pos + s) % d.1))) (fun st y => poss_step st y) (fun y hy st hst => ?_) (by have := h.sfew; simp; omega)
  obtain ⟨a1, a2, a3, a4, a5, a6⟩ := h.sen y hy
  have hsh := shN_pos (sen_trk h hy).ok (by omega)
  have hwy := hw y hy
  refine ⟨⟨by omega, by omega, by omega, by omega, by omega⟩, fun z hz => ?_, ?_, by omega, trivial⟩
  · have e0 := Int.emod_nonneg (pos + z) (show d.1 ≠ 0 by omega)
    have e1 := Int.emod_lt_of_pos (pos + z) (show 0 < d.1 by omega)
    refine ⟨(ix_nat a1 (by simpa using a2)).1, by omega, ?_, trivial⟩
    rw [ix_map _ a1 a2, cells_at]
    exact (ix_nat e0 (by rw [List.length_map, len_rg]; omega)).1
  · simp only [List.length_map]
    rw [len_rg]
    omega
theorem colour_k {d : DiT} (h : DiscOk d) {j : Int} (h0 : 0 ≤ j) (h1 : j < d.2.1.length) (x : Int) : colour_ok d j x := ⟨(ix_nat h0 h1).1, by have := h.sz; omega, trivial⟩
theorem possible_k {d : DiT} (h : DiscOk d) (pos : Int) : possible_ok d pos := ⟨fun s hs => by
  obtain ⟨a1, a2, _⟩ := h.sen s hs
  exact ⟨⟨colour_k h a1 a2 _, colour_k h a1 a2 _, trivial⟩, trivial⟩, trivial⟩
/-! ### breaks -/
theorem br_in (d : DiT) (low high : Int) (st : List Int) (bs : List Int) : List.foldl (breaks_l1 d low high) st bs = st ++ bs.flatMap fun b => [(b - low) % d.1, (b - high) % d.1] := by
  have : breaks_l1 d low high = fun st b => st ++ [(b - low) % d.1, (b - high) % d.1] := rfl
  rw [this, foldl_flat]
def brL (d : DiT) : List Int := 0 :: d.2.2.flatMap fun s => (gB (ixF d.2.1 s.1).2).flatMap fun b => [(b - s.2.1) % d.1, (b - s.2.2) % d.1]
theorem breaks_at (d : DiT) : breaks d = srtD (brL d) := by
  rw [breaks_eq]
  unfold breaks_b srtD brL
  have : breaks_l0 d = fun st s => st ++ (gB (ixF d.2.1 s.1).2).flatMap fun b => [(b - s.2.1) % d.1, (b - s.2.2) % d.1] := by
    funext st s
    unfold breaks_l0
    simp only [br_in, going_eq]
  simp only [this, foldl_flat]
  rfl
theorem mem_br {d : DiT} {x : Int} : x ∈ breaks d ↔ x = 0 ∨ ∃ s ∈ d.2.2, ∃ b ∈ gB (ixF d.2.1 s.1).2, x = (b - s.2.1) % d.1 ∨ x = (b - s.2.2) % d.1 := by
  rw [breaks_at, srtD_mem]
  unfold brL
  simp only [List.mem_cons, List.mem_flatMap, List.not_mem_nil, or_false]
theorem breaks_k {d : DiT} (h : DiscOk d) : breaks_ok d := by
  have hs := h.sz
  have hf := h.sfew
  obtain ⟨g1, g2⟩ := fold_inv (ok := breaks_l0_ok d) (f := breaks_l0 d) (fun m st => st.length ≤ 1 + 60 * m) (xs := d.2.2) (n := 0) (s := [0]) (fun m st s m1 m2 hm hI => by
    obtain ⟨a1, a2, _⟩ := h.sen s hm
    have hv := sen_trk h hm
    have hgl := (gB_len (ixF d.2.1 s.1).2).2
    have hfew := hv.ok.few
    obtain ⟨j1, j2⟩ := fold_inv (ok := breaks_l1_ok d s.2.1 s.2.2) (f := breaks_l1 d s.2.1 s.2.2) (fun j st' => st'.length ≤ 1 + 60 * m + 2 * j) (xs := going_round (ixF d.2.1 s.1)) (n := 0) (s := st) (fun j st' b b1 b2 hb hI' => by
      rw [going_eq] at b2
      refine ⟨⟨by omega, by omega, by simp; omega, trivial⟩, ?_⟩
      have : breaks_l1 d s.2.1 s.2.2 st' b = st' ++ [(b - s.2.1) % d.1, (b - s.2.2) % d.1] := rfl
      rw [this]
      simp; omega) (by omega)
    refine ⟨⟨(ix_nat a1 a2).1, going_ok (by omega), j1, trivial⟩, ?_⟩
    have : breaks_l0 d st s = List.foldl (breaks_l1 d s.2.1 s.2.2) st (going_round (ixF d.2.1 s.1)) := rfl
    rw [this]
    rw [going_eq] at j2 ⊢
    omega) (by simp)
  refine ⟨g1, ?_, trivial⟩
  omega
theorem br_bd {d : DiT} (hs : 2 ≤ d.1) {x : Int} (hx : x ∈ breaks d) : 0 ≤ x ∧ x < d.1 := by
  rcases mem_br.mp hx with rfl | ⟨s, _, b, _, rfl | rfl⟩
  · omega
  · exact ⟨Int.emod_nonneg _ (by omega), Int.emod_lt_of_pos _ (by omega)⟩
  · exact ⟨Int.emod_nonneg _ (by omega), Int.emod_lt_of_pos _ (by omega)⟩
theorem mod_move {a b s : Int} (h0 : 0 ≤ b) (h1 : b < s) {x : Int} (hx0 : 0 ≤ x) (hx1 : x < s) (e : (x + a) % s = b) : x = (b - a) % s := by
  rw [← e]
  have : ((x + a) % s - a) % s = x % s := by
    rw [Int.sub_emod, Int.emod_emod, ← Int.sub_emod]
    congr 1
    omega
  rw [this, emod_pos hx0 hx1]
/-- nothing changes but at breaks -/
theorem pol_step {d : DiT} (h : DiscOk d) {x : Int} (h0 : 0 < x) (h1 : x < d.1) (hx : x ∉ breaks d) : polN d x = polN d (x - 1) := by
  have hs := h.sz
  unfold polN
  refine List.map_congr_left fun s hm => ?_
  have hv := sen_trk h hm
  have key : ∀ p, (p = s.2.1 ∨ p = s.2.2) → cc d.1 (ixF d.2.1 s.1) (x + p) = cc d.1 (ixF d.2.1 s.1) (x - 1 + p) := by
    intro p hp
    have e : x - 1 + p = x + p - 1 := by omega
    rw [e]
    refine Classical.not_not.mp fun hn => ?_
    have hb := (cc_step hv hs (x + p)).mp hn
    have hr := gB_rng hv.ok _ hb
    have he := mod_move hr.1 hr.2 (by omega) h1 rfl
    exact hx (mem_br.mpr (.inr ⟨s, hm, _, hb, by rcases hp with rfl | rfl; exact .inl he; exact .inr he⟩))
  unfold colsN
  rw [key _ (.inl rfl), key _ (.inr rfl)]
/-! ### rows of positions -/
section
variable {β : Type} [DecidableEq β] [Inhabited β]
/-- one position more -/
def rs (P : Int → β) (st : List (Int × Int × β)) (x : Int) : List (Int × Int × β) :=
  if ((!decide (st = [])) && (decide ((ixF st (-1)).2.2 = P x))) = true then setF st (-1) ((ixF st (-1)).1, ((ixF st (-1)).2.1 + 1), P x) else st ++ [(x, 1, P x)]
/-- a row of positions more -/
def zs (P : Int → β) (st : List (Int × Int × β)) (p : Int × Int) : List (Int × Int × β) :=
  if ((!decide (st = [])) && (decide ((ixF st (-1)).2.2 = P p.1))) = true then setF st (-1) ((ixF st (-1)).1, (p.2 - (ixF st (-1)).1), P p.1) else st ++ [(p.1, p.2 - p.1, P p.1)]
theorem rs_snoc (P : Int → β) (st : List (Int × Int × β)) (l : Int × Int × β) (x : Int) : rs P (st ++ [l]) x = if l.2.2 = P x then st ++ [(l.1, l.2.1 + 1, P x)] else st ++ [l] ++ [(x, 1, P x)] := by
  unfold rs
  rw [(ix_last st l).2, set_last]
  simp
theorem zs_snoc (P : Int → β) (st : List (Int × Int × β)) (l : Int × Int × β) (p : Int × Int) : zs P (st ++ [l]) p = if l.2.2 = P p.1 then st ++ [(l.1, p.2 - l.1, P p.1)] else st ++ [l] ++ [(p.1, p.2 - p.1, P p.1)] := by
  unfold zs
  rw [(ix_last st l).2, set_last]
  simp
def RL (P : Int → β) (n : Int) : List (Int × Int × β) := (rgI 0 n).foldl (rs P) []
theorem RL_succ (P : Int → β) {n : Int} (h : 0 ≤ n) : RL P (n + 1) = rs P (RL P n) n := by
  unfold RL
  rw [rg_snoc h, List.foldl_append]
  rfl
theorem RL_last (P : Int → β) : ∀ (n : Nat), 0 < n → ∃ (st : List (Int × Int × β)) (l : Int × Int × β), RL P n = st ++ [l] ∧ l.1 + l.2.1 = (n : Int) ∧ l.2.2 = P (n - 1) ∧ st.length + 1 ≤ n
  | 0, h => absurd h (by omega)
  | 1, _ => ⟨[], (0, 1, P 0), by
      have : RL P ((1 : Nat) : Int) = rs P (RL P 0) 0 := RL_succ P (n := 0) (by omega)
      rw [this]
      have h0 : RL P 0 = [] := by unfold RL; rw [rg_nil (by omega)]; rfl
      rw [h0]; simp [rs], by simp, by simp, by simp⟩
  | n + 2, _ => by
    obtain ⟨st, l, h1, h2, h3, h4⟩ := RL_last P (n + 1) (by omega)
    have : RL P ((n + 2 : Nat) : Int) = rs P (RL P ((n + 1 : Nat) : Int)) ((n + 1 : Nat) : Int) := by
      have := RL_succ P (n := ((n + 1 : Nat) : Int)) (by omega)
      rw [← this]
      congr 1
    rw [this, h1, rs_snoc]
    have e : ((n + 2 : Nat) : Int) - 1 = ((n + 1 : Nat) : Int) := by omega
    rw [e]
    split
    · exact ⟨st, _, rfl, by show l.1 + (l.2.1 + 1) = _; omega, rfl, by omega⟩
    · exact ⟨st ++ [l], _, rfl, by show ((n + 1 : Nat) : Int) + 1 = _; omega, rfl, by simp; omega⟩
theorem RL_zs (P : Int → β) {a : Int} (ha : 0 ≤ a) : ∀ (k : Nat), (∀ x, a ≤ x → x < a + (k + 1 : Nat) → P x = P a) → RL P (a + (k + 1 : Nat)) = zs P (RL P a) (a, a + (k + 1 : Nat))
  | 0, _ => by
    have e : a + ((0 + 1 : Nat) : Int) = a + 1 := by omega
    rw [e, RL_succ P ha]
    by_cases h0 : a = 0
    · subst h0
      have h0 : RL P 0 = [] := by unfold RL; rw [rg_nil (by omega)]; rfl
      rw [h0]
      unfold rs zs
      simp
    · obtain ⟨st, l, h1, h2, h3, h4⟩ := RL_last P a.toNat (by omega)
      rw [show ((a.toNat : Nat) : Int) = a by omega] at h1 h2
      rw [h1, rs_snoc, zs_snoc]
      simp only
      rw [show l.2.1 + 1 = a + 1 - l.1 by omega, show a + 1 - a = 1 by omega]
  | k + 1, hP => by
    have ih := RL_zs P ha k (fun x h1 h2 => hP x h1 (by omega))
    have e : a + ((k + 1 + 1 : Nat) : Int) = a + ((k + 1 : Nat) : Int) + 1 := by omega
    rw [e, RL_succ P (by omega), ih]
    have hq := hP (a + ((k + 1 : Nat) : Int)) (by omega) (by omega)
    by_cases h0 : a = 0
    · subst h0
      have h0 : RL P 0 = [] := by unfold RL; rw [rg_nil (by omega)]; rfl
      rw [h0]
      have z : ∀ p, zs P [] p = [] ++ [(p.1, p.2 - p.1, P p.1)] := fun p => by unfold zs; simp
      rw [z, z, rs_snoc]
      simp only
      rw [if_pos hq.symm, hq]
      rw [show (0 : Int) + ((k + 1 : Nat) : Int) - 0 + 1 = 0 + ((k + 1 : Nat) : Int) + 1 - 0 by omega]
    · obtain ⟨st, l, h1, h2, h3, h4⟩ := RL_last P a.toNat (by omega)
      rw [show ((a.toNat : Nat) : Int) = a by omega] at h1 h2
      rw [h1, zs_snoc, zs_snoc]
      simp only
      split
      · rw [rs_snoc]
        simp only
        rw [if_pos hq.symm, hq]
        rw [show a + ((k + 1 : Nat) : Int) - l.1 + 1 = a + ((k + 1 : Nat) : Int) + 1 - l.1 by omega]
      · rw [rs_snoc]
        simp only
        rw [if_pos hq.symm, hq]
        rw [show a + ((k + 1 : Nat) : Int) - a + 1 = a + ((k + 1 : Nat) : Int) + 1 - a by omega]
theorem zs_fold (P : Int → β) {n : Int} : ∀ (a : Int) (t : List Int), 0 ≤ a → (a :: t).Pairwise (· < ·) → (∀ x ∈ a :: t, x < n) → (∀ x, a < x → x < n → x ∉ t → P x = P (x - 1)) → List.foldl (zs P) (RL P a) (List.zip (a :: t) (t ++ [n])) = RL P n
  | a, [], h0, _, hn, hP => by
    have hlt := hn a List.mem_cons_self
    have hc : ∀ (k : Nat) (x : Int), x = a + k → x < n → P x = P a := by
      intro k
      induction k with
      | zero => intro x e _; rw [e]; simp
      | succ k ih =>
        intro x e hx
        rw [hP x (by omega) hx (by simp)]
        exact ih (x - 1) (by omega) (by omega)
    have := RL_zs P h0 (n - a - 1).toNat (fun x h1 h2 => hc (x - a).toNat x (by omega) (by omega))
    rw [show a + (((n - a - 1).toNat + 1 : Nat) : Int) = n by omega] at this
    rw [this]
    rfl
  | a, b :: t, h0, hs, hn, hP => by
    obtain ⟨h1, h2⟩ := List.pairwise_cons.mp hs
    have hab := h1 b List.mem_cons_self
    have hbn := hn b (by simp)
    have hc : ∀ (k : Nat) (x : Int), x = a + k → x < b → P x = P a := by
      intro k
      induction k with
      | zero => intro x e _; rw [e]; simp
      | succ k ih =>
        intro x e hx
        rw [hP x (by omega) (by omega) (fun m => by
          rcases List.mem_cons.mp m with rfl | m
          · omega
          · have := (List.pairwise_cons.mp h2).1 x m; omega)]
        exact ih (x - 1) (by omega) (by omega)
    have := RL_zs P h0 (b - a - 1).toNat (fun x h1 h2 => hc (x - a).toNat x (by omega) (by omega))
    rw [show a + (((b - a - 1).toNat + 1 : Nat) : Int) = b by omega] at this
    have ih := zs_fold P (n := n) b t (by omega) h2 (fun x hx => hn x (List.mem_cons_of_mem _ hx)) (fun x g1 g2 g3 => hP x (by omega) g2 (fun m => by
      rcases List.mem_cons.mp m with rfl | m
      · omega
      · exact g3 m))
    rw [List.cons_append, List.zip_cons_cons, List.foldl_cons, ← this]
    exact ih
end
theorem zones_at {d : DiT} (h : DiscOk d) : zones d = RL (polN d) d.1 := by
  have hs := h.sz
  rw [zones_eq]
  unfold zones_b
  have e : zones_l0 d = zs (polN d) := by
    funext st p
    unfold zones_l0 zs
    simp only [possible_at]
  simp only [e, cut1]
  have hb := srtD_asc (brL d)
  rw [← breaks_at] at hb
  have hm : (0 : Int) ∈ breaks d := mem_br.mpr (.inl rfl)
  have hbd : ∀ x ∈ breaks d, 0 ≤ x ∧ x < d.1 := fun x hx => br_bd hs hx
  have hst := fun x (h0 : 0 < x) (h1 : x < d.1) (hx : x ∉ breaks d) => pol_step h h0 h1 hx
  generalize breaks d = every at hb hm hbd hst
  cases every with
  | nil => cases hm
  | cons a t =>
    have ha : a = 0 := by
      rcases List.mem_cons.mp hm with e | e
      · exact e.symm
      · have := (List.pairwise_cons.mp hb).1 0 e; have := hbd a List.mem_cons_self; omega
    subst ha
    have h0 : RL (polN d) 0 = [] := by unfold RL; rw [rg_nil (by omega)]; rfl
    have := zs_fold (polN d) (n := d.1) 0 t (by omega) hb (fun x hx => (hbd x hx).2) (fun x h1 h2 h3 => hst x h1 h2 (fun m => by
      rcases List.mem_cons.mp m with rfl | m
      · omega
      · exact h3 m))
    rw [h0] at this
    simpa using this
theorem ne_last {α : Type} {st : List α} (h : (!decide (st.length = 0)) = true) : IxOk st (-1) := by
  have : st.length ≠ 0 := by simpa using h
  exact ⟨by omega, by omega⟩
theorem brL_len {d : DiT} (h : DiscOk d) : (breaks d).length ≤ 4000 := by
  have := (breaks_k h).2.1
  rw [breaks_eq]
  have hl : ∀ l : List Int, (dedupA l).length ≤ l.length := by
    intro l
    induction l with
    | nil => simp [dedupA]
    | cons a l ih => cases l with
      | nil => simp [dedupA]
      | cons b r =>
        unfold dedupA
        split
        · simp only [List.length_cons] at *; omega
        · simp only [List.length_cons] at *; omega
  have h2 : ∀ l : List Int, (srtI l).length = l.length := fun l => List.length_mergeSort l
  have := hl (srtI (List.foldl (breaks_l0 d) [0] d.2.2))
  rw [h2] at this
  have e : breaks_b d = dedupA (srtI (List.foldl (breaks_l0 d) [0] d.2.2)) := rfl
  rw [e]
  omega
theorem zones_k {d : DiT} (h : DiscOk d) : zones_ok d := by
  have hl := brL_len h
  have hz : ∀ st : List (Int × Int × List (List Int)), (!decide (st = [])) = true → IxOk st (-1) := fun st hs => ne_last (by simpa using hs)
  refine ⟨breaks_k h, by rw [cut1]; simp; omega, ?_, trivial⟩
  refine (fold_inv (fun m st => st.length ≤ m) (n := 0) (fun m st p m1 m2 _ hI => ?_) (by simp)).1
  have hm : m < 4001 := by simp only [List.length_zip] at m2; omega
  refine ⟨⟨possible_k h _, fun h1 => ⟨hz st h1, trivial⟩, fun h1 => ?_, fun _ => ⟨by omega, trivial⟩, trivial⟩, ?_⟩
  · have h2 := hz st ((Bool.and_eq_true _ _ ▸ h1 : _ ∧ _).1)
    exact ⟨h2, h2, h2, trivial⟩
  · unfold zones_l0
    simp only
    split
    · simp [setF]; omega
    · simp; omega
end Q

set_option Elab.async false
set_option linter.all false
set_option maxRecDepth 100000
/-! sizes of what is shown -/
namespace Q
open PySem hiding Env Arg
open Dl Lf
theorem sok_shw {d : PyData} (h : noS d = true) : SOk (shw d) := by
  rw [shw_eq]
  exact shown_ok d h
def NoS {α : Type} (f : α → PyData) : Prop := ∀ x, noS (f x) = true
theorem ns_I : NoS eI := fun x => by simp [noS]
theorem ns_B : NoS eB := fun x => by simp [noS]
theorem ns_all {α : Type} {f : α → PyData} (h : NoS f) (xs : List α) : noSs (xs.map f) = true := noSs_all fun x hx => by
  obtain ⟨y, _, rfl⟩ := List.mem_map.mp hx
  exact h y
theorem ns_T {α : Type} {f : α → PyData} (h : NoS f) : NoS (eT f) := fun x => by simp [noS, ns_all h x]
theorem ns_L {α : Type} {f : α → PyData} (h : NoS f) : NoS (eL f) := fun x => by simp [noS, ns_all h x]
theorem ns_P2 {α β : Type} {f : α → PyData} {g : β → PyData} (h : NoS f) (h2 : NoS g) : NoS (eP2 f g) := fun x => by simp [eP2, noS, noSs, h x.1, h2 x.2]
theorem ns_P3 {α β γ : Type} {f : α → PyData} {g : β → PyData} {k : γ → PyData} (h : NoS f) (h2 : NoS g) (h3 : NoS k) : NoS (eP3 f g k) := fun x => by simp [eP3, noS, noSs, h x.1, h2 x.2.1, h3 x.2.2]
theorem ns_L2 {α β : Type} {f : α → PyData} {g : β → PyData} (h : NoS f) (h2 : NoS g) : NoS (eL2 f g) := fun x => by simp [noS, noSs, h x.1, h2 x.2]
theorem ns_L3 {α β γ : Type} {f : α → PyData} {g : β → PyData} {k : γ → PyData} (h : NoS f) (h2 : NoS g) (h3 : NoS k) : NoS (eL3 f g k) := fun x => by simp [noS, noSs, h x.1, h2 x.2.1, h3 x.2.2]
theorem ns_O {α : Type} {f : α → PyData} (h : NoS f) : NoS (eO f) := fun x => by
  cases x with
  | none => simp [noS]
  | some y => exact h y
theorem NoS.ok {α : Type} {f : α → PyData} (h : NoS f) (x : α) : SOk (shw (f x)) := sok_shw (h x)
/-! ### small -/
theorem sm_I {i : Int} (h : -(2 ^ 63) < i) (h' : i < 2 ^ 63) : Sml 0 65 (eI i) := sml_int (by omega) (by omega)
theorem sm_T {α : Type} {f : α → PyData} {n w m : Nat} {xs : List α} (h : ∀ x ∈ xs, Sml n w (f x)) (hm : xs.length ≤ m) : Sml (n + 1) (m * (w + 1)) (eT f xs) := by
  have := sml_tup (n := n) (w := w) (xs := xs.map f) (fun x hx => by obtain ⟨y, hy, rfl⟩ := List.mem_map.mp hx; exact h y hy)
  exact this.mono (Nat.le_refl _) (by rw [List.length_map]; exact Nat.mul_le_mul_right _ hm)
theorem sm_L {α : Type} {f : α → PyData} {n w m : Nat} {xs : List α} (h : ∀ x ∈ xs, Sml n w (f x)) (hm : xs.length ≤ m) : Sml (n + 1) (m * (w + 1)) (eL f xs) := by
  have := sml_lst (n := n) (w := w) (xs := xs.map f) (fun x hx => by obtain ⟨y, hy, rfl⟩ := List.mem_map.mp hx; exact h y hy)
  exact this.mono (Nat.le_refl _) (by rw [List.length_map]; exact Nat.mul_le_mul_right _ hm)
theorem sml_list2 {n w : Nat} {a b : PyData} (ha : Sml n w a) (hb : Sml n w b) : (Sml (n + 1) (2 * (w + 1)) (.list [a, b])) ∧ (Sml (n + 1) (2 * (w + 1)) (.tuple [a, b])) := by
  have : ∀ x ∈ [a, b], Sml n w x := fun x hx => by
    simp at hx
    rcases hx with rfl | rfl
    · exact ha
    · exact hb
  exact ⟨sml_lst this, sml_tup this⟩
theorem sml_list3 {n w : Nat} {a b c : PyData} (ha : Sml n w a) (hb : Sml n w b) (hc : Sml n w c) : (Sml (n + 1) (3 * (w + 1)) (.list [a, b, c])) ∧ (Sml (n + 1) (3 * (w + 1)) (.tuple [a, b, c])) := by
  have : ∀ x ∈ [a, b, c], Sml n w x := fun x hx => by
    simp at hx
    rcases hx with rfl | rfl | rfl
    · exact ha
    · exact hb
    · exact hc
  exact ⟨sml_lst this, sml_tup this⟩
theorem sm_rp {n w : Nat} {d : PyData} (h : Sml n w d) (hn : n ≤ 64) (hw : w ≤ 240000) : RpOk d := h.repr hn hw
abbrev eDisc : DiT → PyData := eP3 eI (eT (eP2 eI (eT eI))) (eT (eP3 eI eI eI))
theorem ns_disc : NoS eDisc := ns_P3 ns_I (ns_T (ns_P2 ns_I (ns_T ns_I))) (ns_T (ns_P3 ns_I ns_I ns_I))
theorem disc_sm {d : DiT} (h : DiscOk d) : Sml 4 60003 (eDisc d) := by
  have hs := h.sz
  have hs2 := h.sz2
  have h1 : Sml 3 (5 * 3403) (eT (eP2 eI (eT eI)) d.2.1) := sm_T (n := 2) (w := 3402) (fun t ht => by
    have hv := h.trk t ht
    have hf := hv.fst
    have hb : Sml 1 (24 * 66) (eT eI t.2) := sm_T (n := 0) (w := 65) (fun b hb => by have := hv.ok.rng b hb; exact sm_I (by omega) (by omega)) hv.ok.few
    exact ((sml_list2 ((sm_I (i := t.1) (by omega) (by omega)).mono (n' := 1) (w' := 1700) (by omega) (by omega)) (hb.mono (by omega) (by omega))).2)) h.tfew.2
  have h2 : Sml 2 (6 * 199) (eT (eP3 eI eI eI) d.2.2) := sm_T (n := 1) (w := 198) (fun s hs' => by
    obtain ⟨a1, a2, a3, a4, a5, a6⟩ := h.sen s hs'
    have := shN_pos (sen_trk h hs').ok (by omega)
    have := h.tfew
    exact (sml_list3 (sm_I (i := s.1) (by omega) (by omega)) (sm_I (i := s.2.1) (by omega) (by omega)) (sm_I (i := s.2.2) (by omega) (by omega))).2) h.sfew.2
  exact ((sml_list3 (n := 3) (w := 20000) ((sm_I (i := d.1) (by omega) (by omega)).mono (by omega) (by omega)) (h1.mono (by omega) (by omega)) (h2.mono (by omega) (by omega))).2)
theorem disc_rp {d : DiT} (h : DiscOk d) : RpOk (eDisc d) := sm_rp (disc_sm h) (by omega) (by omega)
theorem disc_so (d : DiT) : SOk (shw (eDisc d)) := ns_disc.ok d
/-! colours that can be read -/
theorem pol_sm {d : DiT} (h : DiscOk d) (pos : Int) : Sml 2 (6 * 133) (eT (eT eI) (polN d pos)) := sm_T (n := 1) (w := 132) (fun l hl => by
  unfold polN at hl
  obtain ⟨s, hs, rfl⟩ := List.mem_map.mp hl
  refine sm_T (n := 0) (w := 65) (m := 2) (fun c hc => ?_) ?_
  · have : c = 0 ∨ c = 1 := by
      unfold colsN at hc
      split at hc
      · simp at hc; rw [hc]; exact cc_bd _ _ _
      · simpa using hc
    exact sm_I (by omega) (by omega)
  · unfold colsN
    split <;> simp) (by unfold polN; rw [List.length_map]; exact h.sfew.2)
end Q

set_option Elab.async false
set_option linter.all false
set_option maxRecDepth 100000
/-! great discs; what is a disc; wider -/
namespace Q
open PySem hiding Env Arg
open Dl Lf
theorem dedup_len : ∀ l : List Int, (dedupA l).length ≤ l.length
  | [] => by simp [dedupA]
  | [a] => by simp [dedupA]
  | a :: b :: r => by
    have := dedup_len (b :: r)
    unfold dedupA
    split
    · simp only [List.length_cons] at *; omega
    · simp only [List.length_cons] at *; omega
theorem srtD_len (l : List Int) : (srtD l).length ≤ l.length := by
  have := dedup_len (srtI l)
  have h2 : (srtI l).length = l.length := List.length_mergeSort l
  unfold srtD
  omega
theorem great_v {n : Int} {d : Deck} {many : Int} (h : Dk n d) (hn : n ≤ 10 ^ 7) (h3 : 1 ≤ many) (h4 : many ≤ 6) :
    l_great_ok d many ∧ DiscOk (l_great d many).1 ∧ Dk (n + 200) (l_great d many).2 ∧ 1000 ≤ (l_great d many).1.1 ∧ (l_great d many).1.1 ≤ 1000000 ∧ ((l_great d many).1.2.2.length : Int) ≤ many ∧ (l_great d many).1.2.1.length ≤ 3 ∧ ∀ t ∈ (l_great d many).1.2.1, t.2.length ≤ 8 := by
  have d1 := drawF_lt d (show (0 : Int) < 999001 by omega)
  have k1 := h.draw 999001
  generalize hq1 : drawF d 999001 = q1 at d1 k1
  have d2 := drawF_lt q1.2 (show (0 : Int) < 3 by omega)
  have k2 := k1.draw 3
  generalize hq2 : drawF q1.2 3 = q2 at d2 k2
  have hlen := len_rg 0 (1 + q2.1)
  obtain ⟨t1, t2⟩ := fold_inv (ok := l_great_l0_ok (1000 + q1.1)) (f := l_great_l0 (1000 + q1.1)) (fun m s => Dk (n + 2 + 11 * m) s.1 ∧ s.2.length = m ∧ ∀ t ∈ s.2, TrV (1000 + q1.1) t ∧ t.2.length ≤ 8) (xs := rgI 0 (1 + q2.1)) (n := 0) (s := (q2.2, [])) (fun m s x a1 a2 hx ⟨i1, i2, i3⟩ => by
    have e1 := drawF_lt s.1 (show (0 : Int) < 9 by omega)
    have c1 := i1.draw 9
    generalize hr1 : drawF s.1 9 = r1 at e1 c1
    have hl1 := len_rg 0 r1.1
    obtain ⟨m1, m2, m3, m4⟩ := mapS_inv (ok := l_great_m1_ok (1000 + q1.1)) (f := l_great_m1 (1000 + q1.1)) (fun j s' => Dk (n + 3 + 11 * m + j) s') (fun b => 1 ≤ b ∧ b < 1000 + q1.1) (xs := rgI 0 r1.1) (n := 0) (s := r1.2) (fun j s' x b1 b2 hx' hs' => by
      have g1 := drawF_lt s' (show 0 < 1000 + q1.1 - 1 by omega)
      refine ⟨⟨hs'.dr (by omega) (by omega) (by omega), trivial⟩, ?_, (hs'.draw _).mono (by omega)⟩
      show 1 ≤ 1 + (drawF s' (1000 + q1.1 - 1)).1 ∧ 1 + (drawF s' (1000 + q1.1 - 1)).1 < 1000 + q1.1
      omega) (c1.mono (by omega))
    generalize hr2 : mapS (l_great_m1 (1000 + q1.1)) r1.2 (rgI 0 r1.1) = r2 at m1 m2 m3 m4
    have k5 : Dk (n + 11 + 11 * m) r2.2 := m3.mono (by omega)
    have e2 := drawF_lt r2.2 (show (0 : Int) < 2 by omega)
    have k6 := k5.draw 2
    have ef : l_great_l0 (1000 + q1.1) s x = ((drawF r2.2 2).2, s.2 ++ [((drawF r2.2 2).1, srtD r2.1)]) := by
      unfold l_great_l0
      simp only [hr1, hr2]
      rfl
    have hln := srtD_len r2.1
    refine ⟨?_, ?_⟩
    · unfold l_great_l0_ok
      simp only [hr1, hr2]
      exact ⟨i1.dr (by omega) (by omega) (by omega), ⟨by omega, by omega, by omega, by omega, by omega⟩, m1, k5.dr (by omega) (by omega) (by omega), by omega, by omega, trivial⟩
    · rw [ef]
      refine ⟨k6.mono (by simp; omega), by simp [i2], fun t ht => ?_⟩
      simp only [List.mem_append, List.mem_singleton] at ht
      rcases ht with ht | rfl
      · exact i3 t ht
      · exact ⟨⟨e2, ⟨srtD_asc _, fun b hb => m2 b (srtD_mem.mp hb), by simp only; omega⟩⟩, by simp only; omega⟩) ⟨k2.mono (by omega), rfl, by simp⟩
  generalize hst1 : List.foldl (l_great_l0 (1000 + q1.1)) (q2.2, []) (rgI 0 (1 + q2.1)) = st1 at t2
  obtain ⟨t2, t3, t4⟩ := t2
  have k3 : Dk (n + 40) st1.1 := t2.mono (by omega)
  have d4 := drawF_lt st1.1 (show 0 < many by omega)
  have k4 := k3.draw many
  generalize hq4 : drawF st1.1 many = q4 at d4 k4
  have hlen4 := len_rg 0 (1 + q4.1)
  have hsz : ∀ j : Int, 0 ≤ j → j < st1.2.length → 1 ≤ shN (1000 + q1.1) (ixF st1.2 j).2 ∧ shN (1000 + q1.1) (ixF st1.2 j).2 ≤ 1000 + q1.1 ∧ (ixF st1.2 j).2.length ≤ 24 := fun j j1 j2 => by
    have := (t4 _ (ix_in j1 j2)).1
    have hp := shN_pos this.ok (by omega)
    exact ⟨hp.1, hp.2, this.ok.few⟩
  obtain ⟨f1, f2⟩ := fold_inv (ok := l_great_l2_ok (1000 + q1.1) st1.2) (f := l_great_l2 (1000 + q1.1) st1.2)
    (fun m s => Dk (n + 41 + 5 * m) s.1 ∧ s.2.length = m ∧ ∀ z ∈ s.2, 0 ≤ z.1 ∧ z.1 < st1.2.length ∧ 0 ≤ z.2.1 ∧ z.2.1 < 1000 + q1.1 ∧ z.2.1 ≤ z.2.2 ∧ z.2.2 - z.2.1 + 1 ≤ shN (1000 + q1.1) (ixF st1.2 z.1).2) (xs := rgI 0 (1 + q4.1)) (n := 0) (s := (q4.2, [])) (fun m s x a1 a2 hx ⟨i1, i2, i3⟩ => by
      have e1 := drawF_lt s.1 (show (0 : Int) < (st1.2.length : Int) by omega)
      have c1 := i1.draw (st1.2.length : Int)
      generalize hr1 : drawF s.1 (st1.2.length : Int) = r1 at e1 c1
      have e2 := drawF_lt r1.2 (show 0 < 1000 + q1.1 by omega)
      have c2 := c1.draw (1000 + q1.1)
      generalize hr2 : drawF r1.2 (1000 + q1.1) = r2 at e2 c2
      have hz := hsz r1.1 e1.1 e1.2
      have hmo : l_shortest (1000 + q1.1) (ixF st1.2 r1.1) = shN (1000 + q1.1) (ixF st1.2 r1.1).2 := shortest_eq _ _
      generalize hmore : l_shortest (1000 + q1.1) (ixF st1.2 r1.1) = more at hmo
      have e3 := drawF_lt r2.2 (show 0 < more by omega)
      have c3 := c2.draw more
      generalize hr3 : drawF r2.2 more = r3 at e3 c3
      have e4 := drawF_lt r3.2 (show 0 < more by omega)
      have c4 := c3.draw more
      generalize hr4 : drawF r3.2 more = r4 at e4 c4
      have e5 := oneF_mem r4.2 (its := [(0 : Int), r3.1, r4.1, more - 1]) (by simp)
      have c5 := c4.one [(0 : Int), r3.1, r4.1, more - 1]
      generalize hr5 : oneF r4.2 [(0 : Int), r3.1, r4.1, more - 1] = r5 at e5 c5
      have e6 : 0 ≤ r5.1 ∧ r5.1 < more := by simp at e5; omega
      have ef : l_great_l2 (1000 + q1.1) st1.2 s x = (r5.2, s.2 ++ [(r1.1, r2.1, r2.1 + r5.1)]) := by
        unfold l_great_l2
        simp only [hr1, hr2, hmore, hr3, hr4, hr5]
      refine ⟨?_, ?_⟩
      · unfold l_great_l2_ok
        simp only [hr1, hr2, hmore, hr3, hr4, hr5]
        exact ⟨i1.dr (by omega) (by omega) (by omega), c1.dr (by omega) (by omega) (by omega), (ix_nat e1.1 e1.2).1, shortest_ok (by omega) (by omega), c2.dr (by omega) (by omega) (by omega), c3.dr (by omega) (by omega) (by omega), ⟨c4.ok (by omega), by simp, by simp⟩, by omega, trivial⟩
      · rw [ef]
        refine ⟨c5.mono (by simp; omega), by simp [i2], fun z hz' => ?_⟩
        simp only [List.mem_append, List.mem_singleton] at hz'
        rcases hz' with hz' | rfl
        · exact i3 z hz'
        · simp only; omega) ⟨k4.mono (by omega), rfl, by simp⟩
  generalize hst : List.foldl (l_great_l2 (1000 + q1.1) st1.2) (q4.2, []) (rgI 0 (1 + q4.1)) = st at f2
  obtain ⟨f2, f3, f4⟩ := f2
  have e : l_great d many = ((1000 + q1.1, st1.2, st.2), st.1) := by
    rw [l_great_eq]
    unfold l_great_b
    simp only [hq1, hq2, hst1, hq4, hst]
  rw [e]
  refine ⟨?_, ⟨by simp only; omega, by simp only; omega, fun t ht => (t4 t ht).1, by simp only; omega, by simp only; omega, fun s hs => f4 s hs⟩, f2.mono (by omega), by simp only; omega, by simp only; omega, by simp only; omega, by simp only; omega, fun t ht => (t4 t ht).2⟩
  unfold l_great_ok
  simp only [hq1, hq2, hst1, hq4, hst]
  exact ⟨h.dr (by omega) (by omega) (by omega), k1.dr (by omega) (by omega) (by omega), ⟨by omega, by omega, by omega, by omega, by omega⟩, t1, k3.dr (by omega) (by omega) (by omega), ⟨by omega, by omega, by omega, by omega, by omega⟩, f1, trivial⟩
/-! ### what is a disc -/
theorem is_int (v l h : Int) : is_integer v l h = decide (l ≤ v ∧ v ≤ h) := by
  rw [is_integer_eq]
  unfold is_integer_b
  by_cases h1 : v < l
  · simp [h1]; omega
  · simp [h1]; omega
theorem is_int_n (v l : Int) : is_integer_ v l none = decide (l ≤ v) := by
  rw [is_integer__eq]
  unfold is_integer__b
  by_cases h1 : v < l
  · simp [h1]
  · simp [h1]; omega
theorem all_map {α : Type} (f : α → Bool) (xs : List α) : List.all (List.map f xs) id = true ↔ ∀ x ∈ xs, f x = true := by
  rw [List.all_map, List.all_eq_true]
  rfl
theorem asc_of {l : List Int} (h : l.Pairwise (· < ·)) : is_ascending l = true := by
  rw [is_ascending_eq]
  unfold is_ascending_b
  simp only [cut1]
  rw [all_map]
  intro p hp
  cases l with
  | nil => simp at hp
  | cons a t =>
    have key : ∀ (a : Int) (t : List Int), (a :: t).Pairwise (· < ·) → ∀ p ∈ List.zip (a :: t) t, p.1 < p.2 := by
      intro a t
      induction t generalizing a with
      | nil => intro _ p hp; simp at hp
      | cons b t ih =>
        intro h p hp
        obtain ⟨h1, h2⟩ := List.pairwise_cons.mp h
        rcases List.mem_cons.mp hp with rfl | hp
        · exact h1 b List.mem_cons_self
        · exact ih b h2 p hp
    simpa using key a t h p (by simpa using hp)
theorem is_track_v {size : Int} {t : TrT} (h : TrV size t) : is_track t size = true := by
  rw [is_track_eq]
  unfold is_track_b
  have h1 := h.fst
  have h2 := h.ok.few
  have e1 : is_integer t.1 0 1 = true := by rw [is_int]; simp; omega
  have e2 : List.all (List.map (fun y_v : Int => is_integer y_v 1 (size - 1)) t.2) id = true := by
    rw [all_map]
    intro b hb
    have := h.ok.rng b hb
    rw [is_int]; simp; omega
  have e3 := asc_of h.ok.asc
  have e4 : ¬ ((24 : Int) < (t.2.length : Int)) := by omega
  simp [e1, e2, e3, e4]
theorem sstretch_eq (size : Int) (t : TrT) : shortest_stretch size t = shN size t.2 := by
  rw [shortest_stretch_eq]
  unfold shortest_stretch_b shN difs
  simp only [going_eq, cut1, cut_1, decide_eq_true_eq]
theorem sstretch_ok {size : Int} {t : TrT} (h : t.2.length ≤ 1000) (hs : 0 < size) : shortest_stretch_ok size t := by
  refine ⟨going_ok h, fun he => ⟨?_, fun _ _ => ⟨hs, trivial⟩, ?_, trivial⟩, trivial⟩
  · rw [going_eq, cut1, cut_1]
    have := (gB_len t.2).2
    simp
    omega
  · rw [going_eq] at he
    rw [going_eq, cut1, cut_1]
    exact difs_ne (size := size) (by simpa using he)
/-- a sensor of tracks -/
def SenP (size : Int) (ts : List TrT) (s : SeT) : Prop := 0 ≤ s.1 ∧ s.1 < ts.length ∧ 0 ≤ s.2.1 ∧ s.2.1 < size ∧ s.2.1 ≤ s.2.2 ∧ s.2.2 - s.2.1 + 1 ≤ shN size (ixF ts s.1).2
theorem is_sensor_iff (s : SeT) (ts : List TrT) (size : Int) : is_sensor s ts size = true ↔ SenP size ts s := by
  rw [is_sensor_eq]
  unfold is_sensor_b SenP
  simp only [is_int, is_int_n, sstretch_eq]
  by_cases h1 : 0 ≤ s.1 ∧ s.1 ≤ (ts.length : Int) - 1
  · by_cases h2 : 0 ≤ s.2.1 ∧ s.2.1 ≤ size - 1
    · by_cases h3 : s.2.1 ≤ s.2.2
      · simp [h1, h2, h3]
        omega
      · simp [h1, h2, h3]
    · simp [h1, h2]
      omega
  · simp [h1]
    omega
theorem is_sensor_k {s : SeT} {ts : List TrT} {size : Int} (hs : 0 < size) (ht : ∀ t ∈ ts, t.2.length ≤ 1000) : is_sensor_ok s ts size := by
  refine ⟨fun _ => ⟨fun _ => ⟨trivial, trivial⟩, trivial⟩, fun h => ⟨trivial, fun _ => ⟨trivial, trivial⟩, fun _ => ?_, trivial⟩, trivial⟩
  rw [is_int] at h
  have h1 : 0 ≤ s.1 ∧ s.1 ≤ (ts.length : Int) - 1 := by simpa using h
  exact ⟨(ix_nat h1.1 (by omega)).1, sstretch_ok (ht _ (ix_in h1.1 (by omega))) hs, trivial⟩
structure TrsOk (size : Int) (ts : List TrT) : Prop where
  sz : 2 ≤ size
  sz2 : size ≤ 1000000
  trk : ∀ t ∈ ts, TrV size t
  few : 1 ≤ ts.length ∧ ts.length ≤ 5
theorem is_disc_iff {size : Int} {ts : List TrT} {ss : List SeT} (h : TrsOk size ts) : is_disc (size, ts, ss) = true ↔ (1 ≤ ss.length ∧ ss.length ≤ 6) ∧ ∀ s ∈ ss, SenP size ts s := by
  have h1 := h.sz
  have h2 := h.sz2
  have h3 := h.few
  rw [is_disc_eq]
  unfold is_disc_b
  have e1 : is_integer size 2 1000000 = true := by rw [is_int]; simp; omega
  have e2 : List.all (List.map (fun y_v : TrT => is_track y_v size) ts) id = true := by
    rw [all_map]
    exact fun t ht => is_track_v (h.trk t ht)
  have e3 : ¬ ((ts.length : Int) < 1) := by omega
  have e4 : ¬ ((5 : Int) < (ts.length : Int)) := by omega
  simp only [e1, e2, e3, e4]
  by_cases g1 : (ss.length : Int) < 1
  · simp [g1]; omega
  · by_cases g2 : (6 : Int) < (ss.length : Int)
    · simp [g1, g2]; omega
    · simp only [g1, g2]
      have e5 : (List.all (List.map (fun y_v_1 : SeT => is_sensor y_v_1 ts size) ss) id = true) ↔ ∀ s ∈ ss, SenP size ts s := by
        rw [all_map]
        exact forall_congr' fun s => forall_congr' fun _ => is_sensor_iff s ts size
      simp only [decide_false, Bool.or_false, Bool.not_true, decide_true, Bool.false_eq_true, if_false]
      rw [e5]
      constructor
      · intro hh; exact ⟨by omega, hh⟩
      · intro hh; exact hh.2
theorem is_disc_k {d : DiT} (hs : 0 < d.1) (ht : ∀ t ∈ d.2.1, t.2.length ≤ 1000) : is_disc_ok d := by
  refine ⟨fun _ => ⟨fun _ => ⟨trivial, trivial⟩, trivial⟩, fun _ => ⟨fun _ => ⟨fun t _ => ⟨⟨fun _ => ⟨fun _ => ⟨trivial, trivial⟩, trivial⟩, fun _ => ⟨fun _ => ⟨fun _ _ => ⟨trivial, trivial⟩, fun _ => ⟨trivial, trivial⟩, trivial⟩, trivial⟩, trivial⟩, trivial⟩, fun _ => ⟨fun _ => ⟨fun s _ => ⟨is_sensor_k hs ht, trivial⟩, trivial⟩, trivial⟩, trivial⟩, trivial⟩, trivial⟩
/-! ### wider -/
/-- so much that low gets from 0 on -/
def tnN (size low k : Int) : Int := if low < k then (k - low + size - 1) / size else 0
def wiS (size : Int) (s : SeT) (k : Int) : SeT := (s.1, s.2.1 - k + tnN size s.2.1 k * size, s.2.2 + k + tnN size s.2.1 k * size)
theorem widened_at (size : Int) (s : SeT) (k : Int) : widened size s k = wiS size s k := by
  rw [widened_eq]
  unfold widened_b wiS tnN
  simp
theorem tn_bd {size low k : Int} (hs : 0 < size) (h0 : 0 ≤ low) (h1 : low < size) (hk : 0 ≤ k) : 0 ≤ low - k + tnN size low k * size ∧ low - k + tnN size low k * size < size ∧ 0 ≤ tnN size low k := by
  unfold tnN
  split
  · have e := Int.emod_add_mul_ediv (k - low + size - 1) size
    have e0 := Int.emod_nonneg (k - low + size - 1) (show size ≠ 0 by omega)
    have e1 := Int.emod_lt_of_pos (k - low + size - 1) hs
    have e2 : (k - low + size - 1) / size * size = size * ((k - low + size - 1) / size) := Int.mul_comm _ _
    have e3 : 0 ≤ (k - low + size - 1) / size := Int.ediv_nonneg (by omega) (by omega)
    exact ⟨by omega, by omega, e3⟩
  · exact ⟨by omega, by omega, by omega⟩
theorem DiscOk.trs {d : DiT} (h : DiscOk d) (hz : d.1 ≤ 1000000) : TrsOk d.1 d.2.1 := ⟨h.sz, hz, h.trk, h.tfew⟩
theorem disc_of {size : Int} {ts : List TrT} {ss : List SeT} (h : TrsOk size ts) (h1 : 1 ≤ ss.length ∧ ss.length ≤ 6) (h2 : ∀ s ∈ ss, SenP size ts s) : DiscOk (size, ts, ss) :=
  ⟨h.sz, by have := h.sz2; show size ≤ 2 ^ 24; omega, h.trk, h.few, h1, h2⟩
def wiD (d : DiT) (k : Int) : DiT := (d.1, d.2.1, d.2.2.map fun s => wiS d.1 s k)
/-- whether every range has room -/
def Room (d : DiT) (k : Int) : Prop := ∀ s ∈ d.2.2, s.2.2 - s.2.1 + 1 + 2 * k ≤ shN d.1 (ixF d.2.1 s.1).2
theorem wider_at {d : DiT} (h : DiscOk d) (hz : d.1 ≤ 1000000) {k : Int} (hk : 0 ≤ k) : (Room d k → wider d k = some (wiD d k) ∧ DiscOk (wiD d k)) ∧ (¬ Room d k → wider d k = none) := by
  have hs := h.sz
  have e : wider d k = if is_disc (wiD d k) = true then some (wiD d k) else none := by
    rw [wider_eq]
    unfold wider_b wiD
    simp only [widened_at]
  have hp : (∀ s ∈ (wiD d k).2.2, SenP d.1 d.2.1 s) ↔ Room d k := by
    unfold wiD Room
    simp only [List.mem_map, forall_exists_index, and_imp, forall_apply_eq_imp_iff₂]
    refine forall_congr' fun s => forall_congr' fun hm => ?_
    obtain ⟨a1, a2, a3, a4, a5, a6⟩ := h.sen s hm
    have := tn_bd (size := d.1) (by omega) a3 a4 hk
    unfold SenP wiS
    simp only
    constructor
    · rintro ⟨_, _, _, _, _, b⟩; omega
    · intro b; exact ⟨a1, a2, this.1, this.2.1, by omega, by omega⟩
  have hl : 1 ≤ (wiD d k).2.2.length ∧ (wiD d k).2.2.length ≤ 6 := by unfold wiD; rw [List.length_map]; exact h.sfew
  have hi : is_disc (wiD d k) = true ↔ Room d k := by
    rw [← hp]
    exact (is_disc_iff (h.trs hz) (ss := (wiD d k).2.2)).trans ⟨fun g => g.2, fun g => ⟨hl, g⟩⟩
  constructor
  · intro g
    rw [e, if_pos (hi.mpr g)]
    exact ⟨rfl, disc_of (h.trs hz) hl (hp.mpr g)⟩
  · intro g
    rw [e, if_neg (fun q => g (hi.mp q))]
theorem wider_k {d : DiT} (h : DiscOk d) (k : Int) : wider_ok d k := by
  have hs := h.sz
  have hs2 := h.sz2
  have hm : ∀ i : Int, mulOk i d.1 = true := fun i => by unfold mulOk; simp; omega
  exact ⟨fun s _ => ⟨⟨fun _ => ⟨⟨by omega, by omega⟩, trivial⟩, hm _, hm _, trivial⟩, trivial⟩, is_disc_k (by show 0 < d.1; omega) (fun t ht => by have := (h.trk t ht).ok.few; omega), trivial⟩
end Q

set_option Elab.async false
set_option linter.all false
set_option maxRecDepth 100000
/-! pieces of a ring -/
namespace Q
open PySem hiding Env Arg
open Dl Lf
abbrev PiT := Int × Int
def inP (L : List PiT) (x : Int) : Prop := ∃ p ∈ L, p.1 ≤ x ∧ x < p.2
/-- ascending pieces that don't meet -/
structure PS (size : Int) (L : List PiT) : Prop where
  asc : L.Pairwise fun p q => p.2 < q.1
  ne : ∀ p ∈ L, p.1 < p.2 ∧ 0 ≤ p.1 ∧ p.2 ≤ size
theorem inP_nil {x : Int} : ¬ inP [] x := fun ⟨_, h, _⟩ => by cases h
theorem inP_app {a b : List PiT} {x : Int} : inP (a ++ b) x ↔ inP a x ∨ inP b x := by
  unfold inP
  constructor
  · rintro ⟨p, h, h2⟩
    rcases List.mem_append.mp h with h | h
    · exact .inl ⟨p, h, h2⟩
    · exact .inr ⟨p, h, h2⟩
  · rintro (⟨p, h, h2⟩ | ⟨p, h, h2⟩)
    · exact ⟨p, List.mem_append.mpr (.inl h), h2⟩
    · exact ⟨p, List.mem_append.mpr (.inr h), h2⟩
theorem inP_one {p : PiT} {x : Int} : inP [p] x ↔ p.1 ≤ x ∧ x < p.2 := by
  unfold inP
  simp
theorem ps_len {size : Int} : ∀ {L : List PiT} {a : Int}, PS size L → (∀ p ∈ L, a ≤ p.1) → a ≤ size → (L.length : Int) ≤ size - a
  | [], _, _, _, h => by simp; omega
  | p :: L, a, h, ha, hs => by
    obtain ⟨h1, h2⟩ := List.pairwise_cons.mp h.asc
    obtain ⟨g1, g2, g3⟩ := h.ne p List.mem_cons_self
    have gp := ha p List.mem_cons_self
    have := ps_len (L := L) (a := p.2) ⟨h2, fun q hq => h.ne q (List.mem_cons_of_mem _ hq)⟩ (fun q hq => by have := h1 q hq; omega) g3
    simp only [List.length_cons]
    omega
theorem PS.len {size : Int} {L : List PiT} (h : PS size L) (hs : 0 ≤ size) : (L.length : Int) ≤ size := by
  have := ps_len h (a := 0) (fun p hp => (h.ne p hp).2.1) hs
  omega
/-- a loop that only puts behind, by how long it is at the end -/
theorem foldOk_flat {α β : Type} {ok : List β → α → Prop} {f : List β → α → List β} (g : α → List β) (hf : ∀ st y, f st y = st ++ g y) {N : Nat} : ∀ {xs : List α} {s : List β}, (∀ y ∈ xs, ∀ st : List β, st.length + (g y).length ≤ N → ok st y) → (s ++ xs.flatMap g).length ≤ N → foldOk ok f s xs
  | [], _, _, _ => trivial
  | x :: xs, s, hx, h => by
    rw [List.flatMap_cons] at h
    simp only [List.length_append] at h
    refine ⟨hx x List.mem_cons_self s (by omega), ?_⟩
    rw [hf]
    exact foldOk_flat g hf (fun y hy => hx y (List.mem_cons_of_mem _ hy)) (by rw [List.length_append, List.length_append]; omega)
theorem join_snoc (st : List PiT) (l p : PiT) : joined_l0 (st ++ [l]) p = if p.1 ≤ l.2 then st ++ [(l.1, max l.2 p.2)] else st ++ [l] ++ [p] := by
  unfold joined_l0
  simp only [(ix_last st l).2, set_last, max2_eq]
  simp
theorem join_nil (p : PiT) : joined_l0 [] p = [p] := by unfold joined_l0; simp
theorem join_fold {size : Int} : ∀ (L found : List PiT), L.Pairwise (fun p q => p.1 ≤ q.1) → PS size found → (∀ p ∈ found, ∀ r ∈ L, p.1 ≤ r.1) → (∀ r ∈ L, r.1 < r.2 ∧ 0 ≤ r.1 ∧ r.2 ≤ size) → found.length + L.length ≤ 10000000 →
    foldOk joined_l0_ok joined_l0 found L ∧ PS size (L.foldl joined_l0 found) ∧ ∀ x, inP (L.foldl joined_l0 found) x ↔ inP found x ∨ inP L x
  | [], found, _, h, _, _, _ => ⟨trivial, h, fun x => by simp [inP_nil]⟩
  | p :: L, found, hl, h, hfl, hr, hn => by
    obtain ⟨l1, l2⟩ := List.pairwise_cons.mp hl
    obtain ⟨r1, r2, r3⟩ := hr p List.mem_cons_self
    simp only [List.length_cons] at hn
    have hok : joined_l0_ok found p := by
      have hi : (!decide (found = [])) = true → IxOk found (-1) := fun hs => ne_last (by simpa using hs)
      refine ⟨fun g => ⟨hi g, trivial⟩, fun g => ?_, fun _ => ⟨by omega, trivial⟩, trivial⟩
      have := hi ((Bool.and_eq_true _ _ ▸ g : _ ∧ _).1)
      exact ⟨this, this, this, trivial⟩
    have step : PS size (joined_l0 found p) ∧ (∀ x, inP (joined_l0 found p) x ↔ inP found x ∨ inP [p] x) ∧ (∀ q ∈ joined_l0 found p, ∀ r ∈ L, q.1 ≤ r.1) ∧ (joined_l0 found p).length ≤ found.length + 1 := by
      by_cases hf : found = []
      · subst hf
        rw [join_nil]
        refine ⟨⟨by simp, fun q hq => by simp at hq; subst hq; exact ⟨r1, r2, r3⟩⟩, fun x => by simp [inP_nil], fun q hq r hr' => ?_, by simp⟩
        simp at hq; subst hq; exact l1 r hr'
      · obtain ⟨st, l, rfl⟩ := snoc_of hf
        rw [join_snoc]
        have hlm : l ∈ st ++ [l] := by simp
        obtain ⟨n1, n2, n3⟩ := h.ne l hlm
        have hlp := hfl l hlm p List.mem_cons_self
        obtain ⟨s1, s2, s3⟩ := List.pairwise_append.mp h.asc
        split
        · rename_i g
          refine ⟨⟨List.pairwise_append.mpr ⟨s1, by simp, fun a ha b hb => ?_⟩, fun q hq => ?_⟩, fun x => ?_, fun q hq r hr' => ?_, by simp⟩
          · simp at hb; subst hb
            exact s3 a ha l (by simp)
          · simp only [List.mem_append, List.mem_singleton] at hq
            rcases hq with hq | rfl
            · exact h.ne q (by simp [hq])
            · simp only; omega
          · rw [inP_app, inP_app, inP_one, inP_one, inP_one]
            simp only
            constructor
            · rintro (a | a)
              · exact .inl (.inl a)
              · by_cases hx : x < l.2
                · exact .inl (.inr ⟨a.1, hx⟩)
                · exact .inr ⟨by omega, by omega⟩
            · rintro ((a | a) | a)
              · exact .inl a
              · exact .inr ⟨a.1, by omega⟩
              · exact .inr ⟨by omega, by omega⟩
          · simp only [List.mem_append, List.mem_singleton] at hq
            rcases hq with hq | rfl
            · exact hfl q (by simp [hq]) r (List.mem_cons_of_mem _ hr')
            · exact hfl l hlm r (List.mem_cons_of_mem _ hr')
        · rename_i g
          refine ⟨⟨List.pairwise_append.mpr ⟨h.asc, by simp, fun a ha b hb => ?_⟩, fun q hq => ?_⟩, fun x => ?_, fun q hq r hr' => ?_, by simp⟩
          · simp at hb; subst hb
            simp only [List.mem_append, List.mem_singleton] at ha
            rcases ha with ha | rfl
            · have := s3 a ha l (by simp); omega
            · omega
          · rcases List.mem_append.mp hq with hq | hq
            · exact h.ne q hq
            · simp at hq; subst hq; exact ⟨r1, r2, r3⟩
          · rw [inP_app]
          · rcases List.mem_append.mp hq with hq | hq
            · exact hfl q hq r (List.mem_cons_of_mem _ hr')
            · simp at hq; subst hq; exact l1 r hr'
    obtain ⟨g1, g2, g3, g4⟩ := step
    obtain ⟨i1, i2, i3⟩ := join_fold L (joined_l0 found p) l2 g1 g3 (fun r hr' => hr r (List.mem_cons_of_mem _ hr')) (by omega)
    refine ⟨⟨hok, i1⟩, i2, fun x => ?_⟩
    show inP (List.foldl joined_l0 (joined_l0 found p) L) x ↔ _
    rw [i3, g2]
    have : inP (p :: L) x ↔ inP [p] x ∨ inP L x := inP_app (a := [p])
    rw [this, or_assoc]
theorem srtP_mem {p : PiT} {L : List PiT} : p ∈ srtP L ↔ p ∈ L := List.mem_mergeSort
theorem srtP_asc (L : List PiT) : (srtP L).Pairwise fun p q => p.1 ≤ q.1 := by
  have := List.pairwise_mergeSort (le := leP) (fun a b c => by unfold leP; simp; omega) (fun a b => by unfold leP; simp; omega) L
  exact this.imp (fun h => by unfold leP at h; simp at h; omega)
theorem joined_at {size : Int} {L : List PiT} (h : ∀ r ∈ L, r.1 < r.2 ∧ 0 ≤ r.1 ∧ r.2 ≤ size) (hn : L.length ≤ 10000000) : joined_ok (srtP L) ∧ PS size (joined (srtP L)) ∧ ∀ x, inP (joined (srtP L)) x ↔ inP L x := by
  have hl : (srtP L).length = L.length := List.length_mergeSort L
  obtain ⟨a, b, c⟩ := join_fold (size := size) (srtP L) [] (srtP_asc L) ⟨by simp, fun p hp => by cases hp⟩ (fun p hp => by cases hp) (fun r hr => h r (srtP_mem.mp hr)) (by simp; omega)
  rw [joined_eq]
  refine ⟨⟨a, trivial⟩, b, fun x => ?_⟩
  show inP (List.foldl joined_l0 [] (srtP L)) x ↔ _
  rw [c]
  unfold inP
  simp [srtP_mem]
/-! ### pieces of arcs -/
def pcA (size : Int) (a : PiT) : List PiT := if size < a.1 % size + min a.2 size then [(a.1 % size, min (a.1 % size + min a.2 size) size), (0, a.1 % size + min a.2 size - size)] else [(a.1 % size, min (a.1 % size + min a.2 size) size)]
theorem pc_step (size : Int) (st : List PiT) (a : PiT) : pieces_of_l0 size st a = st ++ pcA size a := by
  unfold pieces_of_l0 pcA
  simp only [min2_eq, decide_eq_true_eq]
  split <;> simp
def inA (size : Int) (A : List PiT) (x : Int) : Prop := ∃ a ∈ A, (x - a.1) % size < min a.2 size
theorem pc_in {size : Int} (hs : 0 < size) {a : PiT} (ha : 1 ≤ a.2) {x : Int} (h0 : 0 ≤ x) (h1 : x < size) : inP (pcA size a) x ↔ (x - a.1) % size < min a.2 size := by
  have e0 := Int.emod_nonneg a.1 (show size ≠ 0 by omega)
  have e1 := Int.emod_lt_of_pos a.1 hs
  have e : (x - a.1) % size = (x - a.1 % size) % size := by rw [Int.sub_emod, Int.sub_emod x (a.1 % size), Int.emod_emod]
  rw [e]
  unfold pcA
  generalize a.1 % size = b at *
  have em : (x - b) % size = if b ≤ x then x - b else x - b + size := by
    split
    · rw [emod_pos (by omega) (by omega)]
    · rw [emod_neg_pos (by omega) (by omega)]
  rw [em]
  unfold inP
  split <;> split <;> simp <;> omega
theorem pc_ne {size : Int} (hs : 0 < size) {a : PiT} (ha : 1 ≤ a.2) : ∀ r ∈ pcA size a, r.1 < r.2 ∧ 0 ≤ r.1 ∧ r.2 ≤ size := by
  have e0 := Int.emod_nonneg a.1 (show size ≠ 0 by omega)
  have e1 := Int.emod_lt_of_pos a.1 hs
  unfold pcA
  intro r hr
  split at hr
  · simp at hr
    rcases hr with rfl | rfl <;> simp only <;> omega
  · simp at hr
    subst hr
    simp only
    omega
theorem pcA_len (size : Int) (a : PiT) : (pcA size a).length ≤ 2 := by unfold pcA; split <;> simp
theorem pieces_at {size : Int} (hs : 0 < size) {A : List PiT} (hA : ∀ a ∈ A, 1 ≤ a.2) (hn : A.length ≤ 1000000) : pieces_of_ok size A ∧ PS size (pieces_of size A) ∧ ∀ x, 0 ≤ x → x < size → (inP (pieces_of size A) x ↔ inA size A x) := by
  have e : List.foldl (pieces_of_l0 size) [] A = A.flatMap (pcA size) := by
    have : pieces_of_l0 size = fun st a => st ++ pcA size a := by funext st a; exact pc_step size st a
    rw [this, foldl_flat, List.nil_append]
  have hl : ∀ A : List PiT, (A.flatMap (pcA size)).length ≤ 2 * A.length := by
    intro A
    induction A with
    | nil => simp
    | cons a A ih =>
      have := pcA_len size a
      rw [List.flatMap_cons, List.length_append, List.length_cons]
      omega
  have hne : ∀ r ∈ A.flatMap (pcA size), r.1 < r.2 ∧ 0 ≤ r.1 ∧ r.2 ≤ size := by
    intro r hr
    obtain ⟨a, ha, hr⟩ := List.mem_flatMap.mp hr
    exact pc_ne hs (hA a ha) r hr
  have hlA := hl A
  obtain ⟨j1, j2, j3⟩ := joined_at hne (by omega)
  rw [pieces_of_eq]
  refine ⟨⟨?_, ?_⟩, ?_, ?_⟩
  · refine foldOk_flat (pcA size) (N := 10000000) (pc_step size) (fun a ha st hst => ?_) (by rw [List.nil_append]; omega)
    have hp := pc_step size st a
    unfold pieces_of_l0 at hp
    refine ⟨hs, ?_, fun g => ⟨?_, trivial⟩, trivial⟩
    · have : 1 ≤ (pcA size a).length := by unfold pcA; split <;> simp
      omega
    · have : 1 ≤ (pcA size a).length := by unfold pcA; split <;> simp
      simp
      omega
  · simp only [e]
    exact ⟨j1, trivial⟩
  · unfold pieces_of_b
    simp only [e]
    exact j2
  · intro x h0 h1
    unfold pieces_of_b
    simp only [e]
    rw [j3]
    unfold inA
    constructor
    · rintro ⟨r, hr, hx⟩
      obtain ⟨a, ha, hr⟩ := List.mem_flatMap.mp hr
      exact ⟨a, ha, (pc_in hs (hA a ha) h0 h1).mp ⟨r, hr, hx⟩⟩
    · rintro ⟨a, ha, hx⟩
      obtain ⟨r, hr, hx⟩ := (pc_in hs (hA a ha) h0 h1).mpr hx
      exact ⟨r, List.mem_flatMap.mpr ⟨a, ha, hr⟩, hx⟩
/-! ### what pieces have in common -/
def cm1 (p q : PiT) : List PiT := if max p.1 q.1 < min p.2 q.2 then [(max p.1 q.1, min p.2 q.2)] else []
theorem com_at (A B : List PiT) : common A B = A.flatMap fun p => B.flatMap (cm1 p) := by
  rw [common_eq]
  unfold common_b
  have e1 : ∀ p : PiT, common_l1 p.1 p.2 = fun st q => st ++ cm1 p q := by
    intro p
    funext st q
    unfold common_l1 cm1
    simp only [min2_eq, max2_eq, decide_eq_true_eq]
    split <;> simp
  have e2 : common_l0 B = fun st p => st ++ B.flatMap (cm1 p) := by
    funext st p
    unfold common_l0
    simp only [e1, foldl_flat]
  simp only [e2, foldl_flat, List.nil_append]
theorem com_in {A B : List PiT} {x : Int} : inP (common A B) x ↔ inP A x ∧ inP B x := by
  rw [com_at]
  unfold inP cm1
  constructor
  · rintro ⟨r, hr, hx⟩
    obtain ⟨p, hp, hr⟩ := List.mem_flatMap.mp hr
    obtain ⟨q, hq, hr⟩ := List.mem_flatMap.mp hr
    split at hr
    · simp at hr
      subst hr
      simp only at hx
      exact ⟨⟨p, hp, by omega, by omega⟩, ⟨q, hq, by omega, by omega⟩⟩
    · cases hr
  · rintro ⟨⟨p, hp, p1, p2⟩, ⟨q, hq, q1, q2⟩⟩
    refine ⟨(max p.1 q.1, min p.2 q.2), List.mem_flatMap.mpr ⟨p, hp, List.mem_flatMap.mpr ⟨q, hq, ?_⟩⟩, by simp only; omega, by simp only; omega⟩
    rw [if_pos (by omega)]
    simp
theorem com_ps {size : Int} {A B : List PiT} (ha : PS size A) (hb : PS size B) : PS size (common A B) := by
  rw [com_at]
  refine ⟨?_, fun r hr => ?_⟩
  · have inner : ∀ (p : PiT) (B : List PiT), B.Pairwise (fun p q => p.2 < q.1) → (B.flatMap (cm1 p)).Pairwise fun p q => p.2 < q.1 := by
      intro p B
      induction B with
      | nil => intro _; simp
      | cons q B ih =>
        intro h
        obtain ⟨h1, h2⟩ := List.pairwise_cons.mp h
        rw [List.flatMap_cons]
        refine List.pairwise_append.mpr ⟨by unfold cm1; split <;> simp, ih h2, fun u hu v hv => ?_⟩
        obtain ⟨q', hq', hv⟩ := List.mem_flatMap.mp hv
        have := h1 q' hq'
        unfold cm1 at hu hv
        split at hu
        · split at hv
          · simp at hu hv
            subst hu hv
            simp only
            omega
          · cases hv
        · cases hu
    have hasc := ha.asc
    clear ha
    induction A with
    | nil => simp
    | cons p A ih =>
      obtain ⟨h1, h2⟩ := List.pairwise_cons.mp hasc
      rw [List.flatMap_cons]
      refine List.pairwise_append.mpr ⟨inner p B hb.asc, ih h2, fun u hu v hv => ?_⟩
      obtain ⟨q, hq, hu⟩ := List.mem_flatMap.mp hu
      obtain ⟨p', hp', hv⟩ := List.mem_flatMap.mp hv
      obtain ⟨q', hq', hv⟩ := List.mem_flatMap.mp hv
      have := h1 p' hp'
      unfold cm1 at hu hv
      split at hu
      · split at hv
        · simp at hu hv
          subst hu hv
          simp only
          omega
        · cases hv
      · cases hu
  · obtain ⟨p, hp, hr⟩ := List.mem_flatMap.mp hr
    obtain ⟨q, hq, hr⟩ := List.mem_flatMap.mp hr
    have := ha.ne p hp
    have := hb.ne q hq
    unfold cm1 at hr
    split at hr
    · simp at hr
      subst hr
      simp only
      omega
    · cases hr
theorem com_ok {size : Int} {A B : List PiT} (ha : PS size A) (hb : PS size B) (h0 : 0 ≤ size) (h1 : size ≤ 2 ^ 24) : common_ok A B := by
  have hl := (com_ps ha hb).len h0
  rw [com_at] at hl
  have e1 : ∀ (p : PiT) st q, common_l1 p.1 p.2 st q = st ++ cm1 p q := by
    intro p st q
    unfold common_l1 cm1
    simp only [min2_eq, max2_eq, decide_eq_true_eq]
    split <;> simp
  have e2 : ∀ st p, common_l0 B st p = st ++ B.flatMap (cm1 p) := by
    intro st p
    unfold common_l0
    have : common_l1 p.1 p.2 = fun st q => st ++ cm1 p q := by funext st q; exact e1 p st q
    simp only [this, foldl_flat]
  refine ⟨foldOk_flat (fun p => B.flatMap (cm1 p)) (N := 2 ^ 24) e2 (fun p hp st hst => ⟨?_, trivial⟩) (by rw [List.nil_append]; omega), trivial⟩
  refine foldOk_flat (cm1 p) (N := 2 ^ 24) (e1 p) (fun q hq st' hst' => ⟨fun g => ⟨?_, trivial⟩, trivial⟩) (by rw [List.length_append]; exact hst)
  have : (max p.1 q.1 < min p.2 q.2) := by simpa [min2_eq, max2_eq] using g
  unfold cm1 at hst'
  rw [if_pos this] at hst'
  simp only [List.length_singleton] at hst'
  omega
end Q

set_option Elab.async false
set_option linter.all false
set_option maxRecDepth 100000
/-! crossings -/
namespace Q
open PySem hiding Env Arg
open Dl Lf
/-- sensor s reads another colour at seat p after the step from x -/
def Crs (d : DiT) (s : SeT) (x p : Int) : Prop := s.2.1 ≤ p ∧ p ≤ s.2.2 ∧ (x + p + 1) % d.1 ∈ gB (ixF d.2.1 s.1).2
theorem mod_back {size : Int} (z b : Int) (h0 : 0 ≤ b) (h1 : b < size) : (b + (z - z % size)) % size = b := by
  have e : z - z % size = size * (z / size) := by have := Int.emod_add_mul_ediv z size; omega
  rw [e, Int.add_mul_emod_self_left]
  exact emod_pos h0 h1
theorem crossings_eq' (d : DiT) (s : SeT) : crossings d s = (gB (ixF d.2.1 s.1).2).map fun b => (b - 1 - s.2.2, s.2.2 - s.2.1 + 1) := by
  rw [crossings_eq]
  unfold crossings_b
  simp only [going_eq]
theorem mod_eq_of {size a b : Int} (h : (a - b) % size = 0) : a % size = b % size := Int.emod_eq_emod_iff_emod_sub_eq_zero.mpr h
theorem seat_of {size x b low p : Int} (hs : 0 < size) (hb0 : 0 ≤ b) (hb1 : b < size) (h1 : low ≤ p) (h2 : p - low < size) (h : (x + p + 1) % size = b) : (b - 1 - x - low) % size = p - low := by
  have e : (b - 1 - x - low) % size = (p - low) % size := by
    refine mod_eq_of ?_
    have : b - 1 - x - low - (p - low) = -(x + p + 1 - (x + p + 1) % size) := by omega
    rw [this]
    have e2 : x + p + 1 - (x + p + 1) % size = size * ((x + p + 1) / size) := by have := Int.emod_add_mul_ediv (x + p + 1) size; omega
    rw [e2, ← Int.mul_neg]
    exact Int.mul_emod_right _ _
  rw [e]
  exact emod_pos (by omega) h2
theorem seat_back {size x b low : Int} (hb0 : 0 ≤ b) (hb1 : b < size) : (x + (low + (b - 1 - x - low) % size) + 1) % size = b := by
  have := mod_back (size := size) (-(b - 1 - x - low)) b hb0 hb1
  have e : x + (low + (b - 1 - x - low) % size) + 1 = b + ((b - 1 - x - low) % size - (b - 1 - x - low)) := by omega
  rw [e]
  have e2 : (b - 1 - x - low) % size - (b - 1 - x - low) = size * -((b - 1 - x - low) / size) := by have := Int.emod_add_mul_ediv (b - 1 - x - low) size; rw [Int.mul_neg]; omega
  rw [e2, Int.add_mul_emod_self_left]
  exact emod_pos hb0 hb1
theorem crs_in {d : DiT} (h : DiscOk d) {s : SeT} (hs : s ∈ d.2.2) {x : Int} (h0 : 0 ≤ x) (h1 : x < d.1) : inA d.1 (crossings d s) x ↔ ∃ p, Crs d s x p := by
  obtain ⟨a1, a2, a3, a4, a5, a6⟩ := h.sen s hs
  have hz := h.sz
  have hv := sen_trk h hs
  have hsh := shN_pos hv.ok (by omega)
  rw [crossings_eq']
  unfold inA Crs
  constructor
  · rintro ⟨a, ha, hx⟩
    obtain ⟨b, hb, rfl⟩ := List.mem_map.mp ha
    have hr := gB_rng hv.ok b hb
    simp only at hx
    have e0 := Int.emod_nonneg (x - (b - 1 - s.2.2)) (show d.1 ≠ 0 by omega)
    refine ⟨s.2.2 - (x - (b - 1 - s.2.2)) % d.1, by omega, by omega, ?_⟩
    have e : x + (s.2.2 - (x - (b - 1 - s.2.2)) % d.1) + 1 = b + ((x - (b - 1 - s.2.2)) - (x - (b - 1 - s.2.2)) % d.1) := by omega
    rw [e, mod_back _ _ hr.1 hr.2]
    exact hb
  · rintro ⟨p, p1, p2, p3⟩
    have hr := gB_rng hv.ok _ p3
    refine ⟨_, List.mem_map.mpr ⟨_, p3, rfl⟩, ?_⟩
    simp only
    have e : (x - ((x + p + 1) % d.1 - 1 - s.2.2)) % d.1 = s.2.2 - p := by
      have e1 : (x - ((x + p + 1) % d.1 - 1 - s.2.2)) % d.1 = (s.2.2 - p) % d.1 := by
        refine mod_eq_of ?_
        have e2 : x - ((x + p + 1) % d.1 - 1 - s.2.2) - (s.2.2 - p) = d.1 * ((x + p + 1) / d.1) := by have := Int.emod_add_mul_ediv (x + p + 1) d.1; omega
        rw [e2]
        exact Int.mul_emod_right _ _
      rw [e1]
      exact emod_pos (by omega) (by omega)
    rw [e]
    omega
theorem crossings_k {d : DiT} (h : DiscOk d) {s : SeT} (hs : s ∈ d.2.2) : crossings_ok d s ∧ pieces_of_ok d.1 (crossings d s) ∧ PS d.1 (pieces_of d.1 (crossings d s)) ∧ ∀ x, 0 ≤ x → x < d.1 → (inP (pieces_of d.1 (crossings d s)) x ↔ ∃ p, Crs d s x p) := by
  obtain ⟨a1, a2, a3, a4, a5, a6⟩ := h.sen s hs
  have hz := h.sz
  have hv := sen_trk h hs
  have hgl := (gB_len (ixF d.2.1 s.1).2).2
  have hf := hv.ok.few
  obtain ⟨p1, p2, p3⟩ := pieces_at (size := d.1) (by omega) (A := crossings d s) (fun a ha => by
    rw [crossings_eq'] at ha
    obtain ⟨b, _, rfl⟩ := List.mem_map.mp ha
    simp only; omega) (by rw [crossings_eq', List.length_map]; omega)
  exact ⟨⟨(ix_nat a1 a2).1, going_ok (by omega), trivial⟩, p1, p2, fun x x0 x1 => by rw [p3 x x0 x1]; exact crs_in h hs x0 x1⟩
/-! ### a seat -/
theorem cseat {d : DiT} (h : DiscOk d) {s : SeT} (hs : s ∈ d.2.2) (x : Int) : crossing_seat_ok d s x ∧ ((∃ p, Crs d s x p) → ∃ p, crossing_seat d s x = some p ∧ Crs d s x p) ∧ ((¬ ∃ p, Crs d s x p) → crossing_seat d s x = none) := by
  obtain ⟨a1, a2, a3, a4, a5, a6⟩ := h.sen s hs
  have hz := h.sz
  have hv := sen_trk h hs
  have hsh := shN_pos hv.ok (by omega)
  have hf := hv.ok.few
  have key : ∀ G : List Int, (∀ b ∈ G, b ∈ gB (ixF d.2.1 s.1).2) → loopOk (crossing_seat_l0_ok d x s.2.1 s.2.2) (crossing_seat_l0 d x s.2.1 s.2.2) () G ∧ ((∃ b ∈ G, s.2.1 + (b - 1 - x - s.2.1) % d.1 ≤ s.2.2) → ∃ p, loopF (crossing_seat_l0 d x s.2.1 s.2.2) () G = .rt (some p) ∧ Crs d s x p) ∧ ((¬ ∃ b ∈ G, s.2.1 + (b - 1 - x - s.2.1) % d.1 ≤ s.2.2) → loopF (crossing_seat_l0 d x s.2.1 s.2.2) () G = .nx ()) := by
    intro G
    induction G with
    | nil => exact fun _ => ⟨trivial, fun ⟨b, hb, _⟩ => (by cases hb), fun _ => rfl⟩
    | cons b G ih =>
      intro hG
      obtain ⟨i1, i2, i3⟩ := ih fun c hc => hG c (List.mem_cons_of_mem _ hc)
      have e : crossing_seat_l0 d x s.2.1 s.2.2 () b = if s.2.1 + (b - 1 - x - s.2.1) % d.1 ≤ s.2.2 then .rt (some (s.2.1 + (b - 1 - x - s.2.1) % d.1)) else .nx () := by
        unfold crossing_seat_l0
        simp
      have hok : crossing_seat_l0_ok d x s.2.1 s.2.2 () b := ⟨by omega, trivial⟩
      have hbm := hG b List.mem_cons_self
      have hr := gB_rng hv.ok b hbm
      have e0 := Int.emod_nonneg (b - 1 - x - s.2.1) (show d.1 ≠ 0 by omega)
      by_cases g : s.2.1 + (b - 1 - x - s.2.1) % d.1 ≤ s.2.2
      · rw [if_pos g] at e
        refine ⟨⟨hok, fun s' q => by rw [e] at q; cases q⟩, fun _ => ⟨_, by unfold loopF; rw [e]; rfl, by omega, g, by rw [seat_back hr.1 hr.2]; exact hbm⟩, fun q => absurd ⟨b, List.mem_cons_self, g⟩ q⟩
      · rw [if_neg g] at e
        refine ⟨⟨hok, fun s' _ => i1⟩, fun ⟨c, hc, hc2⟩ => ?_, fun q => ?_⟩
        · rcases List.mem_cons.mp hc with rfl | hc
          · exact absurd hc2 g
          · obtain ⟨p, q1, q2⟩ := i2 ⟨c, hc, hc2⟩
            exact ⟨p, by unfold loopF; rw [e]; exact q1, q2⟩
        · unfold loopF
          rw [e]
          exact i3 fun ⟨c, hc, hc2⟩ => q ⟨c, List.mem_cons_of_mem _ hc, hc2⟩
  obtain ⟨k1, k2, k3⟩ := key _ (fun _ hb => hb)
  have hex : (∃ p, Crs d s x p) ↔ ∃ b ∈ gB (ixF d.2.1 s.1).2, s.2.1 + (b - 1 - x - s.2.1) % d.1 ≤ s.2.2 := by
    constructor
    · rintro ⟨p, p1, p2, p3⟩
      have hr := gB_rng hv.ok _ p3
      exact ⟨_, p3, by rw [seat_of (by omega) hr.1 hr.2 p1 (by omega) rfl]; omega⟩
    · rintro ⟨b, hb, hb2⟩
      have hr := gB_rng hv.ok b hb
      have e0 := Int.emod_nonneg (b - 1 - x - s.2.1) (show d.1 ≠ 0 by omega)
      exact ⟨_, by omega, hb2, by rw [seat_back hr.1 hr.2]; exact hb⟩
  have hgl := (gB_len (ixF d.2.1 s.1).2).2
  refine ⟨⟨(ix_nat a1 a2).1, going_ok (by omega), by rw [going_eq]; exact k1, trivial⟩, fun g => ?_, fun g => ?_⟩
  · obtain ⟨p, q1, q2⟩ := k2 (hex.mp g)
    refine ⟨p, ?_, q2⟩
    rw [crossing_seat_eq]
    unfold crossing_seat_b
    simp only [going_eq, q1]
    rfl
  · rw [crossing_seat_eq]
    unfold crossing_seat_b
    simp only [going_eq, k3 (fun q => g (hex.mpr q))]
    rfl
/-! ### two at once -/
def Both (d : DiT) (i j : Int) (x : Int) : Prop := (∃ p, Crs d (ixF d.2.2 i) x p) ∧ ∃ p, Crs d (ixF d.2.2 j) x p
theorem ix_set_self {α : Type} [Inhabited α] {xs : List α} {i : Int} (h0 : 0 ≤ i) (h1 : i < xs.length) (y : α) : ixF (setF xs i y) i = y := by
  unfold ixF setF
  have e : ∀ l : List α, ixN l i = i.toNat := fun l => by unfold ixN; rw [if_pos h0]
  rw [e, e, List.getElem?_set_self (by omega)]
  rfl
theorem ix_set_ne {α : Type} [Inhabited α] {xs : List α} {i j : Int} (h0 : 0 ≤ i) (h1 : 0 ≤ j) (ne : i ≠ j) (y : α) : ixF (setF xs i y) j = ixF xs j := by
  unfold ixF setF
  have e : ∀ l : List α, ixN l i = i.toNat := fun l => by unfold ixN; rw [if_pos h0]
  have e' : ∀ l : List α, ixN l j = j.toNat := fun l => by unfold ixN; rw [if_pos h1]
  rw [e, e', e', List.getElem?_set_ne (by omega)]
theorem setF_len {α : Type} (xs : List α) (i : Int) (y : α) : (setF xs i y).length = xs.length := by unfold setF; simp
theorem tog {d : DiT} (h : DiscOk d) {i j : Int} (i0 : 0 ≤ i) (i1 : i < d.2.2.length) (j0 : 0 ≤ j) (j1 : j < d.2.2.length) (ne : i ≠ j) : together_ok d i j ∧
    ((∃ x, 0 ≤ x ∧ x < d.1 ∧ Both d i j x) → ∃ x p q, 0 ≤ x ∧ x < d.1 ∧ Crs d (ixF d.2.2 i) x p ∧ Crs d (ixF d.2.2 j) x q ∧ together d i j = some (x, setF (setF (d.2.2.map fun s => s.2.1) i p) j q)) ∧
    ((¬ ∃ x, 0 ≤ x ∧ x < d.1 ∧ Both d i j x) → together d i j = none) := by
  have hz := h.sz
  have hz2 := h.sz2
  have mi := ix_in i0 i1
  have mj := ix_in j0 j1
  obtain ⟨a1, a2, a3, a4⟩ := crossings_k h mi
  obtain ⟨b1, b2, b3, b4⟩ := crossings_k h mj
  have hc := com_ps a3 b3
  have hm : ∀ x, inP (common (pieces_of d.1 (crossings d (ixF d.2.2 i))) (pieces_of d.1 (crossings d (ixF d.2.2 j)))) x ↔ 0 ≤ x ∧ x < d.1 ∧ Both d i j x := by
    intro x
    constructor
    · intro hx
      obtain ⟨r, hr, r1, r2⟩ := hx
      have hn := hc.ne r hr
      have := com_in.mp ⟨r, hr, r1, r2⟩
      exact ⟨by omega, by omega, (a4 x (by omega) (by omega)).mp this.1, (b4 x (by omega) (by omega)).mp this.2⟩
    · rintro ⟨x0, x1, g1, g2⟩
      exact com_in.mpr ⟨(a4 x x0 x1).mpr g1, (b4 x x0 x1).mpr g2⟩
  have hco := com_ok a3 b3 (by omega) (by omega)
  have e : together d i j = if common (pieces_of d.1 (crossings d (ixF d.2.2 i))) (pieces_of d.1 (crossings d (ixF d.2.2 j))) = [] then none else some ((ixF (common (pieces_of d.1 (crossings d (ixF d.2.2 i))) (pieces_of d.1 (crossings d (ixF d.2.2 j)))) 0).1, List.foldl (together_l0 d (common (pieces_of d.1 (crossings d (ixF d.2.2 i))) (pieces_of d.1 (crossings d (ixF d.2.2 j))))) (d.2.2.map fun s => s.2.1) [i, j]) := by
    rw [together_eq]
    unfold together_b
    simp only [decide_eq_true_eq]
  have hpart : together_ok d i j ↔ ((common (pieces_of d.1 (crossings d (ixF d.2.2 i))) (pieces_of d.1 (crossings d (ixF d.2.2 j))) = [] → False) → foldOk (together_l0_ok d (common (pieces_of d.1 (crossings d (ixF d.2.2 i))) (pieces_of d.1 (crossings d (ixF d.2.2 j))))) (together_l0 d (common (pieces_of d.1 (crossings d (ixF d.2.2 i))) (pieces_of d.1 (crossings d (ixF d.2.2 j))))) (d.2.2.map fun s => s.2.1) [i, j] ∧ IxOk (common (pieces_of d.1 (crossings d (ixF d.2.2 i))) (pieces_of d.1 (crossings d (ixF d.2.2 j)))) 0) := by
    unfold together_ok
    simp only [decide_eq_false_iff_not]
    constructor
    · rintro ⟨_, _, _, _, _, _, _, g, _⟩ q
      obtain ⟨g1, g2, _⟩ := g q
      exact ⟨g1, g2⟩
    · intro g
      exact ⟨(ix_nat i0 i1).1, a1, a2, (ix_nat j0 j1).1, b1, b2, hco, fun q => ⟨(g q).1, (g q).2, trivial⟩, trivial⟩
  rw [hpart]
  generalize common (pieces_of d.1 (crossings d (ixF d.2.2 i))) (pieces_of d.1 (crossings d (ixF d.2.2 j))) = F at *
  by_cases hF : F = []
  · subst hF
    refine ⟨fun q => absurd rfl (fun e => q e), fun ⟨x, g⟩ => ?_, fun _ => ?_⟩
    · exact absurd ((hm x).mpr g) inP_nil
    · rw [e, if_pos rfl]
  · have hfl : (0 : Int) < F.length := by cases F with | nil => exact absurd rfl hF | cons _ _ => simp
    have hf0 := ix_in (xs := F) (i := 0) (by omega) hfl
    have hn := hc.ne _ hf0
    obtain ⟨x0, x1, g1, g2⟩ := (hm (ixF F 0).1).mp ⟨ixF F 0, hf0, by omega, by omega⟩
    obtain ⟨o1, s1, _⟩ := cseat h mi (ixF F 0).1
    obtain ⟨o2, s2, _⟩ := cseat h mj (ixF F 0).1
    obtain ⟨p, p1, p2⟩ := s1 g1
    obtain ⟨q, q1, q2⟩ := s2 g2
    have hi0 := (ix_nat (xs := F) (i := 0) (by omega) hfl).1
    have f1 : together_l0 d F (d.2.2.map fun s => s.2.1) i = setF (d.2.2.map fun s => s.2.1) i p := by unfold together_l0; simp only [p1]; rfl
    have f2 : together_l0 d F (setF (d.2.2.map fun s => s.2.1) i p) j = setF (setF (d.2.2.map fun s => s.2.1) i p) j q := by unfold together_l0; simp only [q1]; rfl
    refine ⟨fun _ => ⟨⟨⟨(ix_nat i0 i1).1, hi0, o1, by rw [p1]; rfl, (ix_nat i0 (by simpa using i1)).1, trivial⟩, ?_, trivial⟩, hi0⟩, fun _ => ⟨(ixF F 0).1, p, q, x0, x1, p2, q2, ?_⟩, fun g => absurd ⟨_, x0, x1, g1, g2⟩ g⟩
    · rw [f1]
      exact ⟨(ix_nat j0 j1).1, hi0, o2, by rw [q1]; rfl, (ix_nat j0 (by rw [setF_len]; simpa using j1)).1, trivial⟩
    · rw [e, if_neg hF]
      simp only [List.foldl_cons, List.foldl_nil, f1, f2]
end Q

set_option Elab.async false
set_option linter.all false
set_option maxRecDepth 100000
/-! arcs, as few as can be -/
namespace Q
open PySem hiding Env Arg
open Dl Lf
/-- a begins where S does and ends where S does -/
def IsArc (size : Int) (S : Int → Prop) (a : PiT) : Prop := 0 ≤ a.1 ∧ a.1 < size ∧ ¬ S ((a.1 - 1) % size) ∧ 1 ≤ a.2 ∧ (∀ j, 0 ≤ j → j < a.2 → S ((a.1 + j) % size)) ∧ ¬ S ((a.1 + a.2) % size)
/-- the arcs of S -/
def AR (size : Int) (S : Int → Prop) (A : List PiT) : Prop := ((∀ x, 0 ≤ x → x < size → S x) ∧ A = [(0, size)]) ∨ ((∃ x, 0 ≤ x ∧ x < size ∧ ¬ S x) ∧ A.Pairwise (fun a b => a.1 < b.1) ∧ ∀ a, a ∈ A ↔ IsArc size S a)
theorem arc_one {size : Int} {S : Int → Prop} {f m m' : Int} (h : IsArc size S (f, m)) (h' : IsArc size S (f, m')) : m = m' := by
  obtain ⟨_, _, _, h4, h5, h6⟩ := h
  obtain ⟨_, _, _, g4, g5, g6⟩ := h'
  simp only at *
  by_cases g : m < m'
  · exact absurd (g5 m (by omega) g) h6
  · by_cases g' : m' < m
    · exact absurd (h5 m' (by omega) g') g6
    · omega
theorem fst_eq : ∀ {A B : List PiT}, A.Pairwise (fun a b => a.1 < b.1) → B.Pairwise (fun a b => a.1 < b.1) → (∀ a, a ∈ A ↔ a ∈ B) → A = B
  | [], [], _, _, _ => rfl
  | [], y :: b, _, _, h => absurd ((h y).mpr List.mem_cons_self) (by simp)
  | x :: a, [], _, _, h => absurd ((h x).mp List.mem_cons_self) (by simp)
  | x :: a, y :: b, ha, hb, h => by
    obtain ⟨a1, a2⟩ := List.pairwise_cons.mp ha
    obtain ⟨b1, b2⟩ := List.pairwise_cons.mp hb
    have e : x = y := by
      rcases List.mem_cons.mp ((h x).mp List.mem_cons_self) with e | m
      · exact e
      · rcases List.mem_cons.mp ((h y).mpr List.mem_cons_self) with e | m2
        · exact e.symm
        · have := b1 x m; have := a1 y m2; omega
    subst e
    congr 1
    refine fst_eq a2 b2 fun z => ⟨fun m => ?_, fun m => ?_⟩
    · rcases List.mem_cons.mp ((h z).mp (List.mem_cons_of_mem _ m)) with e | m2
      · have := a1 z m; rw [e] at this; omega
      · exact m2
    · rcases List.mem_cons.mp ((h z).mpr (List.mem_cons_of_mem _ m)) with e | m2
      · have := b1 z m; rw [e] at this; omega
      · exact m2
theorem AR.uniq {size : Int} {S : Int → Prop} {A B : List PiT} (h : AR size S A) (h' : AR size S B) : A = B := by
  rcases h with ⟨h1, h2⟩ | ⟨⟨x, x0, x1, hx⟩, h2, h3⟩
  · rcases h' with ⟨_, g2⟩ | ⟨⟨x, x0, x1, hx⟩, _⟩
    · rw [h2, g2]
    · exact absurd (h1 x x0 x1) hx
  · rcases h' with ⟨g1, _⟩ | ⟨_, g2, g3⟩
    · exact absurd (g1 x x0 x1) hx
    · exact fst_eq h2 g2 fun a => (h3 a).trans (g3 a).symm
theorem AR.congr {size : Int} {S T : Int → Prop} {A : List PiT} (hs : 0 < size) (h : AR size S A) (e : ∀ x, 0 ≤ x → x < size → (S x ↔ T x)) : AR size T A := by
  have em : ∀ z : Int, S (z % size) ↔ T (z % size) := fun z => e _ (Int.emod_nonneg z (by omega)) (Int.emod_lt_of_pos z hs)
  have ea : ∀ a, IsArc size S a ↔ IsArc size T a := by
    intro a
    unfold IsArc
    constructor
    · rintro ⟨a1, a2, a3, a4, a5, a6⟩
      exact ⟨a1, a2, fun q => a3 ((em _).mpr q), a4, fun j j0 j1 => (em _).mp (a5 j j0 j1), fun q => a6 ((em _).mpr q)⟩
    · rintro ⟨a1, a2, a3, a4, a5, a6⟩
      exact ⟨a1, a2, fun q => a3 ((em _).mp q), a4, fun j j0 j1 => (em _).mpr (a5 j j0 j1), fun q => a6 ((em _).mp q)⟩
  rcases h with ⟨h1, h2⟩ | ⟨⟨x, x0, x1, hx⟩, h2, h3⟩
  · exact .inl ⟨fun x x0 x1 => (e x x0 x1).mp (h1 x x0 x1), h2⟩
  · exact .inr ⟨⟨x, x0, x1, fun q => hx ((e x x0 x1).mpr q)⟩, h2, fun a => (h3 a).trans (ea a)⟩
/-! ### of pieces -/
/-- two pieces with a place in common are the same -/
theorem ps_same {size : Int} {F : List PiT} (h : PS size F) {p q : PiT} (hp : p ∈ F) (hq : q ∈ F) {x : Int} (p1 : p.1 ≤ x) (p2 : x < p.2) (q1 : q.1 ≤ x) (q2 : x < q.2) : p = q := by
  have key : ∀ F : List PiT, F.Pairwise (fun p q => p.2 < q.1) → p ∈ F → q ∈ F → p = q ∨ p.2 < q.1 ∨ q.2 < p.1 := by
    intro F
    induction F with
    | nil => intro _ h; cases h
    | cons a F ih =>
      intro h hp hq
      obtain ⟨h1, h2⟩ := List.pairwise_cons.mp h
      rcases List.mem_cons.mp hp with e1 | hp2
      · rcases List.mem_cons.mp hq with e2 | hq2
        · exact .inl (e1.trans e2.symm)
        · exact .inr (.inl (by rw [e1]; exact h1 q hq2))
      · rcases List.mem_cons.mp hq with e2 | hq2
        · exact .inr (.inr (by rw [e2]; exact h1 p hp2))
        · exact ih h2 hp2 hq2
  rcases key F h.asc hp hq with e | e | e
  · exact e
  · omega
  · omega
/-- behind a piece there is nothing -/
theorem ps_end {size : Int} {F : List PiT} (h : PS size F) {p : PiT} (hp : p ∈ F) : ¬ inP F p.2 := by
  rintro ⟨q, hq, q1, q2⟩
  have hn := h.ne p hp
  by_cases e : q.1 ≤ p.2 - 1
  · have := ps_same h hp hq (x := p.2 - 1) (by omega) (by omega) e (by omega)
    subst this
    omega
  · have key : ∀ F : List PiT, F.Pairwise (fun p q => p.2 < q.1) → p ∈ F → q ∈ F → p = q ∨ p.2 < q.1 ∨ q.2 < p.1 := by
      intro F
      induction F with
      | nil => intro _ h; cases h
      | cons a F ih =>
        intro h hp hq
        obtain ⟨h1, h2⟩ := List.pairwise_cons.mp h
        rcases List.mem_cons.mp hp with e1 | hp2
        · rcases List.mem_cons.mp hq with e2 | hq2
          · exact .inl (e1.trans e2.symm)
          · exact .inr (.inl (by rw [e1]; exact h1 q hq2))
        · rcases List.mem_cons.mp hq with e2 | hq2
          · exact .inr (.inr (by rw [e2]; exact h1 p hp2))
          · exact ih h2 hp2 hq2
    rcases key F h.asc hp hq with e | e | e
    · subst e; omega
    · omega
    · omega
theorem ps_begin {size : Int} {F : List PiT} (h : PS size F) {p : PiT} (hp : p ∈ F) : ¬ inP F (p.1 - 1) := by
  rintro ⟨q, hq, q1, q2⟩
  have hn := h.ne p hp
  by_cases e : p.1 < q.2
  · have := ps_same h hp hq (x := p.1) (by omega) (by omega) (by omega) e
    subst this
    omega
  · have e2 : q.2 = p.1 := by omega
    exact ps_end h hq (e2 ▸ ⟨p, hp, by omega, by omega⟩)
theorem inP_bd {size : Int} {F : List PiT} (h : PS size F) {x : Int} (hx : inP F x) : 0 ≤ x ∧ x < size := by
  obtain ⟨p, hp, p1, p2⟩ := hx
  have := h.ne p hp
  omega
theorem ps_head {F : List PiT} {p : PiT} {size : Int} (h : PS size (p :: F)) : ∀ q ∈ F, p.2 < q.1 := (List.pairwise_cons.mp h.asc).1
theorem emod_succ {size x : Int} (h0 : 0 ≤ x) (h1 : x < size) : (x + 1) % size = if x + 1 = size then 0 else x + 1 := by
  split
  · rename_i e; rw [e]; simp
  · exact emod_pos (by omega) (by omega)
theorem sIx1 (n : Nat) : HT.sIx n 0 (some 1) = min 1 n := HT.sIx_nat n 0 1
theorem arcs_at {size : Int} (hs : 0 < size) (hs2 : size ≤ 2 ^ 24) {F : List PiT} (h : PS size F) : arcs_of_ok size F ∧ AR size (inP F) (arcs_of size F) := by
  have hne : F ≠ [] → IxOk F 0 ∧ IxOk F (-1) := fun hf => by
    have : 0 < F.length := List.length_pos_iff.mpr hf
    exact ⟨⟨by omega, by omega⟩, ⟨by omega, by omega⟩⟩
  have eP : ∀ F : List PiT, F.map (fun y_v : Int × Int => let first : Int := y_v.1; let end_v : Int := y_v.2; (first, (end_v - first))) = F.map fun p => (p.1, p.2 - p.1) := fun _ => rfl
  -- plain arcs: those of pieces that don't meet over the end
  have plain : ∀ p ∈ F, p.1 ≠ 0 ∨ ¬ inP F (size - 1) → p.2 ≠ size ∨ ¬ inP F 0 → (p.1 ≠ 0 ∨ p.2 ≠ size) → IsArc size (inP F) (p.1, p.2 - p.1) := by
    intro p hp c1 c2 c3
    obtain ⟨n1, n2, n3⟩ := h.ne p hp
    refine ⟨n2, by simp only; omega, ?_, by simp only; omega, fun j j0 j1 => ?_, ?_⟩
    · simp only
      by_cases g : p.1 = 0
      · rw [g]
        rw [show (0 - 1 : Int) % size = size - 1 by rw [emod_neg_pos (by omega) (by omega)]; omega]
        exact c1.resolve_left (fun q => q g)
      · rw [emod_pos (by omega) (by omega)]
        exact ps_begin h hp
    · simp only at *
      rw [emod_pos (by omega) (by omega)]
      exact ⟨p, hp, by omega, by omega⟩
    · simp only
      rw [show p.1 + (p.2 - p.1) = p.2 by omega]
      by_cases g : p.2 = size
      · rw [g]
        rw [show size % size = 0 by simp]
        exact c2.resolve_left (fun q => q g)
      · rw [emod_pos (by omega) (by omega)]
        exact ps_end h hp
  -- an arc begins where a piece does
  have begins : ∀ a, IsArc size (inP F) a → ∃ p ∈ F, p.1 = a.1 ∧ (a.1 = 0 → ¬ inP F (size - 1)) := by
    rintro a ⟨a1, a2, a3, a4, a5, a6⟩
    have := a5 0 (by omega) (by omega)
    rw [show a.1 + 0 = a.1 by omega, emod_pos a1 a2] at this
    obtain ⟨p, hp, p1, p2⟩ := this
    by_cases g : a.1 = 0
    · have hn := h.ne p hp
      rw [g, show (0 - 1 : Int) % size = size - 1 by rw [emod_neg_pos (by omega) (by omega)]; omega] at a3
      exact ⟨p, hp, by omega, fun _ => a3⟩
    · rw [emod_pos (by omega) (by omega)] at a3
      by_cases g2 : p.1 = a.1
      · exact ⟨p, hp, g2, fun e => absurd e g⟩
      · exact absurd ⟨p, hp, by omega, by omega⟩ a3
  have asc1 : ∀ G : List PiT, G.Pairwise (fun p q => p.2 < q.1) → (∀ p ∈ G, p.1 < p.2) → (G.map fun p => (p.1, p.2 - p.1)).Pairwise fun a b => a.1 < b.1 := by
    intro G hG hn
    rw [List.pairwise_map]
    exact hG.imp_of_mem fun {p q} hp hq hpq => by have := hn p hp; simp only; omega
  have hv : arcs_of size F = if ((F.length : Int) < 2 ∨ 0 < (ixF F 0).1 ∨ (ixF F (-1)).2 < size) then F.map (fun p => (p.1, p.2 - p.1)) else (cutF F (some 1) (some (-1))).map (fun p => (p.1, p.2 - p.1)) ++ [((ixF F (-1)).1, size - (ixF F (-1)).1 + (ixF F 0).2)] := by
    rw [arcs_of_eq]
    unfold arcs_of_b
    simp only [Bool.or_eq_true, decide_eq_true_eq]
  have lenF := h.len (by omega)
  constructor
  · unfold arcs_of_ok
    refine ⟨fun g => ?_, fun g => ?_, trivial⟩
    · have : ¬ (F.length : Int) < 2 := by simpa using g
      have hf := hne (by intro e; rw [e] at this; simp at this)
      exact ⟨hf.1, fun _ => ⟨hf.2, trivial⟩, trivial⟩
    · have : ¬ (F.length : Int) < 2 := by
        intro q
        simp [q] at g
      have hf := hne (by intro e; rw [e] at this; simp at this)
      refine ⟨hf.2, hf.2, hf.1, ?_, trivial⟩
      have hc : (cutF F (some 1) (some (-1))).length ≤ F.length - 1 := by
        unfold cutF
        rw [sIx1, List.length_take, List.length_drop]
        omega
      simp only [List.length_map, List.length_singleton]
      omega
  rw [hv]
  cases F with
  | nil =>
    rw [if_pos (by simp)]
    refine .inr ⟨⟨0, by omega, by omega, inP_nil⟩, by simp, fun a => ⟨fun q => (nomatch q), fun q => ?_⟩⟩
    obtain ⟨p, hp, _⟩ := begins a q
    cases hp
  | cons p G =>
    have np := h.ne p List.mem_cons_self
    by_cases hG : G = []
    · subst hG
      rw [if_pos (by simp)]
      by_cases hall : p.1 = 0 ∧ p.2 = size
      · refine .inl ⟨fun x x0 x1 => ⟨p, List.mem_cons_self, by omega, by omega⟩, ?_⟩
        simp only [List.map_cons, List.map_nil, hall.1, hall.2]
        simp
      · have one : ∀ x, inP [p] x ↔ p.1 ≤ x ∧ x < p.2 := fun x => inP_one
        have pl := plain p List.mem_cons_self (by by_cases g : p.1 = 0; right; rw [one]; omega; left; exact g) (by by_cases g : p.2 = size; right; rw [one]; omega; left; exact g) (by omega)
        refine .inr ⟨?_, by simp, fun a => ⟨fun q => by simp at q; rw [q]; exact pl, fun q => ?_⟩⟩
        · by_cases g : p.1 = 0
          · exact ⟨p.2, by omega, by omega, by rw [one]; omega⟩
          · exact ⟨0, by omega, by omega, by rw [one]; omega⟩
        · obtain ⟨p', hp', e, _⟩ := begins a q
          simp at hp'
          subst hp'
          have e2 : a = (p'.1, a.2) := by rw [e]
          rw [e2] at q ⊢
          rw [arc_one q pl]
          simp
    · obtain ⟨M, l, rfl⟩ := snoc_of hG
      have hlen : ¬ ((p :: (M ++ [l])).length : Int) < 2 := by simp; omega
      have hlm : l ∈ p :: (M ++ [l]) := by simp
      have nl := h.ne l hlm
      have e0 : ixF (p :: (M ++ [l])) 0 = p := rfl
      have el : ixF (p :: (M ++ [l])) (-1) = l := (ix_last (p :: M) l).2
      have hpl : p.2 < l.1 := (List.pairwise_cons.mp h.asc).1 l (by simp)
      have hasc2 := (List.pairwise_cons.mp h.asc).2
      obtain ⟨hM1, _, hM2⟩ := List.pairwise_append.mp hasc2
      have first0 : ∀ q ∈ p :: (M ++ [l]), q.1 = 0 → q = p := by
        intro q hq hq0
        rcases List.mem_cons.mp hq with e | hq
        · exact e
        · have := (List.pairwise_cons.mp h.asc).1 q hq; omega
      have lastS : ∀ q ∈ p :: (M ++ [l]), q.2 = size → q = l := by
        intro q hq hq0
        rcases List.mem_cons.mp hq with e | hq
        · rw [e] at hq0; omega
        · rcases List.mem_append.mp hq with hq | hq
          · have := hM2 q hq l (by simp); omega
          · simpa using hq
      rw [e0, el]
      split
      · rename_i g
        have g' : 0 < p.1 ∨ l.2 < size := by
          rcases g with g | g
          · exact absurd g hlen
          · exact g
        have c1 : ∀ q ∈ p :: (M ++ [l]), q.1 ≠ 0 ∨ ¬ inP (p :: (M ++ [l])) (size - 1) := by
          intro q hq
          by_cases e : q.1 = 0
          · right
            rintro ⟨r, hr, r1, r2⟩
            have hrn := h.ne r hr
            have := lastS r hr (by omega)
            have := first0 q hq e
            subst this
            subst r
            omega
          · exact .inl e
        have c2 : ∀ q ∈ p :: (M ++ [l]), q.2 ≠ size ∨ ¬ inP (p :: (M ++ [l])) 0 := by
          intro q hq
          by_cases e : q.2 = size
          · right
            rintro ⟨r, hr, r1, r2⟩
            have hrn := h.ne r hr
            have := first0 r hr (by omega)
            have := lastS q hq e
            subst this
            subst r
            omega
          · exact .inl e
        have c3 : ∀ q ∈ p :: (M ++ [l]), q.1 ≠ 0 ∨ q.2 ≠ size := by
          intro q hq
          by_cases e : q.1 = 0
          · right
            intro e2
            have h1 := first0 q hq e
            have h2 := lastS q hq e2
            rw [h1] at h2
            rw [h2] at hpl
            omega
          · exact .inl e
        refine .inr ⟨?_, asc1 _ h.asc (fun q hq => (h.ne q hq).1), fun a => ⟨fun q => ?_, fun q => ?_⟩⟩
        · rcases g' with g' | g'
          · refine ⟨0, by omega, by omega, ?_⟩
            rintro ⟨r, hr, r1, r2⟩
            have hrn := h.ne r hr
            have := first0 r hr (by omega)
            subst this
            omega
          · refine ⟨size - 1, by omega, by omega, ?_⟩
            rintro ⟨r, hr, r1, r2⟩
            have hrn := h.ne r hr
            have := lastS r hr (by omega)
            subst this
            omega
        · obtain ⟨q', hq', rfl⟩ := List.mem_map.mp q
          exact plain q' hq' (c1 q' hq') (c2 q' hq') (c3 q' hq')
        · obtain ⟨q', hq', e, _⟩ := begins a q
          have pl := plain q' hq' (c1 q' hq') (c2 q' hq') (c3 q' hq')
          have e2 : a = (q'.1, a.2) := by rw [e]
          rw [e2] at q ⊢
          rw [arc_one q pl]
          exact List.mem_map.mpr ⟨q', hq', rfl⟩
      · rename_i g
        have hp0 : p.1 = 0 := by
          by_cases e : 0 < p.1
          · exact absurd (.inr (.inl e)) g
          · omega
        have hlS : l.2 = size := by
          by_cases e : l.2 < size
          · exact absurd (.inr (.inr e)) g
          · omega
        have ec : cutF (p :: (M ++ [l])) (some 1) (some (-1)) = M := by
          unfold cutF
          rw [sIx1]
          have e1 : HT.sIx (p :: (M ++ [l])).length (p :: (M ++ [l])).length (some (-1)) = M.length + 1 := by
            show (if (-1 : Int) < 0 then ((-1 : Int) + ((p :: (M ++ [l])).length : Int)).toNat else min (-1 : Int).toNat (p :: (M ++ [l])).length) = _
            rw [if_pos (by omega)]
            simp
            omega
          rw [e1]
          have e2 : min 1 (p :: (M ++ [l])).length = 1 := by simp
          rw [e2]
          simp
        rw [ec]
        have hlast : IsArc size (inP (p :: (M ++ [l]))) (l.1, size - l.1 + p.2) := by
          refine ⟨nl.2.1, by simp only; omega, ?_, by simp only; omega, fun j j0 j1 => ?_, ?_⟩
          · simp only
            rw [emod_pos (by omega) (by omega)]
            exact ps_begin h hlm
          · simp only at *
            by_cases e : l.1 + j < size
            · rw [emod_pos (by omega) e]
              exact ⟨l, hlm, by omega, by omega⟩
            · have e2 : (l.1 + j) % size = l.1 + j - size := by
                have : (l.1 + j) % size = (l.1 + j - size) % size := by simp
                rw [this, emod_pos (by omega) (by omega)]
              rw [e2]
              exact ⟨p, List.mem_cons_self, by omega, by omega⟩
          · simp only
            have e2 : (l.1 + (size - l.1 + p.2)) % size = p.2 := by
              rw [show l.1 + (size - l.1 + p.2) = p.2 + size by omega]
              simp
              exact emod_pos (by omega) (by omega)
            rw [e2]
            exact ps_end h List.mem_cons_self
        have hmid : ∀ q ∈ M, IsArc size (inP (p :: (M ++ [l]))) (q.1, q.2 - q.1) := by
          intro q hq
          have hq2 : q ∈ p :: (M ++ [l]) := by simp [hq]
          have h1 := (List.pairwise_cons.mp h.asc).1 q (by simp [hq])
          have h2 := hM2 q hq l (by simp)
          exact plain q hq2 (.inl (by omega)) (.inl (by omega)) (.inl (by omega))
        refine .inr ⟨⟨p.2, by omega, by omega, ps_end h List.mem_cons_self⟩, ?_, fun a => ⟨fun q => ?_, fun q => ?_⟩⟩
        · refine List.pairwise_append.mpr ⟨asc1 M hM1 (fun q hq => (h.ne q (by simp [hq])).1), by simp, fun u hu v hv => ?_⟩
          obtain ⟨q, hq, rfl⟩ := List.mem_map.mp hu
          simp at hv
          subst hv
          have h2 := hM2 q hq l (by simp)
          have h3 := h.ne q (by simp [hq])
          simp only
          omega
        · rcases List.mem_append.mp q with q | q
          · obtain ⟨q', hq', rfl⟩ := List.mem_map.mp q
            exact hmid q' hq'
          · simp at q
            rw [q]
            exact hlast
        · obtain ⟨q', hq', e, e3⟩ := begins a q
          have e2 : a = (q'.1, a.2) := by rw [e]
          rcases List.mem_cons.mp hq' with rfl | hq'
          · exfalso
            exact e3 (by omega) ⟨l, hlm, by omega, by omega⟩
          · rcases List.mem_append.mp hq' with hq' | hq'
            · rw [e2] at q ⊢
              rw [arc_one q (hmid q' hq')]
              exact List.mem_append.mpr (.inl (List.mem_map.mpr ⟨q', hq', rfl⟩))
            · simp at hq'
              subst hq'
              rw [e2] at q ⊢
              rw [arc_one q hlast]
              simp
end Q

set_option Elab.async false
set_option linter.all false
set_option maxRecDepth 100000
/-! cells from which on a row of colours stands -/
namespace Q
open PySem hiding Env Arg
open Dl Lf
/-- from c on the track has the colours of R -/
def RC (size : Int) (t : TrT) (R : List Int) (c : Int) : Prop := ∀ k : Int, 0 ≤ k → k < R.length → cc size t (c + k) = ixF R k
theorem cc_mod {size : Int} {t : TrT} {x y : Int} (h : x % size = y % size) : cc size t x = cc size t y := by unfold cc; rw [h]
theorem cc_emod (size : Int) (t : TrT) (x : Int) : cc size t (x % size) = cc size t x := cc_mod (by simp)
theorem RC_mod {size : Int} {t : TrT} {R : List Int} {x y : Int} (h : x % size = y % size) : RC size t R x ↔ RC size t R y := by
  have e : ∀ k : Int, cc size t (x + k) = cc size t (y + k) := fun k => cc_mod (by rw [Int.add_emod, h, ← Int.add_emod])
  unfold RC
  constructor
  · intro g k k0 k1; rw [← e]; exact g k k0 k1
  · intro g k k0 k1; rw [e]; exact g k k0 k1
theorem nxt_le {size : Int} {a : Int} {t : List Int} (hasc : (a :: t).Pairwise (· < ·)) (hr : ∀ b ∈ a :: t, 0 ≤ b ∧ b < size) {u v w : Int} (hv : (u, v) ∈ List.zip (a :: t) (t ++ [a])) (hw : w ∈ a :: t) (ne : w ≠ u) : (v - u) % size ≤ (w - u) % size := by
  obtain ⟨g1, g2⟩ := zip_next a t a hasc _ hv
  simp only at g1 g2
  have ru := hr u g1
  have rw' := hr w hw
  have hamin : a ≤ w := by
    rcases List.mem_cons.mp hw with rfl | hw
    · exact Int.le_refl _
    · have := (List.pairwise_cons.mp hasc).1 w hw; omega
  rcases g2 with ⟨g2, g3⟩ | ⟨g2, g3, g4⟩
  · have h1 := g3 w hw
    have ra := hr a List.mem_cons_self
    rw [g2, emod_neg_pos (a := w - u) (by omega) (by omega)]
    by_cases e : a = u
    · rw [e]; simp; omega
    · rw [emod_neg_pos (a := a - u) (by omega) (by omega)]; omega
  · have rv := hr v (List.mem_cons_of_mem _ g2)
    rw [emod_pos (a := v - u) (by omega) (by omega)]
    rcases g4 w hw with g | g
    · rw [emod_neg_pos (a := w - u) (by omega) (by omega)]; omega
    · rw [emod_pos (a := w - u) (by omega) (by omega)]; omega
/-- of the ring: how far behind -/
theorem back_of {size : Int} (hs : 0 < size) {u v c : Int} (h : (v - u) % size ≤ (c - u) % size) : (c - v) % size = (c - u) % size - (v - u) % size := by
  have e : (c - v) % size = ((c - u) % size - (v - u) % size) % size := by
    rw [← Int.sub_emod]
    congr 1
    omega
  rw [e]
  have e0 := Int.emod_nonneg (v - u) (show size ≠ 0 by omega)
  have e1 := Int.emod_lt_of_pos (c - u) hs
  exact emod_pos (by omega) (by omega)
/-- each cell is in a stretch -/
theorem str_of {size : Int} {bs : List Int} (h : TrOk size bs) (hs : 2 ≤ size) {a : Int} {t : List Int} (hg : gB bs = a :: t) (c : Int) : ∃ u v, (u, v) ∈ List.zip (a :: t) (t ++ [a]) ∧ u ∈ gB bs ∧ v ∈ gB bs ∧ (c - u) % size < (v - u) % size := by
  have hasc := gB_asc h
  have hr := gB_rng h
  have hl := (gB_len bs).1
  rw [hg] at hasc hr hl
  have hne : (a :: t).map (fun u => (c - u) % size) ≠ [] := by simp
  obtain ⟨m1, m2⟩ := minF_le hne
  obtain ⟨u, hu, e⟩ := List.mem_map.mp m1
  obtain ⟨v, hv⟩ := zip_all a t a u hu
  obtain ⟨g1, g2⟩ := zip_next a t a hasc _ hv
  simp only at g1 g2
  have hvm : v ∈ a :: t := by
    rcases g2 with ⟨g2, _⟩ | ⟨g2, _⟩
    · rw [g2]; exact List.mem_cons_self
    · exact List.mem_cons_of_mem _ g2
  have ru := hr u hu
  have rv := hr v hvm
  have hpos : 1 ≤ (v - u) % size := by
    rcases g2 with ⟨g2, g3⟩ | ⟨g2, g3, g4⟩
    · cases t with
      | nil => simp at hl
      | cons b t =>
        have h1 := g3 b (by simp)
        have h2 := (List.pairwise_cons.mp hasc).1 b List.mem_cons_self
        rw [g2] at rv ⊢
        rw [emod_neg_pos (a := a - u) (by omega) (by omega)]
        omega
    · rw [emod_pos (a := v - u) (by omega) (by omega)]
      omega
  refine ⟨u, v, hv, by rw [hg]; exact hu, by rw [hg]; exact hvm, ?_⟩
  refine Classical.byContradiction fun q => ?_
  have hb := back_of (size := size) (by omega) (u := u) (v := v) (c := c) (by omega)
  have := m2 _ (List.mem_map.mpr ⟨v, hvm, rfl⟩)
  omega
/-- within a stretch one colour -/
theorem str_cc {size : Int} {t : TrT} (h : TrV size t) (hs : 2 ≤ size) {a : Int} {r : List Int} (hg : gB t.2 = a :: r) {u v : Int} (hv : (u, v) ∈ List.zip (a :: r) (r ++ [a])) {c : Int} (hc : (c - u) % size < (v - u) % size) : cc size t c = cc size t u := by
  have hasc := gB_asc h.ok
  have hr := gB_rng h.ok
  rw [hg] at hasc hr
  obtain ⟨g1, _⟩ := zip_next a r a hasc _ hv
  simp only at g1
  have e0 := Int.emod_nonneg (c - u) (show size ≠ 0 by omega)
  have e1 : cc size t c = cc size t (u + (c - u) % size) := cc_mod (by
    rw [Int.add_emod, Int.emod_emod, ← Int.add_emod]
    congr 1
    omega)
  rw [e1]
  have hlt := Int.emod_lt_of_pos (v - u) (show 0 < size by omega)
  refine cc_same h hs (by omega) fun x x0 x1 hx => ?_
  rw [hg] at hx
  have ru := hr u g1
  have hd : (x - u) % size = x - u := emod_pos (by omega) (by omega)
  have he : (x % size - u) % size = x - u := by
    have : (x % size - u) % size = (x - u) % size := by rw [Int.sub_emod, Int.emod_emod, ← Int.sub_emod]
    rw [this, hd]
  have ne : x % size ≠ u := fun q => by
    rw [q] at he
    simp at he
    omega
  have := nxt_le hasc hr hv hx ne
  omega
theorem v_of {size u v : Int} (hs : 0 < size) (hv0 : 0 ≤ v) (hv1 : v < size) {c k : Int} (h : (c - u) % size + k = (v - u) % size) : (c + k) % size = v := by
  have e : (c + k) % size = v % size := by
    refine mod_eq_of ?_
    have e1 := Int.emod_add_mul_ediv (c - u) size
    have e2 := Int.emod_add_mul_ediv (v - u) size
    have : c + k - v = size * ((c - u) / size - (v - u) / size) := by rw [Int.mul_sub]; omega
    rw [this]
    exact Int.mul_emod_right _ _
  rw [e]
  exact emod_pos hv0 hv1
/-- a row of one colour: where in a stretch -/
theorem rc_const {size : Int} {t : TrT} (h : TrV size t) (hs : 2 ≤ size) {a : Int} {r : List Int} (hg : gB t.2 = a :: r) {R : List Int} {w : Int} (hR : ∀ k : Int, 0 ≤ k → k < R.length → ixF R k = w) (hl : 0 < R.length) (c : Int) :
    RC size t R c ↔ ∃ u v, (u, v) ∈ List.zip (a :: r) (r ++ [a]) ∧ cc size t u = w ∧ (c - u) % size + R.length ≤ (v - u) % size := by
  have hr := gB_rng h.ok
  constructor
  · intro g
    obtain ⟨u, v, h1, h2, h3, h4⟩ := str_of h.ok hs hg c
    have hcu := str_cc h hs hg h1 h4
    have g0 := g 0 (by omega) (by omega)
    rw [hR 0 (by omega) (by omega), show c + 0 = c by omega] at g0
    refine ⟨u, v, h1, by rw [← hcu]; exact g0, ?_⟩
    refine Classical.byContradiction fun q => ?_
    have rv := hr v h3
    have hk := v_of (size := size) (by omega) rv.1 rv.2 (c := c) (u := u) (k := (v - u) % size - (c - u) % size) (by omega)
    have a1 := g ((v - u) % size - (c - u) % size) (by omega) (by omega)
    have a2 := g ((v - u) % size - (c - u) % size - 1) (by omega) (by omega)
    rw [hR _ (by omega) (by omega)] at a1 a2
    refine (cc_step h hs (c + ((v - u) % size - (c - u) % size))).mpr (by rw [hk]; exact h3) ?_
    rw [a1, show c + ((v - u) % size - (c - u) % size) - 1 = c + ((v - u) % size - (c - u) % size - 1) by omega, a2]
  · rintro ⟨u, v, h1, h2, h3⟩ k k0 k1
    rw [hR k k0 k1, ← h2]
    refine str_cc h hs hg h1 ?_
    have e0 := Int.emod_nonneg (c - u) (show size ≠ 0 by omega)
    have e1 := Int.emod_lt_of_pos (v - u) (show 0 < size by omega)
    have e : (c + k - u) % size = (c - u) % size + k := by
      have : (c + k - u) % size = ((c - u) % size + k) % size := by
        rw [Int.add_emod, Int.emod_emod, ← Int.add_emod]
        congr 1
        omega
      rw [this]
      exact emod_pos (by omega) (by omega)
    rw [e]
    omega
end Q

set_option Elab.async false
set_option linter.all false
set_option maxRecDepth 100000
/-! rows along the ring -/
namespace Q
open PySem hiding Env Arg
open Dl Lf
def strL (size : Int) (t : TrT) (w : Int) : List PiT := match gB t.2 with
  | [] => if cc size t 0 = w then [(0, size)] else []
  | a :: r => (List.zip (a :: r) (r ++ [a])).flatMap fun p => if cc size t p.1 = w then [(p.1, (p.2 - p.1) % size)] else []
theorem str_at {d : DiT} (h : DiscOk d) {j : Int} (j0 : 0 ≤ j) (j1 : j < d.2.1.length) (w : Int) : stretches d j w = strL d.1 (ixF d.2.1 j) w ∧ stretches_ok d j w ∧ (strL d.1 (ixF d.2.1 j) w).length ≤ 30 := by
  have hz := h.sz
  have hv := h.trk _ (ix_in j0 j1)
  have hf := hv.ok.few
  have hgl := (gB_len (ixF d.2.1 j).2).2
  have e : ∀ st p, stretches_l0 d j w st p = st ++ (if cc d.1 (ixF d.2.1 j) p.1 = w then [(p.1, (p.2 - p.1) % d.1)] else []) := by
    intro st p
    unfold stretches_l0
    simp only [colour_at, decide_eq_true_eq]
    split <;> simp
  have e2 : stretches_l0 d j w = fun st p => st ++ (if cc d.1 (ixF d.2.1 j) p.1 = w then [(p.1, (p.2 - p.1) % d.1)] else []) := by funext st p; exact e st p
  have hlen : ∀ L : List PiT, (L.flatMap fun p => if cc d.1 (ixF d.2.1 j) p.1 = w then [(p.1, (p.2 - p.1) % d.1)] else []).length ≤ L.length := by
    intro L
    induction L with
    | nil => simp
    | cons p L ih =>
      rw [List.flatMap_cons, List.length_append, List.length_cons]
      split
      · simp only [List.length_singleton]; omega
      · simp only [List.length_nil]; omega
  refine ⟨?_, ?_, ?_⟩
  · rw [stretches_eq]
    unfold stretches_b strL
    simp only [going_eq, colour_at, cut1, cut_1, e2, foldl_flat, List.nil_append]
    cases gB (ixF d.2.1 j).2 with
    | nil => simp
    | cons a r => simp
  · refine ⟨(ix_nat j0 j1).1, going_ok (by omega), fun _ => ⟨colour_k h j0 j1 _, trivial⟩, fun _ => ⟨?_, ?_, trivial⟩, trivial⟩
    · rw [going_eq, cut1, cut_1]; simp; omega
    · refine foldOk_flat _ (N := 1000) e (fun p _ st hst => ⟨colour_k h j0 j1 _, fun _ => ⟨by omega, by omega, trivial⟩, trivial⟩) ?_
      rw [going_eq, cut1, cut_1, List.nil_append]
      refine Nat.le_trans (hlen _) ?_
      rw [List.length_zip]
      omega
  · unfold strL
    split
    · split <;> simp
    · rename_i a r hg
      refine Nat.le_trans (hlen _) ?_
      rw [hg] at hgl
      simp only [List.length_zip, List.length_cons, List.length_append, List.length_nil] at *
      omega
theorem map_rg_eq {R : List Int} {f : Int → Int} : (rgI 0 (R.length : Int)).map f = R ↔ ∀ k : Int, 0 ≤ k → k < R.length → f k = ixF R k := by
  constructor
  · intro e k k0 k1
    have h1 := ix_map f (xs := rgI 0 (R.length : Int)) k0 (by rw [len_rg]; omega)
    rw [ix_rg k0 k1] at h1
    rw [← h1, e]
  · intro g
    refine List.ext_getElem? fun n => ?_
    rw [List.getElem?_map]
    by_cases hn : n < R.length
    · rw [rg_get (by omega)]
      have h1 := (ix_nat (xs := R) (i := (n : Int)) (by omega) (by omega)).2
      simp only [Int.toNat_natCast] at h1
      rw [h1]
      simp only [Option.map_some]
      rw [show (0 : Int) + (n : Int) = (n : Int) by omega, g (n : Int) (by omega) (by omega)]
    · rw [rg_get_none (by omega), List.getElem?_eq_none (by omega)]
      rfl
theorem id_map (l : List Int) : List.map (fun y_v : Int => let number : Int := y_v; number) l = l := List.map_id l
def chgs (R : List Int) : List Int := (rgI 1 (R.length : Int)).filter fun n => !decide (ixF R n = ixF R (n - 1))
theorem all_same {R : List Int} (h : chgs R = []) : ∀ k : Nat, (k : Int) < R.length → ixF R (k : Int) = ixF R 0
  | 0, _ => rfl
  | k + 1, hk => by
    have ih := all_same h k (by omega)
    rw [← ih]
    have := List.filter_eq_nil_iff.mp h ((k + 1 : Nat) : Int) (mem_rg.mpr ⟨by omega, hk⟩)
    have e : (((k + 1 : Nat) : Int) - 1) = (k : Int) := by omega
    simp only [e] at this
    simpa using this
/-- the cells from which on the row stands -/
theorem row_at {d : DiT} (h : DiscOk d) {j : Int} (j0 : 0 ≤ j) (j1 : j < d.2.1.length) {R : List Int} (hl : 0 < R.length) (hl2 : R.length ≤ 10000) :
    row_cells_ok d j R ∧ (row_cells d j R).length ≤ 1000 ∧ (∀ a ∈ row_cells d j R, 1 ≤ a.2) ∧ ∀ c, inA d.1 (row_cells d j R) c ↔ RC d.1 (ixF d.2.1 j) R c := by
  have hz := h.sz
  have hz2 := h.sz2
  have hv := h.trk _ (ix_in j0 j1)
  have hf := hv.ok.few
  have hgl := (gB_len (ixF d.2.1 j).2).2
  obtain ⟨s1, s2, s3⟩ := str_at h j0 j1 (ixF R 0)
  have hi0 := (ix_nat (xs := R) (i := 0) (by omega) (by omega)).1
  have ec : List.map (fun y_v : Int => let number : Int := y_v; number) (List.filter (fun y_v : Int => let number : Int := y_v; (!decide ((ixF R number) = (ixF R (number - (1 : Int)))))) (rgI (1 : Int) (R.length : Int))) = chgs R := id_map _
  have hrg : RgOk (1 : Int) (R.length : Int) := ⟨by omega, by omega, by omega, by omega, by omega⟩
  have hix : ∀ y : Int, y ∈ rgI 1 (R.length : Int) → IxOk R y ∧ IxOk R (y - 1) ∧ True := fun y hy => by
    have := mem_rg.mp hy
    exact ⟨⟨by omega, by omega⟩, ⟨by omega, by omega⟩, trivial⟩
  by_cases hc : chgs R = []
  · have hsame : ∀ k : Int, 0 ≤ k → k < R.length → ixF R k = ixF R 0 := fun k k0 k1 => by
      have := all_same hc k.toNat (by omega)
      rw [show ((k.toNat : Nat) : Int) = k by omega] at this
      exact this
    have e : row_cells d j R = (((strL d.1 (ixF d.2.1 j) (ixF R 0)).filter fun p => decide (p.2 < d.1)).map fun p => (p.1, p.2 - (R.length : Int) + 1)).filter (fun p => decide (0 < p.2)) ++ ((strL d.1 (ixF d.2.1 j) (ixF R 0)).filter fun p => decide (p.2 = d.1)).map fun _ => (0, d.1) := by
      rw [row_cells_eq]
      unfold row_cells_b
      simp only [ec, hc, s1, decide_true, if_true]
      congr 1
      exact List.map_id _
    have hlen : (row_cells d j R).length ≤ 100 := by
      rw [e, List.length_append, List.length_map]
      exact Nat.le_trans (Nat.add_le_add (Nat.le_trans (List.length_filter_le _ _) (by rw [List.length_map]; exact List.length_filter_le _ _)) (List.length_filter_le _ _)) (by omega)
    refine ⟨⟨hrg, hix, fun _ => ⟨hi0, s2, hi0, s2, ?_, trivial⟩, fun q => ?_, trivial⟩, by omega, fun a ha => ?_, fun c => ?_⟩
    · rw [s1]
      simp only [List.length_map]
      refine Nat.le_trans (Nat.add_le_add (Nat.le_trans (List.length_filter_le _ _) (by rw [List.length_map]; exact List.length_filter_le _ _)) (List.length_filter_le _ _)) (by omega)
    · simp [ec, hc] at q
    · rw [e] at ha
      rcases List.mem_append.mp ha with ha | ha
      · have := (List.mem_filter.mp ha).2
        simp at this
        omega
      · obtain ⟨p, _, rfl⟩ := List.mem_map.mp ha
        simp only
        omega
    · rw [e]
      unfold inA
      cases hg : gB (ixF d.2.1 j).2 with
      | nil =>
        have hcc : ∀ x, cc d.1 (ixF d.2.1 j) x = cc d.1 (ixF d.2.1 j) 0 := by
          intro x
          have e0 := Int.emod_nonneg x (show d.1 ≠ 0 by omega)
          rw [← cc_emod]
          exact cc_same hv hz e0 fun y _ _ hy => by rw [hg] at hy; cases hy
        have es : strL d.1 (ixF d.2.1 j) (ixF R 0) = if cc d.1 (ixF d.2.1 j) 0 = ixF R 0 then [(0, d.1)] else [] := by unfold strL; rw [hg]
        rw [es]
        have er : RC d.1 (ixF d.2.1 j) R c ↔ cc d.1 (ixF d.2.1 j) 0 = ixF R 0 := by
          constructor
          · intro g
            have := g 0 (by omega) (by omega)
            rw [hcc] at this
            exact this
          · intro g k k0 k1
            rw [hcc, hsame k k0 k1]
            exact g
        rw [er]
        by_cases g : cc d.1 (ixF d.2.1 j) 0 = ixF R 0
        · rw [if_pos g]
          refine ⟨fun _ => g, fun _ => ⟨(0, d.1), by simp, ?_⟩⟩
          simp only
          have := Int.emod_lt_of_pos (c - 0) (show 0 < d.1 by omega)
          omega
        · rw [if_neg g]
          simp [g]
      | cons a r =>
        rw [rc_const hv hz hg hsame hl]
        have es : strL d.1 (ixF d.2.1 j) (ixF R 0) = (List.zip (a :: r) (r ++ [a])).flatMap fun p => if cc d.1 (ixF d.2.1 j) p.1 = ixF R 0 then [(p.1, (p.2 - p.1) % d.1)] else [] := by unfold strL; rw [hg]
        constructor
        · rintro ⟨q, hq, hx⟩
          rcases List.mem_append.mp hq with hq | hq
          · obtain ⟨hq1, hq2⟩ := List.mem_filter.mp hq
            obtain ⟨p, hp, rfl⟩ := List.mem_map.mp hq1
            obtain ⟨hp1, hp2⟩ := List.mem_filter.mp hp
            rw [es] at hp1
            obtain ⟨z, hz', hp3⟩ := List.mem_flatMap.mp hp1
            split at hp3
            · rename_i g
              simp at hp3
              subst hp3
              simp only at hx
              exact ⟨z.1, z.2, hz', g, by omega⟩
            · cases hp3
          · obtain ⟨p, hp, rfl⟩ := List.mem_map.mp hq
            obtain ⟨hp1, hp2⟩ := List.mem_filter.mp hp
            rw [es] at hp1
            obtain ⟨z, hz', hp3⟩ := List.mem_flatMap.mp hp1
            split at hp3
            · simp at hp3
              subst hp3
              have := Int.emod_lt_of_pos (z.2 - z.1) (show 0 < d.1 by omega)
              simp at hp2
              omega
            · cases hp3
        · rintro ⟨u, v, h1, h2, h3⟩
          have e0 := Int.emod_nonneg (c - u) (show d.1 ≠ 0 by omega)
          have e1 := Int.emod_lt_of_pos (v - u) (show 0 < d.1 by omega)
          refine ⟨(u, (v - u) % d.1 - (R.length : Int) + 1), List.mem_append.mpr (.inl (List.mem_filter.mpr ⟨List.mem_map.mpr ⟨(u, (v - u) % d.1), List.mem_filter.mpr ⟨?_, by simpa using e1⟩, rfl⟩, by simp; omega⟩)), by simp only; omega⟩
          rw [es]
          refine List.mem_flatMap.mpr ⟨(u, v), h1, ?_⟩
          rw [if_pos h2]
          simp
  · have hj : 0 < (chgs R).length := List.length_pos_iff.mpr hc
    have hjm := ix_in (xs := chgs R) (i := 0) (by omega) (by omega)
    generalize hq0 : ixF (chgs R) 0 = q0 at hjm
    obtain ⟨m1, m2⟩ := List.mem_filter.mp hjm
    have mr := mem_rg.mp m1
    have mne : ixF R q0 ≠ ixF R (q0 - 1) := by simpa using m2
    have e : ∀ st b, row_cells_l0 d j R (chgs R) st b = st ++ (if (rgI 0 (R.length : Int)).map (fun n => cc d.1 (ixF d.2.1 j) (b - q0 + n)) = R then [(b - q0, 1)] else []) := by
      intro st b
      unfold row_cells_l0
      simp only [hq0, colour_at, decide_eq_true_eq]
      split <;> simp
    have e2 : row_cells_l0 d j R (chgs R) = fun st b => st ++ (if (rgI 0 (R.length : Int)).map (fun n => cc d.1 (ixF d.2.1 j) (b - q0 + n)) = R then [(b - q0, 1)] else []) := by funext st b; exact e st b
    have ev : row_cells d j R = (gB (ixF d.2.1 j).2).flatMap fun b => if (rgI 0 (R.length : Int)).map (fun n => cc d.1 (ixF d.2.1 j) (b - q0 + n)) = R then [(b - q0, 1)] else [] := by
      rw [row_cells_eq]
      unfold row_cells_b
      simp only [ec, going_eq, e2, foldl_flat, List.nil_append]
      rw [if_neg (by simpa using hc)]
    have hlen : ∀ L : List Int, (L.flatMap fun b => if (rgI 0 (R.length : Int)).map (fun n => cc d.1 (ixF d.2.1 j) (b - q0 + n)) = R then [((b - q0 : Int), (1 : Int))] else []).length ≤ L.length := by
      intro L
      induction L with
      | nil => simp
      | cons p L ih =>
        rw [List.flatMap_cons, List.length_append, List.length_cons]
        split
        · simp only [List.length_singleton]; omega
        · simp only [List.length_nil]; omega
    have hlG := hlen (gB (ixF d.2.1 j).2)
    refine ⟨⟨hrg, hix, fun q => ?_, fun _ => ⟨(ix_nat j0 j1).1, going_ok (by omega), ?_, trivial⟩, trivial⟩, by rw [ev]; omega, fun a ha => ?_, fun c => ?_⟩
    · exact absurd (by simpa [ec] using q) hc
    · rw [ec, going_eq]
      refine foldOk_flat _ (N := 1000) e (fun b _ st hst => ⟨(ix_nat (by omega) (by omega)).1, ⟨by omega, by omega, by omega, by omega, by omega⟩, fun _ _ => ⟨colour_k h j0 j1 _, trivial⟩, fun _ => ⟨by omega, trivial⟩, trivial⟩) ?_
      rw [List.nil_append]
      omega
    · rw [ev] at ha
      obtain ⟨b, _, ha⟩ := List.mem_flatMap.mp ha
      split at ha
      · simp at ha; subst ha; simp
      · cases ha
    · rw [ev]
      unfold inA
      constructor
      · rintro ⟨a, ha, hx⟩
        obtain ⟨b, hb, ha⟩ := List.mem_flatMap.mp ha
        split at ha
        · rename_i g
          simp at ha
          subst ha
          simp only at hx
          have e0 := Int.emod_nonneg (c - (b - q0)) (show d.1 ≠ 0 by omega)
          have hm : c % d.1 = (b - q0) % d.1 := mod_eq_of (by omega)
          exact (RC_mod hm).mpr (map_rg_eq.mp g)
        · cases ha
      · intro g
        have g1 := g q0 (by omega) (by omega)
        have g2 := g (q0 - 1) (by omega) (by omega)
        have hb : (c + q0) % d.1 ∈ gB (ixF d.2.1 j).2 := (cc_step hv hz (c + q0)).mp (by
          rw [g1, show c + q0 - 1 = c + (q0 - 1) by omega, g2]
          exact mne)
        have hr := gB_rng hv.ok _ hb
        have hm0 : (c - ((c + q0) % d.1 - q0)) % d.1 = 0 := by
          have e1 := Int.emod_add_mul_ediv (c + q0) d.1
          rw [show c - ((c + q0) % d.1 - q0) = d.1 * ((c + q0) / d.1) by omega]
          exact Int.mul_emod_right _ _
        have hm : c % d.1 = ((c + q0) % d.1 - q0) % d.1 := mod_eq_of hm0
        refine ⟨((c + q0) % d.1 - q0, 1), List.mem_flatMap.mpr ⟨_, hb, ?_⟩, by simp only; omega⟩
        rw [if_pos (map_rg_eq.mpr ((RC_mod hm).mp g))]
        simp
end Q

set_option Elab.async false
set_option linter.all false
set_option maxRecDepth 100000
/-! rows of patterns -/
namespace Q
open PySem hiding Env Arg
open Dl Lf
def shA (low high : Int) (cells : List PiT) : List PiT := cells.map fun a => (a.1 - high, a.2 + high - low)
theorem shA_in {size : Int} (hs : 0 < size) {low high : Int} (hl : low ≤ high) {cells : List PiT} (hc : ∀ a ∈ cells, 1 ≤ a.2) (x : Int) : inA size (shA low high cells) x ↔ ∃ p, low ≤ p ∧ p ≤ high ∧ inA size cells (x + p) := by
  unfold inA shA
  constructor
  · rintro ⟨b, hb, hx⟩
    obtain ⟨a, ha, rfl⟩ := List.mem_map.mp hb
    have h1 := hc a ha
    simp only at hx
    have e0 := Int.emod_nonneg (x - (a.1 - high)) (show size ≠ 0 by omega)
    have e1 := Int.emod_lt_of_pos (x - (a.1 - high)) hs
    by_cases g : (x - (a.1 - high)) % size < a.2
    · refine ⟨high, hl, Int.le_refl _, a, ha, ?_⟩
      rw [show x + high - a.1 = x - (a.1 - high) by omega]
      omega
    · refine ⟨high - ((x - (a.1 - high)) % size - a.2 + 1), by omega, by omega, a, ha, ?_⟩
      have e : (x + (high - ((x - (a.1 - high)) % size - a.2 + 1)) - a.1) % size = a.2 - 1 := by
        have e2 : (x + (high - ((x - (a.1 - high)) % size - a.2 + 1)) - a.1) % size = (a.2 - 1) % size := by
          refine mod_eq_of ?_
          have := Int.emod_add_mul_ediv (x - (a.1 - high)) size
          rw [show x + (high - ((x - (a.1 - high)) % size - a.2 + 1)) - a.1 - (a.2 - 1) = size * ((x - (a.1 - high)) / size) by omega]
          exact Int.mul_emod_right _ _
        rw [e2]
        exact emod_pos (by omega) (by omega)
      rw [e]
      omega
  · rintro ⟨p, p0, p1, a, ha, hx⟩
    have h1 := hc a ha
    refine ⟨_, List.mem_map.mpr ⟨a, ha, rfl⟩, ?_⟩
    simp only
    have e0 := Int.emod_nonneg (x + p - a.1) (show size ≠ 0 by omega)
    have e1 := Int.emod_lt_of_pos (x - (a.1 - high)) hs
    by_cases g : (x + p - a.1) % size + (high - p) < size
    · have e : (x - (a.1 - high)) % size = (x + p - a.1) % size + (high - p) := by
        have e2 : (x - (a.1 - high)) % size = ((x + p - a.1) % size + (high - p)) % size := by
          rw [Int.add_emod, Int.emod_emod, ← Int.add_emod]
          congr 1
          omega
        rw [e2]
        exact emod_pos (by omega) g
      rw [e]
      omega
    · omega
theorem en_mem {α : Type} [Inhabited α] {xs : List α} {z : Int × α} : z ∈ enI xs ↔ 0 ≤ z.1 ∧ z.1 < xs.length ∧ z.2 = ixF xs z.1 := by
  have key : ∀ (xs : List α) (k : Nat), z ∈ enF k xs ↔ (k : Int) ≤ z.1 ∧ z.1 < k + xs.length ∧ xs[(z.1 - k).toNat]? = some z.2 := by
    intro xs
    induction xs with
    | nil => intro k; simp [enF]
    | cons a xs ih =>
      intro k
      unfold enF
      rw [List.mem_cons, ih (k + 1)]
      constructor
      · rintro (rfl | ⟨h1, h2, h3⟩)
        · simp; omega
        · refine ⟨by omega, by simp; omega, ?_⟩
          have e : (z.1 - (k : Int)).toNat = (z.1 - ((k + 1 : Nat) : Int)).toNat + 1 := by omega
          rw [e, List.getElem?_cons_succ]
          exact h3
      · rintro ⟨h1, h2, h3⟩
        by_cases g : z.1 = k
        · left
          rw [g] at h3
          simp at h3
          exact Prod.ext g h3.symm
        · right
          simp only [List.length_cons] at h2
          refine ⟨by omega, by omega, ?_⟩
          have e : (z.1 - (k : Int)).toNat = (z.1 - ((k + 1 : Nat) : Int)).toNat + 1 := by omega
          rw [e, List.getElem?_cons_succ] at h3
          exact h3
  have := key xs 0
  show z ∈ enF 0 xs ↔ _
  rw [this]
  constructor
  · rintro ⟨h1, h2, h3⟩
    have h4 := (ix_nat (xs := xs) (i := z.1) (by omega) (by omega)).2
    rw [show (z.1 - ((0 : Nat) : Int)).toNat = z.1.toNat by omega, h4] at h3
    injection h3 with h3
    exact ⟨by omega, by omega, h3.symm⟩
  · rintro ⟨h1, h2, h3⟩
    have h4 := (ix_nat (xs := xs) (i := z.1) h1 h2).2
    exact ⟨by omega, by omega, by rw [show (z.1 - ((0 : Nat) : Int)).toNat = z.1.toNat by omega, h4, h3]⟩
def colR (row : List (List Int)) (i : Int) : List Int := row.map fun p => ixF p i
/-- sensor z can read its colours of the row from x on, with one seat -/
def SenR (d : DiT) (row : List (List Int)) (z : Int × SeT) (x : Int) : Prop := ∃ p, z.2.2.1 ≤ p ∧ p ≤ z.2.2.2 ∧ RC d.1 (ixF d.2.1 z.2.1) (colR row z.1) (x + p)
def Alg (d : DiT) (row : List (List Int)) (x : Int) : Prop := ∀ z ∈ enI d.2.2, SenR d row z x
structure RowOk (d : DiT) (row : List (List Int)) : Prop where
  pos : 0 < row.length
  few : row.length ≤ 10000
  len : ∀ p ∈ row, p.length = d.2.2.length
theorem along_fold {d : DiT} (h : DiscOk d) {row : List (List Int)} (hr : RowOk d row) : ∀ (L : List (Int × SeT)) (F : List PiT), (∀ z ∈ L, z ∈ enI d.2.2) → PS d.1 F →
    foldOk (along_l0_ok d row) (along_l0 d row) F L ∧ PS d.1 (L.foldl (along_l0 d row) F) ∧ ∀ x, inP (L.foldl (along_l0 d row) F) x ↔ inP F x ∧ ∀ z ∈ L, SenR d row z x
  | [], F, _, hF => ⟨trivial, hF, fun x => by simp⟩
  | z :: L, F, hL, hF => by
    have hz := h.sz
    have hz2 := h.sz2
    obtain ⟨z0, z1, z2⟩ := en_mem.mp (hL z List.mem_cons_self)
    have hm : z.2 ∈ d.2.2 := by rw [z2]; exact ix_in z0 z1
    obtain ⟨a1, a2, a3, a4, a5, a6⟩ := h.sen _ hm
    have hp := hr.pos
    have hf := hr.few
    obtain ⟨r1, r2, r3, r4⟩ := row_at h a1 a2 (R := colR row z.1) (by unfold colR; rw [List.length_map]; exact hp) (by unfold colR; rw [List.length_map]; exact hf)
    obtain ⟨p1, p2, p3⟩ := pieces_at (size := d.1) (by omega) (A := shA z.2.2.1 z.2.2.2 (row_cells d z.2.1 (colR row z.1))) (fun a ha => by
      unfold shA at ha
      obtain ⟨b, hb, rfl⟩ := List.mem_map.mp ha
      have := r3 b hb
      simp only; omega) (by unfold shA; rw [List.length_map]; omega)
    have e : along_l0 d row F z = common F (pieces_of d.1 (shA z.2.2.1 z.2.2.2 (row_cells d z.2.1 (colR row z.1)))) := rfl
    have hc := com_ps hF p2
    have hok : along_l0_ok d row F z := ⟨fun p hp => ⟨by
      have := hr.len p hp
      exact ⟨by omega, by omega⟩, trivial⟩, r1, p1, com_ok hF p2 (by omega) (by omega), trivial⟩
    obtain ⟨i1, i2, i3⟩ := along_fold h hr L (along_l0 d row F z) (fun y hy => hL y (List.mem_cons_of_mem _ hy)) (by rw [e]; exact hc)
    refine ⟨⟨hok, i1⟩, i2, fun x => ?_⟩
    rw [List.foldl_cons, i3, e, com_in]
    have hS : inP F x → (inP (pieces_of d.1 (shA z.2.2.1 z.2.2.2 (row_cells d z.2.1 (colR row z.1)))) x ↔ SenR d row z x) := fun hx => by
      have hb := inP_bd hF hx
      rw [p3 x hb.1 hb.2, shA_in (by omega) a5 r3]
      unfold SenR
      constructor
      · rintro ⟨p, q1, q2, q3⟩; exact ⟨p, q1, q2, (r4 _).mp q3⟩
      · rintro ⟨p, q1, q2, q3⟩; exact ⟨p, q1, q2, (r4 _).mpr q3⟩
    constructor
    · rintro ⟨⟨g1, g2⟩, g3⟩
      refine ⟨g1, fun y hy => ?_⟩
      rcases List.mem_cons.mp hy with rfl | hy
      · exact (hS g1).mp g2
      · exact g3 y hy
    · rintro ⟨g1, g2⟩
      exact ⟨⟨g1, (hS g1).mpr (g2 z List.mem_cons_self)⟩, fun y hy => g2 y (List.mem_cons_of_mem _ hy)⟩
theorem along_at {d : DiT} (h : DiscOk d) {row : List (List Int)} (hr : RowOk d row) : along_ok d row ∧ AR d.1 (Alg d row) (along d row) := by
  have hz := h.sz
  have hz2 := h.sz2
  have h0 : PS d.1 [((0 : Int), d.1)] := ⟨by simp, fun p hp => by simp at hp; subst hp; simp only; omega⟩
  obtain ⟨k1, k2, k3⟩ := along_fold h hr (enI d.2.2) [((0 : Int), d.1)] (fun _ h => h) h0
  obtain ⟨a1, a2⟩ := arcs_at (size := d.1) (by omega) (by omega) k2
  refine ⟨⟨k1, a1, trivial⟩, ?_⟩
  have e : along d row = arcs_of d.1 (List.foldl (along_l0 d row) [((0 : Int), d.1)] (enI d.2.2)) := by
    rw [along_eq]
    rfl
  rw [e]
  refine a2.congr (by omega) fun x x0 x1 => ?_
  rw [k3, inP_one]
  unfold Alg
  exact ⟨fun g => g.2, fun g => ⟨⟨x0, x1⟩, g⟩⟩
theorem pos_along (d : DiT) (p : List Int) : positions d p = along d [p] := by rw [positions_eq]; rfl
theorem pos_k {d : DiT} {p : List Int} (h : along_ok d [p]) : positions_ok d p := ⟨h, trivial⟩
/-- a pattern alone: where it can be read -/
theorem rc_single {size : Int} {t : TrT} {c x : Int} : RC size t [c] x ↔ cc size t x = c := by
  have e : ixF [c] 0 = c := rfl
  unfold RC
  constructor
  · intro g
    have := g 0 (by omega) (by simp)
    rw [e, show x + 0 = x by omega] at this
    exact this
  · intro g k k0 k1
    simp at k1
    have : k = 0 := by omega
    subst this
    rw [e, show x + 0 = x by omega]
    exact g
end Q

set_option Elab.async false
set_option linter.all false
set_option maxRecDepth 100000
/-! all seats, readings, arcs by going through -/
namespace Q
open PySem hiding Env Arg
open Dl Lf
def SeatsOk : List SeT → List Int → Prop
  | [], [] => True
  | s :: ss, p :: ps => (s.2.1 ≤ p ∧ p ≤ s.2.2) ∧ SeatsOk ss ps
  | _, _ => False
theorem seats_len : ∀ {ss : List SeT} {ps : List Int}, SeatsOk ss ps → ps.length = ss.length
  | [], [], _ => rfl
  | s :: ss, p :: ps, h => by simp [seats_len h.2]
  | [], _ :: _, h => h.elim
  | _ :: _, [], h => h.elim
def exS (s : SeT) (found : List (List Int)) : List (List Int) := found.flatMap fun q => (rgI s.2.1 (s.2.2 + 1)).map fun p => q ++ [p]
theorem all_step (st : List (List Int)) (s : SeT) : l_all_seats_l0 st s = exS s st := by
  unfold l_all_seats_l0 exS
  have : l_all_seats_l1 s.2.1 s.2.2 = fun st q => st ++ (rgI s.2.1 (s.2.2 + 1)).map fun p => q ++ [p] := by funext st q; rfl
  simp only [this, foldl_flat, List.nil_append]
theorem all_fold : ∀ (L : List SeT) (found : List (List Int)) (q : List Int), q ∈ L.foldl l_all_seats_l0 found ↔ ∃ a ∈ found, ∃ b, SeatsOk L b ∧ q = a ++ b
  | [], found, q => by
    constructor
    · intro h; exact ⟨q, h, [], trivial, by simp⟩
    · rintro ⟨a, ha, b, hb, rfl⟩
      cases b with
      | nil => simpa using ha
      | cons _ _ => exact hb.elim
  | s :: L, found, q => by
    rw [List.foldl_cons, all_step, all_fold L]
    unfold exS
    constructor
    · rintro ⟨a, ha, b, hb, rfl⟩
      obtain ⟨a0, ha0, ha⟩ := List.mem_flatMap.mp ha
      obtain ⟨p, hp, rfl⟩ := List.mem_map.mp ha
      have := mem_rg.mp hp
      exact ⟨a0, ha0, p :: b, ⟨⟨this.1, by omega⟩, hb⟩, by simp⟩
    · rintro ⟨a, ha, b, hb, rfl⟩
      cases b with
      | nil => exact hb.elim
      | cons p b =>
        obtain ⟨⟨h1, h2⟩, h3⟩ := hb
        exact ⟨a ++ [p], List.mem_flatMap.mpr ⟨a, ha, List.mem_map.mpr ⟨p, mem_rg.mpr ⟨h1, by omega⟩, rfl⟩⟩, b, h3, by simp⟩
theorem all_mem {d : DiT} {q : List Int} : q ∈ l_all_seats d ↔ SeatsOk d.2.2 q := by
  have e : l_all_seats d = List.foldl l_all_seats_l0 [[]] d.2.2 := by rw [l_all_seats_eq]; rfl
  rw [e, all_fold]
  constructor
  · rintro ⟨a, ha, b, hb, rfl⟩
    simp at ha
    subst ha
    simpa using hb
  · intro h
    exact ⟨[], by simp, q, h, by simp⟩
theorem all_k {d : DiT} (h : DiscOk d) {W : Nat} (hw : ∀ s ∈ d.2.2, s.2.2 - s.2.1 + 1 ≤ W) (hW : 1 ≤ W) (hW2 : W ^ 6 ≤ 10000000) : l_all_seats_ok d ∧ (l_all_seats d).length ≤ 10000000 := by
  have hz := h.sz
  have hz2 := h.sz2
  have hf := h.sfew
  have hpow : ∀ m : Nat, m ≤ 6 → W ^ m ≤ 10000000 := fun m hm => Nat.le_trans (Nat.pow_le_pow_right hW hm) hW2
  have hwp : W ≤ 10000000 := by simpa using hpow 1 (by omega)
  obtain ⟨g1, g2, g3⟩ := fold_inv (ok := l_all_seats_l0_ok) (f := l_all_seats_l0) (fun m st => st.length ≤ W ^ m ∧ ∀ q ∈ st, q.length = m) (xs := d.2.2) (n := 0) (s := [[]]) (fun m st s m1 m2 hs ⟨i1, i2⟩ => by
    obtain ⟨a1, a2, a3, a4, a5, a6⟩ := h.sen s hs
    have hv := sen_trk h hs
    have hsh := shN_pos hv.ok (by omega)
    have hws := hw s hs
    have hlr : (rgI s.2.1 (s.2.2 + 1)).length ≤ W := by rw [len_rg]; omega
    have hl : ∀ L : List (List Int), (L.flatMap fun q => (rgI s.2.1 (s.2.2 + 1)).map fun p => q ++ [p]).length ≤ L.length * W := by
      intro L
      induction L with
      | nil => simp
      | cons q L ih =>
        rw [List.flatMap_cons, List.length_append, List.length_cons, List.length_map, Nat.add_mul, Nat.one_mul]
        omega
    have hl2 : (exS s st).length ≤ W ^ (m + 1) := by
      have h1 := hl st
      have h2 : st.length * W ≤ W ^ m * W := Nat.mul_le_mul_right W i1
      rw [Nat.pow_succ]
      unfold exS
      omega
    have hp1 := hpow (m + 1) (by omega)
    refine ⟨⟨?_, trivial⟩, by rw [all_step]; exact hl2, fun q hq => ?_⟩
    · refine foldOk_flat (fun q => (rgI s.2.1 (s.2.2 + 1)).map fun p => q ++ [p]) (N := 10000000) (fun st q => rfl) (fun q hq st' hst' => ?_) (by rw [List.nil_append]; unfold exS at hl2; omega)
      have := i2 q hq
      refine ⟨⟨by omega, by omega, by omega, by omega, by omega⟩, fun _ _ => ⟨by simp; omega, trivial⟩, ?_, trivial⟩
      exact Nat.le_trans hst' (by omega)
    · rw [all_step] at hq
      unfold exS at hq
      obtain ⟨a, ha, hq⟩ := List.mem_flatMap.mp hq
      obtain ⟨p, _, rfl⟩ := List.mem_map.mp hq
      simp [i2 a ha]) ⟨by simp, by simp⟩
  refine ⟨⟨g1, trivial⟩, ?_⟩
  have e : l_all_seats d = List.foldl l_all_seats_l0 [[]] d.2.2 := by rw [l_all_seats_eq]; rfl
  rw [e]
  have := hpow (0 + d.2.2.length) (by omega)
  omega
/-! ### readings -/
def readN (d : DiT) (x : Int) (seats : List Int) : List Int := (List.zip d.2.2 seats).map fun z => cc d.1 (ixF d.2.1 z.1.1) (x + z.2)
abbrev cellsN (d : DiT) : List (List Int) := d.2.1.map fun t => l_cells d.1 t
theorem read_at {d : DiT} (h : DiscOk d) (x : Int) (seats : List Int) : l_read d (cellsN d) x seats = readN d x seats ∧ l_read_ok d (cellsN d) x seats := by
  have hz := h.sz
  constructor
  · rw [l_read_eq]
    unfold l_read_b readN
    refine List.map_congr_left fun z hz' => ?_
    have hm := (List.of_mem_zip hz').1
    obtain ⟨a1, a2, _⟩ := h.sen _ hm
    exact cells_ix h a1 a2 _
  · refine ⟨fun z hz' => ?_, trivial⟩
    have hm := (List.of_mem_zip hz').1
    obtain ⟨a1, a2, _⟩ := h.sen _ hm
    have e0 := Int.emod_nonneg (x + z.2) (show d.1 ≠ 0 by omega)
    have e1 := Int.emod_lt_of_pos (x + z.2) (show 0 < d.1 by omega)
    refine ⟨(ix_nat a1 (by simpa using a2)).1, by omega, ?_, trivial⟩
    rw [ix_map _ a1 a2, cells_at]
    exact (ix_nat e0 (by rw [List.length_map, len_rg]; omega)).1
theorem readN_len {d : DiT} {x : Int} {seats : List Int} (hl : seats.length = d.2.2.length) : (readN d x seats).length = d.2.2.length := by
  unfold readN
  rw [List.length_map, List.length_zip]
  omega
theorem readN_bd {d : DiT} {x : Int} {seats : List Int} : ∀ c ∈ readN d x seats, c = 0 ∨ c = 1 := by
  intro c hc
  obtain ⟨z, _, rfl⟩ := List.mem_map.mp hc
  exact cc_bd _ _ _
theorem zip_at {α β : Type} [Inhabited α] [Inhabited β] {xs : List α} {ys : List β} {i : Int} (h0 : 0 ≤ i) (h1 : i < xs.length) (h2 : i < ys.length) : ixF (List.zip xs ys) i = (ixF xs i, ixF ys i) := by
  have a := (ix_nat h0 h1).2
  have b := (ix_nat h0 h2).2
  have c := (ix_nat (xs := List.zip xs ys) h0 (by rw [List.length_zip]; omega)).2
  rw [List.getElem?_zip_eq_some (z := (ixF xs i, ixF ys i)) |>.mpr ⟨a, b⟩] at c
  injection c with c
  exact c.symm
theorem readN_ix {d : DiT} {x : Int} {seats : List Int} (hl : seats.length = d.2.2.length) {i : Int} (h0 : 0 ≤ i) (h1 : i < d.2.2.length) : ixF (readN d x seats) i = cc d.1 (ixF d.2.1 (ixF d.2.2 i).1) (x + ixF seats i) := by
  unfold readN
  rw [ix_map _ h0 (by rw [List.length_zip]; omega), zip_at h0 h1 (by omega)]
theorem list_ix {xs ys : List Int} (hl : xs.length = ys.length) (h : ∀ i : Int, 0 ≤ i → i < xs.length → ixF xs i = ixF ys i) : xs = ys := by
  refine List.ext_getElem? fun n => ?_
  by_cases hn : n < xs.length
  · have a := (ix_nat (xs := xs) (i := (n : Int)) (by omega) (by omega)).2
    have b := (ix_nat (xs := ys) (i := (n : Int)) (by omega) (by omega)).2
    simp only [Int.toNat_natCast] at a b
    rw [a, b, h (n : Int) (by omega) (by omega)]
  · rw [List.getElem?_eq_none (by omega), List.getElem?_eq_none (by omega)]
theorem seats_ix : ∀ {ss : List SeT} {ps : List Int}, SeatsOk ss ps ↔ ps.length = ss.length ∧ ∀ i : Nat, i < ss.length → (ss.getD i default).2.1 ≤ ps.getD i 0 ∧ ps.getD i 0 ≤ (ss.getD i default).2.2
  | [], [] => by simp [SeatsOk]
  | [], _ :: _ => by simp [SeatsOk]
  | _ :: _, [] => by simp [SeatsOk]
  | s :: ss, p :: ps => by
    unfold SeatsOk
    rw [seats_ix (ss := ss) (ps := ps)]
    constructor
    · rintro ⟨h1, h2, h3⟩
      refine ⟨by simp [h2], fun i hi => ?_⟩
      cases i with
      | zero => simpa using h1
      | succ i => simpa using h3 i (by simpa using hi)
    · rintro ⟨h1, h2⟩
      refine ⟨by simpa using h2 0 (by simp), by simpa using h1, fun i hi => ?_⟩
      simpa using h2 (i + 1) (by simpa using hi)
theorem ix_getD {α : Type} [Inhabited α] {xs : List α} {i : Nat} : ixF xs (i : Int) = xs.getD i default := by
  unfold ixF ixN
  rw [if_pos (by omega)]
  simp [List.getD]
theorem seats_at {ss : List SeT} {ps : List Int} : SeatsOk ss ps ↔ ps.length = ss.length ∧ ∀ i : Int, 0 ≤ i → i < ss.length → (ixF ss i).2.1 ≤ ixF ps i ∧ ixF ps i ≤ (ixF ss i).2.2 := by
  rw [seats_ix]
  constructor
  · rintro ⟨h1, h2⟩
    refine ⟨h1, fun i i0 i1 => ?_⟩
    have := h2 i.toNat (by omega)
    have e : i = ((i.toNat : Nat) : Int) := by omega
    rw [e, ix_getD, ix_getD]
    exact this
  · rintro ⟨h1, h2⟩
    refine ⟨h1, fun i hi => ?_⟩
    have := h2 (i : Int) (by omega) (by omega)
    rw [ix_getD, ix_getD] at this
    exact this
/-- seats put together of one for each sensor -/
theorem seats_choose {ss : List SeT} {P : Int → Int → Prop} (h : ∀ i : Int, 0 ≤ i → i < ss.length → ∃ p, (ixF ss i).2.1 ≤ p ∧ p ≤ (ixF ss i).2.2 ∧ P i p) : ∃ ps, SeatsOk ss ps ∧ ∀ i : Int, 0 ≤ i → i < ss.length → P i (ixF ps i) := by
  have hc : ∀ i : Int, ∃ p, 0 ≤ i → i < ss.length → (ixF ss i).2.1 ≤ p ∧ p ≤ (ixF ss i).2.2 ∧ P i p := fun i => by
    by_cases g : 0 ≤ i ∧ i < ss.length
    · obtain ⟨p, hp⟩ := h i g.1 g.2
      exact ⟨p, fun _ _ => hp⟩
    · exact ⟨0, fun a b => absurd ⟨a, b⟩ g⟩
  have hf := fun i => Classical.choose_spec (hc i)
  have e : ∀ i : Int, 0 ≤ i → i < ss.length → ixF ((rgI 0 (ss.length : Int)).map fun i => Classical.choose (hc i)) i = Classical.choose (hc i) := fun i i0 i1 => by
    rw [ix_map (fun i => Classical.choose (hc i)) i0 (by rw [len_rg]; omega), ix_rg i0 i1]
  refine ⟨(rgI 0 (ss.length : Int)).map fun i => Classical.choose (hc i), seats_at.mpr ⟨by rw [List.length_map, len_rg]; omega, fun i i0 i1 => ?_⟩, fun i i0 i1 => ?_⟩
  · rw [e i i0 i1]
    exact ⟨(hf i i0 i1).1, (hf i i0 i1).2.1⟩
  · rw [e i i0 i1]
    exact (hf i i0 i1).2.2
/-- by all seats, or sensor by sensor: the same -/
theorem alg_seats {d : DiT} {row : List (List Int)} (hr : RowOk d row) (x : Int) : Alg d row x ↔ ∃ seats, SeatsOk d.2.2 seats ∧ ∀ k : Int, 0 ≤ k → k < row.length → readN d (x + k) seats = ixF row k := by
  have hcol : ∀ i k : Int, 0 ≤ k → k < row.length → ixF (colR row i) k = ixF (ixF row k) i := fun i k k0 k1 => ix_map (fun p => ixF p i) k0 k1
  have hlc : ∀ i : Int, (colR row i).length = row.length := fun i => by unfold colR; rw [List.length_map]
  constructor
  · intro g
    obtain ⟨ps, h1, h2⟩ := seats_choose (ss := d.2.2) (P := fun i p => RC d.1 (ixF d.2.1 (ixF d.2.2 i).1) (colR row i) (x + p)) (fun i i0 i1 => by
      obtain ⟨p, p0, p1, p2⟩ := g (i, ixF d.2.2 i) (en_mem.mpr ⟨i0, i1, rfl⟩)
      exact ⟨p, p0, p1, p2⟩)
    refine ⟨ps, h1, fun k k0 k1 => ?_⟩
    have hl := seats_len h1
    have hm := hr.len _ (ix_in k0 k1)
    refine list_ix (by rw [readN_len hl, hm]) fun i i0 i1 => ?_
    rw [readN_len hl] at i1
    rw [readN_ix hl i0 i1, ← hcol i k k0 k1, ← h2 i i0 i1 k k0 (by rw [hlc]; exact k1)]
    congr 1
    omega
  · rintro ⟨ps, h1, h2⟩ z hz
    obtain ⟨z0, z1, z2⟩ := en_mem.mp hz
    have hl := seats_len h1
    obtain ⟨_, h3⟩ := seats_at.mp h1
    obtain ⟨b1, b2⟩ := h3 z.1 z0 z1
    refine ⟨ixF ps z.1, by rw [z2]; exact b1, by rw [z2]; exact b2, fun k k0 k1 => ?_⟩
    rw [hlc] at k1
    rw [hcol _ _ k0 k1, ← h2 k k0 k1, readN_ix hl z0 z1, z2]
    congr 1
    omega
/-! ### arcs by going through -/
theorem l_arcs_at {size : Int} (hs : 0 < size) (hs2 : size ≤ 100000) {S : Int → Prop} {some_v : List Int} (hasc : some_v.Pairwise (· < ·)) (hm : ∀ x, x ∈ some_v ↔ 0 ≤ x ∧ x < size ∧ S x) : l_arcs_ok size some_v ∧ AR size S (l_arcs size some_v) := by
  have hmm : ∀ z : Int, z % size ∈ some_v ↔ S (z % size) := fun z => by
    rw [hm]
    exact ⟨fun g => g.2.2, fun g => ⟨Int.emod_nonneg z (by omega), Int.emod_lt_of_pos z hs, g⟩⟩
  have hlen : (some_v.length : Int) ≤ size := by
    have : ∀ (L : List Int) (a : Int), L.Pairwise (· < ·) → (∀ x ∈ L, a ≤ x ∧ x < size) → a ≤ size → (L.length : Int) ≤ size - a := by
      intro L
      induction L with
      | nil => intro a _ _ h; simp; omega
      | cons b L ih =>
        intro a h hb ha
        obtain ⟨h1, h2⟩ := List.pairwise_cons.mp h
        have := hb b List.mem_cons_self
        have := ih (b + 1) h2 (fun x hx => ⟨by have := h1 x hx; omega, (hb x (List.mem_cons_of_mem _ hx)).2⟩) (by omega)
        simp only [List.length_cons]
        omega
    have := this some_v 0 hasc (fun x hx => ⟨((hm x).mp hx).1, ((hm x).mp hx).2.1⟩) (by omega)
    omega
  have hfull : (some_v.length : Int) = size ↔ ∀ x, 0 ≤ x → x < size → S x := by
    constructor
    · intro e x x0 x1
      refine Classical.byContradiction fun q => ?_
      have : ∀ (L : List Int) (a : Int), L.Pairwise (· < ·) → (∀ y ∈ L, a ≤ y ∧ y < size ∧ y ≠ x) → a ≤ size → (L.length : Int) ≤ size - a - (if a ≤ x then 1 else 0) := by
        intro L
        induction L with
        | nil => intro a _ _ h; simp; split <;> omega
        | cons b L ih =>
          intro a h hb ha
          obtain ⟨h1, h2⟩ := List.pairwise_cons.mp h
          have hbb := hb b List.mem_cons_self
          have := ih (b + 1) h2 (fun y hy => ⟨by have := h1 y hy; omega, (hb y (List.mem_cons_of_mem _ hy)).2⟩) (by omega)
          simp only [List.length_cons]
          split at this <;> split <;> omega
      have := this some_v 0 hasc (fun y hy => ⟨((hm y).mp hy).1, ((hm y).mp hy).2.1, fun e => q (e ▸ ((hm y).mp hy).2.2)⟩) (by omega)
      rw [if_pos x0] at this
      omega
    · intro g
      have e : some_v = rgI 0 size := asc_eq hasc (by
        have : ∀ (n : Nat), (rgI 0 (n : Int)).Pairwise (· < ·) := by
          intro n
          induction n with
          | zero => rw [rg_nil (by omega)]; simp
          | succ n ih =>
            rw [show ((n + 1 : Nat) : Int) = (n : Int) + 1 by omega, rg_snoc (by omega)]
            exact List.pairwise_append.mpr ⟨ih, by simp, fun a ha b hb => by have := mem_rg.mp ha; simp at hb; omega⟩
        have := this size.toNat
        rw [show ((size.toNat : Nat) : Int) = size by omega] at this
        exact this) fun x => by rw [hm, mem_rg]; exact ⟨fun q => ⟨q.1, q.2.1⟩, fun q => ⟨q.1, q.2, g x q.1 q.2⟩⟩
      rw [e, len_rg]
      omega
  -- how far from a first one
  have run : (∃ x, 0 ≤ x ∧ x < size ∧ ¬ S x) → ∀ f, 0 ≤ f → f < size → S f → whGOk (l_arcs_w1_cok size some_v f) (l_arcs_w1_c size some_v f) (l_arcs_w1_ok size some_v f) (l_arcs_w1 size some_v f) fu 1 ∧ 1 ≤ whG (l_arcs_w1_c size some_v f) (l_arcs_w1 size some_v f) fu 1 ∧ (∀ j, 0 ≤ j → j < whG (l_arcs_w1_c size some_v f) (l_arcs_w1 size some_v f) fu 1 → S ((f + j) % size)) ∧ ¬ S ((f + whG (l_arcs_w1_c size some_v f) (l_arcs_w1 size some_v f) fu 1) % size) := by
    rintro ⟨x, x0, x1, hx⟩ f f0 f1 hf
    have hgap : ∀ m : Int, size ≤ m → (∀ j, 0 ≤ j → j < m → S ((f + j) % size)) → False := by
      intro m hm' hj
      have := hj ((x - f) % size) (Int.emod_nonneg _ (by omega)) (by have := Int.emod_lt_of_pos (x - f) hs; omega)
      have e : (f + (x - f) % size) % size = x := by
        have e1 : (f + (x - f) % size) % size = x % size := by
          rw [Int.add_emod, Int.emod_emod, ← Int.add_emod]
          congr 1
          omega
        rw [e1]
        exact emod_pos x0 x1
      rw [e] at this
      exact hx this
    obtain ⟨w1, ⟨w2, w3⟩, w4⟩ := wh_inv (c := l_arcs_w1_c size some_v f) (cok := l_arcs_w1_cok size some_v f) (ok := l_arcs_w1_ok size some_v f) (f := l_arcs_w1 size some_v f) (fun m => 1 ≤ m ∧ ∀ j, 0 ≤ j → j < m → S ((f + j) % size)) (fun m => (size - m).toNat) (fun m ⟨i1, i2⟩ => by
      refine ⟨⟨hs, trivial⟩, fun hc => ?_⟩
      have hc' : (f + m) % size ∈ some_v := by simpa [l_arcs_w1_c] using hc
      have hSm := (hmm _).mp hc'
      have e : l_arcs_w1 size some_v f m = m + 1 := rfl
      have hlt : m < size := by
        refine Classical.byContradiction fun q => hgap m (by omega) i2
      refine ⟨trivial, ⟨by rw [e]; omega, fun j j0 j1 => ?_⟩, by rw [e]; omega⟩
      rw [e] at j1
      by_cases g : j < m
      · exact i2 j j0 g
      · have : j = m := by omega
        rw [this]; exact hSm) fu 1 (by rw [fu_big]; omega) ⟨by omega, fun j j0 j1 => by
        have : j = 0 := by omega
        rw [this, show f + 0 = f by omega, emod_pos f0 f1]
        exact hf⟩
    refine ⟨w1, w2, w3, fun q => ?_⟩
    have := (hmm _).mpr q
    have w4' : ¬ (f + whG (l_arcs_w1_c size some_v f) (l_arcs_w1 size some_v f) fu 1) % size ∈ some_v := by simpa [l_arcs_w1_c] using w4
    exact w4' this
  have e : ∀ st f, l_arcs_l0 size some_v st f = st ++ (if (f - 1) % size ∈ some_v then [] else [(f, whG (l_arcs_w1_c size some_v f) (l_arcs_w1 size some_v f) fu 1)]) := by
    intro st f
    unfold l_arcs_l0
    by_cases g : (f - 1) % size ∈ some_v <;> simp [g]
  have e2 : l_arcs_l0 size some_v = fun st f => st ++ (if (f - 1) % size ∈ some_v then [] else [(f, whG (l_arcs_w1_c size some_v f) (l_arcs_w1 size some_v f) fu 1)]) := by funext st f; exact e st f
  have hl : ∀ L : List Int, (L.flatMap fun f => (if (f - 1) % size ∈ some_v then [] else [(f, whG (l_arcs_w1_c size some_v f) (l_arcs_w1 size some_v f) fu 1)])).length ≤ L.length := by
    intro L
    induction L with
    | nil => simp
    | cons x L ih =>
      rw [List.flatMap_cons, List.length_append, List.length_cons]
      split
      · simp only [List.length_nil]; omega
      · simp only [List.length_singleton]; omega
  have hv : l_arcs size some_v = if (some_v.length : Int) = size then [(0, size)] else some_v.flatMap fun f => (if (f - 1) % size ∈ some_v then [] else [(f, whG (l_arcs_w1_c size some_v f) (l_arcs_w1 size some_v f) fu 1)]) := by
    rw [l_arcs_eq]
    unfold l_arcs_b
    simp only [e2, foldl_flat, List.nil_append, decide_eq_true_eq]
  constructor
  · refine ⟨fun g => ⟨?_, trivial⟩, trivial⟩
    have hnf : ¬ (some_v.length : Int) = size := by simpa using g
    have hex : ∃ x, 0 ≤ x ∧ x < size ∧ ¬ S x := by
      refine Classical.byContradiction fun q => hnf (hfull.mpr fun x x0 x1 => Classical.byContradiction fun q2 => q ⟨x, x0, x1, q2⟩)
    refine foldOk_flat _ (N := 1000000) e (fun f hf st hst => ?_) (by rw [List.nil_append]; have := hl some_v; omega)
    have hfm := (hm f).mp hf
    refine ⟨hs, fun q => ⟨(run hex f hfm.1 hfm.2.1 hfm.2.2).1, ?_, trivial⟩, trivial⟩
    have q' : ¬ (f - 1) % size ∈ some_v := by simpa using q
    rw [if_neg q'] at hst
    simp only [List.length_singleton] at hst
    omega
  · rw [hv]
    split
    · rename_i g
      exact .inl ⟨hfull.mp g, rfl⟩
    · rename_i g
      have hex : ∃ x, 0 ≤ x ∧ x < size ∧ ¬ S x := by
        refine Classical.byContradiction fun q => g (hfull.mpr fun x x0 x1 => Classical.byContradiction fun q2 => q ⟨x, x0, x1, q2⟩)
      refine .inr ⟨hex, ?_, fun a => ⟨fun q => ?_, fun q => ?_⟩⟩
      · have : ∀ L : List Int, L.Pairwise (· < ·) → (L.flatMap fun f => (if (f - 1) % size ∈ some_v then [] else [((f : Int), whG (l_arcs_w1_c size some_v f) (l_arcs_w1 size some_v f) fu 1)])).Pairwise fun a b => a.1 < b.1 := by
          intro L
          induction L with
          | nil => intro _; simp
          | cons f L ih =>
            intro h
            obtain ⟨h1, h2⟩ := List.pairwise_cons.mp h
            rw [List.flatMap_cons]
            refine List.pairwise_append.mpr ⟨by split <;> simp, ih h2, fun u hu v hv' => ?_⟩
            obtain ⟨f', hf', hv'⟩ := List.mem_flatMap.mp hv'
            have := h1 f' hf'
            split at hu
            · cases hu
            · split at hv'
              · cases hv'
              · simp at hu hv'
                subst hu hv'
                simp only
                omega
        exact this some_v hasc
      · obtain ⟨f, hf, q⟩ := List.mem_flatMap.mp q
        split at q
        · cases q
        · rename_i hn
          simp at q
          subst q
          have hfm := (hm f).mp hf
          obtain ⟨_, r1, r2, r3⟩ := run hex f hfm.1 hfm.2.1 hfm.2.2
          exact ⟨hfm.1, hfm.2.1, fun w => hn ((hmm _).mpr w), r1, r2, r3⟩
      · have hq := q
        obtain ⟨q1, q2, q3, q4, q5, q6⟩ := q
        have hS := q5 0 (by omega) (by omega)
        rw [show a.1 + 0 = a.1 by omega, emod_pos q1 q2] at hS
        have hf := (hm a.1).mpr ⟨q1, q2, hS⟩
        obtain ⟨_, r1, r2, r3⟩ := run hex a.1 q1 q2 hS
        have hn : ¬ (a.1 - 1) % size ∈ some_v := fun w => q3 ((hmm _).mp w)
        refine List.mem_flatMap.mpr ⟨a.1, hf, ?_⟩
        rw [if_neg hn]
        have : a.2 = whG (l_arcs_w1_c size some_v a.1) (l_arcs_w1 size some_v a.1) fu 1 := arc_one (f := a.1) hq ⟨q1, q2, q3, r1, r2, r3⟩
        rw [← this]
        simp
end Q

set_option Elab.async false
set_option linter.all false
set_option maxRecDepth 100000
/-! what can be read, seats for it, positions in arcs -/
namespace Q
open PySem hiding Env Arg
open Dl Lf
theorem least_of {P : Nat → Prop} : (∃ n, P n) → ∃ n, P n ∧ ∀ m, m < n → ¬ P m := by
  rintro ⟨n, hn⟩
  induction n using Nat.strongRecOn with
  | _ n ih =>
    by_cases h : ∃ m, m < n ∧ P m
    · obtain ⟨m, h1, h2⟩ := h
      exact ih m h1 h2
    · exact ⟨n, hn, fun m hm hp => h ⟨m, hm, hp⟩⟩
/-- the arcs of S hold just what is in S -/
theorem ar_holds {size : Int} (hs : 0 < size) {S : Int → Prop} {A : List PiT} (h : AR size S A) {x : Int} (x0 : 0 ≤ x) (x1 : x < size) : (∃ a ∈ A, (x - a.1) % size < a.2) ↔ S x := by
  rcases h with ⟨h1, rfl⟩ | ⟨⟨y, y0, y1, hy⟩, _, h3⟩
  · refine ⟨fun _ => h1 x x0 x1, fun _ => ⟨(0, size), by simp, ?_⟩⟩
    exact Int.emod_lt_of_pos _ hs
  · constructor
    · rintro ⟨a, ha, hx⟩
      obtain ⟨_, _, _, _, q5, _⟩ := (h3 a).mp ha
      have := q5 _ (Int.emod_nonneg (x - a.1) (by omega)) hx
      have e : (a.1 + (x - a.1) % size) % size = x := by
        have e1 : (a.1 + (x - a.1) % size) % size = x % size := by
          rw [Int.add_emod, Int.emod_emod, ← Int.add_emod]
          congr 1
          omega
        rw [e1]
        exact emod_pos x0 x1
      rw [e] at this
      exact this
    · intro hx
      have ey : (x - (x - y) % size) % size = y := by
        have e1 : (x - (x - y) % size) % size = y % size := by
          rw [Int.sub_emod, Int.emod_emod, ← Int.sub_emod]
          congr 1
          omega
        rw [e1]
        exact emod_pos y0 y1
      have b0 := Int.emod_nonneg (x - y) (show size ≠ 0 by omega)
      have b1 := Int.emod_lt_of_pos (x - y) hs
      obtain ⟨i, hi, hi2⟩ := least_of (P := fun i : Nat => ¬ S ((x - (i : Int)) % size)) ⟨((x - y) % size).toNat, by
        rw [show ((((x - y) % size).toNat : Nat) : Int) = (x - y) % size by omega, ey]
        exact hy⟩
      have hib : (i : Int) < size := by
        refine Classical.byContradiction fun w => ?_
        exact hi2 ((x - y) % size).toNat (by omega) (by
          rw [show ((((x - y) % size).toNat : Nat) : Int) = (x - y) % size by omega, ey]
          exact hy)
      have hi0 : i ≠ 0 := fun w => hi (by rw [w, show x - ((0 : Nat) : Int) = x by omega, emod_pos x0 x1]; exact hx)
      -- where it begins
      have f0 := Int.emod_nonneg (x - (i - 1 : Int)) (show size ≠ 0 by omega)
      have f1 := Int.emod_lt_of_pos (x - (i - 1 : Int)) hs
      have hf : ∀ j : Int, ((x - (i - 1 : Int)) % size + j) % size = (x - (i - 1 - j)) % size := fun j => by
        rw [Int.add_emod, Int.emod_emod, ← Int.add_emod]
        congr 1
        omega
      have ex : ∃ m : Nat, ¬ S (((x - (i - 1 : Int)) % size + (m : Int)) % size) := ⟨(i - 1 + size.toNat - i), by
        rw [hf]
        rw [show x - ((i : Int) - 1 - ((i - 1 + size.toNat - i : Nat) : Int)) = x - (i : Int) + size by omega]
        simpa using hi⟩
      obtain ⟨m, hm, hm2⟩ := least_of ex
      have him : (i : Int) ≤ m := by
        refine Classical.byContradiction fun w => hm ?_
        rw [hf]
        have := hi2 (i - 1 - m) (by omega)
        rw [show ((i - 1 - m : Nat) : Int) = (i : Int) - 1 - (m : Int) by omega] at this
        exact Classical.not_not.mp this
      refine ⟨((x - (i - 1 : Int)) % size, (m : Int)), (h3 _).mpr ⟨f0, f1, ?_, by simp only; omega, fun j j0 j1 => ?_, hm⟩, ?_⟩
      · simp only
        rw [show (x - (i - 1 : Int)) % size - 1 = (x - (i - 1 : Int)) % size + (-1) by omega, hf]
        rw [show x - ((i : Int) - 1 - (-1)) = x - (i : Int) by omega]
        exact hi
      · simp only at *
        have := hm2 j.toNat (by omega)
        rw [show ((j.toNat : Nat) : Int) = j by omega] at this
        exact Classical.not_not.mp this
      · simp only
        have e : (x - (x - (i - 1 : Int)) % size) % size = (i : Int) - 1 := by
          have e1 : (x - (x - (i - 1 : Int)) % size) % size = ((i : Int) - 1) % size := by
            rw [Int.sub_emod, Int.emod_emod, ← Int.sub_emod]
            congr 1
            omega
          rw [e1]
          exact emod_pos (by omega) (by omega)
        rw [e]
        omega
/-! ### a pattern at a position -/
theorem polN_len (d : DiT) (x : Int) : (polN d x).length = d.2.2.length := by unfold polN; rw [List.length_map]
theorem polN_ix {d : DiT} {x i : Int} (h0 : 0 ≤ i) (h1 : i < d.2.2.length) : ixF (polN d x) i = colsN d.1 (ixF d.2.1 (ixF d.2.2 i).1) (ixF d.2.2 i).2.1 (ixF d.2.2 i).2.2 x := ix_map (fun s : SeT => colsN d.1 (ixF d.2.1 s.1) s.2.1 s.2.2 x) h0 h1
/-- each colour of a pattern is possible for its sensor -/
def Can (d : DiT) (x : Int) (pat : List Int) : Prop := ∀ i : Int, 0 ≤ i → i < d.2.2.length → ixF pat i ∈ ixF (polN d x) i
theorem can_at {d : DiT} (h : DiscOk d) (x : Int) {pat : List Int} (hl : pat.length = d.2.2.length) : (can_read d x pat = true ↔ Can d x pat) ∧ can_read_ok d x pat := by
  refine ⟨?_, possible_k h x, trivial⟩
  rw [can_read_eq]
  unfold can_read_b
  simp only [possible_at]
  rw [all_map]
  unfold Can
  constructor
  · intro g i i0 i1
    have hz := zip_at (xs := pat) (ys := polN d x) i0 (by omega) (by rw [polN_len]; omega)
    have := g (ixF pat i, ixF (polN d x) i) (by
      rw [← hz]
      exact ix_in i0 (by rw [List.length_zip, polN_len]; omega))
    simpa using this
  · intro g z hz
    obtain ⟨n, hn, e⟩ := List.getElem_of_mem hz
    rw [List.length_zip, polN_len] at hn
    have e2 := zip_at (xs := pat) (ys := polN d x) (i := (n : Int)) (by omega) (by omega) (by rw [polN_len]; omega)
    have e3 := (ix_nat (xs := List.zip pat (polN d x)) (i := (n : Int)) (by omega) (by rw [List.length_zip, polN_len]; omega)).2
    simp only [Int.toNat_natCast] at e3
    rw [List.getElem?_eq_getElem (by rw [List.length_zip, polN_len]; omega)] at e3
    injection e3 with e3
    rw [← e, e3, e2]
    simpa using g (n : Int) (by omega) (by omega)
theorem can_alg {d : DiT} (h : DiscOk d) (x : Int) (pat : List Int) : Can d x pat ↔ Alg d [pat] x := by
  have hcol : ∀ i : Int, colR [pat] i = [ixF pat i] := fun i => rfl
  unfold Can Alg SenR
  constructor
  · intro g z hz
    obtain ⟨z0, z1, z2⟩ := en_mem.mp hz
    have hm : z.2 ∈ d.2.2 := by rw [z2]; exact ix_in z0 z1
    obtain ⟨a1, a2, a3, a4, a5, a6⟩ := h.sen _ hm
    have := g z.1 z0 z1
    rw [polN_ix z0 z1, ← z2] at this
    obtain ⟨p, p0, p1, p2⟩ := (cols_mem (sen_trk h hm) h.sz a5 a6 _).mp this
    exact ⟨p, p0, p1, by rw [hcol, rc_single]; exact p2⟩
  · intro g i i0 i1
    have hm := ix_in i0 i1
    obtain ⟨a1, a2, a3, a4, a5, a6⟩ := h.sen _ hm
    obtain ⟨p, p0, p1, p2⟩ := g (i, ixF d.2.2 i) (en_mem.mpr ⟨i0, i1, rfl⟩)
    rw [polN_ix i0 i1]
    rw [hcol, rc_single] at p2
    exact (cols_mem (sen_trk h hm) h.sz a5 a6 _).mpr ⟨p, p0, p1, p2⟩
theorem reading_at {d : DiT} (h : DiscOk d) (x : Int) (seats : List Int) : reading d x seats = readN d x seats ∧ reading_ok d x seats := by
  constructor
  · rw [reading_eq]
    unfold reading_b readN
    simp only [colour_at]
  · refine ⟨fun z hz' => ?_, trivial⟩
    have hm := (List.of_mem_zip hz').1
    obtain ⟨a1, a2, _⟩ := h.sen _ hm
    exact ⟨colour_k h a1 a2 _, trivial⟩
def seatS (d : DiT) (x : Int) (z : SeT × Int) : Int := if cc d.1 (ixF d.2.1 z.1.1) (x + z.1.2.1) = z.2 then z.1.2.1 else z.1.2.2
theorem seats_for_at {d : DiT} (h : DiscOk d) (x : Int) {pat : List Int} (hl : pat.length = d.2.2.length) : seats_for_ok d x pat ∧ (¬ Can d x pat → seats_for d x pat = none) ∧ (Can d x pat → ∃ seats, seats_for d x pat = some seats ∧ SeatsOk d.2.2 seats ∧ readN d x seats = pat) := by
  obtain ⟨c1, c2⟩ := can_at h x hl
  have hf := h.sfew
  have e : ∀ st z, seats_for_l0 d x st z = st ++ [seatS d x z] := by
    intro st z
    unfold seats_for_l0 seatS
    simp only [colour_at, decide_eq_true_eq]
  have e2 : seats_for_l0 d x = fun st z => st ++ [seatS d x z] := by funext st z; exact e st z
  have hv : seats_for d x pat = if can_read d x pat = true then some ((List.zip d.2.2 pat).map (seatS d x)) else none := by
    rw [seats_for_eq]
    unfold seats_for_b
    simp only [e2, foldl_app, List.nil_append]
    cases can_read d x pat <;> simp
  refine ⟨⟨c2, fun _ => ⟨?_, trivial⟩, trivial⟩, fun g => ?_, fun g => ?_⟩
  · refine foldOk_app (N := 100) (g := seatS d x) e (fun z hz st hst => ?_) (by rw [List.length_zip]; simp; omega)
    have hm := (List.of_mem_zip hz).1
    obtain ⟨a1, a2, _⟩ := h.sen _ hm
    exact ⟨colour_k h a1 a2 _, by omega, trivial⟩
  · rw [hv, if_neg (fun w => g (c1.mp w))]
  · have hlen : ((List.zip d.2.2 pat).map (seatS d x)).length = d.2.2.length := by rw [List.length_map, List.length_zip]; omega
    have hix : ∀ i : Int, 0 ≤ i → i < d.2.2.length → ixF ((List.zip d.2.2 pat).map (seatS d x)) i = seatS d x (ixF d.2.2 i, ixF pat i) := fun i i0 i1 => by
      rw [ix_map (seatS d x) i0 (by rw [List.length_zip]; omega), zip_at i0 i1 (by omega)]
    refine ⟨_, by rw [hv, if_pos (c1.mpr g)], seats_at.mpr ⟨hlen, fun i i0 i1 => ?_⟩, ?_⟩
    · rw [hix i i0 i1]
      obtain ⟨a1, a2, a3, a4, a5, a6⟩ := h.sen _ (ix_in i0 i1)
      unfold seatS
      split
      · exact ⟨Int.le_refl _, a5⟩
      · exact ⟨a5, Int.le_refl _⟩
    · refine list_ix (by rw [readN_len hlen, hl]) fun i i0 i1 => ?_
      rw [readN_len hlen] at i1
      rw [readN_ix hlen i0 i1, hix i i0 i1]
      have gi := g i i0 i1
      rw [polN_ix i0 i1] at gi
      unfold seatS
      split
      · rename_i w
        exact w
      · rename_i w
        unfold colsN at gi
        split at gi
        · simp at gi
          exact absurd gi.symm w
        · rename_i w2
          have b1 := cc_bd d.1 (ixF d.2.1 (ixF d.2.2 i).1) (x + (ixF d.2.2 i).2.1)
          have b2 := cc_bd d.1 (ixF d.2.1 (ixF d.2.2 i).1) (x + (ixF d.2.2 i).2.2)
          simp only at *
          simp at gi
          omega
end Q

set_option maxRecDepth 100000
set_option maxHeartbeats 0
namespace Dl
open PySem
abbrev f_joined : Nat := 0
abbrev f_pieces_of : Nat := 1
abbrev f_common : Nat := 2
abbrev f_arcs_of : Nat := 3
abbrev f_going_round : Nat := 4
abbrev f_colour : Nat := 5
abbrev f_reading : Nat := 6
abbrev f_colours : Nat := 7
abbrev f_possible : Nat := 8
abbrev f_can_read : Nat := 9
abbrev f_seats_for : Nat := 10
abbrev f_stretches : Nat := 11
abbrev f_row_cells : Nat := 12
abbrev f_along : Nat := 13
abbrev f_positions : Nat := 14
abbrev f_law_deck : Nat := 15
abbrev f_law_draw : Nat := 16
abbrev f_law_one : Nat := 17
abbrev f_law_borders : Nat := 18
abbrev f_law_shortest : Nat := 19
abbrev f_law_track : Nat := 20
abbrev f_law_disc : Nat := 21
abbrev f_law_great : Nat := 22
abbrev f_law_holds : Nat := 23
abbrev f_law_alone : Nat := 24
abbrev f_law : Nat := 25
def b_joined : List St := [.asg 1 (.lst []), .for_ (.t [.v 2, .v 3]) (.ex (.var 0)) [.ifs (.and (.cmp .ne (.var 1) (.lst [])) (.cmp .le (.var 2) (.idx (.idx (.var 1) (.neg (.c (.int 1)))) (.c (.int 1))))) [.setI 1 (.neg (.c (.int 1))) (.tup [.idx (.idx (.var 1) (.neg (.c (.int 1)))) (.c (.int 0)), .bi .max2 [.idx (.idx (.var 1) (.neg (.c (.int 1)))) (.c (.int 1)), .var 3]])] [.app 1 (.tup [.var 2, .var 3])]], .ret (.var 1)]
def fn_joined : Fn := ⟨1, 4, b_joined⟩
def n_joined : List Str := ["some", "found", "first", "end"]
def b_pieces_of : List St := [.asg 2 (.lst []), .for_ (.t [.v 3, .v 4]) (.ex (.var 1)) [.asg 5 (.bin .mod (.var 3) (.var 0)), .asg 6 (.bin .add (.var 5) (.bi .min2 [.var 4, .var 0])), .app 2 (.tup [.var 5, .bi .min2 [.var 6, .var 0]]), .ifs (.cmp .gt (.var 6) (.var 0)) [.app 2 (.tup [.c (.int 0), .bin .sub (.var 6) (.var 0)])] []], .ret (.call f_joined [.bi .sorted [.var 2]])]
def fn_pieces_of : Fn := ⟨2, 7, b_pieces_of⟩
def n_pieces_of : List Str := ["size", "arcs", "found", "first", "many", "begin", "end"]
def b_common : List St := [.asg 2 (.lst []), .for_ (.t [.v 3, .v 4]) (.ex (.var 0)) [.for_ (.t [.v 5, .v 6]) (.ex (.var 1)) [.ifs (.cmp .lt (.bi .max2 [.var 3, .var 5]) (.bi .min2 [.var 4, .var 6])) [.app 2 (.tup [.bi .max2 [.var 3, .var 5], .bi .min2 [.var 4, .var 6]])] []]], .ret (.var 2)]
def fn_common : Fn := ⟨2, 7, b_common⟩
def n_common : List Str := ["some", "others", "found", "first", "end", "begin", "last"]
def b_arcs_of : List St := [.ifs (.or (.cmp .lt (.bi .len [.var 1]) (.c (.int 2))) (.or (.cmp .gt (.idx (.idx (.var 1) (.c (.int 0))) (.c (.int 0))) (.c (.int 0))) (.cmp .lt (.idx (.idx (.var 1) (.neg (.c (.int 1)))) (.c (.int 1))) (.var 0)))) [.ret (.bi .tuple [.lc (.tup [.var 2, .bin .sub (.var 3) (.var 2)]) [2, 3] (.t [.v 2, .v 3]) (.ex (.var 1)) (.c (.bool true))])] [], .asg 4 (.lc (.tup [.var 2, .bin .sub (.var 3) (.var 2)]) [2, 3] (.t [.v 2, .v 3]) (.ex (.slB (.var 1) (.c (.int 1)) (.neg (.c (.int 1))))) (.c (.bool true))), .ret (.bi .tuple [.bin .add (.var 4) (.lst [.tup [.idx (.idx (.var 1) (.neg (.c (.int 1)))) (.c (.int 0)), .bin .add (.bin .sub (.var 0) (.idx (.idx (.var 1) (.neg (.c (.int 1)))) (.c (.int 0)))) (.idx (.idx (.var 1) (.c (.int 0))) (.c (.int 1)))]])])]
def fn_arcs_of : Fn := ⟨2, 5, b_arcs_of⟩
def n_arcs_of : List Str := ["size", "some", "first", "end", "found"]
def b_going_round : List St := [.ret (.ite (.cmp .eq (.bin .mod (.bi .len [.idx (.var 0) (.c (.int 1))]) (.c (.int 2))) (.c (.int 0))) (.idx (.var 0) (.c (.int 1))) (.bin .add (.tup [.c (.int 0)]) (.idx (.var 0) (.c (.int 1)))))]
def fn_going_round : Fn := ⟨1, 1, b_going_round⟩
def n_going_round : List Str := ["track"]
def b_colour : List St := [.unp [.v 3, .v 4] (.idx (.idx (.var 0) (.c (.int 1))) (.var 1)), .asg 5 (.bin .mod (.var 2) (.idx (.var 0) (.c (.int 0)))), .ret (.bin .mod (.bin .add (.var 3) (.bi .len [.lc (.var 6) [6] (.v 6) (.ex (.var 4)) (.cmp .le (.var 6) (.var 5))])) (.c (.int 2)))]
def fn_colour : Fn := ⟨3, 7, b_colour⟩
def n_colour : List Str := ["disc", "track", "cell", "first", "borders", "place", "border"]
def b_reading : List St := [.ret (.bi .tuple [.lc (.call f_colour [.var 0, .idx (.var 3) (.c (.int 0)), .bin .add (.var 1) (.var 4)]) [3, 4] (.t [.v 3, .v 4]) (.zip2 (.idx (.var 0) (.c (.int 2))) (.var 2)) (.c (.bool true))])]
def fn_reading : Fn := ⟨3, 5, b_reading⟩
def n_reading : List Str := ["disc", "position", "seats", "sensor", "seat"]
def b_colours : List St := [.unp [.v 3, .v 4, .v 5] (.var 1), .asg 6 (.tup [.call f_colour [.var 0, .var 3, .bin .add (.var 2) (.var 4)], .call f_colour [.var 0, .var 3, .bin .add (.var 2) (.var 5)]]), .ret (.ite (.cmp .eq (.idx (.var 6) (.c (.int 0))) (.idx (.var 6) (.c (.int 1)))) (.tup [.idx (.var 6) (.c (.int 0))]) (.tup [.c (.int 0), .c (.int 1)]))]
def fn_colours : Fn := ⟨3, 7, b_colours⟩
def n_colours : List Str := ["disc", "sensor", "position", "track", "low", "high", "some"]
def b_possible : List St := [.ret (.bi .tuple [.lc (.call f_colours [.var 0, .var 2, .var 1]) [2] (.v 2) (.ex (.idx (.var 0) (.c (.int 2)))) (.c (.bool true))])]
def fn_possible : Fn := ⟨2, 3, b_possible⟩
def n_possible : List Str := ["disc", "position", "sensor"]
def b_can_read : List St := [.ret (.bi .all [.lc (.cmp .isin (.var 3) (.var 4)) [3, 4] (.t [.v 3, .v 4]) (.zip2 (.var 2) (.call f_possible [.var 0, .var 1])) (.c (.bool true))])]
def fn_can_read : Fn := ⟨3, 5, b_can_read⟩
def n_can_read : List Str := ["disc", "position", "pattern", "one", "some"]
def b_seats_for : List St := [.ifs (.not (.call f_can_read [.var 0, .var 1, .var 2])) [.ret (.c .none)] [], .asg 3 (.lst []), .for_ (.t [.t [.v 4, .v 5, .v 6], .v 7]) (.zip2 (.idx (.var 0) (.c (.int 2))) (.var 2)) [.app 3 (.ite (.cmp .eq (.call f_colour [.var 0, .var 4, .bin .add (.var 1) (.var 5)]) (.var 7)) (.var 5) (.var 6))], .ret (.bi .tuple [.var 3])]
def fn_seats_for : Fn := ⟨3, 8, b_seats_for⟩
def n_seats_for : List Str := ["disc", "position", "pattern", "found", "track", "low", "high", "one"]
def b_stretches : List St := [.asg 3 (.call f_going_round [.idx (.idx (.var 0) (.c (.int 1))) (.var 1)]), .ifs (.cmp .eq (.var 3) (.tup [])) [.ret (.ite (.cmp .eq (.call f_colour [.var 0, .var 1, .c (.int 0)]) (.var 2)) (.lst [.tup [.c (.int 0), .idx (.var 0) (.c (.int 0))]]) (.lst []))] [], .asg 4 (.lst []), .for_ (.t [.v 5, .v 6]) (.zip2 (.var 3) (.bin .add (.slF (.var 3) (.c (.int 1))) (.slT (.var 3) (.c (.int 1))))) [.ifs (.cmp .eq (.call f_colour [.var 0, .var 1, .var 5]) (.var 2)) [.app 4 (.tup [.var 5, .bin .mod (.bin .sub (.var 6) (.var 5)) (.idx (.var 0) (.c (.int 0)))])] []], .ret (.var 4)]
def fn_stretches : Fn := ⟨3, 7, b_stretches⟩
def n_stretches : List Str := ["disc", "track", "wanted", "borders", "found", "border", "later"]
def b_row_cells : List St := [.asg 3 (.lc (.var 4) [4] (.v 4) (.rng2 (.c (.int 1)) (.bi .len [.var 2])) (.cmp .ne (.idx (.var 2) (.var 4)) (.idx (.var 2) (.bin .sub (.var 4) (.c (.int 1)))))), .ifs (.cmp .eq (.var 3) (.lst [])) [.asg 5 (.lc (.tup [.var 6, .bin .add (.bin .sub (.var 7) (.bi .len [.var 2])) (.c (.int 1))]) [6, 7] (.t [.v 6, .v 7]) (.ex (.call f_stretches [.var 0, .var 1, .idx (.var 2) (.c (.int 0))])) (.cmp .lt (.var 7) (.idx (.var 0) (.c (.int 0))))), .asg 8 (.lc (.tup [.c (.int 0), .idx (.var 0) (.c (.int 0))]) [6, 7] (.t [.v 6, .v 7]) (.ex (.call f_stretches [.var 0, .var 1, .idx (.var 2) (.c (.int 0))])) (.cmp .eq (.var 7) (.idx (.var 0) (.c (.int 0))))), .ret (.bin .add (.lc (.var 9) [9] (.v 9) (.ex (.var 5)) (.cmp .gt (.idx (.var 9) (.c (.int 1))) (.c (.int 0)))) (.var 8))] [], .asg 5 (.lst []), .for_ (.v 10) (.ex (.call f_going_round [.idx (.idx (.var 0) (.c (.int 1))) (.var 1)])) [.asg 6 (.bin .sub (.var 10) (.idx (.var 3) (.c (.int 0)))), .ifs (.cmp .eq (.lc (.call f_colour [.var 0, .var 1, .bin .add (.var 6) (.var 4)]) [4] (.v 4) (.rng1 (.bi .len [.var 2])) (.c (.bool true))) (.bi .list [.var 2])) [.app 5 (.tup [.var 6, .c (.int 1)])] []], .ret (.var 5)]
def fn_row_cells : Fn := ⟨3, 11, b_row_cells⟩
def n_row_cells : List Str := ["disc", "track", "row", "changes", "number", "found", "first", "many", "whole", "arc", "border"]
def b_along : List St := [.asg 2 (.lst [.tup [.c (.int 0), .idx (.var 0) (.c (.int 0))]]), .for_ (.t [.v 3, .t [.v 4, .v 5, .v 6]]) (.enum (.idx (.var 0) (.c (.int 2)))) [.asg 7 (.call f_row_cells [.var 0, .var 4, .lc (.idx (.var 8) (.var 3)) [8] (.v 8) (.ex (.var 1)) (.c (.bool true))]), .asg 9 (.lc (.tup [.bin .sub (.var 10) (.var 6), .bin .sub (.bin .add (.var 11) (.var 6)) (.var 5)]) [10, 11] (.t [.v 10, .v 11]) (.ex (.var 7)) (.c (.bool true))), .asg 2 (.call f_common [.var 2, .call f_pieces_of [.idx (.var 0) (.c (.int 0)), .var 9]])], .ret (.call f_arcs_of [.idx (.var 0) (.c (.int 0)), .var 2])]
def fn_along : Fn := ⟨2, 12, b_along⟩
def n_along : List Str := ["disc", "row", "found", "number", "track", "low", "high", "cells", "pattern", "some", "first", "many"]
def b_positions : List St := [.ret (.call f_along [.var 0, .tup [.var 1]])]
def fn_positions : Fn := ⟨2, 2, b_positions⟩
def n_positions : List Str := ["disc", "pattern"]
def b_law_deck : List St := [.ret (.lst [.bi .list [.slT (.var 0) (.c (.int 63))], .c (.int 0), .c (.int 0), .c (.int 0)])]
def fn_law_deck : Fn := ⟨1, 1, b_law_deck⟩
def n_law_deck : List Str := ["_law_script"]
def b_law_draw : List St := [.setI 0 (.c (.int 3)) (.bin .add (.idx (.var 0) (.c (.int 3))) (.c (.int 1))), .ifs (.cmp .gt (.idx (.var 0) (.c (.int 2))) (.c (.int 0))) [.asg 2 (.bin .mod (.bi .int [.idx (.var 0) (.c (.int 2))]) (.var 1)), .setI 0 (.c (.int 2)) (.bin .fdiv (.idx (.var 0) (.c (.int 2))) (.var 1)), .ret (.var 2)] [], .asg 3 (.c (.int 59)), .ifs (.cmp .ne (.idx (.var 0) (.c (.int 0))) (.lst [])) [.asg 3 (.idx (.idx (.var 0) (.c (.int 0))) (.bin .mod (.bi .int [.idx (.var 0) (.c (.int 1))]) (.bi .len [.idx (.var 0) (.c (.int 0))])))] [], .setI 0 (.c (.int 1)) (.bin .add (.idx (.var 0) (.c (.int 1))) (.c (.int 1))), .ifs (.and (.cmp .ge (.bi .abs [.var 3]) (.bin .pow (.c (.int 10)) (.c (.int 18)))) (.cmp .le (.idx (.var 0) (.c (.int 1))) (.bi .len [.idx (.var 0) (.c (.int 0))]))) [.setI 0 (.c (.int 2)) (.bin .fdiv (.bi .abs [.var 3]) (.var 1)), .ret (.bin .mod (.bi .int [.bi .abs [.var 3]]) (.var 1))] [], .asg 4 (.bin .mod (.bin .pow (.bi .int [.bin .add (.bin .mod (.bi .int [.var 3]) (.c (.int 2147483629))) (.bin .mul (.c (.int 32452843)) (.idx (.var 0) (.c (.int 3))))]) (.c (.int 5))) (.c (.int 2147483647))), .asg 4 (.bin .mod (.bin .pow (.bi .int [.bin .add (.bin .mul (.var 4) (.bin .add (.bin .mul (.c (.int 2)) (.idx (.var 0) (.c (.int 3)))) (.c (.int 3)))) (.c (.int 4211))]) (.c (.int 3))) (.c (.int 2147483587))), .ret (.bin .mod (.bin .fdiv (.var 4) (.c (.int 64))) (.var 1))]
def fn_law_draw : Fn := ⟨2, 5, b_law_draw⟩
def n_law_draw : List Str := ["_law_deck_here", "_law_many", "_law_found", "_law_cell", "_law_mixed"]
def b_law_one : List St := [.ret (.idx (.var 1) (.call f_law_draw [.var 0, .bi .len [.var 1]]))]
def fn_law_one : Fn := ⟨2, 2, b_law_one⟩
def n_law_one : List Str := ["_law_deck_here", "_law_items"]
def b_law_borders : List St := [.asg 2 (.bi .list [.idx (.var 1) (.c (.int 1))]), .ret (.ite (.cmp .eq (.bin .mod (.bi .len [.var 2]) (.c (.int 2))) (.c (.int 0))) (.var 2) (.bin .add (.lst [.c (.int 0)]) (.var 2)))]
def fn_law_borders : Fn := ⟨2, 3, b_law_borders⟩
def n_law_borders : List Str := ["_law_size", "_law_track_here", "_law_some"]
def b_law_shortest : List St := [.asg 2 (.call f_law_borders [.var 0, .var 1]), .ifs (.cmp .eq (.var 2) (.lst [])) [.ret (.var 0)] [], .ret (.bi .min1 [.lc (.bin .mod (.bi .int [.bin .sub (.var 4) (.var 3)]) (.var 0)) [3, 4] (.t [.v 3, .v 4]) (.zip2 (.var 2) (.bin .add (.slF (.var 2) (.c (.int 1))) (.slT (.var 2) (.c (.int 1))))) (.c (.bool true))])]
def fn_law_shortest : Fn := ⟨2, 5, b_law_shortest⟩
def n_law_shortest : List Str := ["_law_size", "_law_track_here", "_law_some", "_law_border", "_law_later"]
def b_law_track : List St := [.par [2, 3, 4] [.lst [], .c (.int 0), .call f_law_one [.var 0, .lst [.c (.int 1), .c (.int 3), .c (.int 6), .c (.int 10), .bin .mul (.c (.int 2)) (.var 1)]]], .whl (.and (.cmp .lt (.bin .add (.var 3) (.c (.int 1))) (.var 1)) (.cmp .lt (.bi .len [.var 2]) (.c (.int 24)))) [.asg 3 (.bin .add (.bin .add (.var 3) (.c (.int 1))) (.call f_law_draw [.var 0, .var 4])), .ifs (.cmp .lt (.var 3) (.var 1)) [.app 2 (.var 3)] []], .ifs (.cmp .eq (.call f_law_draw [.var 0, .c (.int 3)]) (.c (.int 0))) [.asg 2 (.slF (.var 2) (.call f_law_draw [.var 0, .c (.int 3)]))] [], .ret (.tup [.call f_law_draw [.var 0, .c (.int 2)], .bi .tuple [.var 2]])]
def fn_law_track : Fn := ⟨2, 5, b_law_track⟩
def n_law_track : List Str := ["_law_deck_here", "_law_size", "_law_some", "_law_cell", "_law_wide"]
def b_law_disc : List St := [.asg 4 (.bin .add (.c (.int 2)) (.call f_law_draw [.var 0, .bin .sub (.var 1) (.c (.int 1))])), .asg 5 (.bi .tuple [.lc (.call f_law_track [.var 0, .var 4]) [6] (.v 6) (.rng1 (.bin .add (.c (.int 1)) (.call f_law_draw [.var 0, .c (.int 3)]))) (.c (.bool true))]), .asg 7 (.lst []), .for_ (.v 6) (.rng1 (.bin .add (.c (.int 1)) (.call f_law_draw [.var 0, .var 2]))) [.par [8, 9] [.call f_law_draw [.var 0, .bi .len [.var 5]], .call f_law_draw [.var 0, .var 4]], .asg 10 (.bi .min2 [.bi .int [.var 3], .bi .int [.call f_law_shortest [.var 4, .idx (.var 5) (.var 8)]]]), .app 7 (.tup [.var 8, .var 9, .bin .add (.var 9) (.call f_law_draw [.var 0, .var 10])])], .ret (.tup [.var 4, .var 5, .bi .tuple [.var 7]])]
def fn_law_disc : Fn := ⟨4, 11, b_law_disc⟩
def n_law_disc : List Str := ["_law_deck_here", "_law_most", "_law_many", "_law_wide", "_law_size", "_law_tracks", "_law_k", "_law_sensors", "_law_number", "_law_low", "_law_more"]
def b_law_great : List St := [.asg 2 (.bin .add (.c (.int 1000)) (.call f_law_draw [.var 0, .c (.int 999001)])), .asg 3 (.lst []), .for_ (.v 4) (.rng1 (.bin .add (.c (.int 1)) (.call f_law_draw [.var 0, .c (.int 3)]))) [.asg 5 (.lc (.bin .add (.c (.int 1)) (.call f_law_draw [.var 0, .bin .sub (.var 2) (.c (.int 1))])) [6] (.v 6) (.rng1 (.call f_law_draw [.var 0, .c (.int 9)])) (.c (.bool true))), .app 3 (.tup [.call f_law_draw [.var 0, .c (.int 2)], .bi .tuple [.bi .setsorted [.var 5]]])], .asg 7 (.lst []), .for_ (.v 4) (.rng1 (.bin .add (.c (.int 1)) (.call f_law_draw [.var 0, .var 1]))) [.par [8, 9] [.call f_law_draw [.var 0, .bi .len [.var 3]], .call f_law_draw [.var 0, .var 2]], .asg 10 (.call f_law_shortest [.var 2, .idx (.var 3) (.var 8)]), .app 7 (.tup [.var 8, .var 9, .bin .add (.var 9) (.call f_law_one [.var 0, .lst [.c (.int 0), .call f_law_draw [.var 0, .var 10], .call f_law_draw [.var 0, .var 10], .bin .sub (.var 10) (.c (.int 1))]])])], .ret (.tup [.var 2, .bi .tuple [.var 3], .bi .tuple [.var 7]])]
def fn_law_great : Fn := ⟨2, 11, b_law_great⟩
def n_law_great : List Str := ["_law_deck_here", "_law_many", "_law_size", "_law_tracks", "_law_k", "_law_some", "_law_border", "_law_sensors", "_law_number", "_law_low", "_law_more"]
def b_law_holds : List St := [.ret (.cmp .ne (.lc (.c (.int 1)) [3, 4] (.t [.v 3, .v 4]) (.ex (.var 1)) (.cmp .lt (.bin .mod (.bi .int [.bin .sub (.var 2) (.var 3)]) (.var 0)) (.var 4))) (.lst []))]
def fn_law_holds : Fn := ⟨3, 5, b_law_holds⟩
def n_law_holds : List Str := ["_law_size", "_law_arcs", "_law_position", "_law_first", "_law_many"]
def b_law_alone : List St := [.ret (.lc (.tup [.idx (.var 0) (.c (.int 0)), .idx (.var 0) (.c (.int 1)), .tup [.var 1]]) [1] (.v 1) (.ex (.idx (.var 0) (.c (.int 2)))) (.c (.bool true)))]
def fn_law_alone : Fn := ⟨1, 2, b_law_alone⟩
def n_law_alone : List Str := ["_law_disc_here", "_law_sensor"]
def b_law : List St := [.asg 1 (.call f_law_deck [.var 0]), .for_ (.v 2) (.rng1 (.c (.int 6))) [.asg 3 (.ite (.cmp .eq (.call f_law_draw [.var 1, .c (.int 2)]) (.c (.int 0))) (.call f_law_disc [.var 1, .c (.int 30), .c (.int 6), .c (.int 9)]) (.call f_law_great [.var 1, .c (.int 6)])), .par [4, 5] [.call f_law_alone [.var 3], .idx (.var 3) (.c (.int 0))], .asg 6 (.bi .tuple [.lc (.call f_law_draw [.var 1, .c (.int 2)]) [7] (.v 7) (.ex (.idx (.var 3) (.c (.int 2)))) (.c (.bool true))]), .asg 8 (.lc (.call f_positions [.var 9, .tup [.var 10]]) [9, 10] (.t [.v 9, .v 10]) (.zip2 (.var 4) (.var 6)) (.c (.bool true))), .asg 11 (.call f_positions [.var 3, .var 6]), .asg 12 (.lc (.var 13) [13, 14] (.t [.v 13, .v 14]) (.ex (.var 11)) (.c (.bool true))), .for_ (.v 15) (.rng1 (.c (.int 6))) [.asg 16 (.call f_law_one [.var 1, .bin .add (.var 12) (.lst [.call f_law_draw [.var 1, .var 5], .call f_law_draw [.var 1, .var 5]])]), .asg 17 (.cmp .eq (.lc (.var 9) [9] (.v 9) (.ex (.var 8)) (.not (.call f_law_holds [.var 5, .var 9, .var 16]))) (.lst [])), .asg 18 (.lst [.call f_can_read [.var 3, .var 16, .var 6], .call f_law_holds [.var 5, .var 11, .var 16]]), .ifs (.cmp .ne (.var 18) (.lst [.var 17, .var 17])) [.ret (.c (.bool false))] [], .asg 19 (.bi .tuple [.lc (.idx (.call f_possible [.var 9, .var 16]) (.c (.int 0))) [9] (.v 9) (.ex (.var 4)) (.c (.bool true))]), .ifs (.cmp .ne (.bi .repr [.call f_possible [.var 3, .var 16]]) (.bi .repr [.var 19])) [.ret (.c (.bool false))] [], .asg 9 (.bi .tuple [.lc (.call f_law_one [.var 1, .var 20]) [20] (.v 20) (.ex (.var 19)) (.c (.bool true))]), .asg 21 (.bi .tuple [.lc (.call f_law_one [.var 1, .var 20]) [20] (.v 20) (.ex (.var 19)) (.c (.bool true))]), .par [13, 22] [.call f_seats_for [.var 3, .var 16, .var 9], .call f_seats_for [.var 3, .var 16, .var 21]], .asg 23 (.call f_law_draw [.var 1, .bin .add (.bi .len [.var 9]) (.c (.int 1))]), .ifs (.cmp .ne (.call f_reading [.var 3, .var 16, .bin .add (.slT (.var 13) (.var 23)) (.slF (.var 22) (.var 23))]) (.bin .add (.slT (.var 9) (.var 23)) (.slF (.var 21) (.var 23)))) [.ret (.c (.bool false))] []]], .ret (.c (.bool true))]
def fn_law : Fn := ⟨1, 24, b_law⟩
def n_law : List Str := ["_law_script", "_law_deck_here", "_law_lap", "_law_disc_here", "_law_single", "_law_size", "_law_marks", "_law_sensor", "_law_arcs", "_law_one_here", "_law_one_mark", "_law_whole", "_law_ends", "_law_first", "_law_many", "_law_k", "_law_position", "_law_everywhere", "_law_shown", "_law_due", "_law_both", "_law_two", "_law_second", "_law_cut"]
def tab : List Fn := [fn_joined, fn_pieces_of, fn_common, fn_arcs_of, fn_going_round, fn_colour, fn_reading, fn_colours, fn_possible, fn_can_read, fn_seats_for, fn_stretches, fn_row_cells, fn_along, fn_positions, fn_law_deck, fn_law_draw, fn_law_one, fn_law_borders, fn_law_shortest, fn_law_track, fn_law_disc, fn_law_great, fn_law_holds, fn_law_alone, fn_law]
def fnl : List (Str × List Bool) := [("joined", [false]), ("pieces_of", [false, false]), ("common", [false, false]), ("arcs_of", [false, false]), ("going_round", [false]), ("colour", [false, false, false]), ("reading", [false, false, false]), ("colours", [false, false, false]), ("possible", [false, false]), ("can_read", [false, false, false]), ("seats_for", [false, false, false]), ("stretches", [false, false, false]), ("row_cells", [false, false, false]), ("along", [false, false]), ("positions", [false, false]), ("_law_deck", [false]), ("_law_draw", [false, false]), ("_law_one", [false, false]), ("_law_borders", [false, false]), ("_law_shortest", [false, false]), ("_law_track", [false, false]), ("_law_disc", [false, false, false, false]), ("_law_great", [false, false]), ("_law_holds", [false, false, false]), ("_law_alone", [false]), ("law", [false])]
def csl : List (Str × PyData) := []
def nms : List (List Str) := [n_joined, n_pieces_of, n_common, n_arcs_of, n_going_round, n_colour, n_reading, n_colours, n_possible, n_can_read, n_seats_for, n_stretches, n_row_cells, n_along, n_positions, n_law_deck, n_law_draw, n_law_one, n_law_borders, n_law_shortest, n_law_track, n_law_disc, n_law_great, n_law_holds, n_law_alone, n_law]
abbrev Pg : Program := PySem.Challenge.pw_discsight_k11_whole_each_sensor_by_itsel
abbrev lw : PySem.W.OpenLaw := PySem.Challenge.rw_discsight_k11_whole_each_sensor_by_itsel
abbrev RR : PySem.W.OpenRow := PySem.W.OpenLaw.row lw
theorem comp_tab : ((defsOf Pg).zip nms).map (fun q => cFn q.2 fnl csl q.1) = tab.map some := by kernel_rfl
theorem fits : fitB Pg nms fnl csl = true := by kernel_rfl
abbrev hk : PySem.W.Hook := He.hookD 4 (faOf Pg csl) (dsOf Pg)
def obv (s : PySem.W.SharedT) : He.AlD := He.obsDG 4 (faOf Pg csl) (dsOf Pg) (HandSHeadRun.getT s)
theorem obv_eq (s : PySem.W.SharedT) : obv s = hk.obs s.abs := He.obsDG_eq (HandSHeadRun.getT_eq s)
def loose : List Str := csl.map (·.1) ++ ((dsOf Pg).map (·.name)).dropLast
theorem run (w : World) : HandSHeadRun.RunEq RR (PySem.W.view RR.prog [29]) hk obv 2000 loose w := by
  intro os
  kernel_rfl
end Dl
namespace Q
open PySem hiding Env Arg
open Dl Lf
noncomputable section
theorem sz_eq : sizeLine = 16777216 := rfl
theorem own_p (d : PyData) : (D.p d).own = false := rfl
theorem own_o (d : PyData) : (D.o d).own = true := rfl
theorem eqv_nil (xs : List Int) : PyData.eqv (.list (xs.map .int)) (.list []) = xs.isEmpty := by
  cases xs <;> rfl
theorem call_draw (k : Nat) (ds : List D) : callF tab (k + 1) f_law_draw ds = runF (callF tab k) fn_law_draw ds := rfl
theorem draw1 (k : Nat) (xs : List Int) (a b c m : Int) (hb : 0 < b) (hm : 0 < m) (hm2 : m.natAbs.log2 < 9000) :
    callF tab (k + 1) f_law_draw [deckO ⟨xs, a, b, c⟩, .p (.int m)] = .ok (pI (b % m)) [deckO ⟨xs, a, b / m, c + 1⟩] := by
  rw [call_draw]
  simp [runF, evSs, setIS, ev_var, ev_c, ev_tup, ev_lst, ev_bop, ev_neg, ev_not, ev_cmp, ev_ch, ev_and, ev_or, ev_ite, ev_idx, ev_slF, ev_slT, ev_slB, ev_rev, ev_call, ev_bi, ev_isT, ev_inR, ev_esc, es_asg, es_unp, es_par, es_setI, es_exp, es_app, es_ext, es_ret, es_retN, es_ifs, es_pass, es_cont, evAs, evEs, bin2, un1, opnd, Ex.vix, Res.bind, Res.out, Arg.dat, Arg.get, D.dat, binD, idxB, idxD, datR, ofO, intR, listAt, setIx, putL, Out.seq, ownIx, own_p, own_o, ifS, boolR, cmpB, cmpD, pB, pI, asgS, setS, datsOf, biD, arg1, intD, retS, retE, escS, outsOf, getS, onInt, lenD, doCall, takeAll, giveBack, seqOf, sz_eq, fn_law_draw, b_law_draw, deckO, atP, L2.ixN, hb, hm, hm2]
theorem mix_ok (v c : Int) (hc : 0 ≤ c) (hc2 : c ≤ 10 ^ 9) : powOk (v % 2147483629 + 32452843 * (c + 1)) 5 = true ∧ powOk (mix1 v c * (2 * (c + 1) + 3) + 4211) 3 = true := by
  refine ⟨powOk_of (j := 5) (by omega) (by omega), powOk_of (j := 3) ?_ (by omega)⟩
  unfold mix1
  generalize (v % 2147483629 + 32452843 * (c + 1)) ^ 5 = z
  have e1 : 0 ≤ z % 2147483647 := by omega
  have e2 : z % 2147483647 < 2147483647 := by omega
  have e3 : z % 2147483647 * (2 * (c + 1) + 3) ≤ 2147483647 * (2 * (c + 1) + 3) := Int.mul_le_mul_of_nonneg_right (by omega) (by omega)
  have e4 : 0 ≤ z % 2147483647 * (2 * (c + 1) + 3) := Int.mul_nonneg e1 (by omega)
  omega
theorem draw2 (k : Nat) (xs : List Int) (a b c m v : Int) (hb : ¬ 0 < b) (hm : 0 < m) (hc : 0 ≤ c) (hc2 : c ≤ 10 ^ 9) (hv : (if xs = [] then some (.int 59) else atP (xs.map .int) (a % xs.length)) = some (.int v)) (hbig : ¬ (10 ^ 18 ≤ (if v < 0 then -v else v) ∧ a + 1 ≤ xs.length)) :
    callF tab (k + 1) f_law_draw [deckO ⟨xs, a, b, c⟩, .p (.int m)] = .ok (pI (mix2 v c / 64 % m)) [deckO ⟨xs, a + 1, b, c + 1⟩] := by
  rw [call_draw]
  obtain ⟨h1, h5⟩ := mix_ok v c hc hc2
  have h2 : ∀ i, mulOk 32452843 i = true := fun i => mulOk_of (by omega) (by omega)
  have h3 : ∀ i, mulOk 2 i = true := fun i => mulOk_of (by omega) (by omega)
  have h4 : ∀ i j, mulOk (i % 2147483647) j = true := fun i j => mulOk_of (by omega) (by omega)
  unfold mix1 at h5
  have hs := shp_ints xs
  have hn := eqv_nil xs
  have hz : shp (.list []) = true := by decide
  have hp : powOk 10 18 = true := by decide
  have g64 : Nat.log2 64 < 9000 := by decide
  cases xs with
  | nil =>
    simp at hv
    subst hv
    have g1 : (59 : Int) % 2147483629 = 59 := by decide
    rw [g1] at h1 h5
    simp [runF, evSs, setIS, ev_var, ev_c, ev_tup, ev_lst, ev_bop, ev_neg, ev_not, ev_cmp, ev_ch, ev_and, ev_or, ev_ite, ev_idx, ev_slF, ev_slT, ev_slB, ev_rev, ev_call, ev_bi, ev_isT, ev_inR, ev_esc, es_asg, es_unp, es_par, es_setI, es_exp, es_app, es_ext, es_ret, es_retN, es_ifs, es_pass, es_cont, evAs, evEs, bin2, un1, opnd, Ex.vix, Res.bind, Res.out, Arg.dat, Arg.get, D.dat, binD, idxB, idxD, datR, ofO, intR, listAt, setIx, putL, Out.seq, ownIx, own_p, own_o, ifS, boolR, cmpB, cmpD, pB, pI, asgS, setS, datsOf, biD, arg1, intD, retS, retE, escS, outsOf, getS, onInt, lenD, doCall, takeAll, giveBack, seqOf, sz_eq, fn_law_draw, b_law_draw, deckO, atP, L2.ixN, hb, hm, h1, h2, h3, h4, h5, hz, hp, g64, mix1, mix2, PyData.eqv, PyData.eqvAll]
  | cons x xs =>
    have e0 : (x :: xs = []) = False := by simp
    rw [if_neg (by simp)] at hv
    have hl : (0 : Int) < (xs.length : Int) + 1 := by omega
    have hs2 : shp (.list (.int x :: xs.map .int)) = true := hs
    have hv2 : atP (.int x :: xs.map .int) (a % ((xs.length : Int) + 1)) = some (.int v) := by simpa using hv
    simp at hbig
    by_cases hB : 1000000000000000000 ≤ (if v < 0 then -v else v)
    · have hA : ¬ a ≤ (xs.length : Int) := by have := hbig hB; omega
      simp [runF, evSs, setIS, ev_var, ev_c, ev_tup, ev_lst, ev_bop, ev_neg, ev_not, ev_cmp, ev_ch, ev_and, ev_or, ev_ite, ev_idx, ev_slF, ev_slT, ev_slB, ev_rev, ev_call, ev_bi, ev_isT, ev_inR, ev_esc, es_asg, es_unp, es_par, es_setI, es_exp, es_app, es_ext, es_ret, es_retN, es_ifs, es_pass, es_cont, evAs, evEs, bin2, un1, opnd, Ex.vix, Res.bind, Res.out, Arg.dat, Arg.get, D.dat, binD, idxB, idxD, datR, ofO, intR, listAt, setIx, putL, Out.seq, ownIx, own_p, own_o, ifS, boolR, cmpB, cmpD, pB, pI, asgS, setS, datsOf, biD, arg1, intD, retS, retE, escS, outsOf, getS, onInt, lenD, doCall, takeAll, giveBack, seqOf, sz_eq, fn_law_draw, b_law_draw, deckO, atP0, atP1, atP2, atP3, L2.ixN, hb, hm, hl, hs2, hv2, h1, h2, h3, h4, h5, hz, hp, g64, mix1, mix2, PyData.eqv, PyData.eqvAll, hA, hB]
    · simp [runF, evSs, setIS, ev_var, ev_c, ev_tup, ev_lst, ev_bop, ev_neg, ev_not, ev_cmp, ev_ch, ev_and, ev_or, ev_ite, ev_idx, ev_slF, ev_slT, ev_slB, ev_rev, ev_call, ev_bi, ev_isT, ev_inR, ev_esc, es_asg, es_unp, es_par, es_setI, es_exp, es_app, es_ext, es_ret, es_retN, es_ifs, es_pass, es_cont, evAs, evEs, bin2, un1, opnd, Ex.vix, Res.bind, Res.out, Arg.dat, Arg.get, D.dat, binD, idxB, idxD, datR, ofO, intR, listAt, setIx, putL, Out.seq, ownIx, own_p, own_o, ifS, boolR, cmpB, cmpD, pB, pI, asgS, setS, datsOf, biD, arg1, intD, retS, retE, escS, outsOf, getS, onInt, lenD, doCall, takeAll, giveBack, seqOf, sz_eq, fn_law_draw, b_law_draw, deckO, atP0, atP1, atP2, atP3, L2.ixN, hb, hm, hl, hs2, hv2, h1, h2, h3, h4, h5, hz, hp, g64, mix1, mix2, PyData.eqv, PyData.eqvAll, hB]
theorem draw3 (k : Nat) (x : Int) (xs : List Int) (a b c m v : Int) (hb : ¬ 0 < b) (hm : 0 < m) (hm2 : m.natAbs.log2 < 9000) (hv : atP ((x :: xs).map .int) (a % (x :: xs).length) = some (.int v)) (hB : 10 ^ 18 ≤ (if v < 0 then -v else v)) (hA : a + 1 ≤ (x :: xs).length) :
    callF tab (k + 1) f_law_draw [deckO ⟨x :: xs, a, b, c⟩, .p (.int m)] = .ok (pI ((if v < 0 then -v else v) % m)) [deckO ⟨x :: xs, a + 1, (if v < 0 then -v else v) / m, c + 1⟩] := by
  rw [call_draw]
  have hl : (0 : Int) < (xs.length : Int) + 1 := by omega
  have hs2 : shp (.list (.int x :: xs.map .int)) = true := shp_ints (x :: xs)
  have hv2 : atP (.int x :: xs.map .int) (a % ((xs.length : Int) + 1)) = some (.int v) := by simpa using hv
  have hz : shp (.list []) = true := by decide
  have hp : powOk 10 18 = true := by decide
  simp at hB
  have hA : a ≤ (xs.length : Int) := by simp at hA; omega
  simp [runF, evSs, setIS, ev_var, ev_c, ev_tup, ev_lst, ev_bop, ev_neg, ev_not, ev_cmp, ev_ch, ev_and, ev_or, ev_ite, ev_idx, ev_slF, ev_slT, ev_slB, ev_rev, ev_call, ev_bi, ev_isT, ev_inR, ev_esc, es_asg, es_unp, es_par, es_setI, es_exp, es_app, es_ext, es_ret, es_retN, es_ifs, es_pass, es_cont, evAs, evEs, bin2, un1, opnd, Ex.vix, Res.bind, Res.out, Arg.dat, Arg.get, D.dat, binD, idxB, idxD, datR, ofO, intR, listAt, setIx, putL, Out.seq, ownIx, own_p, own_o, ifS, boolR, cmpB, cmpD, pB, pI, asgS, setS, datsOf, biD, arg1, intD, retS, retE, escS, outsOf, getS, onInt, lenD, doCall, takeAll, giveBack, seqOf, sz_eq, fn_law_draw, b_law_draw, deckO, atP0, atP1, atP2, atP3, L2.ixN, hb, hm, hm2, hl, hs2, hv2, hz, hp, PyData.eqv, PyData.eqvAll, hA, hB]
theorem draw_rf (k : Nat) (d : Deck) (m : Int) (hk : DrOk d m) : CallOk (callF tab (k + 1)) f_law_draw [deckO d, .p (.int m)] (.x (.p (.int (drawF d m).1))) [.x (deckO (drawF d m).2)] := by
  obtain ⟨xs, a, b, c⟩ := d
  obtain ⟨⟨h1, h2⟩, h3, h4⟩ := hk
  have hl := log_of h3 h4
  suffices h : callF tab (k + 1) f_law_draw [deckO ⟨xs, a, b, c⟩, .p (.int m)] = .ok (pI (drawF ⟨xs, a, b, c⟩ m).1) [deckO (drawF ⟨xs, a, b, c⟩ m).2] from ⟨_, _, h, rfl, rfl, trivial⟩
  unfold drawF
  by_cases hb : 0 < b
  · rw [if_pos hb]
    exact draw1 k xs a b c m hb h3 hl
  · rw [if_neg hb]
    cases xs with
    | nil =>
      rw [if_neg (by simp [deckV, absI])]
      exact draw2 k [] a b c m 59 hb h3 h1 h2 (by simp) (by simp)
    | cons x xs =>
      have hn : (0 : Int) < ((x :: xs).length : Int) := by simp
      have e1 := Int.emod_nonneg a (show ((x :: xs).length : Int) ≠ 0 by omega)
      have e2 := Int.emod_lt_of_pos a hn
      have hv : atP ((x :: xs).map .int) (a % ((x :: xs).length : Int)) = some (.int (deckV ⟨x :: xs, a, b, c⟩)) := by
        unfold deckV
        rw [if_neg (by simp)]
        exact at_ix (f := eI) ⟨by omega, by omega⟩
      by_cases hB : 10 ^ 18 ≤ absI (deckV ⟨x :: xs, a, b, c⟩) ∧ a + 1 ≤ ((x :: xs).length : Int)
      · rw [if_pos hB]
        exact draw3 k x xs a b c m _ hb h3 hl hv hB.1 hB.2
      · rw [if_neg hB]
        exact draw2 k (x :: xs) a b c m _ hb h3 h1 h2 (by simpa using hv) hB
theorem deck_rf (k : Nat) (ns : List Int) : CallOk (callF tab (k + 1)) f_law_deck [.p (eL eI ns)] (.x (deckO (deckI ns))) [] := by
  refine ⟨_, [], ?_, rfl, trivial⟩
  show runF (callF tab k) fn_law_deck [.p (.list (ns.map .int))] = _
  have h := cut_map .int ns none (some 63)
  simp [runF, evSs, setIS, ev_var, ev_c, ev_tup, ev_lst, ev_bop, ev_neg, ev_not, ev_cmp, ev_ch, ev_and, ev_or, ev_ite, ev_idx, ev_slF, ev_slT, ev_slB, ev_rev, ev_call, ev_bi, ev_isT, ev_inR, ev_esc, es_asg, es_unp, es_par, es_setI, es_exp, es_app, es_ext, es_ret, es_retN, es_ifs, es_pass, es_cont, evAs, evEs, bin2, un1, opnd, Ex.vix, Res.bind, Res.out, Arg.dat, Arg.get, D.dat, binD, idxB, idxD, datR, ofO, intR, listAt, setIx, putL, Out.seq, ownIx, own_p, own_o, ifS, boolR, cmpB, cmpD, pB, pI, asgS, setS, datsOf, biD, arg1, intD, retS, retE, escS, outsOf, getS, onInt, lenD, doCall, takeAll, giveBack, seqOf, sz_eq, fn_law_deck, b_law_deck, slTD, slD, h, deckO, deckI]
theorem call_one (k : Nat) (ds : List D) : callF tab (k + 1) f_law_one ds = runF (callF tab k) fn_law_one ds := rfl
theorem one_gen (k : Nat) {α : Type} (e : α → PyData) (its : List α) (dk dk' dd : D) (n : Int) (x : α) (ho : dk.own = true) (ho' : dk'.own = true) (hd : dd = .p (eT e its) ∨ dd = .o (eL e its) ∨ dd = .p (eL e its)) (g : callF tab (k + 1) f_law_draw [dk, .p (.int its.length)] = .ok (.p (.int n)) [dk']) (ha : atP (its.map e) n = some (e x)) :
    callF tab (k + 2) f_law_one [dk, dd] = .ok (.p (e x)) (match dd.own with | true => [dk', dd] | false => [dk']) := by
  rw [call_one]
  rcases hd with rfl | rfl | rfl <;> simp [runF, evSs, setIS, ev_var, ev_c, ev_tup, ev_lst, ev_bop, ev_neg, ev_not, ev_cmp, ev_ch, ev_and, ev_or, ev_ite, ev_idx, ev_slF, ev_slT, ev_slB, ev_rev, ev_call, ev_bi, ev_isT, ev_inR, ev_esc, es_asg, es_unp, es_par, es_setI, es_exp, es_app, es_ext, es_ret, es_retN, es_ifs, es_pass, es_cont, evAs, evEs, bin2, un1, opnd, Ex.vix, Res.bind, Res.out, Arg.dat, Arg.get, D.dat, binD, idxB, idxD, datR, ofO, intR, listAt, setIx, putL, Out.seq, ownIx, own_p, own_o, ifS, boolR, cmpB, cmpD, pB, pI, asgS, setS, datsOf, biD, arg1, intD, retS, retE, escS, outsOf, getS, onInt, lenD, doCall, takeAll, giveBack, seqOf, sz_eq, fn_law_one, b_law_one, ho, ho', g, ha]
theorem one_at (k : Nat) {α : Type} [Inhabited α] (e : α → PyData) (d : Deck) (its : List α) (dd : D) (hd : dd = .p (eT e its) ∨ dd = .o (eL e its) ∨ dd = .p (eL e its)) (hk : OnOk d its) :
    callF tab (k + 2) f_law_one [deckO d, dd] = .ok (.p (e (oneF d its).1)) (match dd.own with | true => [deckO (oneF d its).2, dd] | false => [deckO (oneF d its).2]) := by
  obtain ⟨h1, h2, h3⟩ := hk
  have hl : (0 : Int) < (its.length : Int) := by cases its with | nil => exact absurd rfl h2 | cons _ _ => simp
  obtain ⟨v, o, g1, g2, g3⟩ := draw_rf k d its.length ⟨h1, hl, h3⟩
  cases g2
  cases o with
  | nil => exact g3.elim
  | cons o1 o => cases o with
    | cons _ _ => exact g3.2.elim
    | nil =>
      cases g3.1
      have hlt := drawF_lt d hl
      exact one_gen k e its _ _ dd _ _ rfl rfl hd g1 (at_ix ⟨by omega, by omega⟩)
theorem oneoL_rf (k : Nat) {α : Type} [Inhabited α] (e : α → PyData) (d : Deck) (its : List α) (hk : OnOk d its) : CallOk (callF tab (k + 2)) f_law_one [deckO d, .o (eL e its)] (.x (.p (e (oneF d its).1))) [.x (deckO (oneF d its).2), .x (.o (eL e its))] :=
  ⟨_, _, one_at k e d its _ (.inr (.inl rfl)) hk, rfl, rfl, rfl, trivial⟩
theorem onepT_rf (k : Nat) {α : Type} [Inhabited α] (e : α → PyData) (d : Deck) (its : List α) (hk : OnOk d its) : CallOk (callF tab (k + 2)) f_law_one [deckO d, .p (eT e its)] (.x (.p (e (oneF d its).1))) [.x (deckO (oneF d its).2)] :=
  ⟨_, _, one_at k e d its _ (.inl rfl) hk, rfl, rfl, trivial⟩
theorem onepL_rf (k : Nat) {α : Type} [Inhabited α] (e : α → PyData) (d : Deck) (its : List α) (hk : OnOk d its) : CallOk (callF tab (k + 2)) f_law_one [deckO d, .p (eL e its)] (.x (.p (e (oneF d its).1))) [.x (deckO (oneF d its).2)] :=
  ⟨_, _, one_at k e d its _ (.inr (.inr rfl)) hk, rfl, rfl, trivial⟩

theorem l_track_rfb (k : Nat) (deck_here : Deck) (size : Int) (hk : l_track_ok deck_here size) : CallOk (callF tab (k + 3)) f_law_track [deckO deck_here, .p (eI size)] (.x (.p ((eP2 eI (eT eI)) (l_track_b deck_here size).1))) [.x (deckO (l_track_b deck_here size).2)] :=
  call_fn (k := k + 2) (R := ((Int × (List Int)) × Deck)) (fun v => .x (.p ((eP2 eI (eT eI)) v.1))) (fun v => [.x (deckO v.2), .u, .u, .u, .u]) [.x (deckO deck_here), .x (.p (eI size)), .u, .u, .u] [.x (deckO (l_track_b deck_here size).2)] rfl rfl rfl [0] rfl rfl rfl
  (let q : (Int × Deck) := oneF deck_here [(1 : Int), (3 : Int), (6 : Int), (10 : Int), ((2 : Int) * size)]; let deck_here_1 : Deck := q.2; let some_v : List Int := ([] : List Int); let cell : Int := (0 : Int); let wide : Int := q.1; let st_1 : (Deck × (List Int) × Int) := whG (l_track_w0_c size wide) (l_track_w0 size wide) fu (deck_here_1, some_v, cell); let deck_here_5 : Deck := st_1.1; let some_v_4 : List Int := st_1.2.1; let cell_4 : Int := st_1.2.2; let q_2 : (Int × Deck) := drawF deck_here_5 (3 : Int); let deck_here_6 : Deck := q_2.2; let st_2 : (Deck × (List Int)) := (if (decide (q_2.1 = (0 : Int))) = true then (let q_3 : (Int × Deck) := drawF deck_here_6 (3 : Int); let deck_here_7 : Deck := q_3.2; let some_v_5 : List Int := (cutF some_v_4 (some q_3.1) none); (deck_here_7, some_v_5)) else (deck_here_6, some_v_4)); let deck_here_8 : Deck := st_2.1; let some_v_6 : List Int := st_2.2; let q_4 : (Int × Deck) := drawF deck_here_8 (2 : Int); let deck_here_9 : Deck := q_4.2; (ss_c (s_pa (ds_c (s := .x (.o ((eL eI) some_v))) (ev_ls es_n rfl) (ds_c (s := .x (.p (eI cell))) (ev_k _) (ds_c (s := .x (.p (eI wide))) (Ev.le (σ2 := [.x (deckO deck_here_1), .x (.p (eI size)), .u, .u, .u]) (ev_ca (σ2 := [.u, .x (.p (eI size)), .u, .u, .u]) (ds := [deckO deck_here, .o ((eL eI) [(1 : Int), (3 : Int), (6 : Int), (10 : Int), ((2 : Int) * size)])]) (as_c (op_vx rfl) (as_c (op_e rfl (ev_ls (es_c (ev_k _) rfl (es_c (ev_k _) rfl (es_c (ev_k _) rfl (es_c (ev_k _) rfl (es_c (ev_bi2 (op_e rfl (ev_k _)) (op_vx rfl) rfl rfl (bd_mull (i := (2 : Int)) (j := size) (by decide))) rfl es_n))))) rfl)) as_n)) rfl (oneoL_rf (k + 0) eI deck_here [(1 : Int), (3 : Int), (6 : Int), (10 : Int), ((2 : Int) * size)] hk.1)) (.s (.s (.u (.u (.u .n)))))) ds_n))) rfl rfl)
  (ss_c (s_wh (fun st : (Deck × (List Int) × Int) => [.x (deckO st.1), .x (.p (eI size)), .x (.o ((eL eI) st.2.1)), .x (.p (eI st.2.2)), .x (.p (eI wide))]) (l_track_w0_c size wide) (l_track_w0_cok size wide) (l_track_w0_ok size wide) (l_track_w0 size wide) (deck_here_1, some_v, cell) (.s (.s (.s (.s (.s .n))))) (fun st h2 => let deck_here_2 : Deck := st.1; let some_v_1 : List Int := st.2.1; let cell_1 : Int := st.2.2; (ev_an (k := (decide ((cell_1 + (1 : Int)) < size))) (j := (decide ((some_v_1.length : Int) < (24 : Int)))) (ev_cm (k := (decide ((cell_1 + (1 : Int)) < size))) (op_e rfl (ev_bi2 (op_vx rfl) (op_e rfl (ev_k _)) rfl rfl rfl)) (op_vx rfl) rfl rfl rfl) (fun h3 => (ev_cm (k := (decide ((some_v_1.length : Int) < (24 : Int)))) (op_e rfl (ev_bu (as_c (op_vx rfl) as_n) rfl (bi_lenL eI some_v_1))) (op_e rfl (ev_k _)) rfl rfl rfl)) (Le.refl _) (Le.refl _))) (fun st h1 => let deck_here_3 : Deck := st.1; let some_v_2 : List Int := st.2.1; let cell_2 : Int := st.2.2; let q_1 : (Int × Deck) := drawF deck_here_3 wide; let deck_here_4 : Deck := q_1.2; let cell_3 : Int := ((cell_2 + (1 : Int)) + q_1.1); (ss_c (s_as (s := .x (.p (eI cell_3))) (ev_bi2 (op_e rfl (ev_bi2 (op_vx rfl) (op_e rfl (ev_k _)) rfl rfl rfl)) (op_e rfl (Ev.le (σ2 := [.x (deckO deck_here_4), .x (.p (eI size)), .x (.o ((eL eI) some_v_2)), .x (.p (eI cell_2)), .x (.p (eI wide))]) (ev_ca (σ2 := [.u, .x (.p (eI size)), .x (.o ((eL eI) some_v_2)), .x (.p (eI cell_2)), .x (.p (eI wide))]) (ds := [deckO deck_here_3, .p (eI wide)]) (as_c (op_vx rfl) (as_c (op_vx rfl) as_n)) rfl (draw_rf (k + 1) deck_here_3 wide h1.1)) (.s (.s (.s (.s (.s .n))))))) rfl rfl rfl) rfl)
  (sp_ifn (k := (decide (cell_3 < size))) (ev_cm (k := (decide (cell_3 < size))) (op_vx rfl) (op_vx rfl) rfl rfl rfl) (fun h4 => (let some_v_3 : List Int := some_v_2 ++ [cell_3]; (ss_c (s_ap (f := eI) (y := cell_3) (xs := some_v_2) (ws := some_v_2) rfl (ev_p rfl) rfl rfl (h1.2.1 h4).1)
  (sp_en (.s (.s (.s (.s (.s .n))))))))) (fun h5 => (sp_en (.s (.s (.s (.s (.s .n)))))))))) hk.2.1)
  (ss_c (s_if (k := (decide (q_2.1 = (0 : Int)))) (x := (let q_3 : (Int × Deck) := drawF deck_here_6 (3 : Int); let deck_here_7 : Deck := q_3.2; let some_v_5 : List Int := (cutF some_v_4 (some q_3.1) none); (deck_here_7, some_v_5))) (y := (deck_here_6, some_v_4)) (fun st : (Deck × (List Int)) => [.x (deckO st.1), .x (.p (eI size)), .x (.o ((eL eI) st.2)), .x (.p (eI cell_4)), .x (.p (eI wide))]) (ev_cm (k := (decide (q_2.1 = (0 : Int)))) (op_e rfl (Ev.le (σ2 := [.x (deckO deck_here_6), .x (.p (eI size)), .x (.o ((eL eI) some_v_4)), .x (.p (eI cell_4)), .x (.p (eI wide))]) (ev_ca (σ2 := [.u, .x (.p (eI size)), .x (.o ((eL eI) some_v_4)), .x (.p (eI cell_4)), .x (.p (eI wide))]) (ds := [deckO deck_here_5, .p (eI (3 : Int))]) (as_c (op_vx rfl) (as_c (op_e rfl (ev_k _)) as_n)) rfl (draw_rf (k + 1) deck_here_5 (3 : Int) hk.2.2.1)) (.s (.s (.s (.s (.s .n))))))) (op_e rfl (ev_k _)) rfl rfl (cm_eq enc_I (by decide) q_2.1 (0 : Int))) (fun h6 => (let q_3 : (Int × Deck) := drawF deck_here_6 (3 : Int); let deck_here_7 : Deck := q_3.2; let some_v_5 : List Int := (cutF some_v_4 (some q_3.1) none); (ss_c (s_as (s := .x (.o ((eL eI) some_v_5))) (ev_sf (op_vx rfl) (op_e rfl (Ev.le (σ2 := [.x (deckO deck_here_7), .x (.p (eI size)), .x (.o ((eL eI) some_v_4)), .x (.p (eI cell_4)), .x (.p (eI wide))]) (ev_ca (σ2 := [.u, .x (.p (eI size)), .x (.o ((eL eI) some_v_4)), .x (.p (eI cell_4)), .x (.p (eI wide))]) (ds := [deckO deck_here_6, .p (eI (3 : Int))]) (as_c (op_vx rfl) (as_c (op_e rfl (ev_k _)) as_n)) rfl (draw_rf (k + 1) deck_here_6 (3 : Int) (hk.2.2.2.1 h6).1)) (.s (.s (.s (.s (.s .n))))))) rfl rfl (sf_L eI some_v_4 q_3.1)) rfl)
  (nx_en (.s (.s (.s (.s (.s .n))))))))) (fun h7 => (nx_en (.s (.s (.s (.s (.s .n))))))))
  (sp_rt (re_e rfl (ev_tu (es_c (Ev.le (σ2 := [.x (deckO deck_here_9), .x (.p (eI size)), .x (.o ((eL eI) some_v_6)), .x (.p (eI cell_4)), .x (.p (eI wide))]) (ev_ca (σ2 := [.u, .x (.p (eI size)), .x (.o ((eL eI) some_v_6)), .x (.p (eI cell_4)), .x (.p (eI wide))]) (ds := [deckO deck_here_8, .p (eI (2 : Int))]) (as_c (op_vx rfl) (as_c (op_e rfl (ev_k _)) as_n)) rfl (draw_rf (k + 1) deck_here_8 (2 : Int) hk.2.2.2.2.1)) (.s (.s (.s (.s (.s .n)))))) rfl (es_c (ev_bu (as_c (op_vx rfl) as_n) rfl (bi_tup _)) rfl es_n)) rfl)) (.s (.u (.u (.u (.u .n))))))))))
theorem l_track_rf (k : Nat) (deck_here : Deck) (size : Int) (hk : l_track_ok deck_here size) : CallOk (callF tab (k + 3)) f_law_track [deckO deck_here, .p (eI size)] (.x (.p ((eP2 eI (eT eI)) (l_track deck_here size).1))) [.x (deckO (l_track deck_here size).2)] := by
  rw [l_track_eq]
  exact l_track_rfb k deck_here size hk
theorem l_borders_rfb (k : Nat) (size : Int) (track_here : (Int × (List Int))) (hk : l_borders_ok size track_here) : CallOk (callF tab (k + 1)) f_law_borders [.p (eI size), .p ((eP2 eI (eT eI)) track_here)] (.w ((eL eI) (l_borders_b size track_here))) [] :=
  call_fn (k := k + 0) (R := List Int) (fun v => .w ((eL eI) v)) (fun v => [.u, .u, .u]) [.x (.p (eI size)), .x (.p ((eP2 eI (eT eI)) track_here)), .u] [] rfl rfl rfl [] rfl rfl rfl
  (let some_v : List Int := track_here.2; (ss_c (s_as (s := .x (.o ((eL eI) some_v))) (ev_bu (as_c (op_e rfl (ev_ix (op_vx rfl) (op_e rfl (ev_k _)) rfl rfl (ix_t1 _ _ _))) as_n) rfl (bi_lst2 _)) rfl)
  (sp_rt (re_e rfl (ev_if (fun z : List Int => .w ((eL eI) z)) (k := (decide (((some_v.length : Int) % (2 : Int)) = (0 : Int)))) (x := some_v) (y := ([(0 : Int)] ++ some_v)) (ev_cm (k := (decide (((some_v.length : Int) % (2 : Int)) = (0 : Int)))) (op_e rfl (ev_bi2 (op_e rfl (ev_bu (as_c (op_vx rfl) as_n) rfl (bi_lenL eI some_v))) (op_e rfl (ev_k _)) rfl rfl (bd_mod (i := (some_v.length : Int)) (j := (2 : Int)) (by decide)))) (op_e rfl (ev_k _)) rfl rfl (cm_eq enc_I (by decide) ((some_v.length : Int) % (2 : Int)) (0 : Int))) (fun h1 => (Ev.le (Ev.dd (v := (eL eI) some_v) (ev_o rfl) (.inl rfl)) (.s (.s (.dp .n))))) (fun h2 => (Ev.le (Ev.dd (v := (eL eI) ([(0 : Int)] ++ some_v)) (ev_bi2 (op_e rfl (ev_ls (es_c (ev_k _) rfl es_n) rfl)) (op_vx rfl) rfl rfl (bd_L (f := eI) (xs := [(0 : Int)]) (ys := some_v) (hk.1 h2).1)) (.inr rfl)) (.s (.s (.do_ .n))))))) (.u (.u (.u .n))))))
theorem l_borders_rf (k : Nat) (size : Int) (track_here : (Int × (List Int))) (hk : l_borders_ok size track_here) : CallOk (callF tab (k + 1)) f_law_borders [.p (eI size), .p ((eP2 eI (eT eI)) track_here)] (.w ((eL eI) (l_borders size track_here))) [] := by
  rw [l_borders_eq]
  exact l_borders_rfb k size track_here hk
theorem l_shortest_rfb (k : Nat) (size : Int) (track_here : (Int × (List Int))) (hk : l_shortest_ok size track_here) : CallOk (callF tab (k + 2)) f_law_shortest [.p (eI size), .p ((eP2 eI (eT eI)) track_here)] (.x (.p (eI (l_shortest_b size track_here)))) [] :=
  call_fn (k := k + 1) (R := Int) (fun v => .x (.p (eI v))) (fun v => [.u, .u, .u, .u, .u]) [.x (.p (eI size)), .x (.p ((eP2 eI (eT eI)) track_here)), .u, .u, .u] [] rfl rfl rfl [] rfl rfl rfl
  (let some_v : List Int := (l_borders size track_here); (ss_c (s_as (s := .w ((eL eI) some_v)) (ev_cp (vs := [eI size, (eP2 eI (eT eI)) track_here]) (as_c (op_vx rfl) (as_c (op_vx rfl) as_n)) rfl (l_borders_rf (k + 0) size track_here hk.1)) rfl)
  (sp_ifr (k := (decide (some_v = ([] : List Int)))) (ev_cm (k := (decide (some_v = ([] : List Int)))) (op_vd rfl) (op_e rfl (ev_ls es_n rfl)) rfl rfl (cm_eq (enc_L enc_I) (by decide) some_v ([] : List Int))) (fun h1 => (sp_rt (re_p (by decide) (ev_p rfl)) (.u (.u (.u (.u (.u .n))))))) (fun h2 => (sp_rt (re_e rfl (ev_bu (as_c (op_e rfl (ev_lm (h := (eP2 eI eI)) (ys := (List.zip some_v ((cutF some_v (some (1 : Int)) none) ++ (cutF some_v none (some (1 : Int)))))) eI (fun y_v : (Int × Int) => let border : Int := y_v.1; let later : Int := y_v.2; ((later - border) % size)) (it_z2 (f := eI) (g := eI) (xs := some_v) (ys := ((cutF some_v (some (1 : Int)) none) ++ (cutF some_v none (some (1 : Int))))) (ev_d rfl) rfl (ev_bi2 (op_e rfl (ev_sf (op_vd rfl) (op_e rfl (ev_k _)) rfl rfl (sf_L eI some_v (1 : Int)))) (op_e rfl (ev_st (op_vd rfl) (op_e rfl (ev_k _)) rfl rfl (st_L eI some_v (1 : Int)))) rfl rfl (bd_L (f := eI) (xs := (cutF some_v (some (1 : Int)) none)) (ys := (cutF some_v none (some (1 : Int)))) (hk.2.1 h2).1)) rfl rfl rfl) (fun y_v h3 => let border : Int := y_v.1; let later : Int := y_v.2; ⟨_, _, _, rfl, (ev_bi2 (op_e rfl (ev_bu (as_c (op_e rfl (ev_bi2 (op_vx rfl) (op_vx rfl) rfl rfl rfl)) as_n) rfl rfl)) (op_vx rfl) rfl rfl (bd_mod (i := (later - border)) (j := size) ((hk.2.1 h2).2.1 y_v h3).1)), rfl, (.s (.s (.s (.u (.u .n)))))⟩))) as_n) rfl (bi_mn (xs := (List.map (fun y_v : (Int × Int) => let border : Int := y_v.1; let later : Int := y_v.2; ((later - border) % size)) (List.zip some_v ((cutF some_v (some (1 : Int)) none) ++ (cutF some_v none (some (1 : Int))))))) (hk.2.1 h2).2.2.1))) (.u (.u (.u (.u (.u .n))))))))))
theorem l_shortest_rf (k : Nat) (size : Int) (track_here : (Int × (List Int))) (hk : l_shortest_ok size track_here) : CallOk (callF tab (k + 2)) f_law_shortest [.p (eI size), .p ((eP2 eI (eT eI)) track_here)] (.x (.p (eI (l_shortest size track_here)))) [] := by
  rw [l_shortest_eq]
  exact l_shortest_rfb k size track_here hk
theorem l_disc_rfb (k : Nat) (deck_here : Deck) (most_v : Int) (many : Int) (wide : Int) (hk : l_disc_ok deck_here most_v many wide) : CallOk (callF tab (k + 4)) f_law_disc [deckO deck_here, .p (eI most_v), .p (eI many), .p (eI wide)] (.x (.p ((eP3 eI (eT (eP2 eI (eT eI))) (eT (eP3 eI eI eI))) (l_disc_b deck_here most_v many wide).1))) [.x (deckO (l_disc_b deck_here most_v many wide).2)] :=
  call_fn (k := k + 3) (R := ((Int × (List (Int × (List Int))) × (List (Int × Int × Int))) × Deck)) (fun v => .x (.p ((eP3 eI (eT (eP2 eI (eT eI))) (eT (eP3 eI eI eI))) v.1))) (fun v => [.x (deckO v.2), .u, .u, .u, .u, .u, .u, .u, .u, .u, .u]) [.x (deckO deck_here), .x (.p (eI most_v)), .x (.p (eI many)), .x (.p (eI wide)), .u, .u, .u, .u, .u, .u, .u] [.x (deckO (l_disc_b deck_here most_v many wide).2)] rfl rfl rfl [0] rfl rfl rfl
  (let q : (Int × Deck) := drawF deck_here (most_v - (1 : Int)); let deck_here_1 : Deck := q.2; let size : Int := ((2 : Int) + q.1); let q_1 : (Int × Deck) := drawF deck_here_1 (3 : Int); let deck_here_2 : Deck := q_1.2; let q_3 : (List (Int × (List Int)) × Deck) := mapS (l_disc_m0 size) deck_here_2 (rgI 0 ((1 : Int) + q_1.1)); let deck_here_4 : Deck := q_3.2; let tracks : List (Int × (List Int)) := q_3.1; let sensors : List (Int × Int × Int) := ([] : List (Int × Int × Int)); let q_4 : (Int × Deck) := drawF deck_here_4 many; let deck_here_5 : Deck := q_4.2; let st_1 : (Deck × (List (Int × Int × Int))) := List.foldl (l_disc_l1 wide size tracks) (deck_here_5, sensors) (rgI 0 ((1 : Int) + q_4.1)); let deck_here_10 : Deck := st_1.1; let sensors_3 : List (Int × Int × Int) := st_1.2; (ss_c (s_as (s := .x (.p (eI size))) (ev_bi2 (op_e rfl (ev_k _)) (op_e rfl (Ev.le (σ2 := [.x (deckO deck_here_1), .x (.p (eI most_v)), .x (.p (eI many)), .x (.p (eI wide)), .u, .u, .u, .u, .u, .u, .u]) (ev_ca (σ2 := [.u, .x (.p (eI most_v)), .x (.p (eI many)), .x (.p (eI wide)), .u, .u, .u, .u, .u, .u, .u]) (ds := [deckO deck_here, .p (eI (most_v - (1 : Int)))]) (as_c (op_vx rfl) (as_c (op_e rfl (ev_bi2 (op_vx rfl) (op_e rfl (ev_k _)) rfl rfl rfl)) as_n)) rfl (draw_rf (k + 2) deck_here (most_v - (1 : Int)) hk.1)) (.s (.s (.s (.s (.u (.u (.u (.u (.u (.u (.u .n))))))))))))) rfl rfl rfl) rfl)
  (ss_c (s_as (s := .x (.p ((eT (eP2 eI (eT eI))) tracks))) (ev_bu (as_c (op_e rfl (ev_lt (h := eI) (ys := (rgI 0 ((1 : Int) + q_1.1))) (eP2 eI (eT eI)) (fun dk => [.x (deckO dk), .x (.p (eI most_v)), .x (.p (eI many)), .x (.p (eI wide)), .x (.p (eI size)), .u, .u, .u, .u, .u, .u]) (l_disc_m0 size) (l_disc_m0_ok size) deck_here_2 (it_r1 (n := ((1 : Int) + q_1.1)) (op_e rfl (ev_bi2 (op_e rfl (ev_k _)) (op_e rfl (Ev.le (σ2 := [.x (deckO deck_here_2), .x (.p (eI most_v)), .x (.p (eI many)), .x (.p (eI wide)), .x (.p (eI size)), .u, .u, .u, .u, .u, .u]) (ev_ca (σ2 := [.u, .x (.p (eI most_v)), .x (.p (eI many)), .x (.p (eI wide)), .x (.p (eI size)), .u, .u, .u, .u, .u, .u]) (ds := [deckO deck_here_1, .p (eI (3 : Int))]) (as_c (op_vx rfl) (as_c (op_e rfl (ev_k _)) as_n)) rfl (draw_rf (k + 2) deck_here_1 (3 : Int) hk.2.1)) (.s (.s (.s (.s (.s (.u (.u (.u (.u (.u (.u .n))))))))))))) rfl rfl rfl)) rfl hk.2.2.1) (.s (.s (.s (.s (.s (.u (.u (.u (.u (.u (.u .n))))))))))) (fun s i hi => by revert i; simp [getA]) (fun dk y_v h1 h2 => let k_v : Int := y_v; let q_2 : ((Int × (List Int)) × Deck) := l_track dk size; let deck_here_3 : Deck := q_2.2; ⟨_, _, _, rfl, (Ev.le (σ2 := [.x (deckO deck_here_3), .x (.p (eI most_v)), .x (.p (eI many)), .x (.p (eI wide)), .x (.p (eI size)), .u, .x (.p (eI k_v)), .u, .u, .u, .u]) (ev_ca (σ2 := [.u, .x (.p (eI most_v)), .x (.p (eI many)), .x (.p (eI wide)), .x (.p (eI size)), .u, .x (.p (eI k_v)), .u, .u, .u, .u]) (ds := [deckO dk, .p (eI size)]) (as_c (op_vx rfl) (as_c (op_vx rfl) as_n)) rfl (l_track_rf (k + 0) dk size h2.1)) (.s (.s (.s (.s (.s (.u (.s (.u (.u (.u (.u .n)))))))))))), rfl, (.s (.s (.s (.s (.s (.u (.u (.u (.u (.u (.u .n)))))))))))⟩) hk.2.2.2.1)) as_n) rfl (bi_tup _)) rfl)
  (ss_c (s_as (s := .x (.o ((eL (eP3 eI eI eI)) sensors))) (ev_ls es_n rfl) rfl)
  (ss_c (s_fo (h := eI) (ys := (rgI 0 ((1 : Int) + q_4.1))) (fun st : (Deck × (List (Int × Int × Int))) => [.x (deckO st.1), .x (.p (eI most_v)), .x (.p (eI many)), .x (.p (eI wide)), .x (.p (eI size)), .x (.p ((eT (eP2 eI (eT eI))) tracks)), .u, .x (.o ((eL (eP3 eI eI eI)) st.2)), .u, .u, .u]) (l_disc_l1 wide size tracks) (l_disc_l1_ok wide size tracks) (deck_here_5, sensors) (it_r1 (n := ((1 : Int) + q_4.1)) (op_e rfl (ev_bi2 (op_e rfl (ev_k _)) (op_e rfl (Ev.le (σ2 := [.x (deckO deck_here_5), .x (.p (eI most_v)), .x (.p (eI many)), .x (.p (eI wide)), .x (.p (eI size)), .x (.p ((eT (eP2 eI (eT eI))) tracks)), .u, .x (.o ((eL (eP3 eI eI eI)) sensors)), .u, .u, .u]) (ev_ca (σ2 := [.u, .x (.p (eI most_v)), .x (.p (eI many)), .x (.p (eI wide)), .x (.p (eI size)), .x (.p ((eT (eP2 eI (eT eI))) tracks)), .u, .x (.o ((eL (eP3 eI eI eI)) sensors)), .u, .u, .u]) (ds := [deckO deck_here_4, .p (eI many)]) (as_c (op_vx rfl) (as_c (op_vx rfl) as_n)) rfl (draw_rf (k + 2) deck_here_4 many hk.2.2.2.2.1)) (.s (.s (.s (.s (.s (.s (.u (.s (.u (.u (.u .n))))))))))))) rfl rfl rfl)) rfl hk.2.2.2.2.2.1) (.s (.s (.s (.s (.s (.s (.u (.s (.u (.u (.u .n))))))))))) (fun st y_v_1 h3 h4 => let deck_here_6 : Deck := st.1; let sensors_1 : List (Int × Int × Int) := st.2; let k_v_1 : Int := y_v_1; let q_5 : (Int × Deck) := drawF deck_here_6 (tracks.length : Int); let deck_here_7 : Deck := q_5.2; let q_6 : (Int × Deck) := drawF deck_here_7 size; let deck_here_8 : Deck := q_6.2; let number : Int := q_5.1; let low : Int := q_6.1; let more : Int := (min2F wide (l_shortest size (ixF tracks number))); let q_7 : (Int × Deck) := drawF deck_here_8 more; let deck_here_9 : Deck := q_7.2; let sensors_2 : List (Int × Int × Int) := sensors_1 ++ [(number, low, (low + q_7.1))]; ⟨_, rfl, (ss_c (s_pa (ds_c (s := .x (.p (eI number))) (Ev.le (σ2 := [.x (deckO deck_here_7), .x (.p (eI most_v)), .x (.p (eI many)), .x (.p (eI wide)), .x (.p (eI size)), .x (.p ((eT (eP2 eI (eT eI))) tracks)), .x (.p (eI k_v_1)), .x (.o ((eL (eP3 eI eI eI)) sensors_1)), .u, .u, .u]) (ev_ca (σ2 := [.u, .x (.p (eI most_v)), .x (.p (eI many)), .x (.p (eI wide)), .x (.p (eI size)), .x (.p ((eT (eP2 eI (eT eI))) tracks)), .x (.p (eI k_v_1)), .x (.o ((eL (eP3 eI eI eI)) sensors_1)), .u, .u, .u]) (ds := [deckO deck_here_6, .p (eI (tracks.length : Int))]) (as_c (op_vx rfl) (as_c (op_e rfl (ev_bu (as_c (op_vx rfl) as_n) rfl (bi_lenT (eP2 eI (eT eI)) tracks))) as_n)) rfl (draw_rf (k + 2) deck_here_6 (tracks.length : Int) h4.1)) (.s (.s (.s (.s (.s (.s (.s (.s (.u (.u (.u .n)))))))))))) (ds_c (s := .x (.p (eI low))) (Ev.le (σ2 := [.x (deckO deck_here_8), .x (.p (eI most_v)), .x (.p (eI many)), .x (.p (eI wide)), .x (.p (eI size)), .x (.p ((eT (eP2 eI (eT eI))) tracks)), .x (.p (eI k_v_1)), .x (.o ((eL (eP3 eI eI eI)) sensors_1)), .u, .u, .u]) (ev_ca (σ2 := [.u, .x (.p (eI most_v)), .x (.p (eI many)), .x (.p (eI wide)), .x (.p (eI size)), .x (.p ((eT (eP2 eI (eT eI))) tracks)), .x (.p (eI k_v_1)), .x (.o ((eL (eP3 eI eI eI)) sensors_1)), .u, .u, .u]) (ds := [deckO deck_here_7, .p (eI size)]) (as_c (op_vx rfl) (as_c (op_vx rfl) as_n)) rfl (draw_rf (k + 2) deck_here_7 size h4.2.1)) (.s (.s (.s (.s (.s (.s (.s (.s (.u (.u (.u .n)))))))))))) ds_n)) rfl rfl)
  (ss_c (s_as (s := .x (.p (eI more))) (ev_bu (as_c (op_e rfl (ev_bu (as_c (op_vx rfl) as_n) rfl rfl)) (as_c (op_e rfl (ev_bu (as_c (op_e rfl (ev_cp (vs := [eI size, (eP2 eI (eT eI)) (ixF tracks number)]) (as_c (op_vx rfl) (as_c (op_e rfl (ev_ix (op_vx rfl) (op_vx rfl) rfl rfl (ix_T (f := (eP2 eI (eT eI))) (xs := tracks) (i := number) h4.2.2.1))) as_n)) rfl (l_shortest_rf (k + 1) size (ixF tracks number) h4.2.2.2.1))) as_n) rfl rfl)) as_n)) rfl rfl) rfl)
  (ss_c (s_ap (f := (eP3 eI eI eI)) (y := (number, low, (low + q_7.1))) (xs := sensors_1) (ws := sensors_1) rfl (ev_tu (es_c (ev_p rfl) rfl (es_c (ev_p rfl) rfl (es_c (ev_bi2 (op_vx rfl) (op_e rfl (Ev.le (σ2 := [.x (deckO deck_here_9), .x (.p (eI most_v)), .x (.p (eI many)), .x (.p (eI wide)), .x (.p (eI size)), .x (.p ((eT (eP2 eI (eT eI))) tracks)), .x (.p (eI k_v_1)), .x (.o ((eL (eP3 eI eI eI)) sensors_1)), .x (.p (eI number)), .x (.p (eI low)), .x (.p (eI more))]) (ev_ca (σ2 := [.u, .x (.p (eI most_v)), .x (.p (eI many)), .x (.p (eI wide)), .x (.p (eI size)), .x (.p ((eT (eP2 eI (eT eI))) tracks)), .x (.p (eI k_v_1)), .x (.o ((eL (eP3 eI eI eI)) sensors_1)), .x (.p (eI number)), .x (.p (eI low)), .x (.p (eI more))]) (ds := [deckO deck_here_8, .p (eI more)]) (as_c (op_vx rfl) (as_c (op_vx rfl) as_n)) rfl (draw_rf (k + 2) deck_here_8 more h4.2.2.2.2.1)) (.s (.s (.s (.s (.s (.s (.s (.s (.s (.s (.s .n))))))))))))) rfl rfl rfl) rfl es_n))) rfl) rfl rfl h4.2.2.2.2.2.1)
  (sp_en (.s (.s (.s (.s (.s (.s (.u (.s (.u (.u (.u .n)))))))))))))))⟩) hk.2.2.2.2.2.2.1)
  (sp_rt (re_e rfl (ev_tu (es_c (ev_p rfl) rfl (es_c (ev_p rfl) rfl (es_c (ev_bu (as_c (op_vx rfl) as_n) rfl (bi_tup _)) rfl es_n))) rfl)) (.s (.u (.u (.u (.u (.u (.u (.u (.u (.u (.u .n)))))))))))))))))
theorem l_disc_rf (k : Nat) (deck_here : Deck) (most_v : Int) (many : Int) (wide : Int) (hk : l_disc_ok deck_here most_v many wide) : CallOk (callF tab (k + 4)) f_law_disc [deckO deck_here, .p (eI most_v), .p (eI many), .p (eI wide)] (.x (.p ((eP3 eI (eT (eP2 eI (eT eI))) (eT (eP3 eI eI eI))) (l_disc deck_here most_v many wide).1))) [.x (deckO (l_disc deck_here most_v many wide).2)] := by
  rw [l_disc_eq]
  exact l_disc_rfb k deck_here most_v many wide hk
theorem l_great_rfb (k : Nat) (deck_here : Deck) (many : Int) (hk : l_great_ok deck_here many) : CallOk (callF tab (k + 3)) f_law_great [deckO deck_here, .p (eI many)] (.x (.p ((eP3 eI (eT (eP2 eI (eT eI))) (eT (eP3 eI eI eI))) (l_great_b deck_here many).1))) [.x (deckO (l_great_b deck_here many).2)] :=
  call_fn (k := k + 2) (R := ((Int × (List (Int × (List Int))) × (List (Int × Int × Int))) × Deck)) (fun v => .x (.p ((eP3 eI (eT (eP2 eI (eT eI))) (eT (eP3 eI eI eI))) v.1))) (fun v => [.x (deckO v.2), .u, .u, .u, .u, .u, .u, .u, .u, .u, .u]) [.x (deckO deck_here), .x (.p (eI many)), .u, .u, .u, .u, .u, .u, .u, .u, .u] [.x (deckO (l_great_b deck_here many).2)] rfl rfl rfl [0] rfl rfl rfl
  (let q : (Int × Deck) := drawF deck_here (999001 : Int); let deck_here_1 : Deck := q.2; let size : Int := ((1000 : Int) + q.1); let tracks : List (Int × (List Int)) := ([] : List (Int × (List Int))); let q_1 : (Int × Deck) := drawF deck_here_1 (3 : Int); let deck_here_2 : Deck := q_1.2; let st_1 : (Deck × (List (Int × (List Int)))) := List.foldl (l_great_l0 size) (deck_here_2, tracks) (rgI 0 ((1 : Int) + q_1.1)); let deck_here_8 : Deck := st_1.1; let tracks_3 : List (Int × (List Int)) := st_1.2; let sensors : List (Int × Int × Int) := ([] : List (Int × Int × Int)); let q_6 : (Int × Deck) := drawF deck_here_8 many; let deck_here_9 : Deck := q_6.2; let st_3 : (Deck × (List (Int × Int × Int))) := List.foldl (l_great_l2 size tracks_3) (deck_here_9, sensors) (rgI 0 ((1 : Int) + q_6.1)); let deck_here_16 : Deck := st_3.1; let sensors_3 : List (Int × Int × Int) := st_3.2; (ss_c (s_as (s := .x (.p (eI size))) (ev_bi2 (op_e rfl (ev_k _)) (op_e rfl (Ev.le (σ2 := [.x (deckO deck_here_1), .x (.p (eI many)), .u, .u, .u, .u, .u, .u, .u, .u, .u]) (ev_ca (σ2 := [.u, .x (.p (eI many)), .u, .u, .u, .u, .u, .u, .u, .u, .u]) (ds := [deckO deck_here, .p (eI (999001 : Int))]) (as_c (op_vx rfl) (as_c (op_e rfl (ev_k _)) as_n)) rfl (draw_rf (k + 1) deck_here (999001 : Int) hk.1)) (.s (.s (.u (.u (.u (.u (.u (.u (.u (.u (.u .n))))))))))))) rfl rfl rfl) rfl)
  (ss_c (s_as (s := .x (.o ((eL (eP2 eI (eT eI))) tracks))) (ev_ls es_n rfl) rfl)
  (ss_c (s_fo (h := eI) (ys := (rgI 0 ((1 : Int) + q_1.1))) (fun st : (Deck × (List (Int × (List Int)))) => [.x (deckO st.1), .x (.p (eI many)), .x (.p (eI size)), .x (.o ((eL (eP2 eI (eT eI))) st.2)), .u, .u, .u, .u, .u, .u, .u]) (l_great_l0 size) (l_great_l0_ok size) (deck_here_2, tracks) (it_r1 (n := ((1 : Int) + q_1.1)) (op_e rfl (ev_bi2 (op_e rfl (ev_k _)) (op_e rfl (Ev.le (σ2 := [.x (deckO deck_here_2), .x (.p (eI many)), .x (.p (eI size)), .x (.o ((eL (eP2 eI (eT eI))) tracks)), .u, .u, .u, .u, .u, .u, .u]) (ev_ca (σ2 := [.u, .x (.p (eI many)), .x (.p (eI size)), .x (.o ((eL (eP2 eI (eT eI))) tracks)), .u, .u, .u, .u, .u, .u, .u]) (ds := [deckO deck_here_1, .p (eI (3 : Int))]) (as_c (op_vx rfl) (as_c (op_e rfl (ev_k _)) as_n)) rfl (draw_rf (k + 1) deck_here_1 (3 : Int) hk.2.1)) (.s (.s (.s (.s (.u (.u (.u (.u (.u (.u (.u .n))))))))))))) rfl rfl rfl)) rfl hk.2.2.1) (.s (.s (.s (.s (.u (.u (.u (.u (.u (.u (.u .n))))))))))) (fun st y_v h1 h2 => let deck_here_3 : Deck := st.1; let tracks_1 : List (Int × (List Int)) := st.2; let k_v : Int := y_v; let q_2 : (Int × Deck) := drawF deck_here_3 (9 : Int); let deck_here_4 : Deck := q_2.2; let q_4 : (List Int × Deck) := mapS (l_great_m1 size) deck_here_4 (rgI 0 q_2.1); let deck_here_6 : Deck := q_4.2; let some_v : List Int := q_4.1; let q_5 : (Int × Deck) := drawF deck_here_6 (2 : Int); let deck_here_7 : Deck := q_5.2; let tracks_2 : List (Int × (List Int)) := tracks_1 ++ [(q_5.1, (dedupA (srtI some_v)))]; ⟨_, rfl, (ss_c (s_as (s := .x (.o ((eL eI) some_v))) (ev_lt (h := eI) (ys := (rgI 0 q_2.1)) eI (fun dk => [.x (deckO dk), .x (.p (eI many)), .x (.p (eI size)), .x (.o ((eL (eP2 eI (eT eI))) tracks_1)), .x (.p (eI k_v)), .u, .u, .u, .u, .u, .u]) (l_great_m1 size) (l_great_m1_ok size) deck_here_4 (it_r1 (n := q_2.1) (op_e rfl (Ev.le (σ2 := [.x (deckO deck_here_4), .x (.p (eI many)), .x (.p (eI size)), .x (.o ((eL (eP2 eI (eT eI))) tracks_1)), .x (.p (eI k_v)), .u, .u, .u, .u, .u, .u]) (ev_ca (σ2 := [.u, .x (.p (eI many)), .x (.p (eI size)), .x (.o ((eL (eP2 eI (eT eI))) tracks_1)), .x (.p (eI k_v)), .u, .u, .u, .u, .u, .u]) (ds := [deckO deck_here_3, .p (eI (9 : Int))]) (as_c (op_vx rfl) (as_c (op_e rfl (ev_k _)) as_n)) rfl (draw_rf (k + 1) deck_here_3 (9 : Int) h2.1)) (.s (.s (.s (.s (.s (.u (.u (.u (.u (.u (.u .n))))))))))))) rfl h2.2.1) (.s (.s (.s (.s (.s (.u (.u (.u (.u (.u (.u .n))))))))))) (fun s i hi => by revert i; simp [getA]) (fun dk y_v_1 h3 h4 => let border : Int := y_v_1; let q_3 : (Int × Deck) := drawF dk (size - (1 : Int)); let deck_here_5 : Deck := q_3.2; ⟨_, _, _, rfl, (ev_bi2 (op_e rfl (ev_k _)) (op_e rfl (Ev.le (σ2 := [.x (deckO deck_here_5), .x (.p (eI many)), .x (.p (eI size)), .x (.o ((eL (eP2 eI (eT eI))) tracks_1)), .x (.p (eI k_v)), .u, .x (.p (eI border)), .u, .u, .u, .u]) (ev_ca (σ2 := [.u, .x (.p (eI many)), .x (.p (eI size)), .x (.o ((eL (eP2 eI (eT eI))) tracks_1)), .x (.p (eI k_v)), .u, .x (.p (eI border)), .u, .u, .u, .u]) (ds := [deckO dk, .p (eI (size - (1 : Int)))]) (as_c (op_vx rfl) (as_c (op_e rfl (ev_bi2 (op_vx rfl) (op_e rfl (ev_k _)) rfl rfl rfl)) as_n)) rfl (draw_rf (k + 1) dk (size - (1 : Int)) h4.1)) (.s (.s (.s (.s (.s (.u (.s (.u (.u (.u (.u .n))))))))))))) rfl rfl rfl), rfl, (.s (.s (.s (.s (.s (.u (.u (.u (.u (.u (.u .n)))))))))))⟩) h2.2.2.1) rfl)
  (ss_c (s_ap (f := (eP2 eI (eT eI))) (y := (q_5.1, (dedupA (srtI some_v)))) (xs := tracks_1) (ws := tracks_1) rfl (ev_tu (es_c (Ev.le (σ2 := [.x (deckO deck_here_7), .x (.p (eI many)), .x (.p (eI size)), .x (.o ((eL (eP2 eI (eT eI))) tracks_1)), .x (.p (eI k_v)), .x (.o ((eL eI) some_v)), .u, .u, .u, .u, .u]) (ev_ca (σ2 := [.u, .x (.p (eI many)), .x (.p (eI size)), .x (.o ((eL (eP2 eI (eT eI))) tracks_1)), .x (.p (eI k_v)), .x (.o ((eL eI) some_v)), .u, .u, .u, .u, .u]) (ds := [deckO deck_here_6, .p (eI (2 : Int))]) (as_c (op_vx rfl) (as_c (op_e rfl (ev_k _)) as_n)) rfl (draw_rf (k + 1) deck_here_6 (2 : Int) h2.2.2.2.1)) (.s (.s (.s (.s (.s (.s (.u (.u (.u (.u (.u .n)))))))))))) rfl (es_c (ev_bu (as_c (op_e rfl (ev_bu (as_c (op_vx rfl) as_n) rfl (bi_ss (xs := some_v) h2.2.2.2.2.1))) as_n) rfl (bi_tup _)) rfl es_n)) rfl) rfl rfl h2.2.2.2.2.2.1)
  (sp_en (.s (.s (.s (.s (.u (.u (.u (.u (.u (.u (.u .n))))))))))))))⟩) hk.2.2.2.1)
  (ss_c (s_as (s := .x (.o ((eL (eP3 eI eI eI)) sensors))) (ev_ls es_n rfl) rfl)
  (ss_c (s_fo (h := eI) (ys := (rgI 0 ((1 : Int) + q_6.1))) (fun st : (Deck × (List (Int × Int × Int))) => [.x (deckO st.1), .x (.p (eI many)), .x (.p (eI size)), .x (.o ((eL (eP2 eI (eT eI))) tracks_3)), .u, .u, .u, .x (.o ((eL (eP3 eI eI eI)) st.2)), .u, .u, .u]) (l_great_l2 size tracks_3) (l_great_l2_ok size tracks_3) (deck_here_9, sensors) (it_r1 (n := ((1 : Int) + q_6.1)) (op_e rfl (ev_bi2 (op_e rfl (ev_k _)) (op_e rfl (Ev.le (σ2 := [.x (deckO deck_here_9), .x (.p (eI many)), .x (.p (eI size)), .x (.o ((eL (eP2 eI (eT eI))) tracks_3)), .u, .u, .u, .x (.o ((eL (eP3 eI eI eI)) sensors)), .u, .u, .u]) (ev_ca (σ2 := [.u, .x (.p (eI many)), .x (.p (eI size)), .x (.o ((eL (eP2 eI (eT eI))) tracks_3)), .u, .u, .u, .x (.o ((eL (eP3 eI eI eI)) sensors)), .u, .u, .u]) (ds := [deckO deck_here_8, .p (eI many)]) (as_c (op_vx rfl) (as_c (op_vx rfl) as_n)) rfl (draw_rf (k + 1) deck_here_8 many hk.2.2.2.2.1)) (.s (.s (.s (.s (.u (.u (.u (.s (.u (.u (.u .n))))))))))))) rfl rfl rfl)) rfl hk.2.2.2.2.2.1) (.s (.s (.s (.s (.u (.u (.u (.s (.u (.u (.u .n))))))))))) (fun st_2 y_v_2 h5 h6 => let deck_here_10 : Deck := st_2.1; let sensors_1 : List (Int × Int × Int) := st_2.2; let k_v_1 : Int := y_v_2; let q_7 : (Int × Deck) := drawF deck_here_10 (tracks_3.length : Int); let deck_here_11 : Deck := q_7.2; let q_8 : (Int × Deck) := drawF deck_here_11 size; let deck_here_12 : Deck := q_8.2; let number : Int := q_7.1; let low : Int := q_8.1; let more : Int := (l_shortest size (ixF tracks_3 number)); let q_9 : (Int × Deck) := drawF deck_here_12 more; let deck_here_13 : Deck := q_9.2; let q_10 : (Int × Deck) := drawF deck_here_13 more; let deck_here_14 : Deck := q_10.2; let q_11 : (Int × Deck) := oneF deck_here_14 [(0 : Int), q_9.1, q_10.1, (more - (1 : Int))]; let deck_here_15 : Deck := q_11.2; let sensors_2 : List (Int × Int × Int) := sensors_1 ++ [(number, low, (low + q_11.1))]; ⟨_, rfl, (ss_c (s_pa (ds_c (s := .x (.p (eI number))) (Ev.le (σ2 := [.x (deckO deck_here_11), .x (.p (eI many)), .x (.p (eI size)), .x (.o ((eL (eP2 eI (eT eI))) tracks_3)), .x (.p (eI k_v_1)), .u, .u, .x (.o ((eL (eP3 eI eI eI)) sensors_1)), .u, .u, .u]) (ev_ca (σ2 := [.u, .x (.p (eI many)), .x (.p (eI size)), .x (.o ((eL (eP2 eI (eT eI))) tracks_3)), .x (.p (eI k_v_1)), .u, .u, .x (.o ((eL (eP3 eI eI eI)) sensors_1)), .u, .u, .u]) (ds := [deckO deck_here_10, .p (eI (tracks_3.length : Int))]) (as_c (op_vx rfl) (as_c (op_e rfl (ev_bu (as_c (op_vx rfl) as_n) rfl (bi_lenL (eP2 eI (eT eI)) tracks_3))) as_n)) rfl (draw_rf (k + 1) deck_here_10 (tracks_3.length : Int) h6.1)) (.s (.s (.s (.s (.s (.u (.u (.s (.u (.u (.u .n)))))))))))) (ds_c (s := .x (.p (eI low))) (Ev.le (σ2 := [.x (deckO deck_here_12), .x (.p (eI many)), .x (.p (eI size)), .x (.o ((eL (eP2 eI (eT eI))) tracks_3)), .x (.p (eI k_v_1)), .u, .u, .x (.o ((eL (eP3 eI eI eI)) sensors_1)), .u, .u, .u]) (ev_ca (σ2 := [.u, .x (.p (eI many)), .x (.p (eI size)), .x (.o ((eL (eP2 eI (eT eI))) tracks_3)), .x (.p (eI k_v_1)), .u, .u, .x (.o ((eL (eP3 eI eI eI)) sensors_1)), .u, .u, .u]) (ds := [deckO deck_here_11, .p (eI size)]) (as_c (op_vx rfl) (as_c (op_vx rfl) as_n)) rfl (draw_rf (k + 1) deck_here_11 size h6.2.1)) (.s (.s (.s (.s (.s (.u (.u (.s (.u (.u (.u .n)))))))))))) ds_n)) rfl rfl)
  (ss_c (s_as (s := .x (.p (eI more))) (ev_cp (vs := [eI size, (eP2 eI (eT eI)) (ixF tracks_3 number)]) (as_c (op_vx rfl) (as_c (op_e rfl (ev_ix (op_vx rfl) (op_vx rfl) rfl rfl (ix_L (f := (eP2 eI (eT eI))) (xs := tracks_3) (i := number) h6.2.2.1))) as_n)) rfl (l_shortest_rf (k + 0) size (ixF tracks_3 number) h6.2.2.2.1)) rfl)
  (ss_c (s_ap (f := (eP3 eI eI eI)) (y := (number, low, (low + q_11.1))) (xs := sensors_1) (ws := sensors_1) rfl (ev_tu (es_c (ev_p rfl) rfl (es_c (ev_p rfl) rfl (es_c (ev_bi2 (op_vx rfl) (op_e rfl (Ev.le (σ2 := [.x (deckO deck_here_15), .x (.p (eI many)), .x (.p (eI size)), .x (.o ((eL (eP2 eI (eT eI))) tracks_3)), .x (.p (eI k_v_1)), .u, .u, .x (.o ((eL (eP3 eI eI eI)) sensors_1)), .x (.p (eI number)), .x (.p (eI low)), .x (.p (eI more))]) (ev_ca (σ2 := [.u, .x (.p (eI many)), .x (.p (eI size)), .x (.o ((eL (eP2 eI (eT eI))) tracks_3)), .x (.p (eI k_v_1)), .u, .u, .x (.o ((eL (eP3 eI eI eI)) sensors_1)), .x (.p (eI number)), .x (.p (eI low)), .x (.p (eI more))]) (ds := [deckO deck_here_14, .o ((eL eI) [(0 : Int), q_9.1, q_10.1, (more - (1 : Int))])]) (as_c (op_vx rfl) (as_c (op_e rfl (ev_ls (es_c (ev_k _) rfl (es_c (Ev.le (σ2 := [.x (deckO deck_here_13), .x (.p (eI many)), .x (.p (eI size)), .x (.o ((eL (eP2 eI (eT eI))) tracks_3)), .x (.p (eI k_v_1)), .u, .u, .x (.o ((eL (eP3 eI eI eI)) sensors_1)), .x (.p (eI number)), .x (.p (eI low)), .x (.p (eI more))]) (ev_ca (σ2 := [.u, .x (.p (eI many)), .x (.p (eI size)), .x (.o ((eL (eP2 eI (eT eI))) tracks_3)), .x (.p (eI k_v_1)), .u, .u, .x (.o ((eL (eP3 eI eI eI)) sensors_1)), .x (.p (eI number)), .x (.p (eI low)), .x (.p (eI more))]) (ds := [deckO deck_here_12, .p (eI more)]) (as_c (op_vx rfl) (as_c (op_vx rfl) as_n)) rfl (draw_rf (k + 1) deck_here_12 more h6.2.2.2.2.1)) (.s (.s (.s (.s (.s (.u (.u (.s (.s (.s (.s .n)))))))))))) rfl (es_c (Ev.le (σ2 := [.x (deckO deck_here_14), .x (.p (eI many)), .x (.p (eI size)), .x (.o ((eL (eP2 eI (eT eI))) tracks_3)), .x (.p (eI k_v_1)), .u, .u, .x (.o ((eL (eP3 eI eI eI)) sensors_1)), .x (.p (eI number)), .x (.p (eI low)), .x (.p (eI more))]) (ev_ca (σ2 := [.u, .x (.p (eI many)), .x (.p (eI size)), .x (.o ((eL (eP2 eI (eT eI))) tracks_3)), .x (.p (eI k_v_1)), .u, .u, .x (.o ((eL (eP3 eI eI eI)) sensors_1)), .x (.p (eI number)), .x (.p (eI low)), .x (.p (eI more))]) (ds := [deckO deck_here_13, .p (eI more)]) (as_c (op_vx rfl) (as_c (op_vx rfl) as_n)) rfl (draw_rf (k + 1) deck_here_13 more h6.2.2.2.2.2.1)) (.s (.s (.s (.s (.s (.u (.u (.s (.s (.s (.s .n)))))))))))) rfl (es_c (ev_bi2 (op_vx rfl) (op_e rfl (ev_k _)) rfl rfl rfl) rfl es_n)))) rfl)) as_n)) rfl (oneoL_rf (k + 0) eI deck_here_14 [(0 : Int), q_9.1, q_10.1, (more - (1 : Int))] h6.2.2.2.2.2.2.1)) (.s (.s (.s (.s (.s (.u (.u (.s (.s (.s (.s .n))))))))))))) rfl rfl rfl) rfl es_n))) rfl) rfl rfl h6.2.2.2.2.2.2.2.1)
  (sp_en (.s (.s (.s (.s (.u (.u (.u (.s (.u (.u (.u .n)))))))))))))))⟩) hk.2.2.2.2.2.2.1)
  (sp_rt (re_e rfl (ev_tu (es_c (ev_p rfl) rfl (es_c (ev_bu (as_c (op_vx rfl) as_n) rfl (bi_tup _)) rfl (es_c (ev_bu (as_c (op_vx rfl) as_n) rfl (bi_tup _)) rfl es_n))) rfl)) (.s (.u (.u (.u (.u (.u (.u (.u (.u (.u (.u .n))))))))))))))))))
theorem l_great_rf (k : Nat) (deck_here : Deck) (many : Int) (hk : l_great_ok deck_here many) : CallOk (callF tab (k + 3)) f_law_great [deckO deck_here, .p (eI many)] (.x (.p ((eP3 eI (eT (eP2 eI (eT eI))) (eT (eP3 eI eI eI))) (l_great deck_here many).1))) [.x (deckO (l_great deck_here many).2)] := by
  rw [l_great_eq]
  exact l_great_rfb k deck_here many hk
theorem l_alone_rfb (k : Nat) (disc_here : (Int × (List (Int × (List Int))) × (List (Int × Int × Int)))) (hk : l_alone_ok disc_here) : CallOk (callF tab (k + 1)) f_law_alone [.p ((eP3 eI (eT (eP2 eI (eT eI))) (eT (eP3 eI eI eI))) disc_here)] (.x (.o ((eL (eP3 eI (eT (eP2 eI (eT eI))) (eT (eP3 eI eI eI)))) (l_alone_b disc_here)))) [] :=
  call_fn (k := k + 0) (R := List (Int × (List (Int × (List Int))) × (List (Int × Int × Int)))) (fun v => .x (.o ((eL (eP3 eI (eT (eP2 eI (eT eI))) (eT (eP3 eI eI eI)))) v))) (fun v => [.u, .u]) [.x (.p ((eP3 eI (eT (eP2 eI (eT eI))) (eT (eP3 eI eI eI))) disc_here)), .u] [] rfl rfl rfl [] rfl rfl rfl
  ((sp_rt (re_e rfl (ev_lm (h := (eP3 eI eI eI)) (ys := disc_here.2.2) (eP3 eI (eT (eP2 eI (eT eI))) (eT (eP3 eI eI eI))) (fun y_v : (Int × Int × Int) => let sensor : (Int × Int × Int) := y_v; (disc_here.1, disc_here.2.1, [sensor])) (it_ex (ev_ix (op_vx rfl) (op_e rfl (ev_k _)) rfl rfl (ix_t2 _ _ _ _)) rfl rfl) (fun y_v h1 => let sensor : (Int × Int × Int) := y_v; ⟨_, _, _, rfl, (ev_tu (es_c (ev_ix (op_vx rfl) (op_e rfl (ev_k _)) rfl rfl (ix_t0 _ _)) rfl (es_c (ev_ix (op_vx rfl) (op_e rfl (ev_k _)) rfl rfl (ix_t1 _ _ _)) rfl (es_c (ev_tu (es_c (ev_p rfl) rfl es_n) rfl) rfl es_n))) rfl), rfl, (.s (.u .n))⟩))) (.u (.u .n))))
theorem l_alone_rf (k : Nat) (disc_here : (Int × (List (Int × (List Int))) × (List (Int × Int × Int)))) (hk : l_alone_ok disc_here) : CallOk (callF tab (k + 1)) f_law_alone [.p ((eP3 eI (eT (eP2 eI (eT eI))) (eT (eP3 eI eI eI))) disc_here)] (.x (.o ((eL (eP3 eI (eT (eP2 eI (eT eI))) (eT (eP3 eI eI eI)))) (l_alone disc_here)))) [] := by
  rw [l_alone_eq]
  exact l_alone_rfb k disc_here hk
theorem going_round_rfb (k : Nat) (track : (Int × (List Int))) (hk : going_round_ok track) : CallOk (callF tab (k + 1)) f_going_round [.p ((eP2 eI (eT eI)) track)] (.x (.p ((eT eI) (going_round_b track)))) [] :=
  call_fn (k := k + 0) (R := List Int) (fun v => .x (.p ((eT eI) v))) (fun v => [.u]) [.x (.p ((eP2 eI (eT eI)) track))] [] rfl rfl rfl [] rfl rfl rfl
  ((sp_rt (re_e rfl (ev_if (fun z : List Int => .x (.p ((eT eI) z))) (k := (decide (((track.2.length : Int) % (2 : Int)) = (0 : Int)))) (x := track.2) (y := ([(0 : Int)] ++ track.2)) (ev_cm (k := (decide (((track.2.length : Int) % (2 : Int)) = (0 : Int)))) (op_e rfl (ev_bi2 (op_e rfl (ev_bu (as_c (op_e rfl (ev_ix (op_vx rfl) (op_e rfl (ev_k _)) rfl rfl (ix_t1 _ _ _))) as_n) rfl (bi_lenT eI track.2))) (op_e rfl (ev_k _)) rfl rfl (bd_mod (i := (track.2.length : Int)) (j := (2 : Int)) (by decide)))) (op_e rfl (ev_k _)) rfl rfl (cm_eq enc_I (by decide) ((track.2.length : Int) % (2 : Int)) (0 : Int))) (fun h1 => (ev_ix (op_vx rfl) (op_e rfl (ev_k _)) rfl rfl (ix_t1 _ _ _))) (fun h2 => (ev_bi2 (op_e rfl (ev_tu (es_c (ev_k _) rfl es_n) rfl)) (op_e rfl (ev_ix (op_vx rfl) (op_e rfl (ev_k _)) rfl rfl (ix_t1 _ _ _))) rfl rfl (bd_T (f := eI) (xs := [(0 : Int)]) (ys := track.2) (hk.1 h2).1))))) (.u .n)))
theorem going_round_rf (k : Nat) (track : (Int × (List Int))) (hk : going_round_ok track) : CallOk (callF tab (k + 1)) f_going_round [.p ((eP2 eI (eT eI)) track)] (.x (.p ((eT eI) (going_round track)))) [] := by
  rw [going_round_eq]
  exact going_round_rfb k track hk
theorem colour_rfb (k : Nat) (disc : (Int × (List (Int × (List Int))) × (List (Int × Int × Int)))) (track : Int) (cell : Int) (hk : colour_ok disc track cell) : CallOk (callF tab (k + 1)) f_colour [.p ((eP3 eI (eT (eP2 eI (eT eI))) (eT (eP3 eI eI eI))) disc), .p (eI track), .p (eI cell)] (.x (.p (eI (colour_b disc track cell)))) [] :=
  call_fn (k := k + 0) (R := Int) (fun v => .x (.p (eI v))) (fun v => [.u, .u, .u, .u, .u, .u, .u]) [.x (.p ((eP3 eI (eT (eP2 eI (eT eI))) (eT (eP3 eI eI eI))) disc)), .x (.p (eI track)), .x (.p (eI cell)), .u, .u, .u, .u] [] rfl rfl rfl [] rfl rfl rfl
  (let u : (Int × (List Int)) := (ixF disc.2.1 track); let first : Int := u.1; let borders : List Int := u.2; let place : Int := (cell % disc.1); (ss_c (s_un (v := (eP2 eI (eT eI)) u) (ev_ix (op_e rfl (ev_ix (op_vx rfl) (op_e rfl (ev_k _)) rfl rfl (ix_t1 _ _ _))) (op_vx rfl) rfl rfl (ix_T (f := (eP2 eI (eT eI))) (xs := disc.2.1) (i := track) hk.1)) rfl rfl)
  (ss_c (s_as (s := .x (.p (eI place))) (ev_bi2 (op_vx rfl) (op_e rfl (ev_ix (op_vx rfl) (op_e rfl (ev_k _)) rfl rfl (ix_t0 _ _))) rfl rfl (bd_mod (i := cell) (j := disc.1) hk.2.1)) rfl)
  (sp_rt (re_e rfl (ev_bi2 (op_e rfl (ev_bi2 (op_vx rfl) (op_e rfl (ev_bu (as_c (op_e rfl (ev_lf (h := eI) (ys := borders) (fun y_v : Int => let border : Int := y_v; (decide (border ≤ place))) eI (fun y_v : Int => let border : Int := y_v; border) (it_ex (ev_p rfl) rfl rfl) (fun y_v h1 => let border : Int := y_v; ⟨_, _, rfl, (ev_cm (k := (decide (border ≤ place))) (op_vx rfl) (op_vx rfl) rfl rfl rfl), fun _ => (.s (.s (.s (.s (.s (.s (.u .n))))))), fun h2 => ⟨_, _, (ev_p rfl), rfl, (.s (.s (.s (.s (.s (.s (.u .n)))))))⟩⟩))) as_n) rfl (bi_lenL eI (List.map (fun y_v : Int => let border : Int := y_v; border) (List.filter (fun y_v : Int => let border : Int := y_v; (decide (border ≤ place))) borders))))) rfl rfl rfl)) (op_e rfl (ev_k _)) rfl rfl (bd_mod (i := (first + ((List.map (fun y_v : Int => let border : Int := y_v; border) (List.filter (fun y_v : Int => let border : Int := y_v; (decide (border ≤ place))) borders)).length : Int))) (j := (2 : Int)) (by decide)))) (.u (.u (.u (.u (.u (.u (.u .n)))))))))))
theorem colour_rf (k : Nat) (disc : (Int × (List (Int × (List Int))) × (List (Int × Int × Int)))) (track : Int) (cell : Int) (hk : colour_ok disc track cell) : CallOk (callF tab (k + 1)) f_colour [.p ((eP3 eI (eT (eP2 eI (eT eI))) (eT (eP3 eI eI eI))) disc), .p (eI track), .p (eI cell)] (.x (.p (eI (colour disc track cell)))) [] := by
  rw [colour_eq]
  exact colour_rfb k disc track cell hk
theorem stretches_rfb (k : Nat) (disc : (Int × (List (Int × (List Int))) × (List (Int × Int × Int)))) (track : Int) (wanted : Int) (hk : stretches_ok disc track wanted) : CallOk (callF tab (k + 2)) f_stretches [.p ((eP3 eI (eT (eP2 eI (eT eI))) (eT (eP3 eI eI eI))) disc), .p (eI track), .p (eI wanted)] (.x (.o ((eL (eP2 eI eI)) (stretches_b disc track wanted)))) [] :=
  call_fn (k := k + 1) (R := List (Int × Int)) (fun v => .x (.o ((eL (eP2 eI eI)) v))) (fun v => [.u, .u, .u, .u, .u, .u, .u]) [.x (.p ((eP3 eI (eT (eP2 eI (eT eI))) (eT (eP3 eI eI eI))) disc)), .x (.p (eI track)), .x (.p (eI wanted)), .u, .u, .u, .u] [] rfl rfl rfl [] rfl rfl rfl
  (let borders : List Int := (going_round (ixF disc.2.1 track)); (ss_c (s_as (s := .x (.p ((eT eI) borders))) (ev_cp (vs := [(eP2 eI (eT eI)) (ixF disc.2.1 track)]) (as_c (op_e rfl (ev_ix (op_e rfl (ev_ix (op_vx rfl) (op_e rfl (ev_k _)) rfl rfl (ix_t1 _ _ _))) (op_vx rfl) rfl rfl (ix_T (f := (eP2 eI (eT eI))) (xs := disc.2.1) (i := track) hk.1))) as_n) rfl (going_round_rf (k + 0) (ixF disc.2.1 track) hk.2.1)) rfl)
  (sp_ifr (k := (decide (borders = ([] : List Int)))) (ev_cm (k := (decide (borders = ([] : List Int)))) (op_vx rfl) (op_e rfl (ev_tu es_n rfl)) rfl rfl (cm_eq (enc_T enc_I) (by decide) borders ([] : List Int))) (fun h1 => (sp_rt (re_e rfl (ev_if (fun z : List (Int × Int) => .x (.o ((eL (eP2 eI eI)) z))) (k := (decide ((colour disc track (0 : Int)) = wanted))) (x := [((0 : Int), disc.1)]) (y := ([] : List (Int × Int))) (ev_cm (k := (decide ((colour disc track (0 : Int)) = wanted))) (op_e rfl (ev_cp (vs := [(eP3 eI (eT (eP2 eI (eT eI))) (eT (eP3 eI eI eI))) disc, eI track, eI (0 : Int)]) (as_c (op_vx rfl) (as_c (op_vx rfl) (as_c (op_e rfl (ev_k _)) as_n))) rfl (colour_rf (k + 0) disc track (0 : Int) (hk.2.2.1 h1).1))) (op_vx rfl) rfl rfl (cm_eq enc_I (by decide) (colour disc track (0 : Int)) wanted)) (fun h3 => (ev_ls (es_c (ev_tu (es_c (ev_k _) rfl (es_c (ev_ix (op_vx rfl) (op_e rfl (ev_k _)) rfl rfl (ix_t0 _ _)) rfl es_n)) rfl) rfl es_n) rfl)) (fun h4 => (ev_ls es_n rfl)))) (.u (.u (.u (.u (.u (.u (.u .n))))))))) (fun h2 => (let found : List (Int × Int) := ([] : List (Int × Int)); let st_1 : List (Int × Int) := List.foldl (stretches_l0 disc track wanted) found (List.zip borders ((cutF borders (some (1 : Int)) none) ++ (cutF borders none (some (1 : Int))))); let found_3 : List (Int × Int) := st_1; (ss_c (s_as (s := .x (.o ((eL (eP2 eI eI)) found))) (ev_ls es_n rfl) rfl)
  (ss_c (s_fo (h := (eP2 eI eI)) (ys := (List.zip borders ((cutF borders (some (1 : Int)) none) ++ (cutF borders none (some (1 : Int)))))) (fun st : List (Int × Int) => [.x (.p ((eP3 eI (eT (eP2 eI (eT eI))) (eT (eP3 eI eI eI))) disc)), .x (.p (eI track)), .x (.p (eI wanted)), .x (.p ((eT eI) borders)), .x (.o ((eL (eP2 eI eI)) st)), .u, .u]) (stretches_l0 disc track wanted) (stretches_l0_ok disc track wanted) found (it_z2 (f := eI) (g := eI) (xs := borders) (ys := ((cutF borders (some (1 : Int)) none) ++ (cutF borders none (some (1 : Int))))) (ev_p rfl) rfl (ev_bi2 (op_e rfl (ev_sf (op_vx rfl) (op_e rfl (ev_k _)) rfl rfl (sf_T eI borders (1 : Int)))) (op_e rfl (ev_st (op_vx rfl) (op_e rfl (ev_k _)) rfl rfl (st_T eI borders (1 : Int)))) rfl rfl (bd_T (f := eI) (xs := (cutF borders (some (1 : Int)) none)) (ys := (cutF borders none (some (1 : Int)))) (hk.2.2.2.1 h2).1)) rfl rfl rfl) (.s (.s (.s (.s (.s (.u (.u .n))))))) (fun st y_v h5 h6 => let found_1 : List (Int × Int) := st; let border : Int := y_v.1; let later : Int := y_v.2; ⟨_, rfl, (sp_ifn (k := (decide ((colour disc track border) = wanted))) (ev_cm (k := (decide ((colour disc track border) = wanted))) (op_e rfl (ev_cp (vs := [(eP3 eI (eT (eP2 eI (eT eI))) (eT (eP3 eI eI eI))) disc, eI track, eI border]) (as_c (op_vx rfl) (as_c (op_vx rfl) (as_c (op_vx rfl) as_n))) rfl (colour_rf (k + 0) disc track border h6.1))) (op_vx rfl) rfl rfl (cm_eq enc_I (by decide) (colour disc track border) wanted)) (fun h7 => (let found_2 : List (Int × Int) := found_1 ++ [(border, ((later - border) % disc.1))]; (ss_c (s_ap (f := (eP2 eI eI)) (y := (border, ((later - border) % disc.1))) (xs := found_1) (ws := found_1) rfl (ev_tu (es_c (ev_p rfl) rfl (es_c (ev_bi2 (op_e rfl (ev_bi2 (op_vx rfl) (op_vx rfl) rfl rfl rfl)) (op_e rfl (ev_ix (op_vx rfl) (op_e rfl (ev_k _)) rfl rfl (ix_t0 _ _))) rfl rfl (bd_mod (i := (later - border)) (j := disc.1) (h6.2.1 h7).1)) rfl es_n)) rfl) rfl rfl (h6.2.1 h7).2.1)
  (sp_en (.s (.s (.s (.s (.s (.u (.u .n))))))))))) (fun h8 => (sp_en (.s (.s (.s (.s (.s (.u (.u .n))))))))))⟩) (hk.2.2.2.1 h2).2.1)
  (sp_rt (re_lx (by decide) rfl) (.u (.u (.u (.u (.u (.u (.u .n)))))))))))))))
theorem stretches_rf (k : Nat) (disc : (Int × (List (Int × (List Int))) × (List (Int × Int × Int)))) (track : Int) (wanted : Int) (hk : stretches_ok disc track wanted) : CallOk (callF tab (k + 2)) f_stretches [.p ((eP3 eI (eT (eP2 eI (eT eI))) (eT (eP3 eI eI eI))) disc), .p (eI track), .p (eI wanted)] (.x (.o ((eL (eP2 eI eI)) (stretches disc track wanted)))) [] := by
  rw [stretches_eq]
  exact stretches_rfb k disc track wanted hk
theorem row_cells_rfb (k : Nat) (disc : (Int × (List (Int × (List Int))) × (List (Int × Int × Int)))) (track : Int) (row : List Int) (hk : row_cells_ok disc track row) : CallOk (callF tab (k + 3)) f_row_cells [.p ((eP3 eI (eT (eP2 eI (eT eI))) (eT (eP3 eI eI eI))) disc), .p (eI track), .o ((eL eI) row)] (.x (.o ((eL (eP2 eI eI)) (row_cells_b disc track row)))) [.x (.o ((eL eI) row))] :=
  call_fn (k := k + 2) (R := List (Int × Int)) (fun v => .x (.o ((eL (eP2 eI eI)) v))) (fun v => [.u, .u, .x (.o ((eL eI) row)), .u, .u, .u, .u, .u, .u, .u, .u]) [.x (.p ((eP3 eI (eT (eP2 eI (eT eI))) (eT (eP3 eI eI eI))) disc)), .x (.p (eI track)), .x (.o ((eL eI) row)), .u, .u, .u, .u, .u, .u, .u, .u] [.x (.o ((eL eI) row))] rfl rfl rfl [2] rfl rfl rfl
  (let changes : List Int := (List.map (fun y_v : Int => let number : Int := y_v; number) (List.filter (fun y_v : Int => let number : Int := y_v; (!decide ((ixF row number) = (ixF row (number - (1 : Int)))))) (rgI (1 : Int) (row.length : Int)))); (ss_c (s_as (s := .x (.o ((eL eI) changes))) (ev_lf (h := eI) (ys := (rgI (1 : Int) (row.length : Int))) (fun y_v : Int => let number : Int := y_v; (!decide ((ixF row number) = (ixF row (number - (1 : Int)))))) eI (fun y_v : Int => let number : Int := y_v; number) (it_r2 (m := (1 : Int)) (n := (row.length : Int)) (op_e rfl (ev_k _)) rfl (op_e rfl (ev_bu (as_c (op_vx rfl) as_n) rfl (bi_lenL eI row))) rfl hk.1) (fun y_v h1 => let number : Int := y_v; ⟨_, _, rfl, (ev_cm (k := (!decide ((ixF row number) = (ixF row (number - (1 : Int)))))) (op_e rfl (ev_ix (op_vx rfl) (op_vx rfl) rfl rfl (ix_L (f := eI) (xs := row) (i := number) (hk.2.1 y_v h1).1))) (op_e rfl (ev_ix (op_vx rfl) (op_e rfl (ev_bi2 (op_vx rfl) (op_e rfl (ev_k _)) rfl rfl rfl)) rfl rfl (ix_L (f := eI) (xs := row) (i := (number - (1 : Int))) (hk.2.1 y_v h1).2.1))) rfl rfl (cm_ne enc_I (by decide) (ixF row number) (ixF row (number - (1 : Int))))), fun _ => (.s (.s (.s (.u (.u (.u (.u (.u (.u (.u (.u .n))))))))))), fun h2 => ⟨_, _, (ev_p rfl), rfl, (.s (.s (.s (.u (.u (.u (.u (.u (.u (.u (.u .n)))))))))))⟩⟩)) rfl)
  (sp_ifr (k := (decide (changes = ([] : List Int)))) (ev_cm (k := (decide (changes = ([] : List Int)))) (op_vx rfl) (op_e rfl (ev_ls es_n rfl)) rfl rfl (cm_eq (enc_L enc_I) (by decide) changes ([] : List Int))) (fun h3 => (let found : List (Int × Int) := (List.map (fun y_v_1 : (Int × Int) => let first : Int := y_v_1.1; let many : Int := y_v_1.2; (first, ((many - (row.length : Int)) + (1 : Int)))) (List.filter (fun y_v_1 : (Int × Int) => let first : Int := y_v_1.1; let many : Int := y_v_1.2; (decide (many < disc.1))) (stretches disc track (ixF row (0 : Int))))); let whole : List (Int × Int) := (List.map (fun y_v_2 : (Int × Int) => let first_1 : Int := y_v_2.1; let many_1 : Int := y_v_2.2; ((0 : Int), disc.1)) (List.filter (fun y_v_2 : (Int × Int) => let first_1 : Int := y_v_2.1; let many_1 : Int := y_v_2.2; (decide (many_1 = disc.1))) (stretches disc track (ixF row (0 : Int))))); (ss_c (s_as (s := .x (.o ((eL (eP2 eI eI)) found))) (ev_lf (h := (eP2 eI eI)) (ys := (stretches disc track (ixF row (0 : Int)))) (fun y_v_1 : (Int × Int) => let first : Int := y_v_1.1; let many : Int := y_v_1.2; (decide (many < disc.1))) (eP2 eI eI) (fun y_v_1 : (Int × Int) => let first : Int := y_v_1.1; let many : Int := y_v_1.2; (first, ((many - (row.length : Int)) + (1 : Int)))) (it_ex (ev_cp (vs := [(eP3 eI (eT (eP2 eI (eT eI))) (eT (eP3 eI eI eI))) disc, eI track, eI (ixF row (0 : Int))]) (as_c (op_vx rfl) (as_c (op_vx rfl) (as_c (op_e rfl (ev_ix (op_vx rfl) (op_e rfl (ev_k _)) rfl rfl (ix_L (f := eI) (xs := row) (i := (0 : Int)) (hk.2.2.1 h3).1))) as_n))) rfl (stretches_rf (k + 0) disc track (ixF row (0 : Int)) (hk.2.2.1 h3).2.1)) rfl rfl) (fun y_v_1 h5 => let first : Int := y_v_1.1; let many : Int := y_v_1.2; ⟨_, _, rfl, (ev_cm (k := (decide (many < disc.1))) (op_vx rfl) (op_e rfl (ev_ix (op_vx rfl) (op_e rfl (ev_k _)) rfl rfl (ix_t0 _ _))) rfl rfl rfl), fun _ => (.s (.s (.s (.s (.u (.u (.u (.u (.u (.u (.u .n))))))))))), fun h6 => ⟨_, _, (ev_tu (es_c (ev_p rfl) rfl (es_c (ev_bi2 (op_e rfl (ev_bi2 (op_vx rfl) (op_e rfl (ev_bu (as_c (op_vx rfl) as_n) rfl (bi_lenL eI row))) rfl rfl rfl)) (op_e rfl (ev_k _)) rfl rfl rfl) rfl es_n)) rfl), rfl, (.s (.s (.s (.s (.u (.u (.u (.u (.u (.u (.u .n)))))))))))⟩⟩)) rfl)
  (ss_c (s_as (s := .x (.o ((eL (eP2 eI eI)) whole))) (ev_lf (h := (eP2 eI eI)) (ys := (stretches disc track (ixF row (0 : Int)))) (fun y_v_2 : (Int × Int) => let first_1 : Int := y_v_2.1; let many_1 : Int := y_v_2.2; (decide (many_1 = disc.1))) (eP2 eI eI) (fun y_v_2 : (Int × Int) => let first_1 : Int := y_v_2.1; let many_1 : Int := y_v_2.2; ((0 : Int), disc.1)) (it_ex (ev_cp (vs := [(eP3 eI (eT (eP2 eI (eT eI))) (eT (eP3 eI eI eI))) disc, eI track, eI (ixF row (0 : Int))]) (as_c (op_vx rfl) (as_c (op_vx rfl) (as_c (op_e rfl (ev_ix (op_vx rfl) (op_e rfl (ev_k _)) rfl rfl (ix_L (f := eI) (xs := row) (i := (0 : Int)) (hk.2.2.1 h3).2.2.1))) as_n))) rfl (stretches_rf (k + 0) disc track (ixF row (0 : Int)) (hk.2.2.1 h3).2.2.2.1)) rfl rfl) (fun y_v_2 h7 => let first_1 : Int := y_v_2.1; let many_1 : Int := y_v_2.2; ⟨_, _, rfl, (ev_cm (k := (decide (many_1 = disc.1))) (op_vx rfl) (op_e rfl (ev_ix (op_vx rfl) (op_e rfl (ev_k _)) rfl rfl (ix_t0 _ _))) rfl rfl (cm_eq enc_I (by decide) many_1 disc.1)), fun _ => (.s (.s (.s (.s (.u (.s (.u (.u (.u (.u (.u .n))))))))))), fun h8 => ⟨_, _, (ev_tu (es_c (ev_k _) rfl (es_c (ev_ix (op_vx rfl) (op_e rfl (ev_k _)) rfl rfl (ix_t0 _ _)) rfl es_n)) rfl), rfl, (.s (.s (.s (.s (.u (.s (.u (.u (.u (.u (.u .n)))))))))))⟩⟩)) rfl)
  (sp_rt (re_e rfl (ev_bi2 (op_e rfl (ev_lf (h := (eP2 eI eI)) (ys := found) (fun y_v_3 : (Int × Int) => let arc : (Int × Int) := y_v_3; (decide ((0 : Int) < arc.2))) (eP2 eI eI) (fun y_v_3 : (Int × Int) => let arc : (Int × Int) := y_v_3; arc) (it_ex (ev_o rfl) rfl rfl) (fun y_v_3 h9 => let arc : (Int × Int) := y_v_3; ⟨_, _, rfl, (ev_cm (k := (decide ((0 : Int) < arc.2))) (op_e rfl (ev_ix (op_vx rfl) (op_e rfl (ev_k _)) rfl rfl (ix_t1 _ _ _))) (op_e rfl (ev_k _)) rfl rfl rfl), fun _ => (.s (.s (.s (.s (.u (.s (.u (.u (.s (.u (.u .n))))))))))), fun h10 => ⟨_, _, (ev_p rfl), rfl, (.s (.s (.s (.s (.u (.s (.u (.u (.s (.u (.u .n)))))))))))⟩⟩))) (op_vx rfl) rfl rfl (bd_L (f := (eP2 eI eI)) (xs := (List.map (fun y_v_3 : (Int × Int) => let arc : (Int × Int) := y_v_3; arc) (List.filter (fun y_v_3 : (Int × Int) => let arc : (Int × Int) := y_v_3; (decide ((0 : Int) < arc.2))) found))) (ys := whole) (hk.2.2.1 h3).2.2.2.2.1))) (.u (.u (.s (.u (.u (.u (.u (.u (.u (.u (.u .n)))))))))))))))) (fun h4 => (let found_1 : List (Int × Int) := ([] : List (Int × Int)); let st_1 : List (Int × Int) := List.foldl (row_cells_l0 disc track row changes) found_1 (going_round (ixF disc.2.1 track)); let found_4 : List (Int × Int) := st_1; (ss_c (s_as (s := .x (.o ((eL (eP2 eI eI)) found_1))) (ev_ls es_n rfl) rfl)
  (ss_c (s_fo (h := eI) (ys := (going_round (ixF disc.2.1 track))) (fun st : List (Int × Int) => [.x (.p ((eP3 eI (eT (eP2 eI (eT eI))) (eT (eP3 eI eI eI))) disc)), .x (.p (eI track)), .x (.o ((eL eI) row)), .x (.o ((eL eI) changes)), .u, .x (.o ((eL (eP2 eI eI)) st)), .u, .u, .u, .u, .u]) (row_cells_l0 disc track row changes) (row_cells_l0_ok disc track row changes) found_1 (it_ex (ev_cp (vs := [(eP2 eI (eT eI)) (ixF disc.2.1 track)]) (as_c (op_e rfl (ev_ix (op_e rfl (ev_ix (op_vx rfl) (op_e rfl (ev_k _)) rfl rfl (ix_t1 _ _ _))) (op_vx rfl) rfl rfl (ix_T (f := (eP2 eI (eT eI))) (xs := disc.2.1) (i := track) (hk.2.2.2.1 h4).1))) as_n) rfl (going_round_rf (k + 1) (ixF disc.2.1 track) (hk.2.2.2.1 h4).2.1)) rfl rfl) (.s (.s (.s (.s (.u (.s (.u (.u (.u (.u (.u .n))))))))))) (fun st y_v_4 h11 h12 => let found_2 : List (Int × Int) := st; let border : Int := y_v_4; let first_2 : Int := (border - (ixF changes (0 : Int))); ⟨_, rfl, (ss_c (s_as (s := .x (.p (eI first_2))) (ev_bi2 (op_vx rfl) (op_e rfl (ev_ix (op_vx rfl) (op_e rfl (ev_k _)) rfl rfl (ix_L (f := eI) (xs := changes) (i := (0 : Int)) h12.1))) rfl rfl rfl) rfl)
  (sp_ifn (k := (decide ((List.map (fun y_v_5 : Int => let number_1 : Int := y_v_5; (colour disc track (first_2 + number_1))) (rgI 0 (row.length : Int))) = row))) (ev_cm (k := (decide ((List.map (fun y_v_5 : Int => let number_1 : Int := y_v_5; (colour disc track (first_2 + number_1))) (rgI 0 (row.length : Int))) = row))) (op_e rfl (ev_lm (h := eI) (ys := (rgI 0 (row.length : Int))) eI (fun y_v_5 : Int => let number_1 : Int := y_v_5; (colour disc track (first_2 + number_1))) (it_r1 (n := (row.length : Int)) (op_e rfl (ev_bu (as_c (op_vx rfl) as_n) rfl (bi_lenL eI row))) rfl h12.2.1) (fun y_v_5 h13 => let number_1 : Int := y_v_5; ⟨_, _, _, rfl, (ev_cp (vs := [(eP3 eI (eT (eP2 eI (eT eI))) (eT (eP3 eI eI eI))) disc, eI track, eI (first_2 + number_1)]) (as_c (op_vx rfl) (as_c (op_vx rfl) (as_c (op_e rfl (ev_bi2 (op_vx rfl) (op_vx rfl) rfl rfl rfl)) as_n))) rfl (colour_rf (k + 1) disc track (first_2 + number_1) (h12.2.2.1 y_v_5 h13).1)), rfl, (.s (.s (.s (.s (.u (.s (.s (.u (.u (.u (.s .n)))))))))))⟩))) (op_e rfl (ev_bu (as_c (op_vx rfl) as_n) rfl (bi_lst _))) rfl rfl (cm_eq (enc_L enc_I) (by decide) (List.map (fun y_v_5 : Int => let number_1 : Int := y_v_5; (colour disc track (first_2 + number_1))) (rgI 0 (row.length : Int))) row)) (fun h14 => (let found_3 : List (Int × Int) := found_2 ++ [(first_2, (1 : Int))]; (ss_c (s_ap (f := (eP2 eI eI)) (y := (first_2, (1 : Int))) (xs := found_2) (ws := found_2) rfl (ev_tu (es_c (ev_p rfl) rfl (es_c (ev_k _) rfl es_n)) rfl) rfl rfl (h12.2.2.2.1 h14).1)
  (sp_en (.s (.s (.s (.s (.u (.s (.u (.u (.u (.u (.u .n))))))))))))))) (fun h15 => (sp_en (.s (.s (.s (.s (.u (.s (.u (.u (.u (.u (.u .n)))))))))))))))⟩) (hk.2.2.2.1 h4).2.2.1)
  (sp_rt (re_lx (by decide) rfl) (.u (.u (.s (.u (.u (.u (.u (.u (.u (.u (.u .n)))))))))))))))))))
theorem row_cells_rf (k : Nat) (disc : (Int × (List (Int × (List Int))) × (List (Int × Int × Int)))) (track : Int) (row : List Int) (hk : row_cells_ok disc track row) : CallOk (callF tab (k + 3)) f_row_cells [.p ((eP3 eI (eT (eP2 eI (eT eI))) (eT (eP3 eI eI eI))) disc), .p (eI track), .o ((eL eI) row)] (.x (.o ((eL (eP2 eI eI)) (row_cells disc track row)))) [.x (.o ((eL eI) row))] := by
  rw [row_cells_eq]
  exact row_cells_rfb k disc track row hk
theorem joined_rfb (k : Nat) (some_v : List (Int × Int)) (hk : joined_ok some_v) : CallOk (callF tab (k + 1)) f_joined [.o ((eL (eP2 eI eI)) some_v)] (.x (.o ((eL (eP2 eI eI)) (joined_b some_v)))) [.x (.p ((eL (eP2 eI eI)) some_v))] :=
  call_fn (k := k + 0) (R := List (Int × Int)) (fun v => .x (.o ((eL (eP2 eI eI)) v))) (fun v => [.x (.p ((eL (eP2 eI eI)) some_v)), .u, .u, .u]) [.x (.o ((eL (eP2 eI eI)) some_v)), .u, .u, .u] [.x (.p ((eL (eP2 eI eI)) some_v))] rfl rfl rfl [0] rfl rfl rfl
  (let found : List (Int × Int) := ([] : List (Int × Int)); let st_1 : List (Int × Int) := List.foldl joined_l0 found some_v; let found_4 : List (Int × Int) := st_1; (ss_c (s_as (s := .x (.o ((eL (eP2 eI eI)) found))) (ev_ls es_n rfl) rfl)
  (ss_c (s_fo (h := (eP2 eI eI)) (ys := some_v) (fun st : List (Int × Int) => [.x (.p ((eL (eP2 eI eI)) some_v)), .x (.o ((eL (eP2 eI eI)) st)), .u, .u]) joined_l0 joined_l0_ok found (it_ex (ev_o rfl) rfl rfl) (.s (.s (.u (.u .n)))) (fun st y_v h1 h2 => let found_1 : List (Int × Int) := st; let first : Int := y_v.1; let end_v : Int := y_v.2; ⟨_, rfl, (sp_ifn (k := ((!decide (found_1 = ([] : List (Int × Int)))) && (decide (first ≤ (ixF found_1 (-(1 : Int))).2)))) (ev_an (k := (!decide (found_1 = ([] : List (Int × Int))))) (j := (decide (first ≤ (ixF found_1 (-(1 : Int))).2))) (ev_cm (k := (!decide (found_1 = ([] : List (Int × Int))))) (op_vx rfl) (op_e rfl (ev_ls es_n rfl)) rfl rfl (cm_ne (enc_L (enc_P2 enc_I enc_I)) (by decide) found_1 ([] : List (Int × Int)))) (fun h3 => (ev_cm (k := (decide (first ≤ (ixF found_1 (-(1 : Int))).2))) (op_vx rfl) (op_e rfl (ev_ix (op_e rfl (ev_ix (op_vx rfl) (op_e rfl (ev_ng (op_e rfl (ev_k _)) rfl)) rfl rfl (ix_L (f := (eP2 eI eI)) (xs := found_1) (i := (-(1 : Int))) (h2.1 h3).1))) (op_e rfl (ev_k _)) rfl rfl (ix_t1 _ _ _))) rfl rfl rfl)) (Le.refl _) (Le.refl _)) (fun h4 => (let found_2 : List (Int × Int) := setF found_1 (-(1 : Int)) ((ixF found_1 (-(1 : Int))).1, (max2F (ixF found_1 (-(1 : Int))).2 end_v)); (ss_c (s_st (f := (eP2 eI eI)) (y := ((ixF found_1 (-(1 : Int))).1, (max2F (ixF found_1 (-(1 : Int))).2 end_v))) (xs := found_1) (ws := found_1) (k := (-(1 : Int))) (ev_tu (es_c (ev_ix (op_e rfl (ev_ix (op_vx rfl) (op_e rfl (ev_ng (op_e rfl (ev_k _)) rfl)) rfl rfl (ix_L (f := (eP2 eI eI)) (xs := found_1) (i := (-(1 : Int))) (h2.2.1 h4).1))) (op_e rfl (ev_k _)) rfl rfl (ix_t0 _ _)) rfl (es_c (ev_bu (as_c (op_e rfl (ev_ix (op_e rfl (ev_ix (op_vx rfl) (op_e rfl (ev_ng (op_e rfl (ev_k _)) rfl)) rfl rfl (ix_L (f := (eP2 eI eI)) (xs := found_1) (i := (-(1 : Int))) (h2.2.1 h4).2.1))) (op_e rfl (ev_k _)) rfl rfl (ix_t1 _ _ _))) (as_c (op_vx rfl) as_n)) rfl rfl) rfl es_n)) rfl) rfl rfl (op_e rfl (ev_ng (op_e rfl (ev_k _)) rfl)) rfl rfl (h2.2.1 h4).2.2.1)
  (sp_en (.s (.s (.u (.u .n)))))))) (fun h5 => (let found_3 : List (Int × Int) := found_1 ++ [(first, end_v)]; (ss_c (s_ap (f := (eP2 eI eI)) (y := (first, end_v)) (xs := found_1) (ws := found_1) rfl (ev_tu (es_c (ev_p rfl) rfl (es_c (ev_p rfl) rfl es_n)) rfl) rfl rfl (h2.2.2.1 h5).1)
  (sp_en (.s (.s (.u (.u .n)))))))))⟩) hk.1)
  (sp_rt (re_lx (by decide) rfl) (.s (.u (.u (.u .n))))))))
theorem joined_rf (k : Nat) (some_v : List (Int × Int)) (hk : joined_ok some_v) : CallOk (callF tab (k + 1)) f_joined [.o ((eL (eP2 eI eI)) some_v)] (.x (.o ((eL (eP2 eI eI)) (joined some_v)))) [.x (.p ((eL (eP2 eI eI)) some_v))] := by
  rw [joined_eq]
  exact joined_rfb k some_v hk
theorem pieces_of_rfb (k : Nat) (size : Int) (arcs : List (Int × Int)) (hk : pieces_of_ok size arcs) : CallOk (callF tab (k + 2)) f_pieces_of [.p (eI size), .o ((eL (eP2 eI eI)) arcs)] (.x (.o ((eL (eP2 eI eI)) (pieces_of_b size arcs)))) [.x (.p ((eL (eP2 eI eI)) arcs))] :=
  call_fn (k := k + 1) (R := List (Int × Int)) (fun v => .x (.o ((eL (eP2 eI eI)) v))) (fun v => [.u, .x (.p ((eL (eP2 eI eI)) arcs)), .u, .u, .u, .u, .u]) [.x (.p (eI size)), .x (.o ((eL (eP2 eI eI)) arcs)), .u, .u, .u, .u, .u] [.x (.p ((eL (eP2 eI eI)) arcs))] rfl rfl rfl [1] rfl rfl rfl
  (let found : List (Int × Int) := ([] : List (Int × Int)); let st_1 : List (Int × Int) := List.foldl (pieces_of_l0 size) found arcs; let found_4 : List (Int × Int) := st_1; (ss_c (s_as (s := .x (.o ((eL (eP2 eI eI)) found))) (ev_ls es_n rfl) rfl)
  (ss_c (s_fo (h := (eP2 eI eI)) (ys := arcs) (fun st : List (Int × Int) => [.x (.p (eI size)), .x (.p ((eL (eP2 eI eI)) arcs)), .x (.o ((eL (eP2 eI eI)) st)), .u, .u, .u, .u]) (pieces_of_l0 size) (pieces_of_l0_ok size) found (it_ex (ev_o rfl) rfl rfl) (.s (.s (.s (.u (.u (.u (.u .n))))))) (fun st y_v h1 h2 => let found_1 : List (Int × Int) := st; let first : Int := y_v.1; let many : Int := y_v.2; let begin : Int := (first % size); let end_v : Int := (begin + (min2F many size)); let found_2 : List (Int × Int) := found_1 ++ [(begin, (min2F end_v size))]; ⟨_, rfl, (ss_c (s_as (s := .x (.p (eI begin))) (ev_bi2 (op_vx rfl) (op_vx rfl) rfl rfl (bd_mod (i := first) (j := size) h2.1)) rfl)
  (ss_c (s_as (s := .x (.p (eI end_v))) (ev_bi2 (op_vx rfl) (op_e rfl (ev_bu (as_c (op_vx rfl) (as_c (op_vx rfl) as_n)) rfl rfl)) rfl rfl rfl) rfl)
  (ss_c (s_ap (f := (eP2 eI eI)) (y := (begin, (min2F end_v size))) (xs := found_1) (ws := found_1) rfl (ev_tu (es_c (ev_p rfl) rfl (es_c (ev_bu (as_c (op_vx rfl) (as_c (op_vx rfl) as_n)) rfl rfl) rfl es_n)) rfl) rfl rfl h2.2.1)
  (sp_ifn (k := (decide (size < end_v))) (ev_cm (k := (decide (size < end_v))) (op_vx rfl) (op_vx rfl) rfl rfl rfl) (fun h3 => (let found_3 : List (Int × Int) := found_2 ++ [((0 : Int), (end_v - size))]; (ss_c (s_ap (f := (eP2 eI eI)) (y := ((0 : Int), (end_v - size))) (xs := found_2) (ws := found_2) rfl (ev_tu (es_c (ev_k _) rfl (es_c (ev_bi2 (op_vx rfl) (op_vx rfl) rfl rfl rfl) rfl es_n)) rfl) rfl rfl (h2.2.2.1 h3).1)
  (sp_en (.s (.s (.s (.u (.u (.u (.u .n))))))))))) (fun h4 => (sp_en (.s (.s (.s (.u (.u (.u (.u .n)))))))))))))⟩) hk.1)
  (sp_rt (re_e rfl (Ev.le (σ2 := [.x (.p (eI size)), .x (.p ((eL (eP2 eI eI)) arcs)), .x (.o ((eL (eP2 eI eI)) found_4)), .u, .u, .u, .u]) (ev_ca (σ2 := [.x (.p (eI size)), .x (.p ((eL (eP2 eI eI)) arcs)), .x (.o ((eL (eP2 eI eI)) found_4)), .u, .u, .u, .u]) (ds := [.o ((eL (eP2 eI eI)) (srtP found_4))]) (as_c (op_e rfl (ev_bu (as_c (op_vx rfl) as_n) rfl (bi_so2 found_4))) as_n) rfl (joined_rf (k + 0) (srtP found_4) hk.2.1)) (.s (.s (.s (.u (.u (.u (.u .n))))))))) (.u (.s (.u (.u (.u (.u (.u .n)))))))))))
theorem pieces_of_rf (k : Nat) (size : Int) (arcs : List (Int × Int)) (hk : pieces_of_ok size arcs) : CallOk (callF tab (k + 2)) f_pieces_of [.p (eI size), .o ((eL (eP2 eI eI)) arcs)] (.x (.o ((eL (eP2 eI eI)) (pieces_of size arcs)))) [.x (.p ((eL (eP2 eI eI)) arcs))] := by
  rw [pieces_of_eq]
  exact pieces_of_rfb k size arcs hk
theorem common_rfb (k : Nat) (some_v : List (Int × Int)) (others : List (Int × Int)) (hk : common_ok some_v others) : CallOk (callF tab (k + 1)) f_common [.o ((eL (eP2 eI eI)) some_v), .o ((eL (eP2 eI eI)) others)] (.x (.o ((eL (eP2 eI eI)) (common_b some_v others)))) [.x (.p ((eL (eP2 eI eI)) some_v)), .w ((eL (eP2 eI eI)) others)] :=
  call_fn (k := k + 0) (R := List (Int × Int)) (fun v => .x (.o ((eL (eP2 eI eI)) v))) (fun v => [.x (.p ((eL (eP2 eI eI)) some_v)), .w ((eL (eP2 eI eI)) others), .u, .u, .u, .u, .u]) [.x (.o ((eL (eP2 eI eI)) some_v)), .x (.o ((eL (eP2 eI eI)) others)), .u, .u, .u, .u, .u] [.x (.p ((eL (eP2 eI eI)) some_v)), .w ((eL (eP2 eI eI)) others)] rfl rfl rfl [0, 1] rfl rfl rfl
  (let found : List (Int × Int) := ([] : List (Int × Int)); let st_3 : List (Int × Int) := List.foldl (common_l0 others) found some_v; let found_5 : List (Int × Int) := st_3; (ss_c (s_as (s := .x (.o ((eL (eP2 eI eI)) found))) (ev_ls es_n rfl) rfl)
  (ss_c (s_fo (h := (eP2 eI eI)) (ys := some_v) (fun st : List (Int × Int) => [.x (.p ((eL (eP2 eI eI)) some_v)), .w ((eL (eP2 eI eI)) others), .x (.o ((eL (eP2 eI eI)) st)), .u, .u, .u, .u]) (common_l0 others) (common_l0_ok others) found (it_ex (ev_o rfl) rfl rfl) (.s (.do_ (.s (.u (.u (.u (.u .n))))))) (fun st y_v h1 h2 => let found_1 : List (Int × Int) := st; let first : Int := y_v.1; let end_v : Int := y_v.2; let st_2 : List (Int × Int) := List.foldl (common_l1 first end_v) found_1 others; let found_4 : List (Int × Int) := st_2; ⟨_, rfl, (ss_c (s_fo (h := (eP2 eI eI)) (ys := others) (fun st : List (Int × Int) => [.x (.p ((eL (eP2 eI eI)) some_v)), .w ((eL (eP2 eI eI)) others), .x (.o ((eL (eP2 eI eI)) st)), .x (.p (eI first)), .x (.p (eI end_v)), .u, .u]) (common_l1 first end_v) (common_l1_ok first end_v) found_1 (it_ex (ev_d rfl) rfl rfl) (.s (.s (.s (.s (.s (.u (.u .n))))))) (fun st_1 y_v_1 h3 h4 => let found_2 : List (Int × Int) := st_1; let begin : Int := y_v_1.1; let last : Int := y_v_1.2; ⟨_, rfl, (sp_ifn (k := (decide ((max2F first begin) < (min2F end_v last)))) (ev_cm (k := (decide ((max2F first begin) < (min2F end_v last)))) (op_e rfl (ev_bu (as_c (op_vx rfl) (as_c (op_vx rfl) as_n)) rfl rfl)) (op_e rfl (ev_bu (as_c (op_vx rfl) (as_c (op_vx rfl) as_n)) rfl rfl)) rfl rfl rfl) (fun h5 => (let found_3 : List (Int × Int) := found_2 ++ [((max2F first begin), (min2F end_v last))]; (ss_c (s_ap (f := (eP2 eI eI)) (y := ((max2F first begin), (min2F end_v last))) (xs := found_2) (ws := found_2) rfl (ev_tu (es_c (ev_bu (as_c (op_vx rfl) (as_c (op_vx rfl) as_n)) rfl rfl) rfl (es_c (ev_bu (as_c (op_vx rfl) (as_c (op_vx rfl) as_n)) rfl rfl) rfl es_n)) rfl) rfl rfl (h4.1 h5).1)
  (sp_en (.s (.s (.s (.s (.s (.u (.u .n))))))))))) (fun h6 => (sp_en (.s (.s (.s (.s (.s (.u (.u .n))))))))))⟩) h2.1)
  (sp_en (.s (.s (.s (.u (.u (.u (.u .n)))))))))⟩) hk.1)
  (sp_rt (re_lx (by decide) rfl) (.s (.s (.u (.u (.u (.u (.u .n)))))))))))
theorem common_rf (k : Nat) (some_v : List (Int × Int)) (others : List (Int × Int)) (hk : common_ok some_v others) : CallOk (callF tab (k + 1)) f_common [.o ((eL (eP2 eI eI)) some_v), .o ((eL (eP2 eI eI)) others)] (.x (.o ((eL (eP2 eI eI)) (common some_v others)))) [.x (.p ((eL (eP2 eI eI)) some_v)), .w ((eL (eP2 eI eI)) others)] := by
  rw [common_eq]
  exact common_rfb k some_v others hk
theorem arcs_of_rfb (k : Nat) (size : Int) (some_v : List (Int × Int)) (hk : arcs_of_ok size some_v) : CallOk (callF tab (k + 1)) f_arcs_of [.p (eI size), .o ((eL (eP2 eI eI)) some_v)] (.x (.p ((eT (eP2 eI eI)) (arcs_of_b size some_v)))) [.w ((eL (eP2 eI eI)) some_v)] :=
  call_fn (k := k + 0) (R := List (Int × Int)) (fun v => .x (.p ((eT (eP2 eI eI)) v))) (fun v => [.u, .w ((eL (eP2 eI eI)) some_v), .u, .u, .u]) [.x (.p (eI size)), .x (.o ((eL (eP2 eI eI)) some_v)), .u, .u, .u] [.w ((eL (eP2 eI eI)) some_v)] rfl rfl rfl [1] rfl rfl rfl
  ((sp_ifr (k := ((decide ((some_v.length : Int) < (2 : Int))) || ((decide ((0 : Int) < (ixF some_v (0 : Int)).1)) || (decide ((ixF some_v (-(1 : Int))).2 < size))))) (ev_or' (k := (decide ((some_v.length : Int) < (2 : Int)))) (j := ((decide ((0 : Int) < (ixF some_v (0 : Int)).1)) || (decide ((ixF some_v (-(1 : Int))).2 < size)))) (ev_cm (k := (decide ((some_v.length : Int) < (2 : Int)))) (op_e rfl (ev_bu (as_c (op_vx rfl) as_n) rfl (bi_lenL (eP2 eI eI) some_v))) (op_e rfl (ev_k _)) rfl rfl rfl) (fun h1 => (ev_or' (k := (decide ((0 : Int) < (ixF some_v (0 : Int)).1))) (j := (decide ((ixF some_v (-(1 : Int))).2 < size))) (ev_cm (k := (decide ((0 : Int) < (ixF some_v (0 : Int)).1))) (op_e rfl (ev_ix (op_e rfl (ev_ix (op_vx rfl) (op_e rfl (ev_k _)) rfl rfl (ix_L (f := (eP2 eI eI)) (xs := some_v) (i := (0 : Int)) (hk.1 h1).1))) (op_e rfl (ev_k _)) rfl rfl (ix_t0 _ _))) (op_e rfl (ev_k _)) rfl rfl rfl) (fun h2 => (ev_cm (k := (decide ((ixF some_v (-(1 : Int))).2 < size))) (op_e rfl (ev_ix (op_e rfl (ev_ix (op_vx rfl) (op_e rfl (ev_ng (op_e rfl (ev_k _)) rfl)) rfl rfl (ix_L (f := (eP2 eI eI)) (xs := some_v) (i := (-(1 : Int))) ((hk.1 h1).2.1 h2).1))) (op_e rfl (ev_k _)) rfl rfl (ix_t1 _ _ _))) (op_vx rfl) rfl rfl rfl)) (Le.refl _) (Le.refl _))) (Le.refl _) (Le.refl _)) (fun h3 => (sp_rt (re_e rfl (ev_bu (as_c (op_e rfl (ev_lm (h := (eP2 eI eI)) (ys := some_v) (eP2 eI eI) (fun y_v : (Int × Int) => let first : Int := y_v.1; let end_v : Int := y_v.2; (first, (end_v - first))) (it_ex (ev_o rfl) rfl rfl) (fun y_v h5 => let first : Int := y_v.1; let end_v : Int := y_v.2; ⟨_, _, _, rfl, (ev_tu (es_c (ev_p rfl) rfl (es_c (ev_bi2 (op_vx rfl) (op_vx rfl) rfl rfl rfl) rfl es_n)) rfl), rfl, (.s (.s (.u (.u (.u .n)))))⟩))) as_n) rfl (bi_tup _))) (.u (.dp (.u (.u (.u .n))))))) (fun h4 => (let found : List (Int × Int) := (List.map (fun y_v_1 : (Int × Int) => let first_1 : Int := y_v_1.1; let end_v_1 : Int := y_v_1.2; (first_1, (end_v_1 - first_1))) (cutF some_v (some (1 : Int)) (some (-(1 : Int))))); (ss_c (s_as (s := .x (.o ((eL (eP2 eI eI)) found))) (ev_lm (h := (eP2 eI eI)) (ys := (cutF some_v (some (1 : Int)) (some (-(1 : Int))))) (eP2 eI eI) (fun y_v_1 : (Int × Int) => let first_1 : Int := y_v_1.1; let end_v_1 : Int := y_v_1.2; (first_1, (end_v_1 - first_1))) (it_ex (ev_sb (op_vx rfl) (op_e rfl (ev_k _)) rfl (op_e rfl (ev_ng (op_e rfl (ev_k _)) rfl)) rfl rfl (sb_L (eP2 eI eI) some_v (1 : Int) (-(1 : Int)))) rfl rfl) (fun y_v_1 h6 => let first_1 : Int := y_v_1.1; let end_v_1 : Int := y_v_1.2; ⟨_, _, _, rfl, (ev_tu (es_c (ev_p rfl) rfl (es_c (ev_bi2 (op_vx rfl) (op_vx rfl) rfl rfl rfl) rfl es_n)) rfl), rfl, (.s (.s (.u (.u (.u .n)))))⟩)) rfl)
  (sp_rt (re_e rfl (ev_bu (as_c (op_e rfl (ev_bi2 (op_vx rfl) (op_e rfl (ev_ls (es_c (ev_tu (es_c (ev_ix (op_e rfl (ev_ix (op_vx rfl) (op_e rfl (ev_ng (op_e rfl (ev_k _)) rfl)) rfl rfl (ix_L (f := (eP2 eI eI)) (xs := some_v) (i := (-(1 : Int))) (hk.2.1 h4).1))) (op_e rfl (ev_k _)) rfl rfl (ix_t0 _ _)) rfl (es_c (ev_bi2 (op_e rfl (ev_bi2 (op_vx rfl) (op_e rfl (ev_ix (op_e rfl (ev_ix (op_vx rfl) (op_e rfl (ev_ng (op_e rfl (ev_k _)) rfl)) rfl rfl (ix_L (f := (eP2 eI eI)) (xs := some_v) (i := (-(1 : Int))) (hk.2.1 h4).2.1))) (op_e rfl (ev_k _)) rfl rfl (ix_t0 _ _))) rfl rfl rfl)) (op_e rfl (ev_ix (op_e rfl (ev_ix (op_vx rfl) (op_e rfl (ev_k _)) rfl rfl (ix_L (f := (eP2 eI eI)) (xs := some_v) (i := (0 : Int)) (hk.2.1 h4).2.2.1))) (op_e rfl (ev_k _)) rfl rfl (ix_t1 _ _ _))) rfl rfl rfl) rfl es_n)) rfl) rfl es_n) rfl)) rfl rfl (bd_L (f := (eP2 eI eI)) (xs := found) (ys := [((ixF some_v (-(1 : Int))).1, ((size - (ixF some_v (-(1 : Int))).1) + (ixF some_v (0 : Int)).2))]) (hk.2.1 h4).2.2.2.1))) as_n) rfl (bi_tup _))) (.u (.do_ (.u (.u (.u .n)))))))))))
theorem arcs_of_rf (k : Nat) (size : Int) (some_v : List (Int × Int)) (hk : arcs_of_ok size some_v) : CallOk (callF tab (k + 1)) f_arcs_of [.p (eI size), .o ((eL (eP2 eI eI)) some_v)] (.x (.p ((eT (eP2 eI eI)) (arcs_of size some_v)))) [.w ((eL (eP2 eI eI)) some_v)] := by
  rw [arcs_of_eq]
  exact arcs_of_rfb k size some_v hk
theorem along_rfb (k : Nat) (disc : (Int × (List (Int × (List Int))) × (List (Int × Int × Int)))) (row : List (List Int)) (hk : along_ok disc row) : CallOk (callF tab (k + 4)) f_along [.p ((eP3 eI (eT (eP2 eI (eT eI))) (eT (eP3 eI eI eI))) disc), .p ((eT (eT eI)) row)] (.x (.p ((eT (eP2 eI eI)) (along_b disc row)))) [] :=
  call_fn (k := k + 3) (R := List (Int × Int)) (fun v => .x (.p ((eT (eP2 eI eI)) v))) (fun v => [.u, .u, .u, .u, .u, .u, .u, .u, .u, .u, .u, .u]) [.x (.p ((eP3 eI (eT (eP2 eI (eT eI))) (eT (eP3 eI eI eI))) disc)), .x (.p ((eT (eT eI)) row)), .u, .u, .u, .u, .u, .u, .u, .u, .u, .u] [] rfl rfl rfl [] rfl rfl rfl
  (let found : List (Int × Int) := [((0 : Int), disc.1)]; let st_1 : List (Int × Int) := List.foldl (along_l0 disc row) found (enI disc.2.2); let found_3 : List (Int × Int) := st_1; (ss_c (s_as (s := .x (.o ((eL (eP2 eI eI)) found))) (ev_ls (es_c (ev_tu (es_c (ev_k _) rfl (es_c (ev_ix (op_vx rfl) (op_e rfl (ev_k _)) rfl rfl (ix_t0 _ _)) rfl es_n)) rfl) rfl es_n) rfl) rfl)
  (ss_c (s_fo (h := (eP2 eI (eP3 eI eI eI))) (ys := (enI disc.2.2)) (fun st : List (Int × Int) => [.x (.p ((eP3 eI (eT (eP2 eI (eT eI))) (eT (eP3 eI eI eI))) disc)), .x (.p ((eT (eT eI)) row)), .x (.o ((eL (eP2 eI eI)) st)), .u, .u, .u, .u, .u, .u, .u, .u, .u]) (along_l0 disc row) (along_l0_ok disc row) found (it_en (f := (eP3 eI eI eI)) (xs := disc.2.2) (ev_ix (op_vx rfl) (op_e rfl (ev_k _)) rfl rfl (ix_t2 _ _ _ _)) rfl rfl) (.s (.s (.s (.u (.u (.u (.u (.u (.u (.u (.u (.u .n)))))))))))) (fun st y_v h1 h2 => let found_1 : List (Int × Int) := st; let number : Int := y_v.1; let track : Int := y_v.2.1; let low : Int := y_v.2.2.1; let high : Int := y_v.2.2.2; let cells : List (Int × Int) := (row_cells disc track (List.map (fun y_v_1 : List Int => let pattern : List Int := y_v_1; (ixF pattern number)) row)); let some_v : List (Int × Int) := (List.map (fun y_v_2 : (Int × Int) => let first : Int := y_v_2.1; let many : Int := y_v_2.2; ((first - high), ((many + high) - low))) cells); let found_2 : List (Int × Int) := (common found_1 (pieces_of disc.1 some_v)); ⟨_, rfl, (ss_c (s_as (s := .x (.o ((eL (eP2 eI eI)) cells))) (Ev.le (σ2 := [.x (.p ((eP3 eI (eT (eP2 eI (eT eI))) (eT (eP3 eI eI eI))) disc)), .x (.p ((eT (eT eI)) row)), .x (.o ((eL (eP2 eI eI)) found_1)), .x (.p (eI number)), .x (.p (eI track)), .x (.p (eI low)), .x (.p (eI high)), .u, .u, .u, .u, .u]) (ev_ca (σ2 := [.x (.p ((eP3 eI (eT (eP2 eI (eT eI))) (eT (eP3 eI eI eI))) disc)), .x (.p ((eT (eT eI)) row)), .x (.o ((eL (eP2 eI eI)) found_1)), .x (.p (eI number)), .x (.p (eI track)), .x (.p (eI low)), .x (.p (eI high)), .u, .u, .u, .u, .u]) (ds := [.p ((eP3 eI (eT (eP2 eI (eT eI))) (eT (eP3 eI eI eI))) disc), .p (eI track), .o ((eL eI) (List.map (fun y_v_1 : List Int => let pattern : List Int := y_v_1; (ixF pattern number)) row))]) (as_c (op_vx rfl) (as_c (op_vx rfl) (as_c (op_e rfl (ev_lm (h := (eT eI)) (ys := row) eI (fun y_v_1 : List Int => let pattern : List Int := y_v_1; (ixF pattern number)) (it_ex (ev_p rfl) rfl rfl) (fun y_v_1 h3 => let pattern : List Int := y_v_1; ⟨_, _, _, rfl, (ev_ix (op_vx rfl) (op_vx rfl) rfl rfl (ix_T (f := eI) (xs := pattern) (i := number) (h2.1 y_v_1 h3).1)), rfl, (.s (.s (.s (.s (.s (.s (.s (.u (.u (.u (.u (.u .n))))))))))))⟩))) as_n))) rfl (row_cells_rf (k + 0) disc track (List.map (fun y_v_1 : List Int => let pattern : List Int := y_v_1; (ixF pattern number)) row) h2.2.1)) (.s (.s (.s (.s (.s (.s (.s (.u (.u (.u (.u (.u .n))))))))))))) rfl)
  (ss_c (s_as (s := .x (.o ((eL (eP2 eI eI)) some_v))) (ev_lm (h := (eP2 eI eI)) (ys := cells) (eP2 eI eI) (fun y_v_2 : (Int × Int) => let first : Int := y_v_2.1; let many : Int := y_v_2.2; ((first - high), ((many + high) - low))) (it_ex (ev_o rfl) rfl rfl) (fun y_v_2 h4 => let first : Int := y_v_2.1; let many : Int := y_v_2.2; ⟨_, _, _, rfl, (ev_tu (es_c (ev_bi2 (op_vx rfl) (op_vx rfl) rfl rfl rfl) rfl (es_c (ev_bi2 (op_e rfl (ev_bi2 (op_vx rfl) (op_vx rfl) rfl rfl rfl)) (op_vx rfl) rfl rfl rfl) rfl es_n)) rfl), rfl, (.s (.s (.s (.s (.s (.s (.s (.s (.u (.u (.u (.u .n))))))))))))⟩)) rfl)
  (ss_c (s_as (s := .x (.o ((eL (eP2 eI eI)) found_2))) (Ev.le (σ2 := [.x (.p ((eP3 eI (eT (eP2 eI (eT eI))) (eT (eP3 eI eI eI))) disc)), .x (.p ((eT (eT eI)) row)), .x (.p ((eL (eP2 eI eI)) found_1)), .x (.p (eI number)), .x (.p (eI track)), .x (.p (eI low)), .x (.p (eI high)), .x (.p ((eL (eP2 eI eI)) cells)), .u, .x (.p ((eL (eP2 eI eI)) some_v)), .u, .u]) (ev_ca (σ2 := [.x (.p ((eP3 eI (eT (eP2 eI (eT eI))) (eT (eP3 eI eI eI))) disc)), .x (.p ((eT (eT eI)) row)), .u, .x (.p (eI number)), .x (.p (eI track)), .x (.p (eI low)), .x (.p (eI high)), .x (.p ((eL (eP2 eI eI)) cells)), .u, .x (.p ((eL (eP2 eI eI)) some_v)), .u, .u]) (ds := [.o ((eL (eP2 eI eI)) found_1), .o ((eL (eP2 eI eI)) (pieces_of disc.1 some_v))]) (as_c (op_vx rfl) (as_c (op_e rfl (Ev.le (σ2 := [.x (.p ((eP3 eI (eT (eP2 eI (eT eI))) (eT (eP3 eI eI eI))) disc)), .x (.p ((eT (eT eI)) row)), .x (.o ((eL (eP2 eI eI)) found_1)), .x (.p (eI number)), .x (.p (eI track)), .x (.p (eI low)), .x (.p (eI high)), .x (.p ((eL (eP2 eI eI)) cells)), .u, .x (.p ((eL (eP2 eI eI)) some_v)), .u, .u]) (ev_ca (σ2 := [.x (.p ((eP3 eI (eT (eP2 eI (eT eI))) (eT (eP3 eI eI eI))) disc)), .x (.p ((eT (eT eI)) row)), .x (.o ((eL (eP2 eI eI)) found_1)), .x (.p (eI number)), .x (.p (eI track)), .x (.p (eI low)), .x (.p (eI high)), .x (.p ((eL (eP2 eI eI)) cells)), .u, .u, .u, .u]) (ds := [.p (eI disc.1), .o ((eL (eP2 eI eI)) some_v)]) (as_c (op_e rfl (ev_ix (op_vx rfl) (op_e rfl (ev_k _)) rfl rfl (ix_t0 _ _))) (as_c (op_vx rfl) as_n)) rfl (pieces_of_rf (k + 1) disc.1 some_v h2.2.2.1)) (.s (.s (.s (.s (.s (.s (.s (.s (.u (.s (.u (.u .n)))))))))))))) as_n)) rfl (common_rf (k + 2) found_1 (pieces_of disc.1 some_v) h2.2.2.2.1)) (.s (.s (.s (.s (.s (.s (.s (.s (.u (.s (.u (.u .n))))))))))))) rfl)
  (sp_en (.s (.s (.s (.u (.u (.u (.u (.u (.u (.u (.u (.u .n))))))))))))))))⟩) hk.1)
  (sp_rt (re_e rfl (Ev.le (σ2 := [.x (.p ((eP3 eI (eT (eP2 eI (eT eI))) (eT (eP3 eI eI eI))) disc)), .x (.p ((eT (eT eI)) row)), .w ((eL (eP2 eI eI)) found_3), .u, .u, .u, .u, .u, .u, .u, .u, .u]) (ev_ca (σ2 := [.x (.p ((eP3 eI (eT (eP2 eI (eT eI))) (eT (eP3 eI eI eI))) disc)), .x (.p ((eT (eT eI)) row)), .u, .u, .u, .u, .u, .u, .u, .u, .u, .u]) (ds := [.p (eI disc.1), .o ((eL (eP2 eI eI)) found_3)]) (as_c (op_e rfl (ev_ix (op_vx rfl) (op_e rfl (ev_k _)) rfl rfl (ix_t0 _ _))) (as_c (op_vx rfl) as_n)) rfl (arcs_of_rf (k + 2) disc.1 found_3 hk.2.1)) (.s (.s (.s (.u (.u (.u (.u (.u (.u (.u (.u (.u .n)))))))))))))) (.u (.u (.u (.u (.u (.u (.u (.u (.u (.u (.u (.u .n))))))))))))))))
theorem along_rf (k : Nat) (disc : (Int × (List (Int × (List Int))) × (List (Int × Int × Int)))) (row : List (List Int)) (hk : along_ok disc row) : CallOk (callF tab (k + 4)) f_along [.p ((eP3 eI (eT (eP2 eI (eT eI))) (eT (eP3 eI eI eI))) disc), .p ((eT (eT eI)) row)] (.x (.p ((eT (eP2 eI eI)) (along disc row)))) [] := by
  rw [along_eq]
  exact along_rfb k disc row hk
theorem positions_rfb (k : Nat) (disc : (Int × (List (Int × (List Int))) × (List (Int × Int × Int)))) (pattern : List Int) (hk : positions_ok disc pattern) : CallOk (callF tab (k + 5)) f_positions [.p ((eP3 eI (eT (eP2 eI (eT eI))) (eT (eP3 eI eI eI))) disc), .p ((eT eI) pattern)] (.x (.p ((eT (eP2 eI eI)) (positions_b disc pattern)))) [] :=
  call_fn (k := k + 4) (R := List (Int × Int)) (fun v => .x (.p ((eT (eP2 eI eI)) v))) (fun v => [.u, .u]) [.x (.p ((eP3 eI (eT (eP2 eI (eT eI))) (eT (eP3 eI eI eI))) disc)), .x (.p ((eT eI) pattern))] [] rfl rfl rfl [] rfl rfl rfl
  ((sp_rt (re_e rfl (ev_cp (vs := [(eP3 eI (eT (eP2 eI (eT eI))) (eT (eP3 eI eI eI))) disc, (eT (eT eI)) [pattern]]) (as_c (op_vx rfl) (as_c (op_e rfl (ev_tu (es_c (ev_p rfl) rfl es_n) rfl)) as_n)) rfl (along_rf (k + 0) disc [pattern] hk.1))) (.u (.u .n))))
theorem positions_rf (k : Nat) (disc : (Int × (List (Int × (List Int))) × (List (Int × Int × Int)))) (pattern : List Int) (hk : positions_ok disc pattern) : CallOk (callF tab (k + 5)) f_positions [.p ((eP3 eI (eT (eP2 eI (eT eI))) (eT (eP3 eI eI eI))) disc), .p ((eT eI) pattern)] (.x (.p ((eT (eP2 eI eI)) (positions disc pattern)))) [] := by
  rw [positions_eq]
  exact positions_rfb k disc pattern hk
theorem l_holds_rfb (k : Nat) (size : Int) (arcs : List (Int × Int)) (position : Int) (hk : l_holds_ok size arcs position) : CallOk (callF tab (k + 1)) f_law_holds [.p (eI size), .p ((eT (eP2 eI eI)) arcs), .p (eI position)] (.x (.p (eB (l_holds_b size arcs position)))) [] :=
  call_fn (k := k + 0) (R := Bool) (fun v => .x (.p (eB v))) (fun v => [.u, .u, .u, .u, .u]) [.x (.p (eI size)), .x (.p ((eT (eP2 eI eI)) arcs)), .x (.p (eI position)), .u, .u] [] rfl rfl rfl [] rfl rfl rfl
  ((sp_rt (re_e rfl (ev_cm (k := (!decide ((List.map (fun y_v : (Int × Int) => let first : Int := y_v.1; let many : Int := y_v.2; (1 : Int)) (List.filter (fun y_v : (Int × Int) => let first : Int := y_v.1; let many : Int := y_v.2; (decide (((position - first) % size) < many))) arcs)) = ([] : List Int)))) (op_e rfl (ev_lf (h := (eP2 eI eI)) (ys := arcs) (fun y_v : (Int × Int) => let first : Int := y_v.1; let many : Int := y_v.2; (decide (((position - first) % size) < many))) eI (fun y_v : (Int × Int) => let first : Int := y_v.1; let many : Int := y_v.2; (1 : Int)) (it_ex (ev_p rfl) rfl rfl) (fun y_v h1 => let first : Int := y_v.1; let many : Int := y_v.2; ⟨_, _, rfl, (ev_cm (k := (decide (((position - first) % size) < many))) (op_e rfl (ev_bi2 (op_e rfl (ev_bu (as_c (op_e rfl (ev_bi2 (op_vx rfl) (op_vx rfl) rfl rfl rfl)) as_n) rfl rfl)) (op_vx rfl) rfl rfl (bd_mod (i := (position - first)) (j := size) (hk.1 y_v h1).1))) (op_vx rfl) rfl rfl rfl), fun _ => (.s (.s (.s (.u (.u .n))))), fun h2 => ⟨_, _, (ev_k _), rfl, (.s (.s (.s (.u (.u .n)))))⟩⟩))) (op_e rfl (ev_ls es_n rfl)) rfl rfl (cm_ne (enc_L enc_I) (by decide) (List.map (fun y_v : (Int × Int) => let first : Int := y_v.1; let many : Int := y_v.2; (1 : Int)) (List.filter (fun y_v : (Int × Int) => let first : Int := y_v.1; let many : Int := y_v.2; (decide (((position - first) % size) < many))) arcs)) ([] : List Int)))) (.u (.u (.u (.u (.u .n)))))))
theorem l_holds_rf (k : Nat) (size : Int) (arcs : List (Int × Int)) (position : Int) (hk : l_holds_ok size arcs position) : CallOk (callF tab (k + 1)) f_law_holds [.p (eI size), .p ((eT (eP2 eI eI)) arcs), .p (eI position)] (.x (.p (eB (l_holds size arcs position)))) [] := by
  rw [l_holds_eq]
  exact l_holds_rfb k size arcs position hk
theorem colours_rfb (k : Nat) (disc : (Int × (List (Int × (List Int))) × (List (Int × Int × Int)))) (sensor : (Int × Int × Int)) (position : Int) (hk : colours_ok disc sensor position) : CallOk (callF tab (k + 2)) f_colours [.p ((eP3 eI (eT (eP2 eI (eT eI))) (eT (eP3 eI eI eI))) disc), .p ((eP3 eI eI eI) sensor), .p (eI position)] (.x (.p ((eT eI) (colours_b disc sensor position)))) [] :=
  call_fn (k := k + 1) (R := List Int) (fun v => .x (.p ((eT eI) v))) (fun v => [.u, .u, .u, .u, .u, .u, .u]) [.x (.p ((eP3 eI (eT (eP2 eI (eT eI))) (eT (eP3 eI eI eI))) disc)), .x (.p ((eP3 eI eI eI) sensor)), .x (.p (eI position)), .u, .u, .u, .u] [] rfl rfl rfl [] rfl rfl rfl
  (let track : Int := sensor.1; let low : Int := sensor.2.1; let high : Int := sensor.2.2; let some_v : (Int × Int) := ((colour disc track (position + low)), (colour disc track (position + high))); (ss_c (s_un (v := (eP3 eI eI eI) sensor) (ev_p rfl) rfl rfl)
  (ss_c (s_as (s := .x (.p ((eP2 eI eI) some_v))) (ev_tu (es_c (ev_cp (vs := [(eP3 eI (eT (eP2 eI (eT eI))) (eT (eP3 eI eI eI))) disc, eI track, eI (position + low)]) (as_c (op_vx rfl) (as_c (op_vx rfl) (as_c (op_e rfl (ev_bi2 (op_vx rfl) (op_vx rfl) rfl rfl rfl)) as_n))) rfl (colour_rf (k + 0) disc track (position + low) hk.1)) rfl (es_c (ev_cp (vs := [(eP3 eI (eT (eP2 eI (eT eI))) (eT (eP3 eI eI eI))) disc, eI track, eI (position + high)]) (as_c (op_vx rfl) (as_c (op_vx rfl) (as_c (op_e rfl (ev_bi2 (op_vx rfl) (op_vx rfl) rfl rfl rfl)) as_n))) rfl (colour_rf (k + 0) disc track (position + high) hk.2.1)) rfl es_n)) rfl) rfl)
  (sp_rt (re_e rfl (ev_if (fun z : List Int => .x (.p ((eT eI) z))) (k := (decide (some_v.1 = some_v.2))) (x := [some_v.1]) (y := [(0 : Int), (1 : Int)]) (ev_cm (k := (decide (some_v.1 = some_v.2))) (op_e rfl (ev_ix (op_vx rfl) (op_e rfl (ev_k _)) rfl rfl (ix_t0 _ _))) (op_e rfl (ev_ix (op_vx rfl) (op_e rfl (ev_k _)) rfl rfl (ix_t1 _ _ _))) rfl rfl (cm_eq enc_I (by decide) some_v.1 some_v.2)) (fun h1 => (ev_tu (es_c (ev_ix (op_vx rfl) (op_e rfl (ev_k _)) rfl rfl (ix_t0 _ _)) rfl es_n) rfl)) (fun h2 => (ev_tu (es_c (ev_k _) rfl (es_c (ev_k _) rfl es_n)) rfl)))) (.u (.u (.u (.u (.u (.u (.u .n)))))))))))
theorem colours_rf (k : Nat) (disc : (Int × (List (Int × (List Int))) × (List (Int × Int × Int)))) (sensor : (Int × Int × Int)) (position : Int) (hk : colours_ok disc sensor position) : CallOk (callF tab (k + 2)) f_colours [.p ((eP3 eI (eT (eP2 eI (eT eI))) (eT (eP3 eI eI eI))) disc), .p ((eP3 eI eI eI) sensor), .p (eI position)] (.x (.p ((eT eI) (colours disc sensor position)))) [] := by
  rw [colours_eq]
  exact colours_rfb k disc sensor position hk
theorem possible_rfb (k : Nat) (disc : (Int × (List (Int × (List Int))) × (List (Int × Int × Int)))) (position : Int) (hk : possible_ok disc position) : CallOk (callF tab (k + 3)) f_possible [.p ((eP3 eI (eT (eP2 eI (eT eI))) (eT (eP3 eI eI eI))) disc), .p (eI position)] (.x (.p ((eT (eT eI)) (possible_b disc position)))) [] :=
  call_fn (k := k + 2) (R := List (List Int)) (fun v => .x (.p ((eT (eT eI)) v))) (fun v => [.u, .u, .u]) [.x (.p ((eP3 eI (eT (eP2 eI (eT eI))) (eT (eP3 eI eI eI))) disc)), .x (.p (eI position)), .u] [] rfl rfl rfl [] rfl rfl rfl
  ((sp_rt (re_e rfl (ev_bu (as_c (op_e rfl (ev_lm (h := (eP3 eI eI eI)) (ys := disc.2.2) (eT eI) (fun y_v : (Int × Int × Int) => let sensor : (Int × Int × Int) := y_v; (colours disc sensor position)) (it_ex (ev_ix (op_vx rfl) (op_e rfl (ev_k _)) rfl rfl (ix_t2 _ _ _ _)) rfl rfl) (fun y_v h1 => let sensor : (Int × Int × Int) := y_v; ⟨_, _, _, rfl, (ev_cp (vs := [(eP3 eI (eT (eP2 eI (eT eI))) (eT (eP3 eI eI eI))) disc, (eP3 eI eI eI) sensor, eI position]) (as_c (op_vx rfl) (as_c (op_vx rfl) (as_c (op_vx rfl) as_n))) rfl (colours_rf (k + 0) disc sensor position (hk.1 y_v h1).1)), rfl, (.s (.s (.u .n)))⟩))) as_n) rfl (bi_tup _))) (.u (.u (.u .n)))))
theorem possible_rf (k : Nat) (disc : (Int × (List (Int × (List Int))) × (List (Int × Int × Int)))) (position : Int) (hk : possible_ok disc position) : CallOk (callF tab (k + 3)) f_possible [.p ((eP3 eI (eT (eP2 eI (eT eI))) (eT (eP3 eI eI eI))) disc), .p (eI position)] (.x (.p ((eT (eT eI)) (possible disc position)))) [] := by
  rw [possible_eq]
  exact possible_rfb k disc position hk
theorem can_read_rfb (k : Nat) (disc : (Int × (List (Int × (List Int))) × (List (Int × Int × Int)))) (position : Int) (pattern : List Int) (hk : can_read_ok disc position pattern) : CallOk (callF tab (k + 4)) f_can_read [.p ((eP3 eI (eT (eP2 eI (eT eI))) (eT (eP3 eI eI eI))) disc), .p (eI position), .p ((eT eI) pattern)] (.x (.p (eB (can_read_b disc position pattern)))) [] :=
  call_fn (k := k + 3) (R := Bool) (fun v => .x (.p (eB v))) (fun v => [.u, .u, .u, .u, .u]) [.x (.p ((eP3 eI (eT (eP2 eI (eT eI))) (eT (eP3 eI eI eI))) disc)), .x (.p (eI position)), .x (.p ((eT eI) pattern)), .u, .u] [] rfl rfl rfl [] rfl rfl rfl
  ((sp_rt (re_e rfl (ev_bu (as_c (op_e rfl (ev_lm (h := (eP2 eI (eT eI))) (ys := (List.zip pattern (possible disc position))) eB (fun y_v : (Int × (List Int)) => let one : Int := y_v.1; let some_v : List Int := y_v.2; (decide (one ∈ some_v))) (it_z2 (f := eI) (g := (eT eI)) (xs := pattern) (ys := (possible disc position)) (ev_p rfl) rfl (ev_cp (vs := [(eP3 eI (eT (eP2 eI (eT eI))) (eT (eP3 eI eI eI))) disc, eI position]) (as_c (op_vx rfl) (as_c (op_vx rfl) as_n)) rfl (possible_rf (k + 0) disc position hk.1)) rfl rfl rfl) (fun y_v h1 => let one : Int := y_v.1; let some_v : List Int := y_v.2; ⟨_, _, _, rfl, (ev_cm (k := (decide (one ∈ some_v))) (op_vx rfl) (op_vx rfl) rfl rfl (cm_inT enc_I (by decide) one some_v).1), rfl, (.s (.s (.s (.u (.u .n)))))⟩))) as_n) rfl (bi_all (List.map (fun y_v : (Int × (List Int)) => let one : Int := y_v.1; let some_v : List Int := y_v.2; (decide (one ∈ some_v))) (List.zip pattern (possible disc position)))))) (.u (.u (.u (.u (.u .n)))))))
theorem can_read_rf (k : Nat) (disc : (Int × (List (Int × (List Int))) × (List (Int × Int × Int)))) (position : Int) (pattern : List Int) (hk : can_read_ok disc position pattern) : CallOk (callF tab (k + 4)) f_can_read [.p ((eP3 eI (eT (eP2 eI (eT eI))) (eT (eP3 eI eI eI))) disc), .p (eI position), .p ((eT eI) pattern)] (.x (.p (eB (can_read disc position pattern)))) [] := by
  rw [can_read_eq]
  exact can_read_rfb k disc position pattern hk
theorem seats_for_rfb (k : Nat) (disc : (Int × (List (Int × (List Int))) × (List (Int × Int × Int)))) (position : Int) (pattern : List Int) (hk : seats_for_ok disc position pattern) : CallOk (callF tab (k + 5)) f_seats_for [.p ((eP3 eI (eT (eP2 eI (eT eI))) (eT (eP3 eI eI eI))) disc), .p (eI position), .p ((eT eI) pattern)] (.x (.p ((eO (eT eI)) (seats_for_b disc position pattern)))) [] :=
  call_fn (k := k + 4) (R := Option (List Int)) (fun v => .x (.p ((eO (eT eI)) v))) (fun v => [.u, .u, .u, .u, .u, .u, .u, .u]) [.x (.p ((eP3 eI (eT (eP2 eI (eT eI))) (eT (eP3 eI eI eI))) disc)), .x (.p (eI position)), .x (.p ((eT eI) pattern)), .u, .u, .u, .u, .u] [] rfl rfl rfl [] rfl rfl rfl
  ((sp_ifr (k := (!(can_read disc position pattern))) (ev_nt (ev_cp (vs := [(eP3 eI (eT (eP2 eI (eT eI))) (eT (eP3 eI eI eI))) disc, eI position, (eT eI) pattern]) (as_c (op_vx rfl) (as_c (op_vx rfl) (as_c (op_vx rfl) as_n))) rfl (can_read_rf (k + 0) disc position pattern hk.1))) (fun h1 => (sp_rt (re_e rfl (ev_k _)) (.u (.u (.u (.u (.u (.u (.u (.u .n)))))))))) (fun h2 => (let found : List Int := ([] : List Int); let st_1 : List Int := List.foldl (seats_for_l0 disc position) found (List.zip disc.2.2 pattern); let found_3 : List Int := st_1; (ss_c (s_as (s := .x (.o ((eL eI) found))) (ev_ls es_n rfl) rfl)
  (ss_c (s_fo (h := (eP2 (eP3 eI eI eI) eI)) (ys := (List.zip disc.2.2 pattern)) (fun st : List Int => [.x (.p ((eP3 eI (eT (eP2 eI (eT eI))) (eT (eP3 eI eI eI))) disc)), .x (.p (eI position)), .x (.p ((eT eI) pattern)), .x (.o ((eL eI) st)), .u, .u, .u, .u]) (seats_for_l0 disc position) (seats_for_l0_ok disc position) found (it_z2 (f := (eP3 eI eI eI)) (g := eI) (xs := disc.2.2) (ys := pattern) (ev_ix (op_vx rfl) (op_e rfl (ev_k _)) rfl rfl (ix_t2 _ _ _ _)) rfl (ev_p rfl) rfl rfl rfl) (.s (.s (.s (.s (.u (.u (.u (.u .n)))))))) (fun st y_v h3 h4 => let found_1 : List Int := st; let track : Int := y_v.1.1; let low : Int := y_v.1.2.1; let high : Int := y_v.1.2.2; let one : Int := y_v.2; let found_2 : List Int := found_1 ++ [(if (decide ((colour disc track (position + low)) = one)) = true then low else high)]; ⟨_, rfl, (ss_c (s_ap (f := eI) (y := (if (decide ((colour disc track (position + low)) = one)) = true then low else high)) (xs := found_1) (ws := found_1) rfl (ev_if (fun z : Int => .x (.p (eI z))) (k := (decide ((colour disc track (position + low)) = one))) (x := low) (y := high) (ev_cm (k := (decide ((colour disc track (position + low)) = one))) (op_e rfl (ev_cp (vs := [(eP3 eI (eT (eP2 eI (eT eI))) (eT (eP3 eI eI eI))) disc, eI track, eI (position + low)]) (as_c (op_vx rfl) (as_c (op_vx rfl) (as_c (op_e rfl (ev_bi2 (op_vx rfl) (op_vx rfl) rfl rfl rfl)) as_n))) rfl (colour_rf (k + 3) disc track (position + low) h4.1))) (op_vx rfl) rfl rfl (cm_eq enc_I (by decide) (colour disc track (position + low)) one)) (fun h5 => (ev_p rfl)) (fun h6 => (ev_p rfl))) rfl rfl h4.2.1)
  (sp_en (.s (.s (.s (.s (.u (.u (.u (.u .n))))))))))⟩) (hk.2.1 h2).1)
  (sp_rt (re_e rfl (ev_bu (as_c (op_vx rfl) as_n) rfl (bi_tup _))) (.u (.u (.u (.u (.u (.u (.u (.u .n)))))))))))))))
theorem seats_for_rf (k : Nat) (disc : (Int × (List (Int × (List Int))) × (List (Int × Int × Int)))) (position : Int) (pattern : List Int) (hk : seats_for_ok disc position pattern) : CallOk (callF tab (k + 5)) f_seats_for [.p ((eP3 eI (eT (eP2 eI (eT eI))) (eT (eP3 eI eI eI))) disc), .p (eI position), .p ((eT eI) pattern)] (.x (.p ((eO (eT eI)) (seats_for disc position pattern)))) [] := by
  rw [seats_for_eq]
  exact seats_for_rfb k disc position pattern hk
theorem reading_rfb (k : Nat) (disc : (Int × (List (Int × (List Int))) × (List (Int × Int × Int)))) (position : Int) (seats : List Int) (hk : reading_ok disc position seats) : CallOk (callF tab (k + 2)) f_reading [.p ((eP3 eI (eT (eP2 eI (eT eI))) (eT (eP3 eI eI eI))) disc), .p (eI position), .p ((eT eI) seats)] (.x (.p ((eT eI) (reading_b disc position seats)))) [] :=
  call_fn (k := k + 1) (R := List Int) (fun v => .x (.p ((eT eI) v))) (fun v => [.u, .u, .u, .u, .u]) [.x (.p ((eP3 eI (eT (eP2 eI (eT eI))) (eT (eP3 eI eI eI))) disc)), .x (.p (eI position)), .x (.p ((eT eI) seats)), .u, .u] [] rfl rfl rfl [] rfl rfl rfl
  ((sp_rt (re_e rfl (ev_bu (as_c (op_e rfl (ev_lm (h := (eP2 (eP3 eI eI eI) eI)) (ys := (List.zip disc.2.2 seats)) eI (fun y_v : ((Int × Int × Int) × Int) => let sensor : (Int × Int × Int) := y_v.1; let seat : Int := y_v.2; (colour disc sensor.1 (position + seat))) (it_z2 (f := (eP3 eI eI eI)) (g := eI) (xs := disc.2.2) (ys := seats) (ev_ix (op_vx rfl) (op_e rfl (ev_k _)) rfl rfl (ix_t2 _ _ _ _)) rfl (ev_p rfl) rfl rfl rfl) (fun y_v h1 => let sensor : (Int × Int × Int) := y_v.1; let seat : Int := y_v.2; ⟨_, _, _, rfl, (ev_cp (vs := [(eP3 eI (eT (eP2 eI (eT eI))) (eT (eP3 eI eI eI))) disc, eI sensor.1, eI (position + seat)]) (as_c (op_vx rfl) (as_c (op_e rfl (ev_ix (op_vx rfl) (op_e rfl (ev_k _)) rfl rfl (ix_t0 _ _))) (as_c (op_e rfl (ev_bi2 (op_vx rfl) (op_vx rfl) rfl rfl rfl)) as_n))) rfl (colour_rf (k + 0) disc sensor.1 (position + seat) (hk.1 y_v h1).1)), rfl, (.s (.s (.s (.u (.u .n)))))⟩))) as_n) rfl (bi_tup _))) (.u (.u (.u (.u (.u .n)))))))
theorem reading_rf (k : Nat) (disc : (Int × (List (Int × (List Int))) × (List (Int × Int × Int)))) (position : Int) (seats : List Int) (hk : reading_ok disc position seats) : CallOk (callF tab (k + 2)) f_reading [.p ((eP3 eI (eT (eP2 eI (eT eI))) (eT (eP3 eI eI eI))) disc), .p (eI position), .p ((eT eI) seats)] (.x (.p ((eT eI) (reading disc position seats)))) [] := by
  rw [reading_eq]
  exact reading_rfb k disc position seats hk
def law_m1 (dk : Deck) (y_v_1 : (Int × Int × Int)) : (Int × Deck) := let sensor : (Int × Int × Int) := y_v_1; let q_4 : (Int × Deck) := drawF dk (2 : Int); let deck_here_6 : Deck := q_4.2; (q_4.1, deck_here_6)
def law_m1_ok (dk : Deck) (y_v_1 : (Int × Int × Int)) : Prop := let sensor : (Int × Int × Int) := y_v_1; (DrOk dk (2 : Int)) ∧ (let q_4 : (Int × Deck) := drawF dk (2 : Int); let deck_here_6 : Deck := q_4.2; True)
def law_m3 (dk_1 : Deck) (y_v_7 : List Int) : (Int × Deck) := let both : List Int := y_v_7; let q_9 : (Int × Deck) := oneF dk_1 both; let deck_here_12 : Deck := q_9.2; (q_9.1, deck_here_12)
def law_m3_ok (dk_1 : Deck) (y_v_7 : List Int) : Prop := let both : List Int := y_v_7; (OnOk dk_1 both) ∧ (let q_9 : (Int × Deck) := oneF dk_1 both; let deck_here_12 : Deck := q_9.2; True)
def law_m4 (dk_2 : Deck) (y_v_8 : List Int) : (Int × Deck) := let both_1 : List Int := y_v_8; let q_11 : (Int × Deck) := oneF dk_2 both_1; let deck_here_14 : Deck := q_11.2; (q_11.1, deck_here_14)
def law_m4_ok (dk_2 : Deck) (y_v_8 : List Int) : Prop := let both_1 : List Int := y_v_8; (OnOk dk_2 both_1) ∧ (let q_11 : (Int × Deck) := oneF dk_2 both_1; let deck_here_14 : Deck := q_11.2; True)
def law_l2 (disc_here : (Int × (List (Int × (List Int))) × (List (Int × Int × Int)))) (single : List (Int × (List (Int × (List Int))) × (List (Int × Int × Int)))) (size : Int) (marks : List Int) (arcs : List (List (Int × Int))) (whole : List (Int × Int)) (ends : List Int) (st_1 : Deck) (y_v_4 : Int) : (Step Deck Bool) := let deck_here_8 : Deck := st_1; let k_v : Int := y_v_4; let q_6 : (Int × Deck) := drawF deck_here_8 size; let deck_here_9 : Deck := q_6.2; let q_7 : (Int × Deck) := drawF deck_here_9 size; let deck_here_10 : Deck := q_7.2; let q_8 : (Int × Deck) := oneF deck_here_10 (ends ++ [q_6.1, q_7.1]); let deck_here_11 : Deck := q_8.2; let position : Int := q_8.1; let everywhere : Bool := (decide ((List.map (fun y_v_5 : List (Int × Int) => let one_here_1 : List (Int × Int) := y_v_5; one_here_1) (List.filter (fun y_v_5 : List (Int × Int) => let one_here_1 : List (Int × Int) := y_v_5; (!(l_holds size one_here_1 position))) arcs)) = ([] : List (List (Int × Int))))); let shown : List Bool := [(can_read disc_here position marks), (l_holds size whole position)]; (if (!decide (shown = [everywhere, everywhere])) = true then (.rt false) else (let due : List (List Int) := (List.map (fun y_v_6 : (Int × (List (Int × (List Int))) × (List (Int × Int × Int))) => let one_here_2 : (Int × (List (Int × (List Int))) × (List (Int × Int × Int))) := y_v_6; (ixF (possible one_here_2 position) (0 : Int))) single); (if (!((shw ((eT (eT eI)) (possible disc_here position))) == (shw ((eT (eT eI)) due)))) = true then (.rt false) else (let q_10 : (List Int × Deck) := mapS law_m3 deck_here_11 due; let deck_here_13 : Deck := q_10.2; let one_here_3 : List Int := q_10.1; let q_12 : (List Int × Deck) := mapS law_m4 deck_here_13 due; let deck_here_15 : Deck := q_12.2; let two : List Int := q_12.1; let first_1 : Option (List Int) := (seats_for disc_here position one_here_3); let second : Option (List Int) := (seats_for disc_here position two); let q_13 : (Int × Deck) := drawF deck_here_15 ((one_here_3.length : Int) + (1 : Int)); let deck_here_16 : Deck := q_13.2; let cut : Int := q_13.1; let first_2 : List Int := unO first_1; let second_1 : List Int := unO second; (if (!decide ((reading disc_here position ((cutF first_2 none (some cut)) ++ (cutF second_1 (some cut) none))) = ((cutF one_here_3 none (some cut)) ++ (cutF two (some cut) none)))) = true then (.rt false) else (.nx deck_here_16))))))
def law_l2_ok (disc_here : (Int × (List (Int × (List Int))) × (List (Int × Int × Int)))) (single : List (Int × (List (Int × (List Int))) × (List (Int × Int × Int)))) (size : Int) (marks : List Int) (arcs : List (List (Int × Int))) (whole : List (Int × Int)) (ends : List Int) (st_1 : Deck) (y_v_4 : Int) : Prop := let deck_here_8 : Deck := st_1; let k_v : Int := y_v_4; (DrOk deck_here_8 size) ∧ (let q_6 : (Int × Deck) := drawF deck_here_8 size; let deck_here_9 : Deck := q_6.2; (DrOk deck_here_9 size) ∧ (let q_7 : (Int × Deck) := drawF deck_here_9 size; let deck_here_10 : Deck := q_7.2; (ends.length + [q_6.1, q_7.1].length ≤ 16777216) ∧ (OnOk deck_here_10 (ends ++ [q_6.1, q_7.1])) ∧ (let q_8 : (Int × Deck) := oneF deck_here_10 (ends ++ [q_6.1, q_7.1]); let deck_here_11 : Deck := q_8.2; let position : Int := q_8.1; (∀ y_v_5 : List (Int × Int), y_v_5 ∈ arcs → let one_here_1 : List (Int × Int) := y_v_5; (l_holds_ok size one_here_1 position) ∧ True) ∧ (let everywhere : Bool := (decide ((List.map (fun y_v_5 : List (Int × Int) => let one_here_1 : List (Int × Int) := y_v_5; one_here_1) (List.filter (fun y_v_5 : List (Int × Int) => let one_here_1 : List (Int × Int) := y_v_5; (!(l_holds size one_here_1 position))) arcs)) = ([] : List (List (Int × Int))))); (can_read_ok disc_here position marks) ∧ (l_holds_ok size whole position) ∧ (let shown : List Bool := [(can_read disc_here position marks), (l_holds size whole position)]; ((!decide (shown = [everywhere, everywhere])) = false → (∀ y_v_6 : (Int × (List (Int × (List Int))) × (List (Int × Int × Int))), y_v_6 ∈ single → let one_here_2 : (Int × (List (Int × (List Int))) × (List (Int × Int × Int))) := y_v_6; (possible_ok one_here_2 position) ∧ (IxOk (possible one_here_2 position) (0 : Int)) ∧ True) ∧ (let due : List (List Int) := (List.map (fun y_v_6 : (Int × (List (Int × (List Int))) × (List (Int × Int × Int))) => let one_here_2 : (Int × (List (Int × (List Int))) × (List (Int × Int × Int))) := y_v_6; (ixF (possible one_here_2 position) (0 : Int))) single); (possible_ok disc_here position) ∧ (RpOk ((eT (eT eI)) (possible disc_here position))) ∧ (RpOk ((eT (eT eI)) due)) ∧ (SOk (shw ((eT (eT eI)) (possible disc_here position)))) ∧ (SOk (shw ((eT (eT eI)) due))) ∧ ((!((shw ((eT (eT eI)) (possible disc_here position))) == (shw ((eT (eT eI)) due)))) = false → (mapSOk law_m3_ok law_m3 deck_here_11 due) ∧ (let q_10 : (List Int × Deck) := mapS law_m3 deck_here_11 due; let deck_here_13 : Deck := q_10.2; let one_here_3 : List Int := q_10.1; (mapSOk law_m4_ok law_m4 deck_here_13 due) ∧ (let q_12 : (List Int × Deck) := mapS law_m4 deck_here_13 due; let deck_here_15 : Deck := q_12.2; let two : List Int := q_12.1; (seats_for_ok disc_here position one_here_3) ∧ (seats_for_ok disc_here position two) ∧ (let first_1 : Option (List Int) := (seats_for disc_here position one_here_3); let second : Option (List Int) := (seats_for disc_here position two); (DrOk deck_here_15 ((one_here_3.length : Int) + (1 : Int))) ∧ (let q_13 : (Int × Deck) := drawF deck_here_15 ((one_here_3.length : Int) + (1 : Int)); let deck_here_16 : Deck := q_13.2; let cut : Int := q_13.1; (Option.isSome first_1 = true) ∧ (let first_2 : List Int := unO first_1; (Option.isSome second = true) ∧ (let second_1 : List Int := unO second; ((cutF first_2 none (some cut)).length + (cutF second_1 (some cut) none).length ≤ 16777216) ∧ (reading_ok disc_here position ((cutF first_2 none (some cut)) ++ (cutF second_1 (some cut) none))) ∧ ((cutF one_here_3 none (some cut)).length + (cutF two (some cut) none).length ≤ 16777216) ∧ True))))))) ∧ True)) ∧ True)))))
def law_l0 (st : Deck) (y_v : Int) : (Step Deck Bool) := let deck_here_1 : Deck := st; let lap : Int := y_v; let q : (Int × Deck) := drawF deck_here_1 (2 : Int); let deck_here_2 : Deck := q.2; let q_3 : ((Int × (List (Int × (List Int))) × (List (Int × Int × Int))) × Deck) := (if (decide (q.1 = (0 : Int))) = true then (let q_1 : ((Int × (List (Int × (List Int))) × (List (Int × Int × Int))) × Deck) := l_disc deck_here_2 (30 : Int) (6 : Int) (9 : Int); let deck_here_3 : Deck := q_1.2; (q_1.1, deck_here_3)) else (let q_2 : ((Int × (List (Int × (List Int))) × (List (Int × Int × Int))) × Deck) := l_great deck_here_2 (6 : Int); let deck_here_4 : Deck := q_2.2; (q_2.1, deck_here_4))); let deck_here_5 : Deck := q_3.2; let disc_here : (Int × (List (Int × (List Int))) × (List (Int × Int × Int))) := q_3.1; let single : List (Int × (List (Int × (List Int))) × (List (Int × Int × Int))) := (l_alone disc_here); let size : Int := disc_here.1; let q_5 : (List Int × Deck) := mapS law_m1 deck_here_5 disc_here.2.2; let deck_here_7 : Deck := q_5.2; let marks : List Int := q_5.1; let arcs : List (List (Int × Int)) := (List.map (fun y_v_2 : ((Int × (List (Int × (List Int))) × (List (Int × Int × Int))) × Int) => let one_here : (Int × (List (Int × (List Int))) × (List (Int × Int × Int))) := y_v_2.1; let one_mark : Int := y_v_2.2; (positions one_here [one_mark])) (List.zip single marks)); let whole : List (Int × Int) := (positions disc_here marks); let ends : List Int := (List.map (fun y_v_3 : (Int × Int) => let first : Int := y_v_3.1; let many : Int := y_v_3.2; first) whole); ((loopF (law_l2 disc_here single size marks arcs whole ends) deck_here_7 (rgI 0 (6 : Int))).bind fun st_2 => let deck_here_17 : Deck := st_2; (.nx deck_here_17))
def law_l0_ok (st : Deck) (y_v : Int) : Prop := let deck_here_1 : Deck := st; let lap : Int := y_v; (DrOk deck_here_1 (2 : Int)) ∧ (let q : (Int × Deck) := drawF deck_here_1 (2 : Int); let deck_here_2 : Deck := q.2; ((decide (q.1 = (0 : Int))) = true → (l_disc_ok deck_here_2 (30 : Int) (6 : Int) (9 : Int)) ∧ (let q_1 : ((Int × (List (Int × (List Int))) × (List (Int × Int × Int))) × Deck) := l_disc deck_here_2 (30 : Int) (6 : Int) (9 : Int); let deck_here_3 : Deck := q_1.2; True)) ∧ ((decide (q.1 = (0 : Int))) = false → (l_great_ok deck_here_2 (6 : Int)) ∧ (let q_2 : ((Int × (List (Int × (List Int))) × (List (Int × Int × Int))) × Deck) := l_great deck_here_2 (6 : Int); let deck_here_4 : Deck := q_2.2; True)) ∧ (let q_3 : ((Int × (List (Int × (List Int))) × (List (Int × Int × Int))) × Deck) := (if (decide (q.1 = (0 : Int))) = true then (let q_1 : ((Int × (List (Int × (List Int))) × (List (Int × Int × Int))) × Deck) := l_disc deck_here_2 (30 : Int) (6 : Int) (9 : Int); let deck_here_3 : Deck := q_1.2; (q_1.1, deck_here_3)) else (let q_2 : ((Int × (List (Int × (List Int))) × (List (Int × Int × Int))) × Deck) := l_great deck_here_2 (6 : Int); let deck_here_4 : Deck := q_2.2; (q_2.1, deck_here_4))); let deck_here_5 : Deck := q_3.2; let disc_here : (Int × (List (Int × (List Int))) × (List (Int × Int × Int))) := q_3.1; (l_alone_ok disc_here) ∧ (let single : List (Int × (List (Int × (List Int))) × (List (Int × Int × Int))) := (l_alone disc_here); let size : Int := disc_here.1; (mapSOk law_m1_ok law_m1 deck_here_5 disc_here.2.2) ∧ (let q_5 : (List Int × Deck) := mapS law_m1 deck_here_5 disc_here.2.2; let deck_here_7 : Deck := q_5.2; let marks : List Int := q_5.1; (∀ y_v_2 : ((Int × (List (Int × (List Int))) × (List (Int × Int × Int))) × Int), y_v_2 ∈ (List.zip single marks) → let one_here : (Int × (List (Int × (List Int))) × (List (Int × Int × Int))) := y_v_2.1; let one_mark : Int := y_v_2.2; (positions_ok one_here [one_mark]) ∧ True) ∧ (let arcs : List (List (Int × Int)) := (List.map (fun y_v_2 : ((Int × (List (Int × (List Int))) × (List (Int × Int × Int))) × Int) => let one_here : (Int × (List (Int × (List Int))) × (List (Int × Int × Int))) := y_v_2.1; let one_mark : Int := y_v_2.2; (positions one_here [one_mark])) (List.zip single marks)); (positions_ok disc_here marks) ∧ (let whole : List (Int × Int) := (positions disc_here marks); let ends : List Int := (List.map (fun y_v_3 : (Int × Int) => let first : Int := y_v_3.1; let many : Int := y_v_3.2; first) whole); (loopOk (law_l2_ok disc_here single size marks arcs whole ends) (law_l2 disc_here single size marks arcs whole ends) deck_here_7 (rgI 0 (6 : Int))) ∧ True))))))
def law_b (script : List Int) : Bool := let deck_here : Deck := (deckI script); ((loopF law_l0 deck_here (rgI 0 (6 : Int))).out fun st_3 => let deck_here_18 : Deck := st_3; true)
@[irreducible] def law (script : List Int) : Bool := law_b script
theorem law_eq (script : List Int) : law script = law_b script := by unfold law; rfl
def law_ok (script : List Int) : Prop := let deck_here : Deck := (deckI script); (loopOk law_l0_ok law_l0 deck_here (rgI 0 (6 : Int))) ∧ True
theorem law_rfb (k : Nat) (script : List Int) (hk : law_ok script) : CallOk (callF tab (k + 6)) f_law [.p ((eL eI) script)] (.x (.p (eB (law_b script)))) [] :=
  call_fn (k := k + 5) (R := Bool) (fun v => .x (.p (eB v))) (fun v => [.u, .u, .u, .u, .u, .u, .u, .u, .u, .u, .u, .u, .u, .u, .u, .u, .u, .u, .u, .u, .u, .u, .u, .u]) [.x (.p ((eL eI) script)), .u, .u, .u, .u, .u, .u, .u, .u, .u, .u, .u, .u, .u, .u, .u, .u, .u, .u, .u, .u, .u, .u, .u] [] rfl rfl rfl [] rfl rfl rfl
  (let deck_here : Deck := (deckI script); (ss_c (s_as (s := .x (deckO deck_here)) (ev_cp (vs := [(eL eI) script]) (as_c (op_vx rfl) as_n) rfl (deck_rf (k + 4) script)) rfl)
  (sp_fr (h := eI) (ys := (rgI 0 (6 : Int))) (fun st : Deck => [.x (.p ((eL eI) script)), .x (deckO st), .u, .u, .u, .u, .u, .u, .u, .u, .u, .u, .u, .u, .u, .u, .u, .u, .u, .u, .u, .u, .u, .u]) law_l0 law_l0_ok deck_here (it_r1 (n := (6 : Int)) (op_e rfl (ev_k _)) rfl (by unfold RgOk; decide)) (.s (.s (.u (.u (.u (.u (.u (.u (.u (.u (.u (.u (.u (.u (.u (.u (.u (.u (.u (.u (.u (.u (.u (.u .n)))))))))))))))))))))))) (fun st y_v h1 h2 => let deck_here_1 : Deck := st; let lap : Int := y_v; let q : (Int × Deck) := drawF deck_here_1 (2 : Int); let deck_here_2 : Deck := q.2; let q_3 : ((Int × (List (Int × (List Int))) × (List (Int × Int × Int))) × Deck) := (if (decide (q.1 = (0 : Int))) = true then (let q_1 : ((Int × (List (Int × (List Int))) × (List (Int × Int × Int))) × Deck) := l_disc deck_here_2 (30 : Int) (6 : Int) (9 : Int); let deck_here_3 : Deck := q_1.2; (q_1.1, deck_here_3)) else (let q_2 : ((Int × (List (Int × (List Int))) × (List (Int × Int × Int))) × Deck) := l_great deck_here_2 (6 : Int); let deck_here_4 : Deck := q_2.2; (q_2.1, deck_here_4))); let deck_here_5 : Deck := q_3.2; let disc_here : (Int × (List (Int × (List Int))) × (List (Int × Int × Int))) := q_3.1; let single : List (Int × (List (Int × (List Int))) × (List (Int × Int × Int))) := (l_alone disc_here); let size : Int := disc_here.1; let q_5 : (List Int × Deck) := mapS law_m1 deck_here_5 disc_here.2.2; let deck_here_7 : Deck := q_5.2; let marks : List Int := q_5.1; let arcs : List (List (Int × Int)) := (List.map (fun y_v_2 : ((Int × (List (Int × (List Int))) × (List (Int × Int × Int))) × Int) => let one_here : (Int × (List (Int × (List Int))) × (List (Int × Int × Int))) := y_v_2.1; let one_mark : Int := y_v_2.2; (positions one_here [one_mark])) (List.zip single marks)); let whole : List (Int × Int) := (positions disc_here marks); let ends : List Int := (List.map (fun y_v_3 : (Int × Int) => let first : Int := y_v_3.1; let many : Int := y_v_3.2; first) whole); ⟨_, rfl, (ss_c (s_as (s := .x (.p ((eP3 eI (eT (eP2 eI (eT eI))) (eT (eP3 eI eI eI))) disc_here))) (ev_iv (fun z : ((Int × (List (Int × (List Int))) × (List (Int × Int × Int))) × Deck) => .x (.p ((eP3 eI (eT (eP2 eI (eT eI))) (eT (eP3 eI eI eI))) z.1))) (fun z : ((Int × (List (Int × (List Int))) × (List (Int × Int × Int))) × Deck) => [.x (.p ((eL eI) script)), .x (deckO z.2), .x (.p (eI lap)), .u, .u, .u, .u, .u, .u, .u, .u, .u, .u, .u, .u, .u, .u, .u, .u, .u, .u, .u, .u, .u]) (k := (decide (q.1 = (0 : Int)))) (x := (let q_1 : ((Int × (List (Int × (List Int))) × (List (Int × Int × Int))) × Deck) := l_disc deck_here_2 (30 : Int) (6 : Int) (9 : Int); let deck_here_3 : Deck := q_1.2; (q_1.1, deck_here_3))) (y := (let q_2 : ((Int × (List (Int × (List Int))) × (List (Int × Int × Int))) × Deck) := l_great deck_here_2 (6 : Int); let deck_here_4 : Deck := q_2.2; (q_2.1, deck_here_4))) (ev_cm (k := (decide (q.1 = (0 : Int)))) (op_e rfl (Ev.le (σ2 := [.x (.p ((eL eI) script)), .x (deckO deck_here_2), .x (.p (eI lap)), .u, .u, .u, .u, .u, .u, .u, .u, .u, .u, .u, .u, .u, .u, .u, .u, .u, .u, .u, .u, .u]) (ev_ca (σ2 := [.x (.p ((eL eI) script)), .u, .x (.p (eI lap)), .u, .u, .u, .u, .u, .u, .u, .u, .u, .u, .u, .u, .u, .u, .u, .u, .u, .u, .u, .u, .u]) (ds := [deckO deck_here_1, .p (eI (2 : Int))]) (as_c (op_vx rfl) (as_c (op_e rfl (ev_k _)) as_n)) rfl (draw_rf (k + 4) deck_here_1 (2 : Int) h2.1)) (.s (.s (.s (.u (.u (.u (.u (.u (.u (.u (.u (.u (.u (.u (.u (.u (.u (.u (.u (.u (.u (.u (.u (.u .n)))))))))))))))))))))))))) (op_e rfl (ev_k _)) rfl rfl (cm_eq enc_I (by decide) q.1 (0 : Int))) (fun h3 => (let q_1 : ((Int × (List (Int × (List Int))) × (List (Int × Int × Int))) × Deck) := l_disc deck_here_2 (30 : Int) (6 : Int) (9 : Int); let deck_here_3 : Deck := q_1.2; (Ev.le (σ2 := [.x (.p ((eL eI) script)), .x (deckO deck_here_3), .x (.p (eI lap)), .u, .u, .u, .u, .u, .u, .u, .u, .u, .u, .u, .u, .u, .u, .u, .u, .u, .u, .u, .u, .u]) (ev_ca (σ2 := [.x (.p ((eL eI) script)), .u, .x (.p (eI lap)), .u, .u, .u, .u, .u, .u, .u, .u, .u, .u, .u, .u, .u, .u, .u, .u, .u, .u, .u, .u, .u]) (ds := [deckO deck_here_2, .p (eI (30 : Int)), .p (eI (6 : Int)), .p (eI (9 : Int))]) (as_c (op_vx rfl) (as_c (op_e rfl (ev_k _)) (as_c (op_e rfl (ev_k _)) (as_c (op_e rfl (ev_k _)) as_n)))) rfl (l_disc_rf (k + 1) deck_here_2 (30 : Int) (6 : Int) (9 : Int) (h2.2.1 h3).1)) (.s (.s (.s (.u (.u (.u (.u (.u (.u (.u (.u (.u (.u (.u (.u (.u (.u (.u (.u (.u (.u (.u (.u (.u .n))))))))))))))))))))))))))) (fun h4 => (let q_2 : ((Int × (List (Int × (List Int))) × (List (Int × Int × Int))) × Deck) := l_great deck_here_2 (6 : Int); let deck_here_4 : Deck := q_2.2; (Ev.le (σ2 := [.x (.p ((eL eI) script)), .x (deckO deck_here_4), .x (.p (eI lap)), .u, .u, .u, .u, .u, .u, .u, .u, .u, .u, .u, .u, .u, .u, .u, .u, .u, .u, .u, .u, .u]) (ev_ca (σ2 := [.x (.p ((eL eI) script)), .u, .x (.p (eI lap)), .u, .u, .u, .u, .u, .u, .u, .u, .u, .u, .u, .u, .u, .u, .u, .u, .u, .u, .u, .u, .u]) (ds := [deckO deck_here_2, .p (eI (6 : Int))]) (as_c (op_vx rfl) (as_c (op_e rfl (ev_k _)) as_n)) rfl (l_great_rf (k + 2) deck_here_2 (6 : Int) (h2.2.2.1 h4).1)) (.s (.s (.s (.u (.u (.u (.u (.u (.u (.u (.u (.u (.u (.u (.u (.u (.u (.u (.u (.u (.u (.u (.u (.u .n)))))))))))))))))))))))))))) rfl)
  (ss_c (s_pa (ds_c (s := .x (.o ((eL (eP3 eI (eT (eP2 eI (eT eI))) (eT (eP3 eI eI eI)))) single))) (ev_cp (vs := [(eP3 eI (eT (eP2 eI (eT eI))) (eT (eP3 eI eI eI))) disc_here]) (as_c (op_vx rfl) as_n) rfl (l_alone_rf (k + 4) disc_here h2.2.2.2.1)) (ds_c (s := .x (.p (eI size))) (ev_ix (op_vx rfl) (op_e rfl (ev_k _)) rfl rfl (ix_t0 _ _)) ds_n)) rfl rfl)
  (ss_c (s_as (s := .x (.p ((eT eI) marks))) (ev_bu (as_c (op_e rfl (ev_lt (h := (eP3 eI eI eI)) (ys := disc_here.2.2) eI (fun dk => [.x (.p ((eL eI) script)), .x (deckO dk), .x (.p (eI lap)), .x (.p ((eP3 eI (eT (eP2 eI (eT eI))) (eT (eP3 eI eI eI))) disc_here)), .x (.o ((eL (eP3 eI (eT (eP2 eI (eT eI))) (eT (eP3 eI eI eI)))) single)), .x (.p (eI size)), .u, .u, .u, .u, .u, .u, .u, .u, .u, .u, .u, .u, .u, .u, .u, .u, .u, .u]) law_m1 law_m1_ok deck_here_5 (it_ex (ev_ix (op_vx rfl) (op_e rfl (ev_k _)) rfl rfl (ix_t2 _ _ _ _)) rfl rfl) (.s (.s (.s (.s (.s (.s (.u (.u (.u (.u (.u (.u (.u (.u (.u (.u (.u (.u (.u (.u (.u (.u (.u (.u .n)))))))))))))))))))))))) (fun s i hi => by revert i; simp [getA]) (fun dk y_v_1 h5 h6 => let sensor : (Int × Int × Int) := y_v_1; let q_4 : (Int × Deck) := drawF dk (2 : Int); let deck_here_6 : Deck := q_4.2; ⟨_, _, _, rfl, (Ev.le (σ2 := [.x (.p ((eL eI) script)), .x (deckO deck_here_6), .x (.p (eI lap)), .x (.p ((eP3 eI (eT (eP2 eI (eT eI))) (eT (eP3 eI eI eI))) disc_here)), .x (.o ((eL (eP3 eI (eT (eP2 eI (eT eI))) (eT (eP3 eI eI eI)))) single)), .x (.p (eI size)), .u, .x (.p ((eP3 eI eI eI) sensor)), .u, .u, .u, .u, .u, .u, .u, .u, .u, .u, .u, .u, .u, .u, .u, .u]) (ev_ca (σ2 := [.x (.p ((eL eI) script)), .u, .x (.p (eI lap)), .x (.p ((eP3 eI (eT (eP2 eI (eT eI))) (eT (eP3 eI eI eI))) disc_here)), .x (.o ((eL (eP3 eI (eT (eP2 eI (eT eI))) (eT (eP3 eI eI eI)))) single)), .x (.p (eI size)), .u, .x (.p ((eP3 eI eI eI) sensor)), .u, .u, .u, .u, .u, .u, .u, .u, .u, .u, .u, .u, .u, .u, .u, .u]) (ds := [deckO dk, .p (eI (2 : Int))]) (as_c (op_vx rfl) (as_c (op_e rfl (ev_k _)) as_n)) rfl (draw_rf (k + 4) dk (2 : Int) h6.1)) (.s (.s (.s (.s (.s (.s (.u (.s (.u (.u (.u (.u (.u (.u (.u (.u (.u (.u (.u (.u (.u (.u (.u (.u .n))))))))))))))))))))))))), rfl, (.s (.s (.s (.s (.s (.s (.u (.u (.u (.u (.u (.u (.u (.u (.u (.u (.u (.u (.u (.u (.u (.u (.u (.u .n))))))))))))))))))))))))⟩) h2.2.2.2.2.1)) as_n) rfl (bi_tup _)) rfl)
  (ss_c (s_as (s := .x (.o ((eL (eT (eP2 eI eI))) arcs))) (ev_lm (h := (eP2 (eP3 eI (eT (eP2 eI (eT eI))) (eT (eP3 eI eI eI))) eI)) (ys := (List.zip single marks)) (eT (eP2 eI eI)) (fun y_v_2 : ((Int × (List (Int × (List Int))) × (List (Int × Int × Int))) × Int) => let one_here : (Int × (List (Int × (List Int))) × (List (Int × Int × Int))) := y_v_2.1; let one_mark : Int := y_v_2.2; (positions one_here [one_mark])) (it_z2 (f := (eP3 eI (eT (eP2 eI (eT eI))) (eT (eP3 eI eI eI)))) (g := eI) (xs := single) (ys := marks) (ev_o rfl) rfl (ev_p rfl) rfl rfl rfl) (fun y_v_2 h7 => let one_here : (Int × (List (Int × (List Int))) × (List (Int × Int × Int))) := y_v_2.1; let one_mark : Int := y_v_2.2; ⟨_, _, _, rfl, (ev_cp (vs := [(eP3 eI (eT (eP2 eI (eT eI))) (eT (eP3 eI eI eI))) one_here, (eT eI) [one_mark]]) (as_c (op_vx rfl) (as_c (op_e rfl (ev_tu (es_c (ev_p rfl) rfl es_n) rfl)) as_n)) rfl (positions_rf (k + 0) one_here [one_mark] (h2.2.2.2.2.2.1 y_v_2 h7).1)), rfl, (.s (.s (.s (.s (.s (.s (.s (.u (.u (.u (.u (.u (.u (.u (.u (.u (.u (.u (.u (.u (.u (.u (.u (.u .n))))))))))))))))))))))))⟩)) rfl)
  (ss_c (s_as (s := .x (.p ((eT (eP2 eI eI)) whole))) (ev_cp (vs := [(eP3 eI (eT (eP2 eI (eT eI))) (eT (eP3 eI eI eI))) disc_here, (eT eI) marks]) (as_c (op_vx rfl) (as_c (op_vx rfl) as_n)) rfl (positions_rf (k + 0) disc_here marks h2.2.2.2.2.2.2.1)) rfl)
  (ss_c (s_as (s := .x (.o ((eL eI) ends))) (ev_lm (h := (eP2 eI eI)) (ys := whole) eI (fun y_v_3 : (Int × Int) => let first : Int := y_v_3.1; let many : Int := y_v_3.2; first) (it_ex (ev_p rfl) rfl rfl) (fun y_v_3 h8 => let first : Int := y_v_3.1; let many : Int := y_v_3.2; ⟨_, _, _, rfl, (ev_p rfl), rfl, (.s (.s (.s (.s (.s (.s (.s (.u (.s (.u (.u (.s (.u (.u (.u (.u (.u (.u (.u (.u (.u (.u (.u (.u .n))))))))))))))))))))))))⟩)) rfl)
  (sp_fo (h := eI) (ys := (rgI 0 (6 : Int))) (fun st : Deck => [.x (.p ((eL eI) script)), .x (deckO st), .x (.p (eI lap)), .x (.p ((eP3 eI (eT (eP2 eI (eT eI))) (eT (eP3 eI eI eI))) disc_here)), .x (.p ((eL (eP3 eI (eT (eP2 eI (eT eI))) (eT (eP3 eI eI eI)))) single)), .x (.p (eI size)), .x (.p ((eT eI) marks)), .u, .w ((eL (eT (eP2 eI eI))) arcs), .u, .u, .x (.p ((eT (eP2 eI eI)) whole)), .x (.o ((eL eI) ends)), .u, .u, .u, .u, .u, .u, .u, .u, .u, .u, .u]) (law_l2 disc_here single size marks arcs whole ends) (law_l2_ok disc_here single size marks arcs whole ends) deck_here_7 (it_r1 (n := (6 : Int)) (op_e rfl (ev_k _)) rfl (by unfold RgOk; decide)) (.s (.s (.s (.s (.s (.s (.s (.u (.do_ (.u (.u (.s (.s (.u (.u (.u (.u (.u (.u (.u (.u (.u (.u (.u .n)))))))))))))))))))))))) (fun st_1 y_v_4 h9 h10 => let deck_here_8 : Deck := st_1; let k_v : Int := y_v_4; let q_6 : (Int × Deck) := drawF deck_here_8 size; let deck_here_9 : Deck := q_6.2; let q_7 : (Int × Deck) := drawF deck_here_9 size; let deck_here_10 : Deck := q_7.2; let q_8 : (Int × Deck) := oneF deck_here_10 (ends ++ [q_6.1, q_7.1]); let deck_here_11 : Deck := q_8.2; let position : Int := q_8.1; let everywhere : Bool := (decide ((List.map (fun y_v_5 : List (Int × Int) => let one_here_1 : List (Int × Int) := y_v_5; one_here_1) (List.filter (fun y_v_5 : List (Int × Int) => let one_here_1 : List (Int × Int) := y_v_5; (!(l_holds size one_here_1 position))) arcs)) = ([] : List (List (Int × Int))))); let shown : List Bool := [(can_read disc_here position marks), (l_holds size whole position)]; ⟨_, rfl, (ss_c (s_as (s := .x (.p (eI position))) (Ev.le (σ2 := [.x (.p ((eL eI) script)), .x (deckO deck_here_11), .x (.p (eI lap)), .x (.p ((eP3 eI (eT (eP2 eI (eT eI))) (eT (eP3 eI eI eI))) disc_here)), .x (.p ((eL (eP3 eI (eT (eP2 eI (eT eI))) (eT (eP3 eI eI eI)))) single)), .x (.p (eI size)), .x (.p ((eT eI) marks)), .u, .w ((eL (eT (eP2 eI eI))) arcs), .u, .u, .x (.p ((eT (eP2 eI eI)) whole)), .x (.o ((eL eI) ends)), .u, .u, .x (.p (eI k_v)), .u, .u, .u, .u, .u, .u, .u, .u]) (ev_ca (σ2 := [.x (.p ((eL eI) script)), .u, .x (.p (eI lap)), .x (.p ((eP3 eI (eT (eP2 eI (eT eI))) (eT (eP3 eI eI eI))) disc_here)), .x (.p ((eL (eP3 eI (eT (eP2 eI (eT eI))) (eT (eP3 eI eI eI)))) single)), .x (.p (eI size)), .x (.p ((eT eI) marks)), .u, .w ((eL (eT (eP2 eI eI))) arcs), .u, .u, .x (.p ((eT (eP2 eI eI)) whole)), .x (.o ((eL eI) ends)), .u, .u, .x (.p (eI k_v)), .u, .u, .u, .u, .u, .u, .u, .u]) (ds := [deckO deck_here_10, .o ((eL eI) (ends ++ [q_6.1, q_7.1]))]) (as_c (op_vx rfl) (as_c (op_e rfl (ev_bi2 (op_vx rfl) (op_e rfl (ev_ls (es_c (Ev.le (σ2 := [.x (.p ((eL eI) script)), .x (deckO deck_here_9), .x (.p (eI lap)), .x (.p ((eP3 eI (eT (eP2 eI (eT eI))) (eT (eP3 eI eI eI))) disc_here)), .x (.p ((eL (eP3 eI (eT (eP2 eI (eT eI))) (eT (eP3 eI eI eI)))) single)), .x (.p (eI size)), .x (.p ((eT eI) marks)), .u, .w ((eL (eT (eP2 eI eI))) arcs), .u, .u, .x (.p ((eT (eP2 eI eI)) whole)), .x (.o ((eL eI) ends)), .u, .u, .x (.p (eI k_v)), .u, .u, .u, .u, .u, .u, .u, .u]) (ev_ca (σ2 := [.x (.p ((eL eI) script)), .u, .x (.p (eI lap)), .x (.p ((eP3 eI (eT (eP2 eI (eT eI))) (eT (eP3 eI eI eI))) disc_here)), .x (.p ((eL (eP3 eI (eT (eP2 eI (eT eI))) (eT (eP3 eI eI eI)))) single)), .x (.p (eI size)), .x (.p ((eT eI) marks)), .u, .w ((eL (eT (eP2 eI eI))) arcs), .u, .u, .x (.p ((eT (eP2 eI eI)) whole)), .x (.o ((eL eI) ends)), .u, .u, .x (.p (eI k_v)), .u, .u, .u, .u, .u, .u, .u, .u]) (ds := [deckO deck_here_8, .p (eI size)]) (as_c (op_vx rfl) (as_c (op_vx rfl) as_n)) rfl (draw_rf (k + 4) deck_here_8 size h10.1)) (.s (.s (.s (.s (.s (.s (.s (.u (.s (.u (.u (.s (.s (.u (.u (.s (.u (.u (.u (.u (.u (.u (.u (.u .n))))))))))))))))))))))))) rfl (es_c (Ev.le (σ2 := [.x (.p ((eL eI) script)), .x (deckO deck_here_10), .x (.p (eI lap)), .x (.p ((eP3 eI (eT (eP2 eI (eT eI))) (eT (eP3 eI eI eI))) disc_here)), .x (.p ((eL (eP3 eI (eT (eP2 eI (eT eI))) (eT (eP3 eI eI eI)))) single)), .x (.p (eI size)), .x (.p ((eT eI) marks)), .u, .w ((eL (eT (eP2 eI eI))) arcs), .u, .u, .x (.p ((eT (eP2 eI eI)) whole)), .x (.o ((eL eI) ends)), .u, .u, .x (.p (eI k_v)), .u, .u, .u, .u, .u, .u, .u, .u]) (ev_ca (σ2 := [.x (.p ((eL eI) script)), .u, .x (.p (eI lap)), .x (.p ((eP3 eI (eT (eP2 eI (eT eI))) (eT (eP3 eI eI eI))) disc_here)), .x (.p ((eL (eP3 eI (eT (eP2 eI (eT eI))) (eT (eP3 eI eI eI)))) single)), .x (.p (eI size)), .x (.p ((eT eI) marks)), .u, .w ((eL (eT (eP2 eI eI))) arcs), .u, .u, .x (.p ((eT (eP2 eI eI)) whole)), .x (.o ((eL eI) ends)), .u, .u, .x (.p (eI k_v)), .u, .u, .u, .u, .u, .u, .u, .u]) (ds := [deckO deck_here_9, .p (eI size)]) (as_c (op_vx rfl) (as_c (op_vx rfl) as_n)) rfl (draw_rf (k + 4) deck_here_9 size h10.2.1)) (.s (.s (.s (.s (.s (.s (.s (.u (.s (.u (.u (.s (.s (.u (.u (.s (.u (.u (.u (.u (.u (.u (.u (.u .n))))))))))))))))))))))))) rfl es_n)) rfl)) rfl rfl (bd_L (f := eI) (xs := ends) (ys := [q_6.1, q_7.1]) h10.2.2.1))) as_n)) rfl (oneoL_rf (k + 3) eI deck_here_10 (ends ++ [q_6.1, q_7.1]) h10.2.2.2.1)) (.s (.s (.s (.s (.s (.s (.s (.u (.s (.u (.u (.s (.s (.u (.u (.s (.u (.u (.u (.u (.u (.u (.u (.u .n))))))))))))))))))))))))) rfl)
  (ss_c (s_as (s := .x (.p (eB everywhere))) (ev_cm (k := (decide ((List.map (fun y_v_5 : List (Int × Int) => let one_here_1 : List (Int × Int) := y_v_5; one_here_1) (List.filter (fun y_v_5 : List (Int × Int) => let one_here_1 : List (Int × Int) := y_v_5; (!(l_holds size one_here_1 position))) arcs)) = ([] : List (List (Int × Int)))))) (op_e rfl (ev_lf (h := (eT (eP2 eI eI))) (ys := arcs) (fun y_v_5 : List (Int × Int) => let one_here_1 : List (Int × Int) := y_v_5; (!(l_holds size one_here_1 position))) (eT (eP2 eI eI)) (fun y_v_5 : List (Int × Int) => let one_here_1 : List (Int × Int) := y_v_5; one_here_1) (it_ex (ev_d rfl) rfl rfl) (fun y_v_5 h11 => let one_here_1 : List (Int × Int) := y_v_5; ⟨_, _, rfl, (ev_nt (ev_cp (vs := [eI size, (eT (eP2 eI eI)) one_here_1, eI position]) (as_c (op_vx rfl) (as_c (op_vx rfl) (as_c (op_vx rfl) as_n))) rfl (l_holds_rf (k + 4) size one_here_1 position (h10.2.2.2.2.1 y_v_5 h11).1))), fun _ => (.s (.s (.s (.s (.s (.s (.s (.u (.s (.u (.u (.s (.s (.u (.u (.s (.s (.u (.u (.u (.u (.u (.u (.u .n)))))))))))))))))))))))), fun h12 => ⟨_, _, (ev_p rfl), rfl, (.s (.s (.s (.s (.s (.s (.s (.u (.s (.u (.u (.s (.s (.u (.u (.s (.s (.u (.u (.u (.u (.u (.u (.u .n))))))))))))))))))))))))⟩⟩))) (op_e rfl (ev_ls es_n rfl)) rfl rfl (cm_eq (enc_L (enc_T (enc_P2 enc_I enc_I))) (by decide) (List.map (fun y_v_5 : List (Int × Int) => let one_here_1 : List (Int × Int) := y_v_5; one_here_1) (List.filter (fun y_v_5 : List (Int × Int) => let one_here_1 : List (Int × Int) := y_v_5; (!(l_holds size one_here_1 position))) arcs)) ([] : List (List (Int × Int))))) rfl)
  (ss_c (s_as (s := .x (.o ((eL eB) shown))) (ev_ls (es_c (ev_cp (vs := [(eP3 eI (eT (eP2 eI (eT eI))) (eT (eP3 eI eI eI))) disc_here, eI position, (eT eI) marks]) (as_c (op_vx rfl) (as_c (op_vx rfl) (as_c (op_vx rfl) as_n))) rfl (can_read_rf (k + 1) disc_here position marks h10.2.2.2.2.2.1)) rfl (es_c (ev_cp (vs := [eI size, (eT (eP2 eI eI)) whole, eI position]) (as_c (op_vx rfl) (as_c (op_vx rfl) (as_c (op_vx rfl) as_n))) rfl (l_holds_rf (k + 4) size whole position h10.2.2.2.2.2.2.1)) rfl es_n)) rfl) rfl)
  (sp_if (k := (!decide (shown = [everywhere, everywhere]))) (ev_cm (k := (!decide (shown = [everywhere, everywhere]))) (op_vx rfl) (op_e rfl (ev_ls (es_c (ev_p rfl) rfl (es_c (ev_p rfl) rfl es_n)) rfl)) rfl rfl (cm_ne (enc_L enc_B) (by decide) shown [everywhere, everywhere])) (fun h13 => (sp_rt (re_e rfl (ev_k _)) (.u (.u (.u (.u (.u (.u (.u (.u (.u (.u (.u (.u (.u (.u (.u (.u (.u (.u (.u (.u (.u (.u (.u (.u .n)))))))))))))))))))))))))) (fun h14 => (let due : List (List Int) := (List.map (fun y_v_6 : (Int × (List (Int × (List Int))) × (List (Int × Int × Int))) => let one_here_2 : (Int × (List (Int × (List Int))) × (List (Int × Int × Int))) := y_v_6; (ixF (possible one_here_2 position) (0 : Int))) single); (ss_c (s_as (s := .x (.p ((eT (eT eI)) due))) (ev_bu (as_c (op_e rfl (ev_lm (h := (eP3 eI (eT (eP2 eI (eT eI))) (eT (eP3 eI eI eI)))) (ys := single) (eT eI) (fun y_v_6 : (Int × (List (Int × (List Int))) × (List (Int × Int × Int))) => let one_here_2 : (Int × (List (Int × (List Int))) × (List (Int × Int × Int))) := y_v_6; (ixF (possible one_here_2 position) (0 : Int))) (it_ex (ev_p rfl) rfl rfl) (fun y_v_6 h15 => let one_here_2 : (Int × (List (Int × (List Int))) × (List (Int × Int × Int))) := y_v_6; ⟨_, _, _, rfl, (ev_ix (op_e rfl (ev_cp (vs := [(eP3 eI (eT (eP2 eI (eT eI))) (eT (eP3 eI eI eI))) one_here_2, eI position]) (as_c (op_vx rfl) (as_c (op_vx rfl) as_n)) rfl (possible_rf (k + 2) one_here_2 position ((h10.2.2.2.2.2.2.2.1 h14).1 y_v_6 h15).1))) (op_e rfl (ev_k _)) rfl rfl (ix_T (f := (eT eI)) (xs := (possible one_here_2 position)) (i := (0 : Int)) ((h10.2.2.2.2.2.2.2.1 h14).1 y_v_6 h15).2.1)), rfl, (.s (.s (.s (.s (.s (.s (.s (.u (.s (.u (.u (.s (.s (.u (.u (.s (.s (.s (.s (.u (.u (.u (.u (.u .n))))))))))))))))))))))))⟩))) as_n) rfl (bi_tup _)) rfl)
  (sp_if (k := (!((shw ((eT (eT eI)) (possible disc_here position))) == (shw ((eT (eT eI)) due))))) (ev_cm (k := (!((shw ((eT (eT eI)) (possible disc_here position))) == (shw ((eT (eT eI)) due))))) (op_e rfl (ev_bu (as_c (op_e rfl (ev_cp (vs := [(eP3 eI (eT (eP2 eI (eT eI))) (eT (eP3 eI eI eI))) disc_here, eI position]) (as_c (op_vx rfl) (as_c (op_vx rfl) as_n)) rfl (possible_rf (k + 2) disc_here position (h10.2.2.2.2.2.2.2.1 h14).2.1))) as_n) rfl (bi_rep (d := (eT (eT eI)) (possible disc_here position)) (h10.2.2.2.2.2.2.2.1 h14).2.2.1))) (op_e rfl (ev_bu (as_c (op_vx rfl) as_n) rfl (bi_rep (d := (eT (eT eI)) due) (h10.2.2.2.2.2.2.2.1 h14).2.2.2.1))) rfl rfl (cm_eqS (h10.2.2.2.2.2.2.2.1 h14).2.2.2.2.1 (h10.2.2.2.2.2.2.2.1 h14).2.2.2.2.2.1).2) (fun h16 => (sp_rt (re_e rfl (ev_k _)) (.u (.u (.u (.u (.u (.u (.u (.u (.u (.u (.u (.u (.u (.u (.u (.u (.u (.u (.u (.u (.u (.u (.u (.u .n)))))))))))))))))))))))))) (fun h17 => (let q_10 : (List Int × Deck) := mapS law_m3 deck_here_11 due; let deck_here_13 : Deck := q_10.2; let one_here_3 : List Int := q_10.1; let q_12 : (List Int × Deck) := mapS law_m4 deck_here_13 due; let deck_here_15 : Deck := q_12.2; let two : List Int := q_12.1; let first_1 : Option (List Int) := (seats_for disc_here position one_here_3); let second : Option (List Int) := (seats_for disc_here position two); let q_13 : (Int × Deck) := drawF deck_here_15 ((one_here_3.length : Int) + (1 : Int)); let deck_here_16 : Deck := q_13.2; let cut : Int := q_13.1; let first_2 : List Int := unO first_1; let second_1 : List Int := unO second; (ss_c (s_as (s := .x (.p ((eT eI) one_here_3))) (ev_bu (as_c (op_e rfl (ev_lt (h := (eT eI)) (ys := due) eI (fun dk => [.x (.p ((eL eI) script)), .x (deckO dk), .x (.p (eI lap)), .x (.p ((eP3 eI (eT (eP2 eI (eT eI))) (eT (eP3 eI eI eI))) disc_here)), .x (.p ((eL (eP3 eI (eT (eP2 eI (eT eI))) (eT (eP3 eI eI eI)))) single)), .x (.p (eI size)), .x (.p ((eT eI) marks)), .u, .w ((eL (eT (eP2 eI eI))) arcs), .u, .u, .x (.p ((eT (eP2 eI eI)) whole)), .x (.o ((eL eI) ends)), .u, .u, .x (.p (eI k_v)), .x (.p (eI position)), .x (.p (eB everywhere)), .x (.o ((eL eB) shown)), .x (.p ((eT (eT eI)) due)), .u, .u, .u, .u]) law_m3 law_m3_ok deck_here_11 (it_ex (ev_p rfl) rfl rfl) (.s (.s (.s (.s (.s (.s (.s (.u (.s (.u (.u (.s (.s (.u (.u (.s (.s (.s (.s (.s (.u (.u (.u (.u .n)))))))))))))))))))))))) (fun s i hi => by revert i; simp [getA]) (fun dk_1 y_v_7 h18 h19 => let both : List Int := y_v_7; let q_9 : (Int × Deck) := oneF dk_1 both; let deck_here_12 : Deck := q_9.2; ⟨_, _, _, rfl, (Ev.le (σ2 := [.x (.p ((eL eI) script)), .x (deckO deck_here_12), .x (.p (eI lap)), .x (.p ((eP3 eI (eT (eP2 eI (eT eI))) (eT (eP3 eI eI eI))) disc_here)), .x (.p ((eL (eP3 eI (eT (eP2 eI (eT eI))) (eT (eP3 eI eI eI)))) single)), .x (.p (eI size)), .x (.p ((eT eI) marks)), .u, .w ((eL (eT (eP2 eI eI))) arcs), .u, .u, .x (.p ((eT (eP2 eI eI)) whole)), .x (.o ((eL eI) ends)), .u, .u, .x (.p (eI k_v)), .x (.p (eI position)), .x (.p (eB everywhere)), .x (.o ((eL eB) shown)), .x (.p ((eT (eT eI)) due)), .x (.p ((eT eI) both)), .u, .u, .u]) (ev_ca (σ2 := [.x (.p ((eL eI) script)), .u, .x (.p (eI lap)), .x (.p ((eP3 eI (eT (eP2 eI (eT eI))) (eT (eP3 eI eI eI))) disc_here)), .x (.p ((eL (eP3 eI (eT (eP2 eI (eT eI))) (eT (eP3 eI eI eI)))) single)), .x (.p (eI size)), .x (.p ((eT eI) marks)), .u, .w ((eL (eT (eP2 eI eI))) arcs), .u, .u, .x (.p ((eT (eP2 eI eI)) whole)), .x (.o ((eL eI) ends)), .u, .u, .x (.p (eI k_v)), .x (.p (eI position)), .x (.p (eB everywhere)), .x (.o ((eL eB) shown)), .x (.p ((eT (eT eI)) due)), .x (.p ((eT eI) both)), .u, .u, .u]) (ds := [deckO dk_1, .p ((eT eI) both)]) (as_c (op_vx rfl) (as_c (op_vx rfl) as_n)) rfl (onepT_rf (k + 3) eI dk_1 both h19.1)) (.s (.s (.s (.s (.s (.s (.s (.u (.s (.u (.u (.s (.s (.u (.u (.s (.s (.s (.s (.s (.s (.u (.u (.u .n))))))))))))))))))))))))), rfl, (.s (.s (.s (.s (.s (.s (.s (.u (.s (.u (.u (.s (.s (.u (.u (.s (.s (.s (.s (.s (.u (.u (.u (.u .n))))))))))))))))))))))))⟩) ((h10.2.2.2.2.2.2.2.1 h14).2.2.2.2.2.2.1 h17).1)) as_n) rfl (bi_tup _)) rfl)
  (ss_c (s_as (s := .x (.p ((eT eI) two))) (ev_bu (as_c (op_e rfl (ev_lt (h := (eT eI)) (ys := due) eI (fun dk => [.x (.p ((eL eI) script)), .x (deckO dk), .x (.p (eI lap)), .x (.p ((eP3 eI (eT (eP2 eI (eT eI))) (eT (eP3 eI eI eI))) disc_here)), .x (.p ((eL (eP3 eI (eT (eP2 eI (eT eI))) (eT (eP3 eI eI eI)))) single)), .x (.p (eI size)), .x (.p ((eT eI) marks)), .u, .w ((eL (eT (eP2 eI eI))) arcs), .x (.p ((eT eI) one_here_3)), .u, .x (.p ((eT (eP2 eI eI)) whole)), .x (.o ((eL eI) ends)), .u, .u, .x (.p (eI k_v)), .x (.p (eI position)), .x (.p (eB everywhere)), .x (.o ((eL eB) shown)), .x (.p ((eT (eT eI)) due)), .u, .u, .u, .u]) law_m4 law_m4_ok deck_here_13 (it_ex (ev_p rfl) rfl rfl) (.s (.s (.s (.s (.s (.s (.s (.u (.s (.s (.u (.s (.s (.u (.u (.s (.s (.s (.s (.s (.u (.u (.u (.u .n)))))))))))))))))))))))) (fun s i hi => by revert i; simp [getA]) (fun dk_2 y_v_8 h20 h21 => let both_1 : List Int := y_v_8; let q_11 : (Int × Deck) := oneF dk_2 both_1; let deck_here_14 : Deck := q_11.2; ⟨_, _, _, rfl, (Ev.le (σ2 := [.x (.p ((eL eI) script)), .x (deckO deck_here_14), .x (.p (eI lap)), .x (.p ((eP3 eI (eT (eP2 eI (eT eI))) (eT (eP3 eI eI eI))) disc_here)), .x (.p ((eL (eP3 eI (eT (eP2 eI (eT eI))) (eT (eP3 eI eI eI)))) single)), .x (.p (eI size)), .x (.p ((eT eI) marks)), .u, .w ((eL (eT (eP2 eI eI))) arcs), .x (.p ((eT eI) one_here_3)), .u, .x (.p ((eT (eP2 eI eI)) whole)), .x (.o ((eL eI) ends)), .u, .u, .x (.p (eI k_v)), .x (.p (eI position)), .x (.p (eB everywhere)), .x (.o ((eL eB) shown)), .x (.p ((eT (eT eI)) due)), .x (.p ((eT eI) both_1)), .u, .u, .u]) (ev_ca (σ2 := [.x (.p ((eL eI) script)), .u, .x (.p (eI lap)), .x (.p ((eP3 eI (eT (eP2 eI (eT eI))) (eT (eP3 eI eI eI))) disc_here)), .x (.p ((eL (eP3 eI (eT (eP2 eI (eT eI))) (eT (eP3 eI eI eI)))) single)), .x (.p (eI size)), .x (.p ((eT eI) marks)), .u, .w ((eL (eT (eP2 eI eI))) arcs), .x (.p ((eT eI) one_here_3)), .u, .x (.p ((eT (eP2 eI eI)) whole)), .x (.o ((eL eI) ends)), .u, .u, .x (.p (eI k_v)), .x (.p (eI position)), .x (.p (eB everywhere)), .x (.o ((eL eB) shown)), .x (.p ((eT (eT eI)) due)), .x (.p ((eT eI) both_1)), .u, .u, .u]) (ds := [deckO dk_2, .p ((eT eI) both_1)]) (as_c (op_vx rfl) (as_c (op_vx rfl) as_n)) rfl (onepT_rf (k + 3) eI dk_2 both_1 h21.1)) (.s (.s (.s (.s (.s (.s (.s (.u (.s (.s (.u (.s (.s (.u (.u (.s (.s (.s (.s (.s (.s (.u (.u (.u .n))))))))))))))))))))))))), rfl, (.s (.s (.s (.s (.s (.s (.s (.u (.s (.s (.u (.s (.s (.u (.u (.s (.s (.s (.s (.s (.u (.u (.u (.u .n))))))))))))))))))))))))⟩) ((h10.2.2.2.2.2.2.2.1 h14).2.2.2.2.2.2.1 h17).2.1)) as_n) rfl (bi_tup _)) rfl)
  (ss_c (s_pa (ds_c (s := .x (.p ((eO (eT eI)) first_1))) (ev_cp (vs := [(eP3 eI (eT (eP2 eI (eT eI))) (eT (eP3 eI eI eI))) disc_here, eI position, (eT eI) one_here_3]) (as_c (op_vx rfl) (as_c (op_vx rfl) (as_c (op_vx rfl) as_n))) rfl (seats_for_rf (k + 0) disc_here position one_here_3 ((h10.2.2.2.2.2.2.2.1 h14).2.2.2.2.2.2.1 h17).2.2.1)) (ds_c (s := .x (.p ((eO (eT eI)) second))) (ev_cp (vs := [(eP3 eI (eT (eP2 eI (eT eI))) (eT (eP3 eI eI eI))) disc_here, eI position, (eT eI) two]) (as_c (op_vx rfl) (as_c (op_vx rfl) (as_c (op_vx rfl) as_n))) rfl (seats_for_rf (k + 0) disc_here position two ((h10.2.2.2.2.2.2.2.1 h14).2.2.2.2.2.2.1 h17).2.2.2.1)) ds_n)) rfl rfl)
  (ss_c (s_as (s := .x (.p (eI cut))) (Ev.le (σ2 := [.x (.p ((eL eI) script)), .x (deckO deck_here_16), .x (.p (eI lap)), .x (.p ((eP3 eI (eT (eP2 eI (eT eI))) (eT (eP3 eI eI eI))) disc_here)), .x (.p ((eL (eP3 eI (eT (eP2 eI (eT eI))) (eT (eP3 eI eI eI)))) single)), .x (.p (eI size)), .x (.p ((eT eI) marks)), .u, .w ((eL (eT (eP2 eI eI))) arcs), .x (.p ((eT eI) one_here_3)), .u, .x (.p ((eT (eP2 eI eI)) whole)), .x (.o ((eL eI) ends)), .x (.p ((eO (eT eI)) first_1)), .u, .x (.p (eI k_v)), .x (.p (eI position)), .x (.p (eB everywhere)), .x (.o ((eL eB) shown)), .x (.p ((eT (eT eI)) due)), .u, .x (.p ((eT eI) two)), .x (.p ((eO (eT eI)) second)), .u]) (ev_ca (σ2 := [.x (.p ((eL eI) script)), .u, .x (.p (eI lap)), .x (.p ((eP3 eI (eT (eP2 eI (eT eI))) (eT (eP3 eI eI eI))) disc_here)), .x (.p ((eL (eP3 eI (eT (eP2 eI (eT eI))) (eT (eP3 eI eI eI)))) single)), .x (.p (eI size)), .x (.p ((eT eI) marks)), .u, .w ((eL (eT (eP2 eI eI))) arcs), .x (.p ((eT eI) one_here_3)), .u, .x (.p ((eT (eP2 eI eI)) whole)), .x (.o ((eL eI) ends)), .x (.p ((eO (eT eI)) first_1)), .u, .x (.p (eI k_v)), .x (.p (eI position)), .x (.p (eB everywhere)), .x (.o ((eL eB) shown)), .x (.p ((eT (eT eI)) due)), .u, .x (.p ((eT eI) two)), .x (.p ((eO (eT eI)) second)), .u]) (ds := [deckO deck_here_15, .p (eI ((one_here_3.length : Int) + (1 : Int)))]) (as_c (op_vx rfl) (as_c (op_e rfl (ev_bi2 (op_e rfl (ev_bu (as_c (op_vx rfl) as_n) rfl (bi_lenT eI one_here_3))) (op_e rfl (ev_k _)) rfl rfl rfl)) as_n)) rfl (draw_rf (k + 4) deck_here_15 ((one_here_3.length : Int) + (1 : Int)) ((h10.2.2.2.2.2.2.2.1 h14).2.2.2.2.2.2.1 h17).2.2.2.2.1)) (.s (.s (.s (.s (.s (.s (.s (.u (.s (.s (.u (.s (.s (.s (.u (.s (.s (.s (.s (.s (.u (.s (.s (.u .n))))))))))))))))))))))))) rfl)
  (ES.nar (e := (eT eI)) (x := first_1) (i := 13) ((h10.2.2.2.2.2.2.2.1 h14).2.2.2.2.2.2.1 h17).2.2.2.2.2.1 rfl (ES.nar (e := (eT eI)) (x := second) (i := 22) ((h10.2.2.2.2.2.2.2.1 h14).2.2.2.2.2.2.1 h17).2.2.2.2.2.2.1 rfl (sp_if (k := (!decide ((reading disc_here position ((cutF first_2 none (some cut)) ++ (cutF second_1 (some cut) none))) = ((cutF one_here_3 none (some cut)) ++ (cutF two (some cut) none))))) (ev_cm (k := (!decide ((reading disc_here position ((cutF first_2 none (some cut)) ++ (cutF second_1 (some cut) none))) = ((cutF one_here_3 none (some cut)) ++ (cutF two (some cut) none))))) (op_e rfl (ev_cp (vs := [(eP3 eI (eT (eP2 eI (eT eI))) (eT (eP3 eI eI eI))) disc_here, eI position, (eT eI) ((cutF first_2 none (some cut)) ++ (cutF second_1 (some cut) none))]) (as_c (op_vx rfl) (as_c (op_vx rfl) (as_c (op_e rfl (ev_bi2 (op_e rfl (ev_st (op_vx rfl) (op_vx rfl) rfl rfl (st_T eI first_2 cut))) (op_e rfl (ev_sf (op_vx rfl) (op_vx rfl) rfl rfl (sf_T eI second_1 cut))) rfl rfl (bd_T (f := eI) (xs := (cutF first_2 none (some cut))) (ys := (cutF second_1 (some cut) none)) ((h10.2.2.2.2.2.2.2.1 h14).2.2.2.2.2.2.1 h17).2.2.2.2.2.2.2.1))) as_n))) rfl (reading_rf (k + 3) disc_here position ((cutF first_2 none (some cut)) ++ (cutF second_1 (some cut) none)) ((h10.2.2.2.2.2.2.2.1 h14).2.2.2.2.2.2.1 h17).2.2.2.2.2.2.2.2.1))) (op_e rfl (ev_bi2 (op_e rfl (ev_st (op_vx rfl) (op_vx rfl) rfl rfl (st_T eI one_here_3 cut))) (op_e rfl (ev_sf (op_vx rfl) (op_vx rfl) rfl rfl (sf_T eI two cut))) rfl rfl (bd_T (f := eI) (xs := (cutF one_here_3 none (some cut))) (ys := (cutF two (some cut) none)) ((h10.2.2.2.2.2.2.2.1 h14).2.2.2.2.2.2.1 h17).2.2.2.2.2.2.2.2.2.1))) rfl rfl (cm_ne (enc_T enc_I) (by decide) (reading disc_here position ((cutF first_2 none (some cut)) ++ (cutF second_1 (some cut) none))) ((cutF one_here_3 none (some cut)) ++ (cutF two (some cut) none)))) (fun h22 => (sp_rt (re_e rfl (ev_k _)) (.u (.u (.u (.u (.u (.u (.u (.u (.u (.u (.u (.u (.u (.u (.u (.u (.u (.u (.u (.u (.u (.u (.u (.u .n)))))))))))))))))))))))))) (fun h23 => (sp_en (.s (.s (.s (.s (.s (.s (.s (.u (.s (.u (.u (.s (.s (.u (.u (.u (.u (.u (.u (.u (.u (.u (.u (.u .n)))))))))))))))))))))))))))))))))))))))))))⟩) h2.2.2.2.2.2.2.2.1 (fun st_2 h24 => let deck_here_17 : Deck := st_2; (sp_en (.s (.s (.u (.u (.u (.u (.u (.u (.u (.u (.u (.u (.u (.u (.u (.u (.u (.u (.u (.u (.u (.u (.u (.u .n)))))))))))))))))))))))))))))))))⟩) hk.1 (fun st_3 h25 => let deck_here_18 : Deck := st_3; (sp_rt (re_e rfl (ev_k _)) (.u (.u (.u (.u (.u (.u (.u (.u (.u (.u (.u (.u (.u (.u (.u (.u (.u (.u (.u (.u (.u (.u (.u (.u .n)))))))))))))))))))))))))))))
theorem law_rf (k : Nat) (script : List Int) (hk : law_ok script) : CallOk (callF tab (k + 6)) f_law [.p ((eL eI) script)] (.x (.p (eB (law script)))) [] := by
  rw [law_eq]
  exact law_rfb k script hk
-- level 6

end
end Q
set_option Elab.async false
set_option linter.all false
set_option maxRecDepth 100000
namespace Q
open PySem hiding Env Arg
open Dl Lf
theorem ar_len {size : Int} (hs : 0 < size) {S : Int → Prop} {A : List PiT} (h : AR size S A) : (A.length : Int) ≤ size ∧ ∀ a ∈ A, 0 ≤ a.1 ∧ a.1 < size := by
  rcases h with ⟨_, rfl⟩ | ⟨_, h2, h3⟩
  · exact ⟨by simp; omega, fun a ha => by simp at ha; subst ha; simp only; omega⟩
  · have hb : ∀ a ∈ A, 0 ≤ a.1 ∧ a.1 < size := fun a ha => by
      obtain ⟨q1, q2, _⟩ := (h3 a).mp ha
      exact ⟨q1, q2⟩
    have hl : ∀ (L : List PiT) (b : Int), L.Pairwise (fun a b => a.1 < b.1) → (∀ a ∈ L, b ≤ a.1 ∧ a.1 < size) → b ≤ size → (L.length : Int) ≤ size - b := by
      intro L
      induction L with
      | nil => intro b _ _ hb; simp; omega
      | cons a L ih =>
        intro b hp hb' hbs
        obtain ⟨p1, p2⟩ := List.pairwise_cons.mp hp
        have := hb' a List.mem_cons_self
        have := ih (a.1 + 1) p2 (fun y hy => ⟨by have := p1 y hy; omega, (hb' y (List.mem_cons_of_mem _ hy)).2⟩) (by omega)
        simp only [List.length_cons]
        omega
    have := hl A 0 h2 hb (by omega)
    exact ⟨by omega, hb⟩
theorem holds_at {size : Int} (hs : 0 < size) {S : Int → Prop} {A : List PiT} (h : AR size S A) {x : Int} (x0 : 0 ≤ x) (x1 : x < size) : (l_holds size A x = true ↔ S x) ∧ l_holds_ok size A x := by
  refine ⟨?_, fun _ _ => ⟨hs, trivial⟩, trivial⟩
  rw [← ar_holds hs h x0 x1, l_holds_eq]
  unfold l_holds_b
  simp only [Bool.not_eq_true', decide_eq_false_iff_not, List.map_eq_nil_iff, List.filter_eq_nil_iff, decide_eq_true_eq]
  constructor
  · intro g
    refine Classical.byContradiction fun w => g fun a ha hx => w ⟨a, ha, hx⟩
  · rintro ⟨a, ha, hx⟩ g
    exact g a ha hx
def sglD (d : DiT) (s : SeT) : DiT := (d.1, d.2.1, [s])
theorem alone_at (d : DiT) : l_alone d = d.2.2.map (sglD d) := by rw [l_alone_eq]; rfl
theorem sgl_ok {d : DiT} (h : DiscOk d) {s : SeT} (hs : s ∈ d.2.2) : DiscOk (sglD d s) := ⟨h.sz, h.sz2, h.trk, h.tfew, by simp [sglD], fun z hz => by simp [sglD] at hz; rw [hz]; exact h.sen s hs⟩
theorem sgl_pol (d : DiT) (s : SeT) (x : Int) : ixF (polN (sglD d s) x) 0 = colsN d.1 (ixF d.2.1 s.1) s.2.1 s.2.2 x := rfl
theorem sgl_can (d : DiT) (s : SeT) (x m : Int) : Can (sglD d s) x [m] ↔ m ∈ colsN d.1 (ixF d.2.1 s.1) s.2.1 s.2.2 x := by
  unfold Can
  constructor
  · intro g
    exact g 0 (by omega) (by simp [sglD])
  · intro g i i0 i1
    have : i = 0 := by simp [sglD] at i1; omega
    subst this
    exact g
theorem mix {α β γ : Type} (g : α × β → γ) : ∀ (L : List α) (a b : List β) (c : Nat), a.length = L.length → b.length = L.length → (List.zip L (a.take c ++ b.drop c)).map g = ((List.zip L a).map g).take c ++ ((List.zip L b).map g).drop c
  | [], a, b, c, ha, hb => by
    cases a with
    | nil => cases b with
      | nil => simp
      | cons _ _ => cases hb
    | cons _ _ => cases ha
  | l :: L, [], b, c, ha, hb => by cases ha
  | l :: L, a :: as, [], c, ha, hb => by cases hb
  | l :: L, a :: as, b :: bs, 0, ha, hb => by simp
  | l :: L, a :: as, b :: bs, c + 1, ha, hb => by
    have := mix g L as bs c (by simpa using ha) (by simpa using hb)
    simp only [List.take_succ_cons, List.drop_succ_cons, List.cons_append, List.zip_cons_cons, List.map_cons, this]
theorem m3_at : ∀ (xs : List (List Int)) {n : Int} {dk : Deck}, Dk n dk → n + xs.length ≤ 10 ^ 8 → (∀ x ∈ xs, x ≠ [] ∧ x.length ≤ 2) → mapSOk law_m3_ok law_m3 dk xs ∧ (mapS law_m3 dk xs).1.length = xs.length ∧ (∀ z ∈ List.zip (mapS law_m3 dk xs).1 xs, z.1 ∈ z.2) ∧ Dk (n + xs.length) (mapS law_m3 dk xs).2
  | [], n, dk, h, _, _ => ⟨trivial, rfl, fun z hz => by simp [mapS] at hz, by simpa [mapS] using h⟩
  | x :: xs, n, dk, h, hn, hx => by
    obtain ⟨x1, x2⟩ := hx x List.mem_cons_self
    simp only [List.length_cons] at hn
    obtain ⟨i1, i2, i3, i4⟩ := m3_at xs (h.one x) (by omega) fun y hy => hx y (List.mem_cons_of_mem _ hy)
    have e : law_m3 dk x = ((oneF dk x).1, (oneF dk x).2) := rfl
    refine ⟨⟨⟨⟨h.ok (by omega), x1, by omega⟩, trivial⟩, i1⟩, by show (mapS law_m3 (oneF dk x).2 xs).1.length + 1 = _; rw [i2]; rfl, fun z hz => ?_, i4.mono (by simp only [List.length_cons]; omega)⟩
    have ez : List.zip (mapS law_m3 dk (x :: xs)).1 (x :: xs) = ((oneF dk x).1, x) :: List.zip (mapS law_m3 (oneF dk x).2 xs).1 xs := rfl
    rw [ez] at hz
    rcases List.mem_cons.mp hz with rfl | hz
    · exact oneF_mem dk x1
    · exact i3 z hz
theorem pol_ne {d : DiT} {x : Int} : ∀ l ∈ polN d x, l ≠ [] ∧ l.length ≤ 2 := by
  intro l hl
  unfold polN at hl
  obtain ⟨s, _, rfl⟩ := List.mem_map.mp hl
  unfold colsN
  split <;> simp
theorem in11 {d : DiT} (h : DiscOk d) (hz3 : d.1 ≤ 1000000) {marks : List Int} (hm : marks.length = d.2.2.length) {n : Int} {dk : Deck} (hk : Dk n dk) (hn : n ≤ 10 ^ 6) (y : Int) :
    law_l2_ok d (l_alone d) d.1 marks (List.map (fun z : DiT × Int => positions z.1 [z.2]) (List.zip (l_alone d) marks)) (positions d marks) ((positions d marks).map fun z => z.1) dk y ∧ ∃ dk', law_l2 d (l_alone d) d.1 marks (List.map (fun z : DiT × Int => positions z.1 [z.2]) (List.zip (l_alone d) marks)) (positions d marks) ((positions d marks).map fun z => z.1) dk y = .nx dk' ∧ Dk (n + 20) dk' := by
  have hz := h.sz
  have hz2 := h.sz2
  have hf := h.sfew
  have hrow : RowOk d [marks] := ⟨by simp, by simp, fun p hp => by simp at hp; rw [hp]; exact hm⟩
  have hAR := (along_at h hrow).2
  rw [← pos_along] at hAR
  obtain ⟨hl1, hl2⟩ := ar_len (by omega) hAR
  have hhold : ∀ x, 0 ≤ x → x < d.1 → (l_holds d.1 (positions d marks) x = true ↔ Can d x marks) ∧ l_holds_ok d.1 (positions d marks) x := fun x x0 x1 => by
    obtain ⟨a, b⟩ := holds_at (by omega) hAR x0 x1
    exact ⟨a.trans (can_alg h x marks).symm, b⟩
  have hsing : ∀ A ∈ List.map (fun z : DiT × Int => positions z.1 [z.2]) (List.zip (l_alone d) marks), ∃ i : Int, 0 ≤ i ∧ i < d.2.2.length ∧ A = positions (sglD d (ixF d.2.2 i)) [ixF marks i] := by
    intro A hA
    obtain ⟨z, hz', rfl⟩ := List.mem_map.mp hA
    rw [alone_at] at hz'
    obtain ⟨k, hk', e⟩ := List.getElem_of_mem hz'
    rw [List.length_zip, List.length_map] at hk'
    have e2 := zip_at (xs := d.2.2.map (sglD d)) (ys := marks) (i := (k : Int)) (by omega) (by rw [List.length_map]; omega) (by omega)
    have e3 := (ix_nat (xs := List.zip (d.2.2.map (sglD d)) marks) (i := (k : Int)) (by omega) (by rw [List.length_zip, List.length_map]; omega)).2
    simp only [Int.toNat_natCast] at e3
    rw [List.getElem?_eq_getElem (by rw [List.length_zip, List.length_map]; omega)] at e3
    injection e3 with e3
    refine ⟨(k : Int), by omega, by omega, ?_⟩
    rw [← e, e3, e2, ix_map (sglD d) (by omega) (by omega)]
  have hsingle : ∀ i : Int, 0 ≤ i → i < d.2.2.length → positions (sglD d (ixF d.2.2 i)) [ixF marks i] ∈ List.map (fun z : DiT × Int => positions z.1 [z.2]) (List.zip (l_alone d) marks) := by
    intro i i0 i1
    rw [alone_at]
    refine List.mem_map.mpr ⟨(sglD d (ixF d.2.2 i), ixF marks i), ?_, rfl⟩
    have e2 := zip_at (xs := d.2.2.map (sglD d)) (ys := marks) (i := i) i0 (by rw [List.length_map]; omega) (by omega)
    rw [ix_map (sglD d) i0 i1] at e2
    rw [← e2]
    exact ix_in i0 (by rw [List.length_zip, List.length_map]; omega)
  have hsh : ∀ i : Int, 0 ≤ i → i < d.2.2.length → ∀ x, 0 ≤ x → x < d.1 → (l_holds d.1 (positions (sglD d (ixF d.2.2 i)) [ixF marks i]) x = true ↔ ixF marks i ∈ ixF (polN d x) i) ∧ l_holds_ok d.1 (positions (sglD d (ixF d.2.2 i)) [ixF marks i]) x := by
    intro i i0 i1 x x0 x1
    have hs := sgl_ok h (ix_in i0 i1)
    have hr : RowOk (sglD d (ixF d.2.2 i)) [[ixF marks i]] := ⟨by simp, by simp, fun p hp => by simp at hp; rw [hp]; simp [sglD]⟩
    have hA := (along_at hs hr).2
    rw [← pos_along] at hA
    obtain ⟨a, b⟩ := holds_at (size := d.1) (by omega) hA x0 x1
    refine ⟨a.trans ((can_alg hs x _).symm.trans ?_), b⟩
    rw [sgl_can, polN_ix i0 i1]
  generalize List.map (fun z : DiT × Int => positions z.1 [z.2]) (List.zip (l_alone d) marks) = arcs at *
  generalize positions d marks = whole at *
  have k1 := hk.draw d.1
  have d1 := drawF_lt dk (show 0 < d.1 by omega)
  unfold law_l2_ok law_l2
  simp only
  generalize drawF dk d.1 = q1 at *
  have k2 := k1.draw d.1
  have d2 := drawF_lt q1.2 (show 0 < d.1 by omega)
  generalize drawF q1.2 d.1 = q2 at *
  have hne : (whole.map fun z => z.1) ++ [q1.1, q2.1] ≠ [] := by simp
  have k3 := k2.one ((whole.map fun z => z.1) ++ [q1.1, q2.1])
  have m3 := oneF_mem q2.2 hne
  generalize oneF q2.2 ((whole.map fun z => z.1) ++ [q1.1, q2.1]) = q3 at *
  have hpos : 0 ≤ q3.1 ∧ q3.1 < d.1 := by
    rcases List.mem_append.mp m3 with w | w
    · obtain ⟨a, ha, e⟩ := List.mem_map.mp w
      rw [← e]; exact hl2 a ha
    · simp at w; omega
  obtain ⟨hh1, hh2⟩ := hhold q3.1 hpos.1 hpos.2
  obtain ⟨c1, c2⟩ := can_at h q3.1 hm
  -- everywhere
  have hev : (decide (List.map (fun y => y) (List.filter (fun y => !(l_holds d.1 y q3.1)) arcs) = [])) = can_read d q3.1 marks := by
    have : (List.map (fun y => y) (List.filter (fun y => !(l_holds d.1 y q3.1)) arcs) = []) ↔ can_read d q3.1 marks = true := by
      rw [List.map_eq_nil_iff, List.filter_eq_nil_iff, c1]
      constructor
      · intro g i i0 i1
        have := g _ (hsingle i i0 i1)
        exact ((hsh i i0 i1 q3.1 hpos.1 hpos.2).1).mp (by simpa using this)
      · intro g A hA
        obtain ⟨i, i0, i1, rfl⟩ := hsing A hA
        have := ((hsh i i0 i1 q3.1 hpos.1 hpos.2).1).mpr (g i i0 i1)
        simp [this]
    by_cases w : can_read d q3.1 marks = true
    · rw [w]; simpa using this.mpr w
    · have w2 : can_read d q3.1 marks = false := by simpa using w
      rw [w2]
      simpa using fun q => w (this.mp q)
  have hho : l_holds d.1 whole q3.1 = can_read d q3.1 marks := by
    by_cases w : can_read d q3.1 marks = true
    · rw [w]; exact hh1.mpr (c1.mp w)
    · have w2 : can_read d q3.1 marks = false := by simpa using w
      rw [w2]
      have : ¬ l_holds d.1 whole q3.1 = true := fun q => w (c1.mpr (hh1.mp q))
      simpa using this
  have hdue : List.map (fun y : DiT => ixF (polN y q3.1) 0) (l_alone d) = polN d q3.1 := by
    rw [alone_at, List.map_map]
    unfold polN
    refine List.map_congr_left fun s _ => ?_
    rfl
  have hps := pol_sm h q3.1
  have hrp : RpOk (eT (eT eI) (polN d q3.1)) := sm_rp hps (by omega) (by omega)
  have hso : SOk (shw (eT (eT eI) (polN d q3.1))) := (ns_T (ns_T ns_I)).ok _
  have hpl := polN_len d q3.1
  obtain ⟨o1, o2, o3, o4⟩ := m3_at (polN d q3.1) k3 (by omega) pol_ne
  have e4 : law_m4 = law_m3 := rfl
  have e4o : law_m4_ok = law_m3_ok := rfl
  rw [e4, e4o]
  simp only [hev, hho, hdue, possible_at]
  generalize mapS law_m3 q3.2 (polN d q3.1) = q4 at *
  obtain ⟨p1, p2, p3, p4⟩ := m3_at (polN d q3.1) o4 (by omega) pol_ne
  generalize mapS law_m3 q4.2 (polN d q3.1) = q5 at *
  have canOf : ∀ r : List Int, r.length = (polN d q3.1).length → (∀ z ∈ List.zip r (polN d q3.1), z.1 ∈ z.2) → Can d q3.1 r := by
    intro r hr hz' i i0 i1
    have e := zip_at (xs := r) (ys := polN d q3.1) i0 (by omega) (by omega)
    have := hz' (ixF r i, ixF (polN d q3.1) i) (by rw [← e]; exact ix_in i0 (by rw [List.length_zip]; omega))
    exact this
  obtain ⟨s1, _, s3⟩ := seats_for_at h q3.1 (pat := q4.1) (by omega)
  obtain ⟨t1, _, t3⟩ := seats_for_at h q3.1 (pat := q5.1) (by omega)
  obtain ⟨a, ea, a1, a2⟩ := s3 (canOf _ o2 o3)
  obtain ⟨b, eb, b1, b2⟩ := t3 (canOf _ p2 p3)
  have la := seats_len a1
  have lb := seats_len b1
  have d6 := drawF_lt q5.2 (show 0 < (q4.1.length : Int) + 1 by omega)
  have k6 := p4.draw ((q4.1.length : Int) + 1)
  generalize drawF q5.2 ((q4.1.length : Int) + 1) = q6 at *
  have cto : ∀ l : List Int, cutF l none (some q6.1) = l.take q6.1.toNat := fun l => by
    have e : q6.1 = ((q6.1.toNat : Nat) : Int) := by omega
    rw [e, cutF_to]
    rfl
  have cfr : ∀ l : List Int, cutF l (some q6.1) none = l.drop q6.1.toNat := fun l => cut_n l d6.1
  have hmix : readN d q3.1 (a.take q6.1.toNat ++ b.drop q6.1.toNat) = q4.1.take q6.1.toNat ++ q5.1.drop q6.1.toNat := by
    have := mix (fun z : SeT × Int => cc d.1 (ixF d.2.1 z.1.1) (q3.1 + z.2)) d.2.2 a b q6.1.toNat la lb
    unfold readN at a2 b2 ⊢
    rw [this, a2, b2]
  have ua : unO (some a) = a := rfl
  have ub : unO (some b) = b := rfl
  simp only [ea, eb, ua, ub, cto, cfr, (reading_at h q3.1 _).1, hmix]
  refine ⟨⟨hk.dr (by omega) (by omega) (by omega), k1.dr (by omega) (by omega) (by omega), by simp; omega, ⟨k2.ok (by omega), hne, by simp; omega⟩, fun A hA => ?_, c2, hh2, fun _ => ⟨fun z hz' => ?_, possible_k h q3.1, hrp, hrp, hso, hso, fun _ => ⟨o1, p1, s1, t1, p4.dr (by omega) (by omega) (by omega), rfl, rfl, by simp; omega, (reading_at h q3.1 _).2, by simp; omega, trivial⟩, trivial⟩, trivial⟩, q6.2, ?_, k6.mono (by omega)⟩
  · obtain ⟨i, i0, i1, rfl⟩ := hsing A hA
    exact ⟨(hsh i i0 i1 q3.1 hpos.1 hpos.2).2, trivial⟩
  · rw [alone_at] at hz'
    obtain ⟨s, hs, rfl⟩ := List.mem_map.mp hz'
    exact ⟨possible_k (sgl_ok h hs) _, ⟨by rw [polN_len]; simp [sglD], by rw [polN_len]; simp [sglD]⟩, trivial⟩
  · simp
theorem lap11 {n : Int} {dk : Deck} (h : Dk n dk) (hn : n ≤ 10 ^ 5) (y : Int) : law_l0_ok dk y ∧ ∃ dk', law_l0 dk y = .nx dk' ∧ Dk (n + 400) dk' := by
  have d0 := drawF_lt dk (show (0 : Int) < 2 by omega)
  have k0 := h.draw 2
  unfold law_l0_ok law_l0
  simp only
  generalize drawF dk 2 = q at *
  have key : ∃ q3 : DiT × Deck, (if (decide (q.1 = (0 : Int))) = true then ((l_disc q.2 30 6 9).1, (l_disc q.2 30 6 9).2) else ((l_great q.2 6).1, (l_great q.2 6).2)) = q3 ∧ DiscOk q3.1 ∧ q3.1.1 ≤ 1000000 ∧ Dk (n + 201) q3.2 ∧ ((decide (q.1 = (0 : Int))) = true → l_disc_ok q.2 30 6 9) ∧ ((decide (q.1 = (0 : Int))) = false → l_great_ok q.2 6) := by
    refine ⟨_, rfl, ?_⟩
    by_cases hy : q.1 = 0
    · obtain ⟨g1, g2, g3, gs, _⟩ := disc_v k0 (most := 30) (many := 6) (wide := 9) (by omega) (by omega) (by omega) (by omega) (by omega) (by omega)
      rw [if_pos (by simpa using hy)]
      exact ⟨g2, by show (l_disc q.2 30 6 9).1.1 ≤ 1000000; omega, g3.mono (by omega), fun _ => g1, fun w => by simp [hy] at w⟩
    · obtain ⟨g1, g2, g3, gs0, gs, _⟩ := great_v k0 (many := 6) (by omega) (by omega) (by omega)
      rw [if_neg (by simpa using hy)]
      exact ⟨g2, by omega, g3.mono (by omega), fun w => by simp [hy] at w, fun _ => g1⟩
  obtain ⟨q3, hq3, g2, gz, g3, g4, g5⟩ := key
  simp only [hq3]
  have hz := g2.sz
  have hf := g2.sfew
  obtain ⟨m1, m2, m3, m4⟩ := mapS_inv (ok := law_m1_ok) (f := law_m1) (fun m s => Dk (n + 201 + m) s) (fun _ => True) (xs := q3.1.2.2) (n := 0) (s := q3.2) (fun m s x m1 m2 _ hs => ⟨⟨hs.dr (by omega) (by omega) (by omega), trivial⟩, trivial, (hs.draw 2).mono (by omega)⟩) (g3.mono (by omega))
  generalize mapS law_m1 q3.2 q3.1.2.2 = q5 at *
  have hrow : RowOk q3.1 [q5.1] := ⟨by simp, by simp, fun p hp => by simp at hp; rw [hp]; exact m4⟩
  obtain ⟨l1, dk', l2, l3⟩ := loop_inv (ok := law_l2_ok q3.1 (l_alone q3.1) q3.1.1 q5.1 (List.map (fun z : DiT × Int => positions z.1 [z.2]) (List.zip (l_alone q3.1) q5.1)) (positions q3.1 q5.1) ((positions q3.1 q5.1).map fun z => z.1)) (f := law_l2 q3.1 (l_alone q3.1) q3.1.1 q5.1 (List.map (fun z : DiT × Int => positions z.1 [z.2]) (List.zip (l_alone q3.1) q5.1)) (positions q3.1 q5.1) ((positions q3.1 q5.1).map fun z => z.1)) (fun m dk => Dk (n + 210 + 20 * m) dk) (xs := rgI 0 6) (n := 0) (s := q5.2) (fun m s x m1 m2 _ hI => by
    rw [len_rg] at m2
    obtain ⟨a, dk', b, c⟩ := in11 g2 gz m4 hI (by omega) x
    exact ⟨a, dk', b, c.mono (by omega)⟩) (m3.mono (by omega))
  rw [len_rg] at l3
  refine ⟨⟨h.dr (by omega) (by omega) (by omega), fun w => ⟨g4 w, trivial⟩, fun w => ⟨g5 w, trivial⟩, trivial, m1, fun z hz' => ⟨?_, trivial⟩, pos_k (along_at g2 hrow).1, l1, trivial⟩, dk', ?_, l3.mono (by omega)⟩
  · have hm := (List.of_mem_zip hz').1
    rw [alone_at] at hm
    obtain ⟨s, hs, e⟩ := List.mem_map.mp hm
    rw [← e]
    exact pos_k (along_at (sgl_ok g2 hs) ⟨by simp, by simp, fun p hp => by simp at hp; rw [hp]; simp [sglD]⟩).1
  · simp only [l2, Step.bind]
theorem law11 (ns : List Int) : law_ok ns ∧ law ns = true := by
  obtain ⟨h1, s', h2, h3⟩ := loop_inv (ok := law_l0_ok) (f := law_l0) (fun m dk => Dk (400 * m) dk) (xs := rgI 0 6) (n := 0) (s := deckI ns) (fun m s x m1 m2 _ hI => by
    rw [len_rg] at m2
    obtain ⟨a, dk', b, c⟩ := lap11 hI (by omega) x
    exact ⟨a, dk', b, c.mono (by omega)⟩) ((dk0 ns).mono (by omega))
  refine ⟨⟨h1, trivial⟩, ?_⟩
  rw [law_eq]
  unfold law_b
  simp only [h2]
  rfl
end Q
namespace Dl
open PySem Lf
theorem math : ∀ ns : List Int, ns.length ≤ 63 → ∃ outs, callF tab 6 f_law [.p (.list (ns.map .int))] = .ok (pB true) outs := by
  intro ns _
  obtain ⟨d, o, h, h2, _⟩ := Q.law_rf 0 ns (Q.law11 ns).1
  rw [(Q.law11 ns).2] at h2
  cases h2
  exact ⟨o, h⟩
end Dl

namespace Dl
open PySem
end Dl
open PySem PySem.W PySem.Calls PyProof.Rows
theorem PySem.Challenge.cw_discsight_k11_whole_each_sensor_by_itsel_holds : PySem.Challenge.rw_discsight_k11_whole_each_sensor_by_itsel.Holds := by
  w_on; o_law
  refine HandSHeadRun.head_any (r := OpenLaw.row Dl.lw) (q := view (OpenLaw.row Dl.lw).prog [29]) (H := Dl.hk) (ob := Dl.obv) (M := 2000) (loose := Dl.loose) (d := HandSHeadRun.topDef (OpenLaw.row Dl.lw).prog 29) (kwd := []) Dl.obv_eq
    (by kernel_rfl) (fun s => by kernel_rfl) Dl.run (by kernel_rfl) (by kernel_rfl) (by kernel_rfl) (by rfl) (by first | assumption | decide +kernel) (by decide +kernel) ⟨rfl, rfl, rfl, rfl, rfl, by decide +kernel⟩ ?hw ?hc
  case hw => w_witness2
  case hc =>
    refine Dl.walk_G (l := Dl.lw) (n := 63) (k := 6) (x := "_law_script") rfl (by decide) (by kernel_rfl) ⟨rfl, by decide, by decide⟩ rfl ?F
    intro w mg fa h Y G hmg0
    obtain ⟨K, KX, c⟩ := Y
    have en : (HandSHeadRun.topDef (OpenLaw.row Dl.lw).prog 29).name = ("law" : PySem.Str) := by kernel_rfl
    rw [en] at hmg0
    have hd : (Dl.defsOf Dl.Pg)[25]? = some (Dl.Pg.main.body.getD 29 (.Pass ⟨0, 0, 0, 0⟩)) := by kernel_rfl
    obtain ⟨q, hq⟩ : ∃ q, Dl.fnArgs (Dl.Pg.main.body.getD 29 (.Pass ⟨0, 0, 0, 0⟩)) = some q := ⟨_, rfl⟩
    have hq1 : q.1 = ("law" : PySem.Str) ∧ q.2.1.map (·.arg) = [("_law_script" : PySem.Str)] := by cases hq; exact ⟨rfl, rfl⟩
    obtain ⟨x, as, b, sc⟩ := q
    obtain ⟨rfl, ha⟩ := hq1
    obtain ⟨fd, sp, h1, h2, h3⟩ := Dl.law_F (w := w) (n := 63) c KX G Dl.comp_tab Dl.fits hd hq ha hmg0 Dl.math
    exact ⟨K, fd, sp, KX, h1, h2, h3⟩
