import PyProof.Rows.All
import Wide.All
import OpenK.AllK
import Wide.FinOn
import KE.KStateDown
import HandS.ForMost
import HandS.ForExc
import HandS.Lambda
import HandS.Style
import HandS.Deep
import HandS.TupAny
import HandS.SortInts
import KE.DatumOrd
import KE.DataCmp
import HandS.SortRule
import HandS.TupSets
import HandS.SetFor
import KE.GoesMore
import HandS.Zip
import HandS.Rev
import HandS.Comp
import HandS.Small
import HandS.ExcOwn
import PyProof.ExcBaseAll.ValueError
import HandS.IsInst
import HandS.ExcIs
import HandS.Conv
import PyProof.ReprRoads
import HandS.ExcValue
import HandS.Defaults
import HandS.EndTab
import HandS.HeadHook2
import HandS.HeadEnd
import HandS.HeadHook4
import HandS.Head2
import PySem.Challenge.RW_treehung_k03_whole_full_and_largest_cliq
import HandS.Head0
import HandS.Head1
section
set_option Elab.async false
set_option linter.all false
/-! D layer, 1: pure data, the intermediate language, its interpreter. -/
namespace DL
open PySem

/-- pure data: what a Python value is worth, without addresses -/
inductive D where
  | non | bl (b : Bool) | int (i : Int) | str (x : Str)
  | tup (xs : List D) | lst (xs : List D)
  | dct (ks vs : List D)
  | set (xs : List D)
  | obj (C : Str) (fs : List Str) (vs : List D)
  | fn (x : Str)
  | exn (C : Str) (fs : List Str) (vs : List D)
  | scr (ns : List Int)
  deriving Inhabited

mutual
/-- nothing in it can be changed -/
def D.imm : D → Bool
  | .tup xs => D.immL xs
  | .lst _ => false
  | .dct _ _ => false
  | .set _ => false
  | .obj _ _ _ => false
  | _ => true
def D.immL : List D → Bool
  | [] => true
  | x :: xs => D.imm x && D.immL xs
end
/-- what it holds can't be changed -/
def D.flat : D → Bool
  | .lst xs => D.immL xs
  | .set _ => true
  | .dct _ vs => D.immL vs
  | d => D.imm d

/-- whose it is: nobody else's; shared, never changed again; within the slot r -/
inductive Pv where
  | own | shr | bor (r : Nat)
  deriving DecidableEq, Inhabited

/-- a slot: without value, sole owner of its value, or sharing it -/
inductive Sl where
  | un | ow (d : D) | sh (d : D)
  deriving Inhabited
abbrev Envv := List Sl

/-- an exception: its class and its attributes -/
structure Xn where
  cls : Str
  fs : List Str
  vs : List D
  deriving Inhabited

inductive Res where
  | ok (d : D) (p : Pv) (e : Envv) | exc (x : Xn) (e : Envv) | bad
def Res.bind (r : Res) (f : D → Pv → Envv → Res) : Res := match r with
  | .ok d p e => f d p e
  | .exc x e => .exc x e
  | .bad => .bad
inductive RsL where
  | ok (ds : List D) (ps : List Pv) (e : Envv) | exc (x : Xn) (e : Envv) | bad
inductive Out where
  | nx (e : Envv) | rt (d : D) (p : Pv) (e : Envv) | bk (e : Envv) | ct (e : Envv) | exc (x : Xn) (e : Envv) | bad
inductive FR where
  | ret (d : D) (p : Pv) (ios : List D) | exc (x : Xn) (ios : List D) | bad

/-! ### the intermediate language -/
/-- a target -/
inductive Tg where
  | nm (i : Nat) | tp (is : List Nat)
  deriving DecidableEq, Inhabited
def Tg.slots : Tg → List Nat
  | .nm i => [i]
  | .tp is => is
/-- built-in functions without effect -/
inductive Bf where
  | abs | int | len | min | max | list | tuple | all | any | sorted | sum | repr | sortset | lrng
  deriving DecidableEq, Inhabited
/-- methods that change their object -/
inductive Mf where
  | append | extend | pop | remove | insert | reverse
  deriving DecidableEq, Inhabited
/-- what isinstance is asked of -/
inductive Ty where
  | bool | int | str | tuple | list | dict | set | own (C : Str) | err (C : Str)
  deriving DecidableEq, Inhabited
mutual
inductive Ex where
  | con (d : D) | var (i : Nat) | mv (i : Nat)
  | bin (op : Operator) (a b : Ex) | neg (a : Ex)
  | cmp (op : CmpOp) (a b : Ex) | cmp2 (o1 o2 : CmpOp) (a b c : Ex)
  | and (a b : Ex) | or (a b : Ex) | not (a : Ex) | ite (c a b : Ex)
  | tup (es : Exs) | lst (es : Exs)
  | dic (ks : List D) (es : Exs)
  | ix (a i : Ex) | sl (a lo hi : Ex)
  | fld (a : Ex) (C f : Str)
  | call (f : Str) (es : Exs)
  | callk (f : Str) (π : List Nat) (es : Exs)
  | callv (i : Nat) (fs : List Str) (es : Exs)
  | calls (f : Str) (n : Nat) (es : Exs)
  | new (C : Str) (π : List Nat) (es : Exs)
  | isi (a : Ex) (t : Ty)
  | caught (a : Ex) (C : Str)
  | bi (f : Bf) (es : Exs)
  | mth (i : Nat) (m : Mf) (es : Exs)
  | mthx (i : Nat) (a : Ex) (m : Mf) (es : Exs)
  | comp (t : Tg) (it : It) (c e : Ex)
  | comp2 (t : Tg) (it : It) (c : Ex) (t2 : Tg) (it2 : It) (c2 : Ex) (e : Ex)
inductive Exs where
  | nil | cons (e : Ex) (es : Exs)
/-- what a loop walks -/
inductive It where
  | on (a : Ex) | rng (es : Exs) | enu (a : Ex) | zp (a b : Ex) | rv (a : Ex)
end
mutual
inductive St where
  | asg (t : Tg) (fr : Bool) (e : Ex)
  | par (is : List Nat) (frs : List Bool) (es : Exs)
  | setx (i : Nat) (a e : Ex)
  | setxx (i : Nat) (a b e : Ex)
  | setf (i : Nat) (C f : Str) (e : Ex)
  | aug (i : Nat) (op : Operator) (e : Ex)
  | augx (i : Nat) (a : Ex) (op : Operator) (e : Ex)
  | delx (i : Nat) (a : Ex)
  | ex (e : Ex)
  | ret (e : Ex)
  | ite (c : Ex) (a b : Sts)
  | whl (c : Ex) (b : Sts)
  | for (t : Tg) (it : It) (b : Sts)
  | brk | cnt | pss
  | rais (C : Str) (fs : List Str) (es : Exs)
inductive Sts where
  | nil | cons (s : St) (ss : Sts)
end

/-! ### what may be changed: slots -/
mutual
def Ex.mods : Ex → List Nat
  | .con _ => [] | .var _ => [] | .mv i => [i]
  | .bin _ a b => a.mods ++ b.mods | .neg a => a.mods
  | .cmp _ a b => a.mods ++ b.mods | .cmp2 _ _ a b c => a.mods ++ (b.mods ++ c.mods)
  | .and a b => a.mods ++ b.mods | .or a b => a.mods ++ b.mods | .not a => a.mods | .ite c a b => c.mods ++ (a.mods ++ b.mods)
  | .tup es => es.mods | .lst es => es.mods | .dic _ es => es.mods
  | .ix a i => a.mods ++ i.mods | .sl a l h => a.mods ++ (l.mods ++ h.mods)
  | .fld a _ _ => a.mods
  | .call _ es => es.mods
  | .callk _ _ es => es.mods
  | .callv _ _ es => es.mods
  | .calls _ n es => n :: es.mods
  | .new _ _ es => es.mods
  | .isi a _ => a.mods
  | .caught a _ => a.mods
  | .bi _ es => es.mods
  | .mth i _ es => i :: es.mods
  | .mthx i a _ es => i :: (a.mods ++ es.mods)
  | .comp t it c e => it.mods ++ (t.slots ++ (c.mods ++ e.mods))
  | .comp2 t it c t2 it2 c2 e => it.mods ++ (t.slots ++ (t2.slots ++ (c.mods ++ (it2.mods ++ (c2.mods ++ e.mods)))))
def Exs.mods : Exs → List Nat
  | .nil => []
  | .cons e es => e.mods ++ es.mods
def It.mods : It → List Nat
  | .on a => a.mods | .rng es => es.mods | .enu a => a.mods | .zp a b => a.mods ++ b.mods | .rv a => a.mods
end
end DL
end
section
set_option Elab.async false
set_option linter.all false
/-! D layer, 2: operations on data, the interpreter. -/
namespace DL
open PySem

/-- data of at most k levels -/
def D.lay : Nat → D → Bool
  | _, .non => true | _, .bl _ => true | _, .int _ => true | _, .str x => PyData.strOk x
  | k + 1, .tup xs => xs.all (D.lay k)
  | k + 1, .lst xs => xs.all (D.lay k)
  | _, _ => false
/-- as == compares data; a list never equals a tuple -/
def D.eqv : Nat → D → D → Bool
  | _, .non, .non => true
  | _, .bl a, .bl b => a == b
  | _, .bl a, .int j => (if a then 1 else 0) == j
  | _, .int i, .bl b => i == (if b then 1 else 0)
  | _, .int i, .int j => i == j
  | _, .str x, .str y => x == y
  | k + 1, .tup xs, .tup ys => decide (xs.length = ys.length) && (xs.zip ys).all fun p => D.eqv k p.1 p.2
  | k + 1, .lst xs, .lst ys => decide (xs.length = ys.length) && (xs.zip ys).all fun p => D.eqv k p.1 p.2
  | _, _, _ => false
abbrev DEP : Nat := 60
def D.same (x y : D) : Bool := D.eqv DEP x y
def D.okd (x : D) : Bool := D.lay DEP x

abbrev SZ : Nat := 16777216
abbrev small64 (i : Int) : Bool := decide (-(2 ^ 64) < i) && decide (i < 2 ^ 64)

def binD (op : Operator) (x y : D) : Option D := match op, x, y with
  | .Add, .int i, .int j => some (.int (i + j))
  | .Sub, .int i, .int j => some (.int (i - j))
  | .Mult, .int i, .int j => if small64 i || small64 j then some (.int (i * j)) else none
  | .FloorDiv, .int i, .int j => if decide (0 < j) && decide (j < 1073741824) then some (.int (i / j)) else none
  | .Mod, .int i, .int j => if decide (0 < j) then some (.int (i % j)) else none
  | .Pow, .int i, .int j => if decide (0 ≤ j) && decide (j ≤ 1000000) && decide (i.natAbs < 2 ^ 64) then some (.int (i ^ j.toNat)) else none
  | .Add, .str a, .str b => if a.length + b.length ≤ SZ then some (.str (a ++ b)) else none
  | .Add, .lst a, .lst b => if a.length + b.length ≤ SZ then some (.lst (a ++ b)) else none
  | .Add, .tup a, .tup b => if a.length + b.length ≤ SZ then some (.tup (a ++ b)) else none
  | .Mult, .lst a, .int k => if decide (0 ≤ k) && decide (k < 1000000) && decide (a.length * k.toNat ≤ SZ) then some (.lst (List.replicate k.toNat a).flatten) else none
  | _, _, _ => none
def D.isNon : D → Bool
  | .non => true
  | _ => false
def intsOf : List D → Option (List Int)
  | [] => some []
  | .int i :: xs => (intsOf xs).map (i :: ·)
  | _ => none
/-- the order of tuples of ints -/
def lexI : List Int → List Int → Bool
  | [], [] => false
  | [], _ :: _ => true
  | _ :: _, [] => false
  | x :: xs, y :: ys => if x = y then lexI xs ys else decide (x < y)
def cmpT (f : List Int → List Int → Bool) (xs ys : List D) : Option Bool := match intsOf xs, intsOf ys with
  | some ns, some ms => some (f ns ms)
  | _, _ => none
def cmpD (op : CmpOp) (x y : D) : Option Bool := match op, x, y with
  | .Lt, .int i, .int j => some (decide (i < j))
  | .LtE, .int i, .int j => some (decide (i ≤ j))
  | .Gt, .int i, .int j => some (decide (j < i))
  | .GtE, .int i, .int j => some (decide (j ≤ i))
  | .Lt, .tup xs, .tup ys => cmpT lexI xs ys
  | .Gt, .tup xs, .tup ys => cmpT (fun a b => lexI b a) xs ys
  | .LtE, .tup xs, .tup ys => cmpT (fun a b => !lexI b a) xs ys
  | .GtE, .tup xs, .tup ys => cmpT (fun a b => !lexI a b) xs ys
  | .Eq, x, y => if x.okd && y.okd then some (x.same y) else none
  | .NotEq, x, y => if x.okd && y.okd then some (!x.same y) else none
  | .Is, x, .non => some x.isNon
  | .Is, .bl a, .bl b => some (decide (a = b))
  | .IsNot, x, .non => some (!x.isNon)
  | .In, x, .lst ys => if x.okd && ys.all D.okd then some ((ys.any fun z => D.same z x)) else none
  | .NotIn, x, .lst ys => if x.okd && ys.all D.okd then some (!(ys.any fun z => D.same z x)) else none
  | .In, x, .tup ys => if x.okd && ys.all D.okd then some ((ys.any fun z => D.same z x)) else none
  | .NotIn, x, .tup ys => if x.okd && ys.all D.okd then some (!(ys.any fun z => D.same z x)) else none
  | _, _, _ => none
def look : List D → D → List D → Option D
  | k :: ks, x, v :: vs => if D.same k x then some v else look ks x vs
  | _, _, _ => none
def putD : List D → List D → D → D → List D × List D
  | k :: ks, v :: vs, x, y => if D.same k x then (k :: ks, y :: vs) else let r := putD ks vs x y; (k :: r.1, v :: r.2)
  | _, _, x, y => ([x], [y])
/-- int, text: a key -/
def D.key : D → Bool
  | .int _ => true | .str _ => true | _ => false
def ixD (x i : D) : Option D := match x, i with
  | .lst xs, .int k => (L2.ixN xs.length k).bind fun j => xs[j]?
  | .tup xs, .int k => (L2.ixN xs.length k).bind fun j => xs[j]?
  | .dct ks vs, k => if k.key then look ks k vs else none
  | _, _ => none
def cut {α : Type} (xs : List α) (lo hi : Option Int) : List α := (xs.drop (HT.sIx xs.length 0 lo)).take (HT.sIx xs.length xs.length hi - HT.sIx xs.length 0 lo)
/-- a part of a slice: left out, or an int -/
def partI (i : Ex) (d : D) : Option (Option Int) := match i with
  | .con .non => some none
  | _ => match d with
    | .int n => some (some n)
    | _ => none
def slP (x : D) (lo hi : Option Int) : Option D := match x with
  | .lst xs => some (.lst (cut xs lo hi))
  | .tup xs => some (.tup (cut xs lo hi))
  | _ => none
def lookF : List Str → Str → List D → Option D
  | k :: ks, x, v :: vs => if k = x then some v else lookF ks x vs
  | _, _, _ => none
def putF : List Str → List D → Str → D → List Str × List D
  | k :: ks, v :: vs, x, y => if k = x then (k :: ks, y :: vs) else let r := putF ks vs x y; (k :: r.1, v :: r.2)
  | _, _, x, y => ([x], [y])
def fldD (x : D) (C f : Str) : Option D := match x with
  | .obj C' fs vs => if C' = C then lookF fs f vs else none
  | _ => none
def blsOf : List D → Option (List Bool)
  | [] => some []
  | .bl i :: xs => (blsOf xs).map (i :: ·)
  | _ => none
def insI (x : Int) : List Int → List Int
  | [] => [x]
  | y :: ys => if x ≤ y then x :: y :: ys else y :: insI x ys
def sortI : List Int → List Int
  | [] => []
  | x :: xs => insI x (sortI xs)
def absD : List D → Option D
  | [.int i] => some (.int (if i < 0 then -i else i))
  | _ => none
def intD : List D → Option D
  | [.int i] => some (.int i)
  | _ => none
def lenD : List D → Option D
  | [.lst xs] => some (.int xs.length)
  | [.tup xs] => some (.int xs.length)
  | [.scr ns] => some (.int ns.length)
  | _ => none
def minI : List Int → Int
  | [] => 0
  | [x] => x
  | x :: xs => min x (minI xs)
def maxI : List Int → Int
  | [] => 0
  | [x] => x
  | x :: xs => max x (maxI xs)
def minD : List D → Option D
  | [.int i, .int j] => some (.int (if j < i then j else i))
  | [.lst xs] => (intsOf xs).bind fun is => if is.isEmpty then none else some (.int (minI is))
  | _ => none
def maxD : List D → Option D
  | [.int i, .int j] => some (.int (if j > i then j else i))
  | [.lst xs] => (intsOf xs).bind fun is => if is.isEmpty then none else some (.int (maxI is))
  | _ => none
def listD : List D → Option D
  | [.lst xs] => some (.lst xs)
  | [.tup xs] => some (.lst xs)
  | _ => none
def tupleD : List D → Option D
  | [.lst xs] => some (.tup xs)
  | [.tup xs] => some (.tup xs)
  | _ => none
def allD : List D → Option D
  | [.lst xs] => (blsOf xs).map fun bs => .bl (bs.all id)
  | _ => none
def anyD : List D → Option D
  | [.lst xs] => (blsOf xs).map fun bs => .bl (bs.any id)
  | _ => none
def insT (x : List Int) : List (List Int) → List (List Int)
  | [] => [x]
  | y :: ys => if lexI y x then y :: insT x ys else x :: y :: ys
def sortT : List (List Int) → List (List Int)
  | [] => []
  | x :: xs => insT x (sortT xs)
def tupI (ns : List Int) : D := .tup (ns.map .int)
/-- tuples of ints, none of them empty -/
def tupsOf : List D → Option (List (List Int))
  | [] => some []
  | .tup xs :: ds => (intsOf xs).bind fun ns => if ns.isEmpty then none else (tupsOf ds).map (ns :: ·)
  | _ => none
def sortedD : List D → Option D
  | [.lst xs] => match intsOf xs with
    | some is => some (.lst ((sortI is).map .int))
    | none => (tupsOf xs).map fun ts => .lst ((sortT ts).map tupI)
  | _ => none
/-- sorted(set(xs)), pairs of small numbers, few of them -/
def dedupT : List (List Int) → List (List Int)
  | [] => []
  | x :: xs => if xs.contains x then dedupT xs else x :: dedupT xs
def sortsetD : List D → Option D
  | [.lst xs] => (tupsOf xs).bind fun ts => if decide (ts.length < 64) && ts.all (fun t => decide (t.length = 2) && t.all fun i => decide (0 ≤ i) && decide (i < 64)) then some (.lst ((sortT (dedupT ts)).map tupI)) else none
  | _ => none
def sumD : List D → Option D
  | [.lst xs] => (intsOf xs).map fun is => .int is.sum
  | _ => none
mutual
def toPy : D → PyData
  | .non => .none | .bl b => .bool b | .int i => .int i | .str x => .str x
  | .tup xs => .tuple (toPyL xs) | .lst xs => .list (toPyL xs)
  | _ => .none
def toPyL : List D → List PyData
  | [] => []
  | x :: xs => toPy x :: toPyL xs
end
/-- what repr says of lists and tuples, of ints, texts, truths and None -/
def reprOk (d : D) : Bool := d.okd && (toPy d).showable && decide ((toPy d).shown.length ≤ SZ) && PyData.strOk (toPy d).shown
def D.isSeq : D → Bool
  | .lst _ => true
  | .tup _ => true
  | _ => false
def reprD : List D → Option D
  | [d] => if d.isSeq && reprOk d then some (.str (toPy d).shown) else none
  | _ => none
/-- list(range(..)) -/
def rng24 (a b : Int) : Bool := decide (-(2 ^ 62) ≤ a) && decide (a < 2 ^ 62) && decide (-(2 ^ 62) ≤ b) && decide (b < 2 ^ 62) && decide ((b - a).toNat ≤ 2 ^ 24)
def lrngD : List D → Option D
  | [.int b] => if rng24 0 b then some (.lst ((List.range b.toNat).map fun k : Nat => .int k)) else none
  | [.int a, .int b] => if rng24 a b then some (.lst ((List.range (b - a).toNat).map fun k : Nat => .int (a + k))) else none
  | _ => none
def biD : Bf → List D → Option D
  | .abs => absD | .int => intD | .len => lenD | .min => minD | .max => maxD | .list => listD | .tuple => tupleD | .all => allD | .any => anyD | .sorted => sortedD | .sum => sumD | .repr => reprD | .sortset => sortsetD | .lrng => lrngD
/-- a method that changes its object: the answer, the object behind it -/
def D.isLst : D → Bool
  | .lst _ => true
  | _ => false
def appendD (x : D) (xs : List D) : Option (D × D) := match x, xs with
  | .lst ys, [y] => if ys.length < SZ then some (.non, .lst (ys ++ [y])) else none
  | _, _ => none
def extendD (x : D) (xs : List D) : Option (D × D) := match x, xs with
  | .lst ys, [.lst zs] => if ys.length + zs.length ≤ SZ then some (.non, .lst (ys ++ zs)) else none
  | _, _ => none
def popD (x : D) (xs : List D) : Option (D × D) := match x, xs with
  | .lst ys, [] => (ys[ys.length - 1]?).map fun y => (y, .lst ys.dropLast)
  | .lst ys, [.int i] => (L2.ixN ys.length i).bind fun k => (ys[k]?).map fun y => (y, .lst (ys.eraseIdx k))
  | _, _ => none
def firstAt (x : D) : List D → Option Nat
  | [] => none
  | y :: ys => if D.same y x then some 0 else (firstAt x ys).map (· + 1)
def removeD (x : D) (xs : List D) : Option (D × D) := match x, xs with
  | .lst ys, [.int i] => (intsOf ys).bind fun is => (firstAt (.int i) ys).map fun k => (.non, .lst (ys.eraseIdx k))
  | _, _ => none
def mthD : Mf → D → List D → Option (D × D)
  | .append => appendD | .extend => extendD | .pop => popD | .remove => removeD | _ => fun _ _ => none
def setD (x i v : D) : Option D := match x, i with
  | .lst xs, .int k => (L2.ixN xs.length k).map fun j => .lst (xs.set j v)
  | .dct ks vs, k => if k.key && decide (ks.length < 1000000) then some (let r := putD ks vs k v; .dct r.1 r.2) else none
  | _, _ => none
/-- what a loop walks, its items -/
def itemsOf : D → Option (List D)
  | .lst xs => some xs
  | .tup xs => some xs
  | .scr ns => some (ns.map .int)
  | _ => none

/-- what is stored: own, or shared if it may be -/
def Pv.join (ps : List Pv) : Option Pv := if ps.all (· == .own) then some .own else if ps.any (fun p => match p with | .bor _ => true | _ => false) then none else some .shr
def mkR (d : D) (p : Pv) (e : Envv) : Res := .ok d (if d.imm then .own else p) e
def optR (o : Option D) (p : Pv) (e : Envv) : Res := match o with
  | some d => mkR d p e
  | none => .bad
/-- a result made of operands: its own, if nothing in it can be changed -/
def freshR (o : Option D) (e : Envv) : Res := match o with
  | some d => if d.flat then .ok d .own e else .bad
  | none => .bad
/-- a part of what stands -/
def keepR (d : D) (p : Pv) (e : Envv) : Res := if d.imm then .ok d .own e else (match p with | .own => .bad | _ => .ok d p e)
/-- what a method may be given -/
def argsOk (m : Mf) (ds : List D) (ps : List Pv) : Bool := ps.all (· == .own) || (m == .extend && ds.all D.flat)
/-- while b is evaluated, a value of p waits -/
def Pv.waits (p : Pv) (ms : List Nat) : Bool := match p with
  | .bor r => !ms.contains r
  | _ => true
def setSl (io : List Nat) (e : Envv) (i : Nat) (fr : Bool) (d : D) (p : Pv) : Option Envv := if io.contains i then none else match p with
  | .own => some (e.set i (if fr then .sh d else .ow d))
  | .shr => some (e.set i (.sh d))
  | .bor _ => none
def setTp (io : List Nat) : Envv → List Nat → List D → Option Envv
  | e, [], [] => some e
  | e, i :: is, d :: ds => if io.contains i then none else setTp io (e.set i (.sh d)) is ds
  | _, _, _ => none
def setAll (io : List Nat) : Envv → List Nat → List Bool → List D → List Pv → Option Envv
  | e, [], [], [], [] => some e
  | e, i :: is, f :: fs, d :: ds, p :: ps => match setSl io e i f d p with
    | some e1 => setAll io e1 is fs ds ps
    | none => none
  | _, _, _, _, _ => none
/-- an item comes to a target: shared -/
def setTg (io : List Nat) (e : Envv) (t : Tg) (d : D) : Option Envv := match t with
  | .nm i => if io.contains i then none else some (e.set i (.sh d))
  | .tp is => match d with
    | .tup xs => setTp io e is xs
    | _ => none
def Sl.isUn : Sl → Bool
  | .un => true
  | _ => false
def wipeS (e : Envv) : List Nat → Envv
  | [] => e
  | i :: is => (wipeS e is).set i .un
def backS (e0 e : Envv) : List Nat → Envv
  | [] => e
  | i :: is => (backS e0 e is).set i (e0.getD i .un)
/-- the own names of a comprehension may be taken away for a while -/
def wipeOk (io : List Nat) (e : Envv) (is : List Nat) : Bool := is.all fun i => !io.contains i && (match e.getD i .un with | .ow d => d.imm | _ => true)
def testR (r : Res) (f : Bool → Envv → Res) : Res := r.bind fun d _ e => match d with
  | .bl b => f b e
  | _ => .bad
def compLoop (io : List Nat) (t : Tg) (own : List Nat) (c el : Envv → Res) : List D → Envv → List D → Option (List D × Envv)
  | [], e, acc => some (acc, e)
  | d :: ds, e, acc => match setTg io e t d with
    | none => none
    | some e1 => match c e1 with
      | .ok (.bl true) _ e2 => match el e2 with
        | .ok y .own e3 => if acc.length < SZ then compLoop io t own c el ds (wipeS e3 own) (acc ++ [y]) else none
        | _ => none
      | .ok (.bl false) _ e2 => compLoop io t own c el ds (wipeS e2 own) acc
      | _ => none
def D.isTup : D → Bool
  | .tup _ => true
  | _ => false
def rngOf (a b c : Int) : List D := (List.range (if c > 0 then ((b - a + c - 1) / c).toNat else ((a - b + (-c) - 1) / (-c)).toNat)).map fun k : Nat => .int (a + c * k)
def rng62 (i : Int) : Bool := decide (-(2 ^ 62) ≤ i) && decide (i < 2 ^ 62)
def rngI (xs : List D) : Option (List D) := match xs with
  | [.int b] => if rng62 b then some ((List.range b.toNat).map fun k : Nat => .int k) else none
  | [.int a, .int b] => if rng62 a && rng62 b then some ((List.range (b - a).toNat).map fun k : Nat => .int (a + k)) else none
  | _ => none
inductive IRes where
  | ok (ds : List D) (ps : List Pv) (e : Envv) | exc (x : Xn) (e : Envv) | bad
def Res.its (r : Res) (g : D → Pv → Option (List D)) : IRes := match r with
  | .ok d p e => match g d p with
    | some ds => .ok ds [p] e
    | none => .bad
  | .exc x e => .exc x e
  | .bad => .bad
def plainIts (d : D) (p : Pv) : Option (List D) := match p with
  | .bor _ => (itemsOf d).bind fun ds => if D.immL ds then some ds else none
  | _ => itemsOf d
def Out.bind (r : Res) (f : D → Pv → Envv → Out) : Out := match r with
  | .ok d p e => f d p e
  | .exc x e => .exc x e
  | .bad => .bad
def forLoop (io : List Nat) (t : Tg) (body : Envv → Out) : List D → Envv → Out
  | [], e => .nx e
  | d :: ds, e => match setTg io e t d with
    | none => .bad
    | some e1 => match body e1 with
      | .nx e2 => forLoop io t body ds e2
      | .ct e2 => forLoop io t body ds e2
      | .bk e2 => .nx e2
      | o => o
def whileLoop (c : Envv → Res) (body : Envv → Out) : Nat → Envv → Out
  | 0, _ => .bad
  | n + 1, e => match c e with
    | .ok (.bl true) _ e1 => match body e1 with
      | .nx e2 => whileLoop c body n e2
      | .ct e2 => whileLoop c body n e2
      | .bk e2 => .nx e2
      | o => o
    | .ok (.bl false) _ e1 => .nx e1
    | .exc x e1 => .exc x e1
    | _ => .bad
def WF : Nat := 1000000000

mutual
def Sts.mods : Sts → List Nat
  | .nil => []
  | .cons s ss => s.mods ++ ss.mods
def St.mods : St → List Nat
  | .asg t _ e => e.mods ++ t.slots
  | .par is _ es => es.mods ++ is
  | .setx i a e => i :: (a.mods ++ e.mods)
  | .setxx i a b e => i :: (a.mods ++ (b.mods ++ e.mods))
  | .setf i _ _ e => i :: e.mods
  | .aug i _ e => i :: e.mods
  | .augx i a _ e => i :: (a.mods ++ e.mods)
  | .delx i a => i :: a.mods
  | .ex e => e.mods
  | .ret e => e.mods
  | .ite c a b => c.mods ++ (a.mods ++ b.mods)
  | .whl c b => c.mods ++ b.mods
  | .for t it b => it.mods ++ (t.slots ++ b.mods)
  | .brk => [] | .cnt => [] | .pss => []
  | .rais _ _ es => es.mods
end
/-- may it be set in an ow slot's place, or be an item of a new list -/
def RsL.bind (r : RsL) (f : List D → List Pv → Envv → Res) : Res := match r with
  | .ok ds ps e => f ds ps e
  | .exc x e => .exc x e
  | .bad => .bad

/-- what the text tells: its defs, which class is below which -/
structure Cb where
  call : Str → List D → FR
  sub : Bool → Str → Str → Option Bool
def isiD (sub : Bool → Str → Str → Option Bool) (d : D) (t : Ty) : Option Bool := match t with
  | .own C => (match d with
    | .obj C' _ _ => sub false C' C
    | .exn C' _ _ => sub true C' C
    | .fn _ => none
    | .scr _ => none
    | .set _ => none
    | _ => some false)
  | .err C => (match d with
    | .exn C' _ _ => sub true C' C
    | .fn _ => none
    | .scr _ => none
    | .set _ => none
    | .obj _ _ _ => none
    | _ => some false)
  | t => (match d with
    | .non => some false
    | .bl _ => some (t == .bool || t == .int)
    | .int _ => some (t == .int)
    | .str _ => some (t == .str)
    | .tup _ => some (t == .tuple)
    | .lst _ => some (t == .list)
    | .dct _ _ => some (t == .dict)
    | _ => none)
def Pv.nb : Pv → Bool
  | .bor _ => false
  | _ => true
def noBor (ps : List Pv) : Bool := ps.all Pv.nb
/-- behind a call -/
def callR (r : FR) (ps : List Pv) (e : Envv) : Res := match r with
  | .ret d .own [] => .ok d .own e
  | .ret d .shr [] => if noBor ps then .ok d .shr e else .bad
  | .exc x [] => .exc x e
  | _ => .bad
def callsR (r : FR) (n : Nat) (ps : List Pv) (e : Envv) : Res := match r with
  | .ret d .own [d1] => .ok d .own (e.set n (.ow d1))
  | .ret d .shr [d1] => if noBor ps then .ok d .shr (e.set n (.ow d1)) else .bad
  | .exc x [d1] => .exc x (e.set n (.ow d1))
  | _ => .bad
def newR (r : FR) (e : Envv) : Res := match r with
  | .ret .non .own [o] => .ok o .own e
  | .exc x [_] => .exc x e
  | _ => .bad
def permD {α : Type} (d : α) (π : List Nat) (ds : List α) : List α := π.map fun i => ds.getD i d
def permOk (π : List Nat) (n : Nat) : Bool := π.all (· < n) && decide (π.length = n)
def caughtR (sub : Bool → Str → Str → Option Bool) (C : Str) (r : Res) : Res := match r with
  | .ok _ _ e => .ok .non .own e
  | .exc x e => (match sub true x.cls C with
    | some true => .ok (.exn x.cls x.fs x.vs) .own e
    | _ => .bad)
  | .bad => .bad
def Sl.fnName : Sl → Option Str
  | .ow (.fn x) => some x
  | .sh (.fn x) => some x
  | _ => none

section
variable (io : List Nat) (cb : Cb)
mutual
def evalE : Ex → Envv → Res
  | .con d, e => .ok d .own e
  | .var i, e => match e.getD i .un with
    | .ow d => mkR d (.bor i) e
    | .sh d => mkR d .shr e
    | .un => .bad
  | .mv i, e => match e.getD i .un with
    | .ow d => if io.contains i then .bad else .ok d .own (e.set i .un)
    | .sh d => mkR d .shr e
    | .un => .bad
  | .bin op a b, e => (evalE a e).bind fun x p e1 => if p.waits b.mods then (evalE b e1).bind fun y q e2 => freshR (binD op x y) e2 else .bad
  | .neg a, e => (evalE a e).bind fun x _ e1 => match x with
    | .int i => .ok (.int (-i)) .own e1
    | _ => .bad
  | .cmp op a b, e => (evalE a e).bind fun x p e1 => if p.waits b.mods then (evalE b e1).bind fun y q e2 => freshR ((cmpD op x y).map .bl) e2 else .bad
  | .cmp2 o1 o2 a b c, e => (evalE a e).bind fun x p e1 => if p.waits b.mods then (evalE b e1).bind fun y q e2 => match cmpD o1 x y with
      | some true => if q.waits c.mods then (evalE c e2).bind fun z r e3 => freshR ((cmpD o2 y z).map .bl) e3 else .bad
      | some false => .ok (.bl false) .own e2
      | none => .bad else .bad
  | .and a b, e => testR (evalE a e) fun k e1 => if k then testR (evalE b e1) fun k e2 => .ok (.bl k) .own e2 else .ok (.bl false) .own e1
  | .or a b, e => testR (evalE a e) fun k e1 => if k then .ok (.bl true) .own e1 else testR (evalE b e1) fun k e2 => .ok (.bl k) .own e2
  | .not a, e => testR (evalE a e) fun k e1 => .ok (.bl !k) .own e1
  | .ite c a b, e => testR (evalE c e) fun k e1 => if k then evalE a e1 else evalE b e1
  | .tup es, e => (evalEs es e).bind fun ds ps e1 => if D.immL ds then .ok (.tup ds) .own e1 else .bad
  | .lst es, e => (evalEs es e).bind fun ds ps e1 => if ps.all (· == .own) then .ok (.lst ds) .own e1 else .bad
  | .dic ks es, e => (evalEs es e).bind fun ds ps e1 => if ps.all (· == .own) && decide (ks.length = ds.length) then .ok (.dct ks ds) .own e1 else .bad
  | .ix a i, e => (evalE a e).bind fun x p e1 => if p.waits i.mods then (evalE i e1).bind fun y q e2 => match ixD x y with
      | some d => keepR d p e2
      | none => .bad else .bad
  | .sl a l h, e => (evalE a e).bind fun x p e1 => if p.waits (l.mods ++ h.mods) then (evalE l e1).bind fun y _ e2 => match partI l y with
      | none => .bad
      | some lo => (evalE h e2).bind fun z _ e3 => match partI h z with
        | none => .bad
        | some hi => freshR (slP x lo hi) e3 else .bad
  | .fld a C f, e => (evalE a e).bind fun x p e1 => match fldD x C f with
      | some d => keepR d p e1
      | none => .bad
  | .call f es, e => (evalEs es e).bind fun ds ps e1 => callR (cb.call f ds) ps e1
  | .callk f π es, e => (evalEs es e).bind fun ds ps e1 => if permOk π ds.length then callR (cb.call f (permD .non π ds)) ps e1 else .bad
  | .callv i fs es, e => match (e.getD i .un).fnName with
    | some f => if es.mods.contains i || !(fs.contains f) then .bad else (evalEs es e).bind fun ds ps e1 => callR (cb.call f ds) ps e1
    | none => .bad
  | .calls f n es, e => if (e.getD n .un).isUn then .bad else (evalEs es e).bind fun ds ps e1 => if ps.all (· != .bor n) then (match e1.getD n .un with
      | .ow d0 => callsR (cb.call f (d0 :: ds)) n ps e1
      | _ => .bad) else .bad
  | .new C π es, e => (evalEs es e).bind fun ds ps e1 => if permOk π ds.length then newR (cb.call C (.obj C [] [] :: permD .non π ds)) e1 else .bad
  | .isi a t, e => (evalE a e).bind fun d _ e1 => match isiD cb.sub d t with
    | some b => .ok (.bl b) .own e1
    | none => .bad
  | .caught a C, e => caughtR cb.sub C (evalE a e)
  | .bi f es, e => (evalEs es e).bind fun ds ps e1 => freshR (biD f ds) e1
  | .mth i m es, e => match e.getD i .un with
    | .ow x => if !x.isLst || (es.mods).contains i then .bad else (evalEs es e).bind fun ds ps e1 => if argsOk m ds ps then (match mthD m x ds with
        | some (y, x') => .ok y .own (e1.set i (.ow x'))
        | none => .bad) else .bad
    | _ => .bad
  | .mthx i a m es, e => match e.getD i .un with
    | .ow x => if (a.mods ++ es.mods).contains i then .bad else (evalE a e).bind fun k q e1 => if q == .own then (match ixD x k with
      | some y => if !y.isLst then .bad else (evalEs es e1).bind fun ds ps e2 => if argsOk m ds ps then (match mthD m y ds with
        | some (z, y') => match setD x k y' with
          | some x' => .ok z .own (e2.set i (.ow x'))
          | none => .bad
        | none => .bad) else .bad
      | none => .bad) else .bad
    | _ => .bad
  | .comp t it c el, e => match evalI it e with
    | .ok ds ps e1 => if wipeOk io e1 t.slots && ps.all (·.waits (t.slots ++ (c.mods ++ el.mods))) then (match compLoop io t t.slots (evalE c) (evalE el) ds (wipeS e1 t.slots) [] with
      | some (acc, e2) => .ok (.lst acc) .own (backS e1 e2 t.slots)
      | none => .bad) else .bad
    | .exc x e1 => .exc x e1
    | .bad => .bad
  | _, _ => .bad
def evalEs : Exs → Envv → RsL
  | .nil, e => .ok [] [] e
  | .cons a es, e => match evalE a e with
    | .ok d p e1 => if p.waits es.mods then (match evalEs es e1 with
      | .ok ds ps e2 => .ok (d :: ds) (p :: ps) e2
      | r => r) else .bad
    | .exc x e1 => .exc x e1
    | .bad => .bad
def evalI : It → Envv → IRes
  | .on a, e => (evalE a e).its plainIts
  | .rng es, e => match evalEs es e with
    | .ok ds _ e1 => match rngI ds with
      | some xs => .ok xs [] e1
      | none => .bad
    | .exc x e1 => .exc x e1
    | .bad => .bad
  | .enu a, e => (evalE a e).its fun d p => (plainIts d p).map fun ds => ds.zipIdx.map fun q => .tup [.int q.2, q.1]
  | .zp a b, e => match evalE a e with
    | .ok x p e1 => if p.waits b.mods then (match evalE b e1 with
      | .ok y q e2 => (match plainIts x p, plainIts y q with
        | some xs, some ys => if x.isTup == y.isTup then .ok (List.zipWith (fun a b => .tup [a, b]) xs ys) [p, q] e2 else .bad
        | _, _ => .bad)
      | .exc x e2 => .exc x e2
      | .bad => .bad) else .bad
    | .exc x e1 => .exc x e1
    | .bad => .bad
  | .rv a, e => (evalE a e).its fun d p => (plainIts d p).map List.reverse
end
mutual
def exec : St → Envv → Out
  | .asg t fr a, e => Out.bind (evalE io cb a e) fun d p e1 => match t with
    | .nm i => (match setSl io e1 i fr d p with | some e2 => .nx e2 | none => .bad)
    | t => (match p with
      | .bor _ => .bad
      | _ => (match setTg io e1 t d with | some e2 => .nx e2 | none => .bad))
  | .par is frs es, e => match evalEs io cb es e with
    | .ok ds ps e1 => (match setAll io e1 is frs ds ps with | some e2 => .nx e2 | none => .bad)
    | .exc x e1 => .exc x e1
    | .bad => .bad
  | .setx i a v, e => Out.bind (evalE io cb v e) fun d p e1 => if p == .own && !(a.mods.contains i) && !(e1.getD i .un).isUn then Out.bind (evalE io cb a e1) fun k _ e2 => (match e2.getD i .un with
      | .ow x => (match setD x k d with | some x' => .nx (e2.set i (.ow x')) | none => .bad)
      | _ => .bad) else .bad
  | .setxx i a b v, e => Out.bind (evalE io cb v e) fun d p e1 => if p == .own && !((a.mods ++ b.mods).contains i) && !(e1.getD i .un).isUn then Out.bind (evalE io cb a e1) fun k _ e2 => (match e2.getD i .un with
      | .ow x => (match ixD x k with
        | some y => Out.bind (evalE io cb b e2) fun l _ e3 => (match setD y l d with
          | some y' => (match setD x k y' with | some x' => .nx (e3.set i (.ow x')) | none => .bad)
          | none => .bad)
        | none => .bad)
      | _ => .bad) else .bad
  | .setf i C' f v, e => Out.bind (evalE io cb v e) fun d p e1 => if p == .own then (match e1.getD i .un with
      | .ow (.obj C fs vs) => if decide (C' = C) && decide (fs.length < 1000) then .nx (e1.set i (.ow (let r := putF fs vs f d; .obj C r.1 r.2))) else .bad
      | _ => .bad) else .bad
  | .aug i op v, e => (match e.getD i .un with
      | .sh x => Out.bind (evalE io cb v e) fun d _ e1 => (match x, binD op x d with
        | .int _, some y => if io.contains i then .bad else .nx (e1.set i (.sh y))
        | _, _ => .bad)
      | .ow x => Out.bind (evalE io cb v e) fun d _ e1 => (match x, binD op x d with
        | .int _, some y => if io.contains i then .bad else .nx (e1.set i (.ow y))
        | _, _ => .bad)
      | .un => .bad)
  | .ex a, e => Out.bind (evalE io cb a e) fun _ _ e1 => .nx e1
  | .ret a, e => Out.bind (evalE io cb a e) fun d p e1 => (match p with | .bor _ => .bad | p => .rt d p e1)
  | .ite c a b, e => Out.bind (evalE io cb c e) fun d _ e1 => (match d with
    | .bl true => execs a e1
    | .bl false => execs b e1
    | _ => .bad)
  | .whl c b, e => whileLoop (evalE io cb c) (execs b) WF e
  | .for t it b, e => match evalI io cb it e with
    | .ok ds ps e1 => if ps.all (·.waits (t.slots ++ b.mods)) then forLoop io t (execs b) ds e1 else .bad
    | .exc x e1 => .exc x e1
    | .bad => .bad
  | .brk, e => .bk e
  | .cnt, e => .ct e
  | .pss, e => .nx e
  | .rais C fs es, e => match evalEs io cb es e with
    | .ok ds _ e1 => if fs = [] then .exc ⟨C, [], []⟩ e1 else if D.immL ds && decide (fs.length = ds.length) then .exc ⟨C, fs, ds⟩ e1 else .bad
    | .exc x e1 => .exc x e1
    | .bad => .bad
  | _, _ => .bad
def execs : Sts → Envv → Out
  | .nil, e => .nx e
  | .cons s ss, e => match exec s e with
    | .nx e1 => execs ss e1
    | o => o
end
end
/-- a def -/
structure Fnc where
  np : Nat
  nl : Nat
  io : Bool
  body : Sts
abbrev Fnc.ios (fn : Fnc) : List Nat := if fn.io then [0] else []
def iosOf (e : Envv) : List Nat → Option (List D)
  | [] => some []
  | i :: is => match e.getD i .un with
    | .ow d => (iosOf e is).map (d :: ·)
    | _ => none
def enter (fn : Fnc) (ds : List D) : Envv := (if fn.io then (match ds with | [] => [] | d :: dr => .ow d :: dr.map .sh) else ds.map .sh) ++ List.replicate (fn.nl - fn.np) Sl.un
def retR (d : D) (p : Pv) (o : Option (List D)) : FR := match p with
  | .bor _ => .bad
  | .own => (match o with | some ios => .ret d .own ios | none => .bad)
  | .shr => (match o with | some ios => .ret d .shr ios | none => .bad)
def finish (fn : Fnc) (o : Out) : FR := match o with
  | .rt d p e => retR d p (iosOf e fn.ios)
  | .nx e => match iosOf e fn.ios with | some ios => .ret .non .own ios | none => .bad
  | .exc x e => match iosOf e fn.ios with | some ios => .exc x ios | none => .bad
  | _ => .bad
def runF (cb : Cb) (fn : Fnc) (ds : List D) : FR := if ds.length = fn.np then finish fn (execs fn.ios cb fn.body (enter fn ds)) else .bad
/-- a text: its defs, its classes -/
structure Txt where
  fn : Str → Option Fnc
  sub : Bool → Str → Str → Option Bool
def callF (GamZ : Txt) : Nat → Str → List D → FR
  | 0, _, _ => .bad
  | n + 1, f, ds => match GamZ.fn f with
    | some fn => runF ⟨callF GamZ n, GamZ.sub⟩ fn ds
    | none => .bad
end DL
end
section
set_option Elab.async false
set_option linter.all false
set_option maxRecDepth 100000
/-! D layer, 3: how the abstract heap of HandS bears data. -/
namespace DL
open PySem PySem.Spec PyProof.Rows L2

def keyD : Key → D
  | .inl i => .int i
  | .inr x => .str x
/-- a list that is never changed: the script, or one of the module's own -/
def FzL (K : PySem.W.Frag) (H : Hp) (a : Addr) (vs : List V) : Prop := (∃ o, H a = some (.frz o (.lst vs))) ∨
    ∃ (o : Obj) (its : Array Value) (n : Nat), K.lookup a = some o ∧ o.cls = .type "list" ∧ o.dict = none ∧ o.data = .seq its n ∧ its.size ≤ sizeLine ∧ Vals vs its.toList
theorem FzL.sq {K : PySem.W.Frag} {H : Hp} {a : Addr} {vs : List V} (h : FzL K H a vs) : SqL K H a vs := by
  rcases h with ⟨o, h⟩ | h
  · exact .inl (.inr ⟨o, h⟩)
  · exact .inr h
/-- what can be changed -/
def Mt : Option HO → Prop
  | some (.lst _) => True
  | some (.dK _) => True
  | some (.dT _) => True
  | some (.set _ _) => True
  | some (.ins _ _ _) => True
  | _ => False
/-- all but the tables -/
def Live (o : Option HO) : Prop := o ≠ none ∧ ∀ ps, o ≠ some (.tbl ps)
theorem Mt.live {o : Option HO} (h : Mt o) : Live o := ⟨fun e => by subst e; exact h, fun ps e => by subst e; exact h⟩
/-- an exception's object, whatever flight it made -/
def ExP (c : Value) (dd : Option Addr) (a : Addr) (h : Heap) : Prop := ∃ oe vs, h.get? a = some oe ∧ Zc c dd oe ∧ oe.data = .fields vs
mutual
def Rp (K : PySem.W.Frag) (mg : Str → Option Value) (H : Hp) : D → V → List Addr → Prop
  | .non, v, fp => v = .non ∧ fp = []
  | .bl b, v, fp => v = .bl b ∧ fp = []
  | .int i, v, fp => v = .int i ∧ fp = []
  | .str x, v, fp => v = .str x ∧ fp = []
  | .tup ds, v, fp => ∃ a vs, v = .ref a ∧ SqT K H a vs ∧ RpL K mg H ds vs fp
  | .lst ds, v, fp => ∃ a vs fq, v = .ref a ∧ H a = some (.lst vs) ∧ fp = a :: fq ∧ RpL K mg H ds vs fq
  | .scr ns, v, fp => ∃ a, v = .ref a ∧ FzL K H a (ns.map .int) ∧ fp = []
  | .dct ks xs, v, fp => ∃ a kvs fq, v = .ref a ∧ H a = some (.dK kvs) ∧ fp = a :: fq ∧ kvs.map (fun p => keyD p.1) = ks ∧ RpL K mg H xs (kvs.map (·.2)) fq
  | .obj C fs xs, v, fp => ∃ a c dx gs fq, v = .ref a ∧ mg C = some (.ref c) ∧ H a = some (.ins c dx gs) ∧ fp = a :: fq ∧ gs.map (·.1) = fs ∧ RpL K mg H xs (gs.map (·.2)) fq
  | .fn x, v, fp => ∃ f, v = .ref f ∧ mg x = some (.ref f) ∧ fp = []
  | .exn C fs xs, v, fp => ∃ a c dd φ, v = .ref a ∧ mg C = some (.ref c) ∧ H a = some (.ext φ) ∧ (∀ h, φ h → ExP (.ref c) dd a h) ∧ fp = [] ∧
      ((fs = [] ∧ xs = [] ∧ dd = none) ∨ ∃ d gs, dd = some d ∧ H d = some (.xd gs) ∧ gs.map (·.1) = fs ∧ RpL K mg H xs (gs.map (·.2)) [])
  | .set _, _, _ => False
def RpL (K : PySem.W.Frag) (mg : Str → Option Value) (H : Hp) : List D → List V → List Addr → Prop
  | [], vs, fp => vs = [] ∧ fp = []
  | d :: ds, vs, fp => ∃ v vr f1 f2, vs = v :: vr ∧ fp = f1 ++ f2 ∧ Rp K mg H d v f1 ∧ RpL K mg H ds vr f2
end

/-- tuples and what is locked stay -/
structure Keep (H H' : Hp) : Prop where
  all : ∀ b o, H b = some o → ¬ Mt (some o) → (∀ ps, o ≠ .tbl ps) → H' b = some o
theorem Keep.tup {H H' : Hp} (k : Keep H H') : ∀ b xs, H b = some (.tup xs) → H' b = some (.tup xs) := fun b xs e => k.all b _ e (fun z => z) fun _ z => by cases z
theorem Keep.frz {H H' : Hp} (k : Keep H H') : ∀ b o u, H b = some (.frz o u) → H' b = some (.frz o u) := fun b o u e => k.all b _ e (fun z => z) fun _ z => by cases z
theorem Keep.ext {H H' : Hp} (k : Keep H H') : ∀ b φ, H b = some (.ext φ) → H' b = some (.ext φ) := fun b φ e => k.all b _ e (fun z => z) fun _ z => by cases z
theorem Keep.xd {H H' : Hp} (k : Keep H H') : ∀ b gs, H b = some (.xd gs) → H' b = some (.xd gs) := fun b gs e => k.all b _ e (fun z => z) fun _ z => by cases z
theorem Keep.refl (H : Hp) : Keep H H := ⟨fun _ _ h _ _ => h⟩
theorem Keep.trans {H H1 H2 : Hp} (a : Keep H H1) (b : Keep H1 H2) : Keep H H2 := ⟨fun c o h n t => b.all c o (a.all c o h n t) n t⟩
theorem Keep.of {H H' : Hp} (h : ∀ b o, H b = some o → ¬ Mt (some o) → H' b = some o) : Keep H H' := ⟨fun b o e n _ => h b o e n⟩
theorem Keep.sqT {K : PySem.W.Frag} {H H' : Hp} {a : Addr} {xs : List V} (k : Keep H H') (h : SqT K H a xs) : SqT K H' a xs := by
  rcases h with (h | ⟨o, h⟩) | h
  · exact .inl (.inl (k.tup _ _ h))
  · exact .inl (.inr ⟨o, k.frz _ _ _ h⟩)
  · exact .inr h
theorem Keep.fz {K : PySem.W.Frag} {H H' : Hp} {a : Addr} {xs : List V} (k : Keep H H') (h : FzL K H a xs) : FzL K H' a xs := by
  rcases h with ⟨o, h⟩ | h
  · exact .inl ⟨o, k.frz _ _ _ h⟩
  · exact .inr h

theorem _root_.LamX.Tabs.ext2 {T : List (Addr × Str)} {H H' : Hp} (t : LamX.Tabs T H) (k : Keep H H') (h : ∀ b ps, H b = some (.tbl ps) → H' b = some (.tbl ps)) : LamX.Tabs T H' := fun p hp => by
  obtain ⟨ps, h1, h2, h3⟩ := t p hp
  exact ⟨ps, h _ _ h1, h2, fun pos cv hc => let ⟨c, e, q⟩ := h3 pos cv hc; ⟨c, e, k.ext _ _ q⟩⟩
section
variable {K : PySem.W.Frag} {mg : Str → Option Value} {H H' : Hp}
mutual
theorem Rp.stay (k : Keep H H') : ∀ (d : D) {v : V} {fp : List Addr}, (∀ a ∈ fp, H' a = H a) → Rp K mg H d v fp → Rp K mg H' d v fp
  | .non, _, _, _, r => r
  | .bl _, _, _, _, r => r
  | .int _, _, _, _, r => r
  | .str _, _, _, _, r => r
  | .fn _, _, _, _, r => r
  | .exn C fs xs, v, fp, h, r => by
    obtain ⟨a, c, dd, φ, e, m, q, hφ, rfl, r⟩ := r
    refine ⟨a, c, dd, φ, e, m, k.ext _ _ q, hφ, rfl, ?_⟩
    rcases r with r | ⟨d, gs, e1, q1, ek, r⟩
    · exact .inl r
    · exact .inr ⟨d, gs, e1, k.xd _ _ q1, ek, RpL.stay k xs (by simp) r⟩
  | .set _, _, _, _, r => r
  | .tup ds, v, fp, h, r => by
    obtain ⟨a, vs, e, q, r⟩ := r
    exact ⟨a, vs, e, k.sqT q, RpL.stay k ds h r⟩
  | .lst ds, v, fp, h, r => by
    obtain ⟨a, vs, fq, e, q, rfl, r⟩ := r
    exact ⟨a, vs, fq, e, (h a (by simp)).trans q, rfl, RpL.stay k ds (fun b hb => h b (List.mem_cons_of_mem _ hb)) r⟩
  | .scr ns, v, fp, h, r => by
    obtain ⟨a, e, q, r⟩ := r
    exact ⟨a, e, k.fz q, r⟩
  | .dct ks xs, v, fp, h, r => by
    obtain ⟨a, kvs, fq, e, q, rfl, ek, r⟩ := r
    exact ⟨a, kvs, fq, e, (h a (by simp)).trans q, rfl, ek, RpL.stay k xs (fun b hb => h b (List.mem_cons_of_mem _ hb)) r⟩
  | .obj C fs xs, v, fp, h, r => by
    obtain ⟨a, c, dx, gs, fq, e, m, q, rfl, ek, r⟩ := r
    exact ⟨a, c, dx, gs, fq, e, m, (h a (by simp)).trans q, rfl, ek, RpL.stay k xs (fun b hb => h b (List.mem_cons_of_mem _ hb)) r⟩
theorem RpL.stay (k : Keep H H') : ∀ (ds : List D) {vs : List V} {fp : List Addr}, (∀ a ∈ fp, H' a = H a) → RpL K mg H ds vs fp → RpL K mg H' ds vs fp
  | [], _, _, _, r => r
  | d :: ds, vs, fp, h, r => by
    obtain ⟨v, vr, f1, f2, e, rfl, r1, r2⟩ := r
    exact ⟨v, vr, f1, f2, e, rfl, Rp.stay k d (fun a ha => h a (List.mem_append_left _ ha)) r1, RpL.stay k ds (fun a ha => h a (List.mem_append_right _ ha)) r2⟩
end
mutual
theorem Rp.imm : ∀ (d : D) {v : V} {fp : List Addr}, d.imm = true → Rp K mg H d v fp → fp = []
  | .non, _, _, _, r => r.2
  | .bl _, _, _, _, r => r.2
  | .int _, _, _, _, r => r.2
  | .str _, _, _, _, r => r.2
  | .fn _, _, _, _, r => let ⟨_, _, _, e⟩ := r; e
  | .exn _ _ _, _, _, _, r => let ⟨_, _, _, _, _, _, _, _, e, _⟩ := r; e
  | .set _, _, _, _, r => r.elim
  | .scr _, _, _, _, r => let ⟨_, _, _, e⟩ := r; e
  | .tup ds, v, fp, h, r => by
    obtain ⟨a, vs, e, q, r⟩ := r
    exact RpL.imm ds h r
  | .lst ds, v, fp, h, r => by simp [D.imm] at h
  | .dct ks xs, v, fp, h, r => by simp [D.imm] at h
  | .obj C fs xs, v, fp, h, r => by simp [D.imm] at h
theorem RpL.imm : ∀ (ds : List D) {vs : List V} {fp : List Addr}, D.immL ds = true → RpL K mg H ds vs fp → fp = []
  | [], _, _, _, r => r.2
  | d :: ds, vs, fp, h, r => by
    obtain ⟨v, vr, f1, f2, e, rfl, r1, r2⟩ := r
    have h' : (D.imm d && D.immL ds) = true := h
    obtain ⟨h1, h2⟩ := Bool.and_eq_true_iff.mp h'
    rw [Rp.imm d h1 r1, RpL.imm ds h2 r2]
    rfl
end
theorem RpL.length : ∀ {ds : List D} {vs : List V} {fp : List Addr}, RpL K mg H ds vs fp → vs.length = ds.length
  | [], _, _, r => by rw [r.1] <;> rfl
  | d :: ds, vs, fp, r => by
    obtain ⟨v, vr, f1, f2, rfl, rfl, r1, r2⟩ := r
    simp [RpL.length r2]
theorem RpL.get : ∀ {ds : List D} {vs : List V} {fp : List Addr} {i : Nat} {d : D}, RpL K mg H ds vs fp → ds[i]? = some d → ∃ v fq, vs[i]? = some v ∧ Rp K mg H d v fq ∧ ∀ a ∈ fq, a ∈ fp
  | [], _, _, _, _, _, e => by simp at e
  | d :: ds, vs, fp, 0, d', r, e => by
    obtain ⟨v, vr, f1, f2, rfl, rfl, r1, r2⟩ := r
    have e : d = d' := by simpa using e
    subst e
    exact ⟨v, f1, rfl, r1, fun a ha => List.mem_append_left _ ha⟩
  | d :: ds, vs, fp, i + 1, d', r, e => by
    obtain ⟨v, vr, f1, f2, rfl, rfl, r1, r2⟩ := r
    obtain ⟨u, fq, e1, r3, hs⟩ := RpL.get (i := i) r2 (by simpa using e)
    exact ⟨u, fq, by simpa using e1, r3, fun a ha => List.mem_append_right _ (hs a ha)⟩
theorem RpL.app : ∀ {ds es : List D} {vs ws : List V} {fp fq : List Addr}, RpL K mg H ds vs fp → RpL K mg H es ws fq → RpL K mg H (ds ++ es) (vs ++ ws) (fp ++ fq)
  | [], _, _, _, _, _, r, s => by
    obtain ⟨rfl, rfl⟩ := r
    exact s
  | d :: ds, es, vs, ws, fp, fq, r, s => by
    obtain ⟨v, vr, f1, f2, rfl, rfl, r1, r2⟩ := r
    exact ⟨v, vr ++ ws, f1, f2 ++ fq, rfl, by simp, r1, RpL.app r2 s⟩
theorem RpL.one {d : D} {v : V} {fp : List Addr} (r : Rp K mg H d v fp) : RpL K mg H [d] [v] fp := ⟨v, [], fp, [], rfl, by simp, r, rfl, rfl⟩
/-- parts of a list without footprint -/
theorem RpL.nofp : ∀ {ds : List D} {vs : List V}, RpL K mg H ds vs [] → ∀ {i : Nat} {d : D} {v : V}, ds[i]? = some d → vs[i]? = some v → Rp K mg H d v []
  | ds, vs, r, i, d, v, e, e' => by
    obtain ⟨u, fq, e1, r1, hs⟩ := r.get e
    rw [e1] at e'
    cases e'
    have : fq = [] := by
      cases fq with
      | nil => rfl
      | cons a l => exact absurd (hs a (by simp)) (by simp)
    subst this
    exact r1
theorem RpL.all (ds : List D) (vs : List V) (hl : vs.length = ds.length) (h : ∀ (i : Nat) (d : D) (v : V), ds[i]? = some d → vs[i]? = some v → Rp K mg H d v []) : RpL K mg H ds vs [] := by
  induction ds generalizing vs with
  | nil => exact ⟨List.eq_nil_of_length_eq_zero (by simpa using hl), rfl⟩
  | cons d ds ih =>
    cases vs with
    | nil => simp at hl
    | cons v vs => exact ⟨v, vs, [], [], rfl, rfl, h 0 d v rfl rfl, ih vs (by simpa using hl) fun i d' v' e e' => h (i + 1) d' v' (by simpa using e) (by simpa using e')⟩
end

/-! ### the environment -/
/-- a waiting value -/
def Tmp (K : PySem.W.Frag) (mg : Str → Option Value) (H : Hp) (Sh : Addr → Prop) (F : List (List Addr)) (p : Pv) (d : D) (v : V) : Prop :=
  match p with
  | .own => ∃ fp, Rp K mg H d v fp ∧ fp.Nodup ∧ ∀ a ∈ fp, Mt (H a) ∧ ¬ Sh a ∧ a ∉ F.flatten
  | .shr => ∃ fp, Rp K mg H d v fp ∧ ∀ a ∈ fp, Sh a
  | .bor r => ∃ fp, Rp K mg H d v fp ∧ ∀ a ∈ fp, a ∈ F.getD r []

/-- what is common to a def's run: the slots of parameters that are changed; the tables of code objects -/
structure Io where
  l : List (Nat × V)
  T : List (Addr × Str)
structure Rel (ioT : Io) (K : PySem.W.Frag) (mg : Str → Option Value) (σ : L2.St) (H : Hp) (Sh : Addr → Prop) (F : List (List Addr)) (e : Envv) : Prop where
  le : e.length = σ.length
  lF : F.length = σ.length
  ow : ∀ i d, e.getD i .un = .ow d → ∃ v, σ[i]? = some (some v) ∧ Rp K mg H d v (F.getD i [])
  sh : ∀ i d, e.getD i .un = .sh d → ∃ v fp, σ[i]? = some (some v) ∧ Rp K mg H d v fp ∧ ∀ a ∈ fp, Sh a
  nd : F.flatten.Nodup
  mu : ∀ a ∈ F.flatten, Mt (H a) ∧ ¬ Sh a
  sa : ∀ a, Sh a → Live (H a)
  io : ∀ p ∈ ioT.l, σ[p.1]? = some (some p.2)
  tb : LamX.Tabs ioT.T H

structure Stp (ms : List Nat) (H : Hp) (Sh : Addr → Prop) (F : List (List Addr)) (e : Envv) (H' : Hp) (Sh' : Addr → Prop) (F' : List (List Addr)) (e' : Envv) : Prop where
  kp : ∀ a, Live (H a) → a ∉ F.flatten → H' a = H a
  al : ∀ a, H a ≠ none → H' a ≠ none
  fs : ∀ a ∈ F'.flatten, a ∈ F.flatten ∨ H a = none
  ss : ∀ a, Sh a → Sh' a
  sn : ∀ a, Sh' a → Sh a ∨ a ∈ F.flatten ∨ H a = none
  fr : ∀ i, i ∉ ms → e'.getD i .un = e.getD i .un ∧ F'.getD i [] = F.getD i [] ∧ ∀ a ∈ F.getD i [], H' a = H a

theorem mem_getD {F : List (List Addr)} {i : Nat} {a : Addr} (h : a ∈ F.getD i []) : a ∈ F.flatten := by
  rw [List.getD_eq_getElem?_getD] at h
  cases e : F[i]? with
  | none => rw [e] at h; simp at h
  | some l =>
    rw [e] at h
    exact List.mem_flatten.mpr ⟨l, List.mem_of_getElem? e, h⟩
theorem mut_ne {o : Option HO} (h : Mt o) : o ≠ none := by
  intro e
  subst e
  exact h
section
variable {io : Io} {K : PySem.W.Frag} {mg : Str → Option Value} {σ : L2.St} {H H' H2 : Hp} {Sh Sh' Sh2 : Addr → Prop} {F F' F2 : List (List Addr)} {e e' e2 : Envv} {ms ms2 : List Nat}
theorem Stp.refl : Stp ms H Sh F e H Sh F e := ⟨fun _ _ _ => rfl, fun _ h => h, fun a h => .inl h, fun _ h => h, fun _ h => .inl h, fun _ _ => ⟨rfl, rfl, fun _ _ => rfl⟩⟩
theorem Stp.trans (a : Stp ms H Sh F e H' Sh' F' e') (b : Stp ms2 H' Sh' F' e' H2 Sh2 F2 e2) : Stp (ms ++ ms2) H Sh F e H2 Sh2 F2 e2 where
  kp := fun c h1 h2 => by
    have n : c ∉ F'.flatten := fun z => (a.fs c z).elim h2 h1.1
    exact (b.kp c (by rw [a.kp c h1 h2]; exact h1) n).trans (a.kp c h1 h2)
  al := fun c h => b.al c (a.al c h)
  fs := fun c h => by
    rcases b.fs c h with z | z
    · exact a.fs c z
    · by_cases q : H c = none
      · exact .inr q
      · exact absurd z (a.al c q)
  ss := fun c h => b.ss c (a.ss c h)
  sn := fun c h => by
    rcases b.sn c h with z | z | z
    · exact a.sn c z
    · exact .inr (a.fs c z)
    · by_cases q : H c = none
      · exact .inr (.inr q)
      · exact absurd z (a.al c q)
  fr := fun i hi => by
    obtain ⟨h1, h2⟩ := not_or.mp (fun z => hi (List.mem_append.mpr z))
    obtain ⟨a1, a2, a3⟩ := a.fr i h1
    obtain ⟨b1, b2, b3⟩ := b.fr i h2
    exact ⟨b1.trans a1, b2.trans a2, fun c hc => (b3 c (by rw [a2]; exact hc)).trans (a3 c hc)⟩
theorem Stp.mono (a : Stp ms H Sh F e H' Sh' F' e') (h : ∀ i ∈ ms, i ∈ ms2) : Stp ms2 H Sh F e H' Sh' F' e' :=
  ⟨a.kp, a.al, a.fs, a.ss, a.sn, fun i hi => a.fr i fun z => hi (h i z)⟩
theorem Stp.keep (a : Stp ms H Sh F e H' Sh' F' e') (m : ∀ a ∈ F.flatten, Mt (H a) ∧ ¬ Sh a) : Keep H H' := .mk fun b o q n t => (a.kp b (by rw [q]; exact ⟨(fun z => Option.some_ne_none _ z), (fun ps z => t ps (Option.some.inj z))⟩) fun z => n (by rw [← q]; exact (m b z).1)).trans q
/-- a waiting value waits on -/
theorem Tmp.step {p : Pv} {d : D} {v : V} (t : Tmp K mg H Sh F p d v) (m : ∀ a ∈ F.flatten, Mt (H a) ∧ ¬ Sh a) (sa : ∀ a, Sh a → Live (H a)) (s : Stp ms H Sh F e H' Sh' F' e') (w : p.waits ms = true) : Tmp K mg H' Sh' F' p d v := by
  have k := s.keep m
  cases p with
  | own =>
    obtain ⟨fp, r, nd, hf⟩ := t
    have eq : ∀ a ∈ fp, H' a = H a := fun a ha => s.kp a (hf a ha).1.live (hf a ha).2.2
    refine ⟨fp, r.stay k _ eq, nd, fun a ha => ⟨by rw [eq a ha]; exact (hf a ha).1, fun z => ?_, fun z => ?_⟩⟩
    · rcases s.sn a z with q | q | q
      · exact (hf a ha).2.1 q
      · exact (hf a ha).2.2 q
      · exact mut_ne (hf a ha).1 q
    · rcases s.fs a z with q | q
      · exact (hf a ha).2.2 q
      · exact mut_ne (hf a ha).1 q
  | shr =>
    obtain ⟨fp, r, hf⟩ := t
    exact ⟨fp, r.stay k _ fun a ha => s.kp a (sa a (hf a ha)) fun z => (m a z).2 (hf a ha), fun a ha => s.ss a (hf a ha)⟩
  | bor q =>
    obtain ⟨fp, r, hf⟩ := t
    have hq : q ∉ ms := fun z => by
      have w' : (!ms.contains q) = true := w
      simp [z] at w'
    obtain ⟨_, h2, h3⟩ := s.fr q hq
    exact ⟨fp, r.stay k _ fun a ha => h3 a (hf a ha), fun a ha => by rw [h2]; exact hf a ha⟩
theorem Rel.keep (R : Rel io K mg σ H Sh F e) (s : Stp ms H Sh F e H' Sh' F' e') : Keep H H' := s.keep R.mu
theorem Rel.tmp (R : Rel io K mg σ H Sh F e) {p : Pv} {d : D} {v : V} (t : Tmp K mg H Sh F p d v) (s : Stp ms H Sh F e H' Sh' F' e') (w : p.waits ms = true) : Tmp K mg H' Sh' F' p d v := t.step R.mu R.sa s w
theorem Tmp.rp {p : Pv} {d : D} {v : V} (t : Tmp K mg H Sh F p d v) : ∃ fp, Rp K mg H d v fp := by
  cases p with
  | own => exact ⟨t.choose, t.choose_spec.1⟩
  | shr => exact ⟨t.choose, t.choose_spec.1⟩
  | bor q => exact ⟨t.choose, t.choose_spec.1⟩
theorem Tmp.imm {p q : Pv} {d : D} {v : V} (t : Tmp K mg H Sh F p d v) (h : d.imm = true) : Tmp K mg H Sh F q d v := by
  obtain ⟨fp, r⟩ := t.rp
  have e := Rp.imm d h r
  subst e
  cases q with
  | own => exact ⟨[], r, by simp, by simp⟩
  | shr => exact ⟨[], r, by simp⟩
  | bor q => exact ⟨[], r, by simp⟩
theorem Tmp.mk {p : Pv} {d : D} {v : V} (t : Tmp K mg H Sh F p d v) : Tmp K mg H Sh F (if d.imm then .own else p) d v := by
  by_cases h : d.imm = true
  · rw [if_pos h]; exact t.imm h
  · rw [if_neg h]; exact t
end
end DL
end
section
set_option Elab.async false
set_option linter.all false
set_option maxRecDepth 100000
/-! D layer, 4: the judgements; expressions. -/
namespace DL
open PySem PySem.Spec PyProof.Rows L2

structure Dc where
  io : Io
  cb : Cb
abbrev Dc.ios (C : Dc) : List Nat := C.io.l.map (·.1)
abbrev Dc.ev (C : Dc) (i : Ex) (e : Envv) : Res := evalE C.ios C.cb i e

def cR (X : Cx) (a : Expr) : TE := fun σ H Q => ∀ pins s, Inv X pins σ H s → wpAny (model X.prog X.w) X.A (eval a X.env) (EP X pins σ Q) X.xe s
theorem pe_can {X : Cx} {a : Expr} : PE X a (cR X a) := ⟨fun pins s σ H Q I h => h pins s I⟩
theorem cR_of {X : Cx} {a : Expr} {t : TE} (h : PE X a t) {σ : L2.St} {H : Hp} {Q : VK} (q : t σ H Q) : cR X a σ H Q := fun pins s I => h.run pins s σ H Q I q
theorem EP.mono {X : Cx} {pins : List (Addr × Obj)} {σ : L2.St} {Q Q' : VK} {u : Value} {s : Shared} (h : EP X pins σ Q u s) (f : ∀ v H, Q v H → Q' v H) : EP X pins σ Q' u s := by
  obtain ⟨v, H', I, r, q⟩ := h
  exact ⟨v, H', I, r, f _ _ q⟩
theorem cR_mono {X : Cx} {a : Expr} {σ : L2.St} {H : Hp} {Q Q' : VK} (h : cR X a σ H Q) (f : ∀ v H, Q v H → Q' v H) : cR X a σ H Q' := fun pins s I => thn (h pins s I) fun _ _ z => EP.mono z f

/-- the exception x in the air: of the class c, its own dict dd -/
def XnAt (K : PySem.W.Frag) (mg : Str → Option Value) (x : Xn) (c : Value) (dd : Option Addr) (H : Hp) : Prop := ∃ C, c = .ref C ∧ mg x.cls = some (.ref C) ∧
  ((x.fs = [] ∧ x.vs = [] ∧ dd = none) ∨ ∃ d gs, dd = some d ∧ H d = some (.xd gs) ∧ gs.map (·.1) = x.fs ∧ RpL K mg H x.vs (gs.map (·.2)) [])
/-- what a fresh own value bears besides: whence it comes -/
def TmpO (H0 : Hp) (F0 : List (List Addr)) (K : PySem.W.Frag) (mg : Str → Option Value) (H : Hp) (Sh : Addr → Prop) (F : List (List Addr)) (p : Pv) (d : D) (v : V) : Prop :=
  match p with
  | .own => ∃ fp, Rp K mg H d v fp ∧ fp.Nodup ∧ ∀ a ∈ fp, (Mt (H a) ∧ ¬ Sh a ∧ a ∉ F.flatten) ∧ (a ∈ F0.flatten ∨ H0 a = none)
  | .shr => Tmp K mg H Sh F .shr d v
  | .bor r => Tmp K mg H Sh F (.bor r) d v
section
variable {K : PySem.W.Frag} {mg : Str → Option Value} {σ : L2.St} {H H' H2 H0 : Hp} {Sh Sh' Sh2 Sh0 : Addr → Prop} {F F' F2 F0 : List (List Addr)} {e e' e2 e0 : Envv} {ms ms2 : List Nat} {p q : Pv} {d : D} {v : V}
theorem TmpO.tmp (t : TmpO H0 F0 K mg H Sh F p d v) : Tmp K mg H Sh F p d v := by
  cases p with
  | own =>
    obtain ⟨fp, r, nd, hf⟩ := t
    exact ⟨fp, r, nd, fun a ha => (hf a ha).1⟩
  | shr => exact t
  | bor r => exact t
theorem Tmp.o (t : Tmp K mg H Sh F p d v) (h : p ≠ .own ∨ d.imm = true) : TmpO H0 F0 K mg H Sh F p d v := by
  cases p with
  | own =>
    have hi : d.imm = true := h.resolve_left fun z => z rfl
    obtain ⟨fp, r, nd, hf⟩ := t
    have e := Rp.imm d hi r
    subst e
    exact ⟨[], r, nd, by simp⟩
  | shr => exact t
  | bor r => exact t
theorem TmpO.base (t : TmpO H F K mg H2 Sh2 F2 p d v) (s : Stp ms H0 Sh0 F0 e0 H Sh F e) : TmpO H0 F0 K mg H2 Sh2 F2 p d v := by
  cases p with
  | own =>
    obtain ⟨fp, r, nd, hf⟩ := t
    refine ⟨fp, r, nd, fun a ha => ⟨(hf a ha).1, ?_⟩⟩
    rcases (hf a ha).2 with z | z
    · exact s.fs a z
    · by_cases q : H0 a = none
      · exact .inr q
      · exact absurd z (s.al a q)
  | shr => exact t
  | bor r => exact t
theorem Tmp.mkO (t : Tmp K mg H Sh F p d v) (h : p ≠ .own) : TmpO H0 F0 K mg H Sh F (if d.imm then .own else p) d v := by
  by_cases hi : d.imm = true
  · rw [if_pos hi]; exact (t.imm (q := .own) hi).o (.inr hi)
  · rw [if_neg hi]; exact t.o (.inl h)
/-- a new value made: the heap has grown -/
def Fresh (K : PySem.W.Frag) (mg : Str → Option Value) (H : Hp) (d : D) (v : V) (H' : Hp) : Prop :=
  (∀ a, H a ≠ none → H' a = H a) ∧ ∃ fp, Rp K mg H' d v fp ∧ fp.Nodup ∧ ∀ a ∈ fp, H a = none ∧ Mt (H' a)
theorem Fresh.same {fp : List Addr} (r : Rp K mg H d v fp) (h : d.imm = true) : Fresh K mg H d v H := by
  have e := Rp.imm d h r
  subst e
  exact ⟨fun _ _ => rfl, [], r, by simp, by simp⟩
theorem Rel.fresh {io : Io} (R : Rel io K mg σ H Sh F e) (f : Fresh K mg H d v H') : Rel io K mg σ H' Sh F e ∧ Stp ms H Sh F e H' Sh F e ∧ TmpO H F K mg H' Sh F .own d v := by
  obtain ⟨g, fp, r, nd, hf⟩ := f
  have eF : ∀ a ∈ F.flatten, H' a = H a := fun a ha => g a (mut_ne (R.mu a ha).1)
  have eS : ∀ a, Sh a → H' a = H a := fun a ha => g a (R.sa a ha).1
  have gx : ∀ b o, H b = some o → H' b = some o := fun b o q => (g b (by rw [q]; exact fun z => by cases z)).trans q
  have k : Keep H H' := .of fun b o q _ => (g b (by rw [q]; exact fun z => by cases z)).trans q
  refine ⟨⟨R.le, R.lF, fun i d hd => ?_, fun i d hd => ?_, R.nd, fun a ha => by rw [eF a ha]; exact R.mu a ha, fun a ha => by rw [eS a ha]; exact R.sa a ha, R.io, R.tb.ext gx⟩,
    ⟨fun a h _ => g a h.1, fun a h => by rw [g a h]; exact h, fun a h => .inl h, fun _ h => h, fun _ h => .inl h, fun i _ => ⟨rfl, rfl, fun a ha => eF a (mem_getD ha)⟩⟩, fp, r, nd, fun a ha => ⟨⟨(hf a ha).2, fun z => (R.sa a z).1 (hf a ha).1, fun z => mut_ne (R.mu a z).1 (hf a ha).1⟩, .inr (hf a ha).1⟩⟩
  · obtain ⟨v, h1, h2⟩ := R.ow i d hd
    exact ⟨v, h1, h2.stay k _ fun a ha => eF a (mem_getD ha)⟩
  · obtain ⟨v, fp, h1, h2, h3⟩ := R.sh i d hd
    exact ⟨v, fp, h1, h2.stay k _ fun a ha => eS a (h3 a ha), h3⟩
end

/-- what stands behind an expression -/
structure Post (C : Dc) (X : Cx) (σ : L2.St) (ms : List Nat) (H : Hp) (Sh : Addr → Prop) (F : List (List Addr)) (e : Envv) (d : D) (p : Pv) (e' : Envv) (v : V) (H' : Hp) (Sh' : Addr → Prop) (F' : List (List Addr)) : Prop where
  rel : Rel C.io X.K X.mg σ H' Sh' F' e'
  stp : Stp ms H Sh F e H' Sh' F' e'
  tmp : TmpO H F X.K X.mg H' Sh' F' p d v
/-- what is wished of an exception -/
def XH (C : Dc) (X : Cx) (W : WX) (σ : L2.St) (ms : List Nat) (H : Hp) (Sh : Addr → Prop) (F : List (List Addr)) (e : Envv) (x : Xn) (e' : Envv) : Prop :=
  ∀ H' Sh' F' c dd, Rel C.io X.K X.mg σ H' Sh' F' e' → Stp ms H Sh F e H' Sh' F' e' → XnAt X.K X.mg x c dd H' → W c dd σ H'
theorem XH.step {C : Dc} {X : Cx} {W : WX} {σ : L2.St} {ms m1 m2 : List Nat} {H H1 : Hp} {Sh Sh1 : Addr → Prop} {F F1 : List (List Addr)} {e e1 e' : Envv} {x : Xn} (h : XH C X W σ ms H Sh F e x e') (s : Stp m1 H Sh F e H1 Sh1 F1 e1) (h1 : ∀ i ∈ m1, i ∈ ms) (h2 : ∀ i ∈ m2, i ∈ ms) : XH C X W σ m2 H1 Sh1 F1 e1 x e' :=
  fun H' Sh' F' c dd R S z => h H' Sh' F' c dd R ((s.trans S).mono fun i hi => (List.mem_append.mp hi).elim (h1 i) (h2 i)) z

/-- the expression a is told by i -/
def SE (C : Dc) (X : Cx) (a : Expr) (i : Ex) : Prop := ∀ (σ : L2.St) (H : Hp) (Sh : Addr → Prop) (F : List (List Addr)) (e : Envv) (W : WX), Takes X W → Rel C.io X.K X.mg σ H Sh F e →
  (∀ x e', C.ev i e = .exc x e' → XH C X W σ i.mods H Sh F e x e') → C.ev i e ≠ .bad →
  cR X a σ H fun v H' => ∃ d p e' Sh' F', C.ev i e = .ok d p e' ∧ Post C X σ i.mods H Sh F e d p e' v H' Sh' F'

section
variable {C : Dc} {X : Cx} {W : WX} {σ : L2.St} {H : Hp} {Sh : Addr → Prop} {F : List (List Addr)} {e : Envv} {a b c : Expr} {i j k : Ex} {ms : List Nat} {pos : Pos}
/-- the expression first, then what is made of it -/
theorem SE.bind (h : SE C X a i) (tk : Takes X W) (R : Rel C.io X.K X.mg σ H Sh F e) {f : D → Pv → Envv → Res} {r : Res} (hr : (C.ev i e).bind f = r) (hb : r ≠ .bad) (hm : ∀ j ∈ i.mods, j ∈ ms) (hx : ∀ x e', r = .exc x e' → XH C X W σ ms H Sh F e x e') {Q : VK}
    (k : ∀ d p e1 v H1 Sh1 F1, Post C X σ i.mods H Sh F e d p e1 v H1 Sh1 F1 → f d p e1 = r → Q v H1) : cR X a σ H Q := by
  have nb : C.ev i e ≠ .bad := fun z => hb (by rw [← hr, z] <;> rfl)
  refine cR_mono (h σ H Sh F e W tk R (fun x e' he => ?_) nb) fun v H1 ⟨d, p, e1, Sh1, F1, he, P⟩ => k d p e1 v H1 Sh1 F1 P (by rw [he] at hr; exact hr)
  have q := hx x e' (by rw [← hr, he] <;> rfl)
  exact fun H' Sh' F' c dd R' S' z => q H' Sh' F' c dd R' (S'.mono hm) z
/-- two operands, the first waiting -/
theorem SE.bind2 (h1 : SE C X a i) (h2 : SE C X b j) (tk : Takes X W) (R : Rel C.io X.K X.mg σ H Sh F e) {f : D → Pv → D → Pv → Envv → Res} {r : Res}
    (hr : ((C.ev i e).bind fun x p e1 => if p.waits j.mods then (C.ev j e1).bind fun y q e2 => f x p y q e2 else .bad) = r) (hb : r ≠ .bad) (hm : ∀ n ∈ i.mods ++ j.mods, n ∈ ms) (hx : ∀ x e', r = .exc x e' → XH C X W σ ms H Sh F e x e') {Q : V → V → Hp → Prop}
    (k : ∀ x p y q e2 v u H2 Sh2 F2, Rel C.io X.K X.mg σ H2 Sh2 F2 e2 → Stp (i.mods ++ j.mods) H Sh F e H2 Sh2 F2 e2 → Tmp X.K X.mg H2 Sh2 F2 p x v → TmpO H F X.K X.mg H2 Sh2 F2 q y u → f x p y q e2 = r → Q v u H2) :
    cR X a σ H fun v H1 => cR X b σ H1 fun u H2 => Q v u H2 := by
  refine h1.bind tk R hr hb (fun n hn => hm n (List.mem_append_left _ hn)) hx fun x p e1 v H1 Sh1 F1 P1 q1 => ?_
  by_cases hw : p.waits j.mods = true
  · rw [if_pos hw] at q1
    refine h2.bind tk P1.rel q1 hb (fun n hn => hm n (List.mem_append_right _ hn)) (fun x' e' he => (hx x' e' he).step P1.stp (fun n hn => hm n (List.mem_append_left _ hn)) fun _ h => h) fun y q e2 u H2 Sh2 F2 P2 q2 => ?_
    exact k x p y q e2 v u H2 Sh2 F2 P2.rel (P1.stp.trans P2.stp) (P1.rel.tmp P1.tmp.tmp P2.stp hw) (P2.tmp.base P1.stp) q2
  · rw [if_neg hw] at q1
    exact absurd q1.symm hb
/-- a fresh result -/
theorem post_fresh {H2 H3 : Hp} {Sh2 : Addr → Prop} {F2 : List (List Addr)} {e2 : Envv} {d : D} {v : V} (R2 : Rel C.io X.K X.mg σ H2 Sh2 F2 e2) (S2 : Stp ms H Sh F e H2 Sh2 F2 e2) (f : Fresh X.K X.mg H2 d v H3) : Post C X σ ms H Sh F e d .own e2 v H3 Sh2 F2 := by
  obtain ⟨R3, S3, T3⟩ := R2.fresh (ms := []) f
  exact ⟨R3, (S2.trans S3).mono fun i hi => by simpa using hi, T3.base S2⟩
theorem freshR_ok {o : Option D} {e2 : Envv} {r : Res} (h : freshR o e2 = r) (hb : r ≠ .bad) : ∃ d, o = some d ∧ d.flat = true ∧ r = .ok d .own e2 := by
  unfold freshR at h
  cases o with
  | none => exact absurd h.symm hb
  | some d =>
    dsimp only at h
    by_cases hf : d.flat = true
    · rw [if_pos hf] at h; exact ⟨d, rfl, hf, h.symm⟩
    · rw [if_neg hf] at h; exact absurd h.symm hb

/-! ### constants, names -/
theorem se_con {d : D} {a : Expr} {v : V} (h : PE X a (tC v)) (hd : ∀ H, Rp X.K X.mg H d v []) : SE C X a (.con d) := by
  intro σ H Sh F e W tk R hx hb
  refine cR_of h (show ∃ d' p e' Sh' F', _ from ⟨d, .own, e, Sh, F, ?_, R, Stp.refl, [], hd H, by simp, by simp⟩)
  show evalE _ _ (.con d) e = _
  rw [evalE]
theorem se_int {n : Int} {j : Nat} : SE C X (.Constant (.int n) j pos) (.con (.int n)) := se_con pe_int fun _ => ⟨rfl, rfl⟩
theorem se_bl {b : Bool} {j : Nat} : SE C X (.Constant (.bool b) j pos) (.con (.bl b)) := se_con pe_bl fun _ => ⟨rfl, rfl⟩
theorem se_non {j : Nat} : SE C X (.Constant .none j pos) (.con .non) := se_con pe_non fun _ => ⟨rfl, rfl⟩
theorem se_str {x : Str} {j : Nat} : SE C X (.Constant (.str x) j pos) (.con (.str x)) := se_con pe_str fun _ => ⟨rfl, rfl⟩
/-- a module's int -/
theorem se_gint {x : Str} {n : Int} {t : Tok} (hg : Gl X x) (hm : X.mg x = some (.int n t)) (hd : (x == ("__debug__" : Str)) = false := by decide) : SE C X (.Name x pos) (.con (.int n)) := se_con (v := .int n) (pe_glob hg hm ⟨t, rfl⟩ hd) fun _ => ⟨rfl, rfl⟩
/-- a def as a value -/
theorem se_fn {x : Str} {f : Addr} (hg : Gl X x) (hm : X.mg x = some (.ref f)) (hd : (x == ("__debug__" : Str)) = false := by decide) : SE C X (.Name x pos) (.con (.fn x)) := se_con (v := .ref f) (pe_glob hg hm rfl hd) fun _ => ⟨f, rfl, hm, rfl⟩
theorem se_var {n : Nat} {x : Str} (hN : X.N[n]? = some x) (hv : Vis X.env.scope x) (hd : (x == ("__debug__" : Str)) = false := by decide) (hcd : (x == ("__classdict__" : Str)) = false := by decide) : SE C X (.Name x pos) (.var n) := by
  intro σ H Sh F e W tk R hx hb
  refine cR_of (pe_var hN hv hd hcd) ?_
  have ev : C.ev (.var n) e = (match e.getD n .un with
    | .ow d => mkR d (.bor n) e
    | .sh d => mkR d .shr e
    | .un => .bad) := by rfl
  cases hs : e.getD n .un with
  | un => rw [ev, hs] at hb; exact absurd rfl hb
  | ow d =>
    obtain ⟨v, h1, h2⟩ := R.ow n d hs
    have t : Tmp X.K X.mg H Sh F (.bor n) d v := ⟨_, h2, fun a ha => ha⟩
    exact ⟨v, h1, d, _, e, Sh, F, by rw [ev, hs] <;> rfl, R, Stp.refl, t.mkO (fun z => by cases z)⟩
  | sh d =>
    obtain ⟨v, fp, h1, h2, h3⟩ := R.sh n d hs
    have t : Tmp X.K X.mg H Sh F .shr d v := ⟨_, h2, h3⟩
    exact ⟨v, h1, d, _, e, Sh, F, by rw [ev, hs] <;> rfl, R, Stp.refl, t.mkO (fun z => by cases z)⟩
end
end DL
end
section
set_option Elab.async false
set_option linter.all false
set_option maxRecDepth 100000
/-! D layer, 5: slots are stored, objects are changed. -/
namespace DL
open PySem PySem.Spec PyProof.Rows L2

theorem fl_split {F : List (List Addr)} {n : Nat} (h : n < F.length) : ∃ A B, F = A ++ F.getD n [] :: B ∧ ∀ l, F.set n l = A ++ l :: B := by
  refine ⟨F.take n, F.drop (n + 1), ?_, fun l => ?_⟩
  · rw [List.getD_eq_getElem?_getD, List.getElem?_eq_getElem h]
    simp
  · rw [List.set_eq_take_append_cons_drop, if_pos h]
theorem mem_set {F : List (List Addr)} {n : Nat} {l : List Addr} {a : Addr} (h : a ∈ (F.set n l).flatten) : a ∈ l ∨ a ∈ F.flatten := by
  obtain ⟨m, hm, ha⟩ := List.mem_flatten.mp h
  rcases List.mem_or_eq_of_mem_set hm with q | q
  · exact .inr (List.mem_flatten.mpr ⟨m, q, ha⟩)
  · subst q; exact .inl ha
/-- the others' addresses are not this slot's -/
theorem nd_set {F : List (List Addr)} {n : Nat} {l : List Addr} (h : n < F.length) (nd : F.flatten.Nodup) (hl : l.Nodup) (hd : ∀ a ∈ l, a ∈ F.getD n [] ∨ a ∉ F.flatten) : (F.set n l).flatten.Nodup := by
  obtain ⟨A, B, e1, e2⟩ := fl_split h
  rw [e2]
  generalize F.getD n [] = m at e1 hd
  subst e1
  simp only [List.flatten_append, List.flatten_cons, List.nodup_append, List.mem_append] at nd hd ⊢
  obtain ⟨n1, ⟨n2, n3, n4⟩, n5⟩ := nd
  refine ⟨n1, ⟨hl, n3, fun a ha b hb z => ?_⟩, fun a ha b hb z => ?_⟩
  · subst z
    rcases hd a ha with q | q
    · exact n4 a q a hb rfl
    · exact q (.inr (.inr hb))
  · subst z
    rcases hb with hb | hb
    · rcases hd a hb with q | q
      · exact n5 a ha a (.inl q) rfl
      · exact q (.inl ha)
    · exact n5 a ha a (.inr hb) rfl
theorem not_other {F : List (List Addr)} {n m : Nat} {a : Addr} (nd : F.flatten.Nodup) (ne : n ≠ m) (h1 : a ∈ F.getD n []) (h2 : a ∈ F.getD m []) : False := by
  have key : ∀ (F : List (List Addr)) (n m : Nat), F.flatten.Nodup → n < m → a ∈ F.getD n [] → a ∈ F.getD m [] → False := by
    intro F
    induction F with
    | nil => intro n m _ _ h1 _; simp at h1
    | cons l F ih =>
      intro n m nd lt h1 h2
      simp only [List.flatten_cons, List.nodup_append] at nd
      cases m with
      | zero => omega
      | succ m =>
        have h2' : a ∈ F.getD m [] := by simpa using h2
        cases n with
        | zero => exact nd.2.2 a (by simpa using h1) a (mem_getD h2') rfl
        | succ n => exact ih n m nd.2.1 (by omega) (by simpa using h1) h2'
  rcases Nat.lt_or_gt_of_ne ne with z | z
  · exact key F n m nd z h1 h2
  · exact key F m n nd z h2 h1
theorem getD_set_self {α : Type} {l : List α} {n : Nat} {x d : α} (h : n < l.length) : (l.set n x).getD n d = x := by
  rw [List.getD_eq_getElem?_getD, List.getElem?_set_self h] <;> rfl
theorem getD_set_ne {α : Type} {l : List α} {n m : Nat} {x d : α} (h : m ≠ n) : (l.set n x).getD m d = l.getD m d := by
  rw [List.getD_eq_getElem?_getD, List.getD_eq_getElem?_getD, List.getElem?_set_ne (Ne.symm h)]

section
variable {io : Io} {K : PySem.W.Frag} {mg : Str → Option Value} {σ σ' : L2.St} {H H' : Hp} {Sh Sh' : Addr → Prop} {F : List (List Addr)} {e : Envv} {n : Nat} {fp : List Addr} {s : Sl}
/-- THE STORE: the slot n gets s, of the footprint fp (its own); the heap has changed within n's footprint alone; Sh' shares more -/
theorem Rel.putL (R : Rel io K mg σ H Sh F e) (hn : n < σ.length)
    (hσ : σ'.length = σ.length ∧ ∀ i, i ≠ n → σ'[i]? = σ[i]?) (hio : (∀ p ∈ io.l, p.1 ≠ n) ∨ σ'[n]? = σ[n]?)
    (hH : ∀ a, Live (H a) → a ∉ F.getD n [] → H' a = H a) (htb : LamX.Tabs io.T H')
    (hsh : ∀ a, Sh a → Sh' a) (hsn : ∀ a, Sh' a → Live (H' a) ∧ (Sh a ∨ a ∈ F.getD n [] ∨ a ∉ F.flatten) ∧ a ∉ fp)
    (nd : fp.Nodup) (hf : ∀ a ∈ fp, Mt (H' a) ∧ (a ∈ F.getD n [] ∨ (a ∉ F.flatten ∧ ¬ Sh a)))
    (hs : match s with
      | .ow d => ∃ v, σ'[n]? = some (some v) ∧ Rp K mg H' d v fp
      | .sh d => ∃ v fq, σ'[n]? = some (some v) ∧ Rp K mg H' d v fq ∧ ∀ a ∈ fq, Sh' a
      | .un => True) : Rel io K mg σ' H' Sh' (F.set n fp) (e.set n s) := by
  have hnF : n < F.length := by rw [R.lF]; exact hn
  have hne : n < e.length := by rw [R.le]; exact hn
  have k : Keep H H' := .mk fun b o q nm nt => (hH b (by rw [q]; exact ⟨(fun z => Option.some_ne_none _ z), (fun ps z => nt ps (Option.some.inj z))⟩) fun z => nm (by rw [← q]; exact (R.mu b (mem_getD z)).1)).trans q
  have oth : ∀ i, i ≠ n → ∀ a ∈ F.getD i [], H' a = H a := fun i hi a ha => hH a (R.mu a (mem_getD ha)).1.live fun z => not_other R.nd hi ha z
  have shr : ∀ a, Sh a → H' a = H a := fun a ha => hH a (R.sa a ha) fun z => (R.mu a (mem_getD z)).2 ha
  refine ⟨by rw [List.length_set, hσ.1, R.le], by rw [List.length_set, hσ.1, R.lF], fun i d hd => ?_, fun i d hd => ?_, ?_, fun a ha => ?_, fun a ha => (hsn a ha).1, fun p hp => ?_, htb⟩
  · by_cases hi : i = n
    · subst hi
      rw [getD_set_self hne] at hd
      subst hd
      obtain ⟨v, h1, h2⟩ := hs
      exact ⟨v, h1, by rw [getD_set_self hnF]; exact h2⟩
    · rw [getD_set_ne hi] at hd
      obtain ⟨v, h1, h2⟩ := R.ow i d hd
      exact ⟨v, by rw [hσ.2 i hi]; exact h1, by rw [getD_set_ne hi]; exact h2.stay k _ (oth i hi)⟩
  · by_cases hi : i = n
    · subst hi
      rw [getD_set_self hne] at hd
      subst hd
      exact hs
    · rw [getD_set_ne hi] at hd
      obtain ⟨v, fq, h1, h2, h3⟩ := R.sh i d hd
      exact ⟨v, fq, by rw [hσ.2 i hi]; exact h1, h2.stay k _ fun a ha => shr a (h3 a ha), fun a ha => hsh a (h3 a ha)⟩
  · exact nd_set hnF R.nd nd fun a ha => (hf a ha).2.imp id fun z => z.1
  · have h0 : a ∈ fp ∨ (a ∈ F.flatten ∧ a ∉ F.getD n []) := by
      obtain ⟨A, B, e1, e2⟩ := fl_split hnF
      rw [e2] at ha
      have nd0 := R.nd
      generalize F.getD n [] = m at e1
      subst e1
      simp only [List.flatten_append, List.flatten_cons, List.nodup_append, List.mem_append] at ha nd0 ⊢
      obtain ⟨n1, ⟨n2, n3, n4⟩, n5⟩ := nd0
      rcases ha with ha | ha | ha
      · exact .inr ⟨.inl ha, fun z => n5 a ha a (.inl z) rfl⟩
      · exact .inl ha
      · exact .inr ⟨.inr (.inr ha), fun z => n4 a z a ha rfl⟩
    rcases h0 with ha | ⟨ha, hnot⟩
    · refine ⟨(hf a ha).1, fun z => (hsn a z).2.2 ha⟩
    · refine ⟨by rw [hH a (R.mu a ha).1.live hnot]; exact (R.mu a ha).1, fun z => ?_⟩
      rcases (hsn a z).2.1 with q | q | q
      · exact (R.mu a ha).2 q
      · exact hnot q
      · exact q ha
  · by_cases hi : p.1 = n
    · rcases hio with q | q
      · exact absurd hi (q p hp)
      · rw [hi, q, ← hi]; exact R.io p hp
    · rw [hσ.2 _ hi]; exact R.io p hp
theorem Rel.put (R : Rel io K mg σ H Sh F e) (hn : n < σ.length)
    (hσ : σ'.length = σ.length ∧ ∀ i, i ≠ n → σ'[i]? = σ[i]?) (hio : (∀ p ∈ io.l, p.1 ≠ n) ∨ σ'[n]? = σ[n]?)
    (hH : ∀ a, H a ≠ none → a ∉ F.getD n [] → H' a = H a)
    (hsh : ∀ a, Sh a → Sh' a) (hsn : ∀ a, Sh' a → Live (H' a) ∧ (Sh a ∨ a ∈ F.getD n [] ∨ a ∉ F.flatten) ∧ a ∉ fp)
    (nd : fp.Nodup) (hf : ∀ a ∈ fp, Mt (H' a) ∧ (a ∈ F.getD n [] ∨ (a ∉ F.flatten ∧ ¬ Sh a)))
    (hs : match s with
      | .ow d => ∃ v, σ'[n]? = some (some v) ∧ Rp K mg H' d v fp
      | .sh d => ∃ v fq, σ'[n]? = some (some v) ∧ Rp K mg H' d v fq ∧ ∀ a ∈ fq, Sh' a
      | .un => True) : Rel io K mg σ' H' Sh' (F.set n fp) (e.set n s) :=
  R.putL hn hσ hio (fun a h => hH a h.1) (R.tb.ext2 (.of fun b o q nm => (hH b (by rw [q]; exact fun z => by cases z) fun z => nm (by rw [← q]; exact (R.mu b (mem_getD z)).1)).trans q)
    fun b ps q => (hH b (by rw [q]; exact fun z => by cases z) fun z => (show ¬ Mt (some (.tbl ps)) from fun z => z) (by rw [← q]; exact (R.mu b (mem_getD z)).1)).trans q) hsh hsn nd hf hs
end
end DL
end
section
set_option Elab.async false
set_option linter.all false
set_option maxRecDepth 100000
/-! D layer, 6: operators, comparisons, subscripts. -/
namespace DL
open PySem PySem.Spec PyProof.Rows L2

/-- what is asked of the context -/
structure Xo (X : Cx) : Prop where
  calm : X.calm = true
  nd : X.N.Nodup
  un : X.A.units + 200 < cLine

/-! ### data -/
theorem toPyL_map : ∀ xs : List D, toPyL xs = xs.map toPy
  | [] => rfl
  | x :: xs => by rw [toPyL, toPyL_map xs] <;> rfl
section
variable {K : PySem.W.Frag} {mg : Str → Option Value} {H : Hp}
mutual
theorem Rp.dp : ∀ (d : D) {v : V} {fp : List Addr} (k : Nat), d.lay k = true → Rp K mg H d v fp → Dp K H v (toPy d)
  | .non, _, _, _, _, r => by rw [r.1]; exact .non
  | .bl b, _, _, _, _, r => by rw [r.1]; exact .bl b
  | .int i, _, _, _, _, r => by rw [r.1]; exact .int i
  | .str x, _, _, _, _, r => by rw [r.1]; exact .str x
  | .tup ds, v, fp, k, h, r => by
    obtain ⟨a, vs, rfl, q, r⟩ := r
    cases k with
    | zero => simp [D.lay] at h
    | succ k => exact .tup q (RpL.dp ds k (by simpa [D.lay] using h) r)
  | .lst ds, v, fp, k, h, r => by
    obtain ⟨a, vs, fq, rfl, q, rfl, r⟩ := r
    cases k with
    | zero => simp [D.lay] at h
    | succ k => exact .lst (SqL.of q) (RpL.dp ds k (by simpa [D.lay] using h) r)
  | .dct _ _, _, _, k, h, _ => by cases k <;> simp [D.lay] at h
  | .obj _ _ _, _, _, k, h, _ => by cases k <;> simp [D.lay] at h
  | .fn _, _, _, k, h, _ => by cases k <;> simp [D.lay] at h
  | .exn _ _ _, _, _, k, h, _ => by cases k <;> simp [D.lay] at h
  | .scr _, _, _, k, h, _ => by cases k <;> simp [D.lay] at h
  | .set _, _, _, k, h, _ => by cases k <;> simp [D.lay] at h
theorem RpL.dp : ∀ (ds : List D) {vs : List V} {fp : List Addr} (k : Nat), (∀ d ∈ ds, d.lay k = true) → RpL K mg H ds vs fp → DpAll K H vs (toPyL ds)
  | [], _, _, _, _, r => by rw [r.1]; exact .nil
  | d :: ds, vs, fp, k, h, r => by
    obtain ⟨v, vr, f1, f2, rfl, rfl, r1, r2⟩ := r
    exact .cons (Rp.dp d k (h d (by simp)) r1) (RpL.dp ds k (fun x hx => h x (by simp [hx])) r2)
end
end
mutual
theorem lay_py : ∀ (d : D) (k : Nat), d.lay k = true → (toPy d).canLay0 = true ∧ (toPy d).depth ≤ k
  | .non, _, _ => by simp [toPy, PyData.canLay0, PyData.depth]
  | .bl b, _, _ => by simp [toPy, PyData.canLay0, PyData.depth]
  | .int i, _, _ => by simp [toPy, PyData.canLay0, PyData.depth]
  | .str x, k, h => by cases k <;> simpa [toPy, PyData.canLay0, PyData.depth, D.lay] using h
  | .tup ds, k, h => by
    cases k with
    | zero => simp [D.lay] at h
    | succ k =>
      obtain ⟨a, b⟩ := lay_pyL ds k (by simpa [D.lay] using h)
      exact ⟨by simpa [toPy, PyData.canLay0] using a, by simp only [toPy, PyData.depth]; omega⟩
  | .lst ds, k, h => by
    cases k with
    | zero => simp [D.lay] at h
    | succ k =>
      obtain ⟨a, b⟩ := lay_pyL ds k (by simpa [D.lay] using h)
      exact ⟨by simpa [toPy, PyData.canLay0] using a, by simp only [toPy, PyData.depth]; omega⟩
  | .dct _ _, k, h => by cases k <;> simp [D.lay] at h
  | .obj _ _ _, k, h => by cases k <;> simp [D.lay] at h
  | .fn _, k, h => by cases k <;> simp [D.lay] at h
  | .exn _ _ _, k, h => by cases k <;> simp [D.lay] at h
  | .scr _, k, h => by cases k <;> simp [D.lay] at h
  | .set _, k, h => by cases k <;> simp [D.lay] at h
theorem lay_pyL : ∀ (ds : List D) (k : Nat), (∀ d ∈ ds, d.lay k = true) → PyData.canLayAll0 (toPyL ds) = true ∧ PyData.depthAll (toPyL ds) ≤ k
  | [], _, _ => by simp [toPyL, PyData.canLayAll0, PyData.depthAll]
  | d :: ds, k, h => by
    obtain ⟨a, b⟩ := lay_py d k (h d (by simp))
    obtain ⟨a', b'⟩ := lay_pyL ds k (fun x hx => h x (by simp [hx]))
    exact ⟨by simp [toPyL, PyData.canLayAll0, a, a'], by simp only [toPyL, PyData.depthAll]; omega⟩
end
theorem okd_shaped {d : D} (h : d.okd = true) : SeqAt.shaped (toPy d) = true := by
  obtain ⟨a, b⟩ := lay_py d DEP h
  show ((toPy d).canLay0 && decide ((toPy d).depth ≤ 64)) = true
  rw [Bool.and_eq_true]
  exact ⟨a, decide_eq_true (Nat.le_trans b (by decide))⟩
theorem zipAll_cons {α β : Type} {x : α} {y : β} {xs : List α} {ys : List β} {f : α × β → Bool} : (decide ((x :: xs).length = (y :: ys).length) && ((x :: xs).zip (y :: ys)).all f) = (f (x, y) && (decide (xs.length = ys.length) && (xs.zip ys).all f)) := by
  simp only [List.length_cons, Nat.add_right_cancel_iff, List.zip_cons_cons, List.all_cons]
  cases f (x, y) <;> cases decide (xs.length = ys.length) <;> simp
mutual
theorem eqv_py : ∀ (x y : D) (k : Nat), x.lay k = true → y.lay k = true → PyData.eqv (toPy x) (toPy y) = D.eqv k x y
  | .tup xs, y, k, hx, hy => by
    cases k with
    | zero => simp [D.lay] at hx
    | succ k =>
      cases y with
      | tup ys =>
        simp only [toPy, PyData.eqv, D.eqv]
        exact eqvL_py xs ys k (by simpa [D.lay] using hx) (by simpa [D.lay] using hy)
      | lst ys => simp [toPy, PyData.eqv, D.eqv]
      | non => simp [toPy, PyData.eqv, D.eqv]
      | bl b => simp [toPy, PyData.eqv, D.eqv]
      | int b => simp [toPy, PyData.eqv, D.eqv]
      | str b => simp [toPy, PyData.eqv, D.eqv]
      | _ => simp [D.lay] at hy
  | .lst xs, y, k, hx, hy => by
    cases k with
    | zero => simp [D.lay] at hx
    | succ k =>
      cases y with
      | lst ys =>
        simp only [toPy, PyData.eqv, D.eqv]
        exact eqvL_py xs ys k (by simpa [D.lay] using hx) (by simpa [D.lay] using hy)
      | tup ys => simp [toPy, PyData.eqv, D.eqv]
      | non => simp [toPy, PyData.eqv, D.eqv]
      | bl b => simp [toPy, PyData.eqv, D.eqv]
      | int b => simp [toPy, PyData.eqv, D.eqv]
      | str b => simp [toPy, PyData.eqv, D.eqv]
      | _ => simp [D.lay] at hy
  | .non, y, k, hx, hy => by cases y <;> cases k <;> simp_all [toPy, PyData.eqv, D.eqv, D.lay]
  | .bl b, y, k, hx, hy => by cases y <;> cases k <;> simp_all [toPy, PyData.eqv, D.eqv, D.lay]
  | .int b, y, k, hx, hy => by cases y <;> cases k <;> simp_all [toPy, PyData.eqv, D.eqv, D.lay]
  | .str b, y, k, hx, hy => by cases y <;> cases k <;> simp_all [toPy, PyData.eqv, D.eqv, D.lay]
  | .dct _ _, _, k, h, _ => by cases k <;> simp [D.lay] at h
  | .obj _ _ _, _, k, h, _ => by cases k <;> simp [D.lay] at h
  | .fn _, _, k, h, _ => by cases k <;> simp [D.lay] at h
  | .exn _ _ _, _, k, h, _ => by cases k <;> simp [D.lay] at h
  | .scr _, _, k, h, _ => by cases k <;> simp [D.lay] at h
  | .set _, _, k, h, _ => by cases k <;> simp [D.lay] at h
theorem eqvL_py : ∀ (xs ys : List D) (k : Nat), (∀ d ∈ xs, d.lay k = true) → (∀ d ∈ ys, d.lay k = true) → PyData.eqvAll (toPyL xs) (toPyL ys) = (decide (xs.length = ys.length) && (xs.zip ys).all fun p => D.eqv k p.1 p.2)
  | [], [], _, _, _ => by simp [toPyL, PyData.eqvAll]
  | [], _ :: _, _, _, _ => by simp [toPyL, PyData.eqvAll]
  | _ :: _, [], _, _, _ => by simp [toPyL, PyData.eqvAll]
  | x :: xs, y :: ys, k, hx, hy => by
    rw [zipAll_cons]
    simp only [toPyL, PyData.eqvAll]
    rw [eqv_py x y k (hx x (by simp)) (hy y (by simp)), eqvL_py xs ys k (fun z hz => hx z (by simp [hz])) (fun z hz => hy z (by simp [hz]))]
end
theorem same_py {x y : D} (hx : x.okd = true) (hy : y.okd = true) : PyData.eqv (toPy x) (toPy y) = x.same y := eqv_py x y DEP hx hy
theorem any_py {x : D} {ys : List D} (hx : x.okd = true) (hy : ys.all D.okd = true) : (toPyL ys).any (fun z => PyData.eqv z (toPy x)) = ys.any fun z => D.same z x := by
  rw [toPyL_map, List.any_map]
  rw [Bool.eq_iff_iff, List.any_eq_true, List.any_eq_true]
  have ha := List.all_eq_true.mp hy
  constructor
  · rintro ⟨z, hz, q⟩
    exact ⟨z, hz, by rw [← same_py (ha z hz) hx]; exact q⟩
  · rintro ⟨z, hz, q⟩
    exact ⟨z, hz, by show PyData.eqv (toPy z) (toPy x) = true; rw [same_py (ha z hz) hx]; exact q⟩

/-! ### new values -/
section
variable {K : PySem.W.Frag} {mg : Str → Option Value} {H : Hp} {ds : List D} {vs : List V} {p : Addr}
theorem upd_keep {o : HO} (hp : H p = none) : Keep H (upd H p o) := .of fun b o q _ => by rw [upd_ne (ne_of_none q hp)]; exact q
theorem fresh_lst (hp : H p = none) (r : RpL K mg H ds vs []) : Fresh K mg H (.lst ds) (.ref p) (upd H p (.lst vs)) := by
  refine ⟨fun a ha => upd_ne fun z => ha (by rw [z]; exact hp), [p], ⟨p, vs, [], rfl, upd_same, rfl, r.stay (upd_keep hp) _ fun _ h => by simp at h⟩, by simp, fun a ha => ?_⟩
  have e : a = p := by simpa using ha
  subst e
  exact ⟨hp, by rw [upd_same]; exact True.intro⟩
theorem fresh_tup (hp : H p = none) (r : RpL K mg H ds vs []) : Fresh K mg H (.tup ds) (.ref p) (upd H p (.tup vs)) :=
  ⟨fun a ha => upd_ne fun z => ha (by rw [z]; exact hp), [], ⟨p, vs, rfl, SqT.of upd_same, r.stay (upd_keep hp) _ fun _ h => by simp at h⟩, by simp, by simp⟩
theorem fresh_int {i : Int} : Fresh K mg H (.int i) (.int i) H := Fresh.same (fp := []) ⟨rfl, rfl⟩ rfl
theorem fresh_bl {i : Bool} : Fresh K mg H (.bl i) (.bl i) H := Fresh.same (fp := []) ⟨rfl, rfl⟩ rfl
theorem fresh_str {i : Str} : Fresh K mg H (.str i) (.str i) H := Fresh.same (fp := []) ⟨rfl, rfl⟩ rfl
theorem RpL.nil_of {fp : List Addr} (r : RpL K mg H ds vs fp) (h : D.immL ds = true) : RpL K mg H ds vs [] := by
  have e := RpL.imm ds h r
  subst e
  exact r
end
theorem sz_eq : SZ = sizeLine := sizeLine_eq.symm

/-! ### binary operators -/
def rB (X : Cx) (op : Operator) : R2 := fun v u H Q => ∃ x y z fp fq, Rp X.K X.mg H x v fp ∧ Rp X.K X.mg H y u fq ∧ binD op x y = some z ∧ z.flat = true ∧ ∀ w H', Fresh X.K X.mg H z w H' → Q w H'
section
variable {X : Cx}
theorem immL_app {xs ys : List D} : D.immL (xs ++ ys) = (D.immL xs && D.immL ys) := by
  induction xs with
  | nil => simp [D.immL]
  | cons x xs ih => simp [D.immL, ih, Bool.and_assoc]
theorem immL_all {xs : List D} : D.immL xs = xs.all D.imm := by
  induction xs with
  | nil => rfl
  | cons x xs ih => simp [D.immL, ih]
theorem immL_mem {xs : List D} (h : D.immL xs = true) {x : D} (hx : x ∈ xs) : x.imm = true := by
  rw [immL_all] at h
  exact List.all_eq_true.mp h x hx
theorem opB_Sub : OpR X (binaryOp .Sub) (rB X .Sub) := by
  intro pins s σ H v u vv uu Q I r1 r2 h
  obtain ⟨x, y, z, fp, fq, rx, ry, hz, hf, q⟩ := h
  cases x <;> cases y <;> simp only [binD, reduceCtorEq] at hz
  cases hz
  rename_i i j
  rw [rx.1] at r1
  rw [ry.1] at r2
  exact op_sub pins s σ H _ _ vv uu Q I r1 r2 ⟨i, j, rfl, rfl, q _ _ fresh_int⟩
theorem opB_FloorDiv : OpR X (binaryOp .FloorDiv) (rB X .FloorDiv) := by
  intro pins s σ H v u vv uu Q I r1 r2 h
  obtain ⟨x, y, z, fp, fq, rx, ry, hz, hf, q⟩ := h
  cases x <;> cases y <;> simp only [binD, reduceCtorEq] at hz
  rename_i i j
  split at hz <;> cases hz
  rename_i hc
  simp only [Bool.and_eq_true, decide_eq_true_eq] at hc
  rw [rx.1] at r1
  rw [ry.1] at r2
  exact op_fdiv pins s σ H _ _ vv uu Q I r1 r2 ⟨i, j, rfl, rfl, hc, q _ _ fresh_int⟩
theorem opB_Mod : OpR X (binaryOp .Mod) (rB X .Mod) := by
  intro pins s σ H v u vv uu Q I r1 r2 h
  obtain ⟨x, y, z, fp, fq, rx, ry, hz, hf, q⟩ := h
  cases x <;> cases y <;> simp only [binD, reduceCtorEq] at hz
  rename_i i j
  split at hz <;> cases hz
  rename_i hc
  rw [rx.1] at r1
  rw [ry.1] at r2
  exact op_mod pins s σ H _ _ vv uu Q I r1 r2 ⟨i, j, rfl, rfl, of_decide_eq_true hc, q _ _ fresh_int⟩
theorem opB_Pow : OpR X (binaryOp .Pow) (rB X .Pow) := by
  intro pins s σ H v u vv uu Q I r1 r2 h
  obtain ⟨x, y, z, fp, fq, rx, ry, hz, hf, q⟩ := h
  cases x <;> cases y <;> simp only [binD, reduceCtorEq] at hz
  rename_i i j
  split at hz <;> cases hz
  rename_i hc
  simp only [Bool.and_eq_true, decide_eq_true_eq] at hc
  rw [rx.1] at r1
  rw [ry.1] at r2
  exact op_pow pins s σ H _ _ vv uu Q I r1 r2 ⟨i, j, rfl, rfl, ⟨hc.1.1, hc.1.2, hc.2⟩, q _ _ fresh_int⟩
theorem rep_rp {K : PySem.W.Frag} {mg : Str → Option Value} {H : Hp} {ds : List D} {vs : List V} (r : RpL K mg H ds vs []) : ∀ k : Nat, RpL K mg H (List.replicate k ds).flatten (List.replicate k vs).flatten []
  | 0 => ⟨rfl, rfl⟩
  | k + 1 => by
    rw [List.replicate_succ, List.replicate_succ, List.flatten_cons, List.flatten_cons]
    exact r.app (rep_rp r k)
theorem immL_rep {ds : List D} : ∀ {k : Nat}, 0 < k → D.immL (List.replicate k ds).flatten = true → D.immL ds = true
  | k + 1, _, h => by
    rw [List.replicate_succ, List.flatten_cons, immL_app] at h
    exact (Bool.and_eq_true_iff.mp h).1
theorem opB_Mult : OpR X (binaryOp .Mult) (rB X .Mult) := by
  intro pins s σ H v u vv uu Q I r1 r2 h
  obtain ⟨x, y, z, fp, fq, rx, ry, hz, hf, q⟩ := h
  cases x <;> cases y <;> simp only [binD, reduceCtorEq] at hz
  · rename_i i j
    split at hz <;> cases hz
    rename_i hc
    simp only [Bool.and_eq_true, Bool.or_eq_true, decide_eq_true_eq] at hc
    rw [rx.1] at r1
    rw [ry.1] at r2
    exact op_mul pins s σ H _ _ vv uu Q I r1 r2 ⟨i, j, rfl, rfl, hc, q _ _ fresh_int⟩
  · rename_i xs k
    split at hz <;> cases hz
    rename_i hc
    simp only [Bool.and_eq_true, decide_eq_true_eq] at hc
    obtain ⟨a, vs, f1, rfl, ha, rfl, rl⟩ := rx
    rw [ry.1] at r2
    refine op_rep pins s σ H _ _ vv uu Q I r1 r2 ⟨a, k, vs, rfl, rfl, ha, by omega, by omega, by rw [rl.length, ← sz_eq]; exact hc.2, fun p hp => q _ _ (fresh_lst hp ?_)⟩
    by_cases hk : 0 < k.toNat
    · exact rep_rp (rl.nil_of (immL_rep hk hf)) _
    · have e : k.toNat = 0 := by omega
      rw [e]
      exact ⟨rfl, rfl⟩
theorem opB_Add : OpR X (binaryOp .Add) (rB X .Add) := by
  intro pins s σ H v u vv uu Q I r1 r2 h
  obtain ⟨x, y, z, fp, fq, rx, ry, hz, hf, q⟩ := h
  cases x <;> cases y <;> simp only [binD, reduceCtorEq] at hz
  · rename_i i j
    cases hz
    rw [rx.1] at r1
    rw [ry.1] at r2
    exact op_add pins s σ H _ _ vv uu Q I r1 r2 ⟨i, j, rfl, rfl, q _ _ fresh_int⟩
  · rename_i i j
    split at hz <;> cases hz
    rename_i hc
    rw [rx.1] at r1
    rw [ry.1] at r2
    exact op_add_str pins s σ H _ _ vv uu Q I r1 r2 ⟨i, j, rfl, rfl, by rw [← sz_eq]; exact hc, q _ _ fresh_str⟩
  · rename_i xs ys
    split at hz <;> cases hz
    rename_i hc
    obtain ⟨a, vs, rfl, ha, rl⟩ := rx
    obtain ⟨b, ws, rfl, hb, rm⟩ := ry
    have hf' : D.immL (xs ++ ys) = true := hf
    rw [immL_app] at hf'
    obtain ⟨h1, h2⟩ := Bool.and_eq_true_iff.mp hf'
    have rl0 := rl.nil_of h1
    have rm0 := rm.nil_of h2
    have l1 := rl.length
    have l2 := rm.length
    refine op_catA pins s σ H _ _ vv uu Q I r1 r2 ⟨a, b, vs, ws, rfl, rfl, ha, hb, by rw [l1, l2, ← sz_eq]; exact hc, fun e => ?_, fun _ e => ?_, fun _ _ p hp => q _ _ (fresh_tup hp (rl0.app rm0))⟩
    · have ex : xs = [] := List.eq_nil_of_length_eq_zero (by rw [← l1, e] <;> rfl)
      subst ex
      exact q _ _ (Fresh.same (fp := []) ⟨b, ws, rfl, hb, rm0⟩ hf)
    · have ey : ys = [] := List.eq_nil_of_length_eq_zero (by rw [← l2, e] <;> rfl)
      subst ey
      rw [List.append_nil] at q hf
      exact q _ _ (Fresh.same (fp := []) ⟨a, vs, rfl, ha, rl0⟩ hf)
  · rename_i xs ys
    split at hz <;> cases hz
    rename_i hc
    obtain ⟨a, vs, f1, rfl, ha, rfl, rl⟩ := rx
    obtain ⟨b, ws, f2, rfl, hb, rfl, rm⟩ := ry
    have hf' : D.immL (xs ++ ys) = true := hf
    rw [immL_app] at hf'
    obtain ⟨h1, h2⟩ := Bool.and_eq_true_iff.mp hf'
    exact op_cat pins s σ H _ _ vv uu Q I r1 r2 ⟨a, b, vs, ws, rfl, rfl, ha, hb, by rw [rl.length, rm.length, ← sz_eq]; exact hc, fun p hp => q _ _ (fresh_lst hp ((rl.nil_of h1).app (rm.nil_of h2)))⟩
end

/-! ### comparisons -/
def rC (X : Cx) (op : CmpOp) : R2 := fun v u H Q => ∃ x y b fp fq, Rp X.K X.mg H x v fp ∧ Rp X.K X.mg H y u fq ∧ cmpD op x y = some b ∧ Q (.bl b) H
section
variable {X : Cx}
theorem intsOf_map : ∀ {xs : List D} {ns : List Int}, intsOf xs = some ns → xs = ns.map .int
  | [], ns, h => by cases h; rfl
  | x :: xs, ns, h => by
    cases x <;> simp only [intsOf, reduceCtorEq] at h
    obtain ⟨ms, h1, rfl⟩ := Option.map_eq_some_iff.mp h
    rw [intsOf_map h1] <;> rfl
theorem cmpT_some {f : List Int → List Int → Bool} {xs ys : List D} {b : Bool} (h : cmpT f xs ys = some b) : ∃ ns ms, xs = ns.map .int ∧ ys = ms.map .int ∧ b = f ns ms := by
  unfold cmpT at h
  cases h1 : intsOf xs with
  | none => rw [h1] at h; cases h
  | some ns =>
    cases h2 : intsOf ys with
    | none => rw [h1, h2] at h; cases h
    | some ms => rw [h1, h2] at h; cases h; exact ⟨ns, ms, intsOf_map h1, intsOf_map h2, rfl⟩
theorem toPy_ints : ∀ ns : List Int, toPyL (ns.map .int) = ns.map PySem.W.Datum.toD
  | [] => rfl
  | n :: ns => by rw [List.map_cons, toPyL, toPy_ints ns]; rfl
theorem lay_intsD {ns : List Int} : (D.tup (ns.map .int)).okd = true := by
  show (ns.map D.int).all (D.lay 59) = true
  induction ns with
  | nil => rfl
  | cons a r ih => rw [List.map_cons, List.all_cons, ih]; rfl
theorem lex_datum : ∀ ns ms : List Int, PySem.W.listLt ns ms = lexI ns ms
  | [], [] => rfl
  | [], _ :: _ => rfl
  | _ :: _, [] => rfl
  | a :: ns, b :: ms => by
    rw [PySem.W.listLt, lexI, lex_datum ns ms]
    rfl
theorem opC_ord {op : CmpOp} {g : Int → Int → Bool} {gl : List Int → List Int → Bool} (h : OpR X (compareOp op) (rI0 fun i j => .bl (g i j)))
    (e : ∀ x y b, cmpD op x y = some b → (∃ i j, x = .int i ∧ y = .int j ∧ b = g i j) ∨ ∃ ns ms, x = .tup (ns.map .int) ∧ y = .tup (ms.map .int) ∧ b = gl ns ms)
    (hl : ∀ {ns ms : List Int} {s : Shared} {a b : Value} {as bs : List Addr} {Q : Value → Shared → Prop}, Reads s.heap a (PySem.W.Datum.toD (PySem.W.Tup.mk ns)) as → Reads s.heap b (PySem.W.Datum.toD (PySem.W.Tup.mk ms)) bs → Q (.bool (gl ns ms)) s → wpAny (model X.prog X.w) X.A (compareOp op a b) Q X.xe s) : OpR X (compareOp op) (rC X op) := by
  intro pins s σ H v u vv uu Q I r1 r2 hq
  obtain ⟨x, y, b, fp, fq, rx, ry, hz, q⟩ := hq
  rcases e x y b hz with ⟨i, j, rfl, rfl, rfl⟩ | ⟨ns, ms, rfl, rfl, rfl⟩
  · rw [rx.1] at r1
    rw [ry.1] at r2
    exact h pins s σ H _ _ vv uu Q I r1 r2 ⟨i, j, rfl, rfl, q⟩
  · obtain ⟨as, e1⟩ := Dp.reads I _ _ vv (rx.dp _ _ lay_intsD) r1
    obtain ⟨bs, e2⟩ := Dp.reads I _ _ uu (ry.dp _ _ lay_intsD) r2
    have t : ∀ ns : List Int, toPy (.tup (ns.map .int)) = PySem.W.Datum.toD (PySem.W.Tup.mk ns) := fun ns => by rw [toPy, toPy_ints ns]; rfl
    rw [t] at e1 e2
    exact hl e1 e2 ⟨.bl _, H, I, rfl, q⟩
theorem tup_room {A : Around} {ns : List Int} {d : PyData} (hu : A.units + 200 < cLine) : A.units + min (PySem.W.Datum.toD (PySem.W.Tup.mk ns)).depth d.depth < cLine :=
  PySem.W.room_datum (PySem.W.Datum.depth_le (PySem.W.Tup.mk ns)) (by show A.units + 1 < cLine; omega)
theorem tup_lt (ns ms : List Int) : PySem.W.dataLt (PySem.W.Datum.toD (PySem.W.Tup.mk ns)) (PySem.W.Datum.toD (PySem.W.Tup.mk ms)) = lexI ns ms := by
  rw [PySem.W.DatumOrd.lt_eq]; exact lex_datum ns ms
theorem opC_Lt (hu : Xo X) : OpR X (compareOp .Lt) (rC X .Lt) := opC_ord (gl := lexI) op_lt (fun x y b h => by
  cases x <;> cases y <;> simp only [cmpD, reduceCtorEq, Option.some.injEq] at h
  · exact .inl ⟨_, _, rfl, rfl, h.symm⟩
  · obtain ⟨ns, ms, rfl, rfl, rfl⟩ := cmpT_some h; exact .inr ⟨_, _, rfl, rfl, rfl⟩) fun r1 r2 q => PySem.W.lt_data r1 r2 (PySem.W.DatumOrd.alike _ _) (PySem.W.DatumOrd.notNone _) (tup_room hu.un) (by rw [tup_lt]; exact q)
theorem opC_LtE (hu : Xo X) : OpR X (compareOp .LtE) (rC X .LtE) := opC_ord (gl := fun a b => !lexI b a) op_le (fun x y b h => by
  cases x <;> cases y <;> simp only [cmpD, reduceCtorEq, Option.some.injEq] at h
  · exact .inl ⟨_, _, rfl, rfl, h.symm⟩
  · obtain ⟨ns, ms, rfl, rfl, rfl⟩ := cmpT_some h; exact .inr ⟨_, _, rfl, rfl, rfl⟩) fun r1 r2 q => PySem.W.le_data r1 r2 (PySem.W.DatumOrd.alike _ _) (PySem.W.DatumOrd.notNone _) (tup_room hu.un) (by rw [tup_lt]; exact q)
theorem opC_Gt (hu : Xo X) : OpR X (compareOp .Gt) (rC X .Gt) := opC_ord (gl := fun a b => lexI b a) op_gt (fun x y b h => by
  cases x <;> cases y <;> simp only [cmpD, reduceCtorEq, Option.some.injEq] at h
  · exact .inl ⟨_, _, rfl, rfl, h.symm⟩
  · obtain ⟨ns, ms, rfl, rfl, rfl⟩ := cmpT_some h; exact .inr ⟨_, _, rfl, rfl, rfl⟩) fun r1 r2 q => PySem.W.gt_data r1 r2 (PySem.W.DatumOrd.alike _ _) (PySem.W.DatumOrd.notNone _) (tup_room hu.un) (by rw [tup_lt]; exact q)
theorem opC_GtE (hu : Xo X) : OpR X (compareOp .GtE) (rC X .GtE) := opC_ord (gl := fun a b => !lexI a b) op_ge (fun x y b h => by
  cases x <;> cases y <;> simp only [cmpD, reduceCtorEq, Option.some.injEq] at h
  · exact .inl ⟨_, _, rfl, rfl, h.symm⟩
  · obtain ⟨ns, ms, rfl, rfl, rfl⟩ := cmpT_some h; exact .inr ⟨_, _, rfl, rfl, rfl⟩) fun r1 r2 q => PySem.W.ge_data r1 r2 (PySem.W.DatumOrd.alike _ _) (PySem.W.DatumOrd.notNone _) (tup_room hu.un) (by rw [tup_lt]; exact q)
theorem opC_Eq (hu : Xo X) : OpR X (compareOp .Eq) (rC X .Eq) := by
  intro pins s σ H v u vv uu Q I r1 r2 h
  obtain ⟨x, y, b, fp, fq, rx, ry, hz, q⟩ := h
  have hz' : (if (x.okd && y.okd) = true then some (x.same y) else none) = some b := by
    cases x <;> cases y <;> exact hz
  split at hz' <;> cases hz'
  rename_i hc
  obtain ⟨h1, h2⟩ := Bool.and_eq_true_iff.mp hc
  exact op_eqD (by have := hu.un; omega) pins s σ H _ _ vv uu Q I r1 r2 ⟨_, _, rx.dp _ _ h1, ry.dp _ _ h2, okd_shaped h1, okd_shaped h2, by rw [same_py h1 h2]; exact q⟩
theorem opC_NotEq (hu : Xo X) : OpR X (compareOp .NotEq) (rC X .NotEq) := by
  intro pins s σ H v u vv uu Q I r1 r2 h
  obtain ⟨x, y, b, fp, fq, rx, ry, hz, q⟩ := h
  have hz' : (if (x.okd && y.okd) = true then some (!x.same y) else none) = some b := by
    cases x <;> cases y <;> exact hz
  split at hz' <;> cases hz'
  rename_i hc
  obtain ⟨h1, h2⟩ := Bool.and_eq_true_iff.mp hc
  exact op_neD (by have := hu.un; omega) pins s σ H _ _ vv uu Q I r1 r2 ⟨_, _, rx.dp _ _ h1, ry.dp _ _ h2, okd_shaped h1, okd_shaped h2, by rw [same_py h1 h2]; exact q⟩
theorem rp_non {K : PySem.W.Frag} {mg : Str → Option Value} {H : Hp} {x : D} {v : V} {fp : List Addr} (r : Rp K mg H x v fp) : decide (v = .non) = x.isNon := by
  cases x with
  | non => rw [r.1] <;> rfl
  | bl b => rw [r.1] <;> rfl
  | int i => rw [r.1] <;> rfl
  | str i => rw [r.1] <;> rfl
  | tup ds => obtain ⟨a, vs, rfl, _⟩ := r; rfl
  | lst ds => obtain ⟨a, vs, _, rfl, _⟩ := r; rfl
  | dct ks vs => obtain ⟨a, _, _, rfl, _⟩ := r; rfl
  | obj c fs vs => obtain ⟨a, _, _, _, _, rfl, _⟩ := r; rfl
  | fn x => obtain ⟨a, rfl, _⟩ := r; rfl
  | scr x => obtain ⟨a, rfl, _⟩ := r; rfl
  | exn c fs vs => obtain ⟨a, _, _, _, rfl, _⟩ := r; rfl
  | set x => exact r.elim
theorem opC_Is : OpR X (compareOp .Is) (rC X .Is) := by
  intro pins s σ H v u vv uu Q I r1 r2 h
  obtain ⟨x, y, b, fp, fq, rx, ry, hz, q⟩ := h
  have e : (y = .non ∧ b = x.isNon) ∨ ∃ p q, x = .bl p ∧ y = .bl q ∧ b = decide (p = q) := by
    cases x <;> cases y <;> simp only [cmpD, reduceCtorEq, Option.some.injEq] at hz <;> first | exact .inl ⟨rfl, hz.symm⟩ | exact .inr ⟨_, _, rfl, rfl, hz.symm⟩
  rcases e with ⟨rfl, rfl⟩ | ⟨p, q', rfl, rfl, rfl⟩
  case inr =>
    rw [ry.1] at r2
    rw [rx.1] at r1
    exact op_isBl pins s σ H _ _ vv uu Q I r1 r2 ⟨p, q', rfl, rfl, q⟩
  rw [ry.1] at r2
  exact op_isN pins s σ H _ _ vv uu Q I r1 r2 ⟨rfl, by rw [rp_non rx]; exact q⟩
theorem opC_IsNot : OpR X (compareOp .IsNot) (rC X .IsNot) := by
  intro pins s σ H v u vv uu Q I r1 r2 h
  obtain ⟨x, y, b, fp, fq, rx, ry, hz, q⟩ := h
  have e : y = .non ∧ b = !x.isNon := by
    cases x <;> cases y <;> simp only [cmpD, reduceCtorEq, Option.some.injEq] at hz <;> exact ⟨rfl, hz.symm⟩
  obtain ⟨rfl, rfl⟩ := e
  rw [ry.1] at r2
  exact op_notN pins s σ H _ _ vv uu Q I r1 r2 ⟨rfl, by rw [rp_non rx]; exact q⟩
theorem depth_in {A : Around} {d : D} {ds : List PyData} (h : d.okd = true) (hu : A.units + 200 < cLine) : A.units + 1 + min (PyData.depthAll ds) (toPy d).depth < cLine := by
  have h1 := (lay_py d DEP h).2
  have h2 : min (PyData.depthAll ds) (toPy d).depth ≤ (toPy d).depth := Nat.min_le_right _ _
  have h3 : DEP = 60 := rfl
  omega
theorem okd_all {ys : List D} (h : ys.all D.okd = true) : PyData.canLayAll0 (toPyL ys) = true := (lay_pyL ys DEP (fun d hd => List.all_eq_true.mp h d hd)).1
theorem opC_In (hu : Xo X) : OpR X (compareOp .In) (rC X .In) := by
  intro pins s σ H v u vv uu Q I r1 r2 h
  obtain ⟨x, y, b, fp, fq, rx, ry, hz, q⟩ := h
  cases y with
  | lst ys =>
    have hz' : (if (x.okd && ys.all D.okd) = true then some (ys.any fun z => D.same z x) else none) = some b := by cases x <;> exact hz
    split at hz' <;> cases hz'
    rename_i hc
    obtain ⟨h1, h2⟩ := Bool.and_eq_true_iff.mp hc
    obtain ⟨a, vs, f2, rfl, ha, rfl, rl⟩ := ry
    obtain ⟨as, e1⟩ := Dp.reads I _ _ vv (rx.dp _ _ h1) r1
    obtain ⟨bs, e2⟩ := Dp.reads I _ _ uu (Dp.lst (SqL.of ha) (rl.dp ys DEP fun d hd => List.all_eq_true.mp h2 d hd)) r2
    exact SeqAt.in_list_reads e2 e1 (okd_all h2) (lay_py x DEP h1).1 (depth_in h1 hu.un) ⟨.bl _, H, I, rfl, by rw [any_py h1 h2]; exact q⟩
  | tup ys =>
    have hz' : (if (x.okd && ys.all D.okd) = true then some (ys.any fun z => D.same z x) else none) = some b := by cases x <;> exact hz
    split at hz' <;> cases hz'
    rename_i hc
    obtain ⟨h1, h2⟩ := Bool.and_eq_true_iff.mp hc
    obtain ⟨a, vs, rfl, ha, rl⟩ := ry
    obtain ⟨as, e1⟩ := Dp.reads I _ _ vv (rx.dp _ _ h1) r1
    obtain ⟨bs, e2⟩ := Dp.reads I _ _ uu (Dp.tup ha (rl.dp ys DEP fun d hd => List.all_eq_true.mp h2 d hd)) r2
    exact SeqAt.in_tuple_reads e2 e1 (okd_all h2) (lay_py x DEP h1).1 (depth_in h1 hu.un) ⟨.bl _, H, I, rfl, by rw [any_py h1 h2]; exact q⟩
  | _ => cases x <;> simp [cmpD] at hz
theorem opC_NotIn (hu : Xo X) : OpR X (compareOp .NotIn) (rC X .NotIn) := by
  intro pins s σ H v u vv uu Q I r1 r2 h
  obtain ⟨x, y, b, fp, fq, rx, ry, hz, q⟩ := h
  cases y with
  | lst ys =>
    have hz' : (if (x.okd && ys.all D.okd) = true then some (!ys.any fun z => D.same z x) else none) = some b := by cases x <;> exact hz
    split at hz' <;> cases hz'
    rename_i hc
    obtain ⟨h1, h2⟩ := Bool.and_eq_true_iff.mp hc
    obtain ⟨a, vs, f2, rfl, ha, rfl, rl⟩ := ry
    obtain ⟨as, e1⟩ := Dp.reads I _ _ vv (rx.dp _ _ h1) r1
    obtain ⟨bs, e2⟩ := Dp.reads I _ _ uu (Dp.lst (SqL.of ha) (rl.dp ys DEP fun d hd => List.all_eq_true.mp h2 d hd)) r2
    exact SeqAt.notIn_list_reads e2 e1 (okd_all h2) (lay_py x DEP h1).1 (depth_in h1 hu.un) ⟨.bl _, H, I, rfl, by rw [any_py h1 h2]; exact q⟩
  | tup ys =>
    have hz' : (if (x.okd && ys.all D.okd) = true then some (!ys.any fun z => D.same z x) else none) = some b := by cases x <;> exact hz
    split at hz' <;> cases hz'
    rename_i hc
    obtain ⟨h1, h2⟩ := Bool.and_eq_true_iff.mp hc
    obtain ⟨a, vs, rfl, ha, rl⟩ := ry
    obtain ⟨as, e1⟩ := Dp.reads I _ _ vv (rx.dp _ _ h1) r1
    obtain ⟨bs, e2⟩ := Dp.reads I _ _ uu (Dp.tup ha (rl.dp ys DEP fun d hd => List.all_eq_true.mp h2 d hd)) r2
    exact SeqAt.notIn_tuple_reads e2 e1 (okd_all h2) (lay_py x DEP h1).1 (depth_in h1 hu.un) ⟨.bl _, H, I, rfl, by rw [any_py h1 h2]; exact q⟩
  | _ => cases x <;> simp [cmpD] at hz
end
end DL
end
section
set_option Elab.async false
set_option linter.all false
set_option maxRecDepth 100000
/-! D layer, 7: rules of expressions. -/
namespace DL
open PySem PySem.Spec PyProof.Rows L2

section
variable {C : Dc} {X : Cx} {W : WX} {σ : L2.St} {H : Hp} {Sh : Addr → Prop} {F : List (List Addr)} {e : Envv} {a b c : Expr} {i j k : Ex} {ms : List Nat} {pos : Pos}
theorem stp_mono {H1 : Hp} {Sh1 : Addr → Prop} {F1 : List (List Addr)} {e1 : Envv} {m1 m2 : List Nat} (s : Stp m1 H Sh F e H1 Sh1 F1 e1) (h : ∀ n ∈ m1, n ∈ m2 := by intro n hn; simpa [Ex.mods, Exs.mods, It.mods] using hn) : Stp m2 H Sh F e H1 Sh1 F1 e1 := s.mono h
/-- binary operators -/
theorem se_bin {op : Operator} (ho : OpR X (binaryOp op) (rB X op)) (ha : SE C X a i) (hb : SE C X b j) : SE C X (.BinOp a op b pos) (.bin op i j) := by
  intro σ H Sh F e W tk R hx hb'
  obtain ⟨r, hr⟩ : ∃ r, C.ev (.bin op i j) e = r := ⟨_, rfl⟩
  rw [hr] at hb'
  refine cR_of (pe_op ho pe_can pe_can) ?_
  refine ha.bind2 hb tk R (f := fun x p y q e2 => freshR (binD op x y) e2) hr hb' (fun _ h => h) (fun x e' he => hx x e' (hr.trans he)) fun x p y q e2 v u H2 Sh2 F2 R2 S2 T1 T2 q2 => ?_
  obtain ⟨z, h1, h2, h3⟩ := freshR_ok q2 hb'
  obtain ⟨fp, r1⟩ := T1.rp
  obtain ⟨fq, r2⟩ := T2.tmp.rp
  exact ⟨x, y, z, fp, fq, r1, r2, h1, h2, fun w' H' f => ⟨z, .own, e2, Sh2, F2, by rw [hr, h3], post_fresh R2 S2 f⟩⟩
/-- -a -/
theorem se_neg (ha : SE C X a i) : SE C X (.UnaryOp .USub a pos) (.neg i) := by
  intro σ H Sh F e W tk R hx hb'
  obtain ⟨r, hr⟩ : ∃ r, C.ev (.neg i) e = r := ⟨_, rfl⟩
  rw [hr] at hb'
  refine cR_of (pe_un un_neg pe_can) ?_
  refine ha.bind tk R (f := fun x _ e1 => match x with | .int i => .ok (.int (-i)) .own e1 | _ => .bad) (by rw [← hr] <;> rfl) hb' (fun _ h => h) (fun x e' he => hx x e' (hr.trans he)) fun d p e1 v H1 Sh1 F1 P q => ?_
  cases d with
  | int n =>
    obtain ⟨fp, r1⟩ := P.tmp.tmp.rp
    exact ⟨n, r1.1, .int (-n), .own, e1, Sh1, F1, by rw [hr, ← q], post_fresh P.rel P.stp fresh_int⟩
  | _ => exact absurd q.symm hb'

/-! ### comparisons -/
theorem cmp_val {op : CmpOp} {x y : D} {e2 : Envv} {r : Res} (q : freshR ((cmpD op x y).map D.bl) e2 = r) (hb : r ≠ .bad) : ∃ k, cmpD op x y = some k ∧ r = .ok (.bl k) .own e2 := by
  cases h : cmpD op x y with
  | none => rw [h] at q; exact absurd q.symm hb
  | some k => rw [h] at q; exact ⟨k, rfl, q.symm⟩
theorem se_cmp {op : CmpOp} (ho : OpR X (compareOp op) (rC X op)) (ha : SE C X a i) (hb : SE C X b j) (hm : behindInMarks op b = false) : SE C X (.Compare a [op] [b] pos) (.cmp op i j) := by
  intro σ H Sh F e W tk R hx hb'
  obtain ⟨r, hr⟩ : ∃ r, C.ev (.cmp op i j) e = r := ⟨_, rfl⟩
  rw [hr] at hb'
  refine cR_of (pe_cmpR ho pe_can pe_can hm) ?_
  refine ha.bind2 hb tk R (f := fun x p y q e2 => freshR ((cmpD op x y).map D.bl) e2) hr hb' (fun _ h => h) (fun x e' he => hx x e' (hr.trans he)) fun x p y q e2 v u H2 Sh2 F2 R2 S2 T1 T2 q2 => ?_
  obtain ⟨k, h1, h3⟩ := cmp_val q2 hb'
  obtain ⟨fp, r1⟩ := T1.rp
  obtain ⟨fq, r2⟩ := T2.tmp.rp
  exact ⟨x, y, k, fp, fq, r1, r2, h1, ⟨.bl k, .own, e2, Sh2, F2, by rw [hr, h3], post_fresh R2 S2 fresh_bl⟩⟩

/-! ### tests -/
def cT (X : Cx) (a : Expr) : TT := fun σ H Q => ∀ pins s, Inv X pins σ H s → wpAny (model X.prog X.w) X.A (isTrue a X.env (eval a X.env)) (TP X pins σ Q) X.xe s
def cW (X : Cx) (a : Expr) : TT := fun σ H Q => ∀ whole pins s, Inv X pins σ H s → wpAny (model X.prog X.w) X.A (isTrue a X.env whole) (TP X pins σ Q) X.xe s
theorem pt_can : PT X a (cT X a) := ⟨fun pins s σ H Q I h => h pins s I⟩
theorem pw_can : PW X a (cW X a) := ⟨fun wh pins s σ H Q I h => h wh pins s I⟩
theorem cT_of {t : TT} (h : PT X a t) {Q : Bool → Hp → Prop} (q : t σ H Q) : cT X a σ H Q := fun pins s I => h.run pins s σ H Q I q
theorem cW_of {t : TT} (h : PW X a t) {Q : Bool → Hp → Prop} (q : t σ H Q) : cW X a σ H Q := fun wh pins s I => h.run wh pins s σ H Q I q
theorem tp_mono {pins : List (Addr × Obj)} {Q Q' : Bool → Hp → Prop} {u : Bool} {s : Shared} (h : TP X pins σ Q u s) (f : ∀ v H, Q v H → Q' v H) : TP X pins σ Q' u s := by
  obtain ⟨H', I, q⟩ := h
  exact ⟨H', I, f _ _ q⟩
theorem cT_mono {Q Q' : Bool → Hp → Prop} (h : cT X a σ H Q) (f : ∀ v H, Q v H → Q' v H) : cT X a σ H Q' := fun pins s I => thn (h pins s I) fun _ _ z => tp_mono z f
theorem cW_mono {Q Q' : Bool → Hp → Prop} (h : cW X a σ H Q) (f : ∀ v H, Q v H → Q' v H) : cW X a σ H Q' := fun wh pins s I => thn (h wh pins s I) fun _ _ z => tp_mono z f
/-- what stands behind a test -/
def PostT (C : Dc) (X : Cx) (σ : L2.St) (i : Ex) (H : Hp) (Sh : Addr → Prop) (F : List (List Addr)) (e : Envv) (k : Bool) (H' : Hp) : Prop :=
  ∃ p e' Sh' F', C.ev i e = .ok (.bl k) p e' ∧ Rel C.io X.K X.mg σ H' Sh' F' e' ∧ Stp i.mods H Sh F e H' Sh' F' e'
def STof (cc : Cx → Expr → TT) (C : Dc) (X : Cx) (a : Expr) (i : Ex) : Prop := ∀ (σ : L2.St) (H : Hp) (Sh : Addr → Prop) (F : List (List Addr)) (e : Envv) (W : WX), Takes X W → Rel C.io X.K X.mg σ H Sh F e →
  (∀ x e', C.ev i e = .exc x e' → XH C X W σ i.mods H Sh F e x e') → (∀ d p e', C.ev i e = .ok d p e' → ∃ k, d = .bl k) → C.ev i e ≠ .bad → cc X a σ H (PostT C X σ i H Sh F e)
abbrev ST (C : Dc) (X : Cx) (a : Expr) (i : Ex) : Prop := STof cT C X a i
abbrev SW (C : Dc) (X : Cx) (a : Expr) (i : Ex) : Prop := STof cW C X a i
theorem SW.st (h : SW C X a i) : ST C X a i := fun σ H Sh F e W tk R hx hd hb pins s I => h σ H Sh F e W tk R hx hd hb _ pins s I
theorem STof.bind {cc : Cx → Expr → TT} (mono : ∀ {X a σ H} {Q Q' : Bool → Hp → Prop}, cc X a σ H Q → (∀ v H, Q v H → Q' v H) → cc X a σ H Q') (h : STof cc C X a i) (tk : Takes X W) (R : Rel C.io X.K X.mg σ H Sh F e) {f : Bool → Envv → Res} {r : Res} (hr : testR (C.ev i e) f = r) (hb : r ≠ .bad) (hm : ∀ j ∈ i.mods, j ∈ ms) (hx : ∀ x e', r = .exc x e' → XH C X W σ ms H Sh F e x e') {Q : Bool → Hp → Prop}
    (k : ∀ k e1 H1 Sh1 F1, Rel C.io X.K X.mg σ H1 Sh1 F1 e1 → Stp i.mods H Sh F e H1 Sh1 F1 e1 → f k e1 = r → Q k H1) : cc X a σ H Q := by
  have nb : C.ev i e ≠ .bad := fun z => hb (by rw [← hr, z] <;> rfl)
  refine mono (h σ H Sh F e W tk R (fun x e' he => ?_) (fun d p e' he => ?_) nb) fun v H1 ⟨p, e1, Sh1, F1, he, R1, S1⟩ => k v e1 H1 Sh1 F1 R1 S1 (by rw [he] at hr; exact hr)
  · have q := hx x e' (by rw [← hr, he] <;> rfl)
    exact fun H' Sh' F' c dd R' S' z => q H' Sh' F' c dd R' (S'.mono hm) z
  · rw [he] at hr
    cases d with
    | bl k => exact ⟨k, rfl⟩
    | _ => exact absurd hr.symm hb
theorem ST.bind (h : ST C X a i) (tk : Takes X W) (R : Rel C.io X.K X.mg σ H Sh F e) {f : Bool → Envv → Res} {r : Res} (hr : testR (C.ev i e) f = r) (hb : r ≠ .bad) (hm : ∀ j ∈ i.mods, j ∈ ms) (hx : ∀ x e', r = .exc x e' → XH C X W σ ms H Sh F e x e') {Q : Bool → Hp → Prop}
    (k : ∀ k e1 H1 Sh1 F1, Rel C.io X.K X.mg σ H1 Sh1 F1 e1 → Stp i.mods H Sh F e H1 Sh1 F1 e1 → f k e1 = r → Q k H1) : cT X a σ H Q := STof.bind (cc := cT) (fun h f => cT_mono h f) h tk R hr hb hm hx k
theorem SW.bind (h : SW C X a i) (tk : Takes X W) (R : Rel C.io X.K X.mg σ H Sh F e) {f : Bool → Envv → Res} {r : Res} (hr : testR (C.ev i e) f = r) (hb : r ≠ .bad) (hm : ∀ j ∈ i.mods, j ∈ ms) (hx : ∀ x e', r = .exc x e' → XH C X W σ ms H Sh F e x e') {Q : Bool → Hp → Prop}
    (k : ∀ k e1 H1 Sh1 F1, Rel C.io X.K X.mg σ H1 Sh1 F1 e1 → Stp i.mods H Sh F e H1 Sh1 F1 e1 → f k e1 = r → Q k H1) : cW X a σ H Q := STof.bind (cc := cW) (fun h f => cW_mono h f) h tk R hr hb hm hx k
/-- a value of which the test is the truth -/
theorem st_truth (h : SE C X a i) (he : ∀ whole, isTrue a X.env whole = (do let v ← whole; standAt a.pos; holding [v] (truthy v)) := by intro _; rfl) : ST C X a i := by
  intro σ H Sh F e W tk R hx hd hb
  refine cT_of (pt_truth pe_can he) ?_
  refine cR_mono (h σ H Sh F e W tk R hx hb) fun v H1 ⟨d, p, e', Sh', F', he, P⟩ => ?_
  obtain ⟨k, rfl⟩ := hd d p e' he
  obtain ⟨fp, r1⟩ := P.tmp.tmp.rp
  have e1 : v = .bl k := r1.1
  subst e1
  exact ⟨k, rfl, p, e', Sh', F', he, P.rel, P.stp⟩
theorem st_cmp {op : CmpOp} (ho : OpR X (compareOp op) (rC X op)) (ha : SE C X a i) (hb : SE C X b j) (hm : behindInMarks op b = false) : ST C X (.Compare a [op] [b] pos) (.cmp op i j) := by
  intro σ H Sh F e W tk R hx hd hb'
  obtain ⟨r, hr⟩ : ∃ r, C.ev (.cmp op i j) e = r := ⟨_, rfl⟩
  rw [hr] at hb'
  refine cT_of (pt_cmpR ho pe_can pe_can hm) ?_
  refine ha.bind2 hb tk R (f := fun x p y q e2 => freshR ((cmpD op x y).map D.bl) e2) hr hb' (fun _ h => h) (fun x e' he => hx x e' (hr.trans he)) fun x p y q e2 v u H2 Sh2 F2 R2 S2 T1 T2 q2 => ?_
  obtain ⟨k, h1, h3⟩ := cmp_val q2 hb'
  obtain ⟨fp, r1⟩ := T1.rp
  obtain ⟨fq, r2⟩ := T2.tmp.rp
  exact ⟨x, y, k, fp, fq, r1, r2, h1, k, rfl, .own, e2, Sh2, F2, by rw [hr, h3], R2, S2⟩
theorem sw_one {op : BoolOp} (h : ST C X a i) : SW C X (.BoolOp op [a] pos) i := by
  intro σ H Sh F e W tk R hx hd hb
  cases op with
  | And => exact cW_of (pw_and1 pt_can) (h σ H Sh F e W tk R hx hd hb)
  | Or => exact cW_of (pw_or1 pt_can) (h σ H Sh F e W tk R hx hd hb)
theorem sw_and {rest : List Expr} (ha : ST C X a i) (hb : SW C X (.BoolOp .And (b :: rest) pos) j) : SW C X (.BoolOp .And (a :: b :: rest) pos) (.and i j) := by
  intro σ H Sh F e W tk R hx hd hb'
  obtain ⟨r, hr⟩ : ∃ r, C.ev (.and i j) e = r := ⟨_, rfl⟩
  rw [hr] at hb'
  refine cW_of (pw_and pt_can pw_can) ?_
  refine ha.bind tk R (f := fun k e1 => if k then testR (C.ev j e1) fun k e2 => .ok (.bl k) .own e2 else .ok (.bl false) .own e1) (by rw [← hr] <;> rfl) hb' (fun n hn => List.mem_append_left _ hn) (fun x e' he => hx x e' (hr.trans he)) fun k e1 H1 Sh1 F1 R1 S1 q1 => ?_
  cases k with
  | true =>
    refine hb.bind tk R1 (f := fun k e2 => .ok (.bl k) .own e2) q1 hb' (fun n hn => List.mem_append_right i.mods hn) (fun x e' he => (hx x e' (hr.trans he)).step S1 (fun n hn => List.mem_append_left _ hn) fun n hn => hn) fun k e2 H2 Sh2 F2 R2 S2 q2 => ?_
    exact ⟨.own, e2, Sh2, F2, by rw [hr, ← q2], R2, S1.trans S2⟩
  | false => exact ⟨.own, e1, Sh1, F1, by rw [hr, ← q1] <;> rfl, R1, S1.mono fun n hn => List.mem_append_left _ hn⟩
theorem sw_or {rest : List Expr} (ha : ST C X a i) (hb : SW C X (.BoolOp .Or (b :: rest) pos) j) : SW C X (.BoolOp .Or (a :: b :: rest) pos) (.or i j) := by
  intro σ H Sh F e W tk R hx hd hb'
  obtain ⟨r, hr⟩ : ∃ r, C.ev (.or i j) e = r := ⟨_, rfl⟩
  rw [hr] at hb'
  refine cW_of (pw_or pt_can pw_can) ?_
  refine ha.bind tk R (f := fun k e1 => if k then .ok (.bl true) .own e1 else testR (C.ev j e1) fun k e2 => .ok (.bl k) .own e2) (by rw [← hr] <;> rfl) hb' (fun n hn => List.mem_append_left _ hn) (fun x e' he => hx x e' (hr.trans he)) fun k e1 H1 Sh1 F1 R1 S1 q1 => ?_
  cases k with
  | false =>
    refine hb.bind tk R1 (f := fun k e2 => .ok (.bl k) .own e2) q1 hb' (fun n hn => List.mem_append_right i.mods hn) (fun x e' he => (hx x e' (hr.trans he)).step S1 (fun n hn => List.mem_append_left _ hn) fun n hn => hn) fun k e2 H2 Sh2 F2 R2 S2 q2 => ?_
    exact ⟨.own, e2, Sh2, F2, by rw [hr, ← q2], R2, S1.trans S2⟩
  | true => exact ⟨.own, e1, Sh1, F1, by rw [hr, ← q1] <;> rfl, R1, S1.mono fun n hn => List.mem_append_left _ hn⟩
theorem st_not (ha : ST C X a i) : ST C X (.UnaryOp .Not a pos) (.not i) := by
  intro σ H Sh F e W tk R hx hd hb'
  obtain ⟨r, hr⟩ : ∃ r, C.ev (.not i) e = r := ⟨_, rfl⟩
  rw [hr] at hb'
  refine cT_of (pt_not pt_can) ?_
  refine ha.bind tk R (f := fun k e1 => .ok (.bl !k) .own e1) (by rw [← hr] <;> rfl) hb' (fun _ h => h) (fun x e' he => hx x e' (hr.trans he)) fun k e1 H1 Sh1 F1 R1 S1 q1 => ?_
  exact ⟨.own, e1, Sh1, F1, by rw [hr, ← q1], R1, S1⟩
/-! .. as values -/
theorem SE.bindT (h : SE C X a i) (tk : Takes X W) (R : Rel C.io X.K X.mg σ H Sh F e) {f : Bool → Envv → Res} {r : Res} (hr : testR (C.ev i e) f = r) (hb : r ≠ .bad) (hm : ∀ j ∈ i.mods, j ∈ ms) (hx : ∀ x e', r = .exc x e' → XH C X W σ ms H Sh F e x e') {Q : VK}
    (k : ∀ k e1 H1 Sh1 F1, Rel C.io X.K X.mg σ H1 Sh1 F1 e1 → Stp i.mods H Sh F e H1 Sh1 F1 e1 → f k e1 = r → Q (.bl k) H1) : cR X a σ H Q := by
  refine h.bind tk R hr hb hm hx fun d p e1 v H1 Sh1 F1 P q => ?_
  cases d with
  | bl z =>
    obtain ⟨fp, r1⟩ := P.tmp.tmp.rp
    rw [r1.1]
    exact k z e1 H1 Sh1 F1 P.rel P.stp q
  | _ => exact absurd q.symm hb
theorem se_one {op : BoolOp} (h : SE C X a i) : SE C X (.BoolOp op [a] pos) i := fun σ H Sh F e W tk R hx hb => cR_of (pe_one pe_can) (h σ H Sh F e W tk R hx hb)
theorem se_and {rest : List Expr} (ha : SE C X a i) (hb : SE C X (.BoolOp .And (b :: rest) pos) j) : SE C X (.BoolOp .And (a :: b :: rest) pos) (.and i j) := by
  intro σ H Sh F e W tk R hx hb'
  obtain ⟨r, hr⟩ : ∃ r, C.ev (.and i j) e = r := ⟨_, rfl⟩
  rw [hr] at hb'
  refine cR_of (pe_and pe_can pe_can) ?_
  refine ha.bindT tk R (f := fun k e1 => if k then testR (C.ev j e1) fun k e2 => .ok (.bl k) .own e2 else .ok (.bl false) .own e1) (by rw [← hr] <;> rfl) hb' (fun n hn => List.mem_append_left _ hn) (fun x e' he => hx x e' (hr.trans he)) fun k e1 H1 Sh1 F1 R1 S1 q1 => ?_
  refine ⟨k, rfl, ?_⟩
  cases k with
  | true =>
    refine hb.bindT tk R1 (f := fun k e2 => .ok (.bl k) .own e2) q1 hb' (fun n hn => List.mem_append_right i.mods hn) (fun x e' he => (hx x e' (hr.trans he)).step S1 (fun n hn => List.mem_append_left _ hn) fun n hn => hn) fun k e2 H2 Sh2 F2 R2 S2 q2 => ?_
    exact ⟨.bl k, .own, e2, Sh2, F2, by rw [hr, ← q2], post_fresh R2 (S1.trans S2) fresh_bl⟩
  | false => exact ⟨.bl false, .own, e1, Sh1, F1, by rw [hr, ← q1] <;> rfl, post_fresh R1 (S1.mono fun n hn => List.mem_append_left _ hn) fresh_bl⟩
theorem se_or {rest : List Expr} (ha : SE C X a i) (hb : SE C X (.BoolOp .Or (b :: rest) pos) j) : SE C X (.BoolOp .Or (a :: b :: rest) pos) (.or i j) := by
  intro σ H Sh F e W tk R hx hb'
  obtain ⟨r, hr⟩ : ∃ r, C.ev (.or i j) e = r := ⟨_, rfl⟩
  rw [hr] at hb'
  refine cR_of (pe_or pe_can pe_can) ?_
  refine ha.bindT tk R (f := fun k e1 => if k then .ok (.bl true) .own e1 else testR (C.ev j e1) fun k e2 => .ok (.bl k) .own e2) (by rw [← hr] <;> rfl) hb' (fun n hn => List.mem_append_left _ hn) (fun x e' he => hx x e' (hr.trans he)) fun k e1 H1 Sh1 F1 R1 S1 q1 => ?_
  refine ⟨k, rfl, ?_⟩
  cases k with
  | false =>
    refine hb.bindT tk R1 (f := fun k e2 => .ok (.bl k) .own e2) q1 hb' (fun n hn => List.mem_append_right i.mods hn) (fun x e' he => (hx x e' (hr.trans he)).step S1 (fun n hn => List.mem_append_left _ hn) fun n hn => hn) fun k e2 H2 Sh2 F2 R2 S2 q2 => ?_
    exact ⟨.bl k, .own, e2, Sh2, F2, by rw [hr, ← q2], post_fresh R2 (S1.trans S2) fresh_bl⟩
  | true => exact ⟨.bl true, .own, e1, Sh1, F1, by rw [hr, ← q1] <;> rfl, post_fresh R1 (S1.mono fun n hn => List.mem_append_left _ hn) fresh_bl⟩
theorem se_not (ha : SE C X a i) : SE C X (.UnaryOp .Not a pos) (.not i) := by
  intro σ H Sh F e W tk R hx hb'
  obtain ⟨r, hr⟩ : ∃ r, C.ev (.not i) e = r := ⟨_, rfl⟩
  rw [hr] at hb'
  refine cR_of (pe_not pe_can) ?_
  refine ha.bindT tk R (f := fun k e1 => .ok (.bl !k) .own e1) (by rw [← hr] <;> rfl) hb' (fun _ h => h) (fun x e' he => hx x e' (hr.trans he)) fun k e1 H1 Sh1 F1 R1 S1 q1 => ?_
  exact ⟨k, rfl, .bl !k, .own, e1, Sh1, F1, by rw [hr, ← q1], post_fresh R1 S1 fresh_bl⟩
/-- a if c else b -/
theorem se_ite (hc : ST C X c k) (ha : SE C X a i) (hb : SE C X b j) : SE C X (.IfExp c a b pos) (.ite k i j) := by
  intro σ H Sh F e W tk R hx hb'
  obtain ⟨r, hr⟩ : ∃ r, C.ev (.ite k i j) e = r := ⟨_, rfl⟩
  rw [hr] at hb'
  refine cR_of (pe_ifExp pt_can pe_can pe_can) ?_
  refine hc.bind tk R (f := fun z e1 => if z then C.ev i e1 else C.ev j e1) (by rw [← hr] <;> rfl) hb' (fun n hn => List.mem_append_left (i.mods ++ j.mods) hn) (fun x e' he => hx x e' (hr.trans he)) fun z e1 H1 Sh1 F1 R1 S1 q1 => ?_
  have mi : ∀ n, n ∈ i.mods → n ∈ (Ex.ite k i j).mods := fun n hn => List.mem_append_right _ (List.mem_append_left _ hn)
  have mj : ∀ n, n ∈ j.mods → n ∈ (Ex.ite k i j).mods := fun n hn => List.mem_append_right _ (List.mem_append_right _ hn)
  have mk : ∀ n, n ∈ k.mods → n ∈ (Ex.ite k i j).mods := fun n hn => List.mem_append_left _ hn
  have fin : ∀ {m : Ex} {b' : Expr}, SE C X b' m → C.ev m e1 = r → (∀ n, n ∈ m.mods → n ∈ (Ex.ite k i j).mods) → cR X b' σ H1 fun v H' => ∃ d p e' Sh' F', C.ev (.ite k i j) e = .ok d p e' ∧ Post C X σ (Ex.ite k i j).mods H Sh F e d p e' v H' Sh' F' := fun {m b'} hm q hmm => by
    refine cR_mono (hm σ H1 Sh1 F1 e1 W tk R1 (fun x e' he => (hx x e' (hr.trans (q.symm.trans he))).step S1 mk hmm) (by rw [q]; exact hb')) fun v H' ⟨d, p, e', Sh', F', he, P⟩ => ?_
    exact ⟨d, p, e', Sh', F', hr.trans (q.symm.trans he), P.rel, (S1.trans P.stp).mono fun n hn => (List.mem_append.mp hn).elim (mk n) (hmm n), P.tmp.base S1⟩
  cases z with
  | true => exact fin ha q1 mi
  | false => exact fin hb q1 mj
end
end DL
end
section
set_option Elab.async false
set_option linter.all false
set_option maxRecDepth 100000
/-! D layer, 8: lists of expressions, displays, subscripts, fields, built-in functions. -/
namespace DL
open PySem PySem.Spec PyProof.Rows L2

def Exs.len : Exs → Nat
  | .nil => 0
  | .cons _ es => es.len + 1
abbrev Dc.evs (C : Dc) (i : Exs) (e : Envv) : RsL := evalEs C.ios C.cb i e
def cA (X : Cx) (es : List Expr) : TA := fun σ H Q => ∀ pos pins s, Inv X pins σ H s → wpAny (model X.prog X.w) X.A (spliced (backTo pos (starEach es X.env))) (AP X pins σ Q) X.xe s
theorem pa_can {X : Cx} {es : List Expr} : PA X es (cA X es) := ⟨fun pos pins s σ H Q I h => h pos pins s I⟩
theorem cA_of {X : Cx} {es : List Expr} {t : TA} (h : PA X es t) {σ : L2.St} {H : Hp} {Q : List V → Hp → Prop} (q : t σ H Q) : cA X es σ H Q := fun pos pins s I => h.run pos pins s σ H Q I q
theorem cA_mono {X : Cx} {es : List Expr} {σ : L2.St} {H : Hp} {Q Q' : List V → Hp → Prop} (h : cA X es σ H Q) (f : ∀ v H, Q v H → Q' v H) : cA X es σ H Q' := fun pos pins s I => thn (h pos pins s I) fun _ _ ⟨vs, H', I', r, q⟩ => ⟨vs, H', I', r, f _ _ q⟩

/-- waiting values: fp, what the own ones of them have -/
def TmpL (K : PySem.W.Frag) (mg : Str → Option Value) (H : Hp) (Sh : Addr → Prop) (F : List (List Addr)) : List Pv → List D → List V → List Addr → Prop
  | [], [], [], fp => fp = []
  | p :: ps, d :: ds, v :: vs, fp => ∃ f1 f2, fp = f1 ++ f2 ∧ ((p = .own ∧ Rp K mg H d v f1) ∨ (p ≠ .own ∧ f1 = [] ∧ Tmp K mg H Sh F p d v)) ∧ TmpL K mg H Sh F ps ds vs f2
  | _, _, _, _ => False
structure PostL (C : Dc) (X : Cx) (σ : L2.St) (ms : List Nat) (H : Hp) (Sh : Addr → Prop) (F : List (List Addr)) (e : Envv) (ds : List D) (ps : List Pv) (e' : Envv) (vs : List V) (H' : Hp) (Sh' : Addr → Prop) (F' : List (List Addr)) : Prop where
  rel : Rel C.io X.K X.mg σ H' Sh' F' e'
  stp : Stp ms H Sh F e H' Sh' F' e'
  tmp : ∃ fp, TmpL X.K X.mg H' Sh' F' ps ds vs fp ∧ fp.Nodup ∧ ∀ a ∈ fp, (Mt (H' a) ∧ ¬ Sh' a ∧ a ∉ F'.flatten) ∧ (a ∈ F.flatten ∨ H a = none)
def SEsof (C : Dc) (X : Cx) (cc : TA) (is : Exs) : Prop := ∀ (σ : L2.St) (H : Hp) (Sh : Addr → Prop) (F : List (List Addr)) (e : Envv) (W : WX), Takes X W → Rel C.io X.K X.mg σ H Sh F e →
  (∀ x e', C.evs is e = .exc x e' → XH C X W σ is.mods H Sh F e x e') → C.evs is e ≠ .bad →
  cc σ H fun vs H' => ∃ ds ps e' Sh' F', C.evs is e = .ok ds ps e' ∧ ds.length = is.len ∧ PostL C X σ is.mods H Sh F e ds ps e' vs H' Sh' F'
abbrev SEs (C : Dc) (X : Cx) (es : List Expr) (is : Exs) : Prop := SEsof C X (cA X es) is
section
variable {K : PySem.W.Frag} {mg : Str → Option Value} {H : Hp} {Sh : Addr → Prop} {F : List (List Addr)}
theorem TmpL.rp : ∀ {ps : List Pv} {ds : List D} {vs : List V} {fp : List Addr}, TmpL K mg H Sh F ps ds vs fp → ∃ fq, RpL K mg H ds vs fq
  | [], [], [], _, _ => ⟨[], rfl, rfl⟩
  | p :: ps, d :: ds, v :: vs, fp, t => by
    obtain ⟨f1, f2, _, h, t⟩ := t
    obtain ⟨fq, r⟩ := TmpL.rp t
    have q : ∃ f, Rp K mg H d v f := by
      rcases h with ⟨_, r⟩ | ⟨_, _, r⟩
      · exact ⟨_, r⟩
      · exact r.rp
    obtain ⟨f, q⟩ := q
    exact ⟨f ++ fq, v, vs, f, fq, rfl, rfl, q, r⟩
  | [], [], _ :: _, _, t => t.elim
  | [], _ :: _, _, _, t => by cases ‹List V› <;> exact t.elim
  | _ :: _, [], _, _, t => t.elim
  | _ :: _, _ :: _, [], _, t => t.elim
theorem TmpL.own : ∀ {ps : List Pv} {ds : List D} {vs : List V} {fp : List Addr}, TmpL K mg H Sh F ps ds vs fp → ps.all (· == .own) = true → RpL K mg H ds vs fp
  | [], [], [], _, t, _ => by
    have e : _ = [] := t
    subst e
    exact ⟨rfl, rfl⟩
  | p :: ps, d :: ds, v :: vs, fp, t, h => by
    obtain ⟨f1, f2, e, q, t⟩ := t
    rw [List.all_cons, Bool.and_eq_true] at h
    have hp : p = .own := by simpa using h.1
    subst hp
    rcases q with ⟨_, r⟩ | ⟨n, _⟩
    · exact ⟨v, vs, f1, f2, rfl, e, r, TmpL.own t h.2⟩
    · exact absurd rfl n
  | [], [], _ :: _, _, t, _ => t.elim
  | [], _ :: _, _, _, t, _ => by cases ‹List V› <;> exact t.elim
  | _ :: _, [], _, _, t, _ => t.elim
  | _ :: _, _ :: _, [], _, t, _ => t.elim
end
section
variable {C : Dc} {X : Cx} {W : WX} {σ : L2.St} {H : Hp} {Sh : Addr → Prop} {F : List (List Addr)} {e : Envv} {a b c : Expr} {es : List Expr} {i j k : Ex} {is : Exs} {ms : List Nat} {pos : Pos}
theorem ses_nil : SEs C X [] .nil := by
  intro σ H Sh F e W tk R hx hb
  exact cA_of pa_nil ⟨[], [], e, Sh, F, rfl, rfl, R, Stp.refl, [], rfl, by simp, by simp⟩
theorem sesof_cons {cc cc2 : TA} (step : ∀ {σ H Q}, tCons (cR X a) cc2 σ H Q → cc σ H Q) (mono : ∀ {σ H} {Q Q' : List V → Hp → Prop}, cc2 σ H Q → (∀ v H, Q v H → Q' v H) → cc2 σ H Q') (ha : SE C X a i) (hr : SEsof C X cc2 is) : SEsof C X cc (.cons i is) := by
  intro σ H Sh F e W tk R hx hb'
  have ev : C.evs (.cons i is) e = (match C.ev i e with
    | .ok d p e1 => if p.waits is.mods then (match C.evs is e1 with
      | .ok ds ps e2 => .ok (d :: ds) (p :: ps) e2
      | r => r) else .bad
    | .exc x e1 => .exc x e1
    | .bad => .bad) := by rfl
  refine step ?_
  have m1 : ∀ n ∈ i.mods, n ∈ (Exs.cons i is).mods := fun n hn => List.mem_append_left _ hn
  have m2 : ∀ n ∈ is.mods, n ∈ (Exs.cons i is).mods := fun n hn => List.mem_append_right _ hn
  have nb : C.ev i e ≠ .bad := fun z => hb' (by rw [ev, z])
  refine cR_mono (ha σ H Sh F e W tk R (fun x e' he => ?_) nb) fun v H1 ⟨d, p, e1, Sh1, F1, he, P1⟩ => ?_
  · have q := hx x e' (by rw [ev, he])
    exact fun H' Sh' F' c dd R' S' z => q H' Sh' F' c dd R' (S'.mono m1) z
  rw [he] at ev
  dsimp only at ev
  by_cases hw : p.waits is.mods = true
  · rw [if_pos hw] at ev
    have nb2 : C.evs is e1 ≠ .bad := fun z => hb' (by rw [ev, z])
    refine mono (hr σ H1 Sh1 F1 e1 W tk P1.rel (fun x e' he => ?_) nb2) fun vs H2 ⟨ds, ps, e2, Sh2, F2, he2, hl, P2⟩ => ?_
    · have q := hx x e' (by rw [ev, he])
      exact fun H' Sh' F' c dd R' S' z => q H' Sh' F' c dd R' ((P1.stp.trans S').mono fun n hn => (List.mem_append.mp hn).elim (m1 n) (m2 n)) z
    rw [he2] at ev
    refine ⟨d :: ds, p :: ps, e2, Sh2, F2, ev, by rw [List.length_cons, hl] <;> rfl, P2.rel, (P1.stp.trans P2.stp).mono fun n hn => (List.mem_append.mp hn).elim (m1 n) (m2 n), ?_⟩
    obtain ⟨f2, t2, n2, h2⟩ := P2.tmp
    have base2 : ∀ x ∈ f2, x ∈ F.flatten ∨ H x = none := fun x hx => by
      rcases (h2 x hx).2 with z | z
      · exact P1.stp.fs x z
      · by_cases q : H x = none
        · exact .inr q
        · exact absurd z (P1.stp.al x q)
    by_cases ho : p = .own
    · subst ho
      obtain ⟨f1, r1, n1, h1⟩ := P1.tmp
      have eq : ∀ x ∈ f1, H2 x = H1 x := fun x hx => P2.stp.kp x (h1 x hx).1.1.live (h1 x hx).1.2.2
      refine ⟨f1 ++ f2, ⟨f1, f2, rfl, .inl ⟨rfl, r1.stay (P1.rel.keep P2.stp) _ eq⟩, t2⟩, ?_, fun x hx => ?_⟩
      · refine List.nodup_append.mpr ⟨n1, n2, fun x hx y hy z => ?_⟩
        subst z
        rcases (h2 x hy).2 with z | z
        · exact (h1 x hx).1.2.2 z
        · exact mut_ne (h1 x hx).1.1 z
      · rcases List.mem_append.mp hx with hx | hx
        · refine ⟨⟨by rw [eq x hx]; exact (h1 x hx).1.1, fun z => ?_, fun z => ?_⟩, (h1 x hx).2⟩
          · rcases P2.stp.sn x z with q | q | q
            · exact (h1 x hx).1.2.1 q
            · exact (h1 x hx).1.2.2 q
            · exact mut_ne (h1 x hx).1.1 q
          · rcases P2.stp.fs x z with q | q
            · exact (h1 x hx).1.2.2 q
            · exact mut_ne (h1 x hx).1.1 q
        · exact ⟨(h2 x hx).1, base2 x hx⟩
    · exact ⟨f2, ⟨[], f2, rfl, .inr ⟨ho, rfl, P1.rel.tmp P1.tmp.tmp P2.stp hw⟩, t2⟩, n2, fun x hx => ⟨(h2 x hx).1, base2 x hx⟩⟩
  · rw [if_neg hw] at ev
    exact absurd ev hb'
theorem ses_cons (ha : SE C X a i) (hr : SEs C X es is) (hs : starEach (a :: es) X.env = (false, eval a X.env) :: starEach es X.env := by rfl) : SEs C X (a :: es) (.cons i is) :=
  sesof_cons (fun h => cA_of (pa_cons pe_can pa_can hs) h) (fun h f => cA_mono h f) ha hr
/-! .. by names -/
def cK (X : Cx) (kws : List Keyword) : TA := fun σ H Q => ∀ pos pins s, Inv X pins σ H s → wpAny (model X.prog X.w) X.A (evalAll ((backToKw pos (keywordEach kws X.env)).map (·.2))) (AP X pins σ Q) X.xe s
theorem pk_can {kws : List Keyword} : PK X kws (cK X kws) := ⟨fun pos pins s σ H Q I h => h pos pins s I⟩
theorem cK_of {kws : List Keyword} {t : TA} (h : PK X kws t) {σ : L2.St} {H : Hp} {Q : List V → Hp → Prop} (q : t σ H Q) : cK X kws σ H Q := fun pos pins s I => h.run pos pins s σ H Q I q
theorem cK_mono {kws : List Keyword} {σ : L2.St} {H : Hp} {Q Q' : List V → Hp → Prop} (h : cK X kws σ H Q) (f : ∀ v H, Q v H → Q' v H) : cK X kws σ H Q' := fun pos pins s I => thn (h pos pins s I) fun _ _ ⟨vs, H', I', r, q⟩ => ⟨vs, H', I', r, f _ _ q⟩
abbrev SKs (C : Dc) (X : Cx) (kws : List Keyword) (is : Exs) : Prop := SEsof C X (cK X kws) is
theorem sks_nil : SKs C X [] .nil := by
  intro σ H Sh F e W tk R hx hb
  exact cK_of pk_nil ⟨[], [], e, Sh, F, rfl, rfl, R, Stp.refl, [], rfl, by simp, by simp⟩
theorem sks_cons {kws : List Keyword} {nm : Option Str} {kpos : Pos} (ha : SE C X a i) (hr : SKs C X kws is) : SKs C X (⟨nm, a, kpos⟩ :: kws) (.cons i is) :=
  sesof_cons (fun h => cK_of (pk_cons pe_can pk_can) h) (fun h f => cK_mono h f) ha hr
/-- what becomes of a list of values -/
theorem SEsof.bind {cc : TA} (mono : ∀ {σ H} {Q Q' : List V → Hp → Prop}, cc σ H Q → (∀ v H, Q v H → Q' v H) → cc σ H Q') (h : SEsof C X cc is) (tk : Takes X W) (R : Rel C.io X.K X.mg σ H Sh F e) {f : List D → List Pv → Envv → Res} {r : Res} (hr : (C.evs is e).bind f = r) (hb : r ≠ .bad) (hm : ∀ j ∈ is.mods, j ∈ ms) (hx : ∀ x e', r = .exc x e' → XH C X W σ ms H Sh F e x e') {Q : List V → Hp → Prop}
    (k : ∀ ds ps e1 vs H1 Sh1 F1, ds.length = is.len → PostL C X σ is.mods H Sh F e ds ps e1 vs H1 Sh1 F1 → f ds ps e1 = r → Q vs H1) : cc σ H Q := by
  have nb : C.evs is e ≠ .bad := fun z => hb (by rw [← hr, z] <;> rfl)
  refine mono (h σ H Sh F e W tk R (fun x e' he => ?_) nb) fun v H1 ⟨d, p, e1, Sh1, F1, he, hl, P⟩ => k d p e1 v H1 Sh1 F1 hl P (by rw [he] at hr; exact hr)
  have q := hx x e' (by rw [← hr, he] <;> rfl)
  exact fun H' Sh' F' c dd R' S' z => q H' Sh' F' c dd R' (S'.mono hm) z
theorem SEs.bind (h : SEs C X es is) (tk : Takes X W) (R : Rel C.io X.K X.mg σ H Sh F e) {f : List D → List Pv → Envv → Res} {r : Res} (hr : (C.evs is e).bind f = r) (hb : r ≠ .bad) (hm : ∀ j ∈ is.mods, j ∈ ms) (hx : ∀ x e', r = .exc x e' → XH C X W σ ms H Sh F e x e') {Q : List V → Hp → Prop}
    (k : ∀ ds ps e1 vs H1 Sh1 F1, ds.length = is.len → PostL C X σ is.mods H Sh F e ds ps e1 vs H1 Sh1 F1 → f ds ps e1 = r → Q vs H1) : cA X es σ H Q := SEsof.bind (cc := cA X es) (fun h f => cA_mono h f) h tk R hr hb hm hx k
theorem SKs.bind {kws : List Keyword} (h : SKs C X kws is) (tk : Takes X W) (R : Rel C.io X.K X.mg σ H Sh F e) {f : List D → List Pv → Envv → Res} {r : Res} (hr : (C.evs is e).bind f = r) (hb : r ≠ .bad) (hm : ∀ j ∈ is.mods, j ∈ ms) (hx : ∀ x e', r = .exc x e' → XH C X W σ ms H Sh F e x e') {Q : List V → Hp → Prop}
    (k : ∀ ds ps e1 vs H1 Sh1 F1, ds.length = is.len → PostL C X σ is.mods H Sh F e ds ps e1 vs H1 Sh1 F1 → f ds ps e1 = r → Q vs H1) : cK X kws σ H Q := SEsof.bind (cc := cK X kws) (fun h f => cK_mono h f) h tk R hr hb hm hx k
/-- (a, b, ..) -/
theorem se_tup {x1 : Nat} (h : SEs C X es is) (hl : is.len ≤ 100000 := by decide) : SE C X (.Tuple es x1 pos) (.tup is) := by
  intro σ H Sh F e W tk R hx hb'
  obtain ⟨r, hr⟩ : ∃ r, C.ev (.tup is) e = r := ⟨_, rfl⟩
  rw [hr] at hb'
  refine cR_of (pe_tup pa_can) ?_
  refine h.bind tk R (f := fun ds ps e1 => if D.immL ds then .ok (.tup ds) .own e1 else .bad) (by rw [← hr] <;> rfl) hb' (fun _ h => h) (fun x e' he => hx x e' (hr.trans he)) fun ds ps e1 vs H1 Sh1 F1 hlen P q => ?_
  by_cases hi : D.immL ds = true
  · rw [if_pos hi] at q
    obtain ⟨fp, t, _⟩ := P.tmp
    obtain ⟨fq, r1⟩ := t.rp
    have r1 := r1.nil_of hi
    refine ⟨by rw [r1.length, hlen, ← sz_eq]; exact Nat.le_trans hl (by decide), fun p hp => ?_⟩
    exact ⟨.tup ds, .own, e1, Sh1, F1, by rw [hr, ← q], post_fresh P.rel P.stp (fresh_tup hp r1)⟩
  · rw [if_neg hi] at q
    exact absurd q.symm hb'
/-- a new tracked object of own parts -/
theorem post_obj {H1 : Hp} {Sh1 : Addr → Prop} {F1 : List (List Addr)} {e1 : Envv} {d : D} {o : HO} {p : Addr} {fp : List Addr} (R1 : Rel C.io X.K X.mg σ H1 Sh1 F1 e1) (S1 : Stp ms H Sh F e H1 Sh1 F1 e1) (hp : H1 p = none) (mo : Mt (some o))
    (n1 : fp.Nodup) (h1 : ∀ a ∈ fp, (Mt (H1 a) ∧ ¬ Sh1 a ∧ a ∉ F1.flatten) ∧ (a ∈ F.flatten ∨ H a = none)) (r : Keep H1 (upd H1 p o) → (∀ a ∈ fp, upd H1 p o a = H1 a) → Rp X.K X.mg (upd H1 p o) d (.ref p) (p :: fp)) :
    Post C X σ ms H Sh F e d .own e1 (.ref p) (upd H1 p o) Sh1 F1 := by
  have g : ∀ a, H1 a ≠ none → upd H1 p o a = H1 a := fun a ha => upd_ne fun z => ha (by rw [z]; exact hp)
  have k := upd_keep (o := o) hp
  have eF : ∀ a ∈ F1.flatten, upd H1 p o a = H1 a := fun a ha => g a (mut_ne (R1.mu a ha).1)
  have eS : ∀ a, Sh1 a → upd H1 p o a = H1 a := fun a ha => g a (R1.sa a ha).1
  have gx : ∀ b u, H1 b = some u → upd H1 p o b = some u := fun b u q => (g b (by rw [q]; exact fun z => by cases z)).trans q
  have ef : ∀ a ∈ fp, upd H1 p o a = H1 a := fun a ha => g a (mut_ne (h1 a ha).1.1)
  have S2 : Stp [] H1 Sh1 F1 e1 (upd H1 p o) Sh1 F1 e1 := ⟨fun a h _ => g a h.1, fun a h => by rw [g a h]; exact h, fun a h => .inl h, fun _ h => h, fun _ h => .inl h, fun i _ => ⟨rfl, rfl, fun a ha => eF a (mem_getD ha)⟩⟩
  have hpH : H p = none := by
    by_cases q : H p = none
    · exact q
    · exact absurd hp (S1.al p q)
  refine ⟨⟨R1.le, R1.lF, fun i d hd => ?_, fun i d hd => ?_, R1.nd, fun a ha => by rw [eF a ha]; exact R1.mu a ha, fun a ha => by rw [eS a ha]; exact R1.sa a ha, R1.io, R1.tb.ext gx⟩, (S1.trans S2).mono fun i hi => by simpa using hi, p :: fp, r k ef, ?_, fun a ha => ?_⟩
  · obtain ⟨v, h1, h2⟩ := R1.ow i d hd
    exact ⟨v, h1, h2.stay k _ fun a ha => eF a (mem_getD ha)⟩
  · obtain ⟨v, fp, h1, h2, h3⟩ := R1.sh i d hd
    exact ⟨v, fp, h1, h2.stay k _ fun a ha => eS a (h3 a ha), h3⟩
  · exact List.nodup_cons.mpr ⟨fun z => mut_ne (h1 p z).1.1 hp, n1⟩
  · rcases List.mem_cons.mp ha with z | z
    · subst z
      exact ⟨⟨by rw [upd_same]; exact mo, fun z => (R1.sa a z).1 hp, fun z => mut_ne (R1.mu a z).1 hp⟩, .inr hpH⟩
    · refine ⟨⟨by rw [ef a z]; exact (h1 a z).1.1, (h1 a z).1.2.1, (h1 a z).1.2.2⟩, (h1 a z).2⟩
/-- [a, b, ..] -/
theorem se_lst (h : SEs C X es is) (hl : is.len ≤ 100000 := by decide) : SE C X (.List es pos) (.lst is) := by
  intro σ H Sh F e W tk R hx hb'
  obtain ⟨r, hr⟩ : ∃ r, C.ev (.lst is) e = r := ⟨_, rfl⟩
  rw [hr] at hb'
  refine cR_of (pe_lst pa_can) ?_
  refine h.bind tk R (f := fun ds ps e1 => if ps.all (· == .own) then .ok (.lst ds) .own e1 else .bad) (by rw [← hr] <;> rfl) hb' (fun _ h => h) (fun x e' he => hx x e' (hr.trans he)) fun ds ps e1 vs H1 Sh1 F1 hlen P q => ?_
  by_cases hi : ps.all (· == .own) = true
  · rw [if_pos hi] at q
    obtain ⟨fp, t, n1, h1⟩ := P.tmp
    have r1 := t.own hi
    refine ⟨by rw [r1.length, hlen, ← sz_eq]; exact Nat.le_trans hl (by decide), fun p hp => ?_⟩
    exact ⟨.lst ds, .own, e1, Sh1, F1, by rw [hr, ← q], post_obj P.rel P.stp hp True.intro n1 h1 fun k ef => ⟨p, vs, fp, rfl, upd_same, rfl, r1.stay k _ ef⟩⟩
  · rw [if_neg hi] at q
    exact absurd q.symm hb'

/-! ### subscripts -/
def rX (X : Cx) : R2 := fun v u H Q => ∃ x y z fp fq, Rp X.K X.mg H x v fp ∧ Rp X.K X.mg H y u fq ∧ ixD x y = some z ∧ ∀ w fr, Rp X.K X.mg H z w fr → (∀ a ∈ fr, a ∈ fp) → Q w H
theorem keyD_same {k : Key} {y : D} (h : y.key = true) : (keyD k).same y = true ↔ y = keyD k := by
  cases k with
  | inl i =>
    cases y with
    | int j => show (i == j) = true ↔ _; rw [beq_iff_eq]; exact ⟨fun e => by rw [e] <;> rfl, fun e => by cases e; rfl⟩
    | str j => show false = true ↔ _; exact ⟨fun e => (Bool.noConfusion e), fun e => by cases e⟩
    | _ => cases h
  | inr i =>
    cases y with
    | int j => show false = true ↔ _; exact ⟨fun e => (Bool.noConfusion e), fun e => by cases e⟩
    | str j => show (i == j) = true ↔ _; rw [beq_iff_eq]; exact ⟨fun e => by rw [e] <;> rfl, fun e => by cases e; rfl⟩
    | _ => cases h
theorem keyD_inj {k k' : Key} (h : keyD k = keyD k') : k = k' := by
  cases k <;> cases k' <;> simp [keyD] at h <;> simp [h]
theorem key_of {K : PySem.W.Frag} {mg : Str → Option Value} {y : D} {u : V} {fq : List Addr} (h : y.key = true) (r : Rp K mg H y u fq) : ∃ k, y = keyD k ∧ u = kV k := by
  cases y <;> simp [D.key] at h
  · exact ⟨.inl _, rfl, r.1⟩
  · exact ⟨.inr _, rfl, r.1⟩
theorem look_val {K : PySem.W.Frag} {mg : Str → Option Value} {k : Key} : ∀ {kvs : List (Key × V)} {vs : List D} {fq : List Addr} {z : D}, RpL K mg H vs (kvs.map (·.2)) fq → look (kvs.map fun p => keyD p.1) (keyD k) vs = some z → ∃ w fr, valV kvs k = some w ∧ Rp K mg H z w fr ∧ ∀ a ∈ fr, a ∈ fq
  | [], vs, _, z, _, h => by cases vs <;> simp [look] at h
  | p :: kvs, [], _, z, _, h => by simp [look] at h
  | p :: kvs, d :: vs, fq, z, r, h => by
    obtain ⟨v, vr, f1, f2, e1, rfl, r1, r2⟩ := r
    rw [List.map_cons, List.cons.injEq] at e1
    obtain ⟨rfl, rfl⟩ := e1
    have hk : (keyD k).key = true := by cases k <;> rfl
    simp only [List.map_cons, look] at h
    split at h
    · rename_i hs
      cases h
      have e := keyD_inj ((keyD_same hk).mp hs)
      exact ⟨p.2, f1, valV_pos e.symm, r1, fun a ha => List.mem_append_left _ ha⟩
    · rename_i hs
      have ne : ¬ p.1 = k := fun q => hs ((keyD_same hk).mpr (by rw [q]))
      obtain ⟨w, fr, h1, h2, h3⟩ := look_val r2 h
      exact ⟨w, fr, by rw [valV_neg ne]; exact h1, h2, fun a ha => List.mem_append_right _ (h3 a ha)⟩
theorem rpl_at {K : PySem.W.Frag} {mg : Str → Option Value} {xs : List D} {vs : List V} {fp : List Addr} {n : Int} {z : D} (r : RpL K mg H xs vs fp) (h : ((ixN xs.length n).bind fun j => xs[j]?) = some z) : ∃ w fr, atI vs n = some w ∧ Rp K mg H z w fr ∧ ∀ a ∈ fr, a ∈ fp := by
  obtain ⟨j, h1, h2⟩ := Option.bind_eq_some_iff.mp h
  obtain ⟨w, fr, h3, h4, h5⟩ := r.get h2
  exact ⟨w, fr, by unfold atI; rw [r.length, h1]; exact h3, h4, h5⟩
theorem ix_all (hu : Xo X) : IxR X (rX X) := by
  intro value slice pins s σ H v u vv uu Q I r1 r2 h hs
  obtain ⟨x, y, z, fp, fq, rx, ry, hz, q⟩ := h
  cases x with
  | lst xs =>
    cases y with
    | int n =>
      obtain ⟨a, vs, f1, rfl, ha, rfl, rl⟩ := rx
      obtain ⟨w', fr, h1, h2, h3⟩ := rpl_at rl hz
      rw [ry.1] at r2
      exact ix_list value slice pins s σ H _ _ vv uu Q I r1 r2 ⟨a, vs, n, w', rfl, rfl, SqL.of ha, h1, q w' fr h2 fun b hb => List.mem_cons_of_mem _ (h3 b hb)⟩ hs
    | _ => simp [ixD] at hz
  | tup xs =>
    cases y with
    | int n =>
      obtain ⟨a, vs, rfl, ha, rl⟩ := rx
      obtain ⟨w', fr, h1, h2, h3⟩ := rpl_at rl hz
      rw [ry.1] at r2
      exact ix_tup value slice pins s σ H _ _ vv uu Q I r1 r2 ⟨a, vs, n, w', rfl, rfl, ha, h1, q w' fr h2 h3⟩ hs
    | _ => simp [ixD] at hz
  | dct ks xs =>
    have hz' : (if y.key then look ks y xs else none) = some z := by cases y <;> exact hz
    split at hz'
    · rename_i hk
      obtain ⟨k, rfl, rfl⟩ := key_of hk ry
      obtain ⟨a, kvs, f1, rfl, ha, rfl, rfl, rl⟩ := rx
      obtain ⟨w', fr, h1, h2, h3⟩ := look_val rl hz'
      cases r1
      have g : DGet H a (kV k) (some w') := by rw [← h1]; exact DGet.k ha
      exact tail_any (dict_typeIs I g) PySem.F.slot_dict_getitem.lookup (d_getItem (by have := hu.un; omega) I g r2 fun w2 s' I' rw' => ⟨w', H, I', rw', q w' fr h2 fun b hb => List.mem_cons_of_mem _ (h3 b hb)⟩) hs
    · cases hz'
  | _ => cases y <;> simp [ixD] at hz
/-- what is handed on: a part of what stands -/
def PvIn (Sh : Addr → Prop) (F : List (List Addr)) (p : Pv) (a : Addr) : Prop := match p with | .own => True | .shr => Sh a | .bor r => a ∈ F.getD r []
theorem part_tmp {K : PySem.W.Frag} {mg : Str → Option Value} {H0 : Hp} {F0 : List (List Addr)} {p : Pv} {z : D} {w : V} {fr fp : List Addr} (t : ∀ a ∈ fp, PvIn Sh F p a) (r : Rp K mg H z w fr) (hs : ∀ a ∈ fr, a ∈ fp)
    {r0 : Res} {e2 : Envv} (q : keepR z p e2 = r0) (hb : r0 ≠ .bad) : ∃ p', r0 = .ok z p' e2 ∧ TmpO H0 F0 K mg H Sh F p' z w := by
  unfold keepR at q
  by_cases hi : z.imm = true
  · rw [if_pos hi] at q
    have e := Rp.imm z hi r
    subst e
    exact ⟨.own, q.symm, [], r, by simp, by simp⟩
  · rw [if_neg hi] at q
    cases p with
    | own => exact absurd q.symm hb
    | shr => exact ⟨.shr, q.symm, fr, r, fun a ha => t a (hs a ha)⟩
    | bor n => exact ⟨.bor n, q.symm, fr, r, fun a ha => t a (hs a ha)⟩
theorem Tmp.fp {K : PySem.W.Frag} {mg : Str → Option Value} {p : Pv} {d : D} {v : V} (t : Tmp K mg H Sh F p d v) : ∃ fp, Rp K mg H d v fp ∧ ∀ a ∈ fp, PvIn Sh F p a := by
  cases p with
  | own => obtain ⟨fp, r, _⟩ := t; exact ⟨fp, r, fun _ _ => True.intro⟩
  | shr => exact t
  | bor n => exact t
theorem se_ix (hu : Xo X) (ha : SE C X a i) (hb : SE C X b j) (hs : PlainIx b := by intro _ _; rfl) : SE C X (.Subscript a b pos) (.ix i j) := by
  intro σ H Sh F e W tk R hx hb'
  obtain ⟨r, hr⟩ : ∃ r, C.ev (.ix i j) e = r := ⟨_, rfl⟩
  rw [hr] at hb'
  refine cR_of (pe_ix (ix_all hu) pe_can pe_can hs) ?_
  refine ha.bind2 hb tk R (f := fun x p y q e2 => match ixD x y with
      | some d => keepR d p e2
      | none => .bad) hr hb' (fun _ h => h) (fun x e' he => hx x e' (hr.trans he)) fun x p y q e2 v u H2 Sh2 F2 R2 S2 T1 T2 q2 => ?_
  cases hz : ixD x y with
  | none => rw [hz] at q2; exact absurd q2.symm hb'
  | some z =>
    rw [hz] at q2
    obtain ⟨fp, r1, ht⟩ := T1.fp
    obtain ⟨fq, r2⟩ := T2.tmp.rp
    refine ⟨x, y, z, fp, fq, r1, r2, hz, fun w' fr hw hsub => ?_⟩
    obtain ⟨p', e1, t'⟩ := part_tmp (H0 := H) (F0 := F) ht hw hsub q2 hb'
    exact ⟨z, p', e2, Sh2, F2, by rw [hr, e1], R2, S2, t'⟩
end
end DL
end
section
set_option Elab.async false
set_option linter.all false
set_option maxRecDepth 100000
/-! D layer, 9: slices, fields, built-in functions. -/
namespace DL
open PySem PySem.Spec PyProof.Rows L2
section
variable {C : Dc} {X : Cx} {W : WX} {σ : L2.St} {H : Hp} {Sh : Addr → Prop} {F : List (List Addr)} {e : Envv} {a b c : Expr} {es : List Expr} {i j k l : Ex} {is : Exs} {ms : List Nat} {pos : Pos}
/-! ### slices -/
def rS (X : Cx) : V → Option Int → Option Int → Hp → VK → Prop := fun v lo hi H Q => ∃ x z fp, Rp X.K X.mg H x v fp ∧ slP x lo hi = some z ∧ z.flat = true ∧ ∀ w H', Fresh X.K X.mg H z w H' → Q w H'
theorem RpL.drop {K : PySem.W.Frag} {mg : Str → Option Value} : ∀ {ds : List D} {vs : List V} {fp : List Addr} (n : Nat), RpL K mg H ds vs fp → ∃ fq, RpL K mg H (ds.drop n) (vs.drop n) fq
  | ds, vs, fp, 0, r => ⟨fp, r⟩
  | [], vs, fp, n + 1, r => by
    obtain ⟨rfl, rfl⟩ := r
    exact ⟨[], rfl, rfl⟩
  | d :: ds, vs, fp, n + 1, r => by
    obtain ⟨v, vr, f1, f2, rfl, rfl, r1, r2⟩ := r
    exact RpL.drop n r2
theorem RpL.take {K : PySem.W.Frag} {mg : Str → Option Value} : ∀ {ds : List D} {vs : List V} {fp : List Addr} (n : Nat), RpL K mg H ds vs fp → ∃ fq, RpL K mg H (ds.take n) (vs.take n) fq
  | ds, vs, fp, 0, r => ⟨[], rfl, rfl⟩
  | [], vs, fp, n + 1, r => by
    obtain ⟨rfl, rfl⟩ := r
    exact ⟨[], rfl, rfl⟩
  | d :: ds, vs, fp, n + 1, r => by
    obtain ⟨v, vr, f1, f2, rfl, rfl, r1, r2⟩ := r
    obtain ⟨fq, r3⟩ := RpL.take n r2
    exact ⟨f1 ++ fq, v, vr.take n, f1, fq, rfl, rfl, r1, r3⟩
theorem RpL.cut {K : PySem.W.Frag} {mg : Str → Option Value} {ds : List D} {vs : List V} {fp : List Addr} {lo hi : Option Int} (r : RpL K mg H ds vs fp) (h : D.immL (cut ds lo hi) = true) : RpL K mg H (cut ds lo hi) (cutV vs lo hi) [] := by
  obtain ⟨f1, r1⟩ := r.drop (HT.sIx ds.length 0 lo)
  obtain ⟨f2, r2⟩ := r1.take (HT.sIx ds.length ds.length hi - HT.sIx ds.length 0 lo)
  have e : cutV vs lo hi = (vs.drop (HT.sIx ds.length 0 lo)).take (HT.sIx ds.length ds.length hi - HT.sIx ds.length 0 lo) := by unfold cutV; rw [r.length]
  rw [e]
  exact r2.nil_of h
theorem sl_all : SlR X (rS X) := by
  intro pins s σ H v vv vl vu lo hi sl Q I rx hs pl pu h
  obtain ⟨x, z, fp, r, hz, hf, q⟩ := h
  cases x with
  | lst xs =>
    cases hz
    obtain ⟨a, vs, f1, rfl, ha, rfl, rl⟩ := r
    exact sl_list pins s σ H _ vv vl vu lo hi sl Q I rx hs pl pu ⟨a, vs, rfl, SqL.of ha, fun p hp => q _ _ (fresh_lst hp (rl.cut hf))⟩
  | tup xs =>
    cases hz
    obtain ⟨a, vs, rfl, ha, rl⟩ := r
    refine sl_tupA pins s σ H _ vv vl vu lo hi sl Q I rx hs pl pu ⟨a, vs, rfl, ha, fun hw => ?_, fun _ p hp => q _ _ (fresh_tup hp (rl.cut hf))⟩
    have e : cut xs lo hi = xs := by
      have h1 : HT.sIx xs.length 0 lo = 0 := by rw [← rl.length]; exact hw.1
      have h2 : HT.sIx xs.length xs.length hi = xs.length := by rw [← rl.length]; exact hw.2
      unfold cut
      rw [h1, h2]
      simp
    rw [e] at q hf
    exact q _ _ (Fresh.same ⟨a, vs, rfl, ha, rl⟩ hf)
  | _ => cases hz
/-- a part of a slice -/
def SO (C : Dc) (X : Cx) (o : Option Expr) (i : Ex) : Prop := match o with
  | none => i = .con .non
  | some e => SE C X e i ∧ ∀ d, partI i d = (match d with | .int n => some (some n) | _ => none)
def cO (X : Cx) (o : Option Expr) : TO := match o with
  | none => tNoPart
  | some e => tPart (cR X e)
theorem po_can {o : Option Expr} : PO X o (cO X o) := by
  cases o with
  | none => exact po_none
  | some e => exact po_some pe_can
theorem so_none : SO C X none (.con .non) := rfl
theorem so_some (h : SE C X a i) (hi : ∀ d, partI i d = (match d with | .int n => some (some n) | _ => none) := by intro _; rfl) : SO C X (some a) i := ⟨h, hi⟩
theorem SO.bind {o : Option Expr} (h : SO C X o i) (tk : Takes X W) (R : Rel C.io X.K X.mg σ H Sh F e) {f : D → Pv → Envv → Res} {r : Res} (hr : (C.ev i e).bind f = r) (hb : r ≠ .bad) (hm : ∀ j ∈ i.mods, j ∈ ms) (hx : ∀ x e', r = .exc x e' → XH C X W σ ms H Sh F e x e') {Q : Option Int → Hp → Prop}
    (hp : ∀ d p e1, f d p e1 = r → (partI i d).isSome = true)
    (k : ∀ d p e1 H1 Sh1 F1 z, Rel C.io X.K X.mg σ H1 Sh1 F1 e1 → Stp i.mods H Sh F e H1 Sh1 F1 e1 → f d p e1 = r → partI i d = some z → Q z H1) : cO X o σ H Q := by
  cases o with
  | none =>
    have hi : i = .con .non := h
    subst hi
    exact k .non .own e H Sh F none R Stp.refl hr rfl
  | some a =>
    obtain ⟨h, hi⟩ : SE C X a i ∧ ∀ d, partI i d = (match d with | .int n => some (some n) | _ => none) := h
    refine SE.bind h tk R hr hb hm hx fun d p e1 v H1 Sh1 F1 P q => ?_
    have h1 := hp d p e1 q
    rw [hi d] at h1
    obtain ⟨fp, r1⟩ := P.tmp.tmp.rp
    cases d with
    | int n => exact ⟨n, r1.1, k _ p e1 H1 Sh1 F1 (some n) P.rel P.stp q (hi _)⟩
    | _ => cases h1
theorem se_sl {lo hi : Option Expr} {p2 : Pos} (ha : SE C X a i) (hl : SO C X lo j) (hh : SO C X hi k) : SE C X (.Subscript a (.Slice lo hi none p2) pos) (.sl i j k) := by
  intro σ H Sh F e W tk R hx hb'
  obtain ⟨r, hr⟩ : ∃ r, C.ev (.sl i j k) e = r := ⟨_, rfl⟩
  rw [hr] at hb'
  refine cR_of (pe_slice sl_all pe_can po_can po_can) ?_
  have mi : ∀ n, n ∈ i.mods → n ∈ (Ex.sl i j k).mods := fun n hn => List.mem_append_left _ hn
  have mj : ∀ n, n ∈ j.mods → n ∈ (Ex.sl i j k).mods := fun n hn => List.mem_append_right _ (List.mem_append_left _ hn)
  have mk : ∀ n, n ∈ k.mods → n ∈ (Ex.sl i j k).mods := fun n hn => List.mem_append_right _ (List.mem_append_right _ hn)
  refine ha.bind tk R (f := fun x p e1 => if p.waits (j.mods ++ k.mods) then (C.ev j e1).bind fun y _ e2 => match partI j y with
      | none => .bad
      | some lo => (C.ev k e2).bind fun z _ e3 => match partI k z with
        | none => .bad
        | some hi => freshR (slP x lo hi) e3 else .bad) (by rw [← hr] <;> rfl) hb' mi (fun x e' he => hx x e' (hr.trans he)) fun x p e1 v H1 Sh1 F1 P1 q1 => ?_
  split at q1
  case isFalse => exact absurd q1.symm hb'
  rename_i w1
  refine hl.bind tk P1.rel (f := fun y _ e2 => match partI j y with
      | none => .bad
      | some lo => (C.ev k e2).bind fun z _ e3 => match partI k z with
        | none => .bad
        | some hi => freshR (slP x lo hi) e3) q1 hb' mj (fun x e' he => (hx x e' (hr.trans he)).step P1.stp mi fun _ h => h) (fun d p e1 q => ?_) fun y _ e2 H2 Sh2 F2 l R2 S2 q2 hy => ?_
  · cases z : partI j d with
    | none => rw [z] at q; exact absurd q.symm hb'
    | some _ => rfl
  rw [hy] at q2
  have S12 := P1.stp.trans S2
  have m12 : ∀ n, n ∈ i.mods ++ j.mods → n ∈ (Ex.sl i j k).mods := fun n hn => (List.mem_append.mp hn).elim (mi n) (mj n)
  refine hh.bind tk R2 (f := fun z _ e3 => match partI k z with
        | none => .bad
        | some hi => freshR (slP x l hi) e3) q2 hb' mk (fun x e' he => (hx x e' (hr.trans he)).step S12 m12 fun _ h => h) (fun d p e1 q => ?_) fun y _ e3 H3 Sh3 F3 h R3 S3 q3 hz => ?_
  · cases z : partI k d with
    | none => rw [z] at q; exact absurd q.symm hb'
    | some _ => rfl
  rw [hz] at q3
  obtain ⟨z, h1, h2, h3⟩ := freshR_ok q3 hb'
  have T3 := P1.rel.tmp P1.tmp.tmp (S2.trans S3) w1
  obtain ⟨fp, r1⟩ := T3.rp
  exact ⟨x, z, fp, r1, h1, h2, fun w' H' f => ⟨z, .own, e3, Sh3, F3, by rw [hr, h3], post_fresh R3 ((S12.trans S3).mono fun n hn => (List.mem_append.mp hn).elim (m12 n) (mk n)) f⟩⟩

/-! ### fields -/
/-- what is asked of a class and an attribute -/
def ClsF (K : PySem.W.Frag) (mg : Str → Option Value) (x f : Str) : Prop := ∀ D, mg x = some (.ref D) → Cls K D ∧ NoAttr K D f
theorem lookF_at {K : PySem.W.Frag} {mg : Str → Option Value} {f : Str} : ∀ {gs : List (Str × V)} {vs : List D} {fq : List Addr} {z : D}, RpL K mg H vs (gs.map (·.2)) fq → lookF (gs.map (·.1)) f vs = some z → ∃ w fr, gs.lookup f = some w ∧ Rp K mg H z w fr ∧ ∀ a ∈ fr, a ∈ fq
  | [], vs, _, z, _, h => by cases vs <;> simp [lookF] at h
  | p :: gs, [], _, z, _, h => by simp [lookF] at h
  | p :: gs, d :: vs, fq, z, r, h => by
    obtain ⟨v, vr, f1, f2, e1, rfl, r1, r2⟩ := r
    rw [List.map_cons, List.cons.injEq] at e1
    obtain ⟨rfl, rfl⟩ := e1
    simp only [List.map_cons, lookF] at h
    split at h
    · rename_i hs
      cases h
      exact ⟨p.2, f1, by
        have hb : (f == p.1) = true := beq_iff_eq.mpr hs.symm
        show List.lookup f (p :: gs) = some p.2
        simp only [List.lookup, hb], r1, fun a ha => List.mem_append_left _ ha⟩
    · rename_i hs
      obtain ⟨w, fr, h1, h2, h3⟩ := lookF_at r2 h
      refine ⟨w, fr, ?_, h2, fun a ha => List.mem_append_right _ (h3 a ha)⟩
      have hb : (f == p.1) = false := beq_eq_false_iff_ne.mpr (Ne.symm hs)
      show List.lookup f (p :: gs) = some w
      simp only [List.lookup, hb]
      exact h1
theorem se_fld {cls f : Str} (hc : ClsF X.K X.mg cls f) (ha : SE C X a i) (hb : attributeBase a f X.env (eval a X.env) = eval a X.env := by rfl) : SE C X (.Attribute a f pos) (.fld i cls f) := by
  intro σ H Sh F e W tk R hx hb'
  obtain ⟨r, hr⟩ : ∃ r, C.ev (.fld i cls f) e = r := ⟨_, rfl⟩
  rw [hr] at hb'
  refine cR_of (pe_fld pe_can hb) ?_
  refine ha.bind tk R (f := fun x p e1 => match fldD x cls f with
      | some d => keepR d p e1
      | none => .bad) (by rw [← hr] <;> rfl) hb' (fun _ h => h) (fun x e' he => hx x e' (hr.trans he)) fun x p e1 v H1 Sh1 F1 P1 q1 => ?_
  cases hz : fldD x cls f with
  | none => rw [hz] at q1; exact absurd q1.symm hb'
  | some z =>
    rw [hz] at q1
    obtain ⟨fp, r1, ht⟩ := P1.tmp.tmp.fp
    cases x with
    | obj C' fs vs =>
      simp only [fldD] at hz
      split at hz
      case isFalse => cases hz
      rename_i ec
      subst ec
      obtain ⟨q, c, dx, gs, fq, rfl, hm, hq, rfl, rfl, rl⟩ := r1
      obtain ⟨w', fr, h1, h2, h3⟩ := lookF_at rl hz
      obtain ⟨p', e1', t'⟩ := part_tmp (H0 := H) (F0 := F) ht h2 (fun b hb => List.mem_cons_of_mem _ (h3 b hb)) q1 hb'
      exact ⟨q, c, dx, gs, w', rfl, hq, (hc c hm).1, (hc c hm).2, h1, z, p', e1, Sh1, F1, by rw [hr, e1'], P1.rel, P1.stp, t'⟩
    | _ => cases hz

/-! ### built-in functions -/
def rBi (X : Cx) (f : Bf) : List V → Hp → VK → Prop := fun vs H Q => ∃ ds z fq, RpL X.K X.mg H ds vs fq ∧ biD f ds = some z ∧ z.flat = true ∧ ∀ w H', Fresh X.K X.mg H z w H' → Q w H'
theorem SEs.bi (h : SEs C X es is) {f : Bf} (tk : Takes X W) (R : Rel C.io X.K X.mg σ H Sh F e) (hx : ∀ x e', C.ev (.bi f is) e = .exc x e' → XH C X W σ (Ex.bi f is).mods H Sh F e x e') (hb : C.ev (.bi f is) e ≠ .bad) :
    tCB (rBi X f) (cA X es) σ H fun v H' => ∃ d p e' Sh' F', C.ev (.bi f is) e = .ok d p e' ∧ Post C X σ (Ex.bi f is).mods H Sh F e d p e' v H' Sh' F' := by
  obtain ⟨r, hr⟩ : ∃ r, C.ev (.bi f is) e = r := ⟨_, rfl⟩
  rw [hr] at hb
  refine h.bind tk R (f := fun ds ps e1 => freshR (biD f ds) e1) (by rw [← hr] <;> rfl) hb (fun _ h => h) (fun x e' he => hx x e' (hr.trans he)) fun ds ps e1 vs H1 Sh1 F1 hlen P q => ?_
  obtain ⟨z, h1, h2, h3⟩ := freshR_ok q hb
  obtain ⟨fp, t, _⟩ := P.tmp
  obtain ⟨fq, r1⟩ := t.rp
  exact ⟨ds, z, fq, r1, h1, h2, fun w' H' f => ⟨z, .own, e1, Sh1, F1, by rw [hr, h3], post_fresh P.rel P.stp f⟩⟩
theorem se_bi {x : Str} {g : String} {f : Bf} {p : Pos} (hc : CallR X (.builtin g) (rBi X f)) (hg : Gl X x) (hm : X.mg x = none) (hv : bootBuiltins x = some (.builtin g)) (h : SEs C X (a :: es) is) (hn : x ≠ "__name__" := by decide) (hdb : (x == ("__debug__" : Str)) = false := by decide)
    (he : starEach (a :: es) X.env = (false, eval a X.env) :: starEach es X.env := by rfl) (hpl : (backTo pos (starEach es X.env)).any (·.1) = false := by rfl) : SE C X (.Call (.Name x p) (a :: es) [] pos) (.bi f is) :=
  fun σ H Sh F e W tk R hx hb => cR_of (pe_callB hc hg hm hv pa_can hn hdb he hpl) (h.bi tk R hx hb)
theorem se_bt {x : Str} {g : String} {f : Bf} {p : Pos} (hc : CallR X (.type g) (rBi X f)) (hg : Gl X x) (hm : X.mg x = none) (hv : bootBuiltins x = some (.type g)) (h : SEs C X (a :: es) is) (hn : x ≠ "__name__" := by decide) (hdb : (x == ("__debug__" : Str)) = false := by decide)
    (he : starEach (a :: es) X.env = (false, eval a X.env) :: starEach es X.env := by rfl) (hpl : (backTo pos (starEach es X.env)).any (·.1) = false := by rfl) : SE C X (.Call (.Name x p) (a :: es) [] pos) (.bi f is) :=
  fun σ H Sh F e W tk R hx hb => cR_of (pe_callTy hc hg hm hv pa_can hn hdb he hpl) (h.bi tk R hx hb)
/-- one argument -/
theorem rpl_one {K : PySem.W.Frag} {mg : Str → Option Value} {d : D} {vs : List V} {fq : List Addr} (r : RpL K mg H [d] vs fq) : ∃ v, vs = [v] ∧ ∃ fp, Rp K mg H d v fp := by
  obtain ⟨v, vr, f1, f2, rfl, rfl, r1, r2⟩ := r
  obtain ⟨rfl, _⟩ := r2
  exact ⟨v, rfl, f1, r1⟩
theorem rpl_two {K : PySem.W.Frag} {mg : Str → Option Value} {d d2 : D} {vs : List V} {fq : List Addr} (r : RpL K mg H [d, d2] vs fq) : ∃ v u, vs = [v, u] ∧ (∃ fp, Rp K mg H d v fp) ∧ ∃ fp, Rp K mg H d2 u fp := by
  obtain ⟨v, vr, f1, f2, rfl, rfl, r1, r2⟩ := r
  obtain ⟨u, rfl, h2⟩ := rpl_one r2
  exact ⟨v, u, rfl, ⟨f1, r1⟩, h2⟩
theorem blsOf_map : ∀ {xs : List D} {ns : List Bool}, blsOf xs = some ns → xs = ns.map .bl
  | [], ns, h => by cases h; rfl
  | x :: xs, ns, h => by
    cases x <;> simp only [blsOf, reduceCtorEq] at h
    obtain ⟨ms, h1, rfl⟩ := Option.map_eq_some_iff.mp h
    rw [blsOf_map h1] <;> rfl
theorem rpl_ints {K : PySem.W.Frag} {mg : Str → Option Value} : ∀ {ns : List Int} {vs : List V} {fq : List Addr}, RpL K mg H (ns.map .int) vs fq → vs = ns.map .int
  | [], vs, _, r => r.1
  | n :: ns, vs, _, r => by
    obtain ⟨v, vr, f1, f2, rfl, rfl, r1, r2⟩ := r
    rw [r1.1, rpl_ints r2] <;> rfl
theorem ints_rpl {K : PySem.W.Frag} {mg : Str → Option Value} : ∀ (ns : List Int), RpL K mg H (ns.map .int) (ns.map .int) []
  | [] => ⟨rfl, rfl⟩
  | n :: ns => ⟨.int n, ns.map .int, [], [], rfl, rfl, ⟨rfl, rfl⟩, ints_rpl ns⟩
theorem rpl_bls {K : PySem.W.Frag} {mg : Str → Option Value} : ∀ {ns : List Bool} {vs : List V} {fq : List Addr}, RpL K mg H (ns.map .bl) vs fq → vs = ns.map .bl
  | [], vs, _, r => r.1
  | n :: ns, vs, _, r => by
    obtain ⟨v, vr, f1, f2, rfl, rfl, r1, r2⟩ := r
    rw [r1.1, rpl_bls r2] <;> rfl
theorem insI_perm (x : Int) : ∀ ys : List Int, (insI x ys).Perm (x :: ys)
  | [] => .refl _
  | y :: ys => by
    unfold insI
    split
    · exact .refl _
    · exact ((insI_perm x ys).cons y).trans (.swap x y ys)
theorem sortI_perm : ∀ xs : List Int, (sortI xs).Perm xs
  | [] => .refl _
  | x :: xs => (insI_perm x (sortI xs)).trans ((sortI_perm xs).cons x)
theorem insI_sorted (x : Int) : ∀ {ys : List Int}, ys.Pairwise (· ≤ ·) → (insI x ys).Pairwise (· ≤ ·)
  | [], _ => List.pairwise_singleton _ _
  | y :: ys, h => by
    unfold insI
    rw [List.pairwise_cons] at h
    split
    · rename_i hxy
      exact List.pairwise_cons.mpr ⟨fun z hz => by
        rcases List.mem_cons.mp hz with e | e
        · rw [e]; exact hxy
        · exact Int.le_trans hxy (h.1 z e), List.pairwise_cons.mpr h⟩
    · rename_i hxy
      refine List.pairwise_cons.mpr ⟨fun z hz => ?_, insI_sorted x h.2⟩
      rcases List.mem_cons.mp ((insI_perm x ys).mem_iff.mp hz) with e | e
      · rw [e]; omega
      · exact h.1 z e
theorem sortI_sorted : ∀ xs : List Int, (sortI xs).Pairwise (· ≤ ·)
  | [] => List.Pairwise.nil
  | x :: xs => insI_sorted x (sortI_sorted xs)
theorem sorted_uniq : ∀ {xs ys : List Int}, xs.Perm ys → xs.Pairwise (· ≤ ·) → ys.Pairwise (· ≤ ·) → xs = ys := fun h h1 h2 => h.eq_of_pairwise (fun a b _ _ => Int.le_antisymm) h1 h2
theorem cb_abs : CallR X (.builtin "abs") (rBi X .abs) := by
  intro pins s σ H vs us Q I r h
  obtain ⟨ds, z, fq, rl, hz, hf, q⟩ := h
  have hz : absD ds = some z := hz
  unfold absD at hz
  split at hz <;> cases hz
  obtain ⟨v, rfl, fp, r1⟩ := rpl_one rl
  rw [r1.1] at r
  exact call_abs pins s σ H _ us Q I r ⟨_, rfl, q _ _ fresh_int⟩
theorem cb_int : CallR X (.type "int") (rBi X .int) := by
  intro pins s σ H vs us Q I r h
  obtain ⟨ds, z, fq, rl, hz, hf, q⟩ := h
  have hz : intD ds = some z := hz
  unfold intD at hz
  split at hz <;> cases hz
  obtain ⟨v, rfl, fp, r1⟩ := rpl_one rl
  rw [r1.1] at r
  exact call_int1 pins s σ H _ us Q I r (.inl ⟨_, rfl, q _ _ fresh_int⟩)
theorem cb_len : CallR X (.builtin "len") (rBi X .len) := by
  intro pins s σ H vs us Q I r h
  obtain ⟨ds, z, fq, rl, hz, hf, q⟩ := h
  have hz : lenD ds = some z := hz
  unfold lenD at hz
  split at hz <;> cases hz
  · obtain ⟨v, rfl, fp, a, ws, f1, rfl, ha, rfl, rm⟩ := rpl_one rl
    rw [← rm.length] at q
    exact call_len_seq pins s σ H _ us Q I r ⟨a, ws, rfl, .inl (SqL.of ha), q _ _ fresh_int⟩
  · obtain ⟨v, rfl, fp, a, ws, rfl, ha, rm⟩ := rpl_one rl
    rw [← rm.length] at q
    exact call_len_seq pins s σ H _ us Q I r ⟨a, ws, rfl, .inr ha, q _ _ fresh_int⟩
  · rename_i ns
    obtain ⟨v, rfl, fp, a, rfl, ha, _⟩ := rpl_one rl
    exact call_len_seq pins s σ H _ us Q I r ⟨a, ns.map .int, rfl, .inl ha.sq, by rw [List.length_map]; exact q _ _ fresh_int⟩
theorem minI_spec : ∀ {ns : List Int}, ns ≠ [] → minI ns ∈ ns ∧ ∀ y ∈ ns, minI ns ≤ y
  | [], h => absurd rfl h
  | [x], _ => ⟨by simp [minI], by simp [minI]⟩
  | x :: y :: ys, _ => by
    obtain ⟨h1, h2⟩ := minI_spec (ns := y :: ys) (by simp)
    have e : minI (x :: y :: ys) = min x (minI (y :: ys)) := rfl
    rw [e]
    refine ⟨?_, fun z hz => ?_⟩
    · by_cases q : x ≤ minI (y :: ys)
      · rw [Int.min_eq_left q]; simp
      · rw [Int.min_eq_right (by omega)]; exact List.mem_cons_of_mem _ h1
    · rcases List.mem_cons.mp hz with q | q
      · subst q; omega
      · have := h2 z q; omega
theorem maxI_spec : ∀ {ns : List Int}, ns ≠ [] → maxI ns ∈ ns ∧ ∀ y ∈ ns, y ≤ maxI ns
  | [], h => absurd rfl h
  | [x], _ => ⟨by simp [maxI], by simp [maxI]⟩
  | x :: y :: ys, _ => by
    obtain ⟨h1, h2⟩ := maxI_spec (ns := y :: ys) (by simp)
    have e : maxI (x :: y :: ys) = max x (maxI (y :: ys)) := rfl
    rw [e]
    refine ⟨?_, fun z hz => ?_⟩
    · by_cases q : x ≤ maxI (y :: ys)
      · rw [Int.max_eq_right q]; exact List.mem_cons_of_mem _ h1
      · rw [Int.max_eq_left (by omega)]; simp
    · rcases List.mem_cons.mp hz with q | q
      · subst q; omega
      · have := h2 z q; omega
theorem cb_min (hu : Xo X) : CallR X (.builtin "min") (rBi X .min) := by
  intro pins s σ H vs us Q I r h
  obtain ⟨ds, z, fq, rl, hz, hf, q⟩ := h
  have hz : minD ds = some z := hz
  unfold minD at hz
  split at hz
  · cases hz
    obtain ⟨v, u, rfl, ⟨_, r1⟩, _, r2⟩ := rpl_two rl
    rw [r1.1, r2.1] at r
    exact call_min2 hu.calm pins s σ H _ us Q I r ⟨_, _, rfl, q _ _ fresh_int⟩
  · obtain ⟨is, h1, h2⟩ := Option.bind_eq_some_iff.mp hz
    have hne : is ≠ [] := by intro e; subst e; cases h2
    rw [if_neg (by simpa using hne)] at h2
    cases h2
    have e := intsOf_map h1
    subst e
    obtain ⟨v, rfl, fp, a, ws, f1, rfl, ha, rfl, rm⟩ := rpl_one rl
    have e := rpl_ints rm
    subst e
    refine cr_min hu.calm pins s σ H _ us Q I r ⟨a, is, rfl, SqL.of ha, by cases is <;> simp_all, fun m hm hle => ?_⟩
    obtain ⟨q1, q2⟩ := minI_spec hne
    have e : m = minI is := Int.le_antisymm (hle _ q1) (q2 _ hm)
    rw [e]
    exact q _ _ fresh_int
  · cases hz
theorem cb_max (hu : Xo X) : CallR X (.builtin "max") (rBi X .max) := by
  intro pins s σ H vs us Q I r h
  obtain ⟨ds, z, fq, rl, hz, hf, q⟩ := h
  have hz : maxD ds = some z := hz
  unfold maxD at hz
  split at hz
  · cases hz
    obtain ⟨v, u, rfl, ⟨_, r1⟩, _, r2⟩ := rpl_two rl
    rw [r1.1, r2.1] at r
    exact call_max2 hu.calm pins s σ H _ us Q I r ⟨_, _, rfl, q _ _ fresh_int⟩
  · obtain ⟨is, h1, h2⟩ := Option.bind_eq_some_iff.mp hz
    have hne : is ≠ [] := by intro e; subst e; cases h2
    rw [if_neg (by simpa using hne)] at h2
    cases h2
    have e := intsOf_map h1
    subst e
    obtain ⟨v, rfl, fp, a, ws, f1, rfl, ha, rfl, rm⟩ := rpl_one rl
    have e := rpl_ints rm
    subst e
    refine cr_max hu.calm pins s σ H _ us Q I r ⟨a, is, rfl, SqL.of ha, by cases is <;> simp_all, fun m hm hle => ?_⟩
    obtain ⟨q1, q2⟩ := maxI_spec hne
    have e : m = maxI is := Int.le_antisymm (q2 _ hm) (hle _ q1)
    rw [e]
    exact q _ _ fresh_int
  · cases hz
theorem cb_list : CallR X (.type "list") (rBi X .list) := by
  intro pins s σ H vs us Q I r h
  obtain ⟨ds, z, fq, rl, hz, hf, q⟩ := h
  have hz : listD ds = some z := hz
  unfold listD at hz
  split at hz <;> cases hz
  · obtain ⟨v, rfl, fp, a, ws, f1, rfl, ha, rfl, rm⟩ := rpl_one rl
    exact call_list_of pins s σ H _ us Q I r ⟨a, ws, rfl, .inl (SqL.of ha), fun l hl => q _ _ (fresh_lst hl (rm.nil_of hf))⟩
  · obtain ⟨v, rfl, fp, a, ws, rfl, ha, rm⟩ := rpl_one rl
    exact call_list_of pins s σ H _ us Q I r ⟨a, ws, rfl, .inr ha, fun l hl => q _ _ (fresh_lst hl (rm.nil_of hf))⟩
theorem cb_tuple : CallR X (.type "tuple") (rBi X .tuple) := by
  intro pins s σ H vs us Q I r h
  obtain ⟨ds, z, fq, rl, hz, hf, q⟩ := h
  have hz : tupleD ds = some z := hz
  unfold tupleD at hz
  split at hz <;> cases hz
  · obtain ⟨v, rfl, fp, a, ws, f1, rfl, ha, rfl, rm⟩ := rpl_one rl
    exact call_tuple_of pins s σ H _ us Q I r ⟨a, ws, rfl, .inl ⟨SqL.of ha, fun l hl => q _ _ (fresh_tup hl (rm.nil_of hf))⟩⟩
  · obtain ⟨v, rfl, fp, a, ws, rfl, ha, rm⟩ := rpl_one rl
    exact call_tuple_of pins s σ H _ us Q I r ⟨a, ws, rfl, .inr ⟨ha, q _ _ (Fresh.same ⟨a, ws, rfl, ha, rm⟩ hf)⟩⟩
theorem cb_all (hu : Xo X) : CallR X (.builtin "all") (rBi X .all) := by
  intro pins s σ H vs us Q I r h
  obtain ⟨ds, z, fq, rl, hz, hf, q⟩ := h
  have hz : allD ds = some z := hz
  unfold allD at hz
  split at hz
  · obtain ⟨bs, h1, rfl⟩ := Option.map_eq_some_iff.mp hz
    have e := blsOf_map h1
    subst e
    obtain ⟨v, rfl, fp, a, ws, f1, rfl, ha, rfl, rm⟩ := rpl_one rl
    have e := rpl_bls rm
    subst e
    exact cr_all hu.calm pins s σ H _ us Q I r ⟨a, bs, rfl, SqL.of ha, q _ _ fresh_bl⟩
  · cases hz
theorem cb_any (hu : Xo X) : CallR X (.builtin "any") (rBi X .any) := by
  intro pins s σ H vs us Q I r h
  obtain ⟨ds, z, fq, rl, hz, hf, q⟩ := h
  have hz : anyD ds = some z := hz
  unfold anyD at hz
  split at hz
  · obtain ⟨bs, h1, rfl⟩ := Option.map_eq_some_iff.mp hz
    have e := blsOf_map h1
    subst e
    obtain ⟨v, rfl, fp, a, ws, f1, rfl, ha, rfl, rm⟩ := rpl_one rl
    have e := rpl_bls rm
    subst e
    exact cr_any hu.calm pins s σ H _ us Q I r ⟨a, bs, rfl, SqL.of ha, q _ _ fresh_bl⟩
  · cases hz
theorem cb_sum (hu : Xo X) : CallR X (.builtin "sum") (rBi X .sum) := by
  intro pins s σ H vs us Q I r h
  obtain ⟨ds, z, fq, rl, hz, hf, q⟩ := h
  have hz : sumD ds = some z := hz
  unfold sumD at hz
  split at hz
  · obtain ⟨bs, h1, rfl⟩ := Option.map_eq_some_iff.mp hz
    have e := intsOf_map h1
    subst e
    obtain ⟨v, rfl, fp, a, ws, f1, rfl, ha, rfl, rm⟩ := rpl_one rl
    have e := rpl_ints rm
    subst e
    exact cr_sum hu.calm pins s σ H _ us Q I r ⟨a, bs, rfl, SqL.of ha, q _ _ fresh_int⟩
  · cases hz
theorem tupsOf_map : ∀ {xs : List D} {ts : List (List Int)}, tupsOf xs = some ts → xs = ts.map tupI ∧ ∀ t ∈ ts, t ≠ []
  | [], ts, h => by cases h; exact ⟨rfl, by simp⟩
  | x :: xs, ts, h => by
    cases x with
    | tup ys =>
      obtain ⟨ns, h1, h2⟩ := Option.bind_eq_some_iff.mp (show ((intsOf ys).bind fun ns => if ns.isEmpty then none else (tupsOf xs).map (ns :: ·)) = some ts from h)
      by_cases he : ns.isEmpty = true
      · rw [if_pos he] at h2; cases h2
      rw [if_neg he] at h2
      obtain ⟨us, h3, rfl⟩ := Option.map_eq_some_iff.mp h2
      obtain ⟨e1, e2⟩ := tupsOf_map h3
      refine ⟨by rw [e1, intsOf_map h1] <;> rfl, fun t ht => ?_⟩
      rcases List.mem_cons.mp ht with z | z
      · rw [z]; intro q; exact he (by rw [q] <;> rfl)
      · exact e2 t z
    | _ => cases h
theorem lex_asymm : ∀ {x y : List Int}, lexI x y = true → lexI y x = false
  | [], [], h => by cases h
  | [], _ :: _, _ => rfl
  | _ :: _, [], h => by cases h
  | x :: xs, y :: ys, h => by
    unfold lexI at h ⊢
    by_cases e : x = y
    · rw [if_pos e] at h
      rw [if_pos e.symm]
      exact lex_asymm h
    · rw [if_neg e, decide_eq_true_eq] at h
      rw [if_neg (Ne.symm e)]
      exact decide_eq_false (by omega)
theorem lex_ntrans : ∀ {x y z : List Int}, lexI x y = false → lexI y z = false → lexI x z = false
  | [], [], [], _, _ => rfl
  | [], [], _ :: _, _, h => by cases h
  | [], _ :: _, _, h, _ => by cases h
  | _ :: _, _, [], _, _ => rfl
  | _ :: _, [], _ :: _, _, h => by cases h
  | x :: xs, y :: ys, z :: zs, h1, h2 => by
    unfold lexI at h1 h2 ⊢
    by_cases e1 : x = y
    · rw [if_pos e1] at h1
      by_cases e2 : y = z
      · rw [if_pos e2] at h2
        rw [if_pos (e1.trans e2)]
        exact lex_ntrans h1 h2
      · rw [if_neg e2] at h2
        rw [if_neg (fun q => e2 (e1.symm.trans q)), e1]
        exact h2
    · rw [if_neg e1, decide_eq_false_iff_not] at h1
      by_cases e2 : y = z
      · rw [if_neg (fun q => e1 (q.trans e2.symm)), ← e2]
        exact decide_eq_false h1
      · rw [if_neg e2, decide_eq_false_iff_not] at h2
        have : x ≠ z := by omega
        rw [if_neg this]
        exact decide_eq_false (by omega)
theorem lex_antisymm : ∀ {x y : List Int}, lexI x y = false → lexI y x = false → x = y
  | [], [], _, _ => rfl
  | [], _ :: _, h, _ => by cases h
  | _ :: _, [], _, h => by cases h
  | x :: xs, y :: ys, h1, h2 => by
    unfold lexI at h1 h2
    by_cases e : x = y
    · rw [if_pos e] at h1
      rw [if_pos e.symm] at h2
      rw [e, lex_antisymm h1 h2]
    · rw [if_neg e, decide_eq_false_iff_not] at h1
      rw [if_neg (Ne.symm e), decide_eq_false_iff_not] at h2
      omega
theorem insT_perm (x : List Int) : ∀ ys : List (List Int), (insT x ys).Perm (x :: ys)
  | [] => .refl _
  | y :: ys => by
    unfold insT
    split
    · exact ((insT_perm x ys).cons y).trans (.swap x y ys)
    · exact .refl _
theorem sortT_perm : ∀ xs : List (List Int), (sortT xs).Perm xs
  | [] => .refl _
  | x :: xs => (insT_perm x (sortT xs)).trans ((sortT_perm xs).cons x)
abbrev leI (x y : List Int) : Prop := lexI y x = false
theorem insT_sorted (x : List Int) : ∀ {ys : List (List Int)}, ys.Pairwise leI → (insT x ys).Pairwise leI
  | [], _ => List.pairwise_singleton _ _
  | y :: ys, h => by
    unfold insT
    rw [List.pairwise_cons] at h
    split
    · rename_i hxy
      refine List.pairwise_cons.mpr ⟨fun z hz => ?_, insT_sorted x h.2⟩
      rcases List.mem_cons.mp ((insT_perm x ys).mem_iff.mp hz) with e | e
      · rw [e]; exact lex_asymm hxy
      · exact h.1 z e
    · rename_i hxy
      have hxy : lexI y x = false := by simpa using hxy
      exact List.pairwise_cons.mpr ⟨fun z hz => by
        rcases List.mem_cons.mp hz with e | e
        · rw [e]; exact hxy
        · exact lex_ntrans (h.1 z e) hxy, List.pairwise_cons.mpr h⟩
theorem sortT_sorted : ∀ xs : List (List Int), (sortT xs).Pairwise leI
  | [] => List.Pairwise.nil
  | x :: xs => insT_sorted x (sortT_sorted xs)
theorem sortedT_uniq {xs ys : List (List Int)} (h : xs.Perm ys) (h1 : xs.Pairwise leI) (h2 : ys.Pairwise leI) : xs = ys := h.eq_of_pairwise (fun a b _ _ p q => lex_antisymm q p) h1 h2
/-- a tuple of ints in a heap -/
def IsTI (h : Heap) (v : Value) (ns : List Int) : Prop := ∃ (a : Addr) (o : Obj) (us : List Value) (n : Nat), v = .ref a ∧ h.get? a = some o ∧ o.cls = .type "tuple" ∧ o.data = .seq us.toArray n ∧ Vals (ns.map V.int) us
theorem IsTI.keeps {h h' : Heap} {v : Value} {ns : List Int} (t : IsTI h v ns) (k : ∀ b o, h.get? b = some o → o.cls = .type "tuple" → h'.get? b = some o) : IsTI h' v ns := by
  obtain ⟨a, o, us, n, e, ho, hc, hd, r⟩ := t
  exact ⟨a, o, us, n, e, k _ _ ho hc, hc, hd, r⟩
theorem vals_int_inj : ∀ {ns ms : List Int} {us : List Value}, Vals (ns.map V.int) us → Vals (ms.map V.int) us → ns = ms
  | [], [], _, _, _ => rfl
  | [], _ :: _, _, .nil, h => by cases h
  | _ :: _, [], _, h, .nil => by cases h
  | n :: ns, m :: ms, _, .cons r t, .cons r' t' => by
    obtain ⟨t1, rfl⟩ := r
    obtain ⟨t2, e⟩ := r'
    cases e
    rw [vals_int_inj t t']
theorem IsTI.uniq {h : Heap} {v : Value} {ns ms : List Int} (a : IsTI h v ns) (b : IsTI h v ms) : ns = ms := by
  obtain ⟨a1, o1, us1, n1, e1, ho1, hc1, hd1, r1⟩ := a
  obtain ⟨a2, o2, us2, n2, e2, ho2, hc2, hd2, r2⟩ := b
  subst e1
  cases e2
  rw [ho1] at ho2
  cases ho2
  rw [hd1] at hd2
  injection hd2 with h1 _
  have : us1 = us2 := by simpa using congrArg Array.toList h1
  subst this
  exact vals_int_inj r1 r2
open Classical in
/-- its ints -/
noncomputable def keyTI (h : Heap) (v : Value) : List Int := if q : ∃ ns, IsTI h v ns then q.choose else []
theorem keyTI_of {h : Heap} {v : Value} {ns : List Int} (t : IsTI h v ns) : keyTI h v = ns := by
  unfold keyTI
  rw [dif_pos ⟨ns, t⟩]
  exact IsTI.uniq (Exists.choose_spec (⟨ns, t⟩ : ∃ ns, IsTI h v ns)) t
section
variable {prog : Program} {w : World} {A : Around} {s : Shared}
theorem lex_walk {b : Bool} {fin : Bool} {x y : List Int} : ∀ {xs ys : List Int} {us ws : List Value} {i : Nat}, Vals (xs.map V.int) us → Vals (ys.map V.int) ws → fin = decide (xs.length < ys.length) → lexI x y = lexI xs ys →
    PySem.W.KatLex prog w A b fin (fun r s' => s' = s ∧ r = lexI x y) (us.zip ws) i s
  | [], [], _, _, _, .nil, .nil, hf, h => PySem.W.kat_nil ⟨rfl, by rw [hf, h] <;> rfl⟩
  | [], _ :: _, _, _, _, .nil, .cons _ _, hf, h => PySem.W.kat_nil ⟨rfl, by rw [hf, h]; simp [lexI]⟩
  | _ :: _, [], _, _, _, .cons _ _, .nil, hf, h => PySem.W.kat_nil ⟨rfl, by rw [hf, h]; simp [lexI]⟩
  | p :: xs, q :: ys, _, _, i, .cons r1 t1, .cons r2 t2, hf, h => by
    obtain ⟨tk, rfl⟩ := r1
    obtain ⟨tk2, rfl⟩ := r2
    refine PySem.W.kat_cons (SeqAt.EqAt.int_int p tk q tk2 prog w _ _ ?_)
    refine PySem.W.kat_go (fun e1 => ?_) (fun e1 => ?_)
    · have e : p = q := by simpa using e1
      refine PySem.W.kat_yes (lex_walk t1 t2 (by rw [hf]; simp) ?_)
      rw [h]
      simp only [lexI, if_pos e]
    · have e : ¬ p = q := by simpa using e1
      have e3 : lexI x y = decide (p < q) := by rw [h]; simp only [lexI, if_neg e]
      by_cases hb : (b && i == 0) = true
      · refine PySem.W.kat_no ?_
        rw [hb]
        exact oneLt_int ⟨rfl, e3.symm⟩
      · refine PySem.W.kat_no ?_
        have hb' : (b && i == 0) = false := by simpa using hb
        rw [hb']
        exact PySem.W.kat_one _ _ (PyProof.Rows.lt_int (show s = s ∧ decide (p < q) = lexI x y from ⟨rfl, e3.symm⟩))
theorem firsts_TI {h : Heap} : ∀ {vs : List Value}, (∀ v ∈ vs, ∃ ns, IsTI h v ns ∧ ns ≠ []) → ∃ fs : List Value, PySem.W.KatTups h vs fs ∧ fs.length = vs.length ∧ ∀ f ∈ fs, ∃ x t, f = Value.int x t
  | [], _ => ⟨[], PySem.W.KatTups.nil, rfl, fun _ hm => by simp at hm⟩
  | v :: vs, hp => by
    obtain ⟨fs, h1, h2, h3⟩ := firsts_TI (vs := vs) fun v' hm => hp v' (List.mem_cons_of_mem _ hm)
    obtain ⟨ns, ⟨a, o, us, n, rfl, ho, hc, hd, r⟩, hne⟩ := hp v (List.mem_cons_self ..)
    cases ns with
    | nil => exact absurd rfl hne
    | cons x ns =>
      cases r with
      | cons r t =>
        obtain ⟨tk, rfl⟩ := r
        refine ⟨.int x tk :: fs, PySem.W.KatTups.cons ho hc hd (by simp) h1, by rw [List.length_cons, List.length_cons, h2], fun f hf => ?_⟩
        rcases List.mem_cons.mp hf with rfl | hf
        · exact ⟨x, tk, rfl⟩
        · exact h3 f hf
end
theorem swo_lexI {α : Type} (k : α → List Int) : SrtO.Swo fun v u => lexI (k v) (k u) := ⟨fun x y h => lex_asymm h, fun x y z h1 h2 => lex_ntrans h2 h1⟩
theorem rpl_tupsI {K : PySem.W.Frag} {mg : Str → Option Value} : ∀ {ts : List (List Int)} {vs : List V} {fq : List Addr}, RpL K mg H (ts.map tupI) vs fq → (∀ v ∈ vs, ∃ (a : Addr) (ns : List Int), v = .ref a ∧ ns ∈ ts ∧ SqT K H a (ns.map V.int)) ∧ fq = []
  | [], vs, fq, r => by
    obtain ⟨rfl, rfl⟩ := r
    exact ⟨by simp, rfl⟩
  | t :: ts, vs, fq, r => by
    obtain ⟨v, vr, f1, f2, rfl, rfl, ⟨a, ws, rfl, sq, rm⟩, r2⟩ := r
    obtain ⟨h1, rfl⟩ := rpl_tupsI r2
    have e := rpl_ints rm
    subst e
    have him : D.immL (t.map .int) = true := by
      clear rm sq
      induction t with
      | nil => rfl
      | cons x t ih => exact ih
    have z := RpL.imm _ him rm
    subst z
    refine ⟨fun u hu => ?_, rfl⟩
    rcases List.mem_cons.mp hu with rfl | hu
    · exact ⟨a, t, rfl, List.mem_cons_self, sq⟩
    · obtain ⟨a', ns, e1, e2, e3⟩ := h1 u hu
      exact ⟨a', ns, e1, List.mem_cons_of_mem _ e2, e3⟩
theorem sqT_TI {pins : List (Addr × Obj)} {s : Shared} {a : Addr} {ns : List Int} (I : Inv X pins σ H s) (h : SqT X.K H a (ns.map V.int)) : IsTI s.heap (.ref a) ns := by
  obtain ⟨its, r, ⟨o, ho, hc, n, hd⟩, _⟩ := I.tuple h
  exact ⟨a, o, its, n, rfl, ho, hc, hd, r⟩
/-- the items, by their ints -/
theorem keys_of {pins : List (Addr × Obj)} {s : Shared} (I : Inv X pins σ H s) : ∀ {ts : List (List Int)} {ws : List V} {its : List Value} {fq : List Addr}, RpL X.K X.mg H (ts.map tupI) ws fq → Vals ws its → its.map (keyTI s.heap) = ts ∧ ∀ v ∈ its, ∃ a ns, v = .ref a ∧ SqT X.K H a (ns.map V.int) ∧ keyTI s.heap v = ns
  | [], _, _, _, r, rv => by
    obtain ⟨rfl, _⟩ := r
    cases rv
    exact ⟨rfl, by simp⟩
  | t :: ts, _, _, _, r, rv => by
    obtain ⟨v, vr, g1, g2, rfl, rfl, ⟨b, zs, rfl, sq, rm1⟩, r2⟩ := r
    cases rv with
    | cons rb rv =>
      cases rb
      have ez := rpl_ints rm1
      subst ez
      obtain ⟨h1, h2⟩ := keys_of I r2 rv
      have hk := keyTI_of (sqT_TI I sq)
      refine ⟨by rw [List.map_cons, hk, h1], fun v hv => ?_⟩
      rcases List.mem_cons.mp hv with rfl | hv
      · exact ⟨b, t, rfl, sq, hk⟩
      · exact h2 v hv
/-- values that are tuples of ints, as data -/
theorem rpl_of_keys {s : Shared} : ∀ {out : List Value}, (∀ v ∈ out, ∃ a ns, v = Value.ref a ∧ SqT X.K H a (ns.map V.int) ∧ keyTI s.heap v = ns) → RpL X.K X.mg H ((out.map (keyTI s.heap)).map tupI) (out.map backV) []
  | [], _ => ⟨rfl, rfl⟩
  | v :: out, h => by
    obtain ⟨a, ns, rfl, sq, hk⟩ := h v List.mem_cons_self
    refine ⟨.ref a, out.map backV, [], [], rfl, rfl, ?_, rpl_of_keys fun u hu => h u (List.mem_cons_of_mem _ hu)⟩
    rw [hk]
    exact ⟨a, _, rfl, sq, ints_rpl ns⟩
theorem sorted_tupsD (pins : List (Addr × Obj)) (s : Shared) (σ : L2.St) (H : Hp) (vs : List V) (us : List Value) (Q : VK) {xs : List D} {fq : List Addr} {ts : List (List Int)} (I : Inv X pins σ H s) (r : Vals vs us) (rl : RpL X.K X.mg H [.lst xs] vs fq) (h1 : tupsOf xs = some ts)
    (q : ∀ w H', Fresh X.K X.mg H (.lst ((sortT ts).map tupI)) w H' → Q w H') : wpAny (model X.prog X.w) X.A (call (.builtin "sorted") us) (EP X pins σ Q) X.xe s := by
  obtain ⟨e, hne⟩ := tupsOf_map h1
  subst e
  obtain ⟨v, rfl, fp, a, ws, f1, rfl, ha, rfl, rm⟩ := rpl_one rl
  obtain ⟨hall, _⟩ := rpl_tupsI rm
  obtain ⟨its, rv, hl, hz⟩ := I.list (SqL.of ha)
  obtain ⟨u, rfl, ru⟩ := vals1 r
  obtain rfl : u = Value.ref a := ru
  obtain ⟨k1, k2⟩ := keys_of I rm rv
  have tne : ∀ v ∈ its, ∃ ns, IsTI s.heap v ns ∧ ns ≠ [] := fun v hv => by
    obtain ⟨b, ns, rfl, sq, hk⟩ := k2 v hv
    refine ⟨ns, sqT_TI I sq, hne ns ?_⟩
    rw [← hk, ← k1]
    exact List.mem_map.mpr ⟨_, hv, rfl⟩
  refine SrtO.sorted_ord (swo_lexI (keyTI s.heap)) hl.isList (by rw [← rv.length]; exact hz) (fun h2 h₁ a' ha' kk => ?_) fun out hs hb => ?_
  · intro h' keep
    have tk : ∀ {v : Value} {ns : List Int}, IsTI s.heap v ns → IsTI h' v ns := fun {v ns} t => by
      refine (t.keeps fun b o e _ => (kk b o e).2).keeps fun b o e c => keep b o (fun z => ?_) e
      subst z
      have e' : some o = some (seqObj "list" its.toArray 0) := e.symm.trans ha'
      cases e'
      exact absurd (Value.type.inj c) (by decide)
    obtain ⟨fs, g1, g2, g3⟩ := firsts_TI (h := h') (vs := its) fun v hm => let ⟨ns, t, n⟩ := tne v hm; ⟨ns, tk t, n⟩
    refine ⟨tuples' true, fun Q E hq => ?_, fun p q hm hm' => ?_⟩
    · refine PySem.W.kat_kind (T := .type "int") g1 (by omega) (fun f hm => ?_) (by rfl) ?_
      · obtain ⟨x, t, rfl⟩ := g3 f hm
        exact PySem.W.Looks.now
      · have e : (Value.type "int" != Value.type "tuple") = true := by first | decide +kernel | rfl | decide
        rw [e]
        exact hq
    · obtain ⟨ns, t1, _⟩ := tne _ hm
      obtain ⟨ms, t2, _⟩ := tne _ hm'
      have e1 := keyTI_of t1
      have e2 := keyTI_of t2
      obtain ⟨a1, o1, us1, n1, q1, ho1, hc1, hd1, r1⟩ := tk t1
      obtain ⟨a2, o2, us2, n2, q2, ho2, hc2, hd2, r2⟩ := tk t2
      show wpAny _ _ (keyLt' (tuples' true) p.1 q.1) (fun r s' => s' = _ ∧ r = lexI (keyTI s.heap p.1) (keyTI s.heap q.1)) _ _
      rw [e1, e2, q1, q2]
      refine PySem.W.kat_lt ho1 hd1 ho2 hd2 ?_
      have l1 := r1.length
      have l2 := r2.length
      rw [List.length_map] at l1 l2
      exact lex_walk r1 r2 (by rw [List.size_toArray, List.size_toArray, l1, l2]) rfl
  · have hperm := hb.perm
    have ho : ∀ v ∈ out, ∃ a ns, v = Value.ref a ∧ SqT X.K H a (ns.map V.int) ∧ keyTI s.heap v = ns := fun v hv => k2 v (hperm.mem_iff.mp hv)
    have ek : out.map (keyTI s.heap) = sortT ts := by
      refine sortedT_uniq ((hperm.map _).trans ?_) (List.pairwise_map.mpr hs) (sortT_sorted ts)
      rw [k1]
      exact (sortT_perm ts).symm
    have rl' := rpl_of_keys (X := X) (H := H) (s := s) ho
    rw [ek] at rl'
    have hlen : out.length ≤ sizeLine := by rw [hperm.length_eq, ← rv.length]; exact hz
    refine ⟨.ref (s.heap.objs.size + 1), upd H (s.heap.objs.size + 1) (.lst (out.map backV)), I.laid (t' := s.toks) (fun b o e => PyProof.Rows.sortedAll_old e) (Nat.le_succ _) ⟨by rw [List.length_map]; exact hlen, out, ?_⟩, rfl, q _ _ (fresh_lst (I.hok.fresh (Nat.le_succ _)) rl')⟩
    obtain ⟨n, hn⟩ := PyProof.Rows.sortedAll_at s.heap its out.toArray
    exact ⟨n, vals_back (fun u hu => let ⟨a, _, e, _⟩ := ho u hu; ⟨a, e⟩), hn⟩
theorem cb_sorted : CallR X (.builtin "sorted") (rBi X .sorted) := by
  intro pins s σ H vs us Q I r h
  obtain ⟨ds, z, fq, rl, hz, hf, q⟩ := h
  have hz : sortedD ds = some z := hz
  unfold sortedD at hz
  split at hz
  · split at hz
    · rename_i is h1
      cases hz
      have e := intsOf_map h1
      subst e
      obtain ⟨v, rfl, fp, a, ws, f1, rfl, ha, rfl, rm⟩ := rpl_one rl
      have e := rpl_ints rm
      subst e
      refine cr_sortedI pins s σ H _ us Q I r ⟨a, is, rfl, SqL.of ha, fun ns' p pm so hp => ?_⟩
      have e : ns' = sortI is := sorted_uniq (pm.trans (sortI_perm is).symm) so (sortI_sorted is)
      subst e
      exact q _ _ (fresh_lst hp (ints_rpl _))
    · obtain ⟨ts, h1, rfl⟩ := Option.map_eq_some_iff.mp hz
      exact sorted_tupsD pins s σ H vs us Q I r rl h1 q
  · cases hz
end
end DL
end
section
set_option Elab.async false
set_option linter.all false
set_option maxRecDepth 100000
/-! D layer, 10: values are moved, objects are changed by methods. -/
namespace DL
open PySem PySem.Spec PyProof.Rows L2

theorem nd_get {F : List (List Addr)} {n : Nat} (nd : F.flatten.Nodup) : (F.getD n []).Nodup := by
  by_cases h : n < F.length
  · obtain ⟨A, B, e1, _⟩ := fl_split h
    generalize F.getD n [] = m at e1 ⊢
    subst e1
    simp only [List.flatten_append, List.flatten_cons, List.nodup_append] at nd
    exact nd.2.1.1
  · rw [List.getD_eq_getElem?_getD, List.getElem?_eq_none (by omega)]
    simp
theorem gone_set {F : List (List Addr)} {n : Nat} {a : Addr} (nd : F.flatten.Nodup) (h : a ∈ F.getD n []) : a ∉ (F.set n []).flatten := by
  intro z
  by_cases hn : n < F.length
  · obtain ⟨A, B, e1, e2⟩ := fl_split hn
    rw [e2] at z
    generalize F.getD n [] = m at e1 h
    subst e1
    simp only [List.flatten_append, List.flatten_cons, List.nodup_append, List.mem_append, List.not_mem_nil, false_or] at nd z
    obtain ⟨n1, ⟨n2, n3, n4⟩, n5⟩ := nd
    rcases z with z | z
    · exact n5 a z a (.inl h) rfl
    · exact n4 a h a z rfl
  · rw [List.getD_eq_getElem?_getD, List.getElem?_eq_none (by omega)] at h
    simp at h

section
variable {C : Dc} {X : Cx} {W : WX} {σ : L2.St} {H : Hp} {Sh : Addr → Prop} {F : List (List Addr)} {e : Envv} {a b c : Expr} {es : List Expr} {i j k l : Ex} {is : Exs} {ms : List Nat} {pos : Pos}
/-- a name whose value is moved out -/
theorem se_mv {n : Nat} {x : Str} (hN : X.N[n]? = some x) (hv : Vis X.env.scope x) (hd : (x == ("__debug__" : Str)) = false := by decide) (hcd : (x == ("__classdict__" : Str)) = false := by decide) : SE C X (.Name x pos) (.mv n) := by
  intro σ H Sh F e W tk R hx hb
  refine cR_of (pe_var hN hv hd hcd) ?_
  have ev : C.ev (.mv n) e = (match e.getD n .un with
    | .ow d => if C.ios.contains n then .bad else .ok d .own (e.set n .un)
    | .sh d => mkR d .shr e
    | .un => .bad) := by rfl
  cases hs : e.getD n .un with
  | un => rw [ev, hs] at hb; exact absurd rfl hb
  | sh d =>
    obtain ⟨v, fp, h1, h2, h3⟩ := R.sh n d hs
    have t : Tmp X.K X.mg H Sh F .shr d v := ⟨_, h2, h3⟩
    exact ⟨v, h1, d, _, e, Sh, F, by rw [ev, hs] <;> rfl, R, Stp.refl, t.mkO (fun z => by cases z)⟩
  | ow d =>
    rw [hs] at ev
    dsimp only at ev
    by_cases hc : C.ios.contains n = true
    · rw [ev, if_pos hc] at hb; exact absurd rfl hb
    rw [if_neg hc] at ev
    obtain ⟨v, h1, h2⟩ := R.ow n d hs
    have hn : n < σ.length := (List.getElem?_eq_some_iff.mp h1).1
    have nF : (F.getD n []).Nodup := nd_get R.nd
    have R' : Rel C.io X.K X.mg σ H Sh (F.set n []) (e.set n .un) := R.put hn ⟨rfl, fun _ _ => rfl⟩ (.inr rfl) (fun _ _ _ => rfl) (fun _ h => h)
      (fun a ha => ⟨R.sa a ha, .inl ha, by simp⟩) (by simp) (by simp) True.intro
    refine ⟨v, h1, d, .own, _, Sh, F.set n [], ev, R', ⟨fun _ _ _ => rfl, fun _ h => h, fun a ha => .inl ((mem_set ha).resolve_left (by simp)), fun _ h => h, fun _ h => .inl h, fun m hm => ?_⟩, F.getD n [], h2, nF, fun a ha => ⟨⟨(R.mu a (mem_getD ha)).1, (R.mu a (mem_getD ha)).2, gone_set R.nd ha⟩, .inl (mem_getD ha)⟩⟩
    have hm : m ≠ n := fun z => hm (by rw [z]; exact List.mem_singleton.mpr rfl)
    exact ⟨getD_set_ne hm, getD_set_ne hm, fun _ _ => rfl⟩

/-! ### methods that change a list -/
/-- the heap changed at one address, v's data of then on -/
structure MutP (K : PySem.W.Frag) (mg : Str → Option Value) (H : Hp) (fp fa : List Addr) (v : V) (x' : D) (w : V) (y : D) (H' : Hp) : Prop where
  ex : ∃ a fp' fy, v = .ref a ∧ a ∈ fp ∧ (∀ b, b ≠ a → H' b = H b) ∧ Mt (H' a) ∧ Rp K mg H' x' v fp' ∧ Rp K mg H' y w fy ∧ (fp' ++ fy).Nodup ∧ (∀ b ∈ fp' ++ fy, b ∈ fp ∨ b ∈ fa)
def rM (X : Cx) (m : Mf) : V → List V → Hp → VK → Prop := fun v vs H Q => ∃ x ds y x' fp fa, Rp X.K X.mg H x v fp ∧ (RpL X.K X.mg H ds vs fa ∨ (m = .extend ∧ fa = [] ∧ ds.all D.flat = true ∧ ∃ fq, RpL X.K X.mg H ds vs fq)) ∧ (fp ++ fa).Nodup ∧ mthD m x ds = some (y, x') ∧ ∀ w H', MutP X.K X.mg H fp fa v x' w y H' → Q w H'
theorem keep_upd {K : PySem.W.Frag} {a : Addr} {o u : HO} (h : H a = some o) (m : Mt (some o)) : Keep H (upd H a u) := .of fun b q e nm => by
  rw [upd_ne fun z => nm (by rw [← e, z, h]; exact m)]; exact e
theorem RpL.focus {K : PySem.W.Frag} {mg : Str → Option Value} : ∀ {ds : List D} {vs : List V} {fp : List Addr} {j : Nat} {d : D}, RpL K mg H ds vs fp → ds[j]? = some d → ∃ v f1 fr f2, vs[j]? = some v ∧ fp = f1 ++ (fr ++ f2) ∧ Rp K mg H d v fr ∧
    RpL K mg H (ds.eraseIdx j) (vs.eraseIdx j) (f1 ++ f2) ∧ ∀ H' d' v' fr', Keep H H' → (∀ a ∈ f1 ++ f2, H' a = H a) → Rp K mg H' d' v' fr' → RpL K mg H' (ds.set j d') (vs.set j v') (f1 ++ (fr' ++ f2))
  | [], _, _, _, _, _, h => by simp at h
  | d :: ds, vs, fp, 0, d', r, h => by
    obtain ⟨v, vr, f1, f2, rfl, rfl, r1, r2⟩ := r
    have e : d = d' := by simpa using h
    subst e
    exact ⟨v, [], f1, f2, rfl, by simp, r1, by simpa using r2, fun H' d' v' fr' k eq rn => ⟨v', vr, fr', f2, rfl, by simp, rn, r2.stay k _ fun a ha => eq a (by simpa using ha)⟩⟩
  | d :: ds, vs, fp, j + 1, d', r, h => by
    obtain ⟨v, vr, f1, f2, rfl, rfl, r1, r2⟩ := r
    obtain ⟨u, g1, fr, g2, h1, rfl, h3, h4, h5⟩ := RpL.focus (j := j) r2 (by simpa using h)
    refine ⟨u, f1 ++ g1, fr, g2, by simpa using h1, by simp, h3, ?_, fun H' d' v' fr' k eq rn => ?_⟩
    · exact ⟨v, _, f1, g1 ++ g2, rfl, by simp, r1, h4⟩
    · exact ⟨v, _, f1, g1 ++ (fr' ++ g2), rfl, by simp, r1.stay k _ fun a ha => eq a (by simp [ha]), h5 H' d' v' fr' k (fun a ha => eq a (by
        rcases List.mem_append.mp ha with z | z <;> simp [z])) rn⟩
theorem mt_append_all : MtR X "list.append" (rM X .append) := by
  intro pins s σ H v vs vv us Q I rx rxs h
  obtain ⟨x, ds, y, x', fp, fa, r, rl, nd, hm, q⟩ := h
  replace rl := rl.resolve_right (fun z => by cases z.1)
  replace hm : appendD x ds = some (y, x') := hm
  unfold appendD at hm
  split at hm
  · rename_i ys d
    split at hm <;> cases hm
    rename_i hsz
    obtain ⟨a, ws, f, rfl, ha, rfl, rm⟩ := r
    obtain ⟨u, rfl, f2, r2⟩ := rpl_one rl
    have e2 : fa = f2 ∨ True := .inr True.intro
    obtain ⟨u', vr, g1, g2, e1, rfl, r3, r4⟩ := rl
    obtain ⟨rfl, rfl⟩ := r4
    cases e1
    rw [List.append_nil] at nd q
    refine mt_append pins s σ H _ _ vv us Q I rx rxs ⟨a, ws, u, rfl, rfl, ha, by rw [rm.length, ← sz_eq]; exact hsz, q _ _ ⟨a, a :: (f ++ g1), [], rfl, by simp, fun b hb => upd_ne hb, by rw [upd_same]; exact True.intro, ?_, ⟨rfl, rfl⟩, by simpa using nd, fun b hb => ?_⟩⟩
    · have nd' := nd
      rw [List.cons_append, List.nodup_cons] at nd'
      have ne : ∀ b ∈ f ++ g1, upd H a (.lst (ws ++ [u])) b = H b := fun b hb => upd_ne fun z => nd'.1 (by rw [← z]; exact hb)
      have k := keep_upd (K := X.K) (u := .lst (ws ++ [u])) ha True.intro
      exact ⟨a, ws ++ [u], f ++ g1, rfl, upd_same, rfl, (rm.stay k _ fun b hb => ne b (List.mem_append_left _ hb)).app (RpL.one (r3.stay k _ fun b hb => ne b (List.mem_append_right _ hb)))⟩
    · simp only [List.append_nil, List.mem_cons, List.mem_append] at hb ⊢
      rcases hb with hb | hb | hb
      · exact .inl (.inl hb)
      · exact .inl (.inr hb)
      · exact .inr hb
  · cases hm
theorem mt_extend_all : MtR X "list.extend" (rM X .extend) := by
  intro pins s σ H v vs vv us Q I rx rxs h
  obtain ⟨x, ds, y, x', fp, fa, r, rl, nd, hm, q⟩ := h
  replace hm : extendD x ds = some (y, x') := hm
  unfold extendD at hm
  split at hm
  · rename_i ys zs
    split at hm <;> cases hm
    rename_i hsz
    obtain ⟨a, ws, f, rfl, ha, rfl, rm⟩ := r
    -- the items that come, with what they have
    have main : ∀ (b : Addr) (us' : List V) (g : List Addr), vs = [.ref b] → H b = some (.lst us') → RpL X.K X.mg H zs us' g → (∀ z ∈ g, z ∈ fa) → (a :: (f ++ g)).Nodup → wpAny (model X.prog X.w) X.A (call (.builtin "list.extend") (vv :: us)) (EP X pins σ Q) X.xe s := by
      intro b us' g e hb rz hsub nd'
      subst e
      refine mt_extend pins s σ H _ _ vv us Q I rx rxs ⟨a, b, ws, us', rfl, rfl, ha, hb, by rw [rm.length, rz.length, ← sz_eq]; exact hsz, q _ _ ⟨a, a :: (f ++ g), [], rfl, by simp, fun b hb => upd_ne hb, by rw [upd_same]; exact True.intro, ?_, ⟨rfl, rfl⟩, by simpa using nd', fun b hb => ?_⟩⟩
      · rw [List.nodup_cons] at nd'
        have ne : ∀ b ∈ f ++ g, upd H a (.lst (ws ++ us')) b = H b := fun b hb => upd_ne fun z => nd'.1 (by rw [← z]; exact hb)
        have k := keep_upd (K := X.K) (u := .lst (ws ++ us')) ha True.intro
        exact ⟨a, ws ++ us', f ++ g, rfl, upd_same, rfl, (rm.stay k _ fun b hb => ne b (List.mem_append_left _ hb)).app (rz.stay k _ fun b hb => ne b (List.mem_append_right _ hb))⟩
      · simp only [List.append_nil, List.mem_cons, List.mem_append] at hb ⊢
        rcases hb with hb | hb | hb
        · exact .inl (.inl hb)
        · exact .inl (.inr hb)
        · exact .inr (hsub _ hb)
    rcases rl with rl | ⟨_, rfl, hfl, fq, rl⟩
    · obtain ⟨u', vr, g1, g2, rfl, rfl, r3, r4⟩ := rl
      obtain ⟨rfl, rfl⟩ := r4
      obtain ⟨b, us', g, rfl, hb, rfl, rz⟩ := r3
      refine main b us' g rfl hb rz (fun z hz => by simp [hz]) ?_
      rw [List.append_nil] at nd
      have : (a :: (f ++ (b :: g))).Nodup := nd
      exact this.sublist (by simp)
    · obtain ⟨u', vr, g1, g2, rfl, rfl, r3, r4⟩ := rl
      obtain ⟨rfl, rfl⟩ := r4
      obtain ⟨b, us', g, rfl, hb, rfl, rz⟩ := r3
      have hz : D.immL zs = true := by simpa [D.flat] using hfl
      exact main b us' [] rfl hb (rz.nil_of hz) (by simp) (by simpa using nd)
  · cases hm
theorem mt_pop_all : MtR X "list.pop" (rM X .pop) := by
  intro pins s σ H v vs vv us Q I rx rxs h
  obtain ⟨x, ds, y, x', fp, fa, r, rl, nd, hm, q⟩ := h
  replace rl := rl.resolve_right (fun z => by cases z.1)
  replace hm : popD x ds = some (y, x') := hm
  have main : ∀ (a : Addr) (ys : List D) (ws : List V) (f : List Addr) (k : Nat) (d : D), v = .ref a → H a = some (.lst ws) → fp = a :: f → RpL X.K X.mg H ys ws f → ys[k]? = some d → y = d → x' = .lst (ys.eraseIdx k) →
      ∃ u, ws[k]? = some u ∧ MutP X.K X.mg H fp fa v x' u y (upd H a (.lst (ws.eraseIdx k))) := by
    intro a ys ws f k d e1 ha e2 rm hk e3 e4
    subst e1 e2 e3 e4
    obtain ⟨u, f1, fr, f2, h1, rfl, h3, h4, _⟩ := rm.focus hk
    have nd' : (a :: (f1 ++ (fr ++ f2))).Nodup := by
      have n := nd
      rw [List.nodup_append] at n
      exact n.1
    have nd2 := nd'
    rw [List.nodup_cons] at nd2
    have ne : ∀ b ∈ f1 ++ (fr ++ f2), upd H a (.lst (ws.eraseIdx k)) b = H b := fun b hb => upd_ne fun z => nd2.1 (by rw [← z]; exact hb)
    have kp := keep_upd (K := X.K) (u := .lst (ws.eraseIdx k)) ha True.intro
    refine ⟨u, h1, ⟨a, a :: (f1 ++ f2), fr, rfl, by simp, fun b hb => upd_ne hb, by rw [upd_same]; exact True.intro, ⟨a, _, _, rfl, upd_same, rfl, h4.stay kp _ fun b hb => ne b ?_⟩, h3.stay kp _ fun b hb => ne b (by simp [hb]), ?_, fun b hb => .inl ?_⟩⟩
    · rcases List.mem_append.mp hb with z | z <;> simp [z]
    · refine (List.Perm.nodup_iff ?_).mp nd'
      refine .cons _ ?_
      show (f1 ++ (fr ++ f2)).Perm ((f1 ++ f2) ++ fr)
      rw [List.append_assoc]
      exact .append_left _ List.perm_append_comm
    · simp only [List.cons_append, List.mem_cons, List.mem_append] at hb ⊢
      rcases hb with z | (z | z) | z
      · exact .inl z
      · exact .inr (.inl z)
      · exact .inr (.inr (.inr z))
      · exact .inr (.inr (.inl z))
  unfold popD at hm
  split at hm
  · rename_i ys
    obtain ⟨d, hk, e⟩ := Option.map_eq_some_iff.mp hm
    cases e
    obtain ⟨a, ws, f, rfl, ha, rfl, rm⟩ := r
    obtain ⟨u, h1, h2⟩ := main a ys ws f (ys.length - 1) y rfl ha rfl rm hk rfl (by
      have hne : ys ≠ [] := by intro z; subst z; simp at hk
      rw [List.dropLast_eq_take, List.eraseIdx_eq_take_drop_succ]
      have : 0 < ys.length := List.length_pos_iff.mpr hne
      rw [show ys.length - 1 + 1 = ys.length by omega]
      simp)
    obtain ⟨rfl, rfl⟩ := rl
    have hlw := rm.length
    rw [← hlw] at h1
    refine mt_pop pins s σ H _ _ vv us Q I rx rxs ⟨a, ws, u, rfl, rfl, ha, h1, ?_⟩
    have e : ws.dropLast = ws.eraseIdx (ys.length - 1) := by
      have hne : ys ≠ [] := by intro z; subst z; simp at hk
      have : 0 < ys.length := List.length_pos_iff.mpr hne
      rw [List.dropLast_eq_take, List.eraseIdx_eq_take_drop_succ, ← hlw]
      rw [show ws.length - 1 + 1 = ws.length by omega]
      simp
    rw [e]
    exact q _ _ h2
  · rename_i ys n
    obtain ⟨k, h0, hm2⟩ := Option.bind_eq_some_iff.mp hm
    obtain ⟨d, hk, e⟩ := Option.map_eq_some_iff.mp hm2
    cases e
    obtain ⟨a, ws, f, rfl, ha, rfl, rm⟩ := r
    obtain ⟨u, h1, h2⟩ := main a ys ws f k y rfl ha rfl rm hk rfl rfl
    obtain ⟨v', rfl, fp2, r2⟩ := rpl_one rl
    rw [r2.1] at rxs
    have hlw := rm.length
    obtain ⟨b1, b2, b3, b4⟩ := ixN_seq h0
    obtain ⟨z, _⟩ : ws.length ≤ sizeLine ∧ True := ⟨(I.hok a _ ha).1, True.intro⟩
    have hl := line63
    exact mt_popAt pins s σ H _ _ vv us Q I rx rxs ⟨a, ws, n, k, u, rfl, rfl, ha, by omega, by omega, by rw [hlw]; exact b1, h1, q _ _ h2⟩
  · cases hm
theorem same_int {i j : Int} : D.same (.int i) (.int j) = (i == j) := rfl
theorem firstAt_int {i : Int} : ∀ {ns : List Int} {k : Nat}, firstAt (.int i) (ns.map D.int) = some k → ns[k]? = some i ∧ ∀ m : Nat, m < k → ns[m]? ≠ some i
  | [], k, h => by simp [firstAt] at h
  | n :: ns, k, h => by
    simp only [List.map_cons, firstAt] at h
    by_cases hs : D.same (.int n) (.int i) = true
    · rw [if_pos hs] at h
      cases h
      exact ⟨by rw [← beq_iff_eq.mp (show (n == i) = true from hs)] <;> rfl, fun m hm => absurd hm (Nat.not_lt_zero _)⟩
    · rw [if_neg hs] at h
      obtain ⟨j, h1, rfl⟩ := Option.map_eq_some_iff.mp h
      obtain ⟨h2, h3⟩ := firstAt_int h1
      refine ⟨by simpa using h2, fun m hm => ?_⟩
      cases m with
      | zero => intro z; exact hs (show (n == i) = true by simpa using z)
      | succ m => simpa using h3 m (by omega)
theorem erase_map {α β : Type} (g : α → β) : ∀ (ns : List α) (k : Nat), (ns.map g).eraseIdx k = (ns.eraseIdx k).map g
  | [], _ => rfl
  | _ :: _, 0 => rfl
  | n :: ns, k + 1 => by simp [erase_map g ns k]
theorem mt_remove_all : MtR X "list.remove" (rM X .remove) := by
  intro pins s σ H v vs vv us Q I rx rxs h
  obtain ⟨x, ds, y, x', fp, fa, r, rl, nd, hm, q⟩ := h
  replace rl := rl.resolve_right (fun z => by cases z.1)
  replace hm : removeD x ds = some (y, x') := hm
  unfold removeD at hm
  split at hm
  · rename_i ys n
    obtain ⟨ns, h1, hm2⟩ := Option.bind_eq_some_iff.mp hm
    obtain ⟨k, h2, e⟩ := Option.map_eq_some_iff.mp hm2
    cases e
    have e := intsOf_map h1
    subst e
    obtain ⟨a, ws, f, rfl, ha, rfl, rm⟩ := r
    have e := rpl_ints rm
    subst e
    obtain ⟨v', rfl, fp2, r2⟩ := rpl_one rl
    rw [r2.1] at rxs
    obtain ⟨h3, h4⟩ := firstAt_int h2
    refine mt_remove pins s σ H _ _ vv us Q I rx rxs ⟨a, ns, n, k, rfl, rfl, ha, h3, h4, q _ _ ⟨a, [a], [], rfl, by simp, fun b hb => upd_ne hb, by rw [upd_same]; exact True.intro, ?_, ⟨rfl, rfl⟩, by simp, fun b hb => .inl (by simp at hb; simp [hb])⟩⟩
    exact ⟨a, _, [], rfl, upd_same, rfl, by rw [erase_map]; exact ints_rpl _⟩
  · cases hm

/-- the end of a change: the slot n has x' now, y is handed out -/
theorem mut_done {n : Nat} {H1 H' : Hp} {Sh1 : Addr → Prop} {F1 : List (List Addr)} {e1 : Envv} {v w : V} {x' y : D} {a0 : Addr} {fp' fy fa : List Addr} (R1 : Rel C.io X.K X.mg σ H1 Sh1 F1 e1) (S1 : Stp ms H Sh F e H1 Sh1 F1 e1)
    (hv : σ[n]? = some (some v)) (h0 : a0 ∈ F1.getD n []) (hH : ∀ b, b ≠ a0 → H' b = H1 b) (mu : Mt (H' a0)) (rx : Rp X.K X.mg H' x' v fp') (ry : Rp X.K X.mg H' y w fy) (nd : (fp' ++ fy).Nodup) (hs : ∀ b ∈ fp' ++ fy, b ∈ F1.getD n [] ∨ b ∈ fa)
    (ha : ∀ a ∈ fa, (Mt (H1 a) ∧ ¬ Sh1 a ∧ a ∉ F1.flatten) ∧ (a ∈ F.flatten ∨ H a = none)) :
    Post C X σ (n :: ms) H Sh F e y .own (e1.set n (.ow x')) w H' Sh1 (F1.set n fp') := by
  have hn : n < σ.length := (List.getElem?_eq_some_iff.mp hv).1
  have h0F : a0 ∈ F1.flatten := mem_getD h0
  have muA : ∀ b, Mt (H1 b) → Mt (H' b) := fun b hb => by
    by_cases q : b = a0
    · subst q; exact mu
    · rw [hH b q]; exact hb
  have own1 : ∀ b ∈ fp' ++ fy, Mt (H1 b) ∧ ¬ Sh1 b := fun b hb => by
    rcases hs b hb with z | z
    · exact R1.mu b (mem_getD z)
    · exact ⟨(ha b z).1.1, (ha b z).1.2.1⟩
  obtain ⟨nd1, nd2, nd3⟩ := List.nodup_append.mp nd
  have shne : ∀ b, Sh1 b → b ≠ a0 := fun b hb z => (R1.mu a0 h0F).2 (by rw [← z]; exact hb)
  have R2 : Rel C.io X.K X.mg σ H' Sh1 (F1.set n fp') (e1.set n (.ow x')) := R1.put hn ⟨rfl, fun _ _ => rfl⟩ (.inr rfl) (fun b _ hb => hH b fun z => hb (by rw [z]; exact h0)) (fun _ h => h)
    (fun b hb => ⟨by rw [hH b (shne b hb)]; exact R1.sa b hb, .inl hb, fun z => (own1 b (List.mem_append_left _ z)).2 hb⟩) nd1
    (fun b hb => ⟨muA b (own1 b (List.mem_append_left _ hb)).1, (hs b (List.mem_append_left _ hb)).imp id fun z => ⟨(ha b z).1.2.2, (ha b z).1.2.1⟩⟩) ⟨v, hv, rx⟩
  have orig : ∀ b ∈ fp' ++ fy, b ∈ F.flatten ∨ H b = none := fun b hb => by
    rcases hs b hb with z | z
    · exact S1.fs b (mem_getD z)
    · exact (ha b z).2
  have h0' : a0 ∈ F.flatten ∨ H a0 = none := S1.fs a0 h0F
  refine ⟨R2, ⟨fun b h1 h2 => ?_, fun b h1 => ?_, fun b hb => ?_, S1.ss, S1.sn, fun m hm' => ?_⟩, fy, ry, nd2, fun b hb => ⟨⟨muA b (own1 b (List.mem_append_right _ hb)).1, (own1 b (List.mem_append_right _ hb)).2, fun z => ?_⟩, orig b (List.mem_append_right _ hb)⟩⟩
  · have hne : b ≠ a0 := fun z => h0'.elim (fun y => h2 (by rw [z]; exact y)) fun y => h1.1 (by rw [z]; exact y)
    rw [hH b hne]; exact S1.kp b h1 h2
  · by_cases q : b = a0
    · rw [q]; exact mut_ne mu
    · rw [hH b q]; exact S1.al b h1
  · rcases mem_set hb with z | z
    · exact orig b (List.mem_append_left _ z)
    · exact S1.fs b z
  · have hmn : m ≠ n := fun z => hm' (by rw [z]; simp)
    obtain ⟨q1, q2, q3⟩ := S1.fr m fun z => hm' (List.mem_cons_of_mem _ z)
    refine ⟨(getD_set_ne hmn).trans q1, (getD_set_ne hmn).trans q2, fun b hb => ?_⟩
    rw [hH b fun z => ?_]
    · exact q3 b hb
    · rw [← q2] at hb
      exact not_other R1.nd hmn (by rw [← z]; exact hb) h0
  · have hnF : n < F1.length := by rw [R1.lF]; exact hn
    rcases hs b (List.mem_append_right _ hb) with q | q
    · -- it was the slot's, and is no longer
      have z' : b ∈ fp' ∨ (b ∈ F1.flatten ∧ b ∉ F1.getD n []) := by
        obtain ⟨A, B, e1', e2'⟩ := fl_split hnF
        rw [e2'] at z
        have nd0 := R1.nd
        generalize F1.getD n [] = m at e1'
        subst e1'
        simp only [List.flatten_append, List.flatten_cons, List.nodup_append, List.mem_append] at z nd0 ⊢
        obtain ⟨n1, ⟨n2, n3, n4⟩, n5⟩ := nd0
        rcases z with z | z | z
        · exact .inr ⟨.inl z, fun y => n5 b z b (.inl y) rfl⟩
        · exact .inl z
        · exact .inr ⟨.inr (.inr z), fun y => n4 b y b z rfl⟩
      rcases z' with z' | ⟨_, z'⟩
      · exact nd3 b z' b hb rfl
      · exact z' q
    · rcases mem_set z with z' | z'
      · exact nd3 b z' b hb rfl
      · exact (ha b q).1.2.2 z'
theorem own_args {H1 : Hp} {Sh1 : Addr → Prop} {F1 : List (List Addr)} {e1 : Envv} {ds : List D} {ps : List Pv} {vs : List V} {m : Mf} (P : PostL C X σ ms H Sh F e ds ps e1 vs H1 Sh1 F1) (h : argsOk m ds ps = true) :
    ∃ fa, (RpL X.K X.mg H1 ds vs fa ∨ (m = .extend ∧ fa = [] ∧ ds.all D.flat = true ∧ ∃ fq, RpL X.K X.mg H1 ds vs fq)) ∧ fa.Nodup ∧ ∀ a ∈ fa, (Mt (H1 a) ∧ ¬ Sh1 a ∧ a ∉ F1.flatten) ∧ (a ∈ F.flatten ∨ H a = none) := by
  obtain ⟨fa, t, nda, hfa⟩ := P.tmp
  unfold argsOk at h
  rw [Bool.or_eq_true] at h
  rcases h with h | h
  · exact ⟨fa, .inl (t.own h), nda, hfa⟩
  · rw [Bool.and_eq_true] at h
    exact ⟨[], .inr ⟨by simpa using h.1, rfl, h.2, t.rp⟩, by simp, by simp⟩
/-- x.m(..), a list's method -/
theorem mth_core {n : Nat} {m : Mf} {vs : List V} {v : V} {x : D} {H1 : Hp} {Sh1 : Addr → Prop} {F1 : List (List Addr)} {e1 : Envv} {ds : List D} {ps : List Pv} {r : Res} (hr : C.ev (.mth n m is) e = r) (hb : r ≠ .bad) (hs : e.getD n .un = .ow x) (hn : n ∉ is.mods) (hv : σ[n]? = some (some v))
    (P : PostL C X σ is.mods H Sh F e ds ps e1 vs H1 Sh1 F1) (q : (if argsOk m ds ps then (match mthD m x ds with | some (y, x') => Res.ok y .own (e1.set n (.ow x')) | none => .bad) else .bad) = r) :
    rM X m v vs H1 fun w H' => ∃ d p e' Sh' F', C.ev (.mth n m is) e = .ok d p e' ∧ Post C X σ (Ex.mth n m is).mods H Sh F e d p e' w H' Sh' F' := by
  split at q
  case isFalse => exact absurd q.symm hb
  rename_i hok
  obtain ⟨fa, hl, nda, hfa⟩ := own_args P hok
  obtain ⟨q1, q2, q3⟩ := P.stp.fr n hn
  obtain ⟨v', hv', rx⟩ := P.rel.ow n x (q1.trans hs)
  rw [hv] at hv'
  cases hv'
  cases hz : mthD m x ds with
  | none => rw [hz] at q; exact absurd q.symm hb
  | some yx =>
    obtain ⟨y, x'⟩ := yx
    rw [hz] at q
    refine ⟨x, ds, y, x', F1.getD n [], fa, rx, hl, List.nodup_append.mpr ⟨nd_get P.rel.nd, nda, fun a ha b hb z => ?_⟩, hz, fun w' H' M => ?_⟩
    · subst z
      exact (hfa a hb).1.2.2 (mem_getD ha)
    · obtain ⟨a0, fp', fy, e0, h0, hH, mu, r1, r2, nd, hsub⟩ := M.ex
      exact ⟨y, .own, _, Sh1, F1.set n fp', hr.trans q.symm, mut_done P.rel P.stp hv h0 hH mu r1 r2 nd hsub hfa⟩
theorem ow_lst {n : Nat} {x : D} (R : Rel C.io X.K X.mg σ H Sh F e) (hs : e.getD n .un = .ow x) (hl : x.isLst = true) : ∃ v a ws, σ[n]? = some (some v) ∧ v = .ref a ∧ H a = some (.lst ws) := by
  obtain ⟨v, h1, h2⟩ := R.ow n x hs
  cases x with
  | lst xs =>
    obtain ⟨a, ws, fq, rfl, ha, _⟩ := h2
    exact ⟨_, a, ws, h1, rfl, ha⟩
  | _ => cases hl
theorem ev_mth {n : Nat} {m : Mf} : C.ev (.mth n m is) e = (match e.getD n .un with
    | .ow x => if !x.isLst || (is.mods).contains n then .bad else (C.evs is e).bind fun ds ps e1 => if argsOk m ds ps then (match mthD m x ds with
        | some (y, x') => .ok y .own (e1.set n (.ow x'))
        | none => .bad) else .bad
    | _ => .bad) := rfl
theorem se_mth {n : Nat} {m : Mf} {x name : Str} {id : String} {xp apos cpos : Pos} (slot : Slot "list" name id) (hty : typeOf (.builtin id) = pure (.type "method_descriptor")) (hm : MtR X id (rM X m)) (hN : X.N[n]? = some x) (hv : Vis X.env.scope x) (h : SEs C X (a :: es) is)
    (hbase : attributeBase (.Name x xp) name X.env (eval (.Name x xp) X.env) = eval (.Name x xp) X.env := by rfl)
    (hfew : ((backTo cpos (starEach (a :: es) X.env)).all (fun x => !x.1) && (backToKw cpos (keywordEach [] X.env)).all (fun x => x.1.isSome)
      && decide ((a :: es).length + ([] : List Keyword).length + (if ([] : List Keyword).isEmpty then 0 else 1) < 30)) = true := by rfl)
    (hline : (apos.endLine == cpos.line) = true := by rfl) (hst : starEach (a :: es) X.env = (false, eval a X.env) :: starEach es X.env := by rfl) (hpl : (backTo cpos (starEach es X.env)).any (·.1) = false := by rfl)
    (hd : (x == ("__debug__" : Str)) = false := by decide) (hcd : (x == ("__classdict__" : Str)) = false := by decide) :
    SE C X (.Call (.Attribute (.Name x xp) name apos) (a :: es) [] cpos) (.mth n m is) := by
  intro σ H Sh F e W tk R hx hb
  obtain ⟨r, hr⟩ : ∃ r, C.ev (.mth n m is) e = r := ⟨_, rfl⟩
  rw [hr] at hb
  have ev := hr
  rw [ev_mth] at ev
  refine cR_of (pe_bm PySem.F.plainAttrs_list slot hty hm (pe_var hN hv hd hcd) pa_can hbase hfew hline hst hpl) ?_
  cases hs : e.getD n .un with
  | un => rw [hs] at ev; exact absurd ev.symm hb
  | sh d => rw [hs] at ev; exact absurd ev.symm hb
  | ow d =>
    rw [hs] at ev
    dsimp only at ev
    by_cases hc : (!d.isLst || is.mods.contains n) = true
    · rw [if_pos hc] at ev; exact absurd ev.symm hb
    rw [if_neg hc] at ev
    simp only [Bool.or_eq_true, Bool.not_eq_true', List.contains_iff_mem, not_or, Bool.not_eq_false] at hc
    obtain ⟨v, b, ws, h1, rfl, h3⟩ := ow_lst R hs hc.1
    refine ⟨_, h1, .inl ⟨rfl, ws, SqL.of h3⟩, ?_⟩
    refine h.bind tk R ev hb (fun k hk => List.mem_cons_of_mem n hk) (fun x e' he => hx x e' (hr.trans he)) fun ds ps e1 vs H1 Sh1 F1 hlen P q => ?_
    exact mth_core hr hb hs hc.2 h1 P q
theorem se_mth0 {n : Nat} {m : Mf} {x name : Str} {id : String} {xp apos cpos : Pos} (slot : Slot "list" name id) (hty : typeOf (.builtin id) = pure (.type "method_descriptor")) (hm : MtR X id (rM X m)) (hN : X.N[n]? = some x) (hv : Vis X.env.scope x)
    (hbase : attributeBase (.Name x xp) name X.env (eval (.Name x xp) X.env) = eval (.Name x xp) X.env := by rfl) (hline : (apos.endLine == cpos.line) = true := by rfl)
    (hd : (x == ("__debug__" : Str)) = false := by decide) (hcd : (x == ("__classdict__" : Str)) = false := by decide) :
    SE C X (.Call (.Attribute (.Name x xp) name apos) [] [] cpos) (.mth n m .nil) := by
  intro σ H Sh F e W tk R hx hb
  obtain ⟨r, hr⟩ : ∃ r, C.ev (.mth n m .nil) e = r := ⟨_, rfl⟩
  rw [hr] at hb
  have ev := hr
  rw [ev_mth] at ev
  refine cR_of (pe_bm0 PySem.F.plainAttrs_list slot hty hm (pe_var hN hv hd hcd) hbase hline) ?_
  cases hs : e.getD n .un with
  | un => rw [hs] at ev; exact absurd ev.symm hb
  | sh d => rw [hs] at ev; exact absurd ev.symm hb
  | ow d =>
    rw [hs] at ev
    dsimp only at ev
    by_cases hc : (!d.isLst || Exs.nil.mods.contains n) = true
    · rw [if_pos hc] at ev; exact absurd ev.symm hb
    rw [if_neg hc] at ev
    simp only [Bool.or_eq_true, Bool.not_eq_true', List.contains_iff_mem, not_or, Bool.not_eq_false] at hc
    obtain ⟨v, b, ws, h1, rfl, h3⟩ := ow_lst R hs hc.1
    refine ⟨_, h1, .inl ⟨rfl, ws, SqL.of h3⟩, ?_⟩
    exact mth_core (ds := []) (ps := []) (vs := []) hr hb hs hc.2 h1 ⟨R, Stp.refl, [], rfl, by simp, by simp⟩ ev
end
end DL
end
section
set_option Elab.async false
set_option linter.all false
set_option maxRecDepth 100000
/-! D layer, 11: what stands within an object is changed. -/
namespace DL
open PySem PySem.Spec PyProof.Rows L2
section
variable {C : Dc} {X : Cx} {W : WX} {σ : L2.St} {H : Hp} {Sh : Addr → Prop} {F : List (List Addr)} {e : Envv} {a b c : Expr} {es : List Expr} {i j k l : Ex} {is : Exs} {ms : List Nat} {pos : Pos}
/-- z stands at y in x, as w -/
structure AtP (K : PySem.W.Frag) (mg : Str → Option Value) (H : Hp) (x : D) (v : V) (fp : List Addr) (y z : D) (w : V) : Prop where
  ex : ∃ g1 fr g2, fp = g1 ++ (fr ++ g2) ∧ Rp K mg H z w fr ∧ ∀ H' z' fr' x', Keep H H' → (∀ a ∈ g1 ++ g2, H' a = H a) → Rp K mg H' z' w fr' → setD x y z' = some x' → Rp K mg H' x' v (g1 ++ (fr' ++ g2))
theorem AtP.stay {K : PySem.W.Frag} {mg : Str → Option Value} {H' : Hp} {x y z : D} {v w : V} {fp : List Addr} (h : AtP K mg H x v fp y z w) (k : Keep H H') (eq : ∀ a ∈ fp, H' a = H a) : AtP K mg H' x v fp y z w := by
  obtain ⟨g1, fr, g2, rfl, r, f⟩ := h.ex
  refine ⟨g1, fr, g2, rfl, r.stay k _ fun a ha => eq a (by simp [ha]), fun H2 z' fr' x' k2 e2 r2 hs => f H2 z' fr' x' (k.trans k2) (fun a ha => ?_) r2 hs⟩
  rw [e2 a ha]
  refine eq a ?_
  rcases List.mem_append.mp ha with z | z <;> simp [z]
theorem look_focus {K : PySem.W.Frag} {mg : Str → Option Value} {k : Key} : ∀ {kvs : List (Key × V)} {vs : List D} {fq : List Addr} {z : D}, RpL K mg H vs (kvs.map (·.2)) fq → look (kvs.map fun p => keyD p.1) (keyD k) vs = some z → ∃ w f1 fr f2, valV kvs k = some w ∧ fq = f1 ++ (fr ++ f2) ∧ Rp K mg H z w fr ∧
    ∀ H' z' fr', Keep H H' → (∀ a ∈ f1 ++ f2, H' a = H a) → Rp K mg H' z' w fr' → (putD (kvs.map fun p => keyD p.1) vs (keyD k) z').1 = (kvs.map fun p => keyD p.1) ∧ RpL K mg H' (putD (kvs.map fun p => keyD p.1) vs (keyD k) z').2 (kvs.map (·.2)) (f1 ++ (fr' ++ f2))
  | [], vs, _, z, _, h => by cases vs <;> simp [look] at h
  | p :: kvs, [], _, z, _, h => by simp [look] at h
  | p :: kvs, d :: vs, fq, z, r, h => by
    obtain ⟨v, vr, f1, f2, e1, rfl, r1, r2⟩ := r
    rw [List.map_cons, List.cons.injEq] at e1
    obtain ⟨rfl, rfl⟩ := e1
    have hk : (keyD k).key = true := by cases k <;> rfl
    simp only [List.map_cons, look] at h
    by_cases hs : (keyD p.1).same (keyD k) = true
    · rw [if_pos hs] at h
      cases h
      have e := keyD_inj ((keyD_same hk).mp hs)
      refine ⟨p.2, [], f1, f2, valV_pos e.symm, rfl, r1, fun H' z' fr' kp eq rn => ?_⟩
      simp only [List.map_cons, putD, if_pos hs]
      exact ⟨True.intro, p.2, _, fr', f2, rfl, rfl, rn, r2.stay kp _ fun a ha => eq a ha⟩
    · rw [if_neg hs] at h
      have ne : ¬ p.1 = k := fun q => hs ((keyD_same hk).mpr (by rw [q]))
      obtain ⟨w, g1, fr, g2, h1, rfl, h2, h3⟩ := look_focus r2 h
      refine ⟨w, f1 ++ g1, fr, g2, by rw [valV_neg ne]; exact h1, by simp, h2, fun H' z' fr' kp eq rn => ?_⟩
      obtain ⟨q1, q2⟩ := h3 H' z' fr' kp (fun a ha => eq a (by rcases List.mem_append.mp ha with z | z <;> simp [z])) rn
      simp only [List.map_cons, putD, if_neg hs]
      exact ⟨by first | exact True.intro | rw [q1], p.2, _, f1, g1 ++ (fr' ++ g2), rfl, by simp, r1.stay kp _ fun a ha => eq a (by simp [ha]), q2⟩
def rXx (X : Cx) : R2 := fun v u H Q => ∃ x y z fp fq, Rp X.K X.mg H x v fp ∧ Rp X.K X.mg H y u fq ∧ ixD x y = some z ∧ ∀ w, AtP X.K X.mg H x v fp y z w → Q w H
theorem ix_allx (hu : Xo X) : IxR X (rXx X) := by
  intro value slice pins s σ H v u vv uu Q I r1 r2 h hs
  obtain ⟨x, y, z, fp, fq, rx, ry, hz, q⟩ := h
  cases x with
  | lst xs =>
    cases y with
    | int n =>
      obtain ⟨a, vs, f1, rfl, ha, rfl, rl⟩ := rx
      obtain ⟨jj, h1, h2⟩ := Option.bind_eq_some_iff.mp (show ((ixN xs.length n).bind fun j => xs[j]?) = some z from hz)
      obtain ⟨w', g1, fr, g2, h3, rfl, h4, _, h5⟩ := rl.focus h2
      rw [ry.1] at r2
      refine ix_list value slice pins s σ H _ _ vv uu Q I r1 r2 ⟨a, vs, n, w', rfl, rfl, SqL.of ha, by unfold atI; rw [rl.length, h1]; exact h3, q w' ⟨a :: g1, fr, g2, rfl, h4, fun H' z' fr' x' k eq rn hset => ?_⟩⟩ hs
      simp only [setD, h1, Option.map_some, Option.some.injEq] at hset
      subst hset
      have hvs : vs.set jj w' = vs := by
        rw [List.set_eq_take_append_cons_drop]
        obtain ⟨hlt, e⟩ := List.getElem?_eq_some_iff.mp h3
        rw [if_pos hlt, ← e]
        simp
      have hr := h5 H' z' w' fr' k (fun b hb => eq b (by rcases List.mem_append.mp hb with z | z <;> simp [z])) rn
      rw [hvs] at hr
      exact ⟨a, vs, g1 ++ (fr' ++ g2), rfl, (eq a (by simp)).trans ha, rfl, hr⟩
    | _ => simp [ixD] at hz
  | tup xs =>
    cases y with
    | int n =>
      obtain ⟨a, vs, rfl, ha, rl⟩ := rx
      obtain ⟨jj, h1, h2⟩ := Option.bind_eq_some_iff.mp (show ((ixN xs.length n).bind fun j => xs[j]?) = some z from hz)
      obtain ⟨w', g1, fr, g2, h3, rfl, h4, _, h5⟩ := rl.focus h2
      rw [ry.1] at r2
      refine ix_tup value slice pins s σ H _ _ vv uu Q I r1 r2 ⟨a, vs, n, w', rfl, rfl, ha, by unfold atI; rw [rl.length, h1]; exact h3, q w' ⟨g1, fr, g2, rfl, h4, fun H' z' fr' x' k eq rn hset => ?_⟩⟩ hs
      simp [setD] at hset
    | _ => simp [ixD] at hz
  | dct ks xs =>
    have hz' : (if y.key then look ks y xs else none) = some z := by cases y <;> exact hz
    split at hz'
    · rename_i hk
      obtain ⟨k, rfl, rfl⟩ := key_of hk ry
      obtain ⟨a, kvs, f1, rfl, ha, rfl, rfl, rl⟩ := rx
      obtain ⟨w', g1, fr, g2, h1, rfl, h2, h3⟩ := look_focus rl hz'
      cases r1
      have g : DGet H a (kV k) (some w') := by rw [← h1]; exact DGet.k ha
      refine tail_any (dict_typeIs I g) PySem.F.slot_dict_getitem.lookup (d_getItem (by have := hu.un; omega) I g r2 fun w2 s' I' rw' => ⟨w', H, I', rw', q w' ⟨a :: g1, fr, g2, rfl, h2, fun H' z' fr' x' kp eq rn hset => ?_⟩⟩) hs
      obtain ⟨q1, q2⟩ := h3 H' z' fr' kp (fun b hb => eq b (by rcases List.mem_append.mp hb with z | z <;> simp [z])) rn
      have hset' : (if ((keyD k).key && decide ((kvs.map fun p => keyD p.1).length < 1000000)) = true then some (let r := putD (kvs.map fun p => keyD p.1) xs (keyD k) z'; D.dct r.1 r.2) else none) = some x' := by
        cases k <;> exact hset
      split at hset'
      · cases hset'
        exact ⟨a, kvs, g1 ++ (fr' ++ g2), rfl, (eq a (by simp)).trans ha, rfl, q1.symm, q2⟩
      · cases hset'
    · cases hz'
  | _ => cases y <;> simp [ixD] at hz
theorem ev_mthx {n : Nat} {m : Mf} : C.ev (.mthx n i m is) e = (match e.getD n .un with
    | .ow x => if (i.mods ++ is.mods).contains n then .bad else (C.ev i e).bind fun k q e1 => if q == .own then (match ixD x k with
      | some y => if !y.isLst then .bad else (C.evs is e1).bind fun ds ps e2 => if argsOk m ds ps then (match mthD m y ds with
        | some (z, y') => match setD x k y' with
          | some x' => .ok z .own (e2.set n (.ow x'))
          | none => .bad
        | none => .bad) else .bad
      | none => .bad) else .bad
    | _ => .bad) := rfl
/-- the end of a method's call within x -/
theorem mthx_core {n : Nat} {m : Mf} {vs : List V} {v w : V} {x y k : D} {H1 : Hp} {Sh1 : Addr → Prop} {F1 : List (List Addr)} {e1 : Envv} {ds : List D} {r : Res} (hb : r ≠ .bad) (hv : σ[n]? = some (some v)) (hn : n ∉ ms)
    (R1 : Rel C.io X.K X.mg σ H1 Sh1 F1 e1) (S1 : Stp ms H Sh F e H1 Sh1 F1 e1) (ha : ∃ fa, (RpL X.K X.mg H1 ds vs fa ∨ (m = .extend ∧ fa = [] ∧ ds.all D.flat = true ∧ ∃ fq, RpL X.K X.mg H1 ds vs fq)) ∧ fa.Nodup ∧ ∀ a ∈ fa, (Mt (H1 a) ∧ ¬ Sh1 a ∧ a ∉ F1.flatten) ∧ (a ∈ F.flatten ∨ H a = none))
    (A : AtP X.K X.mg H1 x v (F1.getD n []) k y w) (q : (match mthD m y ds with | some (z, y') => (match setD x k y' with | some x' => Res.ok z .own (e1.set n (.ow x')) | none => .bad) | none => .bad) = r) :
    rM X m w vs H1 fun u H' => ∃ d p e' Sh' F', r = .ok d p e' ∧ Post C X σ (n :: ms) H Sh F e d p e' u H' Sh' F' := by
  obtain ⟨fa, hl, nda, hfa⟩ := ha
  obtain ⟨g1, fr, g2, eF, ry, hset⟩ := A.ex
  cases hz : mthD m y ds with
  | none => rw [hz] at q; exact absurd q.symm hb
  | some zy =>
    obtain ⟨z, y'⟩ := zy
    rw [hz] at q
    dsimp only at q
    cases hs : setD x k y' with
    | none => rw [hs] at q; exact absurd q.symm hb
    | some x' =>
      rw [hs] at q
      have ndF : (g1 ++ (fr ++ g2)).Nodup := by rw [← eF]; exact nd_get R1.nd
      obtain ⟨d1, d2, d3⟩ := List.nodup_append.mp ndF
      obtain ⟨d4, d5, d6⟩ := List.nodup_append.mp d2
      have inF : ∀ b ∈ g1 ++ (fr ++ g2), b ∈ F1.flatten := fun b hb => mem_getD (by rw [eF]; exact hb)
      refine ⟨y, ds, z, y', fr, fa, ry, hl, List.nodup_append.mpr ⟨d4, nda, fun a ha b hb z => ?_⟩, hz, fun u H' M => ?_⟩
      · subst z
        exact (hfa a hb).1.2.2 (inF a (by simp [ha]))
      · obtain ⟨a0, fp', fy, e0, h0, hH, mu, r1, r2, nd, hsub⟩ := M.ex
        have h0F : a0 ∈ F1.getD n [] := by rw [eF]; simp [h0]
        have m0 := (R1.mu a0 (mem_getD h0F)).1
        have kp : Keep H1 H' := .of fun b o q nm => by
          rw [hH b fun z => nm (by rw [← q, z]; exact m0)]; exact q
        have oth : ∀ b ∈ g1 ++ g2, H' b = H1 b := fun b hb => hH b fun z => by
          subst z
          rcases List.mem_append.mp hb with z | z
          · exact d3 b z b (by simp [h0]) rfl
          · exact d6 b h0 b z rfl
        have rx := hset H' y' fp' x' kp oth r1 hs
        refine ⟨z, .own, _, Sh1, F1.set n (g1 ++ (fp' ++ g2)), q.symm, mut_done R1 S1 hv h0F hH mu rx r2 ?_ (fun b hb => ?_) hfa⟩
        · -- no address twice
          have dis : ∀ b ∈ fp' ++ fy, b ∉ g1 ∧ b ∉ g2 := fun b hb => by
            rcases hsub b hb with z | z
            · exact ⟨fun y => d3 b y b (by simp [z]) rfl, fun y => d6 b z b y rfl⟩
            · exact ⟨fun y => (hfa b z).1.2.2 (inF b (by simp [y])), fun y => (hfa b z).1.2.2 (inF b (by simp [y]))⟩
          have dg : ∀ b ∈ g1, b ∉ g2 := fun b h1 h2 => d3 b h1 b (by simp [h2]) rfl
          obtain ⟨n1, n2, n3⟩ := List.nodup_append.mp nd
          refine List.nodup_append.mpr ⟨List.nodup_append.mpr ⟨d1, List.nodup_append.mpr ⟨n1, d5, fun b h1 c h2 z => ?_⟩, fun b h1 c h2 z => ?_⟩, n2, fun b h1 c h2 z => ?_⟩
          · subst z; exact (dis b (by simp [h1])).2 h2
          · subst z
            rcases List.mem_append.mp h2 with z | z
            · exact (dis b (by simp [z])).1 h1
            · exact dg b h1 z
          · subst z
            rcases List.mem_append.mp h1 with z | z
            · exact (dis b (by simp [h2])).1 z
            · rcases List.mem_append.mp z with z | z
              · exact n3 b z b h2 rfl
              · exact (dis b (by simp [h2])).2 z
        · rw [eF]
          have sub : ∀ b ∈ fp' ++ fy, b ∈ g1 ++ (fr ++ g2) ∨ b ∈ fa := fun b hb => (hsub b hb).imp (fun z => by simp [z]) id
          rcases List.mem_append.mp hb with z | z
          · rcases List.mem_append.mp z with z | z
            · exact .inl (by simp [z])
            · rcases List.mem_append.mp z with z | z
              · exact sub b (by simp [z])
              · exact .inl (by simp [z])
          · exact sub b (by simp [z])
theorem se_mthx {n : Nat} {m : Mf} {x name : Str} {id : String} {xp apos cpos spos : Pos} (hu : Xo X) (slot : Slot "list" name id) (hty : typeOf (.builtin id) = pure (.type "method_descriptor")) (hm : MtR X id (rM X m)) (hN : X.N[n]? = some x) (hv : Vis X.env.scope x) (hi : SE C X b i) (h : SEs C X (a :: es) is) (hpx : PlainIx b := by intro _ _; rfl)
    (hbase : attributeBase (.Subscript (.Name x xp) b spos) name X.env (eval (.Subscript (.Name x xp) b spos) X.env) = eval (.Subscript (.Name x xp) b spos) X.env := by rfl)
    (hfew : ((backTo cpos (starEach (a :: es) X.env)).all (fun x => !x.1) && (backToKw cpos (keywordEach [] X.env)).all (fun x => x.1.isSome)
      && decide ((a :: es).length + ([] : List Keyword).length + (if ([] : List Keyword).isEmpty then 0 else 1) < 30)) = true := by rfl)
    (hline : (apos.endLine == cpos.line) = true := by rfl) (hst : starEach (a :: es) X.env = (false, eval a X.env) :: starEach es X.env := by rfl) (hpl : (backTo cpos (starEach es X.env)).any (·.1) = false := by rfl)
    (hd : (x == ("__debug__" : Str)) = false := by decide) (hcd : (x == ("__classdict__" : Str)) = false := by decide) :
    SE C X (.Call (.Attribute (.Subscript (.Name x xp) b spos) name apos) (a :: es) [] cpos) (.mthx n i m is) := by
  intro σ H Sh F e W tk R hx hb
  obtain ⟨r, hr⟩ : ∃ r, C.ev (.mthx n i m is) e = r := ⟨_, rfl⟩
  rw [hr] at hb
  have ev := hr
  rw [ev_mthx] at ev
  refine cR_of (pe_bm PySem.F.plainAttrs_list slot hty hm (pe_ix (ix_allx hu) (pe_var hN hv hd hcd) pe_can hpx) pa_can hbase hfew hline hst hpl) ?_
  cases hs : e.getD n .un with
  | un => rw [hs] at ev; exact absurd ev.symm hb
  | sh d => rw [hs] at ev; exact absurd ev.symm hb
  | ow d =>
    rw [hs] at ev
    dsimp only at ev
    by_cases hc : (i.mods ++ is.mods).contains n = true
    · rw [if_pos hc] at ev; exact absurd ev.symm hb
    rw [if_neg hc] at ev
    have hc : n ∉ i.mods ++ is.mods := by simpa using hc
    have hc1 : n ∉ i.mods := fun z => hc (List.mem_append_left _ z)
    have hc2 : n ∉ is.mods := fun z => hc (List.mem_append_right _ z)
    obtain ⟨v, h1, rx⟩ := R.ow n d hs
    refine ⟨v, h1, ?_⟩
    refine hi.bind tk R ev hb (fun k hk => List.mem_cons_of_mem n (List.mem_append_left is.mods hk)) (fun x e' he => hx x e' (hr.trans he)) fun k p e1 u H1 Sh1 F1 P1 q1 => ?_
    by_cases hp : (p == Pv.own) = true
    case neg => rw [if_neg hp] at q1; exact absurd q1.symm hb
    rw [if_pos hp] at q1
    obtain ⟨fq, rk⟩ := P1.tmp.tmp.rp
    obtain ⟨t1, t2, t3⟩ := P1.stp.fr n hc1
    obtain ⟨v', hv', rx1⟩ := P1.rel.ow n d (t1.trans hs)
    rw [h1] at hv'
    cases hv'
    cases hz : ixD d k with
    | none => rw [hz] at q1; exact absurd q1.symm hb
    | some y =>
      rw [hz] at q1
      dsimp only at q1
      by_cases hl : (!y.isLst) = true
      · rw [if_pos hl] at q1; exact absurd q1.symm hb
      rw [if_neg hl] at q1
      refine ⟨d, k, y, _, fq, rx1, rk, hz, fun w A => ?_⟩
      have hw : ∃ b ws, w = .ref b ∧ H1 b = some (.lst ws) := by
        obtain ⟨_, _, _, _, ry, _⟩ := A.ex
        cases y with
        | lst ys => obtain ⟨b, ws, _, rfl, hb, _⟩ := ry; exact ⟨b, ws, rfl, hb⟩
        | _ => exact absurd rfl hl
      obtain ⟨b', ws, rfl, hb'⟩ := hw
      refine ⟨.inl ⟨rfl, ws, SqL.of hb'⟩, ?_⟩
      refine h.bind tk P1.rel q1 hb (fun k hk => List.mem_cons_of_mem n (List.mem_append_right i.mods hk)) (fun x e' he => (hx x e' (hr.trans he)).step P1.stp (fun k hk => List.mem_cons_of_mem n (List.mem_append_left is.mods hk)) fun _ h => h) fun ds ps e2 vs H2 Sh2 F2 hlen P2 q2 => ?_
      by_cases hok : argsOk m ds ps = true
      case neg => rw [if_neg hok] at q2; exact absurd q2.symm hb
      rw [if_pos hok] at q2
      obtain ⟨w1, w2, w3⟩ := P2.stp.fr n hc2
      have A2 : AtP X.K X.mg H2 d v (F2.getD n []) k y (.ref b') := by rw [w2]; exact A.stay (P1.rel.keep P2.stp) w3
      obtain ⟨fa, g1, g2, g3⟩ := own_args P2 hok
      rw [hr]
      refine mthx_core hb h1 hc P2.rel (P1.stp.trans P2.stp) ⟨fa, g1, g2, fun z hz => ⟨(g3 z hz).1, ?_⟩⟩ A2 q2
      rcases (g3 z hz).2 with y | y
      · exact P1.stp.fs z y
      · by_cases q : H z = none
        · exact .inr q
        · exact absurd y (P1.stp.al z q)
end
end DL
end
section
set_option Elab.async false
set_option linter.all false
set_option maxRecDepth 100000
/-! D layer, 12: contracts of defs, calls. -/
namespace DL
open PySem PySem.Spec PyProof.Rows L2

/-- what a call does to a heap: f0 is what the callee may change; fs, what it leaves that is the caller's alone -/
structure CallP (T : List (Addr × Str)) (H : Hp) (f0 : List Addr) (H' : Hp) (fs : List Addr) : Prop where
  kp : ∀ a, Live (H a) → a ∉ f0 → H' a = H a
  al : ∀ a, H a ≠ none → H' a ≠ none
  tb : LamX.Tabs T H'
  nd : fs.Nodup
  own : ∀ a ∈ fs, Mt (H' a) ∧ (a ∈ f0 ∨ H a = none)
/-- whose the answer is -/
def AnsP (T : List (Addr × Str)) (H : Hp) (f0 fq : List Addr) (H' : Hp) (f1 fp : List Addr) : Pv → Prop
  | .own => CallP T H f0 H' (f1 ++ fp)
  | .shr => CallP T H f0 H' f1 ∧ ∀ a ∈ fp, Live (H' a) ∧ a ∉ f1 ∧ (a ∈ fq ∨ a ∈ f0 ∨ H a = none)
  | .bor _ => False
/-- the promise of a def that computes g; io: its first parameter is changed -/
def spD (K : PySem.W.Frag) (mg : Str → Option Value) (T : List (Addr × Str)) (np : Nat) (io : Bool) (g : List D → FR) : Sp := fun vs H Q E => ∃ (ds : List D) (fq f0 : List Addr), vs.length = np ∧ g ds ≠ .bad ∧ (∀ a ∈ fq, Live (H a)) ∧ LamX.Tabs T H ∧
  (if io then ∃ d0 dr v0 vr, ds = d0 :: dr ∧ vs = v0 :: vr ∧ Rp K mg H d0 v0 f0 ∧ RpL K mg H dr vr fq ∧ f0.Nodup ∧ (∀ a ∈ f0, Mt (H a) ∧ a ∉ fq) ∧
      (∀ d p d1 w H' f1 fp, g ds = .ret d p [d1] → AnsP T H f0 fq H' f1 fp p → Rp K mg H' d1 v0 f1 → Rp K mg H' d w fp → Q w H') ∧
      (∀ x d1 c dd H' f1, g ds = .exc x [d1] → CallP T H f0 H' f1 → Rp K mg H' d1 v0 f1 → XnAt K mg x c dd H' → E c dd H')
    else f0 = [] ∧ RpL K mg H ds vs fq ∧
      (∀ d p w H' fp, g ds = .ret d p [] → AnsP T H [] fq H' [] fp p → Rp K mg H' d w fp → Q w H') ∧
      (∀ x c dd H', g ds = .exc x [] → CallP T H [] H' [] → XnAt K mg x c dd H' → E c dd H'))
/-- the def at f keeps a promise, wherever no repr is under way -/
structure FnG (P : Program) (w : World) (K : PySem.W.Frag) (mg : Str → Option Value) (base : Heap) (k : Nat) (f : Addr) (fd : FuncData) (ps : List Str) (sp : Sp) : Prop where
  len : ∀ vs H Q E, sp vs H Q E → vs.length = ps.length
  run : ∀ (A : Around) (outer : List Env) (s : Shared) (H : Hp) (args : Args) (us : List Value) (vs : List V) (Q : VK) (E : XK), Room k A → A.guards = some [] → Env0 P w K mg base A outer s H → BindsTo s fd args (ps.zip us) → Vals vs us → sp vs H Q E →
    codeAny (model P w) A (.call (.ref f) args) (CR (L2.CX P w) outer P w H s Q E) s
theorem FnG.mono {P : Program} {w : World} {K : PySem.W.Frag} {mg : Str → Option Value} {base : Heap} {j k : Nat} {f : Addr} {fd : FuncData} {ps : List Str} {sp : Sp} (F : FnG P w K mg base j f fd ps sp) (h : j ≤ k) : FnG P w K mg base k f fd ps sp :=
  ⟨F.len, fun A outer s H args us vs Q E hr => F.run A outer s H args us vs Q E (hr.mono h)⟩

/-- what is asked of the context of calls at level k -/
structure Xk (X : Cx) (k : Nat) : Prop where
  xo : Xo X
  rm : Room k X.A
  gd : X.A.guards = some []
/-- what a text stands on -/
structure Gnd where
  P : Program
  w : World
  K : PySem.W.Frag
  mg : Str → Option Value
  base : Heap
  T : List (Addr × Str)
abbrev _root_.L2.Cx.gnd (X : Cx) (T : List (Addr × Str)) : Gnd := ⟨X.prog, X.w, X.K, X.mg, X.base, T⟩
/-- the def x of the text, at level k, computes g -/
structure DefAt (G : Gnd) (k : Nat) (x : Str) (np : Nat) (io : Bool) (g : List D → FR) : Prop where
  ex : ∃ f fd ps, G.mg x = some (.ref f) ∧ PySem.W.keepIn G.K (.ref f) = true ∧ ps.length = np ∧ Binds G.K fd ps [] ∧ FnG G.P G.w G.K G.mg G.base k f fd ps (spD G.K G.mg G.T np io g)
section
variable {C : Dc} {X : Cx} {W : WX} {σ : L2.St} {H : Hp} {Sh : Addr → Prop} {F : List (List Addr)} {e : Envv} {a b c : Expr} {es : List Expr} {i j l : Ex} {is : Exs} {ms : List Nat} {pos : Pos} {k : Nat}
theorem run_fg {pins : List (Addr × Obj)} {s : Shared} {Q : VK} {us : List Value} {vs : List V} {f : Addr} {fd : FuncData} {ps : List Str} {sp : Sp} {E : XK} (G : FnG X.prog X.w X.K X.mg X.base k f fd ps sp) (hr : Xk X k) (hb : Binds X.K fd ps []) (tk : Takes X W) (hW : ∀ cls d H, E cls d H → W cls d σ H)
    (I : Inv X pins σ H s) (r : Vals vs us) (h : sp vs H Q E) : wpAny (model X.prog X.w) X.A (call (.ref f) us) (EP X pins σ Q) X.xe s := by
  have hl : us.length = ps.length := by rw [← r.length]; exact G.len _ _ _ _ h
  have bt := hb s us I.kIn (by rw [List.append_nil]; exact hl)
  rw [List.append_nil] at bt
  refine wpAny_call (codeAny_mono (G.run X.A X.stack s H ⟨us, []⟩ us vs Q E hr.rm hr.gd I.env0 bt r h) fun r s' hq => ?_)
  cases r with
  | error e => exact tk e s' (XE.of_call I (fun c d H' q => hW c d H' q) hq)
  | ok fl =>
    cases fl with
    | ret u => exact I.after hq
    | next => exact hq.elim
    | brk => exact hq.elim
    | cont => exact hq.elim
/-- f(..) by the canonical readings of its arguments -/
theorem fcall {x : Str} {p : Pos} {f : Addr} {fd : FuncData} {ps : List Str} {sp : Sp} {E : XK} {Q : VK} (G : FnG X.prog X.w X.K X.mg X.base k f fd ps sp) (hr : Xk X k) (hg : Gl X x) (hm : X.mg x = some (.ref f)) (hk : PySem.W.keepIn X.K (.ref f) = true) (hb : Binds X.K fd ps []) (tk : Takes X W) (hW : ∀ cls d H, E cls d H → W cls d σ H)
    (h : cA X (a :: es) σ H fun vs H1 => sp vs H1 Q E) (hdb : (x == ("__debug__" : Str)) = false) (he : starEach (a :: es) X.env = (false, eval a X.env) :: starEach es X.env) (hpl : (backTo pos (starEach es X.env)).any (·.1) = false) : cR X (.Call (.Name x p) (a :: es) [] pos) σ H Q := by
  intro pins s I
  refine wpAny_Call_Name_kw (ld_glob I hg hm ?_ hdb)
  refine PySem.W.callWith_K (h₀ := X.base) I.ok.mod.kin hk (thn (h pos pins s I) fun us s1 ⟨vs, H1, I1, r, q⟩ => ⟨I1.kIn, ?_⟩) he hpl
  exact run_fg G hr hb tk hW I1 r q
theorem TmpL.alloc {K : PySem.W.Frag} {mg : Str → Option Value} (R : Rel C.io K mg σ H Sh F e) : ∀ {ps : List Pv} {ds : List D} {vs : List V} {fp : List Addr}, TmpL K mg H Sh F ps ds vs fp → (∀ a ∈ fp, Mt (H a) ∧ a ∉ F.flatten) → ∀ (n : Nat), ∃ fq, RpL K mg H ds vs fq ∧ (∀ a ∈ fq, Live (H a) ∧ (noBor ps = true → a ∈ fp ∨ Sh a)) ∧ (ps.all (· != .bor n) = true → ∀ a ∈ fq, a ∉ F.getD n [])
  | [], [], [], _, t, _, n => ⟨[], ⟨rfl, rfl⟩, by simp, by simp⟩
  | p :: ps, d :: ds, v :: vs, fp, t, h, n => by
    obtain ⟨f1, f2, rfl, q, t⟩ := t
    obtain ⟨fq, r, h1, h2⟩ := TmpL.alloc R t (fun a ha => h a (List.mem_append_right _ ha)) n
    have key : ∃ g, Rp K mg H d v g ∧ (∀ a ∈ g, Live (H a) ∧ (p.nb = true → a ∈ f1 ∨ Sh a)) ∧ (p ≠ .bor n → ∀ a ∈ g, a ∉ F.getD n []) := by
      rcases q with ⟨rfl, r1⟩ | ⟨hp, rfl, t1⟩
      · exact ⟨f1, r1, fun a ha => ⟨(h a (List.mem_append_left _ ha)).1.live, fun _ => .inl ha⟩, fun _ a ha z => (h a (List.mem_append_left _ ha)).2 (mem_getD z)⟩
      · cases p with
        | own => exact absurd rfl hp
        | shr =>
          obtain ⟨g, r1, hg⟩ := t1
          exact ⟨g, r1, fun a ha => ⟨R.sa a (hg a ha), fun _ => .inr (hg a ha)⟩, fun _ a ha z => (R.mu a (mem_getD z)).2 (hg a ha)⟩
        | bor m =>
          obtain ⟨g, r1, hg⟩ := t1
          exact ⟨g, r1, fun a ha => ⟨(R.mu a (mem_getD (hg a ha))).1.live, fun z => by cases z⟩, fun hne a ha z => not_other R.nd (fun y => hne (by rw [y])) (hg a ha) z⟩
    obtain ⟨g, r1, h3, h4⟩ := key
    refine ⟨g ++ fq, ⟨v, vs, g, fq, rfl, rfl, r1, r⟩, fun a ha => ?_, fun hall a ha => ?_⟩
    · rcases List.mem_append.mp ha with z | z
      · refine ⟨(h3 a z).1, fun hn => ?_⟩
        unfold noBor at hn
        rw [List.all_cons, Bool.and_eq_true] at hn
        exact ((h3 a z).2 hn.1).imp (fun y => List.mem_append_left _ y) id
      · refine ⟨(h1 a z).1, fun hn => ?_⟩
        unfold noBor at hn
        rw [List.all_cons, Bool.and_eq_true] at hn
        exact ((h1 a z).2 hn.2).imp (fun y => List.mem_append_right _ y) id
    · rw [List.all_cons, Bool.and_eq_true] at hall
      rcases List.mem_append.mp ha with z | z
      · exact h4 (by simpa using hall.1) a z
      · exact h2 hall.2 a z
  | [], [], _ :: _, _, t, _, _ => t.elim
  | [], _ :: _, _, _, t, _, _ => by cases ‹List V› <;> exact t.elim
  | _ :: _, [], _, _, t, _, _ => t.elim
  | _ :: _, _ :: _, [], _, t, _, _ => t.elim
/-- behind a call that changed nothing of ours -/
theorem Rel.called {io : Io} {H' : Hp} {K : PySem.W.Frag} {mg : Str → Option Value} {fp : List Addr} {d : D} {w : V} (R : Rel io K mg σ H Sh F e) (c : CallP io.T H [] H' fp) (r : Rp K mg H' d w fp) : Rel io K mg σ H' Sh F e ∧ Stp ms H Sh F e H' Sh F e ∧ TmpO H F K mg H' Sh F .own d w := by
  have eF : ∀ a ∈ F.flatten, H' a = H a := fun a ha => c.kp a (R.mu a ha).1.live (by simp)
  have eS : ∀ a, Sh a → H' a = H a := fun a ha => c.kp a (R.sa a ha) (by simp)
  have k : Keep H H' := .mk fun b o q _ t => (c.kp b (by rw [q]; exact ⟨(fun z => Option.some_ne_none _ z), (fun ps z => t ps (Option.some.inj z))⟩) (by simp)).trans q
  have hf : ∀ a ∈ fp, Mt (H' a) ∧ H a = none := fun a ha => ⟨(c.own a ha).1, (c.own a ha).2.resolve_left (by simp)⟩
  refine ⟨⟨R.le, R.lF, fun i d hd => ?_, fun i d hd => ?_, R.nd, fun a ha => by rw [eF a ha]; exact R.mu a ha, fun a ha => by rw [eS a ha]; exact R.sa a ha, R.io, c.tb⟩,
    ⟨fun a h _ => c.kp a h (by simp), c.al, fun a h => .inl h, fun _ h => h, fun _ h => .inl h, fun i _ => ⟨rfl, rfl, fun a ha => eF a (mem_getD ha)⟩⟩, fp, r, c.nd, fun a ha => ⟨⟨(hf a ha).1, fun z => (R.sa a z).1 (hf a ha).2, fun z => mut_ne (R.mu a z).1 (hf a ha).2⟩, .inr (hf a ha).2⟩⟩
  · obtain ⟨v, h1, h2⟩ := R.ow i d hd
    exact ⟨v, h1, h2.stay k _ fun a ha => eF a (mem_getD ha)⟩
  · obtain ⟨v, fp, h1, h2, h3⟩ := R.sh i d hd
    exact ⟨v, fp, h1, h2.stay k _ fun a ha => eS a (h3 a ha), h3⟩
/-- what is shared from now on -/
theorem share_post {H' : Hp} {Sh1 : Addr → Prop} {F' : List (List Addr)} {e' : Envv} {d : D} {w : V} {fp : List Addr} (R : Rel C.io X.K X.mg σ H' Sh1 F' e') (S : Stp ms H Sh F e H' Sh1 F' e') (r : Rp X.K X.mg H' d w fp)
    (h : ∀ a ∈ fp, Live (H' a) ∧ a ∉ F'.flatten ∧ (Sh1 a ∨ a ∈ F.flatten ∨ H a = none)) : Post C X σ ms H Sh F e d .shr e' w H' (fun a => Sh1 a ∨ a ∈ fp) F' where
  rel := ⟨R.le, R.lF, R.ow, fun i d hd => let ⟨v, fq, h1, h2, h3⟩ := R.sh i d hd; ⟨v, fq, h1, h2, fun a ha => .inl (h3 a ha)⟩, R.nd, fun a ha => ⟨(R.mu a ha).1, fun z => z.elim (R.mu a ha).2 fun y => (h a y).2.1 ha⟩,
    fun a ha => ha.elim (R.sa a) fun y => (h a y).1, R.io, R.tb⟩
  stp := ⟨S.kp, S.al, S.fs, fun a ha => .inl (S.ss a ha), fun a ha => ha.elim (S.sn a) fun y => (h a y).2.2.elim (S.sn a) .inr, S.fr⟩
  tmp := ⟨fp, r, fun a ha => .inr ha⟩
theorem callR_ok {fr : FR} {ps : List Pv} {e1 : Envv} {r : Res} (h : callR fr ps e1 = r) (hb : r ≠ .bad) :
    (∃ d p, fr = .ret d p [] ∧ r = .ok d p e1 ∧ (p = .own ∨ (p = .shr ∧ noBor ps = true))) ∨ (∃ x, fr = .exc x [] ∧ r = .exc x e1) := by
  unfold callR at h
  split at h
  · exact .inl ⟨_, _, rfl, h.symm, .inl rfl⟩
  · split at h
    · exact .inl ⟨_, _, rfl, h.symm, .inr ⟨rfl, by assumption⟩⟩
    · exact absurd h.symm hb
  · exact .inr ⟨_, rfl, h.symm⟩
  · exact absurd h.symm hb
theorem callsR_ok {fr : FR} {n : Nat} {ps : List Pv} {e1 : Envv} {r : Res} (h : callsR fr n ps e1 = r) (hb : r ≠ .bad) :
    (∃ d p d1, fr = .ret d p [d1] ∧ r = .ok d p (e1.set n (.ow d1)) ∧ (p = .own ∨ (p = .shr ∧ noBor ps = true))) ∨ (∃ x d1, fr = .exc x [d1] ∧ r = .exc x (e1.set n (.ow d1))) := by
  unfold callsR at h
  split at h
  · exact .inl ⟨_, _, _, rfl, h.symm, .inl rfl⟩
  · split at h
    · exact .inl ⟨_, _, _, rfl, h.symm, .inr ⟨rfl, by assumption⟩⟩
    · exact absurd h.symm hb
  · exact .inr ⟨_, _, rfl, h.symm⟩
  · exact absurd h.symm hb
/-- what a call of a def that changes nothing of ours promises -/
theorem call_sp {T : List (Addr × Str)} {g : List D → FR} {np : Nat} {Q : VK} {ds' : List D} {ps : List Pv} {e1 : Envv} {vs' : List V} {H1 : Hp} {Sh1 : Addr → Prop} {F1 : List (List Addr)} {fp fq : List Addr} {r : Res} (hT : T = C.io.T)
    (R1 : Rel C.io X.K X.mg σ H1 Sh1 F1 e1) (S1 : Stp ms H Sh F e H1 Sh1 F1 e1) (ho : ∀ a ∈ fp, (Mt (H1 a) ∧ ¬ Sh1 a ∧ a ∉ F1.flatten) ∧ (a ∈ F.flatten ∨ H a = none))
    (rl : RpL X.K X.mg H1 ds' vs' fq) (hq : ∀ a ∈ fq, Live (H1 a) ∧ (noBor ps = true → a ∈ fp ∨ Sh1 a)) (hl : vs'.length = np) (q : callR (g ds') ps e1 = r) (hb : r ≠ .bad)
    (hQ : ∀ d p w H' Sh', r = .ok d p e1 → Post C X σ ms H Sh F e d p e1 w H' Sh' F1 → Q w H') (hE : ∀ x, r = .exc x e1 → XH C X W σ ms H Sh F e x e1) :
    spD X.K X.mg T np false g vs' H1 Q (fun c dd H' => W c dd σ H') := by
  subst hT
  refine ⟨ds', fq, [], hl, fun z => by rw [z] at q; exact hb q.symm, fun a ha => (hq a ha).1, R1.tb, ?_⟩
  show [] = [] ∧ _
  refine ⟨rfl, rl, fun d p w H' fp' hret ans rp => ?_, fun x c dd H' hexc cp xa => ?_⟩
  · rw [hret] at q
    rcases callR_ok q hb with ⟨d', p', h1, h2, h3⟩ | ⟨x, h1, _⟩
    · cases h1
      rcases h3 with rfl | ⟨rfl, hn⟩
      · have cp : CallP C.io.T H1 [] H' fp' := ans
        obtain ⟨R2, S2, T2⟩ := R1.called (ms := []) cp rp
        exact hQ d .own w H' Sh1 h2 ⟨R2, (S1.trans S2).mono fun i hi => by simpa using hi, T2.base S1⟩
      · obtain ⟨cp, ha⟩ := ans
        obtain ⟨R2, S2, _⟩ := R1.called (ms := []) (d := .non) (w := .non) cp ⟨rfl, rfl⟩
        have S3 : Stp ms H Sh F e H' Sh1 F1 e1 := (S1.trans S2).mono fun i hi => by simpa using hi
        refine hQ d .shr w H' _ h2 (share_post R2 S3 rp fun a hp => ⟨(ha a hp).1, ?_⟩)
        rcases (ha a hp).2.2 with z | z | z
        · rcases (hq a z).2 hn with y | y
          · exact ⟨(ho a y).1.2.2, .inr (ho a y).2⟩
          · exact ⟨fun t => (R1.mu a t).2 y, .inl y⟩
        · simp at z
        · exact ⟨fun t => mut_ne (R1.mu a t).1 z, .inr (.inr (by
            by_cases t : H a = none
            · exact t
            · exact absurd z (S1.al a t)))⟩
    · cases h1
  · rw [hexc] at q
    obtain ⟨R2, S2, _⟩ := R1.called (ms := []) (d := .non) (w := .non) cp ⟨rfl, rfl⟩
    exact hE x q.symm H' Sh1 F1 c dd R2 ((S1.trans S2).mono fun i hi => by simpa using hi) xa
theorem ev_call {f : Str} : C.ev (.call f is) e = (C.evs is e).bind fun ds ps e1 => callR (C.cb.call f ds) ps e1 := rfl
theorem se_call {x : Str} {p : Pos} (hr : Xk X k) (G : DefAt (X.gnd C.io.T) k x (es.length + 1) false (C.cb.call x)) (hg : Gl X x) (h : SEs C X (a :: es) is) (hdb : (x == ("__debug__" : Str)) = false := by decide)
    (he : starEach (a :: es) X.env = (false, eval a X.env) :: starEach es X.env := by rfl) (hpl : (backTo pos (starEach es X.env)).any (·.1) = false := by rfl) (hlen : is.len = es.length + 1 := by rfl) : SE C X (.Call (.Name x p) (a :: es) [] pos) (.call x is) := by
  intro σ H Sh F e W tk R hx hb
  obtain ⟨f, fd, ps, g1, g2, g3, g4, g5⟩ := G.ex
  obtain ⟨r, hr'⟩ : ∃ r, C.ev (.call x is) e = r := ⟨_, rfl⟩
  rw [hr'] at hb
  have ev := hr'
  rw [ev_call] at ev
  refine fcall (E := fun c dd H' => W c dd σ H') g5 hr hg g1 g2 g4 tk (fun _ _ _ h => h) ?_ hdb he hpl
  refine h.bind tk R ev hb (fun _ h => h) (fun x e' he => hx x e' (hr'.trans he)) fun ds ps' e1 vs H1 Sh1 F1 hl P q => ?_
  obtain ⟨fp, t, n1, h1⟩ := P.tmp
  obtain ⟨fq, r1, al, _⟩ := TmpL.alloc P.rel t (fun a ha => ⟨(h1 a ha).1.1, (h1 a ha).1.2.2⟩) 0
  exact call_sp rfl P.rel P.stp h1 r1 al (by rw [r1.length, hl, hlen]) q hb (fun d p w H' Sh' he PP => ⟨d, p, e1, Sh', F1, hr'.trans he, PP⟩) fun xx he => hx xx e1 (hr'.trans he)

/-! ### the first argument is changed -/
theorem call_done {n : Nat} {H1 H' : Hp} {Sh1 : Addr → Prop} {F1 : List (List Addr)} {e1 : Envv} {v w : V} {x' y : D} {f1 fp : List Addr} (R1 : Rel C.io X.K X.mg σ H1 Sh1 F1 e1) (S1 : Stp ms H Sh F e H1 Sh1 F1 e1)
    (hv : σ[n]? = some (some v)) (cp : CallP C.io.T H1 (F1.getD n []) H' (f1 ++ fp)) (rx : Rp X.K X.mg H' x' v f1) (ry : Rp X.K X.mg H' y w fp) : Post C X σ (n :: ms) H Sh F e y .own (e1.set n (.ow x')) w H' Sh1 (F1.set n f1) := by
  have hn : n < σ.length := (List.getElem?_eq_some_iff.mp hv).1
  have hnF : n < F1.length := by rw [R1.lF]; exact hn
  obtain ⟨nd1, nd2, nd3⟩ := List.nodup_append.mp cp.nd
  have shk : ∀ b, Sh1 b → H' b = H1 b := fun b hb => cp.kp b (R1.sa b hb) fun z => (R1.mu b (mem_getD z)).2 hb
  have freshNot : ∀ b, H1 b = none → b ∉ F1.flatten ∧ ¬ Sh1 b := fun b hb => ⟨fun z => mut_ne (R1.mu b z).1 hb, fun z => (R1.sa b z).1 hb⟩
  have R2 : Rel C.io X.K X.mg σ H' Sh1 (F1.set n f1) (e1.set n (.ow x')) := R1.putL hn ⟨rfl, fun _ _ => rfl⟩ (.inr rfl) (fun b h1 h2 => cp.kp b h1 h2) cp.tb (fun _ h => h)
    (fun b hb => ⟨by rw [shk b hb]; exact R1.sa b hb, .inl hb, fun z => (cp.own b (List.mem_append_left _ z)).2.elim (fun q => (R1.mu b (mem_getD q)).2 hb) fun q => (R1.sa b hb).1 q⟩) nd1
    (fun b hb => ⟨(cp.own b (List.mem_append_left _ hb)).1, (cp.own b (List.mem_append_left _ hb)).2.imp id (freshNot b)⟩) ⟨v, hv, rx⟩
  have orig : ∀ b ∈ f1 ++ fp, b ∈ F.flatten ∨ H b = none := fun b hb => by
    rcases (cp.own b hb).2 with z | z
    · exact S1.fs b (mem_getD z)
    · by_cases q : H b = none
      · exact .inr q
      · exact absurd z (S1.al b q)
  refine ⟨R2, ⟨fun b h1 h2 => ?_, fun b h1 => cp.al b (S1.al b h1), fun b hb => ?_, S1.ss, S1.sn, fun m hm' => ?_⟩, fp, ry, nd2, fun b hb => ⟨⟨(cp.own b (List.mem_append_right _ hb)).1, ?_, fun z => ?_⟩, orig b (List.mem_append_right _ hb)⟩⟩
  · rw [cp.kp b (by rw [S1.kp b h1 h2]; exact h1) fun z => (S1.fs b (mem_getD z)).elim h2 fun y => h1.1 y]; exact S1.kp b h1 h2
  · rcases mem_set hb with z | z
    · exact orig b (List.mem_append_left _ z)
    · exact S1.fs b z
  · have hmn : m ≠ n := fun z => hm' (by rw [z]; simp)
    obtain ⟨q1, q2, q3⟩ := S1.fr m fun z => hm' (List.mem_cons_of_mem _ z)
    refine ⟨(getD_set_ne hmn).trans q1, (getD_set_ne hmn).trans q2, fun b hb => ?_⟩
    have hb1 : b ∈ F1.getD m [] := by rw [q2]; exact hb
    rw [cp.kp b (R1.mu b (mem_getD hb1)).1.live fun z => not_other R1.nd hmn hb1 z]
    exact q3 b hb
  · rcases (cp.own b (List.mem_append_right _ hb)).2 with q | q
    · exact (R1.mu b (mem_getD q)).2
    · exact (freshNot b q).2
  · rcases (cp.own b (List.mem_append_right _ hb)).2 with q | q
    · have z' : b ∈ f1 ∨ (b ∈ F1.flatten ∧ b ∉ F1.getD n []) := by
        obtain ⟨A, B, e1', e2'⟩ := fl_split hnF
        rw [e2'] at z
        have nd0 := R1.nd
        generalize F1.getD n [] = m at e1'
        subst e1'
        simp only [List.flatten_append, List.flatten_cons, List.nodup_append, List.mem_append] at z nd0 ⊢
        obtain ⟨n1, ⟨n2, n3, n4⟩, n5⟩ := nd0
        rcases z with z | z | z
        · exact .inr ⟨.inl z, fun y => n5 b z b (.inl y) rfl⟩
        · exact .inl z
        · exact .inr ⟨.inr (.inr z), fun y => n4 b y b z rfl⟩
      rcases z' with z' | ⟨_, z'⟩
      · exact nd3 b z' b hb rfl
      · exact z' q
    · rcases mem_set z with z' | z'
      · exact nd3 b z' b hb rfl
      · exact (freshNot b q).1 z'
theorem ev_calls {f : Str} {n : Nat} : C.ev (.calls f n is) e = (if (e.getD n .un).isUn then .bad else (C.evs is e).bind fun ds ps e1 => if ps.all (· != .bor n) then (match e1.getD n .un with
      | .ow d0 => callsR (C.cb.call f (d0 :: ds)) n ps e1
      | _ => .bad) else .bad) := rfl
theorem se_calls {x y : Str} {p xp : Pos} {n : Nat} (hr : Xk X k) (G : DefAt (X.gnd C.io.T) k x (es.length + 1) true (C.cb.call x)) (hg : Gl X x) (hN : X.N[n]? = some y) (hv : Vis X.env.scope y) (h : SEs C X es is) (hdb : (x == ("__debug__" : Str)) = false := by decide)
    (hst : starEach (.Name y xp :: es) X.env = (false, eval (.Name y xp) X.env) :: starEach es X.env := by rfl) (hpl : (backTo pos (starEach es X.env)).any (·.1) = false := by rfl) (hlen : is.len = es.length := by rfl)
    (hd : (y == ("__debug__" : Str)) = false := by decide) (hcd : (y == ("__classdict__" : Str)) = false := by decide) : SE C X (.Call (.Name x p) (.Name y xp :: es) [] pos) (.calls x n is) := by
  intro σ H Sh F e W tk R hx hb
  obtain ⟨f, fd, ps, g1, g2, g3, g4, g5⟩ := G.ex
  obtain ⟨r, hr'⟩ : ∃ r, C.ev (.calls x n is) e = r := ⟨_, rfl⟩
  rw [hr'] at hb
  have ev := hr'
  rw [ev_calls] at ev
  by_cases hc : (e.getD n .un).isUn = true
  · rw [if_pos hc] at ev; exact absurd ev.symm hb
  rw [if_neg hc] at ev
  have hun : (e.getD n .un).isUn = false := by simpa using hc
  refine fcall (E := fun c dd H' => W c dd σ H') g5 hr hg g1 g2 g4 tk (fun _ _ _ h => h) ?_ hdb hst hpl
  refine cA_of (pa_cons (pe_var hN hv hd hcd) pa_can hst) ?_
  have hsome : ∃ v, σ[n]? = some (some v) := by
    cases hs : e.getD n .un with
    | ow d => obtain ⟨v, h1, _⟩ := R.ow n d hs; exact ⟨v, h1⟩
    | sh d => obtain ⟨v, _, h1, _⟩ := R.sh n d hs; exact ⟨v, h1⟩
    | un => rw [hs] at hun; cases hun
  obtain ⟨v0, hv0⟩ := hsome
  refine ⟨v0, hv0, ?_⟩
  refine h.bind tk R ev hb (fun k hk => List.mem_cons_of_mem n hk) (fun x e' he => hx x e' (hr'.trans he)) fun ds ps' e1 vs H1 Sh1 F1 hl P q => ?_
  by_cases hall : ps'.all (· != .bor n) = true
  case neg => rw [if_neg hall] at q; exact absurd q.symm hb
  rw [if_pos hall] at q
  cases hs : e1.getD n .un with
  | un => rw [hs] at q; exact absurd q.symm hb
  | sh d => rw [hs] at q; exact absurd q.symm hb
  | ow d0 =>
    rw [hs] at q
    dsimp only at q
    obtain ⟨v', hv', rx1⟩ := P.rel.ow n d0 hs
    rw [hv0] at hv'
    cases hv'
    have hnF : n < F1.length := by rw [P.rel.lF]; exact (List.getElem?_eq_some_iff.mp hv0).1
    obtain ⟨fp, t, n1, h1⟩ := P.tmp
    obtain ⟨fq, r1, al, dis⟩ := TmpL.alloc P.rel t (fun a ha => ⟨(h1 a ha).1.1, (h1 a ha).1.2.2⟩) n
    refine ⟨d0 :: ds, fq, F1.getD n [], by rw [List.length_cons, r1.length, hl, hlen], fun z => by rw [z] at q; exact hb q.symm, fun a ha => (al a ha).1, P.rel.tb, ?_⟩
    show ∃ d0' dr v0' vr, _
    refine ⟨d0, ds, v0, vs, rfl, rfl, rx1, r1, nd_get P.rel.nd, fun a ha => ⟨(P.rel.mu a (mem_getD ha)).1, fun z => dis hall a z ha⟩, fun d p d1 w H' f1 fp' hret ans rp1 rp2 => ?_, fun xx d1 c dd H' f1 hexc cp rp1 xa => ?_⟩
    · rw [hret] at q
      rcases callsR_ok q hb with ⟨d', p', d1', g1, g2, g3⟩ | ⟨x, d1', g1, _⟩
      case inr => cases g1
      cases g1
      rcases g3 with rfl | ⟨rfl, hn⟩
      · exact ⟨d, .own, _, Sh1, F1.set n f1, hr'.trans g2, call_done P.rel P.stp hv0 ans rp1 rp2⟩
      · obtain ⟨cp, ha⟩ := ans
        have PP := call_done (w := .non) (y := .non) (fp := []) P.rel P.stp hv0 (by rw [List.append_nil]; exact cp) rp1 ⟨rfl, rfl⟩
        refine ⟨d, .shr, _, _, F1.set n f1, hr'.trans g2, share_post PP.rel PP.stp rp2 fun b hp => ⟨(ha b hp).1, ?_⟩⟩
        have out : b ∉ F1.flatten ∨ b ∈ F1.getD n [] → b ∉ (F1.set n f1).flatten := fun h z => by
          obtain ⟨A, B, e1', e2'⟩ := fl_split hnF
          rw [e2'] at z
          have nd0 := P.rel.nd
          have hf1 := (ha b hp).2.1
          generalize F1.getD n [] = m at e1' h
          subst e1'
          simp only [List.flatten_append, List.flatten_cons, List.nodup_append, List.mem_append] at z nd0 h
          obtain ⟨n1, ⟨n2, n3, n4⟩, n5⟩ := nd0
          rcases h with h | h
          · rcases z with z | z | z
            · exact h (.inl z)
            · exact hf1 z
            · exact h (.inr (.inr z))
          · rcases z with z | z | z
            · exact n5 b z b (.inl h) rfl
            · exact hf1 z
            · exact n4 b h b z rfl
        rcases (ha b hp).2.2 with z | z | z
        · rcases (al b z).2 hn with y | y
          · exact ⟨out (.inl (h1 b y).1.2.2), .inr (h1 b y).2⟩
          · exact ⟨out (.inl fun t => (P.rel.mu b t).2 y), .inl y⟩
        · exact ⟨out (.inr z), .inr (P.stp.fs b (mem_getD z))⟩
        · exact ⟨out (.inl fun t => mut_ne (P.rel.mu b t).1 z), .inr (.inr (by
            by_cases t : H b = none
            · exact t
            · exact absurd z (P.stp.al b t)))⟩
    · rw [hexc] at q
      have PP := call_done (w := .non) (y := .non) (fp := []) P.rel P.stp hv0 (by rw [List.append_nil]; exact cp) rp1 ⟨rfl, rfl⟩
      exact hx xx _ (hr'.trans q.symm) H' Sh1 (F1.set n f1) c dd PP.rel PP.stp xa
end
end DL
end
section
set_option Elab.async false
set_option linter.all false
set_option maxRecDepth 100000
/-! D layer, 13: calls by names, of a def held by a name, of a class. -/
namespace DL
open PySem PySem.Spec PyProof.Rows L2

/-- how a call binds: n values by position, the names ks -/
structure Bd (K : PySem.W.Frag) (fd : FuncData) (ps ks : List Str) (n : Nat) (g : List Value → List Value → List Value) : Prop where
  to : ∀ (s : Shared) (us ws : List Value), K.In s.heap → us.length = n → ws.length = ks.length → BindsTo s fd ⟨us, ks.zip ws⟩ (ps.zip (g us ws))
theorem Bd.pos {K : PySem.W.Frag} {fd : FuncData} {ps : List Str} (b : Binds K fd ps []) : Bd K fd ps [] ps.length (fun us _ => us) := ⟨fun s us ws hk h1 h2 => by
  have e : ws = [] := List.eq_nil_of_length_eq_zero h2
  subst e
  have q := b s us hk (by rw [List.append_nil]; exact h1)
  rw [List.append_nil] at q
  exact q⟩
theorem Bd.of {K : PySem.W.Frag} {fd : FuncData} {ps ks : List Str} {n : Nat} {g : List Value → List Value → List Value} (h : ∀ us ws : List Value, us.length = n → ws.length = ks.length → bindArgs fd ⟨us, ks.zip ws⟩ = pure (ps.zip (g us ws))) : Bd K fd ps ks n g :=
  ⟨fun _ us ws _ h1 h2 => .of_eq (h us ws h1 h2)⟩
theorem Vals.getD {vs : List V} {us : List Value} (r : Vals vs us) (i : Nat) : RelV (vs.getD i .non) (us.getD i .none) := by
  induction r generalizing i with
  | nil => exact rfl
  | cons a _ ih =>
    cases i with
    | zero => exact a
    | succ i => exact ih i
theorem Vals.perm {vs : List V} {us : List Value} (r : Vals vs us) : ∀ π : List Nat, Vals (permD .non π vs) (permD .none π us)
  | [] => .nil
  | i :: π => .cons (Vals.getD r i) (Vals.perm r π)
section
variable {K : PySem.W.Frag} {mg : Str → Option Value} {H : Hp}
theorem RpL.getD : ∀ {ds : List D} {vs : List V} {fp : List Addr} (i : Nat), RpL K mg H ds vs fp → ∃ fq, Rp K mg H (ds.getD i .non) (vs.getD i .non) fq ∧ ∀ a ∈ fq, a ∈ fp
  | [], _, _, i, r => by
    obtain ⟨rfl, rfl⟩ := r
    exact ⟨[], ⟨rfl, rfl⟩, by simp⟩
  | d :: ds, vs, fp, i, r => by
    obtain ⟨v, vr, f1, f2, rfl, rfl, r1, r2⟩ := r
    cases i with
    | zero => exact ⟨f1, r1, fun a ha => List.mem_append_left _ ha⟩
    | succ i =>
      obtain ⟨fq, r3, h⟩ := RpL.getD i r2
      exact ⟨fq, r3, fun a ha => List.mem_append_right _ (h a ha)⟩
theorem RpL.perm {ds : List D} {vs : List V} {fp : List Addr} (r : RpL K mg H ds vs fp) : ∀ π : List Nat, ∃ fq, RpL K mg H (permD .non π ds) (permD .non π vs) fq ∧ ∀ a ∈ fq, a ∈ fp
  | [] => ⟨[], ⟨rfl, rfl⟩, by simp⟩
  | i :: π => by
    obtain ⟨f1, r1, h1⟩ := RpL.getD i r
    obtain ⟨f2, r2, h2⟩ := RpL.perm r π
    exact ⟨f1 ++ f2, ⟨_, _, f1, f2, rfl, rfl, r1, r2⟩, fun a ha => (List.mem_append.mp ha).elim (h1 a) (h2 a)⟩
end
/-- the def x, called by the names ks, their places π -/
structure DefAtK (G : Gnd) (k : Nat) (x : Str) (ks : List Str) (π : List Nat) (g : List D → FR) : Prop where
  ex : ∃ f fd ps, G.mg x = some (.ref f) ∧ PySem.W.keepIn G.K (.ref f) = true ∧ Bd G.K fd ps ks 0 (fun _ ws => permD .none π ws) ∧ FnG G.P G.w G.K G.mg G.base k f fd ps (spD G.K G.mg G.T π.length false g)
section
variable {C : Dc} {X : Cx} {W : WX} {σ : L2.St} {H : Hp} {Sh : Addr → Prop} {F : List (List Addr)} {e : Envv} {a b c : Expr} {es : List Expr} {kws : List Keyword} {i j l : Ex} {is : Exs} {ms : List Nat} {pos : Pos} {k : Nat} {ks : List Str} {π : List Nat}
theorem run_bd {pins : List (Addr × Obj)} {s : Shared} {Q : VK} {us ws : List Value} {vs : List V} {f : Addr} {fd : FuncData} {ps : List Str} {sp : Sp} {E : XK} {n : Nat} {g : List Value → List Value → List Value} (G : FnG X.prog X.w X.K X.mg X.base k f fd ps sp) (hr : Xk X k) (hb : Bd X.K fd ps ks n g) (tk : Takes X W) (hW : ∀ cls d H, E cls d H → W cls d σ H)
    (I : Inv X pins σ H s) (h1 : us.length = n) (h2 : ws.length = ks.length) (r : Vals vs (g us ws)) (h : sp vs H Q E) : wpAny (model X.prog X.w) X.A (call (.ref f) us (ks.zip ws)) (EP X pins σ Q) X.xe s := by
  refine wpAny_call (codeAny_mono (G.run X.A X.stack s H ⟨us, ks.zip ws⟩ (g us ws) vs Q E hr.rm hr.gd I.env0 (hb.to s us ws I.kIn h1 h2) r h) fun r s' hq => ?_)
  cases r with
  | error e => exact tk e s' (XE.of_call I (fun c d H' q => hW c d H' q) hq)
  | ok fl =>
    cases fl with
    | ret u => exact I.after hq
    | next => exact hq.elim
    | brk => exact hq.elim
    | cont => exact hq.elim
theorem ev_callk {f : Str} : C.ev (.callk f π is) e = (C.evs is e).bind fun ds ps e1 => if permOk π ds.length then callR (C.cb.call f (permD .non π ds)) ps e1 else .bad := rfl
/-- f(k = v, ..) -/
theorem se_callk {x : Str} {p : Pos} (hr : Xk X k) (G : DefAtK (X.gnd C.io.T) k x ks π (C.cb.call x)) (hg : Gl X x) (h : SKs C X kws is) (hall : (backToKw pos (keywordEach kws X.env)).all (·.1.isSome) = true := by rfl) (hks : (backToKw pos (keywordEach kws X.env)).filterMap (·.1) = ks := by rfl)
    (hdb : (x == ("__debug__" : Str)) = false := by decide) (hpl : ((backTo pos (starEach [] X.env)).any (·.1) || (backToKw pos (keywordEach kws X.env)).any (·.1.isNone)) = false := by rfl) (hlen : is.len = ks.length := by rfl) : SE C X (.Call (.Name x p) [] kws pos) (.callk x π is) := by
  intro σ H Sh F e W tk R hx hb
  obtain ⟨f, fd, ps, g1, g2, g4, g5⟩ := G.ex
  obtain ⟨r, hr'⟩ : ∃ r, C.ev (.callk x π is) e = r := ⟨_, rfl⟩
  rw [hr'] at hb
  have ev := hr'
  rw [ev_callk] at ev
  have key : cK X kws σ H fun zs H1 => zs.length = ks.length ∧ spD X.K X.mg C.io.T π.length false (C.cb.call x) (permD .non π zs) H1 (fun v H' => ∃ d p e' Sh' F', C.ev (.callk x π is) e = .ok d p e' ∧ Post C X σ (Ex.callk x π is).mods H Sh F e d p e' v H' Sh' F') (fun c dd H' => W c dd σ H') := by
    refine h.bind tk R ev hb (fun _ h => h) (fun x e' he => hx x e' (hr'.trans he)) fun ds ps' e1 vs H1 Sh1 F1 hl P q => ?_
    by_cases hp : permOk π ds.length = true
    case neg => rw [if_neg hp] at q; exact absurd q.symm hb
    rw [if_pos hp] at q
    obtain ⟨fp, t, n1, h1⟩ := P.tmp
    obtain ⟨fq, r1, al, _⟩ := TmpL.alloc P.rel t (fun a ha => ⟨(h1 a ha).1.1, (h1 a ha).1.2.2⟩) 0
    obtain ⟨fq', r2, sub⟩ := r1.perm π
    refine ⟨by rw [r1.length, hl, hlen], ?_⟩
    exact call_sp rfl P.rel P.stp h1 r2 (fun a ha => al a (sub a ha)) (by unfold permD; rw [List.length_map]) q hb (fun d p w H' Sh' he PP => ⟨d, p, e1, Sh', F1, hr'.trans he, PP⟩) fun xx he => hx xx e1 (hr'.trans he)
  intro pins s I
  refine wpAny_Call_Name_kw (ld_glob I hg g1 ?_ hdb)
  refine PySem.W.callWith_KW0 (h₀ := X.base) I.ok.mod.kin g2 hall ?_ hpl
  refine thn (key pos pins s I) fun ws s2 ⟨zs, H2, I2, rz, l2, q2⟩ => ⟨I2.kIn, ?_⟩
  rw [hks]
  exact run_bd (us := []) (n := 0) (E := fun c dd H' => W c dd σ H') g5 hr g4 tk (fun _ _ _ h => h) I2 rfl (rz.length.symm.trans l2) (Vals.perm rz π) q2

/-! ### a def that a name holds -/
/-- each def of the text that a value may be -/
def AllAt (G : Gnd) (k : Nat) (np : Nat) (cb : Str → List D → FR) (xs : List Str) : Prop := ∀ x ∈ xs, DefAt G k x np false (cb x)
theorem ev_callv {n : Nat} {fs : List Str} : C.ev (.callv n fs is) e = (match (e.getD n .un).fnName with
    | some f => if is.mods.contains n || !(fs.contains f) then .bad else (C.evs is e).bind fun ds ps e1 => callR (C.cb.call f ds) ps e1
    | none => .bad) := rfl
theorem fnName_some {s : Sl} {f : Str} (h : s.fnName = some f) : s = .ow (.fn f) ∨ s = .sh (.fn f) := by
  unfold Sl.fnName at h
  split at h <;> cases h
  · exact .inl rfl
  · exact .inr rfl
theorem se_callv {n : Nat} {y : Str} {p : Pos} {fs : List Str} (hr : Xk X k) (G : AllAt (X.gnd C.io.T) k (es.length + 1) C.cb.call fs) (hN : X.N[n]? = some y) (hv : Vis X.env.scope y) (h : SEs C X (a :: es) is)
    (hdb : (y == ("__debug__" : Str)) = false := by decide) (hcd : (y == ("__classdict__" : Str)) = false := by decide)
    (he : starEach (a :: es) X.env = (false, eval a X.env) :: starEach es X.env := by rfl) (hpl : (backTo pos (starEach es X.env)).any (·.1) = false := by rfl) (hlen : is.len = es.length + 1 := by rfl) : SE C X (.Call (.Name y p) (a :: es) [] pos) (.callv n fs is) := by
  intro σ H Sh F e W tk R hx hb
  obtain ⟨r, hr'⟩ : ∃ r, C.ev (.callv n fs is) e = r := ⟨_, rfl⟩
  rw [hr'] at hb
  have ev := hr'
  rw [ev_callv] at ev
  cases hf : (e.getD n .un).fnName with
  | none => rw [hf] at ev; exact absurd ev.symm hb
  | some f =>
    rw [hf] at ev
    dsimp only at ev
    by_cases hc : (is.mods.contains n || !(fs.contains f)) = true
    · rw [if_pos hc] at ev; exact absurd ev.symm hb
    rw [if_neg hc] at ev
    have hin : f ∈ fs := by
      have z : n ∉ is.mods ∧ f ∈ fs := by simpa using hc
      exact z.2
    obtain ⟨v, fa, hσ, rfl, hm⟩ : ∃ v fa, σ[n]? = some (some v) ∧ v = .ref fa ∧ X.mg f = some (.ref fa) := by
      rcases fnName_some hf with q | q
      · obtain ⟨v, h1, fa, h2, h3, _⟩ := R.ow n _ q
        exact ⟨v, fa, h1, h2, h3⟩
      · obtain ⟨v, fp, h1, ⟨fa, h2, h3, _⟩, _⟩ := R.sh n _ q
        exact ⟨v, fa, h1, h2, h3⟩
    have key : cA X (a :: es) σ H fun vs H1 => spD X.K X.mg C.io.T (es.length + 1) false (C.cb.call f) vs H1 (fun v H' => ∃ d p e' Sh' F', C.ev (.callv n fs is) e = .ok d p e' ∧ Post C X σ (Ex.callv n fs is).mods H Sh F e d p e' v H' Sh' F') (fun c dd H' => W c dd σ H') := by
      refine h.bind tk R ev hb (fun _ h => h) (fun x e' he => hx x e' (hr'.trans he)) fun ds ps' e1 vs H1 Sh1 F1 hl P q => ?_
      obtain ⟨fp, t, n1, h1⟩ := P.tmp
      obtain ⟨fq, r1, al, _⟩ := TmpL.alloc P.rel t (fun a ha => ⟨(h1 a ha).1.1, (h1 a ha).1.2.2⟩) 0
      exact call_sp rfl P.rel P.stp h1 r1 al (by rw [r1.length, hl, hlen]) q hb (fun d p w H' Sh' he PP => ⟨d, p, e1, Sh', F1, hr'.trans he, PP⟩) fun xx he => hx xx e1 (hr'.trans he)
    intro pins s I
    refine wpAny_Call_Name_kw (thn ((pe_var (pos := p) hN hv hdb hcd).run pins s σ H (fun v H1 => v = .ref fa ∧ H1 = H) I ⟨.ref fa, hσ, rfl, rfl⟩) fun u s1 ⟨v, H1, I1, r1, q1⟩ => ?_)
    obtain ⟨rfl, rfl⟩ := q1
    cases r1
    obtain ⟨f', fd, ps, g1, g2, g3, g4, g5⟩ := (G f hin).ex
    have g1 : X.mg f = some (.ref f') := g1
    rw [hm] at g1
    cases g1
    refine PySem.W.callWith_K (h₀ := X.base) I.ok.mod.kin g2 (thn (key pos pins s1 I1) fun us s2 ⟨vs, H2, I2, r, q⟩ => ⟨I2.kIn, ?_⟩) he hpl
    exact run_fg (E := fun c dd H' => W c dd σ H') g5 hr g4 tk (fun _ _ _ h => h) I2 r q

/-! ### a class is called -/
/-- the class Cn of the text: its __init__ computes g -/
structure ClsAt (G : Gnd) (k : Nat) (Cn : Str) (np : Nat) (g : List D → FR) : Prop where
  ex : ∃ Ca f fd ps, G.mg Cn = some (.ref Ca) ∧ Mk G.K Ca f ∧ ps.length = np + 1 ∧ Binds G.K fd ps [] ∧ FnG G.P G.w G.K G.mg G.base k f fd ps (spD G.K G.mg G.T (np + 1) true g)
structure ClsAtK (G : Gnd) (k : Nat) (Cn : Str) (ks : List Str) (π : List Nat) (g : List D → FR) : Prop where
  ex : ∃ Ca f fd ps, G.mg Cn = some (.ref Ca) ∧ Mk G.K Ca f ∧ Bd G.K fd ps ks 1 (fun us ws => us ++ permD .none π ws) ∧ FnG G.P G.w G.K G.mg G.base k f fd ps (spD G.K G.mg G.T (π.length + 1) true g)
theorem under_gd {A : Around} {Ca : Addr} {us : List Value} {kw : List (Str × Value)} (h : A.guards = some []) : (A.under (.builtin "type.__call__" ⟨.ref Ca :: us, kw⟩)).guards = some [] := by
  unfold Around.under
  simp only [h]
  rfl
theorem run_mg {pins : List (Addr × Obj)} {s : Shared} {Q : VK} {us ws : List Value} {vs : List V} {f Ca : Addr} {fd : FuncData} {ps : List Str} {sp : Sp} {E : XK} {n : Nat} {g : List Value → List Value → List Value} (M : Mk X.K Ca f) (G : FnG X.prog X.w X.K X.mg X.base k f fd ps sp) (hr : Xk X (k + 1)) (hb : Bd X.K fd ps ks (n + 1) g) (tk : Takes X W) (hW : ∀ cls d H, E cls d H → W cls d σ H)
    (I : Inv X pins σ H s) (h1 : us.length = n) (h2 : ws.length = ks.length) (r : ∀ x, Vals (.ref x :: vs) (g (.ref x :: us) ws))
    (h : ∀ x dx, H x = none → H dx = none → dx ≠ x → sp (.ref x :: vs) (upd (upd H dx (.own x)) x (.ins Ca dx [])) (fun v H2 => v = .non ∧ Q (.ref x) H2) E) :
    wpAny (model X.prog X.w) X.A (call (.ref Ca) us (ks.zip ws)) (EP X pins σ Q) X.xe s := by
  have hq := h (s.heap.objs.size + 1) s.heap.objs.size (I.hok.fresh (Nat.le_succ _)) (I.hok.fresh (Nat.le_refl _)) (Nat.ne_of_lt (Nat.lt_succ_self _))
  have I2 := Inv.made (C := Ca) I
  refine wpAny_call (make_map (f := f) I.kIn M.makes M.init (beq_iff_eq.mp M.fn) (codeAny_mono (G.run _ X.stack _ _ ⟨Value.ref (s.heap.objs.size + 1) :: us, ks.zip ws⟩ (g (Value.ref (s.heap.objs.size + 1) :: us) ws) _ _ E (hr.rm.make Ca us (ks.zip ws)) (under_gd hr.gd)
    (I2.env0.make Ca us (ks.zip ws)) (hb.to _ (Value.ref (s.heap.objs.size + 1) :: us) ws I2.kIn (by rw [List.length_cons, h1]) h2) (r _) hq) fun r s' hq' => ?_))
  cases r with
  | error e => exact tk e s' (XE.of_call I2 (fun c d H' q => hW c d H' q) hq')
  | ok fl =>
    cases fl with
    | ret u =>
      obtain ⟨v, H', I3, rv, ev, q3⟩ := I2.after hq'
      subst ev
      exact ⟨rv, ⟨V.ref (s.heap.objs.size + 1), H', I3, rfl, q3⟩⟩
    | next => exact False.elim hq'
    | brk => exact False.elim hq'
    | cont => exact False.elim hq'
theorem newR_ok {fr : FR} {e1 : Envv} {r : Res} (h : newR fr e1 = r) (hb : r ≠ .bad) : (∃ o, fr = .ret .non .own [o] ∧ r = .ok o .own e1) ∨ (∃ x o, fr = .exc x [o] ∧ r = .exc x e1) := by
  unfold newR at h
  split at h
  · exact .inl ⟨_, rfl, h.symm⟩
  · exact .inr ⟨_, _, rfl, h.symm⟩
  · exact absurd h.symm hb
theorem new_sp {T : List (Addr × Str)} {g : List D → FR} {np : Nat} {Q : VK} {Cn : Str} {Ca x dx : Addr} {ds' : List D} {e1 : Envv} {vs' : List V} {H1 : Hp} {Sh1 : Addr → Prop} {F1 : List (List Addr)} {fq : List Addr} {r : Res} (hT : T = C.io.T)
    (R1 : Rel C.io X.K X.mg σ H1 Sh1 F1 e1) (S1 : Stp ms H Sh F e H1 Sh1 F1 e1) (hC : X.mg Cn = some (.ref Ca)) (nx : H1 x = none) (ndx : H1 dx = none) (ne : dx ≠ x)
    (rl : RpL X.K X.mg H1 ds' vs' fq) (hq : ∀ a ∈ fq, Live (H1 a)) (hl : vs'.length = np) (q : newR (g (.obj Cn [] [] :: ds')) e1 = r) (hb : r ≠ .bad)
    (hQ : ∀ d w H' Sh', r = .ok d .own e1 → Post C X σ ms H Sh F e d .own e1 w H' Sh' F1 → Q w H') (hE : ∀ x, r = .exc x e1 → XH C X W σ ms H Sh F e x e1) :
    spD X.K X.mg T (np + 1) true g (.ref x :: vs') (upd (upd H1 dx (.own x)) x (.ins Ca dx [])) (fun v H2 => v = .non ∧ Q (.ref x) H2) (fun c dd H' => W c dd σ H') := by
  subst hT
  have kp : ∀ b o, H1 b = some o → upd (upd H1 dx (.own x)) x (.ins Ca dx []) b = some o := fun b o ho => by
    rw [upd_ne (ne_of_none ho nx), upd_ne (ne_of_none ho ndx)]; exact ho
  have kl : ∀ b, Live (H1 b) → upd (upd H1 dx (.own x)) x (.ins Ca dx []) b = H1 b := fun b hb => by
    rw [upd_ne fun z => hb.1 (by rw [z]; exact nx), upd_ne fun z => hb.1 (by rw [z]; exact ndx)]
  have fqx : ∀ a ∈ fq, a ≠ x := fun a ha z => (hq a ha).1 (by rw [z]; exact nx)
  have keep : Keep H1 (upd (upd H1 dx (.own x)) x (.ins Ca dx [])) := ⟨fun b o ho _ _ => kp b o ho⟩
  have back : ∀ {H' : Hp} {f1 : List Addr}, CallP C.io.T (upd (upd H1 dx (.own x)) x (.ins Ca dx [])) [x] H' f1 → CallP C.io.T H1 [] H' f1 := fun {H' f1} cp =>
    ⟨fun b hb _ => (cp.kp b (by rw [kl b hb]; exact hb) (by simp; intro z; exact hb.1 (by rw [z]; exact nx))).trans (kl b hb), fun b hb => cp.al b (by
      cases hb1 : H1 b with
      | none => exact absurd hb1 hb
      | some o => rw [kp b o hb1]; exact Option.some_ne_none _), cp.tb, cp.nd, fun b hb => ⟨(cp.own b hb).1, .inr (by
      rcases (cp.own b hb).2 with z | z
      · simp at z; rw [z]; exact nx
      · cases hb1 : H1 b with
        | none => rfl
        | some o => rw [kp b o hb1] at z; cases z)⟩⟩
  refine ⟨.obj Cn [] [] :: ds', fq, [x], by rw [List.length_cons, hl], fun z => by rw [z] at q; exact hb q.symm, fun a ha => by rw [kl a (hq a ha)]; exact hq a ha, R1.tb.ext kp, ?_⟩
  show ∃ d0' dr v0' vr, _
  refine ⟨.obj Cn [] [], ds', .ref x, vs', rfl, rfl, ⟨x, Ca, dx, [], [], rfl, hC, upd_same, rfl, rfl, rfl, rfl⟩, rl.stay keep _ (fun a ha => kl a (hq a ha)), by simp, fun a ha => ?_, fun d p d1 w H' f1 fp hret ans rp1 rp2 => ?_, fun xx d1 c dd H' f1 hexc cp rp1 xa => ?_⟩
  · have z : a = x := by simpa using ha
    subst z
    exact ⟨by rw [upd_same]; exact True.intro, fun y => fqx _ y rfl⟩
  · rw [hret] at q
    rcases newR_ok q hb with ⟨o, g1, g2⟩ | ⟨x, o, g1, _⟩
    case inr => cases g1
    cases g1
    have ef : fp = [] := rp2.2
    subst ef
    have cp : CallP C.io.T (upd (upd H1 dx (.own x)) x (.ins Ca dx [])) [x] H' (f1 ++ []) := ans
    rw [List.append_nil] at cp
    obtain ⟨R2, S2, T2⟩ := R1.called (ms := []) (back cp) rp1
    exact ⟨rp2.1, hQ d1 (.ref x) H' Sh1 g2 ⟨R2, (S1.trans S2).mono fun i hi => by simpa using hi, T2.base S1⟩⟩
  · rw [hexc] at q
    have cp' : CallP C.io.T (upd (upd H1 dx (.own x)) x (.ins Ca dx [])) [x] H' [] := ⟨cp.kp, cp.al, cp.tb, by simp, by simp⟩
    obtain ⟨R2, S2, _⟩ := R1.called (ms := []) (d := .non) (w := .non) (back cp') ⟨rfl, rfl⟩
    exact hE xx q.symm H' Sh1 F1 c dd R2 ((S1.trans S2).mono fun i hi => by simpa using hi) xa
theorem ev_new {Cn : Str} : C.ev (.new Cn π is) e = (C.evs is e).bind fun ds ps e1 => if permOk π ds.length then newR (C.cb.call Cn (.obj Cn [] [] :: permD .non π ds)) e1 else .bad := rfl
theorem permD_range {α : Type} {d : α} (ds : List α) : permD d (List.range ds.length) ds = ds := by
  unfold permD
  refine List.ext_getElem (by simp) fun i h1 h2 => ?_
  simp [List.getD_eq_getElem?_getD, h2]
/-- C(e, ..) -/
theorem se_new {x : Str} {p : Pos} (hr : Xk X (k + 1)) (G : ClsAt (X.gnd C.io.T) k x (es.length + 1) (C.cb.call x)) (hg : Gl X x) (h : SEs C X (a :: es) is) (hdb : (x == ("__debug__" : Str)) = false := by decide)
    (he : starEach (a :: es) X.env = (false, eval a X.env) :: starEach es X.env := by rfl) (hpl : (backTo pos (starEach es X.env)).any (·.1) = false := by rfl) (hlen : is.len = es.length + 1 := by rfl) (hπ : π = List.range is.len := by rfl) : SE C X (.Call (.Name x p) (a :: es) [] pos) (.new x π is) := by
  intro σ H Sh F e W tk R hx hb
  obtain ⟨Ca, f, fd, ps, g1, M, g3, g4, g5⟩ := G.ex
  obtain ⟨r, hr'⟩ : ∃ r, C.ev (.new x π is) e = r := ⟨_, rfl⟩
  rw [hr'] at hb
  have ev := hr'
  rw [ev_new] at ev
  have key : cA X (a :: es) σ H fun vs H1 => vs.length = es.length + 1 ∧ ∀ y dx, H1 y = none → H1 dx = none → dx ≠ y → spD X.K X.mg C.io.T (es.length + 1 + 1) true (C.cb.call x) (.ref y :: vs) (upd (upd H1 dx (.own y)) y (.ins Ca dx [])) (fun v H2 => v = .non ∧ ∃ d p e' Sh' F', C.ev (.new x π is) e = .ok d p e' ∧ Post C X σ (Ex.new x π is).mods H Sh F e d p e' (.ref y) H2 Sh' F') (fun c dd H' => W c dd σ H') := by
    refine h.bind tk R ev hb (fun _ h => h) (fun x e' he => hx x e' (hr'.trans he)) fun ds ps' e1 vs H1 Sh1 F1 hl P q => ?_
    by_cases hp : permOk π ds.length = true
    case neg => rw [if_neg hp] at q; exact absurd q.symm hb
    rw [if_pos hp, hπ, ← hl, permD_range] at q
    obtain ⟨fp, t, n1, h1⟩ := P.tmp
    obtain ⟨fq, r1, al, _⟩ := TmpL.alloc P.rel t (fun a ha => ⟨(h1 a ha).1.1, (h1 a ha).1.2.2⟩) 0
    refine ⟨by rw [r1.length, hl, hlen], fun y dx ny ndx ne => ?_⟩
    exact new_sp (Q := fun v H2 => ∃ d p e' Sh' F', C.ev (.new x π is) e = .ok d p e' ∧ Post C X σ (Ex.new x π is).mods H Sh F e d p e' v H2 Sh' F') rfl P.rel P.stp g1 ny ndx ne r1 (fun a ha => (al a ha).1) (by rw [r1.length, hl, hlen]) q hb (fun d w H' Sh' he PP => ⟨d, .own, e1, Sh', F1, hr'.trans he, PP⟩) fun xx he => hx xx e1 (hr'.trans he)
  intro pins s I
  refine wpAny_Call_Name_kw (ld_glob I hg g1 ?_ hdb)
  refine PySem.W.callWith_K (h₀ := X.base) I.ok.mod.kin M.kp (thn (key pos pins s I) fun us s1 ⟨vs, H1, I1, r, l1, q⟩ => ⟨I1.kIn, ?_⟩) he hpl
  have hz := run_mg (Q := fun v H2 => ∃ d p e' Sh' F', C.ev (.new x π is) e = .ok d p e' ∧ Post C X σ (Ex.new x π is).mods H Sh F e d p e' v H2 Sh' F') (ks := []) (ws := []) (n := es.length + 1) (E := fun c dd H' => W c dd σ H') M g5 hr (by have b := Bd.pos g4; rw [g3] at b; exact b) tk (fun _ _ _ h => h) I1 (r.length.symm.trans l1) rfl (fun x => .cons (show RelV (.ref x) (.ref x) from rfl) r) q
  exact hz
/-- C(k = v, ..) -/
theorem se_newk {x : Str} {p : Pos} (hr : Xk X (k + 1)) (G : ClsAtK (X.gnd C.io.T) k x ks π (C.cb.call x)) (hg : Gl X x) (h : SKs C X kws is) (hall : (backToKw pos (keywordEach kws X.env)).all (·.1.isSome) = true := by rfl) (hks : (backToKw pos (keywordEach kws X.env)).filterMap (·.1) = ks := by rfl)
    (hdb : (x == ("__debug__" : Str)) = false := by decide) (hpl : ((backTo pos (starEach [] X.env)).any (·.1) || (backToKw pos (keywordEach kws X.env)).any (·.1.isNone)) = false := by rfl) (hlen : is.len = ks.length := by rfl) : SE C X (.Call (.Name x p) [] kws pos) (.new x π is) := by
  intro σ H Sh F e W tk R hx hb
  obtain ⟨Ca, f, fd, ps, g1, M, g4, g5⟩ := G.ex
  obtain ⟨r, hr'⟩ : ∃ r, C.ev (.new x π is) e = r := ⟨_, rfl⟩
  rw [hr'] at hb
  have ev := hr'
  rw [ev_new] at ev
  have key : cK X kws σ H fun vs H1 => vs.length = ks.length ∧ ∀ y dx, H1 y = none → H1 dx = none → dx ≠ y → spD X.K X.mg C.io.T (π.length + 1) true (C.cb.call x) (.ref y :: permD .non π vs) (upd (upd H1 dx (.own y)) y (.ins Ca dx [])) (fun v H2 => v = .non ∧ ∃ d p e' Sh' F', C.ev (.new x π is) e = .ok d p e' ∧ Post C X σ (Ex.new x π is).mods H Sh F e d p e' (.ref y) H2 Sh' F') (fun c dd H' => W c dd σ H') := by
    refine h.bind tk R ev hb (fun _ h => h) (fun x e' he => hx x e' (hr'.trans he)) fun ds ps' e1 vs H1 Sh1 F1 hl P q => ?_
    by_cases hp : permOk π ds.length = true
    case neg => rw [if_neg hp] at q; exact absurd q.symm hb
    rw [if_pos hp] at q
    obtain ⟨fp, t, n1, h1⟩ := P.tmp
    obtain ⟨fq, r1, al, _⟩ := TmpL.alloc P.rel t (fun a ha => ⟨(h1 a ha).1.1, (h1 a ha).1.2.2⟩) 0
    obtain ⟨fq', r2, sub⟩ := r1.perm π
    refine ⟨by rw [r1.length, hl, hlen], fun y dx ny ndx ne => ?_⟩
    exact new_sp (Q := fun v H2 => ∃ d p e' Sh' F', C.ev (.new x π is) e = .ok d p e' ∧ Post C X σ (Ex.new x π is).mods H Sh F e d p e' v H2 Sh' F') rfl P.rel P.stp g1 ny ndx ne r2 (fun a ha => (al a (sub a ha)).1) (by unfold permD; rw [List.length_map]) q hb (fun d w H' Sh' he PP => ⟨d, .own, e1, Sh', F1, hr'.trans he, PP⟩) fun xx he => hx xx e1 (hr'.trans he)
  intro pins s I
  refine wpAny_Call_Name_kw (ld_glob I hg g1 ?_ hdb)
  refine PySem.W.callWith_KW0 (h₀ := X.base) I.ok.mod.kin M.kp hall ?_ hpl
  refine thn (key pos pins s I) fun ws s2 ⟨zs, H2, I2, rz, l2, q2⟩ => ⟨I2.kIn, ?_⟩
  rw [hks]
  exact run_mg (Q := fun v H2 => ∃ d p e' Sh' F', C.ev (.new x π is) e = .ok d p e' ∧ Post C X σ (Ex.new x π is).mods H Sh F e d p e' v H2 Sh' F') (us := []) (n := 0) (E := fun c dd H' => W c dd σ H') M g5 hr g4 tk (fun _ _ _ h => h) I2 rfl (rz.length.symm.trans l2) (fun x => .cons (show RelV (.ref x) (.ref x) from rfl) (Vals.perm rz π)) q2
end
end DL
end
section
set_option Elab.async false
set_option linter.all false
set_option maxRecDepth 100000
/-! D layer, 14: statements. -/
namespace DL
open PySem PySem.Spec PyProof.Rows L2

abbrev Dc.ex (C : Dc) (i : St) (e : Envv) : Out := exec C.ios C.cb i e
abbrev Dc.exs (C : Dc) (i : Sts) (e : Envv) : Out := execs C.ios C.cb i e
def cS (X : Cx) (st : Stmt) : TS := fun Ed σ H => ∀ pins s, Inv X pins σ H s → wpAny (model X.prog X.w) X.A (PySem.exec st X.env) (SP X pins Ed) X.xe s
def cSs (X : Cx) (st : List Stmt) : TS := fun Ed σ H => ∀ pins s, Inv X pins σ H s → wpAny (model X.prog X.w) X.A (PySem.execs st X.env) (SP X pins Ed) X.xe s
theorem ps_can {X : Cx} {st : Stmt} : PS X st (cS X st) := ⟨fun pins s _ _ _ I h => h pins s I⟩
theorem pss_can {X : Cx} {st : List Stmt} : PSs X st (cSs X st) := ⟨fun pins s _ _ _ I h => h pins s I⟩
theorem cS_of {X : Cx} {st : Stmt} {t : TS} (h : PS X st t) {Ed : Ends} {σ : L2.St} {H : Hp} (q : t Ed σ H) : cS X st Ed σ H := fun pins s I => h.run pins s σ H Ed I q
theorem cSs_of {X : Cx} {st : List Stmt} {t : TS} (h : PSs X st t) {Ed : Ends} {σ : L2.St} {H : Hp} (q : t Ed σ H) : cSs X st Ed σ H := fun pins s I => h.run pins s σ H Ed I q

/-- what is wished of each end of a statement whose outcome is o -/
structure Aim (C : Dc) (X : Cx) (W : WX) (Ed : Ends) (ms : List Nat) (H : Hp) (Sh : Addr → Prop) (F : List (List Addr)) (e : Envv) (o : Out) : Prop where
  nb : o ≠ .bad
  nx : ∀ e', o = .nx e' → ∀ σ' H' Sh' F', Rel C.io X.K X.mg σ' H' Sh' F' e' → Stp ms H Sh F e H' Sh' F' e' → Ed.nx σ' H'
  bk : ∀ e', o = .bk e' → ∀ σ' H' Sh' F', Rel C.io X.K X.mg σ' H' Sh' F' e' → Stp ms H Sh F e H' Sh' F' e' → Ed.bk σ' H'
  ct : ∀ e', o = .ct e' → ∀ σ' H' Sh' F', Rel C.io X.K X.mg σ' H' Sh' F' e' → Stp ms H Sh F e H' Sh' F' e' → Ed.ct σ' H'
  rt : ∀ d p e', o = .rt d p e' → ∀ v σ' H' Sh' F', Rel C.io X.K X.mg σ' H' Sh' F' e' → Stp ms H Sh F e H' Sh' F' e' → TmpO H F X.K X.mg H' Sh' F' p d v → Ed.rt v H'
  ex : ∀ x e', o = .exc x e' → ∀ σ' H' Sh' F' c dd, Rel C.io X.K X.mg σ' H' Sh' F' e' → Stp ms H Sh F e H' Sh' F' e' → XnAt X.K X.mg x c dd H' → W c dd σ' H'
def SS (C : Dc) (X : Cx) (st : Stmt) (i : St) : Prop := ∀ (σ : L2.St) (H : Hp) (Sh : Addr → Prop) (F : List (List Addr)) (e : Envv) (W : WX) (Ed : Ends), Takes X W → Rel C.io X.K X.mg σ H Sh F e → Aim C X W Ed i.mods H Sh F e (C.ex i e) → cS X st Ed σ H
def SSs (C : Dc) (X : Cx) (st : List Stmt) (i : Sts) : Prop := ∀ (σ : L2.St) (H : Hp) (Sh : Addr → Prop) (F : List (List Addr)) (e : Envv) (W : WX) (Ed : Ends), Takes X W → Rel C.io X.K X.mg σ H Sh F e → Aim C X W Ed i.mods H Sh F e (C.exs i e) → cSs X st Ed σ H

section
variable {C : Dc} {X : Cx} {W : WX} {Ed Ed' : Ends} {σ : L2.St} {H H1 : Hp} {Sh Sh1 : Addr → Prop} {F F1 : List (List Addr)} {e e1 : Envv} {ms m1 m2 : List Nat} {o : Out}
/-- the wish further on -/
theorem Aim.step (A : Aim C X W Ed ms H Sh F e o) (s : Stp m1 H Sh F e H1 Sh1 F1 e1) (h1 : ∀ n ∈ m1, n ∈ ms) (h2 : ∀ n ∈ m2, n ∈ ms) : Aim C X W Ed m2 H1 Sh1 F1 e1 o := by
  have mm : ∀ n ∈ m1 ++ m2, n ∈ ms := fun n hn => (List.mem_append.mp hn).elim (h1 n) (h2 n)
  exact ⟨A.nb, fun e' he σ' H' Sh' F' R S => A.nx e' he σ' H' Sh' F' R ((s.trans S).mono mm), fun e' he σ' H' Sh' F' R S => A.bk e' he σ' H' Sh' F' R ((s.trans S).mono mm),
    fun e' he σ' H' Sh' F' R S => A.ct e' he σ' H' Sh' F' R ((s.trans S).mono mm), fun d p e' he v σ' H' Sh' F' R S T => A.rt d p e' he v σ' H' Sh' F' R ((s.trans S).mono mm) (T.base s),
    fun x e' he σ' H' Sh' F' c dd R S z => A.ex x e' he σ' H' Sh' F' c dd R ((s.trans S).mono mm) z⟩
theorem Aim.mono (A : Aim C X W Ed ms H Sh F e o) (h : ∀ n ∈ m2, n ∈ ms) : Aim C X W Ed m2 H Sh F e o := A.step (Stp.refl (ms := [])) (by simp) h
theorem Aim.here (A : Aim C X W Ed ms H Sh F e (.nx e1)) (R : Rel C.io X.K X.mg σ H1 Sh1 F1 e1) (S : Stp m1 H Sh F e H1 Sh1 F1 e1) (h : ∀ n ∈ m1, n ∈ ms := by exact fun _ h => h) : Ed.nx σ H1 := A.nx _ rfl _ _ _ _ R (S.mono h)
theorem rs_mods {s : St} {ss : Sts} : (Sts.cons s ss).mods = s.mods ++ ss.mods := by rw [Sts.mods]
theorem ev_exs {s : St} {ss : Sts} : C.exs (.cons s ss) e = (match C.ex s e with
    | .nx e1 => C.exs ss e1
    | o => o) := by rfl
theorem sss_nil : SSs C X [] .nil := fun σ H Sh F e W Ed tk R A => cSs_of pss_nil (A.nx e (by rfl) σ H Sh F R Stp.refl)
theorem sss_cons {st : Stmt} {rest : List Stmt} {i : St} {is : Sts} (h1 : SS C X st i) (h2 : SSs C X rest is) : SSs C X (st :: rest) (.cons i is) := by
  intro σ H Sh F e W Ed tk R A
  rw [ev_exs] at A
  have hm1 : ∀ n ∈ i.mods, n ∈ (Sts.cons i is).mods := fun n hn => by rw [rs_mods]; exact List.mem_append_left _ hn
  have hm2 : ∀ n ∈ is.mods, n ∈ (Sts.cons i is).mods := fun n hn => by rw [rs_mods]; exact List.mem_append_right _ hn
  refine cSs_of (pss_cons ps_can pss_can) ?_
  show cS X st { Ed with nx := cSs X rest Ed } σ H
  refine h1 σ H Sh F e W _ tk R ?_
  cases ho : C.ex i e with
  | nx e1 =>
    rw [ho] at A
    exact ⟨by simp, fun e' he σ' H' Sh' F' R' S' => (by cases he; exact h2 σ' H' Sh' F' e1 W Ed tk R' (A.step S' hm1 hm2)), fun e' he => (by cases he), fun e' he => (by cases he), fun d p e' he => (by cases he), fun x e' he => (by cases he)⟩
  | bad => rw [ho] at A; exact absurd rfl A.nb
  | rt d p e1 =>
    rw [ho] at A
    have A' := A.mono hm1
    exact ⟨A'.nb, fun e' he => (by cases he), A'.bk, A'.ct, A'.rt, A'.ex⟩
  | bk e1 =>
    rw [ho] at A
    have A' := A.mono hm1
    exact ⟨A'.nb, fun e' he => (by cases he), A'.bk, A'.ct, A'.rt, A'.ex⟩
  | ct e1 =>
    rw [ho] at A
    have A' := A.mono hm1
    exact ⟨A'.nb, fun e' he => (by cases he), A'.bk, A'.ct, A'.rt, A'.ex⟩
  | exc x e1 =>
    rw [ho] at A
    have A' := A.mono hm1
    exact ⟨A'.nb, fun e' he => (by cases he), A'.bk, A'.ct, A'.rt, A'.ex⟩
theorem ss_pass {pos : Pos} : SS C X (.Pass pos) .pss := fun σ H Sh F e W Ed tk R A => cS_of ps_pass (A.nx e (by rfl) σ H Sh F R Stp.refl)
theorem ss_brk {pos : Pos} : SS C X (.Break pos) .brk := fun σ H Sh F e W Ed tk R A => cS_of ps_break (A.bk e (by rfl) σ H Sh F R Stp.refl)
theorem ss_cnt {pos : Pos} : SS C X (.Continue pos) .cnt := fun σ H Sh F e W Ed tk R A => cS_of ps_continue (A.ct e (by rfl) σ H Sh F R Stp.refl)
/-- an expression first -/
theorem SE.bindS {a : Expr} {i : Ex} (h : SE C X a i) (tk : Takes X W) (R : Rel C.io X.K X.mg σ H Sh F e) {f : D → Pv → Envv → Out} (A : Aim C X W Ed ms H Sh F e (Out.bind (C.ev i e) f)) (hm : ∀ j ∈ i.mods, j ∈ ms) {Q : VK}
    (k : ∀ d p e1 v H1 Sh1 F1, Post C X σ i.mods H Sh F e d p e1 v H1 Sh1 F1 → Aim C X W Ed ms H Sh F e (f d p e1) → Q v H1) : cR X a σ H Q := by
  have nb : C.ev i e ≠ .bad := fun z => A.nb (by rw [z] <;> rfl)
  refine cR_mono (h σ H Sh F e W tk R (fun x e' he => ?_) nb) fun v H1 ⟨d, p, e1, Sh1, F1, he, P⟩ => k d p e1 v H1 Sh1 F1 P (by rw [he] at A; exact A)
  exact fun H' Sh' F' c dd R' S' z => A.ex x e' (by rw [he] <;> rfl) σ H' Sh' F' c dd R' (S'.mono hm) z
/-- .. where something was done before -/
theorem SE.bindS2 {a : Expr} {i : Ex} (h : SE C X a i) (tk : Takes X W) (R : Rel C.io X.K X.mg σ H1 Sh1 F1 e1) (S : Stp m1 H Sh F e H1 Sh1 F1 e1) {f : D → Pv → Envv → Out} (A : Aim C X W Ed ms H Sh F e (Out.bind (C.ev i e1) f)) (hm1 : ∀ j ∈ m1, j ∈ ms) (hm : ∀ j ∈ i.mods, j ∈ ms) {Q : VK}
    (k : ∀ d p e2 v H2 Sh2 F2, Post C X σ i.mods H1 Sh1 F1 e1 d p e2 v H2 Sh2 F2 → Aim C X W Ed ms H Sh F e (f d p e2) → Q v H2) : cR X a σ H1 Q := by
  have nb : C.ev i e1 ≠ .bad := fun z => A.nb (by rw [z] <;> rfl)
  refine cR_mono (h σ H1 Sh1 F1 e1 W tk R (fun x e' he => ?_) nb) fun v H1 ⟨d, p, e1, Sh1, F1, he, P⟩ => k d p e1 v H1 Sh1 F1 P (by rw [he] at A; exact A)
  exact fun H' Sh' F' c dd R' S' z => A.ex x e' (by rw [he] <;> rfl) σ H' Sh' F' c dd R' ((S.trans S').mono fun n hn => (List.mem_append.mp hn).elim (hm1 n) (hm n)) z
theorem ss_ex {a : Expr} {i : Ex} {pos : Pos} (h : SE C X a i) (hs : swapsWith a none pos.line X.env = pure false := by rfl) : SS C X (.Expr a pos) (.ex i) := by
  intro σ H Sh F e W Ed tk R A
  have ev : C.ex (.ex i) e = Out.bind (C.ev i e) fun _ _ e1 => .nx e1 := by rfl
  rw [ev] at A
  refine cS_of (ps_expr pe_can hs) (h.bindS tk R A (fun _ h => h) fun d p e1 v H1 Sh1 F1 P A1 => ?_)
  exact A1.here P.rel P.stp (fun _ h => h)
/-- a docstring -/
theorem ss_doc {x : Str} {j : Nat} {pos pos' : Pos} : SS C X (.Expr (.Constant (.str x) j pos) pos') .pss := fun σ H Sh F e W Ed tk R A => cS_of ps_doc (A.nx e (by rfl) σ H Sh F R Stp.refl)
theorem ss_ret {a : Expr} {i : Ex} {pos : Pos} (h : SE C X a i) : SS C X (.Return (some a) pos) (.ret i) := by
  intro σ H Sh F e W Ed tk R A
  have ev : C.ex (.ret i) e = Out.bind (C.ev i e) fun d p e1 => (match p with | .bor _ => .bad | p => .rt d p e1) := by rfl
  rw [ev] at A
  refine cS_of (ps_ret pe_can) (h.bindS tk R A (fun _ h => h) fun d p e1 v H1 Sh1 F1 P A1 => ?_)
  have hm : ∀ n ∈ i.mods, n ∈ (St.ret i).mods := fun _ h => h
  cases p with
  | own => exact A1.rt d .own e1 rfl v σ H1 Sh1 F1 P.rel (P.stp.mono hm) P.tmp
  | shr => exact A1.rt d .shr e1 rfl v σ H1 Sh1 F1 P.rel (P.stp.mono hm) P.tmp
  | bor r => exact absurd rfl A1.nb
theorem ss_retN {pos : Pos} : SS C X (.Return none pos) (.ret (.con .non)) := by
  intro σ H Sh F e W Ed tk R A
  have ev : C.ex (.ret (.con .non)) e = .rt .non .own e := by rfl
  rw [ev] at A
  exact cS_of ps_retN (A.rt .non .own e rfl .non σ H Sh F R Stp.refl ⟨[], ⟨rfl, rfl⟩, by simp, by simp⟩)
theorem ss_if {c : Expr} {a b : List Stmt} {i : Ex} {ia ib : Sts} {pos : Pos} (hc : ST C X c i) (ha : SSs C X a ia) (hb : SSs C X b ib) : SS C X (.If c a b pos) (.ite i ia ib) := by
  intro σ H Sh F e W Ed tk R A
  have ev : C.ex (.ite i ia ib) e = Out.bind (C.ev i e) fun d _ e1 => (match d with
    | .bl true => C.exs ia e1
    | .bl false => C.exs ib e1
    | _ => .bad) := by rfl
  rw [ev] at A
  have m0 : ∀ n ∈ i.mods, n ∈ (St.ite i ia ib).mods := fun n hn => List.mem_append_left _ hn
  have ma : ∀ n ∈ ia.mods, n ∈ (St.ite i ia ib).mods := fun n hn => List.mem_append_right _ (List.mem_append_left _ hn)
  have mb : ∀ n ∈ ib.mods, n ∈ (St.ite i ia ib).mods := fun n hn => List.mem_append_right _ (List.mem_append_right _ hn)
  refine cS_of (ps_if pt_can pss_can pss_can) ?_
  have nb : C.ev i e ≠ .bad := fun z => A.nb (by rw [z] <;> rfl)
  refine cT_mono (hc σ H Sh F e W tk R (fun x e' he => fun H' Sh' F' c dd R' S' z => A.ex x e' (by rw [he] <;> rfl) σ H' Sh' F' c dd R' (S'.mono m0) z) (fun d p e' he => ?_) nb) fun k H1 ⟨p, e1, Sh1, F1, he, R1, S1⟩ => ?_
  · rw [he] at A
    cases d with
    | bl k => exact ⟨k, rfl⟩
    | _ => exact absurd rfl A.nb
  · rw [he] at A
    cases k with
    | true =>
      rw [if_pos rfl]
      exact ha σ H1 Sh1 F1 e1 W Ed tk R1 (A.step S1 m0 ma)
    | false =>
      rw [if_neg Bool.false_ne_true]
      exact hb σ H1 Sh1 F1 e1 W Ed tk R1 (A.step S1 m0 mb)
end

/-! ### stores -/
section
variable {io : Io} {K : PySem.W.Frag} {mg : Str → Option Value} {σ : L2.St} {H H1 : Hp} {Sh Sh1 : Addr → Prop} {F F1 : List (List Addr)} {e e1 e2 : Envv} {ms : List Nat} {i : Nat} {d : D} {p : Pv} {v : V} {fr : Bool}
/-- the slot i is stored: it has fp of its own now, sh is shared from now on -/
theorem Rel.store0 {s : Sl} {fp sh : List Addr} (R : Rel io K mg σ H1 Sh1 F1 e1) (S : Stp ms H Sh F e H1 Sh1 F1 e1) (hi : i < σ.length) (hio : ∀ q ∈ io.l, q.1 ≠ i) (nd : fp.Nodup)
    (hf : ∀ a ∈ fp, (Mt (H1 a) ∧ ¬ Sh1 a ∧ a ∉ F1.flatten) ∧ (a ∈ F.flatten ∨ H a = none)) (hs : ∀ a ∈ sh, (Live (H1 a) ∧ a ∉ F1.flatten) ∧ (Sh1 a ∨ a ∈ F.flatten ∨ H a = none)) (dis : ∀ a ∈ sh, a ∉ fp)
    (hv : match s with
      | .ow d => Rp K mg H1 d v fp
      | .sh d => ∃ fq, Rp K mg H1 d v fq ∧ ∀ a ∈ fq, Sh1 a ∨ a ∈ sh
      | .un => True) : Rel io K mg (σ.set i (some v)) H1 (fun a => Sh1 a ∨ a ∈ sh) (F1.set i fp) (e1.set i s) ∧ Stp (ms ++ [i]) H Sh F e H1 (fun a => Sh1 a ∨ a ∈ sh) (F1.set i fp) (e1.set i s) := by
  have hσ : (σ.set i (some v))[i]? = some (some v) := List.getElem?_set_self hi
  refine ⟨R.put hi ⟨List.length_set, fun j hj => List.getElem?_set_ne (Ne.symm hj)⟩ (.inl hio) (fun _ _ _ => rfl) (fun _ h => .inl h) (fun a ha => ?_) nd (fun a ha => ⟨(hf a ha).1.1, .inr ⟨(hf a ha).1.2.2, (hf a ha).1.2.1⟩⟩) ?_, ?_⟩
  · rcases ha with ha | ha
    · exact ⟨R.sa a ha, .inl ha, fun z => (hf a z).1.2.1 ha⟩
    · exact ⟨(hs a ha).1.1, .inr (.inr (hs a ha).1.2), dis a ha⟩
  · cases s with
    | ow d => exact ⟨v, hσ, hv⟩
    | sh d => obtain ⟨fq, r, q⟩ := hv; exact ⟨v, fq, hσ, r, q⟩
    | un => exact True.intro
  · refine ⟨S.kp, S.al, fun a ha => ?_, fun a ha => .inl (S.ss a ha), fun a ha => ha.elim (S.sn a) fun z => (hs a z).2.elim (S.sn a) .inr, fun m hm => ?_⟩
    · rcases mem_set ha with z | z
      · exact (hf a z).2
      · exact S.fs a z
    · have hm1 : m ∉ ms := fun z => hm (List.mem_append_left _ z)
      have hmi : m ≠ i := fun z => hm (by rw [z]; simp)
      obtain ⟨q1, q2, q3⟩ := S.fr m hm1
      exact ⟨(getD_set_ne hmi).trans q1, (getD_set_ne hmi).trans q2, q3⟩
theorem setSl_ok {ios : List Nat} (h : setSl ios e1 i fr d p = some e2) : i ∉ ios ∧ ((p = .own ∧ e2 = e1.set i (if fr then .sh d else .ow d)) ∨ (p = .shr ∧ e2 = e1.set i (.sh d))) := by
  unfold setSl at h
  by_cases hc : ios.contains i = true
  · rw [if_pos hc] at h; cases h
  rw [if_neg hc] at h
  refine ⟨by simpa using hc, ?_⟩
  cases p with
  | own => exact .inl ⟨rfl, (Option.some.inj h).symm⟩
  | shr => exact .inr ⟨rfl, (Option.some.inj h).symm⟩
  | bor r => cases h
/-- a waiting value comes into a slot; others, of footprint fo, wait on -/
theorem Rel.store {fo : List Addr} (R : Rel io K mg σ H1 Sh1 F1 e1) (S : Stp ms H Sh F e H1 Sh1 F1 e1) (hi : i < σ.length) (hs : setSl (io.l.map (·.1)) e1 i fr d p = some e2) {f1 : List Addr}
    (T : (p = .own ∧ Rp K mg H1 d v f1) ∨ (p ≠ .own ∧ f1 = [] ∧ Tmp K mg H1 Sh1 F1 p d v)) (nd : (f1 ++ fo).Nodup) (hf : ∀ a ∈ f1 ++ fo, (Mt (H1 a) ∧ ¬ Sh1 a ∧ a ∉ F1.flatten) ∧ (a ∈ F.flatten ∨ H a = none)) :
    ∃ Sh2 F2, Rel io K mg (σ.set i (some v)) H1 Sh2 F2 e2 ∧ Stp (ms ++ [i]) H Sh F e H1 Sh2 F2 e2 ∧ (∀ a, Sh1 a → Sh2 a) ∧ ∀ a ∈ fo, ¬ Sh2 a ∧ a ∉ F2.flatten := by
  obtain ⟨hio, h⟩ := setSl_ok hs
  have hio' : ∀ q ∈ io.l, q.1 ≠ i := fun q hq z => hio (by rw [← z]; exact List.mem_map.mpr ⟨q, hq, rfl⟩)
  obtain ⟨n1, n2, n3⟩ := List.nodup_append.mp nd
  rcases h with ⟨rfl, rfl⟩ | ⟨rfl, rfl⟩
  · rcases T with ⟨_, r⟩ | ⟨z, _⟩
    case inr => exact absurd rfl z
    cases fr with
    | false =>
      obtain ⟨R2, S2⟩ := R.store0 (v := v) (s := .ow d) (fp := f1) (sh := []) S hi hio' n1 (fun a ha => hf a (List.mem_append_left _ ha)) (by simp) (by simp) r
      refine ⟨_, _, R2, S2, fun a ha => .inl ha, fun a ha => ⟨fun z => z.elim (hf a (List.mem_append_right _ ha)).1.2.1 (by simp), fun z => ?_⟩⟩
      rcases mem_set z with y | y
      · exact n3 a y a ha rfl
      · exact (hf a (List.mem_append_right _ ha)).1.2.2 y
    | true =>
      obtain ⟨R2, S2⟩ := R.store0 (v := v) (s := .sh d) (fp := []) (sh := f1) S hi hio' (by simp) (by simp) (fun a ha => ⟨⟨(hf a (List.mem_append_left _ ha)).1.1.live, (hf a (List.mem_append_left _ ha)).1.2.2⟩, .inr (hf a (List.mem_append_left _ ha)).2⟩) (by simp) ⟨f1, r, fun a ha => .inr ha⟩
      refine ⟨_, _, R2, S2, fun a ha => .inl ha, fun a ha => ⟨fun z => z.elim (hf a (List.mem_append_right _ ha)).1.2.1 fun y => n3 a y a ha rfl, fun z => ?_⟩⟩
      rcases mem_set z with y | y
      · simp at y
      · exact (hf a (List.mem_append_right _ ha)).1.2.2 y
  · rcases T with ⟨z, _⟩ | ⟨_, rfl, fq, r, q⟩
    case inl => cases z
    obtain ⟨R2, S2⟩ := R.store0 (v := v) (s := .sh d) (fp := []) (sh := []) S hi hio' (by simp) (by simp) (by simp) (by simp) ⟨fq, r, fun a ha => .inl (q a ha)⟩
    refine ⟨_, _, R2, S2, fun a ha => .inl ha, fun a ha => ⟨fun z => z.elim (hf a (List.mem_append_right _ ha)).1.2.1 (by simp), fun z => ?_⟩⟩
    rcases mem_set z with y | y
    · simp at y
    · exact (hf a (List.mem_append_right _ ha)).1.2.2 y
/-- .. a single value -/
theorem Rel.store1 (R : Rel io K mg σ H1 Sh1 F1 e1) (S : Stp ms H Sh F e H1 Sh1 F1 e1) (hi : i < σ.length) (hs : setSl (io.l.map (·.1)) e1 i fr d p = some e2) (T : TmpO H F K mg H1 Sh1 F1 p d v) :
    ∃ Sh2 F2, Rel io K mg (σ.set i (some v)) H1 Sh2 F2 e2 ∧ Stp (ms ++ [i]) H Sh F e H1 Sh2 F2 e2 := by
  cases p with
  | own =>
    obtain ⟨fp, r, nd, hf⟩ := T
    obtain ⟨Sh2, F2, R2, S2, _⟩ := R.store (fo := []) S hi hs (.inl ⟨rfl, r⟩) (by rw [List.append_nil]; exact nd) (by rw [List.append_nil]; exact hf)
    exact ⟨Sh2, F2, R2, S2⟩
  | shr =>
    obtain ⟨Sh2, F2, R2, S2, _⟩ := R.store (fo := []) S hi hs (.inr ⟨by simp, rfl, T⟩) (by simp) (by simp)
    exact ⟨Sh2, F2, R2, S2⟩
  | bor r => exact absurd (setSl_ok hs).2 (by simp)
end
section
variable {C : Dc} {X : Cx} {W : WX} {Ed : Ends} {σ : L2.St} {H H1 : Hp} {Sh Sh1 : Addr → Prop} {F F1 : List (List Addr)} {e e1 : Envv} {ms m1 m2 : List Nat} {a : Expr} {i : Ex} {pos pos' : Pos}
theorem ss_set {n : Nat} {x : Str} {fr : Bool} (h : SE C X a i) (hN : X.N.Nodup) (hn : X.N[n]? = some x) (hx : Loc X.env.scope x) (hlen : ∀ {σ H Sh F e}, Rel C.io X.K X.mg σ H Sh F e → ∀ {pins s}, Inv X pins σ H s → n < σ.length := by intros; rename_i I; rw [I.len]; exact (List.getElem?_eq_some_iff.mp (by assumption)).1)
    (hs : swapsWith a (some (.Name x pos')) pos.line X.env = pure false := by rfl) (hf : X.fn x = true ∨ X.env.scope.names.lookup x = some .local := by first | exact .inl rfl | exact .inr rfl | assumption) : SS C X (.Assign [.Name x pos'] a pos) (.asg (.nm n) fr i) := by
  intro σ H Sh F e W Ed tk R A
  have ev : C.ex (.asg (.nm n) fr i) e = Out.bind (C.ev i e) fun d p e1 => (match setSl C.ios e1 n fr d p with | some e2 => .nx e2 | none => .bad) := by rfl
  rw [ev] at A
  intro pins s I
  have hnσ : n < σ.length := hlen R I
  refine (cS_of (ps_set hN hn hx pe_can hs hf) ?_ : cS X _ Ed σ H) pins s I
  refine h.bindS tk R A (fun _ h => List.mem_append_left _ h) fun d p e1 v H1 Sh1 F1 P A1 => ?_
  show Ed.nx (σ.set n (some v)) H1
  cases hset : setSl C.ios e1 n fr d p with
  | none => rw [hset] at A1; exact absurd rfl A1.nb
  | some e2 =>
    rw [hset] at A1
    obtain ⟨Sh2, F2, R2, S2⟩ := P.rel.store1 P.stp hnσ hset P.tmp
    exact A1.here R2 S2 (fun _ h => h)
end
end DL
end
section
set_option Elab.async false
set_option linter.all false
set_option maxRecDepth 100000
/-! D layer, 15: enumerate over a tuple (HandS has it over a list). -/
namespace PySem
open Sem (wp)
open AutoSeq1 (wpAny_loadPart')
theorem dl_meets_enumerate_newT (l : Addr) (items : Array Value) (n : Nat) (dct : Option Addr) (sl : Array (Option Value)) :
    Meets (Builtin.«enumerate.__new__» ⟨[.type "enumerate", .ref l], []⟩) (fun _ R s => s.heap.get? l = some { cls := .type "tuple", dict := dct, data := .seq items n, slots := sl } ∧
      R (.ok (.ret (.ref (s.heap.push { cls := .type "tuple_iterator", data := .fields #[.ref l, .int 0 0] }).objs.size)))
        { s with heap := (s.heap.push { cls := .type "tuple_iterator", data := .fields #[.ref l, .int 0 0] }).push { cls := .type "enumerate", data := .fields #[.none, .bool false, .ref s.heap.objs.size, rawInt 0, .none, .none] } }) :=
  .of_wp fun prog w A R s h => by
    obtain ⟨hp, g, d, tk, os⟩ := s; obtain ⟨hl, h⟩ := h
    have hsub := sub_enumerate
    have hL : Heap.IsTuple (Shared.heap ⟨hp, g, d, tk, os⟩) l items := ⟨_, hl, rfl, n, rfl⟩
    wp_walk using wpAny_loadPart' hl
    refine wpAny_stack_any fun st => wpAny_pure ?_
    split
    · rename_i c _ _ _ _ _
      cases (c == Value.type "enumerate")
      · wp_walk using wpAny_loadPart' hl, wpAny_pyIter_tuple hL
        exact ⟨_, rfl, h⟩
      · wp_walk using wpAny_loadPart' hl, wpAny_pyIter_tuple hL
        exact ⟨_, rfl, h⟩
    · wp_walk using wpAny_loadPart' hl, wpAny_pyIter_tuple hL
      exact ⟨_, rfl, h⟩
section
variable {prog : Program} {w : World} {A : Around} {E : Value → Shared → Prop} {s : Shared}
theorem dl_call_enumerate_tuple {l : Addr} {items : Array Value} {Q : Value → Shared → Prop} (hL : s.heap.IsTuple l items)
    (h : ∀ h', IsEnum h' (s.heap.objs.size + 1) s.heap.objs.size 0 .none → h'.IsTupleIter s.heap.objs.size l 0 → h'.objs.size = s.heap.objs.size + 2 →
      (∀ b o, s.heap.get? b = some o → h'.get? b = some o) → Q (.ref (s.heap.objs.size + 1)) { s with heap := h' }) :
    wpAny (model prog w) A (call (.type "enumerate") [.ref l]) Q E s := by
  obtain ⟨⟨c, dct, dt, sl⟩, hl, hc, n, hd⟩ := hL
  replace hc : c = .type "tuple" := hc
  replace hd : dt = .seq items n := hd
  subst hc hd
  refine callType_new F.called_enumerate (by decide) (F.typeCall_enumerate_1 _) (F.newCall_enumerate_1 _) (fun obj => F.args_object_init_2 obj _) F.entry_enumerate_new
    (dl_meets_enumerate_newT l items n dct sl) ⟨hl, ?_⟩
  have hz : (s.heap.push { cls := .type "tuple_iterator", data := .fields #[.ref l, .int 0 0] }).objs.size = s.heap.objs.size + 1 := Heap.size_push ..
  show _ ∧ _
  rw [hz]
  have he : IsEnum ((s.heap.push { cls := .type "tuple_iterator", data := .fields #[.ref l, .int 0 0] }).push
      { cls := .type "enumerate", data := .fields #[.none, .bool false, .ref s.heap.objs.size, rawInt 0, .none, .none] }) (s.heap.objs.size + 1) s.heap.objs.size 0 .none := by
    have := Heap.get?_push_size (s.heap.push { cls := .type "tuple_iterator", data := .fields #[.ref l, .int 0 0] })
      (o := { cls := .type "enumerate", data := .fields #[.none, .bool false, .ref s.heap.objs.size, rawInt 0, .none, .none] }) rfl
    rw [hz] at this; exact this
  refine ⟨⟨_, he, rfl⟩, h _ he ⟨_, Heap.get?_push_of_some _ (Heap.get?_push_size _ rfl), rfl, rfl⟩ (by rw [Heap.size_push, hz]) fun b o x => Heap.get?_push_of_some _ (Heap.get?_push_of_some _ x)⟩
end
end PySem
namespace DL
open PySem PySem.Spec PyProof.Rows L2
/-- the tuple at a, each item in a new pair -/
def IteT (K : PySem.W.Frag) (a : Addr) : L2.It :=
  ⟨fun i H => ∃ (xs : List V) (x : V), SqT K H a xs ∧ xs[i]? = some x, fun i H v H' => ∃ T x, v = .ref T ∧ H T = none ∧ H' = upd H T (.tup [.int (i : Nat), x]) ∧ ∀ xs, SqT K H a xs → xs[i]? = some x, fun i H => ∃ xs : List V, SqT K H a xs ∧ xs.length = i⟩
theorem turn_enumT {P : Program} {w : World} {K : PySem.W.Frag} {elts : List Expr} {kk : Nat} {tpos : Pos} (a e it : Addr) (hai : a ≠ it) (hae : e ≠ a) :
    Turn P w K (.Tuple elts kk tpos) (IteT K a) [e, it] e (fun i h => (∃ old, IsEnum h e it ((i : Nat) : Int) old) ∧ h.IsTupleIter it a i ∧ e ≠ it) where
  mem := by simp
  obj := fun i h st b hb => by
    obtain ⟨⟨old, he⟩, ⟨o, ho, hc, hd⟩, _⟩ := st
    have e' : b = e ∨ b = it := by simpa using hb
    rcases e' with z | z
    · rw [z]; exact ⟨_, he, fun v q => nomatch q⟩
    · rw [z]; exact ⟨o, ho, fun v q => by rw [hd] at q; cases q⟩
  keep := fun i h h' st k => let ⟨⟨old, he⟩, hi, hne⟩ := st; ⟨⟨old, k e (by simp) _ he⟩, hi.at fun o q => k it (by simp) o q, hne⟩
  item := by
    intro X hP hw hK hc i pins s σ H E I hf st hg
    subst hP hw hK
    obtain ⟨⟨old, he⟩, hit, hne⟩ := st
    obtain ⟨xs, x, hq, hx⟩ := hg
    obtain ⟨its, rv, p, hz⟩ := I.tuple hq
    obtain ⟨u, hu, ru⟩ := rv.get hx
    have hel : e < s.heap.objs.size := Heap.lt_size he
    have hil : it < s.heap.objs.size := by obtain ⟨_, q, _⟩ := hit; exact Heap.lt_size q
    have hlt : i < its.toArray.size := by simpa using (List.getElem?_eq_some_iff.mp hu).1
    refine wpAny_pyNext_enum_itemD (Draws.tuple (prog := X.prog) (w := X.w) (A := X.A.in1) (I.ok.hd hc) it a hai its.toArray) he ⟨hit, show s.heap.IsTuple a its.toArray from p⟩ hlt hne (by simp [hne, hae]) fun y h' tk hy ho hit' hT hsz hk => ?_
    obtain ⟨hit', _⟩ := hit'
    have ey : y = u := by
      have q : its.toArray[i]? = some y := hy
      rw [List.getElem?_toArray, hu] at q
      exact (Option.some.inj q).symm
    subst ey
    refine ⟨_, rfl, wpAny_letOwnedTupleGo_enum (s := { s with heap := h', toks := tk + 1 }) ho fun h'' he' sb => ?_⟩
    have hT2 : h''.get? s.heap.objs.size = some { cls := .type "tuple", data := .seq #[.int i tk, y] } := (sb.2 _ (Nat.ne_of_gt hel)).trans hT
    have new : ObjOk X.prog X.w (upd H s.heap.objs.size (.tup [.int (i : Nat), x])) h'' s.heap.objs.size (.tup [.int (i : Nat), x]) :=
      ⟨by show 2 ≤ sizeLine; decide, [.int i tk, y], .cons ⟨_, rfl⟩ (.cons ru .nil), ⟨_, hT2, rfl, _, rfl⟩⟩
    have I1 : Inv X pins σ (upd H s.heap.objs.size (.tup [.int (i : Nat), x])) { s with heap := h'', toks := tk + 1 } :=
      I.turnedNew (ch := [e, it]) (fun b ob hb q => (sb.2 b (fun z => hb (by simp [z]))).trans (hk b ob (fun z => hb (by simp [z])) (fun z => hb (by simp [z])) q)) hf (Nat.le_refl _) new
    refine ⟨.ref s.heap.objs.size, _, I1, rfl, ⟨_, x, rfl, I.hok.fresh (Nat.le_refl _), rfl, fun ys hy => by rw [I.tuple_inj hy hq]; exact hx⟩, ⟨⟨y, ?_⟩, hit'.at fun o q => (sb.2 it (Ne.symm hne)).trans q, hne⟩, fun b hb => ?_⟩
    · have e1 : ((i + 1 : Nat) : Int) = (i : Int) + 1 := by omega
      rw [e1]; exact he'
    · have hb' : b < s.heap.objs.size := by
        have e' : b = e ∨ b = it := by simpa using hb
        rcases e' with z | z
        · rw [z]; exact hel
        · rw [z]; exact hil
      rw [upd_ne (Nat.ne_of_lt hb')]
      exact (hf b hb).1
  done := by
    intro X hP hw hK hc i pins s σ H E I hf st hg
    subst hP hw hK
    obtain ⟨⟨old, he⟩, hit, hne⟩ := st
    obtain ⟨xs, hq, hx⟩ := hg
    obtain ⟨its, rv, p, hz⟩ := I.tuple hq
    obtain ⟨f0, f1, f2, f3, f4, f5⟩ := hf it (by simp)
    have hl := rv.length
    have hi : i = its.toArray.size := by simp; omega
    subst hi
    exact wpAny_pyNext_enum_endD (Draws.tuple (prog := X.prog) (w := X.w) (A := X.A.in1) (I.ok.hd hc) it a hai its.toArray) he ⟨hit, show s.heap.IsTuple a its.toArray from p⟩ fun h' eb => ⟨rfl, I.turned (t' := s.toks) (fun b o hb q => eb b o hb q) f0 f1 f3 f4 f5⟩
  self := fun A i s Q E st h => let ⟨⟨_, he⟩, _⟩ := st; wpAny_pyIter_enum he h
/-- enumerate(x), x a list or a tuple -/
def iEnumA (K : PySem.W.Frag) (ta : TA) : TI := fun σ H R => ta σ H fun vs H1 => ∃ a xs, vs = [.ref a] ∧ ((SqL K H1 a xs ∧ R (Ite K a) H1) ∨ (SqT K H1 a xs ∧ R (IteT K a) H1))
theorem pi_enumA {X : Cx} {e : Expr} {ta : TA} {p pos tpos : Pos} {elts : List Expr} {kk : Nat} (hg : Gl X "enumerate") (hm : X.mg "enumerate" = none) (ha : PA X [e] ta) (hs : starEach [e] X.env = [(false, eval e X.env)] := by rfl) :
    PI X (.Tuple elts kk tpos) (.Call (.Name "enumerate" p) [e] [] pos) (iEnumA X.K ta) := by
  refine ⟨fun pins s σ H R I h => ?_⟩
  refine Call_ (ld_blt I hg hm boot_enumerate (PyProof.Rows.callWith_type1 (thn (ha.run pos pins s σ H _ I h) fun us s1 ⟨vs, H1, I1, r1, q1⟩ => ?_) hs rfl))
  obtain ⟨a, xs, ex, q⟩ := q1
  subst ex
  cases r1 with
  | cons r rr =>
    cases rr
    cases r
    rcases q with ⟨hq, q⟩ | ⟨hq, q⟩
    · obtain ⟨its, rv, p', hz⟩ := I1.list hq
      refine call_enumerate_list p'.isList fun h' he hit hsz hk => wpAny_pyIter_enum he ?_
      have I2 : Inv X pins σ H1 { s1 with heap := h' } := I1.kept (t' := s1.toks) hk
      refine ⟨s1.heap.objs.size + 1, [s1.heap.objs.size + 1, s1.heap.objs.size], _, _, H1, rfl, I2, turn_enum a (s1.heap.objs.size + 1) s1.heap.objs.size, ⟨⟨.none, he⟩, hit, Nat.succ_ne_self _⟩, fun b hb => ?_, q⟩
      have e' : b = s1.heap.objs.size + 1 ∨ b = s1.heap.objs.size := by simpa using hb
      have hle : s1.heap.objs.size ≤ b := by
        rcases e' with z | z
        · rw [z]; exact Nat.le_add_right _ _
        · rw [z]; exact Nat.le_refl _
      exact I1.fpOk hle (I1.hok.fresh hle)
    · obtain ⟨its, rv, p', hz⟩ := I1.tuple hq
      have hal : a < s1.heap.objs.size := p'.lt
      refine dl_call_enumerate_tuple (show s1.heap.IsTuple a its.toArray from p') fun h' he hit hsz hk => wpAny_pyIter_enum he ?_
      have I2 : Inv X pins σ H1 { s1 with heap := h' } := I1.kept (t' := s1.toks) hk
      refine ⟨s1.heap.objs.size + 1, [s1.heap.objs.size + 1, s1.heap.objs.size], _, _, H1, rfl, I2, turn_enumT a (s1.heap.objs.size + 1) s1.heap.objs.size (Nat.ne_of_lt hal) (Nat.ne_of_gt (Nat.lt_succ_of_lt hal)), ⟨⟨.none, he⟩, hit, Nat.succ_ne_self _⟩, fun b hb => ?_, q⟩
      have e' : b = s1.heap.objs.size + 1 ∨ b = s1.heap.objs.size := by simpa using hb
      have hle : s1.heap.objs.size ≤ b := by
        rcases e' with z | z
        · rw [z]; exact Nat.le_add_right _ _
        · rw [z]; exact Nat.le_refl _
      exact I1.fpOk hle (I1.hok.fresh hle)
/-- a list or a tuple, walked -/
def iSeq (K : PySem.W.Frag) (tl : TE) : TI := fun σ H R => tl σ H fun x H1 => ∃ a, x = .ref a ∧ (((∃ xs, SqL K H1 a xs) ∧ R (Itl K a) H1) ∨ ((∃ xs, SqT K H1 a xs) ∧ R (Itt K a) H1))
theorem pi_seq {X : Cx} {tg l : Expr} {tl : TE} (hl : PE X l tl) : PI X tg l (iSeq X.K tl) := by
  refine ⟨fun pins s σ H R I h => ?_⟩
  refine thn (hl.run pins s σ H _ I h) fun v s1 ⟨x, H1, I1, r1, q1⟩ => ?_
  obtain ⟨a, e, q⟩ := q1
  subst e
  cases r1
  rcases q with ⟨⟨xs, hq⟩, q⟩ | ⟨⟨xs, hq⟩, q⟩
  · obtain ⟨its, rv, p, hz⟩ := I1.list hq
    refine wpAny_pyIter_list p.isList ?_
    refine ⟨s1.heap.objs.size, [s1.heap.objs.size], _, _, H1, rfl, I1.kept (t' := s1.toks) fun b o e => Heap.get?_push_of_some _ e, turn_list a _, ⟨_, Heap.get?_push_size _ rfl, rfl, rfl⟩, fun b hb => ?_, q⟩
    have e : b = s1.heap.objs.size := by simpa using hb
    subst e
    exact I1.fpOk (Nat.le_refl _) (I1.hok.fresh (Nat.le_refl _))
  · obtain ⟨its, rv, p, hz⟩ := I1.tuple hq
    refine wpAny_pyIter_tuple (show s1.heap.IsTuple a its.toArray from p) ?_
    refine ⟨s1.heap.objs.size, [s1.heap.objs.size], _, _, H1, rfl, I1.kept (t' := s1.toks) fun b o e => Heap.get?_push_of_some _ e, turn_tuple a _, ⟨_, Heap.get?_push_size _ rfl, rfl, rfl⟩, fun b hb => ?_, q⟩
    have e : b = s1.heap.objs.size := by simpa using hb
    subst e
    exact I1.fpOk (Nat.le_refl _) (I1.hok.fresh (Nat.le_refl _))
end DL
end
section
set_option Elab.async false
set_option linter.all false
set_option maxRecDepth 100000
/-! D layer, 16: targets, what is walked, for, while, several targets. -/
namespace DL
open PySem PySem.Spec PyProof.Rows L2

/-! ### targets -/
def cG (X : Cx) (tg : Expr) : TG := fun v σ H Q => ∀ pins s u, Inv X pins σ H s → RelV v u → wpAny (model X.prog X.w) X.A (assign tg X.env u) (fun _ s' => ∃ σ' H', Inv X pins σ' H' s' ∧ Q σ' H') X.xe s
theorem pg_can {X : Cx} {tg : Expr} : PG X tg (cG X tg) := ⟨fun pins s _ _ _ u _ I r h => h pins s u I r⟩
theorem cG_of {X : Cx} {tg : Expr} {t : TG} (h : PG X tg t) {v : V} {σ : L2.St} {H : Hp} {Q : L2.St → Hp → Prop} (q : t v σ H Q) : cG X tg v σ H Q := fun pins s u I r => h.run pins s σ H v u Q I r q
def cGs (X : Cx) (ts : List Expr) : TGs := fun vs σ H Q => ∀ pins s us, Inv X pins σ H s → Vals vs us → wpAny (model X.prog X.w) X.A (assignInOrder ((assignEach ts X.env).map (·.2)) us) (fun _ s' => ∃ σ' H', Inv X pins σ' H' s' ∧ Q σ' H') X.xe s
theorem pgs_can {X : Cx} {ts : List Expr} : PGs X ts (cGs X ts) := ⟨fun pins s _ _ _ us _ I r h => h pins s us I r⟩
theorem cGs_of {X : Cx} {ts : List Expr} {t : TGs} (h : PGs X ts t) {vs : List V} {σ : L2.St} {H : Hp} {Q : L2.St → Hp → Prop} (q : t vs σ H Q) : cGs X ts vs σ H Q := fun pins s us I r => h.run pins s σ H vs us Q I r q
/-- all slots but these stay -/
def SlotsBut (σ σ' : L2.St) (is : List Nat) : Prop := σ'.length = σ.length ∧ ∀ j, j ∉ is → σ'[j]? = σ[j]?
theorem SlotsBut.trans {σ σ1 σ2 : L2.St} {is js : List Nat} (a : SlotsBut σ σ1 is) (b : SlotsBut σ1 σ2 js) : SlotsBut σ σ2 (is ++ js) :=
  ⟨b.1.trans a.1, fun j hj => (b.2 j fun z => hj (List.mem_append_right _ z)).trans (a.2 j fun z => hj (List.mem_append_left _ z))⟩
theorem SlotsBut.wipe {σ σ' : L2.St} {is : List Nat} (a : SlotsBut (L2.wipe σ is) σ' is) : L2.wipe σ' is = L2.wipe σ is := by
  refine List.ext_getElem? fun j => ?_
  by_cases hj : j ∈ is
  · have gone : ∀ (τ : L2.St) (is : List Nat), j ∈ is → (L2.wipe τ is)[j]? = if j < τ.length then some none else none := fun τ is => by
      induction is with
      | nil => intro h; simp at h
      | cons v vs ih =>
        intro h
        unfold L2.wipe
        by_cases hv : v = j
        · subst hv
          by_cases hl : v < τ.length
          · rw [if_pos hl, List.getElem?_set_self (by rw [wipe_length]; exact hl)]
          · rw [if_neg hl, List.getElem?_eq_none (by rw [List.length_set, wipe_length]; omega)]
        · rw [List.getElem?_set_ne hv]
          exact ih ((List.mem_cons.mp h).resolve_left (Ne.symm hv))
    rw [gone _ _ hj, gone _ _ hj, a.1, wipe_length]
  · have out : ∀ (τ : L2.St) (is : List Nat), j ∉ is → (L2.wipe τ is)[j]? = τ[j]? := fun τ is => by
      induction is with
      | nil => intro _; rfl
      | cons v vs ih =>
        intro h
        unfold L2.wipe
        rw [List.getElem?_set_ne fun e => h (by rw [e]; simp)]
        exact ih fun z => h (List.mem_cons_of_mem _ z)
    rw [out _ _ hj, a.2 j hj]
/-- a shared value comes to the target -/
def STg (C : Dc) (X : Cx) (tg : Expr) (t : Tg) : Prop := ∀ (σ : L2.St) (H : Hp) (Sh : Addr → Prop) (F : List (List Addr)) (e e2 : Envv) (d : D) (v : V), Rel C.io X.K X.mg σ H Sh F e → Tmp X.K X.mg H Sh F .shr d v → setTg C.ios e t d = some e2 →
  cG X tg v σ H fun σ' H' => H' = H ∧ SlotsBut σ σ' t.slots ∧ ∃ F2, Rel C.io X.K X.mg σ' H Sh F2 e2 ∧ Stp t.slots H Sh F e H Sh F2 e2
def STgs (C : Dc) (X : Cx) (ts : List Expr) (is : List Nat) : Prop := ∀ (σ : L2.St) (H : Hp) (Sh : Addr → Prop) (F : List (List Addr)) (e e2 : Envv) (ds : List D) (vs : List V) (fp : List Addr), Rel C.io X.K X.mg σ H Sh F e → RpL X.K X.mg H ds vs fp → (∀ a ∈ fp, Sh a) → setTp C.ios e is ds = some e2 →
  vs.length = ts.length ∧ cGs X ts vs σ H fun σ' H' => H' = H ∧ SlotsBut σ σ' is ∧ ∃ F2, Rel C.io X.K X.mg σ' H Sh F2 e2 ∧ Stp is H Sh F e H Sh F2 e2
section
variable {C : Dc} {X : Cx} {W : WX} {Ed : Ends} {σ : L2.St} {H H1 : Hp} {Sh Sh1 : Addr → Prop} {F F1 : List (List Addr)} {e e1 : Envv} {ms m1 m2 : List Nat} {a : Expr} {i : Ex} {pos pos' : Pos} {n : Nat} {x : Str}
theorem Rel.bind1 {io : Io} {K : PySem.W.Frag} {mg : Str → Option Value} {d : D} {v : V} {fp : List Addr} (R : Rel io K mg σ H Sh F e) (hn : n < σ.length) (hc : (io.l.map (·.1)).contains n ≠ true) (r : Rp K mg H d v fp) (hs : ∀ a ∈ fp, Sh a) :
    Rel io K mg (σ.set n (some v)) H Sh (F.set n []) (e.set n (.sh d)) ∧ Stp [n] H Sh F e H Sh (F.set n []) (e.set n (.sh d)) := by
  have hio : ∀ q ∈ io.l, q.1 ≠ n := fun q hq z => hc (by rw [List.contains_iff_mem]; exact List.mem_map.mpr ⟨q, hq, z⟩)
  obtain ⟨R2, S2⟩ := R.store0 (v := v) (s := .sh d) (fp := []) (sh := []) (Stp.refl (ms := []) (H := H) (Sh := Sh) (F := F) (e := e)) hn hio (by simp) (by simp) (by simp) (by simp) ⟨fp, r, fun a ha => .inl (hs a ha)⟩
  have eq : (fun a => Sh a ∨ a ∈ ([] : List Addr)) = Sh := by funext a; simp
  rw [eq] at R2 S2
  exact ⟨R2, S2⟩
theorem stg_nm (hN : X.N.Nodup) (hn : X.N[n]? = some x) (hx : Loc X.env.scope x) (hf : X.fn x = true ∨ X.env.scope.names.lookup x = some .local := by first | exact .inl rfl | exact .inr rfl | assumption) : STg C X (.Name x pos) (.nm n) := by
  intro σ H Sh F e e2 d v R T hs pins s u I r
  have hnσ : n < σ.length := by rw [I.len]; exact (List.getElem?_eq_some_iff.mp hn).1
  refine cG_of (pg_name hN hn hx hf) ?_ pins s u I r
  have hs' : (if C.ios.contains n then none else some (e.set n (.sh d))) = some e2 := hs
  by_cases hc : C.ios.contains n = true
  · rw [if_pos hc] at hs'; cases hs'
  rw [if_neg hc] at hs'
  cases hs'
  obtain ⟨fp, rp, hfp⟩ := T
  obtain ⟨R2, S2⟩ := R.bind1 hnσ hc rp hfp
  exact ⟨rfl, ⟨List.length_set, fun j hj => List.getElem?_set_ne fun z => hj (by rw [← z]; exact List.mem_singleton.mpr rfl)⟩, _, R2, S2⟩
theorem stgs_nil : STgs C X [] [] := by
  intro σ H Sh F e e2 ds vs fp R rp hfp hs
  cases ds with
  | nil =>
    obtain ⟨rfl, rfl⟩ := rp
    cases hs
    exact ⟨rfl, cGs_of pgs_nil ⟨rfl, rfl, ⟨rfl, fun _ _ => rfl⟩, F, R, Stp.refl⟩⟩
  | cons d ds => cases hs
theorem stgs_cons {tg : Expr} {ts : List Expr} {is : List Nat} (h1 : STg C X tg (.nm n)) (h2 : STgs C X ts is) (hs0 : (assignEach (tg :: ts) X.env).map (·.2) = assign tg X.env :: (assignEach ts X.env).map (·.2) := by rfl) : STgs C X (tg :: ts) (n :: is) := by
  intro σ H Sh F e e2 ds vs fp R rp hfp hs
  cases ds with
  | nil => cases hs
  | cons d ds =>
    obtain ⟨v, vr, f1, f2, rfl, rfl, r1, r2⟩ := rp
    have hs' : (if C.ios.contains n then none else setTp C.ios (e.set n (.sh d)) is ds) = some e2 := hs
    by_cases hc : C.ios.contains n = true
    · rw [if_pos hc] at hs'; cases hs'
    rw [if_neg hc] at hs'
    have hfirst : setTg C.ios e (.nm n) d = some (e.set n (.sh d)) := by
      show (if C.ios.contains n then none else some (e.set n (.sh d))) = _
      rw [if_neg hc]
    have g1 := h1 σ H Sh F e _ d v R ⟨f1, r1, fun a ha => hfp a (List.mem_append_left _ ha)⟩ hfirst
    have len2 : vr.length = ts.length := by
      by_cases hnσ : n < σ.length
      · obtain ⟨R2, S2⟩ := R.bind1 hnσ hc r1 (fun a ha => hfp a (List.mem_append_left _ ha))
        exact (h2 _ H Sh _ _ e2 ds vr f2 R2 r2 (fun a ha => hfp a (List.mem_append_right _ ha)) hs').1
      · have R2 : Rel C.io X.K X.mg σ H Sh F (e.set n (.sh d)) := by
          have : e.set n (.sh d) = e := List.set_eq_of_length_le (by rw [R.le]; omega)
          rw [this]; exact R
        exact (h2 _ H Sh _ _ e2 ds vr f2 R2 r2 (fun a ha => hfp a (List.mem_append_right _ ha)) hs').1
    refine ⟨by rw [List.length_cons, List.length_cons, len2], cGs_of (pgs_cons pg_can pgs_can hs0) ⟨v, vr, rfl, ?_⟩⟩
    intro pins s u I r
    refine thn (g1 pins s u I r) fun _ s1 ⟨σ1, H1, I1, q⟩ => ⟨σ1, H1, I1, ?_⟩
    obtain ⟨rfl, sb1, F1, R1, S1⟩ := q
    have g2 := (h2 σ1 _ Sh F1 _ e2 ds vr f2 R1 r2 (fun a ha => hfp a (List.mem_append_right _ ha)) hs').2
    intro pins2 s2 us I2 rs
    refine thn (g2 pins2 s2 us I2 rs) fun _ s3 ⟨σ3, H3, I3, q3⟩ => ⟨σ3, H3, I3, ?_⟩
    obtain ⟨rfl, sb3, F3, R3, S3⟩ := q3
    exact ⟨rfl, sb1.trans sb3, F3, R3, S1.trans S3⟩
theorem stg_tp {es : List Expr} {k : Nat} {is : List Nat} (hc : X.calm = true) (h : STgs C X es is) (hn : (assignEach es X.env).length = es.length := by rfl) (hst : (assignEach es X.env).findIdx? (·.1) = none := by rfl) : STg C X (.Tuple es k pos) (.tp is) := by
  intro σ H Sh F e e2 d v R T hs
  cases d with
  | tup ds =>
    obtain ⟨fp, ⟨a, vs, rfl, sq, rp⟩, hfp⟩ := T
    obtain ⟨hl, g⟩ := h σ H Sh F e e2 ds vs fp R rp hfp hs
    exact cG_of (pg_tup hc pgs_can (by rw [hn]) hst) ⟨a, vs, rfl, sq, hl, g⟩
  | _ => cases hs
end

/-! ### what is walked -/
abbrev Dc.evI (C : Dc) (i : It) (e : Envv) : IRes := evalI C.ios C.cb i e
def cI (X : Cx) (tg iter : Expr) : TI := fun σ H R => ∀ pins s, Inv X pins σ H s → wpAny (model X.prog X.w) X.A (eval iter X.env) (fun v s1 => wpAny (model X.prog X.w) X.A (pyIter v) (PIE X pins σ tg R) X.xe s1) X.xe s
theorem pi_can {X : Cx} {tg iter : Expr} : PI X tg iter (cI X tg iter) := ⟨fun pins s _ _ _ I h => h pins s I⟩
theorem cI_of {X : Cx} {tg iter : Expr} {t : TI} (h : PI X tg iter t) {σ : L2.St} {H : Hp} {R : L2.It → Hp → Prop} (q : t σ H R) : cI X tg iter σ H R := fun pins s I => h.run pins s σ H R I q
/-- J yields what tells ds, while inv stands -/
structure Jw (K : PySem.W.Frag) (mg : Str → Option Value) (ps : List Pv) (J : L2.It) (ds : List D) (inv : Hp → (Addr → Prop) → List (List Addr) → Prop) : Prop where
  step : ∀ {H Sh F e H' Sh' F' e' ms}, inv H Sh F → (∀ a ∈ F.flatten, Mt (H a) ∧ ¬ Sh a) → (∀ a, Sh a → Live (H a)) → Stp ms H Sh F e H' Sh' F' e' → ps.all (·.waits ms) = true → inv H' Sh' F'
  go : ∀ {H Sh F j}, inv H Sh F → j < ds.length → J.go j H
  yld : ∀ {H Sh F j x H' d}, inv H Sh F → (∀ a, Sh a → Live (H a)) → J.yld j H x H' → ds[j]? = some d → (∀ a, H a ≠ none → H' a = H a) ∧ Tmp K mg H' Sh F .shr d x
  stop : ∀ {H Sh F}, inv H Sh F → J.stop ds.length H
def SI (C : Dc) (X : Cx) (tg iter : Expr) (i : It) : Prop := ∀ (σ : L2.St) (H : Hp) (Sh : Addr → Prop) (F : List (List Addr)) (e : Envv) (W : WX), Takes X W → Rel C.io X.K X.mg σ H Sh F e →
  (∀ x e', C.evI i e = .exc x e' → XH C X W σ i.mods H Sh F e x e') → C.evI i e ≠ .bad →
  cI X tg iter σ H fun J H1 => ∃ ds ps e1 Sh1 F1 inv, C.evI i e = .ok ds ps e1 ∧ Rel C.io X.K X.mg σ H1 Sh1 F1 e1 ∧ Stp i.mods H Sh F e H1 Sh1 F1 e1 ∧ Jw X.K X.mg ps J ds inv ∧ inv H1 Sh1 F1
section
variable {K : PySem.W.Frag} {mg : Str → Option Value} {H H' : Hp} {Sh Sh' : Addr → Prop} {F F' : List (List Addr)} {e e' : Envv} {ms : List Nat} {d : D} {v : V} {p : Pv}
/-- what a sequence bears -/
theorem Rp.items {ds : List D} {fp : List Addr} (r : Rp K mg H d v fp) (h : itemsOf d = some ds) : ∃ a vs fq, v = .ref a ∧ RpL K mg H ds vs fq ∧ (∀ b ∈ fq, b ∈ fp) ∧ ((d.isTup = true ∧ SqT K H a vs) ∨ (d.isTup = false ∧ SqL K H a vs)) := by
  cases d with
  | lst xs =>
    cases h
    obtain ⟨a, vs, fq, rfl, q, rfl, r⟩ := r
    exact ⟨a, vs, fq, rfl, r, fun b hb => List.mem_cons_of_mem _ hb, .inr ⟨rfl, SqL.of q⟩⟩
  | tup xs =>
    cases h
    obtain ⟨a, vs, rfl, q, r⟩ := r
    exact ⟨a, vs, fp, rfl, r, fun _ h => h, .inl ⟨rfl, q⟩⟩
  | scr ns =>
    cases h
    obtain ⟨a, rfl, q, rfl⟩ := r
    exact ⟨a, _, [], rfl, ints_rpl ns, by simp, .inr ⟨rfl, q.sq⟩⟩
  | _ => cases h
def Pv.walk (p : Pv) : Pv := match p with | .own => .shr | p => p
/-- a sequence that waits: its items, shared (or without footprint) -/
theorem Tmp.items {ds : List D} (t : Tmp K mg H Sh F p.walk d v) (h : plainIts d p = some ds) : ∃ a vs fq, v = .ref a ∧ RpL K mg H ds vs fq ∧ (∀ b ∈ fq, Sh b) ∧ ((d.isTup = true ∧ SqT K H a vs) ∨ (d.isTup = false ∧ SqL K H a vs)) := by
  cases p with
  | own =>
    obtain ⟨fp, r, hf⟩ := t
    obtain ⟨a, vs, fq, e1, r1, h1, h2⟩ := r.items h
    exact ⟨a, vs, fq, e1, r1, fun b hb => hf b (h1 b hb), h2⟩
  | shr =>
    obtain ⟨fp, r, hf⟩ := t
    obtain ⟨a, vs, fq, e1, r1, h1, h2⟩ := r.items h
    exact ⟨a, vs, fq, e1, r1, fun b hb => hf b (h1 b hb), h2⟩
  | bor n =>
    obtain ⟨fp, r, hf⟩ := t
    have h' : (itemsOf d).bind (fun ds => if D.immL ds then some ds else none) = some ds := h
    cases hi : itemsOf d with
    | none => rw [hi] at h'; cases h'
    | some xs =>
      rw [hi] at h'
      have h'' : (if D.immL xs then some xs else none) = some ds := h'
      by_cases him : D.immL xs = true
      · rw [if_pos him] at h''
        cases h''
        obtain ⟨a, vs, fq, e1, r1, h1, h2⟩ := r.items hi
        have z := RpL.imm ds him r1
        subst z
        exact ⟨a, vs, [], e1, r1, by simp, h2⟩
      · rw [if_neg him] at h''; cases h''
theorem walk_waits (h : p.waits ms = true) : p.walk.waits ms = true := by cases p <;> first | rfl | exact h
/-- an own value is shared -/
theorem Rel.share {io : Io} {σ : L2.St} {H0 : Hp} {Sh0 : Addr → Prop} {F0 : List (List Addr)} {e0 : Envv} (R : Rel io K mg σ H Sh F e) (S : Stp ms H0 Sh0 F0 e0 H Sh F e) (T : TmpO H0 F0 K mg H Sh F p d v) :
    ∃ Sh1, Rel io K mg σ H Sh1 F e ∧ Stp ms H0 Sh0 F0 e0 H Sh1 F e ∧ Tmp K mg H Sh1 F p.walk d v ∧ (∀ a, Sh a → Sh1 a) := by
  cases p with
  | own =>
    obtain ⟨fp, r, nd, hf⟩ := T
    refine ⟨fun a => Sh a ∨ a ∈ fp, ⟨R.le, R.lF, R.ow, fun i d hd => let ⟨v, fq, h1, h2, h3⟩ := R.sh i d hd; ⟨v, fq, h1, h2, fun a ha => .inl (h3 a ha)⟩, R.nd, fun a ha => ⟨(R.mu a ha).1, fun z => z.elim (R.mu a ha).2 fun y => (hf a y).1.2.2 ha⟩,
      fun a ha => ha.elim (R.sa a) fun y => (hf a y).1.1.live, R.io, R.tb⟩, ⟨S.kp, S.al, S.fs, fun a ha => .inl (S.ss a ha), fun a ha => ha.elim (S.sn a) fun y => .inr (hf a y).2, S.fr⟩, ⟨fp, r, fun a ha => .inr ha⟩, fun a ha => .inl ha⟩
  | shr => exact ⟨Sh, R, S, T, fun _ h => h⟩
  | bor n => exact ⟨Sh, R, S, T, fun _ h => h⟩
theorem jw_get {ds : List D} {vs : List V} {fq : List Addr} {j : Nat} (r : RpL K mg H ds vs fq) (h : j < ds.length) : ∃ x, vs[j]? = some x := ⟨vs[j]'(by rw [r.length]; exact h), List.getElem?_eq_getElem _⟩
theorem jw_list {ds : List D} {a : Addr} (h : plainIts d p = some ds) (ht : d.isTup = false) : Jw K mg [p] (Itl K a) ds (fun H Sh F => Tmp K mg H Sh F p.walk d (.ref a)) where
  step := fun t m sa S w => t.step m sa S (walk_waits (by simpa using w))
  go := fun t hj => by
    obtain ⟨b, vs, fq, e1, r1, _, h2⟩ := t.items h
    cases e1
    rcases h2 with ⟨z, _⟩ | ⟨_, q⟩
    · rw [ht] at z; cases z
    · obtain ⟨x, hx⟩ := jw_get r1 hj
      exact ⟨vs, x, q, hx⟩
  yld := fun t sa y hd => by
    obtain ⟨b, vs, fq, e1, r1, h1, h2⟩ := t.items h
    cases e1
    rcases h2 with ⟨z, _⟩ | ⟨_, q⟩
    · rw [ht] at z; cases z
    · obtain ⟨rfl, y⟩ := y
      obtain ⟨u, f1, e2, r2, s2⟩ := r1.get hd
      have := y vs q
      rw [e2] at this
      cases this
      exact ⟨fun _ _ => rfl, f1, r2, fun b hb => h1 b (s2 b hb)⟩
  stop := fun t => by
    obtain ⟨b, vs, fq, e1, r1, _, h2⟩ := t.items h
    cases e1
    rcases h2 with ⟨z, _⟩ | ⟨_, q⟩
    · rw [ht] at z; cases z
    · exact ⟨vs, q, Nat.le_of_eq r1.length⟩
theorem jw_tup {ds : List D} {a : Addr} (h : plainIts d p = some ds) (ht : d.isTup = true) : Jw K mg [p] (Itt K a) ds (fun H Sh F => Tmp K mg H Sh F p.walk d (.ref a)) where
  step := fun t m sa S w => t.step m sa S (walk_waits (by simpa using w))
  go := fun t hj => by
    obtain ⟨b, vs, fq, e1, r1, _, h2⟩ := t.items h
    cases e1
    rcases h2 with ⟨_, q⟩ | ⟨z, _⟩
    · obtain ⟨x, hx⟩ := jw_get r1 hj
      exact ⟨vs, x, q, hx⟩
    · rw [ht] at z; cases z
  yld := fun t sa y hd => by
    obtain ⟨b, vs, fq, e1, r1, h1, h2⟩ := t.items h
    cases e1
    rcases h2 with ⟨_, q⟩ | ⟨z, _⟩
    · obtain ⟨rfl, y⟩ := y
      obtain ⟨u, f1, e2, r2, s2⟩ := r1.get hd
      have := y vs q
      rw [e2] at this
      cases this
      exact ⟨fun _ _ => rfl, f1, r2, fun b hb => h1 b (s2 b hb)⟩
    · rw [ht] at z; cases z
  stop := fun t => by
    obtain ⟨b, vs, fq, e1, r1, _, h2⟩ := t.items h
    cases e1
    rcases h2 with ⟨_, q⟩ | ⟨z, _⟩
    · exact ⟨vs, q, Nat.le_of_eq r1.length⟩
    · rw [ht] at z; cases z
theorem jw_rng {lo : Int} {n : Nat} : Jw K mg [] (Itr lo n) ((List.range n).map fun k : Nat => .int (lo + k)) (fun _ _ _ => True) where
  step := fun _ _ _ _ _ => True.intro
  go := fun {H Sh F j} _ hj => by
    show j < n
    simpa using hj
  yld := fun {H Sh F j x H' d} _ _ y hd => by
    obtain ⟨rfl, rfl⟩ := y
    refine ⟨fun _ _ => rfl, [], ?_, by simp⟩
    rw [List.getElem?_map] at hd
    have hj : j < n := by
      by_cases hj : j < n
      · exact hj
      · rw [List.getElem?_eq_none (by simpa using hj)] at hd; cases hd
    rw [List.getElem?_eq_getElem (by simpa using hj)] at hd
    simp at hd
    subst hd
    exact ⟨rfl, rfl⟩
  stop := fun _ => by simp [Itr]
/-- a pair just made -/
theorem pair_tmp {T : Addr} {x y : V} {dx dy : D} {f1 f2 : List Addr} (hT : H T = none) (r1 : Rp K mg H dx x f1) (r2 : Rp K mg H dy y f2) (h1 : ∀ a ∈ f1, Sh a) (h2 : ∀ a ∈ f2, Sh a) (sa : ∀ a, Sh a → Live (H a)) :
    (∀ a, H a ≠ none → upd H T (.tup [x, y]) a = H a) ∧ Tmp K mg (upd H T (.tup [x, y])) Sh F .shr (.tup [dx, dy]) (.ref T) := by
  have k : ∀ a, H a ≠ none → upd H T (.tup [x, y]) a = H a := fun a ha => upd_ne fun z => ha (by rw [z]; exact hT)
  have kp : Keep H (upd H T (.tup [x, y])) := .of fun b o q _ => (k b (by rw [q]; exact Option.some_ne_none _)).trans q
  refine ⟨k, f1 ++ f2, ⟨T, [x, y], rfl, SqT.of upd_same, x, [y], f1, f2, rfl, rfl, r1.stay kp _ (fun a ha => k a (sa a (h1 a ha)).1), y, [], f2, [], rfl, by simp, r2.stay kp _ (fun a ha => k a (sa a (h2 a ha)).1), rfl, rfl⟩, fun a ha => (List.mem_append.mp ha).elim (h1 a) (h2 a)⟩
theorem zipIdx_get {ds : List D} {j : Nat} {d' : D} (h : (ds.zipIdx.map fun q => D.tup [.int q.2, q.1])[j]? = some d') : ∃ x, ds[j]? = some x ∧ d' = .tup [.int j, x] := by
  rw [List.getElem?_map, List.getElem?_zipIdx] at h
  cases hx : ds[j]? with
  | none => rw [hx] at h; cases h
  | some x =>
    rw [hx] at h
    simp at h
    exact ⟨x, rfl, h.symm⟩
theorem jw_enum {ds : List D} {a : Addr} (h : plainIts d p = some ds) (ht : d.isTup = false) : Jw K mg [p] (Ite K a) (ds.zipIdx.map fun q => .tup [.int q.2, q.1]) (fun H Sh F => Tmp K mg H Sh F p.walk d (.ref a)) where
  step := fun t m sa S w => t.step m sa S (walk_waits (by simpa using w))
  go := fun t hj => by
    obtain ⟨b, vs, fq, e1, r1, _, h2⟩ := t.items h
    cases e1
    rcases h2 with ⟨z, _⟩ | ⟨_, q⟩
    · rw [ht] at z; cases z
    · obtain ⟨x, hx⟩ := jw_get r1 (by simpa using hj)
      exact ⟨vs, x, q, hx⟩
  yld := fun t sa y hd => by
    obtain ⟨b, vs, fq, e1, r1, h1, h2⟩ := t.items h
    cases e1
    rcases h2 with ⟨z, _⟩ | ⟨_, q⟩
    · rw [ht] at z; cases z
    · obtain ⟨T, x, rfl, hT, rfl, y⟩ := y
      obtain ⟨dx, hdx, rfl⟩ := zipIdx_get hd
      obtain ⟨u, f1, e2, r2, s2⟩ := r1.get hdx
      have := y vs q
      rw [e2] at this
      cases this
      exact pair_tmp hT ⟨rfl, rfl⟩ r2 (by simp) (fun b hb => h1 b (s2 b hb)) sa
  stop := fun t => by
    obtain ⟨b, vs, fq, e1, r1, _, h2⟩ := t.items h
    cases e1
    rcases h2 with ⟨z, _⟩ | ⟨_, q⟩
    · rw [ht] at z; cases z
    · exact ⟨vs, q, by simp [r1.length]⟩
theorem jw_enumT {ds : List D} {a : Addr} (h : plainIts d p = some ds) (ht : d.isTup = true) : Jw K mg [p] (IteT K a) (ds.zipIdx.map fun q => .tup [.int q.2, q.1]) (fun H Sh F => Tmp K mg H Sh F p.walk d (.ref a)) where
  step := fun t m sa S w => t.step m sa S (walk_waits (by simpa using w))
  go := fun t hj => by
    obtain ⟨b, vs, fq, e1, r1, _, h2⟩ := t.items h
    cases e1
    rcases h2 with ⟨_, q⟩ | ⟨z, _⟩
    · obtain ⟨x, hx⟩ := jw_get r1 (by simpa using hj)
      exact ⟨vs, x, q, hx⟩
    · rw [ht] at z; cases z
  yld := fun t sa y hd => by
    obtain ⟨b, vs, fq, e1, r1, h1, h2⟩ := t.items h
    cases e1
    rcases h2 with ⟨_, q⟩ | ⟨z, _⟩
    · obtain ⟨T, x, rfl, hT, rfl, y⟩ := y
      obtain ⟨dx, hdx, rfl⟩ := zipIdx_get hd
      obtain ⟨u, f1, e2, r2, s2⟩ := r1.get hdx
      have := y vs q
      rw [e2] at this
      cases this
      exact pair_tmp hT ⟨rfl, rfl⟩ r2 (by simp) (fun b hb => h1 b (s2 b hb)) sa
    · rw [ht] at z; cases z
  stop := fun t => by
    obtain ⟨b, vs, fq, e1, r1, _, h2⟩ := t.items h
    cases e1
    rcases h2 with ⟨_, q⟩ | ⟨z, _⟩
    · exact ⟨vs, q, by simp [r1.length]⟩
    · rw [ht] at z; cases z
end
section
variable {C : Dc} {X : Cx} {W : WX} {Ed : Ends} {σ : L2.St} {H H1 : Hp} {Sh Sh1 : Addr → Prop} {F F1 : List (List Addr)} {e e1 : Envv} {ms m1 m2 : List Nat} {tg a b : Expr} {i j : Ex} {is : Exs} {pos pos' p tpos : Pos} {n : Nat} {x : Str}
theorem its_ok {r : Res} {g : D → Pv → Option (List D)} {q : IRes} (h : r.its g = q) (hb : q ≠ .bad) : (∃ d p e ds, r = .ok d p e ∧ g d p = some ds ∧ q = .ok ds [p] e) ∨ (∃ x e, r = .exc x e ∧ q = .exc x e) := by
  cases r with
  | ok d p e =>
    have h' : (match g d p with | some ds => IRes.ok ds [p] e | none => .bad) = q := h
    cases hg : g d p with
    | none => rw [hg] at h'; exact absurd h'.symm hb
    | some ds => rw [hg] at h'; exact .inl ⟨d, p, e, ds, rfl, hg, h'.symm⟩
  | exc x e => exact .inr ⟨x, e, rfl, h.symm⟩
  | bad => exact absurd h.symm hb
theorem SE.bindI (h : SE C X a i) (tk : Takes X W) (R : Rel C.io X.K X.mg σ H Sh F e) {g : D → Pv → Option (List D)} {q : IRes} (hr : (C.ev i e).its g = q) (hb : q ≠ .bad) (hm : ∀ j ∈ i.mods, j ∈ ms) (hx : ∀ x e', q = .exc x e' → XH C X W σ ms H Sh F e x e') {Q : VK}
    (k : ∀ d p e1 ds v H1 Sh1 F1, Post C X σ i.mods H Sh F e d p e1 v H1 Sh1 F1 → g d p = some ds → q = .ok ds [p] e1 → Q v H1) : cR X a σ H Q := by
  have nb : C.ev i e ≠ .bad := fun z => hb (by rw [← hr, z] <;> rfl)
  refine cR_mono (h σ H Sh F e W tk R (fun x e' he => ?_) nb) fun v H1 ⟨d, p, e1, Sh1, F1, he, P⟩ => ?_
  · have q' := hx x e' (by rw [← hr, he] <;> rfl)
    exact fun H' Sh' F' c dd R' S' z => q' H' Sh' F' c dd R' (S'.mono hm) z
  · rcases its_ok hr hb with ⟨d', p', e', ds, h1, h2, h3⟩ | ⟨x, e', h1, _⟩
    · rw [he] at h1
      cases h1
      exact k d p e1 ds v H1 Sh1 F1 P h2 h3
    · rw [he] at h1; cases h1
theorem si_on (h : SE C X a i) : SI C X tg a (.on i) := by
  intro σ H Sh F e W tk R hx hb
  refine cI_of (pi_seq pe_can) ?_
  refine h.bindI (q := C.evI (.on i) e) tk R (g := plainIts) (by rfl) hb (fun _ h => h) hx fun d p e1 ds v H1 Sh1 F1 P hg hq => ?_
  obtain ⟨Sh2, R2, S2, T2, _⟩ := P.rel.share P.stp P.tmp
  obtain ⟨a, vs, fq, rfl, r1, h1, h2⟩ := T2.items hg
  rcases h2 with ⟨ht, q⟩ | ⟨ht, q⟩
  · exact ⟨a, rfl, .inr ⟨⟨vs, q⟩, ds, [p], e1, Sh2, F1, _, hq, R2, S2, jw_tup hg ht, T2⟩⟩
  · exact ⟨a, rfl, .inl ⟨⟨vs, q⟩, ds, [p], e1, Sh2, F1, _, hq, R2, S2, jw_list hg ht, T2⟩⟩
theorem si_enum {elts : List Expr} {kk : Nat} (hg : Gl X "enumerate") (hm : X.mg "enumerate" = none) (h : SE C X a i) (hs : starEach [a] X.env = [(false, eval a X.env)] := by rfl) : SI C X (.Tuple elts kk tpos) (.Call (.Name "enumerate" p) [a] [] pos) (.enu i) := by
  intro σ H Sh F e W tk R hx hb
  refine cI_of (pi_enumA hg hm (pa_cons pe_can pa_nil (by exact hs)) hs) ?_
  refine h.bindI (q := C.evI (.enu i) e) tk R (g := fun d p => (plainIts d p).map fun ds => ds.zipIdx.map fun q => .tup [.int q.2, q.1]) (by rfl) hb (fun _ h => h) hx fun d p e1 ds v H1 Sh1 F1 P hg hq => ?_
  cases hp : plainIts d p with
  | none => rw [hp] at hg; cases hg
  | some xs =>
    rw [hp] at hg
    have hg' : (xs.zipIdx.map fun q => D.tup [.int q.2, q.1]) = ds := Option.some.inj hg
    obtain ⟨Sh2, R2, S2, T2, _⟩ := P.rel.share P.stp P.tmp
    obtain ⟨a, vs, fq, rfl, r1, h1, h2⟩ := T2.items hp
    rcases h2 with ⟨ht, q⟩ | ⟨ht, q⟩
    · exact ⟨a, vs, rfl, .inr ⟨q, ds, [p], e1, Sh2, F1, _, hq, R2, S2, by rw [← hg']; exact jw_enumT hp ht, T2⟩⟩
    · exact ⟨a, vs, rfl, .inl ⟨q, ds, [p], e1, Sh2, F1, _, hq, R2, S2, by rw [← hg']; exact jw_enum hp ht, T2⟩⟩
theorem ev_rng : C.evI (.rng is) e = (match C.evs is e with
    | .ok ds _ e1 => (match rngI ds with
      | some xs => .ok xs [] e1
      | none => .bad)
    | .exc x e1 => .exc x e1
    | .bad => .bad) := rfl
theorem SEs.bindI {es : List Expr} (h : SEs C X es is) (tk : Takes X W) (R : Rel C.io X.K X.mg σ H Sh F e) (hb : C.evI (.rng is) e ≠ .bad) (hx : ∀ x e', C.evI (.rng is) e = .exc x e' → XH C X W σ is.mods H Sh F e x e') {Q : List V → Hp → Prop}
    (k : ∀ ds e1 vs H1 Sh1 F1 xs fq, ds.length = is.len → RpL X.K X.mg H1 ds vs fq → Rel C.io X.K X.mg σ H1 Sh1 F1 e1 → Stp is.mods H Sh F e H1 Sh1 F1 e1 → rngI ds = some xs → C.evI (.rng is) e = .ok xs [] e1 → Q vs H1) : cA X es σ H Q := by
  have ev := ev_rng (C := C) (is := is) (e := e)
  have nb : C.evs is e ≠ .bad := fun z => hb (by rw [ev, z])
  refine cA_mono (h σ H Sh F e W tk R (fun x e' he => ?_) nb) fun vs H1 ⟨ds, ps, e1, Sh1, F1, he, hl, P⟩ => ?_
  · exact hx x e' (by rw [ev, he])
  · rw [he] at ev
    dsimp only at ev
    obtain ⟨fp, t, _⟩ := P.tmp
    obtain ⟨fq, r⟩ := t.rp
    cases hr : rngI ds with
    | none => rw [hr] at ev; exact absurd ev hb
    | some xs =>
      rw [hr] at ev
      exact k ds e1 vs H1 Sh1 F1 xs fq hl r P.rel P.stp hr ev
theorem rng62_ok {i : Int} (h : rng62 i = true) : -(2 ^ 62) ≤ i ∧ i < 2 ^ 62 := by simpa [rng62] using h
theorem si_rng1 (hg : Gl X "range") (hm : X.mg "range" = none) (h : SEs C X [a] is) (hs : starEach [a] X.env = [(false, eval a X.env)] := by rfl) (hl1 : is.len = 1 := by rfl) : SI C X tg (.Call (.Name "range" p) [a] [] pos) (.rng is) := by
  intro σ H Sh F e W tk R hx hb
  refine cI_of (pi_range1 hg hm pa_can hs) ?_
  refine h.bindI tk R hb hx fun ds e1 vs H1 Sh1 F1 xs fq hl r R1 S1 hr ev => ?_
  have hlen := r.length
  unfold rngI at hr
  split at hr
  · rename_i b
    by_cases hb' : rng62 b = true
    · rw [if_pos hb'] at hr
      obtain ⟨v, vr, f1, f2, rfl, rfl, r1, r2⟩ := r
      obtain ⟨rfl, rfl⟩ := r2
      obtain ⟨rfl, rfl⟩ := r1
      obtain ⟨q1, q2⟩ := rng62_ok hb'
      have jw := jw_rng (K := X.K) (mg := X.mg) (lo := 0) (n := b.toNat)
      simp only [Int.zero_add] at jw
      rw [Option.some.inj hr] at jw
      exact ⟨b, rfl, q1, q2, xs, [], e1, Sh1, F1, fun _ _ _ => True, ev, R1, S1, jw, True.intro⟩
    · rw [if_neg hb'] at hr; cases hr
  · rw [hl1] at hl; cases hl
  · cases hr
theorem si_rng2 (hg : Gl X "range") (hm : X.mg "range" = none) (h : SEs C X [a, b] is) (hs : starEach [a, b] X.env = [(false, eval a X.env), (false, eval b X.env)] := by rfl) (hs2 : starEach [b] X.env = [(false, eval b X.env)] := by rfl) (hl1 : is.len = 2 := by rfl) : SI C X tg (.Call (.Name "range" p) [a, b] [] pos) (.rng is) := by
  intro σ H Sh F e W tk R hx hb
  refine cI_of (pi_range2 hg hm pa_can hs hs2) ?_
  refine h.bindI tk R hb hx fun ds e1 vs H1 Sh1 F1 xs fq hl r R1 S1 hr ev => ?_
  have hlen := r.length
  unfold rngI at hr
  split at hr
  · rw [hl1] at hl; cases hl
  · rename_i a0 b0
    by_cases hb' : (rng62 a0 && rng62 b0) = true
    · rw [if_pos hb'] at hr
      rw [Bool.and_eq_true] at hb'
      obtain ⟨v, vr, f1, f2, rfl, rfl, r1, v', vr', f1', f2', rfl, rfl, r1', r2⟩ := r
      obtain ⟨rfl, rfl⟩ := r2
      obtain ⟨rfl, rfl⟩ := r1
      obtain ⟨rfl, rfl⟩ := r1'
      obtain ⟨q1, q2⟩ := rng62_ok hb'.1
      obtain ⟨q3, q4⟩ := rng62_ok hb'.2
      have jw := jw_rng (K := X.K) (mg := X.mg) (lo := a0) (n := (b0 - a0).toNat)
      rw [Option.some.inj hr] at jw
      exact ⟨a0, b0, rfl, ⟨q1, q2, q3, q4⟩, xs, [], e1, Sh1, F1, fun _ _ _ => True, ev, R1, S1, jw, True.intro⟩
    · rw [if_neg hb'] at hr; cases hr
  · cases hr
/-! zip -/
theorem zip_get {xs ys : List D} {k : Nat} {d' : D} (h : (List.zipWith (fun a b => D.tup [a, b]) xs ys)[k]? = some d') : ∃ x y, xs[k]? = some x ∧ ys[k]? = some y ∧ d' = .tup [x, y] := by
  rw [List.getElem?_zipWith] at h
  cases hx : xs[k]? with
  | none => rw [hx] at h; simp at h
  | some x =>
    cases hy : ys[k]? with
    | none => rw [hx, hy] at h; simp at h
    | some y => rw [hx, hy] at h; exact ⟨x, y, rfl, rfl, (Option.some.inj h).symm⟩
theorem jw_zip {K : PySem.W.Frag} {mg : Str → Option Value} {p q : Pv} {d1 d2 : D} {xs ys : List D} {a b : Addr} (h1 : plainIts d1 p = some xs) (h2 : plainIts d2 q = some ys) (t1 : d1.isTup = false) (t2 : d2.isTup = false) :
    Jw K mg [p, q] (Itz K a b) (List.zipWith (fun a b => .tup [a, b]) xs ys) (fun H Sh F => Tmp K mg H Sh F p.walk d1 (.ref a) ∧ Tmp K mg H Sh F q.walk d2 (.ref b)) where
  step := fun {H Sh F e H' Sh' F' e' ms} t m sa S w => by
    have w' : p.waits ms = true ∧ q.waits ms = true := by simpa using w
    exact ⟨t.1.step m sa S (walk_waits w'.1), t.2.step m sa S (walk_waits w'.2)⟩
  go := fun t hj => by
    obtain ⟨_, vs, _, e1, r1, _, k1⟩ := t.1.items h1
    obtain ⟨_, us, _, e2, r2, _, k2⟩ := t.2.items h2
    cases e1; cases e2
    rw [List.length_zipWith] at hj
    rcases k1 with ⟨z, _⟩ | ⟨_, q1⟩
    · rw [t1] at z; cases z
    rcases k2 with ⟨z, _⟩ | ⟨_, q2⟩
    · rw [t2] at z; cases z
    obtain ⟨x, hx⟩ := jw_get r1 (Nat.lt_of_lt_of_le hj (Nat.min_le_left _ _))
    obtain ⟨y, hy⟩ := jw_get r2 (Nat.lt_of_lt_of_le hj (Nat.min_le_right _ _))
    exact ⟨vs, us, x, y, q1, q2, hx, hy⟩
  yld := fun t sa y hd => by
    obtain ⟨_, vs, _, e1, r1, s1, k1⟩ := t.1.items h1
    obtain ⟨_, us, _, e2, r2, s2, k2⟩ := t.2.items h2
    cases e1; cases e2
    rcases k1 with ⟨z, _⟩ | ⟨_, q1⟩
    · rw [t1] at z; cases z
    rcases k2 with ⟨z, _⟩ | ⟨_, q2⟩
    · rw [t2] at z; cases z
    obtain ⟨T, x', y', rfl, hT, rfl, y1, y2⟩ := y
    obtain ⟨dx, dy, g1, g2, rfl⟩ := zip_get hd
    obtain ⟨u1, f1, e1, r1', s1'⟩ := r1.get g1
    obtain ⟨u2, f2, e2, r2', s2'⟩ := r2.get g2
    have w1 := y1 vs q1
    rw [e1] at w1; cases w1
    have w2 := y2 us q2
    rw [e2] at w2; cases w2
    exact pair_tmp hT r1' r2' (fun b hb => s1 b (s1' b hb)) (fun b hb => s2 b (s2' b hb)) sa
  stop := fun t => by
    obtain ⟨_, vs, _, e1, r1, _, k1⟩ := t.1.items h1
    obtain ⟨_, us, _, e2, r2, _, k2⟩ := t.2.items h2
    cases e1; cases e2
    rcases k1 with ⟨z, _⟩ | ⟨_, q1⟩
    · rw [t1] at z; cases z
    rcases k2 with ⟨z, _⟩ | ⟨_, q2⟩
    · rw [t2] at z; cases z
    exact ⟨vs, us, q1, q2, by rw [List.length_zipWith, r1.length, r2.length]; omega⟩
theorem jw_zipT {K : PySem.W.Frag} {mg : Str → Option Value} {p q : Pv} {d1 d2 : D} {xs ys : List D} {a b : Addr} (h1 : plainIts d1 p = some xs) (h2 : plainIts d2 q = some ys) (t1 : d1.isTup = true) (t2 : d2.isTup = true) :
    Jw K mg [p, q] (RZ.ItzT K a b) (List.zipWith (fun a b => .tup [a, b]) xs ys) (fun H Sh F => Tmp K mg H Sh F p.walk d1 (.ref a) ∧ Tmp K mg H Sh F q.walk d2 (.ref b)) where
  step := fun {H Sh F e H' Sh' F' e' ms} t m sa S w => by
    have w' : p.waits ms = true ∧ q.waits ms = true := by simpa using w
    exact ⟨t.1.step m sa S (walk_waits w'.1), t.2.step m sa S (walk_waits w'.2)⟩
  go := fun t hj => by
    obtain ⟨_, vs, _, e1, r1, _, k1⟩ := t.1.items h1
    obtain ⟨_, us, _, e2, r2, _, k2⟩ := t.2.items h2
    cases e1; cases e2
    rw [List.length_zipWith] at hj
    rcases k1 with ⟨_, q1⟩ | ⟨z, _⟩
    case inr => rw [t1] at z; cases z
    rcases k2 with ⟨_, q2⟩ | ⟨z, _⟩
    case inr => rw [t2] at z; cases z
    obtain ⟨x, hx⟩ := jw_get r1 (Nat.lt_of_lt_of_le hj (Nat.min_le_left _ _))
    obtain ⟨y, hy⟩ := jw_get r2 (Nat.lt_of_lt_of_le hj (Nat.min_le_right _ _))
    exact ⟨vs, us, x, y, q1, q2, hx, hy⟩
  yld := fun t sa y hd => by
    obtain ⟨_, vs, _, e1, r1, s1, k1⟩ := t.1.items h1
    obtain ⟨_, us, _, e2, r2, s2, k2⟩ := t.2.items h2
    cases e1; cases e2
    rcases k1 with ⟨_, q1⟩ | ⟨z, _⟩
    case inr => rw [t1] at z; cases z
    rcases k2 with ⟨_, q2⟩ | ⟨z, _⟩
    case inr => rw [t2] at z; cases z
    obtain ⟨T, x', y', rfl, hT, rfl, y1, y2⟩ := y
    obtain ⟨dx, dy, g1, g2, rfl⟩ := zip_get hd
    obtain ⟨u1, f1, e1, r1', s1'⟩ := r1.get g1
    obtain ⟨u2, f2, e2, r2', s2'⟩ := r2.get g2
    have w1 := y1 vs q1
    rw [e1] at w1; cases w1
    have w2 := y2 us q2
    rw [e2] at w2; cases w2
    exact pair_tmp hT r1' r2' (fun b hb => s1 b (s1' b hb)) (fun b hb => s2 b (s2' b hb)) sa
  stop := fun t => by
    obtain ⟨_, vs, _, e1, r1, _, k1⟩ := t.1.items h1
    obtain ⟨_, us, _, e2, r2, _, k2⟩ := t.2.items h2
    cases e1; cases e2
    rcases k1 with ⟨_, q1⟩ | ⟨z, _⟩
    case inr => rw [t1] at z; cases z
    rcases k2 with ⟨_, q2⟩ | ⟨z, _⟩
    case inr => rw [t2] at z; cases z
    exact ⟨vs, us, q1, q2, by rw [List.length_zipWith, r1.length, r2.length]; omega⟩
/-- the first operand's sharing, while the second is evaluated -/
theorem si_zip {elts : List Expr} {kk : Nat} (hg : Gl X "zip") (hm : X.mg "zip" = none) (ha : SE C X a i) (hb0 : SE C X b j) (hs : starEach [a, b] X.env = (false, eval a X.env) :: starEach [b] X.env := by rfl) (hpl : (backTo pos (starEach [b] X.env)).any (·.1) = false := by rfl) (hs2 : starEach [b] X.env = (false, eval b X.env) :: starEach [] X.env := by rfl) :
    SI C X (.Tuple elts kk tpos) (.Call (.Name "zip" p) [a, b] [] pos) (.zp i j) := by
  intro σ H Sh F e W tk R hx hb
  have ev : C.evI (.zp i j) e = (match C.ev i e with
    | .ok x p e1 => if p.waits j.mods then (match C.ev j e1 with
      | .ok y q e2 => (match plainIts x p, plainIts y q with
        | some xs, some ys => if x.isTup == y.isTup then .ok (List.zipWith (fun a b => .tup [a, b]) xs ys) [p, q] e2 else .bad
        | _, _ => .bad)
      | .exc x e2 => .exc x e2
      | .bad => .bad) else .bad
    | .exc x e1 => .exc x e1
    | .bad => .bad) := rfl
  have m1 : ∀ n ∈ i.mods, n ∈ (It.zp i j).mods := fun n hn => List.mem_append_left _ hn
  have m2 : ∀ n ∈ j.mods, n ∈ (It.zp i j).mods := fun n hn => List.mem_append_right _ hn
  refine cI_of (RZ.pi_zipA hg hm (pa_cons pe_can (pa_cons pe_can pa_nil hs2) hs) hs hpl) ?_
  have nb : C.ev i e ≠ .bad := fun z => hb (by rw [ev, z])
  refine cR_mono (ha σ H Sh F e W tk R (fun x e' he => ?_) nb) fun v H1 ⟨d, p, e1, Sh1, F1, he, P1⟩ => ?_
  · have q := hx x e' (by rw [ev, he])
    exact fun H' Sh' F' c dd R' S' z => q H' Sh' F' c dd R' (S'.mono m1) z
  rw [he] at ev
  dsimp only at ev
  by_cases hw : p.waits j.mods = true
  case neg => rw [if_neg hw] at ev; exact absurd ev hb
  rw [if_pos hw] at ev
  obtain ⟨Sh1', R1', S1', T1', _⟩ := P1.rel.share P1.stp P1.tmp
  have nb2 : C.ev j e1 ≠ .bad := fun z => hb (by rw [ev, z])
  refine cR_mono (hb0 σ H1 Sh1' F1 e1 W tk R1' (fun x e' he => ?_) nb2) fun u H2 ⟨d2, q, e2, Sh2, F2, he2, P2⟩ => ?_
  · have qq := hx x e' (by rw [ev, he])
    exact fun H' Sh' F' c dd R' S' z => qq H' Sh' F' c dd R' ((S1'.trans S').mono fun n hn => (List.mem_append.mp hn).elim (m1 n) (m2 n)) z
  rw [he2] at ev
  dsimp only at ev
  cases g1 : plainIts d p with
  | none => rw [g1] at ev; exact absurd ev hb
  | some xs =>
    cases g2 : plainIts d2 q with
    | none => rw [g1, g2] at ev; exact absurd ev hb
    | some ys =>
      rw [g1, g2] at ev
      dsimp only at ev
      by_cases ht : (d.isTup == d2.isTup) = true
      case neg => rw [if_neg ht] at ev; exact absurd ev hb
      rw [if_pos ht] at ev
      have ht' : d.isTup = d2.isTup := by simpa using ht
      obtain ⟨Sh3, R3, S3, T3, sub⟩ := P2.rel.share (P2.stp) P2.tmp
      have T1b : Tmp X.K X.mg H2 Sh3 F2 p.walk d v := T1'.step R1'.mu R1'.sa S3 (walk_waits hw)
      have S' : Stp (It.zp i j).mods H Sh F e H2 Sh3 F2 e2 := S1'.trans S3
      obtain ⟨a', vs, fq, rfl, r1, _, k1⟩ := T1b.items g1
      obtain ⟨b', us, fq', rfl, r2, _, k2⟩ := T3.items g2
      rcases k1 with ⟨z1, q1⟩ | ⟨z1, q1⟩
      · rcases k2 with ⟨z2, q2⟩ | ⟨z2, q2⟩
        · exact ⟨a', b', vs, us, rfl, .inr ⟨q1, q2, _, [p, q], e2, Sh3, F2, _, ev, R3, S', jw_zipT g1 g2 z1 z2, T1b, T3⟩⟩
        · rw [ht', z2] at z1; cases z1
      · rcases k2 with ⟨z2, q2⟩ | ⟨z2, q2⟩
        · rw [ht', z2] at z1; cases z1
        · exact ⟨a', b', vs, us, rfl, .inl ⟨q1, q2, _, [p, q], e2, Sh3, F2, _, ev, R3, S', jw_zip g1 g2 z1 z2, T1b, T3⟩⟩
/-! reversed -/
theorem rev_get {ds : List D} {k : Nat} {d' : D} (h : ds.reverse[k]? = some d') : k < ds.length ∧ ds[ds.length - 1 - k]? = some d' := by
  have hk : k < ds.length := by
    by_cases hk : k < ds.length
    · exact hk
    · rw [List.getElem?_eq_none (by simpa using hk)] at h; cases h
  exact ⟨hk, by rw [List.getElem?_reverse hk] at h; exact h⟩
theorem jw_rev {K : PySem.W.Frag} {mg : Str → Option Value} {p : Pv} {d : D} {ds : List D} {a : Addr} (h : plainIts d p = some ds) (ht : d.isTup = false) : Jw K mg [p] (Itv K a ds.length) ds.reverse (fun H Sh F => Tmp K mg H Sh F p.walk d (.ref a)) where
  step := fun t m sa S w => t.step m sa S (walk_waits (by simpa using w))
  go := fun {H Sh F j} t hj => by
    have hj' : j < ds.length := by simpa using hj
    obtain ⟨b, vs, fq, e1, r1, _, h2⟩ := t.items h
    cases e1
    rcases h2 with ⟨z, _⟩ | ⟨_, q⟩
    · rw [ht] at z; cases z
    · obtain ⟨x, hx⟩ := jw_get (j := ds.length - 1 - j) r1 (by omega)
      exact ⟨hj', vs, x, q, hx⟩
  yld := fun t sa y hd => by
    obtain ⟨b, vs, fq, e1, r1, h1, h2⟩ := t.items h
    cases e1
    rcases h2 with ⟨z, _⟩ | ⟨_, q⟩
    · rw [ht] at z; cases z
    · obtain ⟨rfl, y⟩ := y
      obtain ⟨hk, hd⟩ := rev_get hd
      obtain ⟨u, f1, e2, r2, s2⟩ := r1.get hd
      have := y vs q
      rw [e2] at this
      cases this
      exact ⟨fun _ _ => rfl, f1, r2, fun b hb => h1 b (s2 b hb)⟩
  stop := fun {H Sh F} t => by
    show ds.length ≤ ds.reverse.length
    simp
theorem jw_revT {K : PySem.W.Frag} {mg : Str → Option Value} {p : Pv} {d : D} {ds : List D} {a : Addr} (h : plainIts d p = some ds) (ht : d.isTup = true) : Jw K mg [p] (RT.ItvT K a ds.length) ds.reverse (fun H Sh F => Tmp K mg H Sh F p.walk d (.ref a)) where
  step := fun t m sa S w => t.step m sa S (walk_waits (by simpa using w))
  go := fun {H Sh F j} t hj => by
    have hj' : j < ds.length := by simpa using hj
    obtain ⟨b, vs, fq, e1, r1, _, h2⟩ := t.items h
    cases e1
    rcases h2 with ⟨_, q⟩ | ⟨z, _⟩
    · obtain ⟨x, hx⟩ := jw_get (j := ds.length - 1 - j) r1 (by omega)
      exact ⟨hj', vs, x, q, hx⟩
    · rw [ht] at z; cases z
  yld := fun t sa y hd => by
    obtain ⟨b, vs, fq, e1, r1, h1, h2⟩ := t.items h
    cases e1
    rcases h2 with ⟨_, q⟩ | ⟨z, _⟩
    · obtain ⟨rfl, y⟩ := y
      obtain ⟨hk, hd⟩ := rev_get hd
      obtain ⟨u, f1, e2, r2, s2⟩ := r1.get hd
      have := y vs q
      rw [e2] at this
      cases this
      exact ⟨fun _ _ => rfl, f1, r2, fun b hb => h1 b (s2 b hb)⟩
    · rw [ht] at z; cases z
  stop := fun {H Sh F} t => by
    show ds.length ≤ ds.reverse.length
    simp
theorem si_rev (hg : Gl X "reversed") (hm : X.mg "reversed" = none) (h : SE C X a i) (hs : starEach [a] X.env = (false, eval a X.env) :: starEach [] X.env := by rfl) : SI C X tg (.Call (.Name "reversed" p) [a] [] pos) (.rv i) := by
  intro σ H Sh F e W tk R hx hb
  refine cI_of (RT.pi_revA hg hm pe_can hs) ?_
  refine h.bindI (q := C.evI (.rv i) e) tk R (g := fun d p => (plainIts d p).map List.reverse) (by rfl) hb (fun _ h => h) hx fun d p e1 ds v H1 Sh1 F1 P hg hq => ?_
  cases hp : plainIts d p with
  | none => rw [hp] at hg; cases hg
  | some xs =>
    rw [hp] at hg
    have hg' : xs.reverse = ds := Option.some.inj hg
    obtain ⟨Sh2, R2, S2, T2, _⟩ := P.rel.share P.stp P.tmp
    obtain ⟨a, vs, fq, rfl, r1, h1, h2⟩ := T2.items hp
    rcases h2 with ⟨ht, q⟩ | ⟨ht, q⟩
    · exact ⟨a, vs, rfl, .inr ⟨q, ds, [p], e1, Sh2, F1, _, hq, R2, S2, by rw [← hg', r1.length]; exact jw_revT hp ht, T2⟩⟩
    · exact ⟨a, vs, rfl, .inl ⟨q, ds, [p], e1, Sh2, F1, _, hq, R2, S2, by rw [← hg', r1.length]; exact jw_rev hp ht, T2⟩⟩

/-! ### for -/
theorem ev_for {t : Tg} {it : It} {bd : Sts} : C.ex (.for t it bd) e = (match C.evI it e with
    | .ok ds ps e1 => if ps.all (·.waits (t.slots ++ bd.mods)) then forLoop C.ios t (C.exs bd) ds e1 else .bad
    | .exc x e1 => .exc x e1
    | .bad => .bad) := rfl
theorem stp_grow {H2 : Hp} (R : Rel C.io X.K X.mg σ H Sh F e) (h : ∀ a, H a ≠ none → H2 a = H a) : Rel C.io X.K X.mg σ H2 Sh F e ∧ Stp ms H Sh F e H2 Sh F e := by
  obtain ⟨R2, S2, _⟩ := R.fresh (ms := ms) (d := .non) (v := .non) (H' := H2) ⟨h, [], ⟨rfl, rfl⟩, by simp, by simp⟩
  exact ⟨R2, S2⟩
theorem ss_for {t : Tg} {it : It} {bd : Sts} {body : List Stmt} {iter : Expr} (hps : PassesOwn (model X.prog X.w) X.A X.env X.xe) (hc : X.calm = true) (hi : SI C X tg iter it) (hg : STg C X tg t) (hb : SSs C X body bd)
    (hs : ∀ x, foldedSetIterable iter X.env x = pure x := by intro _; rfl) : SS C X (.For tg iter body [] pos) (.for t it bd) := by
  intro σ H Sh F e W Ed tk R A
  rw [ev_for] at A
  have m0 : ∀ n ∈ it.mods, n ∈ (St.for t it bd).mods := fun n hn => List.mem_append_left _ hn
  have m1 : ∀ n ∈ t.slots, n ∈ (St.for t it bd).mods := fun n hn => List.mem_append_right _ (List.mem_append_left _ hn)
  have m2 : ∀ n ∈ bd.mods, n ∈ (St.for t it bd).mods := fun n hn => List.mem_append_right _ (List.mem_append_right _ hn)
  have nb : C.evI it e ≠ .bad := fun z => A.nb (by rw [z])
  refine cS_of (ps_for hps hc pi_can pg_can pss_can hs) ?_
  show cI X tg iter σ H _
  have key := hi σ H Sh F e W tk R (fun x e' he => fun H' Sh' F' c dd R' S' z => A.ex x e' (by rw [he]) σ H' Sh' F' c dd R' (S'.mono m0) z) nb
  intro pins s I
  refine thn (key pins s I) fun v s1 h1 => thn h1 fun itv s2 h2 => ?_
  obtain ⟨it0, fp0, tn, J, H', e0, I2, T, st2, f2, ds, ps, e1, Sh1, F1, inv, he, R1, S1, jw, hinv⟩ := h2
  refine ⟨it0, fp0, tn, J, H', e0, I2, T, st2, f2, ?_⟩
  rw [he] at A
  dsimp only at A
  by_cases hw : ps.all (·.waits (t.slots ++ bd.mods)) = true
  case neg => rw [if_neg hw] at A; exact absurd rfl A.nb
  rw [if_pos hw] at A
  have waits_sub : ∀ {ms : List Nat}, (∀ n ∈ ms, n ∈ t.slots ++ bd.mods) → ps.all (·.waits ms) = true := fun {ms} hms => by
    refine List.all_eq_true.mpr fun p hp => ?_
    have z := List.all_eq_true.mp hw p hp
    cases p with
    | own => rfl
    | shr => rfl
    | bor r =>
      have z' : (!(t.slots ++ bd.mods).contains r) = true := z
      show (!ms.contains r) = true
      simp only [Bool.not_eq_true', List.contains_eq_mem, decide_eq_false_iff_not] at z' ⊢
      exact fun y => z' (hms r y)
  refine ⟨fun i m σ' H' => m = ds.length - i ∧ i ≤ ds.length ∧ ∃ Sh' F' e', Rel C.io X.K X.mg σ' H' Sh' F' e' ∧ Stp (St.for t it bd).mods H Sh F e H' Sh' F' e' ∧ inv H' Sh' F' ∧ forLoop C.ios t (C.exs bd) (ds.drop i) e' = forLoop C.ios t (C.exs bd) ds e1, ⟨ds.length, by simp, Nat.zero_le _, Sh1, F1, e1, R1, S1.mono m0, hinv, by rw [List.drop_zero]⟩, ?_⟩
  rintro i m σ' H' ⟨rfl, hi', Sh', F', e', R', S', hinv', ho⟩
  by_cases hlt : i < ds.length
  case neg =>
    have ei : i = ds.length := by omega
    subst ei
    rw [List.drop_length] at ho
    have ho' : Out.nx e' = forLoop C.ios t (C.exs bd) ds e1 := ho
    exact .inl ⟨jw.stop hinv', A.nx e' ho'.symm σ' H' Sh' F' R' S'⟩
  refine .inr ⟨jw.go hinv' hlt, fun σ3 H3 => ∃ Sh3 F3 e3, Rel C.io X.K X.mg σ3 H3 Sh3 F3 e3 ∧ Stp (St.for t it bd).mods H Sh F e H3 Sh3 F3 e3 ∧ inv H3 Sh3 F3 ∧ forLoop C.ios t (C.exs bd) (ds.drop (i + 1)) e3 = forLoop C.ios t (C.exs bd) ds e1,
    fun σ3 H3 ⟨Sh3, F3, e3, R3, S3, i3, o3⟩ => ⟨ds.length - (i + 1), by omega, rfl, hlt, Sh3, F3, e3, R3, S3, i3, o3⟩, fun x H2 y => ?_⟩
  have hd : ds[i]? = some ds[i] := List.getElem?_eq_getElem hlt
  rw [List.drop_eq_getElem_cons hlt] at ho
  have ho' : (match setTg C.ios e' t ds[i] with
    | none => .bad
    | some e1 => match C.exs bd e1 with
      | .nx e2 => forLoop C.ios t (C.exs bd) (ds.drop (i + 1)) e2
      | .ct e2 => forLoop C.ios t (C.exs bd) (ds.drop (i + 1)) e2
      | .bk e2 => .nx e2
      | o => o) = forLoop C.ios t (C.exs bd) ds e1 := ho
  obtain ⟨grow, tx⟩ := jw.yld hinv' R'.sa y hd
  obtain ⟨R2, S2⟩ := stp_grow (ms := []) R' grow
  have inv2 := jw.step hinv' R'.mu R'.sa S2 (by
    refine List.all_eq_true.mpr fun p hp => ?_
    cases p <;> first | rfl | simp [Pv.waits])
  cases hst : setTg C.ios e' t ds[i] with
  | none => rw [hst] at ho'; exact absurd ho'.symm A.nb
  | some e4 =>
    rw [hst] at ho'
    dsimp only at ho'
    have g := hg σ' H2 Sh' F' e' e4 ds[i] x R2 tx hst
    intro pins3 s3 u3 I3 r3
    refine thn (g pins3 s3 u3 I3 r3) fun _ s4 ⟨σ4, H4, I4, q4⟩ => ⟨σ4, H4, I4, ?_⟩
    obtain ⟨rfl, _, F4, R4, S4⟩ := q4
    have inv4 := jw.step inv2 R2.mu R2.sa S4 (waits_sub fun n hn => List.mem_append_left _ hn)
    have S14 : Stp (St.for t it bd).mods H Sh F e H4 Sh' F4 e4 := ((S'.trans S2).trans S4).mono (ms2 := (St.for t it bd).mods) fun n hn => by
      rcases List.mem_append.mp hn with z | z
      · rcases List.mem_append.mp z with z | z
        · exact z
        · simp at z
      · exact m1 n z
    have cont : ∀ {e5 : Envv}, forLoop C.ios t (C.exs bd) (ds.drop (i + 1)) e5 = forLoop C.ios t (C.exs bd) ds e1 → ∀ σ5 H5 Sh5 F5, Rel C.io X.K X.mg σ5 H5 Sh5 F5 e5 → Stp bd.mods H4 Sh' F4 e4 H5 Sh5 F5 e5 →
        ∃ Sh3 F3 e3, Rel C.io X.K X.mg σ5 H5 Sh3 F3 e3 ∧ Stp (St.for t it bd).mods H Sh F e H5 Sh3 F3 e3 ∧ inv H5 Sh3 F3 ∧ forLoop C.ios t (C.exs bd) (ds.drop (i + 1)) e3 = forLoop C.ios t (C.exs bd) ds e1 := fun {e5} h5 σ5 H5 Sh5 F5 R5 S5 =>
      ⟨Sh5, F5, e5, R5, (S14.trans S5).mono fun n hn => (List.mem_append.mp hn).elim id (m2 n), jw.step inv4 R4.mu R4.sa S5 (waits_sub fun n hn => List.mem_append_right _ hn), h5⟩
    refine hb σ4 H4 Sh' F4 e4 W _ tk R4 ?_
    cases hbd : C.exs bd e4 with
    | bad => rw [hbd] at ho'; exact absurd ho'.symm A.nb
    | nx e5 =>
      rw [hbd] at ho'
      exact ⟨by simp, fun e' he => by cases he; exact cont ho', fun e' he => (by cases he), fun e' he => (by cases he), fun d p e' he => (by cases he), fun x e' he => (by cases he)⟩
    | ct e5 =>
      rw [hbd] at ho'
      exact ⟨by simp, fun e' he => (by cases he), fun e' he => (by cases he), fun e' he => by cases he; exact cont ho', fun d p e' he => (by cases he), fun x e' he => (by cases he)⟩
    | bk e5 =>
      rw [hbd] at ho'
      dsimp only at ho'
      have A' : Aim C X W Ed bd.mods H4 Sh' F4 e4 (.nx e5) := by
        rw [← ho'] at A
        exact A.step S14 (fun _ h => h) m2
      exact ⟨by simp, fun e' he => (by cases he), fun e' he => by cases he; exact A'.nx _ rfl, fun e' he => (by cases he), fun d p e' he => (by cases he), fun x e' he => (by cases he)⟩
    | rt d p e5 =>
      rw [hbd] at ho'
      dsimp only at ho'
      have A' : Aim C X W Ed bd.mods H4 Sh' F4 e4 (.rt d p e5) := by
        rw [← ho'] at A
        exact A.step S14 (fun _ h => h) m2
      exact ⟨by simp, fun e' he => (by cases he), fun e' he => (by cases he), fun e' he => (by cases he), A'.rt, fun x e' he => (by cases he)⟩
    | exc x e5 =>
      rw [hbd] at ho'
      dsimp only at ho'
      have A' : Aim C X W Ed bd.mods H4 Sh' F4 e4 (.exc x e5) := by
        rw [← ho'] at A
        exact A.step S14 (fun _ h => h) m2
      exact ⟨by simp, fun e' he => (by cases he), fun e' he => (by cases he), fun e' he => (by cases he), fun d p e' he => (by cases he), A'.ex⟩
/-! ### while -/
theorem ev_whl {c : Ex} {bd : Sts} : C.ex (.whl c bd) e = whileLoop (C.ev c) (C.exs bd) WF e := rfl
theorem ss_while {c : Expr} {body : List Stmt} {ic : Ex} {bd : Sts} (hps : PassesOwn (model X.prog X.w) X.A X.env X.xe) (hcx : ST C X c ic) (hb : SSs C X body bd) : SS C X (.While c body [] pos) (.whl ic bd) := by
  intro σ H Sh F e W Ed tk R A
  rw [ev_whl] at A
  have m0 : ∀ n ∈ ic.mods, n ∈ (St.whl ic bd).mods := fun n hn => List.mem_append_left _ hn
  have m2 : ∀ n ∈ bd.mods, n ∈ (St.whl ic bd).mods := fun n hn => List.mem_append_right _ hn
  refine cS_of (ps_while hps pt_can pss_can) ?_
  refine ⟨fun m σ' H' => ∃ Sh' F' e', Rel C.io X.K X.mg σ' H' Sh' F' e' ∧ Stp (St.whl ic bd).mods H Sh F e H' Sh' F' e' ∧ whileLoop (C.ev ic) (C.exs bd) m e' = whileLoop (C.ev ic) (C.exs bd) WF e, ⟨WF, Sh, F, e, R, Stp.refl, rfl⟩, ?_⟩
  rintro m σ' H' ⟨Sh', F', e', R', S', ho⟩
  cases m with
  | zero =>
    have ho' : Out.bad = whileLoop (C.ev ic) (C.exs bd) WF e := ho
    exact absurd ho'.symm A.nb
  | succ m =>
    have ho' : (match C.ev ic e' with
      | .ok (.bl true) _ e1 => match C.exs bd e1 with
        | .nx e2 => whileLoop (C.ev ic) (C.exs bd) m e2
        | .ct e2 => whileLoop (C.ev ic) (C.exs bd) m e2
        | .bk e2 => .nx e2
        | o => o
      | .ok (.bl false) _ e1 => .nx e1
      | .exc x e1 => .exc x e1
      | _ => .bad) = whileLoop (C.ev ic) (C.exs bd) WF e := ho
    have nb : C.ev ic e' ≠ .bad := fun z => A.nb (by rw [← ho', z])
    refine cT_mono (hcx σ' H' Sh' F' e' W tk R' (fun x e1 he => fun H3 Sh3 F3 c dd R3 S3 z => A.ex x e1 (by rw [← ho', he]) σ' H3 Sh3 F3 c dd R3 ((S'.trans S3).mono fun n hn => (List.mem_append.mp hn).elim id (m0 n)) z) (fun d p e1 he => ?_) nb) fun k H1 ⟨p, e1, Sh1, F1, he, R1, S1⟩ => ?_
    · rw [he] at ho'
      cases d with
      | bl k => exact ⟨k, rfl⟩
      | _ => exact absurd ho'.symm A.nb
    · rw [he] at ho'
      have S01 : Stp (St.whl ic bd).mods H Sh F e H1 Sh1 F1 e1 := (S'.trans S1).mono fun n hn => (List.mem_append.mp hn).elim id (m0 n)
      cases k with
      | false =>
        rw [if_neg Bool.false_ne_true]
        dsimp only at ho'
        exact A.nx e1 ho'.symm σ' H1 Sh1 F1 R1 S01
      | true =>
        rw [if_pos rfl]
        dsimp only at ho'
        refine ⟨fun σ3 H3 => ∃ Sh3 F3 e3, Rel C.io X.K X.mg σ3 H3 Sh3 F3 e3 ∧ Stp (St.whl ic bd).mods H Sh F e H3 Sh3 F3 e3 ∧ whileLoop (C.ev ic) (C.exs bd) m e3 = whileLoop (C.ev ic) (C.exs bd) WF e, fun σ3 H3 q => ⟨m, Nat.lt_succ_self m, q⟩, ?_⟩
        have cont : ∀ {e5 : Envv}, whileLoop (C.ev ic) (C.exs bd) m e5 = whileLoop (C.ev ic) (C.exs bd) WF e → ∀ σ5 H5 Sh5 F5, Rel C.io X.K X.mg σ5 H5 Sh5 F5 e5 → Stp bd.mods H1 Sh1 F1 e1 H5 Sh5 F5 e5 →
            ∃ Sh3 F3 e3, Rel C.io X.K X.mg σ5 H5 Sh3 F3 e3 ∧ Stp (St.whl ic bd).mods H Sh F e H5 Sh3 F3 e3 ∧ whileLoop (C.ev ic) (C.exs bd) m e3 = whileLoop (C.ev ic) (C.exs bd) WF e := fun {e5} h5 σ5 H5 Sh5 F5 R5 S5 =>
          ⟨Sh5, F5, e5, R5, (S01.trans S5).mono fun n hn => (List.mem_append.mp hn).elim id (m2 n), h5⟩
        refine hb σ' H1 Sh1 F1 e1 W _ tk R1 ?_
        cases hbd : C.exs bd e1 with
        | bad => rw [hbd] at ho'; exact absurd ho'.symm A.nb
        | nx e5 =>
          rw [hbd] at ho'
          exact ⟨by simp, fun e' he => by cases he; exact cont ho', fun e' he => (by cases he), fun e' he => (by cases he), fun d p e' he => (by cases he), fun x e' he => (by cases he)⟩
        | ct e5 =>
          rw [hbd] at ho'
          exact ⟨by simp, fun e' he => (by cases he), fun e' he => (by cases he), fun e' he => by cases he; exact cont ho', fun d p e' he => (by cases he), fun x e' he => (by cases he)⟩
        | bk e5 =>
          rw [hbd] at ho'
          dsimp only at ho'
          have A' : Aim C X W Ed bd.mods H1 Sh1 F1 e1 (.nx e5) := by
            rw [← ho'] at A
            exact A.step S01 (fun _ h => h) m2
          exact ⟨by simp, fun e' he => (by cases he), fun e' he => by cases he; exact A'.nx _ rfl, fun e' he => (by cases he), fun d p e' he => (by cases he), fun x e' he => (by cases he)⟩
        | rt d p e5 =>
          rw [hbd] at ho'
          dsimp only at ho'
          have A' : Aim C X W Ed bd.mods H1 Sh1 F1 e1 (.rt d p e5) := by
            rw [← ho'] at A
            exact A.step S01 (fun _ h => h) m2
          exact ⟨by simp, fun e' he => (by cases he), fun e' he => (by cases he), fun e' he => (by cases he), A'.rt, fun x e' he => (by cases he)⟩
        | exc x e5 =>
          rw [hbd] at ho'
          dsimp only at ho'
          have A' : Aim C X W Ed bd.mods H1 Sh1 F1 e1 (.exc x e5) := by
            rw [← ho'] at A
            exact A.step S01 (fun _ h => h) m2
          exact ⟨by simp, fun e' he => (by cases he), fun e' he => (by cases he), fun e' he => (by cases he), fun d p e' he => (by cases he), A'.ex⟩
/-! ### several targets -/
/-- (x, y, ..) = e -/
theorem ss_asgT {es : List Expr} {k : Nat} {tn : List Nat} {tp : Pos} (h : SE C X a i) (hg : STg C X (.Tuple es k tp) (.tp tn)) (hs : swapsWithSole [.Tuple es k tp] a pos.line X.env = pure false := by rfl) (hw : swappedStores [.Tuple es k tp] a X.env = pure none := by rfl) {fr : Bool}
    (h1 : (assignEach [.Tuple es k tp] X.env).map (·.2) = [assign (.Tuple es k tp) X.env] := by rfl) : SS C X (.Assign [.Tuple es k tp] a pos) (.asg (.tp tn) fr i) := by
  intro σ H Sh F e W Ed tk R A
  have ev : C.ex (.asg (.tp tn) fr i) e = Out.bind (C.ev i e) fun d p e1 => (match p with
      | .bor _ => .bad
      | _ => (match setTg C.ios e1 (.tp tn) d with | some e2 => .nx e2 | none => .bad)) := by rfl
  rw [ev] at A
  refine cS_of (ps_asg pe_can pg_can hs hw h1) ?_
  refine h.bindS tk R A (fun _ h => List.mem_append_left _ h) fun d p e1 v H1 Sh1 F1 P A1 => ?_
  obtain ⟨Sh2, R2, S2, T2, _⟩ := P.rel.share P.stp P.tmp
  have go : Tmp X.K X.mg H1 Sh2 F1 .shr d v → Aim C X W Ed (St.asg (.tp tn) fr i).mods H Sh F e (match setTg C.ios e1 (.tp tn) d with | some e2 => .nx e2 | none => .bad) → cG X (.Tuple es k tp) v σ H1 Ed.nx := fun T A1 => by
    cases hst : setTg C.ios e1 (.tp tn) d with
    | none => rw [hst] at A1; exact absurd rfl A1.nb
    | some e2 =>
      rw [hst] at A1
      have g := hg σ H1 Sh2 F1 e1 e2 d v R2 T hst
      intro pins s u I r
      refine thn (g pins s u I r) fun _ s1 ⟨σ4, H4, I4, q4⟩ => ⟨σ4, H4, I4, ?_⟩
      obtain ⟨rfl, _, F4, R4, S4⟩ := q4
      exact A1.here R4 (S2.trans S4) (fun _ h => h)
  cases p with
  | own => exact go T2 A1
  | shr => exact go T2 A1
  | bor r => exact absurd rfl A1.nb
end
end DL
end
section
set_option Elab.async false
set_option linter.all false
set_option maxRecDepth 100000
/-! D layer, 17: several targets, several values. -/
namespace DL
open PySem PySem.Spec PyProof.Rows L2
section
variable {K : PySem.W.Frag} {mg : Str → Option Value} {H H' : Hp} {Sh Sh' : Addr → Prop} {F F' : List (List Addr)} {e e' : Envv}
theorem TmpL.step {ms : List Nat} (m : ∀ a ∈ F.flatten, Mt (H a) ∧ ¬ Sh a) (sa : ∀ a, Sh a → Live (H a)) (s : Stp ms H Sh F e H' Sh' F' e') : ∀ {ps : List Pv} {ds : List D} {vs : List V} {fp : List Addr}, ps.all (·.waits ms) = true → (∀ a ∈ fp, Mt (H a) ∧ a ∉ F.flatten) → TmpL K mg H Sh F ps ds vs fp → TmpL K mg H' Sh' F' ps ds vs fp
  | [], [], [], _, _, _, t => t
  | p :: ps, d :: ds, v :: vs, fp, w, hf, t => by
    obtain ⟨f1, f2, rfl, q, t⟩ := t
    rw [List.all_cons, Bool.and_eq_true] at w
    refine ⟨f1, f2, rfl, ?_, TmpL.step m sa s w.2 (fun a ha => hf a (List.mem_append_right _ ha)) t⟩
    rcases q with ⟨h1, r⟩ | ⟨h1, h2, r⟩
    · exact .inl ⟨h1, r.stay (s.keep m) _ fun a ha => s.kp a (hf a (List.mem_append_left _ ha)).1.live (hf a (List.mem_append_left _ ha)).2⟩
    · exact .inr ⟨h1, h2, r.step m sa s w.1⟩
  | [], [], _ :: _, _, _, _, t => t.elim
  | [], _ :: _, _, _, _, _, t => by cases ‹List V› <;> exact t.elim
  | _ :: _, [], _, _, _, _, t => t.elim
  | _ :: _, _ :: _, [], _, _, _, t => t.elim
def setσ : L2.St → List Nat → List V → L2.St
  | σ, i :: is, v :: vs => setσ (σ.set i (some v)) is vs
  | σ, _, _ => σ
theorem setσ_length : ∀ (σ : L2.St) (is : List Nat) (vs : List V), (setσ σ is vs).length = σ.length
  | σ, [], [] => rfl
  | σ, [], _ :: _ => rfl
  | σ, _ :: _, [] => rfl
  | σ, i :: is, v :: vs => by rw [setσ, setσ_length, List.length_set]
/-- the stores, one after another -/
theorem Rel.storeAll {io : Io} {H1 : Hp} {H0 : Hp} {Sh0 : Addr → Prop} {F0 : List (List Addr)} {e0 : Envv} : ∀ {is : List Nat} {frs : List Bool} {ds : List D} {ps : List Pv} {vs : List V} {fp : List Addr} {σ : L2.St} {Sh1 : Addr → Prop} {F1 : List (List Addr)} {e1 e2 : Envv} {ms : List Nat},
    Rel io K mg σ H1 Sh1 F1 e1 → Stp ms H0 Sh0 F0 e0 H1 Sh1 F1 e1 → (∀ i ∈ is, i < σ.length) → setAll (io.l.map (·.1)) e1 is frs ds ps = some e2 → TmpL K mg H1 Sh1 F1 ps ds vs fp → fp.Nodup → (∀ a ∈ fp, (Mt (H1 a) ∧ ¬ Sh1 a ∧ a ∉ F1.flatten) ∧ (a ∈ F0.flatten ∨ H0 a = none)) →
    ∃ Sh2 F2, Rel io K mg (setσ σ is vs) H1 Sh2 F2 e2 ∧ Stp (ms ++ is) H0 Sh0 F0 e0 H1 Sh2 F2 e2
  | [], [], [], [], [], fp, σ, Sh1, F1, e1, e2, ms, R, S, _, hs, t, _, _ => by
    cases hs
    exact ⟨Sh1, F1, R, S.mono fun n hn => by simpa using hn⟩
  | i :: is, f :: fs, d :: ds, p :: ps, v :: vs, fp, σ, Sh1, F1, e1, e2, ms, R, S, hi, hs, t, nd, hf => by
    obtain ⟨f1, f2, rfl, q, t⟩ := t
    have hs' : (match setSl (io.l.map (·.1)) e1 i f d p with
      | some e1 => setAll (io.l.map (·.1)) e1 is fs ds ps
      | none => none) = some e2 := hs
    cases h1 : setSl (io.l.map (·.1)) e1 i f d p with
    | none => rw [h1] at hs'; cases hs'
    | some e3 =>
      rw [h1] at hs'
      dsimp only at hs'
      obtain ⟨Sh2, F2, R2, S2, sub, out⟩ := R.store (v := v) (fo := f2) S (hi i (by simp)) h1 q nd hf
      have h2 : ∀ a ∈ f2, (Mt (H1 a) ∧ ¬ Sh2 a ∧ a ∉ F2.flatten) ∧ (a ∈ F0.flatten ∨ H0 a = none) := fun a ha => ⟨⟨(hf a (List.mem_append_right _ ha)).1.1, out a ha⟩, (hf a (List.mem_append_right _ ha)).2⟩
      have t2 : TmpL K mg H1 Sh2 F2 ps ds vs f2 := by
        have hno : ps.all (fun p => match p with | .bor _ => false | _ => true) = true := by
          clear t h2 out S2 R2 h1 q S R hs hi hf nd
          induction is generalizing fs ds ps e3 with
          | nil => cases fs <;> cases ds <;> cases ps <;> first | rfl | cases hs'
          | cons j is ih =>
            cases fs with
            | nil => cases hs'
            | cons f fs =>
              cases ds with
              | nil => cases hs'
              | cons d ds =>
                cases ps with
                | nil => cases hs'
                | cons p ps =>
                  have hs2 : (match setSl (io.l.map (·.1)) e3 j f d p with
                    | some e1 => setAll (io.l.map (·.1)) e1 is fs ds ps
                    | none => none) = some e2 := hs'
                  cases h3 : setSl (io.l.map (·.1)) e3 j f d p with
                  | none => rw [h3] at hs2; cases hs2
                  | some e4 =>
                    rw [h3] at hs2
                    rw [List.all_cons, ih fs ds ps e4 hs2]
                    rcases (setSl_ok h3).2 with ⟨rfl, _⟩ | ⟨rfl, _⟩ <;> rfl
        clear hs' h1 h2 nd hf hs hi
        induction ps generalizing ds vs f2 with
        | nil =>
          cases ds <;> cases vs <;> first | exact t | exact t.elim
        | cons p ps ih =>
          cases ds with
          | nil => exact t.elim
          | cons d ds =>
            cases vs with
            | nil => exact t.elim
            | cons v vs =>
              obtain ⟨g1, g2, rfl, q1, t⟩ := t
              rw [List.all_cons, Bool.and_eq_true] at hno
              refine ⟨g1, g2, rfl, ?_, ih _ _ _ t (fun a ha => out a (List.mem_append_right _ ha)) hno.2⟩
              rcases q1 with q1 | ⟨z1, z2, z3⟩
              · exact .inl q1
              · refine .inr ⟨z1, z2, ?_⟩
                cases p with
                | own => exact absurd rfl z1
                | shr => obtain ⟨fq, r, q⟩ := z3; exact ⟨fq, r, fun a ha => sub a (q a ha)⟩
                | bor r => cases hno.1
      obtain ⟨Sh3, F3, R3, S3⟩ := Rel.storeAll R2 S2 (fun j hj => by rw [List.length_set]; exact hi j (List.mem_cons_of_mem _ hj)) hs' t2 (List.nodup_append.mp nd).2.1 h2
      exact ⟨Sh3, F3, R3, S3.mono fun n hn => by simpa [List.append_assoc] using hn⟩
end
section
variable {C : Dc} {X : Cx} {W : WX} {Ed : Ends} {σ : L2.St} {H H1 : Hp} {Sh Sh1 : Addr → Prop} {F F1 : List (List Addr)} {e e1 : Envv} {ms m1 m2 : List Nat} {a b c : Expr} {es : List Expr} {is : Exs} {pos pos' p tpos : Pos} {n i j l : Nat} {x y z : Str} {frs : List Bool}
theorem ev_par {tn : List Nat} : C.ex (.par tn frs is) e = (match C.evs is e with
    | .ok ds ps e1 => (match setAll C.ios e1 tn frs ds ps with | some e2 => .nx e2 | none => .bad)
    | .exc x e1 => .exc x e1
    | .bad => .bad) := rfl
/-- the values, then what is made of them -/
theorem SEs.bindP {tn : List Nat} (h : SEs C X es is) (tk : Takes X W) (R : Rel C.io X.K X.mg σ H Sh F e) (A : Aim C X W Ed (St.par tn frs is).mods H Sh F e (C.ex (.par tn frs is) e)) {Q : List V → Hp → Prop}
    (k : ∀ ds ps e1 e2 vs H1 Sh1 F1 fp, ds.length = is.len → vs.length = ds.length → Rel C.io X.K X.mg σ H1 Sh1 F1 e1 → Stp is.mods H Sh F e H1 Sh1 F1 e1 → TmpL X.K X.mg H1 Sh1 F1 ps ds vs fp → fp.Nodup → (∀ a ∈ fp, (Mt (H1 a) ∧ ¬ Sh1 a ∧ a ∉ F1.flatten) ∧ (a ∈ F.flatten ∨ H a = none)) →
      setAll C.ios e1 tn frs ds ps = some e2 → Aim C X W Ed (St.par tn frs is).mods H Sh F e (.nx e2) → Q vs H1) : cA X es σ H Q := by
  have ev := ev_par (C := C) (frs := frs) (is := is) (e := e) (tn := tn)
  rw [ev] at A
  have m0 : ∀ n ∈ is.mods, n ∈ (St.par tn frs is).mods := fun n hn => List.mem_append_left _ hn
  have nb : C.evs is e ≠ .bad := fun z => A.nb (by rw [z])
  refine cA_mono (h σ H Sh F e W tk R (fun x e' he => fun H' Sh' F' c dd R' S' z => A.ex x e' (by rw [he]) σ H' Sh' F' c dd R' (S'.mono m0) z) nb) fun vs H1 ⟨ds, ps, e1, Sh1, F1, he, hl, P⟩ => ?_
  rw [he] at A
  dsimp only at A
  obtain ⟨fp, t, nd, hf⟩ := P.tmp
  obtain ⟨fq, r⟩ := t.rp
  cases hs : setAll C.ios e1 tn frs ds ps with
  | none => rw [hs] at A; exact absurd rfl A.nb
  | some e2 =>
    rw [hs] at A
    exact k ds ps e1 e2 vs H1 Sh1 F1 fp hl r.length P.rel P.stp t nd hf hs A
/-- x, y = a, b with plain locals -/
theorem ss_par2 {px py pt : Pos} {kt k2 : Nat} {pt2 : Pos} (hc : X.calm = true) (hN : X.N.Nodup) (hi : X.N[i]? = some x) (hj : X.N[j]? = some y) (hij : i ≠ j) (hx : X.env.scope.names.lookup x = some .local) (hy : X.env.scope.names.lookup y = some .local) (h : SEs C X [a, b] is)
    (hw : swappedStores [.Tuple [.Name x px, .Name y py] kt pt] (.Tuple [a, b] k2 pt2) X.env = pure (some [x, y]) := by rfl) (hl2 : is.len = 2 := by rfl)
    (hs : swapsWithSole [.Tuple [.Name x px, .Name y py] kt pt] (.Tuple [a, b] k2 pt2) pos.line X.env = pure false := by rfl) : SS C X (.Assign [.Tuple [.Name x px, .Name y py] kt pt] (.Tuple [a, b] k2 pt2) pos) (.par [i, j] frs is) := by
  intro σ H Sh F e W Ed tk R A pins s I
  have hiσ : i < σ.length := by rw [I.len]; exact (List.getElem?_eq_some_iff.mp hi).1
  have hjσ : j < σ.length := by rw [I.len]; exact (List.getElem?_eq_some_iff.mp hj).1
  refine (cS_of (ps_par hc hN hi hj hij hx hy pa_can hw hs) ?_ : cS X _ Ed σ H) pins s I
  refine h.bindP tk R A fun ds ps e1 e2 vs H1 Sh1 F1 fp hl hv R1 S1 t nd hf hset A1 => ?_
  obtain ⟨v, w, rfl⟩ : ∃ v w, vs = [v, w] := by
    rw [hl, hl2] at hv
    match vs, hv with
    | [v, w], _ => exact ⟨v, w, rfl⟩
  obtain ⟨Sh2, F2, R2, S2⟩ := R1.storeAll S1 (by intro k hk; simp at hk; rcases hk with rfl | rfl <;> assumption) hset t nd hf
  exact ⟨v, w, rfl, A1.here R2 S2 (fun _ h => h)⟩
/-- x, y, z = a, b, c with plain locals -/
theorem ss_par3 {px py pz pt : Pos} {kt k2 : Nat} {pt2 : Pos} (hc : X.calm = true) (hN : X.N.Nodup) (hi : X.N[i]? = some x) (hj : X.N[j]? = some y) (hl : X.N[l]? = some z) (hij : i ≠ j) (hil : i ≠ l) (hjl : j ≠ l) (hx : X.env.scope.names.lookup x = some .local) (hy : X.env.scope.names.lookup y = some .local) (hz : X.env.scope.names.lookup z = some .local) (h : SEs C X [a, b, c] is)
    (hw : swappedStores [.Tuple [.Name x px, .Name y py, .Name z pz] kt pt] (.Tuple [a, b, c] k2 pt2) X.env = pure (some [x, y, z]) := by rfl) (hl2 : is.len = 3 := by rfl)
    (hs : swapsWithSole [.Tuple [.Name x px, .Name y py, .Name z pz] kt pt] (.Tuple [a, b, c] k2 pt2) pos.line X.env = pure false := by rfl) : SS C X (.Assign [.Tuple [.Name x px, .Name y py, .Name z pz] kt pt] (.Tuple [a, b, c] k2 pt2) pos) (.par [i, j, l] frs is) := by
  intro σ H Sh F e W Ed tk R A pins s I
  have hiσ : i < σ.length := by rw [I.len]; exact (List.getElem?_eq_some_iff.mp hi).1
  have hjσ : j < σ.length := by rw [I.len]; exact (List.getElem?_eq_some_iff.mp hj).1
  have hlσ : l < σ.length := by rw [I.len]; exact (List.getElem?_eq_some_iff.mp hl).1
  refine (cS_of (ps_par3 hc hN hi hj hl hij hil hjl hx hy hz pa_can hw hs) ?_ : cS X _ Ed σ H) pins s I
  refine h.bindP tk R A fun ds ps e1 e2 vs H1 Sh1 F1 fp hl' hv R1 S1 t nd hf hset A1 => ?_
  obtain ⟨v, w, u, rfl⟩ : ∃ v w u, vs = [v, w, u] := by
    rw [hl', hl2] at hv
    match vs, hv with
    | [v, w, u], _ => exact ⟨v, w, u, rfl⟩
  obtain ⟨Sh2, F2, R2, S2⟩ := R1.storeAll S1 (by intro k hk; simp at hk; rcases hk with rfl | rfl | rfl <;> assumption) hset t nd hf
  exact ⟨v, w, u, rfl, A1.here R2 S2 (fun _ h => h)⟩
/-! names that are cells: the tuple is made -/
/-- names, stored one after another -/
def NmT (X : Cx) : List Expr → List Nat → Prop
  | [], [] => True
  | .Name x _ :: ts, n :: ns => X.N.Nodup ∧ X.N[n]? = some x ∧ Loc X.env.scope x ∧ (X.fn x = true ∨ X.env.scope.names.lookup x = some .local) ∧ ((assignEach (.Name x ⟨0, 0, 0, 0⟩ :: ts) X.env).length = 0 ∨ True) ∧ NmT X ts ns
  | _, _ => False
def gNames : List Nat → TGs
  | [] => gNil
  | n :: ns => gCons (gName n) (gNames ns)
theorem gNames_of : ∀ {tn : List Nat} {vs : List V} {σ : L2.St} {H : Hp} {Q : L2.St → Hp → Prop}, vs.length = tn.length → Q (setσ σ tn vs) H → gNames tn vs σ H Q
  | [], [], _, _, _, _, q => ⟨rfl, q⟩
  | n :: ns, v :: vs, σ, H, Q, h, q => ⟨v, vs, rfl, gNames_of (by simpa using h) q⟩
  | [], _ :: _, _, _, _, h, _ => by cases h
  | _ :: _, [], _, _, _, h, _ => by cases h
theorem ss_parC {tes : List Expr} {tn : List Nat} {pt pt2 : Pos} {kt k2 : Nat} (hc : X.calm = true) (hg : PGs X tes (gNames tn)) (h : SEs C X es is) (hrange : ∀ {σ : L2.St} {H pins s}, Inv X pins σ H s → ∀ k ∈ tn, k < σ.length)
    (hn : (assignEach tes X.env).length = tn.length := by rfl) (hst : (assignEach tes X.env).findIdx? (·.1) = none := by rfl) (hlen : is.len = tn.length := by rfl) (hl : is.len ≤ 100000 := by decide)
    (hs : swapsWithSole [.Tuple tes kt pt] (.Tuple es k2 pt2) pos.line X.env = pure false := by rfl) (hw : swappedStores [.Tuple tes kt pt] (.Tuple es k2 pt2) X.env = pure none := by rfl)
    (h1 : (assignEach [.Tuple tes kt pt] X.env).map (·.2) = [assign (.Tuple tes kt pt) X.env] := by rfl) : SS C X (.Assign [.Tuple tes kt pt] (.Tuple es k2 pt2) pos) (.par tn frs is) := by
  intro σ H Sh F e W Ed tk R A pins s I
  have hr := hrange I
  refine (cS_of (ps_asg (pe_tup pa_can) (pg_tup hc hg hn hst) hs hw h1) ?_ : cS X _ Ed σ H) pins s I
  refine h.bindP tk R A fun ds ps e1 e2 vs H1 Sh1 F1 fp hl' hv R1 S1 t nd hf hset A1 => ?_
  refine ⟨by rw [hv, hl', ← sz_eq]; exact Nat.le_trans hl (by decide), fun q hq => ?_⟩
  have grow : ∀ a, H1 a ≠ none → upd H1 q (.tup vs) a = H1 a := fun a ha => upd_ne fun z => ha (by rw [z]; exact hq)
  obtain ⟨R2, S2⟩ := stp_grow (ms := []) R1 grow
  have t2 := TmpL.step R1.mu R1.sa S2 (by refine List.all_eq_true.mpr fun p hp => ?_; cases p <;> first | rfl | simp [Pv.waits]) (fun a ha => ⟨(hf a ha).1.1, (hf a ha).1.2.2⟩) t
  have hf2 : ∀ a ∈ fp, (Mt (upd H1 q (.tup vs) a) ∧ ¬ Sh1 a ∧ a ∉ F1.flatten) ∧ (a ∈ F.flatten ∨ H a = none) := fun a ha => ⟨⟨by rw [grow a (mut_ne (hf a ha).1.1)]; exact (hf a ha).1.1, (hf a ha).1.2⟩, (hf a ha).2⟩
  obtain ⟨Sh3, F3, R3, S3⟩ := R2.storeAll (S1.trans S2) hr hset t2 nd hf2
  refine ⟨q, vs, rfl, SqT.of upd_same, by rw [hv, hl', hlen], gNames_of (by rw [hv, hl', hlen]) (A1.here R3 S3 fun n hn => ?_)⟩
  simpa [St.mods] using hn
end
end DL
end
section
set_option Elab.async false
set_option linter.all false
set_option maxRecDepth 100000
/-! D layer, 18: x[i] = e, x[i][j] = e, self.f = e. -/
namespace DL
open PySem PySem.Spec PyProof.Rows L2
section
variable {K : PySem.W.Frag} {mg : Str → Option Value} {H H' : Hp}
theorem putK_here {kvs : List (Key × V)} {p : Key × V} {v : V} (h : p.1 ∉ kvs.map (·.1)) : putK (p :: kvs) p.1 v = (p.1, v) :: kvs := by
  have e : ∀ q ∈ kvs, (if q.1 = p.1 then (q.1, v) else q) = q := fun q hq => by
    rw [if_neg fun z => h (by rw [← z]; exact List.mem_map.mpr ⟨q, hq, rfl⟩)]
  unfold putK
  simp only [List.any_cons, decide_true, Bool.true_or, if_true, List.map_cons]
  rw [List.map_congr_left e, List.map_id'] <;> rfl
theorem putK_there {kvs : List (Key × V)} {p : Key × V} {k : Key} {v : V} (h : ¬ p.1 = k) : putK (p :: kvs) k v = p :: putK kvs k v := by
  unfold putK
  simp only [List.any_cons, decide_eq_false h, Bool.false_or, List.map_cons, if_neg h]
  split <;> rfl
/-- the new value takes the old one's place, or stands at the end -/
theorem put_focus {k : Key} {v : V} {d : D} {fd : List Addr} : ∀ {kvs : List (Key × V)} {vs : List D} {fq : List Addr}, (kvs.map (·.1)).Nodup → RpL K mg H vs (kvs.map (·.2)) fq → ∃ f1 fr f2, fq = f1 ++ (fr ++ f2) ∧
    ∀ H', Keep H H' → (∀ a ∈ f1 ++ f2, H' a = H a) → Rp K mg H' d v fd → (putK kvs k v).map (fun p => keyD p.1) = (putD (kvs.map fun p => keyD p.1) vs (keyD k) d).1 ∧ RpL K mg H' (putD (kvs.map fun p => keyD p.1) vs (keyD k) d).2 ((putK kvs k v).map (·.2)) (f1 ++ (fd ++ f2))
  | [], vs, fq, _, r => by
    have e := r.length
    cases vs with
    | cons d vs => cases e
    | nil =>
      obtain ⟨_, rfl⟩ := r
      exact ⟨[], [], [], rfl, fun H' kp eq rn => ⟨rfl, v, [], fd, [], rfl, by simp, rn, rfl, rfl⟩⟩
  | p :: kvs, [], fq, _, r => by cases r.1
  | p :: kvs, x :: vs, fq, nd, r => by
    obtain ⟨u, vr, f1, f2, e1, rfl, r1, r2⟩ := r
    rw [List.map_cons, List.cons.injEq] at e1
    obtain ⟨rfl, rfl⟩ := e1
    rw [List.map_cons, List.nodup_cons] at nd
    have hk : (keyD k).key = true := by cases k <;> rfl
    by_cases hs : (keyD p.1).same (keyD k) = true
    · have e := keyD_inj ((keyD_same hk).mp hs)
      subst e
      refine ⟨[], f1, f2, rfl, fun H' kp eq rn => ?_⟩
      rw [putK_here nd.1]
      simp only [List.map_cons, putD, if_pos hs]
      exact ⟨True.intro, v, _, fd, f2, rfl, rfl, rn, r2.stay kp _ fun a ha => eq a ha⟩
    · have ne : ¬ p.1 = k := fun q => hs ((keyD_same hk).mpr (by rw [q]))
      obtain ⟨g1, fr, g2, rfl, h3⟩ := put_focus (k := k) (v := v) (d := d) (fd := fd) nd.2 r2
      refine ⟨f1 ++ g1, fr, g2, by simp, fun H' kp eq rn => ?_⟩
      obtain ⟨q1, q2⟩ := h3 H' kp (fun a ha => eq a (by rcases List.mem_append.mp ha with z | z <;> simp [z])) rn
      rw [putK_there ne]
      simp only [List.map_cons, putD, if_neg hs]
      exact ⟨by rw [q1], p.2, _, f1, g1 ++ (fd ++ g2), rfl, by simp, r1.stay kp _ fun a ha => eq a (by simp [ha]), q2⟩
theorem paired_keys {α : Type} : ∀ {kvs : List (Key × V)} {vs : List (Key × Value)}, KV kvs vs → vs.map (·.1) = kvs.map (·.1)
  | _, _, .nil => rfl
  | _, _, .cons r t => by rw [List.map_cons, List.map_cons, r.1, paired_keys (α := α) t]
end
section
variable {C : Dc} {X : Cx} {W : WX} {Ed : Ends} {σ : L2.St} {H : Hp} {Sh : Addr → Prop} {F : List (List Addr)} {e : Envv} {a b c : Expr} {es : List Expr} {i j k l : Ex} {is : Exs} {ms : List Nat} {pos pos' spos : Pos}
theorem Inv.keys_nd {pins : List (Addr × Obj)} {s : Shared} {a : Addr} {kvs : List (Key × V)} (I : Inv X pins σ H s) (h : H a = some (.dK kvs)) : (kvs.map (·.1)).Nodup := by
  obtain ⟨_, _, vs, rel, dd⟩ := dk_of I.hok h
  obtain ⟨_, _, _, _, _, _, _, _, nd⟩ := dd
  rw [paired_keys (α := Unit) rel] at nd
  exact nd
/-- what a store into x makes -/
structure SetP (K : PySem.W.Frag) (mg : Str → Option Value) (H : Hp) (fp fd : List Addr) (v : V) (x' : D) (H' : Hp) : Prop where
  ex : ∃ a fp', v = .ref a ∧ a ∈ fp ∧ (∀ b, b ≠ a → H' b = H b) ∧ Mt (H' a) ∧ Rp K mg H' x' v fp' ∧ fp'.Nodup ∧ (∀ b ∈ fp', b ∈ fp ∨ b ∈ fd)
def rSet (X : Cx) : TSet := fun o i v H Q => ∃ x k d x' fp fk fd, Rp X.K X.mg H x o fp ∧ Rp X.K X.mg H k i fk ∧ Rp X.K X.mg H d v fd ∧ (fp ++ fd).Nodup ∧ setD x k d = some x' ∧ ∀ H', SetP X.K X.mg H fp fd o x' H' → Q H'
theorem set_any (hu : Xo X) : PSet X (rSet X) := by
  intro pins s σ H o i v ov iv u Q I ro ri rv h
  obtain ⟨x, k, d, x', fp, fk, fd, rx, rk, rd, nd, hs, q⟩ := h
  have split3 : ∀ {a : Addr} {f1 fr f2 : List Addr}, (a :: (f1 ++ (fr ++ f2)) ++ fd).Nodup → (a :: (f1 ++ (fd ++ f2))).Nodup ∧ (∀ b ∈ f1 ++ f2, b ≠ a) ∧ ∀ b ∈ fd, b ≠ a := fun {a f1 fr f2} nd => by
    simp only [List.cons_append, List.nodup_cons, List.nodup_append, List.mem_append, not_or] at nd ⊢
    obtain ⟨⟨⟨n1, n2, n3⟩, n4⟩, ⟨m1, ⟨m2, m3, m4⟩, m5⟩, m6, m7⟩ := nd
    refine ⟨⟨⟨n1, n4, n3⟩, m1, ⟨m6, m3, fun b hb c hc z => ?_⟩, fun b hb c hc z => ?_⟩, fun b hb z => ?_, fun b hb z => ?_⟩
    · exact m7 c (.inr (.inr hc)) b hb z.symm
    · rcases hc with hc | hc
      · exact m7 b (.inl hb) c hc z
      · exact m5 b hb c (.inr hc) z
    · subst z
      rcases hb with hb | hb
      · exact n1 hb
      · exact n3 hb
    · subst z; exact n4 hb
  cases x with
  | lst xs =>
    cases k with
    | int n =>
      obtain ⟨jj, h1, h2⟩ := Option.map_eq_some_iff.mp (show ((ixN xs.length n).map fun j => D.lst (xs.set j d)) = some x' from hs)
      subst h2
      obtain ⟨a, ws, f1, rfl, ha, rfl, rl⟩ := rx
      have hlt : jj < xs.length := by
        obtain ⟨_, _, _, h4⟩ := ixN_seq h1
        first | exact h4 | (simp only [ixN] at h1; omega)
      obtain ⟨w', g1, fr, g2, h3, rfl, h4, _, h5⟩ := rl.focus (List.getElem?_eq_getElem hlt)
      obtain ⟨n1, n2, n3⟩ := split3 nd
      rw [rk.1] at ri
      refine set_list pins s σ H _ _ _ ov iv u Q I ro ri rv ⟨a, ws, n, jj, rfl, rfl, ha, by rw [rl.length]; exact h1, q _ ⟨a, a :: (g1 ++ (fd ++ g2)), rfl, by simp, fun b hb => upd_ne hb, by rw [upd_same]; exact True.intro, ?_, n1, fun b hb => ?_⟩⟩
      · have kp := keep_upd (K := X.K) (u := .lst (ws.set jj v)) ha True.intro
        exact ⟨a, _, _, rfl, upd_same, rfl, h5 _ d v fd kp (fun b hb => upd_ne (n2 b hb)) (rd.stay kp _ fun b hb => upd_ne (n3 b hb))⟩
      · simp only [List.mem_cons, List.mem_append] at hb ⊢
        rcases hb with hb | hb | hb | hb
        · exact .inl (.inl hb)
        · exact .inl (.inr (.inl hb))
        · exact .inr hb
        · exact .inl (.inr (.inr (.inr hb)))
    | _ => simp [setD] at hs
  | dct ks xs =>
    have hs' : (if k.key && decide (ks.length < 1000000) then some (let r := putD ks xs k d; D.dct r.1 r.2) else none) = some x' := by cases k <;> exact hs
    split at hs'
    case isFalse => cases hs'
    rename_i hc
    rw [Bool.and_eq_true] at hc
    obtain ⟨kk, rfl, rfl⟩ := key_of hc.1 rk
    cases hs'
    obtain ⟨a, kvs, f1, rfl, ha, rfl, rfl, rl⟩ := rx
    obtain ⟨g1, fr, g2, rfl, hput⟩ := put_focus (k := kk) (v := v) (d := d) (fd := fd) (Inv.keys_nd I ha) rl
    obtain ⟨n1, n2, n3⟩ := split3 nd
    have hl : kvs.length < 1000000 := by simpa using hc.2
    have kp := keep_upd (K := X.K) (u := .dK (putK kvs kk v)) ha True.intro
    obtain ⟨q1, q2⟩ := hput _ kp (fun b hb => upd_ne (n2 b hb)) (rd.stay kp _ fun b hb => upd_ne (n3 b hb))
    refine set_dict (by have := hu.un; omega) pins s σ H _ _ _ ov iv u Q I ro ri rv ⟨a, _, rfl, DPut.k ha (by rw [sizeLine_eq]; omega), q _ ⟨a, a :: (g1 ++ (fd ++ g2)), rfl, by simp, fun b hb => upd_ne hb, by rw [upd_same]; exact True.intro, ⟨a, _, _, rfl, upd_same, rfl, q1, q2⟩, n1, fun b hb => ?_⟩⟩
    simp only [List.mem_cons, List.mem_append] at hb ⊢
    rcases hb with hb | hb | hb | hb
    · exact .inl (.inl hb)
    · exact .inl (.inr (.inl hb))
    · exact .inr hb
    · exact .inl (.inr (.inr (.inr hb)))
  | _ => cases k <;> simp [setD] at hs
theorem ev_setx {n : Nat} {i v : Ex} : C.ex (.setx n i v) e = Out.bind (C.ev v e) fun d p e1 => if p == .own && !(i.mods.contains n) && !(e1.getD n .un).isUn then Out.bind (C.ev i e1) fun k _ e2 => (match e2.getD n .un with
      | .ow x => (match setD x k d with | some x' => .nx (e2.set n (.ow x')) | none => .bad)
      | _ => .bad) else .bad := rfl
theorem slot_some {n : Nat} (R : Rel C.io X.K X.mg σ H Sh F e) (h : (e.getD n .un).isUn = false) : ∃ v, σ[n]? = some (some v) := by
  cases hs : e.getD n .un with
  | ow d => obtain ⟨v, h1, _⟩ := R.ow n d hs; exact ⟨v, h1⟩
  | sh d => obtain ⟨v, _, h1, _⟩ := R.sh n d hs; exact ⟨v, h1⟩
  | un => rw [hs] at h; cases h
theorem ss_setx {n : Nat} {x : Str} {i v : Ex} {ve : Expr} {xp : Pos} (hu : Xo X) (hN : X.N[n]? = some x) (hv : Vis X.env.scope x) (hi : SE C X a i) (h : SE C X ve v)
    (hs : swapsWithSole [.Subscript (.Name x xp) a spos] ve pos.line X.env = pure false := by rfl) (hw : swappedStores [.Subscript (.Name x xp) a spos] ve X.env = pure none := by rfl) (h1 : (assignEach [.Subscript (.Name x xp) a spos] X.env).map (·.2) = [assign (.Subscript (.Name x xp) a spos) X.env] := by rfl)
    (ha : ∀ v, assign (.Subscript (.Name x xp) a spos) X.env v = (do
      let ov ← holding [v] (eval (.Name x xp) X.env)
      let iv ← holding [v, ov] (eval a X.env)
      standAt spos
      holding [v, ov, iv] (setItem ov iv v)
      release [v, ov, iv] []) := by intro _; rfl)
    (hd : (x == ("__debug__" : Str)) = false := by decide) (hcd : (x == ("__classdict__" : Str)) = false := by decide) : SS C X (.Assign [.Subscript (.Name x xp) a spos] ve pos) (.setx n i v) := by
  intro σ H Sh F e W Ed tk R A
  rw [ev_setx] at A
  refine cS_of (ps_asg pe_can (pg_sub (pe_var hN hv hd hcd) pe_can (set_any hu) ha) hs hw h1) ?_
  have m1 : ∀ k ∈ v.mods, k ∈ (St.setx n i v).mods := fun k hk => List.mem_cons_of_mem _ (List.mem_append_right i.mods hk)
  have m2 : ∀ k ∈ i.mods, k ∈ (St.setx n i v).mods := fun k hk => List.mem_cons_of_mem _ (List.mem_append_left v.mods hk)
  have m3 : n ∈ (St.setx n i v).mods := List.mem_cons_self
  refine h.bindS tk R A m1 fun d p e1 w H1 Sh1 F1 P A1 => ?_
  by_cases hc : (p == Pv.own && !(i.mods.contains n) && !(e1.getD n .un).isUn) = true
  case neg => rw [if_neg hc] at A1; exact absurd rfl A1.nb
  rw [if_pos hc] at A1
  simp only [Bool.and_eq_true, Bool.not_eq_true', beq_iff_eq] at hc
  obtain ⟨⟨rfl, hni⟩, hun⟩ := hc
  have hni : n ∉ i.mods := by simpa using hni
  obtain ⟨v0, hv0⟩ := slot_some P.rel hun
  refine ⟨v0, hv0, ?_⟩
  refine hi.bindS2 tk P.rel P.stp A1 m1 m2 fun k q e2 iv H2 Sh2 F2 P2 A3 => ?_
  obtain ⟨fd, rd, ndd, hfd⟩ := P.tmp
  have rd2 : Rp X.K X.mg H2 d w fd := rd.stay (P.rel.keep P2.stp) _ fun b hb => P2.stp.kp b (hfd b hb).1.1.live (hfd b hb).1.2.2
  have tw : Tmp X.K X.mg H2 Sh2 F2 .own d w := P.rel.tmp P.tmp.tmp P2.stp rfl
  have hfd2 : ∀ b ∈ fd, (Mt (H2 b) ∧ ¬ Sh2 b ∧ b ∉ F2.flatten) ∧ (b ∈ F.flatten ∨ H b = none) := fun b hb => by
    refine ⟨⟨by rw [P2.stp.kp b (hfd b hb).1.1.live (hfd b hb).1.2.2]; exact (hfd b hb).1.1, fun z => ?_, fun z => ?_⟩, (hfd b hb).2⟩
    · rcases P2.stp.sn b z with y | y | y
      · exact (hfd b hb).1.2.1 y
      · exact (hfd b hb).1.2.2 y
      · exact mut_ne (hfd b hb).1.1 y
    · rcases P2.stp.fs b z with y | y
      · exact (hfd b hb).1.2.2 y
      · exact mut_ne (hfd b hb).1.1 y
  cases hs : e2.getD n .un with
  | un => rw [hs] at A3; exact absurd rfl A3.nb
  | sh d => rw [hs] at A3; exact absurd rfl A3.nb
  | ow x0 =>
    rw [hs] at A3
    dsimp only at A3
    cases hset : setD x0 k d with
    | none => rw [hset] at A3; exact absurd rfl A3.nb
    | some x' =>
      rw [hset] at A3
      obtain ⟨v', hv', rx⟩ := P2.rel.ow n x0 hs
      rw [hv0] at hv'
      cases hv'
      obtain ⟨fk, rk⟩ := P2.tmp.tmp.rp
      refine ⟨x0, k, d, x', F2.getD n [], fk, fd, rx, rk, rd2, List.nodup_append.mpr ⟨nd_get P2.rel.nd, ndd, fun b hb c hc z => ?_⟩, hset, fun H' S => ?_⟩
      · subst z
        exact (hfd2 b hc).1.2.2 (mem_getD hb)
      · obtain ⟨a0, fp', rfl, h0, hH, mu, rx', nd', hsub⟩ := S.ex
        have PP := mut_done (C := C) (y := .non) (w := .non) (fy := []) (fa := fd) P2.rel (P.stp.trans P2.stp) hv0 h0 hH mu rx' ⟨rfl, rfl⟩ (by rw [List.append_nil]; exact nd') (by rw [List.append_nil]; exact hsub) hfd2
        refine A3.here PP.rel PP.stp fun k hk => ?_
        rcases List.mem_cons.mp hk with z | z
        · rw [z]; exact m3
        · exact (List.mem_append.mp z).elim (m1 k) (m2 k)
/-- an own value that waits: its footprint -/
def OwnP (H0 : Hp) (F0 : List (List Addr)) (K : PySem.W.Frag) (mg : Str → Option Value) (H : Hp) (Sh : Addr → Prop) (F : List (List Addr)) (fp : List Addr) (d : D) (v : V) : Prop :=
  Rp K mg H d v fp ∧ fp.Nodup ∧ ∀ a ∈ fp, (Mt (H a) ∧ ¬ Sh a ∧ a ∉ F.flatten) ∧ (a ∈ F0.flatten ∨ H0 a = none)
theorem own_stepP {H1 H2 : Hp} {Sh1 Sh2 : Addr → Prop} {F1 F2 : List (List Addr)} {e1 e2 : Envv} {m2 : List Nat} {d : D} {w : V} {fd : List Addr} (R : Rel C.io X.K X.mg σ H1 Sh1 F1 e1) (S2 : Stp m2 H1 Sh1 F1 e1 H2 Sh2 F2 e2) (T : OwnP H F X.K X.mg H1 Sh1 F1 fd d w) : OwnP H F X.K X.mg H2 Sh2 F2 fd d w := by
  obtain ⟨rd, ndd, hfd⟩ := T
  refine ⟨rd.stay (R.keep S2) _ fun b hb => S2.kp b (hfd b hb).1.1.live (hfd b hb).1.2.2, ndd, fun b hb => ?_⟩
  refine ⟨⟨by rw [S2.kp b (hfd b hb).1.1.live (hfd b hb).1.2.2]; exact (hfd b hb).1.1, fun z => ?_, fun z => ?_⟩, (hfd b hb).2⟩
  · rcases S2.sn b z with y | y | y
    · exact (hfd b hb).1.2.1 y
    · exact (hfd b hb).1.2.2 y
    · exact mut_ne (hfd b hb).1.1 y
  · rcases S2.fs b z with y | y
    · exact (hfd b hb).1.2.2 y
    · exact mut_ne (hfd b hb).1.1 y
theorem own_step {H1 H2 : Hp} {Sh1 Sh2 : Addr → Prop} {F1 F2 : List (List Addr)} {e1 e2 : Envv} {m2 : List Nat} {d : D} {w : V} (R : Rel C.io X.K X.mg σ H1 Sh1 F1 e1) (S2 : Stp m2 H1 Sh1 F1 e1 H2 Sh2 F2 e2) (T : TmpO H F X.K X.mg H1 Sh1 F1 .own d w) : TmpO H F X.K X.mg H2 Sh2 F2 .own d w := by
  obtain ⟨fd, h⟩ := T
  exact ⟨fd, own_stepP R S2 h⟩
theorem ev_setxx {n : Nat} {i j v : Ex} : C.ex (.setxx n i j v) e = Out.bind (C.ev v e) fun d p e1 => if p == .own && !((i.mods ++ j.mods).contains n) && !(e1.getD n .un).isUn then Out.bind (C.ev i e1) fun k _ e2 => (match e2.getD n .un with
      | .ow x => (match ixD x k with
        | some y => Out.bind (C.ev j e2) fun l _ e3 => (match setD y l d with
          | some y' => (match setD x k y' with | some x' => .nx (e3.set n (.ow x')) | none => .bad)
          | none => .bad)
        | none => .bad)
      | _ => .bad) else .bad := rfl
theorem ss_setxx {n : Nat} {x : Str} {i j v : Ex} {ve : Expr} {xp sp2 : Pos} (hu : Xo X) (hN : X.N[n]? = some x) (hv : Vis X.env.scope x) (hi : SE C X a i) (hj : SE C X b j) (h : SE C X ve v) (hpx : PlainIx a := by intro _ _; rfl)
    (hs : swapsWithSole [.Subscript (.Subscript (.Name x xp) a sp2) b spos] ve pos.line X.env = pure false := by rfl) (hw : swappedStores [.Subscript (.Subscript (.Name x xp) a sp2) b spos] ve X.env = pure none := by rfl)
    (h1 : (assignEach [.Subscript (.Subscript (.Name x xp) a sp2) b spos] X.env).map (·.2) = [assign (.Subscript (.Subscript (.Name x xp) a sp2) b spos) X.env] := by rfl)
    (ha : ∀ v, assign (.Subscript (.Subscript (.Name x xp) a sp2) b spos) X.env v = (do
      let ov ← holding [v] (eval (.Subscript (.Name x xp) a sp2) X.env)
      let iv ← holding [v, ov] (eval b X.env)
      standAt spos
      holding [v, ov, iv] (setItem ov iv v)
      release [v, ov, iv] []) := by intro _; rfl)
    (hd : (x == ("__debug__" : Str)) = false := by decide) (hcd : (x == ("__classdict__" : Str)) = false := by decide) : SS C X (.Assign [.Subscript (.Subscript (.Name x xp) a sp2) b spos] ve pos) (.setxx n i j v) := by
  intro σ H Sh F e W Ed tk R A
  rw [ev_setxx] at A
  refine cS_of (ps_asg pe_can (pg_sub (pe_ix (ix_allx hu) (pe_var hN hv hd hcd) pe_can hpx) pe_can (set_any hu) ha) hs hw h1) ?_
  have m1 : ∀ k ∈ v.mods, k ∈ (St.setxx n i j v).mods := fun k hk => List.mem_cons_of_mem _ (List.mem_append_right i.mods (List.mem_append_right j.mods hk))
  have m2 : ∀ k ∈ i.mods, k ∈ (St.setxx n i j v).mods := fun k hk => List.mem_cons_of_mem _ (List.mem_append_left _ hk)
  have m4 : ∀ k ∈ j.mods, k ∈ (St.setxx n i j v).mods := fun k hk => List.mem_cons_of_mem _ (List.mem_append_right i.mods (List.mem_append_left _ hk))
  have m3 : n ∈ (St.setxx n i j v).mods := List.mem_cons_self
  refine h.bindS tk R A m1 fun d p e1 w H1 Sh1 F1 P A1 => ?_
  by_cases hc : (p == Pv.own && !((i.mods ++ j.mods).contains n) && !(e1.getD n .un).isUn) = true
  case neg => rw [if_neg hc] at A1; exact absurd rfl A1.nb
  rw [if_pos hc] at A1
  simp only [Bool.and_eq_true, Bool.not_eq_true', beq_iff_eq] at hc
  obtain ⟨⟨rfl, hni⟩, hun⟩ := hc
  have hni : n ∉ i.mods ++ j.mods := by simpa using hni
  have hnj : n ∉ j.mods := fun z => hni (List.mem_append_right _ z)
  obtain ⟨v0, hv0⟩ := slot_some P.rel hun
  refine ⟨v0, hv0, ?_⟩
  refine hi.bindS2 tk P.rel P.stp A1 m1 m2 fun k q e2 iv H2 Sh2 F2 P2 A3 => ?_
  cases hs : e2.getD n .un with
  | un => rw [hs] at A3; exact absurd rfl A3.nb
  | sh d => rw [hs] at A3; exact absurd rfl A3.nb
  | ow x0 =>
    rw [hs] at A3
    dsimp only at A3
    cases hix : ixD x0 k with
    | none => rw [hix] at A3; exact absurd rfl A3.nb
    | some y =>
      rw [hix] at A3
      dsimp only at A3
      obtain ⟨v', hv', rx⟩ := P2.rel.ow n x0 hs
      rw [hv0] at hv'
      cases hv'
      obtain ⟨fk, rk⟩ := P2.tmp.tmp.rp
      refine ⟨x0, k, y, _, fk, rx, rk, hix, fun u At => ?_⟩
      have S02 := P.stp.trans P2.stp
      refine hj.bindS2 tk P2.rel S02 A3 (fun k hk => (List.mem_append.mp hk).elim (m1 k) (m2 k)) m4 fun l q2 e3 jv H3 Sh3 F3 P3 A4 => ?_
      obtain ⟨fd, rd, ndd, hfd⟩ := own_step P2.rel P3.stp (own_step P.rel P2.stp P.tmp)
      obtain ⟨w1, w2, w3⟩ := P3.stp.fr n hnj
      have At3 : AtP X.K X.mg H3 x0 v0 (F3.getD n []) k y u := by rw [w2]; exact At.stay (P2.rel.keep P3.stp) w3
      cases hset : setD y l d with
      | none => rw [hset] at A4; exact absurd rfl A4.nb
      | some y' =>
        rw [hset] at A4
        dsimp only at A4
        cases hset2 : setD x0 k y' with
        | none => rw [hset2] at A4; exact absurd rfl A4.nb
        | some x' =>
          rw [hset2] at A4
          obtain ⟨g1, fr, g2, eF, ry, hst⟩ := At3.ex
          obtain ⟨fl, rl⟩ := P3.tmp.tmp.rp
          have ndF : (g1 ++ (fr ++ g2)).Nodup := by rw [← eF]; exact nd_get P3.rel.nd
          obtain ⟨d1, d2, d3⟩ := List.nodup_append.mp ndF
          obtain ⟨d4, d5, d6⟩ := List.nodup_append.mp d2
          have inF : ∀ b ∈ g1 ++ (fr ++ g2), b ∈ F3.flatten := fun b hb => mem_getD (by rw [eF]; exact hb)
          refine ⟨y, l, d, y', fr, fl, fd, ry, rl, rd, List.nodup_append.mpr ⟨d4, ndd, fun b hb c hc z => ?_⟩, hset, fun H' S => ?_⟩
          · subst z
            exact (hfd b hc).1.2.2 (inF b (by simp [hb]))
          · obtain ⟨a0, fp', rfl, h0, hH, mu, ry', nd', hsub⟩ := S.ex
            have h0F : a0 ∈ F3.getD n [] := by rw [eF]; simp [h0]
            have m0 := (P3.rel.mu a0 (mem_getD h0F)).1
            have kp : Keep H3 H' := .of fun b o q nm => by
              rw [hH b fun z => nm (by rw [← q, z]; exact m0)]; exact q
            have oth : ∀ b ∈ g1 ++ g2, H' b = H3 b := fun b hb => hH b fun z => by
              subst z
              rcases List.mem_append.mp hb with z | z
              · exact d3 b z b (by simp [h0]) rfl
              · exact d6 b h0 b z rfl
            have rx' := hst H' y' fp' x' kp oth ry' hset2
            have dis : ∀ b ∈ fp', b ∉ g1 ∧ b ∉ g2 := fun b hb => by
              rcases hsub b hb with z | z
              · exact ⟨fun y => d3 b y b (by simp [z]) rfl, fun y => d6 b z b y rfl⟩
              · exact ⟨fun y => (hfd b z).1.2.2 (inF b (by simp [y])), fun y => (hfd b z).1.2.2 (inF b (by simp [y]))⟩
            have nd2 : (g1 ++ (fp' ++ g2)).Nodup := List.nodup_append.mpr ⟨d1, List.nodup_append.mpr ⟨nd', d5, fun b h1 c h2 z => by subst z; exact (dis b h1).2 h2⟩, fun b h1 c h2 z => by
              subst z
              rcases List.mem_append.mp h2 with z | z
              · exact (dis b z).1 h1
              · exact d3 b h1 b (by simp [z]) rfl⟩
            have sub2 : ∀ b ∈ g1 ++ (fp' ++ g2), b ∈ F3.getD n [] ∨ b ∈ fd := fun b hb => by
              rw [eF]
              rcases List.mem_append.mp hb with z | z
              · exact .inl (by simp [z])
              · rcases List.mem_append.mp z with z | z
                · exact (hsub b z).imp (fun y => by simp [y]) id
                · exact .inl (by simp [z])
            have PP := mut_done (C := C) (y := .non) (w := .non) (fy := []) (fa := fd) P3.rel (S02.trans P3.stp) hv0 h0F hH mu rx' ⟨rfl, rfl⟩ (by rw [List.append_nil]; exact nd2) (by rw [List.append_nil]; exact sub2) hfd
            refine A4.here PP.rel PP.stp fun k hk => ?_
            rcases List.mem_cons.mp hk with z | z
            · rw [z]; exact m3
            · rcases List.mem_append.mp z with z | z
              · exact (List.mem_append.mp z).elim (m1 k) (m2 k)
              · exact m4 k z
end
end DL
end
section
set_option Elab.async false
set_option linter.all false
set_option maxRecDepth 100000
/-! D layer, 19: self.f = e, x += e, raise. -/
namespace DL
open PySem PySem.Spec PyProof.Rows L2
section
variable {K : PySem.W.Frag} {mg : Str → Option Value} {H H' : Hp}
theorem putF_focus {k : Str} {v : V} {d : D} {fd : List Addr} : ∀ {gs : List (Str × V)} {vs : List D} {fq : List Addr}, RpL K mg H vs (gs.map (·.2)) fq → ∃ f1 fr f2, fq = f1 ++ (fr ++ f2) ∧
    ∀ H', Keep H H' → (∀ a ∈ f1 ++ f2, H' a = H a) → Rp K mg H' d v fd → (L2.putF k v gs).map (·.1) = (putF (gs.map (·.1)) vs k d).1 ∧ RpL K mg H' (putF (gs.map (·.1)) vs k d).2 ((L2.putF k v gs).map (·.2)) (f1 ++ (fd ++ f2))
  | [], vs, fq, r => by
    have e := r.length
    cases vs with
    | cons d vs => cases e
    | nil =>
      obtain ⟨_, rfl⟩ := r
      exact ⟨[], [], [], rfl, fun H' kp eq rn => ⟨rfl, v, [], fd, [], rfl, by simp, rn, rfl, rfl⟩⟩
  | p :: gs, [], fq, r => by cases r.1
  | (g, y) :: gs, x :: vs, fq, r => by
    obtain ⟨u, vr, f1, f2, e1, rfl, r1, r2⟩ := r
    rw [List.map_cons, List.cons.injEq] at e1
    obtain ⟨rfl, rfl⟩ := e1
    by_cases hs : g = k
    · subst hs
      refine ⟨[], f1, f2, rfl, fun H' kp eq rn => ?_⟩
      simp only [L2.putF, if_true, List.map_cons, putF]
      exact ⟨True.intro, v, _, fd, f2, rfl, rfl, rn, r2.stay kp _ fun a ha => eq a ha⟩
    · obtain ⟨g1, fr, g2, rfl, h3⟩ := putF_focus (k := k) (v := v) (d := d) (fd := fd) r2
      refine ⟨f1 ++ g1, fr, g2, by simp, fun H' kp eq rn => ?_⟩
      obtain ⟨q1, q2⟩ := h3 H' kp (fun a ha => eq a (by rcases List.mem_append.mp ha with z | z <;> simp [z])) rn
      simp only [L2.putF, if_neg hs, List.map_cons, putF]
      exact ⟨by rw [q1], y, _, f1, g1 ++ (fd ++ g2), rfl, by simp, r1.stay kp _ fun a ha => eq a (by simp [ha]), q2⟩
end
section
variable {C : Dc} {X : Cx} {W : WX} {Ed : Ends} {σ : L2.St} {H : Hp} {Sh : Addr → Prop} {F : List (List Addr)} {e : Envv} {a b c : Expr} {es : List Expr} {i j k l : Ex} {is : Exs} {ms : List Nat} {pos pos' spos : Pos}
theorem ev_setf {n : Nat} {cls f : Str} {v : Ex} : C.ex (.setf n cls f v) e = Out.bind (C.ev v e) fun d p e1 => if p == .own then (match e1.getD n .un with
      | .ow (.obj C fs vs) => if decide (cls = C) && decide (fs.length < 1000) then .nx (e1.set n (.ow (let r := putF fs vs f d; .obj C r.1 r.2))) else .bad
      | _ => .bad) else .bad := rfl
theorem ss_setf {n : Nat} {x cls f : Str} {v : Ex} {ve : Expr} {xp : Pos} (hcl : ClsF X.K X.mg cls f) (hN : X.N[n]? = some x) (hv : Vis X.env.scope x) (h : SE C X ve v) (hs : swapsWith ve (some (.Attribute (.Name x xp) f spos)) pos.line X.env = pure false := by rfl)
    (hd : (x == ("__debug__" : Str)) = false := by decide) (hcd : (x == ("__classdict__" : Str)) = false := by decide) : SS C X (.Assign [.Attribute (.Name x xp) f spos] ve pos) (.setf n cls f v) := by
  intro σ H Sh F e W Ed tk R A
  rw [ev_setf] at A
  refine cS_of (ps_fld (pe_var hN hv hd hcd) pe_can hs) ?_
  have m1 : ∀ k ∈ v.mods, k ∈ (St.setf n cls f v).mods := fun k hk => List.mem_cons_of_mem _ hk
  have m3 : n ∈ (St.setf n cls f v).mods := List.mem_cons_self
  refine h.bindS tk R A m1 fun d p e1 w H1 Sh1 F1 P A1 => ?_
  by_cases hc : (p == Pv.own) = true
  case neg => rw [if_neg hc] at A1; exact absurd rfl A1.nb
  rw [if_pos hc] at A1
  have hp : p = .own := by simpa using hc
  subst hp
  cases hs : e1.getD n .un with
  | un => rw [hs] at A1; exact absurd rfl A1.nb
  | sh d => rw [hs] at A1; exact absurd rfl A1.nb
  | ow x0 =>
    rw [hs] at A1
    cases x0 with
    | obj C' fs vs =>
      dsimp only at A1
      by_cases hk : (decide (cls = C') && decide (fs.length < 1000)) = true
      case neg => rw [if_neg hk] at A1; exact absurd rfl A1.nb
      rw [if_pos hk] at A1
      simp only [Bool.and_eq_true, decide_eq_true_eq] at hk
      obtain ⟨rfl, hlt⟩ := hk
      obtain ⟨v0, hv0, rx⟩ := P.rel.ow n _ hs
      obtain ⟨a0, ca, dx, gs, fq, rfl, hm, hH, eF, hfs, rl⟩ := rx
      obtain ⟨c1, c2⟩ := hcl ca hm
      obtain ⟨fd, rd, ndd, hfd⟩ := P.tmp
      obtain ⟨f1, fr, f2, rfl, hput⟩ := putF_focus (k := f) (v := w) (d := d) (fd := fd) rl
      refine ⟨_, hv0, a0, ca, dx, gs, rfl, hH, c1, c2, by have := hlt; rw [← hfs, List.length_map] at this; exact this, ?_⟩
      have ndF : (a0 :: (f1 ++ (fr ++ f2))).Nodup := by rw [← eF]; exact nd_get P.rel.nd
      have inF : ∀ b ∈ a0 :: (f1 ++ (fr ++ f2)), b ∈ F1.flatten := fun b hb => mem_getD (by rw [eF]; exact hb)
      have hne : ∀ b ∈ fd, b ≠ a0 := fun b hb z => (hfd b hb).1.2.2 (inF b (by simp [z]))
      have nd1 := ndF
      rw [List.nodup_cons] at nd1
      have hne2 : ∀ b ∈ f1 ++ f2, b ≠ a0 := fun b hb z => nd1.1 (by
        subst z
        rcases List.mem_append.mp hb with z | z <;> simp [z])
      have kp := keep_upd (K := X.K) (u := .ins ca dx (L2.putF f w gs)) hH True.intro
      obtain ⟨q1, q2⟩ := hput _ kp (fun b hb => upd_ne (hne2 b hb)) (rd.stay kp _ fun b hb => upd_ne (hne b hb))
      rw [hfs] at q1 q2
      have nd2 : (a0 :: (f1 ++ (fd ++ f2))).Nodup := by
        obtain ⟨d1, d2, d3⟩ := List.nodup_append.mp nd1.2
        obtain ⟨d4, d5, d6⟩ := List.nodup_append.mp d2
        refine List.nodup_cons.mpr ⟨fun z => ?_, List.nodup_append.mpr ⟨d1, List.nodup_append.mpr ⟨ndd, d5, fun b h1 c h2 z => ?_⟩, fun b h1 c h2 z => ?_⟩⟩
        · rcases List.mem_append.mp z with z | z
          · exact nd1.1 (by simp [z])
          · rcases List.mem_append.mp z with z | z
            · exact hne _ z rfl
            · exact nd1.1 (by simp [z])
        · subst z; exact (hfd b h1).1.2.2 (inF b (by simp [h2]))
        · subst z
          rcases List.mem_append.mp h2 with z | z
          · exact (hfd b z).1.2.2 (inF b (by simp [h1]))
          · exact d3 b h1 b (by simp [z]) rfl
      have PP := mut_done (C := C) (y := .non) (w := .non) (fy := []) (fa := fd) (a0 := a0) (H' := upd H1 a0 (.ins ca dx (L2.putF f w gs))) (x' := .obj cls (putF fs vs f d).1 (putF fs vs f d).2) P.rel P.stp hv0 (by rw [eF]; simp) (fun b hb => upd_ne hb) (by rw [upd_same]; exact True.intro)
        ⟨a0, ca, dx, _, _, rfl, hm, upd_same, rfl, q1, q2⟩ ⟨rfl, rfl⟩ (by rw [List.append_nil]; exact nd2) (fun b hb => ?_) hfd
      · refine A1.here PP.rel PP.stp fun k hk => ?_
        rcases List.mem_cons.mp hk with z | z
        · rw [z]; exact m3
        · exact m1 k z
      · rw [List.append_nil] at hb
        rw [eF]
        simp only [List.mem_cons, List.mem_append] at hb ⊢
        rcases hb with hb | hb | hb | hb
        · exact .inl (.inl hb)
        · exact .inl (.inr (.inl hb))
        · exact .inr hb
        · exact .inl (.inr (.inr (.inr hb)))
    | _ => exact absurd rfl A1.nb

/-! ### x += e, ints -/
theorem ev_aug {n : Nat} {op : Operator} {v : Ex} : C.ex (.aug n op v) e = (match e.getD n .un with
      | .sh x => Out.bind (C.ev v e) fun d _ e1 => (match x, binD op x d with
        | .int _, some y => if C.ios.contains n then .bad else .nx (e1.set n (.sh y))
        | _, _ => .bad)
      | .ow x => Out.bind (C.ev v e) fun d _ e1 => (match x, binD op x d with
        | .int _, some y => if C.ios.contains n then .bad else .nx (e1.set n (.ow y))
        | _, _ => .bad)
      | .un => .bad) := rfl
theorem ss_aug {n : Nat} {x : Str} {op : Operator} {v : Ex} {ve : Expr} {g : Int → Int → Int} (ho : PIp X op (ipI g)) (hg : ∀ i j y, binD op (.int i) (.int j) = some y → y = .int (g i j)) (hg2 : ∀ i d y, binD op (.int i) d = some y → ∃ j, d = .int j) (hN : X.N.Nodup) (hn : X.N[n]? = some x) (hx : Loc X.env.scope x) (h : SE C X ve v)
    (hf : X.fn x = true ∨ X.env.scope.names.lookup x = some .local := by first | exact .inl rfl | exact .inr rfl | assumption) : SS C X (.AugAssign (.Name x pos') op ve pos) (.aug n op v) := by
  intro σ H Sh F e W Ed tk R A pins s I
  have hnσ : n < σ.length := by rw [I.len]; exact (List.getElem?_eq_some_iff.mp hn).1
  rw [ev_aug] at A
  refine (cS_of (ps_aug hN hn hx pe_can ho hf) ?_ : cS X _ Ed σ H) pins s I
  have m1 : ∀ k ∈ v.mods, k ∈ (St.aug n op v).mods := fun k hk => List.mem_cons_of_mem _ hk
  have fin : ∀ {z : Int} {u : V} {d : D} {p : Pv} {e1 : Envv} {w : V} {H1 : Hp} {Sh1 : Addr → Prop} {F1 : List (List Addr)} {sl : D → Sl} (hsl : ∀ k, sl (.int k) = .ow (.int k) ∨ sl (.int k) = .sh (.int k)), u = .int z → Post C X σ v.mods H Sh F e d p e1 w H1 Sh1 F1 →
      Aim C X W Ed (St.aug n op v).mods H Sh F e (match (D.int z : D), binD op (.int z) d with
        | .int _, some y => if C.ios.contains n then .bad else .nx (e1.set n (sl y))
        | _, _ => .bad) → ipI g u w H1 fun y H2 => Ed.nx (σ.set n (some y)) H2 := fun {z u d p e1 w H1 Sh1 F1 sl} hsl hu P A1 => by
    subst hu
    cases hb : binD op (.int z) d with
    | none => rw [hb] at A1; exact absurd rfl A1.nb
    | some y =>
      rw [hb] at A1
      dsimp only at A1
      by_cases hc : C.ios.contains n = true
      · rw [if_pos hc] at A1; exact absurd rfl A1.nb
      rw [if_neg hc] at A1
      obtain ⟨j, rfl⟩ := hg2 _ _ _ hb
      have ey := hg _ _ _ hb
      subst ey
      obtain ⟨fp, rd⟩ := P.tmp.tmp.rp
      obtain ⟨rfl, _⟩ := rd
      have hio : ∀ q ∈ C.io.l, q.1 ≠ n := fun q hq y => hc (by rw [List.contains_iff_mem]; exact List.mem_map.mpr ⟨q, hq, y⟩)
      refine ⟨z, j, rfl, rfl, ?_⟩
      obtain ⟨R2, S2⟩ := P.rel.store0 (v := .int (g z j)) (s := sl (.int (g z j))) (fp := []) (sh := []) P.stp hnσ hio (by simp) (by simp) (by simp) (by simp) (by
        rcases hsl (g z j) with q | q <;> rw [q]
        · exact ⟨rfl, rfl⟩
        · exact ⟨[], ⟨rfl, rfl⟩, by simp⟩)
      exact A1.here R2 S2 fun k hk => by
        rcases List.mem_append.mp hk with y | y
        · exact m1 k y
        · rw [List.mem_singleton.mp y]; exact List.mem_cons_self
  cases hs : e.getD n .un with
  | un => rw [hs] at A; exact absurd rfl A.nb
  | ow x0 =>
    rw [hs] at A
    obtain ⟨u, hu, rx⟩ := R.ow n x0 hs
    refine ⟨u, hu, ?_⟩
    refine h.bindS tk R A m1 fun d p e1 w H1 Sh1 F1 P A1 => ?_
    cases x0 with
    | int z => exact fin (sl := fun y => .ow y) (fun _ => .inl rfl) rx.1 P A1
    | _ => exact absurd rfl A1.nb
  | sh x0 =>
    rw [hs] at A
    obtain ⟨u, fp, hu, rx, _⟩ := R.sh n x0 hs
    refine ⟨u, hu, ?_⟩
    refine h.bindS tk R A m1 fun d p e1 w H1 Sh1 F1 P A1 => ?_
    cases x0 with
    | int z => exact fin (sl := fun y => .sh y) (fun _ => .inr rfl) rx.1 P A1
    | _ => exact absurd rfl A1.nb
theorem aug_add {n : Nat} {x : Str} {v : Ex} {ve : Expr} (hN : X.N.Nodup) (hn : X.N[n]? = some x) (hx : Loc X.env.scope x) (h : SE C X ve v)
    (hf : X.fn x = true ∨ X.env.scope.names.lookup x = some .local := by first | exact .inl rfl | exact .inr rfl | assumption) : SS C X (.AugAssign (.Name x pos') .Add ve pos) (.aug n .Add v) :=
  ss_aug ip_add (fun i j y h => by cases h; rfl) (fun i d y h => by cases d <;> first | exact ⟨_, rfl⟩ | cases h) hN hn hx h hf
theorem aug_sub {n : Nat} {x : Str} {v : Ex} {ve : Expr} (hN : X.N.Nodup) (hn : X.N[n]? = some x) (hx : Loc X.env.scope x) (h : SE C X ve v)
    (hf : X.fn x = true ∨ X.env.scope.names.lookup x = some .local := by first | exact .inl rfl | exact .inr rfl | assumption) : SS C X (.AugAssign (.Name x pos') .Sub ve pos) (.aug n .Sub v) :=
  ss_aug ip_sub (fun i j y h => by cases h; rfl) (fun i d y h => by cases d <;> first | exact ⟨_, rfl⟩ | cases h) hN hn hx h hf

/-! ### raise X('..') -/
/-- what is asked of an own error class without own __init__ -/
structure ErrC (K : PySem.W.Frag) (mg : Str → Option Value) (x : Str) : Prop where
  ex : ∃ Ca, mg x = some (.ref Ca) ∧ PySem.W.excIn K Ca [.type "ValueError", .type "Exception", .type "BaseException", .type "object"] "ValueError.__new__" = true ∧ PySem.W.keepIn K (.ref Ca) = true ∧ PySem.W.subIn K (.ref Ca) (.type "BaseException") = some true ∧ PySem.W.typeIn K (.ref Ca) = some (.type "type")
theorem ss_raise {x m : Str} {j : Nat} {p p2 cpos : Pos} (hc : X.calm = true) (E : ErrC X.K X.mg x) (hg : Gl X x) (hdb : (x == ("__debug__" : Str)) = false := by decide) : SS C X (.Raise (some (.Call (.Name x p) [.Constant (.str m) j p2] [] cpos)) none pos) (.rais x [] .nil) := by
  intro σ H Sh F e W Ed tk R A
  obtain ⟨Ca, g1, g2, g3, g4, g5⟩ := E.ex
  have ev : C.ex (.rais x [] .nil) e = .exc ⟨x, [], []⟩ e := rfl
  rw [ev] at A
  refine cS_of (ps_raise hc tk (pmk_own PySem.F.excBase_ValueError g2 g1 g3 (raises_own g4 g5) hg hdb)) ?_
  exact A.ex _ e rfl σ H Sh F (.ref Ca) none R Stp.refl ⟨Ca, rfl, g1, .inl ⟨rfl, rfl, rfl⟩⟩
end
end DL
end
section
set_option Elab.async false
set_option linter.all false
set_option maxRecDepth 100000
/-! D layer, 20: a def's body keeps its promise. -/
namespace DL
open PySem PySem.Spec PyProof.Rows L2
/-- THE RULE: a def of the text by its body, wherever no repr is under way -/
theorem fng_of {P : Program} {w : World} {K : PySem.W.Frag} {mg : Str → Option Value} {base : Heap} {k : Nat} {f : Addr} {name qual : Str} {params : Arguments} {body : List Stmt} {scope : Scope} {dV kV doc pm cdv ct oc : Value} {an od : Option Addr}
    {osl : Array (Option Value)} {N ps : List Str} {sp : Sp} (lk : K.lookup f = some ⟨oc, od, .func (PySem.W.fnOf name qual params body scope dV kV doc pm an cdv ct), osl⟩) (hcd : PySem.W.codeIn K cdv qual = true) (S : FnScope N ps scope)
    (len : ∀ vs H Q E, sp vs H Q E → vs.length = ps.length)
    (hbody : ∀ (A : Around) (outer : List Env) (s : Shared) (H : Hp) (vs : List V) (Q : VK) (E : XK), Room k (A.deeper (envOfC qual scope s.heap.objs.size f cdv)) → A.guards = some [] → sp vs H Q E →
      ∃ t, PSs (cxOf (L2.CX P w) P w K mg base N qual scope f cdv A outer s H E) body t ∧ t { nx := fun _ H' => Q .non H', rt := Q } (L2.start N vs) H) :
    FnG P w K mg base (k + 1) f (PySem.W.fnOf name qual params body scope dV kV doc pm an cdv ct) ps sp := by
  refine ⟨len, fun A outer s H args us vs Q E hr hg e0 hb r hsp => ?_⟩
  have hl := len _ _ _ _ hsp
  have KX : K.In s.heap := e0.mod.kin.keeps fun b o e => (e0.bs b o e).1
  have lim : s.heap.NoLimit := e0.mod.nolimit.keeps fun b o e => (e0.bs b o e).1
  have hkind : ∀ y ∈ ps.zip us, scope.names.lookup y.1 = some .local ∨ (scope.names.lookup y.1 = some .cell ∧ ((cellsFrom (s.heap.objs.size + 1) scope.names []).lookup y.1).isSome = true) := fun ⟨n, v⟩ hy => by
    rcases S.par n (List.of_mem_zip hy).1 with q | q
    · exact .inl q
    · exact .inr ⟨q, PySem.W.cellsFrom_some _ _ _ (.inl q)⟩
  refine codeAny_call_function hr.depth (KX _ _ lk) rfl S.co S.gen rfl (PySem.W.codeRec_of KX hcd) (hb _ _ _ _ ?_)
  refine wpAny_newFunctionEnv_cells S.kind hkind fun env he s1 x => ?_
  subst he
  refine ⟨lim.keeps x.toInCall.keep, codeAny_func ?_⟩
  obtain ⟨t, ht, hq⟩ := hbody A outer s H vs Q E (hr.deeper _) hg hsp
  have I : Inv (cxOf (L2.CX P w) P w K mg base N qual scope f cdv A outer s H E) [] (L2.start N vs) H s1 := inv_start S hr.hd e0 hl r x
  refine wpAny_mono (ht.run [] s1 (L2.start N vs) H _ I hq) (fun fl s' hs => ?_) fun e s' hs => hs
  have fin : ∀ {σ' : L2.St} {H' : Hp} {v : V} {u : Value}, Inv (cxOf (L2.CX P w) P w K mg base N qual scope f cdv A outer s H E) [] σ' H' s' → RelV v u → Q v H' → CE outer P w H s Q u s' :=
    fun {σ' H' v u} J rv q => ⟨v, H', J.os, J.bare, J.base, J.hok, rv, q⟩
  cases fl with
  | ret u =>
    obtain ⟨v, σ', H', J, rv, q⟩ := hs
    exact fin J rv q
  | next =>
    obtain ⟨σ', H', J, q⟩ := hs
    exact fin (v := V.non) (u := Value.none) J rfl q
  | brk =>
    obtain ⟨_, _, _, q⟩ := hs
    exact False.elim q
  | cont =>
    obtain ⟨_, _, _, q⟩ := hs
    exact False.elim q

section
variable {P : Program} {w : World} {K : PySem.W.Frag} {mg : Str → Option Value} {base : Heap}
theorem start_get {N : List Str} {vs : List V} {i : Nat} {v : V} (h : vs[i]? = some v) : (L2.start N vs)[i]? = some (some v) := by
  unfold L2.start
  rw [List.getElem?_append_left (by simpa using (List.getElem?_eq_some_iff.mp h).1), List.getElem?_map, h]
  rfl
theorem start_len {N : List Str} {vs : List V} (h : vs.length ≤ N.length) : (L2.start N vs).length = N.length := by
  unfold L2.start
  rw [List.length_append, List.length_map, List.length_replicate]
  omega
theorem flat_rep (n : Nat) : (List.replicate n ([] : List Addr)).flatten = [] := by simp
/-- the environment at the entry, nothing changed -/
theorem rel_start {T : List (Addr × Str)} {N : List Str} {H : Hp} {ds : List D} {vs : List V} {fq : List Addr} {fn : Fnc} (hio : fn.io = false) (hN : N.length = fn.nl) (hnp : fn.np ≤ fn.nl) (hl : ds.length = fn.np) (r : RpL K mg H ds vs fq) (hq : ∀ a ∈ fq, Live (H a)) (ht : LamX.Tabs T H) :
    Rel ⟨[], T⟩ K mg (L2.start N vs) H (· ∈ fq) (List.replicate fn.nl []) (enter fn ds) := by
  have hv := r.length
  have ls : (L2.start N vs).length = fn.nl := by rw [start_len (by omega), hN]
  have hent : enter fn ds = ds.map .sh ++ List.replicate (fn.nl - fn.np) .un := by unfold enter; rw [hio]; rfl
  have getE : ∀ i, (enter fn ds).getD i .un = (match ds[i]? with | some d => .sh d | none => .un) := fun i => by
    rw [hent, List.getD_eq_getElem?_getD]
    by_cases hi : i < ds.length
    · rw [List.getElem?_append_left (by simpa using hi), List.getElem?_map, List.getElem?_eq_getElem hi]
      rfl
    · rw [List.getElem?_append_right (by simpa using hi), List.getElem?_eq_none (by omega : ds.length ≤ i), List.getElem?_replicate]
      split <;> rfl
  refine ⟨by rw [hent, ls, List.length_append, List.length_map, List.length_replicate]; omega, by rw [ls, List.length_replicate], fun i d hd => ?_, fun i d hd => ?_, by rw [flat_rep]; exact List.nodup_nil, fun a ha => by rw [flat_rep] at ha; simp at ha, hq, fun p hp => by simp at hp, ht⟩
  · rw [getE] at hd
    cases h : ds[i]? with
    | none => rw [h] at hd; cases hd
    | some d => rw [h] at hd; cases hd
  · rw [getE] at hd
    cases h : ds[i]? with
    | none => rw [h] at hd; cases hd
    | some d' =>
      rw [h] at hd
      cases hd
      obtain ⟨v, f1, h1, h2, h3⟩ := r.get h
      exact ⟨v, f1, start_get h1, h2, h3⟩
theorem rel_startIo {T : List (Addr × Str)} {N : List Str} {H : Hp} {d0 : D} {dr : List D} {v0 : V} {vr : List V} {f0 fq : List Addr} {fn : Fnc} (hio : fn.io = true) (hN : N.length = fn.nl) (hnp : fn.np ≤ fn.nl) (hl : (d0 :: dr).length = fn.np) (r0 : Rp K mg H d0 v0 f0) (r : RpL K mg H dr vr fq) (nd : f0.Nodup) (hf : ∀ a ∈ f0, Mt (H a) ∧ a ∉ fq) (hq : ∀ a ∈ fq, Live (H a)) (ht : LamX.Tabs T H) :
    Rel ⟨[(0, v0)], T⟩ K mg (L2.start N (v0 :: vr)) H (· ∈ fq) (f0 :: List.replicate (fn.nl - 1) []) (enter fn (d0 :: dr)) := by
  have hv := r.length
  have hl' : dr.length + 1 = fn.np := hl
  have ls : (L2.start N (v0 :: vr)).length = fn.nl := by rw [start_len (by rw [List.length_cons]; omega), hN]
  have hent : enter fn (d0 :: dr) = .ow d0 :: dr.map .sh ++ List.replicate (fn.nl - fn.np) .un := by unfold enter; rw [hio]; rfl
  have getE : ∀ i, (enter fn (d0 :: dr)).getD (i + 1) .un = (match dr[i]? with | some d => .sh d | none => .un) := fun i => by
    rw [hent, List.getD_eq_getElem?_getD, List.cons_append, List.getElem?_cons_succ]
    by_cases hi : i < dr.length
    · rw [List.getElem?_append_left (by simpa using hi), List.getElem?_map, List.getElem?_eq_getElem hi]
      rfl
    · rw [List.getElem?_append_right (by simpa using hi), List.getElem?_eq_none (by omega : dr.length ≤ i), List.getElem?_replicate]
      split <;> rfl
  have get0 : (enter fn (d0 :: dr)).getD 0 .un = .ow d0 := by rw [hent]; rfl
  have fl : (f0 :: List.replicate (fn.nl - 1) ([] : List Addr)).flatten = f0 := by rw [List.flatten_cons, flat_rep, List.append_nil]
  refine ⟨by rw [hent, ls, List.length_append, List.length_cons, List.length_map, List.length_replicate]; omega, by rw [ls, List.length_cons, List.length_replicate]; omega, fun i d hd => ?_, fun i d hd => ?_, by rw [fl]; exact nd, fun a ha => by rw [fl] at ha; exact hf a ha, hq, fun p hp => ?_, ht⟩
  · cases i with
    | zero =>
      rw [get0] at hd
      cases hd
      exact ⟨v0, start_get rfl, r0⟩
    | succ i =>
      rw [getE] at hd
      cases h : dr[i]? with
      | none => rw [h] at hd; cases hd
      | some d => rw [h] at hd; cases hd
  · cases i with
    | zero => rw [get0] at hd; cases hd
    | succ i =>
      rw [getE] at hd
      cases h : dr[i]? with
      | none => rw [h] at hd; cases hd
      | some d' =>
        rw [h] at hd
        cases hd
        obtain ⟨v, f1, h1, h2, h3⟩ := r.get h
        exact ⟨v, f1, start_get (by simpa using h1), h2, h3⟩
  · have e : p = (0, v0) := by simpa using hp
    subst e
    exact start_get rfl
/-- what a body is given -/
structure Bx (X : Cx) (k : Nat) : Prop extends Xk X k where
  cm : X.calm = true
  ps : PassesOwn (model X.prog X.w) X.A X.env X.xe
/-- the context of a def's body -/
abbrev bodyCx (P : Program) (w : World) (K : PySem.W.Frag) (mg : Str → Option Value) (base : Heap) (N : List Str) (qual : Str) (scope : Scope) (f : Addr) (cd : Value) (A : Around) (outer : List Env) (s : Shared) (H : Hp) (E : XK) : Cx := cxOf (L2.CX P w) P w K mg base N qual scope f cd A outer s H E
/-- THE RULE of a def: its body is told by fn.body -/
theorem fng_body {T : List (Addr × Str)} {k : Nat} {f : Addr} {name qual : Str} {params : Arguments} {body : List Stmt} {scope : Scope} {dV kV doc pm cdv ct oc : Value} {an od : Option Addr}
    {osl : Array (Option Value)} {N ps : List Str} {fn : Fnc} {cb : Cb} (lk : K.lookup f = some ⟨oc, od, .func (PySem.W.fnOf name qual params body scope dV kV doc pm an cdv ct), osl⟩) (hcd : PySem.W.codeIn K cdv qual = true) (S : FnScope N ps scope)
    (hN : N.length = fn.nl) (hnp : fn.np ≤ fn.nl) (hps : ps.length = fn.np)
    (hb : ∀ (A : Around) (outer : List Env) (s : Shared) (H : Hp) (E : XK) (v0 : V), Bx (bodyCx P w K mg base N qual scope f cdv A outer s H E) k → SSs ⟨⟨if fn.io then [(0, v0)] else [], T⟩, cb⟩ (bodyCx P w K mg base N qual scope f cdv A outer s H E) body fn.body) :
    FnG P w K mg base (k + 1) f (PySem.W.fnOf name qual params body scope dV kV doc pm an cdv ct) ps (spD K mg T fn.np fn.io (runF cb fn)) := by
  refine fng_of lk hcd S (fun vs H Q E h => ?_) (fun A outer s H vs Q E hr hg h => ?_)
  · obtain ⟨ds, fq, f0, hl, _⟩ := h
    rw [hl, hps]
  · obtain ⟨ds, fq, f0, hl, hnb, hfq, ht, h⟩ := h
    have tk : Takes (bodyCx P w K mg base N qual scope f cdv A outer s H E) (fun cls d _ H => E cls d H) := takes_of (E₁ := fun e' s'' => L2.CX P w outer H s E e' s'') rfl rfl rfl rfl
    have bx : Bx (bodyCx P w K mg base N qual scope f cdv A outer s H E) k := ⟨⟨⟨rfl, S.nd, by have := hr.un; show (A.deeper (envOfC qual scope s.heap.objs.size f cdv)).units + 200 < cLine; omega⟩, hr, hg⟩, rfl, PassesOwn.leaving⟩
    refine ⟨_, pss_can, ?_⟩
    by_cases hio : fn.io = true
    · rw [if_pos hio] at h
      obtain ⟨d0, dr, v0, vr, rfl, rfl, r0, r, nd, hf, hret, hexc⟩ := h
      have hlen : (d0 :: dr).length = fn.np := by
        have q := r.length
        rw [List.length_cons] at hl ⊢
        omega
      have R := rel_startIo (N := N) hio hN hnp hlen r0 r nd hf hfq ht
      have hB := hb A outer s H E v0 bx
      rw [if_pos hio] at hB
      have rf : runF cb fn (d0 :: dr) = finish fn (execs fn.ios cb fn.body (enter fn (d0 :: dr))) := by unfold runF; rw [if_pos hlen]
      have ios1 : fn.ios = [0] := by unfold Fnc.ios; rw [if_pos hio]
      have fl : (f0 :: List.replicate (fn.nl - 1) ([] : List Addr)).flatten = f0 := by rw [List.flatten_cons, flat_rep, List.append_nil]
      rw [rf] at hnb
      rw [rf] at hret hexc
      rw [ios1] at hnb hret hexc
      refine hB (L2.start N (v0 :: vr)) H _ _ _ _ _ tk R ?_
      show Aim _ _ _ _ _ _ _ _ _ (execs [0] cb fn.body (enter fn (d0 :: dr)))
      generalize execs [0] cb fn.body (enter fn (d0 :: dr)) = o at hnb hret hexc
      have iosO : ∀ {e' : Envv} {l : List D}, iosOf e' fn.ios = some l → ∃ d1, e'.getD 0 .un = .ow d1 ∧ l = [d1] := fun {e' l} h => by
        rw [ios1] at h
        unfold iosOf at h
        split at h
        · rename_i d1 hd
          simp [iosOf] at h
          exact ⟨d1, hd, h.symm⟩
        · cases h
      have cp0 : ∀ {H' : Hp} {Sh' : Addr → Prop} {F' : List (List Addr)} {e' : Envv} {σ' : L2.St} {ms : List Nat}, Rel ⟨[(0, v0)], T⟩ K mg σ' H' Sh' F' e' → Stp ms H (· ∈ fq) (f0 :: List.replicate (fn.nl - 1) []) (enter fn (d0 :: dr)) H' Sh' F' e' → CallP T H f0 H' (F'.getD 0 []) := fun {H' Sh' F' e' σ' ms} R' S' =>
        ⟨fun a h1 h2 => S'.kp a h1 (by rw [fl]; exact h2), S'.al, R'.tb, nd_get R'.nd, fun a ha => ⟨(R'.mu a (mem_getD ha)).1, by have := S'.fs a (mem_getD ha); rw [fl] at this; exact this⟩⟩
      have slot0 : ∀ {H' : Hp} {Sh' : Addr → Prop} {F' : List (List Addr)} {e' : Envv} {σ' : L2.St} {d1 : D}, Rel ⟨[(0, v0)], T⟩ K mg σ' H' Sh' F' e' → e'.getD 0 .un = .ow d1 → Rp K mg H' d1 v0 (F'.getD 0 []) := fun {H' Sh' F' e' σ' d1} R' hd => by
        obtain ⟨v, h1, h2⟩ := R'.ow 0 d1 hd
        have h3 := R'.io (0, v0) (by simp)
        have h3' : σ'[0]? = some (some v0) := h3
        rw [h1] at h3'
        cases h3'
        exact h2
      refine ⟨fun z => hnb (by rw [z] <;> rfl), fun e' he σ' H' Sh' F' R' S' => ?_, fun e' he => ?_, fun e' he => ?_, fun d p e' he v σ' H' Sh' F' R' S' T' => ?_, fun x e' he σ' H' Sh' F' c dd R' S' z => ?_⟩
      · subst he
        have hfin : finish fn (.nx e') = (match iosOf e' fn.ios with | some ios => .ret .non .own ios | none => .bad) := rfl
        cases hi : iosOf e' fn.ios with
        | none => rw [hi] at hfin; exact absurd hfin hnb
        | some l =>
          rw [hi] at hfin
          obtain ⟨d1, hd1, rfl⟩ := iosO hi
          exact hret .non .own d1 .non H' _ [] hfin (by show CallP T H f0 H' (F'.getD 0 [] ++ []); rw [List.append_nil]; exact cp0 R' S') (slot0 R' hd1) ⟨rfl, rfl⟩
      · subst he; exact absurd rfl hnb
      · subst he; exact absurd rfl hnb
      · subst he
        have hfin : finish fn (.rt d p e') = retR d p (iosOf e' fn.ios) := rfl
        cases hi : iosOf e' fn.ios with
        | none => rw [hi] at hfin; cases p <;> exact absurd hfin hnb
        | some l =>
          rw [hi] at hfin
          obtain ⟨d1, hd1, rfl⟩ := iosO hi
          have c0 := cp0 R' S'
          cases p with
          | own =>
            obtain ⟨fp, rp, ndp, hfp⟩ := T'
            refine hret d .own d1 v H' _ fp hfin ?_ (slot0 R' hd1) rp
            exact ⟨c0.kp, c0.al, c0.tb, List.nodup_append.mpr ⟨c0.nd, ndp, fun a ha b hb z => by subst z; exact (hfp a hb).1.2.2 (mem_getD ha)⟩, fun a ha => by
              rcases List.mem_append.mp ha with z | z
              · exact c0.own a z
              · exact ⟨(hfp a z).1.1, by have := (hfp a z).2; rw [fl] at this; exact this⟩⟩
          | shr =>
            obtain ⟨fp, rp, hfp⟩ := T'
            exact hret d .shr d1 v H' _ fp hfin ⟨c0, fun a ha => ⟨R'.sa a (hfp a ha), fun z => (R'.mu a (mem_getD z)).2 (hfp a ha), by have := S'.sn a (hfp a ha); rw [fl] at this; exact this⟩⟩ (slot0 R' hd1) rp
          | bor n =>
            exact absurd hfin hnb
      · subst he
        have hfin : finish fn (.exc x e') = (match iosOf e' fn.ios with | some ios => .exc x ios | none => .bad) := rfl
        cases hi : iosOf e' fn.ios with
        | none => rw [hi] at hfin; exact absurd hfin hnb
        | some l =>
          rw [hi] at hfin
          obtain ⟨d1, hd1, rfl⟩ := iosO hi
          exact hexc x d1 c dd H' _ hfin (cp0 R' S') (slot0 R' hd1) z
    · have hio : fn.io = false := by simpa using hio
      rw [hio] at h
      rw [if_neg Bool.false_ne_true] at h
      obtain ⟨rfl, r, hret, hexc⟩ := h
      have hlen : ds.length = fn.np := by
        have q := r.length
        omega
      have R := rel_start (N := N) hio hN hnp hlen r hfq ht
      have hB := hb A outer s H E .non bx
      rw [hio, if_neg Bool.false_ne_true] at hB
      have rf : runF cb fn ds = finish fn (execs fn.ios cb fn.body (enter fn ds)) := by unfold runF; rw [if_pos hlen]
      have ios1 : fn.ios = [] := by unfold Fnc.ios; rw [hio] <;> rfl
      rw [rf] at hnb
      rw [rf] at hret hexc
      rw [ios1] at hnb hret hexc
      refine hB (L2.start N vs) H _ _ _ _ _ tk R ?_
      show Aim _ _ _ _ _ _ _ _ _ (execs [] cb fn.body (enter fn ds))
      generalize execs [] cb fn.body (enter fn ds) = o at hnb hret hexc
      have cp0 : ∀ {H' : Hp} {Sh' : Addr → Prop} {F' : List (List Addr)} {e' : Envv} {σ' : L2.St} {ms : List Nat}, Rel ⟨[], T⟩ K mg σ' H' Sh' F' e' → Stp ms H (· ∈ fq) (List.replicate fn.nl []) (enter fn ds) H' Sh' F' e' → CallP T H [] H' [] := fun {H' Sh' F' e' σ' ms} R' S' =>
        ⟨fun a h1 h2 => S'.kp a h1 (by rw [flat_rep]; exact h2), S'.al, R'.tb, List.nodup_nil, by simp⟩
      have iosO : ∀ {e' : Envv}, iosOf e' fn.ios = some [] := fun {e'} => by rw [ios1] <;> rfl
      refine ⟨fun z => hnb (by rw [z] <;> rfl), fun e' he σ' H' Sh' F' R' S' => ?_, fun e' he => ?_, fun e' he => ?_, fun d p e' he v σ' H' Sh' F' R' S' T' => ?_, fun x e' he σ' H' Sh' F' c dd R' S' z => ?_⟩
      · subst he
        have hfin : finish fn (.nx e') = (match iosOf e' fn.ios with | some ios => .ret .non .own ios | none => .bad) := rfl
        rw [iosO] at hfin
        exact hret .non .own .non H' [] hfin (cp0 R' S') ⟨rfl, rfl⟩
      · subst he; exact absurd rfl hnb
      · subst he; exact absurd rfl hnb
      · subst he
        have hfin : finish fn (.rt d p e') = retR d p (iosOf e' fn.ios) := rfl
        rw [iosO] at hfin
        have c0 := cp0 R' S'
        cases p with
        | own =>
          obtain ⟨fp, rp, ndp, hfp⟩ := T'
          refine hret d .own v H' fp hfin ?_ rp
          exact ⟨c0.kp, c0.al, c0.tb, ndp, fun a ha => ⟨(hfp a ha).1.1, by have := (hfp a ha).2; rw [flat_rep] at this; exact this⟩⟩
        | shr =>
          obtain ⟨fp, rp, hfp⟩ := T'
          exact hret d .shr v H' fp hfin ⟨c0, fun a ha => ⟨R'.sa a (hfp a ha), by simp, by have := S'.sn a (hfp a ha); rw [flat_rep] at this; exact this⟩⟩ rp
        | bor n => exact absurd hfin hnb
      · subst he
        have hfin : finish fn (.exc x e') = (match iosOf e' fn.ios with | some ios => .exc x ios | none => .bad) := rfl
        rw [iosO] at hfin
        exact hexc x c dd H' hfin (cp0 R' S') z
end
end DL
end
section
set_option Elab.async false
set_option linter.all false
set_option maxRecDepth 100000
/-! D layer, 21: list comprehensions. -/
namespace DL
open PySem PySem.Spec PyProof.Rows L2
/-! ### names taken away for a while -/
def wipeF (F : List (List Addr)) : List Nat → List (List Addr)
  | [] => F
  | i :: is => (wipeF F is).set i []
section
variable {io : Io} {K : PySem.W.Frag} {mg : Str → Option Value} {σ : L2.St} {H H1 H' : Hp} {Sh Sh1 Sh' : Addr → Prop} {F F1 F' : List (List Addr)} {e e1 e' : Envv} {ms : List Nat} {i : Nat}
theorem wipeS_in : ∀ {is : List Nat} {e : Envv}, i ∈ is → (wipeS e is).getD i .un = .un
  | [], _, h => by simp at h
  | j :: is, e, h => by
    unfold wipeS
    by_cases hj : i = j
    · subst hj
      by_cases hl : i < (wipeS e is).length
      · exact getD_set_self hl
      · rw [List.getD_eq_getElem?_getD, List.getElem?_eq_none (by rw [List.length_set]; omega)] <;> rfl
    · rw [getD_set_ne hj]
      exact wipeS_in ((List.mem_cons.mp h).resolve_left hj)
theorem wipeS_out : ∀ {is : List Nat} {e : Envv}, i ∉ is → (wipeS e is).getD i .un = e.getD i .un
  | [], _, _ => rfl
  | j :: is, e, h => by
    unfold wipeS
    rw [getD_set_ne fun z => h (by rw [z]; simp)]
    exact wipeS_out fun z => h (List.mem_cons_of_mem _ z)
theorem wipeF_in : ∀ {is : List Nat} {F : List (List Addr)}, i ∈ is → (wipeF F is).getD i [] = []
  | [], _, h => by simp at h
  | j :: is, F, h => by
    unfold wipeF
    by_cases hj : i = j
    · subst hj
      by_cases hl : i < (wipeF F is).length
      · exact getD_set_self hl
      · rw [List.getD_eq_getElem?_getD, List.getElem?_eq_none (by rw [List.length_set]; omega)] <;> rfl
    · rw [getD_set_ne hj]
      exact wipeF_in ((List.mem_cons.mp h).resolve_left hj)
theorem wipeF_out : ∀ {is : List Nat} {F : List (List Addr)}, i ∉ is → (wipeF F is).getD i [] = F.getD i []
  | [], _, _ => rfl
  | j :: is, F, h => by
    unfold wipeF
    rw [getD_set_ne fun z => h (by rw [z]; simp)]
    exact wipeF_out fun z => h (List.mem_cons_of_mem _ z)
theorem wipeF_mem : ∀ {is : List Nat} {F : List (List Addr)} {a : Addr}, a ∈ (wipeF F is).flatten → a ∈ F.flatten
  | [], _, _, h => h
  | j :: is, F, a, h => by
    unfold wipeF at h
    rcases mem_set h with z | z
    · simp at z
    · exact wipeF_mem z
theorem backS_in : ∀ {is : List Nat} {e0 e : Envv}, i ∈ is → i < e.length → (backS e0 e is).getD i .un = e0.getD i .un
  | [], _, _, h, _ => by simp at h
  | j :: is, e0, e, h, hl => by
    unfold backS
    have ll : ∀ is : List Nat, (backS e0 e is).length = e.length := fun is => by
      induction is with
      | nil => rfl
      | cons k ks ih => unfold backS; rw [List.length_set, ih]
    by_cases hj : i = j
    · subst hj
      exact getD_set_self (by rw [ll]; exact hl)
    · rw [getD_set_ne hj]
      exact backS_in ((List.mem_cons.mp h).resolve_left hj) hl
theorem backS_out : ∀ {is : List Nat} {e0 e : Envv}, i ∉ is → (backS e0 e is).getD i .un = e.getD i .un
  | [], _, _, _ => rfl
  | j :: is, e0, e, h => by
    unfold backS
    rw [getD_set_ne fun z => h (by rw [z]; simp)]
    exact backS_out fun z => h (List.mem_cons_of_mem _ z)
theorem backS_len (e0 e : Envv) : ∀ is : List Nat, (backS e0 e is).length = e.length
  | [] => rfl
  | k :: ks => by unfold backS; rw [List.length_set, backS_len e0 e ks]
theorem Rel.wiped (R : Rel io K mg σ H Sh F e) : ∀ {is : List Nat}, (∀ i ∈ is, i < σ.length) → (∀ i ∈ is, ∀ q ∈ io.l, q.1 ≠ i) → Rel io K mg (wipe σ is) H Sh (wipeF F is) (wipeS e is) ∧ Stp is H Sh F e H Sh (wipeF F is) (wipeS e is)
  | [], _, _ => ⟨R, Stp.refl⟩
  | i :: is, h1, h2 => by
    obtain ⟨R1, S1⟩ := Rel.wiped R (is := is) (fun j hj => h1 j (List.mem_cons_of_mem _ hj)) (fun j hj => h2 j (List.mem_cons_of_mem _ hj))
    have hi : i < (wipe σ is).length := by rw [wipe_length]; exact h1 i (by simp)
    refine ⟨R1.put hi ⟨by rw [wipe, List.length_set], fun j hj => by rw [wipe]; exact List.getElem?_set_ne (Ne.symm hj)⟩ (.inl (h2 i (by simp))) (fun _ _ _ => rfl) (fun _ h => h) (fun a ha => ⟨R1.sa a ha, .inl ha, by simp⟩) (by simp) (by simp) True.intro, ?_⟩
    refine ⟨S1.kp, S1.al, fun a ha => S1.fs a ((mem_set ha).resolve_left (by simp)), S1.ss, S1.sn, fun m hm => ?_⟩
    obtain ⟨q1, q2, q3⟩ := S1.fr m fun z => hm (List.mem_cons_of_mem _ z)
    have hmi : m ≠ i := fun z => hm (by rw [z]; simp)
    exact ⟨(getD_set_ne hmi).trans q1, (getD_set_ne hmi).trans q2, q3⟩
/-- the names come back -/
theorem Rel.back {is : List Nat} (R1 : Rel io K mg σ H1 Sh1 F1 e1) (S : Stp ms H1 Sh1 F1 e1 H' Sh' F' e') (R' : Rel io K mg (wipe σ is) H' Sh' F' e') (hw : ∀ i ∈ is, ∀ d, e1.getD i .un = .ow d → d.imm = true) (hF : ∀ i ∈ is, F'.getD i [] = []) (hi : ∀ i ∈ is, i < σ.length) :
    Rel io K mg σ H' Sh' F' (backS e1 e' is) := by
  have le : e'.length = σ.length := by rw [R'.le, wipe_length]
  have k := R1.keep S
  refine ⟨by rw [backS_len, le], by rw [R'.lF, wipe_length], fun i d hd => ?_, fun i d hd => ?_, R'.nd, R'.mu, R'.sa, R1.io, R'.tb⟩
  · by_cases him : i ∈ is
    · rw [backS_in him (by rw [le]; exact hi i him)] at hd
      obtain ⟨v, h1, h2⟩ := R1.ow i d hd
      have z := Rp.imm d (hw i him d hd) h2
      rw [z] at h2
      exact ⟨v, h1, by rw [hF i him]; exact h2.stay k _ (by simp)⟩
    · rw [backS_out him] at hd
      obtain ⟨v, h1, h2⟩ := R'.ow i d hd
      exact ⟨v, by rw [← wipe_out him]; exact h1, h2⟩
  · by_cases him : i ∈ is
    · rw [backS_in him (by rw [le]; exact hi i him)] at hd
      obtain ⟨v, fp, h1, h2, h3⟩ := R1.sh i d hd
      exact ⟨v, fp, h1, h2.stay k _ fun a ha => S.kp a (R1.sa a (h3 a ha)) fun z => (R1.mu a z).2 (h3 a ha), fun a ha => S.ss a (h3 a ha)⟩
    · rw [backS_out him] at hd
      obtain ⟨v, fp, h1, h2, h3⟩ := R'.sh i d hd
      exact ⟨v, fp, by rw [← wipe_out him]; exact h1, h2, h3⟩
/-- an object that is nobody's is changed -/
theorem Rel.other {H2 : Hp} {D : Addr} (R : Rel io K mg σ H Sh F e) (hD : ¬ Sh D) (hF : D ∉ F.flatten) (mu : Mt (H D)) (hH : ∀ a, a ≠ D → H2 a = H a) : Rel io K mg σ H2 Sh F e := by
  have k : Keep H H2 := .of fun b o q nm => (hH b fun z => nm (by rw [← q, z]; exact mu)).trans q
  have eF : ∀ a ∈ F.flatten, H2 a = H a := fun a ha => hH a fun z => hF (by rw [← z]; exact ha)
  have eS : ∀ a, Sh a → H2 a = H a := fun a ha => hH a fun z => hD (by rw [← z]; exact ha)
  refine ⟨R.le, R.lF, fun i d hd => ?_, fun i d hd => ?_, R.nd, fun a ha => by rw [eF a ha]; exact R.mu a ha, fun a ha => by rw [eS a ha]; exact R.sa a ha, R.io, R.tb.ext2 k fun b ps q => (hH b fun z => ?_).trans q⟩
  · obtain ⟨v, h1, h2⟩ := R.ow i d hd
    exact ⟨v, h1, h2.stay k _ fun a ha => eF a (mem_getD ha)⟩
  · obtain ⟨v, fp, h1, h2, h3⟩ := R.sh i d hd
    exact ⟨v, fp, h1, h2.stay k _ fun a ha => eS a (h3 a ha), h3⟩
  · rw [← z, q] at mu; exact mu
end

/-! ### tests of a clause -/
def cTs (ifs : List Expr) (X : Cx) (a : Expr) : TT := fun σ H Q => ∀ pins s, Inv X pins σ H s →
    wpAny (model X.prog X.w) X.A (forIn ifs true fun c r => if r = true then do let ok ← isTrue c X.env (eval c X.env); pure (ForInStep.yield ok) else pure (ForInStep.yield r)) (TP X pins σ Q) X.xe s
theorem pts_can {ifs : List Expr} {X : Cx} {a : Expr} : PTs X ifs (cTs ifs X a) := ⟨fun pins s σ H Q I h => h pins s I⟩
abbrev STs (C : Dc) (X : Cx) (ifs : List Expr) (i : Ex) : Prop := STof (cTs ifs) C X (.Constant .none 0 ⟨0, 0, 0, 0⟩) i
section
variable {C : Dc} {X : Cx} {W : WX} {Ed : Ends} {σ : L2.St} {H : Hp} {Sh : Addr → Prop} {F : List (List Addr)} {e : Envv} {a b c : Expr} {es : List Expr} {i j k l : Ex} {is : Exs} {ms : List Nat} {pos pos' spos : Pos} {ifs : List Expr}
theorem cTs_mono {Q Q' : Bool → Hp → Prop} (h : cTs ifs X a σ H Q) (f : ∀ v H, Q v H → Q' v H) : cTs ifs X a σ H Q' := fun pins s I => thn (h pins s I) fun _ _ z => tp_mono z f
theorem cTs_of {t : TT} (h : PTs X ifs t) {Q : Bool → Hp → Prop} (q : t σ H Q) : cTs ifs X a σ H Q := fun pins s I => h.run pins s σ H Q I q
theorem sts_nil : STs C X [] (.con (.bl true)) := fun σ H Sh F e W tk R hx hd hb => cTs_of pts_nil (show PostT C X σ _ H Sh F e true H from ⟨.own, e, Sh, F, rfl, R, Stp.refl⟩)
theorem sts_one (h : ST C X c i) : STs C X [c] i := fun σ H Sh F e W tk R hx hd hb => cTs_of (pts_one pt_can) (h σ H Sh F e W tk R hx hd hb)
theorem takes_none {X : Cx} : Takes X (fun _ _ _ _ => False) := fun _ _ ⟨_, _, _, _, _, _, _, _, _, _, _, _, _, _, _, _, w⟩ => w.elim

/-! ### [e for t in it if c] -/
theorem ev_comp {t : Tg} {it : It} {ic ie : Ex} : C.ev (.comp t it ic ie) e = (match C.evI it e with
    | .ok ds ps e1 => if wipeOk C.ios e1 t.slots && ps.all (·.waits (t.slots ++ (ic.mods ++ ie.mods))) then (match compLoop C.ios t t.slots (C.ev ic) (C.ev ie) ds (wipeS e1 t.slots) [] with
      | some (acc, e2) => .ok (.lst acc) .own (backS e1 e2 t.slots)
      | none => .bad) else .bad
    | .exc x e1 => .exc x e1
    | .bad => .bad) := rfl
/-- the contexts of a comprehension's block -/
abbrev Blk (X : Cx) (scope : Scope) (P : Cx → Prop) : Prop := ∀ (s : Shared) (H : Hp) (Ca : Addr) (cl : List (Str × Addr)) (fp : List Addr), P (X.blk s H scope (compEnvC scope cl Ca X.env) fp)
theorem se_compV {elt tg iter : Expr} {scope : Scope} {own : List (Str × Nat)} {t : Tg} {it : It} {ic ie : Ex} {Q : VK} (hi : SI C X tg iter it) (ok : BlkOk X.N X.env.scope scope own)
    (hg : Blk X scope fun Y => STg C Y tg t) (ht : Blk X scope fun Y => STs C Y ifs ic) (he : Blk X scope fun Y => SE C Y elt ie) (hown : own.map (·.2) = t.slots)
    (tk : Takes X W) (R : Rel C.io X.K X.mg σ H Sh F e) (hx : ∀ x e', C.ev (.comp t it ic ie) e = .exc x e' → XH C X W σ (Ex.comp t it ic ie).mods H Sh F e x e') (hb : C.ev (.comp t it ic ie) e ≠ .bad) (hlen : ∀ i ∈ t.slots, i < σ.length)
    (hQ : ∀ acc e' v H' Sh' F', C.ev (.comp t it ic ie) e = .ok (.lst acc) .own e' → Post C X σ (Ex.comp t it ic ie).mods H Sh F e (.lst acc) .own e' v H' Sh' F' → Q v H') :
    ∀ (gb : V → L2.St → Hp → (L2.St → Hp → Prop) → Prop) (tb : TT) (eb : TE),
      (∀ v σ H Q, (∀ s H0 Ca cl fp, cG (X.blk s H0 scope (compEnvC scope cl Ca X.env) fp) tg v σ H Q) → gb v σ H Q) → (∀ σ H Q, (∀ s H0 Ca cl fp, cTs ifs (X.blk s H0 scope (compEnvC scope cl Ca X.env) fp) (.Constant .none 0 ⟨0, 0, 0, 0⟩) σ H Q) → tb σ H Q) → (∀ σ H Q, (∀ s H0 Ca cl fp, cR (X.blk s H0 scope (compEnvC scope cl Ca X.env) fp) elt σ H Q) → eb σ H Q) →
      tLc (cI X tg iter) gb tb eb (own.map (·.2)) σ H Q := by
  intro gb tb eb hgb htb heb
  have ev := ev_comp (C := C) (t := t) (it := it) (ic := ic) (ie := ie) (e := e)
  have m0 : ∀ n ∈ it.mods, n ∈ (Ex.comp t it ic ie).mods := fun n hn => List.mem_append_left _ hn
  have m1 : ∀ n ∈ t.slots, n ∈ (Ex.comp t it ic ie).mods := fun n hn => List.mem_append_right _ (List.mem_append_left _ hn)
  have m2 : ∀ n ∈ ic.mods, n ∈ (Ex.comp t it ic ie).mods := fun n hn => List.mem_append_right _ (List.mem_append_right _ (List.mem_append_left _ hn))
  have m3 : ∀ n ∈ ie.mods, n ∈ (Ex.comp t it ic ie).mods := fun n hn => List.mem_append_right _ (List.mem_append_right _ (List.mem_append_right _ hn))
  have nb : C.evI it e ≠ .bad := fun z => hb (by rw [ev, z])
  show cI X tg iter σ H _
  have key := hi σ H Sh F e W tk R (fun x e' he => fun H' Sh' F' c dd R' S' z => hx x e' (by rw [ev, he]) H' Sh' F' c dd R' (S'.mono m0) z) nb
  intro pins s I
  refine thn (key pins s I) fun v s1 h1 => thn h1 fun itv s2 h2 => ?_
  obtain ⟨it0, fp0, tn, J, H1, e0, I2, T, st2, f2, ds, ps, e1, Sh1, F1, inv, he1, R1, S1, jw, hinv⟩ := h2
  refine ⟨it0, fp0, tn, J, H1, e0, I2, T, st2, f2, ?_⟩
  rw [he1] at ev
  dsimp only at ev
  by_cases hw : (wipeOk C.ios e1 t.slots && ps.all (·.waits (t.slots ++ (ic.mods ++ ie.mods)))) = true
  case neg => rw [if_neg hw] at ev; exact absurd ev hb
  rw [if_pos hw] at ev
  rw [Bool.and_eq_true] at hw
  obtain ⟨hwo, hw⟩ := hw
  have hio : ∀ i ∈ t.slots, ∀ q ∈ C.io.l, q.1 ≠ i := fun i hi q hq z => by
    have y := List.all_eq_true.mp hwo i hi
    rw [Bool.and_eq_true] at y
    have y1 : C.ios.contains i = false := by simpa using y.1
    have y2 : i ∈ C.ios := List.mem_map.mpr ⟨q, hq, z⟩
    rw [← List.contains_iff_mem, y1] at y2
    cases y2
  have himm : ∀ i ∈ t.slots, ∀ d, e1.getD i .un = .ow d → d.imm = true := fun i hi d hd => by
    have y := List.all_eq_true.mp hwo i hi
    rw [Bool.and_eq_true, hd] at y
    exact y.2
  have waits_sub : ∀ {ms : List Nat}, (∀ n ∈ ms, n ∈ t.slots ++ (ic.mods ++ ie.mods)) → ps.all (·.waits ms) = true := fun {ms} hms => by
    refine List.all_eq_true.mpr fun p hp => ?_
    have z := List.all_eq_true.mp hw p hp
    cases p with
    | own => rfl
    | shr => rfl
    | bor r =>
      have z' : (!(t.slots ++ (ic.mods ++ ie.mods)).contains r) = true := z
      show (!ms.contains r) = true
      simp only [Bool.not_eq_true', List.contains_eq_mem, decide_eq_false_iff_not] at z' ⊢
      exact fun y => z' (hms r y)
  rw [hown]
  intro D hD
  have hDH : H D = none := by
    by_cases q : H D = none
    · exact q
    · exact absurd hD (S1.al D q)
  -- the first state
  obtain ⟨Rw, Sw⟩ := R1.wiped hlen hio
  have grow : ∀ a, H1 a ≠ none → upd H1 D (.lst []) a = H1 a := fun a ha => upd_ne fun z => ha (by rw [z]; exact hD)
  obtain ⟨R0, S0⟩ := stp_grow (ms := []) Rw grow
  have SS0 : Stp (Ex.comp t it ic ie).mods H Sh F e (upd H1 D (.lst [])) Sh1 (wipeF F1 t.slots) (wipeS e1 t.slots) := ((S1.trans Sw).trans S0).mono fun n hn => by
    rcases List.mem_append.mp hn with z | z
    · exact (List.mem_append.mp z).elim (m0 n) (m1 n)
    · simp at z
  have inv0 : inv (upd H1 D (.lst [])) Sh1 (wipeF F1 t.slots) := jw.step (jw.step hinv R1.mu R1.sa Sw (waits_sub fun n hn => List.mem_append_left _ hn)) Rw.mu Rw.sa S0 (waits_sub (by simp))
  have T0 : TmpO H F X.K X.mg (upd H1 D (.lst [])) Sh1 (wipeF F1 t.slots) .own (.lst []) (.ref D) := ⟨[D], ⟨D, [], [], rfl, upd_same, rfl, rfl, rfl⟩, by simp, fun a ha => by
    have z : a = D := by simpa using ha
    subst z
    exact ⟨⟨by rw [upd_same]; exact True.intro, fun y => (R1.sa a y).1 hD, fun y => mut_ne (Rw.mu a y).1 hD⟩, .inr hDH⟩⟩
  let MS : List Nat := t.slots ++ (ic.mods ++ ie.mods)
  have mall : ∀ n ∈ it.mods ++ MS, n ∈ (Ex.comp t it ic ie).mods := fun n hn => hn
  let Iv : Nat → Hp → Prop := fun i H' => ∃ acc e' Sh' F', Rel C.io X.K X.mg (wipe σ t.slots) H' Sh' F' e' ∧ Stp MS H1 Sh1 F1 e1 H' Sh' F' e' ∧ inv H' Sh' F' ∧ TmpO H F X.K X.mg H' Sh' F' .own (.lst acc) (.ref D) ∧ (∀ n ∈ t.slots, F'.getD n [] = []) ∧
    compLoop C.ios t t.slots (C.ev ic) (C.ev ie) (ds.drop i) e' acc = compLoop C.ios t t.slots (C.ev ic) (C.ev ie) ds (wipeS e1 t.slots) []
  have hi0 : Iv 0 (upd H1 D (.lst [])) := ⟨[], _, Sh1, _, R0, (Sw.trans S0).mono fun n hn => by
    rcases List.mem_append.mp hn with z | z
    · exact List.mem_append_left _ z
    · simp at z, inv0, T0, fun n hn => wipeF_in hn, by rw [List.drop_zero]⟩
  refine ⟨fun i m H' => m = ds.length - i ∧ i ≤ ds.length ∧ Iv i H', ⟨ds.length, by simp, Nat.zero_le _, hi0⟩, ?_⟩
  rintro i m H' ⟨rfl, hile, acc, e', Sh', F', R', S', hinv', T', hF', ho⟩
  by_cases hlt : i < ds.length
  case neg =>
    have ei : i = ds.length := by omega
    subst ei
    rw [List.drop_length] at ho
    have ho' : some (acc, e') = compLoop C.ios t t.slots (C.ev ic) (C.ev ie) ds (wipeS e1 t.slots) [] := ho
    rw [← ho'] at ev
    refine .inl ⟨jw.stop hinv', hQ acc _ (.ref D) H' Sh' F' ev ⟨R1.back S' R' himm hF' hlen, ?_, T'⟩⟩
    have S2 := S1.trans S'
    refine ⟨S2.kp, S2.al, S2.fs, S2.ss, S2.sn, fun n hn => ?_⟩
    obtain ⟨q1, q2, q3⟩ := S2.fr n fun z => hn (mall n z)
    exact ⟨(backS_out fun z => hn (m1 n z)).trans q1, q2, q3⟩
  refine .inr ⟨jw.go hinv' hlt, Iv (i + 1), fun H3 h3 => ⟨ds.length - (i + 1), by omega, rfl, hlt, h3⟩, fun x H2 y => ?_⟩
  have hd : ds[i]? = some ds[i] := List.getElem?_eq_getElem hlt
  rw [List.drop_eq_getElem_cons hlt] at ho
  have ho' : (match setTg C.ios e' t ds[i] with
    | none => none
    | some e1 => match C.ev ic e1 with
      | .ok (.bl true) _ e2 => match C.ev ie e2 with
        | .ok y .own e3 => if acc.length < SZ then compLoop C.ios t t.slots (C.ev ic) (C.ev ie) (ds.drop (i + 1)) (wipeS e3 t.slots) (acc ++ [y]) else none
        | _ => none
      | .ok (.bl false) _ e2 => compLoop C.ios t t.slots (C.ev ic) (C.ev ie) (ds.drop (i + 1)) (wipeS e2 t.slots) acc
      | _ => none) = compLoop C.ios t t.slots (C.ev ic) (C.ev ie) ds (wipeS e1 t.slots) [] := ho
  have nbl : compLoop C.ios t t.slots (C.ev ic) (C.ev ie) ds (wipeS e1 t.slots) [] ≠ none := fun z => by
    rw [z] at ev
    exact hb ev
  obtain ⟨grw, tx⟩ := jw.yld hinv' R'.sa y hd
  obtain ⟨R2, S2⟩ := stp_grow (ms := []) R' grw
  have inv2 := jw.step hinv' R'.mu R'.sa S2 (waits_sub (by simp))
  cases hst : setTg C.ios e' t ds[i] with
  | none => rw [hst] at ho'; exact absurd ho'.symm nbl
  | some e4 =>
    rw [hst] at ho'
    dsimp only at ho'
    refine hgb _ _ _ _ fun s0 H0 Ca cl fp => ?_
    have g := hg s0 H0 Ca cl fp (wipe σ t.slots) H2 Sh' F' e' e4 ds[i] x R2 tx hst
    intro pins3 s3 u3 I3 r3
    refine thn (g pins3 s3 u3 I3 r3) fun _ s4 ⟨σ4, H4, I4, q4⟩ => ⟨σ4, H4, I4, ?_⟩
    obtain ⟨rfl, sb, F4, R4, S4⟩ := q4
    have hwp := sb.wipe
    refine ⟨hwp, ?_⟩
    have inv4 := jw.step inv2 R2.mu R2.sa S4 (waits_sub fun n hn => List.mem_append_left _ hn)
    obtain ⟨fpD, TP'⟩ := T'
    have T4 : OwnP H F X.K X.mg H4 Sh' F4 fpD (.lst acc) (.ref D) := own_stepP R2 S4 (own_stepP R' S2 TP')
    have S14 : Stp MS H1 Sh1 F1 e1 H4 Sh' F4 e4 := ((S'.trans S2).trans S4).mono (ms2 := MS) fun n hn => by
      rcases List.mem_append.mp hn with z | z
      · rcases List.mem_append.mp z with z | z
        · exact z
        · simp at z
      · exact List.mem_append_left _ z
    -- back to the state without the block's names
    have close : ∀ {H5 : Hp} {Sh5 : Addr → Prop} {F5 : List (List Addr)} {e5 : Envv} {acc5 : List DL.D}, Rel C.io X.K X.mg σ4 H5 Sh5 F5 e5 → Stp MS H1 Sh1 F1 e1 H5 Sh5 F5 e5 → inv H5 Sh5 F5 → TmpO H F X.K X.mg H5 Sh5 F5 .own (.lst acc5) (.ref D) →
        compLoop C.ios t t.slots (C.ev ic) (C.ev ie) (ds.drop (i + 1)) (wipeS e5 t.slots) acc5 = compLoop C.ios t t.slots (C.ev ic) (C.ev ie) ds (wipeS e1 t.slots) [] → Iv (i + 1) H5 := fun {H5 Sh5 F5 e5 acc5} R5 S5 i5 T5 h5 => by
      have hl4 : ∀ n ∈ t.slots, n < σ4.length := fun n hn => by rw [sb.1, wipe_length]; exact hlen n hn
      obtain ⟨R6, S6⟩ := R5.wiped hl4 hio
      rw [hwp] at R6
      refine ⟨acc5, _, Sh5, _, R6, (S5.trans S6).mono (ms2 := MS) fun n hn => ?_, jw.step i5 R5.mu R5.sa S6 (waits_sub fun n hn => List.mem_append_left _ hn), own_step R5 S6 T5, fun n hn => wipeF_in hn, h5⟩
      rcases List.mem_append.mp hn with z | z
      · exact z
      · exact List.mem_append_left _ z
    have nb1 : C.ev ic e4 ≠ .bad := fun z => by rw [z] at ho'; exact nbl ho'.symm
    have nx1 : ∀ x e', C.ev ic e4 ≠ .exc x e' := fun x e' z => by rw [z] at ho'; exact nbl ho'.symm
    refine htb _ _ _ fun s0 H0 Ca cl fp => ?_
    refine cTs_mono (ht s0 H0 Ca cl fp σ4 H4 Sh' F4 e4 (fun _ _ _ _ => False) takes_none R4 (fun x e' he => absurd he (nx1 x e')) (fun d p e' he => ?_) nb1) fun k H5 ⟨p, e5, Sh5, F5, he5, R5, S5⟩ => ?_
    · rw [he] at ho'
      cases d with
      | bl k => exact ⟨k, rfl⟩
      | _ => exact absurd ho'.symm nbl
    rw [he5] at ho'
    have S15 : Stp MS H1 Sh1 F1 e1 H5 Sh5 F5 e5 := (S14.trans S5).mono (ms2 := MS) fun n hn => by
      rcases List.mem_append.mp hn with z | z
      · exact z
      · exact List.mem_append_right _ (List.mem_append_left _ z)
    have inv5 := jw.step inv4 R4.mu R4.sa S5 (waits_sub fun n hn => List.mem_append_right _ (List.mem_append_left _ hn))
    have T5 := own_stepP R4 S5 T4
    cases k with
    | false =>
      rw [if_neg Bool.false_ne_true]
      exact close R5 S15 inv5 ⟨_, T5⟩ ho'
    | true =>
      rw [if_pos rfl]
      dsimp only at ho'
      have nb2 : C.ev ie e5 ≠ .bad := fun z => by rw [z] at ho'; exact nbl ho'.symm
      have nx2 : ∀ x e', C.ev ie e5 ≠ .exc x e' := fun x e' z => by rw [z] at ho'; exact nbl ho'.symm
      refine heb _ _ _ fun s0 H0 Ca cl fp => ?_
      refine cR_mono (he s0 H0 Ca cl fp σ4 H5 Sh5 F5 e5 (fun _ _ _ _ => False) takes_none R5 (fun x e' he => absurd he (nx2 x e')) nb2) fun v H6 ⟨d, p, e6, Sh6, F6, he6, P⟩ => ?_
      rw [he6] at ho'
      cases p with
      | shr => exact absurd ho'.symm nbl
      | bor r => exact absurd ho'.symm nbl
      | own =>
        dsimp only at ho'
        by_cases hsz : acc.length < SZ
        case neg => rw [if_neg hsz] at ho'; exact absurd ho'.symm nbl
        rw [if_pos hsz] at ho'
        have R6 : Rel C.io X.K X.mg σ4 H6 Sh6 F6 e6 := P.rel
        have S56 : Stp ie.mods H5 Sh5 F5 e5 H6 Sh6 F6 e6 := P.stp
        have inv6 := jw.step inv5 R5.mu R5.sa S56 (waits_sub fun n hn => List.mem_append_right _ (List.mem_append_right _ hn))
        have T6 := own_stepP R5 S56 T5
        have S16 : Stp MS H1 Sh1 F1 e1 H6 Sh6 F6 e6 := (S15.trans S56).mono (ms2 := MS) fun n hn => by
          rcases List.mem_append.mp hn with z | z
          · exact z
          · exact List.mem_append_right _ (List.mem_append_right _ z)
        obtain ⟨⟨D', vs, fq, hDD, hHD, rfl, rl⟩, nd6, hf6⟩ := T6
        cases hDD
        obtain ⟨fy, ry, ndy, hfy⟩ := P.tmp
        refine ⟨vs, hHD, by rw [rl.length, ← sz_eq]; exact hsz, ?_⟩
        have hDF := hf6 D (by simp)
        -- the new item is none of the list's
        have fresh : ∀ b ∈ fy, b ∉ (D :: fq) := fun b hb z => by
          have l5 : Live (H5 b) ∧ b ∉ F5.flatten := ⟨(T5.2.2 b z).1.1.live, (T5.2.2 b z).1.2.2⟩
          rcases (hfy b hb).2 with y | y
          · exact l5.2 y
          · exact l5.1.1 y
        have hneD : ∀ a, a ≠ D → upd H6 D (.lst (vs ++ [v])) a = H6 a := fun a ha => upd_ne ha
        have mu6 : Mt (H6 D) := hDF.1.1
        have kp := keep_upd (K := X.K) (u := .lst (vs ++ [v])) hHD True.intro
        have R7 := R6.other hDF.1.2.1 hDF.1.2.2 mu6 hneD
        have nd6' := nd6
        rw [List.nodup_cons] at nd6'
        have S67 : Stp MS H1 Sh1 F1 e1 (upd H6 D (.lst (vs ++ [v]))) Sh6 F6 e6 := by
          have hne : ∀ a, H1 a ≠ none → a ≠ D := fun a ha z => ha (by rw [z]; exact hD)
          refine ⟨fun a h1 h2 => (hneD a (hne a h1.1)).trans (S16.kp a h1 h2), fun a h1 => ?_, S16.fs, S16.ss, S16.sn, fun n hn => ?_⟩
          · rw [hneD a (hne a h1)]; exact S16.al a h1
          · obtain ⟨q1, q2, q3⟩ := S16.fr n hn
            exact ⟨q1, q2, fun a ha => (hneD a (hne a (mut_ne (R1.mu a (mem_getD ha)).1))).trans (q3 a ha)⟩
        refine close R7 S67 ?_ ⟨D :: (fq ++ fy), ⟨D, vs ++ [v], fq ++ fy, rfl, upd_same, rfl, (rl.stay kp _ fun b hb => hneD b fun z => nd6'.1 (by rw [← z]; exact hb)).app (RpL.one (ry.stay kp _ fun b hb => hneD b fun z => fresh b hb (by rw [z]; simp)))⟩, ?_, fun b hb => ?_⟩ ho'
        · exact jw.step hinv R1.mu R1.sa S67 (waits_sub fun n hn => hn)
        · rw [List.nodup_cons]
          refine ⟨fun z => ?_, List.nodup_append.mpr ⟨nd6'.2, ndy, fun b h1 c h2 z => by subst z; exact fresh b h2 (List.mem_cons_of_mem _ h1)⟩⟩
          rcases List.mem_append.mp z with z | z
          · exact nd6'.1 z
          · exact fresh D z (by simp)
        · have muU : Mt (upd H6 D (.lst (vs ++ [v])) b) ∨ b ≠ D := by
            by_cases q : b = D
            · rw [q, upd_same]; exact .inl True.intro
            · exact .inr q
          have base : ∀ {b : Addr}, ((Mt (H6 b) ∧ ¬ Sh6 b ∧ b ∉ F6.flatten) ∧ (b ∈ F.flatten ∨ H b = none)) → (Mt (upd H6 D (.lst (vs ++ [v])) b) ∧ ¬ Sh6 b ∧ b ∉ F6.flatten) ∧ (b ∈ F.flatten ∨ H b = none) := fun {b} h => by
            by_cases q : b = D
            · subst q; exact ⟨⟨by rw [upd_same]; exact True.intro, h.1.2⟩, h.2⟩
            · exact ⟨⟨by rw [hneD b q]; exact h.1.1, h.1.2⟩, h.2⟩
          rcases List.mem_cons.mp hb with z | z
          · rw [z]; exact base hDF
          · rcases List.mem_append.mp z with z | z
            · exact base (hf6 b (List.mem_cons_of_mem _ z))
            · refine base ⟨(hfy b z).1, ?_⟩
              rcases (hfy b z).2 with y | y
              · rcases S15.fs b y with y | y
                · exact S1.fs b y
                · by_cases q : H b = none
                  · exact .inr q
                  · exact absurd y (S1.al b q)
              · by_cases q : H b = none
                · exact .inr q
                · exact absurd y (S15.al b (S1.al b q))
/-- the readings in whatever block -/
def gB (X : Cx) (scope : Scope) (tg : Expr) : TG := fun v σ H Q => ∀ s H0 Ca cl fp, cG (X.blk s H0 scope (compEnvC scope cl Ca X.env) fp) tg v σ H Q
def tB (X : Cx) (scope : Scope) (ifs : List Expr) : TT := fun σ H Q => ∀ s H0 Ca cl fp, cTs ifs (X.blk s H0 scope (compEnvC scope cl Ca X.env) fp) (.Constant .none 0 ⟨0, 0, 0, 0⟩) σ H Q
def eB (X : Cx) (scope : Scope) (elt : Expr) : TE := fun σ H Q => ∀ s H0 Ca cl fp, cR (X.blk s H0 scope (compEnvC scope cl Ca X.env) fp) elt σ H Q
theorem pg_blk {scope : Scope} {tg : Expr} (s : Shared) (H : Hp) (Ca : Addr) (cl : List (Str × Addr)) (fp : List Addr) : PG (X.blk s H scope (compEnvC scope cl Ca X.env) fp) tg (gB X scope tg) := ⟨fun pins s' σ H' v u Q I r h => h s H Ca cl fp pins s' u I r⟩
theorem pts_blk {scope : Scope} {ifs : List Expr} (s : Shared) (H : Hp) (Ca : Addr) (cl : List (Str × Addr)) (fp : List Addr) : PTs (X.blk s H scope (compEnvC scope cl Ca X.env) fp) ifs (tB X scope ifs) := ⟨fun pins s' σ H' Q I h => h s H Ca cl fp pins s' I⟩
theorem pe_blk {scope : Scope} {elt : Expr} (s : Shared) (H : Hp) (Ca : Addr) (cl : List (Str × Addr)) (fp : List Addr) : PE (X.blk s H scope (compEnvC scope cl Ca X.env) fp) elt (eB X scope elt) := ⟨fun pins s' σ H' Q I h => h s H Ca cl fp pins s' I⟩
theorem slots_lt {own : List (Str × Nat)} {scope : Scope} {ts : List Nat} (ok : BlkOk X.N X.env.scope scope own) (hown : own.map (·.2) = ts) {pins : List (Addr × Obj)} {s : Shared} (I : Inv X pins σ H s) : ∀ i ∈ ts, i < σ.length := fun i hi => by
  rw [← hown] at hi
  obtain ⟨p, hp, rfl⟩ := List.mem_map.mp hi
  rw [I.len]
  exact (List.getElem?_eq_some_iff.mp (ok.ix p hp)).1
/-- [elt for tg in iter if ..] -/
theorem se_comp {elt tg iter : Expr} {scope : Scope} {own : List (Str × Nat)} {t : Tg} {it : It} {ic ie : Ex} (hc : X.calm = true) (hN : X.N.Nodup) (ok : BlkOk X.N X.env.scope scope own) (hi : SI C X tg iter it)
    (hg : Blk X scope fun Y => STg C Y tg t) (ht : Blk X scope fun Y => STs C Y ifs ic) (he : Blk X scope fun Y => SE C Y elt ie) (hown : own.map (·.2) = t.slots := by rfl) (hs : ∀ x, foldedSetIterable iter X.env x = pure x := by intro _; rfl) :
    SE C X (.ListComp elt [⟨tg, iter, ifs, 0⟩] scope pos) (.comp t it ic ie) := by
  intro σ H Sh F e W tk R hx hb pins s I
  refine (pe_lc hc hN pi_can ok pg_blk pts_blk pe_blk hs).run pins s σ H _ I ?_
  exact se_compV hi ok hg ht he hown tk R hx hb (slots_lt ok hown I) (fun acc e' v H' Sh' F' h1 h2 => ⟨_, _, e', Sh', F', h1, h2⟩) _ _ _ (fun _ _ _ _ h => h) (fun _ _ _ h => h) (fun _ _ _ h => h)
/-- y = [elt for tg in iter if ..], y a plain local -/
theorem ss_setc {n : Nat} {y : Str} {py : Pos} {elt tg iter : Expr} {scope : Scope} {own : List (Str × Nat)} {t : Tg} {it : It} {ic ie : Ex} {fr : Bool} (hc : X.calm = true) (hN : X.N.Nodup) (hy : X.N[n]? = some y) (hyl : X.env.scope.names.lookup y = some .local)
    (hsw : swapsWith (.ListComp elt [⟨tg, iter, ifs, 0⟩] scope pos) (some (.Name y py)) spos.line X.env = pure true) (ok : BlkOk X.N X.env.scope scope own) (hi : SI C X tg iter it)
    (hg : Blk X scope fun Y => STg C Y tg t) (ht : Blk X scope fun Y => STs C Y ifs ic) (he : Blk X scope fun Y => SE C Y elt ie) (hown : own.map (·.2) = t.slots := by rfl) (hs : ∀ x, foldedSetIterable iter X.env x = pure x := by intro _; rfl) :
    SS C X (.Assign [.Name y py] (.ListComp elt [⟨tg, iter, ifs, 0⟩] scope pos) spos) (.asg (.nm n) fr (.comp t it ic ie)) := by
  intro σ H Sh F e W Ed tk R A pins s I
  have hnσ : n < σ.length := by rw [I.len]; exact (List.getElem?_eq_some_iff.mp hy).1
  have ev : C.ex (.asg (.nm n) fr (.comp t it ic ie)) e = Out.bind (C.ev (.comp t it ic ie) e) fun d p e1 => (match setSl C.ios e1 n fr d p with | some e2 => .nx e2 | none => .bad) := by rfl
  rw [ev] at A
  refine (ps_setLc hc hN hy hyl hsw pi_can ok pg_blk pts_blk pe_blk hs).run pins s σ H Ed I ?_
  have nb : C.ev (.comp t it ic ie) e ≠ .bad := fun z => A.nb (by rw [z] <;> rfl)
  have m0 : ∀ k ∈ (Ex.comp t it ic ie).mods, k ∈ (St.asg (.nm n) fr (.comp t it ic ie)).mods := fun k hk => List.mem_append_left _ hk
  refine se_compV (Q := fun v H' => Ed.nx (σ.set n (some v)) H') hi ok hg ht he hown tk R (fun x e' hx => fun H' Sh' F' c dd R' S' z => A.ex x e' (by rw [hx] <;> rfl) σ H' Sh' F' c dd R' (S'.mono m0) z) nb (slots_lt ok hown I) (fun acc e' v H' Sh' F' h1 P => ?_) _ _ _ (fun _ _ _ _ h => h) (fun _ _ _ h => h) (fun _ _ _ h => h)
  rw [h1] at A
  have A1 : Aim C X W Ed (St.asg (.nm n) fr (.comp t it ic ie)).mods H Sh F e (match setSl C.ios e' n fr (.lst acc) .own with | some e2 => .nx e2 | none => .bad) := A
  cases hset : setSl C.ios e' n fr (.lst acc) .own with
  | none => rw [hset] at A1; exact absurd rfl A1.nb
  | some e2 =>
    rw [hset] at A1
    obtain ⟨Sh2, F2, R2, S2⟩ := P.rel.store1 P.stp hnσ hset P.tmp
    exact A1.here R2 S2 (fun _ h => h)
end
end DL
end
section
set_option Elab.async false
set_option linter.all false
set_option maxRecDepth 100000
/-! D layer, 22: isinstance, chained comparisons. -/
namespace DL
open PySem PySem.Spec PyProof.Rows L2
/-- what an own class must say, so that isinstance may ask for it -/
structure IsOwn (K : PySem.W.Frag) (mg : Str → Option Value) (sub : Bool → Str → Str → Option Bool) (x : Str) : Prop where
  ex : ∃ C, mg x = some (.ref C) ∧ (∀ t ∈ (["NoneType", "bool", "int", "str", "tuple", "list", "dict"] : List String), PySem.W.kitOne K (.type t) (.ref C) = some false) ∧ (∀ q y b Cy, sub q y x = some b → mg y = some (.ref Cy) → PySem.W.kitOne K (.ref Cy) (.ref C) = some b)
/-- a built-in exception class -/
structure IsErr (K : PySem.W.Frag) (mg : Str → Option Value) (sub : Bool → Str → Str → Option Bool) (x : String) : Prop where
  bt : ∀ t ∈ (["NoneType", "bool", "int", "str", "tuple", "list", "dict"] : List String), kitB t x = some false
  own : ∀ y b Cy, sub true y (Str.ofString x) = some b → mg y = some (.ref Cy) → PySem.W.kitOne K (.ref Cy) (.type x) = some b
/-- what the class of an object must say -/
structure InsC (K : PySem.W.Frag) (C : Addr) : Prop where
  cl : Cls K C
  ha : PySem.W.findIn K (.ref C) "__class__" = some (some (.builtin "object.__class__"))
  hn : PySem.W.specialIn K (.builtin "object.__class__") "__get__" = some (some (.builtin "getset_descriptor.__get__"))
  ht : PySem.W.takesIn K (.builtin "object.__class__") = some true
  hm : PySem.W.mroIn K C (.type "object") = some true
/-- which classes objects and errors may be of -/
structure KindC (K : PySem.W.Frag) (mg : Str → Option Value) (sub : Bool → Str → Str → Option Bool) : Prop where
  ob : ∀ y x C, (sub false y x).isSome = true → mg y = some (.ref C) → InsC K C
  er : ∀ y x C, (sub true y x).isSome = true → mg y = some (.ref C) → ExcC K C
end DL
/-! isinstance of an error that may have a dict (HandS.ExcIs's proof, the dict left open) -/
namespace PySem.W
open PySem PySem.Spec PySem.Calls PyProof.Rows
section
variable {prog : Program} {w : World} {A : Around} {E : Value → Shared → Prop} {s : Shared} {K : Frag} {x D : Addr} {ox : Obj} {od : Option Obj}
theorem dl_findObj {C : Addr} {name : Str} {a g : Value} (hc : (clsIn K C).isSome = true) (ha : findIn K (.ref C) name = some (some a)) (hg : specialIn K a "__get__" = some (some g)) (ht : takesIn K a = some true) : findObj K C od name = some (.bind g a) := by
  obtain ⟨cd, hc⟩ := Option.isSome_iff_exists.mp hc
  unfold findObj
  rw [hc, Option.bind_some, ha, Option.bind_some]
  simp [hg, ht]
theorem dl_kin_classE {Q : Option Value → Shared → Prop} (hga : findIn K (.ref D) "__getattribute__" = some (some (.builtin "BaseException.__getattribute__"))) (hgt : findIn K (.ref D) "__getattr__" = some none) (hsub : subIn K (.ref D) (.type "BaseException") = some true)
    (hdct : hasDictIn K D = true) (ha : findIn K (.ref D) "__class__" = some (some (.builtin "object.__class__")))
    (hn : specialIn K (.builtin "object.__class__") "__get__" = some (some (.builtin "getset_descriptor.__get__"))) (htk : takesIn K (.builtin "object.__class__") = some true) (hm : mroIn K D (.type "object") = some true)
    (X : K.In s.heap) (I : InstAt s.heap x ox D od) (h : Q (some (.ref D)) { s with toks := s.toks + 1 }) : wpAny (model prog w) A (getAttr? (.ref x) "__class__") Q E s := by
  have hf : findObj K D od "__class__" = some (.bind (.builtin "getset_descriptor.__get__") (.builtin "object.__class__")) := dl_findObj (by obtain ⟨cd, hc, _⟩ := any_some hdct; rw [hc]; rfl) ha hn htk
  obtain ⟨hp, g, d, t, os⟩ := s
  have L0 := I.type (M := model prog w)
  have L1 := looks_findIn (M := model prog w) X hga
  have L2 := looks_findIn (M := model prog w) X hgt
  have L3 := looks_find (M := model prog w) X I hf
  have sub : Looks (model prog w) hp (isInstance (.ref x) (.type "BaseException")) true := L0.andThen (looks_subIn X hsub)
  have hx0 : (false && onTheHeap (Value.builtin "BaseException.__getattribute__")) = false := rfl
  have hx2 : (Value.builtin "BaseException.__getattribute__" == Value.builtin "object.__getattribute__") = false := by decide +kernel
  have hx1 : (onTheHeap (Value.ref D) && Value.builtin "BaseException.__getattribute__" == Value.builtin "object.__getattribute__") = false := by rw [hx2]; rfl
  unfold getAttr? getAttrBy? getAttrBy
  refine wpAny_bind (wpAny_mkText (wpAny_bind (wpAny_attempt (wpAny_holding (wpAny_bind (L0.at (wpAny_bind (L1.at ?_))))))))
  show wpAny _ _ (if (onTheHeap (Value.ref D) && Value.builtin "BaseException.__getattribute__" == Value.builtin "object.__getattribute__") = true then _ else _) _ _ _
  rw [hx1, if_neg Bool.false_ne_true]
  unfold getAttrByItsOwn hookBefore
  refine wpAny_bind ?_
  rw [if_pos (show onTheHeap (Value.ref D) = true from rfl)]
  refine L2.at ?_
  refine wpAny_bind (wpAny_attempt (wpAny_holding ?_))
  unfold callGetattribute
  rw [hx0, if_neg Bool.false_ne_true]
  unfold boundAndCalled
  rw [PySem.F.excAttr_ValueError.ga.bind (.ref x)]
  refine wpAny_bind (wpAny_pure ?_)
  show wpAny _ _ (call (.builtin "BaseException.__getattribute__") [.ref x, .str "__class__" t]) _ _ _
  refine wpAny_call (codeAny_call_builtin PySem.F.excAttr_ValueError.ga.plain PySem.F.entry_bexc_ga ?_)
  refine @check_slot (model prog w) _ _ ⟨hp, g, d, t + 1, os⟩ "BaseException.__getattribute__" "BaseException" "__getattribute__" (.ref x) [.str "__class__" t] [] _ (by decide +kernel) (by decide +kernel) sub (PySem.F.args_bexc_ga (.ref x) (.str "__class__" t)) ?_
  unfold Builtin.«object.__getattribute__»
  refine wpAny_bind (wpAny_of_eq (a := ((Value.ref x : Value), [Value.str "__class__" t])) (by first | rfl | (simp only [slotArgs]; rfl)) ?_)
  refine wpAny_bind (wpAny_pure (wpAny_bind (L0.at (wpAny_bind (L3.at ?_)))))
  show wpAny _ _ (holding [Value.builtin "object.__class__"] (call (.builtin "getset_descriptor.__get__") [.builtin "object.__class__", .ref x, .ref D]) >>= ret) _ _ _
  refine wpAny_bind (wpAny_holding (wpAny_call (class_get (s := ⟨hp, g, d, t + 1, os⟩) (ox := ox) (od := od) X I hm ?_)))
  refine wpAny_pure ?_
  show wpAny _ _ (handedOut (.ref D)) _ _ _
  rw [handedOut_of (v := .ref D) rfl]
  first
    | exact wpAny_pure (wpAny_pure h)
    | exact wpAny_pure h
    | exact wpAny_pure (wpAny_bind (wpAny_pure (wpAny_pure h)))
theorem dl_kitx_exc (hga : findIn K (.ref D) "__getattribute__" = some (some (.builtin "BaseException.__getattribute__"))) (hgt : findIn K (.ref D) "__getattr__" = some none) (hsub : subIn K (.ref D) (.type "BaseException") = some true) (hdct : hasDictIn K D = true) (ha : findIn K (.ref D) "__class__" = some (some (.builtin "object.__class__")))
    (hn : specialIn K (.builtin "object.__class__") "__get__" = some (some (.builtin "getset_descriptor.__get__"))) (htk : takesIn K (.builtin "object.__class__") = some true) (hm : mroIn K D (.type "object") = some true) :
    KitX K (.ref x) (.ref D) (fun h => InstAt h x ox D od) where
  ty := fun _ _ _ I => I.type
  it := fun _ _ X _ => by
    obtain ⟨cdD, hcD, _⟩ := any_some hdct
    unfold clsIn at hcD
    split at hcD
    · rename_i c' d' cd' sl' ho
      intro A' Q' E' s' k q
      unfold isType loadHead
      exact wpAny_bind (wpAny_loadPart (k _ _ (X _ _ ho)) (wpAny_pure q))
    · cases hcD
  ne := fun h tp dd its n sl X htp => by
    obtain ⟨cdD, hcD, _⟩ := any_some hdct
    refine Bool.eq_false_iff.mpr fun q => ?_
    have e : D = tp := Value.ref.inj (beq_iff_eq.mp q)
    subst e
    unfold clsIn at hcD
    split at hcD
    · rename_i c' d' cd' sl' ho
      have z := (X _ _ ho).symm.trans htp
      cases z
    · cases hcD
  ca := fun X I k => dl_kin_classE hga hgt hsub hdct ha hn htk hm X I k
end
end PySem.W
namespace DL
open PySem PySem.Spec PyProof.Rows L2
section
variable {C : Dc} {X : Cx} {W : WX} {Ed : Ends} {σ : L2.St} {H : Hp} {Sh : Addr → Prop} {F : List (List Addr)} {e : Envv} {a b c : Expr} {es : List Expr} {i j k l : Ex} {is : Exs} {ms : List Nat} {pos pos' spos p p2 : Pos}
/-- the type of plain data -/
def D.tyName : D → Option String
  | .non => some "NoneType" | .bl _ => some "bool" | .int _ => some "int" | .str _ => some "str" | .tup _ => some "tuple" | .lst _ => some "list" | .dct _ _ => some "dict"
  | _ => none
theorem sqT_ty {K : PySem.W.Frag} {a : Addr} {vs : List V} (h : SqT K H a vs) : TyX K H (.ref a) (.type "tuple") := by
  rcases h with (h | ⟨o, h⟩) | ⟨o, its, n, h1, h2, _⟩
  · exact .base (.tup h)
  · exact .fTuple h
  · exact .kTuple h1 h2
theorem Rp.ty {K : PySem.W.Frag} {mg : Str → Option Value} {d : D} {v : V} {fp : List Addr} {n : String} (r : Rp K mg H d v fp) (h : d.tyName = some n) : TyX K H v (.type n) := by
  cases d with
  | non => cases h; rw [r.1]; exact .base .non
  | bl b => cases h; rw [r.1]; exact .base (.bl b)
  | int b => cases h; rw [r.1]; exact .base (.int b)
  | str b => cases h; rw [r.1]; exact .base (.str b)
  | tup ds => cases h; obtain ⟨a, vs, rfl, q, _⟩ := r; exact sqT_ty q
  | lst ds => cases h; obtain ⟨a, vs, _, rfl, q, _⟩ := r; exact .base (.lst q)
  | dct ks vs => cases h; obtain ⟨a, kvs, _, rfl, q, _⟩ := r; exact .base (.dK q)
  | _ => cases h
/-- isinstance(e, c), e an error held as a value -/
theorem isi_exn {pins : List (Addr × Obj)} {s : Shared} {a D : Addr} {dd : Option Addr} {φ : Heap → Prop} {cv : Value} {b : Bool} {Q : VK} {us : List Value} {c : V} (I : Inv X pins σ H s) (E : ExcC X.K D) (hH : H a = some (.ext φ)) (hφ : ∀ h, φ h → ExP (.ref D) dd a h) (hd : ∀ d, dd = some d → ∃ gs, H d = some (.xd gs))
    (hcv : ∀ u, RelV c u → u = cv) (e : PySem.W.kitOne X.K (.ref D) cv = some b) (r : Vals [.ref a, c] us) (q : Q (.bl b) H) :
    wpAny (model X.prog X.w) X.A (call (.builtin "isinstance") us) (EP X pins σ Q) X.xe s := by
  cases r with
  | cons rx rr =>
    cases rr with
    | cons rt rr =>
      cases rr
      cases rx
      have ec := hcv _ rt
      subst ec
      obtain ⟨oe, vs, hget, hz, hv⟩ := hφ _ (show ObjOk X.prog X.w H s.heap a (.ext φ) from I.hok a _ hH).1
      obtain ⟨oc, od, oda, osl⟩ := oe
      obtain ⟨h1, h2⟩ := hz
      dsimp only at h1 h2 hv
      subst h1 h2 hv
      have J : ∃ ob, PySem.W.InstAt s.heap a ⟨.ref D, od, .fields vs, osl⟩ D ob := by
        cases od with
        | none => exact ⟨none, hget, rfl, rfl, trivial⟩
        | some d =>
          obtain ⟨gs, hgs⟩ := hd d rfl
          obtain ⟨mA, ⟨o, es, ep, ho, _⟩, _⟩ := (show ObjOk X.prog X.w H s.heap d (.xd gs) from I.hok d _ hgs)
          exact ⟨some o, hget, rfl, rfl, ho⟩
      obtain ⟨ob, J⟩ := J
      exact PySem.W.kia_one (PySem.W.dl_kitx_exc E.hg E.hk E.hs E.hd E.ha E.hn E.ht E.hm) I.kIn J e (fun z => nomatch z) fun tk => ⟨.bl b, H, I.kept (t' := tk) fun _ _ z => z, rfl, q⟩
/-- isinstance by the data -/
def rI (X : Cx) (t : Ty) (cv : V) (sub : Bool → Str → Str → Option Bool) : List V → Hp → VK → Prop := fun xs H Q => ∃ d v fp b, xs = [v, cv] ∧ Rp X.K X.mg H d v fp ∧ isiD sub d t = some b ∧ Q (.bl b) H
theorem call_ty {T : String} {t : Ty} {sub : Bool → Str → Str → Option Bool} (hT : ∀ d b, isiD sub d t = some b → ∃ n, d.tyName = some n ∧ kitB n T = some b) : CallR X (.builtin "isinstance") (rI X t (.ty T) sub) := by
  intro pins s σ H xs us Q I r h
  obtain ⟨d, v, fp, b, rfl, rp, hb, q⟩ := h
  obtain ⟨n, h1, h2⟩ := hT d b hb
  exact call_isi pins s σ H _ us Q I r ⟨v, .ty T, .type n, .type T, b, rfl, .ty T, rp.ty h1, kit_ty h2, q⟩
theorem tyName_in {d : D} {n : String} (h : d.tyName = some n) : n ∈ (["NoneType", "bool", "int", "str", "tuple", "list", "dict"] : List String) := by
  cases d <;> simp [D.tyName] at h <;> subst h <;> simp
theorem call_own {x : Str} {Ca : Addr} {sub : Bool → Str → Str → Option Bool} (O : IsOwn X.K X.mg sub x) (hm : X.mg x = some (.ref Ca)) (ko : KindC X.K X.mg sub) : CallR X (.builtin "isinstance") (rI X (.own x) (.ref Ca) sub) := by
  intro pins s σ H xs us Q I r h
  obtain ⟨d, v, fp, b, rfl, rp, hb, q⟩ := h
  obtain ⟨C', hm', h1, h2⟩ := O.ex
  rw [hm] at hm'
  cases hm'
  have plain : ∀ n, d.tyName = some n → isiD sub d (.own x) = some false → wpAny (model X.prog X.w) X.A (call (.builtin "isinstance") us) (EP X pins σ Q) X.xe s := fun n hn hf => by
    rw [hb] at hf
    cases hf
    exact call_isi pins s σ H _ us Q I r ⟨v, .ref Ca, .type n, .ref Ca, false, rfl, .own Ca, rp.ty hn, h1 n (tyName_in hn), q⟩
  cases d with
  | non => exact plain _ rfl rfl
  | bl b => exact plain _ rfl rfl
  | int b => exact plain _ rfl rfl
  | str b => exact plain _ rfl rfl
  | tup b => exact plain _ rfl rfl
  | lst b => exact plain _ rfl rfl
  | dct ks vs => exact plain _ rfl rfl
  | set ks => cases hb
  | fn ks => cases hb
  | scr ks => cases hb
  | obj y fs vs =>
    obtain ⟨a, c, dx, gs, fq, rfl, m, hH, rfl, _, _⟩ := rp
    have hs : sub false y x = some b := hb
    have z := ko.ob y x c (by rw [hs]; rfl) m
    exact call_isi pins s σ H _ us Q I r ⟨.ref a, .ref Ca, .ref c, .ref Ca, b, rfl, .own Ca, .base (.ins hH z.cl z.ha z.hn z.ht z.hm), h2 false y b c hs m, q⟩
  | exn y fs vs =>
    obtain ⟨a, c, dd, φ, rfl, m, hH, hφ, rfl, hd⟩ := rp
    have hs : sub true y x = some b := hb
    refine isi_exn I (ko.er y x c (by rw [hs]; rfl) m) hH hφ (fun d hdd => ?_) (fun u ru => ?_) (h2 true y b c hs m) r q
    · rcases hd with ⟨_, _, z⟩ | ⟨d', gs, z, hgs, _⟩
      · rw [z] at hdd; cases hdd
      · rw [z] at hdd; cases hdd; exact ⟨gs, hgs⟩
    · exact (show u = Value.ref Ca from ru)
theorem call_err {x : String} {sub : Bool → Str → Str → Option Bool} (O : IsErr X.K X.mg sub x) (ko : KindC X.K X.mg sub) : CallR X (.builtin "isinstance") (rI X (.err (Str.ofString x)) (.ty x) sub) := by
  intro pins s σ H xs us Q I r h
  obtain ⟨d, v, fp, b, rfl, rp, hb, q⟩ := h
  have plain : ∀ n, d.tyName = some n → isiD sub d (.err (Str.ofString x)) = some false → wpAny (model X.prog X.w) X.A (call (.builtin "isinstance") us) (EP X pins σ Q) X.xe s := fun n hn hf => by
    rw [hb] at hf
    cases hf
    exact call_isi pins s σ H _ us Q I r ⟨v, .ty x, .type n, .type x, false, rfl, .ty x, rp.ty hn, kit_ty (O.bt n (tyName_in hn)), q⟩
  cases d with
  | non => exact plain _ rfl rfl
  | bl b => exact plain _ rfl rfl
  | int b => exact plain _ rfl rfl
  | str b => exact plain _ rfl rfl
  | tup b => exact plain _ rfl rfl
  | lst b => exact plain _ rfl rfl
  | dct ks vs => exact plain _ rfl rfl
  | set ks => cases hb
  | fn ks => cases hb
  | scr ks => cases hb
  | obj y fs vs => cases hb
  | exn y fs vs =>
    obtain ⟨a, c, dd, φ, rfl, m, hH, hφ, rfl, hd⟩ := rp
    have hs : sub true y (Str.ofString x) = some b := hb
    refine isi_exn I (ko.er y _ c (by rw [hs]; rfl) m) hH hφ (fun d hdd => ?_) (fun u ru => ?_) (O.own y b c hs m) r q
    · rcases hd with ⟨_, _, z⟩ | ⟨d', gs, z, hgs, _⟩
      · rw [z] at hdd; cases hdd
      · rw [z] at hdd; cases hdd; exact ⟨gs, hgs⟩
    · exact (show u = Value.type x from ru)
theorem ev_isi {t : Ty} : C.ev (.isi i t) e = (C.ev i e).bind fun d _ e1 => match isiD C.cb.sub d t with
    | some b => .ok (.bl b) .own e1
    | none => .bad := rfl
/-- isinstance(e, c) -/
theorem se_isi {t : Ty} {cv : V} (hcall : CallR X (.builtin "isinstance") (rI X t cv C.cb.sub)) (hg : Gl X "isinstance") (hm : X.mg "isinstance" = none) (h : SE C X a i) (hb0 : PE X b (tC cv))
    (he : starEach [a, b] X.env = (false, eval a X.env) :: starEach [b] X.env := by rfl) (he2 : starEach [b] X.env = (false, eval b X.env) :: starEach [] X.env := by rfl) (hpl : (backTo pos (starEach [b] X.env)).any (·.1) = false := by rfl) : SE C X (.Call (.Name "isinstance" p) [a, b] [] pos) (.isi i t) := by
  intro σ H Sh F e W tk R hx hb
  obtain ⟨r, hr⟩ : ∃ r, C.ev (.isi i t) e = r := ⟨_, rfl⟩
  rw [hr] at hb
  have ev := hr
  rw [ev_isi] at ev
  refine cR_of (pe_callB hcall hg hm (by decide +kernel) (pa_cons pe_can (pa_cons hb0 pa_nil he2) he) (by decide) (by decide) he hpl) ?_
  refine h.bind tk R ev hb (fun _ h => h) (fun x e' he => hx x e' (hr.trans he)) fun d q e1 v H1 Sh1 F1 P q1 => ?_
  cases hz : isiD C.cb.sub d t with
  | none => rw [hz] at q1; exact absurd q1.symm hb
  | some k =>
    rw [hz] at q1
    obtain ⟨fp, r1⟩ := P.tmp.tmp.rp
    exact ⟨d, v, fp, k, rfl, r1, hz, .bl k, .own, e1, Sh1, F1, by rw [hr, ← q1], post_fresh P.rel P.stp fresh_bl⟩
theorem isi_own {x : Str} (O : IsOwn X.K X.mg C.cb.sub x) (ko : KindC X.K X.mg C.cb.sub) (hgx : Gl X x) (hg : Gl X "isinstance") (hm : X.mg "isinstance" = none) (h : SE C X a i) (hdb : (x == ("__debug__" : Str)) = false := by decide)
    (he : starEach [a, .Name x p2] X.env = (false, eval a X.env) :: starEach [.Name x p2] X.env := by rfl) (he2 : starEach [.Name x p2] X.env = (false, eval (.Name x p2) X.env) :: starEach [] X.env := by rfl) (hpl : (backTo pos (starEach [.Name x p2] X.env)).any (·.1) = false := by rfl) : SE C X (.Call (.Name "isinstance" p) [a, .Name x p2] [] pos) (.isi i (.own x)) := by
  obtain ⟨Ca, m, _⟩ := O.ex
  exact se_isi (call_own O m ko) hg hm h (pe_glob hgx m rfl hdb) he he2 hpl
theorem isi_err {x : String} (O : IsErr X.K X.mg C.cb.sub x) (ko : KindC X.K X.mg C.cb.sub) (hgx : Gl X (Str.ofString x)) (hmx : X.mg (Str.ofString x) = none) (hv : bootBuiltins (Str.ofString x) = some (.type x)) (hg : Gl X "isinstance") (hm : X.mg "isinstance" = none) (h : SE C X a i) (hdb : (Str.ofString x == ("__debug__" : Str)) = false := by decide) (hn : Str.ofString x ≠ "__name__" := by decide)
    (he : starEach [a, .Name (Str.ofString x) p2] X.env = (false, eval a X.env) :: starEach [.Name (Str.ofString x) p2] X.env := by rfl) (he2 : starEach [.Name (Str.ofString x) p2] X.env = (false, eval (.Name (Str.ofString x) p2) X.env) :: starEach [] X.env := by rfl) (hpl : (backTo pos (starEach [.Name (Str.ofString x) p2] X.env)).any (·.1) = false := by rfl) : SE C X (.Call (.Name "isinstance" p) [a, .Name (Str.ofString x) p2] [] pos) (.isi i (.err (Str.ofString x))) :=
  se_isi (call_err O ko) hg hm h (pe_bltn hgx hmx hv rfl hn hdb) he he2 hpl
/-- a built-in type -/
theorem isi_ty {x : Str} {T : String} {t : Ty} (hT : ∀ d b, isiD C.cb.sub d t = some b → ∃ n, d.tyName = some n ∧ kitB n T = some b) (hgx : Gl X x) (hmx : X.mg x = none) (hv : bootBuiltins x = some (.type T)) (hg : Gl X "isinstance") (hm : X.mg "isinstance" = none) (h : SE C X a i) (hdb : (x == ("__debug__" : Str)) = false := by decide) (hn : x ≠ "__name__" := by decide)
    (he : starEach [a, .Name x p2] X.env = (false, eval a X.env) :: starEach [.Name x p2] X.env := by rfl) (he2 : starEach [.Name x p2] X.env = (false, eval (.Name x p2) X.env) :: starEach [] X.env := by rfl) (hpl : (backTo pos (starEach [.Name x p2] X.env)).any (·.1) = false := by rfl) : SE C X (.Call (.Name "isinstance" p) [a, .Name x p2] [] pos) (.isi i t) :=
  se_isi (call_ty hT) hg hm h (pe_bltn hgx hmx hv rfl hn hdb) he he2 hpl
theorem ty_int {sub : Bool → Str → Str → Option Bool} : ∀ d b, isiD sub d .int = some b → ∃ n, d.tyName = some n ∧ kitB n "int" = some b := fun d b h => by
  cases d <;> cases h <;> exact ⟨_, rfl, by decide +kernel⟩
theorem ty_bool {sub : Bool → Str → Str → Option Bool} : ∀ d b, isiD sub d .bool = some b → ∃ n, d.tyName = some n ∧ kitB n "bool" = some b := fun d b h => by
  cases d <;> cases h <;> exact ⟨_, rfl, by decide +kernel⟩
theorem ty_str {sub : Bool → Str → Str → Option Bool} : ∀ d b, isiD sub d .str = some b → ∃ n, d.tyName = some n ∧ kitB n "str" = some b := fun d b h => by
  cases d <;> cases h <;> exact ⟨_, rfl, by decide +kernel⟩
theorem ty_tuple {sub : Bool → Str → Str → Option Bool} : ∀ d b, isiD sub d .tuple = some b → ∃ n, d.tyName = some n ∧ kitB n "tuple" = some b := fun d b h => by
  cases d <;> cases h <;> exact ⟨_, rfl, by decide +kernel⟩
theorem ty_list {sub : Bool → Str → Str → Option Bool} : ∀ d b, isiD sub d .list = some b → ∃ n, d.tyName = some n ∧ kitB n "list" = some b := fun d b h => by
  cases d <;> cases h <;> exact ⟨_, rfl, by decide +kernel⟩
theorem ty_dict {sub : Bool → Str → Str → Option Bool} : ∀ d b, isiD sub d .dict = some b → ∃ n, d.tyName = some n ∧ kitB n "dict" = some b := fun d b h => by
  cases d <;> cases h <;> exact ⟨_, rfl, by decide +kernel⟩
end
end DL
end
section
set_option Elab.async false
set_option linter.all false
set_option maxRecDepth 100000
/-! D layer, 23: chained comparisons. -/
namespace DL
open PySem PySem.Spec PyProof.Rows L2
section
variable {C : Dc} {X : Cx} {W : WX} {σ : L2.St} {H : Hp} {Sh : Addr → Prop} {F : List (List Addr)} {e : Envv} {a b c : Expr} {i j k : Ex} {pos : Pos}
theorem ev_cmp2 {o1 o2 : CmpOp} : C.ev (.cmp2 o1 o2 i j k) e = (C.ev i e).bind fun x p e1 => if p.waits j.mods then (C.ev j e1).bind fun y q e2 => match cmpD o1 x y with
      | some true => if q.waits k.mods then (C.ev k e2).bind fun z r e3 => freshR ((cmpD o2 y z).map .bl) e3 else .bad
      | some false => .ok (.bl false) .own e2
      | none => .bad else .bad := rfl
theorem cmp2_core {o1 o2 : CmpOp} (ha : SE C X a i) (hb : SE C X b j) (hc : SE C X c k) (tk : Takes X W) (R : Rel C.io X.K X.mg σ H Sh F e) (hx : ∀ x e', C.ev (.cmp2 o1 o2 i j k) e = .exc x e' → XH C X W σ (Ex.cmp2 o1 o2 i j k).mods H Sh F e x e') (hb' : C.ev (.cmp2 o1 o2 i j k) e ≠ .bad) {Q : VK}
    (hQ : ∀ z e' H' Sh' F', C.ev (.cmp2 o1 o2 i j k) e = .ok (.bl z) .own e' → Rel C.io X.K X.mg σ H' Sh' F' e' → Stp (Ex.cmp2 o1 o2 i j k).mods H Sh F e H' Sh' F' e' → Q (.bl z) H') :
    tChain (rC X o1) (rC X o2) (cR X a) (cR X b) (cR X c) σ H Q := by
  obtain ⟨r, hr⟩ : ∃ r, C.ev (.cmp2 o1 o2 i j k) e = r := ⟨_, rfl⟩
  rw [hr] at hb'
  have ev := hr
  rw [ev_cmp2] at ev
  have m12 : ∀ n ∈ i.mods ++ j.mods, n ∈ (Ex.cmp2 o1 o2 i j k).mods := fun n hn => (List.mem_append.mp hn).elim (fun z => List.mem_append_left _ z) fun z => List.mem_append_right _ (List.mem_append_left _ z)
  have m3 : ∀ n ∈ k.mods, n ∈ (Ex.cmp2 o1 o2 i j k).mods := fun n hn => List.mem_append_right _ (List.mem_append_right _ hn)
  refine ha.bind2 hb tk R ev hb' m12 (fun x e' he => hx x e' (hr.trans he)) fun x p y q e2 v u H2 Sh2 F2 R2 S2 T1 T2 q2 => ?_
  obtain ⟨fp, r1⟩ := T1.rp
  obtain ⟨fq, r2⟩ := T2.tmp.rp
  cases h1 : cmpD o1 x y with
  | none => rw [h1] at q2; exact absurd q2.symm hb'
  | some z1 =>
    rw [h1] at q2
    refine ⟨x, y, z1, fp, fq, r1, r2, h1, z1, rfl, ?_⟩
    cases z1 with
    | false =>
      dsimp only at q2
      exact hQ false e2 H2 Sh2 F2 (hr.trans q2.symm) R2 (S2.mono m12)
    | true =>
      dsimp only at q2
      by_cases hw : q.waits k.mods = true
      case neg => rw [if_neg hw] at q2; exact absurd q2.symm hb'
      rw [if_pos hw] at q2
      refine hc.bind tk R2 q2 hb' m3 (fun x e' he => (hx x e' (hr.trans he)).step S2 m12 (fun _ h => h)) fun z pz e3 w H3 Sh3 F3 P q3 => ?_
      obtain ⟨kk, h3, h4⟩ := cmp_val q3 hb'
      obtain ⟨fz, r3⟩ := P.tmp.tmp.rp
      obtain ⟨fy, r2'⟩ := (R2.tmp T2.tmp P.stp hw).rp
      exact ⟨y, z, kk, fy, fz, r2', r3, h3, hQ kk e3 H3 Sh3 F3 (hr.trans h4) P.rel ((S2.trans P.stp).mono fun n hn => (List.mem_append.mp hn).elim (m12 n) (m3 n))⟩
theorem se_cmp2 {o1 o2 : CmpOp} (h1 : OpR X (compareOp o1) (rC X o1)) (h2 : OpR X (compareOp o2) (rC X o2)) (ha : SE C X a i) (hb : SE C X b j) (hc : SE C X c k) (hm : lastMarks [o1, o2] [b, c] = false := by with_unfolding_all rfl) : SE C X (.Compare a [o1, o2] [b, c] pos) (.cmp2 o1 o2 i j k) := by
  intro σ H Sh F e W tk R hx hb'
  refine cR_of (pe_chain h1 h2 pe_can pe_can pe_can hm) ?_
  exact cmp2_core ha hb hc tk R hx hb' fun z e' H' Sh' F' he R' S' => ⟨.bl z, .own, e', Sh', F', he, R', S', [], ⟨rfl, rfl⟩, by simp, by simp⟩
theorem st_cmp2 {o1 o2 : CmpOp} (h1 : OpR X (compareOp o1) (rC X o1)) (h2 : OpR X (compareOp o2) (rC X o2)) (ha : SE C X a i) (hb : SE C X b j) (hc : SE C X c k) (hm : lastMarks [o1, o2] [b, c] = false := by with_unfolding_all rfl) : ST C X (.Compare a [o1, o2] [b, c] pos) (.cmp2 o1 o2 i j k) := by
  intro σ H Sh F e W tk R hx hd hb'
  refine cT_of (pt_chain h1 h2 pe_can pe_can pe_can hm) ?_
  exact cmp2_core ha hb hc tk R hx hb' fun z e' H' Sh' F' he R' S' => ⟨z, rfl, .own, e', Sh', F', he, R', S'⟩
end
end DL
end
section
set_option Elab.async false
set_option linter.all false
set_option maxRecDepth 100000
/-! D layer, 23: sorted(set(..)), displays of dicts. -/
namespace DL
open PySem PySem.Spec PyProof.Rows L2
section
variable {C : Dc} {X : Cx} {W : WX} {σ : L2.St} {H : Hp} {Sh : Addr → Prop} {F : List (List Addr)} {e : Envv} {a b c : Expr} {es : List Expr} {i j l : Ex} {is : Exs} {ms : List Nat} {pos : Pos} {k : Nat}
/-- a list of tuples of ints, by the addresses -/
theorem rpl_pairs {K : PySem.W.Frag} {mg : Str → Option Value} : ∀ {ts : List (List Int)} {vs : List V} {fq : List Addr}, RpL K mg H (ts.map tupI) vs fq → ∃ ks : List (Addr × List Int), vs = ks.map (fun p => V.ref p.1) ∧ ts = ks.map (·.2) ∧ ∀ p ∈ ks, SqT K H p.1 (p.2.map V.int)
  | [], vs, fq, r => by
    obtain ⟨rfl, _⟩ := r
    exact ⟨[], rfl, rfl, by simp⟩
  | t :: ts, vs, fq, r => by
    obtain ⟨v, vr, f1, f2, rfl, rfl, ⟨a, ws, rfl, sq, rm⟩, r2⟩ := r
    obtain ⟨ks, h1, h2, h3⟩ := rpl_pairs r2
    have e := rpl_ints rm
    subst e
    refine ⟨(a, t) :: ks, by rw [h1]; rfl, by rw [h2]; rfl, fun p hp => ?_⟩
    rcases List.mem_cons.mp hp with rfl | hp
    · exact sq
    · exact h3 p hp
theorem pairs_rpl {K : PySem.W.Frag} {mg : Str → Option Value} : ∀ {ks : List (Addr × List Int)}, (∀ p ∈ ks, SqT K H p.1 (p.2.map V.int)) → RpL K mg H ((ks.map (·.2)).map tupI) (ks.map fun p => V.ref p.1) []
  | [], _ => ⟨rfl, rfl⟩
  | p :: ks, h => ⟨.ref p.1, _, [], [], rfl, rfl, ⟨p.1, _, rfl, h p List.mem_cons_self, ints_rpl p.2⟩, pairs_rpl fun q hq => h q (List.mem_cons_of_mem _ hq)⟩
theorem mem_dedupT {t : List Int} : ∀ {xs : List (List Int)}, t ∈ dedupT xs ↔ t ∈ xs
  | [] => by simp [dedupT]
  | x :: xs => by
    unfold dedupT
    by_cases h : xs.contains x = true
    · rw [if_pos h, mem_dedupT, List.mem_cons]
      have h' : x ∈ xs := by simpa using h
      constructor
      · exact .inr
      · rintro (rfl | q)
        · exact h'
        · exact q
    · rw [if_neg h, List.mem_cons, List.mem_cons, mem_dedupT]
theorem nodup_dedupT : ∀ xs : List (List Int), (dedupT xs).Nodup
  | [] => List.nodup_nil
  | x :: xs => by
    unfold dedupT
    by_cases h : xs.contains x = true
    · rw [if_pos h]; exact nodup_dedupT xs
    · rw [if_neg h]
      exact List.nodup_cons.mpr ⟨fun z => h (by simpa using mem_dedupT.mp z), nodup_dedupT xs⟩
def okPair (t : List Int) : Bool := decide (t.length = 2) && t.all fun i => decide (0 ≤ i) && decide (i < 64)
theorem okPair_iff {t : List Int} (h : okPair t = true) : ∃ x y : Int, t = [x, y] ∧ (0 ≤ x ∧ x < 64) ∧ (0 ≤ y ∧ y < 64) := by
  unfold okPair at h
  obtain ⟨h1, h2⟩ := Bool.and_eq_true_iff.mp h
  match t, h1, h2 with
  | [x, y], _, h2 => exact ⟨x, y, rfl, by simpa using h2⟩
  | [], h1, _ => exact absurd h1 (by decide)
  | [_], h1, _ => simp at h1
  | _ :: _ :: _ :: _, h1, _ => simp at h1
theorem lex_pair {x y x' y' : Int} (h : x < x' ∨ (x = x' ∧ y < y')) : lexI [x', y'] [x, y] = false := by
  unfold lexI
  rcases h with h | ⟨rfl, h⟩
  · rw [if_neg (by omega)]
    exact decide_eq_false (by omega)
  · rw [if_pos rfl]
    unfold lexI
    rw [if_neg (by omega)]
    exact decide_eq_false (by omega)
theorem sortset_uniq {ts ls : List (List Int)} (hm : ∀ t, t ∈ ls ↔ t ∈ ts) (nd : ls.Nodup) (ok : ∀ t ∈ ts, okPair t = true) (hp : ls.Pairwise fun q r => TS.code 64 q ≤ TS.code 64 r) : ls = sortT (dedupT ts) := by
  refine sortedT_uniq (((List.perm_ext_iff_of_nodup nd (nodup_dedupT ts)).mpr fun t => by rw [hm, mem_dedupT]).trans (sortT_perm _).symm) ?_ (sortT_sorted _)
  have both := List.Pairwise.and hp nd
  refine both.imp_of_mem fun {x y} hx hy h => ?_
  obtain ⟨x1, x2, rfl, b1, b2⟩ := okPair_iff (ok _ ((hm _).mp hx))
  obtain ⟨y1, y2, rfl, b3, b4⟩ := okPair_iff (ok _ ((hm _).mp hy))
  exact lex_pair (pair_lt h.1 h.2 b1 b2 b3 b4)
theorem sortset_fresh {K : PySem.W.Frag} {mg : Str → Option Value} {a p : Addr} {o : HO} {L' : List (Addr × List Int)} {ts : List (List Int)} (ha : H a = none) (hp : upd H a o p = none) (hq : ∀ q ∈ L', SqT K H q.1 (q.2.map V.int)) (e : L'.map (·.2) = ts) :
    Fresh K mg H (.lst (ts.map tupI)) (.ref p) (upd (upd H a o) p (.lst (L'.map fun q => V.ref q.1))) := by
  have hne : p ≠ a := fun z => by rw [z, upd_same] at hp; cases hp
  have hp0 : H p = none := by rw [upd_ne hne] at hp; exact hp
  subst e
  have g : ∀ b, H b ≠ none → upd (upd H a o) p (.lst (L'.map fun q => V.ref q.1)) b = H b := fun b hb => by
    rw [upd_ne (fun z => hb (by rw [z]; exact hp0)), upd_ne (fun z => hb (by rw [z]; exact ha))]
  refine ⟨g, [p], ⟨p, _, [], rfl, upd_same, rfl, ?_⟩, by simp, fun b hb => ?_⟩
  · have k : Keep H (upd (upd H a o) p (.lst (L'.map fun q => V.ref q.1))) := .of fun b o q _ => (g b (by rw [q]; exact fun z => by cases z)).trans q
    exact RpL.stay k _ (by simp) (pairs_rpl hq)
  · obtain rfl : b = p := by simpa using hb
    exact ⟨hp0, by rw [upd_same]; exact True.intro⟩
/-- sorted(set(a)) -/
theorem se_sortset {p p2 p3 : Pos} (hu : Xo X) (hg : Gl X "sorted") (hm : X.mg "sorted" = none) (hv : bootBuiltins "sorted" = some (.builtin "sorted")) (hg2 : Gl X "set") (hm2 : X.mg "set" = none) (hv2 : bootBuiltins "set" = some (.type "set")) (h : SE C X a i)
    (he : starEach [a] X.env = (false, eval a X.env) :: starEach [] X.env := by rfl) (he2 : starEach [.Call (.Name "set" p2) [a] [] p3] X.env = (false, eval (.Call (.Name "set" p2) [a] [] p3) X.env) :: starEach [] X.env := by rfl) :
    SE C X (.Call (.Name "sorted" p) [.Call (.Name "set" p2) [a] [] p3] [] pos) (.bi .sortset (.cons i .nil)) := by
  intro σ H Sh F e W tk R hx hb
  obtain ⟨r, hr⟩ : ∃ r, C.ev (.bi .sortset (.cons i .nil)) e = r := ⟨_, rfl⟩
  rw [hr] at hb
  refine cR_of (pe_callB (cr_sortedT hu.calm) hg hm hv (pa_cons (pe_callTy (cr_setOfT hu.calm (by have := hu.un; omega)) hg2 hm2 hv2 (pa_can (X := X) (es := [a])) (by decide) (by decide) he (by rfl)) pa_nil)) ?_
  refine (ses_cons h ses_nil he).bind tk R (f := fun ds ps e1 => freshR (biD .sortset ds) e1) (by rw [← hr] <;> rfl) hb (fun _ h => h) (fun x e' he => hx x e' (hr.trans he)) fun ds ps e1 vs H1 Sh1 F1 hlen P q => ?_
  obtain ⟨z, h1, h2, h3⟩ := freshR_ok q hb
  obtain ⟨fp, t, _⟩ := P.tmp
  obtain ⟨fq, r1⟩ := t.rp
  have h1 : sortsetD ds = some z := h1
  unfold sortsetD at h1
  split at h1
  case h_2 => cases h1
  rename_i xs
  obtain ⟨ts, e1', e2⟩ := Option.bind_eq_some_iff.mp h1
  split at e2
  case isFalse => cases e2
  rename_i hok
  cases e2
  obtain ⟨hfew, hpair⟩ := Bool.and_eq_true_iff.mp hok
  have hfew : ts.length < 64 := of_decide_eq_true hfew
  have hpair : ∀ t ∈ ts, okPair t = true := fun t ht => List.all_eq_true.mp hpair t ht
  obtain ⟨ex, _⟩ := tupsOf_map e1'
  subst ex
  obtain ⟨v, rfl, fp', la, ws, f1, rfl, hla, rfl, rm⟩ := rpl_one r1
  obtain ⟨ks, rfl, rfl, hks⟩ := rpl_pairs rm
  refine ⟨la, ks, rfl, SqL.of hla, hks, by rw [List.length_map] at hfew; exact hfew, fun sa L hsa hL1 hL2 => ?_⟩
  have hLk : ∀ p ∈ L, SqT X.K (upd H1 sa (SetTO X.prog X.w sa L)) p.1 (p.2.map V.int) := fun p hp => (upd_keep (o := SetTO X.prog X.w sa L) hsa).sqT (hks p (hL1 p hp))
  have hLo : ∀ p ∈ L, okPair p.2 = true := fun p hp => hpair _ (List.mem_map.mpr ⟨p, hL1 p hp, rfl⟩)
  refine ⟨sa, L, 2, 64, rfl, upd_same, hLk, by decide, fun p hp => ?_, fun L' p pm nd hfew pw hp => ?_⟩
  · obtain ⟨x, y, ep, b1, b2⟩ := okPair_iff (hLo p hp)
    rw [ep]
    refine ⟨rfl, fun m hm => ?_⟩
    have hm' : m = x ∨ m = y := by simpa using hm
    rcases hm' with rfl | rfl
    · exact b1
    · exact b2
  · have hmem : ∀ t, t ∈ L'.map (·.2) ↔ t ∈ ks.map (·.2) := fun t => by
      rw [(pm.map (·.2)).mem_iff]
      constructor
      · intro q
        obtain ⟨p, hp, rfl⟩ := List.mem_map.mp q
        exact List.mem_map.mpr ⟨p, hL1 p hp, rfl⟩
      · intro q
        obtain ⟨p, hp, rfl⟩ := List.mem_map.mp q
        exact hL2 p hp
    have eq := sortset_uniq hmem nd hpair (List.pairwise_map.mpr pw)
    exact ⟨_, .own, e1, Sh1, F1, by rw [hr, h3], post_fresh P.rel P.stp (sortset_fresh hsa hp (fun q hq => hks q (hL1 q (pm.mem_iff.mp hq))) eq)⟩
theorem rng24_ok {a b : Int} (h : rng24 a b = true) : RgOk a b := by
  simp only [rng24, Bool.and_eq_true, decide_eq_true_eq] at h
  obtain ⟨⟨⟨⟨h1, h2⟩, h3⟩, h4⟩, h5⟩ := h
  exact ⟨h1, h2, h3, h4, h5⟩
theorem rgV_rp {K : PySem.W.Frag} {mg : Str → Option Value} {f : Nat → Int} : ∀ ns : List Nat, RpL K mg H (ns.map fun k => D.int (f k)) (ns.map fun k => V.int (f k)) []
  | [] => ⟨rfl, rfl⟩
  | n :: ns => ⟨_, _, [], [], rfl, rfl, ⟨rfl, rfl⟩, rgV_rp ns⟩
/-- list(range(a)) -/
theorem se_lrng1 {p p2 p3 : Pos} (hu : Xo X) (hg : Gl X "list") (hm : X.mg "list" = none) (hg2 : Gl X "range") (hm2 : X.mg "range" = none) (h : SE C X a i) (he : starEach [a] X.env = (false, eval a X.env) :: starEach [] X.env := by rfl) :
    SE C X (.Call (.Name "list" p) [.Call (.Name "range" p2) [a] [] p3] [] pos) (.bi .lrng (.cons i .nil)) := by
  intro σ H Sh F e W tk R hx hb
  obtain ⟨r, hr⟩ : ∃ r, C.ev (.bi .lrng (.cons i .nil)) e = r := ⟨_, rfl⟩
  rw [hr] at hb
  refine cR_of (pe_listRg hu.calm hg hm (prg_1 hg2 hm2 (pe_can (X := X)) he)) ?_
  have nb : C.ev i e ≠ .bad := fun z => hb (by
    rw [← hr]
    show (C.evs (.cons i .nil) e).bind _ = _
    show (match C.ev i e with
      | .ok d p e1 => _
      | .exc x e1 => _
      | .bad => RsL.bad : RsL).bind _ = _
    rw [z] <;> rfl)
  have ev : (C.ev i e).bind (fun d p e1 => if p.waits (Exs.mods .nil) then freshR (lrngD [d]) e1 else .bad) = r := by
    rw [← hr]
    show _ = (C.evs (.cons i .nil) e).bind fun ds ps e1 => freshR (biD .lrng ds) e1
    show _ = (match C.ev i e with
      | .ok d p e1 => if p.waits (Exs.mods .nil) then (match C.evs .nil e1 with
        | .ok ds ps e2 => .ok (d :: ds) (p :: ps) e2
        | r => r) else .bad
      | .exc x e1 => .exc x e1
      | .bad => .bad : RsL).bind fun ds ps e1 => freshR (biD .lrng ds) e1
    cases C.ev i e with
    | ok d p e1 =>
      show (if p.waits (Exs.mods .nil) then freshR (lrngD [d]) e1 else .bad) = _
      by_cases hw : p.waits (Exs.mods .nil) = true
      · dsimp only
        rw [if_pos hw, if_pos hw]
        rfl
      · dsimp only
        rw [if_neg hw, if_neg hw]
        rfl
    | exc x e1 => rfl
    | bad => rfl
  refine h.bind tk R ev hb (fun n hn => List.mem_append_left _ hn) (fun x e' he => hx x e' (hr.trans he)) fun d p e1 v H1 Sh1 F1 P q => ?_
  split at q
  case isFalse => exact absurd q.symm hb
  obtain ⟨z, h1, h2, h3⟩ := freshR_ok q hb
  obtain ⟨fp, r1⟩ := P.tmp.tmp.rp
  unfold lrngD at h1
  split at h1
  · rename_i b hd
    cases hd
    split at h1
    case isFalse => cases h1
    rename_i hok
    cases h1
    obtain rfl : v = V.int b := r1.1
    refine ⟨b, rfl, rng24_ok hok, fun w hw => ⟨_, .own, e1, Sh1, F1, by rw [hr, h3], ?_⟩⟩
    have e0 : rgV 0 b = (List.range b.toNat).map fun k : Nat => V.int k := by unfold rgV; simp
    rw [e0]
    exact post_fresh P.rel (P.stp.mono fun n hn => List.mem_append_left _ hn) (fresh_lst hw (rgV_rp (f := fun k => (k : Int)) _))
  · rename_i hd; cases hd
  · cases h1
/-- list(range(a, b)) -/
theorem se_lrng2 {p p2 p3 : Pos} {j : Ex} (hu : Xo X) (hg : Gl X "list") (hm : X.mg "list" = none) (hg2 : Gl X "range") (hm2 : X.mg "range" = none) (h : SE C X a i) (h' : SE C X b j) (he : starEach [a, b] X.env = (false, eval a X.env) :: starEach [b] X.env := by rfl) (he2 : starEach [b] X.env = (false, eval b X.env) :: starEach [] X.env := by rfl)
    (hpl : (backTo p3 (starEach [b] X.env)).any (·.1) = false := by rfl) : SE C X (.Call (.Name "list" p) [.Call (.Name "range" p2) [a, b] [] p3] [] pos) (.bi .lrng (.cons i (.cons j .nil))) := by
  intro σ H Sh F e W tk R hx hb
  obtain ⟨r, hr⟩ : ∃ r, C.ev (.bi .lrng (.cons i (.cons j .nil))) e = r := ⟨_, rfl⟩
  rw [hr] at hb
  refine cR_of (pe_listRg hu.calm hg hm (prg_2 hg2 hm2 (pe_can (X := X)) (pe_can (X := X)) he he2 hpl)) ?_
  have ev : ((C.ev i e).bind fun x p e1 => if p.waits j.mods then (C.ev j e1).bind fun y q e2 => (fun x p y q e2 => if q.waits (Exs.mods .nil) then freshR (lrngD [x, y]) e2 else .bad) x p y q e2 else .bad) = r := by
    rw [← hr]
    show _ = (match C.ev i e with
      | .ok d p e1 => if p.waits (Exs.cons j .nil).mods then (match C.evs (.cons j .nil) e1 with
        | .ok ds ps e2 => .ok (d :: ds) (p :: ps) e2
        | r => r) else .bad
      | .exc x e1 => .exc x e1
      | .bad => .bad : RsL).bind fun ds ps e1 => freshR (biD .lrng ds) e1
    have em : (Exs.cons j .nil).mods = j.mods := by show j.mods ++ [] = _; rw [List.append_nil]
    rw [em]
    cases C.ev i e with
    | exc x e1 => rfl
    | bad => rfl
    | ok d p e1 =>
      show (if p.waits j.mods then (C.ev j e1).bind _ else .bad) = _
      dsimp only
      by_cases hw : p.waits j.mods = true
      · rw [if_pos hw, if_pos hw]
        show _ = (match (match C.ev j e1 with
          | .ok d p e1 => if p.waits (Exs.mods .nil) then (match C.evs .nil e1 with
            | .ok ds ps e2 => .ok (d :: ds) (p :: ps) e2
            | r => r) else .bad
          | .exc x e1 => .exc x e1
          | .bad => .bad : RsL) with
          | .ok ds ps e2 => .ok (d :: ds) (p :: ps) e2
          | r => r : RsL).bind fun ds ps e1 => freshR (biD .lrng ds) e1
        cases C.ev j e1 with
        | exc x e2 => rfl
        | bad => rfl
        | ok y q e2 =>
          show (if q.waits (Exs.mods .nil) then freshR (lrngD [d, y]) e2 else .bad) = _
          dsimp only
          by_cases hq : q.waits (Exs.mods .nil) = true
          · rw [if_pos hq, if_pos hq]; rfl
          · rw [if_neg hq, if_neg hq]; rfl
      · rw [if_neg hw, if_neg hw]; rfl
  have hms : ∀ n ∈ i.mods ++ j.mods, n ∈ (Ex.bi .lrng (.cons i (.cons j .nil))).mods := fun n hn => by
    show n ∈ i.mods ++ (j.mods ++ [])
    rw [List.append_nil]; exact hn
  refine h.bind2 h' tk R ev hb hms (fun x e' he => hx x e' (hr.trans he)) fun x p y q e2 v u H2 Sh2 F2 R2 S2 T1 T2 q2 => ?_
  split at q2
  case isFalse => exact absurd q2.symm hb
  obtain ⟨z, h1, h2, h3⟩ := freshR_ok q2 hb
  obtain ⟨f1, r1⟩ := T1.rp
  obtain ⟨f2, r2⟩ := T2.tmp.rp
  unfold lrngD at h1
  split at h1
  · rename_i hd; cases hd
  · rename_i a b hd
    cases hd
    split at h1
    case isFalse => cases h1
    rename_i hok
    cases h1
    obtain rfl : v = V.int a := r1.1
    obtain rfl : u = V.int b := r2.1
    exact ⟨a, b, rfl, rfl, rng24_ok hok, fun w hw => ⟨_, .own, e2, Sh2, F2, by rw [hr, h3], post_fresh R2 (S2.mono hms) (fresh_lst hw (rgV_rp (f := fun k => a + (k : Int)) _))⟩⟩
  · cases h1
end
end DL
end
section
set_option Elab.async false
set_option linter.all false
set_option maxRecDepth 100000
/-! D layer, 24: displays of dicts. -/
namespace DL
open PySem PySem.Spec PyProof.Rows L2
section
variable {C : Dc} {X : Cx} {W : WX} {σ : L2.St} {H : Hp} {Sh : Addr → Prop} {F : List (List Addr)} {e : Envv} {a b c : Expr} {es : List Expr} {i j l : Ex} {is : Exs} {ms : List Nat} {pos : Pos} {k : Nat}
def dTrs (X : Cx) : List Key → List Expr → List (TE × TE)
  | k :: ks, v :: vs => (tC (kV k), cR X v) :: dTrs X ks vs
  | _, _ => []
theorem dTrs_mono : ∀ (ks : List Key) (vs : List Expr) {σ : L2.St} {H : Hp} {Q Q' : List (V × V) → Hp → Prop}, tPairs (dTrs X ks vs) σ H Q → (∀ ps H, Q ps H → Q' ps H) → tPairs (dTrs X ks vs) σ H Q'
  | [], _, _, _, _, _, h, f => f _ _ h
  | _ :: _, [], _, _, _, _, h, f => f _ _ h
  | k :: ks, v :: vs, σ, H, Q, Q', h, f => by
    have h' : cR X v σ H fun y H2 => tPairs (dTrs X ks vs) σ H2 fun ps H3 => Q ((kV k, y) :: ps) H3 := h
    show cR X v σ H fun y H2 => tPairs (dTrs X ks vs) σ H2 fun ps H3 => Q' ((kV k, y) :: ps) H3
    exact cR_mono h' fun y H2 q => dTrs_mono ks vs q fun ps H3 => f _ _
def ccD (X : Cx) (ks : List Key) (vs : List Expr) : TA := fun σ H Q => tPairs (dTrs X ks vs) σ H fun ps H' => ps.map (·.1) = ks.map kV ∧ Q (ps.map (·.2)) H'
abbrev SDs (C : Dc) (X : Cx) (ks : List Key) (vs : List Expr) (is : Exs) : Prop := SEsof C X (ccD X ks vs) is
theorem sds_nil : SDs C X [] [] .nil := by
  intro σ H Sh F e W tk R hx hb
  exact ⟨rfl, [], [], e, Sh, F, rfl, rfl, R, Stp.refl, [], rfl, by simp, by simp⟩
theorem sds_cons {k : Key} {ks : List Key} {vs : List Expr} (ha : SE C X a i) (hr : SDs C X ks vs is) : SDs C X (k :: ks) (a :: vs) (.cons i is) := by
  refine sesof_cons (a := a) (cc2 := ccD X ks vs) (fun {σ H Q} h => ?_) (fun {σ H Q Q'} h f => dTrs_mono ks vs h fun ps H3 q => ⟨q.1, f _ _ q.2⟩) ha hr
  have h' : cR X a σ H fun v H1 => tPairs (dTrs X ks vs) σ H1 fun ps H' => ps.map (·.1) = ks.map kV ∧ Q (v :: ps.map (·.2)) H' := h
  show cR X a σ H fun y H2 => tPairs (dTrs X ks vs) σ H2 fun ps H3 => ((kV k, y) :: ps).map (·.1) = (k :: ks).map kV ∧ Q (((kV k, y) :: ps).map (·.2)) H3
  exact cR_mono h' fun y H2 q => dTrs_mono ks vs q fun ps H3 q => ⟨by rw [List.map_cons, q.1, List.map_cons], q.2⟩
theorem merge_new : ∀ {more kvs : List (Key × V)}, (more.map (·.1)).Nodup → (∀ p ∈ kvs, p.1 ∉ more.map (·.1)) → mergeK kvs more = kvs ++ more
  | [], kvs, _, _ => (List.append_nil kvs).symm
  | p :: more, kvs, nd, h => by
    have nd' := List.nodup_cons.mp nd
    have hv : valV kvs p.1 = none := by
      cases q : valV kvs p.1 with
      | none => rfl
      | some v =>
        unfold valV at q
        obtain ⟨x, hx, _⟩ := Option.map_eq_some_iff.mp q
        have h1 := List.mem_of_find?_eq_some hx
        have h2 := List.find?_some hx
        have h2 : x.1 = p.1 := by simpa using h2
        exact absurd (by rw [h2]; exact List.mem_cons_self) (h x h1)
    show mergeK (putK kvs p.1 p.2) more = _
    rw [putK_new _ hv, merge_new nd'.2 fun q hq => ?_]
    · simp
    · rcases List.mem_append.mp hq with z | z
      · exact fun y => h q z (List.mem_cons_of_mem _ y)
      · obtain rfl : q = (p.1, p.2) := by simpa using z
        exact nd'.1
theorem pairs_zip : ∀ {ps : List (V × V)} {ks : List Key}, ps.map (·.1) = ks.map kV → ∃ kvs : List (Key × V), ps = kvs.map (fun kv => (kV kv.1, kv.2)) ∧ kvs.map (·.1) = ks ∧ kvs.map (·.2) = ps.map (·.2)
  | [], [], _ => ⟨[], rfl, rfl, rfl⟩
  | [], _ :: _, h => by simp at h
  | _ :: _, [], h => by simp at h
  | p :: ps, k :: ks, h => by
    rw [List.map_cons, List.map_cons] at h
    obtain ⟨h1, h2⟩ := List.cons.inj h
    obtain ⟨kvs, e1, e2, e3⟩ := pairs_zip h2
    exact ⟨(k, p.2) :: kvs, by rw [e1, List.map_cons, ← h1], by rw [List.map_cons, e2], by rw [List.map_cons, e3, List.map_cons]⟩
theorem ev_dic {ks : List D} : C.ev (.dic ks is) e = (C.evs is e).bind fun ds ps e1 => if ps.all (· == .own) && decide (ks.length = ds.length) then .ok (.dct ks ds) .own e1 else .bad := rfl
theorem keysD (ks : List Key) (kvs : List (Key × V)) (h : kvs.map (·.1) = ks) : kvs.map (fun p => keyD p.1) = ks.map keyD := by
  subst h
  rw [List.map_map]
  rfl
/-- {} -/
theorem se_dic0 : SE C X (.Dict [] [] pos) (.dic [] .nil) := by
  intro σ H Sh F e W tk R hx hb
  refine cR_of pe_dnewK fun p hp => ?_
  refine ⟨.dct [] [], .own, e, Sh, F, rfl, post_fresh R Stp.refl ?_⟩
  exact ⟨fun b hb => upd_ne fun z => hb (by rw [z]; exact hp), [p], ⟨p, [], [], rfl, upd_same, rfl, rfl, rfl, rfl⟩, by simp, fun b hb => by
    obtain rfl : b = p := by simpa using hb
    exact ⟨hp, by rw [upd_same]; exact True.intro⟩⟩
/-- {k: v, ..} -/
theorem se_dic {keys : List (Option Expr)} {vs : List Expr} {ks : List Key} (hp : PPs X pos keys vs (dTrs X ks vs)) (h : SDs C X ks vs is) (nd : ks.Nodup := by decide) (hall : keys.all (·.isSome) = true := by rfl) (hl : keys.length = vs.length := by rfl) (h0 : keys ≠ [] := by exact List.cons_ne_nil _ _)
    (h15 : keys.length ≤ 15 := by decide) (hk : ks.length ≤ 15 := by decide) : SE C X (.Dict keys vs pos) (.dic (ks.map keyD) is) := by
  intro σ H Sh F e W tk R hx hb
  obtain ⟨r, hr⟩ : ∃ r, C.ev (.dic (ks.map keyD) is) e = r := ⟨_, rfl⟩
  rw [hr] at hb
  refine cR_of (pe_disp hp hall hl h0 h15) fun p hp => ?_
  have f0 : Fresh X.K X.mg H (.dct [] []) (.ref p) (upd H p (.dK [])) := ⟨fun b hb => upd_ne fun z => hb (by rw [z]; exact hp), [p], ⟨p, [], [], rfl, upd_same, rfl, rfl, rfl, rfl⟩, by simp, fun b hb => by
    obtain rfl : b = p := by simpa using hb
    exact ⟨hp, by rw [upd_same]; exact True.intro⟩⟩
  obtain ⟨R0, S0, T0⟩ := R.fresh (ms := []) f0
  refine dTrs_mono ks vs (h.bind (cc := ccD X ks vs) (fun {σ H Q Q'} h f => dTrs_mono ks vs h fun ps H3 q => ⟨q.1, f _ _ q.2⟩) tk R0 (f := fun ds ps e1 => if ps.all (· == .own) && decide ((ks.map keyD).length = ds.length) then .ok (.dct (ks.map keyD) ds) .own e1 else .bad) (r := r) (by rw [← hr, ev_dic]) hb (fun _ h => h)
    (fun x e' he => (hx x e' (hr.trans he)).step S0 (by simp) fun _ h => h) (Q := fun ws H2 => ∃ ds e1 Sh1 F1 fp, r = .ok (.dct (ks.map keyD) ds) .own e1 ∧ Rel C.io X.K X.mg σ H2 Sh1 F1 e1 ∧ Stp is.mods (upd H p (.dK [])) Sh F e H2 Sh1 F1 e1 ∧ RpL X.K X.mg H2 ds ws fp ∧ fp.Nodup ∧
      (∀ a ∈ fp, (Mt (H2 a) ∧ ¬ Sh1 a ∧ a ∉ F1.flatten) ∧ (a ∈ F.flatten ∨ upd H p (.dK []) a = none)) ∧ Tmp X.K X.mg H2 Sh1 F1 .own (.dct [] []) (.ref p)) fun ds ps e1 ws H1 Sh1 F1 hlen P q => ?_) fun ps H2 q => ?_
  · by_cases hi : (ps.all (· == .own) && decide ((ks.map keyD).length = ds.length)) = true
    case neg => rw [if_neg hi] at q; exact absurd q.symm hb
    rw [if_pos hi] at q
    obtain ⟨fp, t, n1, h1⟩ := P.tmp
    exact ⟨ds, e1, Sh1, F1, fp, q.symm, P.rel, P.stp, t.own (Bool.and_eq_true_iff.mp hi).1, n1, h1, R0.tmp T0.tmp P.stp rfl⟩
  · obtain ⟨hks, ds, e1, Sh1, F1, fp, rfl, R2, S2, rl, n1, h1, T2⟩ := q
    obtain ⟨fz, ⟨a', kvs0, fq0, ea, hz, rfl, ez, rz⟩, _, hfz⟩ := T2
    cases ea
    have e0 : kvs0 = [] := List.map_eq_nil_iff.mp ez
    subst e0
    obtain ⟨kvs, rfl, ek, ev2⟩ := pairs_zip hks
    refine ⟨hz, kvs, rfl, by rw [← List.length_map (f := (·.1)), ek]; exact hk, ?_⟩
    have em : mergeK [] kvs = kvs := by
      rw [merge_new (by rw [ek]; exact nd) (by simp)]
      rfl
    rw [em]
    obtain ⟨⟨m1, m2, m3⟩⟩ := (⟨hfz p List.mem_cons_self⟩ : PLift _)
    have hne : ∀ b, H2 b ≠ none → b ≠ p → upd H2 p (.dK kvs) b = H2 b := fun b _ n => upd_ne n
    have Kp : Keep H2 (upd H2 p (.dK kvs)) := .of fun b o q n => by
      rw [upd_ne (fun z => ?_)]
      · exact q
      · subst z
        rw [hz] at q
        cases q
        exact n True.intro
    have pF : ∀ b ∈ F1.flatten, b ≠ p := fun b hb z => m3 (z ▸ hb)
    have pS : ∀ b, Sh1 b → b ≠ p := fun b hb z => m2 (z ▸ hb)
    have pf : ∀ b ∈ fp, b ≠ p := fun b hb z => by
      subst z
      rcases (h1 b hb).2 with y | y
      · exact mut_ne (R.mu b y).1 hp
      · rw [upd_same] at y; cases y
    refine ⟨.dct (ks.map keyD) ds, .own, e1, Sh1, F1, hr, ⟨R2.le, R2.lF, fun i d hd => ?_, fun i d hd => ?_, R2.nd, fun b hb => by rw [upd_ne (pF b hb)]; exact R2.mu b hb, fun b hb => by rw [upd_ne (pS b hb)]; exact R2.sa b hb, R2.io, R2.tb.ext2 Kp fun b ps q => ?_⟩, ?_, p :: fp, ?_, ?_, fun b hb => ?_⟩
    · obtain ⟨v, g1, g2⟩ := R2.ow i d hd
      exact ⟨v, g1, g2.stay Kp _ fun b hb => upd_ne (pF b (mem_getD hb))⟩
    · obtain ⟨v, fv, g1, g2, g3⟩ := R2.sh i d hd
      exact ⟨v, fv, g1, g2.stay Kp _ fun b hb => upd_ne (pS b (g3 b hb)), g3⟩
    · rw [upd_ne (fun z => by rw [z, hz] at q; cases q)]
      exact q
    · have S3 := (S0.trans S2).mono (ms2 := (Ex.dic (ks.map keyD) is).mods) fun n hn => by simpa [Ex.mods] using hn
      refine ⟨fun b hb hn => ?_, fun b hb => ?_, S3.fs, S3.ss, S3.sn, fun n hn => ?_⟩
      · rw [upd_ne (fun z => hb.1 (by rw [z]; exact hp))]
        exact S3.kp b hb hn
      · rw [upd_ne (fun z => hb (by rw [z]; exact hp))]
        exact S3.al b hb
      · obtain ⟨g1, g2, g3⟩ := S3.fr n hn
        refine ⟨g1, g2, fun b hb => ?_⟩
        rw [upd_ne (fun z => mut_ne (R.mu b (mem_getD hb)).1 (by rw [z]; exact hp))]
        exact g3 b hb
    · refine ⟨p, kvs, fp, rfl, upd_same, rfl, keysD ks kvs ek, ?_⟩
      rw [ev2]
      exact rl.stay Kp _ fun b hb => upd_ne (pf b hb)
    · exact List.nodup_cons.mpr ⟨fun z => pf p z rfl, n1⟩
    · rcases List.mem_cons.mp hb with z | z
      · subst z
        exact ⟨⟨by rw [upd_same]; exact True.intro, m2, m3⟩, .inr hp⟩
      · refine ⟨⟨by rw [upd_ne (pf b z)]; exact (h1 b z).1.1, (h1 b z).1.2⟩, ?_⟩
        rcases (h1 b z).2 with y | y
        · exact .inl y
        · rw [upd_ne (pf b z)] at y
          exact .inr y
end
end DL
end
section
set_option Elab.async false
set_option linter.all false
set_option maxRecDepth 100000
/-! D layer, 25: repr. -/
namespace DL
open PySem PySem.Spec PyProof.Rows L2
section
variable {C : Dc} {X : Cx} {W : WX} {σ : L2.St} {H : Hp} {Sh : Addr → Prop} {F : List (List Addr)} {e : Envv} {a b c : Expr} {es : List Expr} {i j l : Ex} {is : Exs} {ms : List Nat} {pos : Pos} {k : Nat}
theorem cb_repr (hk : Xk X k) : CallR X (.builtin "repr") (rBi X .repr) := by
  intro pins s σ H vs us Q I r h
  obtain ⟨ds, z, fq, rl, hz, hf, q⟩ := h
  replace hz : reprD ds = some z := hz
  unfold reprD at hz
  split at hz
  case h_2 => cases hz
  rename_i d
  split at hz
  case isFalse => cases hz
  rename_i hok
  cases hz
  obtain ⟨hseq, hok⟩ := Bool.and_eq_true_iff.mp hok
  unfold reprOk at hok
  obtain ⟨hok, h4⟩ := Bool.and_eq_true_iff.mp hok
  obtain ⟨hok, h3⟩ := Bool.and_eq_true_iff.mp hok
  obtain ⟨h1, h2⟩ := Bool.and_eq_true_iff.mp hok
  have h3 : (toPy d).shown.length ≤ sizeLine := by rw [← sz_eq]; exact of_decide_eq_true h3
  obtain ⟨v, rfl, fp, rd⟩ := rpl_one rl
  obtain ⟨u, rfl, ru⟩ := vals1 r
  have dp := Rp.dp d DEP h1 rd
  obtain ⟨as, rr⟩ := Dp.reads I _ _ _ dp ru
  obtain ⟨l1, l2⟩ := lay_py d DEP h1
  have hu : ∃ p, u = Value.ref p := by
    cases d with
    | lst xs => obtain ⟨p, _, _, rfl, _⟩ := rd; exact ⟨p, ru⟩
    | tup xs => obtain ⟨p, _, rfl, _⟩ := rd; exact ⟨p, ru⟩
    | _ => exact absurd hseq Bool.false_ne_true
  obtain ⟨p, rfl⟩ := hu
  have hun := hk.xo.un
  refine repr_of_reads' rr h2 (PyData.noDict_hsm (PyData.hasDict_of_canLay _ l1)) hk.gd (by unfold DEP at l2; omega) (fun _ _ e => e) (fun h' u tk hk => ⟨.str (toPy d).shown, H, I.kept hk, ⟨u, rfl⟩, q _ _ (Fresh.same (fp := []) ⟨rfl, rfl⟩ rfl)⟩) h3
end
end DL
end
section
set_option Elab.async false
set_option linter.all false
set_option maxRecDepth 100000
set_option maxHeartbeats 2000000
/-! D layer, 26: an exception caught and kept. -/
namespace DL
open PySem PySem.Spec PyProof.Rows L2
section
variable {X : Cx} {pins : List (Addr × Obj)} {σ : L2.St} {H : Hp} {s sI : Shared}
/-- a caught exception as an object of ours -/
abbrev exO (c : Value) (dd : Option Addr) (a : Addr) : HO := .ext (ExP c dd a)
theorem exO_new {P : Program} {w : World} {H : Hp} {h : Heap} {a : Addr} {c : Value} {dd : Option Addr} (p : ExP c dd a h) : ObjOk P w H h a (exO c dd a) := by
  obtain ⟨oe, vs, h1, h2, h3⟩ := p
  exact ⟨⟨oe, vs, h1, h2, h3⟩, ⟨oe, h1⟩, fun _ _ q k => let ⟨o, v, q1, q2, q3⟩ := q; ⟨o, v, k o q1, q2, q3⟩⟩
/-- the handler's context, nothing pinned but what was -/
theorem toSuite (I : Inv X pins σ H s) {a : Addr} : Inv (X.suite a (X.pn ++ pins)) [] σ H s where
  ok := I.ok.suite a (X.pn ++ pins)
  os := I.os
  bare := I.bare
  base := I.base
  loc := I.loc
  cell := I.cell
  free := I.free
  freeC := I.freeC
  pin := fun p hp => I.pin p (by simpa using hp)
  hok := I.hok
  len := I.len
theorem ofSuite {a : Addr} {pn' : List (Addr × Obj)} (ok : X.Ok) (I : Inv (X.suite a (X.pn ++ pins)) pn' σ H s) : Inv X pins σ H s where
  ok := ok
  os := I.os
  bare := I.bare
  base := I.base
  loc := I.loc
  cell := I.cell
  free := I.free
  freeC := I.freeC
  pin := fun p hp => I.pin p (List.mem_append_left pn' hp)
  hok := I.hok
  len := I.len
/-- the exception that landed is tracked -/
theorem trackX {B h : Heap} {a : Addr} {c : Value} {dd : Option Addr} (J : Inv X pins σ H sI) (nb : ∀ b o, sI.heap.get? b = some o → b ∉ frs X.stack → B.get? b = some o) (na : sI.heap.get? a = none) (nB : B.get? a = none) (nH : H a = none)
    (st : B.StaysIn h) (up : sI.heap.UpToSlots h) (os : s.os = sI.os) (ag : AllBare s.gens) (p : ExP c dd a h) : Inv X pins σ (upd H a (exO c dd a)) { s with heap := h } := by
  obtain ⟨G, g1, g2⟩ := restrict h fun b => decide (b ≠ a)
  have keepG : ∀ b, b ≠ a → G.get? b = h.get? b := fun b n => g1 b (decide_eq_true n)
  have goneG : G.get? a = none := g2 a (by simp)
  have stG : B.StaysIn G := fun b o q => by
    rw [keepG b fun z => by rw [z, nB] at q; cases q]
    exact st b o q
  have upG : sI.heap.UpToSlots G := fun b o q hd => by
    rw [keepG b fun z => by rw [z, na] at q; cases q]
    exact up b o q hd
  have JG : Inv X pins σ H { s with heap := G } := J.landed nb stG upG os ag
  refine JG.laidN (h' := h) (t' := s.toks) (fun b u q => ?_) goneG nH (exO_new p)
  by_cases z : b = a
  · rw [z, goneG] at q; cases q
  · rw [← keepG b z]; exact q
end
/-- what 'try: .. except x as n: caught = n' wishes of an exception of its body -/
def wKeep (K : PySem.W.Frag) (c : Value) (i j : Nat) (D : Ends) : WX := fun cls d σ H => PySem.W.exmOne K cls c = some true ∧ ∀ a, H a = none → D.nx (((σ.set i (some (.ref a))).set j (some (.ref a))).set i none) (upd H a (exO cls d a))
section
variable {X : Cx} {x n m : Str} {c : Value} {i j : Nat} {body : List Stmt} {np pos pos' p1 p2 p3 : Pos} {tb : WX → TS}
theorem ps_keep (hs : X.stack = X.env :: X.outer) (hf : X.env.frame = some X.env.locals) (hN : X.N.Nodup) (hi : X.N[i]? = some n) (hln : X.env.kindOf n = some .local) (hj : X.N[j]? = some m) (hlm : X.env.kindOf m = some .local) (hc : Names X x c)
    (hb : ∀ (W : WX) (pn : List (Addr × Obj)) (xe : Value → Shared → Prop), Takes (X.tr pn xe) W → PassesOwn (model X.prog X.w) X.A X.env xe → PSs (X.tr pn xe) body (tb W))
    (hsu : ∀ (a : Addr) (pn : List (Addr × Obj)), PSs (X.suite a pn) [.Assign [.Name m p1] (.Name n p2) p3] fun D σ H => σ[i]? = some (some (.ref a)) ∧ D.nx (σ.set j (some (.ref a))) H) (hli : ∀ (s : Shared) (σ : L2.St) (H : Hp) (pins : List (Addr × Obj)), Inv X pins σ H s → i < σ.length) :
    PS X (.Try body [.ExceptHandler (some (.Name x np)) (some n) [.Assign [.Name m p1] (.Name n p2) p3] pos'] [] [] pos) (fun D σ H => tb (wKeep X.K c i j D) D σ H) := by
  refine ⟨fun pins s σ H D I h => ?_⟩
  have ok := I.ok
  have frames : X.A.frames = some (X.env :: X.outer) := ok.frames.trans (by rw [hs])
  have pass : PassesOwn (model X.prog X.w) X.A X.env (fun e s₁ => wpAny (model X.prog X.w) X.A (noteFrame e X.env) (fun _ s₂ => wpAny (model X.prog X.w) X.A (setFlight e none)
    (fun _ s₃ => wpAny (model X.prog X.w) X.A (handleBy e X.env [.ExceptHandler (some (.Name x np)) (some n) [.Assign [.Name m p1] (.Name n p2) p3] pos']) (SP X pins D) X.xe s₃) X.xe s₂) X.xe s₁) := PassesOwn.looking
  refine wpAny_Try_except (wpAny_mono ((hb (wKeep X.K c i j D) (X.pn ++ pins) _ ?tk pass).run [] s σ H D (I.toTry _) h) (fun f s1 q => ?fall) fun e s1 he => he)
  case fall =>
    cases f with
    | next => exact let ⟨σ', H', J', q'⟩ := q; wpAny_execs_nil ⟨σ', H', J'.ofTry ok, q'⟩
    | brk => exact let ⟨σ', H', J', q'⟩ := q; ⟨σ', H', J'.ofTry ok, q'⟩
    | cont => exact let ⟨σ', H', J', q'⟩ := q; ⟨σ', H', J'.ofTry ok, q'⟩
    | ret u => exact let ⟨v, σ', H', J', r, q'⟩ := q; ⟨v, σ', H', J'.ofTry ok, r, q'⟩
  case tk =>
    intro u s' xx
    obtain ⟨a, B, sI, pins', σ', H', cls, d, rfl, J', nb, up, sky, na, os, ag, hyes, hmore⟩ := xx
    have J : Inv X pins σ' H' sI := J'.ofTry ok
    have sky' : Sky B (X.env :: X.outer) a (Zc cls d) X.env.locals s'.heap := hs ▸ sky
    show wpAny (model X.prog X.w) X.A (noteFrame (.ref a) X.env) _ _ _
    refine Sky.land Zc.steady frames hf sky' fun h3 fl3 up3 => ?_
    have nB : B.get? a = none := fl3.2.1
    obtain ⟨oe3, vs3, he3, hz3, hd3⟩ := fl3.there
    have off : a ∉ frs X.stack := fun hm => by
      rw [hs] at hm
      obtain ⟨_, o', e', nf⟩ := fl3.2.2.1.mem hm
      rw [he3] at e'
      cases e'
      exact nf _ hd3
    have nI : sI.heap.get? a = none := by
      cases q : sI.heap.get? a with
      | none => rfl
      | some o => exact absurd (nb a o q off) (by rw [nB]; exact fun z => by cases z)
    have J3 : Inv X pins σ' H' { s' with heap := h3 } := J.landed nb fl3.1 (up.trans up3) os ag
    have S3 : Inv (X.suite a (X.pn ++ pins)) [] σ' H' { s' with heap := h3 } := toSuite J3
    refine wpAny_handleBy_cons (codeAny_handlers_test ?_) fun q => by cases q
    have T3 : PySem.W.Looks (model X.prog X.w) h3 (typeOf (.ref a)) cls := fun A Q E s k q => wpAny_typeOf_ref (k _ _ he3) (by rw [hz3.1]; exact q)
    have M3 := PySem.W.exm_one (M := model X.prog X.w) J3.kIn T3 hyes
    have look : ∀ {Q : Value → Shared → Prop} {E : Value → Shared → Prop}, Q c { s' with heap := h3 } → wpAny (model X.prog X.w) (X.A.mark (some (.ref a))) (eval (.Name x np) X.env) Q E { s' with heap := h3 } := fun {Q E} q => by
      obtain ⟨g1, g2, g3⟩ := hc
      rcases g3 with g3 | ⟨g3, g4, g5⟩
      · exact ld_glob S3 g1 g3 q g2
      · exact ld_blt S3 g1 g3 g4 q g5 g2
    refine look (M3.here (codeAny_handlers_suite_as ?_))
    refine HandSPX.lands_againZ fl3 fun h4 fl4 up4 => ?_
    obtain ⟨oe4, vs4, he4, hz4, hd4⟩ := fl4.there
    have J4 : Inv X pins σ' (upd H' a (exO cls d a)) { s' with heap := h4 } := trackX J nb nI nB na fl4.1 ((up.trans up3).trans up4) os ag ⟨oe4, vs4, he4, hz4, hd4⟩
    have S4 : Inv (X.suite a (X.pn ++ pins)) [] σ' (upd H' a (exO cls d a)) { s' with heap := h4 } := toSuite J4
    have hlt : i < σ'.length := hli _ _ _ _ J4
    refine store_ok (X := X.suite a (X.pn ++ pins)) (v := .ref a) S4 hN hi (.inl hln) rfl (fun s5 S5 => ?_) (.inr hln)
    refine wpAny_mono ((hsu a (X.pn ++ pins)).run [] s5 _ _ { nx := fun σ6 H6 => D.nx (σ6.set i none) H6, rt := fun _ _ => False, bk := fun _ _ => False, ct := fun _ _ => False } S5 ⟨?_, hmore a na⟩) (fun f s6 q6 => ?_) (fun _ _ z => z.elim)
    · rw [List.getElem?_set_self hlt]
    cases f with
    | next =>
      obtain ⟨σ6, H6, S6, z6⟩ := q6
      exact gone_ok (ofSuite ok S6) hN hi hln fun s7 J7 => ⟨_, _, J7, z6⟩
    | brk => exact let ⟨_, _, _, z⟩ := q6; z.elim
    | cont => exact let ⟨_, _, _, z⟩ := q6; z.elim
    | ret u => exact let ⟨_, _, _, _, _, z⟩ := q6; z.elim
end
end DL
end
section
set_option Elab.async false
set_option linter.all false
set_option maxRecDepth 100000
set_option maxHeartbeats 2000000
/-! D layer, 27: _law_caught(lambda: ..). -/
namespace DL
open PySem PySem.Spec PyProof.Rows L2
/-- the lambda's body, in any calls of it where no repr is under way -/
def LamB (X : Cx) (k : Nat) (scope : Scope) (body : Expr) (E : XK) (f c' : Addr) (tb : TE) : Prop :=
  ∀ (A : Around) (outer : List Env) (s : Shared) (H : Hp), Room k (A.deeper (LamX.lamEnv X scope s.heap.objs.size f c')) → A.guards = some [] → A.handled = none → PE (LamX.lamCx X A outer s H E scope f c') body tb
section
variable {X : Cx} {pins : List (Addr × Obj)} {σ : L2.St} {H : Hp} {s : Shared}
/-- the def that got the lambda calls it -/
theorem act_lam {Eg : XK} {Ng : List Str} {qg : Str} {sg : Scope} {g f c' : Addr} {cdg pm ctv : Value} {params : Arguments} {body : Expr} {scope : Scope} {k i : Nat} {a : Str} {pn : List (Addr × Obj)} {xe : Value → Shared → Prop} {W : WX} {E : XK} {tb : TE} {p1 p2 : Pos}
    (I : Inv X pins σ H s) (L : LamX.LamS X.env.scope scope) (hf : s.heap.get? f = some (PySem.W.kla_obj "<lambda>" (X.env.qual ++ "<lambda>") params body scope (cloFrom X.env.cells scope.names []) pm c' ctv)) (hfn : H f = none) (hfr : f ∉ frs X.stack)
    (hbind : bindArgs (PySem.W.kla_fn "<lambda>" (X.env.qual ++ "<lambda>") params body scope (cloFrom X.env.cells scope.names []) pm (.ref c') ctv) ⟨[], []⟩ = pure [])
    (tk : Takes ((cxOf C8.CX0 X.prog X.w X.K X.mg X.base Ng qg sg g cdg X.A X.stack s H Eg).tr pn xe) W) (hr : Room (k + 1) (X.A.deeper (envOfC qg sg s.heap.objs.size g cdg)))
    (hgd : X.A.guards = some []) (hbody : LamB X k scope body E f c' tb) (hN : Ng[i]? = some a) (hv : Vis sg a) (hd : (a == ("__debug__" : Str)) = false) (hcd : (a == ("__classdict__" : Str)) = false) :
    PE ((cxOf C8.CX0 X.prog X.w X.K X.mg X.base Ng qg sg g cdg X.A X.stack s H Eg).tr pn xe) (.Call (.Name a p1) [] [] p2)
      (fun σZ HZ Q => (∀ cls d H', E cls d H' → W cls d σZ H') ∧ σZ[i]? = some (some (.ref f)) ∧ HZ c' = some (LamX.CodeO c' (X.env.qual ++ "<lambda>")) ∧ tb σ HZ Q) := by
  refine ⟨fun pinsZ sZ σZ HZ Q IZ ⟨hW, hs, hc, ht⟩ => wpAny_Call_Name_kw ?_⟩
  refine thn ((pe_var (pos := p1) (i := i) hN hv hd hcd).run pinsZ sZ σZ HZ (fun v H1 => v = .ref f ∧ H1 = HZ) IZ ⟨.ref f, hs, rfl, rfl⟩) fun u s1 ⟨v, H1, I1, r1, ev, eH⟩ => ?_
  subst ev eH
  obtain rfl : u = Value.ref f := r1
  have here : s1.heap.get? f = some (PySem.W.kla_obj "<lambda>" (X.env.qual ++ "<lambda>") params body scope (cloFrom X.env.cells scope.names []) pm c' ctv) :=
    I1.base.keep f _ hf hfn hfr fun z => nomatch (show f ∈ ([] : List Addr) from z)
  refine PySem.W.callWith_F0 ⟨_, _, _, _, here⟩ ?_
  have un : Un (frs X.stack) [] H H1 s.heap s1.heap := I1.base
  obtain ⟨⟨oc, vs, t, hoc, hdc, hvc⟩, _, _⟩ := I1.hok c' _ hc
  have run : codeAny (model X.prog X.w) (X.A.deeper (envOfC qg sg s.heap.objs.size g cdg)) (.call (.ref f) ⟨[], []⟩) (CR (L2.CX X.prog X.w) (envOfC qg sg s.heap.objs.size g cdg :: X.stack) X.prog X.w H1 s1 Q E) s1 := by
    refine PySem.W.kla_callFunE hr.depth here rfl L.co L.gen rfl ⟨c', oc, vs, t, rfl, hoc, hdc, hvc⟩ ?_
    rw [hbind]
    refine wpAny_pure (wpAny_newFunctionEnv (fun y hy => (L.own y hy).2) (fun y hy => absurd hy (by simp)) (fun h₁ hns hsb => ⟨I1.nolimit.fresh _ hsb, ?_⟩) L.kind)
    have kp : ∀ b o, s1.heap.get? b = some o → h₁.get? b = some o := fun b o e => hsb.extBut b o (Nat.ne_of_lt (Heap.lt_size e)) (Heap.get?_push_of_some _ e)
    have J : Inv (LamX.lamCx X (X.A.deeper (envOfC qg sg s.heap.objs.size g cdg)) (envOfC qg sg s.heap.objs.size g cdg :: X.stack) s1 H1 E scope f c') [] σ H1 { s1 with heap := h₁, toks := s1.toks + ([] : List (Str × Value)).length } :=
      LamX.lam_start2 I L I1.env0 hr.hd un hns kp
    show codeAny _ _ (.expr body (LamX.lamEnv X scope s1.heap.objs.size f c')) _ _
    refine PySem.W.kla_codeExpr (wpAny_mono ((hbody _ _ s1 H1 (hr.deeper _) hgd hr.hd).run [] _ _ H1 Q J ht) (fun v s' hq => ?_) fun e s' hq => hq)
    exact let ⟨w', H', J', rv, q⟩ := hq; ⟨w', H', J'.os, J'.bare, J'.base, J'.hok, rv, q⟩
  refine wpAny_call (codeAny_mono run fun r s' hq => ?_)
  match r, hq with
  | .error e, hq => exact tk e s' (XE.of_call I1 hW hq)
  | .ok (.ret u), hq => exact I1.after hq
  | .ok .next, hq => exact hq.elim
  | .ok .brk, hq => exact hq.elim
  | .ok .cont, hq => exact hq.elim
end
/-- the lambda made: what was there is there -/
theorem make_lam {X : Cx} {pins : List (Addr × Obj)} {σ : L2.St} {H : Hp} {s : Shared} {T : List (Addr × Str)} {c P : Addr} {params : Arguments} {body : Expr} {scope : Scope} {pos : Pos} {E : Value → Shared → Prop} {Q : Value → Shared → Prop}
    (I : Inv X pins σ H s) (TB : LamX.TabB X.base X.mg c P) (hcode : X.env.code = .ref c) (hm : (P, X.env.qual ++ "<lambda>") ∈ T) (hu : ∀ p ∈ T, p.1 = P → p.2 = X.env.qual ++ "<lambda>") (hT : LamX.Tabs T H)
    (hdef : defaultsOf params X.env = ([], [])) (hfree : ∀ y ∈ scope.names, y.2 = .free → ∃ c, X.env.cells.lookup y.1 = some c)
    (h : ∀ (f c' : Addr) (pm ctv : Value) (H1 : Hp) (s' : Shared), Inv X pins σ H1 s' → LamX.ExtN H H1 → (∀ b, H b ≠ none → H1 b ≠ none) → LamX.Tabs T H1 →
      s'.heap.get? f = some (PySem.W.kla_obj "<lambda>" (X.env.qual ++ "<lambda>") params body scope (cloFrom X.env.cells scope.names []) pm c' ctv) → H1 f = none → f ∉ frs X.stack → H1 c' = some (LamX.CodeO c' (X.env.qual ++ "<lambda>")) → Q (.ref f) s') :
    wpAny (model X.prog X.w) X.A (eval (.Lambda params body scope pos) X.env) Q E s := by
  obtain ⟨ps, atP, tri, names⟩ := hT _ hm
  have getP : s.heap.get? P = some { cls := .none, data := .fields ps } := I.hok P _ atP
  have noFrame : ∀ f, s.heap.objs.size ≤ f → f ∉ frs X.stack := fun f hf z => by
    rcases List.mem_cons.mp (I.stkSub _ z) with e | e
    · exact absurd (e ▸ I.lt : f < s.heap.objs.size) (Nat.not_lt.mpr hf)
    · exact I.nofs hf e
  refine PySem.W.kla_eval hdef ?_
  cases hc : codeAmong pos ps.toList with
  | some cv =>
    obtain ⟨c', rfl, hco⟩ := names pos cv hc
    refine PySem.W.kla_makeFunctionHit (mg := X.mg) (c := c) (P := P) (ps := ps) (closure_ok hfree) I.ok.glob (I.mod.glob.keeps I.bk) hcode (TB.code.keeps I.bk) getP tri hc (TB.bm.keeps I.bk) fun ctv h' tk hx hsz => ?_
    refine h h'.objs.size c' ((X.mg "__name__").getD .none) ctv H _ (I.kept (t' := tk) fun b o e => Heap.get?_push_of_some _ (hx b o e)) (.refl H) (fun _ z => z) hT (Heap.get?_push_size _ rfl) (I.hok.fresh hsz) (noFrame _ hsz) hco
  | none =>
    refine PySem.W.kla_makeFunction (mg := X.mg) (c := c) (P := P) (ps := ps) (closure_ok hfree) I.ok.glob (I.mod.glob.keeps I.bk) hcode (TB.code.keeps I.bk) getP tri hc TB.gP (TB.bm.keeps I.bk) fun c' ctv h' tk hx hge hlt hrec htb => ?_
    obtain ⟨c2, oc, vs, t, e2, hoc, hd, hv⟩ := hrec
    cases e2
    have big : s.heap.objs.size ≤ h'.objs.size := by omega
    have nC : H c' = none := I.hok.fresh hge
    have I1 := LamX.inv_table (t' := tk) (more := #[rawInt pos.line, rawInt pos.col, .ref c']) (h' := h'.push (PySem.W.kla_obj "<lambda>" (X.env.qual ++ "<lambda>") params body scope (cloFrom X.env.cells scope.names []) ((X.mg "__name__").getD .none) c' ctv)) I atP
      (fun b o hb e => Heap.get?_push_of_some _ (hx b o hb e)) (Heap.get?_push_of_some _ htb) hge ⟨oc, vs, t, Heap.get?_push_of_some _ hoc, hd, hv⟩
    obtain ⟨H1, eH⟩ : ∃ H1, H1 = upd (upd H P (.tbl (ps ++ #[rawInt pos.line, rawInt pos.col, .ref c']))) c' (LamX.CodeO c' (X.env.qual ++ "<lambda>")) := ⟨_, rfl⟩
    rw [← eH] at I1
    have oth : ∀ b, b ≠ c' → b ≠ P → H1 b = H b := fun b h1 h2 => by rw [eH, upd_ne h1, upd_ne h2]
    have newP : H1 P = some (.tbl (ps ++ #[rawInt pos.line, rawInt pos.col, .ref c'])) := by rw [eH, upd_ne (ne_of_none atP nC), upd_same]
    have newC : H1 c' = some (LamX.CodeO c' (X.env.qual ++ "<lambda>")) := by rw [eH, upd_same]
    have hE : LamX.ExtN H H1 := fun b o e n => by
      rw [oth b (ne_of_none e nC) fun z => n ps (Option.some.inj (e.symm.trans (by rw [z]; exact atP)))]
      exact e
    have eL : (ps ++ #[rawInt pos.line, rawInt pos.col, .ref c']).toList = ps.toList ++ [rawInt pos.line, rawInt pos.col, .ref c'] := by simp
    refine h h'.objs.size c' ((X.mg "__name__").getD .none) ctv H1 _ I1 hE (fun b hb z => ?_) (fun p hp => ?_) (Heap.get?_push_size _ rfl) ?_ (noFrame _ big) newC
    · by_cases h1 : b = c'
      · rw [h1, newC] at z; cases z
      · by_cases h2 : b = P
        · rw [h2, newP] at z; cases z
        · rw [oth b h1 h2] at z; exact hb z
    · by_cases hb : p.1 = P
      · rw [hu p hp hb, hb]
        refine ⟨_, newP, by rw [eL]; exact PySem.TriplesOk_snoc _ _ _ _ tri, fun p' cv hcv => ?_⟩
        rw [eL] at hcv
        rcases LamX.among_app _ tri hcv with z | z
        · exact let ⟨c0, e1, e2⟩ := names p' cv z; ⟨c0, e1, hE _ _ e2 LamX.codeO_ne⟩
        · exact ⟨c', z, newC⟩
      · obtain ⟨ps', a1, a2, a3⟩ := hT p hp
        exact ⟨ps', by rw [oth _ (ne_of_none a1 nC) hb]; exact a1, a2, fun p' cv hcv => let ⟨c0, e1, e2⟩ := a3 p' cv hcv; ⟨c0, e1, hE _ _ e2 LamX.codeO_ne⟩⟩
    · have n1 : h'.objs.size ≠ c' := Nat.ne_of_gt hlt
      have n2 : h'.objs.size ≠ P := Nat.ne_of_gt (Nat.lt_of_lt_of_le (Heap.lt_size getP) big)
      rw [oth _ n1 n2]
      exact I.hok.fresh big
/-- what x(lambda: ..) makes of the lambda's reading: None, or what was caught -/
def TKeep (K : PySem.W.Frag) (CS : Addr) : (XK → Hp → VK → Prop) → Hp → VK → Prop := fun tl H Q =>
  tl (fun cls d H' => PySem.W.exmOne K cls (.ref CS) = some true ∧ ∀ a, H' a = none → Q (.ref a) (upd H' a (exO cls d a))) H fun _ H' => Q .non H'
/-- caught = None; try: work() except x as error: caught = error; return caught -/
abbrev keepBody (c w e x : Str) (j : Nat) (p1 p2 p3 p4 p5 p6 p7 p8 p9 p10 p11 p12 p13 p14 p15 : Pos) : List Stmt :=
  [.Assign [.Name c p1] (.Constant .none j p2) p3,
   .Try [.Expr (.Call (.Name w p4) [] [] p5) p6] [.ExceptHandler (some (.Name x p7)) (some e) [.Assign [.Name c p8] (.Name e p9) p10] p11] [] [] p12,
   .Return (some (.Name c p13)) p14]
end DL
end
section
set_option Elab.async false
set_option linter.all false
set_option maxRecDepth 100000
set_option maxHeartbeats 4000000
/-! D layer, 28: a look by computation that a text is told by its IR: shapes, scopes. -/
namespace DL
open PySem PySem.Spec PyProof.Rows L2

/-! ### shapes -/
def xStar : Expr → Bool
  | .Starred _ _ => true
  | _ => false
def xComp : Expr → Bool
  | .ListComp _ _ _ _ => true
  | .SetComp _ _ _ _ => true
  | .DictComp _ _ _ _ _ => true
  | _ => false
def xSet : Expr → Bool
  | .Set _ _ _ => true
  | _ => false
def xSlice : Expr → Bool
  | .Slice _ _ _ _ => true
  | _ => false
def xTup : Expr → Bool
  | .Tuple _ _ _ => true
  | _ => false
def xCall : Expr → Bool
  | .Call _ _ _ _ => true
  | _ => false
/-- a test of its own row -/
def xTest : Expr → Bool
  | .UnaryOp _ _ _ => true
  | .BoolOp _ _ _ => true
  | .IfExp _ _ _ _ => true
  | .Compare _ _ _ _ => true
  | _ => false
section
variable {env : Env} {a b : Expr} {es : List Expr} {pos : Pos}
theorem star_cons (h : xStar a = false) : starEach (a :: es) env = (false, eval a env) :: starEach es env := by
  cases a <;> first | (cases h; done) | rfl
theorem star_back : ∀ {es : List Expr}, es.all (fun a => !xStar a) = true → (backTo pos (starEach es env)).any (·.1) = false
  | [], _ => by rfl
  | a :: es, h => by
    rw [List.all_cons, Bool.and_eq_true] at h
    rw [star_cons (by simpa using h.1)]
    show (false || (backTo pos (starEach es env)).any (·.1)) = false
    rw [star_back h.2]; rfl
theorem star_all : ∀ {es : List Expr}, es.all (fun a => !xStar a) = true → (backTo pos (starEach es env)).all (fun x => !x.1) = true
  | [], _ => by rfl
  | a :: es, h => by
    rw [List.all_cons, Bool.and_eq_true] at h
    rw [star_cons (by simpa using h.1)]
    show (true && (backTo pos (starEach es env)).all (fun x => !x.1)) = true
    rw [star_all h.2]; rfl
theorem plainIx_of (h : xSlice b = false) : PlainIx b := by
  cases b <;> first | (cases h; done) | (intro _ _; rfl)
theorem marks_of {op : CmpOp} (h : xSet b = false) : behindInMarks op b = false := by
  cases b <;> first | (cases h; done) | rfl
theorem folded_of (h : xSet a = false) (x : Value) : foldedSetIterable a env x = pure x := by
  cases a <;> first | (cases h; done) | rfl
theorem swaps_of {o : Option Expr} {n : Nat} (h : xComp a = false) : swapsWith a o n env = pure false := by
  cases a <;> first | (cases h; done) | rfl
theorem swapsT_of {es : List Expr} {k n : Nat} {p : Pos} : swapsWith a (some (.Tuple es k p)) n env = pure false := by
  cases a <;> rfl
theorem swapped_of {t : Expr} (h : xTup a = false) : swappedStores [t] a env = pure none := by
  cases a <;> first | (cases h; done) | (cases t <;> rfl)
theorem base_of {f : Str} {w : Sem Value} (h : xCall a = false) : attributeBase a f env w = w := by
  cases a <;> first | (cases h; done) | rfl
theorem true_of (h : xTest a = false) (w : Sem Value) : isTrue a env w = (do let v ← w; standAt a.pos; holding [v] (truthy v)) := by
  cases a <;> first | (cases h; done) | rfl
theorem asg_cons (h : xStar a = false) : assignEach (a :: es) env = (false, assign a env) :: assignEach es env := by
  cases a <;> first | (cases h; done) | rfl
theorem asg_len : ∀ {es : List Expr}, (assignEach es env).length = es.length
  | [] => by rfl
  | a :: es => by
    have := asg_len (es := es)
    cases a <;> (first | (show (assignEach es env).length + 1 = _; rw [this]; rfl))
theorem asg_find : ∀ {es : List Expr}, es.all (fun a => !xStar a) = true → (assignEach es env).findIdx? (·.1) = none
  | [], _ => by rfl
  | a :: es, h => by
    rw [List.all_cons, Bool.and_eq_true] at h
    rw [asg_cons (by simpa using h.1), List.findIdx?_cons]
    show Option.map (fun i => i + 1) _ = none
    rw [asg_find h.2]; rfl
end

/-! ### scopes -/
def okN (x : Str) : Bool := !(x == ("__debug__" : Str)) && !(x == ("__classdict__" : Str)) && !(x == ("__name__" : Str))
theorem okN_d {x : Str} (h : okN x = true) : (x == ("__debug__" : Str)) = false := by
  simp only [okN, Bool.and_eq_true, Bool.not_eq_true'] at h; exact h.1.1
theorem okN_c {x : Str} (h : okN x = true) : (x == ("__classdict__" : Str)) = false := by
  simp only [okN, Bool.and_eq_true, Bool.not_eq_true'] at h; exact h.1.2
theorem okN_n {x : Str} (h : okN x = true) : x ≠ "__name__" := by
  simp only [okN, Bool.and_eq_true, Bool.not_eq_true'] at h; simpa using h.2
/-- slots, the names of the block that runs -/
structure Sc where
  N : List Str
  names : List (Str × NameKind)
  deriving Inhabited
def Sc.vis (S : Sc) (x : Str) : Bool := match S.names.lookup x with
  | some .local => true
  | some .cell => true
  | some .free => true
  | _ => false
def Sc.loc (S : Sc) (x : Str) : Bool := match S.names.lookup x with
  | some .local => true
  | some .cell => true
  | _ => false
def Sc.pl (S : Sc) (x : Str) : Bool := S.names.lookup x == some .local
def Sc.cap (S : Sc) (x : Str) : Bool := match S.names.lookup x with
  | some .cell => true
  | some .free => true
  | _ => false
def Sc.glo (S : Sc) (x : Str) : Bool := S.names.lookup x == some .globalImplicit && okN x
def Sc.slot (S : Sc) (x : Str) (n : Nat) : Bool := decide (S.N[n]? = some x) && okN x
/-- an own name of the block -/
def Sc.var (S : Sc) (x : Str) (n : Nat) : Bool := S.slot x n && S.vis x
def Sc.tgt (S : Sc) (x : Str) (n : Nat) : Bool := S.slot x n && S.loc x
structure ScOk (S : Sc) (X : Cx) : Prop where
  N : X.N = S.N
  nd : X.N.Nodup
  calm : X.calm = true
  kind : X.env.blockKind = .function
  skind : X.env.scope.kind = .function
  vis : ∀ x, S.vis x = true → Vis X.env.scope x
  loc : ∀ x, S.loc x = true → Loc X.env.scope x ∧ (X.fn x = true ∨ X.env.scope.names.lookup x = some .local)
  pl : ∀ x, S.pl x = true → X.env.scope.names.lookup x = some .local
  cap : ∀ x, S.cap x = true → X.env.scope.names.lookup x = some .cell ∨ X.env.scope.names.lookup x = some .free
  glo : ∀ x, S.glo x = true → Gl X x
section
variable {S : Sc} {X : Cx} {x : Str} {n : Nat}
theorem ScOk.at (O : ScOk S X) (h : S.slot x n = true) : X.N[n]? = some x ∧ okN x = true := by
  simp only [Sc.slot, Bool.and_eq_true, decide_eq_true_eq] at h
  exact ⟨by rw [O.N]; exact h.1, h.2⟩
theorem ScOk.var (O : ScOk S X) (h : S.var x n = true) : X.N[n]? = some x ∧ Vis X.env.scope x ∧ okN x = true := by
  simp only [Sc.var, Bool.and_eq_true] at h
  exact ⟨(O.at h.1).1, O.vis x h.2, (O.at h.1).2⟩
theorem ScOk.tgt (O : ScOk S X) (h : S.tgt x n = true) : X.N[n]? = some x ∧ Loc X.env.scope x ∧ (X.fn x = true ∨ X.env.scope.names.lookup x = some .local) ∧ okN x = true := by
  simp only [Sc.tgt, Bool.and_eq_true] at h
  exact ⟨(O.at h.1).1, (O.loc x h.2).1, (O.loc x h.2).2, (O.at h.1).2⟩
theorem Sc.glo_ok (h : S.glo x = true) : okN x = true := by
  simp only [Sc.glo, Bool.and_eq_true] at h; exact h.2
end
/-- the scope of a comprehension's block -/
def Sc.blk (S : Sc) (scope : Scope) : Sc := ⟨S.N, scope.names⟩
def blkOk (S : Sc) (scope : Scope) (own : List (Str × Nat)) : Bool :=
  decide (scope.kind = .function) && scope.names.all (fun y => decide (scope.names.lookup y.1 = some y.2)) && own.all (fun p => decide (S.N[p.2]? = some p.1)) &&
  scope.names.all (fun y => !(y.2 == .free) || S.cap y.1) && scope.names.all (fun y => !(y.2 == .local || y.2 == .cell) || (own.map (·.1)).contains y.1 || !(S.N.contains y.1))
theorem blkOk_ok {S : Sc} {X : Cx} {scope : Scope} {own : List (Str × Nat)} (O : ScOk S X) (h : blkOk S scope own = true) : BlkOk X.N X.env.scope scope own := by
  simp only [blkOk, Bool.and_eq_true, decide_eq_true_eq, List.all_eq_true] at h
  obtain ⟨⟨⟨⟨h1, h2⟩, h3⟩, h4⟩, h5⟩ := h
  refine ⟨h1, h2, fun p hp => by rw [O.N]; exact h3 p hp, fun y hy hf => ?_, fun y hy hk => ?_⟩
  · have := h4 y hy
    rw [hf] at this
    exact O.cap _ (by simpa using this)
  · have := h5 y hy
    rcases hk with hk | hk <;> rw [hk] at this <;> simp only [Bool.or_eq_true] at this <;> rcases this with (z | z) | z
    · cases z
    · exact .inl (by simpa using z)
    · exact .inr (by rw [O.N]; simpa using z)
    · cases z
    · exact .inl (by simpa using z)
    · exact .inr (by rw [O.N]; simpa using z)
theorem rel_look {sc : Scope} : ∀ {names : List (Str × NameKind)} {x : Str} {k : NameKind}, names.lookup x = some k →
    let r := (names.map fun (n, k) => if (k == NameKind.free && sc.kind == .function && sc.names.lookup n == some .cell) then (n, NameKind.cell) else (n, k)).lookup x
    r = some k ∨ (k = .free ∧ r = some .cell)
  | [], _, _, h => by simp at h
  | (n, k0) :: r, x, k, h => by
    have ih := @rel_look sc r x k
    by_cases hx : (x == n) = true
    · rw [List.lookup_cons, hx] at h
      cases h
      by_cases hc : (k0 == NameKind.free && sc.kind == .function && sc.names.lookup n == some .cell) = true
      · right
        have h2 := hc
        simp only [Bool.and_eq_true, beq_iff_eq] at h2
        refine ⟨h2.1.1, ?_⟩
        simp only [List.map_cons, if_pos hc, List.lookup_cons, hx]
      · left
        simp only [List.map_cons, if_neg hc, List.lookup_cons, hx]
    · have hx : (x == n) = false := by simpa using hx
      rw [List.lookup_cons, hx] at h
      have := ih h
      by_cases hc : (k0 == NameKind.free && sc.kind == .function && sc.names.lookup n == some .cell) = true
      · simpa only [List.map_cons, if_pos hc, List.lookup_cons, hx] using this
      · simpa only [List.map_cons, if_neg hc, List.lookup_cons, hx] using this
theorem blk_look {scope : Scope} {cl : List (Str × Addr)} {Ca : Addr} {env : Env} {x : Str} {k : NameKind} (h : scope.names.lookup x = some k) :
    (compEnvC scope cl Ca env).scope.names.lookup x = some k ∨ (k = .free ∧ (compEnvC scope cl Ca env).scope.names.lookup x = some .cell) := rel_look (sc := env.scope) h
theorem ScOk.blk {S : Sc} {X : Cx} {scope : Scope} (O : ScOk S X) (hk : scope.kind = .function) (s : Shared) (H : Hp) (Ca : Addr) (cl : List (Str × Addr)) (fp : List Addr) : ScOk (S.blk scope) (X.blk s H scope (compEnvC scope cl Ca X.env) fp) where
  N := O.N
  nd := O.nd
  calm := O.calm
  kind := by
    show (if scope.kind.isAnnotationScope then _ else scope.kind) = _
    rw [hk]; rfl
  skind := hk
  vis := fun x h => by
    simp only [Sc.vis, Sc.blk] at h
    split at h <;> first | (cases h; done) | skip
    all_goals (rename_i q; rcases blk_look (cl := cl) (Ca := Ca) (env := X.env) q with z | ⟨z1, z⟩)
    · exact .inl z
    · cases z1
    · exact .inr (.inl z)
    · cases z1
    · exact .inr (.inr z)
    · exact .inr (.inl z)
  loc := fun x h => by
    simp only [Sc.loc, Sc.blk] at h
    split at h <;> first | (cases h; done) | skip
    all_goals (rename_i q; rcases blk_look (cl := cl) (Ca := Ca) (env := X.env) q with z | ⟨z1, z⟩)
    · exact ⟨.inl z, .inr z⟩
    · cases z1
    · exact ⟨.inr z, .inl (by show (scope.names.lookup x == some .cell) = true; rw [q]; rfl)⟩
    · cases z1
  pl := fun x h => by
    simp only [Sc.pl, Sc.blk, beq_iff_eq] at h
    rcases blk_look (cl := cl) (Ca := Ca) (env := X.env) h with z | ⟨z1, z⟩
    · exact z
    · cases z1
  cap := fun x h => by
    simp only [Sc.cap, Sc.blk] at h
    split at h <;> first | (cases h; done) | skip
    all_goals (rename_i q; rcases blk_look (cl := cl) (Ca := Ca) (env := X.env) q with z | ⟨z1, z⟩)
    · exact .inl z
    · cases z1
    · exact .inr z
    · exact .inl z
  glo := fun x h => by
    simp only [Sc.glo, Sc.blk, Bool.and_eq_true, beq_iff_eq] at h
    rcases blk_look (cl := cl) (Ca := Ca) (env := X.env) h.1 with z | ⟨z1, z⟩
    · exact z
    · cases z1
theorem ScOk.body {P : Program} {w : World} {K : PySem.W.Frag} {mg : Str → Option Value} {base : Heap} {N ps : List Str} {qual : Str} {scope : Scope} {f : Addr} {cd : Value} {A : Around} {outer : List Env} {s : Shared} {H : Hp} {E : XK} (F : FnScope N ps scope) : ScOk ⟨N, scope.names⟩ (bodyCx P w K mg base N qual scope f cd A outer s H E) where
  N := rfl
  nd := F.nd
  calm := rfl
  kind := by
    show (if scope.kind.isAnnotationScope then _ else scope.kind) = _
    rw [F.kind]; rfl
  skind := F.kind
  vis := fun x h => by
    simp only [Sc.vis] at h
    split at h <;> first | (cases h; done) | skip
    all_goals rename_i q
    · exact .inl q
    · exact .inr (.inl q)
    · exact .inr (.inr q)
  loc := fun x h => by
    simp only [Sc.loc] at h
    split at h <;> first | (cases h; done) | skip
    all_goals rename_i q
    · exact ⟨.inl q, .inl rfl⟩
    · exact ⟨.inr q, .inl rfl⟩
  pl := fun x h => by
    simp only [Sc.pl, beq_iff_eq] at h
    exact h
  cap := fun x h => by
    simp only [Sc.cap] at h
    split at h <;> first | (cases h; done) | skip
    all_goals rename_i q
    · exact .inl q
    · exact .inr q
  glo := fun x h => by
    simp only [Sc.glo, Bool.and_eq_true, beq_iff_eq] at h
    exact h.1
end DL
end
section
set_option Elab.async false
set_option linter.all false
set_option maxRecDepth 100000
set_option maxHeartbeats 4000000
/-! D layer, 37: what catches: _law_caught(lambda: ..). -/
namespace DL
open PySem PySem.Spec PyProof.Rows L2
/-- the def x calls what it gets and hands back the error of the class xc that this raises, None if none -/
structure CatchAt (K : PySem.W.Frag) (mg : Str → Option Value) (sub : Bool → Str → Str → Option Bool) (x xc : Str) : Prop where
  ex : ∃ (g Ca : Addr) (fd : FuncData) (params : Arguments) (scope : Scope) (c w e : Str) (j : Nat) (p1 p2 p3 p4 p5 p6 p7 p8 p9 p10 p11 p12 p13 p14 : Pos),
    FunD K x x params (keepBody c w e xc j p1 p2 p3 p4 p5 p6 p7 p8 p9 p10 p11 p12 p13 p14 p14) scope [] [] g fd ∧ mg x = some (.ref g) ∧ mg xc = some (.ref Ca) ∧ FnScope [w, c, e] [w] scope ∧ Binds K fd [w] [] ∧
    scope.names.lookup w = some .local ∧ scope.names.lookup c = some .local ∧ scope.names.lookup e = some .local ∧ scope.names.lookup xc = some .globalImplicit ∧
    (w == ("__debug__" : Str)) = false ∧ (w == ("__classdict__" : Str)) = false ∧ (c == ("__debug__" : Str)) = false ∧ (c == ("__classdict__" : Str)) = false ∧ (e == ("__debug__" : Str)) = false ∧ (e == ("__classdict__" : Str)) = false ∧ (xc == ("__debug__" : Str)) = false ∧
    (∀ y b Cy, sub true y xc = some b → mg y = some (.ref Cy) → PySem.W.exmOne K (.ref Cy) (.ref Ca) = some b)
/-- where a def makes lambdas -/
structure LamAt (X : Cx) (T : List (Addr × Str)) (k : Nat) : Prop where
  ex : ∃ c P, X.env.code = .ref c ∧ LamX.TabB X.base X.mg c P ∧ (P, X.env.qual ++ "<lambda>") ∈ T ∧ (∀ p ∈ T, p.1 = P → p.2 = X.env.qual ++ "<lambda>") ∧ Room (k + 3) X.A ∧ X.A.guards = some []
section
variable {C : Dc} {X : Cx} {W : WX} {σ : L2.St} {H : Hp} {Sh : Addr → Prop} {F : List (List Addr)} {e : Envv} {i : Ex} {k : Nat} {pos lpos p : Pos} {x xc : Str}
theorem caughtR_ok {sub : Bool → Str → Str → Option Bool} {r q : Res} (h : caughtR sub xc r = q) (hb : q ≠ .bad) : (∃ d p e1, r = .ok d p e1 ∧ q = .ok .non .own e1) ∨ (∃ y e1, r = .exc y e1 ∧ sub true y.cls xc = some true ∧ q = .ok (.exn y.cls y.fs y.vs) .own e1) := by
  unfold caughtR at h
  split at h
  · exact .inl ⟨_, _, _, rfl, h.symm⟩
  · split at h
    · exact .inr ⟨_, _, rfl, by assumption, h.symm⟩
    · exact absurd h.symm hb
  · exact absurd h.symm hb
theorem ev_caught : C.ev (.caught i xc) e = caughtR C.cb.sub xc (C.ev i e) := by rfl
/-- a caught error is a new value -/
theorem exn_fresh {K : PySem.W.Frag} {mg : Str → Option Value} {y : Xn} {c : Value} {dd : Option Addr} {a : Addr} (h : XnAt K mg y c dd H) (ha : H a = none) : Fresh K mg H (.exn y.cls y.fs y.vs) (.ref a) (upd H a (exO c dd a)) := by
  obtain ⟨Cy, rfl, hm, hx⟩ := h
  have kp : ∀ b, H b ≠ none → upd H a (exO (.ref Cy) dd a) b = H b := fun b hb => upd_ne fun z => hb (by rw [z]; exact ha)
  refine ⟨kp, [], ⟨a, Cy, dd, _, rfl, hm, upd_same, fun h q => q, rfl, ?_⟩, by simp, by simp⟩
  rcases hx with hx | ⟨d, gs, h1, h2, h3, h4⟩
  · exact .inl hx
  · have K1 : Keep H (upd H a (exO (.ref Cy) dd a)) := .of fun b o q _ => (kp b (by rw [q]; exact fun z => by cases z)).trans q
    exact .inr ⟨d, gs, h1, K1.xd _ _ h2, h3, RpL.stay K1 _ (by simp) h4⟩
theorem se_caught {params : Arguments} {body : Expr} {scope : Scope} (CA : CatchAt X.K X.mg C.cb.sub x xc) (LA : LamAt X C.io.T k) (hg : Gl X x) (hdx : (x == ("__debug__" : Str)) = false) (L : LamX.LamS X.env.scope scope) (hp : params = ⟨[], [], none, [], [], none, []⟩)
    (hbody : ∀ (A : Around) (outer : List Env) (s : Shared) (H : Hp) (E : XK) (f c' : Addr), Room (k + 1) (A.deeper (LamX.lamEnv X scope s.heap.objs.size f c')) → A.guards = some [] → SE C (LamX.lamCx X A outer s H E scope f c') body i) :
    SE C X (.Call (.Name x p) [.Lambda params body scope lpos] [] pos) (.caught i xc) := by
  obtain ⟨g, Ca, fd, gp, gs, cn, wn, en, j, p1, p2, p3, p4, p5, p6, p7, p8, p9, p10, p11, p12, p13, p14, FD, hm, hmc, S, hB, lw, lc, le, lx, dw, cw, dc, cc, de, ce, dx, exm⟩ := CA.ex
  obtain ⟨c, P, hcode, TB, hmT, hu, hr, hgd⟩ := LA.ex
  obtain ⟨oc, od, dV, kV, doc, pm, an, cdv, ct, osl, rfl, lk, hcd, _, _⟩ := FD.ex
  have nd := S.nd
  intro σ H Sh F e W tk R hx hb pins s I
  obtain ⟨r, hr'⟩ : ∃ r, C.ev (.caught i xc) e = r := ⟨_, rfl⟩
  rw [hr'] at hb
  have ev := hr'
  rw [ev_caught] at ev
  have cases := caughtR_ok ev hb
  have nbad : C.ev i e ≠ .bad := fun z => by rw [z] at ev; exact hb ev.symm
  refine wpAny_Call_Name_kw (ld_glob I hg hm ?_ hdx)
  refine PySem.W.callWith_K (h₀ := X.base) I.ok.mod.kin FD.kp ?_ (by rfl) (by rfl)
  show wpAny _ _ (spliced ((false, eval (.Lambda params body scope lpos) X.env) :: backTo pos (starEach [] X.env))) _ _ s
  refine Calls.spliced_cons (make_lam I TB hcode hmT hu R.tb (by subst hp; rfl) (L.has I.ok) fun f c' pm' ctv H1 s1 I1 eN al T1 hf hfn hfr hco => ?_)
  refine Calls.spliced_nil ⟨I1.kIn, ?_⟩
  -- what we wish of the answer
  obtain ⟨Q, eQ⟩ : ∃ Q : VK, Q = fun v H' => ∃ d p e' Sh' F', C.ev (.caught i xc) e = .ok d p e' ∧ Post C X σ (Ex.caught i xc).mods H Sh F e d p e' v H' Sh' F' := ⟨_, rfl⟩
  rw [← eQ]
  have cp : CallP C.io.T H [] H1 [] := ⟨fun b hl _ => by
      cases q : H b with
      | none => exact absurd q hl.1
      | some o => exact eN b o q fun ps z => hl.2 ps (by rw [q, z]), al, T1, by simp, by simp⟩
  obtain ⟨R1, S1, _⟩ := R.called (ms := []) (d := .non) (w := .non) cp ⟨rfl, rfl⟩
  have hms : (Ex.caught i xc).mods = i.mods := rfl
  obtain ⟨E0, eE⟩ : ∃ E0 : XK, E0 = fun cls dd H' => PySem.W.exmOne X.K cls (.ref Ca) = some true ∧ ∀ a, H' a = none → Q (.ref a) (upd H' a (exO cls dd a)) := ⟨_, rfl⟩
  -- the lambda's body, as the def that got it runs it
  have run1 : ∀ (A : Around) (outer : List Env) (s2 : Shared) (H2 : Hp), Room (k + 1) (A.deeper (LamX.lamEnv X scope s2.heap.objs.size f c')) → A.guards = some [] → ∀ Q1 : VK, (∀ v H', Q .non H' → Q1 v H') → cR (LamX.lamCx X A outer s2 H2 E0 scope f c') body σ H1 Q1 := by
    intro A outer s2 H2 hrA hgA Q1 hQ1
    have tk1 : Takes (LamX.lamCx X A outer s2 H2 E0 scope f c') (fun cls dd _ H' => E0 cls dd H') := takes_of (E₁ := fun e' s'' => L2.CX X.prog X.w outer H2 s2 E0 e' s'') rfl rfl rfl rfl
    refine cR_mono (hbody A outer s2 H2 E0 f c' hrA hgA σ H1 Sh F e _ tk1 R1 (fun y e' he => ?_) nbad) fun v H' ⟨d, p, e', Sh', F', he, PP⟩ => hQ1 v H' ?_
    · rcases cases with ⟨_, _, _, z, _⟩ | ⟨y2, e2, z, hs, hq⟩
      · rw [he] at z; cases z
      · rw [he] at z
        cases z
        intro H' Sh' F' cls dd R' S' xa
        rw [eE]
        have xa0 := xa
        obtain ⟨Cy, e1, hmy, _⟩ := xa0
        refine ⟨by rw [e1]; exact exm _ _ _ hs hmy, fun a ha => ?_⟩
        rw [eQ]
        obtain ⟨R3, S3, T3⟩ := Rel.fresh (ms := []) R' (exn_fresh xa ha)
        have S13 : Stp i.mods H Sh F e H' Sh' F' e' := (S1.trans S').mono fun n hn => by simpa using hn
        exact ⟨_, .own, e', Sh', F', hr'.trans hq, R3, (S13.trans S3).mono fun n hn => by simpa [hms] using hn, T3.base S13⟩
    · rcases cases with ⟨d2, p2, e2, z, hq⟩ | ⟨y2, e2, z, hs, hq⟩
      · rw [he] at z
        cases z
        rw [eQ]
        exact ⟨.non, .own, e', Sh', F', hr'.trans hq, PP.rel, (S1.trans PP.stp).mono fun n hn => by simpa [hms] using hn, [], ⟨rfl, rfl⟩, by simp, by simp⟩
      · rw [he] at z; cases z
  refine wpAny_call (codeAny_mono (?_ : codeAny (model X.prog X.w) X.A (.call (.ref g) ⟨[.ref f], []⟩) (CR C8.CX0 X.stack X.prog X.w H1 s1 Q (fun _ _ _ => False)) s1) fun fl s2 hq => ?_)
  · refine LamX.run_ofS (k := k + 2) (N := [wn, cn, en]) (ps := [wn]) (us := [.ref f]) (vs := [.ref f]) lk hcd S hr I1.env0 (by have := hB s1 [.ref f] I1.kIn rfl; rw [List.append_nil] at this; exact this) (.cons rfl .nil) rfl fun hrA => ?_
    have hgA : (X.A.deeper (envOfC x gs s1.heap.objs.size g cdv)).guards = some [] := hgd
    refine ⟨_, pss_cons (ps_set (i := 1) nd rfl (.inl lc) pe_non) (pss_cons (ps_keep (i := 2) (j := 1) (c := .ref Ca) (tb := fun W D σZ HZ => σZ[0]? = some (some (.ref f)) ∧ HZ = H1 ∧ (∀ cls d H', E0 cls d H' → W cls d σZ H') ∧ ∀ H', Q .non H' → D.nx σZ H') rfl rfl nd rfl le rfl lc ⟨lx, dx, .inl hmc⟩
        (fun W pn xe tkW _ => ⟨fun pinsZ sZ σZ HZ D IZ h => ?_⟩) (fun a pn => pss_one ?_) (fun s' σ' H' pins' I' => by rw [I'.len]; exact Nat.lt_succ_self 2)) (pss_one (ps_ret (pe_var (i := 1) rfl (.inl lc) dc cc)))), ?_⟩
    · obtain ⟨h1, rfl, h3, h4⟩ := h
      have act := act_lam (E := E0) (k := k + 1) (i := 0) (a := wn) (p1 := p4) (p2 := p5) (tb := fun σ' H' Q' => σ' = σ ∧ H' = HZ ∧ ∀ v H'', Q .non H'' → Q' v H'') I1 L hf hfn hfr (by subst hp; rfl) tkW hrA hgd
        (fun A outer s2 H2 hr2 hg2 hd2 => ⟨fun pins2 s3 σ3 H3 Q3 I3 ⟨e1, e2, h5⟩ => by subst e1; subst e2; exact run1 A outer s2 H2 hr2 hg2 Q3 h5 pins2 s3 I3⟩) rfl (.inl lw) dw cw
      exact (pss_one (ps_expr (pos := p6) act)).run pinsZ sZ σZ HZ D IZ ⟨fun cls d H' z => h3 cls d H' z, h1, hco, rfl, rfl, fun v H'' z => h4 H'' z⟩
    · refine PS.mk fun pins' s' σ' H' D I' h => ?_
      exact (ps_set (i := 1) (x := cn) (e := .Name en p9) (pos := p10) (pos' := p8) nd rfl (.inl lc) (pe_var (i := 2) rfl (.inl le) de ce) (hf := .inr lc)).run pins' s' σ' H' D I' ⟨_, h.1, h.2⟩
    · refine ⟨rfl, rfl, fun cls dd H' z => ?_, fun H' z => ⟨.non, rfl, z⟩⟩
      rw [eE] at z
      exact ⟨z.1, fun a ha => ⟨.ref a, rfl, z.2 a ha⟩⟩
  · cases fl with
    | error e => exact (show False from hq).elim
    | ok fl =>
      cases fl with
      | ret u => exact I1.after hq
      | next => exact False.elim hq
      | brk => exact False.elim hq
      | cont => exact False.elim hq
end
end DL
end
section
set_option Elab.async false
set_option linter.all false
set_option maxRecDepth 100000
set_option maxHeartbeats 4000000
/-! D layer, 29: a look by computation that an expression is told by its IR. -/
namespace DL
open PySem PySem.Spec PyProof.Rows L2

/-- what the text's names stand for, as far as the look asks -/
structure Txi where
  gint : List (Str × Int) := []
  blts : List Str := []
  defs : List (Str × Nat × Bool) := []
  kws : List (Str × List Str × List Nat) := []
  cls : List (Str × Nat) := []
  clk : List (Str × List Str × List Nat) := []
  flds : List (Str × Str) := []
  errs : List Str := []
  isis : List Str := []
  iser : List String := []
  lam : Option (Str × Str) := none
  deriving Inhabited
structure TxOk (T : Txi) (C : Dc) (X : Cx) (k : Nat) : Prop where
  xk : Xk X (k + 1)
  gint : ∀ x n, T.gint.lookup x = some n → ∃ t, X.mg x = some (.int n t)
  blt : ∀ x, T.blts.contains x = true → X.mg x = none
  defs : ∀ x n b, T.defs.lookup x = some (n, b) → DefAt (X.gnd C.io.T) (k + 1) x n b (C.cb.call x)
  kws : ∀ x ks π, (x, ks, π) ∈ T.kws → DefAtK (X.gnd C.io.T) (k + 1) x ks π (C.cb.call x)
  cls : ∀ x n, T.cls.lookup x = some n → ClsAt (X.gnd C.io.T) k x n (C.cb.call x)
  clk : ∀ x ks π, (x, ks, π) ∈ T.clk → ClsAtK (X.gnd C.io.T) k x ks π (C.cb.call x)
  fld : ∀ c f, (c, f) ∈ T.flds → ClsF X.K X.mg c f
  err : ∀ x, x ∈ T.errs → ErrC X.K X.mg x
  own : ∀ x, x ∈ T.isis → IsOwn X.K X.mg C.cb.sub x
  ier : ∀ x, x ∈ T.iser → IsErr X.K X.mg C.cb.sub x
  ko : KindC X.K X.mg C.cb.sub
  lam : ∀ x xc, T.lam = some (x, xc) → CatchAt X.K X.mg C.cb.sub x xc ∧ LamAt X C.io.T k
theorem TxOk.blk {T : Txi} {C : Dc} {X : Cx} {k : Nat} (O : TxOk T C X k) (s : Shared) (H : Hp) (scope : Scope) (env : Env) (fp : List Addr) (h1 : env.code = X.env.code := by rfl) (h2 : env.qual = X.env.qual := by rfl) : TxOk T C (X.blk s H scope env fp) k where
  xk := ⟨⟨O.xk.xo.calm, O.xk.xo.nd, O.xk.xo.un⟩, O.xk.rm, O.xk.gd⟩
  gint := O.gint
  blt := O.blt
  defs := O.defs
  kws := O.kws
  cls := O.cls
  clk := O.clk
  fld := O.fld
  err := O.err
  own := O.own
  ier := O.ier
  ko := O.ko
  lam := fun x xc h => let ⟨a, ⟨c, P, b1, b2, b3, b4, b5⟩⟩ := O.lam x xc h; ⟨a, ⟨c, P, h1.trans b1, b2, h2 ▸ b3, h2 ▸ b4, b5⟩⟩

/-! ### names of built-ins -/
def Txi.bl (T : Txi) (S : Sc) (x : Str) : Bool := S.glo x && T.blts.contains x
def Bf.nm : Bf → Str
  | .abs => "abs" | .int => "int" | .len => "len" | .min => "min" | .max => "max" | .list => "list" | .tuple => "tuple" | .all => "all" | .any => "any" | .sorted => "sorted" | .sum => "sum" | .repr => "repr" | .sortset => "sorted" | .lrng => "list"
def Ty.nm : Ty → Str
  | .bool => "bool" | .int => "int" | .str => "str" | .tuple => "tuple" | .list => "list" | .dict => "dict" | .set => "set" | .own C => C | .err C => C
section
variable {T : Txi} {C : Dc} {X : Cx} {S : Sc} {k : Nat} {a b : Expr} {es : List Expr} {i j : Ex} {is : Exs} {pos p p2 : Pos}
theorem Txi.bl_ok {x : Str} (O : TxOk T C X k) (Q : ScOk S X) (h : T.bl S x = true) : Gl X x ∧ X.mg x = none ∧ okN x = true := by
  simp only [Txi.bl, Bool.and_eq_true] at h
  exact ⟨Q.glo x h.1, O.blt x h.2, Sc.glo_ok h.1⟩
theorem bi_all {f : Bf} (O : TxOk T C X k) (Q : ScOk S X) (hf : f ≠ .sortset ∧ f ≠ .lrng) (hb : T.bl S f.nm = true) (h : SEs C X (a :: es) is) (hs : (a :: es).all (fun a => !xStar a) = true) : SE C X (.Call (.Name f.nm p) (a :: es) [] pos) (.bi f is) := by
  obtain ⟨hg, hm, hn⟩ := Txi.bl_ok O Q hb
  rw [List.all_cons, Bool.and_eq_true] at hs
  have he := star_cons (es := es) (env := X.env) (a := a) (by simpa using hs.1)
  have hpl := star_back (pos := pos) (env := X.env) hs.2
  cases f with
  | abs => exact se_bi cb_abs hg hm (by rfl) h (okN_n hn) (okN_d hn) he hpl
  | int => exact se_bt cb_int hg hm (by rfl) h (okN_n hn) (okN_d hn) he hpl
  | len => exact se_bi cb_len hg hm (by rfl) h (okN_n hn) (okN_d hn) he hpl
  | min => exact se_bi (cb_min O.xk.xo) hg hm (by rfl) h (okN_n hn) (okN_d hn) he hpl
  | max => exact se_bi (cb_max O.xk.xo) hg hm (by rfl) h (okN_n hn) (okN_d hn) he hpl
  | list => exact se_bt cb_list hg hm (by rfl) h (okN_n hn) (okN_d hn) he hpl
  | tuple => exact se_bt cb_tuple hg hm (by rfl) h (okN_n hn) (okN_d hn) he hpl
  | all => exact se_bi (cb_all O.xk.xo) hg hm (by rfl) h (okN_n hn) (okN_d hn) he hpl
  | any => exact se_bi (cb_any O.xk.xo) hg hm (by rfl) h (okN_n hn) (okN_d hn) he hpl
  | sorted => exact se_bi cb_sorted hg hm (by rfl) h (okN_n hn) (okN_d hn) he hpl
  | sum => exact se_bi (cb_sum O.xk.xo) hg hm (by rfl) h (okN_n hn) (okN_d hn) he hpl
  | repr => exact se_bi (cb_repr O.xk) hg hm (by rfl) h (okN_n hn) (okN_d hn) he hpl
  | sortset => exact absurd rfl hf.1
  | lrng => exact absurd rfl hf.2
theorem opB_all (hu : Xo X) {op : Operator} (h : (op == .Add || op == .Sub || op == .Mult || op == .FloorDiv || op == .Mod || op == .Pow) = true) : OpR X (binaryOp op) (rB X op) := by
  cases op <;> first | (cases h; done) | exact opB_Add | exact opB_Sub | exact opB_Mult | exact opB_FloorDiv | exact opB_Mod | exact opB_Pow
theorem opC_all (hu : Xo X) (op : CmpOp) : OpR X (compareOp op) (rC X op) := by
  cases op <;> first | exact opC_Lt hu | exact opC_LtE hu | exact opC_Gt hu | exact opC_GtE hu | exact opC_Eq hu | exact opC_NotEq hu | exact opC_Is | exact opC_IsNot | exact opC_In hu | exact opC_NotIn hu
theorem isi_all {t : Ty} {x : Str} (O : TxOk T C X k) (Q : ScOk S X) (hi : T.bl S "isinstance" = true) (ht : (match t with
    | .own c => decide (x = c) && S.glo x && decide (x ∈ T.isis)
    | .err c => decide (x = c) && T.bl S x && T.iser.any (fun z => decide (Str.ofString z = x) && decide (bootBuiltins x = some (.type z)))
    | .set => false
    | t => decide (x = t.nm) && T.bl S x) = true) (h : SE C X a i) (hs : xStar a = false) : SE C X (.Call (.Name "isinstance" p) [a, .Name x p2] [] pos) (.isi i t) := by
  obtain ⟨hg, hm, hn⟩ := Txi.bl_ok O Q hi
  have he := star_cons (es := [.Name x p2]) (env := X.env) hs
  cases t with
  | own c =>
    simp only [Bool.and_eq_true, decide_eq_true_eq] at ht
    obtain ⟨⟨rfl, h2⟩, h3⟩ := ht
    exact isi_own (O.own _ h3) O.ko (Q.glo _ h2) hg hm h (okN_d (Sc.glo_ok h2)) he
  | err c =>
    simp only [Bool.and_eq_true, decide_eq_true_eq, List.any_eq_true] at ht
    obtain ⟨⟨rfl, h2⟩, z, h3, rfl, h4⟩ := ht
    obtain ⟨g1, g2, g3⟩ := Txi.bl_ok O Q h2
    exact isi_err (O.ier _ h3) O.ko g1 g2 h4 hg hm h (okN_d g3) (okN_n g3) he
  | set => cases ht
  | bool =>
    simp only [Bool.and_eq_true, decide_eq_true_eq] at ht
    obtain ⟨rfl, h2⟩ := ht
    obtain ⟨g1, g2, g3⟩ := Txi.bl_ok O Q h2
    exact isi_ty ty_bool g1 g2 (by rfl) hg hm h (okN_d g3) (okN_n g3) he
  | int =>
    simp only [Bool.and_eq_true, decide_eq_true_eq] at ht
    obtain ⟨rfl, h2⟩ := ht
    obtain ⟨g1, g2, g3⟩ := Txi.bl_ok O Q h2
    exact isi_ty ty_int g1 g2 (by rfl) hg hm h (okN_d g3) (okN_n g3) he
  | str =>
    simp only [Bool.and_eq_true, decide_eq_true_eq] at ht
    obtain ⟨rfl, h2⟩ := ht
    obtain ⟨g1, g2, g3⟩ := Txi.bl_ok O Q h2
    exact isi_ty ty_str g1 g2 (by rfl) hg hm h (okN_d g3) (okN_n g3) he
  | tuple =>
    simp only [Bool.and_eq_true, decide_eq_true_eq] at ht
    obtain ⟨rfl, h2⟩ := ht
    obtain ⟨g1, g2, g3⟩ := Txi.bl_ok O Q h2
    exact isi_ty ty_tuple g1 g2 (by rfl) hg hm h (okN_d g3) (okN_n g3) he
  | list =>
    simp only [Bool.and_eq_true, decide_eq_true_eq] at ht
    obtain ⟨rfl, h2⟩ := ht
    obtain ⟨g1, g2, g3⟩ := Txi.bl_ok O Q h2
    exact isi_ty ty_list g1 g2 (by rfl) hg hm h (okN_d g3) (okN_n g3) he
  | dict =>
    simp only [Bool.and_eq_true, decide_eq_true_eq] at ht
    obtain ⟨rfl, h2⟩ := ht
    obtain ⟨g1, g2, g3⟩ := Txi.bl_ok O Q h2
    exact isi_ty ty_dict g1 g2 (by rfl) hg hm h (okN_d g3) (okN_n g3) he
end
end DL
end
section
set_option Elab.async false
set_option linter.all false
set_option maxRecDepth 100000
set_option maxHeartbeats 8000000
/-! D layer, 30: the look at expressions. -/
namespace DL
open PySem PySem.Spec PyProof.Rows L2

def noParams : Arguments → Bool
  | ⟨[], [], none, [], [], none, []⟩ => true
  | _ => false
theorem noParams_ok {p : Arguments} (h : noParams p = true) : p = ⟨[], [], none, [], [], none, []⟩ := by
  unfold noParams at h
  split at h
  · rfl
  · cases h
/-- a lambda's scope: captured names and globals -/
def lamOk (S : Sc) (scope : Scope) : Bool := decide (scope.kind = .function) && !scope.isCoroutine && !scope.isGenerator && scope.names.all fun y => !(y.2 == .local) && !(y.2 == .cell) && (!(y.2 == .free) || S.cap y.1)
def keyOf : Option Expr → Option Key
  | some (.Constant (.int n) _ _) => some (.inl n)
  | some (.Constant (.str x) _ _) => some (.inr x)
  | _ => none
def keyEq : Key → D → Bool
  | .inl n, .int m => decide (n = m)
  | .inr x, .str y => decide (x = y)
  | _, _ => false
theorem keyEq_ok {k : Key} {d : D} (h : keyEq k d = true) : d = keyD k := by
  cases k <;> cases d <;> first | (cases h; done) | (simp only [keyEq, decide_eq_true_eq] at h; subst h; rfl)
/-- the keys of a display -/
def keysEq : List (Option Expr) → List D → Option (List Key)
  | [], [] => some []
  | a :: as, d :: ds => match keyOf a with
    | some k => if keyEq k d then (keysEq as ds).map (k :: ·) else none
    | none => none
  | _, _ => none
def kCon (T : Txi) (S : Sc) (d : D) (a : Expr) : Bool := match a, d with
  | .Constant (.int n) _ _, .int m => decide (n = m)
  | .Constant (.bool b) _ _, .bl c => b == c
  | .Constant .none _ _, .non => true
  | .Constant (.str x) _ _, .str y => decide (x = y)
  | .Name x _, .int m => S.glo x && decide (T.gint.lookup x = some m)
  | .Name x _, .fn y => decide (x = y) && S.glo x && (T.defs.lookup x).isSome
  | _, _ => false
def kwNames : List Keyword → Option (List Str)
  | [] => some []
  | ⟨some x, _, _⟩ :: r => (kwNames r).map (x :: ·)
  | _ => none
/-- targets -/
def kGs (S : Sc) : List Expr → List Nat → Bool
  | [], [] => true
  | .Name x _ :: es, n :: is => S.tgt x n && kGs S es is
  | _, _ => false
def kG (S : Sc) : Expr → Tg → Bool
  | .Name x _, .nm n => S.tgt x n
  | .Tuple es _ _, .tp is => kGs S es is
  | _, _ => false
def ownOfs : List Expr → List Nat → List (Str × Nat)
  | .Name x _ :: es, n :: is => (x, n) :: ownOfs es is
  | _, _ => []
def ownOf : Expr → Tg → List (Str × Nat)
  | .Name x _, .nm n => [(x, n)]
  | .Tuple es _ _, .tp is => ownOfs es is
  | _, _ => []
def noStars (es : List Expr) : Bool := es.all fun a => !xStar a
def mfId : Mf → Option (Str × String)
  | .append => some ("append", "list.append")
  | .extend => some ("extend", "list.extend")
  | .pop => some ("pop", "list.pop")
  | .remove => some ("remove", "list.remove")
  | _ => none
def tyOk (T : Txi) (S : Sc) (x : Str) (t : Ty) : Bool := match t with
    | .own c => decide (x = c) && S.glo x && decide (x ∈ T.isis)
    | .err c => decide (x = c) && T.bl S x && T.iser.any (fun z => decide (Str.ofString z = x) && decide (bootBuiltins x = some (.type z)))
    | .set => false
    | t => decide (x = t.nm) && T.bl S x
def opOk (op : Operator) : Bool := op == .Add || op == .Sub || op == .Mult || op == .FloorDiv || op == .Mod || op == .Pow
def Bf.plain : Bf → Bool
  | .sortset => false
  | .lrng => false
  | _ => true
/-- may it be a part of a slice -/
def Ex.part : Ex → Bool
  | .con .non => false
  | _ => true
/-- single-item BoolOp -/
def soleOf : Expr → Option Expr
  | .BoolOp _ [x] _ => some x
  | _ => none

mutual
def kE : Txi → Nat → Sc → Expr → Ex → Bool
  | T, 0, _, _, _ => false
  | T, n + 1, S, a, i => match soleOf a with
    | some x => kE T n S x i
    | none => match i with
      | .con d => kCon T S d a
      | .var m => (match a with | .Name x _ => S.var x m | _ => false)
      | .mv m => (match a with | .Name x _ => S.var x m | _ => false)
      | .bin op i j => (match a with | .BinOp l o r _ => o == op && opOk op && kE T n S l i && kE T n S r j | _ => false)
      | .neg i => (match a with | .UnaryOp .USub l _ => kE T n S l i | _ => false)
      | .cmp op i j => (match a with | .Compare l [o] [r] _ => o == op && !xSet r && kE T n S l i && kE T n S r j | _ => false)
      | .cmp2 o1 o2 i j k => (match a with | .Compare l [p1, p2] [m, r] _ => p1 == o1 && p2 == o2 && !xSet r && kE T n S l i && kE T n S m j && kE T n S r k | _ => false)
      | .and i j => (match a with | .BoolOp .And (x :: y :: rest) pos => kE T n S x i && kE T n S (.BoolOp .And (y :: rest) pos) j | _ => false)
      | .or i j => (match a with | .BoolOp .Or (x :: y :: rest) pos => kE T n S x i && kE T n S (.BoolOp .Or (y :: rest) pos) j | _ => false)
      | .not i => (match a with | .UnaryOp .Not l _ => kE T n S l i | _ => false)
      | .ite c i j => (match a with | .IfExp t b o _ => kT T n S t c && kE T n S b i && kE T n S o j | _ => false)
      | .tup es => (match a with | .Tuple elts _ _ => noStars elts && decide (es.len ≤ 100000) && kEs T n S elts es | _ => false)
      | .lst es => (match a with | .List elts _ => noStars elts && decide (es.len ≤ 100000) && kEs T n S elts es | _ => false)
      | .dic ks es => (match a with
        | .Dict [] [] _ => ks.isEmpty && (match es with | .nil => true | _ => false)
        | .Dict (k0 :: keys) vals _ => (match keysEq (k0 :: keys) ks with
          | some kk => decide kk.Nodup && decide ((k0 :: keys).length = vals.length) && decide (vals.length ≤ 15) && kDs T n S vals es
          | none => false)
        | _ => false)
      | .ix i j => (match a with | .Subscript l s _ => !xSlice s && kE T n S l i && kE T n S s j | _ => false)
      | .sl i j k => (match a with | .Subscript l (.Slice lo hi none _) _ => kE T n S l i && kO T n S lo j && kO T n S hi k | _ => false)
      | .fld i c f => (match a with | .Attribute l g _ => decide (g = f) && decide ((c, f) ∈ T.flds) && !xCall l && kE T n S l i | _ => false)
      | .call f es => (match a with | .Call (.Name x _) (b :: args) [] _ => decide (x = f) && S.glo x && decide (T.defs.lookup x = some (args.length + 1, false)) && decide (es.len = args.length + 1) && noStars (b :: args) && kEs T n S (b :: args) es | _ => false)
      | .callk f π es => (match a with
        | .Call (.Name x _) [] kws _ => (match kwNames kws with
          | some ks => decide (x = f) && S.glo x && decide ((x, ks, π) ∈ T.kws) && decide (es.len = ks.length) && kKs T n S kws es
          | none => false)
        | _ => false)
      | .callv m fs es => (match a with | .Call (.Name y _) (b :: args) [] _ => S.var y m && fs.all (fun f => decide (T.defs.lookup f = some (args.length + 1, false))) && decide (es.len = args.length + 1) && noStars (b :: args) && kEs T n S (b :: args) es | _ => false)
      | .calls f m es => (match a with | .Call (.Name x _) (.Name y _ :: args) [] _ => decide (x = f) && S.glo x && decide (T.defs.lookup x = some (args.length + 1, true)) && S.var y m && decide (es.len = args.length) && noStars args && kEs T n S args es | _ => false)
      | .new c π es => (match a with
        | .Call (.Name x _) (b :: args) [] _ => decide (x = c) && S.glo x && decide (T.cls.lookup x = some (args.length + 1)) && decide (π = List.range es.len) && decide (es.len = args.length + 1) && noStars (b :: args) && kEs T n S (b :: args) es
        | .Call (.Name x _) [] kws _ => (match kwNames kws with
          | some ks => decide (x = c) && S.glo x && decide ((x, ks, π) ∈ T.clk) && decide (es.len = ks.length) && kKs T n S kws es
          | none => false)
        | _ => false)
      | .isi i t => (match a with | .Call (.Name z _) [l, .Name x _] [] _ => decide (z = "isinstance") && T.bl S z && tyOk T S x t && !xStar l && kE T n S l i | _ => false)
      | .caught j c => (match a with
        | .Call (.Name x _) [.Lambda params body scope _] [] _ => (match T.lam with
          | some (y, xc) => decide (x = y) && decide (c = xc) && S.glo x && noParams params && lamOk S scope && kE { T with lam := none } n ⟨S.N, scope.names⟩ body j
          | none => false)
        | _ => false)
      | .bi f es => (match a with
        | .Call (.Name z _) (b :: args) [] _ => if f.plain then decide (z = f.nm) && T.bl S z && noStars (b :: args) && kEs T n S (b :: args) es else (match b, args, es with
          | .Call (.Name z2 _) [l] [] _, [], .cons i .nil => (if f == .sortset then decide (z = "sorted") && decide (z2 = "set") else f == .lrng && decide (z = "list") && decide (z2 = "range")) && T.bl S z && T.bl S z2 && !xStar l && kE T n S l i
          | .Call (.Name z2 _) [l, r] [] _, [], .cons i (.cons j .nil) => f == .lrng && decide (z = "list") && decide (z2 = "range") && T.bl S z && T.bl S z2 && !xStar l && !xStar r && kE T n S l i && kE T n S r j
          | _, _, _ => false)
        | _ => false)
      | .mth m f es => (match mfId f with
        | some (nm, _) => (match a with
          | .Call (.Attribute (.Name x _) g ap) [] [] cp => decide (g = nm) && S.var x m && (ap.endLine == cp.line) && (match es with | .nil => true | _ => false)
          | .Call (.Attribute (.Name x _) g ap) (b :: args) [] cp => decide (g = nm) && S.var x m && (ap.endLine == cp.line) && noStars (b :: args) && decide ((b :: args).length < 30) && kEs T n S (b :: args) es
          | _ => false)
        | none => false)
      | .mthx m i f es => (match mfId f with
        | some (nm, _) => (match a with
          | .Call (.Attribute (.Subscript (.Name x _) l _) g ap) (b :: args) [] cp => decide (g = nm) && S.var x m && (ap.endLine == cp.line) && !xSlice l && noStars (b :: args) && decide ((b :: args).length < 30) && kE T n S l i && kEs T n S (b :: args) es
          | _ => false)
        | none => false)
      | .comp t it c e => (match a with
        | .ListComp elt [⟨tg, iter, ifs, 0⟩] scope _ => kLc T n S elt tg iter ifs scope t it c e
        | _ => false)
      | .comp2 _ _ _ _ _ _ _ => false
def kLc : Txi → Nat → Sc → Expr → Expr → Expr → List Expr → Scope → Tg → It → Ex → Ex → Bool
  | T, 0, _, _, _, _, _, _, _, _, _, _ => false
  | T, n + 1, S, elt, tg, iter, ifs, scope, t, it, c, e => blkOk S scope (ownOf tg t) && decide ((ownOf tg t).map (·.2) = t.slots) && !xSet iter && kI T n S tg iter it && kG (S.blk scope) tg t && kTs T n (S.blk scope) ifs c && kE T n (S.blk scope) elt e
def kT : Txi → Nat → Sc → Expr → Ex → Bool
  | T, 0, _, _, _ => false
  | T, n + 1, S, a, i => match a, i with
    | .Compare l [o] [r] _, .cmp op i j => o == op && !xSet r && kE T n S l i && kE T n S r j
    | .Compare l [p1, p2] [m, r] _, .cmp2 o1 o2 i j k => p1 == o1 && p2 == o2 && !xSet r && kE T n S l i && kE T n S m j && kE T n S r k
    | .UnaryOp .Not l _, .not i => kT T n S l i
    | .BoolOp op vs pos, i => kW T n S op vs pos i
    | a, i => !xTest a && kE T n S a i
def kW : Txi → Nat → Sc → BoolOp → List Expr → Pos → Ex → Bool
  | T, 0, _, _, _, _, _ => false
  | T, n + 1, S, op, [x], pos, i => kT T n S x i
  | T, n + 1, S, .And, x :: y :: rest, pos, .and i j => kT T n S x i && kW T n S .And (y :: rest) pos j
  | T, n + 1, S, .Or, x :: y :: rest, pos, .or i j => kT T n S x i && kW T n S .Or (y :: rest) pos j
  | _, _, _, _, _, _, _ => false
def kEs : Txi → Nat → Sc → List Expr → Exs → Bool
  | T, 0, _, _, _ => false
  | T, n + 1, S, [], .nil => true
  | T, n + 1, S, a :: es, .cons i is => !xStar a && kE T n S a i && kEs T n S es is
  | _, _, _, _, _ => false
def kKs : Txi → Nat → Sc → List Keyword → Exs → Bool
  | T, 0, _, _, _ => false
  | T, n + 1, S, [], .nil => true
  | T, n + 1, S, ⟨_, a, _⟩ :: es, .cons i is => kE T n S a i && kKs T n S es is
  | _, _, _, _, _ => false
def kDs : Txi → Nat → Sc → List Expr → Exs → Bool
  | T, 0, _, _, _ => false
  | T, n + 1, S, [], .nil => true
  | T, n + 1, S, a :: es, .cons i is => kE T n S a i && kDs T n S es is
  | _, _, _, _, _ => false
def kO : Txi → Nat → Sc → Option Expr → Ex → Bool
  | T, 0, _, _, _ => false
  | T, n + 1, S, none, i => (match i with | .con .non => true | _ => false)
  | T, n + 1, S, some a, i => i.part && kE T n S a i
def kI : Txi → Nat → Sc → Expr → Expr → It → Bool
  | T, 0, _, _, _, _ => false
  | T, n + 1, S, tg, iter, it => match it with
    | .on i => kE T n S iter i
    | .rng is => (match iter with | .Call (.Name z _) args [] _ => decide (z = "range") && T.bl S z && (args.length == 1 || args.length == 2) && noStars args && decide (is.len = args.length) && kEs T n S args is | _ => false)
    | .enu i => (match iter with | .Call (.Name z _) [l] [] _ => decide (z = "enumerate") && T.bl S z && xTup tg && !xStar l && kE T n S l i | _ => false)
    | .zp i j => (match iter with | .Call (.Name z _) [l, r] [] _ => decide (z = "zip") && T.bl S z && xTup tg && !xStar l && !xStar r && kE T n S l i && kE T n S r j | _ => false)
    | .rv i => (match iter with | .Call (.Name z _) [l] [] _ => decide (z = "reversed") && T.bl S z && !xStar l && kE T n S l i | _ => false)
def kTs : Txi → Nat → Sc → List Expr → Ex → Bool
  | T, 0, _, _, _ => false
  | T, n + 1, S, [], i => (match i with | .con (.bl true) => true | _ => false)
  | T, n + 1, S, [c], i => kT T n S c i
  | _, _, _, _, _ => false
end
end DL
end
section
set_option Elab.async false
set_option linter.all false
set_option maxRecDepth 100000
set_option maxHeartbeats 8000000
/-! D layer, 31: the look at expressions is sound. -/
namespace DL
open PySem PySem.Spec PyProof.Rows L2
theorem and2 {a b : Bool} (h : (a && b) = true) : a = true ∧ b = true := Bool.and_eq_true_iff.mp h
theorem of_d {p : Prop} [Decidable p] (h : decide p = true) : p := of_decide_eq_true h
theorem of_n {a : Bool} (h : (!a) = true) : a = false := by simpa using h
theorem noStars_cons {b : Expr} {args : List Expr} (h : noStars (b :: args) = true) : xStar b = false ∧ noStars args = true := by
  unfold noStars at h
  rw [List.all_cons, Bool.and_eq_true] at h
  exact ⟨of_n h.1, h.2⟩
theorem kw_some {env : Env} {pos : Pos} : ∀ {kws : List Keyword} {ks : List Str}, kwNames kws = some ks → (backToKw pos (keywordEach kws env)).all (·.1.isSome) = true ∧ (backToKw pos (keywordEach kws env)).filterMap (·.1) = ks ∧ (backToKw pos (keywordEach kws env)).any (·.1.isNone) = false
  | [], ks, h => by
    have e : ks = [] := by simpa [kwNames] using h.symm
    subst e
    exact ⟨by rfl, by rfl, by rfl⟩
  | ⟨none, _, _⟩ :: r, ks, h => by simp [kwNames] at h
  | ⟨some x, a, p⟩ :: r, ks, h => by
    have h' : (kwNames r).map (x :: ·) = some ks := h
    cases hr : kwNames r with
    | none => rw [hr] at h'; cases h'
    | some kr =>
      rw [hr] at h'
      cases h'
      obtain ⟨h1, h2, h3⟩ := kw_some (env := env) (pos := pos) hr
      refine ⟨?_, ?_, ?_⟩
      · show (true && (backToKw pos (keywordEach r env)).all (·.1.isSome)) = true
        rw [h1] <;> rfl
      · show x :: (backToKw pos (keywordEach r env)).filterMap (·.1) = x :: kr
        rw [h2]
      · show (false || (backToKw pos (keywordEach r env)).any (·.1.isNone)) = false
        rw [h3] <;> rfl
section
variable {T : Txi} {C : Dc} {X : Cx} {S : Sc} {k : Nat} {pos : Pos}
theorem keys_pps {vals : List Expr} : ∀ {keys : List (Option Expr)} {ds : List D} {kk : List Key} {vals : List Expr}, keysEq keys ds = some kk → keys.length = vals.length → PPs X pos keys vals (dTrs X kk vals) ∧ kk.map keyD = ds ∧ keys.all (·.isSome) = true ∧ kk.length = keys.length
  | [], [], kk, vals, h, hl => by
    have e : kk = [] := by simpa [keysEq] using h.symm
    subst e
    have e2 : vals = [] := List.eq_nil_of_length_eq_zero hl.symm
    subst e2
    exact ⟨pps_nil, rfl, rfl, rfl⟩
  | [], _ :: _, _, _, h, _ => by simp [keysEq] at h
  | _ :: _, [], _, _, h, _ => by simp [keysEq] at h
  | a :: as, d :: ds, kk, [], h, hl => by simp at hl
  | a :: as, d :: ds, kk, v :: vals, h, hl => by
    unfold keysEq at h
    cases hk : keyOf a with
    | none => rw [hk] at h; cases h
    | some k0 =>
      rw [hk] at h
      dsimp only at h
      split at h
      · rename_i hd
        cases hr : keysEq as ds with
        | none => rw [hr] at h; cases h
        | some kr =>
          rw [hr] at h
          cases h
          obtain ⟨h1, h2, h3, h4⟩ := keys_pps (vals := vals) hr (by simpa using hl)
          have hd' := keyEq_ok hd
          refine ⟨?_, by rw [List.map_cons, h2, hd'], ?_, by rw [List.length_cons, h4, List.length_cons]⟩
          · show PPs X pos (a :: as) (v :: vals) ((tC (kV k0), cR X v) :: dTrs X kr vals)
            unfold keyOf at hk
            split at hk
            · cases hk; exact pps_cons pe_int pe_can h1
            · cases hk; exact pps_cons pe_str pe_can h1
            · cases hk
          · rw [List.all_cons, h3]
            unfold keyOf at hk
            split at hk <;> first | rfl | (cases hk; done)
      · cases h
theorem kGs_ok (O : ScOk S X) : ∀ {es : List Expr} {is : List Nat}, kGs S es is = true → STgs C X es is ∧ noStars es = true
  | [], [], _ => ⟨stgs_nil, rfl⟩
  | a :: es, [], h => by cases a <;> simp [kGs] at h
  | [], _ :: _, h => by simp [kGs] at h
  | a :: es, n :: is, h => by
    cases a <;> first | (simp [kGs] at h; done) | skip
    rename_i x p
    obtain ⟨h1, h2⟩ := and2 (show (S.tgt x n && kGs S es is) = true from h)
    obtain ⟨g1, g2, g3, g4⟩ := O.tgt h1
    obtain ⟨r1, r2⟩ := kGs_ok O h2
    exact ⟨stgs_cons (stg_nm O.nd g1 g2 g3) r1, r2⟩
theorem kG_ok (O : ScOk S X) {a : Expr} {t : Tg} (h : kG S a t = true) : STg C X a t := by
  unfold kG at h
  split at h
  · obtain ⟨g1, g2, g3, g4⟩ := O.tgt h
    exact stg_nm O.nd g1 g2 g3
  · obtain ⟨r1, r2⟩ := kGs_ok (C := C) O h
    exact stg_tp O.calm r1 asg_len (asg_find r2)
  · cases h
theorem kCon_ok (O : TxOk T C X k) (Q : ScOk S X) {d : D} {a : Expr} (h : kCon T S d a = true) : SE C X a (.con d) := by
  unfold kCon at h
  split at h
  · have := of_d h; subst this; exact se_int
  · have := eq_of_beq h; subst this; exact se_bl
  · exact se_non
  · have := of_d h; subst this; exact se_str
  · obtain ⟨h1, h2⟩ := and2 h
    obtain ⟨t, ht⟩ := O.gint _ _ (of_d h2)
    exact se_gint (Q.glo _ h1) ht (okN_d (Sc.glo_ok h1))
  · obtain ⟨h0, h2⟩ := and2 h
    obtain ⟨h1, h3⟩ := and2 h0
    have := of_d h1; subst this
    obtain ⟨⟨n, b⟩, hq⟩ := Option.isSome_iff_exists.mp h2
    obtain ⟨f, fd, ps, g1, _⟩ := (O.defs _ n b hq).ex
    exact se_fn (Q.glo _ h3) g1 (okN_d (Sc.glo_ok h3))
  · cases h
/-- what a comprehension asks -/
structure LcOk (C : Dc) (X : Cx) (elt tg iter : Expr) (ifs : List Expr) (scope : Scope) (t : Tg) (it : It) (c e : Ex) : Prop where
  ex : ∃ own, BlkOk X.N X.env.scope scope own ∧ own.map (·.2) = t.slots
  hi : SI C X tg iter it
  hg : Blk X scope fun Y => STg C Y tg t
  ht : Blk X scope fun Y => STs C Y ifs c
  he : Blk X scope fun Y => SE C Y elt e
  hs : ∀ x, foldedSetIterable iter X.env x = pure x
structure KOk (C : Dc) (k n : Nat) : Prop where
  e : ∀ {T X S a i}, TxOk T C X k → ScOk S X → kE T n S a i = true → SE C X a i
  lc : ∀ {T X S elt tg iter ifs scope t it c e}, TxOk T C X k → ScOk S X → kLc T n S elt tg iter ifs scope t it c e = true → LcOk C X elt tg iter ifs scope t it c e
  t : ∀ {T X S a i}, TxOk T C X k → ScOk S X → kT T n S a i = true → ST C X a i
  w : ∀ {T X S op vs pos i}, TxOk T C X k → ScOk S X → kW T n S op vs pos i = true → SW C X (.BoolOp op vs pos) i
  es : ∀ {T X S a i}, TxOk T C X k → ScOk S X → kEs T n S a i = true → SEs C X a i
  ks : ∀ {T X S a i}, TxOk T C X k → ScOk S X → kKs T n S a i = true → SKs C X a i
  ds : ∀ {T X S a i} {kk : List Key}, TxOk T C X k → ScOk S X → kDs T n S a i = true → kk.length = a.length → SDs C X kk a i
  o : ∀ {T X S a i}, TxOk T C X k → ScOk S X → kO T n S a i = true → SO C X a i
  it : ∀ {T X S tg a i}, TxOk T C X k → ScOk S X → kI T n S tg a i = true → SI C X tg a i
  ts : ∀ {T X S a i}, TxOk T C X k → ScOk S X → kTs T n S a i = true → STs C X a i
theorem mth_all {m : Nat} {f : Mf} {nm : Str} {id : String} (h : mfId f = some (nm, id)) : Slot "list" nm id ∧ typeOf (.builtin id) = pure (.type "method_descriptor") ∧ MtR X id (rM X f) := by
  cases f <;> first | (cases h; done) | skip
  · cases h; exact ⟨PySem.F.slot_list_append, PySem.F.type_list_append, mt_append_all⟩
  · cases h; exact ⟨PySem.F.slot_list_extend, PySem.F.type_list_extend, mt_extend_all⟩
  · cases h; exact ⟨PySem.F.slot_list_pop, PySem.F.type_list_pop, mt_pop_all⟩
  · cases h; exact ⟨PySem.F.slot_list_remove, PySem.F.type_list_remove, mt_remove_all⟩
theorem few_ok {b : Expr} {args : List Expr} {cp : Pos} {env : Env} (h : noStars (b :: args) = true) (hl : (b :: args).length < 30) : ((backTo cp (starEach (b :: args) env)).all (fun x => !x.1) && (backToKw cp (keywordEach [] env)).all (fun x => x.1.isSome)
      && decide ((b :: args).length + ([] : List Keyword).length + (if ([] : List Keyword).isEmpty then 0 else 1) < 30)) = true := by
  rw [star_all h]
  show (true && true && decide _) = true
  simpa using hl
theorem lamOk_ok {scope : Scope} (Q : ScOk S X) (h : lamOk S scope = true) : LamX.LamS X.env.scope scope := by
  unfold lamOk at h
  obtain ⟨h, h4⟩ := and2 h
  obtain ⟨h, h3⟩ := and2 h
  obtain ⟨h1, h2⟩ := and2 h
  refine ⟨of_d h1, of_n h2, of_n h3, fun y hy => ?_, fun y hy e => ?_⟩
  · obtain ⟨h, _⟩ := and2 (List.all_eq_true.mp h4 y hy)
    obtain ⟨h5, h6⟩ := and2 h
    exact ⟨fun z => (by rw [z] at h5; cases h5), fun z => (by rw [z] at h6; cases h6)⟩
  · obtain ⟨_, h7⟩ := and2 (List.all_eq_true.mp h4 y hy)
    rw [e] at h7
    exact Q.cap _ (by simpa using h7)
theorem lam_sc {scope : Scope} {A : Around} {outer : List Env} {s : Shared} {H : Hp} {E : XK} {f c' : Addr} (Q : ScOk S X) (L : LamX.LamS X.env.scope scope) : ScOk ⟨S.N, scope.names⟩ (LamX.lamCx X A outer s H E scope f c') where
  N := Q.N
  nd := Q.nd
  calm := rfl
  kind := by
    show (if scope.kind.isAnnotationScope then _ else scope.kind) = _
    rw [L.kind]; rfl
  skind := L.kind
  vis := fun x h => by
    simp only [Sc.vis] at h
    split at h <;> first | (cases h; done) | skip
    all_goals rename_i q
    · exact .inl q
    · exact .inr (.inl q)
    · exact .inr (.inr q)
  loc := fun x h => by
    exfalso
    simp only [Sc.loc] at h
    split at h <;> first | (cases h; done) | skip
    all_goals rename_i q
    · exact (L.own _ (PySem.mem_of_lookup q)).1 rfl
    · exact (L.own _ (PySem.mem_of_lookup q)).2 rfl
  pl := fun x h => by
    simp only [Sc.pl, beq_iff_eq] at h
    exact h
  cap := fun x h => by
    simp only [Sc.cap] at h
    split at h <;> first | (cases h; done) | skip
    all_goals rename_i q
    · exact .inl q
    · exact .inr q
  glo := fun x h => by
    simp only [Sc.glo, Bool.and_eq_true, beq_iff_eq] at h
    exact h.1
theorem lam_tx {scope : Scope} {A : Around} {outer : List Env} {s : Shared} {H : Hp} {E : XK} {f c' : Addr} (O : TxOk T C X k) (hr : Room (k + 1) (A.deeper (LamX.lamEnv X scope s.heap.objs.size f c'))) (hgd : A.guards = some []) : TxOk { T with lam := none } C (LamX.lamCx X A outer s H E scope f c') k where
  xk := ⟨⟨rfl, O.xk.xo.nd, by have := hr.un; show (A.deeper (LamX.lamEnv X scope s.heap.objs.size f c')).units + 200 < cLine; omega⟩, hr, hgd⟩
  gint := O.gint
  blt := O.blt
  defs := O.defs
  kws := O.kws
  cls := O.cls
  clk := O.clk
  fld := O.fld
  err := O.err
  own := O.own
  ier := O.ier
  ko := O.ko
  lam := fun x xc h => by cases h
theorem kE_step {n : Nat} (ih : KOk C k n) {a : Expr} {i : Ex} (O : TxOk T C X k) (Q : ScOk S X) (h : kE T (n + 1) S a i = true) : SE C X a i := by
  unfold kE at h
  split at h
  · rename_i x hx
    unfold soleOf at hx
    split at hx
    · cases hx
      exact se_one (ih.e O Q h)
    · cases hx
  · rename_i hsole
    cases i with
    | con d => exact kCon_ok O Q h
    | var m =>
      dsimp only at h
      split at h
      · obtain ⟨g1, g2, g3⟩ := Q.var h
        exact se_var g1 g2 (okN_d g3) (okN_c g3)
      · cases h
    | mv m =>
      dsimp only at h
      split at h
      · obtain ⟨g1, g2, g3⟩ := Q.var h
        exact se_mv g1 g2 (okN_d g3) (okN_c g3)
      · cases h
    | bin op i j =>
      dsimp only at h
      split at h
      · obtain ⟨h, h4⟩ := and2 h
        obtain ⟨h, h3⟩ := and2 h
        obtain ⟨h1, h2⟩ := and2 h
        have := eq_of_beq h1; subst this
        exact se_bin (opB_all O.xk.xo h2) (ih.e O Q h3) (ih.e O Q h4)
      · cases h
    | neg i =>
      dsimp only at h
      split at h
      · exact se_neg (ih.e O Q h)
      · cases h
    | cmp op i j =>
      dsimp only at h
      split at h
      · obtain ⟨h, h4⟩ := and2 h
        obtain ⟨h, h3⟩ := and2 h
        obtain ⟨h1, h2⟩ := and2 h
        have := eq_of_beq h1; subst this
        exact se_cmp (opC_all O.xk.xo _) (ih.e O Q h3) (ih.e O Q h4) (marks_of (of_n h2))
      · cases h
    | cmp2 o1 o2 i j l =>
      dsimp only at h
      split at h
      · obtain ⟨h, h6⟩ := and2 h
        obtain ⟨h, h5⟩ := and2 h
        obtain ⟨h, h4⟩ := and2 h
        obtain ⟨h, h3⟩ := and2 h
        obtain ⟨h1, h2⟩ := and2 h
        have := eq_of_beq h1; subst this
        have := eq_of_beq h2; subst this
        exact se_cmp2 (opC_all O.xk.xo _) (opC_all O.xk.xo _) (ih.e O Q h4) (ih.e O Q h5) (ih.e O Q h6) (marks_of (of_n h3))
      · cases h
    | and i j =>
      dsimp only at h
      split at h
      · obtain ⟨h1, h2⟩ := and2 h
        exact se_and (ih.e O Q h1) (ih.e O Q h2)
      · cases h
    | or i j =>
      dsimp only at h
      split at h
      · obtain ⟨h1, h2⟩ := and2 h
        exact se_or (ih.e O Q h1) (ih.e O Q h2)
      · cases h
    | not i =>
      dsimp only at h
      split at h
      · exact se_not (ih.e O Q h)
      · cases h
    | ite c i j =>
      dsimp only at h
      split at h
      · obtain ⟨h, h3⟩ := and2 h
        obtain ⟨h1, h2⟩ := and2 h
        exact se_ite (ih.t O Q h1) (ih.e O Q h2) (ih.e O Q h3)
      · cases h
    | tup es =>
      dsimp only at h
      split at h
      · obtain ⟨h, h3⟩ := and2 h
        obtain ⟨h1, h2⟩ := and2 h
        exact se_tup (ih.es O Q h3) (of_d h2)
      · cases h
    | lst es =>
      dsimp only at h
      split at h
      · obtain ⟨h, h3⟩ := and2 h
        obtain ⟨h1, h2⟩ := and2 h
        exact se_lst (ih.es O Q h3) (of_d h2)
      · cases h
    | dic ks es =>
      dsimp only at h
      split at h
      · obtain ⟨h1, h2⟩ := and2 h
        have := List.isEmpty_iff.mp h1; subst this
        split at h2
        · exact se_dic0
        · cases h2
      · split at h
        · rename_i kk hk
          obtain ⟨h, h4⟩ := and2 h
          obtain ⟨h, h3⟩ := and2 h
          obtain ⟨h1, h2⟩ := and2 h
          obtain ⟨p1, p2, p3, p4⟩ := keys_pps (X := X) (pos := ‹Pos›) (vals := []) hk (of_d h2)
          subst p2
          exact se_dic p1 (ih.ds O Q h4 (p4.trans (of_d h2))) (of_d h1) p3 (of_d h2) (List.cons_ne_nil _ _) (by have := of_d h3; have := of_d h2; omega) (by have := of_d h3; have := of_d h2; omega)
        · cases h
      · cases h
    | ix i j =>
      dsimp only at h
      split at h
      · obtain ⟨h, h3⟩ := and2 h
        obtain ⟨h1, h2⟩ := and2 h
        exact se_ix O.xk.xo (ih.e O Q h2) (ih.e O Q h3) (plainIx_of (of_n h1))
      · cases h
    | sl i j l =>
      dsimp only at h
      split at h
      · obtain ⟨h, h3⟩ := and2 h
        obtain ⟨h1, h2⟩ := and2 h
        exact se_sl (ih.e O Q h1) (ih.o O Q h2) (ih.o O Q h3)
      · cases h
    | fld i c f =>
      dsimp only at h
      split at h
      · obtain ⟨h, h4⟩ := and2 h
        obtain ⟨h, h3⟩ := and2 h
        obtain ⟨h1, h2⟩ := and2 h
        have := of_d h1; subst this
        exact se_fld (O.fld _ _ (of_d h2)) (ih.e O Q h4) (base_of (of_n h3))
      · cases h
    | call f es =>
      dsimp only at h
      split at h
      · obtain ⟨h, h6⟩ := and2 h
        obtain ⟨h, h5⟩ := and2 h
        obtain ⟨h, h4⟩ := and2 h
        obtain ⟨h, h3⟩ := and2 h
        obtain ⟨h1, h2⟩ := and2 h
        have := of_d h1; subst this
        obtain ⟨s1, s2⟩ := noStars_cons h5
        exact se_call O.xk (O.defs _ _ _ (of_d h3)) (Q.glo _ h2) (ih.es O Q h6) (okN_d (Sc.glo_ok h2)) (star_cons s1) (star_back s2) (of_d h4)
      · cases h
    | callk f π es =>
      dsimp only at h
      split at h
      · split at h
        · rename_i ks hk
          obtain ⟨h, h5⟩ := and2 h
          obtain ⟨h, h4⟩ := and2 h
          obtain ⟨h, h3⟩ := and2 h
          obtain ⟨h1, h2⟩ := and2 h
          have := of_d h1; subst this
          obtain ⟨w1, w2, w3⟩ := kw_some (env := X.env) (pos := ‹Pos›) hk
          exact se_callk O.xk (O.kws _ _ _ (of_d h3)) (Q.glo _ h2) (ih.ks O Q h5) w1 w2 (okN_d (Sc.glo_ok h2)) (by rw [w3]; rfl) (of_d h4)
        · cases h
      · cases h
    | callv m fs es =>
      dsimp only at h
      split at h
      · obtain ⟨h, h5⟩ := and2 h
        obtain ⟨h, h4⟩ := and2 h
        obtain ⟨h, h3⟩ := and2 h
        obtain ⟨h1, h2⟩ := and2 h
        obtain ⟨g1, g2, g3⟩ := Q.var h1
        obtain ⟨s1, s2⟩ := noStars_cons h4
        refine se_callv O.xk (fun x hx => O.defs _ _ _ ?_) g1 g2 (ih.es O Q h5) (okN_d g3) (okN_c g3) (star_cons s1) (star_back s2) (of_d h3)
        exact of_d (List.all_eq_true.mp h2 x hx)
      · cases h
    | calls f m es =>
      dsimp only at h
      split at h
      · obtain ⟨h, h7⟩ := and2 h
        obtain ⟨h, h6⟩ := and2 h
        obtain ⟨h, h5⟩ := and2 h
        obtain ⟨h, h4⟩ := and2 h
        obtain ⟨h, h3⟩ := and2 h
        obtain ⟨h1, h2⟩ := and2 h
        have := of_d h1; subst this
        obtain ⟨g1, g2, g3⟩ := Q.var h4
        exact se_calls O.xk (O.defs _ _ _ (of_d h3)) (Q.glo _ h2) g1 g2 (ih.es O Q h7) (okN_d (Sc.glo_ok h2)) (by rfl) (star_back h6) (of_d h5) (okN_d g3) (okN_c g3)
      · cases h
    | new c π es =>
      dsimp only at h
      split at h
      · obtain ⟨h, h7⟩ := and2 h
        obtain ⟨h, h6⟩ := and2 h
        obtain ⟨h, h5⟩ := and2 h
        obtain ⟨h, h4⟩ := and2 h
        obtain ⟨h, h3⟩ := and2 h
        obtain ⟨h1, h2⟩ := and2 h
        have := of_d h1; subst this
        obtain ⟨s1, s2⟩ := noStars_cons h6
        exact se_new O.xk (O.cls _ _ (of_d h3)) (Q.glo _ h2) (ih.es O Q h7) (okN_d (Sc.glo_ok h2)) (star_cons s1) (star_back s2) (of_d h5) (of_d h4)
      · split at h
        · rename_i ks hk
          obtain ⟨h, h5⟩ := and2 h
          obtain ⟨h, h4⟩ := and2 h
          obtain ⟨h, h3⟩ := and2 h
          obtain ⟨h1, h2⟩ := and2 h
          have := of_d h1; subst this
          obtain ⟨w1, w2, w3⟩ := kw_some (env := X.env) (pos := ‹Pos›) hk
          exact se_newk O.xk (O.clk _ _ _ (of_d h3)) (Q.glo _ h2) (ih.ks O Q h5) w1 w2 (okN_d (Sc.glo_ok h2)) (by rw [w3]; rfl) (of_d h4)
        · cases h
      · cases h
    | isi i t =>
      dsimp only at h
      split at h
      · obtain ⟨h, h5⟩ := and2 h
        obtain ⟨h, h4⟩ := and2 h
        obtain ⟨h, h3⟩ := and2 h
        obtain ⟨h1, h2⟩ := and2 h
        have := of_d h1; subst this
        exact isi_all O Q h2 h3 (ih.e O Q h5) (of_n h4)
      · cases h
    | caught j c =>
      dsimp only at h
      split at h
      · split at h
        · rename_i hl
          obtain ⟨h, h6⟩ := and2 h
          obtain ⟨h, h5⟩ := and2 h
          obtain ⟨h, h4⟩ := and2 h
          obtain ⟨h, h3⟩ := and2 h
          obtain ⟨h1, h2⟩ := and2 h
          have := of_d h1; subst this
          have := of_d h2; subst this
          obtain ⟨CA, LA⟩ := O.lam _ _ hl
          have L := lamOk_ok Q h5
          exact se_caught CA LA (Q.glo _ h3) (okN_d (Sc.glo_ok h3)) L (noParams_ok h4) fun A outer s H E f c' hr hgd => ih.e (lam_tx O hr hgd) (lam_sc Q L) h6
        · cases h
      · cases h
    | bi f es =>
      dsimp only at h
      split at h
      · split at h
        · rename_i hp
          obtain ⟨h, h4⟩ := and2 h
          obtain ⟨h, h3⟩ := and2 h
          obtain ⟨h1, h2⟩ := and2 h
          have := of_d h1; subst this
          exact bi_all O Q (by constructor <;> (intro z; subst z; cases hp)) h2 (ih.es O Q h4) h3
        · rename_i hp
          split at h
          · obtain ⟨h, h6⟩ := and2 h
            obtain ⟨h, h5⟩ := and2 h
            obtain ⟨h, h4⟩ := and2 h
            obtain ⟨hA, h3⟩ := and2 h
            obtain ⟨g1, g2, g3⟩ := Txi.bl_ok O Q h3
            obtain ⟨k1, k2, k3⟩ := Txi.bl_ok O Q h4
            split at hA
            · rename_i hf
              have := eq_of_beq hf; subst this
              obtain ⟨h1, h2⟩ := and2 hA
              have := of_d h1; subst this
              have := of_d h2; subst this
              exact se_sortset O.xk.xo g1 g2 (by rfl) k1 k2 (by rfl) (ih.e O Q h6) (star_cons (of_n h5))
            · obtain ⟨hB, h2⟩ := and2 hA
              obtain ⟨h0, h1⟩ := and2 hB
              have := eq_of_beq h0; subst this
              have := of_d h1; subst this
              have := of_d h2; subst this
              exact se_lrng1 O.xk.xo g1 g2 k1 k2 (ih.e O Q h6) (star_cons (of_n h5))
          · obtain ⟨h, h9⟩ := and2 h
            obtain ⟨h, h8⟩ := and2 h
            obtain ⟨h, h7⟩ := and2 h
            obtain ⟨h, h6⟩ := and2 h
            obtain ⟨h, h4⟩ := and2 h
            obtain ⟨h, h3⟩ := and2 h
            obtain ⟨h, h2⟩ := and2 h
            obtain ⟨h0, h1⟩ := and2 h
            have := eq_of_beq h0; subst this
            have := of_d h1; subst this
            have := of_d h2; subst this
            obtain ⟨g1, g2, g3⟩ := Txi.bl_ok O Q h3
            obtain ⟨k1, k2, k3⟩ := Txi.bl_ok O Q h4
            exact se_lrng2 O.xk.xo g1 g2 k1 k2 (ih.e O Q h8) (ih.e O Q h9) (star_cons (of_n h6)) (star_cons (of_n h7)) (star_back (by rw [List.all_cons, h7]; rfl))
          · cases h
      · cases h
    | mth m f es =>
      dsimp only at h
      split at h
      · rename_i nm id hm
        obtain ⟨m1, m2, m3⟩ := mth_all (X := X) (m := 0) hm
        split at h
        · obtain ⟨h, h4⟩ := and2 h
          obtain ⟨h, h3⟩ := and2 h
          obtain ⟨h1, h2⟩ := and2 h
          have := of_d h1; subst this
          obtain ⟨g1, g2, g3⟩ := Q.var h2
          split at h4
          · exact se_mth0 m1 m2 m3 g1 g2 (base_of rfl) h3 (okN_d g3) (okN_c g3)
          · cases h4
        · obtain ⟨h, h6⟩ := and2 h
          obtain ⟨h, h5⟩ := and2 h
          obtain ⟨h, h4⟩ := and2 h
          obtain ⟨h, h3⟩ := and2 h
          obtain ⟨h1, h2⟩ := and2 h
          have := of_d h1; subst this
          obtain ⟨g1, g2, g3⟩ := Q.var h2
          obtain ⟨s1, s2⟩ := noStars_cons h4
          exact se_mth m1 m2 m3 g1 g2 (ih.es O Q h6) (base_of rfl) (few_ok h4 (of_d h5)) h3 (star_cons s1) (star_back s2) (okN_d g3) (okN_c g3)
        · cases h
      · cases h
    | mthx m i f es =>
      dsimp only at h
      split at h
      · rename_i nm id hm
        obtain ⟨m1, m2, m3⟩ := mth_all (X := X) (m := 0) hm
        split at h
        · obtain ⟨h, h8⟩ := and2 h
          obtain ⟨h, h7⟩ := and2 h
          obtain ⟨h, h6⟩ := and2 h
          obtain ⟨h, h5⟩ := and2 h
          obtain ⟨h, h4⟩ := and2 h
          obtain ⟨h, h3⟩ := and2 h
          obtain ⟨h1, h2⟩ := and2 h
          have := of_d h1; subst this
          obtain ⟨g1, g2, g3⟩ := Q.var h2
          obtain ⟨s1, s2⟩ := noStars_cons h5
          exact se_mthx O.xk.xo m1 m2 m3 g1 g2 (ih.e O Q h7) (ih.es O Q h8) (plainIx_of (of_n h4)) (base_of rfl) (few_ok h5 (of_d h6)) h3 (star_cons s1) (star_back s2) (okN_d g3) (okN_c g3)
        · cases h
      · cases h
    | comp t it c e =>
      dsimp only at h
      split at h
      · have L := ih.lc O Q h
        obtain ⟨own, o1, o2⟩ := L.ex
        exact se_comp Q.calm Q.nd o1 L.hi L.hg L.ht L.he o2 L.hs
      · cases h
    | comp2 => cases h
theorem kI_step {n : Nat} (ih : KOk C k n) {tg a : Expr} {i : It} (O : TxOk T C X k) (Q : ScOk S X) (h : kI T (n + 1) S tg a i = true) : SI C X tg a i := by
  unfold kI at h
  cases i with
  | on i => exact si_on (ih.e O Q h)
  | rng is =>
    dsimp only at h
    split at h
    · rename_i args _
      obtain ⟨h, h6⟩ := and2 h
      obtain ⟨h, h5⟩ := and2 h
      obtain ⟨h, h4⟩ := and2 h
      obtain ⟨h, h3⟩ := and2 h
      obtain ⟨h1, h2⟩ := and2 h
      have := of_d h1; subst this
      obtain ⟨g1, g2, g3⟩ := Txi.bl_ok O Q h2
      have hes := ih.es O Q h6
      have hl := of_d h5
      rcases args with _ | ⟨x, _ | ⟨y, _ | ⟨z, r⟩⟩⟩
      · cases h3
      · obtain ⟨s1, s2⟩ := noStars_cons h4
        exact si_rng1 g1 g2 hes (star_cons s1) hl
      · obtain ⟨s1, s2⟩ := noStars_cons h4
        obtain ⟨s3, s4⟩ := noStars_cons s2
        exact si_rng2 g1 g2 hes (by rw [star_cons s1, star_cons s3]; rfl) (star_cons s3) hl
      · exfalso
        simp at h3
    · cases h
  | enu i =>
    dsimp only at h
    split at h
    · obtain ⟨h, h5⟩ := and2 h
      obtain ⟨h, h4⟩ := and2 h
      obtain ⟨h, h3⟩ := and2 h
      obtain ⟨h1, h2⟩ := and2 h
      have := of_d h1; subst this
      obtain ⟨g1, g2, g3⟩ := Txi.bl_ok O Q h2
      cases tg <;> first | (cases h3; done) | skip
      exact si_enum g1 g2 (ih.e O Q h5) (star_cons (of_n h4))
    · cases h
  | zp i j =>
    dsimp only at h
    split at h
    · obtain ⟨h, h7⟩ := and2 h
      obtain ⟨h, h6⟩ := and2 h
      obtain ⟨h, h5⟩ := and2 h
      obtain ⟨h, h4⟩ := and2 h
      obtain ⟨h, h3⟩ := and2 h
      obtain ⟨h1, h2⟩ := and2 h
      have := of_d h1; subst this
      obtain ⟨g1, g2, g3⟩ := Txi.bl_ok O Q h2
      cases tg <;> first | (cases h3; done) | skip
      exact si_zip g1 g2 (ih.e O Q h6) (ih.e O Q h7) (star_cons (of_n h4)) (star_back (by rw [List.all_cons, h5]; rfl)) (star_cons (of_n h5))
    · cases h
  | rv i =>
    dsimp only at h
    split at h
    · obtain ⟨h, h4⟩ := and2 h
      obtain ⟨h, h3⟩ := and2 h
      obtain ⟨h1, h2⟩ := and2 h
      have := of_d h1; subst this
      obtain ⟨g1, g2, g3⟩ := Txi.bl_ok O Q h2
      exact si_rev g1 g2 (ih.e O Q h4) (star_cons (of_n h3))
    · cases h
theorem kT_step {n : Nat} (ih : KOk C k n) {a : Expr} {i : Ex} (O : TxOk T C X k) (Q : ScOk S X) (h : kT T (n + 1) S a i = true) : ST C X a i := by
  unfold kT at h
  split at h
  · obtain ⟨h, h4⟩ := and2 h
    obtain ⟨h, h3⟩ := and2 h
    obtain ⟨h1, h2⟩ := and2 h
    have := eq_of_beq h1; subst this
    exact st_cmp (opC_all O.xk.xo _) (ih.e O Q h3) (ih.e O Q h4) (marks_of (of_n h2))
  · obtain ⟨h, h6⟩ := and2 h
    obtain ⟨h, h5⟩ := and2 h
    obtain ⟨h, h4⟩ := and2 h
    obtain ⟨h, h3⟩ := and2 h
    obtain ⟨h1, h2⟩ := and2 h
    have := eq_of_beq h1; subst this
    have := eq_of_beq h2; subst this
    exact st_cmp2 (opC_all O.xk.xo _) (opC_all O.xk.xo _) (ih.e O Q h4) (ih.e O Q h5) (ih.e O Q h6) (marks_of (of_n h3))
  · exact st_not (ih.t O Q h)
  · exact (ih.w O Q h).st
  · obtain ⟨h1, h2⟩ := and2 h
    exact st_truth (ih.e O Q h2) (true_of (of_n h1))
theorem kW_step {n : Nat} (ih : KOk C k n) {op : BoolOp} {vs : List Expr} {i : Ex} (O : TxOk T C X k) (Q : ScOk S X) (h : kW T (n + 1) S op vs pos i = true) : SW C X (.BoolOp op vs pos) i := by
  unfold kW at h
  split at h
  · cases ‹_ = Nat.zero›
  · rename_i e; cases e; exact sw_one (ih.t O Q h)
  · rename_i e; cases e
    obtain ⟨h1, h2⟩ := and2 h
    exact sw_and (ih.t O Q h1) (ih.w O Q h2)
  · rename_i e; cases e
    obtain ⟨h1, h2⟩ := and2 h
    exact sw_or (ih.t O Q h1) (ih.w O Q h2)
  · cases h
end
end DL
end
section
set_option Elab.async false
set_option linter.all false
set_option maxRecDepth 100000
set_option maxHeartbeats 8000000
/-! D layer, 32: the look at statements. -/
namespace DL
open PySem PySem.Spec PyProof.Rows L2
section
variable {T : Txi} {C : Dc} {X : Cx} {S : Sc} {k : Nat} {pos : Pos}
theorem kok (n : Nat) : KOk C k n := by
  induction n with
  | zero =>
    refine ⟨?_, ?_, ?_, ?_, ?_, ?_, ?_, ?_, ?_, ?_⟩ <;> intros <;> first | (rename_i h; cases h; done) | (rename_i h _; cases h; done) | skip
  | succ n ih =>
    refine ⟨fun O Q h => kE_step ih O Q h, fun O Q h => ?_, fun O Q h => kT_step ih O Q h, fun O Q h => kW_step ih O Q h, fun {T X S a i} O Q h => ?_, fun {T X S a i} O Q h => ?_, fun {T X S a i kk} O Q h hl => ?_, fun {T X S a i} O Q h => ?_, fun O Q h => kI_step ih O Q h, fun {T X S a i} O Q h => ?_⟩
    · unfold kLc at h
      obtain ⟨h, h7⟩ := and2 h
      obtain ⟨h, h6⟩ := and2 h
      obtain ⟨h, h5⟩ := and2 h
      obtain ⟨h, h4⟩ := and2 h
      obtain ⟨h, h3⟩ := and2 h
      obtain ⟨h1, h2⟩ := and2 h
      have B := blkOk_ok Q h1
      exact ⟨⟨_, B, of_d h2⟩, ih.it O Q h4, fun s H Ca cl fp => kG_ok (Q.blk B.kind s H Ca cl fp) h5, fun s H Ca cl fp => ih.ts (O.blk s H _ _ fp) (Q.blk B.kind s H Ca cl fp) h6,
        fun s H Ca cl fp => ih.e (O.blk s H _ _ fp) (Q.blk B.kind s H Ca cl fp) h7, folded_of (of_n h3)⟩
    · cases a <;> cases i <;> first | (cases h; done) | skip
      · exact ses_nil
      · unfold kEs at h
        obtain ⟨h, h3⟩ := and2 h
        obtain ⟨h1, h2⟩ := and2 h
        exact ses_cons (ih.e O Q h2) (ih.es O Q h3) (star_cons (of_n h1))
    · rcases a with _ | ⟨⟨nm, a, kp⟩, r⟩ <;> cases i <;> first | (cases h; done) | skip
      · exact sks_nil
      · unfold kKs at h
        obtain ⟨h1, h2⟩ := and2 h
        exact sks_cons (ih.e O Q h1) (ih.ks O Q h2)
    · cases a <;> cases i <;> first | (cases h; done) | skip
      · have : kk = [] := List.eq_nil_of_length_eq_zero hl
        subst this
        exact sds_nil
      · unfold kDs at h
        obtain ⟨h1, h2⟩ := and2 h
        cases kk with
        | nil => simp at hl
        | cons k0 kr => exact sds_cons (ih.e O Q h1) (ih.ds O Q h2 (by simpa using hl))
    · cases a with
      | none =>
        unfold kO at h
        split at h
        · exact so_none
        · cases h
      | some a =>
        unfold kO at h
        obtain ⟨h1, h2⟩ := and2 h
        refine so_some (ih.e O Q h2) fun d => ?_
        cases i <;> first | rfl | skip
        rename_i dd
        cases dd <;> first | rfl | (cases h1; done)
    · rcases a with _ | ⟨c, _ | ⟨c2, r⟩⟩
      · unfold kTs at h
        split at h
        · exact sts_nil
        · cases h
      · unfold kTs at h
        exact sts_one (ih.t O Q h)
      · unfold kTs at h
        cases h
theorem kE_ok {n : Nat} {a : Expr} {i : Ex} (O : TxOk T C X k) (Q : ScOk S X) (h : kE T n S a i = true) : SE C X a i := (kok n).e O Q h
theorem kT_ok {n : Nat} {a : Expr} {i : Ex} (O : TxOk T C X k) (Q : ScOk S X) (h : kT T n S a i = true) : ST C X a i := (kok n).t O Q h

/-! ### statements -/
/-- a body's scope -/
structure StOk (S : Sc) (X : Cx) : Prop extends ScOk S X where
  names : X.env.scope.names = S.names
  ps : PassesOwn (model X.prog X.w) X.A X.env X.xe
/-- two or three plain names take what a display tells: the model's swapped stores -/
def swapN (S : Sc) (line : Nat) (ts : List Expr) : Option (List Str) := match ts with
  | [] => some []
  | .Name x p :: r => if S.names.lookup x == some .local && p.line == line then (swapN S line r).map (x :: ·) else none
  | _ => none
def parSwap (S : Sc) (ts vs : List Expr) : Option (List Str) := match ts with
  | t :: _ => if (ts.length == 2 || ts.length == 3) && (vs.length == ts.length) && noStars vs then (match swapN S t.pos.line ts with
    | some xs => if decide (xs.eraseDups.length = xs.length) && !(vs.all (foldedForSure 8)) && !(vs.all (constantsAlone 8)) then some xs else none
    | none => none) else none
  | [] => none
theorem swapN_len : ∀ {ts : List Expr} {line : Nat} {xs : List Str}, swapN S line ts = some xs → xs.length = ts.length
  | [], _, xs, h => by cases h; rfl
  | t :: r, line, xs, h => by
    cases t <;> first | (cases h; done) | skip
    unfold swapN at h
    split at h
    · cases hr : swapN S line r with
      | none => rw [hr] at h; cases h
      | some xr => rw [hr] at h; cases h; rw [List.length_cons, swapN_len hr]; rfl
    · cases h
theorem swapN_map {env : Env} (hn : env.scope.names = S.names) : ∀ {ts : List Expr} {line : Nat} {xs : List Str}, swapN S line ts = some xs → (ts.filterMap fun
    | .Name id pos => if env.kindOf id == some .local && pos.line == line then some id else none
    | _ => none) = xs
  | [], _, xs, h => by cases h; rfl
  | t :: r, line, xs, h => by
    cases t <;> first | (cases h; done) | skip
    rename_i x p
    unfold swapN at h
    split at h
    · rename_i hc
      cases hr : swapN S line r with
      | none => rw [hr] at h; cases h
      | some xr =>
        rw [hr] at h; cases h
        have ih := swapN_map hn hr
        have hc' : (env.kindOf x == some .local && p.line == line) = true := by unfold Env.kindOf; rw [hn]; exact hc
        rw [List.filterMap_cons]
        simp only [hc', if_true]
        exact congrArg (x :: ·) ih
    · cases h
theorem any_star {vs : List Expr} (h : noStars vs = true) : (vs.any fun | .Starred .. => true | _ => false) = false := by
  induction vs with
  | nil => rfl
  | cons a r ih =>
    obtain ⟨h1, h2⟩ := noStars_cons h
    rw [List.any_cons, ih h2]
    cases a <;> first | rfl | (cases h1; done)
theorem parSwap_ok {ts vs : List Expr} {xs : List Str} {kt k2 : Nat} {pt p2 : Pos} (Q : StOk S X) (h : parSwap S ts vs = some xs) : swappedStores [.Tuple ts kt pt] (.Tuple vs k2 p2) X.env = pure (some xs) := by
  cases ts with
  | nil => cases h
  | cons t r =>
    unfold parSwap at h
    dsimp only at h
    split at h
    · rename_i hc
      obtain ⟨hc, hc3⟩ := and2 hc
      obtain ⟨hc1, hc2⟩ := and2 hc
      split at h
      · rename_i ys hy
        split at h
        · rename_i hd
          cases h
          obtain ⟨hd, hd3⟩ := and2 hd
          obtain ⟨hd1, hd2⟩ := and2 hd
          have e1 := swapN_map Q.names hy
          have e2 := swapN_len hy
          unfold swappedStores
          dsimp only
          have h1 : (!((t :: r).length == 2 || (t :: r).length == 3) || vs.length != (t :: r).length || X.env.blockKind != .function) = false := by
            rw [hc1, Q.kind]
            simp only [bne, hc2]
            rfl
          rw [h1]
          have h2 := any_star hc3
          have h3 : (List.head? (t :: r)).map (·.pos.line) = some t.pos.line := rfl
          simp only [h3, Option.getD_some, Bool.false_eq_true, if_false, of_n hd2, of_n hd3]
          refine (if_neg (fun z => Bool.noConfusion (z.symm.trans h2))).trans ?_
          refine (congrArg (fun A : List Str => if (A.length != (t :: r).length || A.eraseDups.length != A.length) = true then (pure none : Sem (Option (List Str))) else pure (some A)) e1).trans ?_
          show (if _ then _ else _) = _
          rw [e2, of_d hd1, e2]
          simp
        · cases h
      · cases h
    · cases h
end
end DL
end
section
set_option Elab.async false
set_option linter.all false
set_option maxRecDepth 100000
set_option maxHeartbeats 8000000
/-! D layer, 33: the look at statements is sound; defs. -/
namespace DL
open PySem PySem.Spec PyProof.Rows L2

def ownIn (scope : Scope) (x : Str) : Bool := scope.names.any fun (n, k) => n == x && (k == .local || k == .cell)
def kAsg (T : Txi) (n : Nat) (S : Sc) (tg a : Expr) (t : Tg) (e : Ex) : Bool := match t, tg with
  | .nm m, .Name x p => S.tgt x m && (if xComp a then (match a, e with
    | .ListComp elt [⟨tg2, iter, ifs, 0⟩] scope p2, .comp t2 it c el => if S.pl x then p.line == p2.line && !(ownIn scope x) && kLc T n S elt tg2 iter ifs scope t2 it c el else kE T n S a e
    | _, _ => false) else kE T n S a e)
  | .tp is, .Tuple es _ _ => !xTup a && kGs S es is && kE T n S a e
  | _, _ => false
def parNone (S : Sc) (ts vs : List Expr) : Bool := !(ts.length == 2 || ts.length == 3) || vs.all (foldedForSure 8) || ts.any fun t => match t with
  | .Name x _ => !(S.names.lookup x == some .local)
  | _ => true
def kPar (T : Txi) (n : Nat) (S : Sc) (ts vs : List Expr) (is : List Nat) (es : Exs) : Bool := noStars ts && noStars vs && decide (es.len = is.length) && decide (vs.length = ts.length) && decide (es.len ≤ 100000) && kGs S ts is && kEs T n S vs es && decide is.Nodup &&
  ((parSwap S ts vs).isSome || parNone S ts vs)
mutual
def kS (T : Txi) : Nat → Sc → Stmt → St → Bool
  | 0, _, _, _ => false
  | n + 1, S, st, i => match i with
    | .asg t fr e => (match st with | .Assign [tg] a _ => kAsg T n S tg a t e | _ => false)
    | .par is frs es => (match st with | .Assign [.Tuple ts _ _] (.Tuple vs _ _) _ => kPar T n S ts vs is es | _ => false)
    | .setx m a v => (match st with | .Assign [.Subscript (.Name x _) s _] ve _ => S.var x m && !xSlice s && kE T n S s a && kE T n S ve v | _ => false)
    | .setxx m a b v => (match st with | .Assign [.Subscript (.Subscript (.Name x _) s _) s2 _] ve _ => S.var x m && !xSlice s && !xSlice s2 && kE T n S s a && kE T n S s2 b && kE T n S ve v | _ => false)
    | .setf m c f v => (match st with | .Assign [.Attribute (.Name x _) g _] ve _ => decide (g = f) && decide ((c, f) ∈ T.flds) && S.var x m && kE T n S ve v | _ => false)
    | .aug m op v => (match st with | .AugAssign (.Name x _) o ve _ => o == op && (op == .Add || op == .Sub) && S.tgt x m && kE T n S ve v | _ => false)
    | .ex e => (match st with | .Expr a _ => !xComp a && kE T n S a e | _ => false)
    | .ret e => (match st with
      | .Return (some a) _ => kE T n S a e
      | .Return none _ => (match e with | .con .non => true | _ => false)
      | _ => false)
    | .ite c a b => (match st with | .If t x y _ => kT T n S t c && kSs T n S x a && kSs T n S y b | _ => false)
    | .whl c b => (match st with | .While t x [] _ => kT T n S t c && kSs T n S x b | _ => false)
    | .for t it b => (match st with | .For tg iter x [] _ => !xSet iter && kI T n S tg iter it && kG S tg t && kSs T n S x b | _ => false)
    | .brk => (match st with | .Break _ => true | _ => false)
    | .cnt => (match st with | .Continue _ => true | _ => false)
    | .pss => (match st with
      | .Pass _ => true
      | .Expr (.Constant (.str _) _ _) _ => true
      | _ => false)
    | .rais c [] .nil => (match st with | .Raise (some (.Call (.Name x _) [.Constant (.str _) _ _] [] _)) none _ => decide (x = c) && S.glo x && decide (x ∈ T.errs) | _ => false)
    | _ => false
def kSs (T : Txi) : Nat → Sc → List Stmt → Sts → Bool
  | 0, _, _, _ => false
  | n + 1, S, [], .nil => true
  | n + 1, S, s :: ss, .cons i is => kS T n S s i && kSs T n S ss is
  | _, _, _, _ => false
end
section
variable {T : Txi} {C : Dc} {X : Cx} {S : Sc} {k : Nat} {pos : Pos}
theorem swapsSub {a b : Expr} {n : Nat} {p : Pos} {f : Expr} {env : Env} : swapsWith a (some (.Subscript f b p)) n env = pure false := by cases a <;> rfl
theorem swapsAtt {a f : Expr} {n : Nat} {p : Pos} {g : Str} {env : Env} : swapsWith a (some (.Attribute f g p)) n env = pure false := by cases a <;> rfl
theorem sole_of {t a : Expr} {n : Nat} {env : Env} (h : swapsWith a (some t) n env = pure false) : swapsWithSole [t] a n env = pure false := by
  unfold swapsWithSole
  exact h
theorem swappedSub {a b : Expr} {p : Pos} {f : Expr} {env : Env} : swappedStores [.Subscript f b p] a env = pure none := by cases a <;> rfl
theorem asgSub {a b : Expr} {p : Pos} {env : Env} (h : xSlice b = false) (v : Value) : assign (.Subscript a b p) env v = (do
      let ov ← holding [v] (eval a env)
      let iv ← holding [v, ov] (eval b env)
      standAt p
      holding [v, ov, iv] (setItem ov iv v)
      release [v, ov, iv] []) := by
  cases b <;> first | (cases h; done) | rfl
theorem pgs_all (O : ScOk S X) : ∀ {es : List Expr} {is : List Nat}, kGs S es is = true → PGs X es (gNames is) ∧ es.length = is.length ∧ ∀ k ∈ is, k < X.N.length
  | [], [], _ => ⟨pgs_nil, rfl, by simp⟩
  | a :: es, [], h => by cases a <;> simp [kGs] at h
  | [], _ :: _, h => by simp [kGs] at h
  | a :: es, n :: is, h => by
    cases a <;> first | (simp [kGs] at h; done) | skip
    rename_i x p
    obtain ⟨h1, h2⟩ := and2 (show (S.tgt x n && kGs S es is) = true from h)
    obtain ⟨g1, g2, g3, g4⟩ := O.tgt h1
    obtain ⟨r1, r2, r3⟩ := pgs_all O h2
    refine ⟨pgs_cons (pg_name O.nd g1 g2 g3) r1, by rw [List.length_cons, r2]; rfl, fun k hk => ?_⟩
    rcases List.mem_cons.mp hk with e | hk
    · subst e; exact (List.getElem?_eq_some_iff.mp g1).1
    · exact r3 k hk
theorem filt_len {S : Sc} {env : Env} (hn : env.scope.names = S.names) {line : Nat} : ∀ {ts : List Expr}, (ts.any fun t => match t with
  | .Name x _ => !(S.names.lookup x == some .local)
  | _ => true) = true → ((ts.filterMap fun
    | .Name id pos => if env.kindOf id == some .local && pos.line == line then some id else none
    | _ => none).length != ts.length) = true
  | [], h => by cases h
  | t :: r, h => by
    have le : (r.filterMap (fun
      | .Name id pos => if env.kindOf id == some .local && pos.line == line then some id else none
      | _ => none : Expr → Option Str)).length ≤ r.length := List.length_filterMap_le ..
    rw [List.any_cons] at h
    by_cases hr : (r.any fun t => match t with
      | .Name x _ => !(S.names.lookup x == some .local)
      | _ => true) = true
    · have ih := filt_len hn (line := line) hr
      have ih' : (r.filterMap (fun
        | .Name id pos => if env.kindOf id == some .local && pos.line == line then some id else none
        | _ => none : Expr → Option Str)).length ≠ r.length := by simpa using ih
      rw [List.filterMap_cons]
      split
      · simp only [bne_iff_ne, ne_eq, List.length_cons]
        omega
      · simp only [bne_iff_ne, ne_eq, List.length_cons]
        omega
    · rw [Bool.not_eq_true] at hr
      rw [hr, Bool.or_false] at h
      have e : (fun t : Expr => (match t with
        | .Name id pos => if env.kindOf id == some .local && pos.line == line then some id else none
        | _ => none : Option Str)) t = none := by
        cases t <;> first | rfl | skip
        rename_i x p
        have h' : (S.names.lookup x == some .local) = false := by simpa using h
        have h2 : (env.kindOf x == some NameKind.local) = false := by unfold Env.kindOf; rw [hn]; exact h'
        show (if (env.kindOf x == some .local && p.line == line) = true then some x else none) = none
        rw [h2]; rfl
      rw [List.filterMap_cons]
      split
      · simp only [bne_iff_ne, ne_eq, List.length_cons]
        omega
      · rename_i z
        exact absurd (e.symm.trans z) (by simp)
theorem parNone_ok {ts vs : List Expr} {kt k2 : Nat} {pt p2 : Pos} (Q : StOk S X) (h : parNone S ts vs = true) : swappedStores [.Tuple ts kt pt] (.Tuple vs k2 p2) X.env = pure none := by
  unfold swappedStores
  dsimp only
  unfold parNone at h
  rw [Bool.or_eq_true, Bool.or_eq_true] at h
  split
  · rfl
  rename_i c1
  split
  · rfl
  split
  · rfl
  rename_i c3
  rcases h with (h | h) | h
  · exact absurd (by rw [h]; rfl) c1
  · split
    · rfl
    · rename_i c4; exact absurd h c4
  · exfalso
    refine c3 ?_
    rw [Bool.or_eq_true]
    exact .inl (filt_len Q.names h)
theorem kAsg_ok {n : Nat} {tg a : Expr} {t : Tg} {fr : Bool} {e : Ex} (O : TxOk T C X k) (Q : StOk S X) (h : kAsg T n S tg a t e = true) : SS C X (.Assign [tg] a pos) (.asg t fr e) := by
  unfold kAsg at h
  split at h
  · obtain ⟨h1, h2⟩ := and2 h
    obtain ⟨g1, g2, g3, g4⟩ := Q.toScOk.tgt h1
    split at h2
    · split at h2
      · split at h2
        · rename_i hp
          obtain ⟨h2, h5⟩ := and2 h2
          obtain ⟨h3, h4⟩ := and2 h2
          have L := (kok n).lc O Q.toScOk h5
          obtain ⟨own, o1, o2⟩ := L.ex
          refine ss_setc Q.calm Q.nd g1 (Q.pl _ hp) ?_ o1 L.hi L.hg L.ht L.he o2 L.hs
          have e1 : (X.env.blockKind == ScopeKind.function) = true := by rw [Q.kind]; rfl
          have e2 : (X.env.kindOf ‹Str› == some NameKind.local) = true := by
            unfold Env.kindOf
            rw [Q.pl _ hp]
            rfl
          show (pure (_ == _ && _ == _ && _ == _ && !_) : Sem Bool) = pure true
          rw [e1, e2]
          refine congrArg pure ?_
          show (_ && !_) = true
          exact Bool.and_eq_true_iff.mpr ⟨h3, h4⟩
        · rename_i hp
          refine ss_set (kE_ok O Q.toScOk h2) Q.nd g1 g2 (hs := ?_) (hf := g3)
          have e2 : (X.env.kindOf ‹Str› == some NameKind.local) = false := by
            unfold Env.kindOf
            rw [Q.names]
            simpa [Sc.pl] using hp
          show (pure (_ == _ && _ == _ && _ == _ && !_) : Sem Bool) = pure false
          rw [e2]
          simp
      · cases h2
    · rename_i hc
      exact ss_set (kE_ok O Q.toScOk h2) Q.nd g1 g2 (hs := by exact swaps_of (by simpa using hc)) (hf := g3)
  · obtain ⟨h, h3⟩ := and2 h
    obtain ⟨h1, h2⟩ := and2 h
    obtain ⟨r1, r2⟩ := kGs_ok (C := C) Q.toScOk h2
    exact ss_asgT (kE_ok O Q.toScOk h3) (stg_tp Q.calm r1 asg_len (asg_find r2)) (hs := by exact sole_of swapsT_of) (hw := by exact swapped_of (of_n h1))
  · cases h
theorem kGs_inv {t : Expr} {r : List Expr} {is : List Nat} (h : kGs S (t :: r) is = true) : ∃ x p n js, t = .Name x p ∧ is = n :: js ∧ S.tgt x n = true ∧ kGs S r js = true := by
  cases is with
  | nil => cases t <;> simp [kGs] at h
  | cons n js =>
    cases t <;> first | (simp [kGs] at h; done) | skip
    rename_i x p
    obtain ⟨h1, h2⟩ := and2 (show (S.tgt x n && kGs S r js) = true from h)
    exact ⟨x, p, n, js, rfl, rfl, h1, h2⟩
theorem kGs_nil {is : List Nat} (h : kGs S [] is = true) : is = [] := by
  cases is with
  | nil => rfl
  | cons => simp [kGs] at h
theorem kPar_ok {n : Nat} {ts vs : List Expr} {is : List Nat} {es : Exs} {frs : List Bool} {kt k2 : Nat} {pt p2 : Pos} (O : TxOk T C X k) (Q : StOk S X) (h : kPar T n S ts vs is es = true) : SS C X (.Assign [.Tuple ts kt pt] (.Tuple vs k2 p2) pos) (.par is frs es) := by
  unfold kPar at h
  obtain ⟨h, h9⟩ := and2 h
  obtain ⟨h, h8⟩ := and2 h
  obtain ⟨h, h7⟩ := and2 h
  obtain ⟨h, h6⟩ := and2 h
  obtain ⟨h, h5⟩ := and2 h
  obtain ⟨h, h4⟩ := and2 h
  obtain ⟨h, h3⟩ := and2 h
  obtain ⟨h1, h2⟩ := and2 h
  have hes := (kok n).es O Q.toScOk h7
  have nd := of_d h8
  by_cases hp : parNone S ts vs = true
  · obtain ⟨r1, r2, r3⟩ := pgs_all Q.toScOk h6
    refine ss_parC Q.calm r1 hes (fun {σ H pins s} I k hk => by rw [I.len]; exact r3 k hk) (asg_len.trans r2) (asg_find h1) (of_d h3) (of_d h5) (hs := ?_) (hw := parNone_ok Q hp) (h1 := ?_)
    · exact sole_of swapsT_of
    · rfl
  · rw [Bool.not_eq_true] at hp
    rw [hp, Bool.or_false] at h9
    obtain ⟨xs, hx⟩ := Option.isSome_iff_exists.mp h9
    have hw := fun (kt k2 : Nat) (pt p2 : Pos) => parSwap_ok (kt := kt) (k2 := k2) (pt := pt) (p2 := p2) Q hx
    have hsw : ∀ (kt k2 : Nat) (pt p2 : Pos) l, swapsWithSole [.Tuple ts kt pt] (.Tuple vs k2 p2) l X.env = pure false := fun _ _ _ _ _ => sole_of swapsT_of
    rcases ts with _ | ⟨t, r⟩
    · cases hx
    unfold parSwap at hx
    dsimp only at hx
    split at hx
    case isFalse => cases hx
    rename_i hc
    obtain ⟨hc, _⟩ := and2 hc
    obtain ⟨hc1, hc2⟩ := and2 hc
    split at hx
    case h_2 => cases hx
    rename_i ys hy
    split at hx
    case isFalse => cases hx
    cases hx
    have lv := of_d h4
    have le := of_d h3
    rw [Bool.or_eq_true] at hc1
    have key : ∀ {line : Nat} {x : Str} {p : Pos} {l : List Expr} {zs : List Str}, swapN S line (.Name x p :: l) = some zs → ∃ zr, zs = x :: zr ∧ swapN S line l = some zr ∧ X.env.scope.names.lookup x = some .local := by
      intro line x p l zs hz
      unfold swapN at hz
      split at hz
      · rename_i hq
        obtain ⟨q1, q2⟩ := and2 hq
        cases hl : swapN S line l with
        | none => rw [hl] at hz; cases hz
        | some zr => rw [hl] at hz; cases hz; exact ⟨zr, rfl, rfl, Q.pl _ q1⟩
      · cases hz
    rcases hc1 with hc1 | hc1
    · obtain ⟨u, rfl⟩ : ∃ u, r = [u] := by
        have : r.length = 1 := by simpa using hc1
        exact List.length_eq_one_iff.mp this
      obtain ⟨a, b, rfl⟩ : ∃ a b, vs = [a, b] := by
        match vs, lv with
        | [a, b], _ => exact ⟨a, b, rfl⟩
      obtain ⟨x, px, i, js, rfl, rfl, t1, h6⟩ := kGs_inv h6
      obtain ⟨y, py, j, js, rfl, rfl, t2, h6⟩ := kGs_inv h6
      have := kGs_nil h6
      subst this
      obtain ⟨z1, e1, hy, l1⟩ := key hy
      obtain ⟨z2, e2, hy, l2⟩ := key hy
      cases hy
      subst e2
      subst e1
      exact ss_par2 Q.calm Q.nd (Q.toScOk.tgt t1).1 (Q.toScOk.tgt t2).1 (by simpa using nd) l1 l2 hes (hw _ _ _ _) le (hsw _ _ _ _ _)
    · obtain ⟨u, w, rfl⟩ : ∃ u w, r = [u, w] := by
        have : r.length = 2 := by simpa using hc1
        match r, this with
        | [u, w], _ => exact ⟨u, w, rfl⟩
      obtain ⟨a, b, c, rfl⟩ : ∃ a b c, vs = [a, b, c] := by
        match vs, lv with
        | [a, b, c], _ => exact ⟨a, b, c, rfl⟩
      obtain ⟨x, px, i, js, rfl, rfl, t1, h6⟩ := kGs_inv h6
      obtain ⟨y, py, j, js, rfl, rfl, t2, h6⟩ := kGs_inv h6
      obtain ⟨z, pz, l, js, rfl, rfl, t3, h6⟩ := kGs_inv h6
      have := kGs_nil h6
      subst this
      obtain ⟨z1, e1, hy, l1⟩ := key hy
      obtain ⟨z2, e2, hy, l2⟩ := key hy
      obtain ⟨z3, e3, hy, l3⟩ := key hy
      cases hy
      subst e3
      subst e2
      subst e1
      simp only [List.nodup_cons, List.mem_cons, List.not_mem_nil, or_false, not_or] at nd
      exact ss_par3 Q.calm Q.nd (Q.toScOk.tgt t1).1 (Q.toScOk.tgt t2).1 (Q.toScOk.tgt t3).1 nd.1.1 nd.1.2 nd.2.1 l1 l2 l3 hes (hw _ _ _ _) le (hsw _ _ _ _ _)
structure SOk (T : Txi) (C : Dc) (X : Cx) (k n : Nat) : Prop where
  s : ∀ {S st i}, TxOk T C X k → StOk S X → kS T n S st i = true → SS C X st i
  ss : ∀ {S st i}, TxOk T C X k → StOk S X → kSs T n S st i = true → SSs C X st i
theorem sok (n : Nat) : SOk T C X k n := by
  induction n with
  | zero => refine ⟨fun {S st i} O Q h => ?_, fun {S st i} O Q h => ?_⟩ <;> cases h
  | succ n ih =>
    refine ⟨fun {S st i} O Q h => ?_, fun {S st i} O Q h => ?_⟩
    · unfold kS at h
      cases i <;> first | (cases h; done) | skip
      case asg t fr e =>
        dsimp only at h
        split at h
        · exact kAsg_ok O Q h
        · cases h
      case par is frs es =>
        dsimp only at h
        split at h
        · exact kPar_ok O Q h
        · cases h
      case setx m a v =>
        dsimp only at h
        split at h
        · obtain ⟨h, h4⟩ := and2 h
          obtain ⟨h, h3⟩ := and2 h
          obtain ⟨h1, h2⟩ := and2 h
          obtain ⟨g1, g2, g3⟩ := Q.toScOk.var h1
          exact ss_setx O.xk.xo g1 g2 (kE_ok O Q.toScOk h3) (kE_ok O Q.toScOk h4) (hs := by exact sole_of swapsSub) (hw := by exact swappedSub) (ha := asgSub (of_n h2)) (hd := okN_d g3) (hcd := okN_c g3)
        · cases h
      case setxx m a b v =>
        dsimp only at h
        split at h
        · obtain ⟨h, h6⟩ := and2 h
          obtain ⟨h, h5⟩ := and2 h
          obtain ⟨h, h4⟩ := and2 h
          obtain ⟨h, h3⟩ := and2 h
          obtain ⟨h1, h2⟩ := and2 h
          obtain ⟨g1, g2, g3⟩ := Q.toScOk.var h1
          exact ss_setxx O.xk.xo g1 g2 (kE_ok O Q.toScOk h4) (kE_ok O Q.toScOk h5) (kE_ok O Q.toScOk h6) (plainIx_of (of_n h2)) (hs := by exact sole_of swapsSub) (hw := by exact swappedSub) (ha := asgSub (of_n h3)) (hd := okN_d g3) (hcd := okN_c g3)
        · cases h
      case setf m c f v =>
        dsimp only at h
        split at h
        · obtain ⟨h, h4⟩ := and2 h
          obtain ⟨h, h3⟩ := and2 h
          obtain ⟨h1, h2⟩ := and2 h
          have := of_d h1; subst this
          obtain ⟨g1, g2, g3⟩ := Q.toScOk.var h3
          exact ss_setf (O.fld _ _ (of_d h2)) g1 g2 (kE_ok O Q.toScOk h4) (hs := by exact swapsAtt) (hd := okN_d g3) (hcd := okN_c g3)
        · cases h
      case aug m op v =>
        dsimp only at h
        split at h
        · obtain ⟨h, h4⟩ := and2 h
          obtain ⟨h, h3⟩ := and2 h
          obtain ⟨h1, h2⟩ := and2 h
          have := (eq_of_beq h1).symm; subst this
          obtain ⟨g1, g2, g3, g4⟩ := Q.toScOk.tgt h3
          cases op <;> first | (cases h2; done) | skip
          · refine ss_aug ip_add (fun i j y hy => ?_) (fun i d y hy => ?_) Q.nd g1 g2 (kE_ok O Q.toScOk h4) g3
            · simp only [binD, Option.some.injEq] at hy; exact hy.symm
            · cases d <;> first | exact ⟨_, rfl⟩ | (simp [binD] at hy; done)
          · refine ss_aug ip_sub (fun i j y hy => ?_) (fun i d y hy => ?_) Q.nd g1 g2 (kE_ok O Q.toScOk h4) g3
            · simp only [binD, Option.some.injEq] at hy; exact hy.symm
            · cases d <;> first | exact ⟨_, rfl⟩ | (simp [binD] at hy; done)
        · cases h
      case ex e =>
        dsimp only at h
        split at h
        · obtain ⟨h1, h2⟩ := and2 h
          exact ss_ex (kE_ok O Q.toScOk h2) (hs := by exact swaps_of (of_n h1))
        · cases h
      case ret e =>
        dsimp only at h
        split at h
        · exact ss_ret (kE_ok O Q.toScOk h)
        · split at h
          · exact ss_retN
          · cases h
        · cases h
      case ite c a b =>
        dsimp only at h
        split at h
        · obtain ⟨h, h3⟩ := and2 h
          obtain ⟨h1, h2⟩ := and2 h
          exact ss_if (kT_ok O Q.toScOk h1) (ih.ss O Q h2) (ih.ss O Q h3)
        · cases h
      case whl c b =>
        dsimp only at h
        split at h
        · obtain ⟨h1, h2⟩ := and2 h
          exact ss_while Q.ps (kT_ok O Q.toScOk h1) (ih.ss O Q h2)
        · cases h
      case «for» t it b =>
        dsimp only at h
        split at h
        · obtain ⟨h, h4⟩ := and2 h
          obtain ⟨h, h3⟩ := and2 h
          obtain ⟨h1, h2⟩ := and2 h
          exact ss_for Q.ps Q.calm ((kok n).it O Q.toScOk h2) (kG_ok Q.toScOk h3) (ih.ss O Q h4) (folded_of (of_n h1))
        · cases h
      case brk =>
        dsimp only at h
        split at h
        · exact ss_brk
        · cases h
      case cnt =>
        dsimp only at h
        split at h
        · exact ss_cnt
        · cases h
      case pss =>
        dsimp only at h
        split at h
        · exact ss_pass
        · exact ss_doc
        · cases h
      case rais c fs es =>
        cases fs with
        | cons => cases h
        | nil =>
          cases es with
          | cons => cases h
          | nil =>
            dsimp only at h
            split at h
            · obtain ⟨h, h3⟩ := and2 h
              obtain ⟨h1, h2⟩ := and2 h
              have := of_d h1; subst this
              exact ss_raise Q.calm (O.err _ (of_d h3)) (Q.glo _ h2) (okN_d (Sc.glo_ok h2))
            · cases h
    · cases st <;> cases i <;> first | (cases h; done) | skip
      · exact sss_nil
      · unfold kSs at h
        obtain ⟨h1, h2⟩ := and2 h
        exact sss_cons (ih.s O Q h1) (ih.ss O Q h2)
end
end DL
end
section
set_option Elab.async false
set_option linter.all false
set_option maxRecDepth 100000
set_option maxHeartbeats 2000000
/-! D layer, 34: plain parameters. -/
namespace DL
open PySem PySem.Spec PyProof.Rows L2
theorem look_zip {x : Str} {u : Value} : ∀ {ps : List Str} {us : List Value}, us.length = ps.length → ∀ n ∈ ps, ((ps.zip us).lookup n).isNone = false
  | [], us, _, n, h => by simp at h
  | p :: ps, [], hl, n, h => by simp at hl
  | p :: ps, u :: us, hl, n, h => by
    rw [List.zip_cons_cons, List.lookup_cons]
    by_cases e : (n == p) = true
    · rw [e]; rfl
    · have e : (n == p) = false := by simpa using e
      rw [e]
      exact look_zip (x := x) (u := u) (by simpa using hl) n (by
        rcases List.mem_cons.mp h with z | z
        · subst z; simp at e
        · exact z)
theorem zip_back : ∀ {ps : List Str} {us : List Value} {qs : List (Str × Value)}, us.length = ps.length → ps.Nodup → (∀ n ∈ ps, qs.lookup n = (ps.zip us).lookup n) → (ps.filterMap fun n => (qs.lookup n).map (n, ·)) = ps.zip us
  | [], us, qs, _, _, _ => by simp
  | p :: ps, [], qs, hl, _, _ => by simp at hl
  | p :: ps, u :: us, qs, hl, nd, h => by
    have hp := h p List.mem_cons_self
    rw [List.zip_cons_cons, List.lookup_cons, beq_self_eq_true] at hp
    rw [List.filterMap_cons, hp]
    rw [List.nodup_cons] at nd
    have ih := zip_back (qs := qs) (ps := ps) (us := us) (by simpa using hl) nd.2 (fun n hn => by
      rw [h n (List.mem_cons_of_mem _ hn), List.zip_cons_cons, List.lookup_cons]
      have : (n == p) = false := by
        simp only [beq_eq_false_iff_ne, ne_eq]
        intro e; subst e; exact nd.1 hn
      rw [this])
    simp only [Option.map_some]
    rw [ih, List.zip_cons_cons]
theorem bind_plain {x qual : Str} {as : List Arg} {body : List Stmt} {scope : Scope} {kV doc pm : Value} {an : Option Addr} {cdv ct : Value} {us : List Value} (nd : (as.map (·.arg)).Nodup) (hl : us.length = (as.map (·.arg)).length) :
    bindArgs (PySem.W.fnOf x qual ⟨[], as, none, [], [], none, []⟩ body scope .none kV doc pm an cdv ct) ⟨us, []⟩ = pure ((as.map (·.arg)).zip us) := by
  have h1 : ((as.map (·.arg)).filter fun n => (((as.map (·.arg)).zip us).lookup n).isNone) = [] := by
    rw [List.filter_eq_nil_iff]
    intro n hn
    rw [look_zip (x := n) (u := .none) hl n hn]
    simp
  have h2 := zip_back (qs := (as.map (·.arg)).zip us) hl nd (fun _ _ => rfl)
  have h3 : ¬ us.length > (as.map (·.arg)).length := by omega
  unfold bindArgs
  simp only [List.map_nil, List.nil_append, List.append_nil]
  generalize hps : as.map (·.arg) = ps at *
  have hs : seqItems? Value.none = pure none := by rfl
  rw [hs]
  simp only [pure_bind, Option.getD_none, List.forIn_nil, decide_eq_false h3, Bool.false_and, Bool.false_eq_true, if_false, List.drop_nil, List.length_nil, Nat.sub_zero, List.take_length, h1, List.isEmpty_nil, Bool.not_true, List.zip_nil_right, h2]
end DL
end
section
set_option Elab.async false
set_option linter.all false
set_option maxRecDepth 100000
set_option maxHeartbeats 4000000
/-! D layer, 35: from the law's def to the law. -/
namespace DL
open PySem PySem.Spec PyProof.Rows L2
section
variable {P : Program} {w : World} {K : PySem.W.Frag} {mg mb : Str → Option Value} {k : Nat} {fa a : Addr} {cs : List (Addr × Addr)} {fd : FuncData} {x : Str} {sp : Sp} {s1 : Shared} {vs : List Value} {ns : List Int}
/-- an empty table of code objects -/
abbrev noRows : Obj := { cls := .none, data := .fields #[] }
/-- the script's object -/
abbrev scrO (vs : List Value) : Obj := { cls := .type "list", data := .seq vs.toArray }
/-- what is tracked as the law begins: the tables, the script unless the text's own part holds it -/
def Hp0 (K : PySem.W.Frag) (ts : List Addr) (a : Addr) (vs : List Value) (ns : List Int) : Hp := fun b =>
  if b ∈ ts then some (.tbl #[]) else if b = a then (match K.lookup a with | none => some (.frz (scrO vs) (.lst (ns.map V.int))) | some _ => none) else none
theorem hp0_tab {ts : List Addr} {b : Addr} (h : b ∈ ts) : Hp0 K ts a vs ns b = some (.tbl #[]) := by unfold Hp0; rw [if_pos h]
theorem hp0_other {ts : List Addr} {b : Addr} (h : b ∉ ts) (n : b ≠ a) : Hp0 K ts a vs ns b = none := by unfold Hp0; rw [if_neg h, if_neg n]
theorem hp0_in {ts : List Addr} {b : Addr} {o : Obj} (hb : K.lookup b = some o) (h : b ∉ ts) : Hp0 K ts a vs ns b = none := by
  unfold Hp0
  rw [if_neg h]
  split
  · rename_i e; subst e; rw [hb]
  · rfl
theorem hp0_inv {ts : List Addr} {b : Addr} {u : HO} (h : Hp0 K ts a vs ns b = some u) : (b ∈ ts ∧ u = .tbl #[]) ∨ (b = a ∧ K.lookup a = none ∧ u = .frz (scrO vs) (.lst (ns.map V.int))) := by
  unfold Hp0 at h
  split at h
  · rename_i m; cases h; exact .inl ⟨m, rfl⟩
  · split at h
    · rename_i e
      cases q : K.lookup a with
      | none => rw [q] at h; cases h; exact .inr ⟨e, rfl, rfl⟩
      | some o => rw [q] at h; cases h
    · cases h
/-- the heap without what is tracked keeps all else -/
theorem rest_get {ts : List Addr} (ha : s1.heap.get? a = some (scrO vs)) (hT : ∀ b ∈ ts, s1.heap.get? b = some noRows) {b : Addr} {o : Obj} (e : s1.heap.get? b = some o) (h1 : o ≠ scrO vs) (h2 : o ≠ noRows) : (hidT s1.heap (Hp0 K ts a vs ns)).get? b = some o := by
  refine hidT_get e ?_
  cases q : Hp0 K ts a vs ns b with
  | none => rfl
  | some u =>
    rcases hp0_inv q with ⟨m, _⟩ | ⟨eb, _, _⟩
    · exact absurd (Option.some.inj (e.symm.trans (hT b m))) h2
    · subst eb; exact absurd (Option.some.inj (e.symm.trans ha)) h1
/-- THE END: the law's def keeps its promise, so the law's call gives True and leaves what stood -/
theorem end_run (inK : K.In s1.heap) (hG : s1.heap.Ns mainGlobals mg) (hB : s1.heap.Ns builtinsNs mb) (hBB : ∀ x : Str, x ≠ "__name__" → mb x = bootBuiltins x) (hL : s1.heap.NoLimit) (hgn : s1.gens = #[])
    (hT : ∀ p ∈ cs, s1.heap.get? p.2 = some noRows) (nT : ∀ p ∈ cs, K.lookup p.2 = none) (hC : ∀ p ∈ cs, PySem.W.CodeHd s1.heap p.1 p.2)
    (hbm : ∃ (bm : Addr) (ob : Obj), mg "__builtins__" = some (.ref bm) ∧ bm ≠ builtinsNs ∧ s1.heap.get? bm = some ob ∧ ob.cls = .type "module" ∧ ob.dict = some builtinsNs ∧ ob.data = .plain)
    (ha : s1.heap.get? a = some (scrO vs)) (hi : IntsAre vs ns) (hl : ns.length ≤ sizeLine) (hr : Room k callerA)
    (F : ∀ base : Heap, K.In base → base.Ns mainGlobals mg → (∀ p ∈ cs, LamX.TabB base mg p.1 p.2) → FnG P w K mg base k fa fd [x] sp) (hbd : ∀ (s : Shared) (u : Value), BindsTo s fd ⟨[u], []⟩ [(x, u)])
    (hsp : ∀ H : Hp, (∀ p ∈ cs, H p.2 = some (.tbl #[])) → FzL K H a (ns.map V.int) → sp [.ref a] H (fun v _ => v = .bl true) fun _ _ _ => False) :
    codeAny (model P w) callerA (.call (.ref fa) ⟨[.ref a], []⟩) (fun r s' => r = .ok (.ret (.bool true)) ∧ OldK s1.heap s'.heap ∧ s'.os = s1.os ∧ AllBare s'.gens) s1 := by
  obtain ⟨ts, ets⟩ : ∃ ts, ts = cs.map (·.2) := ⟨_, rfl⟩
  have hT' : ∀ b ∈ ts, s1.heap.get? b = some noRows := fun b hb => by
    rw [ets] at hb
    obtain ⟨p, hp, rfl⟩ := List.mem_map.mp hb
    exact hT p hp
  have nT' : ∀ b ∈ ts, K.lookup b = none := fun b hb => by
    rw [ets] at hb
    obtain ⟨p, hp, rfl⟩ := List.mem_map.mp hb
    exact nT p hp
  have inT : ∀ p ∈ cs, p.2 ∈ ts := fun p hp => by rw [ets]; exact List.mem_map.mpr ⟨p, hp, rfl⟩
  have sN : scrO vs ≠ noRows := fun z => by cases congrArg Obj.data z
  have aN : a ∉ ts := fun z => sN (Option.some.inj (ha.symm.trans (hT' a z)))
  obtain ⟨H, eH⟩ : ∃ H, H = Hp0 K ts a vs ns := ⟨_, rfl⟩
  have lv := hi.length
  have rv := vals_ints hi
  -- the base
  have get1 : ∀ {b : Addr} {o : Obj}, s1.heap.get? b = some o → o ≠ scrO vs → o ≠ noRows → (hidT s1.heap H).get? b = some o := fun e h1 h2 => by rw [eH]; exact rest_get ha hT' e h1 h2
  have dictN : ∀ {o : Obj} {es : Array DictEntry} {ep : Nat}, o.data = .dict es ep → o ≠ scrO vs ∧ o ≠ noRows := fun {o es ep} d => ⟨fun z => (by rw [z] at d; cases d), fun z => (by rw [z] at d; cases d)⟩
  have ns1 : ∀ {b : Addr} {m : Str → Option Value}, s1.heap.Ns b m → (hidT s1.heap H).Ns b m := fun {b m} h => by
    obtain ⟨o, es, ep, e, d, r⟩ := h
    exact ⟨o, es, ep, get1 e (dictN d).1 (dictN d).2, d, r⟩
  have K1 : K.In (hidT s1.heap H) := fun b o e => by
    refine hidT_get (inK b o e) ?_
    rw [eH]
    exact hp0_in e fun z => by rw [nT' b z] at e; cases e
  have M1 : L2.Mod K mg (hidT s1.heap H) := by
    obtain ⟨mc, l1, l2⟩ := hL
    exact ⟨K1, ns1 hG, ⟨mb, ns1 hB, hBB⟩, ⟨mc, ns1 l1, l2⟩⟩
  have T1 : ∀ p ∈ cs, LamX.TabB (hidT s1.heap H) mg p.1 p.2 := fun p hp => by
    have tp := hT p hp
    have offG : mainGlobals ≠ p.2 := fun z => by
      obtain ⟨o, es, ep, e, d, _⟩ := hG
      rw [z] at e
      have := (dictN d).2
      exact this (Option.some.inj (e.symm.trans tp))
    obtain ⟨co, us, fi, tf, fl, tg, iF, tx, tt, g1, r1, r2, r3, r4⟩ := hC p hp
    obtain ⟨bm, ob, b1, b2, b3, b4, b5, b6⟩ := hbm
    refine ⟨⟨co, us, fi, tf, fl, tg, iF, tx, tt, get1 g1 (fun z => ?_) (fun z => ?_), r1, r2, r3, r4⟩, ⟨bm, ob, b1, b2, fun z => ?_, fun z => ?_, get1 b3 (fun z => ?_) (fun z => ?_), b4, b5, b6⟩, offG⟩
    · rw [z] at r2; cases r2
    · rw [z] at r2; cases r2; simp at r3
    · obtain ⟨o, es, ep, e, d, _⟩ := hG
      rw [z] at b3
      rw [Option.some.inj (e.symm.trans b3), b6] at d
      cases d
    · rw [z] at b3
      rw [Option.some.inj (b3.symm.trans tp)] at b6
      cases b6
    · rw [z] at b6; cases b6
    · rw [z] at b6; cases b6
  have ok1 : HOk P w H s1.heap := fun b u q => by
    rw [eH] at q
    rcases hp0_inv q with ⟨m, rfl⟩ | ⟨rfl, _, rfl⟩
    · exact hT' b m
    · exact ⟨ha, by rw [List.length_map]; exact hl, vs, _, rv, ha⟩
  have E1 : Env0 P w K mg (hidT s1.heap H) callerA [] s1 H :=
    { frames := rfl, mod := M1, bs := fun b o e => of_hidT e, bsz := Nat.le_of_eq (hidT_size _ _), funs := trivial, frf := fun b hb => absurd (show b ∈ ([] : List Addr) from hb) (by simp), hok := ok1, bare := .of_eq hgn }
  have S1 : FzL K H a (ns.map V.int) := by
    cases q : K.lookup a with
    | none => exact .inl ⟨scrO vs, by rw [eH]; unfold Hp0; rw [if_neg aN, if_pos rfl, q]⟩
    | some o =>
      have eo := Option.some.inj ((inK a o q).symm.trans ha)
      subst eo
      exact .inr ⟨_, vs.toArray, _, q, rfl, rfl, rfl, by rw [List.size_toArray, lv]; exact hl, by simpa using rv⟩
  have tb1 : ∀ p ∈ cs, H p.2 = some (.tbl #[]) := fun p hp => by rw [eH]; exact hp0_tab (inT p hp)
  have run := (F _ K1 (ns1 hG) T1).run callerA [] s1 H ⟨[.ref a], []⟩ [.ref a] [.ref a] _ _ hr rfl E1 (hbd s1 (.ref a)) (.cons rfl .nil) (hsp H tb1 S1)
  refine codeAny_mono run fun r s2 h => ?_
  rcases r with e | fl
  · obtain ⟨_, _, _, _, _, _, _, _, _, _, _, _, ⟨⟩⟩ := h
  cases fl with
  | next => exact False.elim h
  | brk => exact False.elim h
  | cont => exact False.elim h
  | ret u =>
    obtain ⟨v, H2, os2, bare2, un, ok2, r2, rfl⟩ := h
    obtain rfl : u = Value.bool true := r2
    have kept : ∀ b o, b ∉ ts → s1.heap.get? b = some o → s2.heap.get? b = some o := fun b o nb e => by
      cases q : H b with
      | none => exact un.keep b o e q (fun z => nomatch (show b ∈ ([] : List Addr) from z)) (by simp)
      | some t =>
        have q' := q
        rw [eH] at q'
        rcases hp0_inv q' with ⟨m, _⟩ | ⟨rfl, _, rfl⟩
        · exact absurd m nb
        · have e2 := (ok2 b _ (un.frzs b _ _ q)).1
          rw [ha] at e
          cases e
          exact e2
    have more : ∀ p ∈ cs, ∃ m : Array Value, s2.heap.get? p.2 = some { cls := .none, data := .fields m } := fun p hp => by
      obtain ⟨m, q⟩ := un.tbls p.2 #[] (tb1 p hp)
      exact ⟨_, ok2 p.2 _ q⟩
    refine ⟨rfl, ⟨fun b o e => ?_, fun b o e => ?_⟩, os2, bare2⟩
    · by_cases hb : b ∈ ts
      · rw [ets] at hb
        obtain ⟨p, hp, rfl⟩ := List.mem_map.mp hb
        obtain ⟨m, hm⟩ := more p hp
        rw [hT p hp] at e
        cases e
        refine .inr (.inl ⟨((hC p hp).tab (hT p hp)).isCodeTable, rfl, #[], m, rfl, ?_⟩)
        rw [Array.empty_append]
        exact hm
      · exact .inl (kept b o hb e)
    · by_cases hb : b ∈ ts
      · rw [ets] at hb
        obtain ⟨p, hp, rfl⟩ := List.mem_map.mp hb
        exact ⟨_, (more p hp).choose_spec⟩
      · exact ⟨o, kept b o hb e⟩
end
end DL
end
section
set_option Elab.async false
set_option linter.all false
set_option maxRecDepth 100000
set_option maxHeartbeats 4000000
/-! D layer, 36: a whole text. -/
namespace DL
open PySem PySem.Spec PyProof.Rows L2
/-- a def of the text, its slots, its IR -/
structure Dfd where
  d : He.DefD
  N : List Str
  fn : Fnc
  lam : Bool := false
def Dfd.tx (Z : Dfd) (T : Txi) : Txi := if Z.lam then T else { T with lam := none }
def Dfd.ps (Z : Dfd) : List Str := Z.d.params.args.map (·.arg)
def plainArgs : Arguments → Bool
  | ⟨[], _, none, [], [], none, []⟩ => true
  | _ => false
theorem plainArgs_ok {p : Arguments} (h : plainArgs p = true) : p = ⟨[], p.args, none, [], [], none, []⟩ := by
  unfold plainArgs at h
  split at h
  · rfl
  · cases h
def FUEL : Nat := 400
def scopeOk (N ps : List Str) (sc : Scope) : Bool := decide (sc.kind = .function) && !sc.isCoroutine && !sc.isGenerator && decide N.Nodup && decide (N.take ps.length = ps) &&
  ps.all (fun x => (match sc.names.lookup x with | some .local => true | some .cell => true | _ => false)) && sc.names.all (fun y => !(y.2 == .free))
theorem scopeOk_ok {N ps : List Str} {sc : Scope} (h : scopeOk N ps sc = true) : FnScope N ps sc := by
  unfold scopeOk at h
  obtain ⟨h, h7⟩ := and2 h
  obtain ⟨h, h6⟩ := and2 h
  obtain ⟨h, h5⟩ := and2 h
  obtain ⟨h, h4⟩ := and2 h
  obtain ⟨h, h3⟩ := and2 h
  obtain ⟨h1, h2⟩ := and2 h
  refine ⟨of_d h1, of_n h2, of_n h3, of_d h4, of_d h5, fun x hx => ?_, fun y hy z => ?_⟩
  · have := List.all_eq_true.mp h6 x hx
    split at this
    · exact .inl (by assumption)
    · exact .inr (by assumption)
    · cases this
  · have := List.all_eq_true.mp h7 y hy
    rw [z] at this
    cases this
def dfOk (T : Txi) (Z : Dfd) : Bool := plainArgs Z.d.params && Z.d.dfl.isEmpty && Z.d.kwd.isEmpty && scopeOk Z.N Z.ps Z.d.scope && decide (Z.N.length = Z.fn.nl) && decide (Z.fn.np ≤ Z.fn.nl) && decide (Z.ps.length = Z.fn.np) && decide Z.ps.Nodup && kSs (Z.tx T) FUEL ⟨Z.N, Z.d.scope.names⟩ Z.d.body Z.fn.body
/-- what the text's names stand for: what does not hang on the level -/
structure Facts (T : Txi) (K : PySem.W.Frag) (mg : Str → Option Value) (sub : Bool → Str → Str → Option Bool) : Prop where
  gint : ∀ x n, T.gint.lookup x = some n → ∃ t, mg x = some (.int n t)
  blt : ∀ x, T.blts.contains x = true → mg x = none
  fld : ∀ c f, (c, f) ∈ T.flds → ClsF K mg c f
  err : ∀ x, x ∈ T.errs → ErrC K mg x
  own : ∀ x, x ∈ T.isis → IsOwn K mg sub x
  ier : ∀ x, x ∈ T.iser → IsErr K mg sub x
  ko : KindC K mg sub
  cat : ∀ x xc, T.lam = some (x, xc) → CatchAt K mg sub x xc
section
variable {P : Program} {w : World} {K : PySem.W.Frag} {mg : Str → Option Value} {base : Heap} {Tb : List (Addr × Str)} {T : Txi} {GamZ : Txt}
def lamName (q : Str) : Str := (envOfC q ⟨.function, [], false, false, []⟩ 0 0 .none).qual ++ "<lambda>"
/-- the code object of a def, its table of lambdas -/
def LamTab (mg : Str → Option Value) (base : Heap) (Tb : List (Addr × Str)) (Z : Dfd) (fd : FuncData) : Prop := Z.lam = true → ∃ c P, fd.code = .ref c ∧ LamX.TabB base mg c P ∧ (P, lamName Z.d.qual) ∈ Tb ∧ ∀ p ∈ Tb, p.1 = P → p.2 = lamName Z.d.qual
/-- the defs at a level -/
structure AtLv (P : Program) (w : World) (K : PySem.W.Frag) (mg : Str → Option Value) (base : Heap) (Tb : List (Addr × Str)) (T : Txi) (k : Nat) (call : Str → List D → FR) : Prop where
  defs : ∀ x n b, T.defs.lookup x = some (n, b) → DefAt ⟨P, w, K, mg, base, Tb⟩ k x n b (call x)
  kws : ∀ x ks π, (x, ks, π) ∈ T.kws → DefAtK ⟨P, w, K, mg, base, Tb⟩ k x ks π (call x)
  cls : ∀ x n, T.cls.lookup x = some n → ClsAt ⟨P, w, K, mg, base, Tb⟩ k x n (call x)
  clk : ∀ x ks π, (x, ks, π) ∈ T.clk → ClsAtK ⟨P, w, K, mg, base, Tb⟩ k x ks π (call x)
theorem DefAt.mono {G : Gnd} {j k : Nat} {x : Str} {n : Nat} {b : Bool} {g : List D → FR} (h : DefAt G j x n b g) (l : j ≤ k) : DefAt G k x n b g := by
  obtain ⟨f, fd, ps, h1, h2, h3, h4, h5⟩ := h.ex
  exact ⟨⟨f, fd, ps, h1, h2, h3, h4, h5.mono l⟩⟩
theorem DefAtK.mono {G : Gnd} {j k : Nat} {x : Str} {ks : List Str} {π : List Nat} {g : List D → FR} (h : DefAtK G j x ks π g) (l : j ≤ k) : DefAtK G k x ks π g := by
  obtain ⟨f, fd, ps, h1, h2, h3, h5⟩ := h.ex
  exact ⟨⟨f, fd, ps, h1, h2, h3, h5.mono l⟩⟩
theorem dfd_binds {Z : Dfd} {f : Addr} {fd : FuncData} (F : FunD K Z.d.name Z.d.qual Z.d.params Z.d.body Z.d.scope [] [] f fd) (h : dfOk T Z = true) : Binds K fd Z.ps [] ∧ Z.ps.length = Z.fn.np := by
  unfold dfOk at h
  obtain ⟨h, h9⟩ := and2 h
  obtain ⟨h, h8⟩ := and2 h
  obtain ⟨h, h7⟩ := and2 h
  obtain ⟨h, h6⟩ := and2 h
  obtain ⟨h, h5⟩ := and2 h
  obtain ⟨h, h4⟩ := and2 h
  obtain ⟨h, h3⟩ := and2 h
  obtain ⟨h1, h2⟩ := and2 h
  have pa := plainArgs_ok h1
  refine ⟨F.bindsN fun kV doc pm an cdv ct us hl => ?_, of_d h7⟩
  have := bind_plain (x := Z.d.name) (qual := Z.d.qual) (body := Z.d.body) (scope := Z.d.scope) (kV := kV) (doc := doc) (pm := pm) (an := an) (cdv := cdv) (ct := ct) (as := Z.d.params.args) (us := us) (of_d h8) hl
  rw [← pa] at this
  exact this
/-- a def's body, looked at -/
theorem dfd_fng {Z : Dfd} {k : Nat} {f : Addr} {fd : FuncData} {call : Str → List D → FR} (F : FunD K Z.d.name Z.d.qual Z.d.params Z.d.body Z.d.scope [] [] f fd) (Fx : Facts T K mg GamZ.sub) (L : AtLv P w K mg base Tb T k call) (lt : LamTab mg base Tb Z fd) (h : dfOk T Z = true) :
    Binds K fd Z.ps [] ∧ Z.ps.length = Z.fn.np ∧ FnG P w K mg base (k + 4) f fd Z.ps (spD K mg Tb Z.fn.np Z.fn.io (runF ⟨call, GamZ.sub⟩ Z.fn)) := by
  have h0 := h
  unfold dfOk at h
  obtain ⟨h, h9⟩ := and2 h
  obtain ⟨h, h8⟩ := and2 h
  obtain ⟨h, h7⟩ := and2 h
  obtain ⟨h, h6⟩ := and2 h
  obtain ⟨h, h5⟩ := and2 h
  obtain ⟨h, h4⟩ := and2 h
  obtain ⟨h, h3⟩ := and2 h
  obtain ⟨h1, h2⟩ := and2 h
  have S := scopeOk_ok h4
  refine ⟨(dfd_binds F h0).1, of_d h7, ?_⟩
  obtain ⟨oc, od, dV, kV, doc, pm, an, cdv, ct, osl, rfl, lk, hcd, _, _⟩ := F.ex
  refine fng_body (k := k + 3) lk hcd S (of_d h5) (of_d h6) (of_d h7) fun A outer s H E v0 B => ?_
  have tx : TxOk (Z.tx T) ⟨⟨if Z.fn.io then [(0, v0)] else [], Tb⟩, ⟨call, GamZ.sub⟩⟩ (bodyCx P w K mg base Z.N Z.d.qual Z.d.scope f cdv A outer s H E) k := by
    have T0 : ∀ T' : Txi, (T' = T ∧ Z.lam = true ∨ T' = { T with lam := none }) → TxOk T' ⟨⟨if Z.fn.io then [(0, v0)] else [], Tb⟩, ⟨call, GamZ.sub⟩⟩ (bodyCx P w K mg base Z.N Z.d.qual Z.d.scope f cdv A outer s H E) k := by
      intro T' hT
      have xk : Xk (bodyCx P w K mg base Z.N Z.d.qual Z.d.scope f cdv A outer s H E) (k + 1) := ⟨B.xo, B.rm.mono (by omega), B.gd⟩
      rcases hT with ⟨rfl, hl⟩ | rfl
      · refine ⟨xk, Fx.gint, Fx.blt, fun x n b q => (L.defs x n b q).mono (Nat.le_succ k), fun x ks π q => (L.kws x ks π q).mono (Nat.le_succ k), L.cls, L.clk, Fx.fld, Fx.err, Fx.own, Fx.ier, Fx.ko, fun x xc q => ⟨Fx.cat x xc q, ?_⟩⟩
        obtain ⟨c, P', e1, e2, e3, e4⟩ := lt hl
        have hq : (bodyCx P w K mg base Z.N Z.d.qual Z.d.scope f cdv A outer s H E).env.qual ++ "<lambda>" = lamName Z.d.qual := rfl
        have hc : (bodyCx P w K mg base Z.N Z.d.qual Z.d.scope f cdv A outer s H E).env.code = cdv := rfl
        refine ⟨⟨c, P', hc.trans e1, e2, ?_, ?_, B.rm, B.gd⟩⟩
        · rw [hq]; exact e3
        · rw [hq]; exact e4
      · exact ⟨xk, Fx.gint, Fx.blt, fun x n b q => (L.defs x n b q).mono (Nat.le_succ k), fun x ks π q => (L.kws x ks π q).mono (Nat.le_succ k), L.cls, L.clk, Fx.fld, Fx.err, Fx.own, Fx.ier, Fx.ko, fun x xc q => by cases q⟩
    unfold Dfd.tx
    split
    · exact T0 _ (.inl ⟨rfl, by assumption⟩)
    · exact T0 _ (.inr rfl)
  exact (sok FUEL).ss tx ⟨ScOk.body S, rfl, B.ps⟩ h9
theorem fng_bad {k np : Nat} {io : Bool} {f : Addr} {fd : FuncData} {ps : List Str} (hl : ps.length = np) : FnG P w K mg base k f fd ps (spD K mg Tb np io fun _ => .bad) where
  len := fun vs H Q E h => by obtain ⟨_, _, _, h1, _⟩ := h; rw [h1, hl]
  run := fun A outer s H args us vs Q E _ _ _ _ _ h => by obtain ⟨_, _, _, _, h1, _⟩ := h; exact absurd rfl h1
/-- where the defs stand -/
structure Stand (K : PySem.W.Frag) (mg : Str → Option Value) (base : Heap) (Tb : List (Addr × Str)) (T : Txi) (GamZ : Txt) : Prop where
  defs : ∀ x n b, T.defs.lookup x = some (n, b) → ∃ (Z : Dfd) (f : Addr) (fd : FuncData), GamZ.fn x = some Z.fn ∧ dfOk T Z = true ∧ Z.fn.np = n ∧ Z.fn.io = b ∧ mg x = some (.ref f) ∧ FunD K Z.d.name Z.d.qual Z.d.params Z.d.body Z.d.scope [] [] f fd ∧ LamTab mg base Tb Z fd
  kws : ∀ x ks π, (x, ks, π) ∈ T.kws → ∃ (Z : Dfd) (f : Addr) (fd : FuncData), GamZ.fn x = some Z.fn ∧ dfOk T Z = true ∧ Z.fn.np = π.length ∧ Z.fn.io = false ∧ mg x = some (.ref f) ∧ FunD K Z.d.name Z.d.qual Z.d.params Z.d.body Z.d.scope [] [] f fd ∧ LamTab mg base Tb Z fd ∧ Bd K fd Z.ps ks 0 (fun _ ws => permD .none π ws)
  cls : ∀ x n, T.cls.lookup x = some n → ∃ (Z : Dfd) (Ca f : Addr) (fd : FuncData), GamZ.fn x = some Z.fn ∧ dfOk T Z = true ∧ Z.fn.np = n + 1 ∧ Z.fn.io = true ∧ mg x = some (.ref Ca) ∧ Mk K Ca f ∧ FunD K Z.d.name Z.d.qual Z.d.params Z.d.body Z.d.scope [] [] f fd ∧ LamTab mg base Tb Z fd
  clk : ∀ x ks π, (x, ks, π) ∈ T.clk → ∃ (Z : Dfd) (Ca f : Addr) (fd : FuncData), GamZ.fn x = some Z.fn ∧ dfOk T Z = true ∧ Z.fn.np = π.length + 1 ∧ Z.fn.io = true ∧ mg x = some (.ref Ca) ∧ Mk K Ca f ∧ FunD K Z.d.name Z.d.qual Z.d.params Z.d.body Z.d.scope [] [] f fd ∧ LamTab mg base Tb Z fd ∧ Bd K fd Z.ps ks 1 (fun us ws => us ++ permD .none π ws)
theorem callF_succ {n : Nat} {x : Str} {fn : Fnc} (h : GamZ.fn x = some fn) : callF GamZ (n + 1) x = runF ⟨callF GamZ n, GamZ.sub⟩ fn := by
  funext ds
  rw [callF, h]
theorem callF_zero {x : Str} : callF GamZ 0 x = fun _ => .bad := by
  funext ds
  rw [callF]
/-- THE WHOLE TEXT: each def computes what its IR does -/
theorem all_at (Fx : Facts T K mg GamZ.sub) (St : Stand K mg base Tb T GamZ) : ∀ n : Nat, AtLv P w K mg base Tb T (4 * n) (callF GamZ n)
  | 0 => by
    refine ⟨fun x n b q => ?_, fun x ks π q => ?_, fun x n q => ?_, fun x ks π q => ?_⟩
    all_goals rw [callF_zero]
    · obtain ⟨Z, f, fd, g1, g2, rfl, rfl, g5, g6, gl⟩ := St.defs x n b q
      obtain ⟨b1, b2⟩ := dfd_binds g6 g2
      exact ⟨⟨f, fd, Z.ps, g5, g6.kp, b2, b1, fng_bad b2⟩⟩
    · obtain ⟨Z, f, fd, g1, g2, g3, g4, g5, g6, gl, g7⟩ := St.kws x ks π q
      obtain ⟨b1, b2⟩ := dfd_binds g6 g2
      exact ⟨⟨f, fd, Z.ps, g5, g6.kp, g7, fng_bad (b2.trans g3)⟩⟩
    · obtain ⟨Z, Ca, f, fd, g1, g2, g3, g4, g5, g6, g7, gl⟩ := St.cls x n q
      obtain ⟨b1, b2⟩ := dfd_binds g7 g2
      exact ⟨⟨Ca, f, fd, Z.ps, g5, g6, b2.trans g3, b1, fng_bad (b2.trans g3)⟩⟩
    · obtain ⟨Z, Ca, f, fd, g1, g2, g3, g4, g5, g6, g7, gl, g8⟩ := St.clk x ks π q
      obtain ⟨b1, b2⟩ := dfd_binds g7 g2
      exact ⟨⟨Ca, f, fd, Z.ps, g5, g6, g8, fng_bad (b2.trans g3)⟩⟩
  | n + 1 => by
    have ih := all_at Fx St n
    refine ⟨fun x m b q => ?_, fun x ks π q => ?_, fun x m q => ?_, fun x ks π q => ?_⟩
    · obtain ⟨Z, f, fd, g1, g2, rfl, rfl, g5, g6, gl⟩ := St.defs x m b q
      obtain ⟨b1, b2, b3⟩ := dfd_fng (P := P) (w := w) (base := base) (Tb := Tb) (GamZ := GamZ) g6 Fx ih gl g2
      rw [callF_succ g1]
      exact ⟨⟨f, fd, Z.ps, g5, g6.kp, b2, b1, b3⟩⟩
    · obtain ⟨Z, f, fd, g1, g2, g3, g4, g5, g6, gl, g7⟩ := St.kws x ks π q
      obtain ⟨b1, b2, b3⟩ := dfd_fng (P := P) (w := w) (base := base) (Tb := Tb) (GamZ := GamZ) g6 Fx ih gl g2
      rw [callF_succ g1]
      rw [g3, g4] at b3
      exact ⟨⟨f, fd, Z.ps, g5, g6.kp, g7, b3⟩⟩
    · obtain ⟨Z, Ca, f, fd, g1, g2, g3, g4, g5, g6, g7, gl⟩ := St.cls x m q
      obtain ⟨b1, b2, b3⟩ := dfd_fng (P := P) (w := w) (base := base) (Tb := Tb) (GamZ := GamZ) g7 Fx ih gl g2
      rw [callF_succ g1]
      rw [g3, g4] at b3
      exact ⟨⟨Ca, f, fd, Z.ps, g5, g6, b2.trans g3, b1, b3⟩⟩
    · obtain ⟨Z, Ca, f, fd, g1, g2, g3, g4, g5, g6, g7, gl, g8⟩ := St.clk x ks π q
      obtain ⟨b1, b2, b3⟩ := dfd_fng (P := P) (w := w) (base := base) (Tb := Tb) (GamZ := GamZ) g7 Fx ih gl g2
      rw [callF_succ g1]
      rw [g3, g4] at b3
      exact ⟨⟨Ca, f, fd, Z.ps, g5, g6, g8, b3⟩⟩
end
end DL
end
section
set_option Elab.async false
set_option linter.all false
set_option maxRecDepth 100000
set_option maxHeartbeats 4000000
/-! D layer, 38: from the head's facts to the law. -/
namespace DL
open PySem PySem.Spec PyProof.Rows L2
/-- the j-th statement of a class's body -/
def clsS (s : Stmt) (j : Nat) : Stmt := match s with
  | .ClassDef _ _ _ b _ _ _ _ _ _ _ => b.getD j (.Pass ⟨0, 0, 0, 0⟩)
  | s => s
abbrev SubL := List ((Bool × Str × Str) × Bool)
/-- all of a text -/
structure Tex where
  T : Txi
  subL : SubL
  DelZ : List (Str × Dfd)
  cat : List He.DefD
namespace Tex
variable (Z : Tex)
def GamZ : Txt := ⟨fun x => (Z.DelZ.lookup x).map (·.fn), fun q y x => Z.subL.lookup (q, y, x)⟩
def lamNames : List Str := match Z.T.lam with
  | some (x, xc) => [x, xc]
  | none => []
/-- the names that stand for objects -/
def glos : List Str := Z.T.defs.map (·.1) ++ (Z.T.kws.map (·.1) ++ (Z.T.cls.map (·.1) ++ (Z.T.clk.map (·.1) ++ (Z.T.flds.map (·.1) ++ (Z.T.errs ++ (Z.T.isis ++ (Z.subL.map (·.1.2.1) ++ Z.lamNames)))))))
def fa : List He.Fa := Z.glos.map .glo ++ (Z.T.gint.map (fun p => .int p.1 p.2) ++ (Z.T.blts.map .free ++ (Z.T.cls.map (fun p => .mkr p.1) ++ (Z.T.clk.map (fun p => .mkr p.1) ++ (Z.T.flds.map (fun p => .cls p.1) ++ (Z.T.flds.map (fun p => .noat p.1 p.2) ++ Z.T.errs.map .exc))))))
def fns : List He.DefD := Z.DelZ.map (·.2.d) ++ Z.cat
def lamD : List Dfd := (Z.DelZ.map (·.2)).filter (·.lam)
def tf : List He.Defn := Z.lamD.map (·.d.at_)
def tyL : List String := ["NoneType", "bool", "int", "str", "tuple", "list", "dict"]
end Tex
section
variable (K : PySem.W.Frag)
def cls4B (y : Str) : Bool := He.eqO (PySem.W.findIn K (.ref (He.ga K y)) "__class__") (some (some (.builtin "object.__class__"))) && He.eqO (PySem.W.specialIn K (.builtin "object.__class__") "__get__") (some (some (.builtin "getset_descriptor.__get__"))) &&
  decide (PySem.W.takesIn K (.builtin "object.__class__") = some true) && decide (PySem.W.mroIn K (He.ga K y) (.type "object") = some true)
def insB (y : Str) : Bool := (He.Fa.cls y).ok K && cls4B K y
def excB (y : Str) : Bool := He.eqO (PySem.W.findIn K (.ref (He.ga K y)) "__getattribute__") (some (some (.builtin "BaseException.__getattribute__"))) && He.eqO (PySem.W.findIn K (.ref (He.ga K y)) "__getattr__") (some none) &&
  decide (PySem.W.subIn K (.ref (He.ga K y)) (.type "BaseException") = some true) && PySem.W.hasDictIn K (He.ga K y) && cls4B K y
def ownB (L : SubL) (x : Str) : Bool := Tex.tyL.all (fun t => decide (PySem.W.kitOne K (.type t) (.ref (He.ga K x)) = some false)) && L.all fun p => !(p.1.2.2 == x) || decide (PySem.W.kitOne K (.ref (He.ga K p.1.2.1)) (.ref (He.ga K x)) = some p.2)
def ierB (L : SubL) (x : String) : Bool := Tex.tyL.all (fun t => decide (kitB t x = some false)) && L.all fun p => !(p.1.1 && p.1.2.2 == Str.ofString x) || decide (PySem.W.kitOne K (.ref (He.ga K p.1.2.1)) (.type x) = some p.2)
def exmB (L : SubL) (xc : Str) : Bool := L.all fun p => !(p.1.1 && p.1.2.2 == xc) || decide (PySem.W.exmOne K (.ref (He.ga K p.1.2.1)) (.ref (He.ga K xc)) = some p.2)
end
def Tex.ex (Z : Tex) (K : PySem.W.Frag) : Bool := Z.subL.all (fun p => if p.1.1 then excB K p.1.2.1 else insB K p.1.2.1) && Z.T.isis.all (ownB K Z.subL) && Z.T.iser.all (ierB K Z.subL) &&
  (match Z.T.lam with | some (_, xc) => exmB K Z.subL xc | none => true) && decide ((Z.tf.map fun p => (He.cT K p).2).Nodup)
/-- the body of the def that catches -/
def isKeep : List Stmt → Option (Str × Str × Str × Str)
  | [.Assign [.Name c _] (.Constant .none _ _) _, .Try [.Expr (.Call (.Name w _) [] [] _) _] [.ExceptHandler (some (.Name x _)) (some e) [.Assign [.Name c2 _] (.Name e2 _) _] _] [] [] _, .Return (some (.Name c3 _)) _] =>
    if c = c2 ∧ c = c3 ∧ e = e2 then some (c, w, e, x) else none
  | _ => none
def catOk (T : Txi) (d : He.DefD) : Bool := match T.lam, isKeep d.body with
  | some (x, xc), some (c, w, e, y) => decide (d.at_ = (x, none)) && decide (d.name = x) && decide (d.qual = x) && d.dfl.isEmpty && d.kwd.isEmpty && decide (y = xc) && plainArgs d.params && decide (d.params.args.map (·.arg) = [w]) && scopeOk [w, c, e] [w] d.scope &&
    decide (d.scope.names.lookup w = some .local) && decide (d.scope.names.lookup c = some .local) && decide (d.scope.names.lookup e = some .local) && decide (d.scope.names.lookup xc = some .globalImplicit) && okN w && okN c && okN e && okN xc
  | _, _ => false
def defOk (Z : Tex) (at_ : Str × Option Str) (x : Str) (np : Nat) (io : Bool) : Bool := match Z.DelZ.lookup x with
  | some D => decide (D.d.at_ = at_) && decide (D.fn.np = np) && D.fn.io == io && dfOk Z.T D
  | none => false
def Tex.ok (Z : Tex) : Bool := Z.T.defs.all (fun p => defOk Z (p.1, none) p.1 p.2.1 p.2.2) && Z.T.kws.all (fun p => defOk Z (p.1, none) p.1 p.2.2.length false) && Z.T.cls.all (fun p => defOk Z (p.1, some "__init__") p.1 (p.2 + 1) true) &&
  Z.T.clk.all (fun p => defOk Z (p.1, some "__init__") p.1 (p.2.2.length + 1) true) && (Z.T.lam.isNone || Z.cat.all (catOk Z.T) && Z.cat.length == 1)
/-- how calls by names bind -/
structure KwOk (Z : Tex) : Prop where
  kws : ∀ x ks π, (x, ks, π) ∈ Z.T.kws → ∀ D, Z.DelZ.lookup x = some D → ∀ (kV doc pm : Value) (an : Option Addr) (cdv ct : Value) (us ws : List Value), us.length = 0 → ws.length = ks.length →
    bindArgs (PySem.W.fnOf D.d.name D.d.qual D.d.params D.d.body D.d.scope .none kV doc pm an cdv ct) ⟨us, ks.zip ws⟩ = pure (D.ps.zip (permD .none π ws))
  clk : ∀ x ks π, (x, ks, π) ∈ Z.T.clk → ∀ D, Z.DelZ.lookup x = some D → ∀ (kV doc pm : Value) (an : Option Addr) (cdv ct : Value) (us ws : List Value), us.length = 1 → ws.length = ks.length →
    bindArgs (PySem.W.fnOf D.d.name D.d.qual D.d.params D.d.body D.d.scope .none kV doc pm an cdv ct) ⟨us, ks.zip ws⟩ = pure (D.ps.zip (us ++ permD .none π ws))
theorem look_mem {α β : Type} [BEq α] [LawfulBEq α] {a : α} {b : β} : ∀ {l : List (α × β)}, l.lookup a = some b → (a, b) ∈ l
  | [], h => by cases h
  | (c, d) :: r, h => by
    rw [List.lookup_cons] at h
    split at h
    · rename_i e
      cases h
      have := eq_of_beq e
      subst this
      exact List.mem_cons_self
    · exact List.mem_cons_of_mem _ (look_mem h)
section
variable {Z : Tex} {K : PySem.W.Frag} {h : Heap} {mg : Str → Option Value} {w : World}
theorem fact_in (c : He.SaysX Z.fa Z.fns [] Z.tf Z.ex w h K) {f : He.Fa} (hf : f ∈ Z.fa) : f.ok K = true := by
  have c1 : He.obsT Z.fa Z.fns [] K = He.valT Z.fns [] w := c.t
  have c2 : He.SaysD Z.fa Z.fns K := congrArg (fun z : He.AlT => z.1) c1
  exact c2.facts hf
theorem def_in (c : He.SaysX Z.fa Z.fns [] Z.tf Z.ex w h K) {d : He.DefD} (hd : d ∈ Z.fns) : ∃ fd, FunD K d.name d.qual d.params d.body d.scope (d.dvs K) (d.kws K) (He.fAd K d.at_) fd := by
  have c1 : He.obsT Z.fa Z.fns [] K = He.valT Z.fns [] w := c.t
  have c2 : He.SaysD Z.fa Z.fns K := congrArg (fun z : He.AlT => z.1) c1
  exact c2.defs hd
theorem glo_in (X : K.In h) (G : h.Ns mainGlobals mg) (c : He.SaysX Z.fa Z.fns [] Z.tf Z.ex w h K) {x : Str} (hx : x ∈ Z.glos) : mg x = some (.ref (He.ga K x)) := He.glo_ok X G (fact_in c (List.mem_append_left _ (List.mem_map.mpr ⟨x, hx, rfl⟩)))
theorem cls4_ok {y : Str} (e : cls4B K y = true) : PySem.W.findIn K (.ref (He.ga K y)) "__class__" = some (some (.builtin "object.__class__")) ∧ PySem.W.specialIn K (.builtin "object.__class__") "__get__" = some (some (.builtin "getset_descriptor.__get__")) ∧
    PySem.W.takesIn K (.builtin "object.__class__") = some true ∧ PySem.W.mroIn K (He.ga K y) (.type "object") = some true := by
  unfold cls4B at e
  obtain ⟨e, e4⟩ := and2 e
  obtain ⟨e, e3⟩ := and2 e
  obtain ⟨e1, e2⟩ := and2 e
  exact ⟨He.eqO_ok e1, He.eqO_ok e2, of_d e3, of_d e4⟩
theorem facts_of (X : K.In h) (G : h.Ns mainGlobals mg) (c : He.SaysX Z.fa Z.fns [] Z.tf Z.ex w h K) (hok : Z.ok = true) : Facts Z.T K mg Z.GamZ.sub := by
  have hx := c.more
  unfold Tex.ex at hx
  obtain ⟨hx, x5⟩ := and2 hx
  obtain ⟨hx, x4⟩ := and2 hx
  obtain ⟨hx, x3⟩ := and2 hx
  obtain ⟨x1, x2⟩ := and2 hx
  have sG : ∀ p ∈ Z.subL, mg p.1.2.1 = some (.ref (He.ga K p.1.2.1)) := fun p hp => glo_in X G c (by
    unfold Tex.glos
    simp only [List.mem_append, List.mem_map]
    exact .inr (.inr (.inr (.inr (.inr (.inr (.inr (.inl ⟨p, hp, rfl⟩))))))))
  refine ⟨fun x n q => ?_, fun x q => ?_, fun cn f q D hD => ?_, fun x q => ?_, fun x q => ?_, fun x q => ?_, ⟨fun y x C q hC => ?_, fun y x C q hC => ?_⟩, fun x xc q => ?_⟩
  · exact He.int_ok X G (fact_in c (by
      unfold Tex.fa
      simp only [List.mem_append, List.mem_map]
      exact .inr (.inl ⟨_, look_mem q, rfl⟩)))
  · exact He.free_ok X G (fact_in c (by
      unfold Tex.fa
      simp only [List.mem_append, List.mem_map]
      exact .inr (.inr (.inl ⟨x, by simpa using q, rfl⟩))))
  · have e := glo_in (x := cn) X G c (by
      unfold Tex.glos
      simp only [List.mem_append, List.mem_map]
      exact .inr (.inr (.inr (.inr (.inl ⟨_, q, rfl⟩)))))
    rw [hD] at e
    cases e
    exact ⟨He.cls_ok (fact_in c (by
      unfold Tex.fa
      simp only [List.mem_append, List.mem_map]
      exact .inr (.inr (.inr (.inr (.inr (.inl ⟨_, q, rfl⟩))))))), He.noat_ok (fact_in c (by
      unfold Tex.fa
      simp only [List.mem_append, List.mem_map]
      exact .inr (.inr (.inr (.inr (.inr (.inr (.inl ⟨_, q, rfl⟩))))))))⟩
  · have e := glo_in (x := x) X G c (by
      unfold Tex.glos
      simp only [List.mem_append, List.mem_map]
      exact .inr (.inr (.inr (.inr (.inr (.inl q))))))
    obtain ⟨e1, e2, e3, e4⟩ := He.exc_ok (fact_in c (f := .exc x) (by
      unfold Tex.fa
      simp only [List.mem_append, List.mem_map]
      exact .inr (.inr (.inr (.inr (.inr (.inr (.inr ⟨_, q, rfl⟩))))))))
    exact ⟨⟨_, e, e1, e2, e3, e4⟩⟩
  · have e := glo_in (x := x) X G c (by
      unfold Tex.glos
      simp only [List.mem_append, List.mem_map]
      exact .inr (.inr (.inr (.inr (.inr (.inr (.inl q)))))))
    have o := List.all_eq_true.mp x2 x q
    unfold ownB at o
    obtain ⟨o1, o2⟩ := and2 o
    refine ⟨⟨_, e, fun t ht => of_d (List.all_eq_true.mp o1 t ht), fun q' y b Cy hs hy => ?_⟩⟩
    have hm := look_mem hs
    have o3 := List.all_eq_true.mp o2 _ hm
    rw [sG _ hm] at hy
    cases hy
    simp only [beq_self_eq_true, Bool.not_true, Bool.false_or, decide_eq_true_eq] at o3
    exact o3
  · have o := List.all_eq_true.mp x3 x q
    unfold ierB at o
    obtain ⟨o1, o2⟩ := and2 o
    refine ⟨fun t ht => of_d (List.all_eq_true.mp o1 t ht), fun y b Cy hs hy => ?_⟩
    have hm := look_mem hs
    have o3 := List.all_eq_true.mp o2 _ hm
    rw [sG _ hm] at hy
    cases hy
    simp only [beq_self_eq_true, Bool.and_self, Bool.not_true, Bool.false_or, decide_eq_true_eq] at o3
    exact o3
  · obtain ⟨b, hb⟩ := Option.isSome_iff_exists.mp q
    have hm := look_mem hb
    have o := List.all_eq_true.mp x1 _ hm
    rw [sG _ hm] at hC
    cases hC
    have o : insB K y = true := by simpa using o
    unfold insB at o
    obtain ⟨o1, o2⟩ := and2 o
    obtain ⟨r1, r2, r3, r4⟩ := cls4_ok o2
    exact ⟨He.cls_ok o1, r1, r2, r3, r4⟩
  · obtain ⟨b, hb⟩ := Option.isSome_iff_exists.mp q
    have hm := look_mem hb
    have o := List.all_eq_true.mp x1 _ hm
    rw [sG _ hm] at hC
    cases hC
    have o : excB K y = true := by simpa using o
    unfold excB at o
    obtain ⟨o, o5⟩ := and2 o
    obtain ⟨o, o4⟩ := and2 o
    obtain ⟨o, o3⟩ := and2 o
    obtain ⟨o1, o2⟩ := and2 o
    obtain ⟨r1, r2, r3, r4⟩ := cls4_ok o5
    exact ⟨He.eqO_ok o1, He.eqO_ok o2, of_d o3, o4, r1, r2, r3, r4⟩
  · unfold Tex.ok at hok
    obtain ⟨_, k5⟩ := and2 hok
    rw [q] at k5 x4
    have k5 : (Z.cat.all (catOk Z.T) && Z.cat.length == 1) = true := by simpa using k5
    obtain ⟨k1, k2⟩ := and2 k5
    obtain ⟨d, hd⟩ : ∃ d, Z.cat = [d] := List.length_eq_one_iff.mp (by simpa using k2)
    have hdm : d ∈ Z.cat := by rw [hd]; exact List.mem_cons_self
    have k3 := List.all_eq_true.mp k1 d hdm
    obtain ⟨fd, F⟩ := def_in c (d := d) (List.mem_append_right _ hdm)
    have gx := glo_in (x := x) X G c (by
      unfold Tex.glos Tex.lamNames
      rw [q]
      simp only [List.mem_append, List.mem_map]
      exact .inr (.inr (.inr (.inr (.inr (.inr (.inr (.inr (by simp)))))))))
    have gxc := glo_in (x := xc) X G c (by
      unfold Tex.glos Tex.lamNames
      rw [q]
      simp only [List.mem_append, List.mem_map]
      exact .inr (.inr (.inr (.inr (.inr (.inr (.inr (.inr (by simp)))))))))
    unfold catOk at k3
    rw [q] at k3
    cases hk : isKeep d.body with
    | none => rw [hk] at k3; cases k3
    | some z =>
      obtain ⟨cn, wn, en, y⟩ := z
      rw [hk] at k3
      dsimp only at k3
      obtain ⟨k3, a17⟩ := and2 k3
      obtain ⟨k3, a16⟩ := and2 k3
      obtain ⟨k3, a15⟩ := and2 k3
      obtain ⟨k3, a14⟩ := and2 k3
      obtain ⟨k3, a13⟩ := and2 k3
      obtain ⟨k3, a12⟩ := and2 k3
      obtain ⟨k3, a11⟩ := and2 k3
      obtain ⟨k3, a10⟩ := and2 k3
      obtain ⟨k3, a9⟩ := and2 k3
      obtain ⟨k3, a8⟩ := and2 k3
      obtain ⟨k3, a7⟩ := and2 k3
      obtain ⟨k3, a6⟩ := and2 k3
      obtain ⟨k3, a5⟩ := and2 k3
      obtain ⟨k3, a4⟩ := and2 k3
      obtain ⟨k3, a3⟩ := and2 k3
      obtain ⟨a1, a2⟩ := and2 k3
      have e6 := of_d a6
      subst e6
      obtain ⟨at_, name, qual, params, body, scope, dfl, kwd⟩ := d
      dsimp only at *
      have e1 := of_d a1; have e2 := of_d a2; have e3 := of_d a3; have e4 := List.isEmpty_iff.mp a4; have e5 := List.isEmpty_iff.mp a5
      subst e1; subst e2; subst e3; subst e4; subst e5
      have S := scopeOk_ok a9
      have pa := plainArgs_ok a7
      have F' : FunD K qual qual params body scope [] [] (He.ga K qual) fd := F
      have B : Binds K fd [wn] [] := F'.bindsN fun kV doc pm an cdv ct us hl => by
        have := bind_plain (x := qual) (qual := qual) (body := body) (scope := scope) (kV := kV) (doc := doc) (pm := pm) (an := an) (cdv := cdv) (ct := ct) (as := params.args) (us := us) (by rw [of_d a8]; simp) (by rw [of_d a8]; exact hl)
        rw [← pa, of_d a8] at this
        exact this
      unfold isKeep at hk
      split at hk
      case h_2 => cases hk
      split at hk
      case isFalse => cases hk
      rename_i hc
      obtain ⟨rfl, rfl, rfl⟩ := hc
      cases hk
      refine ⟨_, _, fd, params, scope, _, _, _, _, _, _, _, _, _, _, _, _, _, _, _, _, _, _, F', gx, gxc, S, B, of_d a10, of_d a11, of_d a12, of_d a13, okN_d a14, okN_c a14, okN_d a15, okN_c a15, okN_d a16, okN_c a16, okN_d a17, fun y b Cy hs hy => ?_⟩
      have hm := look_mem hs
      unfold exmB at x4
      have o3 := List.all_eq_true.mp x4 _ hm
      rw [sG _ hm] at hy
      cases hy
      simp only [beq_self_eq_true, Bool.and_self, Bool.not_true, Bool.false_or, decide_eq_true_eq] at o3
      exact o3
end
end DL
end
section
set_option Elab.async false
set_option linter.all false
set_option maxRecDepth 100000
set_option maxHeartbeats 4000000
/-! D layer, 39: the law, from what its IR computes. -/
namespace DL
open PySem PySem.Spec PyProof.Rows L2
section
variable {Z : Tex} {K : PySem.W.Frag} {h : Heap} {mg : Str → Option Value} {w : World} {base : Heap}
def Tex.tb (Z : Tex) (K : PySem.W.Frag) : List (Addr × Str) := Z.lamD.map fun D => ((He.cT K D.d.at_).2, lamName D.d.qual)
def Tex.cs (Z : Tex) (K : PySem.W.Frag) : List (Addr × Addr) := Z.tf.map (He.cT K)
theorem nodup_inj {α β : Type} {f : α → β} : ∀ {l : List α}, (l.map f).Nodup → ∀ a ∈ l, ∀ b ∈ l, f a = f b → a = b
  | [], _, a, ha, _, _, _ => by simp at ha
  | x :: l, nd, a, ha, b, hb, e => by
    rw [List.map_cons, List.nodup_cons] at nd
    rcases List.mem_cons.mp ha with h1 | h1 <;> rcases List.mem_cons.mp hb with h2 | h2
    · rw [h1, h2]
    · exact absurd (List.mem_map.mpr ⟨b, h2, by rw [← e, h1]⟩) nd.1
    · exact absurd (List.mem_map.mpr ⟨a, h1, by rw [e, h2]⟩) nd.1
    · exact nodup_inj nd.2 a h1 b h2 e
theorem lamTab_of (X : K.In h) (c : He.SaysX Z.fa Z.fns [] Z.tf Z.ex w h K) (TB : ∀ p ∈ Z.cs K, LamX.TabB base mg p.1 p.2) {D : Dfd} (hD : D ∈ Z.DelZ.map (·.2)) {fd : FuncData} (F : FunD K D.d.name D.d.qual D.d.params D.d.body D.d.scope [] [] (He.fAd K D.d.at_) fd) : LamTab mg base (Z.tb K) D fd := by
  intro hl
  have hx := c.more
  unfold Tex.ex at hx
  obtain ⟨_, x5⟩ := and2 hx
  have nd := of_d x5
  have hm : D ∈ Z.lamD := List.mem_filter.mpr ⟨hD, hl⟩
  obtain ⟨oc, od, dV, kV, doc, pm, an, cdv, ct, osl, rfl, lk, hcd, _, _⟩ := F.ex
  obtain ⟨cc, rfl⟩ := He.codeIn_ref hcd
  have e1 : (He.cT K D.d.at_).1 = cc := He.codeOf_eq lk rfl
  refine ⟨cc, (He.cT K D.d.at_).2, rfl, ?_, List.mem_map.mpr ⟨D, hm, rfl⟩, fun p hp he => ?_⟩
  · have := TB (He.cT K D.d.at_) (List.mem_map.mpr ⟨_, List.mem_map.mpr ⟨D, hm, rfl⟩, rfl⟩)
    rw [← e1]
    exact this
  · obtain ⟨D', hD', rfl⟩ := List.mem_map.mp hp
    unfold Tex.tf at nd
    rw [List.map_map] at nd
    have := nodup_inj nd D' hD' D hm he
    rw [this]
theorem defOk_ok {at_ : Str × Option Str} {x : Str} {np : Nat} {io : Bool} (e : defOk Z at_ x np io = true) : ∃ D, Z.DelZ.lookup x = some D ∧ D ∈ Z.DelZ.map (·.2) ∧ D.d.at_ = at_ ∧ D.fn.np = np ∧ D.fn.io = io ∧ dfOk Z.T D = true ∧ D.d.dfl = [] ∧ D.d.kwd = [] := by
  unfold defOk at e
  cases hD : Z.DelZ.lookup x with
  | none => rw [hD] at e; cases e
  | some D =>
    rw [hD] at e
    dsimp only at e
    obtain ⟨e, e4⟩ := and2 e
    obtain ⟨e, e3⟩ := and2 e
    obtain ⟨e1, e2⟩ := and2 e
    have h0 := e4
    unfold dfOk at h0
    obtain ⟨h0, _⟩ := and2 h0
    obtain ⟨h0, _⟩ := and2 h0
    obtain ⟨h0, _⟩ := and2 h0
    obtain ⟨h0, _⟩ := and2 h0
    obtain ⟨h0, _⟩ := and2 h0
    obtain ⟨h0, _⟩ := and2 h0
    obtain ⟨h0, h3⟩ := and2 h0
    obtain ⟨_, h2⟩ := and2 h0
    exact ⟨D, rfl, List.mem_map.mpr ⟨_, look_mem hD, rfl⟩, of_d e1, of_d e2, eq_of_beq e3, e4, List.isEmpty_iff.mp h2, List.isEmpty_iff.mp h3⟩
theorem def_of (c : He.SaysX Z.fa Z.fns [] Z.tf Z.ex w h K) {D : Dfd} (hD : D ∈ Z.DelZ.map (·.2)) (h1 : D.d.dfl = []) (h2 : D.d.kwd = []) : ∃ fd, FunD K D.d.name D.d.qual D.d.params D.d.body D.d.scope [] [] (He.fAd K D.d.at_) fd := by
  obtain ⟨fd, F⟩ := def_in c (d := D.d) (List.mem_append_left _ (by
    obtain ⟨p, hp, e⟩ := List.mem_map.mp hD
    exact List.mem_map.mpr ⟨p, hp, by rw [e]⟩))
  unfold He.DefD.dvs He.DefD.kws at F
  rw [h1, h2] at F
  exact ⟨fd, F⟩
theorem gam {x : Str} {D : Dfd} (e : Z.DelZ.lookup x = some D) : Z.GamZ.fn x = some D.fn := by
  show (Z.DelZ.lookup x).map (·.fn) = _
  rw [e]; rfl
theorem stand_of (X : K.In h) (G : h.Ns mainGlobals mg) (c : He.SaysX Z.fa Z.fns [] Z.tf Z.ex w h K) (hok : Z.ok = true) (kw : KwOk Z) (TB : ∀ p ∈ Z.cs K, LamX.TabB base mg p.1 p.2) : Stand K mg base (Z.tb K) Z.T Z.GamZ := by
  unfold Tex.ok at hok
  obtain ⟨hok, _⟩ := and2 hok
  obtain ⟨hok, k4⟩ := and2 hok
  obtain ⟨hok, k3⟩ := and2 hok
  obtain ⟨k1, k2⟩ := and2 hok
  refine ⟨fun x n b q => ?_, fun x ks π q => ?_, fun x n q => ?_, fun x ks π q => ?_⟩
  · have hm := look_mem q
    obtain ⟨D, d1, d2, d3, d4, d5, d6, d7, d8⟩ := defOk_ok (List.all_eq_true.mp k1 _ hm)
    obtain ⟨fd, F⟩ := def_of c d2 d7 d8
    have gx := glo_in (x := x) X G c (by unfold Tex.glos; simp only [List.mem_append, List.mem_map]; exact .inl ⟨_, hm, rfl⟩)
    refine ⟨D, _, fd, gam d1, d6, d4, d5, ?_, F, lamTab_of X c TB d2 F⟩
    rw [d3]; exact gx
  · obtain ⟨D, d1, d2, d3, d4, d5, d6, d7, d8⟩ := defOk_ok (List.all_eq_true.mp k2 _ q)
    obtain ⟨fd, F⟩ := def_of c d2 d7 d8
    have gx := glo_in (x := x) X G c (by unfold Tex.glos; simp only [List.mem_append, List.mem_map]; exact .inr (.inl ⟨_, q, rfl⟩))
    refine ⟨D, _, fd, gam d1, d6, d4, d5, ?_, F, lamTab_of X c TB d2 F, ?_⟩
    · rw [d3]; exact gx
    · obtain ⟨oc, od, dV, kV, doc, pm, an, cdv, ct, osl, rfl, _, _, hd, _⟩ := F.ex
      rcases hd with ⟨_, rfl⟩ | ⟨z, _⟩
      · exact .of fun us ws h1 h2 => kw.kws x ks π q D d1 kV doc pm an cdv ct us ws h1 h2
      · exact absurd rfl z
  · have hm := look_mem q
    obtain ⟨D, d1, d2, d3, d4, d5, d6, d7, d8⟩ := defOk_ok (List.all_eq_true.mp k3 _ hm)
    obtain ⟨fd, F⟩ := def_of c d2 d7 d8
    have gx := glo_in (x := x) X G c (by unfold Tex.glos; simp only [List.mem_append, List.mem_map]; exact .inr (.inr (.inl ⟨_, hm, rfl⟩)))
    have mk := He.mkr_ok (fact_in c (f := .mkr x) (by
      unfold Tex.fa
      simp only [List.mem_append, List.mem_map]
      exact .inr (.inr (.inr (.inl ⟨_, hm, rfl⟩)))))
    refine ⟨D, _, He.fAd K D.d.at_, fd, gam d1, d6, d4, d5, gx, ?_, F, lamTab_of X c TB d2 F⟩
    rw [d3]; exact mk
  · obtain ⟨D, d1, d2, d3, d4, d5, d6, d7, d8⟩ := defOk_ok (List.all_eq_true.mp k4 _ q)
    obtain ⟨fd, F⟩ := def_of c d2 d7 d8
    have gx := glo_in (x := x) X G c (by unfold Tex.glos; simp only [List.mem_append, List.mem_map]; exact .inr (.inr (.inr (.inl ⟨_, q, rfl⟩))))
    have mk := He.mkr_ok (fact_in c (f := .mkr x) (by
      unfold Tex.fa
      simp only [List.mem_append, List.mem_map]
      exact .inr (.inr (.inr (.inr (.inl ⟨_, q, rfl⟩))))))
    refine ⟨D, _, He.fAd K D.d.at_, fd, gam d1, d6, d4, d5, gx, ?_, F, lamTab_of X c TB d2 F, ?_⟩
    · rw [d3]; exact mk
    · obtain ⟨oc, od, dV, kV, doc, pm, an, cdv, ct, osl, rfl, _, _, hd, _⟩ := F.ex
      rcases hd with ⟨_, rfl⟩ | ⟨z, _⟩
      · exact .of fun us ws h1 h2 => kw.clk x ks π q D d1 kV doc pm an cdv ct us ws h1 h2
      · exact absurd rfl z
end
/-- THE LAW: what its IR computes is what the program does -/
theorem law_walk {l : PySem.W.OpenLaw} {Z : Tex} {N m lv : Nat} {q : Program} {loose : List Str} {XP : (Str → Option Value) → Heap → Prop} {d : DefRec} (hn : l.most = some m) (hm : m ≤ sizeLine) (hdf : d.params.defaults = []) (hnm : d.name = "law") (hok : Z.ok = true) (kw : KwOk Z)
    (hlaw : Z.T.defs.lookup ("law" : Str) = some (1, false)) (hr : 4 * (lv + 1) ≤ 220)
    (math : ∀ ns : List Int, ns.length ≤ m → (∀ z ∈ ns, Builtin.Int.intBits z ≤ 1048576) → callF Z.GamZ (lv + 1) "law" [.scr ns] = .ret (.bl true) .own []) :
    PySem.W.WalkO q loose XP (He.hookX N Z.fa Z.fns [] Z.tf Z.ex).says l.row.toRowW d [] (fun f vs => PySem.call f vs) := by
  refine Att.attach_callB hn hdf fun w s0 s1 mg mb fa o pm cd doc a vs ns G Y ho hd hcd hmg hobj hints hlen hbits hg => ?_
  obtain ⟨K, KX, c⟩ := Y
  have hmg : mg "law" = some (.ref fa) := by rw [← hnm]; exact hmg
  have Fx := facts_of KX G.T.g c hok
  have lawM := look_mem hlaw
  have hok' := hok
  unfold Tex.ok at hok'
  obtain ⟨hok', _⟩ := and2 hok'
  obtain ⟨hok', _⟩ := and2 hok'
  obtain ⟨hok', _⟩ := and2 hok'
  obtain ⟨k1, _⟩ := and2 hok'
  obtain ⟨D, d1, d2, d3, d4, d5, d6, d7, d8⟩ := defOk_ok (List.all_eq_true.mp k1 _ lawM)
  obtain ⟨fd, F⟩ := def_of c d2 d7 d8
  have gx := glo_in (x := "law") KX G.T.g c (by unfold Tex.glos; simp only [List.mem_append, List.mem_map]; exact .inl ⟨_, lawM, rfl⟩)
  have efa : He.fAd K D.d.at_ = fa := by
    rw [d3]
    show He.ga K "law" = fa
    rw [gx] at hmg
    cases hmg
    rfl
  rw [efa] at F
  obtain ⟨b1, b2⟩ := dfd_binds F d6
  have b2 : D.ps.length = 1 := b2.trans d4
  obtain ⟨x, ex⟩ := List.length_eq_one_iff.mp b2
  have hbd : ∀ (s : Shared) (u : Value), BindsTo s fd ⟨[u], []⟩ [(x, u)] := fun s u => by
    have h0 := d6
    unfold dfOk at h0
    obtain ⟨h0, _⟩ := and2 h0
    obtain ⟨h0, h8⟩ := and2 h0
    obtain ⟨h0, _⟩ := and2 h0
    obtain ⟨h0, _⟩ := and2 h0
    obtain ⟨h0, _⟩ := and2 h0
    obtain ⟨h0, _⟩ := and2 h0
    obtain ⟨h0, _⟩ := and2 h0
    obtain ⟨h1, _⟩ := and2 h0
    have pa := plainArgs_ok h1
    have e := F.bindsA (ps := D.ps) (fun kV doc pm an cdv ct us hl => by
      have := bind_plain (x := D.d.name) (qual := D.d.qual) (body := D.d.body) (scope := D.d.scope) (kV := kV) (doc := doc) (pm := pm) (an := an) (cdv := cdv) (ct := ct) (as := D.d.params.args) (us := us) (of_d h8) hl
      rw [← pa] at this
      exact this) s [u] (by rw [b2]; rfl)
    rw [ex] at e
    exact e
  have room : Room (4 * (lv + 1)) callerA := (⟨rfl, by decide, by decide⟩ : Room 220 callerA).mono hr
  refine end_run (cs := Z.cs K) (fd := fd) (x := x) (sp := spD K mg (Z.tb K) 1 false (callF Z.GamZ (lv + 1) "law")) KX G.T.g G.T.b G.T.builtins G.T.nolimit hg (fun p hp => ?_) (fun p hp => ?_) (fun p hp => ?_) G.T.bmain hobj hints (Nat.le_trans hlen hm) room (fun base inK inG TB => ?_) hbd (fun H hT hS => ?_)
  · obtain ⟨q', hq', rfl⟩ := List.mem_map.mp hp
    exact c.empty q' hq'
  · obtain ⟨q', hq', rfl⟩ := List.mem_map.mp hp
    exact c.out q' hq'
  · obtain ⟨q', hq', rfl⟩ := List.mem_map.mp hp
    exact PySem.W.codeHd_of_K KX (c.hd q' hq')
  · have St := stand_of KX G.T.g c hok kw TB
    have L := all_at (P := l.prog) (w := w) (base := base) Fx St lv
    obtain ⟨_, _, r⟩ := dfd_fng (P := l.prog) (w := w) (GamZ := Z.GamZ) F Fx L (lamTab_of KX c TB d2 (by rw [efa]; exact F)) d6
    rw [callF_succ (gam d1)]
    rw [d4, d5, ex] at r
    exact r
  · have hval := math ns hlen hbits
    refine ⟨[.scr ns], [], [], rfl, by rw [hval]; exact fun z => (by cases z), by simp, fun p hp => ?_, ?_⟩
    · obtain ⟨D', hD', rfl⟩ := List.mem_map.mp hp
      exact .nil (hT (He.cT K D'.d.at_) (List.mem_map.mpr ⟨_, List.mem_map.mpr ⟨D', hD', rfl⟩, rfl⟩))
    · show [] = [] ∧ _
      refine ⟨rfl, ⟨.ref a, [], [], [], rfl, rfl, ⟨a, rfl, hS, rfl⟩, rfl, rfl⟩, fun d p w' H' fp hret _ rp => ?_, fun x' c' dd H' hexc => ?_⟩
      · rw [hval] at hret
        cases hret
        exact rp.1
      · rw [hval] at hexc
        cases hexc
end DL
end
section
set_option Elab.async false
set_option linter.all false
set_option maxRecDepth 100000
/-! D layer, 40: what is to be shown of a run of the IR. -/
namespace DL
open PySem
def Res.sat (r : Res) (Q : D → Pv → Envv → Prop) (X : Xn → Envv → Prop) : Prop := match r with
  | .ok d p e => Q d p e
  | .exc x e => X x e
  | .bad => False
def RsL.sat (r : RsL) (Q : List D → List Pv → Envv → Prop) (X : Xn → Envv → Prop) : Prop := match r with
  | .ok d p e => Q d p e
  | .exc x e => X x e
  | .bad => False
def IRes.sat (r : IRes) (Q : List D → List Pv → Envv → Prop) (X : Xn → Envv → Prop) : Prop := match r with
  | .ok d p e => Q d p e
  | .exc x e => X x e
  | .bad => False
/-- the ends of a statement: next, return, exception, break, continue -/
structure Post5 where
  N : Envv → Prop
  R : D → Pv → Envv → Prop
  X : Xn → Envv → Prop
  B : Envv → Prop := fun _ => False
  C : Envv → Prop := fun _ => False
def Out.sat (o : Out) (P : Post5) : Prop := match o with
  | .nx e => P.N e
  | .rt d p e => P.R d p e
  | .bk e => P.B e
  | .ct e => P.C e
  | .exc x e => P.X x e
  | .bad => False
def FR.sat (r : FR) (Q : D → Pv → List D → Prop) (X : Xn → List D → Prop) : Prop := match r with
  | .ret d p ios => Q d p ios
  | .exc x ios => X x ios
  | .bad => False
/-- an operation's answer -/
def opS (o : Option D) (Q : D → Prop) : Prop := match o with
  | some d => Q d
  | none => False
def cmS (o : Option Bool) (Q : Bool → Prop) : Prop := match o with
  | some d => Q d
  | none => False
def ltS (o : Option (List D)) (Q : List D → Prop) : Prop := match o with
  | some d => Q d
  | none => False
def prS (o : Option (D × D)) (Q : D → D → Prop) : Prop := match o with
  | some d => Q d.1 d.2
  | none => False
def evS (o : Option Envv) (Q : Envv → Prop) : Prop := match o with
  | some d => Q d
  | none => False
/-- whose: an immutable value is one's own -/
def Pv.of (d : D) (p : Pv) : Pv := if d.imm then .own else p
def blS (d : D) (Q : Bool → Prop) : Prop := match d with
  | .bl b => Q b
  | _ => False
/-- what a part is worth -/
def keepS (d : D) (p : Pv) (Q : Pv → Prop) : Prop := if d.imm then Q .own else (match p with
  | .own => False
  | p => Q p)
section
variable {io : List Nat} {cb : Cb} {e : Envv} {s : Sl} {Q : D → Pv → Envv → Prop} {X : Xn → Envv → Prop} {QL : List D → List Pv → Envv → Prop}
theorem Res.sat_bind {r : Res} {f : D → Pv → Envv → Res} : (r.bind f).sat Q X ↔ r.sat (fun d p e => (f d p e).sat Q X) X := by cases r <;> rfl
theorem Res.sat_mono {r : Res} {Q' : D → Pv → Envv → Prop} (h : r.sat Q X) (f : ∀ d p e, Q d p e → Q' d p e) : r.sat Q' X := by cases r <;> first | exact f _ _ _ h | exact h
theorem RsL.sat_bind {r : RsL} {f : List D → List Pv → Envv → Res} : (r.bind f).sat Q X ↔ r.sat (fun d p e => (f d p e).sat Q X) X := by cases r <;> rfl
theorem mkR_sat {d : D} {p : Pv} {e : Envv} : (mkR d p e).sat Q X ↔ Q d (Pv.of d p) e := Iff.rfl
theorem freshR_sat {o : Option D} {e : Envv} : (freshR o e).sat Q X ↔ opS o fun d => d.flat = true ∧ Q d .own e := by
  unfold freshR
  cases o with
  | none => exact Iff.rfl
  | some d =>
    show (if d.flat = true then Res.ok d .own e else .bad).sat Q X ↔ d.flat = true ∧ Q d .own e
    by_cases h : d.flat = true
    · rw [if_pos h]; exact ⟨fun z => ⟨h, z⟩, fun z => z.2⟩
    · rw [if_neg h]; exact ⟨fun z => z.elim, fun z => h z.1⟩
theorem keepR_sat {d : D} {p : Pv} {e : Envv} : (keepR d p e).sat Q X ↔ keepS d p fun q => Q d q e := by
  unfold keepR keepS
  by_cases h : d.imm = true
  · rw [if_pos h, if_pos h]; exact Iff.rfl
  · rw [if_neg h, if_neg h]; cases p <;> exact Iff.rfl
theorem testR_sat {r : Res} {f : Bool → Envv → Res} : (testR r f).sat Q X ↔ r.sat (fun d _ e => blS d fun b => (f b e).sat Q X) X := by
  unfold testR
  rw [Res.sat_bind]
  cases r with
  | ok d p e => cases d <;> exact Iff.rfl
  | exc x e => exact Iff.rfl
  | bad => exact Iff.rfl
theorem ite_sat {c : Prop} [Decidable c] {a : Res} : (if c then a else .bad).sat Q X ↔ c ∧ a.sat Q X := by
  by_cases h : c
  · rw [if_pos h]; exact ⟨fun z => ⟨h, z⟩, fun z => z.2⟩
  · rw [if_neg h]; exact ⟨fun z => z.elim, fun z => h z.1⟩
/-! expressions -/
theorem e_con {d : D} : (evalE io cb (.con d) (s :: e)).sat Q X ↔ Q d .own (s :: e) := by rw [evalE]; exact Iff.rfl
def rdS (s : Sl) (i : Nat) (Q : D → Pv → Prop) : Prop := match s with
  | .ow d => Q d (Pv.of d (.bor i))
  | .sh d => Q d (Pv.of d .shr)
  | .un => False
theorem e_var {i : Nat} : (evalE io cb (.var i) (s :: e)).sat Q X ↔ rdS ((s :: e).getD i .un) i fun d p => Q d p (s :: e) := by
  rw [evalE]
  cases (s :: e).getD i .un <;> exact Iff.rfl
def mvS (io : List Nat) (s : Sl) (i : Nat) (e : Envv) (Q : D → Pv → Envv → Prop) : Prop := match s with
  | .ow d => i ∉ io ∧ Q d .own (e.set i .un)
  | .sh d => Q d (Pv.of d .shr) e
  | .un => False
theorem e_mv {i : Nat} : (evalE io cb (.mv i) (s :: e)).sat Q X ↔ mvS io ((s :: e).getD i .un) i (s :: e) Q := by
  rw [evalE]
  cases (s :: e).getD i .un with
  | ow d =>
    show (if io.contains i = true then Res.bad else .ok d .own _).sat Q X ↔ _
    by_cases h : i ∈ io
    · rw [if_pos (by simpa using h)]; exact ⟨fun z => z.elim, fun z => z.1 h⟩
    · rw [if_neg (by simpa using h)]; exact ⟨fun z => ⟨h, z⟩, fun z => z.2⟩
  | sh d => exact Iff.rfl
  | un => exact Iff.rfl
theorem e_bin {op : Operator} {a b : Ex} : (evalE io cb (.bin op a b) (s :: e)).sat Q X ↔ (evalE io cb a (s :: e)).sat (fun x p e1 => p.waits b.mods = true ∧ (evalE io cb b e1).sat (fun y q e2 => opS (binD op x y) fun d => d.flat = true ∧ Q d .own e2) X) X := by
  rw [evalE, Res.sat_bind]
  simp only [ite_sat, Res.sat_bind, freshR_sat]
theorem e_neg {a : Ex} : (evalE io cb (.neg a) (s :: e)).sat Q X ↔ (evalE io cb a (s :: e)).sat (fun x p e1 => ∃ i, x = .int i ∧ Q (.int (-i)) .own e1) X := by
  rw [evalE, Res.sat_bind]
  cases evalE io cb a (s :: e) with
  | ok d p e1 => cases d <;> simp [Res.sat]
  | exc x e1 => exact Iff.rfl
  | bad => exact Iff.rfl
theorem cmp_sat {o : Option Bool} {e : Envv} : (freshR (o.map .bl) e).sat Q X ↔ cmS o fun k => Q (.bl k) .own e := by
  rw [freshR_sat]
  cases o with
  | none => exact Iff.rfl
  | some k => exact ⟨fun z => z.2, fun z => ⟨rfl, z⟩⟩
theorem e_cmp {op : CmpOp} {a b : Ex} : (evalE io cb (.cmp op a b) (s :: e)).sat Q X ↔ (evalE io cb a (s :: e)).sat (fun x p e1 => p.waits b.mods = true ∧ (evalE io cb b e1).sat (fun y q e2 => cmS (cmpD op x y) fun k => Q (.bl k) .own e2) X) X := by
  rw [evalE, Res.sat_bind]
  simp only [ite_sat, Res.sat_bind, cmp_sat]
theorem e_cmp2 {o1 o2 : CmpOp} {a b c : Ex} : (evalE io cb (.cmp2 o1 o2 a b c) (s :: e)).sat Q X ↔ (evalE io cb a (s :: e)).sat (fun x p e1 => p.waits b.mods = true ∧ (evalE io cb b e1).sat (fun y q e2 => cmS (cmpD o1 x y) fun k =>
    (k = true → q.waits c.mods = true ∧ (evalE io cb c e2).sat (fun z r e3 => cmS (cmpD o2 y z) fun k => Q (.bl k) .own e3) X) ∧ (k = false → Q (.bl false) .own e2)) X) X := by
  rw [evalE, Res.sat_bind]
  simp only [ite_sat, Res.sat_bind]
  refine iff_of_eq (congrArg (fun f => (evalE io cb a (s :: e)).sat f X) (funext fun x => funext fun p => funext fun e1 => ?_))
  refine congrArg (p.waits b.mods = true ∧ ·) (congrArg (fun f => (evalE io cb b e1).sat f X) (funext fun y => funext fun q => funext fun e2 => ?_))
  cases cmpD o1 x y with
  | none => rfl
  | some k =>
    cases k with
    | false => simp [cmS, Res.sat]
    | true =>
      simp only [cmS, ite_sat, Res.sat_bind, cmp_sat, true_implies, Bool.true_eq_false, false_implies, and_true]
theorem e_and {a b : Ex} : (evalE io cb (.and a b) (s :: e)).sat Q X ↔ (evalE io cb a (s :: e)).sat (fun d _ e1 => blS d fun k => (k = true → (evalE io cb b e1).sat (fun d _ e2 => blS d fun k => Q (.bl k) .own e2) X) ∧ (k = false → Q (.bl false) .own e1)) X := by
  rw [evalE, testR_sat]
  refine iff_of_eq (congrArg (fun f => (evalE io cb a (s :: e)).sat f X) (funext fun x => funext fun p => funext fun e1 => congrArg (blS x) (funext fun k => ?_)))
  cases k with
  | true => simp only [if_true, testR_sat, true_implies, Bool.true_eq_false, false_implies, and_true]; rfl
  | false => simp [Res.sat]
theorem e_or {a b : Ex} : (evalE io cb (.or a b) (s :: e)).sat Q X ↔ (evalE io cb a (s :: e)).sat (fun d _ e1 => blS d fun k => (k = false → (evalE io cb b e1).sat (fun d _ e2 => blS d fun k => Q (.bl k) .own e2) X) ∧ (k = true → Q (.bl true) .own e1)) X := by
  rw [evalE, testR_sat]
  refine iff_of_eq (congrArg (fun f => (evalE io cb a (s :: e)).sat f X) (funext fun x => funext fun p => funext fun e1 => congrArg (blS x) (funext fun k => ?_)))
  cases k with
  | false => simp only [Bool.false_eq_true, if_false, testR_sat, true_implies, false_implies, and_true]; rfl
  | true => simp [Res.sat]
theorem e_not {a : Ex} : (evalE io cb (.not a) (s :: e)).sat Q X ↔ (evalE io cb a (s :: e)).sat (fun d _ e1 => blS d fun k => Q (.bl !k) .own e1) X := by
  rw [evalE, testR_sat]; exact Iff.rfl
theorem e_ite {c a b : Ex} : (evalE io cb (.ite c a b) (s :: e)).sat Q X ↔ (evalE io cb c (s :: e)).sat (fun d _ e1 => blS d fun k => (k = true → (evalE io cb a e1).sat Q X) ∧ (k = false → (evalE io cb b e1).sat Q X)) X := by
  rw [evalE, testR_sat]
  refine iff_of_eq (congrArg (fun f => (evalE io cb c (s :: e)).sat f X) (funext fun x => funext fun p => funext fun e1 => congrArg (blS x) (funext fun k => ?_)))
  cases k <;> simp
theorem e_tup {es : Exs} : (evalE io cb (.tup es) (s :: e)).sat Q X ↔ (evalEs io cb es (s :: e)).sat (fun ds ps e1 => D.immL ds = true ∧ Q (.tup ds) .own e1) X := by
  rw [evalE, RsL.sat_bind]; simp only [ite_sat]; exact Iff.rfl
theorem e_lst {es : Exs} : (evalE io cb (.lst es) (s :: e)).sat Q X ↔ (evalEs io cb es (s :: e)).sat (fun ds ps e1 => ps.all (· == .own) = true ∧ Q (.lst ds) .own e1) X := by
  rw [evalE, RsL.sat_bind]; simp only [ite_sat]; exact Iff.rfl
theorem e_dic {ks : List D} {es : Exs} : (evalE io cb (.dic ks es) (s :: e)).sat Q X ↔ (evalEs io cb es (s :: e)).sat (fun ds ps e1 => (ps.all (· == .own) && decide (ks.length = ds.length)) = true ∧ Q (.dct ks ds) .own e1) X := by
  rw [evalE, RsL.sat_bind]; simp only [ite_sat]; exact Iff.rfl
theorem e_ix {a i : Ex} : (evalE io cb (.ix a i) (s :: e)).sat Q X ↔ (evalE io cb a (s :: e)).sat (fun x p e1 => p.waits i.mods = true ∧ (evalE io cb i e1).sat (fun y q e2 => opS (ixD x y) fun d => keepS d p fun q => Q d q e2) X) X := by
  rw [evalE, Res.sat_bind]
  simp only [ite_sat, Res.sat_bind]
  refine iff_of_eq (congrArg (fun f => (evalE io cb a (s :: e)).sat f X) (funext fun x => funext fun p => funext fun e1 => congrArg (p.waits i.mods = true ∧ ·) (congrArg (fun f => (evalE io cb i e1).sat f X) (funext fun y => funext fun q => funext fun e2 => ?_))))
  cases ixD x y with
  | none => rfl
  | some d => exact propext keepR_sat
def ptS (i : Ex) (d : D) (Q : Option Int → Prop) : Prop := match partI i d with
  | some l => Q l
  | none => False
theorem e_sl {a l h : Ex} : (evalE io cb (.sl a l h) (s :: e)).sat Q X ↔ (evalE io cb a (s :: e)).sat (fun x p e1 => p.waits (l.mods ++ h.mods) = true ∧ (evalE io cb l e1).sat (fun y _ e2 => ptS l y fun lo => (evalE io cb h e2).sat (fun z _ e3 => ptS h z fun hi => opS (slP x lo hi) fun d => d.flat = true ∧ Q d .own e3) X) X) X := by
  rw [evalE, Res.sat_bind]
  simp only [ite_sat, Res.sat_bind]
  refine iff_of_eq (congrArg (fun f => (evalE io cb a (s :: e)).sat f X) (funext fun x => funext fun p => funext fun e1 => congrArg (p.waits (l.mods ++ h.mods) = true ∧ ·) (congrArg (fun f => (evalE io cb l e1).sat f X) (funext fun y => funext fun q => funext fun e2 => ?_))))
  unfold ptS
  cases partI l y with
  | none => rfl
  | some lo =>
    dsimp only
    rw [Res.sat_bind]
    refine congrArg (fun f => (evalE io cb h e2).sat f X) (funext fun z => funext fun q => funext fun e3 => ?_)
    cases partI h z with
    | none => rfl
    | some hi => exact propext freshR_sat
theorem e_fld {a : Ex} {C f : Str} : (evalE io cb (.fld a C f) (s :: e)).sat Q X ↔ (evalE io cb a (s :: e)).sat (fun x p e1 => opS (fldD x C f) fun d => keepS d p fun q => Q d q e1) X := by
  rw [evalE, Res.sat_bind]
  refine iff_of_eq (congrArg (fun f => (evalE io cb a (s :: e)).sat f X) (funext fun x => funext fun p => funext fun e1 => ?_))
  cases fldD x C f with
  | none => rfl
  | some d => exact propext keepR_sat
/-- behind a call -/
def callS (r : FR) (ps : List Pv) (Q : D → Pv → Prop) (X : Xn → Prop) : Prop := match r with
  | .ret d .own [] => Q d .own
  | .ret d .shr [] => noBor ps = true ∧ Q d .shr
  | .exc x [] => X x
  | _ => False
theorem callR_sat {r : FR} {ps : List Pv} {e : Envv} : (callR r ps e).sat Q X ↔ callS r ps (fun d p => Q d p e) (fun x => X x e) := by
  unfold callR callS
  split
  · exact Iff.rfl
  · exact ite_sat
  · exact Iff.rfl
  · first
    | exact Iff.rfl
    | (split <;> first | exact Iff.rfl | (exfalso; rename_i h1 h2 h3; first | exact h1 _ rfl | exact h2 _ rfl | exact h3 _ rfl))
def callsS (r : FR) (ps : List Pv) (n : Nat) (e : Envv) (Q : D → Pv → Envv → Prop) (X : Xn → Envv → Prop) : Prop := match r with
  | .ret d .own [d1] => Q d .own (e.set n (.ow d1))
  | .ret d .shr [d1] => noBor ps = true ∧ Q d .shr (e.set n (.ow d1))
  | .exc x [d1] => X x (e.set n (.ow d1))
  | _ => False
theorem callsR_sat {r : FR} {ps : List Pv} {n : Nat} {e : Envv} : (callsR r n ps e).sat Q X ↔ callsS r ps n e Q X := by
  unfold callsR callsS
  split
  · exact Iff.rfl
  · exact ite_sat
  · exact Iff.rfl
  · first
    | exact Iff.rfl
    | (split <;> first | exact Iff.rfl | (exfalso; rename_i h1 h2 h3; first | exact h1 _ _ rfl | exact h2 _ _ rfl | exact h3 _ _ rfl))
theorem e_call {f : Str} {es : Exs} : (evalE io cb (.call f es) (s :: e)).sat Q X ↔ (evalEs io cb es (s :: e)).sat (fun ds ps e1 => callS (cb.call f ds) ps (fun d p => Q d p e1) (fun x => X x e1)) X := by
  rw [evalE, RsL.sat_bind]; simp only [callR_sat]
theorem e_callk {f : Str} {π : List Nat} {es : Exs} : (evalE io cb (.callk f π es) (s :: e)).sat Q X ↔ (evalEs io cb es (s :: e)).sat (fun ds ps e1 => permOk π ds.length = true ∧ callS (cb.call f (permD .non π ds)) ps (fun d p => Q d p e1) (fun x => X x e1)) X := by
  rw [evalE, RsL.sat_bind]; simp only [ite_sat, callR_sat]
def fnS (o : Option Str) (Q : Str → Prop) : Prop := match o with
  | some f => Q f
  | none => False
theorem e_callv {i : Nat} {fs : List Str} {es : Exs} : (evalE io cb (.callv i fs es) (s :: e)).sat Q X ↔ fnS ((s :: e).getD i .un).fnName fun f => (es.mods.contains i || !(fs.contains f)) = false ∧ (evalEs io cb es (s :: e)).sat (fun ds ps e1 => callS (cb.call f ds) ps (fun d p => Q d p e1) (fun x => X x e1)) X := by
  rw [evalE]
  cases ((s :: e).getD i .un).fnName with
  | none => exact Iff.rfl
  | some f =>
    show (if (es.mods.contains i || !(fs.contains f)) = true then Res.bad else _).sat Q X ↔ (es.mods.contains i || !(fs.contains f)) = false ∧ _
    cases (es.mods.contains i || !(fs.contains f)) with
    | true => simp [Res.sat]
    | false => simp only [Bool.false_eq_true, if_false, RsL.sat_bind, callR_sat, true_and]
def owS (s : Sl) (Q : D → Prop) : Prop := match s with
  | .ow d => Q d
  | _ => False
theorem e_calls {f : Str} {n : Nat} {es : Exs} : (evalE io cb (.calls f n es) (s :: e)).sat Q X ↔ ((s :: e).getD n .un).isUn = false ∧ (evalEs io cb es (s :: e)).sat (fun ds ps e1 => ps.all (· != .bor n) = true ∧ owS (e1.getD n .un) fun d0 => callsS (cb.call f (d0 :: ds)) ps n e1 Q X) X := by
  rw [evalE]
  cases ((s :: e).getD n .un).isUn with
  | true => simp [Res.sat]
  | false =>
    simp only [Bool.false_eq_true, if_false, RsL.sat_bind, ite_sat, true_and]
    refine iff_of_eq (congrArg (fun f => (evalEs io cb es (s :: e)).sat f X) (funext fun ds => funext fun ps => funext fun e1 => congrArg (_ ∧ ·) ?_))
    cases e1.getD n .un with
    | ow d => exact propext callsR_sat
    | sh d => rfl
    | un => rfl
def newS (r : FR) (Q : D → Prop) (X : Xn → Prop) : Prop := match r with
  | .ret .non .own [o] => Q o
  | .exc x [_] => X x
  | _ => False
theorem e_new {C : Str} {π : List Nat} {es : Exs} : (evalE io cb (.new C π es) (s :: e)).sat Q X ↔ (evalEs io cb es (s :: e)).sat (fun ds ps e1 => permOk π ds.length = true ∧ newS (cb.call C (.obj C [] [] :: permD .non π ds)) (fun o => Q o .own e1) (fun x => X x e1)) X := by
  rw [evalE, RsL.sat_bind]
  simp only [ite_sat]
  refine iff_of_eq (congrArg (fun f => (evalEs io cb es (s :: e)).sat f X) (funext fun ds => funext fun ps => funext fun e1 => congrArg (_ ∧ ·) ?_))
  unfold newR newS
  generalize cb.call C (.obj C [] [] :: permD .non π ds) = r
  rcases r with ⟨d, p, ios⟩ | ⟨x, ios⟩ | _
  · cases d <;> cases p <;> rcases ios with _ | ⟨o, _ | ⟨_, _⟩⟩ <;> rfl
  · rcases ios with _ | ⟨o, _ | ⟨_, _⟩⟩ <;> rfl
  · rfl
theorem e_isi {a : Ex} {t : Ty} : (evalE io cb (.isi a t) (s :: e)).sat Q X ↔ (evalE io cb a (s :: e)).sat (fun d _ e1 => cmS (isiD cb.sub d t) fun b => Q (.bl b) .own e1) X := by
  rw [evalE, Res.sat_bind]
  refine iff_of_eq (congrArg (fun f => (evalE io cb a (s :: e)).sat f X) (funext fun x => funext fun p => funext fun e1 => ?_))
  cases isiD cb.sub x t <;> rfl
theorem e_caught {a : Ex} {C : Str} : (evalE io cb (.caught a C) (s :: e)).sat Q X ↔ (evalE io cb a (s :: e)).sat (fun _ _ e1 => Q .non .own e1) (fun x e1 => cb.sub true x.cls C = some true ∧ Q (.exn x.cls x.fs x.vs) .own e1) := by
  rw [evalE]
  unfold caughtR
  cases evalE io cb a (s :: e) with
  | ok d p e1 => exact Iff.rfl
  | bad => exact Iff.rfl
  | exc x e1 =>
    show (match cb.sub true x.cls C with | some true => _ | _ => _ : Res).sat Q X ↔ cb.sub true x.cls C = some true ∧ _
    cases cb.sub true x.cls C with
    | none => simp [Res.sat]
    | some b => cases b <;> simp [Res.sat]
theorem e_bi {f : Bf} {es : Exs} : (evalE io cb (.bi f es) (s :: e)).sat Q X ↔ (evalEs io cb es (s :: e)).sat (fun ds ps e1 => opS (biD f ds) fun d => d.flat = true ∧ Q d .own e1) X := by
  rw [evalE, RsL.sat_bind]; simp only [freshR_sat]
theorem e_mth {i : Nat} {m : Mf} {es : Exs} : (evalE io cb (.mth i m es) (s :: e)).sat Q X ↔ owS ((s :: e).getD i .un) fun x => (!x.isLst || es.mods.contains i) = false ∧ (evalEs io cb es (s :: e)).sat (fun ds ps e1 => argsOk m ds ps = true ∧ prS (mthD m x ds) fun y x' => Q y .own (e1.set i (.ow x'))) X := by
  rw [evalE]
  cases (s :: e).getD i .un with
  | sh d => exact Iff.rfl
  | un => exact Iff.rfl
  | ow x =>
    show (if (!x.isLst || es.mods.contains i) = true then Res.bad else _).sat Q X ↔ (!x.isLst || es.mods.contains i) = false ∧ _
    cases (!x.isLst || es.mods.contains i) with
    | true => simp [Res.sat]
    | false =>
      simp only [Bool.false_eq_true, if_false, RsL.sat_bind, ite_sat, true_and]
      refine iff_of_eq (congrArg (fun f => (evalEs io cb es (s :: e)).sat f X) (funext fun ds => funext fun ps => funext fun e1 => congrArg (_ ∧ ·) ?_))
      cases mthD m x ds <;> rfl
theorem e_mthx {i : Nat} {a : Ex} {m : Mf} {es : Exs} : (evalE io cb (.mthx i a m es) (s :: e)).sat Q X ↔ owS ((s :: e).getD i .un) fun x => (a.mods ++ es.mods).contains i = false ∧ (evalE io cb a (s :: e)).sat (fun k q e1 => (q == .own) = true ∧ opS (ixD x k) fun y => y.isLst = true ∧
    (evalEs io cb es e1).sat (fun ds ps e2 => argsOk m ds ps = true ∧ prS (mthD m y ds) fun z y' => opS (setD x k y') fun x' => Q z .own (e2.set i (.ow x'))) X) X := by
  rw [evalE]
  cases (s :: e).getD i .un with
  | sh d => exact Iff.rfl
  | un => exact Iff.rfl
  | ow x =>
    show (if (a.mods ++ es.mods).contains i = true then Res.bad else _).sat Q X ↔ (a.mods ++ es.mods).contains i = false ∧ _
    cases (a.mods ++ es.mods).contains i with
    | true => simp [Res.sat]
    | false =>
      simp only [Bool.false_eq_true, if_false, Res.sat_bind, ite_sat, true_and]
      refine iff_of_eq (congrArg (fun f => (evalE io cb a (s :: e)).sat f X) (funext fun k => funext fun q => funext fun e1 => congrArg (_ ∧ ·) ?_))
      cases ixD x k with
      | none => rfl
      | some y =>
        show (if (!y.isLst) = true then Res.bad else _).sat Q X = (y.isLst = true ∧ _)
        cases y.isLst with
        | false => simp [Res.sat]
        | true =>
          simp only [Bool.not_true, Bool.false_eq_true, if_false, RsL.sat_bind, ite_sat, true_and]
          refine congrArg (fun f => (evalEs io cb es e1).sat f X) (funext fun ds => funext fun ps => funext fun e2 => congrArg (_ ∧ ·) ?_)
          cases mthD m y ds with
          | none => rfl
          | some zy =>
            obtain ⟨z, y'⟩ := zy
            dsimp only [prS]
            cases setD x k y' <;> rfl
theorem es_nil : (evalEs io cb .nil (s :: e)).sat QL X ↔ QL [] [] (s :: e) := by rw [evalEs]; exact Iff.rfl
theorem es_cons {a : Ex} {es : Exs} : (evalEs io cb (.cons a es) (s :: e)).sat QL X ↔ (evalE io cb a (s :: e)).sat (fun d p e1 => p.waits es.mods = true ∧ (evalEs io cb es e1).sat (fun ds ps e2 => QL (d :: ds) (p :: ps) e2) X) X := by
  rw [evalEs]
  cases evalE io cb a (s :: e) with
  | exc x e1 => exact Iff.rfl
  | bad => exact Iff.rfl
  | ok d p e1 =>
    show (if p.waits es.mods = true then _ else RsL.bad).sat QL X ↔ p.waits es.mods = true ∧ _
    by_cases h : p.waits es.mods = true
    · rw [if_pos h]
      cases evalEs io cb es e1 with
      | ok ds ps e2 => exact ⟨fun z => ⟨h, z⟩, fun z => z.2⟩
      | exc x e2 => exact ⟨fun z => ⟨h, z⟩, fun z => z.2⟩
      | bad => exact ⟨fun z => z.elim, fun z => z.2.elim⟩
    · rw [if_neg h]; exact ⟨fun z => z.elim, fun z => h z.1⟩
theorem its_sat {r : Res} {g : D → Pv → Option (List D)} : (r.its g).sat QL X ↔ r.sat (fun d p e => ltS (g d p) fun ds => QL ds [p] e) X := by
  cases r with
  | ok d p e =>
    show (match g d p with | some ds => IRes.ok ds [p] e | none => .bad).sat QL X ↔ ltS (g d p) _
    cases g d p <;> exact Iff.rfl
  | exc x e => exact Iff.rfl
  | bad => exact Iff.rfl
theorem i_on {a : Ex} : (evalI io cb (.on a) (s :: e)).sat QL X ↔ (evalE io cb a (s :: e)).sat (fun d p e1 => ltS (plainIts d p) fun ds => QL ds [p] e1) X := by rw [evalI, its_sat]
theorem i_rng {es : Exs} : (evalI io cb (.rng es) (s :: e)).sat QL X ↔ (evalEs io cb es (s :: e)).sat (fun ds _ e1 => ltS (rngI ds) fun xs => QL xs [] e1) X := by
  rw [evalI]
  cases evalEs io cb es (s :: e) with
  | ok ds ps e1 =>
    show (match rngI ds with | some xs => IRes.ok xs [] e1 | none => .bad).sat QL X ↔ ltS (rngI ds) _
    cases rngI ds <;> exact Iff.rfl
  | exc x e1 => exact Iff.rfl
  | bad => exact Iff.rfl
theorem i_enu {a : Ex} : (evalI io cb (.enu a) (s :: e)).sat QL X ↔ (evalE io cb a (s :: e)).sat (fun d p e1 => ltS (plainIts d p) fun ds => QL (ds.zipIdx.map fun q => .tup [.int q.2, q.1]) [p] e1) X := by
  rw [evalI, its_sat]
  refine iff_of_eq (congrArg (fun f => (evalE io cb a (s :: e)).sat f X) (funext fun d => funext fun p => funext fun e1 => ?_))
  cases plainIts d p <;> rfl
theorem i_rv {a : Ex} : (evalI io cb (.rv a) (s :: e)).sat QL X ↔ (evalE io cb a (s :: e)).sat (fun d p e1 => ltS (plainIts d p) fun ds => QL ds.reverse [p] e1) X := by
  rw [evalI, its_sat]
  refine iff_of_eq (congrArg (fun f => (evalE io cb a (s :: e)).sat f X) (funext fun d => funext fun p => funext fun e1 => ?_))
  cases plainIts d p <;> rfl
theorem i_zp {a b : Ex} : (evalI io cb (.zp a b) (s :: e)).sat QL X ↔ (evalE io cb a (s :: e)).sat (fun x p e1 => p.waits b.mods = true ∧ (evalE io cb b e1).sat (fun y q e2 => ltS (plainIts x p) fun xs => ltS (plainIts y q) fun ys => (x.isTup == y.isTup) = true ∧ QL (List.zipWith (fun a b => .tup [a, b]) xs ys) [p, q] e2) X) X := by
  rw [evalI]
  cases evalE io cb a (s :: e) with
  | exc x e1 => exact Iff.rfl
  | bad => exact Iff.rfl
  | ok x p e1 =>
    show (if p.waits b.mods = true then _ else IRes.bad).sat QL X ↔ p.waits b.mods = true ∧ _
    by_cases h : p.waits b.mods = true
    · rw [if_pos h]
      cases evalE io cb b e1 with
      | exc x e2 => exact ⟨fun z => ⟨h, z⟩, fun z => z.2⟩
      | bad => exact ⟨fun z => z.elim, fun z => z.2.elim⟩
      | ok y q e2 =>
        refine Iff.trans ?_ (and_iff_right h).symm
        show (match plainIts x p, plainIts y q with
          | some xs, some ys => if (x.isTup == y.isTup) = true then IRes.ok _ [p, q] e2 else .bad
          | _, _ => .bad).sat QL X ↔ ltS (plainIts x p) fun xs => ltS (plainIts y q) _
        cases plainIts x p with
        | none => exact Iff.rfl
        | some xs =>
          cases plainIts y q with
          | none => exact Iff.rfl
          | some ys =>
            show (if (x.isTup == y.isTup) = true then IRes.ok _ [p, q] e2 else .bad).sat QL X ↔ (x.isTup == y.isTup) = true ∧ _
            by_cases h2 : (x.isTup == y.isTup) = true
            · rw [if_pos h2]; exact ⟨fun z => ⟨h2, z⟩, fun z => z.2⟩
            · rw [if_neg h2]; exact ⟨fun z => z.elim, fun z => h2 z.1⟩
    · rw [if_neg h]; exact ⟨fun z => z.elim, fun z => h z.1⟩
/-- a comprehension: its loop -/
def cpS (o : Option (List D × Envv)) (Q : List D → Envv → Prop) : Prop := match o with
  | some r => Q r.1 r.2
  | none => False
theorem e_comp {t : Tg} {it : It} {c el : Ex} : (evalE io cb (.comp t it c el) (s :: e)).sat Q X ↔ (evalI io cb it (s :: e)).sat (fun ds ps e1 => (wipeOk io e1 t.slots && ps.all (·.waits (t.slots ++ (c.mods ++ el.mods)))) = true ∧
    cpS (compLoop io t t.slots (evalE io cb c) (evalE io cb el) ds (wipeS e1 t.slots) []) fun acc e2 => Q (.lst acc) .own (backS e1 e2 t.slots)) X := by
  rw [evalE]
  cases evalI io cb it (s :: e) with
  | exc x e1 => exact Iff.rfl
  | bad => exact Iff.rfl
  | ok ds ps e1 =>
    show (if (wipeOk io e1 t.slots && ps.all (·.waits (t.slots ++ (c.mods ++ el.mods)))) = true then _ else Res.bad).sat Q X ↔ _ ∧ _
    rw [ite_sat]
    refine and_congr_right fun _ => ?_
    cases compLoop io t t.slots (evalE io cb c) (evalE io cb el) ds (wipeS e1 t.slots) [] <;> exact Iff.rfl
end
end DL
end
section
set_option Elab.async false
set_option linter.all false
set_option maxRecDepth 100000
/-! D layer, 41: statements, loops, calls. -/
namespace DL
open PySem
section
variable {io : List Nat} {cb : Cb} {e : Envv} {s : Sl} {P : Post5}
theorem Out.sat_bind {r : Res} {f : D → Pv → Envv → Out} : (Out.bind r f).sat P ↔ r.sat (fun d p e => (f d p e).sat P) P.X := by cases r <;> rfl
theorem Out.sat_mono {o : Out} {P P' : Post5} (h : o.sat P) (hN : ∀ e, P.N e → P'.N e) (hR : ∀ d p e, P.R d p e → P'.R d p e) (hX : ∀ x e, P.X x e → P'.X x e) (hB : ∀ e, P.B e → P'.B e) (hC : ∀ e, P.C e → P'.C e) : o.sat P' := by
  cases o <;> first | exact hN _ h | exact hR _ _ _ h | exact hB _ h | exact hC _ h | exact hX _ _ h | exact h
theorem evs_sat {o : Option Envv} : (match o with | some e2 => Out.nx e2 | none => .bad).sat P ↔ evS o P.N := by cases o <;> exact Iff.rfl
theorem oite_sat {c : Prop} [Decidable c] {a : Out} : (if c then a else .bad).sat P ↔ c ∧ a.sat P := by
  by_cases h : c
  · rw [if_pos h]; exact ⟨fun z => ⟨h, z⟩, fun z => z.2⟩
  · rw [if_neg h]; exact ⟨fun z => z.elim, fun z => h z.1⟩
theorem s_nm {i : Nat} {fr : Bool} {a : Ex} : (exec io cb (.asg (.nm i) fr a) (s :: e)).sat P ↔ (evalE io cb a (s :: e)).sat (fun d p e1 => evS (setSl io e1 i fr d p) P.N) P.X := by
  rw [exec, Out.sat_bind]
  refine iff_of_eq (congrArg (fun f => (evalE io cb a (s :: e)).sat f P.X) (funext fun d => funext fun p => funext fun e1 => ?_))
  cases h : setSl io e1 i fr d p <;> simp only [h, evS] <;> rfl
theorem s_tp {is : List Nat} {fr : Bool} {a : Ex} : (exec io cb (.asg (.tp is) fr a) (s :: e)).sat P ↔ (evalE io cb a (s :: e)).sat (fun d p e1 => p.nb = true ∧ evS (setTg io e1 (.tp is) d) P.N) P.X := by
  rw [exec, Out.sat_bind]
  refine iff_of_eq (congrArg (fun f => (evalE io cb a (s :: e)).sat f P.X) (funext fun d => funext fun p => funext fun e1 => ?_))
  cases p with
  | bor r => simp [Out.sat, Pv.nb]
  | own => exact propext (evs_sat.trans ⟨fun z => ⟨rfl, z⟩, fun z => z.2⟩)
  | shr => exact propext (evs_sat.trans ⟨fun z => ⟨rfl, z⟩, fun z => z.2⟩)
theorem s_par {is : List Nat} {frs : List Bool} {es : Exs} : (exec io cb (.par is frs es) (s :: e)).sat P ↔ (evalEs io cb es (s :: e)).sat (fun ds ps e1 => evS (setAll io e1 is frs ds ps) P.N) P.X := by
  rw [exec]
  cases evalEs io cb es (s :: e) with
  | ok ds ps e1 => exact evs_sat
  | exc x e1 => exact Iff.rfl
  | bad => exact Iff.rfl
theorem s_setx {i : Nat} {a v : Ex} : (exec io cb (.setx i a v) (s :: e)).sat P ↔ (evalE io cb v (s :: e)).sat (fun d p e1 => (p == .own && !(a.mods.contains i) && !(e1.getD i .un).isUn) = true ∧ (evalE io cb a e1).sat (fun k _ e2 => owS (e2.getD i .un) fun x => opS (setD x k d) fun x' => P.N (e2.set i (.ow x'))) P.X) P.X := by
  rw [exec, Out.sat_bind]
  simp only [oite_sat, Out.sat_bind]
  refine iff_of_eq (congrArg (fun f => (evalE io cb v (s :: e)).sat f P.X) (funext fun d => funext fun p => funext fun e1 => congrArg (_ ∧ ·) (congrArg (fun f => (evalE io cb a e1).sat f P.X) (funext fun k => funext fun q => funext fun e2 => ?_))))
  cases e2.getD i .un with
  | ow x => show (match setD x k d with | some x' => Out.nx _ | none => .bad).sat P = _; cases h : setD x k d <;> simp only [owS, opS, h] <;> rfl
  | sh x => rfl
  | un => rfl
theorem s_setxx {i : Nat} {a b v : Ex} : (exec io cb (.setxx i a b v) (s :: e)).sat P ↔ (evalE io cb v (s :: e)).sat (fun d p e1 => (p == .own && !((a.mods ++ b.mods).contains i) && !(e1.getD i .un).isUn) = true ∧ (evalE io cb a e1).sat (fun k _ e2 => owS (e2.getD i .un) fun x => opS (ixD x k) fun y =>
    (evalE io cb b e2).sat (fun l _ e3 => opS (setD y l d) fun y' => opS (setD x k y') fun x' => P.N (e3.set i (.ow x'))) P.X) P.X) P.X := by
  rw [exec, Out.sat_bind]
  simp only [oite_sat, Out.sat_bind]
  refine iff_of_eq (congrArg (fun f => (evalE io cb v (s :: e)).sat f P.X) (funext fun d => funext fun p => funext fun e1 => congrArg (_ ∧ ·) (congrArg (fun f => (evalE io cb a e1).sat f P.X) (funext fun k => funext fun q => funext fun e2 => ?_))))
  cases e2.getD i .un with
  | sh x => rfl
  | un => rfl
  | ow x =>
    simp only [owS]
    cases ixD x k with
    | none => rfl
    | some y =>
      simp only [opS, Out.sat_bind]
      refine congrArg (fun f => (evalE io cb b e2).sat f P.X) (funext fun l => funext fun r => funext fun e3 => ?_)
      cases setD y l d with
      | none => rfl
      | some y' =>
        dsimp only
        cases setD x k y' <;> rfl
theorem s_setf {i : Nat} {C' f : Str} {v : Ex} : (exec io cb (.setf i C' f v) (s :: e)).sat P ↔ (evalE io cb v (s :: e)).sat (fun d p e1 => (p == .own) = true ∧ owS (e1.getD i .un) fun x => ∃ C fs vs, x = .obj C fs vs ∧ C' = C ∧ fs.length < 1000 ∧ P.N (e1.set i (.ow (.obj C (putF fs vs f d).1 (putF fs vs f d).2)))) P.X := by
  rw [exec, Out.sat_bind]
  simp only [oite_sat]
  refine iff_of_eq (congrArg (fun f => (evalE io cb v (s :: e)).sat f P.X) (funext fun d => funext fun p => funext fun e1 => congrArg (_ ∧ ·) ?_))
  cases e1.getD i .un with
  | sh x => rfl
  | un => rfl
  | ow x =>
    simp only [owS]
    cases x <;> first | (simp [Out.sat]; done) | skip
    rename_i C fs vs
    dsimp only
    rw [oite_sat]
    simp only [Bool.and_eq_true, decide_eq_true_eq, D.obj.injEq]
    refine propext ⟨fun ⟨⟨h1, h2⟩, h3⟩ => ⟨C, fs, vs, ⟨rfl, rfl, rfl⟩, h1, h2, h3⟩, ?_⟩
    rintro ⟨C1, fs1, vs1, ⟨rfl, rfl, rfl⟩, h1, h2, h3⟩
    exact ⟨⟨h1, h2⟩, h3⟩
theorem s_aug_ow {i : Nat} {op : Operator} {v : Ex} {k : Int} (hs : (s :: e).getD i .un = .ow (.int k)) : (exec io cb (.aug i op v) (s :: e)).sat P ↔ (evalE io cb v (s :: e)).sat (fun d _ e1 => opS (binD op (.int k) d) fun y => i ∉ io ∧ P.N (e1.set i (.ow y))) P.X := by
  rw [exec, hs]
  dsimp only
  rw [Out.sat_bind]
  refine iff_of_eq (congrArg (fun f => (evalE io cb v (s :: e)).sat f P.X) (funext fun d => funext fun p => funext fun e1 => ?_))
  cases binD op (.int k) d with
  | none => rfl
  | some y =>
    show (if io.contains i = true then Out.bad else _).sat P = (i ∉ io ∧ _)
    by_cases h : i ∈ io
    · rw [if_pos (by simpa using h)]; exact propext ⟨fun z => z.elim, fun z => z.1 h⟩
    · rw [if_neg (by simpa using h)]; exact propext ⟨fun z => ⟨h, z⟩, fun z => z.2⟩
theorem s_aug_sh {i : Nat} {op : Operator} {v : Ex} {k : Int} (hs : (s :: e).getD i .un = .sh (.int k)) : (exec io cb (.aug i op v) (s :: e)).sat P ↔ (evalE io cb v (s :: e)).sat (fun d _ e1 => opS (binD op (.int k) d) fun y => i ∉ io ∧ P.N (e1.set i (.sh y))) P.X := by
  rw [exec, hs]
  dsimp only
  rw [Out.sat_bind]
  refine iff_of_eq (congrArg (fun f => (evalE io cb v (s :: e)).sat f P.X) (funext fun d => funext fun p => funext fun e1 => ?_))
  cases binD op (.int k) d with
  | none => rfl
  | some y =>
    show (if io.contains i = true then Out.bad else _).sat P = (i ∉ io ∧ _)
    by_cases h : i ∈ io
    · rw [if_pos (by simpa using h)]; exact propext ⟨fun z => z.elim, fun z => z.1 h⟩
    · rw [if_neg (by simpa using h)]; exact propext ⟨fun z => ⟨h, z⟩, fun z => z.2⟩
theorem s_ex {a : Ex} : (exec io cb (.ex a) (s :: e)).sat P ↔ (evalE io cb a (s :: e)).sat (fun _ _ e1 => P.N e1) P.X := by rw [exec, Out.sat_bind]; exact Iff.rfl
theorem s_ret {a : Ex} : (exec io cb (.ret a) (s :: e)).sat P ↔ (evalE io cb a (s :: e)).sat (fun d p e1 => p.nb = true ∧ P.R d p e1) P.X := by
  rw [exec, Out.sat_bind]
  refine iff_of_eq (congrArg (fun f => (evalE io cb a (s :: e)).sat f P.X) (funext fun d => funext fun p => funext fun e1 => ?_))
  cases p with
  | bor r => simp [Out.sat, Pv.nb]
  | own => exact propext ⟨fun z => ⟨rfl, z⟩, fun z => z.2⟩
  | shr => exact propext ⟨fun z => ⟨rfl, z⟩, fun z => z.2⟩
theorem s_ite {c : Ex} {a b : Sts} : (exec io cb (.ite c a b) (s :: e)).sat P ↔ (evalE io cb c (s :: e)).sat (fun d _ e1 => blS d fun k => (k = true → (execs io cb a e1).sat P) ∧ (k = false → (execs io cb b e1).sat P)) P.X := by
  rw [exec, Out.sat_bind]
  refine iff_of_eq (congrArg (fun f => (evalE io cb c (s :: e)).sat f P.X) (funext fun d => funext fun p => funext fun e1 => ?_))
  cases d with
  | bl k => cases k <;> simp [blS]
  | _ => rfl
theorem s_brk : (exec io cb .brk (s :: e)).sat P ↔ P.B (s :: e) := by rw [exec]; exact Iff.rfl
theorem s_cnt : (exec io cb .cnt (s :: e)).sat P ↔ P.C (s :: e) := by rw [exec]; exact Iff.rfl
theorem s_pss : (exec io cb .pss (s :: e)).sat P ↔ P.N (s :: e) := by rw [exec]; exact Iff.rfl
theorem s_rais {C : Str} : (exec io cb (.rais C [] .nil) (s :: e)).sat P ↔ P.X ⟨C, [], []⟩ (s :: e) := by
  rw [exec, evalEs]
  show (if ([] : List Str) = [] then Out.exc ⟨C, [], []⟩ (s :: e) else _).sat P ↔ _
  rw [if_pos rfl]; exact Iff.rfl
theorem ss_nil : (execs io cb .nil (s :: e)).sat P ↔ P.N (s :: e) := by rw [execs]; exact Iff.rfl
theorem ss_cons {st : St} {ss : Sts} : (execs io cb (.cons st ss) (s :: e)).sat P ↔ (exec io cb st (s :: e)).sat { P with N := fun e' => (execs io cb ss e').sat P } := by
  rw [execs]
  cases exec io cb st (s :: e) <;> exact Iff.rfl
/-! loops -/
theorem forLoop_sat {t : Tg} {body : Envv → Out} (I : List D → Envv → Prop) (hs : ∀ d ds e1, I (d :: ds) e1 → evS (setTg io e1 t d) fun e2 => (body e2).sat { P with N := I ds, C := I ds, B := P.N }) (hend : ∀ e1, I [] e1 → P.N e1) : ∀ (ds : List D) (e1 : Envv), I ds e1 → (forLoop io t body ds e1).sat P
  | [], e1, h => hend e1 h
  | d :: ds, e1, h => by
    have q := hs d ds e1 h
    rw [forLoop]
    cases hz : setTg io e1 t d with
    | none => rw [hz] at q; exact q.elim
    | some e2 =>
      rw [hz] at q
      have q : (body e2).sat { P with N := I ds, C := I ds, B := P.N } := q
      dsimp only
      cases hb : body e2 with
      | nx e3 => rw [hb] at q; exact forLoop_sat I hs hend ds e3 q
      | ct e3 => rw [hb] at q; exact forLoop_sat I hs hend ds e3 q
      | bk e3 => rw [hb] at q; exact q
      | rt d p e3 => rw [hb] at q; exact q
      | exc x e3 => rw [hb] at q; exact q
      | bad => rw [hb] at q; exact q
theorem for_rule {t : Tg} {it : It} {b : Sts} (I : List D → Envv → Prop) (h : (evalI io cb it (s :: e)).sat (fun ds ps e1 => ps.all (·.waits (t.slots ++ b.mods)) = true ∧ I ds e1) P.X)
    (hs : ∀ d ds e1, I (d :: ds) e1 → evS (setTg io e1 t d) fun e2 => (execs io cb b e2).sat { P with N := I ds, C := I ds, B := P.N }) (hend : ∀ e1, I [] e1 → P.N e1) : (exec io cb (.for t it b) (s :: e)).sat P := by
  rw [exec]
  cases hi : evalI io cb it (s :: e) with
  | exc x e1 => rw [hi] at h; exact h
  | bad => rw [hi] at h; exact h.elim
  | ok ds ps e1 =>
    rw [hi] at h
    obtain ⟨h1, h2⟩ : ps.all (·.waits (t.slots ++ b.mods)) = true ∧ I ds e1 := h
    dsimp only
    rw [if_pos h1]
    exact forLoop_sat I hs hend ds e1 h2
/-- a loop over a list of data told by a function; done, to come -/
theorem for_map {α : Type} {t : Tg} {it : It} {b : Sts} (f : α → D) (xs : List α) (I : List α → List α → Envv → Prop) (h : (evalI io cb it (s :: e)).sat (fun ds ps e1 => ps.all (·.waits (t.slots ++ b.mods)) = true ∧ ds = xs.map f ∧ I [] xs e1) P.X)
    (hs : ∀ pre x post e1, xs = pre ++ x :: post → I pre (x :: post) e1 → evS (setTg io e1 t (f x)) fun e2 => (execs io cb b e2).sat { P with N := I (pre ++ [x]) post, C := I (pre ++ [x]) post, B := P.N }) (hend : ∀ e1, I xs [] e1 → P.N e1) : (exec io cb (.for t it b) (s :: e)).sat P := by
  refine for_rule (fun ds e1 => ∃ pre post, xs = pre ++ post ∧ ds = post.map f ∧ I pre post e1) ?_ ?_ ?_
  · cases hi : evalI io cb it (s :: e) with
    | exc x e1 => rw [hi] at h; exact h
    | bad => rw [hi] at h; exact h.elim
    | ok ds ps e1 =>
      rw [hi] at h
      obtain ⟨h1, h2, h3⟩ : ps.all (·.waits (t.slots ++ b.mods)) = true ∧ ds = xs.map f ∧ I [] xs e1 := h
      exact ⟨h1, [], xs, rfl, h2, h3⟩
  · rintro d ds e1 ⟨pre, post, hx, hd, hI⟩
    cases post with
    | nil => cases hd
    | cons x post =>
      rw [List.map_cons, List.cons.injEq] at hd
      obtain ⟨rfl, rfl⟩ := hd
      have q := hs pre x post e1 hx hI
      cases hz : setTg io e1 t (f x) with
      | none => rw [hz] at q; exact q.elim
      | some e2 =>
        rw [hz] at q
        have q' : (execs io cb b e2).sat _ := q
        have hx' : xs = (pre ++ [x]) ++ post := by rw [hx]; simp
        exact Out.sat_mono q' (fun e3 z => ⟨_, post, hx', rfl, z⟩) (fun _ _ _ z => z) (fun _ _ z => z) (fun _ z => z) (fun e3 z => ⟨_, post, hx', rfl, z⟩)
  · rintro e1 ⟨pre, post, hx, hd, hI⟩
    cases post with
    | nil =>
      rw [List.append_nil] at hx
      rw [← hx] at hI
      exact hend e1 hI
    | cons x post => cases hd
theorem whileLoop_sat {c : Envv → Res} {body : Envv → Out} (I : Nat → Envv → Prop) (hs : ∀ n e1, I n e1 → (c e1).sat (fun d _ e2 => blS d fun k => (k = true → (body e2).sat { P with N := fun e3 => ∃ m, m < n ∧ I m e3, C := fun e3 => ∃ m, m < n ∧ I m e3, B := P.N }) ∧ (k = false → P.N e2)) P.X) :
    ∀ (N n : Nat) (e1 : Envv), n < N → I n e1 → (whileLoop c body N e1).sat P
  | 0, n, e1, h, _ => absurd h (Nat.not_lt_zero _)
  | N + 1, n, e1, hn, h => by
    have q := hs n e1 h
    rw [whileLoop]
    cases hc : c e1 with
    | exc x e2 => rw [hc] at q; exact q
    | bad => rw [hc] at q; exact q.elim
    | ok d p e2 =>
      rw [hc] at q
      cases d with
      | bl k =>
        obtain ⟨q1, q2⟩ : (k = true → _) ∧ (k = false → _) := q
        cases k with
        | false => exact q2 rfl
        | true =>
          have q1 := q1 rfl
          dsimp only
          cases hb : body e2 with
          | nx e3 => rw [hb] at q1; obtain ⟨m, hm, hI⟩ := q1; exact whileLoop_sat I hs N m e3 (by omega) hI
          | ct e3 => rw [hb] at q1; obtain ⟨m, hm, hI⟩ := q1; exact whileLoop_sat I hs N m e3 (by omega) hI
          | bk e3 => rw [hb] at q1; exact q1
          | rt d p e3 => rw [hb] at q1; exact q1
          | exc x e3 => rw [hb] at q1; exact q1
          | bad => rw [hb] at q1; exact q1
      | _ => exact q.elim
theorem while_rule {c : Ex} {b : Sts} (I : Nat → Envv → Prop) (n : Nat) (h0 : I n (s :: e)) (hn : n < 1000000000)
    (hs : ∀ n e1, I n e1 → (evalE io cb c e1).sat (fun d _ e2 => blS d fun k => (k = true → (execs io cb b e2).sat { P with N := fun e3 => ∃ m, m < n ∧ I m e3, C := fun e3 => ∃ m, m < n ∧ I m e3, B := P.N }) ∧ (k = false → P.N e2)) P.X) : (exec io cb (.whl c b) (s :: e)).sat P := by
  rw [exec]
  exact whileLoop_sat I hs WF n (s :: e) hn h0
/-! comprehensions -/
theorem comp_inv {t : Tg} {own : List Nat} {c el : Ex} {Q : List D → Envv → Prop} (I : List D → List D → Envv → Prop)
    (hs : ∀ d ds acc e, I (d :: ds) acc e → evS (setTg io e t d) fun e1 => (evalE io cb c e1).sat (fun k _ e2 => blS k fun k => (k = true → (evalE io cb el e2).sat (fun y p e3 => p = .own ∧ acc.length < SZ ∧ I ds (acc ++ [y]) (wipeS e3 own)) fun _ _ => False) ∧ (k = false → I ds acc (wipeS e2 own))) fun _ _ => False)
    (hend : ∀ acc e, I [] acc e → Q acc e) : ∀ (ds acc : List D) (e : Envv), I ds acc e → cpS (compLoop io t own (evalE io cb c) (evalE io cb el) ds e acc) Q
  | [], acc, e, h => hend acc e h
  | d :: ds, acc, e, h => by
    have q := hs d ds acc e h
    rw [compLoop]
    cases hz : setTg io e t d with
    | none => rw [hz] at q; exact q.elim
    | some e1 =>
      rw [hz] at q
      have q : (evalE io cb c e1).sat _ _ := q
      dsimp only
      cases hc : evalE io cb c e1 with
      | exc x e2 => rw [hc] at q; exact q.elim
      | bad => rw [hc] at q; exact q.elim
      | ok k p e2 =>
        rw [hc] at q
        cases k with
        | bl k =>
          obtain ⟨q1, q2⟩ : (k = true → _) ∧ (k = false → _) := q
          cases k with
          | false => exact comp_inv I hs hend ds acc _ (q2 rfl)
          | true =>
            have q1 := q1 rfl
            dsimp only
            cases he : evalE io cb el e2 with
            | exc x e3 => rw [he] at q1; exact q1.elim
            | bad => rw [he] at q1; exact q1.elim
            | ok y p e3 =>
              rw [he] at q1
              obtain ⟨rfl, hl, hI⟩ : p = .own ∧ acc.length < SZ ∧ I ds (acc ++ [y]) (wipeS e3 own) := q1
              dsimp only
              rw [if_pos hl]
              exact comp_inv I hs hend ds _ _ hI
        | _ => exact q.elim
/-- a comprehension that changes nothing: what is kept, mapped -/
theorem comp_map {α : Type} {t : Tg} {own : List Nat} {c el : Ex} {Q : List D → Envv → Prop} {e : Envv} (f : α → D) (xs : List α) (p : α → Bool) (g : α → D) (hl : xs.length ≤ SZ)
    (h : ∀ x ∈ xs, evS (setTg io e t (f x)) fun e1 => (evalE io cb c e1).sat (fun k _ e2 => k = .bl (p x) ∧ (p x = true → (evalE io cb el e2).sat (fun y q e3 => y = g x ∧ q = .own ∧ wipeS e3 own = e) fun _ _ => False) ∧ (p x = false → wipeS e2 own = e)) fun _ _ => False)
    (hQ : Q ((xs.filter p).map g) e) : cpS (compLoop io t own (evalE io cb c) (evalE io cb el) (xs.map f) e []) Q := by
  refine comp_inv (fun ds acc e' => e' = e ∧ ∃ pre post, xs = pre ++ post ∧ ds = post.map f ∧ acc = (pre.filter p).map g) ?_ ?_ _ _ _ ⟨rfl, [], xs, rfl, rfl, rfl⟩
  · rintro d ds acc e' ⟨rfl, pre, post, hx, hd, rfl⟩
    cases post with
    | nil => cases hd
    | cons x post =>
      rw [List.map_cons, List.cons.injEq] at hd
      obtain ⟨rfl, rfl⟩ := hd
      have q := h x (by rw [hx]; simp)
      have hx' : xs = (pre ++ [x]) ++ post := by rw [hx]; simp
      cases hz : setTg io e' t (f x) with
      | none => rw [hz] at q; exact q.elim
      | some e1 =>
        rw [hz] at q
        have q : (evalE io cb c e1).sat _ _ := q
        show (evalE io cb c e1).sat _ _
        refine Res.sat_mono q fun k r e2 ⟨z1, z2, z3⟩ => ?_
        subst z1
        refine ⟨fun hp => ?_, fun hp => ?_⟩
        · refine Res.sat_mono (z2 hp) fun y r2 e3 ⟨y1, y2, y3⟩ => ⟨y2, ?_, y3, pre ++ [x], post, hx', rfl, ?_⟩
          · have : ((pre.filter p).map g).length ≤ pre.length := by rw [List.length_map]; exact List.length_filter_le _ _
            have : pre.length < xs.length := by rw [hx]; simp
            omega
          · rw [List.filter_append, List.map_append, List.filter_cons, if_pos hp, y1]; rfl
        · exact ⟨z3 hp, pre ++ [x], post, hx', rfl, by rw [List.filter_append, List.filter_cons, if_neg (by rw [hp]; simp)]; simp⟩
  · rintro acc e' ⟨rfl, pre, post, hx, hd, rfl⟩
    cases post with
    | nil => rw [List.append_nil] at hx; rw [← hx]; exact hQ
    | cons x post => cases hd
/-! defs -/
theorem runF_sat {fn : Fnc} {ds : List D} {Q : D → Pv → List D → Prop} {X : Xn → List D → Prop} (hl : ds.length = fn.np) (h : (execs fn.ios cb fn.body (enter fn ds)).sat
      { N := fun e => ∃ ios, iosOf e fn.ios = some ios ∧ Q .non .own ios, R := fun d p e => p.nb = true ∧ ∃ ios, iosOf e fn.ios = some ios ∧ Q d p ios, X := fun x e => ∃ ios, iosOf e fn.ios = some ios ∧ X x ios }) : (runF cb fn ds).sat Q X := by
  unfold runF
  rw [if_pos hl]
  cases ho : execs fn.ios cb fn.body (enter fn ds) with
  | nx e =>
    rw [ho] at h
    obtain ⟨ios, h1, h2⟩ : ∃ ios, iosOf e fn.ios = some ios ∧ Q .non .own ios := h
    have : finish fn (.nx e) = .ret .non .own ios := by unfold finish; dsimp only; rw [h1]
    rw [this]; exact h2
  | rt d p e =>
    rw [ho] at h
    obtain ⟨hn, ios, h1, h2⟩ : p.nb = true ∧ ∃ ios, iosOf e fn.ios = some ios ∧ Q d p ios := h
    have : finish fn (.rt d p e) = .ret d p ios := by
      unfold finish retR
      cases p with
      | bor r => cases hn
      | own => dsimp only; rw [h1]
      | shr => dsimp only; rw [h1]
    rw [this]; exact h2
  | bk e => rw [ho] at h; exact h.elim
  | ct e => rw [ho] at h; exact h.elim
  | exc x e =>
    rw [ho] at h
    obtain ⟨ios, h1, h2⟩ : ∃ ios, iosOf e fn.ios = some ios ∧ X x ios := h
    have : finish fn (.exc x e) = .exc x ios := by unfold finish; dsimp only; rw [h1]
    rw [this]; exact h2
  | bad => rw [ho] at h; exact h.elim
theorem FR.sat_ret {r : FR} {d : D} {p : Pv} {ios : List D} (h : r.sat (fun d' p' ios' => d' = d ∧ p' = p ∧ ios' = ios) fun _ _ => False) : r = .ret d p ios := by
  cases r with
  | ret d' p' ios' => obtain ⟨rfl, rfl, rfl⟩ := h; rfl
  | exc x i => exact h.elim
  | bad => exact h.elim
theorem FR.sat_exc {r : FR} {x : Xn} {ios : List D} (h : r.sat (fun _ _ _ => False) fun x' ios' => x' = x ∧ ios' = ios) : r = .exc x ios := by
  cases r with
  | ret d' p' ios' => exact h.elim
  | exc x i => obtain ⟨rfl, rfl⟩ := h; rfl
  | bad => exact h.elim
theorem FR.sat_ex {r : FR} {Q : D → Pv → List D → Prop} (h : r.sat Q fun _ _ => False) : ∃ d p ios, r = .ret d p ios ∧ Q d p ios := by
  cases r with
  | ret d' p' ios' => exact ⟨_, _, _, rfl, h⟩
  | exc x i => exact h.elim
  | bad => exact h.elim
end
end DL
end
section
set_option Elab.async false
set_option linter.all false
set_option maxRecDepth 100000
/-! D layer, 42: the operations on encoded data. -/
namespace DL
open PySem
abbrev lI (ns : List Int) : D := .lst (ns.map .int)
abbrev lT (ts : List (List Int)) : D := .lst (ts.map tupI)
abbrev lL (ts : List (List Int)) : D := .lst (ts.map lI)
abbrev tT (ts : List (List Int)) : D := .tup (ts.map tupI)
section
variable {io : List Nat} {e : Envv} {Q : D → Prop} {QB : Bool → Prop} {N : Envv → Prop} {i j : Int} {xs ys : List D} {ns ms : List Int} {ts us : List (List Int)} {p : Pv} {n m : Nat} {d : D}
/-! immutable, flat -/
theorem imm_non : D.non.imm = true := rfl
theorem imm_bl {b : Bool} : (D.bl b).imm = true := rfl
theorem imm_int : (D.int i).imm = true := rfl
theorem imm_str {x : Str} : (D.str x).imm = true := rfl
theorem imm_fn {x : Str} : (D.fn x).imm = true := rfl
theorem imm_exn {C : Str} {fs : List Str} {vs : List D} : (D.exn C fs vs).imm = true := rfl
theorem imm_scr : (D.scr ns).imm = true := rfl
theorem imm_tup : (D.tup xs).imm = D.immL xs := rfl
theorem imm_lst : (D.lst xs).imm = false := rfl
theorem imm_dct {ks vs : List D} : (D.dct ks vs).imm = false := rfl
theorem imm_obj {C : Str} {fs : List Str} {vs : List D} : (D.obj C fs vs).imm = false := rfl
theorem immL_nil : D.immL [] = true := rfl
theorem immL_cons : D.immL (d :: xs) = (d.imm && D.immL xs) := rfl
theorem immL_ints : D.immL (ns.map .int) = true := by induction ns with
  | nil => rfl
  | cons a r ih => exact ih
theorem imm_tupI : (tupI ns).imm = true := immL_ints
theorem immL_map {α : Type} {f : α → D} (h : ∀ x, (f x).imm = true) : ∀ {l : List α}, D.immL (l.map f) = true
  | [] => rfl
  | a :: r => by rw [List.map_cons, immL_cons, h a, immL_map h]; rfl
theorem immL_tupI : D.immL (ts.map tupI) = true := immL_map fun _ => imm_tupI
theorem immL_sub {α : Type} {f : α → D} (h : ∀ x, (f x).imm = true) {l : List α} : D.immL (l.map f) = true := immL_map h
theorem flat_imm (h : d.imm = true) (h2 : d.isLst = false := by rfl) : d.flat = true := by cases d <;> first | exact h | (cases h2; done) | rfl | (cases h; done)
theorem flat_non : D.non.flat = true := rfl
theorem flat_bl {b : Bool} : (D.bl b).flat = true := rfl
theorem flat_int : (D.int i).flat = true := rfl
theorem flat_str {x : Str} : (D.str x).flat = true := rfl
theorem flat_tup : (D.tup xs).flat = D.immL xs := rfl
theorem flat_tupI : (tupI ns).flat = true := imm_tupI
theorem flat_lst : (D.lst xs).flat = D.immL xs := rfl
/-! whose -/
theorem of_imm (h : d.imm = true) : Pv.of d p = .own := by unfold Pv.of; rw [if_pos h]
theorem of_mut (h : d.imm = false) : Pv.of d p = p := by unfold Pv.of; rw [h]; rfl
theorem w_own {ms : List Nat} : Pv.own.waits ms = true := rfl
theorem w_shr {ms : List Nat} : Pv.shr.waits ms = true := rfl
theorem w_bor {ms : List Nat} : (Pv.bor n).waits ms = !ms.contains n := rfl
theorem nb_own : Pv.own.nb = true := rfl
theorem nb_shr : Pv.shr.nb = true := rfl
theorem nb_bor : (Pv.bor n).nb = false := rfl
theorem nobor_nil : noBor [] = true := rfl
theorem nobor_cons {ps : List Pv} : noBor (p :: ps) = (p.nb && noBor ps) := rfl
theorem beq_oo : (Pv.own == Pv.own) = true := rfl
theorem beq_so : (Pv.shr == Pv.own) = false := rfl
theorem beq_bo : (Pv.bor n == Pv.own) = false := rfl
theorem bne_ob : (Pv.own != Pv.bor n) = true := rfl
theorem bne_sb : (Pv.shr != Pv.bor n) = true := rfl
theorem bne_bb : (Pv.bor m != Pv.bor n) = (m != n) := by
  show (!decide (Pv.bor m = Pv.bor n)) = (!decide (m = n))
  simp
theorem keep_imm {QP : Pv → Prop} (h : d.imm = true) : keepS d p QP ↔ QP .own := by unfold keepS; rw [if_pos h]
theorem keep_bor {QP : Pv → Prop} (h : d.imm = false) : keepS d (.bor n) QP ↔ QP (.bor n) := by unfold keepS; rw [h]; exact Iff.rfl
theorem keep_shr {QP : Pv → Prop} (h : d.imm = false) : keepS d .shr QP ↔ QP .shr := by unfold keepS; rw [h]; exact Iff.rfl
/-! slots -/
theorem ev_some : evS (some e) N ↔ N e := Iff.rfl
theorem set_own {fr : Bool} : evS (setSl io e n fr d .own) N ↔ n ∉ io ∧ N (e.set n (if fr then .sh d else .ow d)) := by
  unfold setSl
  by_cases h : n ∈ io
  · rw [if_pos (by simpa using h)]; exact ⟨fun z => z.elim, fun z => z.1 h⟩
  · rw [if_neg (by simpa using h)]; exact ⟨fun z => ⟨h, z⟩, fun z => z.2⟩
theorem set_shr {fr : Bool} : evS (setSl io e n fr d .shr) N ↔ n ∉ io ∧ N (e.set n (.sh d)) := by
  unfold setSl
  by_cases h : n ∈ io
  · rw [if_pos (by simpa using h)]; exact ⟨fun z => z.elim, fun z => z.1 h⟩
  · rw [if_neg (by simpa using h)]; exact ⟨fun z => ⟨h, z⟩, fun z => z.2⟩
theorem setAll_nil : evS (setAll io e [] [] [] []) N ↔ N e := Iff.rfl
theorem setAll_cons {is : List Nat} {f : Bool} {fs : List Bool} {ds : List D} {ps : List Pv} : evS (setAll io e (n :: is) (f :: fs) (d :: ds) (p :: ps)) N ↔ evS (setSl io e n f d p) fun e1 => evS (setAll io e1 is fs ds ps) N := by
  rw [setAll]
  cases setSl io e n f d p <;> exact Iff.rfl
theorem setTg_nm : evS (setTg io e (.nm n) d) N ↔ n ∉ io ∧ N (e.set n (.sh d)) := by
  unfold setTg
  by_cases h : n ∈ io
  · dsimp only; rw [if_pos (by simpa using h)]; exact ⟨fun z => z.elim, fun z => z.1 h⟩
  · dsimp only; rw [if_neg (by simpa using h)]; exact ⟨fun z => ⟨h, z⟩, fun z => z.2⟩
theorem setTg_tp {is : List Nat} : evS (setTg io e (.tp is) (.tup xs)) N ↔ evS (setTp io e is xs) N := Iff.rfl
theorem setTp_nil : evS (setTp io e [] []) N ↔ N e := Iff.rfl
theorem setTp_cons {is : List Nat} : evS (setTp io e (n :: is) (d :: xs)) N ↔ n ∉ io ∧ evS (setTp io (e.set n (.sh d)) is xs) N := by
  rw [setTp]
  by_cases h : n ∈ io
  · rw [if_pos (by simpa using h)]; exact ⟨fun z => z.elim, fun z => z.1 h⟩
  · rw [if_neg (by simpa using h)]; exact ⟨fun z => ⟨h, z⟩, fun z => z.2⟩
theorem rd_ow {QP : D → Pv → Prop} : rdS (.ow d) n QP ↔ QP d (Pv.of d (.bor n)) := Iff.rfl
theorem rd_sh {QP : D → Pv → Prop} : rdS (.sh d) n QP ↔ QP d (Pv.of d .shr) := Iff.rfl
theorem mv_ow {QP : D → Pv → Envv → Prop} : mvS io (.ow d) n e QP ↔ n ∉ io ∧ QP d .own (e.set n .un) := Iff.rfl
theorem mv_sh {QP : D → Pv → Envv → Prop} : mvS io (.sh d) n e QP ↔ QP d (Pv.of d .shr) e := Iff.rfl
theorem ow_ow : owS (.ow d) Q ↔ Q d := Iff.rfl
theorem isun_ow : (Sl.ow d).isUn = false := rfl
theorem isun_sh : (Sl.sh d).isUn = false := rfl
theorem bl_bl {b : Bool} : blS (.bl b) QB ↔ QB b := Iff.rfl
def slImm : Sl → Bool
  | .ow d => d.imm
  | _ => true
theorem wipe_nil : wipeOk io e [] = true := rfl
theorem wipe_cons {is : List Nat} : wipeOk io e (n :: is) = ((!io.contains n && slImm (e.getD n .un)) && wipeOk io e is) := rfl
theorem slImm_un : slImm .un = true := rfl
theorem slImm_sh : slImm (.sh d) = true := rfl
theorem slImm_ow : slImm (.ow d) = d.imm := rfl
/-! calls -/
theorem callo_own {ps : List Pv} {QP : D → Pv → Prop} {X : Xn → Prop} : callS (.ret d .own []) ps QP X ↔ QP d .own := Iff.rfl
theorem call_shr {ps : List Pv} {QP : D → Pv → Prop} {X : Xn → Prop} : callS (.ret d .shr []) ps QP X ↔ noBor ps = true ∧ QP d .shr := Iff.rfl
theorem call_exc {x : Xn} {ps : List Pv} {QP : D → Pv → Prop} {X : Xn → Prop} : callS (.exc x []) ps QP X ↔ X x := Iff.rfl
theorem calls_own {d1 : D} {ps : List Pv} {QP : D → Pv → Envv → Prop} {X : Xn → Envv → Prop} : callsS (.ret d .own [d1]) ps n e QP X ↔ QP d .own (e.set n (.ow d1)) := Iff.rfl
theorem calls_shr {d1 : D} {ps : List Pv} {QP : D → Pv → Envv → Prop} {X : Xn → Envv → Prop} : callsS (.ret d .shr [d1]) ps n e QP X ↔ noBor ps = true ∧ QP d .shr (e.set n (.ow d1)) := Iff.rfl
theorem new_ok {o : D} {X : Xn → Prop} : newS (.ret .non .own [o]) Q X ↔ Q o := Iff.rfl
theorem fn_some {f : Str} {QS : Str → Prop} : fnS (some f) QS ↔ QS f := Iff.rfl
theorem fn_sh {f : Str} : (Sl.sh (.fn f)).fnName = some f := rfl
theorem fn_ow {f : Str} : (Sl.ow (.fn f)).fnName = some f := rfl
/-! numbers -/
theorem op_some : opS (some d) Q ↔ Q d := Iff.rfl
theorem op_add : opS (binD .Add (.int i) (.int j)) Q ↔ Q (.int (i + j)) := Iff.rfl
theorem op_sub : opS (binD .Sub (.int i) (.int j)) Q ↔ Q (.int (i - j)) := Iff.rfl
theorem op_mul : opS (binD .Mult (.int i) (.int j)) Q ↔ (small64 i || small64 j) = true ∧ Q (.int (i * j)) := by
  show opS (if (small64 i || small64 j) = true then some (D.int (i * j)) else none) Q ↔ _
  by_cases h : (small64 i || small64 j) = true
  · rw [if_pos h]; exact ⟨fun z => ⟨h, z⟩, fun z => z.2⟩
  · rw [if_neg h]; exact ⟨fun z => z.elim, fun z => h z.1⟩
theorem op_div : opS (binD .FloorDiv (.int i) (.int j)) Q ↔ (0 < j ∧ j < 1073741824) ∧ Q (.int (i / j)) := by
  show opS (if (decide (0 < j) && decide (j < 1073741824)) = true then some (D.int (i / j)) else none) Q ↔ _
  by_cases h : (decide (0 < j) && decide (j < 1073741824)) = true
  · rw [if_pos h]; exact ⟨fun z => ⟨by simpa using h, z⟩, fun z => z.2⟩
  · rw [if_neg h]; exact ⟨fun z => z.elim, fun z => h (by simpa using z.1)⟩
theorem op_mod : opS (binD .Mod (.int i) (.int j)) Q ↔ 0 < j ∧ Q (.int (i % j)) := by
  show opS (if decide (0 < j) = true then some (D.int (i % j)) else none) Q ↔ _
  by_cases h : decide (0 < j) = true
  · rw [if_pos h]; exact ⟨fun z => ⟨by simpa using h, z⟩, fun z => z.2⟩
  · rw [if_neg h]; exact ⟨fun z => z.elim, fun z => h (by simpa using z.1)⟩
theorem op_pow : opS (binD .Pow (.int i) (.int j)) Q ↔ (decide (0 ≤ j) && decide (j ≤ 1000000) && decide (i.natAbs < 2 ^ 64)) = true ∧ Q (.int (i ^ j.toNat)) := by
  show opS (if (decide (0 ≤ j) && decide (j ≤ 1000000) && decide (i.natAbs < 2 ^ 64)) = true then some (D.int (i ^ j.toNat)) else none) Q ↔ _
  by_cases h : (decide (0 ≤ j) && decide (j ≤ 1000000) && decide (i.natAbs < 2 ^ 64)) = true
  · rw [if_pos h]; exact ⟨fun z => ⟨h, z⟩, fun z => z.2⟩
  · rw [if_neg h]; exact ⟨fun z => z.elim, fun z => h z.1⟩
theorem op_addl : opS (binD .Add (.lst xs) (.lst ys)) Q ↔ xs.length + ys.length ≤ SZ ∧ Q (.lst (xs ++ ys)) := by
  show opS (if xs.length + ys.length ≤ SZ then some (D.lst (xs ++ ys)) else none) Q ↔ _
  by_cases h : xs.length + ys.length ≤ SZ
  · rw [if_pos h]; exact ⟨fun z => ⟨h, z⟩, fun z => z.2⟩
  · rw [if_neg h]; exact ⟨fun z => z.elim, fun z => h z.1⟩
theorem op_addt : opS (binD .Add (.tup xs) (.tup ys)) Q ↔ xs.length + ys.length ≤ SZ ∧ Q (.tup (xs ++ ys)) := by
  show opS (if xs.length + ys.length ≤ SZ then some (D.tup (xs ++ ys)) else none) Q ↔ _
  by_cases h : xs.length + ys.length ≤ SZ
  · rw [if_pos h]; exact ⟨fun z => ⟨h, z⟩, fun z => z.2⟩
  · rw [if_neg h]; exact ⟨fun z => z.elim, fun z => h z.1⟩
theorem op_adds {x y : Str} : opS (binD .Add (.str x) (.str y)) Q ↔ x.length + y.length ≤ SZ ∧ Q (.str (x ++ y)) := by
  show opS (if x.length + y.length ≤ SZ then some (D.str (x ++ y)) else none) Q ↔ _
  by_cases h : x.length + y.length ≤ SZ
  · rw [if_pos h]; exact ⟨fun z => ⟨h, z⟩, fun z => z.2⟩
  · rw [if_neg h]; exact ⟨fun z => z.elim, fun z => h z.1⟩
theorem cm_lt : cmS (cmpD .Lt (.int i) (.int j)) QB ↔ QB (decide (i < j)) := Iff.rfl
theorem cm_le : cmS (cmpD .LtE (.int i) (.int j)) QB ↔ QB (decide (i ≤ j)) := Iff.rfl
theorem cm_gt : cmS (cmpD .Gt (.int i) (.int j)) QB ↔ QB (decide (j < i)) := Iff.rfl
theorem cm_ge : cmS (cmpD .GtE (.int i) (.int j)) QB ↔ QB (decide (j ≤ i)) := Iff.rfl
theorem cm_is : cmS (cmpD .Is d .non) QB ↔ QB d.isNon := by cases d <;> exact Iff.rfl
theorem cm_isnot : cmS (cmpD .IsNot d .non) QB ↔ QB (!d.isNon) := by cases d <;> exact Iff.rfl
/-! equality -/
def D.okk (d : D) (k : Nat) : Prop := D.lay k d = true
theorem sameii : D.same (.int i) (.int j) = decide (i = j) := by
  show (i == j) = decide (i = j)
  rfl
theorem eqv_ints : ∀ {ns ms : List Int} {k : Nat}, (decide ((ns.map D.int).length = (ms.map D.int).length) && ((ns.map D.int).zip (ms.map D.int)).all fun p => D.eqv k p.1 p.2) = decide (ns = ms)
  | [], [], _ => rfl
  | [], _ :: _, _ => rfl
  | _ :: _, [], _ => rfl
  | a :: ns, b :: ms, k => by
    have ih := eqv_ints (ns := ns) (ms := ms) (k := k)
    have e1 : D.eqv k (.int a) (.int b) = decide (a = b) := by cases k <;> rfl
    simp only [List.map_cons, List.length_cons, List.zip_cons_cons, List.all_cons, e1, Nat.add_right_cancel_iff] at ih ⊢
    by_cases h : a = b
    · subst h; simp only [decide_true, Bool.true_and, List.cons.injEq, true_and]; exact ih
    · simp [h]
theorem eqv_tupI {k : Nat} : D.eqv (k + 1) (tupI ns) (tupI ms) = decide (ns = ms) := eqv_ints
theorem same_tupI : D.same (tupI ns) (tupI ms) = decide (ns = ms) := eqv_ints
theorem same_lI : D.same (lI ns) (lI ms) = decide (ns = ms) := eqv_ints
theorem eqv_tupIs : ∀ {ns ms : List (List Int)} {k : Nat}, (decide ((ns.map tupI).length = (ms.map tupI).length) && ((ns.map tupI).zip (ms.map tupI)).all fun p => D.eqv (k + 1) p.1 p.2) = decide (ns = ms)
  | [], [], _ => rfl
  | [], _ :: _, _ => rfl
  | _ :: _, [], _ => rfl
  | a :: ns, b :: ms, k => by
    have ih := eqv_tupIs (ns := ns) (ms := ms) (k := k)
    simp only [List.map_cons, List.length_cons, List.zip_cons_cons, List.all_cons, eqv_tupI, Nat.add_right_cancel_iff] at ih ⊢
    by_cases h : a = b
    · subst h; simp only [decide_true, Bool.true_and, List.cons.injEq, true_and]; exact ih
    · simp [h]
theorem same_tT : D.same (tT ts) (tT us) = decide (ts = us) := eqv_tupIs
theorem same_lT : D.same (lT ts) (lT us) = decide (ts = us) := eqv_tupIs
theorem same_nil : D.same (.lst xs) (.lst []) = decide (xs = []) := by cases xs <;> rfl
theorem same_tnil : D.same (.tup xs) (.tup []) = decide (xs = []) := by cases xs <;> rfl
theorem lay_ints {k : Nat} : (ns.map D.int).all (D.lay k) = true := by
  induction ns with
  | nil => rfl
  | cons a r ih => rw [List.map_cons, List.all_cons, ih]; cases k <;> rfl
theorem lay_tupI {k : Nat} : D.lay (k + 1) (tupI ns) = true := lay_ints
theorem lay_lI {k : Nat} : D.lay (k + 1) (lI ns) = true := lay_ints
theorem lay_map {α : Type} {f : α → D} {k : Nat} (h : ∀ x, D.lay k (f x) = true) : ∀ {l : List α}, (l.map f).all (D.lay k) = true
  | [] => rfl
  | a :: r => by rw [List.map_cons, List.all_cons, h a, lay_map h]; rfl
theorem okd_int : (D.int i).okd = true := rfl
theorem okd_bl {b : Bool} : (D.bl b).okd = true := rfl
theorem okd_non : D.non.okd = true := rfl
theorem okd_tupI : (tupI ns).okd = true := lay_ints
theorem okd_lI : (lI ns).okd = true := lay_ints
theorem okd_lT : (lT ts).okd = true := lay_map (k := 59) fun _ => lay_tupI
theorem okd_tT : (tT ts).okd = true := lay_map (k := 59) fun _ => lay_tupI
theorem okd_lL : (lL ts).okd = true := lay_map (k := 59) fun _ => lay_lI
theorem okd_nil : (D.lst []).okd = true := rfl
theorem okd_tnil : (D.tup []).okd = true := rfl
theorem okd_map {α : Type} {f : α → D} (h : ∀ x, (f x).okd = true) : ∀ {l : List α}, (l.map f).all D.okd = true
  | [] => rfl
  | a :: r => by rw [List.map_cons, List.all_cons, h a, okd_map h]; rfl
theorem cm_eq {x y : D} (hx : x.okd = true) (hy : y.okd = true) : cmS (cmpD .Eq x y) QB ↔ QB (x.same y) := by
  have : cmpD .Eq x y = if (x.okd && y.okd) = true then some (x.same y) else none := by unfold cmpD; cases x <;> cases y <;> rfl
  rw [this, hx, hy]; exact Iff.rfl
theorem cm_ne {x y : D} (hx : x.okd = true) (hy : y.okd = true) : cmS (cmpD .NotEq x y) QB ↔ QB (!x.same y) := by
  have : cmpD .NotEq x y = if (x.okd && y.okd) = true then some (!x.same y) else none := by unfold cmpD; cases x <;> cases y <;> rfl
  rw [this, hx, hy]; exact Iff.rfl
theorem cm_inl {x : D} (hx : x.okd = true) (hy : ys.all D.okd = true) : cmS (cmpD .In x (.lst ys)) QB ↔ QB (ys.any fun z => D.same z x) := by
  have : cmpD .In x (.lst ys) = if (x.okd && ys.all D.okd) = true then some (ys.any fun z => D.same z x) else none := by unfold cmpD; cases x <;> rfl
  rw [this, hx, hy]; exact Iff.rfl
theorem cm_notinl {x : D} (hx : x.okd = true) (hy : ys.all D.okd = true) : cmS (cmpD .NotIn x (.lst ys)) QB ↔ QB (!(ys.any fun z => D.same z x)) := by
  have : cmpD .NotIn x (.lst ys) = if (x.okd && ys.all D.okd) = true then some (!(ys.any fun z => D.same z x)) else none := by unfold cmpD; cases x <;> rfl
  rw [this, hx, hy]; exact Iff.rfl
theorem cm_int {x : D} (hx : x.okd = true) (hy : ys.all D.okd = true) : cmS (cmpD .In x (.tup ys)) QB ↔ QB (ys.any fun z => D.same z x) := by
  have : cmpD .In x (.tup ys) = if (x.okd && ys.all D.okd) = true then some (ys.any fun z => D.same z x) else none := by unfold cmpD; cases x <;> rfl
  rw [this, hx, hy]; exact Iff.rfl
theorem cm_notint {x : D} (hx : x.okd = true) (hy : ys.all D.okd = true) : cmS (cmpD .NotIn x (.tup ys)) QB ↔ QB (!(ys.any fun z => D.same z x)) := by
  have : cmpD .NotIn x (.tup ys) = if (x.okd && ys.all D.okd) = true then some (!(ys.any fun z => D.same z x)) else none := by unfold cmpD; cases x <;> rfl
  rw [this, hx, hy]; exact Iff.rfl
theorem any_int : ((ns.map D.int).any fun z => D.same z (.int i)) = decide (i ∈ ns) := by
  induction ns with
  | nil => rfl
  | cons a r ih =>
    rw [List.map_cons, List.any_cons, ih, sameii]
    by_cases h : a = i
    · subst h; simp
    · have : ¬ i = a := fun z => h z.symm
      simp [h, this]
theorem any_tupI : ((ts.map tupI).any fun z => D.same z (tupI ns)) = decide (ns ∈ ts) := by
  induction ts with
  | nil => rfl
  | cons a r ih =>
    rw [List.map_cons, List.any_cons, ih, same_tupI]
    by_cases h : a = ns
    · subst h; simp
    · have : ¬ ns = a := fun z => h z.symm
      simp [h, this]
theorem cm_eqi : cmS (cmpD .Eq (.int i) (.int j)) QB ↔ QB (decide (i = j)) := by rw [cm_eq rfl rfl, sameii]
theorem cm_nei : cmS (cmpD .NotEq (.int i) (.int j)) QB ↔ QB (!decide (i = j)) := by rw [cm_ne rfl rfl, sameii]
theorem cm_ini : cmS (cmpD .In (.int i) (lI ns)) QB ↔ QB (decide (i ∈ ns)) := by rw [cm_inl rfl (okd_map fun _ => rfl), any_int]
theorem cm_notini : cmS (cmpD .NotIn (.int i) (lI ns)) QB ↔ QB (!decide (i ∈ ns)) := by rw [cm_notinl rfl (okd_map fun _ => rfl), any_int]
theorem cm_inti : cmS (cmpD .In (.int i) (tupI ns)) QB ↔ QB (decide (i ∈ ns)) := by unfold tupI; rw [cm_int rfl (okd_map fun _ => rfl), any_int]
theorem cm_notinti : cmS (cmpD .NotIn (.int i) (tupI ns)) QB ↔ QB (!decide (i ∈ ns)) := by unfold tupI; rw [cm_notint rfl (okd_map fun _ => rfl), any_int]
theorem cm_inlt : cmS (cmpD .In (tupI ns) (lT ts)) QB ↔ QB (decide (ns ∈ ts)) := by rw [cm_inl okd_tupI (okd_map fun _ => okd_tupI), any_tupI]
theorem cm_notinlt : cmS (cmpD .NotIn (tupI ns) (lT ts)) QB ↔ QB (!decide (ns ∈ ts)) := by rw [cm_notinl okd_tupI (okd_map fun _ => okd_tupI), any_tupI]
theorem cm_intt : cmS (cmpD .In (tupI ns) (tT ts)) QB ↔ QB (decide (ns ∈ ts)) := by rw [cm_int okd_tupI (okd_map fun _ => okd_tupI), any_tupI]
theorem cm_notintt : cmS (cmpD .NotIn (tupI ns) (tT ts)) QB ↔ QB (!decide (ns ∈ ts)) := by rw [cm_notint okd_tupI (okd_map fun _ => okd_tupI), any_tupI]
theorem cm_nenil (h : (D.lst xs).okd = true) : cmS (cmpD .NotEq (.lst xs) (.lst [])) QB ↔ QB (!decide (xs = [])) := by rw [cm_ne h rfl, same_nil]
theorem cm_eqnil (h : (D.lst xs).okd = true) : cmS (cmpD .Eq (.lst xs) (.lst [])) QB ↔ QB (decide (xs = [])) := by rw [cm_eq h rfl, same_nil]
theorem cm_eqtnil (h : (D.tup xs).okd = true) : cmS (cmpD .Eq (.tup xs) (.tup [])) QB ↔ QB (decide (xs = [])) := by rw [cm_eq h rfl, same_tnil]
/-! places -/
theorem ixN_of {l : Nat} {k : Int} (h0 : 0 ≤ k) (h1 : k < l) : L2.ixN l k = some k.toNat := by
  unfold L2.ixN
  first
    | (rw [if_pos h0, if_pos (by omega)])
    | (simp only [L2.ixN]; split <;> split <;> first | rfl | omega)
theorem ix_at {k : Int} {x : D} (h0 : 0 ≤ k) (h1 : xs[k.toNat]? = some x) : opS (ixD (.lst xs) (.int k)) Q ↔ Q x := by
  have hl : k < xs.length := by
    have := (List.getElem?_eq_some_iff.mp h1).1
    omega
  have : ixD (.lst xs) (.int k) = some x := by
    show (L2.ixN xs.length k).bind (fun j => xs[j]?) = some x
    rw [ixN_of h0 hl]
    exact h1
  rw [this]; exact Iff.rfl
theorem ixt_at {k : Int} {x : D} (h0 : 0 ≤ k) (h1 : xs[k.toNat]? = some x) : opS (ixD (.tup xs) (.int k)) Q ↔ Q x := by
  have hl : k < xs.length := by
    have := (List.getElem?_eq_some_iff.mp h1).1
    omega
  have : ixD (.tup xs) (.int k) = some x := by
    show (L2.ixN xs.length k).bind (fun j => xs[j]?) = some x
    rw [ixN_of h0 hl]
    exact h1
  rw [this]; exact Iff.rfl
/-! built-in functions -/
theorem bi_len_l : opS (biD .len [.lst xs]) Q ↔ Q (.int xs.length) := Iff.rfl
theorem bi_len_t : opS (biD .len [.tup xs]) Q ↔ Q (.int xs.length) := Iff.rfl
theorem bi_len_s : opS (biD .len [.scr ns]) Q ↔ Q (.int ns.length) := Iff.rfl
theorem bi_int : opS (biD .int [.int i]) Q ↔ Q (.int i) := Iff.rfl
theorem bi_abs : opS (biD .abs [.int i]) Q ↔ Q (.int (if i < 0 then -i else i)) := Iff.rfl
theorem bi_min2 : opS (biD .min [.int i, .int j]) Q ↔ Q (.int (if j < i then j else i)) := Iff.rfl
theorem bi_max2 : opS (biD .max [.int i, .int j]) Q ↔ Q (.int (if j > i then j else i)) := Iff.rfl
theorem bi_list_l : opS (biD .list [.lst xs]) Q ↔ Q (.lst xs) := Iff.rfl
theorem bi_list_t : opS (biD .list [.tup xs]) Q ↔ Q (.lst xs) := Iff.rfl
theorem bi_tuple_l : opS (biD .tuple [.lst xs]) Q ↔ Q (.tup xs) := Iff.rfl
theorem bi_tuple_t : opS (biD .tuple [.tup xs]) Q ↔ Q (.tup xs) := Iff.rfl
theorem intsOf_enc : intsOf (ns.map .int) = some ns := by
  induction ns with
  | nil => rfl
  | cons a r ih => show (intsOf (r.map .int)).map (a :: ·) = _; rw [ih]; rfl
theorem blsOf_enc : ∀ {bs : List Bool}, blsOf (bs.map .bl) = some bs
  | [] => rfl
  | a :: r => by show (blsOf (r.map .bl)).map (a :: ·) = _; rw [blsOf_enc]; rfl
theorem bi_alll {bs : List Bool} : opS (biD .all [.lst (bs.map .bl)]) Q ↔ Q (.bl (bs.all id)) := by
  show opS ((blsOf (bs.map .bl)).map fun bs => D.bl (bs.all id)) Q ↔ _
  rw [blsOf_enc]; exact Iff.rfl
theorem bi_any {bs : List Bool} : opS (biD .any [.lst (bs.map .bl)]) Q ↔ Q (.bl (bs.any id)) := by
  show opS ((blsOf (bs.map .bl)).map fun bs => D.bl (bs.any id)) Q ↔ _
  rw [blsOf_enc]; exact Iff.rfl
theorem bi_sum : opS (biD .sum [lI ns]) Q ↔ Q (.int ns.sum) := by
  show opS ((intsOf (ns.map .int)).map fun bs => D.int bs.sum) Q ↔ _
  rw [intsOf_enc]; exact Iff.rfl
theorem bi_maxl (h : ns ≠ []) : opS (biD .max [lI ns]) Q ↔ Q (.int (maxI ns)) := by
  show opS ((intsOf (ns.map .int)).bind fun is => if is.isEmpty then none else some (D.int (maxI is))) Q ↔ _
  rw [intsOf_enc]
  cases ns with
  | nil => exact absurd rfl h
  | cons a r => exact Iff.rfl
theorem bi_minl (h : ns ≠ []) : opS (biD .min [lI ns]) Q ↔ Q (.int (minI ns)) := by
  show opS ((intsOf (ns.map .int)).bind fun is => if is.isEmpty then none else some (D.int (minI is))) Q ↔ _
  rw [intsOf_enc]
  cases ns with
  | nil => exact absurd rfl h
  | cons a r => exact Iff.rfl
theorem bi_sorted : opS (biD .sorted [lI ns]) Q ↔ Q (lI (sortI ns)) := by
  show opS (match intsOf (ns.map .int) with | some is => some (lI (sortI is)) | none => _) Q ↔ _
  rw [intsOf_enc]; exact Iff.rfl
theorem tupsOf_all : ∀ {ts : List (List Int)}, (∀ t ∈ ts, t ≠ []) → tupsOf (ts.map tupI) = some ts
  | [], _ => rfl
  | a :: r, h => by
    have e : tupsOf (((a :: r) : List (List Int)).map tupI) = (intsOf (a.map .int)).bind fun ns => if ns.isEmpty then none else (tupsOf (r.map tupI)).map (ns :: ·) := rfl
    rw [e, intsOf_enc, tupsOf_all fun t ht => h t (List.mem_cons_of_mem _ ht)]
    cases a with
    | nil => exact absurd rfl (h [] List.mem_cons_self)
    | cons x y => rfl
theorem bi_sortedT (h : ∀ t ∈ ts, t ≠ []) : opS (biD .sorted [lT ts]) Q ↔ Q (lT (sortT ts)) := by
  cases ts with
  | nil => exact Iff.rfl
  | cons a r =>
    have e : biD .sorted [lT (a :: r)] = (tupsOf ((a :: r).map tupI)).map fun ts => lT (sortT ts) := rfl
    rw [e, tupsOf_all h]; exact Iff.rfl
theorem bi_lrng1 (h : rng24 0 j = true) : opS (biD .lrng [.int j]) Q ↔ Q (.lst ((List.range j.toNat).map fun k : Nat => .int k)) := by
  show opS (if rng24 0 j = true then some (D.lst ((List.range j.toNat).map fun k : Nat => .int k)) else none) Q ↔ _
  rw [if_pos h]; exact Iff.rfl
/-! methods -/
variable {QM : D → D → Prop}
theorem m_append : prS (mthD .append (.lst ys) [d]) QM ↔ ys.length < SZ ∧ QM .non (.lst (ys ++ [d])) := by
  show prS (if ys.length < SZ then some (D.non, D.lst (ys ++ [d])) else none) QM ↔ _
  by_cases h : ys.length < SZ
  · rw [if_pos h]; exact ⟨fun z => ⟨h, z⟩, fun z => z.2⟩
  · rw [if_neg h]; exact ⟨fun z => z.elim, fun z => h z.1⟩
theorem m_extend : prS (mthD .extend (.lst ys) [.lst xs]) QM ↔ ys.length + xs.length ≤ SZ ∧ QM .non (.lst (ys ++ xs)) := by
  show prS (if ys.length + xs.length ≤ SZ then some (D.non, D.lst (ys ++ xs)) else none) QM ↔ _
  by_cases h : ys.length + xs.length ≤ SZ
  · rw [if_pos h]; exact ⟨fun z => ⟨h, z⟩, fun z => z.2⟩
  · rw [if_neg h]; exact ⟨fun z => z.elim, fun z => h z.1⟩
theorem m_pop {k : Int} {x : D} (h0 : 0 ≤ k) (h1 : ys[k.toNat]? = some x) : prS (mthD .pop (.lst ys) [.int k]) QM ↔ QM x (.lst (ys.eraseIdx k.toNat)) := by
  have hl : k < ys.length := by
    have := (List.getElem?_eq_some_iff.mp h1).1
    omega
  have : mthD .pop (.lst ys) [.int k] = some (x, .lst (ys.eraseIdx k.toNat)) := by
    show (L2.ixN ys.length k).bind (fun j => (ys[j]?).map fun y => (y, D.lst (ys.eraseIdx j))) = _
    rw [ixN_of h0 hl]
    show (ys[k.toNat]?).map _ = _
    rw [h1]; rfl
  rw [this]; exact Iff.rfl
theorem firstAt_erase : ∀ {ns : List Int}, i ∈ ns → ∃ k, firstAt (.int i) (ns.map .int) = some k ∧ (ns.map D.int).eraseIdx k = (ns.erase i).map D.int
  | [], h => by simp at h
  | a :: r, h => by
    by_cases e : a = i
    · subst e
      refine ⟨0, ?_, by simp⟩
      show (if D.same (.int a) (.int a) = true then some 0 else _) = _
      rw [sameii]; simp
    · have h' : i ∈ r := (List.mem_cons.mp h).resolve_left fun z => e z.symm
      obtain ⟨k, h1, h2⟩ := firstAt_erase h'
      refine ⟨k + 1, ?_, ?_⟩
      · show (if D.same (.int a) (.int i) = true then some 0 else (firstAt (.int i) (r.map .int)).map (· + 1)) = _
        rw [sameii, h1]; simp [e]
      · have hb : (a == i) = false := by simpa using e
        rw [List.erase_cons, hb]
        simp [h2]
theorem m_remove (h : i ∈ ns) : prS (mthD .remove (lI ns) [.int i]) QM ↔ QM .non (lI (ns.erase i)) := by
  obtain ⟨k, h1, h2⟩ := firstAt_erase h
  have : mthD .remove (lI ns) [.int i] = some (.non, lI (ns.erase i)) := by
    show (intsOf (ns.map .int)).bind (fun is => (firstAt (.int i) (ns.map .int)).map fun k => (D.non, D.lst ((ns.map .int).eraseIdx k))) = _
    rw [intsOf_enc, h1]
    show some (D.non, D.lst ((ns.map D.int).eraseIdx k)) = _
    rw [h2]
  rw [this]; exact Iff.rfl
theorem args_own {m : Mf} {ds : List D} {ps : List Pv} (h : ps.all (· == .own) = true) : argsOk m ds ps = true := by unfold argsOk; rw [h]; rfl
/-! what is walked -/
variable {QX : List D → Prop}
theorem lt_some : ltS (some xs) QX ↔ QX xs := Iff.rfl
theorem it_lst_nb (h : p.nb = true) : ltS (plainIts (.lst xs) p) QX ↔ QX xs := by cases p <;> first | exact Iff.rfl | (cases h; done)
theorem it_tup_nb (h : p.nb = true) : ltS (plainIts (.tup xs) p) QX ↔ QX xs := by cases p <;> first | exact Iff.rfl | (cases h; done)
theorem it_scr (h : p.nb = true) : ltS (plainIts (.scr ns) p) QX ↔ QX (ns.map .int) := by cases p <;> first | exact Iff.rfl | (cases h; done)
theorem it_lst_b (h : D.immL xs = true) : ltS (plainIts (.lst xs) (.bor n)) QX ↔ QX xs := by
  show ltS (if D.immL xs = true then some xs else none) QX ↔ _
  rw [if_pos h]; exact Iff.rfl
theorem it_tup_b (h : D.immL xs = true) : ltS (plainIts (.tup xs) (.bor n)) QX ↔ QX xs := by
  show ltS (if D.immL xs = true then some xs else none) QX ↔ _
  rw [if_pos h]; exact Iff.rfl
theorem rng_1 (h : rng62 j = true) : ltS (rngI [.int j]) QX ↔ QX ((List.range j.toNat).map fun k : Nat => .int k) := by
  show ltS (if rng62 j = true then some _ else none) QX ↔ _
  rw [if_pos h]; exact Iff.rfl
theorem rng_2 (h : (rng62 i && rng62 j) = true) : ltS (rngI [.int i, .int j]) QX ↔ QX ((List.range (j - i).toNat).map fun k : Nat => .int (i + k)) := by
  show ltS (if (rng62 i && rng62 j) = true then some _ else none) QX ↔ _
  rw [if_pos h]; exact Iff.rfl
end
end DL
end
section
set_option Elab.async false
set_option maxRecDepth 100000
set_option maxHeartbeats 4000000
namespace K03
open PySem DL L2
def fn_is_whole : Fnc := ⟨1, 1, false,
  (.cons (.ret (.and (.isi (.var 0) .int) (.and (.not (.isi (.var 0) .bool)) (.cmp2 .Lt .Lt (.neg (.bin .Pow (.con (.int 10)) (.con (.int 18)))) (.var 0) (.bin .Pow (.con (.int 10))
    (.con (.int 18))))))) .nil)⟩
def fn_is_number : Fnc := ⟨3, 3, false,
  (.cons (.ret (.and (.call "is_whole" (.cons (.var 0) .nil)) (.cmp2 .LtE .LtE (.var 1) (.var 0) (.var 2)))) .nil)⟩
def fn_is_rising : Fnc := ⟨1, 3, false,
  (.cons (.ret (.bi .all (.cons (.comp (.tp [1, 2]) (.zp (.var 0) (.sl (.var 0) (.con (.int 1)) (.con .non))) (.con (.bl true)) (.cmp .Lt (.var 1) (.var 2))) .nil))) .nil)⟩
def fn_is_pair_of : Fnc := ⟨2, 2, false,
  (.cons (.ite (.or (.not (.isi (.var 1) .tuple)) (.cmp .NotEq (.bi .len (.cons (.var 1) .nil)) (.con (.int 2)))) (.cons (.ret (.con (.bl false))) .nil) .nil) (.cons (.ret (.and
    (.call "is_number" (.cons (.ix (.var 1) (.con (.int 0))) (.cons (.con (.int 0)) (.cons (.bin .Sub (.var 0) (.con (.int 1))) .nil)))) (.and (.call "is_number" (.cons (.ix (.var 1)
    (.con (.int 1))) (.cons (.con (.int 0)) (.cons (.bin .Sub (.var 0) (.con (.int 1))) .nil)))) (.cmp .Lt (.ix (.var 1) (.con (.int 0))) (.ix (.var 1) (.con (.int 1))))))) .nil))⟩
def fn_Net : Fnc := ⟨3, 4, true,
  (.cons (.ite (.not (.call "is_number" (.cons (.var 1) (.cons (.con (.int 1)) (.cons (.con (.int 16)) .nil))))) (.cons (.rais "BadMany" [] .nil) .nil) .nil) (.cons (.ite (.or (.not
    (.isi (.var 2) .tuple)) (.or (.not (.bi .all (.cons (.comp (.nm 3) (.on (.var 2)) (.con (.bl true)) (.call "is_pair_of" (.cons (.var 1) (.cons (.var 3) .nil)))) .nil))) (.not
    (.call "is_rising" (.cons (.var 2) .nil))))) (.cons (.rais "BadTies" [] .nil) .nil) .nil) (.cons (.setf 0 "Net" "many" (.mv 1)) (.cons (.setf 0 "Net" "ties" (.mv 2)) .nil))))⟩
def fn_need_net : Fnc := ⟨1, 1, false,
  (.cons (.ite (.not (.isi (.var 0) (.own "Net"))) (.cons (.rais "BadNet" [] .nil) .nil) .nil) .nil)⟩
def fn_beside : Fnc := ⟨1, 6, false,
  (.cons (.asg (.nm 1) false (.comp (.nm 4) (.rng (.cons (.fld (.var 0) "Net" "many") .nil)) (.con (.bl true)) (.lst .nil))) (.cons (.for (.tp [2, 3]) (.on (.fld (.var 0) "Net"
    "ties")) (.cons (.ex (.mthx 1 (.var 2) .append (.cons (.var 3) .nil))) (.cons (.ex (.mthx 1 (.var 3) .append (.cons (.mv 2) .nil))) .nil))) (.cons (.ret (.comp (.nm 5) (.on (.mv
    1)) (.con (.bl true)) (.bi .sorted (.cons (.var 5) .nil)))) .nil)))⟩
def fn_grown_cliques : Fnc := ⟨4, 11, false,
  (.cons (.ite (.and (.cmp .Eq (.var 2) (.lst .nil)) (.cmp .Eq (.var 3) (.lst .nil))) (.cons (.ret (.lst (.cons (.bi .tuple (.cons (.bi .sorted (.cons (.var 1) .nil)) .nil)) .nil)))
    .nil) .nil) (.cons (.par [5, 6, 3] [false, false, false] (.cons (.lst .nil) (.cons (.bi .list (.cons (.var 2) .nil)) (.cons (.bi .list (.cons (.var 3) .nil)) .nil)))) (.cons
    (.for (.nm 4) (.on (.mv 2)) (.cons (.asg (.nm 7) false (.ix (.var 0) (.var 4))) (.cons (.par [8, 9] [false, false] (.cons (.comp (.nm 10) (.on (.var 6)) (.cmp .In (.var 10) (.var
    7)) (.var 10)) (.cons (.comp (.nm 10) (.on (.var 3)) (.cmp .In (.var 10) (.var 7)) (.var 10)) .nil))) (.cons (.ex (.mth 5 .extend (.cons (.call "grown_cliques" (.cons (.var 0)
    (.cons (.bin .Add (.var 1) (.lst (.cons (.var 4) .nil))) (.cons (.var 8) (.cons (.var 9) .nil))))) .nil))) (.cons (.ex (.mth 6 .remove (.cons (.var 4) .nil))) (.cons (.ex (.mth 3
    .append (.cons (.mv 4) .nil))) .nil)))))) (.cons (.ret (.mv 5)) .nil))))⟩
def fn_full_cliques : Fnc := ⟨1, 1, false,
  (.cons (.ex (.call "need_net" (.cons (.var 0) .nil))) (.cons (.ret (.bi .tuple (.cons (.bi .sorted (.cons (.call "grown_cliques" (.cons (.call "beside" (.cons (.var 0) .nil))
    (.cons (.lst .nil) (.cons (.bi .lrng (.cons (.fld (.var 0) "Net" "many") .nil)) (.cons (.lst .nil) .nil))))) .nil)) .nil))) .nil))⟩
def fn_largest_clique : Fnc := ⟨1, 4, false,
  (.cons (.ex (.call "need_net" (.cons (.var 0) .nil))) (.cons (.asg (.nm 1) false (.call "full_cliques" (.cons (.var 0) .nil))) (.cons (.asg (.nm 2) false (.bi .max (.cons (.comp
    (.nm 3) (.on (.var 1)) (.con (.bl true)) (.bi .len (.cons (.var 3) .nil))) .nil))) (.cons (.ret (.ix (.comp (.nm 3) (.on (.mv 1)) (.cmp .Eq (.bi .len (.cons (.var 3) .nil)) (.var
    2)) (.var 3)) (.con (.int 0)))) .nil))))⟩
def fn__law_begun : Fnc := ⟨1, 3, false,
  (.cons (.asg (.nm 1) false (.comp (.nm 2) (.on (.var 0)) (.cmp .GtE (.bi .abs (.cons (.var 2) .nil)) (.bin .Pow (.con (.int 10)) (.con (.int 18)))) (.bin .Sub (.bi .abs (.cons
    (.var 2) .nil)) (.bin .Pow (.con (.int 10)) (.con (.int 18)))))) (.cons (.ret (.dic [.str "great", .str "cells", .str "left", .str "turn"] (.cons (.mv 1) (.cons (.comp (.nm 2)
    (.on (.mv 0)) (.con (.bl true)) (.bi .abs (.cons (.var 2) .nil))) (.cons (.con (.int 0)) (.cons (.con (.int 0)) .nil)))))) .nil))⟩
def fn__law_blended : Fnc := ⟨1, 6, true,
  (.cons (.par [2, 3] [false, false] (.cons (.bin .Add (.ix (.var 0) (.con (.str "turn"))) (.con (.int 1))) (.cons (.con (.int 0)) .nil))) (.cons (.setx 0 (.con (.str "turn")) (.var
    2)) (.cons (.for (.nm 1) (.on (.lst (.cons (.con (.int 2147482697)) (.cons (.con (.int 2147482693)) (.cons (.con (.int 2147482681)) .nil))))) (.cons (.asg (.nm 4) false (.bin
    .Add (.bin .Mult (.con (.int 39373)) (.var 2)) (.bin .FloorDiv (.var 1) (.con (.int 67))))) (.cons (.for (.nm 5) (.on (.ix (.var 0) (.con (.str "cells")))) (.cons (.asg (.nm 4)
    false (.bin .Mod (.bi .int (.cons (.bin .Add (.bin .Add (.bin .Mult (.var 4) (.con (.int 69621))) (.var 5)) (.var 2)) .nil)) (.var 1))) .nil)) (.cons (.asg (.nm 3) false (.bin
    .Add (.bin .Mult (.var 3) (.con (.int 2147483647))) (.bin .Mod (.bi .int (.cons (.bin .Pow (.var 4) (.con (.int 5))) .nil)) (.var 1)))) .nil)))) (.cons (.ret (.mv 3)) .nil))))⟩
def fn__law_draw : Fnc := ⟨2, 3, true,
  (.cons (.ite (.cmp .Eq (.ix (.var 0) (.con (.str "left"))) (.con (.int 0))) (.cons (.setx 0 (.con (.str "left")) (.ite (.cmp .NotEq (.ix (.var 0) (.con (.str "great"))) (.lst
    .nil)) (.mthx 0 (.con (.str "great")) .pop (.cons (.con (.int 0)) .nil)) (.calls "_law_blended" 0 .nil))) .nil) .nil) (.cons (.asg (.nm 2) false (.bin .Mod (.bi .int (.cons (.ix
    (.var 0) (.con (.str "left"))) .nil)) (.var 1))) (.cons (.setx 0 (.con (.str "left")) (.bin .FloorDiv (.ix (.var 0) (.con (.str "left"))) (.var 1))) (.cons (.ret (.mv 2))
    .nil))))⟩
def fn__law_pick : Fnc := ⟨2, 2, true,
  (.cons (.ret (.ix (.var 1) (.calls "_law_draw" 0 (.cons (.bi .len (.cons (.var 1) .nil)) .nil)))) .nil)⟩
def fn__law_mixed : Fnc := ⟨2, 4, true,
  (.cons (.par [2, 3] [false, false] (.cons (.bi .list (.cons (.var 1) .nil)) (.cons (.lst .nil) .nil))) (.cons (.whl (.cmp .NotEq (.var 2) (.lst .nil)) (.cons (.ex (.mth 3 .append
    (.cons (.mth 2 .pop (.cons (.calls "_law_draw" 0 (.cons (.bi .len (.cons (.var 2) .nil)) .nil)) .nil)) .nil))) .nil)) (.cons (.ret (.mv 3)) .nil)))⟩
def fn__law_nt_ties : Fnc := ⟨3, 6, true,
  (.cons (.asg (.nm 3) false (.lst .nil)) (.cons (.for (.nm 4) (.rng (.cons (.var 1) .nil)) (.cons (.asg (.nm 3) false (.bin .Add (.var 3) (.comp (.nm 5) (.rng (.cons (.bin .Add
    (.var 4) (.con (.int 1))) (.cons (.var 1) .nil))) (.con (.bl true)) (.tup (.cons (.var 4) (.cons (.var 5) .nil)))))) .nil)) (.cons (.ret (.bi .tuple (.cons (.bi .sorted (.cons
    (.sl (.calls "_law_mixed" 0 (.cons (.var 3) .nil)) (.con .non) (.calls "_law_draw" 0 (.cons (.bin .Add (.var 2) (.con (.int 1))) .nil))) .nil)) .nil))) .nil)))⟩
def fn__law_nt_tie : Fnc := ⟨2, 2, false,
  (.cons (.ret (.tup (.cons (.bi .min (.cons (.var 0) (.cons (.var 1) .nil))) (.cons (.bi .max (.cons (.var 0) (.cons (.var 1) .nil))) .nil)))) .nil)⟩
def fn__law_nt_beside : Fnc := ⟨2, 6, false,
  (.cons (.asg (.nm 2) false (.lst .nil)) (.cons (.for (.nm 3) (.rng (.cons (.var 0) .nil)) (.cons (.ex (.mth 2 .append (.cons (.bi .sorted (.cons (.bin .Add (.comp (.tp [4, 5]) (.on
    (.var 1)) (.cmp .Eq (.var 4) (.var 3)) (.var 5)) (.comp (.tp [4, 5]) (.on (.var 1)) (.cmp .Eq (.var 5) (.var 3)) (.var 4))) .nil)) .nil))) .nil)) (.cons (.ret (.mv 2)) .nil)))⟩
def fn__law_nt_is_tied : Fnc := ⟨2, 5, false,
  (.cons (.for (.tp [2, 3]) (.enu (.var 1)) (.cons (.ite (.cmp .NotEq (.comp (.nm 4) (.on (.sl (.var 1) (.bin .Add (.var 2) (.con (.int 1))) (.con .non))) (.cmp .NotIn (.call
    "_law_nt_tie" (.cons (.var 3) (.cons (.var 4) .nil))) (.var 0)) (.con (.int 1))) (.lst .nil)) (.cons (.ret (.con (.bl false))) .nil) .nil) .nil)) (.cons (.ret (.con (.bl true)))
    .nil))⟩
def fn__law_nt_chorded : Fnc := ⟨2, 11, true,
  (.cons (.par [3, 4] [false, false] (.cons (.calls "_law_mixed" 0 (.cons (.bi .lrng (.cons (.var 1) .nil)) .nil)) (.cons (.lst .nil) .nil))) (.cons (.for (.nm 2) (.rng (.cons (.con
    (.int 1)) (.cons (.var 1) .nil))) (.cons (.par [7, 8] [false, false] (.cons (.ix (.var 3) (.var 2)) (.cons (.sl (.var 3) (.con .non) (.var 2)) .nil))) (.cons (.asg (.nm 5) false
    (.ite (.cmp .Gt (.calls "_law_draw" 0 (.cons (.con (.int 8)) .nil)) (.con (.int 0))) (.lst (.cons (.calls "_law_pick" 0 (.cons (.var 8) .nil)) .nil)) (.lst .nil))) (.cons (.for
    (.nm 6) (.rng (.cons (.calls "_law_draw" 0 (.cons (.con (.int 5)) .nil)) .nil)) (.cons (.asg (.nm 9) false (.ite (.cmp .NotEq (.var 5) (.lst .nil)) (.comp (.nm 10) (.on (.var 8))
    (.and (.cmp .NotIn (.var 10) (.var 5)) (.call "_law_nt_is_tied" (.cons (.var 4) (.cons (.bin .Add (.var 5) (.lst (.cons (.var 10) .nil))) .nil)))) (.var 10)) (.lst .nil))) (.cons
    (.ite (.cmp .NotEq (.var 9) (.lst .nil)) (.cons (.ex (.mth 5 .append (.cons (.calls "_law_pick" 0 (.cons (.var 9) .nil)) .nil))) .nil) .nil) .nil))) (.cons (.asg (.nm 4) false
    (.bin .Add (.var 4) (.comp (.nm 10) (.on (.mv 5)) (.con (.bl true)) (.call "_law_nt_tie" (.cons (.var 7) (.cons (.var 10) .nil)))))) .nil))))) (.cons (.ret (.bi .tuple (.cons
    (.bi .sorted (.cons (.var 4) .nil)) .nil))) .nil)))⟩
def fn__law_nt_ringed : Fnc := ⟨2, 11, true,
  (.cons (.asg (.nm 2) false (.calls "_law_mixed" 0 (.cons (.bi .lrng (.cons (.var 1) .nil)) .nil))) (.cons (.asg (.nm 3) false (.bi .min (.cons (.var 1) (.cons (.bin .Add (.con
    (.int 4)) (.calls "_law_draw" 0 (.cons (.con (.int 5)) .nil))) .nil)))) (.cons (.asg (.nm 4) false (.sl (.var 2) (.con .non) (.var 3))) (.cons (.asg (.nm 5) false (.ite (.cmp .Gt
    (.var 3) (.con (.int 2))) (.comp (.nm 10) (.rng (.cons (.var 3) .nil)) (.con (.bl true)) (.call "_law_nt_tie" (.cons (.ix (.var 4) (.bin .Sub (.var 10) (.con (.int 1)))) (.cons
    (.ix (.var 4) (.var 10)) .nil)))) (.lst .nil))) (.cons (.for (.nm 6) (.rng (.cons (.calls "_law_pick" 0 (.cons (.lst (.cons (.con (.int 0)) (.cons (.con (.int 0)) (.cons (.con
    (.int 1)) (.cons (.con (.int 2)) (.cons (.con (.int 5)) .nil)))))) .nil)) .nil)) (.cons (.par [8, 9] [false, false] (.cons (.calls "_law_pick" 0 (.cons (.var 2) .nil)) (.cons
    (.calls "_law_pick" 0 (.cons (.var 2) .nil)) .nil))) (.cons (.asg (.nm 5) false (.bin .Add (.var 5) (.ite (.cmp .NotEq (.var 8) (.var 9)) (.lst (.cons (.call "_law_nt_tie" (.cons
    (.var 8) (.cons (.var 9) .nil))) .nil)) (.lst .nil)))) .nil))) (.cons (.for (.nm 7) (.on (.sl (.var 2) (.var 3) (.con .non))) (.cons (.asg (.nm 5) false (.bin .Add (.var 5)
    (.comp (.nm 9) (.on (.sl (.calls "_law_mixed" 0 (.cons (.var 4) .nil)) (.con .non) (.calls "_law_draw" 0 (.cons (.con (.int 3)) .nil)))) (.con (.bl true)) (.call "_law_nt_tie"
    (.cons (.var 7) (.cons (.var 9) .nil)))))) .nil)) (.cons (.ret (.bi .tuple (.cons (.bi .sortset (.cons (.var 5) .nil)) .nil))) .nil)))))))⟩
def fn__law_nt_net : Fnc := ⟨2, 4, true,
  (.cons (.par [2, 3] [false, false] (.cons (.bin .Add (.con (.int 1)) (.calls "_law_draw" 0 (.cons (.var 1) .nil))) (.cons (.calls "_law_draw" 0 (.cons (.con (.int 5)) .nil))
    .nil))) (.cons (.ite (.cmp .Lt (.var 3) (.con (.int 2))) (.cons (.ret (.tup (.cons (.var 2) (.cons (.calls "_law_nt_chorded" 0 (.cons (.var 2) .nil)) .nil)))) .nil) .nil) (.cons
    (.ite (.cmp .Eq (.var 3) (.con (.int 2))) (.cons (.ret (.tup (.cons (.var 2) (.cons (.calls "_law_nt_ringed" 0 (.cons (.var 2) .nil)) .nil)))) .nil) .nil) (.cons (.ret (.tup
    (.cons (.var 2) (.cons (.calls "_law_nt_ties" 0 (.cons (.var 2) (.cons (.calls "_law_pick" 0 (.cons (.lst (.cons (.var 2) (.cons (.bin .Mult (.con (.int 2)) (.var 2)) (.cons
    (.bin .Mult (.var 2) (.var 2)) .nil)))) .nil)) .nil))) .nil)))) .nil))))⟩
def fn__law_nt_no_net : Fnc := ⟨1, 1, true,
  (.cons (.ret (.calls "_law_pick" 0 (.cons (.lst (.cons (.con .non) (.cons (.con (.int 0)) (.cons (.con (.bl true)) (.cons (.tup .nil) (.cons (.lst .nil) (.cons (.dic [] .nil)
    (.cons (.con (.str "net")) (.cons (.tup (.cons (.con (.int 3)) (.cons (.tup .nil) .nil))) (.cons (.bin .Pow (.con (.int 10)) (.con (.int 18))) .nil)))))))))) .nil))) .nil)⟩
def fn__law_nh_kind : Fnc := ⟨1, 2, false,
  (.cons (.ite (.and (.cmp .IsNot (.var 0) (.con .non)) (.or (.not (.isi (.var 0) (.own "HungError"))) (.not (.isi (.var 0) (.err "ValueError"))))) (.cons (.ret (.con (.str
    "foreign "))) .nil) .nil) (.cons (.asg (.nm 1) false (.ite (.isi (.var 0) (.own "BadMany")) (.con (.str "many ")) (.con (.str "")))) (.cons (.asg (.nm 1) false (.bin .Add (.bin
    .Add (.var 1) (.ite (.isi (.var 0) (.own "BadTies")) (.con (.str "ties ")) (.con (.str "")))) (.ite (.isi (.var 0) (.own "BadNet")) (.con (.str "net ")) (.con (.str "")))))
    (.cons (.asg (.nm 1) false (.bin .Add (.bin .Add (.var 1) (.ite (.isi (.var 0) (.own "BadPoint")) (.con (.str "point ")) (.con (.str "")))) (.ite (.isi (.var 0) (.own "BadLot"))
    (.con (.str "lot ")) (.con (.str ""))))) (.cons (.ret (.bin .Add (.var 1) (.ite (.isi (.var 0) (.own "BadPair")) (.con (.str "pair ")) (.con (.str ""))))) .nil)))))⟩
def fn__law_nh_full : Fnc := ⟨2, 10, false,
  (.cons (.par [2, 3, 4] [false, false, false] (.cons (.call "_law_nt_beside" (.cons (.var 0) (.cons (.var 1) .nil))) (.cons (.lst (.cons (.tup .nil) .nil)) (.cons (.lst .nil)
    .nil)))) (.cons (.whl (.cmp .NotEq (.var 3) (.lst .nil)) (.cons (.asg (.nm 5) false (.lst .nil)) (.cons (.for (.nm 6) (.on (.mv 3)) (.cons (.asg (.nm 7) false (.comp (.nm 8)
    (.rng (.cons (.var 0) .nil)) (.and (.cmp .NotIn (.var 8) (.var 6)) (.cmp .Eq (.comp (.nm 9) (.on (.var 6)) (.cmp .NotIn (.var 9) (.ix (.var 2) (.var 8))) (.con (.int 1))) (.lst
    .nil))) (.var 8))) (.cons (.ite (.cmp .Eq (.var 7) (.lst .nil)) (.cons (.ex (.mth 4 .append (.cons (.var 6) .nil))) .nil) .nil) (.cons (.asg (.nm 5) false (.bin .Add (.var 5)
    (.comp (.nm 8) (.on (.mv 7)) (.or (.cmp .Eq (.var 6) (.tup .nil)) (.cmp .Gt (.var 8) (.ix (.var 6) (.neg (.con (.int 1)))))) (.bin .Add (.var 6) (.tup (.cons (.var 8) .nil))))))
    .nil)))) (.cons (.asg (.nm 3) false (.mv 5)) .nil)))) (.cons (.ret (.bi .sorted (.cons (.var 4) .nil))) .nil)))⟩
def fn__law_k03_many : Fnc := ⟨1, 7, true,
  (.cons (.par [2, 3] [false, false] (.cons (.bin .Add (.con (.int 2)) (.calls "_law_draw" 0 (.cons (.con (.int 2)) .nil))) (.cons (.bin .Add (.con (.int 4)) (.calls "_law_draw" 0
    (.cons (.con (.int 9)) .nil))) .nil))) (.cons (.par [4, 5] [false, false] (.cons (.calls "_law_mixed" 0 (.cons (.bi .lrng (.cons (.var 3) .nil)) .nil)) (.cons (.lst .nil) .nil)))
    (.cons (.for (.nm 1) (.rng (.cons (.var 3) .nil)) (.cons (.asg (.nm 5) false (.bin .Add (.var 5) (.comp (.nm 6) (.rng (.cons (.bin .Add (.var 1) (.con (.int 1))) (.cons (.var 3)
    .nil))) (.cmp .NotEq (.bin .FloorDiv (.var 1) (.var 2)) (.bin .FloorDiv (.var 6) (.var 2))) (.call "_law_nt_tie" (.cons (.ix (.var 4) (.var 1)) (.cons (.ix (.var 4) (.var 6))
    .nil)))))) .nil)) (.cons (.ret (.tup (.cons (.mv 3) (.cons (.bi .tuple (.cons (.bi .sorted (.cons (.var 5) .nil)) .nil)) .nil)))) .nil))))⟩
def fn_law : Fnc := ⟨1, 15, false,
  (.cons (.asg (.nm 1) false (.call "_law_begun" (.cons (.var 0) .nil))) (.cons (.for (.nm 2) (.rng (.cons (.bin .Add (.con (.int 3)) (.bi .min (.cons (.bi .len (.cons (.var 0)
    .nil)) (.cons (.con (.int 5)) .nil)))) .nil)) (.cons (.asg (.nm 3) false (.ite (.cmp .Gt (.var 2) (.con (.int 0))) (.calls "_law_nt_net" 1 (.cons (.calls "_law_pick" 1 (.cons
    (.lst (.cons (.con (.int 4)) (.cons (.con (.int 9)) (.cons (.con (.int 16)) .nil)))) .nil)) .nil)) (.calls "_law_k03_many" 1 .nil))) (.cons (.asg (.tp [8, 9]) false (.mv 3))
    (.cons (.par [10, 11] [false, false] (.cons (.new "Net" [0, 1] (.cons (.var 8) (.cons (.var 9) .nil))) (.cons (.call "_law_nh_full" (.cons (.var 8) (.cons (.var 9) .nil)))
    .nil))) (.cons (.ite (.cmp .NotEq (.bi .repr (.cons (.lst (.cons (.call "full_cliques" (.cons (.var 10) .nil)) (.cons (.callk "full_cliques" [0] (.cons (.var 10) .nil)) .nil)))
    .nil)) (.bi .repr (.cons (.bin .Mult (.lst (.cons (.bi .tuple (.cons (.var 11) .nil)) .nil)) (.con (.int 2))) .nil))) (.cons (.ret (.con (.bl false))) .nil) .nil) (.cons (.asg
    (.nm 4) false (.bi .max (.cons (.comp (.nm 12) (.on (.var 11)) (.con (.bl true)) (.bi .len (.cons (.var 12) .nil))) .nil))) (.cons (.asg (.nm 5) false (.ix (.comp (.nm 12) (.on
    (.var 11)) (.cmp .Eq (.bi .len (.cons (.var 12) .nil)) (.var 4)) (.var 12)) (.con (.int 0)))) (.cons (.ite (.cmp .NotEq (.bi .repr (.cons (.lst (.cons (.call "largest_clique"
    (.cons (.var 10) .nil)) (.cons (.callk "largest_clique" [0] (.cons (.var 10) .nil)) .nil))) .nil)) (.bi .repr (.cons (.bin .Mult (.lst (.cons (.var 5) .nil)) (.con (.int 2)))
    .nil))) (.cons (.ret (.con (.bl false))) .nil) .nil) (.cons (.ite (.cmp .NotEq (.comp (.tp [13, 14]) (.on (.var 9)) (.cmp .Eq (.comp (.nm 12) (.on (.var 11)) (.and (.cmp .In
    (.var 13) (.var 12)) (.cmp .In (.var 14) (.var 12))) (.con (.int 1))) (.lst .nil)) (.con (.int 1))) (.lst .nil)) (.cons (.ret (.con (.bl false))) .nil) .nil) (.cons (.asg (.nm 6)
    false (.calls "_law_nt_no_net" 1 .nil)) (.cons (.for (.nm 7) (.on (.lst (.cons (.con (.fn "full_cliques")) (.cons (.con (.fn "largest_clique")) .nil)))) (.cons (.ite (.cmp .NotEq
    (.call "_law_nh_kind" (.cons (.caught (.callv 7 ["full_cliques", "largest_clique"] (.cons (.var 6) .nil)) "HungError") .nil)) (.con (.str "net "))) (.cons (.ret (.con (.bl
    false))) .nil) .nil) .nil)) .nil))))))))))) (.cons (.ret (.con (.bl true))) .nil)))⟩
abbrev Pr : Program := PySem.Challenge.pw_treehung_k03_whole_full_and_largest_cliq
abbrev Ro : PySem.W.OpenRow := PySem.W.OpenLaw.row PySem.Challenge.rw_treehung_k03_whole_full_and_largest_cliq
abbrev top (i : Nat) : Stmt := Pr.main.body.getD i (.Pass ⟨0, 0, 0, 0⟩)
def df_is_whole : Dfd := ⟨⟨("is_whole", none), "is_whole", "is_whole", defArgs (top 1), defBody (top 1), defScope (top 1), [], []⟩, ["value"], fn_is_whole, false⟩
def df_is_number : Dfd := ⟨⟨("is_number", none), "is_number", "is_number", defArgs (top 2), defBody (top 2), defScope (top 2), [], []⟩, ["value", "least", "most"], fn_is_number, false⟩
def df_is_rising : Dfd := ⟨⟨("is_rising", none), "is_rising", "is_rising", defArgs (top 3), defBody (top 3), defScope (top 3), [], []⟩, ["value", "one", "other"], fn_is_rising, false⟩
def df_is_pair_of : Dfd := ⟨⟨("is_pair_of", none), "is_pair_of", "is_pair_of", defArgs (top 14), defBody (top 14), defScope (top 14), [], []⟩, ["many", "value"], fn_is_pair_of, false⟩
def df_Net : Dfd := ⟨⟨("Net", some "__init__"), "__init__", "Net.__init__", defArgs (clsS (top 15) 0), defBody (clsS (top 15) 0), defScope (clsS (top 15) 0), [], []⟩, ["self", "many", "ties", "tie"], fn_Net, false⟩
def df_need_net : Dfd := ⟨⟨("need_net", none), "need_net", "need_net", defArgs (top 16), defBody (top 16), defScope (top 16), [], []⟩, ["net"], fn_need_net, false⟩
def df_beside : Dfd := ⟨⟨("beside", none), "beside", "beside", defArgs (top 17), defBody (top 17), defScope (top 17), [], []⟩, ["net", "found", "one", "other", "point", "some"], fn_beside, false⟩
def df_grown_cliques : Dfd := ⟨⟨("grown_cliques", none), "grown_cliques", "grown_cliques", defArgs (top 19), defBody (top 19), defScope (top 19), [], []⟩, ["some", "lot", "open_points", "gone", "point", "found", "left", "near", "later", "never", "at"], fn_grown_cliques, false⟩
def df_full_cliques : Dfd := ⟨⟨("full_cliques", none), "full_cliques", "full_cliques", defArgs (top 20), defBody (top 20), defScope (top 20), [], []⟩, ["net"], fn_full_cliques, false⟩
def df_largest_clique : Dfd := ⟨⟨("largest_clique", none), "largest_clique", "largest_clique", defArgs (top 21), defBody (top 21), defScope (top 21), [], []⟩, ["net", "some", "most", "lot"], fn_largest_clique, false⟩
def df__law_begun : Dfd := ⟨⟨("_law_begun", none), "_law_begun", "_law_begun", defArgs (top 23), defBody (top 23), defScope (top 23), [], []⟩, ["script", "great", "cell"], fn__law_begun, false⟩
def df__law_blended : Dfd := ⟨⟨("_law_blended", none), "_law_blended", "_law_blended", defArgs (top 24), defBody (top 24), defScope (top 24), [], []⟩, ["state", "prime", "turn", "found", "blend", "cell"], fn__law_blended, false⟩
def df__law_draw : Dfd := ⟨⟨("_law_draw", none), "_law_draw", "_law_draw", defArgs (top 25), defBody (top 25), defScope (top 25), [], []⟩, ["state", "size_here", "found"], fn__law_draw, false⟩
def df__law_pick : Dfd := ⟨⟨("_law_pick", none), "_law_pick", "_law_pick", defArgs (top 26), defBody (top 26), defScope (top 26), [], []⟩, ["state", "several"], fn__law_pick, false⟩
def df__law_mixed : Dfd := ⟨⟨("_law_mixed", none), "_law_mixed", "_law_mixed", defArgs (top 27), defBody (top 27), defScope (top 27), [], []⟩, ["state", "several", "left", "found"], fn__law_mixed, false⟩
def df__law_nt_ties : Dfd := ⟨⟨("_law_nt_ties", none), "_law_nt_ties", "_law_nt_ties", defArgs (top 29), defBody (top 29), defScope (top 29), [], []⟩, ["state", "many", "most", "some", "one", "other"], fn__law_nt_ties, false⟩
def df__law_nt_tie : Dfd := ⟨⟨("_law_nt_tie", none), "_law_nt_tie", "_law_nt_tie", defArgs (top 30), defBody (top 30), defScope (top 30), [], []⟩, ["one", "other"], fn__law_nt_tie, false⟩
def df__law_nt_beside : Dfd := ⟨⟨("_law_nt_beside", none), "_law_nt_beside", "_law_nt_beside", defArgs (top 31), defBody (top 31), defScope (top 31), [], []⟩, ["many", "ties", "found", "point", "one", "other"], fn__law_nt_beside, false⟩
def df__law_nt_is_tied : Dfd := ⟨⟨("_law_nt_is_tied", none), "_law_nt_is_tied", "_law_nt_is_tied", defArgs (top 32), defBody (top 32), defScope (top 32), [], []⟩, ["ties", "lot", "at", "one", "other"], fn__law_nt_is_tied, false⟩
def df__law_nt_chorded : Dfd := ⟨⟨("_law_nt_chorded", none), "_law_nt_chorded", "_law_nt_chorded", defArgs (top 33), defBody (top 33), defScope (top 33), [], []⟩, ["state", "many", "at", "names", "ties", "lot", "turn", "own", "known", "more", "other"], fn__law_nt_chorded, false⟩
def df__law_nt_ringed : Dfd := ⟨⟨("_law_nt_ringed", none), "_law_nt_ringed", "_law_nt_ringed", defArgs (top 34), defBody (top 34), defScope (top 34), [], []⟩, ["state", "many", "names", "size_here", "ring", "ties", "turn", "own", "one", "other", "at"], fn__law_nt_ringed, false⟩
def df__law_nt_net : Dfd := ⟨⟨("_law_nt_net", none), "_law_nt_net", "_law_nt_net", defArgs (top 35), defBody (top 35), defScope (top 35), [], []⟩, ["state", "most", "many", "way"], fn__law_nt_net, false⟩
def df__law_nt_no_net : Dfd := ⟨⟨("_law_nt_no_net", none), "_law_nt_no_net", "_law_nt_no_net", defArgs (top 36), defBody (top 36), defScope (top 36), [], []⟩, ["state"], fn__law_nt_no_net, false⟩
def df__law_nh_kind : Dfd := ⟨⟨("_law_nh_kind", none), "_law_nh_kind", "_law_nh_kind", defArgs (top 37), defBody (top 37), defScope (top 37), [], []⟩, ["error", "found"], fn__law_nh_kind, false⟩
def df__law_nh_full : Dfd := ⟨⟨("_law_nh_full", none), "_law_nh_full", "_law_nh_full", defArgs (top 38), defBody (top 38), defScope (top 38), [], []⟩, ["many", "ties", "some", "line", "found", "later", "lot", "more", "point", "other"], fn__law_nh_full, false⟩
def df__law_k03_many : Dfd := ⟨⟨("_law_k03_many", none), "_law_k03_many", "_law_k03_many", defArgs (top 39), defBody (top 39), defScope (top 39), [], []⟩, ["state", "at", "size_here", "many", "names", "ties", "later"], fn__law_k03_many, false⟩
def df_law : Dfd := ⟨⟨("law", none), "law", "law", defArgs (top 40), defBody (top 40), defScope (top 40), [], []⟩, ["script", "state", "turn", "told_here", "most", "largest", "odd", "work", "many", "ties", "made", "due", "lot", "one", "other"], fn_law, true⟩
def d_caught : He.DefD := ⟨("_law_caught", none), "_law_caught", "_law_caught", defArgs (top 28), defBody (top 28), defScope (top 28), [], []⟩
def tDefs : List (Str × Nat × Bool) := [("is_whole", 1, false), ("is_number", 3, false), ("is_rising", 1, false), ("is_pair_of", 2, false), ("need_net", 1, false), ("beside", 1, false), ("grown_cliques", 4, false), ("full_cliques", 1, false), ("largest_clique", 1, false), ("_law_begun", 1, false), ("_law_blended", 1, true), ("_law_draw", 2, true), ("_law_pick", 2, true), ("_law_mixed", 2, true), ("_law_nt_ties", 3, true), ("_law_nt_tie", 2, false), ("_law_nt_beside", 2, false), ("_law_nt_is_tied", 2, false), ("_law_nt_chorded", 2, true), ("_law_nt_ringed", 2, true), ("_law_nt_net", 2, true), ("_law_nt_no_net", 1, true), ("_law_nh_kind", 1, false), ("_law_nh_full", 2, false), ("_law_k03_many", 1, true), ("law", 1, false)]
def tDel : List (Str × Dfd) := [("is_whole", df_is_whole), ("is_number", df_is_number), ("is_rising", df_is_rising), ("is_pair_of", df_is_pair_of), ("Net", df_Net), ("need_net", df_need_net), ("beside", df_beside), ("grown_cliques", df_grown_cliques), ("full_cliques", df_full_cliques), ("largest_clique", df_largest_clique), ("_law_begun", df__law_begun), ("_law_blended", df__law_blended), ("_law_draw", df__law_draw), ("_law_pick", df__law_pick), ("_law_mixed", df__law_mixed), ("_law_nt_ties", df__law_nt_ties), ("_law_nt_tie", df__law_nt_tie), ("_law_nt_beside", df__law_nt_beside), ("_law_nt_is_tied", df__law_nt_is_tied), ("_law_nt_chorded", df__law_nt_chorded), ("_law_nt_ringed", df__law_nt_ringed), ("_law_nt_net", df__law_nt_net), ("_law_nt_no_net", df__law_nt_no_net), ("_law_nh_kind", df__law_nh_kind), ("_law_nh_full", df__law_nh_full), ("_law_k03_many", df__law_k03_many), ("law", df_law)]
def tSub_0 : List ((Bool × Str × Str) × Bool) := [((true, "HungError", "BadLot"), false), ((true, "HungError", "BadMany"), false), ((true, "HungError", "BadNet"), false), ((true, "HungError", "BadPair"), false), ((true, "HungError", "BadPoint"), false), ((true, "HungError", "BadTies"), false), ((true, "HungError", "HungError"), true), ((true, "HungError", "Net"), false), ((true, "HungError", "ValueError"), true), ((true, "BadLot", "BadLot"), true), ((true, "BadLot", "BadMany"), false), ((true, "BadLot", "BadNet"), false), ((true, "BadLot", "BadPair"), false), ((true, "BadLot", "BadPoint"), false), ((true, "BadLot", "BadTies"), false), ((true, "BadLot", "HungError"), true), ((true, "BadLot", "Net"), false), ((true, "BadLot", "ValueError"), true), ((true, "BadMany", "BadLot"), false), ((true, "BadMany", "BadMany"), true), ((true, "BadMany", "BadNet"), false), ((true, "BadMany", "BadPair"), false), ((true, "BadMany", "BadPoint"), false), ((true, "BadMany", "BadTies"), false), ((true, "BadMany", "HungError"), true), ((true, "BadMany", "Net"), false), ((true, "BadMany", "ValueError"), true), ((true, "BadNet", "BadLot"), false), ((true, "BadNet", "BadMany"), false), ((true, "BadNet", "BadNet"), true)]
def tSub_1 : List ((Bool × Str × Str) × Bool) := [((true, "BadNet", "BadPair"), false), ((true, "BadNet", "BadPoint"), false), ((true, "BadNet", "BadTies"), false), ((true, "BadNet", "HungError"), true), ((true, "BadNet", "Net"), false), ((true, "BadNet", "ValueError"), true), ((true, "BadPair", "BadLot"), false), ((true, "BadPair", "BadMany"), false), ((true, "BadPair", "BadNet"), false), ((true, "BadPair", "BadPair"), true), ((true, "BadPair", "BadPoint"), false), ((true, "BadPair", "BadTies"), false), ((true, "BadPair", "HungError"), true), ((true, "BadPair", "Net"), false), ((true, "BadPair", "ValueError"), true), ((true, "BadPoint", "BadLot"), false), ((true, "BadPoint", "BadMany"), false), ((true, "BadPoint", "BadNet"), false), ((true, "BadPoint", "BadPair"), false), ((true, "BadPoint", "BadPoint"), true), ((true, "BadPoint", "BadTies"), false), ((true, "BadPoint", "HungError"), true), ((true, "BadPoint", "Net"), false), ((true, "BadPoint", "ValueError"), true), ((true, "BadTies", "BadLot"), false), ((true, "BadTies", "BadMany"), false), ((true, "BadTies", "BadNet"), false), ((true, "BadTies", "BadPair"), false), ((true, "BadTies", "BadPoint"), false), ((true, "BadTies", "BadTies"), true)]
def tSub_2 : List ((Bool × Str × Str) × Bool) := [((true, "BadTies", "HungError"), true), ((true, "BadTies", "Net"), false), ((true, "BadTies", "ValueError"), true), ((false, "Net", "BadLot"), false), ((false, "Net", "BadMany"), false), ((false, "Net", "BadNet"), false), ((false, "Net", "BadPair"), false), ((false, "Net", "BadPoint"), false), ((false, "Net", "BadTies"), false), ((false, "Net", "HungError"), false), ((false, "Net", "Net"), true)]
def tSub : List ((Bool × Str × Str) × Bool) := tSub_0 ++ (tSub_1 ++ (tSub_2))
def tTx : Txi where
  gint := [("MOST_POINTS", 16)]
  blts := ["ValueError", "abs", "all", "bool", "enumerate", "int", "isinstance", "len", "list", "max", "min", "range", "repr", "set", "sorted", "tuple", "zip"]
  defs := tDefs
  kws := [("full_cliques", ["net"], [0]), ("largest_clique", ["net"], [0])]
  cls := [("Net", 2)]
  clk := []
  flds := [("Net", "many"), ("Net", "ties")]
  errs := ["BadMany", "BadNet", "BadTies"]
  isis := ["BadLot", "BadMany", "BadNet", "BadPair", "BadPoint", "BadTies", "HungError", "Net"]
  iser := ["ValueError"]
  lam := some ("_law_caught", "HungError")
def tZ : Tex := ⟨tTx, tSub, tDel, [d_caught]⟩
def tLoose_0 : List Str := ["is_whole", "is_number", "is_rising", "HungError", "BadLot", "BadMany", "BadNet", "BadPair", "BadPoint", "BadTies", "is_pair_of", "Net", "need_net", "beside", "grown_cliques", "full_cliques", "largest_clique", "_law_begun", "_law_blended", "_law_draw", "_law_pick", "_law_mixed", "_law_caught", "_law_nt_ties", "_law_nt_tie", "_law_nt_beside", "_law_nt_is_tied", "_law_nt_chorded", "_law_nt_ringed", "_law_nt_net"]
def tLoose_1 : List Str := ["_law_nt_no_net", "_law_nh_kind", "_law_nh_full", "_law_k03_many", "MOST_POINTS"]
def tLoose : List Str := tLoose_0 ++ (tLoose_1)
-- kws [('full_cliques', ('net',), (0,)), ('largest_clique', ('net',), (0,))] clk [] law at 40
end K03
end
section
set_option Elab.async false
set_option maxRecDepth 100000
set_option maxHeartbeats 4000000
namespace K03
open PySem DL L2
theorem ok : tZ.ok = true := by decide +kernel
end K03
end
section
set_option Elab.async false
set_option linter.all false
set_option maxRecDepth 100000
set_option maxHeartbeats 4000000
namespace K03
open PySem DL
abbrev GamZ : Txt := tZ.GamZ
theorem go {n : Nat} {f : Str} {fn : Fnc} {ds : List D} (h : GamZ.fn f = some fn) : callF GamZ (n + 1) f ds = runF ⟨callF GamZ n, GamZ.sub⟩ fn ds := by rw [callF, h]
def stD (g c : List Int) (l t : Int) : D := .dct [.str "great", .str "cells", .str "left", .str "turn"] [.lst (g.map .int), .lst (c.map .int), .int l, .int t]
section
variable {g c : List Int} {l t : Int} {Q : D → Prop} {x : D}
theorem stD_left : opS (ixD (stD g c l t) (.str "left")) Q ↔ Q (.int l) := Iff.rfl
theorem stD_turn : opS (ixD (stD g c l t) (.str "turn")) Q ↔ Q (.int t) := Iff.rfl
theorem stD_great : opS (ixD (stD g c l t) (.str "great")) Q ↔ Q (lI g) := Iff.rfl
theorem stD_cells : opS (ixD (stD g c l t) (.str "cells")) Q ↔ Q (lI c) := Iff.rfl
theorem stD_setleft {l' : Int} : opS (setD (stD g c l t) (.str "left") (.int l')) Q ↔ Q (stD g c l' t) := Iff.rfl
theorem stD_setturn {l' : Int} : opS (setD (stD g c l t) (.str "turn") (.int l')) Q ↔ Q (stD g c l l') := Iff.rfl
theorem stD_setgreat {l' : List Int} : opS (setD (stD g c l t) (.str "great") (lI l')) Q ↔ Q (stD l' c l t) := Iff.rfl
theorem stD_imm : (stD g c l t).imm = false := rfl
theorem stD_lst : (stD g c l t).isLst = false := rfl
theorem sz_def : SZ = 16777216 := rfl
end
section
variable {QB : Bool → Prop} {Q : D → Prop} {QM : D → D → Prop} {ns ms : List Int} {ts us : List (List Int)} {a : Int}
theorem nilI : decide (ns.map D.int = []) = decide (ns = []) := by cases ns <;> rfl
theorem nilT {α : Type} {f : α → D} {ts : List α} : decide (ts.map f = []) = decide (ts = []) := by cases ts <;> rfl
theorem cm_neI0 : cmS (cmpD .NotEq (lI ns) (.lst [])) QB ↔ QB (!decide (ns = [])) := by rw [cm_nenil okd_lI, nilI]
theorem cm_eqI0 : cmS (cmpD .Eq (lI ns) (.lst [])) QB ↔ QB (decide (ns = [])) := by rw [cm_eqnil okd_lI, nilI]
theorem cm_neT0 : cmS (cmpD .NotEq (lT ts) (.lst [])) QB ↔ QB (!decide (ts = [])) := by rw [cm_nenil okd_lT, nilT]
theorem cm_eqT0 : cmS (cmpD .Eq (lT ts) (.lst [])) QB ↔ QB (decide (ts = [])) := by rw [cm_eqnil okd_lT, nilT]
theorem cm_eqt0 : cmS (cmpD .Eq (tupI ns) (.tup [])) QB ↔ QB (decide (ns = [])) := by unfold tupI; rw [cm_eqtnil okd_tupI, nilI]
theorem m_pop0 : prS (mthD .pop (lI (a :: ns)) [.int 0]) QM ↔ QM (.int a) (lI ns) := m_pop (k := 0) (by omega) rfl
theorem isLst_lst {xs : List D} : (D.lst xs).isLst = true := rfl
theorem aok_nil {m : Mf} : argsOk m [] [] = true := by cases m <;> rfl
theorem aok_own {m : Mf} {ds : List D} : argsOk m ds [.own] = true := args_own rfl
end
theorem run_io {cb : Cb} {fn : Fnc} {ds : List D} {Q : D → Pv → List D → Prop} {X : Xn → List D → Prop} (hl : ds.length = fn.np) (hi : fn.io = true) (h : (execs [0] cb fn.body (enter fn ds)).sat
    { N := fun e => owS (e.getD 0 .un) fun d0 => Q .non .own [d0], R := fun d p e => p.nb = true ∧ owS (e.getD 0 .un) fun d0 => Q d p [d0], X := fun x e => owS (e.getD 0 .un) fun d0 => X x [d0] }) : (runF cb fn ds).sat Q X := by
  have hf : fn.ios = [0] := by show (if fn.io = true then [0] else []) = [0]; rw [hi]; rfl
  have h0 : ∀ {e : Envv} {q : D → Prop}, owS (e.getD 0 .un) q → ∃ d0, iosOf e fn.ios = some [d0] ∧ q d0 := by
    intro e q hh
    rw [hf]
    unfold iosOf
    cases hg : e.getD 0 .un with
    | ow d => rw [hg] at hh; exact ⟨d, rfl, hh⟩
    | sh d => rw [hg] at hh; exact hh.elim
    | un => rw [hg] at hh; exact hh.elim
  refine runF_sat hl ?_
  rw [hf]
  rw [hf] at h0
  refine Out.sat_mono h ?_ ?_ ?_ (fun _ z => z) (fun _ z => z)
  · intro e z; obtain ⟨d0, h1, h2⟩ := h0 z; exact ⟨_, h1, h2⟩
  · intro d p e ⟨z1, z⟩; obtain ⟨d0, h1, h2⟩ := h0 z; exact ⟨z1, _, h1, h2⟩
  · intro x e z; obtain ⟨d0, h1, h2⟩ := h0 z; exact ⟨_, h1, h2⟩
theorem run_no {cb : Cb} {fn : Fnc} {ds : List D} {Q : D → Pv → List D → Prop} {X : Xn → List D → Prop} (hl : ds.length = fn.np) (hi : fn.io = false) (h : (execs [] cb fn.body (enter fn ds)).sat
    { N := fun e => Q .non .own [], R := fun d p e => p.nb = true ∧ Q d p [], X := fun x e => X x [] }) : (runF cb fn ds).sat Q X := by
  have hf : fn.ios = [] := by show (if fn.io = true then [0] else []) = []; rw [hi]; rfl
  refine runF_sat hl ?_
  rw [hf]
  exact Out.sat_mono h (fun _ z => ⟨_, rfl, z⟩) (fun _ _ _ z => ⟨z.1, _, rfl, z.2⟩) (fun _ _ z => ⟨_, rfl, z⟩) (fun _ z => z) (fun _ z => z)
/-- a good state -/
def StOk (T : Int) (d : D) : Prop := ∃ g c l t, d = stD g c l t ∧ (∀ x ∈ g, 0 ≤ x) ∧ (∀ x ∈ c, 0 ≤ x) ∧ 0 ≤ l ∧ 0 ≤ t ∧ t ≤ T
local macro_rules | `(tactic| walk_at "ev") => `(tactic| try simp only [↓e_con, ↓e_var, ↓e_mv, ↓e_bin, ↓e_neg, ↓e_cmp, ↓e_cmp2, ↓e_and, ↓e_or, ↓e_not, ↓e_ite, ↓e_tup, ↓e_lst, ↓e_dic, ↓e_ix, ↓e_sl, ↓e_fld, ↓e_call, ↓e_callk, ↓e_callv, ↓e_calls, ↓e_new, ↓e_isi, ↓e_caught, ↓e_bi, ↓e_mth, ↓e_mthx, ↓es_nil, ↓es_cons, ↓i_on, ↓i_rng, ↓i_enu, ↓i_rv, ↓i_zp, ↓e_comp, ↓s_nm, ↓s_tp, ↓s_par, ↓s_setx, ↓s_setxx, ↓s_setf, ↓s_ex, ↓s_ret, ↓s_ite, ↓s_brk, ↓s_cnt, ↓s_pss, ↓s_rais, ↓ss_nil, ↓ss_cons,
  imm_non, imm_bl, imm_int, imm_str, imm_fn, imm_exn, imm_scr, imm_tup, imm_lst, imm_dct, imm_obj, immL_nil, immL_cons, immL_ints, imm_tupI, immL_tupI,
  flat_non, flat_bl, flat_int, flat_str, flat_tup, flat_tupI, flat_lst, Pv.of, w_own, w_shr, w_bor, nb_own, nb_shr, nb_bor, nobor_nil, nobor_cons, beq_oo, beq_so, beq_bo, bne_ob, bne_sb, bne_bb, keepS,
  ev_some, set_own, set_shr, setAll_nil, setAll_cons, setTg_nm, setTg_tp, setTp_nil, setTp_cons, rd_ow, rd_sh, mv_ow, mv_sh, ow_ow, isun_ow, isun_sh, bl_bl, wipe_nil, wipe_cons, slImm_un, slImm_sh, slImm_ow,
  callo_own, call_shr, call_exc, calls_own, calls_shr, new_ok, fn_some, fn_sh, fn_ow, op_some, DL.op_add, DL.op_sub, DL.op_mul, op_div, DL.op_mod, DL.op_pow, op_addl, op_addt, op_adds, cm_lt, cm_le, cm_gt, cm_ge, cm_is, cm_isnot,
  okd_int, okd_bl, okd_non, okd_tupI, okd_lI, okd_lT, okd_tT, okd_lL, okd_nil, okd_tnil, cm_eqi, cm_nei, cm_ini, cm_notini, cm_inti, cm_notinti, cm_inlt, cm_notinlt, cm_intt, cm_notintt,
  bi_len_l, bi_len_t, bi_len_s, bi_int, bi_abs, bi_min2, bi_max2, bi_list_l, bi_list_t, bi_tuple_l, bi_tuple_t, bi_sum, m_append, m_extend, lt_some, it_lst_nb, it_tup_nb, it_scr,
  stD_left, stD_turn, stD_great, stD_cells, stD_setleft, stD_setturn, stD_setgreat, stD_imm, stD_lst, sz_def, cm_neI0, cm_eqI0, cm_neT0, cm_eqT0, cm_eqt0, m_pop0, isLst_lst, aok_nil, aok_own,
  Ex.mods, Exs.mods, It.mods, Tg.slots, Sts.mods, St.mods, wipeS, backS, ite_true, ite_false, if_true, if_false, reduceIte, Bool.false_eq_true, Bool.true_eq_false, List.getD_cons_zero, List.getD_cons_succ, List.set_cons_zero, List.set_cons_succ, List.contains_cons, List.contains_nil, List.all_cons, List.all_nil, List.append_nil, List.nil_append, List.cons_append,
  Bool.not_true, Bool.not_false, Bool.and_true, Bool.true_and, Bool.and_false, Bool.false_and, Bool.or_false, Bool.false_or, Bool.or_true, Bool.true_or, beq_self_eq_true, Nat.reduceBEq, Nat.reduceEqDiff, true_and, and_true, true_implies, false_implies, List.not_mem_nil, List.mem_cons, List.mem_singleton, not_false_eq_true, not_true_eq_false, or_false, false_or, reduceCtorEq, Nat.reduceAdd, Nat.reduceSub, decide_true, decide_false])
theorem map_erIdx {α β : Type} {f : α → β} : ∀ {l : List α} {k : Nat}, (l.map f).eraseIdx k = (l.eraseIdx k).map f
  | [], _ => by simp
  | a :: r, 0 => by simp
  | a :: r, k + 1 => by simp [map_erIdx (l := r) (k := k)]
theorem perm_erIdx {α : Type} : ∀ {l : List α} {k : Nat} (h : k < l.length), List.Perm (l[k] :: l.eraseIdx k) l
  | [], _, h => by simp at h
  | a :: r, 0, h => by simp
  | a :: r, k + 1, h => by
    have h' : k < r.length := by simpa using h
    simp only [List.getElem_cons_succ, List.eraseIdx_cons_succ]
    exact (List.Perm.swap _ _ _).trans ((perm_erIdx h').cons a)
theorem StOk.mono {T T' : Int} {d : D} (h : StOk T d) (hT : T ≤ T') : StOk T' d := by
  obtain ⟨g, c, l, t, h0, h1, h2, h3, h4, h5⟩ := h
  exact ⟨g, c, l, t, h0, h1, h2, h3, h4, by omega⟩
theorem fmod_nn {a b : Int} (hb : 0 < b) : 0 ≤ a % b := Int.emod_nonneg _ (by omega)
theorem sm_l {i j : Int} (h : small64 i = true) : (small64 i || small64 j) = true := by rw [h]; rfl
theorem sm_r {i j : Int} (h : small64 j = true) : (small64 i || small64 j) = true := by rw [h]; simp
theorem blended {n : Nat} {g c : List Int} {l t : Int} (ht : 0 ≤ t) (ht2 : t ≤ 1000000000000) (hc : ∀ x ∈ c, 0 ≤ x) : ∃ r : Int, 0 ≤ r ∧ callF GamZ (n + 1) "_law_blended" [stD g c l t] = .ret (.int r) .own [stD g c l (t + 1)] := by
  have : (callF GamZ (n + 1) "_law_blended" [stD g c l t]).sat (fun d p ios => ∃ r : Int, 0 ≤ r ∧ d = .int r ∧ p = .own ∧ ios = [stD g c l (t + 1)]) fun _ _ => False := by
    rw [go (fn := fn__law_blended) (by rfl)]
    refine run_io (by rfl) (by rfl) ?_
    show (execs [0] _ fn__law_blended.body [.ow (stD g c l t), .un, .un, .un, .un, .un]).sat _
    unfold fn__law_blended
    dsimp only
    walk_at "ev"
    refine for_map .int [2147482697, 2147482693, 2147482681] (fun pre post e => ∃ f s1 s4 s5, 0 ≤ f ∧ e = [.ow (stD g c l (t + 1)), s1, .ow (.int (t + 1)), .ow (.int f), s4, s5]) ?_ ?_ ?_
    · walk_at "ev"
      rw [it_lst_nb rfl]
      exact ⟨rfl, 0, _, _, _, by omega, rfl⟩
    · rintro pre x post e hx ⟨f, s1, s4, s5, hf, rfl⟩
      have hx : x = 2147482697 ∨ x = 2147482693 ∨ x = 2147482681 := by
        have : x ∈ [2147482697, 2147482693, 2147482681] := by rw [hx]; simp
        simpa using this
      walk_at "ev"
      refine ⟨sm_l (by decide), ⟨by decide, by decide⟩, ?_⟩
      refine for_map .int c (fun pre post e => ∃ b s5, 0 ≤ b ∧ b < 2 ^ 64 ∧ e = [.ow (stD g c l (t + 1)), .sh (.int x), .ow (.int (t + 1)), .ow (.int f), .ow (.int b), s5]) ?_ ?_ ?_
      · walk_at "ev"
        rw [it_lst_b immL_ints]
        refine ⟨rfl, _, _, ?_, ?_, rfl⟩ <;> omega
      · rintro pre2 y post2 e hy ⟨b, s5, hb, hb2, rfl⟩
        walk_at "ev"
        refine ⟨sm_r (by decide), by omega, _, _, ?_, ?_, rfl⟩
        · exact Int.emod_nonneg _ (by omega)
        · have := Int.emod_lt_of_pos (b * 69621 + y + (t + 1)) (show 0 < x by omega)
          omega
      · rintro e ⟨b, s5, hb, hb2, rfl⟩
        walk_at "ev"
        have hbn : (decide (b.natAbs < 2 ^ 64)) = true := by simp; omega
        refine ⟨sm_r (by decide), by rw [hbn]; rfl, by omega, _, _, _, _, ?_, rfl⟩
        have := Int.emod_nonneg (b ^ (5 : Int).toNat) (show x ≠ 0 by omega)
        omega
    · rintro e ⟨f, s1, s4, s5, hf, rfl⟩
      walk_at "ev"
      exact ⟨f, hf, rfl⟩
  obtain ⟨d, p, ios, h, r, h0, rfl, rfl, rfl⟩ := FR.sat_ex this
  exact ⟨r, h0, h⟩

theorem draw {n : Nat} {T k : Int} {d : D} (hT : T < 1000000000000) (h : StOk T d) (hk : 0 < k) (hk2 : k < 1073741824) : ∃ r d', 0 ≤ r ∧ r < k ∧ StOk (T + 1) d' ∧ callF GamZ (n + 2) "_law_draw" [d, .int k] = .ret (.int r) .own [d'] := by
  obtain ⟨g, c, l, t, rfl, hg, hc, hl, ht, hT2⟩ := h
  have : (callF GamZ (n + 2) "_law_draw" [stD g c l t, .int k]).sat (fun d p ios => ∃ r d', 0 ≤ r ∧ r < k ∧ StOk (T + 1) d' ∧ d = .int r ∧ p = .own ∧ ios = [d']) fun _ _ => False := by
    rw [go (fn := fn__law_draw) (by rfl)]
    refine run_io (by rfl) (by rfl) ?_
    show (execs [0] _ fn__law_draw.body [.ow (stD g c l t), .sh (.int k), .un]).sat _
    unfold fn__law_draw
    dsimp only
    have last : ∀ g l t, (∀ x ∈ g, 0 ≤ x) → 0 ≤ l → 0 ≤ t → t ≤ T + 1 → 0 < k ∧ (0 < k ∧ k < 1073741824) ∧ ∃ r d', 0 ≤ r ∧ r < k ∧ StOk (T + 1) d' ∧ D.int (l % k) = .int r ∧ [stD g c (l / k) t] = [d'] := fun g l t hg hl h1 h2 =>
      ⟨hk, ⟨hk, hk2⟩, _, _, Int.emod_nonneg _ (by omega), Int.emod_lt_of_pos _ hk, ⟨g, c, _, t, rfl, hg, hc, Int.ediv_nonneg hl (by omega), h1, h2⟩, rfl, rfl⟩
    by_cases hl0 : l = 0
    · cases g with
      | nil =>
        obtain ⟨r, hr, hb⟩ := blended (n := n) (g := []) (c := c) (l := l) (t := t) ht (by omega) hc
        walk_at "ev"
        rw [hb]
        walk_at "ev"
        exact ⟨fun _ => last _ _ _ hg hr (by omega) (by omega), fun z => absurd hl0 (by simpa using z)⟩
      | cons a g =>
        walk_at "ev"
        refine ⟨fun _ => ?_, fun z => absurd hl0 (by simpa using z)⟩
        exact last _ _ _ (fun x hx => hg x (List.mem_cons_of_mem _ hx)) (hg a List.mem_cons_self) ht (by omega)
    · walk_at "ev"
      refine ⟨fun z => absurd (by simpa using z) hl0, fun _ => ?_⟩
      exact last _ _ _ hg hl ht (by omega)
  obtain ⟨d, p, ios, h, r, d', h0, h1, h2, rfl, rfl, rfl⟩ := FR.sat_ex this
  exact ⟨r, d', h0, h1, h2, h⟩

theorem draw_calls {n m : Nat} {T k : Int} {d : D} {ps : List Pv} {e : Envv} {Q : D → Pv → Envv → Prop} {X : Xn → Envv → Prop} (hT : T < 1000000000000) (h : StOk T d) (hk : 0 < k) (hk2 : k < 1073741824)
    (hQ : ∀ r d', 0 ≤ r → r < k → StOk (T + 1) d' → Q (.int r) .own (e.set m (.ow d'))) : callsS (callF GamZ (n + 2) "_law_draw" [d, .int k]) ps m e Q X := by
  obtain ⟨r, d', h0, h1, h2, h3⟩ := draw (n := n) hT h hk hk2
  rw [h3]
  exact hQ r d' h0 h1 h2
/-- a pick from a list of data -/
theorem pick {n : Nat} {T : Int} {d : D} {xs : List D} (hT : T < 1000000000000) (h : StOk T d) (hx : xs ≠ []) (hx2 : xs.length < 1073741824) (hi : ∀ x ∈ xs, x.imm = true) : ∃ x d', x ∈ xs ∧ StOk (T + 1) d' ∧ callF GamZ (n + 3) "_law_pick" [d, .lst xs] = .ret x .own [d'] := by
  have : (callF GamZ (n + 3) "_law_pick" [d, .lst xs]).sat (fun x p ios => ∃ d', x ∈ xs ∧ StOk (T + 1) d' ∧ p = .own ∧ ios = [d']) fun _ _ => False := by
    rw [go (fn := fn__law_pick) (by rfl)]
    refine run_io (by rfl) (by rfl) ?_
    show (execs [0] _ fn__law_pick.body [.ow d, .sh (.lst xs)]).sat _
    unfold fn__law_pick
    dsimp only
    have hl : 0 < (xs.length : Int) := by
      have := List.length_pos_iff.mpr hx
      omega
    walk_at "ev"
    refine draw_calls hT h hl (by omega) fun r d' h0 h1 h2 => ?_
    have hr : r.toNat < xs.length := by omega
    rw [ix_at h0 (List.getElem?_eq_getElem hr)]
    have hm : xs[r.toNat] ∈ xs := List.getElem_mem hr
    rw [if_pos (hi _ hm)]
    walk_at "ev"
    exact ⟨_, hm, h2, rfl⟩
  obtain ⟨x, p, ios, h, d', h0, h1, rfl, rfl⟩ := FR.sat_ex this
  exact ⟨x, d', h0, h1, h⟩
theorem pick_calls {n m : Nat} {T : Int} {d : D} {xs : List D} {ps : List Pv} {e : Envv} {Q : D → Pv → Envv → Prop} {X : Xn → Envv → Prop} (hT : T < 1000000000000) (h : StOk T d) (hx : xs ≠ []) (hx2 : xs.length < 1073741824) (hi : ∀ x ∈ xs, x.imm = true)
    (hQ : ∀ x d', x ∈ xs → StOk (T + 1) d' → Q x .own (e.set m (.ow d'))) : callsS (callF GamZ (n + 3) "_law_pick" [d, .lst xs]) ps m e Q X := by
  obtain ⟨r, d', h0, h1, h2⟩ := pick (n := n) hT h hx hx2 hi
  rw [h2]
  exact hQ r d' h0 h1
/-- a list of numbers, mixed -/
theorem mixed {n : Nat} {T : Int} {d : D} {α : Type} {f : α → D} {xs : List α} (hf : ∀ x, (f x).imm = true ∧ D.lay 59 (f x) = true) (hT : T + xs.length < 1000000000000) (h : StOk T d) (hl : xs.length < 1000) : ∃ ys d', List.Perm ys xs ∧ StOk (T + xs.length) d' ∧ callF GamZ (n + 3) "_law_mixed" [d, .lst (xs.map f)] = .ret (.lst (ys.map f)) .own [d'] := by
  have : (callF GamZ (n + 3) "_law_mixed" [d, .lst (xs.map f)]).sat (fun x p ios => ∃ ys d', List.Perm ys xs ∧ StOk (T + xs.length) d' ∧ x = .lst (ys.map f) ∧ p = .own ∧ ios = [d']) fun _ _ => False := by
    rw [go (fn := fn__law_mixed) (by rfl)]
    refine run_io (by rfl) (by rfl) ?_
    show (execs [0] _ fn__law_mixed.body [.ow d, .sh (.lst (xs.map f)), .un, .un]).sat _
    unfold fn__law_mixed
    dsimp only
    walk_at "ev"
    refine ⟨immL_map fun x => (hf x).1, ?_⟩
    refine while_rule (fun k e => ∃ d' ls fs, k = ls.length ∧ e = [.ow d', .sh (.lst (xs.map f)), .ow (.lst (ls.map f)), .ow (.lst (fs.map f))] ∧ List.Perm (fs ++ ls) xs ∧ StOk (T + fs.length) d') xs.length ⟨d, xs, [], rfl, rfl, List.Perm.refl _, by simpa using h⟩ (by omega) ?_
    rintro k e ⟨d', ls, fs, rfl, rfl, hp, hs⟩
    have hlen : fs.length + ls.length = xs.length := by rw [← List.length_append]; exact hp.length_eq
    walk_at "ev"
    rw [cm_nenil (lay_map (k := 59) fun x => (hf x).2), nilT]
    walk_at "ev"
    refine ⟨fun hne => ?_, fun he => ?_⟩
    · have hne : ls ≠ [] := by simpa using hne
      have hpos := List.length_pos_iff.mpr hne
      walk_at "ev"
      refine draw_calls (by omega) hs (by simp; omega) (by simp; omega) fun r d' h0 h1 h2 => ?_
      walk_at "ev"
      have hr : r.toNat < ls.length := by simp at h1; omega
      rw [m_pop (k := r) (x := f ls[r.toNat]) h0 (by simp [List.getElem?_eq_getElem hr])]
      walk_at "ev"
      refine ⟨by simp; omega, ls.length - 1, by omega, d', ls.eraseIdx r.toNat, fs ++ [ls[r.toNat]], by rw [List.length_eraseIdx_of_lt hr], by simp [map_erIdx], ?_, ?_⟩
      · refine List.Perm.trans ?_ hp
        rw [List.append_assoc]
        refine List.Perm.append_left _ ?_
        exact perm_erIdx hr
      · exact h2.mono (by simp; omega)
    · have he : ls = [] := by simpa using he
      subst he
      walk_at "ev"
      refine ⟨fs, d', by simpa using hp, ?_, rfl, rfl⟩
      simp at hlen
      rw [← hlen]; exact hs
  obtain ⟨x, p, ios, h, ys, d', h0, h1, rfl, rfl, rfl⟩ := FR.sat_ex this
  exact ⟨ys, d', h0, h1, h⟩
end K03
end
section
set_option Elab.async false
set_option linter.all false
set_option maxRecDepth 100000
set_option maxHeartbeats 4000000
namespace K03
open PySem DL
section
variable {QB : Bool → Prop} {ns ms : List Int} {i : Int} {xs : List D}
theorem is_ii : cmS (isiD GamZ.sub (.int i) .int) QB ↔ QB true := Iff.rfl
theorem is_ib : cmS (isiD GamZ.sub (.int i) .bool) QB ↔ QB false := Iff.rfl
theorem is_tt : cmS (isiD GamZ.sub (.tup xs) .tuple) QB ↔ QB true := Iff.rfl
theorem is_net {fs : List Str} {vs : List D} : cmS (isiD GamZ.sub (.obj "Net" fs vs) (.own "Net")) QB ↔ QB true := by
  have : isiD GamZ.sub (.obj "Net" fs vs) (.own "Net") = some true := by show GamZ.sub false "Net" "Net" = some true; rfl
  rw [this]; exact Iff.rfl
theorem is_hung : cmS (isiD GamZ.sub (.exn "BadNet" [] []) (.own "HungError")) QB ↔ QB true := by
  have : isiD GamZ.sub (.exn "BadNet" [] []) (.own "HungError") = some true := by show GamZ.sub true "BadNet" "HungError" = some true; rfl
  rw [this]; exact Iff.rfl
theorem cm_lttt : cmS (cmpD .Lt (tupI ns) (tupI ms)) QB ↔ QB (lexI ns ms) := by
  have : cmpD .Lt (tupI ns) (tupI ms) = some (lexI ns ms) := by
    show cmpT lexI (ns.map .int) (ms.map .int) = _
    unfold cmpT
    rw [intsOf_enc, intsOf_enc]
  rw [this]; exact Iff.rfl
end
section
variable {α : Type} {Q : D → Prop} {QO : Option Int → Prop} {k : Int} {xs : List D} {io : List Nat} {f : Bf} {g : Str} {i : Nat} {a b : Ex} {es : Exs} {op : Operator}
theorem pt_non : ptS (.con .non) .non QO ↔ QO none := Iff.rfl
theorem pt_con {c : Int} : ptS (.con (.int c)) (.int k) QO ↔ QO (some k) := Iff.rfl
theorem pt_var : ptS (.var i) (.int k) QO ↔ QO (some k) := Iff.rfl
theorem pt_bin : ptS (.bin op a b) (.int k) QO ↔ QO (some k) := Iff.rfl
theorem pt_calls : ptS (.calls g i es) (.int k) QO ↔ QO (some k) := Iff.rfl
theorem cut_from {xs : List α} (h : 0 ≤ k) : cut xs (some k) none = xs.drop k.toNat := by
  unfold cut
  obtain ⟨j, rfl⟩ := Int.eq_ofNat_of_zero_le h
  rw [HT.sIx_nat, HT.sIx_none, Int.toNat_natCast]
  rcases Nat.le_total j xs.length with hj | hj
  · rw [Nat.min_eq_left hj, List.take_of_length_le (by rw [List.length_drop]; omega)]
  · rw [Nat.min_eq_right hj, List.drop_eq_nil_of_le (Nat.le_refl _), List.drop_eq_nil_of_le hj]; simp
theorem cut_to {xs : List α} (h : 0 ≤ k) : cut xs none (some k) = xs.take k.toNat := by
  unfold cut
  obtain ⟨j, rfl⟩ := Int.eq_ofNat_of_zero_le h
  rw [HT.sIx_nat, HT.sIx_none, Int.toNat_natCast, List.drop_zero, Nat.sub_zero]
  rcases Nat.le_total j xs.length with hj | hj
  · rw [Nat.min_eq_left hj]
  · rw [Nat.min_eq_right hj, List.take_of_length_le (Nat.le_refl _), List.take_of_length_le hj]
theorem sl_from (h : 0 ≤ k) : opS (slP (.lst xs) (some k) none) Q ↔ Q (.lst (xs.drop k.toNat)) := by show Q (.lst (cut xs (some k) none)) ↔ _; rw [cut_from h]
theorem sl_to (h : 0 ≤ k) : opS (slP (.lst xs) none (some k)) Q ↔ Q (.lst (xs.take k.toNat)) := by show Q (.lst (cut xs none (some k))) ↔ _; rw [cut_to h]
theorem slt_from (h : 0 ≤ k) : opS (slP (.tup xs) (some k) none) Q ↔ Q (.tup (xs.drop k.toNat)) := by show Q (.tup (cut xs (some k) none)) ↔ _; rw [cut_from h]
theorem slt_to (h : 0 ≤ k) : opS (slP (.tup xs) none (some k)) Q ↔ Q (.tup (xs.take k.toNat)) := by show Q (.tup (cut xs none (some k))) ↔ _; rw [cut_to h]
theorem it_tupl {p : Pv} {QX : List D → Prop} (h : D.immL xs = true) : ltS (plainIts (.tup xs) p) QX ↔ QX xs := by
  cases p <;> first | exact it_tup_nb rfl | exact it_tup_b h
theorem it_lstl {p : Pv} {QX : List D → Prop} (h : D.immL xs = true) : ltS (plainIts (.lst xs) p) QX ↔ QX xs := by
  cases p <;> first | exact it_lst_nb rfl | exact it_lst_b h
theorem isTup_tup : (D.tup xs).isTup = true := rfl
theorem isTup_lst : (D.lst xs).isTup = false := rfl
end
theorem zip_pw {α : Type} {R : α → α → Prop} : ∀ {ts : List α}, ts.Pairwise R → ∀ p ∈ ts.zip (ts.drop 1), R p.1 p.2
  | [], _, p, hp => by simp at hp
  | [a], _, p, hp => by simp at hp
  | a :: b :: r, h, p, hp => by
    have h' := List.pairwise_cons.mp h
    simp only [List.drop_succ_cons, List.drop_zero, List.zip_cons_cons, List.mem_cons] at hp
    rcases hp with rfl | hp
    · exact h'.1 b (by simp)
    · exact zip_pw h'.2 p (by simpa using hp)
section
variable {QX : List D → Prop} {p : Pv} {ts : List (List Int)} {ns : List Int}
theorem it_tT : ltS (plainIts (tT ts) p) QX ↔ QX (ts.map tupI) := it_tupl immL_tupI
theorem it_lT : ltS (plainIts (lT ts) p) QX ↔ QX (ts.map tupI) := it_lstl immL_tupI
theorem it_lI : ltS (plainIts (lI ns) p) QX ↔ QX (ns.map .int) := it_lstl immL_ints
theorem it_tupI : ltS (plainIts (tupI ns) p) QX ↔ QX (ns.map .int) := it_tupl immL_ints
end
local macro_rules | `(tactic| walk_at "ev") => `(tactic| try simp only [↓e_con, ↓e_var, ↓e_mv, ↓e_bin, ↓e_neg, ↓e_cmp, ↓e_cmp2, ↓e_and, ↓e_or, ↓e_not, ↓e_ite, ↓e_tup, ↓e_lst, ↓e_dic, ↓e_ix, ↓e_sl, ↓e_fld, ↓e_call, ↓e_callk, ↓e_callv, ↓e_calls, ↓e_new, ↓e_isi, ↓e_caught, ↓e_bi, ↓e_mth, ↓e_mthx, ↓es_nil, ↓es_cons, ↓i_on, ↓i_rng, ↓i_enu, ↓i_rv, ↓i_zp, ↓e_comp, ↓s_nm, ↓s_tp, ↓s_par, ↓s_setx, ↓s_setxx, ↓s_setf, ↓s_ex, ↓s_ret, ↓s_ite, ↓s_brk, ↓s_cnt, ↓s_pss, ↓s_rais, ↓ss_nil, ↓ss_cons,
  imm_non, imm_bl, imm_int, imm_str, imm_fn, imm_exn, imm_scr, imm_tup, imm_lst, imm_dct, imm_obj, immL_nil, immL_cons, immL_ints, imm_tupI, immL_tupI,
  flat_non, flat_bl, flat_int, flat_str, flat_tup, flat_tupI, flat_lst, Pv.of, w_own, w_shr, w_bor, nb_own, nb_shr, nb_bor, nobor_nil, nobor_cons, beq_oo, beq_so, beq_bo, bne_ob, bne_sb, bne_bb, keepS,
  ev_some, set_own, set_shr, setAll_nil, setAll_cons, setTg_nm, setTg_tp, setTp_nil, setTp_cons, rd_ow, rd_sh, mv_ow, mv_sh, ow_ow, isun_ow, isun_sh, bl_bl, wipe_nil, wipe_cons, slImm_un, slImm_sh, slImm_ow,
  callo_own, call_shr, call_exc, calls_own, calls_shr, new_ok, fn_some, fn_sh, fn_ow, op_some, DL.op_add, DL.op_sub, DL.op_mul, op_div, DL.op_mod, DL.op_pow, op_addl, op_addt, op_adds, cm_lt, cm_le, cm_gt, cm_ge, cm_is, cm_isnot,
  okd_int, okd_bl, okd_non, okd_tupI, okd_lI, okd_lT, okd_tT, okd_lL, okd_nil, okd_tnil, cm_eqi, cm_nei, cm_ini, cm_notini, cm_inti, cm_notinti, cm_inlt, cm_notinlt, cm_intt, cm_notintt,
  bi_len_l, bi_len_t, bi_len_s, bi_int, bi_abs, bi_min2, bi_max2, bi_list_l, bi_list_t, bi_tuple_l, bi_tuple_t, bi_sum, m_append, m_extend, lt_some, it_lst_nb, it_tup_nb, it_scr,
  stD_left, stD_turn, stD_great, stD_cells, stD_setleft, stD_setturn, stD_setgreat, stD_imm, stD_lst, sz_def, it_tT, it_lT, it_lI, it_tupI,  pt_non, pt_con, pt_var, pt_bin, pt_calls, isTup_tup, isTup_lst,  is_ii, is_ib, is_tt, is_net, is_hung, D.int.injEq, exists_eq_left, exists_eq_left', cm_lttt, cm_neI0, cm_eqI0, cm_neT0, cm_eqT0, cm_eqt0, m_pop0, isLst_lst, aok_nil, aok_own,
  Ex.mods, Exs.mods, It.mods, Tg.slots, Sts.mods, St.mods, wipeS, backS, ite_true, ite_false, if_true, if_false, reduceIte, Bool.false_eq_true, Bool.true_eq_false, List.getD_cons_zero, List.getD_cons_succ, List.set_cons_zero, List.set_cons_succ, List.contains_cons, List.contains_nil, List.all_cons, List.all_nil, List.append_nil, List.nil_append, List.cons_append,
  Bool.not_true, Bool.not_false, Bool.and_true, Bool.true_and, Bool.and_false, Bool.false_and, Bool.or_false, Bool.false_or, Bool.or_true, Bool.true_or, beq_self_eq_true, Nat.reduceBEq, Nat.reduceEqDiff, true_and, and_true, true_implies, false_implies, List.not_mem_nil, List.mem_cons, List.mem_singleton, not_false_eq_true, not_true_eq_false, or_false, false_or, reduceCtorEq, Nat.reduceAdd, Nat.reduceSub, decide_true, decide_false])
theorem filT {α : Type} {xs : List α} : (xs.filter fun _ => true) = xs := List.filter_eq_self.mpr fun _ _ => rfl
theorem ret_of {r : FR} {d : D} (h : r.sat (fun d' p ios => d' = d ∧ p = .own ∧ ios = []) fun _ _ => False) : r = .ret d .own [] := FR.sat_ret h
theorem pw18 : (10 : Int) ^ (18 : Int).toNat = 1000000000000000000 := by decide
theorem is_whole {n : Nat} {i : Int} (h1 : -1000000000000000000 < i) (h2 : i < 1000000000000000000) : callF GamZ (n + 1) "is_whole" [.int i] = .ret (.bl true) .own [] := by
  refine ret_of ?_
  rw [go (fn := fn_is_whole) (by rfl)]
  refine run_no (by rfl) (by rfl) ?_
  show (execs [] _ fn_is_whole.body [.sh (.int i)]).sat _
  unfold fn_is_whole
  dsimp only
  walk_at "ev"
  simp only [pw18]
  simp [h1, h2]
theorem is_number {n : Nat} {i a b : Int} (h1 : -1000000000000000000 < i) (h2 : i < 1000000000000000000) (ha : a ≤ i) (hb : i ≤ b) : callF GamZ (n + 2) "is_number" [.int i, .int a, .int b] = .ret (.bl true) .own [] := by
  refine ret_of ?_
  rw [go (fn := fn_is_number) (by rfl)]
  refine run_no (by rfl) (by rfl) ?_
  show (execs [] _ fn_is_number.body [.sh (.int i), .sh (.int a), .sh (.int b)]).sat _
  unfold fn_is_number
  dsimp only
  walk_at "ev"
  rw [is_whole h1 h2]
  walk_at "ev"
  simp [ha, hb]
theorem is_pair_of {n : Nat} {m a b : Int} (hm : m ≤ 16) (ha : 0 ≤ a) (hab : a < b) (hb : b < m) : callF GamZ (n + 3) "is_pair_of" [.int m, tupI [a, b]] = .ret (.bl true) .own [] := by
  refine ret_of ?_
  rw [go (fn := fn_is_pair_of) (by rfl)]
  refine run_no (by rfl) (by rfl) ?_
  show (execs [] _ fn_is_pair_of.body [.sh (.int m), .sh (.tup [.int a, .int b])]).sat _
  unfold fn_is_pair_of
  dsimp only
  walk_at "ev"
  have e0 : ∀ {Q : D → Prop}, opS (ixD (.tup [.int a, .int b]) (.int 0)) Q ↔ Q (.int a) := Iff.rfl
  have e1 : ∀ {Q : D → Prop}, opS (ixD (.tup [.int a, .int b]) (.int 1)) Q ↔ Q (.int b) := Iff.rfl
  simp only [e0, e1]
  walk_at "ev"
  rw [is_number (by omega) (by omega) ha (by omega), is_number (by omega) (by omega) (by omega) (by omega)]
  walk_at "ev"
  simp [hab]
theorem nt_tie {n : Nat} {a b : Int} : callF GamZ (n + 1) "_law_nt_tie" [.int a, .int b] = .ret (tupI [min a b, max a b]) .own [] := by
  refine ret_of ?_
  rw [go (fn := fn__law_nt_tie) (by rfl)]
  refine run_no (by rfl) (by rfl) ?_
  show (execs [] _ fn__law_nt_tie.body [.sh (.int a), .sh (.int b)]).sat _
  unfold fn__law_nt_tie
  dsimp only
  walk_at "ev"
  have h1 : (if b < a then b else a) = min a b := by by_cases h : b < a <;> simp [h] <;> omega
  have h2 : (if b > a then b else a) = max a b := by by_cases h : b > a <;> simp [h] <;> omega
  rw [h1, h2]; rfl
theorem need_net {n : Nat} {fs : List Str} {vs : List D} : callF GamZ (n + 1) "need_net" [.obj "Net" fs vs] = .ret .non .own [] := by
  refine ret_of ?_
  rw [go (fn := fn_need_net) (by rfl)]
  refine run_no (by rfl) (by rfl) ?_
  show (execs [] _ fn_need_net.body [.sh (.obj "Net" fs vs)]).sat _
  unfold fn_need_net
  dsimp only
  walk_at "ev"
def lexS (x y : List Int) : Prop := lexI x y = true
theorem is_rising {n : Nat} {ts : List (List Int)} (h : ts.Pairwise lexS) (hl : ts.length < 1000) : callF GamZ (n + 1) "is_rising" [tT ts] = .ret (.bl true) .own [] := by
  refine ret_of ?_
  rw [go (fn := fn_is_rising) (by rfl)]
  refine run_no (by rfl) (by rfl) ?_
  show (execs [] _ fn_is_rising.body [.sh (tT ts), .un, .un]).sat _
  unfold fn_is_rising
  dsimp only
  walk_at "ev"
  rw [slt_from (by omega)]
  walk_at "ev"
  have e1 : (ts.map tupI).drop (1 : Int).toNat = (ts.drop 1).map tupI := by rw [List.map_drop]; rfl
  rw [e1]
  refine ⟨immL_tupI, ?_⟩
  rw [it_tupl immL_tupI]
  have e2 : List.zipWith (fun a b => D.tup [a, b]) (ts.map tupI) ((ts.drop 1).map tupI) = (ts.zip (ts.drop 1)).map fun p => D.tup [tupI p.1, tupI p.2] := by
    rw [List.zipWith_map, List.zip, List.map_zipWith]
  rw [e2]
  refine comp_map (fun p : List Int × List Int => D.tup [tupI p.1, tupI p.2]) (ts.zip (ts.drop 1)) (fun _ => true) (fun p => .bl (lexI p.1 p.2)) ?_ ?_ ?_
  · rw [List.length_zip]; have := sz_def; omega
  · intro p hp
    walk_at "ev"
  · walk_at "ev"
    have e3 : ((ts.zip (ts.drop 1)).filter fun _ => true).map (fun p => D.bl (lexI p.1 p.2)) = ((ts.zip (ts.drop 1)).map fun p => lexI p.1 p.2).map .bl := by
      rw [filT, List.map_map]; rfl
    rw [e3, bi_alll]
    walk_at "ev"
    rw [D.bl.injEq, List.all_eq_true]
    intro x hx
    obtain ⟨p, hp, rfl⟩ := List.mem_map.mp hx
    exact zip_pw h p hp
/-- a good row of ties -/
structure Ties (m : Int) (ts : List (List Int)) : Prop where
  pair : ∀ t ∈ ts, ∃ a b, t = [a, b] ∧ 0 ≤ a ∧ a < b ∧ b < m
  asc : ts.Pairwise lexS
theorem net_init {n : Nat} {m : Int} {ts : List (List Int)} (hm : 1 ≤ m) (hm2 : m ≤ 16) (h : Ties m ts) (hl : ts.length < 1000) : callF GamZ (n + 4) "Net" [.obj "Net" [] [], .int m, tT ts] = .ret .non .own [.obj "Net" ["many", "ties"] [.int m, tT ts]] := by
  refine FR.sat_ret ?_
  rw [go (fn := fn_Net) (by rfl)]
  refine run_io (by rfl) (by rfl) ?_
  show (execs [0] _ fn_Net.body [.ow (.obj "Net" [] []), .sh (.int m), .sh (tT ts), .un]).sat _
  unfold fn_Net
  dsimp only
  walk_at "ev"
  rw [is_number (n := n + 1) (by omega) (by omega) hm hm2]
  walk_at "ev"
  refine comp_map tupI ts (fun _ => true) (fun _ => .bl true) (by have := sz_def; omega) ?_ ?_
  · intro t ht
    obtain ⟨a, b, rfl, h0, h1, h2⟩ := h.pair t ht
    walk_at "ev"
    rw [is_pair_of hm2 h0 h1 h2]
    walk_at "ev"
  · walk_at "ev"
    have e3 : (ts.filter fun _ => true).map (fun _ => D.bl true) = (ts.map fun _ => true).map .bl := by
      rw [filT, List.map_map]; rfl
    rw [e3, bi_alll]
    walk_at "ev"
    rw [is_rising h.asc hl]
    walk_at "ev"
    have hall : (ts.map fun _ => true).all id = true := by simp
    rw [hall]
    walk_at "ev"
    refine ⟨_, _, _, rfl, rfl, by show 0 < 1000; decide, _, _, _, rfl, rfl, by show 1 < 1000; decide, rfl⟩

abbrev netD (m : Int) (ts : List (List Int)) : D := .obj "Net" ["many", "ties"] [.int m, tT ts]
section
variable {m : Int} {ts : List (List Int)} {Q : D → Prop} {QX : List D → Prop} {x : D}
theorem fl_many : opS (fldD (netD m ts) "Net" "many") Q ↔ Q (.int m) := Iff.rfl
theorem fl_ties : opS (fldD (netD m ts) "Net" "ties") Q ↔ Q (tT ts) := Iff.rfl
end
theorem enc_pairs {m : Int} {ts : List (List Int)} (h : Ties m ts) : ∃ ps : List (Int × Int), ts = ps.map (fun p => [p.1, p.2]) ∧ ∀ p ∈ ps, 0 ≤ p.1 ∧ p.1 < p.2 ∧ p.2 < m := by
  replace h := h.pair
  induction ts with
  | nil => exact ⟨[], rfl, by simp⟩
  | cons t ts ih =>
    obtain ⟨ps, rfl, hp⟩ := ih fun t ht => h t (List.mem_cons_of_mem _ ht)
    obtain ⟨a, b, rfl, h1⟩ := h t List.mem_cons_self
    exact ⟨(a, b) :: ps, rfl, fun p hp' => by rcases List.mem_cons.mp hp' with rfl | hp'; exact h1; exact hp p hp'⟩
def adj (ts : List (List Int)) (a b : Int) : Bool := decide ([a, b] ∈ ts) || decide ([b, a] ∈ ts)
/-- neighbours, point by point -/
def NbOk (m : Int) (ts : List (List Int)) (nbs : List (List Int)) : Prop := (nbs.length : Int) = m ∧ ∀ (p : Nat) (l : List Int), nbs[p]? = some l → ∀ q, q ∈ l ↔ adj ts p q = true
theorem nt_beside {n : Nat} {m : Int} {ts : List (List Int)} (h : Ties m ts) (hm : 0 ≤ m) (hm2 : m ≤ 16) (hl : ts.length < 1000) : ∃ nbs, NbOk m ts nbs ∧ callF GamZ (n + 1) "_law_nt_beside" [.int m, tT ts] = .ret (lL nbs) .own [] := by
  have : (callF GamZ (n + 1) "_law_nt_beside" [.int m, tT ts]).sat (fun d p ios => ∃ nbs, NbOk m ts nbs ∧ d = lL nbs ∧ p = .own ∧ ios = []) fun _ _ => False := by
    obtain ⟨ps, rfl, hps⟩ := enc_pairs h
    rw [go (fn := fn__law_nt_beside) (by rfl)]
    refine run_no (by rfl) (by rfl) ?_
    show (execs [] _ fn__law_nt_beside.body [.sh (.int m), .sh (tT (ps.map fun p => [p.1, p.2])), .un, .un, .un, .un]).sat _
    unfold fn__law_nt_beside
    dsimp only
    walk_at "ev"
    refine for_map (fun k : Nat => .int k) (List.range m.toNat) (fun pre post e => ∃ nbs s3, e = [.sh (.int m), .sh (tT (ps.map fun p => [p.1, p.2])), .ow (lL nbs), s3, .un, .un] ∧ nbs.length = pre.length ∧ ∀ (p : Nat) l, nbs[p]? = some l → ∀ q, q ∈ l ↔ adj (ps.map fun p => [p.1, p.2]) p q = true) ?_ ?_ ?_
    · walk_at "ev"
      rw [rng_1 (by unfold rng62; simp; omega)]
      exact ⟨rfl, [], _, rfl, rfl, by simp⟩
    · rintro pre x post e hx ⟨nbs, s3, rfl, hlen, hn⟩
      have hxe : pre.length = x := by
        have : (List.range m.toNat)[pre.length]? = some x := by rw [hx]; simp
        rw [List.getElem?_eq_some_iff] at this
        obtain ⟨hh, this⟩ := this
        simpa using this
      walk_at "ev"
      have hps2 : ps.length ≤ SZ := by have := sz_def; simp at hl; omega
      have hmm : List.map tupI (ps.map fun p => [p.1, p.2]) = ps.map (fun p => D.tup [.int p.1, .int p.2]) := by rw [List.map_map]; rfl
      rw [hmm]
      refine comp_map (fun p : Int × Int => D.tup [.int p.1, .int p.2]) ps (fun p => decide (p.1 = (x : Int))) (fun p => .int p.2) hps2 ?_ ?_
      · intro p hp
        walk_at "ev"
        exact ⟨fun _ => trivial, fun _ => trivial⟩
      · walk_at "ev"
        rw [hmm]
        refine comp_map (fun p : Int × Int => D.tup [.int p.1, .int p.2]) ps (fun p => decide (p.2 = (x : Int))) (fun p => .int p.1) hps2 ?_ ?_
        · intro p hp
          walk_at "ev"
          exact ⟨fun _ => trivial, fun _ => trivial⟩
        · walk_at "ev"
          have he : D.lst ((ps.filter fun p => decide (p.1 = (x : Int))).map (fun p => D.int p.2) ++ (ps.filter fun p => decide (p.2 = (x : Int))).map fun p => D.int p.1) = lI ((ps.filter fun p => decide (p.1 = (x : Int))).map (·.2) ++ (ps.filter fun p => decide (p.2 = (x : Int))).map (·.1)) := by
            unfold lI
            rw [List.map_append, List.map_map, List.map_map]; rfl
          rw [he, bi_sorted]
          walk_at "ev"
          have hf1 := List.length_filter_le (fun p : Int × Int => decide (p.1 = (x : Int))) ps
          have hf2 := List.length_filter_le (fun p : Int × Int => decide (p.2 = (x : Int))) ps
          have hlp : ps.length < 1000 := by simpa using hl
          have hxm : pre.length < m.toNat := by
            have : (List.range m.toNat).length = _ := congrArg List.length hx
            simp at this; omega
          refine ⟨by rw [List.length_map, List.length_map]; omega, by rw [D.lst.inj he]; exact immL_ints, by rw [List.length_map]; omega, nbs ++ [_], _, by unfold lL; rw [List.map_append]; rfl, by simp [hlen], ?_⟩
          intro p l hp q
          rw [List.getElem?_append] at hp
          split at hp
          · exact hn p l hp q
          · rename_i hlt
            have hpe : p - nbs.length = 0 := by
              rcases Nat.eq_zero_or_pos (p - nbs.length) with h | h
              · exact h
              · rw [List.getElem?_eq_none (by simp; omega)] at hp; cases hp
            rw [hpe] at hp
            have hpx : p = x := by omega
            subst hpx
            simp only [List.getElem?_cons_zero, Option.some.injEq] at hp
            subst hp
            rw [(sortI_perm _).mem_iff]
            unfold adj
            simp only [List.mem_append, List.mem_map, List.mem_filter, decide_eq_true_eq, Bool.or_eq_true, List.cons.injEq, and_true]
            constructor
            · rintro (⟨p, ⟨h1, h2⟩, rfl⟩ | ⟨p, ⟨h1, h2⟩, rfl⟩)
              · exact .inl ⟨p, h1, h2, rfl⟩
              · exact .inr ⟨p, h1, rfl, h2⟩
            · rintro (⟨p, h1, h2, h3⟩ | ⟨p, h1, h2, h3⟩)
              · exact .inl ⟨p, ⟨h1, h2⟩, h3⟩
              · exact .inr ⟨p, ⟨h1, h3⟩, h2⟩
    · rintro e ⟨nbs, s3, rfl, hlen, hn⟩
      walk_at "ev"
      exact ⟨nbs, ⟨by rw [hlen]; simp; omega, hn⟩, rfl⟩
  obtain ⟨d, p, ios, h, nbs, h1, rfl, rfl, rfl⟩ := FR.sat_ex this
  exact ⟨nbs, h1, h⟩
theorem mth_app {ys : List Int} {y : Int} : lI ys = lI ys := rfl
theorem ixL {nbs : List (List Int)} {a : Int} {l : List Int} {Q : D → Prop} (h0 : 0 ≤ a) (h : nbs[a.toNat]? = some l) : opS (ixD (lL nbs) (.int a)) Q ↔ Q (lI l) := ix_at h0 (by rw [List.getElem?_map, h]; rfl)
theorem setL {nbs : List (List Int)} {a : Int} {l : List Int} {Q : D → Prop} (h0 : 0 ≤ a) (h : a < nbs.length) : opS (setD (lL nbs) (.int a) (lI l)) Q ↔ Q (lL (nbs.set a.toNat l)) := by
  have : setD (lL nbs) (.int a) (lI l) = some (lL (nbs.set a.toNat l)) := by
    show (L2.ixN (nbs.map lI).length a).map (fun j => D.lst ((nbs.map lI).set j (lI l))) = _
    rw [ixN_of h0 (by rw [List.length_map]; exact h)]
    show some (D.lst _) = _
    rw [← List.map_set]
  rw [this]; exact Iff.rfl
theorem m_appI {ys : List Int} {y : Int} {QM : D → D → Prop} (h : ys.length < 1000000) : prS (mthD .append (lI ys) [.int y]) QM ↔ QM .non (lI (ys ++ [y])) := by
  have e : lI (ys ++ [y]) = .lst (ys.map .int ++ [.int y]) := by unfold lI; rw [List.map_append]; rfl
  rw [e, m_append]
  refine ⟨fun z => z.2, fun z => ⟨?_, z⟩⟩
  have := sz_def
  rw [List.length_map]; omega
theorem lI_snoc {ys : List Int} {y : Int} : D.lst (ys.map .int ++ [.int y]) = lI (ys ++ [y]) := by unfold lI; rw [List.map_append]; rfl
theorem lL_isLst {l : List Int} : (lI l).isLst = true := rfl
theorem beside {n : Nat} {m : Int} {ts : List (List Int)} (h : Ties m ts) (hm : 0 ≤ m) (hm2 : m ≤ 16) (hl : ts.length < 1000) : ∃ nbs, NbOk m ts nbs ∧ callF GamZ (n + 1) "beside" [netD m ts] = .ret (lL nbs) .own [] := by
  have : (callF GamZ (n + 1) "beside" [netD m ts]).sat (fun d p ios => ∃ nbs, NbOk m ts nbs ∧ d = lL nbs ∧ p = .own ∧ ios = []) fun _ _ => False := by
    obtain ⟨ps, rfl, hps⟩ := enc_pairs h
    rw [go (fn := fn_beside) (by rfl)]
    refine run_no (by rfl) (by rfl) ?_
    show (execs [] _ fn_beside.body [.sh (netD m (ps.map fun p => [p.1, p.2])), .un, .un, .un, .un, .un]).sat _
    unfold fn_beside
    dsimp only
    have fl1 : ∀ {Q : D → Prop}, opS (fldD (netD m (ps.map fun p => [p.1, p.2])) "Net" "many") Q ↔ Q (.int m) := Iff.rfl
    have fl2 : ∀ {Q : D → Prop}, opS (fldD (netD m (ps.map fun p => [p.1, p.2])) "Net" "ties") Q ↔ Q (tT (ps.map fun p => [p.1, p.2])) := Iff.rfl
    walk_at "ev"
    simp only [fl1, fl2]
    walk_at "ev"
    rw [rng_1 (by unfold rng62; simp; omega)]
    walk_at "ev"
    refine comp_map (fun k : Nat => .int k) (List.range m.toNat) (fun _ => true) (fun _ => .lst []) (by have := sz_def; simp; omega) ?_ ?_
    · intro k hk
      walk_at "ev"
    · walk_at "ev"
      rw [filT]
      refine for_map (fun p : Int × Int => D.tup [.int p.1, .int p.2]) ps (fun pre post e => ∃ nbs s2 s3, e = [.sh (netD m (ps.map fun p => [p.1, p.2])), .ow (lL nbs), s2, s3, .un, .un] ∧ (nbs.length : Int) = m ∧ (∀ l ∈ nbs, l.length ≤ 2 * pre.length) ∧ ∀ (p : Nat) l, nbs[p]? = some l → ∀ q, q ∈ l ↔ adj (pre.map fun p => [p.1, p.2]) p q = true) ?_ ?_ ?_
      · walk_at "ev"
        simp only [fl1, fl2]
        walk_at "ev"
        refine ⟨by rw [List.map_map]; rfl, (List.range m.toNat).map fun _ => [], _, _, by unfold lL; rw [List.map_map]; rfl, by simp; omega, ?_, ?_⟩
        · intro l hl2
          obtain ⟨_, _, rfl⟩ := List.mem_map.mp hl2
          simp
        · intro p l hp q
          rw [List.getElem?_map] at hp
          obtain ⟨_, _, rfl⟩ := Option.map_eq_some_iff.mp hp
          simp [adj]
      · rintro pre ⟨a, b⟩ post e hx ⟨nbs, s2, s3, rfl, hlen, hsz, hn⟩
        obtain ⟨h0, h1, h2⟩ := hps (a, b) (by rw [hx]; simp)
        dsimp only at h0 h1 h2
        have hlp : pre.length < 1000 := by
          have : ps.length = _ := congrArg List.length hx
          simp at this hl; omega
        have ha : a.toNat < nbs.length := by omega
        have hb : b.toNat < nbs.length := by omega
        have hba : a.toNat ≠ b.toNat := by omega
        have ga := List.getElem?_eq_getElem ha
        have gb := List.getElem?_eq_getElem hb
        have gb' : (nbs.set a.toNat (nbs[a.toNat] ++ [b]))[b.toNat]? = some nbs[b.toNat] := by rw [List.getElem?_set_ne hba, gb]
        have la := hsz _ (List.getElem_mem ha)
        have lb := hsz _ (List.getElem_mem hb)
        walk_at "ev"
        rw [ixL h0 ga]
        walk_at "ev"
        rw [lI_snoc, setL h0 (by omega)]
        walk_at "ev"
        rw [ixL (by omega) gb']
        walk_at "ev"
        rw [lI_snoc, setL (by omega) (by rw [List.length_set]; omega)]
        walk_at "ev"
        refine ⟨by rw [List.length_map]; omega, by rw [List.length_map]; omega, _, _, _, rfl, by rw [List.length_set, List.length_set]; exact hlen, ?_, ?_⟩
        · intro l hl2
          rw [List.length_append]
          rcases List.mem_or_eq_of_mem_set hl2 with hl2 | rfl
          · rcases List.mem_or_eq_of_mem_set hl2 with hl2 | rfl
            · have := hsz l hl2; omega
            · simp; omega
          · simp; omega
        · intro p l hp q
          have hadj : adj ((pre ++ [(a, b)]).map fun p => [p.1, p.2]) p q = true ↔ adj (pre.map fun p => [p.1, p.2]) p q = true ∨ ((p : Int) = a ∧ q = b) ∨ ((p : Int) = b ∧ q = a) := by
            unfold adj
            simp only [List.map_append, List.mem_append, List.map_cons, List.map_nil, List.mem_singleton, List.cons.injEq, and_true, Bool.or_eq_true, decide_eq_true_eq]
            constructor
            · rintro ((h | h) | h | h)
              · exact .inl (.inl h)
              · exact .inr (.inl h)
              · exact .inl (.inr h)
              · exact .inr (.inr ⟨h.2, h.1⟩)
            · rintro ((h | h) | h | h)
              · exact .inl (.inl h)
              · exact .inr (.inl h)
              · exact .inl (.inr h)
              · exact .inr (.inr ⟨h.2, h.1⟩)
          rw [hadj]
          by_cases hpb : p = b.toNat
          · subst hpb
            rw [List.getElem?_set_self (by rw [List.length_set]; exact hb)] at hp
            cases hp
            rw [List.mem_append, hn _ _ gb, List.mem_singleton]
            constructor
            · rintro (h | h)
              · exact .inl h
              · exact .inr (.inr ⟨by omega, h⟩)
            · rintro (h | h | h)
              · exact .inl h
              · omega
              · exact .inr h.2
          · rw [List.getElem?_set_ne (fun h => hpb h.symm)] at hp
            by_cases hpa : p = a.toNat
            · subst hpa
              rw [List.getElem?_set_self ha] at hp
              cases hp
              rw [List.mem_append, hn _ _ ga, List.mem_singleton]
              constructor
              · rintro (h | h)
                · exact .inl h
                · exact .inr (.inl ⟨by omega, h⟩)
              · rintro (h | h | h)
                · exact .inl h
                · exact .inr h.2
                · omega
            · rw [List.getElem?_set_ne (fun h => hpa h.symm)] at hp
              rw [hn _ _ hp]
              refine ⟨.inl, fun h => ?_⟩
              rcases h with h | h | h
              · exact h
              · omega
              · omega
      · rintro e ⟨nbs, s2, s3, rfl, hlen, hsz, hn⟩
        walk_at "ev"
        rw [it_lst_nb rfl]
        refine DL.comp_map lI nbs (fun _ => true) (fun l => lI (sortI l)) (by have := sz_def; omega) ?_ ?_
        · intro l hl2
          walk_at "ev"
          rw [bi_sorted]
          walk_at "ev"
        · walk_at "ev"
          rw [filT]
          refine ⟨nbs.map sortI, ⟨by rw [List.length_map]; exact hlen, ?_⟩, by unfold lL; rw [List.map_map]; rfl⟩
          intro p l hp q
          rw [List.getElem?_map] at hp
          obtain ⟨l', hl', rfl⟩ := Option.map_eq_some_iff.mp hp
          rw [(sortI_perm _).mem_iff]
          exact hn p l' hl' q
  obtain ⟨d, p, ios, h, nbs, h1, rfl, rfl, rfl⟩ := FR.sat_ex this
  exact ⟨nbs, h1, h⟩
end K03
end
section
set_option Elab.async false
set_option linter.all false
set_option maxRecDepth 100000
set_option maxHeartbeats 4000000
/-! cliques, in plain Lean. -/
namespace CL
open DL
variable {A : Int → Int → Bool}
def growL (A : Int → Int → Bool) (rec : List Int → List Int → List (List Int)) : List Int → List Int → List (List Int)
  | [], _ => []
  | p :: ps, gone => (rec ((p :: ps).filter (A p)) (gone.filter (A p))).map (p :: ·) ++ growL A rec ps (gone ++ [p])
def grow (A : Int → Int → Bool) : Nat → List Int → List Int → List (List Int)
  | 0, _, _ => []
  | k + 1, P, X => if P = [] ∧ X = [] then [[]] else growL A (grow A k) P X
structure Und (A : Int → Int → Bool) : Prop where
  sym : ∀ {a b}, A a b = true → A b a = true
  irr : ∀ a, A a a = false
def Good (A : Int → Int → Bool) (P X Q : List Int) : Prop := Q.Sublist P ∧ Q.Pairwise (fun a b => A a b = true) ∧ ∀ y ∈ P ++ X, ∃ x ∈ Q, A y x = false
theorem fil_cons (hu : Und A) {p : Int} {ps : List Int} : (p :: ps).filter (A p) = ps.filter (A p) := by rw [List.filter_cons, hu.irr]; rfl
theorem sub_fil {p : Int} {Q ps : List Int} : Q.Sublist (ps.filter (A p)) ↔ Q.Sublist ps ∧ ∀ x ∈ Q, A p x = true := by
  constructor
  · intro h
    exact ⟨h.trans List.filter_sublist, fun x hx => (List.mem_filter.mp (h.subset hx)).2⟩
  · rintro ⟨h1, h2⟩
    have := h1.filter (A p)
    rwa [List.filter_eq_self.mpr h2] at this
theorem good_cons (hu : Und A) {p : Int} {ps gone Q : List Int} : Good A (ps.filter (A p)) (gone.filter (A p)) Q ↔ (p :: Q).Sublist (p :: ps) ∧ (p :: Q).Pairwise (fun a b => A a b = true) ∧ ∀ y ∈ (p :: ps) ++ gone, ∃ x ∈ p :: Q, A y x = false := by
  unfold Good
  rw [sub_fil, List.cons_sublist_cons, List.pairwise_cons]
  constructor
  · rintro ⟨⟨h1, h2⟩, h3, h4⟩
    refine ⟨h1, ⟨h2, h3⟩, fun y hy => ?_⟩
    by_cases hA : A p y = true
    · have : y ≠ p := fun e => by subst e; rw [hu.irr] at hA; cases hA
      have hy : y ∈ ps.filter (A p) ++ gone.filter (A p) := by
        rw [← List.filter_append, List.mem_filter]
        refine ⟨?_, hA⟩
        simp only [List.cons_append, List.mem_cons] at hy
        exact hy.resolve_left this
      obtain ⟨x, hx, ha⟩ := h4 y hy
      exact ⟨x, List.mem_cons_of_mem _ hx, ha⟩
    · refine ⟨p, List.mem_cons_self, ?_⟩
      cases h : A y p with
      | false => rfl
      | true => exact absurd (hu.sym h) hA
  · rintro ⟨h1, ⟨h2, h3⟩, h4⟩
    refine ⟨⟨h1, h2⟩, h3, fun y hy => ?_⟩
    rw [← List.filter_append, List.mem_filter] at hy
    obtain ⟨x, hx, ha⟩ := h4 y (List.mem_cons_of_mem _ hy.1)
    rcases List.mem_cons.mp hx with rfl | hx
    · rw [hu.sym hy.2] at ha; cases ha
    · exact ⟨x, hx, ha⟩
theorem growL_spec (hu : Und A) {rec : List Int → List Int → List (List Int)} {k : Nat} (hr : ∀ P X, P.length < k → ∀ Q, Q ∈ rec P X ↔ Good A P X Q) : ∀ P gone, P.length ≤ k → ∀ Q, Q ∈ growL A rec P gone ↔ Good A P gone Q ∧ Q ≠ []
  | [], gone, _, Q => by
    rw [growL]
    refine ⟨fun h => by simp at h, fun ⟨h, hn⟩ => absurd (List.sublist_nil.mp h.1) hn⟩
  | p :: ps, gone, hl, Q => by
    have hl' : ps.length < k := by simp at hl; omega
    rw [growL, List.mem_append, fil_cons hu, growL_spec hu hr ps (gone ++ [p]) (by omega) Q]
    have hsw : ∀ {Q : List Int}, (∀ y ∈ ps ++ (gone ++ [p]), ∃ x ∈ Q, A y x = false) ↔ ∀ y ∈ (p :: ps) ++ gone, ∃ x ∈ Q, A y x = false := by
      intro Q
      constructor
      · intro h y hy
        refine h y ?_
        simp only [List.cons_append, List.mem_cons, List.mem_append, List.not_mem_nil, or_false] at hy ⊢
        rcases hy with rfl | h | h <;> simp [*]
      · intro h y hy
        refine h y ?_
        simp only [List.cons_append, List.mem_cons, List.mem_append, List.not_mem_nil, or_false] at hy ⊢
        rcases hy with h | h | rfl <;> simp [*]
    constructor
    · rintro (h | ⟨⟨h1, h2, h3⟩, h4⟩)
      · obtain ⟨Q', hQ, rfl⟩ := List.mem_map.mp h
        rw [hr _ _ (Nat.lt_of_le_of_lt (List.length_filter_le _ _) hl') Q', good_cons hu] at hQ
        exact ⟨hQ, by simp⟩
      · exact ⟨⟨h1.trans (List.sublist_cons_self _ _), h2, hsw.mp h3⟩, h4⟩
    · rintro ⟨⟨h1, h2, h3⟩, h4⟩
      cases h1 with
      | cons _ h1 => exact .inr ⟨⟨h1, h2, hsw.mpr h3⟩, h4⟩
      | cons_cons _ h1 =>
        refine .inl (List.mem_map.mpr ⟨_, ?_, rfl⟩)
        rw [hr _ _ (Nat.lt_of_le_of_lt (List.length_filter_le _ _) hl'), good_cons hu]
        exact ⟨h1.cons_cons _, h2, h3⟩
theorem grow_spec (hu : Und A) : ∀ k P X, P.length < k → ∀ Q, Q ∈ grow A k P X ↔ Good A P X Q
  | 0, _, _, h, _ => absurd h (Nat.not_lt_zero _)
  | k + 1, P, X, h, Q => by
    rw [grow]
    by_cases he : P = [] ∧ X = []
    · rw [if_pos he]
      obtain ⟨rfl, rfl⟩ := he
      simp only [List.mem_singleton]
      exact ⟨fun h => by subst h; exact ⟨List.Sublist.refl _, List.Pairwise.nil, by simp⟩, fun h => List.sublist_nil.mp h.1⟩
    · rw [if_neg he, growL_spec hu (grow_spec hu k) P X (by omega) Q]
      refine ⟨fun h => h.1, fun h => ⟨h, fun hq => he ?_⟩⟩
      subst hq
      have : ∀ y, y ∉ P ++ X := fun y hy => by obtain ⟨x, hx, _⟩ := h.2.2 y hy; simp at hx
      have := List.eq_nil_iff_forall_not_mem.mpr this
      simpa using this
theorem growL_nodup (hu : Und A) {rec : List Int → List Int → List (List Int)} {k : Nat} (hr : ∀ P X, P.length < k → ∀ Q, Q ∈ rec P X ↔ Good A P X Q) (hn : ∀ P X, P.Nodup → (rec P X).Nodup) : ∀ P gone, P.Nodup → P.length ≤ k → (growL A rec P gone).Nodup
  | [], gone, _, _ => by rw [growL]; exact List.nodup_nil
  | p :: ps, gone, hP, hl => by
    have hl' : ps.length < k := by simp at hl; omega
    rw [growL, List.nodup_append]
    have hp := List.nodup_cons.mp hP
    refine ⟨?_, growL_nodup hu hr hn ps _ hp.2 (by omega), ?_⟩
    · refine List.pairwise_map.mpr ((hn _ _ (hP.sublist List.filter_sublist)).imp ?_)
      intro a b hab e
      exact hab (List.cons.inj e).2
    · rintro a ha b hb rfl
      obtain ⟨Q', _, rfl⟩ := List.mem_map.mp ha
      have := ((growL_spec hu hr ps _ (by omega) _).mp hb).1.1
      exact hp.1 (this.subset List.mem_cons_self)
theorem grow_nodup (hu : Und A) : ∀ k P X, P.Nodup → P.length < k → (grow A k P X).Nodup
  | 0, _, _, _, h => absurd h (Nat.not_lt_zero _)
  | k + 1, P, X, hP, h => by
    rw [grow]
    by_cases he : P = [] ∧ X = []
    · rw [if_pos he]; exact List.pairwise_singleton _ _
    · rw [if_neg he]
      have : ∀ P X : List Int, P.Nodup → (if P.length < k then grow A k P X else []).Nodup := by
        intro P X h1
        by_cases h2 : P.length < k
        · rw [if_pos h2]; exact grow_nodup hu k P X h1 h2
        · rw [if_neg h2]; exact List.nodup_nil
      have hg : ∀ P gone : List Int, P.length ≤ k → growL A (grow A k) P gone = growL A (fun P X => if P.length < k then grow A k P X else []) P gone := by
        intro P
        induction P with
        | nil => intro gone _; rfl
        | cons p ps ih =>
          intro gone hl
          have hl' : ps.length < k := by simp at hl; omega
          rw [growL, growL, ih _ (by omega), fil_cons hu, if_pos (Nat.lt_of_le_of_lt (List.length_filter_le _ _) hl')]
      rw [hg P X (by omega)]
      refine growL_nodup hu (k := k) (fun P X hl Q => ?_) this P X hP (by omega)
      rw [if_pos hl]
      exact grow_spec hu k P X hl Q
theorem growL_len (hu : Und A) {rec : List Int → List Int → List (List Int)} (hr : ∀ P X, (rec P X).length ≤ 2 ^ P.length) : ∀ P gone, (growL A rec P gone).length + 1 ≤ 2 ^ P.length
  | [], gone => by simp [growL]
  | p :: ps, gone => by
    rw [growL, List.length_append, List.length_map, fil_cons hu]
    have h1 := growL_len hu hr ps (gone ++ [p])
    have h2 := hr (ps.filter (A p)) (gone.filter (A p))
    have h3 : 2 ^ (ps.filter (A p)).length ≤ 2 ^ ps.length := Nat.pow_le_pow_right (by omega) (List.length_filter_le _ _)
    rw [List.length_cons, Nat.pow_succ]
    omega
theorem grow_len (hu : Und A) : ∀ k P X, (grow A k P X).length ≤ 2 ^ P.length
  | 0, _, _ => by simp [grow]
  | k + 1, P, X => by
    rw [grow]
    by_cases he : P = [] ∧ X = []
    · rw [if_pos he]; exact Nat.one_le_two_pow
    · rw [if_neg he]
      have := growL_len hu (grow_len hu k) P X
      omega
/-! ascending cliques -/
def rng (n : Nat) : List Int := (List.range n).map fun k : Nat => (k : Int)
theorem mem_rng {n : Nat} {x : Int} : x ∈ rng n ↔ 0 ≤ x ∧ x < n := by
  unfold rng
  rw [List.mem_map]
  constructor
  · rintro ⟨k, hk, rfl⟩
    have := List.mem_range.mp hk
    omega
  · rintro ⟨h1, h2⟩
    exact ⟨x.toNat, List.mem_range.mpr (by omega), by omega⟩
theorem rng_asc {n : Nat} : (rng n).Pairwise (· < ·) := by
  unfold rng
  refine List.pairwise_map.mpr (List.pairwise_lt_range.imp ?_)
  intro a b h
  omega
theorem asc_nodup {Q : List Int} (h : Q.Pairwise (· < ·)) : Q.Nodup := h.imp fun h e => by omega
theorem sub_of_asc : ∀ {P Q : List Int}, P.Pairwise (· < ·) → Q.Pairwise (· < ·) → (∀ x ∈ Q, x ∈ P) → Q.Sublist P
  | P, [], _, _, _ => List.nil_sublist _
  | [], q :: Q, _, _, h => absurd (h q List.mem_cons_self) (by simp)
  | p :: P, q :: Q, h1, h2, h => by
    have h1' := List.pairwise_cons.mp h1
    have h2' := List.pairwise_cons.mp h2
    rcases List.mem_cons.mp (h q List.mem_cons_self) with e | hq
    · subst e
      refine (sub_of_asc h1'.2 h2'.2 fun x hx => ?_).cons_cons _
      rcases List.mem_cons.mp (h x (List.mem_cons_of_mem _ hx)) with e | hx'
      · have := h2'.1 x hx; omega
      · exact hx'
    · refine (sub_of_asc h1'.2 h2 fun x hx => ?_).cons _
      rcases List.mem_cons.mp (h x hx) with e | hx'
      · have hpq := h1'.1 q hq
        rcases List.mem_cons.mp hx with e2 | hx2
        · omega
        · have := h2'.1 x hx2; omega
      · exact hx'
  termination_by P Q => P.length + Q.length
theorem sub_asc {n : Nat} {Q : List Int} : Q.Sublist (rng n) ↔ Q.Pairwise (· < ·) ∧ ∀ x ∈ Q, 0 ≤ x ∧ x < n :=
  ⟨fun h => ⟨rng_asc.sublist h, fun x hx => mem_rng.mp (h.subset hx)⟩, fun h => sub_of_asc rng_asc h.1 fun x hx => mem_rng.mpr (h.2 x hx)⟩
def Clq (A : Int → Int → Bool) (n : Nat) (Q : List Int) : Prop := Q.Sublist (rng n) ∧ Q.Pairwise (fun a b => A a b = true)
def ext (A : Int → Int → Bool) (n : Nat) (Q : List Int) : List Int := (rng n).filter fun p => !decide (p ∈ Q) && Q.all fun x => A p x
theorem good_iff (hu : Und A) {n : Nat} {Q : List Int} : Good A (rng n) [] Q ↔ Clq A n Q ∧ ext A n Q = [] := by
  unfold Good Clq ext
  rw [List.append_nil, List.filter_eq_nil_iff]
  constructor
  · rintro ⟨h1, h2, h3⟩
    refine ⟨⟨h1, h2⟩, fun y hy => ?_⟩
    obtain ⟨x, hx, ha⟩ := h3 y hy
    simp only [Bool.and_eq_true, List.all_eq_true, not_and]
    intro _ hh
    rw [hh x hx] at ha; cases ha
  · rintro ⟨⟨h1, h2⟩, h3⟩
    refine ⟨h1, h2, fun y hy => ?_⟩
    by_cases hm : y ∈ Q
    · exact ⟨y, hm, hu.irr y⟩
    · have := h3 y hy
      simp only [Bool.and_eq_true, List.all_eq_true, not_and, Bool.not_eq_true', decide_eq_false_iff_not] at this
      have := this hm
      simpa using this
theorem clq_len {n : Nat} {Q : List Int} (h : Clq A n Q) : Q.length ≤ n := by
  have := h.1.length_le
  simpa [rng] using this
/-- few lists -/
def subs : List Int → List (List Int)
  | [] => [[]]
  | p :: ps => subs ps ++ (subs ps).map (p :: ·)
theorem subs_len : ∀ P : List Int, (subs P).length = 2 ^ P.length
  | [] => rfl
  | p :: ps => by rw [subs, List.length_append, List.length_map, subs_len ps, List.length_cons, Nat.pow_succ]; omega
theorem mem_subs : ∀ {P Q : List Int}, Q.Sublist P → Q ∈ subs P
  | _, _, .slnil => by simp [subs]
  | _, _, .cons a h => by rw [subs]; exact List.mem_append_left _ (mem_subs h)
  | _, _, .cons_cons a h => by rw [subs]; exact List.mem_append_right _ (List.mem_map.mpr ⟨_, mem_subs h, rfl⟩)
theorem nodup_le {α : Type} [DecidableEq α] : ∀ {xs ys : List α}, xs.Nodup → (∀ x ∈ xs, x ∈ ys) → xs.length ≤ ys.length
  | [], _, _, _ => Nat.zero_le _
  | x :: xs, ys, h1, h2 => by
    have h1' := List.nodup_cons.mp h1
    have hx := h2 x List.mem_cons_self
    have := nodup_le (xs := xs) (ys := ys.erase x) h1'.2 fun z hz => (List.mem_erase_of_ne (fun e => by subst e; exact h1'.1 hz)).mpr (h2 z (List.mem_cons_of_mem _ hz))
    rw [List.length_erase_of_mem hx] at this
    have := List.length_pos_of_mem hx
    rw [List.length_cons]
    omega
theorem few {n : Nat} {xs : List (List Int)} (h1 : xs.Nodup) (h2 : ∀ x ∈ xs, x.Sublist (rng n)) : xs.length ≤ 2 ^ n := by
  have := nodup_le h1 fun x hx => mem_subs (h2 x hx)
  rw [subs_len] at this
  simpa [rng] using this
/-! level by level -/
def later (A : Int → Int → Bool) (n : Nat) (Q : List Int) : List (List Int) := ((ext A n Q).filter fun p => decide (Q = []) || decide (Q.getLastD 0 < p)).map fun p => Q ++ [p]
def step (A : Int → Int → Bool) (n : Nat) (line : List (List Int)) : List (List Int) := line.flatMap (later A n)
structure Lv (A : Int → Int → Bool) (n k : Nat) (line found : List (List Int)) : Prop where
  ln : line.Nodup
  lm : ∀ Q, Q ∈ line ↔ Clq A n Q ∧ Q.length = k
  fn : found.Nodup
  fm : ∀ Q, Q ∈ found ↔ Clq A n Q ∧ Q.length < k ∧ ext A n Q = []
theorem lv0 {n : Nat} : Lv A n 0 [[]] [] where
  ln := List.pairwise_singleton _ _
  lm Q := by
    rw [List.mem_singleton, List.length_eq_zero_iff]
    exact ⟨fun h => by subst h; exact ⟨⟨List.nil_sublist _, List.Pairwise.nil⟩, rfl⟩, fun h => h.2⟩
  fn := List.nodup_nil
  fm Q := ⟨fun h => by simp at h, fun h => absurd h.2.1 (Nat.not_lt_zero _)⟩
theorem mem_ext {n : Nat} {Q : List Int} {p : Int} : p ∈ ext A n Q ↔ p ∈ rng n ∧ p ∉ Q ∧ ∀ x ∈ Q, A p x = true := by
  unfold ext
  rw [List.mem_filter]
  simp [List.all_eq_true]
theorem last_lt {Q : List Int} {p : Int} (h : Q.Pairwise (· < ·)) : (Q = [] ∨ Q.getLastD 0 < p) ↔ ∀ x ∈ Q, x < p := by
  rcases List.eq_nil_or_concat Q with rfl | ⟨l, b, rfl⟩
  · simp
  · rw [List.concat_eq_append] at h ⊢
    have h' := List.pairwise_append.mp h
    simp only [List.getLastD_concat, List.append_eq_nil_iff, List.cons_ne_nil, and_false, false_or, List.mem_append, List.mem_singleton]
    constructor
    · intro hb x hx
      rcases hx with hx | rfl
      · have := h'.2.2 x hx b (by simp); omega
      · exact hb
    · intro hh
      exact hh b (Or.inr rfl)
theorem clq_snoc (hu : Und A) {n : Nat} {Q : List Int} {p : Int} : Clq A n (Q ++ [p]) ↔ Clq A n Q ∧ p ∈ ext A n Q ∧ (Q = [] ∨ Q.getLastD 0 < p) := by
  unfold Clq
  rw [sub_asc, sub_asc, mem_ext, mem_rng]
  constructor
  · rintro ⟨⟨h1, h2⟩, h3⟩
    have h1' := List.pairwise_append.mp h1
    have h3' := List.pairwise_append.mp h3
    refine ⟨⟨⟨h1'.1, fun x hx => h2 x (List.mem_append_left _ hx)⟩, h3'.1⟩, ⟨h2 p (by simp), fun hp => ?_, fun x hx => hu.sym (h3'.2.2 x hx p (by simp))⟩, (last_lt h1'.1).mpr fun x hx => h1'.2.2 x hx p (by simp)⟩
    have := h1'.2.2 p hp p (by simp)
    omega
  · rintro ⟨⟨⟨h1, h2⟩, h3⟩, ⟨h4, h5, h6⟩, h7⟩
    have h7 := (last_lt h1).mp h7
    refine ⟨⟨List.pairwise_append.mpr ⟨h1, List.pairwise_singleton _ _, fun x hx y hy => ?_⟩, fun x hx => ?_⟩, List.pairwise_append.mpr ⟨h3, List.pairwise_singleton _ _, fun x hx y hy => ?_⟩⟩
    · rw [List.mem_singleton.mp hy]; exact h7 x hx
    · rcases List.mem_append.mp hx with hx | hx
      · exact h2 x hx
      · rw [List.mem_singleton.mp hx]; exact h4
    · rw [List.mem_singleton.mp hy]; exact hu.sym (h6 x hx)
theorem mem_later {n : Nat} {Q R : List Int} : R ∈ later A n Q ↔ ∃ p, p ∈ ext A n Q ∧ (Q = [] ∨ Q.getLastD 0 < p) ∧ R = Q ++ [p] := by
  unfold later
  rw [List.mem_map]
  constructor
  · rintro ⟨p, hp, rfl⟩
    rw [List.mem_filter] at hp
    exact ⟨p, hp.1, by simpa using hp.2, rfl⟩
  · rintro ⟨p, h1, h2, rfl⟩
    exact ⟨p, List.mem_filter.mpr ⟨h1, by simpa using h2⟩, rfl⟩
theorem ext_nodup {n : Nat} {Q : List Int} : (ext A n Q).Nodup := (asc_nodup rng_asc).sublist List.filter_sublist
theorem snoc_inj {Q R : List Int} {p q : Int} (h : Q ++ [p] = R ++ [q]) : Q = R ∧ p = q := by
  have := List.append_inj' h rfl
  exact ⟨this.1, by simpa using this.2⟩
theorem lv_step (hu : Und A) {n k : Nat} {line found : List (List Int)} (h : Lv A n k line found) : Lv A n (k + 1) (step A n line) (found ++ line.filter fun Q => decide (ext A n Q = [])) where
  ln := by
    unfold step
    refine List.pairwise_flatMap.mpr ⟨fun Q hQ => ?_, h.ln.imp ?_⟩
    · unfold later
      refine List.pairwise_map.mpr ((ext_nodup.sublist List.filter_sublist).imp ?_)
      intro a b hab e
      exact hab (snoc_inj e).2
    · intro Q R hQR x hx y hy e
      obtain ⟨p, _, _, rfl⟩ := mem_later.mp hx
      obtain ⟨q, _, _, rfl⟩ := mem_later.mp hy
      exact hQR (snoc_inj e).1
  lm R := by
    unfold step
    rw [List.mem_flatMap]
    constructor
    · rintro ⟨Q, hQ, hR⟩
      obtain ⟨p, h1, h2, rfl⟩ := mem_later.mp hR
      obtain ⟨h3, h4⟩ := (h.lm Q).mp hQ
      exact ⟨(clq_snoc hu).mpr ⟨h3, h1, h2⟩, by simp [h4]⟩
    · rintro ⟨h1, h2⟩
      rcases List.eq_nil_or_concat R with rfl | ⟨Q, p, rfl⟩
      · simp at h2
      · rw [List.concat_eq_append] at h1 h2 ⊢
        obtain ⟨h3, h4, h5⟩ := (clq_snoc hu).mp h1
        exact ⟨Q, (h.lm Q).mpr ⟨h3, by simpa using h2⟩, mem_later.mpr ⟨p, h4, h5, rfl⟩⟩
  fn := by
    rw [List.nodup_append]
    refine ⟨h.fn, h.ln.sublist List.filter_sublist, ?_⟩
    rintro a ha b hb rfl
    have h1 := ((h.fm a).mp ha).2.1
    have h2 := ((h.lm a).mp (List.mem_filter.mp hb).1).2
    omega
  fm Q := by
    rw [List.mem_append, h.fm, List.mem_filter, h.lm]
    simp only [decide_eq_true_eq]
    constructor
    · rintro (⟨h1, h2, h3⟩ | ⟨⟨h1, h2⟩, h3⟩)
      · exact ⟨h1, by omega, h3⟩
      · exact ⟨h1, by omega, h3⟩
    · rintro ⟨h1, h2, h3⟩
      by_cases hk : Q.length = k
      · exact .inr ⟨⟨h1, hk⟩, h3⟩
      · exact .inl ⟨h1, by omega, h3⟩
theorem lv_end {n k : Nat} {found : List (List Int)} (h : Lv A n k [] found) : ∀ Q, Q ∈ found ↔ Clq A n Q ∧ ext A n Q = [] := by
  intro Q
  rw [h.fm]
  refine ⟨fun z => ⟨z.1, z.2.2⟩, fun z => ⟨z.1, ?_, z.2⟩⟩
  rcases Nat.lt_or_ge Q.length k with hl | hl
  · exact hl
  · have : Q.take k ∈ ([] : List (List Int)) := (h.lm _).mpr ⟨⟨(List.take_sublist _ _).trans z.1.1, z.1.2.sublist (List.take_sublist _ _)⟩, by rw [List.length_take]; omega⟩
    simp at this
theorem lv_k {n k : Nat} {line found : List (List Int)} (h : Lv A n k line found) (hne : line ≠ []) : k ≤ n := by
  obtain ⟨Q, hQ⟩ := List.exists_mem_of_ne_nil _ hne
  obtain ⟨h1, h2⟩ := (h.lm Q).mp hQ
  have := clq_len h1
  omega
/-! each clique lies in a full one -/
theorem full_ext (hu : Und A) {n : Nat} : ∀ (k : Nat) (Q : List Int), Clq A n Q → n - Q.length ≤ k → ∃ R, Clq A n R ∧ ext A n R = [] ∧ ∀ x ∈ Q, x ∈ R := by
  intro k
  induction k with
  | zero =>
    intro Q h hk
    refine ⟨Q, h, ?_, fun x hx => hx⟩
    refine Classical.byContradiction fun he => ?_
    obtain ⟨p, hp⟩ := List.exists_mem_of_ne_nil _ he
    have hl := clq_len h
    have : (p :: Q).length ≤ (rng n).length := nodup_le (List.nodup_cons.mpr ⟨(mem_ext.mp hp).2.1, asc_nodup (sub_asc.mp h.1).1⟩) fun x hx => by
      rcases List.mem_cons.mp hx with rfl | hx
      · exact (mem_ext.mp hp).1
      · exact h.1.subset hx
    simp [rng] at this
    omega
  | succ k ih =>
    intro Q h hk
    by_cases he : ext A n Q = []
    · exact ⟨Q, h, he, fun x hx => hx⟩
    · obtain ⟨p, hp⟩ := List.exists_mem_of_ne_nil _ he
      obtain ⟨h1, h2, h3⟩ := mem_ext.mp hp
      have hperm := sortI_perm (p :: Q)
      have hnd : (p :: Q).Nodup := List.nodup_cons.mpr ⟨h2, asc_nodup (sub_asc.mp h.1).1⟩
      have hnd' : (sortI (p :: Q)).Nodup := (hperm.nodup_iff).mpr hnd
      have hmem : ∀ x, x ∈ sortI (p :: Q) ↔ x ∈ p :: Q := fun x => hperm.mem_iff
      have hasc : (sortI (p :: Q)).Pairwise (· < ·) := by
        have := (sortI_sorted (p :: Q)).and hnd'
        exact this.imp fun h => by omega
      have hc : Clq A n (sortI (p :: Q)) := by
        refine ⟨sub_of_asc rng_asc hasc fun x hx => ?_, ?_⟩
        · rcases List.mem_cons.mp ((hmem x).mp hx) with rfl | hx
          · exact h1
          · exact h.1.subset hx
        · refine (hperm.pairwise_iff fun {a b} h => hu.sym h).mpr (List.pairwise_cons.mpr ⟨h3, h.2⟩)
      obtain ⟨R, hR, hR2, hR3⟩ := ih _ hc (by rw [hperm.length_eq, List.length_cons]; omega)
      exact ⟨R, hR, hR2, fun x hx => hR3 x ((hmem x).mpr (List.mem_cons_of_mem _ hx))⟩
theorem sort_eq {xs ys : List (List Int)} (h1 : xs.Nodup) (h2 : ys.Nodup) (h : ∀ Q, Q ∈ xs ↔ Q ∈ ys) : sortT xs = sortT ys :=
  sortedT_uniq ((sortT_perm xs).trans (((List.perm_ext_iff_of_nodup h1 h2).mpr h).trans (sortT_perm ys).symm)) (sortT_sorted xs) (sortT_sorted ys)
end CL
end
section
set_option Elab.async false
set_option linter.all false
set_option maxRecDepth 100000
set_option maxHeartbeats 4000000
namespace K03
open PySem DL
theorem lay1 : D.lay 59 (.int 1) = true := rfl
theorem cm_neM {α : Type} {f : α → D} {xs : List α} {QB : Bool → Prop} (h : ∀ x, D.lay 59 (f x) = true) : cmS (cmpD .NotEq (.lst (xs.map f)) (.lst [])) QB ↔ QB (!decide (xs = [])) := by rw [cm_nenil (lay_map (k := 59) h), nilT]
theorem cm_eqM {α : Type} {f : α → D} {xs : List α} {QB : Bool → Prop} (h : ∀ x, D.lay 59 (f x) = true) : cmS (cmpD .Eq (.lst (xs.map f)) (.lst [])) QB ↔ QB (decide (xs = [])) := by rw [cm_eqnil (lay_map (k := 59) h), nilT]
theorem cm_notT {ts : List (List Int)} {a b : Int} {QB : Bool → Prop} : cmS (cmpD .NotIn (.tup [.int a, .int b]) (lT ts)) QB ↔ QB (!decide ([a, b] ∈ ts)) := cm_notinlt (ns := [a, b])
local macro_rules | `(tactic| walk_at "ev") => `(tactic| try simp only [↓e_con, ↓e_var, ↓e_mv, ↓e_bin, ↓e_neg, ↓e_cmp, ↓e_cmp2, ↓e_and, ↓e_or, ↓e_not, ↓e_ite, ↓e_tup, ↓e_lst, ↓e_dic, ↓e_ix, ↓e_sl, ↓e_fld, ↓e_call, ↓e_callk, ↓e_callv, ↓e_calls, ↓e_new, ↓e_isi, ↓e_caught, ↓e_bi, ↓e_mth, ↓e_mthx, ↓es_nil, ↓es_cons, ↓i_on, ↓i_rng, ↓i_enu, ↓i_rv, ↓i_zp, ↓e_comp, ↓s_nm, ↓s_tp, ↓s_par, ↓s_setx, ↓s_setxx, ↓s_setf, ↓s_ex, ↓s_ret, ↓s_ite, ↓s_brk, ↓s_cnt, ↓s_pss, ↓s_rais, ↓ss_nil, ↓ss_cons,
  imm_non, imm_bl, imm_int, imm_str, imm_fn, imm_exn, imm_scr, imm_tup, imm_lst, imm_dct, imm_obj, immL_nil, immL_cons, immL_ints, imm_tupI, immL_tupI,
  flat_non, flat_bl, flat_int, flat_str, flat_tup, flat_tupI, flat_lst, Pv.of, w_own, w_shr, w_bor, nb_own, nb_shr, nb_bor, nobor_nil, nobor_cons, beq_oo, beq_so, beq_bo, bne_ob, bne_sb, bne_bb, keepS,
  ev_some, set_own, set_shr, setAll_nil, setAll_cons, setTg_nm, setTg_tp, setTp_nil, setTp_cons, rd_ow, rd_sh, mv_ow, mv_sh, ow_ow, isun_ow, isun_sh, bl_bl, wipe_nil, wipe_cons, slImm_un, slImm_sh, slImm_ow,
  callo_own, call_shr, call_exc, calls_own, calls_shr, new_ok, fn_some, fn_sh, fn_ow, op_some, DL.op_add, DL.op_sub, DL.op_mul, op_div, DL.op_mod, DL.op_pow, op_addl, op_addt, op_adds, cm_lt, cm_le, cm_gt, cm_ge, cm_is, cm_isnot,
  okd_int, okd_bl, okd_non, okd_tupI, okd_lI, okd_lT, okd_tT, okd_lL, okd_nil, okd_tnil, cm_eqi, cm_nei, cm_ini, cm_notini, cm_inti, cm_notinti, cm_inlt, cm_notinlt, cm_intt, cm_notintt,
  bi_len_l, bi_len_t, bi_len_s, bi_int, bi_abs, bi_min2, bi_max2, bi_list_l, bi_list_t, bi_tuple_l, bi_tuple_t, bi_sum, m_append, m_extend, lt_some, it_lst_nb, it_tup_nb, it_scr,
  stD_left, stD_turn, stD_great, stD_cells, stD_setleft, stD_setturn, stD_setgreat, stD_imm, stD_lst, sz_def, cm_notT,  it_tT, it_lT, it_lI, it_tupI,  pt_non, pt_con, pt_var, pt_bin, pt_calls, isTup_tup, isTup_lst,  is_ii, is_ib, is_tt, is_net, is_hung, D.int.injEq, exists_eq_left, exists_eq_left', cm_lttt, cm_neI0, cm_eqI0, cm_neT0, cm_eqT0, cm_eqt0, m_pop0, isLst_lst, aok_nil, aok_own,
  Ex.mods, Exs.mods, It.mods, Tg.slots, Sts.mods, St.mods, wipeS, backS, ite_true, ite_false, if_true, if_false, reduceIte, Bool.false_eq_true, Bool.true_eq_false, List.getD_cons_zero, List.getD_cons_succ, List.set_cons_zero, List.set_cons_succ, List.contains_cons, List.contains_nil, List.all_cons, List.all_nil, List.append_nil, List.nil_append, List.cons_append,
  Bool.not_true, Bool.not_false, Bool.and_true, Bool.true_and, Bool.and_false, Bool.false_and, Bool.or_false, Bool.false_or, Bool.or_true, Bool.true_or, beq_self_eq_true, Nat.reduceBEq, Nat.reduceEqDiff, true_and, and_true, true_implies, false_implies, List.not_mem_nil, List.mem_cons, List.mem_singleton, not_false_eq_true, not_true_eq_false, or_false, false_or, reduceCtorEq, Nat.reduceAdd, Nat.reduceSub, decide_true, decide_false])
theorem mixed_calls {n m : Nat} {T : Int} {d : D} {α : Type} {f : α → D} {xs : List α} {ps : List Pv} {e : Envv} {Q : D → Pv → Envv → Prop} {X : Xn → Envv → Prop} (hf : ∀ x, (f x).imm = true ∧ D.lay 59 (f x) = true) (hT : T + xs.length < 1000000000000) (h : StOk T d) (hl : xs.length < 1000)
    (hQ : ∀ ys d', List.Perm ys xs → StOk (T + xs.length) d' → Q (.lst (ys.map f)) .own (e.set m (.ow d'))) : callsS (callF GamZ (n + 3) "_law_mixed" [d, .lst (xs.map f)]) ps m e Q X := by
  obtain ⟨ys, d', h1, h2, h3⟩ := mixed (n := n) hf hT h hl
  rw [h3]
  exact hQ ys d' h1 h2
theorem mixedI {n m : Nat} {T : Int} {d : D} {xs : List Int} {ps : List Pv} {e : Envv} {Q : D → Pv → Envv → Prop} {X : Xn → Envv → Prop} (hT : T + xs.length < 1000000000000) (h : StOk T d) (hl : xs.length < 1000)
    (hQ : ∀ ys d', List.Perm ys xs → StOk (T + xs.length) d' → Q (lI ys) .own (e.set m (.ow d'))) : callsS (callF GamZ (n + 3) "_law_mixed" [d, lI xs]) ps m e Q X := mixed_calls (fun _ => ⟨rfl, rfl⟩) hT h hl hQ
theorem mixedT {n m : Nat} {T : Int} {d : D} {xs : List (List Int)} {ps : List Pv} {e : Envv} {Q : D → Pv → Envv → Prop} {X : Xn → Envv → Prop} (hT : T + xs.length < 1000000000000) (h : StOk T d) (hl : xs.length < 1000)
    (hQ : ∀ ys d', List.Perm ys xs → StOk (T + xs.length) d' → Q (lT ys) .own (e.set m (.ow d'))) : callsS (callF GamZ (n + 3) "_law_mixed" [d, lT xs]) ps m e Q X := mixed_calls (fun _ => ⟨imm_tupI, lay_tupI⟩) hT h hl hQ
theorem pickI {n m : Nat} {T : Int} {d : D} {xs : List Int} {ps : List Pv} {e : Envv} {Q : D → Pv → Envv → Prop} {X : Xn → Envv → Prop} (hT : T < 1000000000000) (h : StOk T d) (hx : xs ≠ []) (hx2 : xs.length < 1073741824)
    (hQ : ∀ x d', x ∈ xs → StOk (T + 1) d' → Q (.int x) .own (e.set m (.ow d'))) : callsS (callF GamZ (n + 3) "_law_pick" [d, lI xs]) ps m e Q X := by
  refine pick_calls hT h (by simpa using hx) (by simpa using hx2) (fun x hx => ?_) fun x d' hx hd => ?_
  · obtain ⟨_, _, rfl⟩ := List.mem_map.mp hx; rfl
  · obtain ⟨y, hy, rfl⟩ := List.mem_map.mp hx; exact hQ y d' hy hd
/-- pairs of points -/
def TL (m : Int) (ts : List (List Int)) : Prop := ∀ t ∈ ts, ∃ a b, t = [a, b] ∧ 0 ≤ a ∧ a < b ∧ b < m
theorem TL.ne {m : Int} {ts : List (List Int)} (h : TL m ts) : ∀ t ∈ ts, t ≠ [] := fun t ht => by
  obtain ⟨a, b, rfl, _⟩ := h t ht; simp
theorem ties_of {m : Int} {ts : List (List Int)} (h : TL m ts) (hn : ts.Nodup) : Ties m (sortT ts) where
  pair t ht := h t ((sortT_perm ts).mem_iff.mp ht)
  asc := by
    have hn' : (sortT ts).Nodup := (sortT_perm ts).nodup_iff.mpr hn
    refine ((sortT_sorted ts).and hn').imp ?_
    rintro x y ⟨h1, h2⟩
    unfold lexS
    cases hx : lexI x y with
    | true => rfl
    | false => exact absurd (lex_antisymm hx h1) h2
def allP : List (List Int) := (CL.rng 16).flatMap fun a => (CL.rng 16).map fun b => [a, b]
theorem tl_len {m : Int} {ts : List (List Int)} (h : TL m ts) (hn : ts.Nodup) (hm : m ≤ 16) : ts.length ≤ 256 := by
  have := CL.nodup_le (ys := allP) hn fun t ht => by
    obtain ⟨a, b, rfl, h0, h1, h2⟩ := h t ht
    refine List.mem_flatMap.mpr ⟨a, CL.mem_rng.mpr ⟨h0, by omega⟩, List.mem_map.mpr ⟨b, CL.mem_rng.mpr ⟨by omega, by omega⟩, rfl⟩⟩
  have h2 : allP.length = 256 := by decide +kernel
  omega
theorem ties_len {m : Int} {ts : List (List Int)} (h : Ties m ts) (hm : m ≤ 16) : ts.length < 1000 := by
  have := tl_len h.pair (h.asc.imp fun {a b} hab e => by subst e; unfold lexS at hab; rw [lex_asymm hab] at hab; cases hab) hm
  omega
theorem is_tied {n : Nat} {ts : List (List Int)} {lot : List Int} (hl : lot.length < 1000) : ∃ b, callF GamZ (n + 2) "_law_nt_is_tied" [lT ts, lI lot] = .ret (.bl b) .own [] := by
  have : (callF GamZ (n + 2) "_law_nt_is_tied" [lT ts, lI lot]).sat (fun d p ios => ∃ b, d = .bl b ∧ p = .own ∧ ios = []) fun _ _ => False := by
    rw [go (fn := fn__law_nt_is_tied) (by rfl)]
    refine run_no (by rfl) (by rfl) ?_
    show (execs [] _ fn__law_nt_is_tied.body [.sh (lT ts), .sh (lI lot), .un, .un, .un]).sat _
    unfold fn__law_nt_is_tied
    dsimp only
    walk_at "ev"
    refine for_map (fun q : Int × Nat => D.tup [.int q.2, .int q.1]) lot.zipIdx (fun pre post e => ∃ s2 s3, e = [.sh (lT ts), .sh (lI lot), s2, s3, .un]) ?_ ?_ ?_
    · walk_at "ev"
      refine ⟨?_, _, _, rfl⟩
      rw [List.zipIdx_map, List.map_map]; rfl
    · rintro pre ⟨x, k⟩ post e hx ⟨s2, s3, rfl⟩
      walk_at "ev"
      rw [sl_from (by omega)]
      walk_at "ev"
      rw [← List.map_drop]
      walk_at "ev"
      refine comp_map .int (lot.drop ((k : Int) + 1).toNat) (fun y => !decide ([min x y, max x y] ∈ ts)) (fun _ => .int 1) (by have := sz_def; rw [List.length_drop]; omega) ?_ ?_
      · intro y hy
        walk_at "ev"
        rw [nt_tie]
        walk_at "ev"
        exact ⟨fun _ => trivial, fun _ => trivial⟩
      · walk_at "ev"
        rw [cm_neM fun _ => rfl]
        walk_at "ev"
        exact ⟨fun _ => ⟨_, rfl⟩, fun _ => ⟨_, _, rfl⟩⟩
    · rintro e ⟨s2, s3, rfl⟩
      walk_at "ev"
      exact ⟨_, rfl⟩
  obtain ⟨d, p, ios, h, b, rfl, rfl, rfl⟩ := FR.sat_ex this
  exact ⟨b, h⟩

theorem lT_app {xs ys : List (List Int)} : D.lst (xs.map tupI ++ ys.map tupI) = lT (xs ++ ys) := by unfold lT; rw [List.map_append]
theorem lI_app {xs ys : List Int} : D.lst (xs.map .int ++ ys.map .int) = lI (xs ++ ys) := by unfold lI; rw [List.map_append]
theorem range_at {m : Nat} {pre post : List Nat} {x : Nat} (h : List.range m = pre ++ x :: post) : pre.length = x ∧ x < m := by
  have h1 : (List.range m)[pre.length]? = some x := by rw [h]; simp
  rw [List.getElem?_eq_some_iff] at h1
  obtain ⟨hh, h1⟩ := h1
  simp at h1 hh
  omega
theorem rng62_ok {i : Int} (h : -1000000 ≤ i) (h2 : i ≤ 1000000) : rng62 i = true := by unfold rng62; simp; omega
theorem nt_ties {n : Nat} {T m most : Int} {d : D} (hT : T < 999999000000) (h : StOk T d) (hm : 0 ≤ m) (hm2 : m ≤ 16) (h0 : 0 ≤ most) (h1 : most ≤ 1000) : ∃ ts d', Ties m ts ∧ StOk (T + 1000) d' ∧ callF GamZ (n + 4) "_law_nt_ties" [d, .int m, .int most] = .ret (tT ts) .own [d'] := by
  have : (callF GamZ (n + 4) "_law_nt_ties" [d, .int m, .int most]).sat (fun x p ios => ∃ ts d', Ties m ts ∧ StOk (T + 1000) d' ∧ x = tT ts ∧ p = .own ∧ ios = [d']) fun _ _ => False := by
    rw [go (fn := fn__law_nt_ties) (by rfl)]
    refine run_io (by rfl) (by rfl) ?_
    show (execs [0] _ fn__law_nt_ties.body [.ow d, .sh (.int m), .sh (.int most), .un, .un, .un]).sat _
    unfold fn__law_nt_ties
    dsimp only
    walk_at "ev"
    refine for_map (fun k : Nat => .int k) (List.range m.toNat) (fun pre post e => ∃ ts s4, e = [.ow d, .sh (.int m), .sh (.int most), .ow (lT ts), s4, .un] ∧ TL m ts ∧ ts.Nodup ∧ ∀ t ∈ ts, ∀ x y, t = [x, y] → x < pre.length) ?_ ?_ ?_
    · walk_at "ev"
      rw [rng_1 (rng62_ok (by omega) (by omega))]
      exact ⟨rfl, [], _, rfl, fun _ h => by simp at h, List.nodup_nil, by simp⟩
    · intro pre x post e hx hI
      obtain ⟨ts, s4, he, htl, hnd, hlt⟩ := hI
      subst he
      have hpx := (range_at hx).1
      have hxm := (range_at hx).2
      have hlen := tl_len htl hnd hm2
      walk_at "ev"
      rw [rng_2 (by rw [rng62_ok (by omega) (by omega), rng62_ok (by omega) (by omega)]; rfl)]
      refine comp_map (fun k : Nat => D.int (((x : Int) + 1) + k)) (List.range (m - ((x : Int) + 1)).toNat) (fun _ => true) (fun k => tupI [(x : Int), ((x : Int) + 1) + k]) (by have := sz_def; simp; omega) ?_ ?_
      · intro k hk
        walk_at "ev"
        rfl
      · walk_at "ev"
        rw [filT]
        have e1 : (List.range (m - ((x : Int) + 1)).toNat).map (fun k : Nat => tupI [(x : Int), ((x : Int) + 1) + k]) = ((List.range (m - ((x : Int) + 1)).toNat).map fun k : Nat => [(x : Int), ((x : Int) + 1) + k]).map tupI := by rw [List.map_map]; rfl
        rw [e1, lT_app, ← List.map_append]
        refine ⟨by simp; omega, immL_tupI, ts ++ (List.range (m - ((x : Int) + 1)).toNat).map fun k : Nat => [(x : Int), ((x : Int) + 1) + k], _, rfl, ?_, ?_, ?_⟩
        · intro t ht
          rcases List.mem_append.mp ht with ht | ht
          · exact htl t ht
          · obtain ⟨k, hk, rfl⟩ := List.mem_map.mp ht
            have := List.mem_range.mp hk
            exact ⟨_, _, rfl, by omega, by omega, by omega⟩
        · rw [List.nodup_append]
          refine ⟨hnd, List.pairwise_map.mpr (List.nodup_range.imp fun {a b} hab e => hab (by simp at e; omega)), ?_⟩
          · rintro a ha b hb rfl
            obtain ⟨k, hk, rfl⟩ := List.mem_map.mp hb
            have := hlt _ ha _ _ rfl
            omega
        · intro t ht a b hab
          rcases List.mem_append.mp ht with ht | ht
          · have := hlt t ht a b hab; simp; omega
          · obtain ⟨k, hk, rfl⟩ := List.mem_map.mp ht
            simp at hab ⊢; omega
    · rintro e ⟨ts, s4, rfl, htl, hnd, hlt⟩
      have hlen := tl_len htl hnd hm2
      walk_at "ev"
      refine ⟨rfl, mixedT (xs := ts) (T := T) (by omega) h (by omega) fun ys d' hp hd => ?_⟩
      walk_at "ev"
      refine draw_calls (by omega) hd (by omega) (by omega) fun r d2 hr hr2 hd2 => ?_
      walk_at "ev"
      rw [sl_to hr]
      walk_at "ev"
      rw [← List.map_take]
      have hsub : ∀ t ∈ ys.take r.toNat, t ∈ ts := fun t ht => hp.mem_iff.mp (List.mem_of_mem_take ht)
      have htl2 : TL m (ys.take r.toNat) := fun t ht => htl t (hsub t ht)
      rw [bi_sortedT htl2.ne]
      walk_at "ev"
      refine ⟨_, _, ties_of htl2 (((hp.nodup_iff).mpr hnd).sublist (List.take_sublist _ _)), hd2.mono (by omega), rfl, rfl⟩
  obtain ⟨x, p, ios, h, ts, d', h1, h2, rfl, rfl, rfl⟩ := FR.sat_ex this
  exact ⟨ts, d', h1, h2, h⟩

theorem comp_any {io : List Nat} {cb : Cb} {t : Tg} {own : List Nat} {c el : Ex} {Q : List D → Envv → Prop} {e : Envv} {α : Type} (f : α → D) (xs : List α) (g : α → D) (hl : xs.length ≤ SZ)
    (h : ∀ x ∈ xs, evS (setTg io e t (f x)) fun e1 => (evalE io cb c e1).sat (fun k _ e2 => ∃ b, k = .bl b ∧ (b = true → (evalE io cb el e2).sat (fun y q e3 => y = g x ∧ q = .own ∧ wipeS e3 own = e) fun _ _ => False) ∧ (b = false → wipeS e2 own = e)) fun _ _ => False)
    (hQ : ∀ ys : List α, ys.Sublist xs → Q (ys.map g) e) : cpS (compLoop io t own (evalE io cb c) (evalE io cb el) (xs.map f) e []) Q := by
  refine comp_inv (fun ds acc e' => e' = e ∧ ∃ pre post ys, xs = pre ++ post ∧ ds = post.map f ∧ ys.Sublist pre ∧ acc = ys.map g) ?_ ?_ _ _ _ ⟨rfl, [], xs, [], rfl, rfl, List.Sublist.slnil, rfl⟩
  · rintro d ds acc e' ⟨rfl, pre, post, ys, hx, hd, hs, rfl⟩
    cases post with
    | nil => cases hd
    | cons x post =>
      rw [List.map_cons, List.cons.injEq] at hd
      obtain ⟨rfl, rfl⟩ := hd
      have q := h x (by rw [hx]; simp)
      have hx' : xs = (pre ++ [x]) ++ post := by rw [hx]; simp
      cases hz : setTg io e' t (f x) with
      | none => rw [hz] at q; exact q.elim
      | some e1 =>
        rw [hz] at q
        have q : (evalE io cb c e1).sat _ _ := q
        show (evalE io cb c e1).sat _ _
        refine Res.sat_mono q fun k r e2 ⟨b, z1, z2, z3⟩ => ?_
        subst z1
        refine ⟨fun hp => ?_, fun hp => ?_⟩
        · refine Res.sat_mono (z2 hp) fun y r2 e3 ⟨y1, y2, y3⟩ => ⟨y2, ?_, y3, pre ++ [x], post, ys ++ [x], hx', rfl, hs.append (List.Sublist.refl _), by rw [List.map_append, y1]; rfl⟩
          have := hs.length_le
          have : pre.length < xs.length := by rw [hx]; simp
          rw [List.length_map]
          omega
        · exact ⟨z3 hp, pre ++ [x], post, ys, hx', rfl, hs.trans (List.sublist_append_left _ _), rfl⟩
  · rintro acc e' ⟨rfl, pre, post, ys, hx, hd, hs, rfl⟩
    cases post with
    | nil => rw [List.append_nil] at hx; rw [← hx] at hs; exact hQ ys hs
    | cons x post => cases hd
def mk2 (a b : Int) : List Int := [min a b, max a b]
theorem mk2_inj {a b c d : Int} (h : mk2 a b = mk2 c d) : (a = c ∧ b = d) ∨ (a = d ∧ b = c) := by
  unfold mk2 at h
  simp only [List.cons.injEq, and_true] at h
  omega
theorem rng_perm_nd {n : Nat} {ys : List Int} (h : ys.Perm (CL.rng n)) : ys.Nodup := h.nodup_iff.mpr (CL.asc_nodup CL.rng_asc)
/-- how ties grow: all so far lie among the points known, are pairs of points, once each -/
structure Gr (m : Int) (K : List Int) (ts : List (List Int)) : Prop where
  tl : TL m ts
  nd : ts.Nodup
  on : ∀ t ∈ ts, ∃ a b, t = mk2 a b ∧ a ∈ K ∧ b ∈ K
theorem Gr.add {m own : Int} {K lot : List Int} {ts : List (List Int)} (h : Gr m K ts) (hK : ∀ x ∈ K, 0 ≤ x ∧ x < m) (ho : 0 ≤ own ∧ own < m) (hn : own ∉ K) (hl : ∀ x ∈ lot, x ∈ K) (hd : lot.Nodup) : Gr m (K ++ [own]) (ts ++ lot.map fun x => mk2 own x) where
  tl t ht := by
    rcases List.mem_append.mp ht with ht | ht
    · exact h.tl t ht
    · obtain ⟨x, hx, rfl⟩ := List.mem_map.mp ht
      have h1 := hK x (hl x hx)
      have : own ≠ x := fun e => by subst e; exact hn (hl _ hx)
      exact ⟨_, _, rfl, by omega, by omega, by omega⟩
  nd := by
    rw [List.nodup_append]
    refine ⟨h.nd, List.pairwise_map.mpr (hd.imp fun {a b} hab e => ?_), ?_⟩
    · rcases mk2_inj e with e | e
      · exact hab e.2
      · exact hab (by omega)
    · rintro a ha b hb rfl
      obtain ⟨x, hx, rfl⟩ := List.mem_map.mp hb
      obtain ⟨c, d, e, hc, hd⟩ := h.on _ ha
      rcases mk2_inj e with e | e
      · exact hn (by rw [e.1]; exact hc)
      · exact hn (by rw [e.1]; exact hd)
  on t ht := by
    rcases List.mem_append.mp ht with ht | ht
    · obtain ⟨a, b, e, ha, hb⟩ := h.on t ht
      exact ⟨a, b, e, List.mem_append_left _ ha, List.mem_append_left _ hb⟩
    · obtain ⟨x, hx, rfl⟩ := List.mem_map.mp ht
      exact ⟨own, x, rfl, by simp, List.mem_append_left _ (hl x hx)⟩
end K03
end
section
set_option Elab.async false
set_option linter.all false
set_option maxRecDepth 100000
set_option maxHeartbeats 4000000
namespace K03
open PySem DL
local macro_rules | `(tactic| walk_at "ev") => `(tactic| try simp only [↓e_con, ↓e_var, ↓e_mv, ↓e_bin, ↓e_neg, ↓e_cmp, ↓e_cmp2, ↓e_and, ↓e_or, ↓e_not, ↓e_ite, ↓e_tup, ↓e_lst, ↓e_dic, ↓e_ix, ↓e_sl, ↓e_fld, ↓e_call, ↓e_callk, ↓e_callv, ↓e_calls, ↓e_new, ↓e_isi, ↓e_caught, ↓e_bi, ↓e_mth, ↓e_mthx, ↓es_nil, ↓es_cons, ↓i_on, ↓i_rng, ↓i_enu, ↓i_rv, ↓i_zp, ↓e_comp, ↓s_nm, ↓s_tp, ↓s_par, ↓s_setx, ↓s_setxx, ↓s_setf, ↓s_ex, ↓s_ret, ↓s_ite, ↓s_brk, ↓s_cnt, ↓s_pss, ↓s_rais, ↓ss_nil, ↓ss_cons,
  imm_non, imm_bl, imm_int, imm_str, imm_fn, imm_exn, imm_scr, imm_tup, imm_lst, imm_dct, imm_obj, immL_nil, immL_cons, immL_ints, imm_tupI, immL_tupI,
  flat_non, flat_bl, flat_int, flat_str, flat_tup, flat_tupI, flat_lst, Pv.of, w_own, w_shr, w_bor, nb_own, nb_shr, nb_bor, nobor_nil, nobor_cons, beq_oo, beq_so, beq_bo, bne_ob, bne_sb, bne_bb, keepS,
  ev_some, set_own, set_shr, setAll_nil, setAll_cons, setTg_nm, setTg_tp, setTp_nil, setTp_cons, rd_ow, rd_sh, mv_ow, mv_sh, ow_ow, isun_ow, isun_sh, bl_bl, wipe_nil, wipe_cons, slImm_un, slImm_sh, slImm_ow,
  callo_own, call_shr, call_exc, calls_own, calls_shr, new_ok, fn_some, fn_sh, fn_ow, op_some, DL.op_add, DL.op_sub, DL.op_mul, op_div, DL.op_mod, DL.op_pow, op_addl, op_addt, op_adds, cm_lt, cm_le, cm_gt, cm_ge, cm_is, cm_isnot,
  okd_int, okd_bl, okd_non, okd_tupI, okd_lI, okd_lT, okd_tT, okd_lL, okd_nil, okd_tnil, cm_eqi, cm_nei, cm_ini, cm_notini, cm_inti, cm_notinti, cm_inlt, cm_notinlt, cm_intt, cm_notintt,
  bi_len_l, bi_len_t, bi_len_s, bi_int, bi_abs, bi_min2, bi_max2, bi_list_l, bi_list_t, bi_tuple_l, bi_tuple_t, bi_sum, m_append, m_extend, lt_some, it_lst_nb, it_tup_nb, it_scr,
  stD_left, stD_turn, stD_great, stD_cells, stD_setleft, stD_setturn, stD_setgreat, stD_imm, stD_lst, sz_def, cm_notT,  it_tT, it_lT, it_lI, it_tupI,  pt_non, pt_con, pt_var, pt_bin, pt_calls, isTup_tup, isTup_lst,  is_ii, is_ib, is_tt, is_net, is_hung, D.int.injEq, exists_eq_left, exists_eq_left', cm_lttt, cm_neI0, cm_eqI0, cm_neT0, cm_eqT0, cm_eqt0, m_pop0, isLst_lst, aok_nil, aok_own,
  Ex.mods, Exs.mods, It.mods, Tg.slots, Sts.mods, St.mods, wipeS, backS, ite_true, ite_false, if_true, if_false, reduceIte, Bool.false_eq_true, Bool.true_eq_false, List.getD_cons_zero, List.getD_cons_succ, List.set_cons_zero, List.set_cons_succ, List.contains_cons, List.contains_nil, List.all_cons, List.all_nil, List.append_nil, List.nil_append, List.cons_append,
  Bool.not_true, Bool.not_false, Bool.and_true, Bool.true_and, Bool.and_false, Bool.false_and, Bool.or_false, Bool.false_or, Bool.or_true, Bool.true_or, beq_self_eq_true, Nat.reduceBEq, Nat.reduceEqDiff, true_and, and_true, true_implies, false_implies, List.not_mem_nil, List.mem_cons, List.mem_singleton, not_false_eq_true, not_true_eq_false, or_false, false_or, reduceCtorEq, Nat.reduceAdd, Nat.reduceSub, decide_true, decide_false])
local macro_rules | `(tactic| walk_at "ew") => `(tactic| try simp only [↓e_con, ↓e_var, ↓e_mv, ↓e_bin, ↓e_neg, ↓e_cmp, ↓e_cmp2, ↓e_and, ↓e_or, ↓e_not, ↓e_tup, ↓e_lst, ↓e_dic, ↓e_ix, ↓e_sl, ↓e_fld, ↓e_call, ↓e_callk, ↓e_callv, ↓e_calls, ↓e_new, ↓e_isi, ↓e_caught, ↓e_bi, ↓e_mth, ↓e_mthx, ↓es_nil, ↓es_cons, ↓i_on, ↓i_rng, ↓i_enu, ↓i_rv, ↓i_zp, ↓e_comp, ↓s_nm, ↓s_tp, ↓s_par, ↓s_setx, ↓s_setxx, ↓s_setf, ↓s_ex, ↓s_ret, ↓s_ite, ↓s_brk, ↓s_cnt, ↓s_pss, ↓s_rais, ↓ss_nil, ↓ss_cons,
  imm_non, imm_bl, imm_int, imm_str, imm_fn, imm_exn, imm_scr, imm_tup, imm_lst, imm_dct, imm_obj, immL_nil, immL_cons, immL_ints, imm_tupI, immL_tupI,
  flat_non, flat_bl, flat_int, flat_str, flat_tup, flat_tupI, flat_lst, Pv.of, w_own, w_shr, w_bor, nb_own, nb_shr, nb_bor, nobor_nil, nobor_cons, beq_oo, beq_so, beq_bo, bne_ob, bne_sb, bne_bb, keepS,
  ev_some, set_own, set_shr, setAll_nil, setAll_cons, setTg_nm, setTg_tp, setTp_nil, setTp_cons, rd_ow, rd_sh, mv_ow, mv_sh, ow_ow, isun_ow, isun_sh, bl_bl, wipe_nil, wipe_cons, slImm_un, slImm_sh, slImm_ow,
  callo_own, call_shr, call_exc, calls_own, calls_shr, new_ok, fn_some, fn_sh, fn_ow, op_some, DL.op_add, DL.op_sub, DL.op_mul, op_div, DL.op_mod, DL.op_pow, op_addl, op_addt, op_adds, cm_lt, cm_le, cm_gt, cm_ge, cm_is, cm_isnot,
  okd_int, okd_bl, okd_non, okd_tupI, okd_lI, okd_lT, okd_tT, okd_lL, okd_nil, okd_tnil, cm_eqi, cm_nei, cm_ini, cm_notini, cm_inti, cm_notinti, cm_inlt, cm_notinlt, cm_intt, cm_notintt,
  bi_len_l, bi_len_t, bi_len_s, bi_int, bi_abs, bi_min2, bi_max2, bi_list_l, bi_list_t, bi_tuple_l, bi_tuple_t, bi_sum, m_append, m_extend, lt_some, it_lst_nb, it_tup_nb, it_scr,
  stD_left, stD_turn, stD_great, stD_cells, stD_setleft, stD_setturn, stD_setgreat, stD_imm, stD_lst, sz_def, cm_notT,  it_tT, it_lT, it_lI, it_tupI,  pt_non, pt_con, pt_var, pt_bin, pt_calls, isTup_tup, isTup_lst,  is_ii, is_ib, is_tt, is_net, is_hung, D.int.injEq, exists_eq_left, exists_eq_left', cm_lttt, cm_neI0, cm_eqI0, cm_neT0, cm_eqT0, cm_eqt0, m_pop0, isLst_lst, aok_nil, aok_own,
  Ex.mods, Exs.mods, It.mods, Tg.slots, Sts.mods, St.mods, wipeS, backS, ite_true, ite_false, if_true, if_false, reduceIte, Bool.false_eq_true, Bool.true_eq_false, List.getD_cons_zero, List.getD_cons_succ, List.set_cons_zero, List.set_cons_succ, List.contains_cons, List.contains_nil, List.all_cons, List.all_nil, List.append_nil, List.nil_append, List.cons_append,
  Bool.not_true, Bool.not_false, Bool.and_true, Bool.true_and, Bool.and_false, Bool.false_and, Bool.or_false, Bool.false_or, Bool.or_true, Bool.true_or, beq_self_eq_true, Nat.reduceBEq, Nat.reduceEqDiff, true_and, and_true, true_implies, false_implies, List.not_mem_nil, List.mem_cons, List.mem_singleton, not_false_eq_true, not_true_eq_false, or_false, false_or, reduceCtorEq, Nat.reduceAdd, Nat.reduceSub, decide_true, decide_false])
theorem comp_anyP {io : List Nat} {cb : Cb} {t : Tg} {own : List Nat} {c el : Ex} {Q : List D → Envv → Prop} {e : Envv} {α : Type} (P : α → Prop) (f : α → D) (xs : List α) (g : α → D) (hl : xs.length ≤ SZ)
    (h : ∀ x ∈ xs, evS (setTg io e t (f x)) fun e1 => (evalE io cb c e1).sat (fun k _ e2 => ∃ b, k = .bl b ∧ (b = true → P x ∧ (evalE io cb el e2).sat (fun y q e3 => y = g x ∧ q = .own ∧ wipeS e3 own = e) fun _ _ => False) ∧ (b = false → wipeS e2 own = e)) fun _ _ => False)
    (hQ : ∀ ys : List α, ys.Sublist xs → (∀ y ∈ ys, P y) → Q (ys.map g) e) : cpS (compLoop io t own (evalE io cb c) (evalE io cb el) (xs.map f) e []) Q := by
  refine comp_inv (fun ds acc e' => e' = e ∧ ∃ pre post ys, xs = pre ++ post ∧ ds = post.map f ∧ ys.Sublist pre ∧ (∀ y ∈ ys, P y) ∧ acc = ys.map g) ?_ ?_ _ _ _ ⟨rfl, [], xs, [], rfl, rfl, List.Sublist.slnil, by simp, rfl⟩
  · rintro d ds acc e' ⟨rfl, pre, post, ys, hx, hd, hs, hP, rfl⟩
    cases post with
    | nil => cases hd
    | cons x post =>
      rw [List.map_cons, List.cons.injEq] at hd
      obtain ⟨rfl, rfl⟩ := hd
      have q := h x (by rw [hx]; simp)
      have hx' : xs = (pre ++ [x]) ++ post := by rw [hx]; simp
      cases hz : setTg io e' t (f x) with
      | none => rw [hz] at q; exact q.elim
      | some e1 =>
        rw [hz] at q
        have q : (evalE io cb c e1).sat _ _ := q
        show (evalE io cb c e1).sat _ _
        refine Res.sat_mono q fun k r e2 ⟨b, z1, z2, z3⟩ => ?_
        subst z1
        refine ⟨fun hp => ?_, fun hp => ?_⟩
        · refine Res.sat_mono (z2 hp).2 fun y r2 e3 ⟨y1, y2, y3⟩ => ⟨y2, ?_, y3, pre ++ [x], post, ys ++ [x], hx', rfl, hs.append (List.Sublist.refl _), fun y hy => ?_, by rw [List.map_append, y1]; rfl⟩
          · have := hs.length_le
            have : pre.length < xs.length := by rw [hx]; simp
            rw [List.length_map]
            omega
          · rcases List.mem_append.mp hy with hy | hy
            · exact hP y hy
            · rw [List.mem_singleton.mp hy]; exact (z2 hp).1
        · exact ⟨z3 hp, pre ++ [x], post, ys, hx', rfl, hs.trans (List.sublist_append_left _ _), hP, rfl⟩
  · rintro acc e' ⟨rfl, pre, post, ys, hx, hd, hs, hP, rfl⟩
    cases post with
    | nil => rw [List.append_nil] at hx; rw [← hx] at hs; exact hQ ys hs hP
    | cons x post => cases hd
theorem bi_lrngI {j : Int} {Q : D → Prop} (h0 : 0 ≤ j) (h : j ≤ 1000) : opS (biD .lrng [.int j]) Q ↔ Q (lI (CL.rng j.toNat)) := by
  rw [bi_lrng1 (by unfold rng24; simp; omega)]
  have : D.lst ((List.range j.toNat).map fun k : Nat => D.int k) = lI (CL.rng j.toNat) := by unfold lI CL.rng; rw [List.map_map]; rfl
  rw [this]
theorem rng_len {n : Nat} : (CL.rng n).length = n := by unfold CL.rng; simp
theorem chorded {n : Nat} {T m : Int} {d : D} (hT : T < 999999000000) (h : StOk T d) (hm : 0 ≤ m) (hm2 : m ≤ 16) : ∃ ts d', Ties m ts ∧ StOk (T + 1000) d' ∧ callF GamZ (n + 4) "_law_nt_chorded" [d, .int m] = .ret (tT ts) .own [d'] := by
  have : (callF GamZ (n + 4) "_law_nt_chorded" [d, .int m]).sat (fun x p ios => ∃ ts d', Ties m ts ∧ StOk (T + 1000) d' ∧ x = tT ts ∧ p = .own ∧ ios = [d']) fun _ _ => False := by
    rw [go (fn := fn__law_nt_chorded) (by rfl)]
    refine run_io (by rfl) (by rfl) ?_
    show (execs [0] _ fn__law_nt_chorded.body [.ow d, .sh (.int m), .un, .un, .un, .un, .un, .un, .un, .un, .un]).sat _
    unfold fn__law_nt_chorded
    dsimp only
    walk_at "ev"
    rw [bi_lrngI hm (by omega)]
    walk_at "ev"
    refine mixedI (xs := CL.rng m.toNat) (T := T) (by rw [rng_len]; omega) h (by rw [rng_len]; omega) fun names d1 hp hd1 => ?_
    walk_at "ev"
    rw [rng_len] at hd1
    have hnl : names.length = m.toNat := by rw [hp.length_eq, rng_len]
    have hnm : ∀ x ∈ names, 0 ≤ x ∧ x < m := fun x hx => by have := CL.mem_rng.mp (hp.mem_iff.mp hx); omega
    have hnn := rng_perm_nd hp
    refine for_map (fun k : Nat => .int ((1 : Int) + k)) (List.range (m - 1).toNat) (fun pre post e => ∃ d ts s2 s5 s6 s7 s8 s9, e = [.ow d, .sh (.int m), s2, .ow (lI names), .ow (lT ts), s5, s6, s7, s8, s9, .un] ∧ StOk (T + 20 + 10 * pre.length) d ∧ Gr m (names.take (pre.length + 1)) ts) ?_ ?_ ?_
    · walk_at "ev"
      rw [rng_2 (by rw [rng62_ok (by omega) (by omega), rng62_ok (by omega) (by omega)]; rfl)]
      exact ⟨rfl, _, [], _, _, _, _, _, _, rfl, hd1.mono (by simp; omega), ⟨fun _ h => by simp at h, List.nodup_nil, by simp⟩⟩
    · intro pre x post e hx hI
      obtain ⟨d2, ts, s2, s5, s6, s7, s8, s9, he, hd2, hg⟩ := hI
      subst he
      have hpx := (range_at hx).1
      have hxm := (range_at hx).2
      have hlen := tl_len hg.tl hg.nd hm2
      have hat : x + 1 < names.length := by omega
      have hTx : T + 20 + 10 * (pre.length : Int) ≤ T + 180 := by omega
      walk_at "ew"
      rw [ix_at (k := 1 + (x : Int)) (x := .int names[x + 1]) (by omega) (by rw [List.getElem?_map, show (1 + (x : Int)).toNat = x + 1 by omega, List.getElem?_eq_getElem hat]; rfl)]
      walk_at "ew"
      rw [sl_to (by omega)]
      rw [← List.map_take, show (1 + (x : Int)).toNat = x + 1 by omega]
      walk_at "ew"
      have hKl : (names.take (x + 1)).length = x + 1 := by rw [List.length_take]; omega
      have hKnd : (names.take (x + 1)).Nodup := hnn.sublist (List.take_sublist _ _)
      generalize hK : names.take (x + 1) = K at hKl hKnd
      rw [hpx, hK] at hg
      refine Res.sat_mono (Q := fun v p e1 => ∃ lot d', v = lI lot ∧ p = .own ∧ e1 = [.ow d', .sh (.int m), .sh (.int (1 + (x : Int))), .ow (lI names), .ow (lT ts), s5, s6, .ow (.int names[x + 1]), .ow (lI K), s9, .un] ∧ lot.Nodup ∧ (∀ y ∈ lot, y ∈ K) ∧ StOk (T + 20 + 10 * pre.length + 2) d') ?_ ?_
      · walk_at "ev"
        refine draw_calls (by omega) hd2 (by omega) (by omega) fun r d3 hr hr2 hd3 => ?_
        walk_at "ev"
        refine ⟨fun _ => ?_, fun _ => ⟨[], _, rfl, rfl, List.nodup_nil, by simp, hd3.mono (by omega)⟩⟩
        refine ⟨rfl, pickI (by omega) hd3 (fun h => by rw [h] at hKl; simp at hKl) (by omega) fun y d4 hy hd4 => ?_⟩
        walk_at "ev"
        exact ⟨[y], _, rfl, rfl, List.pairwise_singleton _ _, by simpa using hy, hd4.mono (by omega)⟩
      · rintro v p e1 ⟨lot, d', rfl, rfl, rfl, hnd, hsub, hd'⟩
        walk_at "ew"
        have hKm : ∀ y ∈ K, 0 ≤ y ∧ y < m := fun y hy => by rw [← hK] at hy; exact hnm y (List.mem_of_mem_take hy)
        have hsz := sz_def
        refine for_rule (fun ds e1 => ∃ lot d' s6 s9, e1 = [.ow d', .sh (.int m), .sh (.int (1 + (x : Int))), .ow (lI names), .ow (lT ts), .ow (lI lot), s6, .ow (.int names[x + 1]), .ow (lI K), s9, .un] ∧ lot.Nodup ∧ (∀ y ∈ lot, y ∈ K) ∧ ds.length ≤ 4 ∧ StOk (T + 20 + 10 * pre.length + 3 + (4 - ds.length)) d') ?_ ?_ ?_
        · walk_at "ew"
          refine draw_calls (by omega) hd' (by omega) (by omega) fun r d3 hr hr2 hd3 => ?_
          walk_at "ew"
          rw [rng_1 (rng62_ok (by omega) (by omega))]
          exact ⟨lot, d3, _, _, rfl, hnd, hsub, by simp; omega, hd3.mono (by simp; omega)⟩
        · intro y ds e1 hI
          obtain ⟨lot, d', s6, s9, he, hnd, hsub, hds, hd'⟩ := hI
          subst he
          rw [List.length_cons] at hds hd'
          have hll : lot.length ≤ K.length := CL.nodup_le hnd hsub
          walk_at "ew"
          refine Res.sat_mono (Q := fun v p e1 => ∃ more : List Int, v = lI more ∧ p = .own ∧ e1 = [.ow d', .sh (.int m), .sh (.int (1 + (x : Int))), .ow (lI names), .ow (lT ts), .ow (lI lot), .sh y, .ow (.int names[x + 1]), .ow (lI K), s9, .un] ∧ more.length < 100 ∧ ∀ z ∈ more, z ∈ K ∧ z ∉ lot) ?_ ?_
          · walk_at "ev"
            refine ⟨fun _ => ?_, fun _ => ⟨[], rfl, by simp, by simp⟩⟩
            refine comp_anyP (fun z => z ∉ lot) .int K .int (by omega) ?_ ?_
            · intro z hz
              walk_at "ev"
              obtain ⟨b, hb⟩ := is_tied (n := n + 1) (ts := ts) (lot := lot ++ [z]) (by simp; omega)
              rw [lI_snoc, hb]
              walk_at "ev"
              refine ⟨fun hz2 => ⟨by simp; omega, by rw [D.lst.inj (lI_snoc (ys := lot) (y := z))]; exact immL_ints, b, rfl, fun _ => by simpa using hz2, fun _ => trivial⟩, fun _ => ⟨false, rfl, fun h => (by cases h), fun _ => trivial⟩⟩
            · intro ys hys hP
              walk_at "ev"
              exact ⟨ys, rfl, by have := hys.length_le; omega, fun z hz => ⟨hys.subset hz, hP z hz⟩⟩
          · rintro v p e1 ⟨more, rfl, rfl, rfl, hml, hmore⟩
            walk_at "ev"
            refine ⟨fun hne => ⟨rfl, pickI (by omega) hd' (by simpa using hne) (by omega) fun z d4 hz hd4 => ?_⟩, fun _ => ?_⟩
            · walk_at "ev"
              rw [lI_snoc]
              refine ⟨by simp; omega, lot ++ [z], _, _, _, rfl, ?_, ?_, by omega, hd4.mono (by omega)⟩
              · rw [List.nodup_append]
                refine ⟨hnd, List.pairwise_singleton _ _, ?_⟩
                rintro a ha b hb rfl
                rw [List.mem_singleton.mp hb] at ha
                exact (hmore z hz).2 ha
              · intro y hy
                rcases List.mem_append.mp hy with hy | hy
                · exact hsub y hy
                · rw [List.mem_singleton.mp hy]; exact (hmore z hz).1
            · exact ⟨lot, _, _, _, rfl, hnd, hsub, by omega, hd'.mono (by omega)⟩
        · intro e1 hI
          obtain ⟨lot, d', s6, s9, he, hnd, hsub, hds, hd'⟩ := hI
          subst he
          have hll : lot.length ≤ K.length := CL.nodup_le hnd hsub
          walk_at "ev"
          refine DL.comp_map .int lot (fun _ => true) (fun z => tupI (mk2 names[x + 1] z)) (by omega) ?_ ?_
          · intro z hz
            walk_at "ev"
            rw [nt_tie]
            walk_at "ev"
            rfl
          · walk_at "ev"
            have e1 : (lot.map fun z => tupI (mk2 names[x + 1] z)) = (lot.map fun z => mk2 names[x + 1] z).map tupI := by rw [List.map_map]; rfl
            rw [filT, e1, lT_app, ← List.map_append]
            have hown : names[x + 1] ∉ K := by
              intro hin
              have := List.pairwise_append.mp (by rw [← List.take_append_drop (x + 1) names] at hnn; exact hnn)
              rw [← hK] at hin
              exact this.2.2 _ hin names[x + 1] (by rw [List.drop_eq_getElem_cons hat]; exact List.mem_cons_self) rfl
            have hgr := hg.add hKm (hnm _ (List.getElem_mem hat)) hown hsub hnd
            refine ⟨by rw [List.length_map, List.length_map, List.length_map]; omega, immL_tupI, _, _, _, _, _, _, _, _, rfl, hd'.mono (by simp; omega), ?_⟩
            have : List.take ((pre ++ [x]).length + 1) names = K ++ [names[x + 1]] := by
              have hl : (pre ++ [x]).length + 1 = (x + 1) + 1 := by simp [hpx]
              have ht : List.take ((x + 1) + 1) names = List.take (x + 1) names ++ names[x + 1]?.toList := List.take_succ
              rw [hl, ht, hK, List.getElem?_eq_getElem hat]; rfl
            rw [this]
            exact hgr
    · intro e hI
      obtain ⟨d2, ts, s2, s5, s6, s7, s8, s9, he, hd2, hg⟩ := hI
      subst he
      walk_at "ev"
      rw [bi_sortedT hg.tl.ne]
      walk_at "ev"
      refine ⟨_, _, ties_of hg.tl hg.nd, hd2.mono (by simp; omega), rfl, rfl⟩
  obtain ⟨x, p, ios, h, ts, d', h1, h2, rfl, rfl, rfl⟩ := FR.sat_ex this
  exact ⟨ts, d', h1, h2, h⟩
end K03
end
section
set_option Elab.async false
set_option linter.all false
set_option maxRecDepth 100000
set_option maxHeartbeats 4000000
namespace K03
open PySem DL
local macro_rules | `(tactic| walk_at "ev") => `(tactic| try simp only [↓e_con, ↓e_var, ↓e_mv, ↓e_bin, ↓e_neg, ↓e_cmp, ↓e_cmp2, ↓e_and, ↓e_or, ↓e_not, ↓e_ite, ↓e_tup, ↓e_lst, ↓e_dic, ↓e_ix, ↓e_sl, ↓e_fld, ↓e_call, ↓e_callk, ↓e_callv, ↓e_calls, ↓e_new, ↓e_isi, ↓e_caught, ↓e_bi, ↓e_mth, ↓e_mthx, ↓es_nil, ↓es_cons, ↓i_on, ↓i_rng, ↓i_enu, ↓i_rv, ↓i_zp, ↓e_comp, ↓s_nm, ↓s_tp, ↓s_par, ↓s_setx, ↓s_setxx, ↓s_setf, ↓s_ex, ↓s_ret, ↓s_ite, ↓s_brk, ↓s_cnt, ↓s_pss, ↓s_rais, ↓ss_nil, ↓ss_cons,
  imm_non, imm_bl, imm_int, imm_str, imm_fn, imm_exn, imm_scr, imm_tup, imm_lst, imm_dct, imm_obj, immL_nil, immL_cons, immL_ints, imm_tupI, immL_tupI,
  flat_non, flat_bl, flat_int, flat_str, flat_tup, flat_tupI, flat_lst, Pv.of, w_own, w_shr, w_bor, nb_own, nb_shr, nb_bor, nobor_nil, nobor_cons, beq_oo, beq_so, beq_bo, bne_ob, bne_sb, bne_bb, keepS,
  ev_some, set_own, set_shr, setAll_nil, setAll_cons, setTg_nm, setTg_tp, setTp_nil, setTp_cons, rd_ow, rd_sh, mv_ow, mv_sh, ow_ow, isun_ow, isun_sh, bl_bl, wipe_nil, wipe_cons, slImm_un, slImm_sh, slImm_ow,
  callo_own, call_shr, call_exc, calls_own, calls_shr, new_ok, fn_some, fn_sh, fn_ow, op_some, DL.op_add, DL.op_sub, DL.op_mul, op_div, DL.op_mod, DL.op_pow, op_addl, op_addt, op_adds, cm_lt, cm_le, cm_gt, cm_ge, cm_is, cm_isnot,
  okd_int, okd_bl, okd_non, okd_tupI, okd_lI, okd_lT, okd_tT, okd_lL, okd_nil, okd_tnil, cm_eqi, cm_nei, cm_ini, cm_notini, cm_inti, cm_notinti, cm_inlt, cm_notinlt, cm_intt, cm_notintt,
  bi_len_l, bi_len_t, bi_len_s, bi_int, bi_abs, bi_min2, bi_max2, bi_list_l, bi_list_t, bi_tuple_l, bi_tuple_t, bi_sum, m_append, m_extend, lt_some, it_lst_nb, it_tup_nb, it_scr,
  stD_left, stD_turn, stD_great, stD_cells, stD_setleft, stD_setturn, stD_setgreat, stD_imm, stD_lst, sz_def, cm_notT,  it_tT, it_lT, it_lI, it_tupI,  pt_non, pt_con, pt_var, pt_bin, pt_calls, isTup_tup, isTup_lst,  is_ii, is_ib, is_tt, is_net, is_hung, D.int.injEq, exists_eq_left, exists_eq_left', cm_lttt, cm_neI0, cm_eqI0, cm_neT0, cm_eqT0, cm_eqt0, m_pop0, isLst_lst, aok_nil, aok_own,
  Ex.mods, Exs.mods, It.mods, Tg.slots, Sts.mods, St.mods, wipeS, backS, ite_true, ite_false, if_true, if_false, reduceIte, Bool.false_eq_true, Bool.true_eq_false, List.getD_cons_zero, List.getD_cons_succ, List.set_cons_zero, List.set_cons_succ, List.contains_cons, List.contains_nil, List.all_cons, List.all_nil, List.append_nil, List.nil_append, List.cons_append,
  Bool.not_true, Bool.not_false, Bool.and_true, Bool.true_and, Bool.and_false, Bool.false_and, Bool.or_false, Bool.false_or, Bool.or_true, Bool.true_or, beq_self_eq_true, Nat.reduceBEq, Nat.reduceEqDiff, true_and, and_true, true_implies, false_implies, List.not_mem_nil, List.mem_cons, List.mem_singleton, not_false_eq_true, not_true_eq_false, or_false, false_or, reduceCtorEq, Nat.reduceAdd, Nat.reduceSub, decide_true, decide_false])
local macro_rules | `(tactic| walk_at "ew") => `(tactic| try simp only [↓e_con, ↓e_var, ↓e_mv, ↓e_bin, ↓e_neg, ↓e_cmp, ↓e_cmp2, ↓e_and, ↓e_or, ↓e_not, ↓e_tup, ↓e_lst, ↓e_dic, ↓e_ix, ↓e_sl, ↓e_fld, ↓e_call, ↓e_callk, ↓e_callv, ↓e_calls, ↓e_new, ↓e_isi, ↓e_caught, ↓e_bi, ↓e_mth, ↓e_mthx, ↓es_nil, ↓es_cons, ↓i_on, ↓i_rng, ↓i_enu, ↓i_rv, ↓i_zp, ↓e_comp, ↓s_nm, ↓s_tp, ↓s_par, ↓s_setx, ↓s_setxx, ↓s_setf, ↓s_ex, ↓s_ret, ↓s_ite, ↓s_brk, ↓s_cnt, ↓s_pss, ↓s_rais, ↓ss_nil, ↓ss_cons,
  imm_non, imm_bl, imm_int, imm_str, imm_fn, imm_exn, imm_scr, imm_tup, imm_lst, imm_dct, imm_obj, immL_nil, immL_cons, immL_ints, imm_tupI, immL_tupI,
  flat_non, flat_bl, flat_int, flat_str, flat_tup, flat_tupI, flat_lst, Pv.of, w_own, w_shr, w_bor, nb_own, nb_shr, nb_bor, nobor_nil, nobor_cons, beq_oo, beq_so, beq_bo, bne_ob, bne_sb, bne_bb, keepS,
  ev_some, set_own, set_shr, setAll_nil, setAll_cons, setTg_nm, setTg_tp, setTp_nil, setTp_cons, rd_ow, rd_sh, mv_ow, mv_sh, ow_ow, isun_ow, isun_sh, bl_bl, wipe_nil, wipe_cons, slImm_un, slImm_sh, slImm_ow,
  callo_own, call_shr, call_exc, calls_own, calls_shr, new_ok, fn_some, fn_sh, fn_ow, op_some, DL.op_add, DL.op_sub, DL.op_mul, op_div, DL.op_mod, DL.op_pow, op_addl, op_addt, op_adds, cm_lt, cm_le, cm_gt, cm_ge, cm_is, cm_isnot,
  okd_int, okd_bl, okd_non, okd_tupI, okd_lI, okd_lT, okd_tT, okd_lL, okd_nil, okd_tnil, cm_eqi, cm_nei, cm_ini, cm_notini, cm_inti, cm_notinti, cm_inlt, cm_notinlt, cm_intt, cm_notintt,
  bi_len_l, bi_len_t, bi_len_s, bi_int, bi_abs, bi_min2, bi_max2, bi_list_l, bi_list_t, bi_tuple_l, bi_tuple_t, bi_sum, m_append, m_extend, lt_some, it_lst_nb, it_tup_nb, it_scr,
  stD_left, stD_turn, stD_great, stD_cells, stD_setleft, stD_setturn, stD_setgreat, stD_imm, stD_lst, sz_def, cm_notT,  it_tT, it_lT, it_lI, it_tupI,  pt_non, pt_con, pt_var, pt_bin, pt_calls, isTup_tup, isTup_lst,  is_ii, is_ib, is_tt, is_net, is_hung, D.int.injEq, exists_eq_left, exists_eq_left', cm_lttt, cm_neI0, cm_eqI0, cm_neT0, cm_eqT0, cm_eqt0, m_pop0, isLst_lst, aok_nil, aok_own,
  Ex.mods, Exs.mods, It.mods, Tg.slots, Sts.mods, St.mods, wipeS, backS, ite_true, ite_false, if_true, if_false, reduceIte, Bool.false_eq_true, Bool.true_eq_false, List.getD_cons_zero, List.getD_cons_succ, List.set_cons_zero, List.set_cons_succ, List.contains_cons, List.contains_nil, List.all_cons, List.all_nil, List.append_nil, List.nil_append, List.cons_append,
  Bool.not_true, Bool.not_false, Bool.and_true, Bool.true_and, Bool.and_false, Bool.false_and, Bool.or_false, Bool.false_or, Bool.or_true, Bool.true_or, beq_self_eq_true, Nat.reduceBEq, Nat.reduceEqDiff, true_and, and_true, true_implies, false_implies, List.not_mem_nil, List.mem_cons, List.mem_singleton, not_false_eq_true, not_true_eq_false, or_false, false_or, reduceCtorEq, Nat.reduceAdd, Nat.reduceSub, decide_true, decide_false])
theorem mem_dedup {x : List Int} : ∀ {ts : List (List Int)}, x ∈ dedupT ts ↔ x ∈ ts
  | [] => Iff.rfl
  | y :: ts => by
    rw [dedupT]
    by_cases h : ts.contains y = true
    · rw [if_pos h, mem_dedup]
      have : y ∈ ts := by simpa using h
      rw [List.mem_cons]
      exact ⟨.inr, fun h => h.elim (fun e => e ▸ this) id⟩
    · rw [if_neg h, List.mem_cons, List.mem_cons, mem_dedup]
theorem nd_dedup : ∀ ts : List (List Int), (dedupT ts).Nodup
  | [] => List.nodup_nil
  | y :: ts => by
    rw [dedupT]
    by_cases h : ts.contains y = true
    · rw [if_pos h]; exact nd_dedup ts
    · rw [if_neg h, List.nodup_cons, mem_dedup]
      exact ⟨by simpa using h, nd_dedup ts⟩
theorem bi_sortset {m : Int} {ts : List (List Int)} {Q : D → Prop} (h : TL m ts) (hm : m ≤ 16) (hl : ts.length < 64) : opS (biD .sortset [lT ts]) Q ↔ Q (lT (sortT (dedupT ts))) := by
  have e : biD .sortset [lT ts] = some (lT (sortT (dedupT ts))) := by
    show (tupsOf (ts.map tupI)).bind _ = _
    rw [tupsOf_all h.ne]
    show (if _ then _ else _) = _
    rw [if_pos]
    rw [Bool.and_eq_true, List.all_eq_true]
    refine ⟨by simpa using hl, fun t ht => ?_⟩
    obtain ⟨a, b, rfl, h0, h1, h2⟩ := h t ht
    simp; omega
  rw [e]; exact Iff.rfl
theorem ix_last {xs : List D} {x : D} {Q : D → Prop} (h : xs.getLast? = some x) : opS (ixD (.lst xs) (.int (-1))) Q ↔ Q x := by
  have hne : xs ≠ [] := fun e => by subst e; cases h
  have hl := List.length_pos_iff.mpr hne
  have e : ixD (.lst xs) (.int (-1)) = some x := by
    show (L2.ixN xs.length (-1)).bind (fun j => xs[j]?) = some x
    have : L2.ixN xs.length (-1) = some (xs.length - 1) := by
      unfold L2.ixN
      rw [if_neg (by omega), if_pos (by omega)]
      congr 1
      omega
    rw [this, ← h, List.getLast?_eq_getElem?]; rfl
  rw [e]; exact Iff.rfl
theorem tl_app {m : Int} {ts us : List (List Int)} (h1 : TL m ts) (h2 : TL m us) : TL m (ts ++ us) := fun t ht => (List.mem_append.mp ht).elim (h1 t) (h2 t)
theorem tl_mk2 {m a b : Int} (ha : 0 ≤ a ∧ a < m) (hb : 0 ≤ b ∧ b < m) (h : a ≠ b) : ∃ c d, mk2 a b = [c, d] ∧ 0 ≤ c ∧ c < d ∧ d < m := ⟨_, _, rfl, by omega, by omega, by omega⟩
/-- the one before, around -/
def bef (ring : List Int) (k : Nat) : Int := if k = 0 then ring.getD (ring.length - 1) 0 else ring.getD (k - 1) 0
theorem ix_bef {ring : List Int} {k : Nat} {Q : D → Prop} (hk : k < ring.length) : opS (ixD (lI ring) (.int ((k : Int) - 1))) Q ↔ Q (.int (bef ring k)) := by
  unfold bef
  cases k with
  | zero =>
    rw [if_pos rfl]
    refine ix_last ?_
    rw [List.getLast?_map, List.getLast?_eq_getElem?, List.getElem?_eq_getElem (by omega), List.getD_eq_getElem?_getD, List.getElem?_eq_getElem (by omega)]; rfl
  | succ k =>
    rw [if_neg (by omega)]
    refine ix_at (by omega) ?_
    rw [List.getElem?_map, show ((k + 1 : Nat) : Int) - 1 = (k : Int) by omega, Int.toNat_natCast, show k + 1 - 1 = k by omega, List.getD_eq_getElem?_getD, List.getElem?_eq_getElem (by omega)]; rfl
theorem ix_now {ring : List Int} {k : Nat} {Q : D → Prop} (hk : k < ring.length) : opS (ixD (lI ring) (.int (k : Int))) Q ↔ Q (.int (ring.getD k 0)) := by
  refine ix_at (by omega) ?_
  rw [List.getElem?_map, Int.toNat_natCast, List.getD_eq_getElem?_getD, List.getElem?_eq_getElem hk]; rfl
theorem getD_mem {ring : List Int} {k : Nat} (hk : k < ring.length) : ring.getD k 0 ∈ ring := by
  rw [List.getD_eq_getElem?_getD, List.getElem?_eq_getElem hk]; exact List.getElem_mem hk
theorem bef_mem {ring : List Int} {k : Nat} (hk : k < ring.length) : bef ring k ∈ ring := by
  unfold bef
  split <;> exact getD_mem (by omega)
theorem getD_inj {ring : List Int} (hn : ring.Nodup) {i j : Nat} (hi : i < ring.length) (hj : j < ring.length) (h : ring.getD i 0 = ring.getD j 0) : i = j := by
  rw [List.getD_eq_getElem?_getD, List.getD_eq_getElem?_getD, List.getElem?_eq_getElem hi, List.getElem?_eq_getElem hj] at h
  have hp := List.pairwise_iff_getElem.mp hn
  have h : ring[i] = ring[j] := h
  rcases Nat.lt_trichotomy i j with hij | hij | hij
  · exact absurd h (hp i j hi hj hij)
  · exact hij
  · exact absurd h.symm (hp j i hj hi hij)
theorem bef_ne {ring : List Int} (hn : ring.Nodup) {k : Nat} (hk : k < ring.length) (hl : 1 < ring.length) : bef ring k ≠ ring.getD k 0 := by
  unfold bef
  intro h
  split at h
  · have := getD_inj hn (by omega) hk h; omega
  · have := getD_inj hn (by omega) hk h; omega
theorem ringed {n : Nat} {T m : Int} {d : D} (hT : T < 999999000000) (h : StOk T d) (hm : 1 ≤ m) (hm2 : m ≤ 16) : ∃ ts d', Ties m ts ∧ StOk (T + 1000) d' ∧ callF GamZ (n + 4) "_law_nt_ringed" [d, .int m] = .ret (tT ts) .own [d'] := by
  have : (callF GamZ (n + 4) "_law_nt_ringed" [d, .int m]).sat (fun x p ios => ∃ ts d', Ties m ts ∧ StOk (T + 1000) d' ∧ x = tT ts ∧ p = .own ∧ ios = [d']) fun _ _ => False := by
    rw [go (fn := fn__law_nt_ringed) (by rfl)]
    refine run_io (by rfl) (by rfl) ?_
    show (execs [0] _ fn__law_nt_ringed.body [.ow d, .sh (.int m), .un, .un, .un, .un, .un, .un, .un, .un, .un]).sat _
    unfold fn__law_nt_ringed
    dsimp only
    have hsz := sz_def
    walk_at "ew"
    rw [bi_lrngI (by omega) (by omega)]
    walk_at "ew"
    refine mixedI (xs := CL.rng m.toNat) (T := T) (by rw [rng_len]; omega) h (by rw [rng_len]; omega) fun names d1 hp hd1 => ?_
    rw [rng_len] at hd1
    have hnl : names.length = m.toNat := by rw [hp.length_eq, rng_len]
    have hnm : ∀ x ∈ names, 0 ≤ x ∧ x < m := fun x hx => by have := CL.mem_rng.mp (hp.mem_iff.mp hx); omega
    have hnn := rng_perm_nd hp
    walk_at "ew"
    refine draw_calls (by omega) hd1 (by omega) (by omega) fun r d2 hr hr2 hd2 => ?_
    walk_at "ew"
    generalize hs : (if 4 + r < m then 4 + r else m) = s
    have hs1 : 0 ≤ s ∧ s ≤ m ∧ s ≤ 8 := by rw [← hs]; split <;> omega
    rw [sl_to hs1.1, ← List.map_take]
    walk_at "ew"
    have hrl : (names.take s.toNat).length = s.toNat := by rw [List.length_take]; omega
    have hrn : (names.take s.toNat).Nodup := hnn.sublist (List.take_sublist _ _)
    have hrm : ∀ x ∈ names.take s.toNat, 0 ≤ x ∧ x < m := fun x hx => hnm x (List.mem_of_mem_take hx)
    have hrest : ∀ x ∈ names.drop s.toNat, x ∉ names.take s.toNat := fun x hx hx2 => by
      have := List.pairwise_append.mp (by rw [← List.take_append_drop s.toNat names] at hnn; exact hnn)
      exact this.2.2 _ hx2 _ hx rfl
    generalize hring : names.take s.toNat = ring at hrl hrn hrm hrest
    refine Res.sat_mono (Q := fun v p e1 => ∃ ts, v = lT ts ∧ p = .own ∧ e1 = [.ow d2, .sh (.int m), .ow (lI names), .ow (.int s), .ow (lI ring), .un, .un, .un, .un, .un, .un] ∧ TL m ts ∧ ts.length ≤ 8) ?_ ?_
    · walk_at "ev"
      refine ⟨fun hs2 => ?_, fun _ => ⟨[], rfl, fun _ h => by simp at h, by simp⟩⟩
      rw [rng_1 (rng62_ok (by omega) (by omega))]
      refine DL.comp_map (fun k : Nat => .int k) (List.range s.toNat) (fun _ => true) (fun k => tupI (mk2 (bef ring k) (ring.getD k 0))) (by simp; omega) ?_ ?_
      · intro k hk
        have hk2 : k < ring.length := by rw [hrl]; exact List.mem_range.mp hk
        walk_at "ev"
        simp only [ix_bef hk2, ix_now hk2]
        walk_at "ev"
        rw [nt_tie]
        walk_at "ev"
        rfl
      · walk_at "ev"
        rw [filT]
        refine ⟨(List.range s.toNat).map fun k => mk2 (bef ring k) (ring.getD k 0), by unfold lT; rw [List.map_map]; rfl, ?_, by simp; omega⟩
        intro t ht
        obtain ⟨k, hk, rfl⟩ := List.mem_map.mp ht
        have hk2 : k < ring.length := by rw [hrl]; exact List.mem_range.mp hk
        have hs2 : 2 < s := by simpa using hs2
        exact tl_mk2 (hrm _ (bef_mem hk2)) (hrm _ (getD_mem hk2)) (bef_ne hrn hk2 (by omega))
    · rintro v p e1 ⟨ts, rfl, rfl, rfl, htl, hts⟩
      walk_at "ew"
      refine for_rule (fun ds e1 => ∃ d ts s6 s8 s9, e1 = [.ow d, .sh (.int m), .ow (lI names), .ow (.int s), .ow (lI ring), .ow (lT ts), s6, .un, s8, s9, .un] ∧ slImm s9 = true ∧ TL m ts ∧ ds.length ≤ 5 ∧ ts.length + ds.length ≤ 13 ∧ StOk (T + 40 + 2 * (5 - ds.length)) d) ?_ ?_ ?_
      · walk_at "ew"
        refine pickI (xs := [0, 0, 1, 2, 5]) (by omega) hd2 (by simp) (by simp) fun r d3 hr hd3 => ?_
        have hr2 : 0 ≤ r ∧ r ≤ 5 := by simp at hr; omega
        walk_at "ew"
        rw [rng_1 (rng62_ok (by omega) (by omega))]
        exact ⟨d3, ts, _, _, _, rfl, rfl, htl, by simp; omega, by simp; omega, hd3.mono (by simp; omega)⟩
      · intro y ds e1 hI
        obtain ⟨d, ts, s6, s8, s9, he, hs9, htl, hds, hts, hd⟩ := hI
        subst he
        rw [List.length_cons] at hds hts hd
        have hne : names ≠ [] := fun e => by rw [e] at hnl; simp at hnl; omega
        walk_at "ew"
        refine ⟨rfl, pickI (by omega) hd hne (by omega) fun a d4 ha hd4 => ?_⟩
        walk_at "ew"
        refine ⟨rfl, pickI (by omega) hd4 hne (by omega) fun b d5 hb hd5 => ?_⟩
        walk_at "ew"
        refine Res.sat_mono (Q := fun v p e1 => ∃ us, v = lT us ∧ p = .own ∧ e1 = [.ow d5, .sh (.int m), .ow (lI names), .ow (.int s), .ow (lI ring), .ow (lT ts), .sh y, .un, .ow (.int a), .ow (.int b), .un] ∧ TL m us ∧ us.length ≤ 1) ?_ ?_
        · walk_at "ev"
          refine ⟨fun hab => ?_, fun _ => ⟨[], rfl, fun _ h => by simp at h, by simp⟩⟩
          rw [nt_tie]
          walk_at "ev"
          refine ⟨[mk2 a b], rfl, ?_, by simp⟩
          intro t ht
          rw [List.mem_singleton.mp ht]
          exact tl_mk2 (hnm _ ha) (hnm _ hb) (by simpa using hab)
        · rintro v p e1 ⟨us, rfl, rfl, rfl, hus, hul⟩
          walk_at "ew"
          rw [lT_app, ← List.map_append]
          exact ⟨by rw [List.length_map, List.length_map]; omega, immL_tupI, _, ts ++ us, _, _, _, rfl, rfl, tl_app htl hus, by omega, by rw [List.length_append]; omega, hd5.mono (by omega)⟩
      · intro e1 hI
        obtain ⟨d, ts, s6, s8, s9, he, hs9, htl, hds, hts, hd⟩ := hI
        subst he
        walk_at "ew"
        refine for_map .int (names.drop s.toNat) (fun pre post e1 => ∃ d ts s7, e1 = [.ow d, .sh (.int m), .ow (lI names), .ow (.int s), .ow (lI ring), .ow (lT ts), s6, s7, s8, s9, .un] ∧ TL m ts ∧ ts.length ≤ 13 + 2 * pre.length ∧ StOk (T + 100 + 20 * pre.length) d) ?_ ?_ ?_
        · walk_at "ew"
          rw [sl_from hs1.1]
          walk_at "ew"
          rw [← List.map_drop]
          walk_at "ew"
          exact ⟨_, _, _, rfl, htl, by simp; omega, hd.mono (by simp; omega)⟩
        · intro pre x post e hx hI
          obtain ⟨d, ts, s7, he, htl, hts, hd⟩ := hI
          subst he
          have hxm : x ∈ names.drop s.toNat := by rw [hx]; simp
          have hpl : pre.length < 16 := by
            have : (names.drop s.toNat).length = _ := congrArg List.length hx
            simp at this; omega
          walk_at "ew"
          refine ⟨rfl, mixedI (by omega) hd (by omega) fun ys d2 hp2 hd2 => ?_⟩
          walk_at "ew"
          refine draw_calls (by omega) hd2 (by omega) (by omega) fun r d3 hr hr2 hd3 => ?_
          walk_at "ew"
          rw [sl_to hr, ← List.map_take]
          walk_at "ew"
          rw [hs9]
          have hyl : (ys.take r.toNat).length ≤ 2 := by rw [List.length_take]; omega
          refine ⟨rfl, DL.comp_map .int (ys.take r.toNat) (fun _ => true) (fun z => tupI (mk2 x z)) (by omega) ?_ ?_⟩
          · intro z hz
            walk_at "ev"
            rw [nt_tie]
            walk_at "ev"
            rfl
          · walk_at "ev"
            have e1 : ((ys.take r.toNat).map fun z => tupI (mk2 x z)) = ((ys.take r.toNat).map fun z => mk2 x z).map tupI := by rw [List.map_map]; rfl
            rw [filT, e1, lT_app, ← List.map_append]
            refine ⟨by rw [List.length_map, List.length_map, List.length_map]; omega, immL_tupI, _, _, _, rfl, tl_app htl ?_, by rw [List.length_append, List.length_append, List.length_map]; simp; omega, hd3.mono (by simp; omega)⟩
            intro t ht
            obtain ⟨z, hz, rfl⟩ := List.mem_map.mp ht
            have hz2 := hp2.mem_iff.mp (List.mem_of_mem_take hz)
            exact tl_mk2 (hnm _ (List.mem_of_mem_drop hxm)) (hrm _ hz2) fun e => hrest x hxm (e ▸ hz2)
        · intro e hI
          obtain ⟨d, ts, s7, he, htl, hts, hd⟩ := hI
          subst he
          have hdl : (names.drop s.toNat).length ≤ 16 := by rw [List.length_drop]; omega
          walk_at "ew"
          rw [bi_sortset htl hm2 (by omega)]
          walk_at "ew"
          exact ⟨_, _, ties_of (fun t ht => htl t (mem_dedup.mp ht)) (nd_dedup ts), hd.mono (by omega), rfl, rfl⟩
  obtain ⟨x, p, ios, h, ts, d', h1, h2, rfl, rfl, rfl⟩ := FR.sat_ex this
  exact ⟨ts, d', h1, h2, h⟩
end K03
end
section
set_option Elab.async false
set_option linter.all false
set_option maxRecDepth 100000
set_option maxHeartbeats 4000000
namespace K03
open PySem DL
local macro_rules | `(tactic| walk_at "ev") => `(tactic| try simp only [↓e_con, ↓e_var, ↓e_mv, ↓e_bin, ↓e_neg, ↓e_cmp, ↓e_cmp2, ↓e_and, ↓e_or, ↓e_not, ↓e_ite, ↓e_tup, ↓e_lst, ↓e_dic, ↓e_ix, ↓e_sl, ↓e_fld, ↓e_call, ↓e_callk, ↓e_callv, ↓e_calls, ↓e_new, ↓e_isi, ↓e_caught, ↓e_bi, ↓e_mth, ↓e_mthx, ↓es_nil, ↓es_cons, ↓i_on, ↓i_rng, ↓i_enu, ↓i_rv, ↓i_zp, ↓e_comp, ↓s_nm, ↓s_tp, ↓s_par, ↓s_setx, ↓s_setxx, ↓s_setf, ↓s_ex, ↓s_ret, ↓s_ite, ↓s_brk, ↓s_cnt, ↓s_pss, ↓s_rais, ↓ss_nil, ↓ss_cons,
  imm_non, imm_bl, imm_int, imm_str, imm_fn, imm_exn, imm_scr, imm_tup, imm_lst, imm_dct, imm_obj, immL_nil, immL_cons, immL_ints, imm_tupI, immL_tupI,
  flat_non, flat_bl, flat_int, flat_str, flat_tup, flat_tupI, flat_lst, Pv.of, w_own, w_shr, w_bor, nb_own, nb_shr, nb_bor, nobor_nil, nobor_cons, beq_oo, beq_so, beq_bo, bne_ob, bne_sb, bne_bb, keepS,
  ev_some, set_own, set_shr, setAll_nil, setAll_cons, setTg_nm, setTg_tp, setTp_nil, setTp_cons, rd_ow, rd_sh, mv_ow, mv_sh, ow_ow, isun_ow, isun_sh, bl_bl, wipe_nil, wipe_cons, slImm_un, slImm_sh, slImm_ow,
  callo_own, call_shr, call_exc, calls_own, calls_shr, new_ok, fn_some, fn_sh, fn_ow, op_some, DL.op_add, DL.op_sub, DL.op_mul, op_div, DL.op_mod, DL.op_pow, op_addl, op_addt, op_adds, cm_lt, cm_le, cm_gt, cm_ge, cm_is, cm_isnot,
  okd_int, okd_bl, okd_non, okd_tupI, okd_lI, okd_lT, okd_tT, okd_lL, okd_nil, okd_tnil, cm_eqi, cm_nei, cm_ini, cm_notini, cm_inti, cm_notinti, cm_inlt, cm_notinlt, cm_intt, cm_notintt,
  bi_len_l, bi_len_t, bi_len_s, bi_int, bi_abs, bi_min2, bi_max2, bi_list_l, bi_list_t, bi_tuple_l, bi_tuple_t, bi_sum, m_append, m_extend, lt_some, it_lst_nb, it_tup_nb, it_scr,
  stD_left, stD_turn, stD_great, stD_cells, stD_setleft, stD_setturn, stD_setgreat, stD_imm, stD_lst, sz_def, cm_notT,  it_tT, it_lT, it_lI, it_tupI,  pt_non, pt_con, pt_var, pt_bin, pt_calls, isTup_tup, isTup_lst,  is_ii, is_ib, is_tt, is_net, is_hung, D.int.injEq, exists_eq_left, exists_eq_left', cm_lttt, cm_neI0, cm_eqI0, cm_neT0, cm_eqT0, cm_eqt0, m_pop0, isLst_lst, aok_nil, aok_own,
  Ex.mods, Exs.mods, It.mods, Tg.slots, Sts.mods, St.mods, wipeS, backS, ite_true, ite_false, if_true, if_false, reduceIte, Bool.false_eq_true, Bool.true_eq_false, List.getD_cons_zero, List.getD_cons_succ, List.set_cons_zero, List.set_cons_succ, List.contains_cons, List.contains_nil, List.all_cons, List.all_nil, List.append_nil, List.nil_append, List.cons_append,
  Bool.not_true, Bool.not_false, Bool.and_true, Bool.true_and, Bool.and_false, Bool.false_and, Bool.or_false, Bool.false_or, Bool.or_true, Bool.true_or, beq_self_eq_true, Nat.reduceBEq, Nat.reduceEqDiff, true_and, and_true, true_implies, false_implies, List.not_mem_nil, List.mem_cons, List.mem_singleton, not_false_eq_true, not_true_eq_false, or_false, false_or, reduceCtorEq, Nat.reduceAdd, Nat.reduceSub, decide_true, decide_false])
local macro_rules | `(tactic| walk_at "ew") => `(tactic| try simp only [↓e_con, ↓e_var, ↓e_mv, ↓e_bin, ↓e_neg, ↓e_cmp, ↓e_cmp2, ↓e_and, ↓e_or, ↓e_not, ↓e_tup, ↓e_lst, ↓e_dic, ↓e_ix, ↓e_sl, ↓e_fld, ↓e_call, ↓e_callk, ↓e_callv, ↓e_calls, ↓e_new, ↓e_isi, ↓e_caught, ↓e_bi, ↓e_mth, ↓e_mthx, ↓es_nil, ↓es_cons, ↓i_on, ↓i_rng, ↓i_enu, ↓i_rv, ↓i_zp, ↓e_comp, ↓s_nm, ↓s_tp, ↓s_par, ↓s_setx, ↓s_setxx, ↓s_setf, ↓s_ex, ↓s_ret, ↓s_ite, ↓s_brk, ↓s_cnt, ↓s_pss, ↓s_rais, ↓ss_nil, ↓ss_cons,
  imm_non, imm_bl, imm_int, imm_str, imm_fn, imm_exn, imm_scr, imm_tup, imm_lst, imm_dct, imm_obj, immL_nil, immL_cons, immL_ints, imm_tupI, immL_tupI,
  flat_non, flat_bl, flat_int, flat_str, flat_tup, flat_tupI, flat_lst, Pv.of, w_own, w_shr, w_bor, nb_own, nb_shr, nb_bor, nobor_nil, nobor_cons, beq_oo, beq_so, beq_bo, bne_ob, bne_sb, bne_bb, keepS,
  ev_some, set_own, set_shr, setAll_nil, setAll_cons, setTg_nm, setTg_tp, setTp_nil, setTp_cons, rd_ow, rd_sh, mv_ow, mv_sh, ow_ow, isun_ow, isun_sh, bl_bl, wipe_nil, wipe_cons, slImm_un, slImm_sh, slImm_ow,
  callo_own, call_shr, call_exc, calls_own, calls_shr, new_ok, fn_some, fn_sh, fn_ow, op_some, DL.op_add, DL.op_sub, DL.op_mul, op_div, DL.op_mod, DL.op_pow, op_addl, op_addt, op_adds, cm_lt, cm_le, cm_gt, cm_ge, cm_is, cm_isnot,
  okd_int, okd_bl, okd_non, okd_tupI, okd_lI, okd_lT, okd_tT, okd_lL, okd_nil, okd_tnil, cm_eqi, cm_nei, cm_ini, cm_notini, cm_inti, cm_notinti, cm_inlt, cm_notinlt, cm_intt, cm_notintt,
  bi_len_l, bi_len_t, bi_len_s, bi_int, bi_abs, bi_min2, bi_max2, bi_list_l, bi_list_t, bi_tuple_l, bi_tuple_t, bi_sum, m_append, m_extend, lt_some, it_lst_nb, it_tup_nb, it_scr,
  stD_left, stD_turn, stD_great, stD_cells, stD_setleft, stD_setturn, stD_setgreat, stD_imm, stD_lst, sz_def, cm_notT,  it_tT, it_lT, it_lI, it_tupI,  pt_non, pt_con, pt_var, pt_bin, pt_calls, isTup_tup, isTup_lst,  is_ii, is_ib, is_tt, is_net, is_hung, D.int.injEq, exists_eq_left, exists_eq_left', cm_lttt, cm_neI0, cm_eqI0, cm_neT0, cm_eqT0, cm_eqt0, m_pop0, isLst_lst, aok_nil, aok_own,
  Ex.mods, Exs.mods, It.mods, Tg.slots, Sts.mods, St.mods, wipeS, backS, ite_true, ite_false, if_true, if_false, reduceIte, Bool.false_eq_true, Bool.true_eq_false, List.getD_cons_zero, List.getD_cons_succ, List.set_cons_zero, List.set_cons_succ, List.contains_cons, List.contains_nil, List.all_cons, List.all_nil, List.append_nil, List.nil_append, List.cons_append,
  Bool.not_true, Bool.not_false, Bool.and_true, Bool.true_and, Bool.and_false, Bool.false_and, Bool.or_false, Bool.false_or, Bool.or_true, Bool.true_or, beq_self_eq_true, Nat.reduceBEq, Nat.reduceEqDiff, true_and, and_true, true_implies, false_implies, List.not_mem_nil, List.mem_cons, List.mem_singleton, not_false_eq_true, not_true_eq_false, or_false, false_or, reduceCtorEq, Nat.reduceAdd, Nat.reduceSub, decide_true, decide_false])
theorem kind {n : Nat} : callF GamZ (n + 1) "_law_nh_kind" [.exn "BadNet" [] []] = .ret (.str "net ") .own [] := by
  rw [go (fn := fn__law_nh_kind) (by rfl)]
  rfl
theorem pickA {n : Nat} {T : Int} {d : D} {xs : List D} (hT : T < 1000000000000) (h : StOk T d) (hx : xs ≠ []) (hx2 : xs.length < 1073741824) : ∃ x p d', x ∈ xs ∧ (p = .own ∨ p = .shr) ∧ StOk (T + 1) d' ∧ callF GamZ (n + 3) "_law_pick" [d, .lst xs] = .ret x p [d'] := by
  have : (callF GamZ (n + 3) "_law_pick" [d, .lst xs]).sat (fun x p ios => ∃ d', x ∈ xs ∧ (p = .own ∨ p = .shr) ∧ StOk (T + 1) d' ∧ ios = [d']) fun _ _ => False := by
    rw [go (fn := fn__law_pick) (by rfl)]
    refine run_io (by rfl) (by rfl) ?_
    show (execs [0] _ fn__law_pick.body [.ow d, .sh (.lst xs)]).sat _
    unfold fn__law_pick
    dsimp only
    have hl : 0 < (xs.length : Int) := by
      have := List.length_pos_iff.mpr hx
      omega
    walk_at "ev"
    refine draw_calls hT h hl (by omega) fun r d' h0 h1 h2 => ?_
    have hr : r.toNat < xs.length := by omega
    rw [ix_at h0 (List.getElem?_eq_getElem hr)]
    have hm : xs[r.toNat] ∈ xs := List.getElem_mem hr
    by_cases hi : xs[r.toNat].imm = true
    · rw [if_pos hi]
      walk_at "ev"
      exact ⟨_, hm, h2, rfl⟩
    · rw [if_neg hi]
      walk_at "ev"
      exact ⟨_, hm, h2, rfl⟩
  obtain ⟨x, p, ios, h, d', h0, hp, h1, rfl⟩ := FR.sat_ex this
  exact ⟨x, p, d', h0, hp, h1, h⟩
def odds : List D := [.non, .int 0, .bl true, .tup [], .lst [], .dct [] [], .str "net", .tup [.int 3, .tup []], .int ((10 : Int) ^ (18 : Int).toNat)]
theorem no_net {n : Nat} {T : Int} {d : D} (hT : T < 1000000000000) (h : StOk T d) : ∃ x p d', x ∈ odds ∧ (p = .own ∨ p = .shr) ∧ StOk (T + 1) d' ∧ callF GamZ (n + 4) "_law_nt_no_net" [d] = .ret x p [d'] := by
  obtain ⟨x, p, d', h0, hp, h1, hc⟩ := pickA (n := n) (xs := odds) hT h (by unfold odds; simp) (by unfold odds; simp)
  have : (callF GamZ (n + 4) "_law_nt_no_net" [d]).sat (fun x' p' ios => x' = x ∧ p' = p ∧ ios = [d']) fun _ _ => False := by
    rw [go (fn := fn__law_nt_no_net) (by rfl)]
    refine run_io (by rfl) (by rfl) ?_
    show (execs [0] _ fn__law_nt_no_net.body [.ow d]).sat _
    unfold fn__law_nt_no_net
    dsimp only
    walk_at "ev"
    unfold odds at hc
    refine ⟨rfl, ?_⟩
    rw [hc]
    rcases hp with rfl | rfl
    · walk_at "ev"
    · walk_at "ev"
  obtain ⟨x', p', ios, h, rfl, rfl, rfl⟩ := FR.sat_ex this
  exact ⟨_, _, _, h0, hp, h1, h⟩
theorem nt_net {n : Nat} {T most : Int} {d : D} (hT : T < 999990000000) (h : StOk T d) (hm : 1 ≤ most) (hm2 : most ≤ 16) : ∃ m ts d', 1 ≤ m ∧ m ≤ 16 ∧ Ties m ts ∧ StOk (T + 2000) d' ∧ callF GamZ (n + 5) "_law_nt_net" [d, .int most] = .ret (.tup [.int m, tT ts]) .own [d'] := by
  have : (callF GamZ (n + 5) "_law_nt_net" [d, .int most]).sat (fun x p ios => ∃ m ts d', 1 ≤ m ∧ m ≤ 16 ∧ Ties m ts ∧ StOk (T + 2000) d' ∧ x = .tup [.int m, tT ts] ∧ p = .own ∧ ios = [d']) fun _ _ => False := by
    rw [go (fn := fn__law_nt_net) (by rfl)]
    refine run_io (by rfl) (by rfl) ?_
    show (execs [0] _ fn__law_nt_net.body [.ow d, .sh (.int most), .un, .un]).sat _
    unfold fn__law_nt_net
    dsimp only
    walk_at "ev"
    refine draw_calls (by omega) h (by omega) (by omega) fun r d1 hr hr2 hd1 => ?_
    walk_at "ev"
    refine draw_calls (by omega) hd1 (by omega) (by omega) fun w d2 hw hw2 hd2 => ?_
    walk_at "ev"
    obtain ⟨t1, e1, ht1, hs1, hc1⟩ := chorded (n := n) (m := 1 + r) (by omega) hd2 (by omega) (by omega)
    obtain ⟨t2, e2, ht2, hs2, hc2⟩ := ringed (n := n) (m := 1 + r) (by omega) hd2 (by omega) (by omega)
    rw [hc1, hc2]
    walk_at "ev"
    refine ⟨fun _ => ⟨_, _, _, by omega, by omega, ht1, hs1.mono (by omega), rfl, rfl⟩, fun _ => ⟨fun _ => ⟨_, _, _, by omega, by omega, ht2, hs2.mono (by omega), rfl, rfl⟩, fun _ => ?_⟩⟩
    refine ⟨sm_l (by decide), ?_, pickI (n := n + 1) (xs := [1 + r, 2 * (1 + r), (1 + r) * (1 + r)]) (by omega) hd2 (by simp) (by simp) fun z d3 hz hd3 => ?_⟩
    · refine sm_l ?_
      unfold small64
      simp; omega
    have hz2 : 0 ≤ z ∧ z ≤ 1000 := by
      have h1 : 0 ≤ (1 + r) * (1 + r) := Int.mul_nonneg (by omega) (by omega)
      have h2 : (1 + r) * (1 + r) ≤ 16 * 16 := Int.mul_le_mul (by omega) (by omega) (by omega) (by omega)
      simp only [List.mem_cons, List.not_mem_nil, or_false] at hz
      omega
    obtain ⟨t3, e3, ht3, hs3, hc3⟩ := nt_ties (n := n) (m := 1 + r) (most := z) (by omega) hd3 (by omega) (by omega) hz2.1 hz2.2
    walk_at "ev"
    rw [hc3]
    walk_at "ev"
    exact ⟨_, _, _, by omega, by omega, ht3, hs3.mono (by omega), rfl, rfl⟩
  obtain ⟨x, p, ios, h, m, ts, d', h0, h1, h2, h3, rfl, rfl, rfl⟩ := FR.sat_ex this
  exact ⟨m, ts, d', h0, h1, h2, h3, h⟩

theorem begun {n : Nat} {ns : List Int} (hl : ns.length ≤ 63) (hb : ∀ z ∈ ns, Builtin.Int.intBits z ≤ 1048576) : ∃ d, StOk 0 d ∧ callF GamZ (n + 1) "_law_begun" [.scr ns] = .ret d .own [] := by
  have : (callF GamZ (n + 1) "_law_begun" [.scr ns]).sat (fun x p ios => StOk 0 x ∧ p = .own ∧ ios = []) fun _ _ => False := by
    rw [go (fn := fn__law_begun) (by rfl)]
    refine run_no (by rfl) (by rfl) ?_
    show (execs [] _ fn__law_begun.body [.sh (.scr ns), .un, .un]).sat _
    unfold fn__law_begun
    dsimp only
    have hsz := sz_def
    walk_at "ev"
    rw [it_scr rfl]
    refine DL.comp_map .int ns (fun z => decide ((10 : Int) ^ (18 : Int).toNat ≤ (if z < 0 then -z else z))) (fun z => .int ((if z < 0 then -z else z) - (10 : Int) ^ (18 : Int).toNat)) (by omega) ?_ ?_
    · intro z hz
      walk_at "ev"
      refine ⟨by decide, fun _ => by decide, fun _ => trivial⟩
    · walk_at "ev"
      rw [it_scr rfl]
      refine DL.comp_map .int ns (fun z => true) (fun z => .int (if z < 0 then -z else z)) (by omega) ?_ ?_
      · intro z hz
        walk_at "ev"
      · walk_at "ev"
        refine ⟨rfl, (ns.filter fun z => decide ((10 : Int) ^ (18 : Int).toNat ≤ (if z < 0 then -z else z))).map (fun z => (if z < 0 then -z else z) - (10 : Int) ^ (18 : Int).toNat), ns.map fun z => if z < 0 then -z else z, 0, 0, ?_, ?_, ?_, by omega, by omega, by omega⟩
        · unfold stD
          rw [List.map_map, List.map_map, filT]; rfl
        · intro x hx
          obtain ⟨z, hz, rfl⟩ := List.mem_map.mp hx
          have := (List.mem_filter.mp hz).2
          simp only [decide_eq_true_eq] at this
          omega
        · intro x hx
          obtain ⟨z, hz, rfl⟩ := List.mem_map.mp hx
          split <;> omega
  obtain ⟨x, p, ios, h, h1, rfl, rfl⟩ := FR.sat_ex this
  exact ⟨_, h1, h⟩
theorem many {n : Nat} {T : Int} {d : D} (hT : T < 999999000000) (h : StOk T d) : ∃ m ts d', 1 ≤ m ∧ m ≤ 16 ∧ Ties m ts ∧ StOk (T + 2000) d' ∧ callF GamZ (n + 4) "_law_k03_many" [d] = .ret (.tup [.int m, tT ts]) .own [d'] := by
  have : (callF GamZ (n + 4) "_law_k03_many" [d]).sat (fun x p ios => ∃ m ts d', 1 ≤ m ∧ m ≤ 16 ∧ Ties m ts ∧ StOk (T + 2000) d' ∧ x = .tup [.int m, tT ts] ∧ p = .own ∧ ios = [d']) fun _ _ => False := by
    rw [go (fn := fn__law_k03_many) (by rfl)]
    refine run_io (by rfl) (by rfl) ?_
    show (execs [0] _ fn__law_k03_many.body [.ow d, .un, .un, .un, .un, .un, .un]).sat _
    unfold fn__law_k03_many
    dsimp only
    have hsz := sz_def
    walk_at "ev"
    refine draw_calls (by omega) h (by omega) (by omega) fun s d1 hs hs2 hd1 => ?_
    walk_at "ev"
    refine draw_calls (by omega) hd1 (by omega) (by omega) fun q d2 hq hq2 hd2 => ?_
    walk_at "ev"
    generalize hm : 4 + q = m
    have hm1 : 4 ≤ m ∧ m ≤ 12 := by omega
    rw [bi_lrngI (by omega) (by omega)]
    walk_at "ev"
    refine mixedI (xs := CL.rng m.toNat) (T := T + 2) (by rw [rng_len]; omega) (hd2.mono (by omega)) (by rw [rng_len]; omega) fun names d3 hp hd3 => ?_
    rw [rng_len] at hd3
    have hnl : names.length = m.toNat := by rw [hp.length_eq, rng_len]
    have hnm : ∀ x ∈ names, 0 ≤ x ∧ x < m := fun x hx => by have := CL.mem_rng.mp (hp.mem_iff.mp hx); omega
    have hnn := rng_perm_nd hp
    walk_at "ev"
    refine for_map (fun k : Nat => .int k) (List.range m.toNat) (fun pre post e => ∃ ts s1, e = [.ow d3, s1, .ow (.int (2 + s)), .ow (.int m), .ow (lI names), .ow (lT ts), .un] ∧ TL m ts ∧ ts.Nodup ∧ ∀ t ∈ ts, ∃ i j, i < pre.length ∧ i < j ∧ j < m.toNat ∧ t = mk2 (names.getD i 0) (names.getD j 0)) ?_ ?_ ?_
    · walk_at "ev"
      rw [rng_1 (rng62_ok (by omega) (by omega))]
      exact ⟨rfl, [], _, rfl, fun _ h => by simp at h, List.nodup_nil, by simp⟩
    · intro pre x post e hx hI
      obtain ⟨ts, s1, he, htl, hnd, hon⟩ := hI
      subst he
      have hpx := (range_at hx).1
      have hxm := (range_at hx).2
      have hlen := tl_len htl hnd (by omega)
      have hxl : x < names.length := by omega
      walk_at "ev"
      rw [rng_2 (by rw [rng62_ok (by omega) (by omega), rng62_ok (by omega) (by omega)]; rfl)]
      refine DL.comp_map (fun k : Nat => D.int (((x : Int) + 1) + k)) (List.range (m - ((x : Int) + 1)).toNat) (fun k : Nat => !decide ((x : Int) / (2 + s) = (((x : Int) + 1) + k) / (2 + s))) (fun k => tupI (mk2 (names.getD x 0) (names.getD (x + 1 + k) 0))) (by simp; omega) ?_ ?_
      · intro k hk
        have hk2 := List.mem_range.mp hk
        have hkl : x + 1 + k < names.length := by omega
        have hcast : (x : Int) + 1 + (k : Int) = ((x + 1 + k : Nat) : Int) := by omega
        walk_at "ev"
        refine ⟨by omega, by omega, fun _ => ?_, fun _ => trivial⟩
        rw [hcast]
        simp only [ix_now hxl, ix_now hkl]
        walk_at "ev"
        rw [nt_tie]
        walk_at "ev"
        rfl
      · walk_at "ev"
        generalize hks : (List.range (m - ((x : Int) + 1)).toNat).filter (fun k : Nat => !decide ((x : Int) / (2 + s) = (((x : Int) + 1) + k) / (2 + s))) = ks
        have hkm : ∀ k ∈ ks, x + 1 + k < m.toNat := fun k hk => by
          rw [← hks] at hk
          have := List.mem_range.mp (List.mem_filter.mp hk).1
          omega
        have hkn : ks.Nodup := by rw [← hks]; exact List.nodup_range.sublist List.filter_sublist
        have hkl : ks.length ≤ 16 := by
          have := List.length_filter_le (fun k : Nat => !decide ((x : Int) / (2 + s) = (((x : Int) + 1) + k) / (2 + s))) (List.range (m - ((x : Int) + 1)).toNat)
          rw [hks] at this
          simp at this; omega
        have e1 : (ks.map fun k => tupI (mk2 (names.getD x 0) (names.getD (x + 1 + k) 0))) = (ks.map fun k => mk2 (names.getD x 0) (names.getD (x + 1 + k) 0)).map tupI := by rw [List.map_map]; rfl
        rw [e1, lT_app, ← List.map_append]
        refine ⟨by rw [List.length_map, List.length_map, List.length_map]; omega, immL_tupI, _, _, rfl, tl_app htl ?_, ?_, ?_⟩
        · intro t ht
          obtain ⟨k, hk, rfl⟩ := List.mem_map.mp ht
          have := hkm k hk
          exact tl_mk2 (hnm _ (getD_mem hxl)) (hnm _ (getD_mem (by omega))) fun e => by have := getD_inj hnn hxl (by omega) e; omega
        · rw [List.nodup_append]
          refine ⟨hnd, List.pairwise_map.mpr ?_, ?_⟩
          · refine List.Pairwise.imp_of_mem ?_ hkn
            intro a b ha hb hab e
            have h1 := hkm a ha
            have h2 := hkm b hb
            rcases mk2_inj e with e | e
            · have := getD_inj hnn (by omega) (by omega) e.2; omega
            · have := getD_inj hnn (by omega) (by omega) e.1; omega
          · rintro a ha b hb rfl
            obtain ⟨k, hk, rfl⟩ := List.mem_map.mp hb
            have h1 := hkm k hk
            obtain ⟨i, j, h2, h3, h4, e⟩ := hon _ ha
            rcases mk2_inj e with e | e
            · have := getD_inj hnn (by omega) (by omega) e.1; omega
            · have := getD_inj hnn (by omega) (by omega) e.2; omega
        · intro t ht
          rcases List.mem_append.mp ht with ht | ht
          · obtain ⟨i, j, h2, h3, h4, e⟩ := hon _ ht
            exact ⟨i, j, by simp; omega, h3, h4, e⟩
          · obtain ⟨k, hk, rfl⟩ := List.mem_map.mp ht
            have h1 := hkm k hk
            exact ⟨x, x + 1 + k, by simp; omega, by omega, h1, rfl⟩
    · intro e hI
      obtain ⟨ts, s1, he, htl, hnd, hon⟩ := hI
      subst he
      walk_at "ev"
      rw [bi_sortedT htl.ne]
      walk_at "ev"
      exact ⟨_, _, _, by omega, by omega, ties_of htl hnd, hd3.mono (by omega), rfl, rfl⟩
  obtain ⟨x, p, ios, h, m, ts, d', h0, h1, h2, h3, rfl, rfl, rfl⟩ := FR.sat_ex this
  exact ⟨m, ts, d', h0, h1, h2, h3, h⟩
end K03
end
section
set_option Elab.async false
set_option linter.all false
set_option maxRecDepth 100000
set_option maxHeartbeats 4000000
namespace K03
open PySem DL
theorem bi_lenT {Q : List Int} {QQ : D → Prop} : opS (biD .len [tupI Q]) QQ ↔ QQ (.int Q.length) := by
  have e : biD .len [tupI Q] = some (.int Q.length) := by
    show some (D.int ((Q.map D.int).length : Nat)) = _
    rw [List.length_map]
  rw [e]; exact Iff.rfl
local macro_rules | `(tactic| walk_at "ev") => `(tactic| try simp only [↓e_con, ↓e_var, ↓e_mv, ↓e_bin, ↓e_neg, ↓e_cmp, ↓e_cmp2, ↓e_and, ↓e_or, ↓e_not, ↓e_ite, ↓e_tup, ↓e_lst, ↓e_dic, ↓e_ix, ↓e_sl, ↓e_fld, ↓e_call, ↓e_callk, ↓e_callv, ↓e_calls, ↓e_new, ↓e_isi, ↓e_caught, ↓e_bi, ↓e_mth, ↓e_mthx, ↓es_nil, ↓es_cons, ↓i_on, ↓i_rng, ↓i_enu, ↓i_rv, ↓i_zp, ↓e_comp, ↓s_nm, ↓s_tp, ↓s_par, ↓s_setx, ↓s_setxx, ↓s_setf, ↓s_ex, ↓s_ret, ↓s_ite, ↓s_brk, ↓s_cnt, ↓s_pss, ↓s_rais, ↓ss_nil, ↓ss_cons,
  imm_non, imm_bl, imm_int, imm_str, imm_fn, imm_exn, imm_scr, imm_tup, imm_lst, imm_dct, imm_obj, immL_nil, immL_cons, immL_ints, imm_tupI, immL_tupI,
  flat_non, flat_bl, flat_int, flat_str, flat_tup, flat_tupI, flat_lst, Pv.of, w_own, w_shr, w_bor, nb_own, nb_shr, nb_bor, nobor_nil, nobor_cons, beq_oo, beq_so, beq_bo, bne_ob, bne_sb, bne_bb, keepS,
  ev_some, set_own, set_shr, setAll_nil, setAll_cons, setTg_nm, setTg_tp, setTp_nil, setTp_cons, rd_ow, rd_sh, mv_ow, mv_sh, ow_ow, isun_ow, isun_sh, bl_bl, wipe_nil, wipe_cons, slImm_un, slImm_sh, slImm_ow,
  callo_own, call_shr, call_exc, calls_own, calls_shr, new_ok, fn_some, fn_sh, fn_ow, op_some, DL.op_add, DL.op_sub, DL.op_mul, op_div, DL.op_mod, DL.op_pow, op_addl, op_addt, op_adds, cm_lt, cm_le, cm_gt, cm_ge, cm_is, cm_isnot,
  okd_int, okd_bl, okd_non, okd_tupI, okd_lI, okd_lT, okd_tT, okd_lL, okd_nil, okd_tnil, cm_eqi, cm_nei, cm_ini, cm_notini, cm_inti, cm_notinti, cm_inlt, cm_notinlt, cm_intt, cm_notintt,
  bi_len_l, bi_len_t, bi_len_s, bi_int, bi_abs, bi_min2, bi_max2, bi_list_l, bi_list_t, bi_tuple_l, bi_tuple_t, bi_sum, m_append, m_extend, lt_some, it_lst_nb, it_tup_nb, it_scr,
  stD_left, stD_turn, stD_great, stD_cells, stD_setleft, stD_setturn, stD_setgreat, stD_imm, stD_lst, sz_def, bi_lenT,  cm_notT,  it_tT, it_lT, it_lI, it_tupI,  pt_non, pt_con, pt_var, pt_bin, pt_calls, isTup_tup, isTup_lst,  is_ii, is_ib, is_tt, is_net, is_hung, D.int.injEq, exists_eq_left, exists_eq_left', cm_lttt, cm_neI0, cm_eqI0, cm_neT0, cm_eqT0, cm_eqt0, m_pop0, isLst_lst, aok_nil, aok_own,
  Ex.mods, Exs.mods, It.mods, Tg.slots, Sts.mods, St.mods, wipeS, backS, ite_true, ite_false, if_true, if_false, reduceIte, Bool.false_eq_true, Bool.true_eq_false, List.getD_cons_zero, List.getD_cons_succ, List.set_cons_zero, List.set_cons_succ, List.contains_cons, List.contains_nil, List.all_cons, List.all_nil, List.append_nil, List.nil_append, List.cons_append,
  Bool.not_true, Bool.not_false, Bool.and_true, Bool.true_and, Bool.and_false, Bool.false_and, Bool.or_false, Bool.false_or, Bool.or_true, Bool.true_or, beq_self_eq_true, Nat.reduceBEq, Nat.reduceEqDiff, true_and, and_true, true_implies, false_implies, List.not_mem_nil, List.mem_cons, List.mem_singleton, not_false_eq_true, not_true_eq_false, or_false, false_or, reduceCtorEq, Nat.reduceAdd, Nat.reduceSub, decide_true, decide_false])
local macro_rules | `(tactic| walk_at "ew") => `(tactic| try simp only [↓e_con, ↓e_var, ↓e_mv, ↓e_bin, ↓e_neg, ↓e_cmp, ↓e_cmp2, ↓e_and, ↓e_or, ↓e_not, ↓e_tup, ↓e_lst, ↓e_dic, ↓e_ix, ↓e_sl, ↓e_fld, ↓e_call, ↓e_callk, ↓e_callv, ↓e_calls, ↓e_new, ↓e_isi, ↓e_caught, ↓e_bi, ↓e_mth, ↓e_mthx, ↓es_nil, ↓es_cons, ↓i_on, ↓i_rng, ↓i_enu, ↓i_rv, ↓i_zp, ↓e_comp, ↓s_nm, ↓s_tp, ↓s_par, ↓s_setx, ↓s_setxx, ↓s_setf, ↓s_ex, ↓s_ret, ↓s_ite, ↓s_brk, ↓s_cnt, ↓s_pss, ↓s_rais, ↓ss_nil, ↓ss_cons,
  imm_non, imm_bl, imm_int, imm_str, imm_fn, imm_exn, imm_scr, imm_tup, imm_lst, imm_dct, imm_obj, immL_nil, immL_cons, immL_ints, imm_tupI, immL_tupI,
  flat_non, flat_bl, flat_int, flat_str, flat_tup, flat_tupI, flat_lst, Pv.of, w_own, w_shr, w_bor, nb_own, nb_shr, nb_bor, nobor_nil, nobor_cons, beq_oo, beq_so, beq_bo, bne_ob, bne_sb, bne_bb, keepS,
  ev_some, set_own, set_shr, setAll_nil, setAll_cons, setTg_nm, setTg_tp, setTp_nil, setTp_cons, rd_ow, rd_sh, mv_ow, mv_sh, ow_ow, isun_ow, isun_sh, bl_bl, wipe_nil, wipe_cons, slImm_un, slImm_sh, slImm_ow,
  callo_own, call_shr, call_exc, calls_own, calls_shr, new_ok, fn_some, fn_sh, fn_ow, op_some, DL.op_add, DL.op_sub, DL.op_mul, op_div, DL.op_mod, DL.op_pow, op_addl, op_addt, op_adds, cm_lt, cm_le, cm_gt, cm_ge, cm_is, cm_isnot,
  okd_int, okd_bl, okd_non, okd_tupI, okd_lI, okd_lT, okd_tT, okd_lL, okd_nil, okd_tnil, cm_eqi, cm_nei, cm_ini, cm_notini, cm_inti, cm_notinti, cm_inlt, cm_notinlt, cm_intt, cm_notintt,
  bi_len_l, bi_len_t, bi_len_s, bi_int, bi_abs, bi_min2, bi_max2, bi_list_l, bi_list_t, bi_tuple_l, bi_tuple_t, bi_sum, m_append, m_extend, lt_some, it_lst_nb, it_tup_nb, it_scr,
  stD_left, stD_turn, stD_great, stD_cells, stD_setleft, stD_setturn, stD_setgreat, stD_imm, stD_lst, sz_def, bi_lenT,  cm_notT,  it_tT, it_lT, it_lI, it_tupI,  pt_non, pt_con, pt_var, pt_bin, pt_calls, isTup_tup, isTup_lst,  is_ii, is_ib, is_tt, is_net, is_hung, D.int.injEq, exists_eq_left, exists_eq_left', cm_lttt, cm_neI0, cm_eqI0, cm_neT0, cm_eqT0, cm_eqt0, m_pop0, isLst_lst, aok_nil, aok_own,
  Ex.mods, Exs.mods, It.mods, Tg.slots, Sts.mods, St.mods, wipeS, backS, ite_true, ite_false, if_true, if_false, reduceIte, Bool.false_eq_true, Bool.true_eq_false, List.getD_cons_zero, List.getD_cons_succ, List.set_cons_zero, List.set_cons_succ, List.contains_cons, List.contains_nil, List.all_cons, List.all_nil, List.append_nil, List.nil_append, List.cons_append,
  Bool.not_true, Bool.not_false, Bool.and_true, Bool.true_and, Bool.and_false, Bool.false_and, Bool.or_false, Bool.false_or, Bool.or_true, Bool.true_or, beq_self_eq_true, Nat.reduceBEq, Nat.reduceEqDiff, true_and, and_true, true_implies, false_implies, List.not_mem_nil, List.mem_cons, List.mem_singleton, not_false_eq_true, not_true_eq_false, or_false, false_or, reduceCtorEq, Nat.reduceAdd, Nat.reduceSub, decide_true, decide_false])
local macro_rules | `(tactic| walk_at "en") => `(tactic| try simp only [↓e_con, ↓e_var, ↓e_mv, ↓e_bin, ↓e_neg, ↓e_cmp, ↓e_cmp2, ↓e_or, ↓e_not, ↓e_ite, ↓e_tup, ↓e_lst, ↓e_dic, ↓e_ix, ↓e_sl, ↓e_fld, ↓e_call, ↓e_callk, ↓e_callv, ↓e_calls, ↓e_new, ↓e_isi, ↓e_caught, ↓e_bi, ↓e_mth, ↓e_mthx, ↓es_nil, ↓es_cons, ↓i_on, ↓i_rng, ↓i_enu, ↓i_rv, ↓i_zp, ↓e_comp, ↓s_nm, ↓s_tp, ↓s_par, ↓s_setx, ↓s_setxx, ↓s_setf, ↓s_ex, ↓s_ret, ↓s_ite, ↓s_brk, ↓s_cnt, ↓s_pss, ↓s_rais, ↓ss_nil, ↓ss_cons,
  imm_non, imm_bl, imm_int, imm_str, imm_fn, imm_exn, imm_scr, imm_tup, imm_lst, imm_dct, imm_obj, immL_nil, immL_cons, immL_ints, imm_tupI, immL_tupI,
  flat_non, flat_bl, flat_int, flat_str, flat_tup, flat_tupI, flat_lst, Pv.of, w_own, w_shr, w_bor, nb_own, nb_shr, nb_bor, nobor_nil, nobor_cons, beq_oo, beq_so, beq_bo, bne_ob, bne_sb, bne_bb, keepS,
  ev_some, set_own, set_shr, setAll_nil, setAll_cons, setTg_nm, setTg_tp, setTp_nil, setTp_cons, rd_ow, rd_sh, mv_ow, mv_sh, ow_ow, isun_ow, isun_sh, bl_bl, wipe_nil, wipe_cons, slImm_un, slImm_sh, slImm_ow,
  callo_own, call_shr, call_exc, calls_own, calls_shr, new_ok, fn_some, fn_sh, fn_ow, op_some, DL.op_add, DL.op_sub, DL.op_mul, op_div, DL.op_mod, DL.op_pow, op_addl, op_addt, op_adds, cm_lt, cm_le, cm_gt, cm_ge, cm_is, cm_isnot,
  okd_int, okd_bl, okd_non, okd_tupI, okd_lI, okd_lT, okd_tT, okd_lL, okd_nil, okd_tnil, cm_eqi, cm_nei, cm_ini, cm_notini, cm_inti, cm_notinti, cm_inlt, cm_notinlt, cm_intt, cm_notintt,
  bi_len_l, bi_len_t, bi_len_s, bi_int, bi_abs, bi_min2, bi_max2, bi_list_l, bi_list_t, bi_tuple_l, bi_tuple_t, bi_sum, m_append, m_extend, lt_some, it_lst_nb, it_tup_nb, it_scr,
  stD_left, stD_turn, stD_great, stD_cells, stD_setleft, stD_setturn, stD_setgreat, stD_imm, stD_lst, sz_def, bi_lenT,  cm_notT,  it_tT, it_lT, it_lI, it_tupI,  pt_non, pt_con, pt_var, pt_bin, pt_calls, isTup_tup, isTup_lst,  is_ii, is_ib, is_tt, is_net, is_hung, D.int.injEq, exists_eq_left, exists_eq_left', cm_lttt, cm_neI0, cm_eqI0, cm_neT0, cm_eqT0, cm_eqt0, m_pop0, isLst_lst, aok_nil, aok_own,
  Ex.mods, Exs.mods, It.mods, Tg.slots, Sts.mods, St.mods, wipeS, backS, ite_true, ite_false, if_true, if_false, reduceIte, Bool.false_eq_true, Bool.true_eq_false, List.getD_cons_zero, List.getD_cons_succ, List.set_cons_zero, List.set_cons_succ, List.contains_cons, List.contains_nil, List.all_cons, List.all_nil, List.append_nil, List.nil_append, List.cons_append,
  Bool.not_true, Bool.not_false, Bool.and_true, Bool.true_and, Bool.and_false, Bool.false_and, Bool.or_false, Bool.false_or, Bool.or_true, Bool.true_or, beq_self_eq_true, Nat.reduceBEq, Nat.reduceEqDiff, true_and, and_true, true_implies, false_implies, List.not_mem_nil, List.mem_cons, List.mem_singleton, not_false_eq_true, not_true_eq_false, or_false, false_or, reduceCtorEq, Nat.reduceAdd, Nat.reduceSub, decide_true, decide_false])
theorem adj_und {m : Int} {ts : List (List Int)} (h : Ties m ts) : CL.Und (adj ts) where
  sym := fun {a b} hab => by
    unfold adj at hab ⊢
    simp only [Bool.or_eq_true, decide_eq_true_eq] at hab ⊢
    exact hab.symm
  irr a := by
    unfold adj
    simp only [Bool.or_self, decide_eq_false_iff_not]
    intro hh
    obtain ⟨x, y, e, h0, h1, h2⟩ := h.pair _ hh
    simp only [List.cons.injEq, and_true] at e
    omega
theorem sortI_id {Q : List Int} (h : Q.Pairwise (· < ·)) : sortI Q = Q :=
  (sortI_perm Q).eq_of_pairwise (fun a b _ _ p q => by omega) (sortI_sorted Q) (h.imp fun h => by omega)
theorem grown {m : Int} {ts nbs : List (List Int)} (ht : Ties m ts) (hn : NbOk m ts nbs) : ∀ (k n : Nat) (R P X : List Int), P.length < k → P.length ≤ 16 → R.length + P.length ≤ 16 → X.length + P.length ≤ 16 → (∀ p ∈ P, 0 ≤ p ∧ p < m) →
    callF GamZ (n + k) "grown_cliques" [lL nbs, lI R, lI P, lI X] = .ret (lT ((CL.grow (adj ts) k P X).map fun Q => sortI (R ++ Q))) .own []
  | 0, _, _, _, _, h, _, _, _, _ => absurd h (Nat.not_lt_zero _)
  | k + 1, n, R, P, X, hk, hP, hR, hX, hp => by
    refine ret_of ?_
    rw [← Nat.add_assoc, go (fn := fn_grown_cliques) (by rfl)]
    refine run_no (by rfl) (by rfl) ?_
    show (execs [] _ fn_grown_cliques.body [.sh (lL nbs), .sh (lI R), .sh (lI P), .sh (lI X), .un, .un, .un, .un, .un, .un, .un]).sat _
    unfold fn_grown_cliques
    dsimp only
    have hsz := sz_def
    rw [CL.grow]
    walk_at "en"
    refine Res.sat_mono (Q := fun v p e1 => v = .bl (decide (P = [] ∧ X = [])) ∧ e1 = [.sh (lL nbs), .sh (lI R), .sh (lI P), .sh (lI X), .un, .un, .un, .un, .un, .un, .un]) ?_ ?_
    · walk_at "ev"
      by_cases h1 : P = [] <;> by_cases h2 : X = [] <;> simp [h1, h2]
    rintro v p e1 ⟨rfl, rfl⟩
    walk_at "ev"
    by_cases he : P = [] ∧ X = []
    · obtain ⟨rfl, rfl⟩ := he
      rw [if_pos ⟨rfl, rfl⟩]
      rw [bi_sorted]
      walk_at "ev"
      rw [List.map_cons, List.append_nil]
      rfl
    · rw [if_neg he]
      have hu := adj_und ht
      have hlen := CL.growL_len hu (CL.grow_len hu k) P X
      have h16 : 2 ^ P.length ≤ 2 ^ 16 := Nat.pow_le_pow_right (by omega) hP
      refine ⟨fun z => absurd (by simpa using z) he, fun _ => ?_⟩
      refine for_map .int P (fun pre post e => ∃ F s4 s7 s8 s9, e = [.sh (lL nbs), .sh (lI R), .sh (lI P), .ow (lI (X ++ pre)), s4, .ow (lT F), .ow (lI post), s7, s8, s9, .un] ∧ F ++ (CL.growL (adj ts) (CL.grow (adj ts) k) post (X ++ pre)).map (fun Q => sortI (R ++ Q)) = (CL.growL (adj ts) (CL.grow (adj ts) k) P X).map fun Q => sortI (R ++ Q)) ?_ ?_ ?_
      · walk_at "ev"
        exact ⟨[], .un, .un, .un, .un, by simp, by simp⟩
      · intro pre x post e hx hI
        obtain ⟨F, s4, s7, s8, s9, he, hF⟩ := hI
        subst he
        have hxp : 0 ≤ x ∧ x < m := hp x (by rw [hx]; simp)
        have hxl : x.toNat < nbs.length := by have := hn.1; omega
        have gx := List.getElem?_eq_getElem hxl
        generalize nbs[x.toNat] = l at gx
        have hlen2 : P.length = pre.length + (post.length + 1) := by rw [hx]; simp
        have hA : (fun q => decide (q ∈ l)) = adj ts x := by
          funext q
          have := hn.2 _ _ gx q
          rw [Int.toNat_of_nonneg hxp.1] at this
          cases h : adj ts x q with
          | true => rw [h] at this; simpa using this
          | false => rw [h] at this; simpa using this
        walk_at "ev"
        rw [ixL hxp.1 gx]
        walk_at "ev"
        refine DL.comp_map .int (x :: post) (adj ts x) .int (by simp; omega) ?_ ?_
        · intro q hq
          have hAq : decide (q ∈ l) = adj ts x q := congrFun hA q
          walk_at "ev"
          exact ⟨by rw [hAq], fun _ => trivial, fun _ => trivial⟩
        · walk_at "ev"
          refine DL.comp_map .int (X ++ pre) (adj ts x) .int (by simp; omega) ?_ ?_
          · intro q hq
            have hAq : decide (q ∈ l) = adj ts x q := congrFun hA q
            walk_at "ev"
            exact ⟨by rw [hAq], fun _ => trivial, fun _ => trivial⟩
          · walk_at "ev"
            rw [lI_snoc]
            have hf1 := List.length_filter_le (adj ts x) post
            have hf2 := List.length_filter_le (adj ts x) (X ++ pre)
            rw [List.length_append] at hf2
            have hfc : (x :: post).filter (adj ts x) = post.filter (adj ts x) := CL.fil_cons hu
            have hrec := grown ht hn k n (R ++ [x]) ((x :: post).filter (adj ts x)) ((X ++ pre).filter (adj ts x)) (by rw [hfc]; omega) (by rw [hfc]; omega) (by rw [hfc]; simp; omega) (by rw [hfc]; omega) (fun p hp' => by
              rw [hfc] at hp'
              exact hp p (by rw [hx]; exact List.mem_append_right _ (List.mem_cons_of_mem _ (List.mem_filter.mp hp').1)))
            rw [hrec]
            walk_at "ev"
            rw [lT_app]
            walk_at "ev"
            rw [CL.growL, List.map_append, List.map_map, ← List.append_assoc] at hF
            have hF2 : F ++ ((CL.grow (adj ts) k ((x :: post).filter (adj ts x)) ((X ++ pre).filter (adj ts x))).map fun Q => sortI (R ++ [x] ++ Q)) ++ (CL.growL (adj ts) (CL.grow (adj ts) k) post (X ++ (pre ++ [x]))).map (fun Q => sortI (R ++ Q)) = (CL.growL (adj ts) (CL.grow (adj ts) k) P X).map fun Q => sortI (R ++ Q) := by
              rw [← hF, List.append_assoc X pre [x]]
              congr 2
              refine List.map_congr_left fun Q _ => ?_
              show sortI (R ++ [x] ++ Q) = sortI (R ++ x :: Q)
              rw [List.append_assoc]; rfl
            have hLen := congrArg List.length hF2
            simp only [List.length_append, List.length_map] at hLen
            refine ⟨by simp; omega, by rw [D.lst.inj (lI_snoc (ys := R) (y := x))]; exact immL_ints, by rw [List.length_map, List.length_map, List.length_map]; omega, ?_⟩
            rw [m_remove List.mem_cons_self, List.erase_cons_head]
            rw [lI_snoc, List.append_assoc]
            exact ⟨by rw [List.length_map, List.length_append]; omega, _, _, _, _, _, rfl, hF2⟩
      · intro e hI
        obtain ⟨F, s4, s7, s8, s9, he, hF⟩ := hI
        subst he
        walk_at "ev"
        rw [← hF, CL.growL, List.map_nil, List.append_nil]

def fulls (m : Int) (ts : List (List Int)) : List (List Int) := CL.grow (adj ts) (m.toNat + 1) (CL.rng m.toNat) []
theorem mem_fulls {m : Int} {ts : List (List Int)} (ht : Ties m ts) (Q : List Int) : Q ∈ fulls m ts ↔ CL.Clq (adj ts) m.toNat Q ∧ CL.ext (adj ts) m.toNat Q = [] := by
  unfold fulls
  rw [CL.grow_spec (adj_und ht) _ _ _ (by rw [rng_len]; omega), CL.good_iff (adj_und ht)]
theorem fulls_nd {m : Int} {ts : List (List Int)} (ht : Ties m ts) : (fulls m ts).Nodup := CL.grow_nodup (adj_und ht) _ _ _ (CL.asc_nodup CL.rng_asc) (by rw [rng_len]; omega)
theorem full_ne {m : Int} {ts : List (List Int)} {Q : List Int} (hm : 1 ≤ m) (h : CL.ext (adj ts) m.toNat Q = []) : Q ≠ [] := by
  rintro rfl
  have : (0 : Int) ∈ CL.ext (adj ts) m.toNat [] := CL.mem_ext.mpr ⟨CL.mem_rng.mpr (by omega), by simp, by simp⟩
  rw [h] at this; simp at this
def fullS (m : Int) (ts : List (List Int)) : List (List Int) := sortT (fulls m ts)
theorem full {n : Nat} {m : Int} {ts : List (List Int)} (hm : 1 ≤ m) (hm2 : m ≤ 16) (ht : Ties m ts) : callF GamZ (n + 18) "full_cliques" [netD m ts] = .ret (tT (fullS m ts)) .own [] := by
  refine ret_of ?_
  obtain ⟨nbs, hn, hb⟩ := beside (n := n + 16) ht (by omega) hm2 (ties_len ht hm2)
  have hg := grown ht hn (m.toNat + 1) (n + 17 - (m.toNat + 1)) [] (CL.rng m.toNat) [] (by rw [rng_len]; omega) (by rw [rng_len]; omega) (by rw [rng_len]; simp; omega) (by rw [rng_len]; simp; omega) (fun p hp => by have := CL.mem_rng.mp hp; omega)
  rw [show n + 17 - (m.toNat + 1) + (m.toNat + 1) = n + 17 by omega] at hg
  have hid : (CL.grow (adj ts) (m.toNat + 1) (CL.rng m.toNat) []).map (fun Q => sortI ([] ++ Q)) = fulls m ts := by
    unfold fulls
    conv => rhs; rw [← List.map_id (CL.grow _ _ _ _)]
    refine List.map_congr_left fun Q hQ => ?_
    have := ((mem_fulls ht Q).mp hQ).1.1
    exact sortI_id (CL.sub_asc.mp this).1
  rw [hid] at hg
  rw [go (fn := fn_full_cliques) (by rfl)]
  refine run_no (by rfl) (by rfl) ?_
  show (execs [] _ fn_full_cliques.body [.sh (netD m ts)]).sat _
  unfold fn_full_cliques
  dsimp only
  have fl1 : ∀ {Q : D → Prop}, opS (fldD (netD m ts) "Net" "many") Q ↔ Q (.int m) := Iff.rfl
  walk_at "ev"
  rw [need_net]
  walk_at "ev"
  rw [hb]
  walk_at "ev"
  simp only [fl1]
  walk_at "ev"
  rw [bi_lrngI (by omega) (by omega)]
  walk_at "ev"
  have hg2 : callF GamZ (n + 17) "grown_cliques" [lL nbs, .lst [], lI (CL.rng m.toNat), .lst []] = _ := hg
  rw [hg2]
  walk_at "ev"
  rw [bi_sortedT fun Q hQ => full_ne hm ((mem_fulls ht Q).mp hQ).2]
  walk_at "ev"
  rfl
theorem max_mem : ∀ {xs : List Int}, xs ≠ [] → maxI xs ∈ xs
  | [], h => absurd rfl h
  | [x], _ => by simp [maxI]
  | x :: y :: r, _ => by
    have ih := max_mem (xs := y :: r) (by simp)
    show max x (maxI (y :: r)) ∈ _
    rcases Int.le_total x (maxI (y :: r)) with h | h
    · rw [Int.max_eq_right h]; exact List.mem_cons_of_mem _ ih
    · rw [Int.max_eq_left h]; exact List.mem_cons_self
def longest (F : List (List Int)) : Int := maxI (F.map fun Q => (Q.length : Int))
def longs (F : List (List Int)) : List (List Int) := F.filter fun Q => decide ((Q.length : Int) = longest F)
theorem longs_ne {F : List (List Int)} (h : F ≠ []) : longs F ≠ [] := by
  have := max_mem (xs := F.map fun Q => (Q.length : Int)) (by simpa using h)
  obtain ⟨Q, hQ, e⟩ := List.mem_map.mp this
  intro hh
  have : Q ∈ longs F := List.mem_filter.mpr ⟨hQ, by rw [decide_eq_true_eq]; exact e⟩
  rw [hh] at this; simp at this
theorem bi_longest {F : List (List Int)} {Q : D → Prop} (h : F ≠ []) : opS (biD .max [.lst (F.map fun Q => .int (Q.length : Int))]) Q ↔ Q (.int (longest F)) := by
  have e : D.lst (F.map fun Q => .int (Q.length : Int)) = lI (F.map fun Q => (Q.length : Int)) := by unfold lI; rw [List.map_map]; rfl
  rw [e, bi_maxl (by simpa using h)]; exact Iff.rfl
theorem fullS_mem {m : Int} {ts : List (List Int)} (ht : Ties m ts) (Q : List Int) : Q ∈ fullS m ts ↔ CL.Clq (adj ts) m.toNat Q ∧ CL.ext (adj ts) m.toNat Q = [] := by
  unfold fullS
  rw [(sortT_perm _).mem_iff, mem_fulls ht]
theorem fullS_ne {m : Int} {ts : List (List Int)} (ht : Ties m ts) : fullS m ts ≠ [] := by
  obtain ⟨R, h1, h2, _⟩ := CL.full_ext (adj_und ht) (n := m.toNat) (m.toNat) [] ⟨List.nil_sublist _, List.Pairwise.nil⟩ (by simp)
  intro e
  have := (fullS_mem ht R).mpr ⟨h1, h2⟩
  rw [e] at this; simp at this
theorem fullS_len {m : Int} {ts : List (List Int)} (ht : Ties m ts) (hm2 : m ≤ 16) : (fullS m ts).length ≤ 65536 := by
  have h1 : (fullS m ts).Nodup := (sortT_perm _).nodup_iff.mpr (fulls_nd ht)
  have := CL.few h1 fun Q hQ => ((fullS_mem ht Q).mp hQ).1.1
  have h2 : 2 ^ m.toNat ≤ 2 ^ 16 := Nat.pow_le_pow_right (by omega) (by omega)
  omega
theorem largest {n : Nat} {m : Int} {ts : List (List Int)} (hm : 1 ≤ m) (hm2 : m ≤ 16) (ht : Ties m ts) (L : List Int) (hL : (longs (fullS m ts))[0]? = some L) : callF GamZ (n + 19) "largest_clique" [netD m ts] = .ret (tupI L) .own [] := by
  refine ret_of ?_
  rw [go (fn := fn_largest_clique) (by rfl)]
  refine run_no (by rfl) (by rfl) ?_
  show (execs [] _ fn_largest_clique.body [.sh (netD m ts), .un, .un, .un]).sat _
  unfold fn_largest_clique
  dsimp only
  have hsz := sz_def
  have hfl := fullS_len ht hm2
  walk_at "ev"
  rw [need_net]
  walk_at "ev"
  rw [full hm hm2 ht]
  walk_at "ev"
  refine DL.comp_map tupI (fullS m ts) (fun _ => true) (fun Q => .int (Q.length : Int)) (by omega) ?_ ?_
  · intro Q hQ
    walk_at "ev"
  · walk_at "ev"
    rw [filT, bi_longest (fullS_ne ht)]
    walk_at "ev"
    refine DL.comp_map tupI (fullS m ts) (fun Q => decide ((Q.length : Int) = longest (fullS m ts))) tupI (by omega) ?_ ?_
    · intro Q hQ
      walk_at "ev"
      exact ⟨fun _ => trivial, fun _ => trivial⟩
    · walk_at "ev"
      rw [ix_at (k := 0) (x := tupI L) (by omega) (by rw [List.getElem?_map]; show ((longs (fullS m ts))[0]?).map tupI = _; rw [hL]; rfl)]
      walk_at "ev"
theorem bad_net {n : Nat} {x : D} (h : x ∈ odds) : callF GamZ (n + 1) "need_net" [x] = .exc ⟨"BadNet", [], []⟩ [] := by
  refine FR.sat_exc ?_
  have hi : ∀ {QB : Bool → Prop}, cmS (isiD GamZ.sub x (.own "Net")) QB ↔ QB false := by
    intro QB
    unfold odds at h
    simp only [List.mem_cons, List.not_mem_nil, or_false] at h
    rcases h with rfl | rfl | rfl | rfl | rfl | rfl | rfl | rfl | rfl <;> exact Iff.rfl
  rw [go (fn := fn_need_net) (by rfl)]
  refine run_no (by rfl) (by rfl) ?_
  show (execs [] _ fn_need_net.body [.sh x]).sat _
  unfold fn_need_net
  dsimp only
  walk_at "ev"
  simp only [hi]
  walk_at "ev"
theorem bad_full {n : Nat} {x : D} (h : x ∈ odds) : callF GamZ (n + 2) "full_cliques" [x] = .exc ⟨"BadNet", [], []⟩ [] := by
  refine FR.sat_exc ?_
  rw [go (fn := fn_full_cliques) (by rfl)]
  refine run_no (by rfl) (by rfl) ?_
  show (execs [] _ fn_full_cliques.body [.sh x]).sat _
  unfold fn_full_cliques
  dsimp only
  walk_at "ev"
  rw [bad_net h]
  walk_at "ev"
  split <;> rfl
theorem bad_largest {n : Nat} {x : D} (h : x ∈ odds) : callF GamZ (n + 2) "largest_clique" [x] = .exc ⟨"BadNet", [], []⟩ [] := by
  refine FR.sat_exc ?_
  rw [go (fn := fn_largest_clique) (by rfl)]
  refine run_no (by rfl) (by rfl) ?_
  show (execs [] _ fn_largest_clique.body [.sh x, .un, .un, .un]).sat _
  unfold fn_largest_clique
  dsimp only
  walk_at "ev"
  rw [bad_net h]
  walk_at "ev"
  split <;> rfl
end K03
end
section
set_option Elab.async false
set_option linter.all false
set_option maxRecDepth 100000
set_option maxHeartbeats 4000000
namespace K03
open PySem DL
theorem op_addtI {xs : List Int} {q : Int} {Q : D → Prop} : opS (binD .Add (tupI xs) (.tup [.int q])) Q ↔ xs.length + 1 ≤ SZ ∧ Q (tupI (xs ++ [q])) := by
  have e : tupI (xs ++ [q]) = .tup (xs.map .int ++ [.int q]) := by unfold tupI; rw [List.map_append]; rfl
  rw [e]
  unfold tupI
  rw [op_addt, List.length_map]; exact Iff.rfl
theorem ix_lastT {xs : List Int} {Q : D → Prop} (h : xs ≠ []) : opS (ixD (tupI xs) (.int (-1))) Q ↔ Q (.int (xs.getLastD 0)) := by
  have hl := List.length_pos_iff.mpr h
  have e : ixD (tupI xs) (.int (-1)) = some (.int (xs.getLastD 0)) := by
    show (L2.ixN (xs.map D.int).length (-1)).bind (fun j => (xs.map D.int)[j]?) = _
    have : L2.ixN (xs.map D.int).length (-1) = some (xs.length - 1) := by
      unfold L2.ixN
      rw [List.length_map, if_neg (by omega), if_pos (by omega)]
      congr 1
      omega
    rw [this]
    show (xs.map D.int)[xs.length - 1]? = _
    rw [List.getElem?_map, List.getElem?_eq_getElem (by omega), List.getLastD_eq_getLast?, List.getLast?_eq_getElem?, List.getElem?_eq_getElem (by omega)]
    rfl
  rw [e]; exact Iff.rfl
local macro_rules | `(tactic| walk_at "ev") => `(tactic| try simp only [↓e_con, ↓e_var, ↓e_mv, ↓e_bin, ↓e_neg, ↓e_cmp, ↓e_cmp2, ↓e_and, ↓e_or, ↓e_not, ↓e_ite, ↓e_tup, ↓e_lst, ↓e_dic, ↓e_ix, ↓e_sl, ↓e_fld, ↓e_call, ↓e_callk, ↓e_callv, ↓e_calls, ↓e_new, ↓e_isi, ↓e_caught, ↓e_bi, ↓e_mth, ↓e_mthx, ↓es_nil, ↓es_cons, ↓i_on, ↓i_rng, ↓i_enu, ↓i_rv, ↓i_zp, ↓e_comp, ↓s_nm, ↓s_tp, ↓s_par, ↓s_setx, ↓s_setxx, ↓s_setf, ↓s_ex, ↓s_ret, ↓s_ite, ↓s_brk, ↓s_cnt, ↓s_pss, ↓s_rais, ↓ss_nil, ↓ss_cons,
  imm_non, imm_bl, imm_int, imm_str, imm_fn, imm_exn, imm_scr, imm_tup, imm_lst, imm_dct, imm_obj, immL_nil, immL_cons, immL_ints, imm_tupI, immL_tupI,
  flat_non, flat_bl, flat_int, flat_str, flat_tup, flat_tupI, flat_lst, Pv.of, w_own, w_shr, w_bor, nb_own, nb_shr, nb_bor, nobor_nil, nobor_cons, beq_oo, beq_so, beq_bo, bne_ob, bne_sb, bne_bb, keepS,
  ev_some, set_own, set_shr, setAll_nil, setAll_cons, setTg_nm, setTg_tp, setTp_nil, setTp_cons, rd_ow, rd_sh, mv_ow, mv_sh, ow_ow, isun_ow, isun_sh, bl_bl, wipe_nil, wipe_cons, slImm_un, slImm_sh, slImm_ow,
  callo_own, call_shr, call_exc, calls_own, calls_shr, new_ok, fn_some, fn_sh, fn_ow, op_some, DL.op_add, DL.op_sub, DL.op_mul, op_div, DL.op_mod, DL.op_pow, op_addl, op_addt, op_adds, cm_lt, cm_le, cm_gt, cm_ge, cm_is, cm_isnot,
  okd_int, okd_bl, okd_non, okd_tupI, okd_lI, okd_lT, okd_tT, okd_lL, okd_nil, okd_tnil, cm_eqi, cm_nei, cm_ini, cm_notini, cm_inti, cm_notinti, cm_inlt, cm_notinlt, cm_intt, cm_notintt,
  bi_len_l, bi_len_t, bi_len_s, bi_int, bi_abs, bi_min2, bi_max2, bi_list_l, bi_list_t, bi_tuple_l, bi_tuple_t, bi_sum, m_append, m_extend, lt_some, it_lst_nb, it_tup_nb, it_scr,
  stD_left, stD_turn, stD_great, stD_cells, stD_setleft, stD_setturn, stD_setgreat, stD_imm, stD_lst, sz_def, op_addtI,  bi_lenT,  cm_notT,  it_tT, it_lT, it_lI, it_tupI,  pt_non, pt_con, pt_var, pt_bin, pt_calls, isTup_tup, isTup_lst,  is_ii, is_ib, is_tt, is_net, is_hung, D.int.injEq, exists_eq_left, exists_eq_left', cm_lttt, cm_neI0, cm_eqI0, cm_neT0, cm_eqT0, cm_eqt0, m_pop0, isLst_lst, aok_nil, aok_own,
  Ex.mods, Exs.mods, It.mods, Tg.slots, Sts.mods, St.mods, wipeS, backS, ite_true, ite_false, if_true, if_false, reduceIte, Bool.false_eq_true, Bool.true_eq_false, List.getD_cons_zero, List.getD_cons_succ, List.set_cons_zero, List.set_cons_succ, List.contains_cons, List.contains_nil, List.all_cons, List.all_nil, List.append_nil, List.nil_append, List.cons_append,
  Bool.not_true, Bool.not_false, Bool.and_true, Bool.true_and, Bool.and_false, Bool.false_and, Bool.or_false, Bool.false_or, Bool.or_true, Bool.true_or, beq_self_eq_true, Nat.reduceBEq, Nat.reduceEqDiff, true_and, and_true, true_implies, false_implies, List.not_mem_nil, List.mem_cons, List.mem_singleton, not_false_eq_true, not_true_eq_false, or_false, false_or, reduceCtorEq, Nat.reduceAdd, Nat.reduceSub, decide_true, decide_false])
local macro_rules | `(tactic| walk_at "ew") => `(tactic| try simp only [↓e_con, ↓e_var, ↓e_mv, ↓e_bin, ↓e_neg, ↓e_cmp, ↓e_cmp2, ↓e_and, ↓e_or, ↓e_not, ↓e_tup, ↓e_lst, ↓e_dic, ↓e_ix, ↓e_sl, ↓e_fld, ↓e_call, ↓e_callk, ↓e_callv, ↓e_calls, ↓e_new, ↓e_isi, ↓e_caught, ↓e_bi, ↓e_mth, ↓e_mthx, ↓es_nil, ↓es_cons, ↓i_on, ↓i_rng, ↓i_enu, ↓i_rv, ↓i_zp, ↓e_comp, ↓s_nm, ↓s_tp, ↓s_par, ↓s_setx, ↓s_setxx, ↓s_setf, ↓s_ex, ↓s_ret, ↓s_ite, ↓s_brk, ↓s_cnt, ↓s_pss, ↓s_rais, ↓ss_nil, ↓ss_cons,
  imm_non, imm_bl, imm_int, imm_str, imm_fn, imm_exn, imm_scr, imm_tup, imm_lst, imm_dct, imm_obj, immL_nil, immL_cons, immL_ints, imm_tupI, immL_tupI,
  flat_non, flat_bl, flat_int, flat_str, flat_tup, flat_tupI, flat_lst, Pv.of, w_own, w_shr, w_bor, nb_own, nb_shr, nb_bor, nobor_nil, nobor_cons, beq_oo, beq_so, beq_bo, bne_ob, bne_sb, bne_bb, keepS,
  ev_some, set_own, set_shr, setAll_nil, setAll_cons, setTg_nm, setTg_tp, setTp_nil, setTp_cons, rd_ow, rd_sh, mv_ow, mv_sh, ow_ow, isun_ow, isun_sh, bl_bl, wipe_nil, wipe_cons, slImm_un, slImm_sh, slImm_ow,
  callo_own, call_shr, call_exc, calls_own, calls_shr, new_ok, fn_some, fn_sh, fn_ow, op_some, DL.op_add, DL.op_sub, DL.op_mul, op_div, DL.op_mod, DL.op_pow, op_addl, op_addt, op_adds, cm_lt, cm_le, cm_gt, cm_ge, cm_is, cm_isnot,
  okd_int, okd_bl, okd_non, okd_tupI, okd_lI, okd_lT, okd_tT, okd_lL, okd_nil, okd_tnil, cm_eqi, cm_nei, cm_ini, cm_notini, cm_inti, cm_notinti, cm_inlt, cm_notinlt, cm_intt, cm_notintt,
  bi_len_l, bi_len_t, bi_len_s, bi_int, bi_abs, bi_min2, bi_max2, bi_list_l, bi_list_t, bi_tuple_l, bi_tuple_t, bi_sum, m_append, m_extend, lt_some, it_lst_nb, it_tup_nb, it_scr,
  stD_left, stD_turn, stD_great, stD_cells, stD_setleft, stD_setturn, stD_setgreat, stD_imm, stD_lst, sz_def, op_addtI,  bi_lenT,  cm_notT,  it_tT, it_lT, it_lI, it_tupI,  pt_non, pt_con, pt_var, pt_bin, pt_calls, isTup_tup, isTup_lst,  is_ii, is_ib, is_tt, is_net, is_hung, D.int.injEq, exists_eq_left, exists_eq_left', cm_lttt, cm_neI0, cm_eqI0, cm_neT0, cm_eqT0, cm_eqt0, m_pop0, isLst_lst, aok_nil, aok_own,
  Ex.mods, Exs.mods, It.mods, Tg.slots, Sts.mods, St.mods, wipeS, backS, ite_true, ite_false, if_true, if_false, reduceIte, Bool.false_eq_true, Bool.true_eq_false, List.getD_cons_zero, List.getD_cons_succ, List.set_cons_zero, List.set_cons_succ, List.contains_cons, List.contains_nil, List.all_cons, List.all_nil, List.append_nil, List.nil_append, List.cons_append,
  Bool.not_true, Bool.not_false, Bool.and_true, Bool.true_and, Bool.and_false, Bool.false_and, Bool.or_false, Bool.false_or, Bool.or_true, Bool.true_or, beq_self_eq_true, Nat.reduceBEq, Nat.reduceEqDiff, true_and, and_true, true_implies, false_implies, List.not_mem_nil, List.mem_cons, List.mem_singleton, not_false_eq_true, not_true_eq_false, or_false, false_or, reduceCtorEq, Nat.reduceAdd, Nat.reduceSub, decide_true, decide_false])
local macro_rules | `(tactic| walk_at "en") => `(tactic| try simp only [↓e_con, ↓e_var, ↓e_mv, ↓e_bin, ↓e_neg, ↓e_cmp, ↓e_cmp2, ↓e_or, ↓e_not, ↓e_ite, ↓e_tup, ↓e_lst, ↓e_dic, ↓e_ix, ↓e_sl, ↓e_fld, ↓e_call, ↓e_callk, ↓e_callv, ↓e_calls, ↓e_new, ↓e_isi, ↓e_caught, ↓e_bi, ↓e_mth, ↓e_mthx, ↓es_nil, ↓es_cons, ↓i_on, ↓i_rng, ↓i_enu, ↓i_rv, ↓i_zp, ↓e_comp, ↓s_nm, ↓s_tp, ↓s_par, ↓s_setx, ↓s_setxx, ↓s_setf, ↓s_ex, ↓s_ret, ↓s_ite, ↓s_brk, ↓s_cnt, ↓s_pss, ↓s_rais, ↓ss_nil, ↓ss_cons,
  imm_non, imm_bl, imm_int, imm_str, imm_fn, imm_exn, imm_scr, imm_tup, imm_lst, imm_dct, imm_obj, immL_nil, immL_cons, immL_ints, imm_tupI, immL_tupI,
  flat_non, flat_bl, flat_int, flat_str, flat_tup, flat_tupI, flat_lst, Pv.of, w_own, w_shr, w_bor, nb_own, nb_shr, nb_bor, nobor_nil, nobor_cons, beq_oo, beq_so, beq_bo, bne_ob, bne_sb, bne_bb, keepS,
  ev_some, set_own, set_shr, setAll_nil, setAll_cons, setTg_nm, setTg_tp, setTp_nil, setTp_cons, rd_ow, rd_sh, mv_ow, mv_sh, ow_ow, isun_ow, isun_sh, bl_bl, wipe_nil, wipe_cons, slImm_un, slImm_sh, slImm_ow,
  callo_own, call_shr, call_exc, calls_own, calls_shr, new_ok, fn_some, fn_sh, fn_ow, op_some, DL.op_add, DL.op_sub, DL.op_mul, op_div, DL.op_mod, DL.op_pow, op_addl, op_addt, op_adds, cm_lt, cm_le, cm_gt, cm_ge, cm_is, cm_isnot,
  okd_int, okd_bl, okd_non, okd_tupI, okd_lI, okd_lT, okd_tT, okd_lL, okd_nil, okd_tnil, cm_eqi, cm_nei, cm_ini, cm_notini, cm_inti, cm_notinti, cm_inlt, cm_notinlt, cm_intt, cm_notintt,
  bi_len_l, bi_len_t, bi_len_s, bi_int, bi_abs, bi_min2, bi_max2, bi_list_l, bi_list_t, bi_tuple_l, bi_tuple_t, bi_sum, m_append, m_extend, lt_some, it_lst_nb, it_tup_nb, it_scr,
  stD_left, stD_turn, stD_great, stD_cells, stD_setleft, stD_setturn, stD_setgreat, stD_imm, stD_lst, sz_def, op_addtI,  bi_lenT,  cm_notT,  it_tT, it_lT, it_lI, it_tupI,  pt_non, pt_con, pt_var, pt_bin, pt_calls, isTup_tup, isTup_lst,  is_ii, is_ib, is_tt, is_net, is_hung, D.int.injEq, exists_eq_left, exists_eq_left', cm_lttt, cm_neI0, cm_eqI0, cm_neT0, cm_eqT0, cm_eqt0, m_pop0, isLst_lst, aok_nil, aok_own,
  Ex.mods, Exs.mods, It.mods, Tg.slots, Sts.mods, St.mods, wipeS, backS, ite_true, ite_false, if_true, if_false, reduceIte, Bool.false_eq_true, Bool.true_eq_false, List.getD_cons_zero, List.getD_cons_succ, List.set_cons_zero, List.set_cons_succ, List.contains_cons, List.contains_nil, List.all_cons, List.all_nil, List.append_nil, List.nil_append, List.cons_append,
  Bool.not_true, Bool.not_false, Bool.and_true, Bool.true_and, Bool.and_false, Bool.false_and, Bool.or_false, Bool.false_or, Bool.or_true, Bool.true_or, beq_self_eq_true, Nat.reduceBEq, Nat.reduceEqDiff, true_and, and_true, true_implies, false_implies, List.not_mem_nil, List.mem_cons, List.mem_singleton, not_false_eq_true, not_true_eq_false, or_false, false_or, reduceCtorEq, Nat.reduceAdd, Nat.reduceSub, decide_true, decide_false])
local macro_rules | `(tactic| walk_at "es") => `(tactic| try simp only [↓e_con, ↓e_var, ↓e_mv, ↓e_bin, ↓e_neg, ↓e_cmp, ↓e_cmp2, ↓e_and, ↓e_or, ↓e_not, ↓e_ite, ↓e_tup, ↓e_lst, ↓e_dic, ↓e_ix, ↓e_sl, ↓e_fld, ↓e_call, ↓e_callk, ↓e_callv, ↓e_calls, ↓e_new, ↓e_isi, ↓e_caught, ↓e_bi, ↓e_mth, ↓e_mthx, ↓es_nil, ↓es_cons, ↓i_on, ↓i_rng, ↓i_enu, ↓i_rv, ↓i_zp, ↓e_comp, ↓s_nm, ↓s_tp, ↓s_par, ↓s_setx, ↓s_setxx, ↓s_setf, ↓s_ex, ↓s_ret, ↓s_brk, ↓s_cnt, ↓s_pss, ↓s_rais, ↓ss_nil, ↓ss_cons,
  imm_non, imm_bl, imm_int, imm_str, imm_fn, imm_exn, imm_scr, imm_tup, imm_lst, imm_dct, imm_obj, immL_nil, immL_cons, immL_ints, imm_tupI, immL_tupI,
  flat_non, flat_bl, flat_int, flat_str, flat_tup, flat_tupI, flat_lst, Pv.of, w_own, w_shr, w_bor, nb_own, nb_shr, nb_bor, nobor_nil, nobor_cons, beq_oo, beq_so, beq_bo, bne_ob, bne_sb, bne_bb, keepS,
  ev_some, set_own, set_shr, setAll_nil, setAll_cons, setTg_nm, setTg_tp, setTp_nil, setTp_cons, rd_ow, rd_sh, mv_ow, mv_sh, ow_ow, isun_ow, isun_sh, bl_bl, wipe_nil, wipe_cons, slImm_un, slImm_sh, slImm_ow,
  callo_own, call_shr, call_exc, calls_own, calls_shr, new_ok, fn_some, fn_sh, fn_ow, op_some, DL.op_add, DL.op_sub, DL.op_mul, op_div, DL.op_mod, DL.op_pow, op_addl, op_addt, op_adds, cm_lt, cm_le, cm_gt, cm_ge, cm_is, cm_isnot,
  okd_int, okd_bl, okd_non, okd_tupI, okd_lI, okd_lT, okd_tT, okd_lL, okd_nil, okd_tnil, cm_eqi, cm_nei, cm_ini, cm_notini, cm_inti, cm_notinti, cm_inlt, cm_notinlt, cm_intt, cm_notintt,
  bi_len_l, bi_len_t, bi_len_s, bi_int, bi_abs, bi_min2, bi_max2, bi_list_l, bi_list_t, bi_tuple_l, bi_tuple_t, bi_sum, m_append, m_extend, lt_some, it_lst_nb, it_tup_nb, it_scr,
  stD_left, stD_turn, stD_great, stD_cells, stD_setleft, stD_setturn, stD_setgreat, stD_imm, stD_lst, sz_def, op_addtI,  bi_lenT,  cm_notT,  it_tT, it_lT, it_lI, it_tupI,  pt_non, pt_con, pt_var, pt_bin, pt_calls, isTup_tup, isTup_lst,  is_ii, is_ib, is_tt, is_net, is_hung, D.int.injEq, exists_eq_left, exists_eq_left', cm_lttt, cm_neI0, cm_eqI0, cm_neT0, cm_eqT0, cm_eqt0, m_pop0, isLst_lst, aok_nil, aok_own,
  Ex.mods, Exs.mods, It.mods, Tg.slots, Sts.mods, St.mods, wipeS, backS, ite_true, ite_false, if_true, if_false, reduceIte, Bool.false_eq_true, Bool.true_eq_false, List.getD_cons_zero, List.getD_cons_succ, List.set_cons_zero, List.set_cons_succ, List.contains_cons, List.contains_nil, List.all_cons, List.all_nil, List.append_nil, List.nil_append, List.cons_append,
  Bool.not_true, Bool.not_false, Bool.and_true, Bool.true_and, Bool.and_false, Bool.false_and, Bool.or_false, Bool.false_or, Bool.or_true, Bool.true_or, beq_self_eq_true, Nat.reduceBEq, Nat.reduceEqDiff, true_and, and_true, true_implies, false_implies, List.not_mem_nil, List.mem_cons, List.mem_singleton, not_false_eq_true, not_true_eq_false, or_false, false_or, reduceCtorEq, Nat.reduceAdd, Nat.reduceSub, decide_true, decide_false])
theorem later_len {A : Int → Int → Bool} {n : Nat} {Q : List Int} : (CL.later A n Q).length ≤ n := by
  unfold CL.later CL.ext
  rw [List.length_map]
  refine Nat.le_trans (List.length_filter_le _ _) (Nat.le_trans (List.length_filter_le _ _) ?_)
  rw [rng_len]; exact Nat.le_refl _
theorem step_len {A : Int → Int → Bool} {n : Nat} : ∀ line : List (List Int), (line.flatMap (CL.later A n)).length ≤ n * line.length
  | [] => by simp
  | Q :: line => by
    rw [List.flatMap_cons, List.length_append, List.length_cons, Nat.mul_succ]
    have := step_len (A := A) (n := n) line
    have := later_len (A := A) (n := n) (Q := Q)
    omega
theorem lT_snoc {xs : List (List Int)} {y : List Int} : D.lst (xs.map tupI ++ [tupI y]) = lT (xs ++ [y]) := by unfold lT; rw [List.map_append]; rfl
theorem rngD {j : Int} : ((List.range j.toNat).map fun k : Nat => D.int k) = (CL.rng j.toNat).map .int := by unfold CL.rng; rw [List.map_map]; rfl
theorem nh_full {n : Nat} {m : Int} {ts : List (List Int)} (hm : 1 ≤ m) (hm2 : m ≤ 16) (ht : Ties m ts) : callF GamZ (n + 2) "_law_nh_full" [.int m, tT ts] = .ret (lT (fullS m ts)) .own [] := by
  refine ret_of ?_
  obtain ⟨nbs, hn, hb⟩ := nt_beside (n := n) ht (by omega) hm2 (ties_len ht hm2)
  have hu := adj_und ht
  rw [go (fn := fn__law_nh_full) (by rfl)]
  refine run_no (by rfl) (by rfl) ?_
  show (execs [] _ fn__law_nh_full.body [.sh (.int m), .sh (tT ts), .un, .un, .un, .un, .un, .un, .un, .un]).sat _
  unfold fn__law_nh_full
  dsimp only
  have hsz := sz_def
  walk_at "es"
  rw [hb]
  walk_at "es"
  have hfew : ∀ {xs : List (List Int)}, xs.Nodup → (∀ Q ∈ xs, CL.Clq (adj ts) m.toNat Q) → xs.length ≤ 65536 := fun h1 h2 => by
    have := CL.few h1 fun Q hQ => (h2 Q hQ).1
    have h2 : 2 ^ m.toNat ≤ 2 ^ 16 := Nat.pow_le_pow_right (by omega) (by omega)
    omega
  refine while_rule (fun v e => ∃ k line found s5 s6 s7, v = m.toNat + 2 - k ∧ e = [.sh (.int m), .sh (tT ts), .ow (lL nbs), .ow (lT line), .ow (lT found), s5, s6, s7, .un, .un] ∧ CL.Lv (adj ts) m.toNat k line found) (m.toNat + 2) ⟨0, [[]], [], _, _, _, rfl, rfl, CL.lv0⟩ (by omega) ?_
  rintro v e ⟨k, line, found, s5, s6, s7, rfl, rfl, hlv⟩
  have hll := hfew hlv.ln fun Q hQ => ((hlv.lm Q).mp hQ).1
  have hfl := hfew hlv.fn fun Q hQ => ((hlv.fm Q).mp hQ).1
  walk_at "es"
  refine ⟨fun hne => ?_, fun hz => ?_⟩
  · have hne : line ≠ [] := by simpa using hne
    have hk := CL.lv_k hlv hne
    walk_at "es"
    refine for_map tupI line (fun pre post e => ∃ s6 s7, e = [.sh (.int m), .sh (tT ts), .ow (lL nbs), .un, .ow (lT (found ++ pre.filter fun Q => decide (CL.ext (adj ts) m.toNat Q = []))), .ow (lT (pre.flatMap (CL.later (adj ts) m.toNat))), s6, s7, .un, .un]) ?_ ?_ ?_
    · walk_at "es"
      exact ⟨s6, s7, by simp⟩
    · intro pre lot post e hx hI
      obtain ⟨s6, s7, he⟩ := hI
      subst he
      have hlin : line.length = pre.length + (post.length + 1) := by rw [hx]; simp
      have hlot := ((hlv.lm lot).mp (by rw [hx]; simp)).1
      have hlotl := CL.clq_len hlot
      walk_at "es"
      rw [rng_1 (rng62_ok (by omega) (by omega)), rngD]
      refine DL.comp_map .int (CL.rng m.toNat) (fun p => !decide (p ∈ lot) && lot.all fun x => adj ts p x) .int (by rw [rng_len]; omega) ?_ ?_
      · intro p hp
        have hp2 := CL.mem_rng.mp hp
        have hxl : p.toNat < nbs.length := by have := hn.1; omega
        have gx := List.getElem?_eq_getElem hxl
        generalize nbs[p.toNat] = l at gx
        have hA : ∀ q, decide (q ∈ l) = adj ts p q := by
          intro q
          have := hn.2 _ _ gx q
          rw [Int.toNat_of_nonneg hp2.1] at this
          cases h : adj ts p q with
          | true => rw [h] at this; simpa using this
          | false => rw [h] at this; simpa using this
        walk_at "es"
        refine ⟨fun hp3 => ?_, fun hp3 => ?_⟩
        · refine DL.comp_map .int lot (fun x => !decide (x ∈ l)) (fun _ => .int 1) (by omega) ?_ ?_
          · intro x hx2
            walk_at "es"
            rw [ixL hp2.1 gx]
            walk_at "es"
            exact ⟨fun _ => trivial, fun _ => trivial⟩
          · walk_at "es"
            rw [cm_eqM fun _ => rfl]
            have key : decide (lot.filter (fun x => !decide (x ∈ l)) = []) = (!decide (p ∈ lot) && lot.all fun x => adj ts p x) := by
              rw [hp3, Bool.true_and, Bool.eq_iff_iff, decide_eq_true_eq, List.filter_eq_nil_iff, List.all_eq_true]
              simp only [hA, Bool.not_eq_true', Bool.not_eq_false]
            walk_at "es"
            exact ⟨by rw [key], fun _ => trivial, fun _ => trivial⟩
        · rw [hp3, Bool.false_and]
          walk_at "es"
      · walk_at "es"
        have hmore : D.lst (((CL.rng m.toNat).filter fun p => !decide (p ∈ lot) && lot.all fun x => adj ts p x).map .int) = lI (CL.ext (adj ts) m.toNat lot) := rfl
        rw [hmore]
        generalize hext : CL.ext (adj ts) m.toNat lot = more
        refine Out.sat_mono (P := { N := fun e => e = [.sh (.int m), .sh (tT ts), .ow (lL nbs), .un, .ow (lT (found ++ (pre ++ [lot]).filter fun Q => decide (CL.ext (adj ts) m.toNat Q = []))), .ow (lT (pre.flatMap (CL.later (adj ts) m.toNat))), .sh (tupI lot), .ow (lI more), .un, .un], R := fun _ _ _ => False, X := fun _ _ => False }) ?_ ?_ (fun _ _ _ h => h.elim) (fun _ _ h => h.elim) (fun _ h => h.elim) (fun _ h => h.elim)
        · walk_at "ev"
          rw [List.filter_append]
          refine ⟨fun h1 => ⟨?_, ?_⟩, fun h1 => ?_⟩
          · have := List.length_filter_le (fun Q => decide (CL.ext (adj ts) m.toNat Q = [])) pre
            rw [List.length_map, List.length_append]; omega
          · have h1 : more = [] := by simpa using h1
            have : [lot].filter (fun Q => decide (CL.ext (adj ts) m.toNat Q = [])) = [lot] := by rw [List.filter_cons, hext, h1]; rfl
            rw [this, lT_snoc, List.append_assoc]
          · have h1 : more ≠ [] := by simpa using h1
            have : [lot].filter (fun Q => decide (CL.ext (adj ts) m.toNat Q = [])) = [] := by rw [List.filter_cons, hext, decide_eq_false h1]; rfl
            rw [this, List.append_nil]
        · rintro e rfl
          walk_at "es"
          have hml : more.length ≤ 16 := by
            have : (CL.ext (adj ts) m.toNat lot).length ≤ (CL.rng m.toNat).length := List.length_filter_le _ _
            rw [hext, rng_len] at this; omega
          refine DL.comp_map .int more (fun q => decide (lot = []) || decide (lot.getLastD 0 < q)) (fun q => tupI (lot ++ [q])) (by omega) ?_ ?_
          · intro q hq
            walk_at "es"
            by_cases hl : lot = []
            · rw [decide_eq_true hl]
              walk_at "es"
              omega
            · rw [decide_eq_false hl]
              rw [ix_lastT hl]
              walk_at "es"
              exact ⟨fun _ => by omega, fun _ => trivial⟩
          · walk_at "es"
            have hlat : ((more.filter fun q => decide (lot = []) || decide (lot.getLastD 0 < q)).map fun q => tupI (lot ++ [q])) = (CL.later (adj ts) m.toNat lot).map tupI := by
              unfold CL.later
              rw [hext, List.map_map]; rfl
            have hs1 := step_len (A := adj ts) (n := m.toNat) pre
            have hs2 := later_len (A := adj ts) (n := m.toNat) (Q := lot)
            have hs3 : m.toNat * pre.length ≤ 16 * 65536 := Nat.mul_le_mul (by omega) (by omega)
            rw [hlat, lT_app, ← List.map_append]
            refine ⟨by rw [List.length_map, List.length_map]; omega, immL_tupI, .sh (tupI lot), .un, ?_⟩
            rw [List.flatMap_append, List.flatMap_cons, List.flatMap_nil, List.append_nil]
    · intro e hI
      obtain ⟨s6, s7, he⟩ := hI
      subst he
      walk_at "es"
      exact ⟨m.toNat + 2 - (k + 1), by omega, k + 1, _, _, _, _, _, rfl, rfl, CL.lv_step hu hlv⟩
  · have hz : line = [] := by simpa using hz
    subst hz
    walk_at "es"
    rw [bi_sortedT fun Q hQ => full_ne hm ((CL.lv_end hlv Q).mp hQ).2]
    walk_at "es"
    unfold fullS
    rw [CL.sort_eq hlv.fn (fulls_nd ht) fun Q => by rw [CL.lv_end hlv, mem_fulls ht]]
end K03
end
section
set_option Elab.async false
set_option linter.all false
set_option maxRecDepth 100000
set_option maxHeartbeats 4000000
namespace K03
open PySem DL
local macro_rules | `(tactic| walk_at "ev") => `(tactic| try simp only [↓e_con, ↓e_var, ↓e_mv, ↓e_bin, ↓e_neg, ↓e_cmp, ↓e_cmp2, ↓e_and, ↓e_or, ↓e_not, ↓e_ite, ↓e_tup, ↓e_lst, ↓e_dic, ↓e_ix, ↓e_sl, ↓e_fld, ↓e_call, ↓e_callk, ↓e_callv, ↓e_calls, ↓e_new, ↓e_isi, ↓e_caught, ↓e_bi, ↓e_mth, ↓e_mthx, ↓es_nil, ↓es_cons, ↓i_on, ↓i_rng, ↓i_enu, ↓i_rv, ↓i_zp, ↓e_comp, ↓s_nm, ↓s_tp, ↓s_par, ↓s_setx, ↓s_setxx, ↓s_setf, ↓s_ex, ↓s_ret, ↓s_ite, ↓s_brk, ↓s_cnt, ↓s_pss, ↓s_rais, ↓ss_nil, ↓ss_cons,
  imm_non, imm_bl, imm_int, imm_str, imm_fn, imm_exn, imm_scr, imm_tup, imm_lst, imm_dct, imm_obj, immL_nil, immL_cons, immL_ints, imm_tupI, immL_tupI,
  flat_non, flat_bl, flat_int, flat_str, flat_tup, flat_tupI, flat_lst, Pv.of, w_own, w_shr, w_bor, nb_own, nb_shr, nb_bor, nobor_nil, nobor_cons, beq_oo, beq_so, beq_bo, bne_ob, bne_sb, bne_bb, keepS,
  ev_some, set_own, set_shr, setAll_nil, setAll_cons, setTg_nm, setTg_tp, setTp_nil, setTp_cons, rd_ow, rd_sh, mv_ow, mv_sh, ow_ow, isun_ow, isun_sh, bl_bl, wipe_nil, wipe_cons, slImm_un, slImm_sh, slImm_ow,
  callo_own, call_shr, call_exc, calls_own, calls_shr, new_ok, fn_some, fn_sh, fn_ow, op_some, DL.op_add, DL.op_sub, DL.op_mul, op_div, DL.op_mod, DL.op_pow, op_addl, op_addt, op_adds, cm_lt, cm_le, cm_gt, cm_ge, cm_is, cm_isnot,
  okd_int, okd_bl, okd_non, okd_tupI, okd_lI, okd_lT, okd_tT, okd_lL, okd_nil, okd_tnil, cm_eqi, cm_nei, cm_ini, cm_notini, cm_inti, cm_notinti, cm_inlt, cm_notinlt, cm_intt, cm_notintt,
  bi_len_l, bi_len_t, bi_len_s, bi_int, bi_abs, bi_min2, bi_max2, bi_list_l, bi_list_t, bi_tuple_l, bi_tuple_t, bi_sum, m_append, m_extend, lt_some, it_lst_nb, it_tup_nb, it_scr,
  stD_left, stD_turn, stD_great, stD_cells, stD_setleft, stD_setturn, stD_setgreat, stD_imm, stD_lst, sz_def, op_addtI,  bi_lenT,  cm_notT,  it_tT, it_lT, it_lI, it_tupI,  pt_non, pt_con, pt_var, pt_bin, pt_calls, isTup_tup, isTup_lst,  is_ii, is_ib, is_tt, is_net, is_hung, D.int.injEq, exists_eq_left, exists_eq_left', cm_lttt, cm_neI0, cm_eqI0, cm_neT0, cm_eqT0, cm_eqt0, m_pop0, isLst_lst, aok_nil, aok_own,
  Ex.mods, Exs.mods, It.mods, Tg.slots, Sts.mods, St.mods, wipeS, backS, ite_true, ite_false, if_true, if_false, reduceIte, Bool.false_eq_true, Bool.true_eq_false, List.getD_cons_zero, List.getD_cons_succ, List.set_cons_zero, List.set_cons_succ, List.contains_cons, List.contains_nil, List.all_cons, List.all_nil, List.append_nil, List.nil_append, List.cons_append,
  Bool.not_true, Bool.not_false, Bool.and_true, Bool.true_and, Bool.and_false, Bool.false_and, Bool.or_false, Bool.false_or, Bool.or_true, Bool.true_or, beq_self_eq_true, Nat.reduceBEq, Nat.reduceEqDiff, true_and, and_true, true_implies, false_implies, List.not_mem_nil, List.mem_cons, List.mem_singleton, not_false_eq_true, not_true_eq_false, or_false, false_or, reduceCtorEq, Nat.reduceAdd, Nat.reduceSub, decide_true, decide_false])
local macro_rules | `(tactic| walk_at "ew") => `(tactic| try simp only [↓e_con, ↓e_var, ↓e_mv, ↓e_bin, ↓e_neg, ↓e_cmp, ↓e_cmp2, ↓e_and, ↓e_or, ↓e_not, ↓e_tup, ↓e_lst, ↓e_dic, ↓e_ix, ↓e_sl, ↓e_fld, ↓e_call, ↓e_callk, ↓e_callv, ↓e_calls, ↓e_new, ↓e_isi, ↓e_caught, ↓e_bi, ↓e_mth, ↓e_mthx, ↓es_nil, ↓es_cons, ↓i_on, ↓i_rng, ↓i_enu, ↓i_rv, ↓i_zp, ↓e_comp, ↓s_nm, ↓s_tp, ↓s_par, ↓s_setx, ↓s_setxx, ↓s_setf, ↓s_ex, ↓s_ret, ↓s_ite, ↓s_brk, ↓s_cnt, ↓s_pss, ↓s_rais, ↓ss_nil, ↓ss_cons,
  imm_non, imm_bl, imm_int, imm_str, imm_fn, imm_exn, imm_scr, imm_tup, imm_lst, imm_dct, imm_obj, immL_nil, immL_cons, immL_ints, imm_tupI, immL_tupI,
  flat_non, flat_bl, flat_int, flat_str, flat_tup, flat_tupI, flat_lst, Pv.of, w_own, w_shr, w_bor, nb_own, nb_shr, nb_bor, nobor_nil, nobor_cons, beq_oo, beq_so, beq_bo, bne_ob, bne_sb, bne_bb, keepS,
  ev_some, set_own, set_shr, setAll_nil, setAll_cons, setTg_nm, setTg_tp, setTp_nil, setTp_cons, rd_ow, rd_sh, mv_ow, mv_sh, ow_ow, isun_ow, isun_sh, bl_bl, wipe_nil, wipe_cons, slImm_un, slImm_sh, slImm_ow,
  callo_own, call_shr, call_exc, calls_own, calls_shr, new_ok, fn_some, fn_sh, fn_ow, op_some, DL.op_add, DL.op_sub, DL.op_mul, op_div, DL.op_mod, DL.op_pow, op_addl, op_addt, op_adds, cm_lt, cm_le, cm_gt, cm_ge, cm_is, cm_isnot,
  okd_int, okd_bl, okd_non, okd_tupI, okd_lI, okd_lT, okd_tT, okd_lL, okd_nil, okd_tnil, cm_eqi, cm_nei, cm_ini, cm_notini, cm_inti, cm_notinti, cm_inlt, cm_notinlt, cm_intt, cm_notintt,
  bi_len_l, bi_len_t, bi_len_s, bi_int, bi_abs, bi_min2, bi_max2, bi_list_l, bi_list_t, bi_tuple_l, bi_tuple_t, bi_sum, m_append, m_extend, lt_some, it_lst_nb, it_tup_nb, it_scr,
  stD_left, stD_turn, stD_great, stD_cells, stD_setleft, stD_setturn, stD_setgreat, stD_imm, stD_lst, sz_def, op_addtI,  bi_lenT,  cm_notT,  it_tT, it_lT, it_lI, it_tupI,  pt_non, pt_con, pt_var, pt_bin, pt_calls, isTup_tup, isTup_lst,  is_ii, is_ib, is_tt, is_net, is_hung, D.int.injEq, exists_eq_left, exists_eq_left', cm_lttt, cm_neI0, cm_eqI0, cm_neT0, cm_eqT0, cm_eqt0, m_pop0, isLst_lst, aok_nil, aok_own,
  Ex.mods, Exs.mods, It.mods, Tg.slots, Sts.mods, St.mods, wipeS, backS, ite_true, ite_false, if_true, if_false, reduceIte, Bool.false_eq_true, Bool.true_eq_false, List.getD_cons_zero, List.getD_cons_succ, List.set_cons_zero, List.set_cons_succ, List.contains_cons, List.contains_nil, List.all_cons, List.all_nil, List.append_nil, List.nil_append, List.cons_append,
  Bool.not_true, Bool.not_false, Bool.and_true, Bool.true_and, Bool.and_false, Bool.false_and, Bool.or_false, Bool.false_or, Bool.or_true, Bool.true_or, beq_self_eq_true, Nat.reduceBEq, Nat.reduceEqDiff, true_and, and_true, true_implies, false_implies, List.not_mem_nil, List.mem_cons, List.mem_singleton, not_false_eq_true, not_true_eq_false, or_false, false_or, reduceCtorEq, Nat.reduceAdd, Nat.reduceSub, decide_true, decide_false])
local macro_rules | `(tactic| walk_at "en") => `(tactic| try simp only [↓e_con, ↓e_var, ↓e_mv, ↓e_bin, ↓e_neg, ↓e_cmp, ↓e_cmp2, ↓e_or, ↓e_not, ↓e_ite, ↓e_tup, ↓e_lst, ↓e_dic, ↓e_ix, ↓e_sl, ↓e_fld, ↓e_call, ↓e_callk, ↓e_callv, ↓e_calls, ↓e_new, ↓e_isi, ↓e_caught, ↓e_bi, ↓e_mth, ↓e_mthx, ↓es_nil, ↓es_cons, ↓i_on, ↓i_rng, ↓i_enu, ↓i_rv, ↓i_zp, ↓e_comp, ↓s_nm, ↓s_tp, ↓s_par, ↓s_setx, ↓s_setxx, ↓s_setf, ↓s_ex, ↓s_ret, ↓s_ite, ↓s_brk, ↓s_cnt, ↓s_pss, ↓s_rais, ↓ss_nil, ↓ss_cons,
  imm_non, imm_bl, imm_int, imm_str, imm_fn, imm_exn, imm_scr, imm_tup, imm_lst, imm_dct, imm_obj, immL_nil, immL_cons, immL_ints, imm_tupI, immL_tupI,
  flat_non, flat_bl, flat_int, flat_str, flat_tup, flat_tupI, flat_lst, Pv.of, w_own, w_shr, w_bor, nb_own, nb_shr, nb_bor, nobor_nil, nobor_cons, beq_oo, beq_so, beq_bo, bne_ob, bne_sb, bne_bb, keepS,
  ev_some, set_own, set_shr, setAll_nil, setAll_cons, setTg_nm, setTg_tp, setTp_nil, setTp_cons, rd_ow, rd_sh, mv_ow, mv_sh, ow_ow, isun_ow, isun_sh, bl_bl, wipe_nil, wipe_cons, slImm_un, slImm_sh, slImm_ow,
  callo_own, call_shr, call_exc, calls_own, calls_shr, new_ok, fn_some, fn_sh, fn_ow, op_some, DL.op_add, DL.op_sub, DL.op_mul, op_div, DL.op_mod, DL.op_pow, op_addl, op_addt, op_adds, cm_lt, cm_le, cm_gt, cm_ge, cm_is, cm_isnot,
  okd_int, okd_bl, okd_non, okd_tupI, okd_lI, okd_lT, okd_tT, okd_lL, okd_nil, okd_tnil, cm_eqi, cm_nei, cm_ini, cm_notini, cm_inti, cm_notinti, cm_inlt, cm_notinlt, cm_intt, cm_notintt,
  bi_len_l, bi_len_t, bi_len_s, bi_int, bi_abs, bi_min2, bi_max2, bi_list_l, bi_list_t, bi_tuple_l, bi_tuple_t, bi_sum, m_append, m_extend, lt_some, it_lst_nb, it_tup_nb, it_scr,
  stD_left, stD_turn, stD_great, stD_cells, stD_setleft, stD_setturn, stD_setgreat, stD_imm, stD_lst, sz_def, op_addtI,  bi_lenT,  cm_notT,  it_tT, it_lT, it_lI, it_tupI,  pt_non, pt_con, pt_var, pt_bin, pt_calls, isTup_tup, isTup_lst,  is_ii, is_ib, is_tt, is_net, is_hung, D.int.injEq, exists_eq_left, exists_eq_left', cm_lttt, cm_neI0, cm_eqI0, cm_neT0, cm_eqT0, cm_eqt0, m_pop0, isLst_lst, aok_nil, aok_own,
  Ex.mods, Exs.mods, It.mods, Tg.slots, Sts.mods, St.mods, wipeS, backS, ite_true, ite_false, if_true, if_false, reduceIte, Bool.false_eq_true, Bool.true_eq_false, List.getD_cons_zero, List.getD_cons_succ, List.set_cons_zero, List.set_cons_succ, List.contains_cons, List.contains_nil, List.all_cons, List.all_nil, List.append_nil, List.nil_append, List.cons_append,
  Bool.not_true, Bool.not_false, Bool.and_true, Bool.true_and, Bool.and_false, Bool.false_and, Bool.or_false, Bool.false_or, Bool.or_true, Bool.true_or, beq_self_eq_true, Nat.reduceBEq, Nat.reduceEqDiff, true_and, and_true, true_implies, false_implies, List.not_mem_nil, List.mem_cons, List.mem_singleton, not_false_eq_true, not_true_eq_false, or_false, false_or, reduceCtorEq, Nat.reduceAdd, Nat.reduceSub, decide_true, decide_false])
local macro_rules | `(tactic| walk_at "es") => `(tactic| try simp only [↓e_con, ↓e_var, ↓e_mv, ↓e_bin, ↓e_neg, ↓e_cmp, ↓e_cmp2, ↓e_and, ↓e_or, ↓e_not, ↓e_ite, ↓e_tup, ↓e_lst, ↓e_dic, ↓e_ix, ↓e_sl, ↓e_fld, ↓e_call, ↓e_callk, ↓e_callv, ↓e_calls, ↓e_new, ↓e_isi, ↓e_caught, ↓e_bi, ↓e_mth, ↓e_mthx, ↓es_nil, ↓es_cons, ↓i_on, ↓i_rng, ↓i_enu, ↓i_rv, ↓i_zp, ↓e_comp, ↓s_nm, ↓s_tp, ↓s_par, ↓s_setx, ↓s_setxx, ↓s_setf, ↓s_ex, ↓s_ret, ↓s_brk, ↓s_cnt, ↓s_pss, ↓s_rais, ↓ss_nil, ↓ss_cons,
  imm_non, imm_bl, imm_int, imm_str, imm_fn, imm_exn, imm_scr, imm_tup, imm_lst, imm_dct, imm_obj, immL_nil, immL_cons, immL_ints, imm_tupI, immL_tupI,
  flat_non, flat_bl, flat_int, flat_str, flat_tup, flat_tupI, flat_lst, Pv.of, w_own, w_shr, w_bor, nb_own, nb_shr, nb_bor, nobor_nil, nobor_cons, beq_oo, beq_so, beq_bo, bne_ob, bne_sb, bne_bb, keepS,
  ev_some, set_own, set_shr, setAll_nil, setAll_cons, setTg_nm, setTg_tp, setTp_nil, setTp_cons, rd_ow, rd_sh, mv_ow, mv_sh, ow_ow, isun_ow, isun_sh, bl_bl, wipe_nil, wipe_cons, slImm_un, slImm_sh, slImm_ow,
  callo_own, call_shr, call_exc, calls_own, calls_shr, new_ok, fn_some, fn_sh, fn_ow, op_some, DL.op_add, DL.op_sub, DL.op_mul, op_div, DL.op_mod, DL.op_pow, op_addl, op_addt, op_adds, cm_lt, cm_le, cm_gt, cm_ge, cm_is, cm_isnot,
  okd_int, okd_bl, okd_non, okd_tupI, okd_lI, okd_lT, okd_tT, okd_lL, okd_nil, okd_tnil, cm_eqi, cm_nei, cm_ini, cm_notini, cm_inti, cm_notinti, cm_inlt, cm_notinlt, cm_intt, cm_notintt,
  bi_len_l, bi_len_t, bi_len_s, bi_int, bi_abs, bi_min2, bi_max2, bi_list_l, bi_list_t, bi_tuple_l, bi_tuple_t, bi_sum, m_append, m_extend, lt_some, it_lst_nb, it_tup_nb, it_scr,
  stD_left, stD_turn, stD_great, stD_cells, stD_setleft, stD_setturn, stD_setgreat, stD_imm, stD_lst, sz_def, op_addtI,  bi_lenT,  cm_notT,  it_tT, it_lT, it_lI, it_tupI,  pt_non, pt_con, pt_var, pt_bin, pt_calls, isTup_tup, isTup_lst,  is_ii, is_ib, is_tt, is_net, is_hung, D.int.injEq, exists_eq_left, exists_eq_left', cm_lttt, cm_neI0, cm_eqI0, cm_neT0, cm_eqT0, cm_eqt0, m_pop0, isLst_lst, aok_nil, aok_own,
  Ex.mods, Exs.mods, It.mods, Tg.slots, Sts.mods, St.mods, wipeS, backS, ite_true, ite_false, if_true, if_false, reduceIte, Bool.false_eq_true, Bool.true_eq_false, List.getD_cons_zero, List.getD_cons_succ, List.set_cons_zero, List.set_cons_succ, List.contains_cons, List.contains_nil, List.all_cons, List.all_nil, List.append_nil, List.nil_append, List.cons_append,
  Bool.not_true, Bool.not_false, Bool.and_true, Bool.true_and, Bool.and_false, Bool.false_and, Bool.or_false, Bool.false_or, Bool.or_true, Bool.true_or, beq_self_eq_true, Nat.reduceBEq, Nat.reduceEqDiff, true_and, and_true, true_implies, false_implies, List.not_mem_nil, List.mem_cons, List.mem_singleton, not_false_eq_true, not_true_eq_false, or_false, false_or, reduceCtorEq, Nat.reduceAdd, Nat.reduceSub, decide_true, decide_false])
theorem so_app {a b : Str} : PyData.strOk (a ++ b) = (PyData.strOk a && PyData.strOk b) := Array.all_append
theorem so_from : ∀ (ts : List Str) (k : Nat) (acc : Str), PyData.strOk acc = true → (∀ t ∈ ts, PyData.strOk t = true) → PyData.strOk (textFrom k acc ts) = true
  | [], _, acc, h, _ => h
  | t :: ts, k, acc, h, hs => by
    rw [textFrom]
    refine so_from ts (k + 1) _ ?_ fun u hu => hs u (List.mem_cons_of_mem _ hu)
    rw [so_app, so_app, h, hs t List.mem_cons_self]
    split <;> decide +kernel
theorem so_list {ts : List Str} (h : ∀ t ∈ ts, PyData.strOk t = true) : PyData.strOk (listText ts) = true := by
  unfold listText
  rw [so_app, so_from ts 0 "[" (by decide +kernel) h]
  decide +kernel
theorem so_join : ∀ {ts : List Str}, (∀ t ∈ ts, PyData.strOk t = true) → PyData.strOk (Str.join ", " ts) = true
  | [], _ => by decide +kernel
  | [x], h => h x List.mem_cons_self
  | x :: y :: r, h => by
    show PyData.strOk (x ++ ", " ++ Str.join ", " (y :: r)) = true
    rw [so_app, so_app, h x List.mem_cons_self, so_join fun t ht => h t (List.mem_cons_of_mem _ ht)]
    decide +kernel
theorem so_tuple {ts : List Str} (h : ∀ t ∈ ts, PyData.strOk t = true) : PyData.strOk (tupleText ts) = true := by
  unfold tupleText
  rw [so_app, so_app, so_join h]
  split <;> decide +kernel
theorem sum_le {α : Type} {f : α → Nat} {B : Nat} : ∀ {xs : List α}, (∀ x ∈ xs, f x ≤ B) → (xs.map f).sum ≤ B * xs.length
  | [], _ => by simp
  | x :: xs, h => by
    have h1 := h x List.mem_cons_self
    have h2 := sum_le (xs := xs) fun y hy => h y (List.mem_cons_of_mem _ hy)
    rw [List.map_cons, List.sum_cons, List.length_cons, Nat.mul_succ]
    omega
theorem fin16 : ∀ k : Fin 16, (PyData.shown (.int (k.val : Int))).length ≤ 2 ∧ PyData.strOk (PyData.shown (.int (k.val : Int))) = true ∧ PyData.showable (.int (k.val : Int)) = true := by decide +kernel
theorem pt16 {x : Int} (h0 : 0 ≤ x) (h1 : x < 16) : (PyData.shown (.int x)).length ≤ 2 ∧ PyData.strOk (PyData.shown (.int x)) = true ∧ PyData.showable (.int x) = true := by
  have := fin16 ⟨x.toNat, by omega⟩
  rw [show ((⟨x.toNat, by omega⟩ : Fin 16).val : Int) = x by show (x.toNat : Int) = x; omega] at this
  exact this
def Sm (Q : List Int) : Prop := Q.length ≤ 16 ∧ ∀ x ∈ Q, 0 ≤ x ∧ x < 16
theorem toPyI (Q : List Int) : toPy (tupI Q) = .tuple (Q.map .int) := by unfold tupI; rw [toPy, toPy_ints]; rfl
theorem shownAll_map {α : Type} (f : α → PyData) : ∀ xs : List α, PyData.shownAll (xs.map f) = xs.map fun x => (f x).shown
  | [] => by rw [List.map_nil, PyData.shownAll]; rfl
  | x :: xs => by rw [List.map_cons, PyData.shownAll, shownAll_map f xs]; rfl
theorem showableAll_map {α : Type} (f : α → PyData) : ∀ {xs : List α}, (∀ x ∈ xs, (f x).showable = true) → PyData.showableAll (xs.map f) = true
  | [], _ => by rw [List.map_nil, PyData.showableAll]
  | x :: xs, h => by rw [List.map_cons, PyData.showableAll, h x List.mem_cons_self, showableAll_map f fun y hy => h y (List.mem_cons_of_mem _ hy)]; rfl
theorem sm_tup {Q : List Int} (h : Sm Q) : (toPy (tupI Q)).shown.length ≤ 67 ∧ PyData.strOk (toPy (tupI Q)).shown = true ∧ (toPy (tupI Q)).showable = true := by
  rw [toPyI, PyData.shown, PyData.showable, shownAll_map]
  refine ⟨?_, ?_, showableAll_map _ fun x hx => (pt16 (h.2 x hx).1 (h.2 x hx).2).2.2⟩
  · have h1 := tupleText_len_le (Q.map fun x => (PyData.int x).shown)
    rw [List.map_map, List.length_map] at h1
    have h2 := sum_le (xs := Q) (f := (fun t : Str => t.length) ∘ fun x => (PyData.int x).shown) (B := 2) fun x hx => (pt16 (h.2 x hx).1 (h.2 x hx).2).1
    have := h.1
    omega
  · refine so_tuple fun t ht => ?_
    obtain ⟨x, hx, rfl⟩ := List.mem_map.mp ht
    exact (pt16 (h.2 x hx).1 (h.2 x hx).2).2.1
theorem toPyL_map {α : Type} (f : α → D) : ∀ xs : List α, toPyL (xs.map f) = xs.map fun x => toPy (f x)
  | [] => by rw [List.map_nil, toPyL]; rfl
  | x :: xs => by rw [List.map_cons, toPyL, toPyL_map f xs]; rfl
theorem sm_tT {F : List (List Int)} (hl : F.length ≤ 65536) (h : ∀ Q ∈ F, Sm Q) : (toPy (tT F)).shown.length ≤ 5000000 ∧ PyData.strOk (toPy (tT F)).shown = true ∧ (toPy (tT F)).showable = true := by
  rw [toPy, toPyL_map, PyData.shown, PyData.showable, shownAll_map]
  refine ⟨?_, ?_, showableAll_map _ fun x hx => (sm_tup (h x hx)).2.2⟩
  · have h1 := tupleText_len_le (F.map fun x => (toPy (tupI x)).shown)
    rw [List.map_map, List.length_map] at h1
    have h2 := sum_le (xs := F) (f := (fun t : Str => t.length) ∘ fun x => (toPy (tupI x)).shown) (B := 67) fun x hx => (sm_tup (h x hx)).1
    omega
  · refine so_tuple fun t ht => ?_
    obtain ⟨x, hx, rfl⟩ := List.mem_map.mp ht
    exact (sm_tup (h x hx)).2.1
theorem two_ok {d : D} (hd : D.lay 59 d = true) (h : (toPy d).shown.length ≤ 5000000 ∧ PyData.strOk (toPy d).shown = true ∧ (toPy d).showable = true) : reprOk (.lst [d, d]) = true ∧ PyData.strOk (toPy (.lst [d, d])).shown = true := by
  have e : toPy (.lst [d, d]) = .list [toPy d, toPy d] := by rw [toPy, toPyL, toPyL, toPyL]
  have hs : PyData.strOk (toPy (.lst [d, d])).shown = true := by
    rw [e, PyData.shown, PyData.shownAll, PyData.shownAll, PyData.shownAll]
    refine so_list fun t ht => ?_
    simp only [List.mem_cons, List.not_mem_nil, or_false, or_self] at ht
    subst ht; exact h.2.1
  refine ⟨?_, hs⟩
  unfold reprOk
  have h1 : (D.lst [d, d]).okd = true := by show [d, d].all (D.lay 59) = true; simp [hd]
  have h2 : (toPy (.lst [d, d])).showable = true := by rw [e, PyData.showable, PyData.showableAll, PyData.showableAll, PyData.showableAll, h.2.2]; rfl
  have h3 : (toPy (.lst [d, d])).shown.length ≤ SZ := by
    rw [e, PyData.shown, PyData.shownAll, PyData.shownAll, PyData.shownAll]
    have := listText_len_le [(toPy d).shown, (toPy d).shown]
    have hh := h.1
    simp at this
    have := sz_def
    omega
  rw [h1, h2, hs, decide_eq_true h3]; rfl
theorem bi_repr2 {d : D} {Q : D → Prop} (h : reprOk (.lst [d, d]) = true) : opS (biD .repr [.lst [d, d]]) Q ↔ Q (.str (toPy (.lst [d, d])).shown) := by
  have e : biD .repr [.lst [d, d]] = some (.str (toPy (.lst [d, d])).shown) := by
    show (if (D.isSeq (.lst [d, d]) && reprOk (.lst [d, d])) = true then some _ else none) = _
    rw [h]; rfl
  rw [e]; exact Iff.rfl
theorem cm_neS {s : Str} {QB : Bool → Prop} (h : PyData.strOk s = true) : cmS (cmpD .NotEq (.str s) (.str s)) QB ↔ QB false := by
  have hk : (D.str s).okd = true := by
    show D.lay (59 + 1) (.str s) = true
    rw [D.lay]; exact h
  rw [cm_ne hk hk]
  have : D.same (.str s) (.str s) = true := by show (s == s) = true; simp
  rw [this]; exact Iff.rfl
theorem op_mul2 {x : D} {Q : D → Prop} : opS (binD .Mult (.lst [x]) (.int 2)) Q ↔ Q (.lst [x, x]) := Iff.rfl
end K03
end
section
set_option Elab.async false
set_option linter.all false
set_option maxRecDepth 100000
set_option maxHeartbeats 4000000
namespace K03
open PySem DL
local macro_rules | `(tactic| walk_at "ev") => `(tactic| try simp only [↓e_con, ↓e_var, ↓e_mv, ↓e_bin, ↓e_neg, ↓e_cmp, ↓e_cmp2, ↓e_and, ↓e_or, ↓e_not, ↓e_ite, ↓e_tup, ↓e_lst, ↓e_dic, ↓e_ix, ↓e_sl, ↓e_fld, ↓e_call, ↓e_callk, ↓e_callv, ↓e_calls, ↓e_new, ↓e_isi, ↓e_caught, ↓e_bi, ↓e_mth, ↓e_mthx, ↓es_nil, ↓es_cons, ↓i_on, ↓i_rng, ↓i_enu, ↓i_rv, ↓i_zp, ↓e_comp, ↓s_nm, ↓s_tp, ↓s_par, ↓s_setx, ↓s_setxx, ↓s_setf, ↓s_ex, ↓s_ret, ↓s_ite, ↓s_brk, ↓s_cnt, ↓s_pss, ↓s_rais, ↓ss_nil, ↓ss_cons,
  imm_non, imm_bl, imm_int, imm_str, imm_fn, imm_exn, imm_scr, imm_tup, imm_lst, imm_dct, imm_obj, immL_nil, immL_cons, immL_ints, imm_tupI, immL_tupI,
  flat_non, flat_bl, flat_int, flat_str, flat_tup, flat_tupI, flat_lst, Pv.of, w_own, w_shr, w_bor, nb_own, nb_shr, nb_bor, nobor_nil, nobor_cons, beq_oo, beq_so, beq_bo, bne_ob, bne_sb, bne_bb, keepS,
  ev_some, set_own, set_shr, setAll_nil, setAll_cons, setTg_nm, setTg_tp, setTp_nil, setTp_cons, rd_ow, rd_sh, mv_ow, mv_sh, ow_ow, isun_ow, isun_sh, bl_bl, wipe_nil, wipe_cons, slImm_un, slImm_sh, slImm_ow,
  callo_own, call_shr, call_exc, calls_own, calls_shr, new_ok, fn_some, fn_sh, fn_ow, op_some, DL.op_add, DL.op_sub, DL.op_mul, op_div, DL.op_mod, DL.op_pow, op_addl, op_addt, op_adds, cm_lt, cm_le, cm_gt, cm_ge, cm_is, cm_isnot,
  okd_int, okd_bl, okd_non, okd_tupI, okd_lI, okd_lT, okd_tT, okd_lL, okd_nil, okd_tnil, cm_eqi, cm_nei, cm_ini, cm_notini, cm_inti, cm_notinti, cm_inlt, cm_notinlt, cm_intt, cm_notintt,
  bi_len_l, bi_len_t, bi_len_s, bi_int, bi_abs, bi_min2, bi_max2, bi_list_l, bi_list_t, bi_tuple_l, bi_tuple_t, bi_sum, m_append, m_extend, lt_some, it_lst_nb, it_tup_nb, it_scr,
  stD_left, stD_turn, stD_great, stD_cells, stD_setleft, stD_setturn, stD_setgreat, stD_imm, stD_lst, sz_def, op_addtI,  bi_lenT,  cm_notT,  it_tT, it_lT, it_lI, it_tupI,  pt_non, pt_con, pt_var, pt_bin, pt_calls, isTup_tup, isTup_lst,  is_ii, is_ib, is_tt, is_net, is_hung, D.int.injEq, exists_eq_left, exists_eq_left', cm_lttt, cm_neI0, cm_eqI0, cm_neT0, cm_eqT0, cm_eqt0, m_pop0, isLst_lst, aok_nil, aok_own,
  Ex.mods, Exs.mods, It.mods, Tg.slots, Sts.mods, St.mods, wipeS, backS, ite_true, ite_false, if_true, if_false, reduceIte, Bool.false_eq_true, Bool.true_eq_false, List.getD_cons_zero, List.getD_cons_succ, List.set_cons_zero, List.set_cons_succ, List.contains_cons, List.contains_nil, List.all_cons, List.all_nil, List.append_nil, List.nil_append, List.cons_append,
  Bool.not_true, Bool.not_false, Bool.and_true, Bool.true_and, Bool.and_false, Bool.false_and, Bool.or_false, Bool.false_or, Bool.or_true, Bool.true_or, beq_self_eq_true, Nat.reduceBEq, Nat.reduceEqDiff, true_and, and_true, true_implies, false_implies, List.not_mem_nil, List.mem_cons, List.mem_singleton, not_false_eq_true, not_true_eq_false, or_false, false_or, reduceCtorEq, Nat.reduceAdd, Nat.reduceSub, decide_true, decide_false])
local macro_rules | `(tactic| walk_at "ew") => `(tactic| try simp only [↓e_con, ↓e_var, ↓e_mv, ↓e_bin, ↓e_neg, ↓e_cmp, ↓e_cmp2, ↓e_and, ↓e_or, ↓e_not, ↓e_tup, ↓e_lst, ↓e_dic, ↓e_ix, ↓e_sl, ↓e_fld, ↓e_call, ↓e_callk, ↓e_callv, ↓e_calls, ↓e_new, ↓e_isi, ↓e_caught, ↓e_bi, ↓e_mth, ↓e_mthx, ↓es_nil, ↓es_cons, ↓i_on, ↓i_rng, ↓i_enu, ↓i_rv, ↓i_zp, ↓e_comp, ↓s_nm, ↓s_tp, ↓s_par, ↓s_setx, ↓s_setxx, ↓s_setf, ↓s_ex, ↓s_ret, ↓s_ite, ↓s_brk, ↓s_cnt, ↓s_pss, ↓s_rais, ↓ss_nil, ↓ss_cons,
  imm_non, imm_bl, imm_int, imm_str, imm_fn, imm_exn, imm_scr, imm_tup, imm_lst, imm_dct, imm_obj, immL_nil, immL_cons, immL_ints, imm_tupI, immL_tupI,
  flat_non, flat_bl, flat_int, flat_str, flat_tup, flat_tupI, flat_lst, Pv.of, w_own, w_shr, w_bor, nb_own, nb_shr, nb_bor, nobor_nil, nobor_cons, beq_oo, beq_so, beq_bo, bne_ob, bne_sb, bne_bb, keepS,
  ev_some, set_own, set_shr, setAll_nil, setAll_cons, setTg_nm, setTg_tp, setTp_nil, setTp_cons, rd_ow, rd_sh, mv_ow, mv_sh, ow_ow, isun_ow, isun_sh, bl_bl, wipe_nil, wipe_cons, slImm_un, slImm_sh, slImm_ow,
  callo_own, call_shr, call_exc, calls_own, calls_shr, new_ok, fn_some, fn_sh, fn_ow, op_some, DL.op_add, DL.op_sub, DL.op_mul, op_div, DL.op_mod, DL.op_pow, op_addl, op_addt, op_adds, cm_lt, cm_le, cm_gt, cm_ge, cm_is, cm_isnot,
  okd_int, okd_bl, okd_non, okd_tupI, okd_lI, okd_lT, okd_tT, okd_lL, okd_nil, okd_tnil, cm_eqi, cm_nei, cm_ini, cm_notini, cm_inti, cm_notinti, cm_inlt, cm_notinlt, cm_intt, cm_notintt,
  bi_len_l, bi_len_t, bi_len_s, bi_int, bi_abs, bi_min2, bi_max2, bi_list_l, bi_list_t, bi_tuple_l, bi_tuple_t, bi_sum, m_append, m_extend, lt_some, it_lst_nb, it_tup_nb, it_scr,
  stD_left, stD_turn, stD_great, stD_cells, stD_setleft, stD_setturn, stD_setgreat, stD_imm, stD_lst, sz_def, op_addtI,  bi_lenT,  cm_notT,  it_tT, it_lT, it_lI, it_tupI,  pt_non, pt_con, pt_var, pt_bin, pt_calls, isTup_tup, isTup_lst,  is_ii, is_ib, is_tt, is_net, is_hung, D.int.injEq, exists_eq_left, exists_eq_left', cm_lttt, cm_neI0, cm_eqI0, cm_neT0, cm_eqT0, cm_eqt0, m_pop0, isLst_lst, aok_nil, aok_own,
  Ex.mods, Exs.mods, It.mods, Tg.slots, Sts.mods, St.mods, wipeS, backS, ite_true, ite_false, if_true, if_false, reduceIte, Bool.false_eq_true, Bool.true_eq_false, List.getD_cons_zero, List.getD_cons_succ, List.set_cons_zero, List.set_cons_succ, List.contains_cons, List.contains_nil, List.all_cons, List.all_nil, List.append_nil, List.nil_append, List.cons_append,
  Bool.not_true, Bool.not_false, Bool.and_true, Bool.true_and, Bool.and_false, Bool.false_and, Bool.or_false, Bool.false_or, Bool.or_true, Bool.true_or, beq_self_eq_true, Nat.reduceBEq, Nat.reduceEqDiff, true_and, and_true, true_implies, false_implies, List.not_mem_nil, List.mem_cons, List.mem_singleton, not_false_eq_true, not_true_eq_false, or_false, false_or, reduceCtorEq, Nat.reduceAdd, Nat.reduceSub, decide_true, decide_false])
local macro_rules | `(tactic| walk_at "en") => `(tactic| try simp only [↓e_con, ↓e_var, ↓e_mv, ↓e_bin, ↓e_neg, ↓e_cmp, ↓e_cmp2, ↓e_or, ↓e_not, ↓e_ite, ↓e_tup, ↓e_lst, ↓e_dic, ↓e_ix, ↓e_sl, ↓e_fld, ↓e_call, ↓e_callk, ↓e_callv, ↓e_calls, ↓e_new, ↓e_isi, ↓e_caught, ↓e_bi, ↓e_mth, ↓e_mthx, ↓es_nil, ↓es_cons, ↓i_on, ↓i_rng, ↓i_enu, ↓i_rv, ↓i_zp, ↓e_comp, ↓s_nm, ↓s_tp, ↓s_par, ↓s_setx, ↓s_setxx, ↓s_setf, ↓s_ex, ↓s_ret, ↓s_ite, ↓s_brk, ↓s_cnt, ↓s_pss, ↓s_rais, ↓ss_nil, ↓ss_cons,
  imm_non, imm_bl, imm_int, imm_str, imm_fn, imm_exn, imm_scr, imm_tup, imm_lst, imm_dct, imm_obj, immL_nil, immL_cons, immL_ints, imm_tupI, immL_tupI,
  flat_non, flat_bl, flat_int, flat_str, flat_tup, flat_tupI, flat_lst, Pv.of, w_own, w_shr, w_bor, nb_own, nb_shr, nb_bor, nobor_nil, nobor_cons, beq_oo, beq_so, beq_bo, bne_ob, bne_sb, bne_bb, keepS,
  ev_some, set_own, set_shr, setAll_nil, setAll_cons, setTg_nm, setTg_tp, setTp_nil, setTp_cons, rd_ow, rd_sh, mv_ow, mv_sh, ow_ow, isun_ow, isun_sh, bl_bl, wipe_nil, wipe_cons, slImm_un, slImm_sh, slImm_ow,
  callo_own, call_shr, call_exc, calls_own, calls_shr, new_ok, fn_some, fn_sh, fn_ow, op_some, DL.op_add, DL.op_sub, DL.op_mul, op_div, DL.op_mod, DL.op_pow, op_addl, op_addt, op_adds, cm_lt, cm_le, cm_gt, cm_ge, cm_is, cm_isnot,
  okd_int, okd_bl, okd_non, okd_tupI, okd_lI, okd_lT, okd_tT, okd_lL, okd_nil, okd_tnil, cm_eqi, cm_nei, cm_ini, cm_notini, cm_inti, cm_notinti, cm_inlt, cm_notinlt, cm_intt, cm_notintt,
  bi_len_l, bi_len_t, bi_len_s, bi_int, bi_abs, bi_min2, bi_max2, bi_list_l, bi_list_t, bi_tuple_l, bi_tuple_t, bi_sum, m_append, m_extend, lt_some, it_lst_nb, it_tup_nb, it_scr,
  stD_left, stD_turn, stD_great, stD_cells, stD_setleft, stD_setturn, stD_setgreat, stD_imm, stD_lst, sz_def, op_addtI,  bi_lenT,  cm_notT,  it_tT, it_lT, it_lI, it_tupI,  pt_non, pt_con, pt_var, pt_bin, pt_calls, isTup_tup, isTup_lst,  is_ii, is_ib, is_tt, is_net, is_hung, D.int.injEq, exists_eq_left, exists_eq_left', cm_lttt, cm_neI0, cm_eqI0, cm_neT0, cm_eqT0, cm_eqt0, m_pop0, isLst_lst, aok_nil, aok_own,
  Ex.mods, Exs.mods, It.mods, Tg.slots, Sts.mods, St.mods, wipeS, backS, ite_true, ite_false, if_true, if_false, reduceIte, Bool.false_eq_true, Bool.true_eq_false, List.getD_cons_zero, List.getD_cons_succ, List.set_cons_zero, List.set_cons_succ, List.contains_cons, List.contains_nil, List.all_cons, List.all_nil, List.append_nil, List.nil_append, List.cons_append,
  Bool.not_true, Bool.not_false, Bool.and_true, Bool.true_and, Bool.and_false, Bool.false_and, Bool.or_false, Bool.false_or, Bool.or_true, Bool.true_or, beq_self_eq_true, Nat.reduceBEq, Nat.reduceEqDiff, true_and, and_true, true_implies, false_implies, List.not_mem_nil, List.mem_cons, List.mem_singleton, not_false_eq_true, not_true_eq_false, or_false, false_or, reduceCtorEq, Nat.reduceAdd, Nat.reduceSub, decide_true, decide_false])
local macro_rules | `(tactic| walk_at "es") => `(tactic| try simp only [↓e_con, ↓e_var, ↓e_mv, ↓e_bin, ↓e_neg, ↓e_cmp, ↓e_cmp2, ↓e_and, ↓e_or, ↓e_not, ↓e_ite, ↓e_tup, ↓e_lst, ↓e_dic, ↓e_ix, ↓e_sl, ↓e_fld, ↓e_call, ↓e_callk, ↓e_callv, ↓e_calls, ↓e_new, ↓e_isi, ↓e_caught, ↓e_bi, ↓e_mth, ↓e_mthx, ↓es_nil, ↓es_cons, ↓i_on, ↓i_rng, ↓i_enu, ↓i_rv, ↓i_zp, ↓e_comp, ↓s_nm, ↓s_tp, ↓s_par, ↓s_setx, ↓s_setxx, ↓s_setf, ↓s_ex, ↓s_ret, ↓s_brk, ↓s_cnt, ↓s_pss, ↓s_rais, ↓ss_nil, ↓ss_cons,
  imm_non, imm_bl, imm_int, imm_str, imm_fn, imm_exn, imm_scr, imm_tup, imm_lst, imm_dct, imm_obj, immL_nil, immL_cons, immL_ints, imm_tupI, immL_tupI,
  flat_non, flat_bl, flat_int, flat_str, flat_tup, flat_tupI, flat_lst, Pv.of, w_own, w_shr, w_bor, nb_own, nb_shr, nb_bor, nobor_nil, nobor_cons, beq_oo, beq_so, beq_bo, bne_ob, bne_sb, bne_bb, keepS,
  ev_some, set_own, set_shr, setAll_nil, setAll_cons, setTg_nm, setTg_tp, setTp_nil, setTp_cons, rd_ow, rd_sh, mv_ow, mv_sh, ow_ow, isun_ow, isun_sh, bl_bl, wipe_nil, wipe_cons, slImm_un, slImm_sh, slImm_ow,
  callo_own, call_shr, call_exc, calls_own, calls_shr, new_ok, fn_some, fn_sh, fn_ow, op_some, DL.op_add, DL.op_sub, DL.op_mul, op_div, DL.op_mod, DL.op_pow, op_addl, op_addt, op_adds, cm_lt, cm_le, cm_gt, cm_ge, cm_is, cm_isnot,
  okd_int, okd_bl, okd_non, okd_tupI, okd_lI, okd_lT, okd_tT, okd_lL, okd_nil, okd_tnil, cm_eqi, cm_nei, cm_ini, cm_notini, cm_inti, cm_notinti, cm_inlt, cm_notinlt, cm_intt, cm_notintt,
  bi_len_l, bi_len_t, bi_len_s, bi_int, bi_abs, bi_min2, bi_max2, bi_list_l, bi_list_t, bi_tuple_l, bi_tuple_t, bi_sum, m_append, m_extend, lt_some, it_lst_nb, it_tup_nb, it_scr,
  stD_left, stD_turn, stD_great, stD_cells, stD_setleft, stD_setturn, stD_setgreat, stD_imm, stD_lst, sz_def, op_addtI,  bi_lenT,  cm_notT,  it_tT, it_lT, it_lI, it_tupI,  pt_non, pt_con, pt_var, pt_bin, pt_calls, isTup_tup, isTup_lst,  is_ii, is_ib, is_tt, is_net, is_hung, D.int.injEq, exists_eq_left, exists_eq_left', cm_lttt, cm_neI0, cm_eqI0, cm_neT0, cm_eqT0, cm_eqt0, m_pop0, isLst_lst, aok_nil, aok_own,
  Ex.mods, Exs.mods, It.mods, Tg.slots, Sts.mods, St.mods, wipeS, backS, ite_true, ite_false, if_true, if_false, reduceIte, Bool.false_eq_true, Bool.true_eq_false, List.getD_cons_zero, List.getD_cons_succ, List.set_cons_zero, List.set_cons_succ, List.contains_cons, List.contains_nil, List.all_cons, List.all_nil, List.append_nil, List.nil_append, List.cons_append,
  Bool.not_true, Bool.not_false, Bool.and_true, Bool.true_and, Bool.and_false, Bool.false_and, Bool.or_false, Bool.false_or, Bool.or_true, Bool.true_or, beq_self_eq_true, Nat.reduceBEq, Nat.reduceEqDiff, true_and, and_true, true_implies, false_implies, List.not_mem_nil, List.mem_cons, List.mem_singleton, not_false_eq_true, not_true_eq_false, or_false, false_or, reduceCtorEq, Nat.reduceAdd, Nat.reduceSub, decide_true, decide_false])
local macro_rules | `(tactic| walk_at "ef") => `(tactic| try simp only [↓e_con, ↓e_var, ↓e_mv, ↓e_bin, ↓e_neg, ↓e_cmp, ↓e_cmp2, ↓e_and, ↓e_or, ↓e_not, ↓e_ite, ↓e_tup, ↓e_lst, ↓e_dic, ↓e_ix, ↓e_sl, ↓e_fld, ↓e_call, ↓e_callk, ↓e_callv, ↓e_calls, ↓e_new, ↓e_isi, ↓e_caught, ↓e_bi, ↓e_mth, ↓e_mthx, ↓es_nil, ↓es_cons, ↓i_on, ↓i_rng, ↓i_enu, ↓i_rv, ↓i_zp, ↓e_comp, ↓s_nm, ↓s_tp, ↓s_par, ↓s_setx, ↓s_setxx, ↓s_setf, ↓s_ex, ↓s_ret, ↓s_ite, ↓s_brk, ↓s_cnt, ↓s_pss, ↓s_rais, ↓ss_nil, ↓ss_cons,
  imm_non, imm_bl, imm_int, imm_str, imm_fn, imm_exn, imm_scr, imm_tup, imm_lst, imm_dct, imm_obj, immL_nil, immL_cons, immL_ints, imm_tupI, immL_tupI,
  flat_non, flat_bl, flat_int, flat_str, flat_tup, flat_tupI, flat_lst, Pv.of, w_own, w_shr, w_bor, nb_own, nb_shr, nb_bor, nobor_nil, nobor_cons, beq_oo, beq_so, beq_bo, bne_ob, bne_sb, bne_bb, keepS,
  ev_some, set_own, set_shr, setAll_nil, setAll_cons, setTg_nm, setTg_tp, setTp_nil, setTp_cons, rd_ow, rd_sh, mv_ow, mv_sh, ow_ow, isun_ow, isun_sh, bl_bl, wipe_nil, wipe_cons, slImm_un, slImm_sh, slImm_ow,
  callo_own, call_shr, call_exc, calls_own, calls_shr, new_ok, fn_some, fn_sh, fn_ow, op_some, DL.op_add, DL.op_sub, DL.op_mul, op_div, DL.op_mod, DL.op_pow, op_addl, op_addt, op_adds, cm_lt, cm_le, cm_gt, cm_ge, cm_is, cm_isnot,
  okd_int, okd_bl, okd_non, okd_tupI, okd_lI, okd_lT, okd_tT, okd_lL, okd_nil, okd_tnil, cm_eqi, cm_nei, cm_ini, cm_notini, cm_inti, cm_notinti, cm_inlt, cm_notinlt, cm_intt, cm_notintt,
  bi_len_l, bi_len_t, bi_len_s, bi_int, bi_abs, bi_min2, bi_max2, bi_list_l, bi_list_t, bi_tuple_l, bi_tuple_t, bi_sum, m_append, m_extend, lt_some, it_lst_nb, it_tup_nb, it_scr,
  stD_left, stD_turn, stD_great, stD_cells, stD_setleft, stD_setturn, stD_setgreat, stD_imm, stD_lst, sz_def, op_addtI,  bi_lenT,  cm_notT,  it_tT, it_lT, it_lI, it_tupI,  pt_non, pt_con, pt_var, pt_bin, pt_calls, isTup_tup, isTup_lst,  is_ii, is_ib, is_tt, is_net, is_hung, D.int.injEq, exists_eq_left, exists_eq_left', cm_lttt, cm_neI0, cm_eqI0, cm_neT0, cm_eqT0, cm_eqt0, m_pop0, isLst_lst, aok_nil, aok_own,
  Ex.mods, Exs.mods, It.mods, Tg.slots, Sts.mods, St.mods, wipeS, backS, ite_true, ite_false, if_true, if_false, reduceIte, Bool.false_eq_true, Bool.true_eq_false, List.getD_cons_zero, List.getD_cons_succ, List.set_cons_zero, List.set_cons_succ, List.all_cons, List.all_nil, List.append_nil, List.nil_append, List.cons_append,
  Bool.not_true, Bool.not_false, Bool.and_true, Bool.true_and, Bool.and_false, Bool.false_and, Bool.or_false, Bool.false_or, Bool.or_true, Bool.true_or, beq_self_eq_true, Nat.reduceBEq, Nat.reduceEqDiff, true_and, and_true, true_implies, false_implies, List.not_mem_nil, List.mem_cons, List.mem_singleton, not_false_eq_true, not_true_eq_false, or_false, false_or, reduceCtorEq, Nat.reduceAdd, Nat.reduceSub, decide_true, decide_false])
theorem full_sm {m : Int} {ts : List (List Int)} (ht : Ties m ts) (hm2 : m ≤ 16) : ∀ Q ∈ fullS m ts, Sm Q := fun Q hQ => by
  have h := ((fullS_mem ht Q).mp hQ).1
  have h2 := CL.clq_len h
  refine ⟨by omega, fun x hx => ?_⟩
  have := CL.mem_rng.mp (h.1.subset hx)
  omega
theorem hit {m : Int} {ts : List (List Int)} (ht : Ties m ts) {a b : Int} (h : [a, b] ∈ ts) : ∃ Q ∈ fullS m ts, a ∈ Q ∧ b ∈ Q := by
  obtain ⟨c, d, e, h0, h1, h2⟩ := ht.pair _ h
  simp only [List.cons.injEq, and_true] at e
  obtain ⟨rfl, rfl⟩ := e
  have hc : CL.Clq (adj ts) m.toNat [a, b] := by
    refine ⟨CL.sub_asc.mpr ⟨?_, ?_⟩, ?_⟩
    · simp; omega
    · intro x hx; simp at hx; omega
    · simp [adj, h]
  obtain ⟨R, h3, h4, h5⟩ := CL.full_ext (adj_und ht) (m.toNat) [a, b] hc (by omega)
  exact ⟨R, (fullS_mem ht R).mpr ⟨h3, h4⟩, h5 a (by simp), h5 b (by simp)⟩
theorem math (ns : List Int) (hl : ns.length ≤ 63) (hb : ∀ z ∈ ns, Builtin.Int.intBits z ≤ 1048576) : callF GamZ (39 + 1) "law" [.scr ns] = .ret (.bl true) .own [] := by
  refine ret_of ?_
  obtain ⟨d0, hd0, hc0⟩ := begun (n := 38) hl hb
  rw [go (fn := fn_law) (by rfl)]
  refine run_no (by rfl) (by rfl) ?_
  show (execs [] _ fn_law.body [.sh (.scr ns), .un, .un, .un, .un, .un, .un, .un, .un, .un, .un, .un, .un, .un, .un]).sat _
  unfold fn_law
  dsimp only
  have hsz := sz_def
  have hc0' : callF GamZ 39 "_law_begun" [.scr ns] = _ := hc0
  walk_at "ew"
  rw [hc0']
  walk_at "ew"
  generalize hz : (if 5 < (ns.length : Int) then 5 else (ns.length : Int)) = z
  have hz1 : 0 ≤ z ∧ z ≤ 5 := by rw [← hz]; split <;> omega
  refine for_map (fun k : Nat => .int k) (List.range (3 + z).toNat) (fun pre post e => ∃ d s2 s3 s4 s5 s6 s7 s8 s9 s10 s11, e = [.sh (.scr ns), .ow d, s2, s3, s4, s5, s6, s7, s8, s9, s10, s11, .un, .un, .un] ∧ StOk (5000 * pre.length) d) ?_ ?_ ?_
  · walk_at "ew"
    rw [hz]
    rw [rng_1 (rng62_ok (by omega) (by omega))]
    exact ⟨rfl, d0, _, _, _, _, _, _, _, _, _, _, rfl, by simpa using hd0⟩
  · intro pre x post e hx hI
    obtain ⟨d, s2, s3, s4, s5, s6, s7, s8, s9, s10, s11, he, hd⟩ := hI
    subst he
    have hpx := (range_at hx).1
    have hxm := (range_at hx).2
    walk_at "ew"
    refine Res.sat_mono (Q := fun v p e1 => ∃ m ts d', v = .tup [.int m, tT ts] ∧ p = .own ∧ e1 = [.sh (.scr ns), .ow d', .sh (.int x), s3, s4, s5, s6, s7, s8, s9, s10, s11, .un, .un, .un] ∧ 1 ≤ m ∧ m ≤ 16 ∧ Ties m ts ∧ StOk (5000 * pre.length + 3000) d') ?_ ?_
    · walk_at "ev"
      refine ⟨fun _ => ?_, fun _ => ?_⟩
      · refine pickI (n := 36) (xs := [4, 9, 16]) (by omega) hd (by simp) (by simp) fun mo d1 hmo hd1 => ?_
        have hmo2 : 1 ≤ mo ∧ mo ≤ 16 := by simp at hmo; omega
        obtain ⟨m, ts, d2, h1, h2, h3, h4, hc⟩ := nt_net (n := 34) (by omega) hd1 hmo2.1 hmo2.2
        have hc' : callF GamZ 39 "_law_nt_net" [d1, .int mo] = _ := hc
        walk_at "ev"
        rw [hc']
        walk_at "ev"
        exact ⟨m, ts, d2, rfl, rfl, h1, h2, h3, h4.mono (by omega)⟩
      · obtain ⟨m, ts, d2, h1, h2, h3, h4, hc⟩ := many (n := 35) (by omega) hd
        have hc' : callF GamZ 39 "_law_k03_many" [d] = _ := hc
        rw [hc']
        walk_at "ev"
        exact ⟨m, ts, d2, rfl, rfl, h1, h2, h3, h4.mono (by omega)⟩
    · rintro v p e1 ⟨m, ts, d', rfl, rfl, rfl, hm1, hm2, ht, hd'⟩
      have hnew : callF GamZ 39 "Net" [.obj "Net" [] [], .int m, tT ts] = _ := net_init (n := 35) hm1 hm2 ht (ties_len ht hm2)
      have hfull : callF GamZ 39 "full_cliques" [netD m ts] = _ := full (n := 21) hm1 hm2 ht
      have hnh : callF GamZ 39 "_law_nh_full" [.int m, tT ts] = _ := nh_full (n := 37) hm1 hm2 ht
      obtain ⟨L, Lr, hL⟩ := List.exists_cons_of_ne_nil (longs_ne (fullS_ne ht))
      have hL0 : (longs (fullS m ts))[0]? = some L := by rw [hL]; rfl
      have hlarge : callF GamZ 39 "largest_clique" [netD m ts] = _ := largest (n := 20) hm1 hm2 ht L hL0
      have hp2 : permD .non [0, 1] [.int m, tT ts] = [.int m, tT ts] := rfl
      have hp1 : permD .non [0] [netD m ts] = [netD m ts] := rfl
      have hflen := fullS_len ht hm2
      have hr1 := two_ok (d := tT (fullS m ts)) (lay_map (k := 58) fun _ => lay_tupI) (sm_tT hflen (full_sm ht hm2))
      have hLm : L ∈ fullS m ts := by
        have : L ∈ longs (fullS m ts) := by rw [hL]; simp
        exact (List.mem_filter.mp this).1
      have hLs := sm_tup (full_sm ht hm2 L hLm)
      have hr2 := two_ok (d := tupI L) lay_tupI ⟨by omega, hLs.2⟩
      walk_at "es"
      rw [hp2, hnew]
      walk_at "es"
      rw [hnh]
      walk_at "es"
      refine ⟨rfl, ?_⟩
      walk_at "ev"
      rw [hfull]
      walk_at "ev"
      refine ⟨rfl, ?_⟩
      rw [hp1, hfull]
      walk_at "ev"
      rw [bi_repr2 hr1.1]
      walk_at "ev"
      rw [op_mul2]
      walk_at "ev"
      rw [bi_repr2 hr1.1]
      walk_at "ev"
      rw [cm_neS hr1.2]
      walk_at "ev"
      refine DL.comp_map tupI (fullS m ts) (fun _ => true) (fun Q => .int (Q.length : Int)) (by omega) ?_ ?_
      · intro Q hQ
        walk_at "ev"
      walk_at "ev"
      rw [filT, bi_longest (fullS_ne ht)]
      walk_at "ev"
      refine DL.comp_map tupI (fullS m ts) (fun Q => decide ((Q.length : Int) = longest (fullS m ts))) tupI (by omega) ?_ ?_
      · intro Q hQ
        walk_at "ev"
        exact ⟨fun _ => trivial, fun _ => trivial⟩
      walk_at "ev"
      rw [ix_at (k := 0) (x := tupI L) (by omega) (by rw [List.getElem?_map]; show ((longs (fullS m ts))[0]?).map tupI = _; rw [hL]; rfl)]
      walk_at "ev"
      rw [hlarge]
      walk_at "ev"
      refine ⟨rfl, ?_⟩
      rw [hp1, hlarge]
      walk_at "ev"
      rw [bi_repr2 hr2.1]
      walk_at "ev"
      rw [op_mul2]
      walk_at "ev"
      rw [bi_repr2 hr2.1]
      walk_at "ev"
      rw [cm_neS hr2.2]
      walk_at "ev"
      have htl := ties_len ht hm2
      refine DL.comp_map tupI ts (fun _ => false) (fun _ => .int 1) (by omega) ?_ ?_
      · intro t htm
        obtain ⟨a, b, rfl, _⟩ := ht.pair t htm
        show evS (setTg _ _ _ (D.tup [.int a, .int b])) _
        walk_at "ev"
        refine DL.comp_map tupI (fullS m ts) (fun Q => decide (a ∈ Q) && decide (b ∈ Q)) (fun _ => .int 1) (by omega) ?_ ?_
        · intro Q hQ
          walk_at "ev"
          by_cases ha : a ∈ Q <;> by_cases hb : b ∈ Q <;> simp [ha, hb]
        · walk_at "ev"
          rw [cm_eqM fun _ => rfl]
          obtain ⟨Q, hQ, ha, hb⟩ := hit ht htm
          have hne : (fullS m ts).filter (fun Q => decide (a ∈ Q) && decide (b ∈ Q)) ≠ [] := fun e => by
            have : Q ∈ (fullS m ts).filter (fun Q => decide (a ∈ Q) && decide (b ∈ Q)) := List.mem_filter.mpr ⟨hQ, by simp [ha, hb]⟩
            rw [e] at this; simp at this
          rw [decide_eq_false hne]
          walk_at "ev"
      walk_at "ev"
      have hfil : (ts.filter fun _ => false).map (fun _ => D.int 1) = [] := by simp
      rw [hfil, cm_nenil okd_nil]
      walk_at "ev"
      obtain ⟨o, p, d2, ho, hp, hd2, hco⟩ := no_net (n := 35) (by omega) hd'
      have hco' : callF GamZ 39 "_law_nt_no_net" [d'] = _ := hco
      rw [hco']
      have hb1 : callF GamZ 39 "full_cliques" [o] = _ := bad_full (n := 37) ho
      have hb2 : callF GamZ 39 "largest_clique" [o] = _ := bad_largest (n := 37) ho
      have hkd : callF GamZ 39 "_law_nh_kind" [.exn "BadNet" [] []] = _ := kind (n := 38)
      rcases hp with rfl | rfl
      · walk_at "ev"
        refine for_map .fn [("full_cliques" : Str), "largest_clique"] (fun pre post e => ∃ s7, e = [.sh (.scr ns), .ow d2, .sh (.int x), .un, .ow (.int (longest (fullS m ts))), .ow (tupI L), .ow o, s7, .sh (.int m), .sh (tT ts), .ow (netD m ts), .ow (lT (fullS m ts)), .un, .un, .un]) ?_ ?_ ?_
        · walk_at "ev"
          rw [it_lst_nb rfl]
          exact ⟨rfl, _, rfl⟩
        · intro pre2 f post2 e hf hI
          obtain ⟨s7, he⟩ := hI
          subst he
          have hf2 : f ∈ [("full_cliques" : Str), "largest_clique"] := by rw [hf]; simp
          have hf3 : f = "full_cliques" ∨ f = "largest_clique" := by simpa using hf2
          have hbf : callF GamZ 39 f [o] = .exc ⟨"BadNet", [], []⟩ [] := by
            rcases hf3 with rfl | rfl
            · exact hb1
            · exact hb2
          have hct : [("full_cliques" : Str), "largest_clique"].contains f = true := by
            rcases hf3 with rfl | rfl <;> decide
          clear hf hf2 hf3
          walk_at "ef"
          rw [hbf]
          walk_at "ef"
          refine ⟨by rw [hct]; rfl, by split <;> rfl, rfl, ?_⟩
          rw [hkd]
          walk_at "ef"
          rw [cm_neS (by decide +kernel)]
          walk_at "ef"
          exact ⟨_, rfl⟩
        · intro e hI
          obtain ⟨s7, he⟩ := hI
          subst he
          walk_at "ev"
          exact ⟨d2, _, _, _, _, _, _, _, _, _, _, rfl, hd2.mono (by simp; omega)⟩
      · walk_at "ev"
        refine for_map .fn [("full_cliques" : Str), "largest_clique"] (fun pre post e => ∃ s7, e = [.sh (.scr ns), .ow d2, .sh (.int x), .un, .ow (.int (longest (fullS m ts))), .ow (tupI L), .sh o, s7, .sh (.int m), .sh (tT ts), .ow (netD m ts), .ow (lT (fullS m ts)), .un, .un, .un]) ?_ ?_ ?_
        · walk_at "ev"
          rw [it_lst_nb rfl]
          exact ⟨rfl, _, rfl⟩
        · intro pre2 f post2 e hf hI
          obtain ⟨s7, he⟩ := hI
          subst he
          have hf2 : f ∈ [("full_cliques" : Str), "largest_clique"] := by rw [hf]; simp
          have hf3 : f = "full_cliques" ∨ f = "largest_clique" := by simpa using hf2
          have hbf : callF GamZ 39 f [o] = .exc ⟨"BadNet", [], []⟩ [] := by
            rcases hf3 with rfl | rfl
            · exact hb1
            · exact hb2
          have hct : [("full_cliques" : Str), "largest_clique"].contains f = true := by
            rcases hf3 with rfl | rfl <;> decide
          clear hf hf2 hf3
          walk_at "ef"
          rw [hbf]
          walk_at "ef"
          refine ⟨by rw [hct]; rfl, by split <;> rfl, rfl, ?_⟩
          rw [hkd]
          walk_at "ef"
          rw [cm_neS (by decide +kernel)]
          walk_at "ef"
          exact ⟨_, rfl⟩
        · intro e hI
          obtain ⟨s7, he⟩ := hI
          subst he
          walk_at "ev"
          exact ⟨d2, _, _, _, _, _, _, _, _, _, _, rfl, hd2.mono (by simp; omega)⟩
  · intro e hI
    obtain ⟨d, s2, s3, s4, s5, s6, s7, s8, s9, s10, s11, he, hd⟩ := hI
    subst he
    walk_at "ew"
end K03
end
section
set_option Elab.async false
set_option linter.all false
set_option maxRecDepth 100000
set_option maxHeartbeats 0
namespace K03
open PySem PySem.Spec PyProof.Rows DL L2
abbrev hk : PySem.W.Hook := He.hookX 5 tZ.fa tZ.fns [] tZ.tf tZ.ex
def ob (s : PySem.W.SharedT) : He.AlX := He.obsX 5 tZ.fa tZ.fns [] tZ.tf tZ.ex (HandSHeadRun.getT s)
theorem ob_eq (s : PySem.W.SharedT) : ob s = hk.obs s.abs := He.obsX_eq (HandSHeadRun.getT_eq s)
theorem run (w : World) : HandSHeadRun.RunEq Ro (PySem.W.view Ro.prog [40]) hk ob 20000 tLoose w := by
  intro os
  kernel_rfl
end K03
end
section
set_option Elab.async false
set_option linter.all false
set_option maxRecDepth 100000
set_option maxHeartbeats 0
namespace K03
open PySem PySem.Spec PyProof.Rows DL L2
theorem kwok : KwOk tZ := by
  refine ⟨fun x ks π h D hD => ?_, fun x ks π h D hD => ?_⟩
  · have h : (x, ks, π) ∈ ([("full_cliques", ["net"], [0]), ("largest_clique", ["net"], [0])] : List (Str × List Str × List Nat)) := h
    simp only [List.mem_cons, List.not_mem_nil, or_false, Prod.mk.injEq] at h
    rcases h with ⟨rfl, rfl, rfl⟩ | ⟨rfl, rfl, rfl⟩
    · have e : tZ.DelZ.lookup ("full_cliques" : Str) = some df_full_cliques := by rfl
      rw [e] at hD
      cases hD
      intro kV doc pm an cdv ct us ws h1 h2
      match us, ws, h1, h2 with
      | [], [_], _, _ => rfl
    · have e : tZ.DelZ.lookup ("largest_clique" : Str) = some df_largest_clique := by rfl
      rw [e] at hD
      cases hD
      intro kV doc pm an cdv ct us ws h1 h2
      match us, ws, h1, h2 with
      | [], [_], _, _ => rfl
  · cases h
end K03
open PySem PySem.W PySem.Calls PyProof.Rows
theorem PySem.Challenge.cw_treehung_k03_whole_full_and_largest_cliq_holds : PySem.Challenge.rw_treehung_k03_whole_full_and_largest_cliq.Holds := by
  w_on; o_law
  refine HandSHeadRun.head_any (r := K03.Ro) (q := view K03.Ro.prog [40]) (H := K03.hk) (ob := K03.ob) (M := 20000) (loose := K03.tLoose) (d := HandSHeadRun.topDef K03.Ro.prog 40) (kwd := []) K03.ob_eq
    (by kernel_rfl) (fun s => by kernel_rfl) K03.run (by kernel_rfl) (by kernel_rfl) (by kernel_rfl) (by rfl) (by first | assumption | decide +kernel) (by decide +kernel) ⟨rfl, rfl, rfl, rfl, rfl, by decide +kernel⟩ ?hw ?hc
  case hw => w_witness2
  case hc => exact DL.law_walk (m := 63) (lv := 39) (by rfl) (by decide) (by kernel_rfl) (by kernel_rfl) K03.ok K03.kwok (by decide +kernel) (by decide) K03.math
end
