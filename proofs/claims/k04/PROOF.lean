import PyProof.Rows.All
import Wide.All
import OpenK.AllK
import Wide.FinOn
import HandS.ForMost
import HandS.Flow
import HandS.Style
import HandS.Wide
import HandS.TupAny
import HandS.Walk
import HandS.Zip
import HandS.Rev
import HandS.Deep
import HandS.Exc
import HandS.ExcOwn
import HandS.TryOnly
import HandS.CallSlots
import HandS.RaiseMore
import HandS.Defaults
import HandS.TupLe
import HandS.TupMul
import HandS.IsInst
import PyProof.ListStr
import HandS.Conv
import KE.KUnpackStar
import KE.GoesMore
import HandS.Steps
import HandS.Codes
import HandS.DictComp
import HandS.ExcInit
import HandS.ExcField
import HandS.ExcIs
import KE.KExcIs
import KE.KIsAll
import HandS.HeadHook1
import HandS.HeadHook2
import HandS.Ends
import HandS.HeadEnd
import PyProof.StrLawsRepr
import HandS.Head0
import HandS.Head1
import HandS.Head2
import HandS.Words
import PySem.Challenge.RW_pagesofproofs_k04_changes_beside_one_ano
set_option Elab.async false
set_option linter.all false
set_option maxRecDepth 100000
set_option maxHeartbeats 0
namespace DI
open PySem

/-- a value: pure data, or a live object of the evaluator's heap -/
inductive D where
  | non | bl (b : Bool) | int (i : Int) | str (x : List Nat)
  | tup (xs : List D)
  /-- a list that nobody changes any more -/
  | lv (xs : List D)
  /-- the same, known to the world by its very object (the script) -/
  | fz (xs : List D)
  /-- a dict, a set that nobody changes any more -/
  | dv (ks vs : List D) | sv (xs : List D)
  /-- a live object -/
  | ref (n : Nat)
  /-- a class of the text, a builtin class -/
  | cls (c : Nat) | ty (n : String)
  deriving Inhabited

/-- a live object -/
inductive HD where
  | lst (xs : List D)
  | dic (ks vs : List D)
  | ins (c : Nat) (fs : List (Nat × D))
  deriving Inhabited
abbrev HH := List HD

/-- an exception: a class of the text by its number, or a builtin one; its field -/
inductive XC where
  | own (c : Nat) | blt (n : String)
  deriving Inhabited, DecidableEq
structure XV where
  cls : XC
  fld : Option D
  deriving Inhabited

inductive Rs (A : Type) where
  | ok (a : A) (H : HH)
  | ex (e : XV) (H : HH)
  | no
  deriving Inhabited
abbrev M (A : Type) := HH → Rs A
abbrev Sd := List (Option D)

def Rs.bind {A B : Type} (r : Rs A) (f : A → HH → Rs B) : Rs B := match r with
  | .ok a H => f a H
  | .ex e H => .ex e H
  | .no => .no
@[simp] theorem Rs.bind_ok {A B : Type} (a : A) (H : HH) (f : A → HH → Rs B) : (Rs.ok a H).bind f = f a H := rfl
@[simp] theorem Rs.bind_ex {A B : Type} (e : XV) (H : HH) (f : A → HH → Rs B) : (Rs.ex e H : Rs A).bind f = .ex e H := rfl
@[simp] theorem Rs.bind_no {A B : Type} (f : A → HH → Rs B) : (Rs.no : Rs A).bind f = .no := rfl
def Rs.ofO {A : Type} (o : Option A) (H : HH) : Rs A := match o with
  | some a => .ok a H
  | none => .no
@[simp] theorem Rs.ofO_some {A : Type} (a : A) (H : HH) : Rs.ofO (some a) H = .ok a H := rfl
@[simp] theorem Rs.ofO_none {A : Type} (H : HH) : Rs.ofO (none : Option A) H = .no := rfl

mutual
def eqD : D → D → Bool
  | .non, .non => true
  | .bl a, .bl b => a == b
  | .bl a, .int j => (if a then 1 else 0) == j
  | .int i, .bl b => i == (if b then 1 else 0)
  | .int i, .int j => i == j
  | .str x, .str y => x == y
  | .tup xs, .tup ys => eqDs xs ys
  | .lv xs, .lv ys => eqDs xs ys
  | _, _ => false
def eqDs : List D → List D → Bool
  | [], [] => true
  | x :: xs, y :: ys => eqD x y && eqDs xs ys
  | _, _ => false
end
mutual
/-- plain data: what == and repr take -/
def plainD : D → Bool
  | .non => true
  | .bl _ => true
  | .int _ => true
  | .str _ => true
  | .tup xs => plainDs xs
  | .lv xs => plainDs xs
  | _ => false
def plainDs : List D → Bool
  | [] => true
  | x :: xs => plainD x && plainDs xs
end
mutual
def depthD : D → Nat
  | .tup xs => depthDs xs + 1
  | .lv xs => depthDs xs + 1
  | _ => 0
def depthDs : List D → Nat
  | [] => 0
  | x :: xs => max (depthD x) (depthDs xs)
end
mutual
/-- the very same data -/
def same : D → D → Bool
  | .non, .non => true
  | .bl a, .bl b => a == b
  | .int i, .int j => i == j
  | .str x, .str y => x == y
  | .tup xs, .tup ys => sames xs ys
  | .lv xs, .lv ys => sames xs ys
  | .fz xs, .fz ys => sames xs ys
  | .dv ks vs, .dv ks' vs' => sames ks ks' && sames vs vs'
  | .sv xs, .sv ys => sames xs ys
  | .ref n, .ref m => n == m
  | .cls n, .cls m => n == m
  | .ty n, .ty m => n == m
  | _, _ => false
def sames : List D → List D → Bool
  | [], [] => true
  | x :: xs, y :: ys => same x y && sames xs ys
  | _, _ => false
end
mutual
/-- nothing live within -/
def noRef : D → Bool
  | .tup xs => noRefs xs
  | .lv xs => noRefs xs
  | .fz xs => noRefs xs
  | .dv ks vs => noRefs ks && noRefs vs
  | .sv xs => noRefs xs
  | .ref _ => false
  | _ => true
def noRefs : List D → Bool
  | [] => true
  | x :: xs => noRef x && noRefs xs
end
end DI
namespace DI
open PySem

abbrev lim : Nat := 16777216
theorem lim_eq : lim = sizeLine := PySem.sizeLine_eq.symm

/-- a live list or dict as the data that it is now -/
def viewD (H : HH) (d : D) : D := match d with
  | .ref r => match H[r]? with
    | some (.lst xs) => .lv xs
    | some (.dic ks vs) => .dv ks vs
    | _ => d
  | _ => d

def atD (xs : List D) (i : Int) : Option D := L2.atI xs i
def cutD {A : Type} (xs : List A) (lo hi : Option Int) : List A :=
  (xs.drop (HT.sIx xs.length 0 lo)).take (HT.sIx xs.length xs.length hi - HT.sIx xs.length 0 lo)
def smallI (i : Int) : Bool := decide (-(2 ^ 64) < i ∧ i < 2 ^ 64)

def binD (o : Operator) (x y : D) : Option D := match o with
  | .Add => match x, y with
    | .int i, .int j => some (.int (i + j))
    | .str a, .str b => if a.length + b.length ≤ lim then some (.str (a ++ b)) else none
    | .lv a, .lv b => if a.length + b.length ≤ lim then some (.lv (a ++ b)) else none
    | .tup a, .tup b => if a.length + b.length ≤ lim then some (.tup (a ++ b)) else none
    | _, _ => none
  | .Sub => match x, y with
    | .int i, .int j => some (.int (i - j))
    | _, _ => none
  | .Mult => match x, y with
    | .int i, .int j => if smallI i || smallI j then some (.int (i * j)) else none
    | .str a, .int j => if smallI (4 * j) && decide (a.length * j.toNat ≤ lim) then some (.str (List.replicate j.toNat a).flatten) else none
    | .lv a, .int j => if smallI (4 * j) && decide (a.length * j.toNat ≤ lim) then some (.lv (List.replicate j.toNat a).flatten) else none
    | .tup a, .int j => if a.isEmpty then none else if j = 0 then some (.tup []) else if j = 1 then some (.tup a) else none
    | _, _ => none
  | .FloorDiv => match x, y with
    | .int i, .int j => if decide (0 < j) && decide (j < 1073741824) then some (.int (i / j)) else none
    | _, _ => none
  | .Mod => match x, y with
    | .int i, .int j => if 0 < j then some (.int (i % j)) else none
    | _, _ => none
  | .Pow => match x, y with
    | .int i, .int j => if smallI i && decide (0 ≤ j) && decide (j ≤ 1000) && decide (i.natAbs < 2 ^ 64) then some (.int (i ^ j.toNat)) else none
    | _, _ => none
  | _ => none

mutual
/-- its texts are of signs that there are -/
def okS : D → Bool
  | .str x => x.all (· < 0x110000)
  | .tup xs => okSs xs
  | .lv xs => okSs xs
  | _ => true
def okSs : List D → Bool
  | [] => true
  | x :: xs => okS x && okSs xs
end
/-- may be compared by == -/
def eqOk (d : D) : Bool := plainD d && okS d && decide (depthD d ≤ 64)
def flatD : D → Bool
  | .non => true | .bl _ => true | .int _ => true | .str _ => true | _ => false

def inD (x y : D) : Option Bool := match y with
  | .lv ys => if eqOk x && eqOk (.lv ys) then some (ys.any fun z => eqD z x) else none
  | .tup ys => if flatD x && ys.all flatD then some (ys.any fun z => eqD z x) else none
  | .str z => match x with
    | .str [c] => some (decide (c ∈ z))
    | _ => none
  | _ => none
def eqO (x y : D) : Option Bool := match x, y with
  | .str a, .str b => some (a == b)
  | _, _ => if eqOk x && eqOk y then some (eqD x y) else none
/-- a list of whatever beside an empty one: by how many -/
def eqN (x y : D) : Option Bool := match x, y with
  | .lv xs, .lv [] => some xs.isEmpty
  | _, _ => eqO x y
def cmpD (o : CmpOp) (x y : D) : Option Bool := match o with
  | .Eq => eqN x y
  | .NotEq => (eqO x y).map (!·)
  | .Lt => match x, y with | .int i, .int j => some (decide (i < j)) | _, _ => none
  | .LtE => match x, y with | .int i, .int j => some (decide (i ≤ j)) | _, _ => none
  | .Gt => match x, y with | .int i, .int j => some (decide (j < i)) | _, _ => none
  | .GtE => match x, y with | .int i, .int j => some (decide (j ≤ i)) | _, _ => none
  | .In => inD x y
  | .NotIn => (inD x y).map (!·)
  | .Is => match y with | .non => some (match x with | .non => true | _ => false) | .bl b => (match x with | .bl a => some (decide (a = b)) | _ => none) | _ => none
  | .IsNot => match y with | .non => some (match x with | .non => false | _ => true) | .bl b => (match x with | .bl a => some (!decide (a = b)) | _ => none) | _ => none

def truD (x : D) : Option Bool := match x with
  | .non => some false
  | .bl b => some b
  | .int i => some (i != 0)
  | .str y => if y.length ≤ lim then some ((y.length : Int) != 0) else none
  | .lv xs => some (!xs.isEmpty)
  | .tup xs => some (!xs.isEmpty)
  | _ => none

def ixD (x y : D) : Option D := match x, y with
  | .lv xs, .int i => atD xs i
  | .fz xs, .int i => atD xs i
  | .tup xs, .int i => atD xs i
  | .str xs, .int i => if xs.length ≤ lim then (L2.atI xs i).map fun c => .str [c] else none
  | _, _ => none
def slD (x : D) (lo hi : Option Int) : Option D := match x with
  | .lv xs => some (.lv (cutD xs lo hi))
  | .fz xs => some (.lv (cutD xs lo hi))
  | .tup xs => some (.tup (cutD xs lo hi))
  | .str xs => if xs.length ≤ lim then some (.str (cutD xs lo hi)) else none
  | _ => none

def keyOk : D → Bool
  | .int _ => true
  | .str _ => true
  | _ => false
def eqK : D → D → Bool
  | .int i, .int j => decide (i = j)
  | .str x, .str y => decide (x = y)
  | _, _ => false
def dgetL : List D → List D → D → Option D
  | k :: ks, v :: vs, x => if eqK k x then some v else dgetL ks vs x
  | _, _, _ => none
def dsetL : List D → List D → D → D → List D
  | k :: ks, v :: vs, x, d => (if eqK k x then d else v) :: dsetL ks vs x d
  | _, _, _, _ => []
def dputL (ks vs : List D) (x d : D) : List D × List D := if (dgetL ks vs x).isSome then (ks, dsetL ks vs x d) else (ks ++ [x], vs ++ [d])
/-- o[k], o a dict; o.get(k, d) -/
def dgetD (x y : D) : Option D := match x with
  | .dv ks vs => if keyOk y then dgetL ks vs y else none
  | _ => none
def dget2D (x y z : D) : Option D := match x with
  | .dv ks vs => if keyOk y then some ((dgetL ks vs y).getD z) else none
  | _ => none
def isDv : D → Bool
  | .dv _ _ => true
  | _ => false
inductive BI where
  | len | sum | int | str | repr | abs | max | min | tuple | list | all | any
  deriving DecidableEq, Inhabited
def intsOf : List D → Option (List Int)
  | [] => some []
  | .int i :: r => (intsOf r).map (i :: ·)
  | _ => none
def blsOf : List D → Option (List Bool)
  | [] => some []
  | .bl i :: r => (blsOf r).map (i :: ·)
  | _ => none
def strsOf : List D → Option (List (List Nat))
  | [] => some []
  | .str i :: r => (strsOf r).map (i :: ·)
  | _ => none

mutual
def toPy : D → PyData
  | .bl b => .bool b
  | .int i => .int i
  | .str x => .str ⟨x.toArray⟩
  | .tup xs => .tuple (toPys xs)
  | .lv xs => .list (toPys xs)
  | _ => .none
def toPys : List D → List PyData
  | [] => []
  | x :: xs => toPy x :: toPys xs
end
def showD (d : D) : List Nat := (toPy d).shown.cps.toList
def showOk (d : D) : Bool := plainD d && (toPy d).showable && decide (depthD d ≤ 64) && decide ((toPy d).shown.length ≤ lim)

def lenD : D → Option D
  | .str x => if x.length ≤ lim then some (.int x.length) else none
  | .lv x => some (.int x.length)
  | .fz x => some (.int x.length)
  | .tup x => some (.int x.length)
  | _ => none
def sumD : D → Option D
  | .lv x => (intsOf x).map fun ns => .int ns.sum
  | _ => none
def intD : D → Option D
  | .int i => some (.int i)
  | .bl b => some (.int (if b then 1 else 0))
  | _ => none
def absD : D → Option D
  | .int i => some (.int (if i < 0 then -i else i))
  | _ => none
def maxD : D → D → Option D
  | .int i, .int j => some (.int (if j > i then j else i))
  | _, _ => none
def minD : D → D → Option D
  | .int i, .int j => some (.int (if j < i then j else i))
  | _, _ => none
def numT (i : Int) : List Nat := (PySem.Str.ofString (toString i)).cps.toList
def strD : D → Option D
  | .str x => some (.str x)
  | .int i => if i.natAbs.log2 < 1920 then some (.str (numT i)) else none
  | _ => none
def tupleD : D → Option D
  | .lv x => some (.tup x)
  | .fz x => some (.tup x)
  | .tup x => some (.tup x)
  | _ => none
def listD : D → Option D
  | .str x => if x.length ≤ lim then some (.lv (x.map fun c => .str [c])) else none
  | .lv x => some (.lv x)
  | .fz x => some (.lv x)
  | .tup x => some (.lv x)
  | _ => none
def allD : D → Option D
  | .lv x => (blsOf x).map fun bs => .bl (bs.all id)
  | _ => none
def anyD : D → Option D
  | .lv x => (blsOf x).map fun bs => .bl (bs.any id)
  | _ => none
def maxL : List Int → Option Int
  | [] => none
  | n :: r => some (r.foldl max n)
def minL : List Int → Option Int
  | [] => none
  | n :: r => some (r.foldl min n)
def maxLD : D → Option D
  | .lv x => ((intsOf x).bind maxL).map .int
  | _ => none
def minLD : D → Option D
  | .lv x => ((intsOf x).bind minL).map .int
  | _ => none
def biD (b : BI) (xs : List D) : Option D := match xs with
  | [x] => match b with
    | .len => lenD x
    | .sum => sumD x
    | .int => intD x
    | .abs => absD x
    | .repr => if showOk x then some (.str (showD x)) else none
    | .str => strD x
    | .tuple => tupleD x
    | .list => listD x
    | .all => allD x
    | .any => anyD x
    | .max => maxLD x
    | .min => minLD x
  | [x, y] => match b with
    | .max => maxD x y
    | .min => minD x y
    | _ => none
  | _ => none

inductive MT where
  | append | extend | index | join | isalpha | split
  deriving DecidableEq, Inhabited
def idxD (x : D) : List D → Nat → Option Nat
  | [], _ => none
  | z :: r, k => if eqD z x then some k else idxD x r (k + 1)
def joinL (sep : List Nat) : List (List Nat) → List Nat
  | [] => []
  | [x] => x
  | x :: y :: r => x ++ (sep ++ joinL sep (y :: r))
/-- a method that changes nothing, by views -/
def mtD (m : MT) (x : D) (xs : List D) : Option D := match m with
  | .index => match x, xs with
    | .lv ys, [y] => if eqOk y && eqOk (.lv ys) then (idxD y ys 0).map fun k => .int k else none
    | _, _ => none
  | .join => match x, xs with
    | .str s, [.lv ys] => match strsOf ys with
      | some zs => if (zs.map (·.length)).sum + zs.length * s.length ≤ lim then some (.str (joinL s zs)) else none
      | none => none
    | .str s, [.tup ys] => match strsOf ys with
      | some zs => if (zs.map (·.length)).sum + zs.length * s.length ≤ lim then some (.str (joinL s zs)) else none
      | none => none
    | _, _ => none
  | .isalpha => match x, xs with
    | .str s, [] => some (.bl (Txt.isalpha ⟨s.toArray⟩))
    | _, _ => none
  | .split => match x, xs with
    | .str s, [.str b] => if b ≠ [] ∧ s.length + 2 ≤ lim then some (.lv ((Txt.split ⟨s.toArray⟩ ⟨b.toArray⟩).map fun y => .str y.cps.toList)) else none
    | _, _ => none
  | _ => none
/-- a method that changes a live list -/
def muD (m : MT) (x : D) (xs : List D) (H : HH) : Option (D × HH) := match x with
  | .ref r => match H[r]? with
    | some (.lst ys) => match m, xs with
      | .append, [y] => if ys.length < lim then some (.non, H.set r (.lst (ys ++ [y]))) else none
      | .extend, [y] => match viewD H y with
        | .lv zs => if ys.length + zs.length ≤ lim then some (.non, H.set r (.lst (ys ++ zs))) else none
        | _ => none
      | _, _ => none
    | _ => none
  | _ => none
/-- what a method's receiver must be -/
def rcvOk (m : MT) (x : D) : Bool := match m, x with
  | .append, .lv _ => true
  | .extend, .lv _ => true
  | .index, .lv _ => true
  | .join, .str _ => true
  | .isalpha, .str _ => true
  | .split, .str _ => true
  | _, _ => false
def isMu : MT → Bool
  | .append => true
  | .extend => true
  | _ => false

def mtE (m : MT) (x : D) (ds : List D) (H : HH) : Rs D := if isMu m then match muD m x ds H with | some (d, H3) => .ok d H3 | none => .no
  else Rs.ofO (mtD m (viewD H x) (ds.map (viewD H))) H
mutual
inductive E where
  | loc (i : Nat) | cst (d : D) | glb (g : Nat)
  | tup (es : Es) | lst (es : Es) | lstR (es : Es)
  | bin (o : Operator) (a b : E) | binR (a b : E) | neg (a : E) | no (a : E)
  | cmp (o : CmpOp) (a b : E) | cmpF (o : CmpOp) (a b : E) | cmp2 (o p : CmpOp) (a b c : E)
  | and (a b : E) | or (a b : E) | ite (c a b : E)
  | ix (a b : E) | sl (a : E) (lo hi : OE) | rev (a : E)
  | call (f : Nat) (es ks : Es) (kw : List Nat) | pcall (f : Nat) (es ks : Es) (kw : List Nat)
  | bi (b : BI) (es : Es)
  | mt (m : MT) (o : E) (es : Es)
  | isi (a : E) (n : String)
  | lc (own : List Nat) (t : T) (i : I) (c : OE) (e : E)
  | lcR (own : List Nat) (t : T) (i : I) (c : OE) (e : E)
  | dnew | dget (a b : E) | dget2 (a b d : E)
  | lrg1 (a : E) | lrg2 (a b : E)
  | dc (own : List Nat) (t : T) (i : I) (c : OE) (ek ev : E) | dctP (es : Es)
  | lci (own : List Nat) (t : T) (i : Nat) (c : OE) (e : E) | din (a b : E)
inductive Es where | nil | cons (e : E) (r : Es)
inductive OE where | no | yes (e : E)
inductive I where | val (e : E) | range (es : Es) | enum (e : E) | zip (a b : E)
inductive T where | nm (i : Nat) | tp (ts : Ts)
inductive Ts where | nil | cons (t : T) (r : Ts) | st (t : T) (r : Ts)
end
mutual
inductive S where
  | asg (t : T) (e : E) | upk (t : T) (e : E) | sub (o i e : E) | dput (o i e : E) | par (i j : Nat) (a b : E) | aug (i : Nat) (o : Operator) (e : E) | ex (e : E)
  | ret (e : E) | retN | ite (c : E) (a b : Ss) | whl (c : E) (b : Ss) | forr (t : T) (i : I) (b : Ss)
  | brk | cnt | pas | never | rz (k : Nat) (e : E) | tryy (b : Ss) (k i : Nat) (h : D → Ss)
inductive Ss where | nil | cons (s : S) (r : Ss)
end

/-- how a statement ends -/
inductive Fl where | nx (s : Sd) | rt (d : D) | bk (s : Sd) | ct (s : Sd)
  deriving Inhabited
inductive RS where | go (f : Fl) (H : HH) | ex (e : XV) (s : Sd) (H : HH) | no
  deriving Inhabited

structure Cfg where
  call : Nat → List D → HH → Rs D
  dfl : Nat → List D
  consts : List D
  fuel : Nat

/-- two lists behind one another, live -/
def addR (x y : D) (H : HH) : Rs D := match x, y with
  | .lv xs, .lv ys => if xs.length + ys.length ≤ lim then .ok (.ref H.length) (H ++ [.lst (xs ++ ys)]) else .no
  | _, _ => .no

mutual
def frzD (H : HH) : Nat → D → Option D
  | 0, _ => none
  | n + 1, .ref r => match H[r]? with
    | some (.lst xs) => (frzDs H n xs).map .lv
    | _ => none
  | n + 1, .tup xs => (frzDs H n xs).map .tup
  | n + 1, .lv xs => (frzDs H n xs).map .lv
  | _ + 1, d => if noRef d then some d else none
def frzDs (H : HH) : Nat → List D → Option (List D)
  | 0, _ => none
  | _ + 1, [] => some []
  | n + 1, x :: xs => match frzD H n x, frzDs H n xs with
    | some a, some b => some (a :: b)
    | _, _ => none
end
/-- a comparison that looks into live lists wherever they stand -/
def cmpG (H : HH) (o : CmpOp) (x y : D) : Option Bool := match frzD H 1000 x, frzD H 1000 y with
  | some a, some b => if eqOk a && eqOk b then match o with
    | .Eq => some (eqD a b)
    | .NotEq => some (!eqD a b)
    | _ => none
    else none
  | _, _ => none
/-- a call whose result hangs on the arguments alone -/
def pcallD (call : Nat → List D → HH → Rs D) (f : Nat) (ds : List D) : Option (D ⊕ XV) :=
  if noRefs ds then match call f ds [] with
    | .ok d H => if noRef d then some (.inl d) else (frzD H 100000 d).map .inl
    | .ex e H => match e.fld with
      | none => some (.inr e)
      | some d => if noRef d then some (.inr e) else none
    | .no => none
  else none

/-- the arguments in the parameters' order -/
def permL {A : Type} (ds : List A) : List Nat → Option (List A)
  | [] => some []
  | k :: r => match ds[k]?, permL ds r with
    | some d, some l => some (d :: l)
    | _, _ => none

/-- the items of a walk, and what must stay as it is -/
abbrev Gd := List (Nat × List D)
def gdOk (g : Gd) (H : HH) : Bool := g.all fun p => match H[p.1]? with
  | some (.lst xs) => sames xs p.2
  | _ => false
def itemsD (H : HH) (d : D) : Option (List D × Gd) := match d with
  | .lv xs => some (xs, [])
  | .fz xs => some (xs, [])
  | .tup xs => some (xs, [])
  | .str x => some (x.map fun c => .str [c], [])
  | .ref r => match H[r]? with
    | some (.lst xs) => some (xs, [(r, xs)])
    | _ => none
  | _ => none
def rangeD1 : List D → Option (List D)
  | [.int j] => if decide (-(2 ^ 62) ≤ j) && decide (j < 2 ^ 62) then some ((List.range j.toNat).map fun (k : Nat) => .int k) else none
  | _ => none
def rangeD2 : List D → Option (List D)
  | [.int i, .int j] => if decide (-(2 ^ 62) ≤ i) && decide (i < 2 ^ 62) && decide (-(2 ^ 62) ≤ j) && decide (j < 2 ^ 62) then some ((List.range (j - i).toNat).map fun (k : Nat) => .int (i + (k : Nat))) else none
  | _ => none
def rangeD (ds : List D) : Option (List D) := match ds with
  | [x] => rangeD1 [x]
  | [x, y] => rangeD2 [x, y]
  | _ => none
/-- list(range(..)) -/
def lrgD (ds : List D) : Option D := match rangeD ds with
  | some xs => if xs.length ≤ lim then some (.lv xs) else none
  | none => none
/-- lists alone -/
def lsD (H : HH) (d : D) : Option (List D × Gd) := match d with
  | .tup _ => none
  | .str _ => none
  | d => itemsD H d
/-- what enumerate walks over: lists, strs -/
def enD (H : HH) (d : D) : Option (List D × Gd) := match d with
  | .str x => some (x.map fun c => .str [c], [])
  | .tup xs => some (xs, [])
  | d => lsD H d
def enumD (xs : List D) : List D := xs.zipIdx.map fun p => .tup [.int (p.2 : Nat), p.1]
def zipD (xs ys : List D) : List D := (xs.zip ys).map fun p => .tup [p.1, p.2]
def zipI (H : HH) (x y : D) : Option (List D × Gd) := match x, y with
  | .tup xs, .tup ys => some (zipD xs ys, [])
  | x, y => match lsD H x, lsD H y with
    | some p, some q => some (zipD p.1 q.1, p.2 ++ q.2)
    | _, _ => none

def forL (g : Gd) (tg : D → Sd → Option Sd) (body : Sd → HH → RS) : List D → Sd → HH → RS
  | [], s, H => if gdOk g H then .go (.nx s) H else .no
  | x :: xs, s, H => if gdOk g H then
      match tg x s with
      | some s1 => match body s1 H with
        | .go (.nx s2) H2 => forL g tg body xs s2 H2
        | .go (.ct s2) H2 => forL g tg body xs s2 H2
        | .go (.bk s2) H2 => .go (.nx s2) H2
        | .go (.rt d) H2 => .go (.rt d) H2
        | .ex e s2 H2 => .ex e s2 H2
        | .no => .no
      | none => .no
    else .no
def whileL (test : Sd → HH → Rs Bool) (body : Sd → HH → RS) : Nat → Sd → HH → RS
  | 0, _, _ => .no
  | n + 1, s, H => match test s H with
    | .ok true H1 => match body s H1 with
      | .go (.nx s2) H2 => whileL test body n s2 H2
      | .go (.ct s2) H2 => whileL test body n s2 H2
      | .go (.bk s2) H2 => .go (.nx s2) H2
      | .go (.rt d) H2 => .go (.rt d) H2
      | .ex e s2 H2 => .ex e s2 H2
      | .no => .no
    | .ok false H1 => .go (.nx s) H1
    | .ex e H1 => .ex e s H1
    | .no => .no
def wipeD (s : Sd) : List Nat → Sd
  | [] => s
  | v :: vs => (wipeD s vs).set v none
/-- where nothing may be raised -/
def Rs.bindN {A B : Type} (r : Rs A) (f : A → HH → Rs B) : Rs B := match r with
  | .ok a H => f a H
  | _ => .no
@[simp] theorem Rs.bindN_ok {A B : Type} (a : A) (H : HH) (f : A → HH → Rs B) : (Rs.ok a H).bindN f = f a H := rfl
/-- a comprehension: the items made -/
def lcL (g : Gd) (tg : D → Sd → Option Sd) (test : Sd → HH → Rs Bool) (elt : Sd → HH → Rs D) (s : Sd) : List D → List D → HH → Rs (List D)
  | [], acc, H => if gdOk g H then .ok acc H else .no
  | x :: xs, acc, H => if gdOk g H then
      match tg x s with
      | some s1 => (test s1 H).bindN fun b H2 =>
        if b then (elt s1 H2).bindN fun d H3 => if acc.length < lim then lcL g tg test elt s xs (acc ++ [d]) H3 else .no
        else lcL g tg test elt s xs acc H2
      | none => .no
    else .no

/-- a dict comprehension: keys and values -/
def dcL (g : Gd) (tg : D → Sd → Option Sd) (test : Sd → HH → Rs Bool) (ek ev : Sd → HH → Rs D) (s : Sd) : List D → List D × List D → HH → Rs (List D × List D)
  | [], acc, H => if gdOk g H then .ok acc H else .no
  | x :: xs, acc, H => if gdOk g H then
      match tg x s with
      | some s1 => (test s1 H).bindN fun b H2 =>
        if b then (ek s1 H2).bindN fun y H3 => (ev s1 H3).bindN fun z H4 => if keyOk y = true ∧ acc.1.length < lim then dcL g tg test ek ev s xs (dputL acc.1 acc.2 y z) H4 else .no
        else dcL g tg test ek ev s xs acc H2
      | none => .no
    else .no
/-- dict of pairs -/
def prD : D → Option (D × D)
  | .tup [k, v] => if keyOk k then some (k, v) else none
  | _ => none
def mrgL : List D → List D × List D → Option (List D × List D)
  | [], acc => some acc
  | x :: r, acc => match prD x with
    | some q => mrgL r (dputL acc.1 acc.2 q.1 q.2)
    | none => none
def dictPD (x : D) : Option (List D × List D) := match x with
  | .lv ps => mrgL ps ([], [])
  | _ => none
/-- what a comprehension tells: frozen or live -/
def endL (b : Bool) (ds : List D) (H : HH) : Rs D := if b then .ok (.ref H.length) (H ++ [.lst ds]) else .ok (.lv ds) H
/-- a key in a dict -/
def dinD (x y : D) : Option Bool := match x with
  | .dv ks vs => if keyOk y then some (dgetL ks vs y).isSome else none
  | _ => none
/-- the slots that hold nothing live -/
def norfS (s : Sd) : Sd := s.map fun o => match o with
  | some d => if noRef d then some d else none
  | none => none
/-- the pairs of a dict -/
def itmD (ks vs : List D) : List D := (ks.zip vs).map fun p => .tup [p.1, p.2]
/-- a comprehension over the items of a live dict in slot i -/
def lciF (tg : D → Sd → Option Sd) (test : Sd → HH → Rs Bool) (elt : Sd → HH → Rs D) (own : List Nat) (i : Nat) : Sd → HH → Rs D := fun s H => match s[i]? with
  | some (some (.ref r)) => (match H[r]? with
    | some (.dic ks vs) => if noRefs vs then (lcL [] tg test elt (wipeD (norfS s) own) (itmD ks vs) [] []).bindN fun ds _ => if noRefs ds then .ok (.lv ds) H else .no else .no
    | _ => .no)
  | _ => .no
def lenTs : Ts → Nat
  | .nil => 0
  | .cons _ r => lenTs r + 1
  | .st _ r => lenTs r + 1
/-- where the starred one is -/
def stIx : Ts → Option Nat
  | .nil => none
  | .cons _ r => (stIx r).map (· + 1)
  | .st _ _ => some 0
mutual
def asT : T → D → Sd → Option Sd
  | .nm i, d, s => some (s.set i (some d))
  | .tp ts, d, s => match d with
    | .tup xs => asTs ts xs s
    | .lv xs => asTs ts xs s
    | _ => none
def asTs : Ts → List D → Sd → Option Sd
  | .nil, [], s => some s
  | .cons t r, x :: xs, s => match asT t x s with
    | some s1 => asTs r xs s1
    | none => none
  | .st t r, xs, s => if stIx r = none ∧ lenTs r ≤ xs.length then match asT t (.lv (xs.take (xs.length - lenTs r))) s with
    | some s1 => asTs r (xs.drop (xs.length - lenTs r)) s1
    | none => none else none
  | _, _, _ => none
end
/-- a, b = l, l a list, live or not -/
def asV (H : HH) (t : T) (d : D) (s : Sd) : Option Sd := match t with
  | .tp ts => (match viewD H d with | .lv xs => asTs ts xs s | _ => none)
  | _ => none
mutual
/-- the places that a pattern stores -/
def slT : T → List Nat
  | .nm i => [i]
  | .tp ts => slTs ts
def slTs : Ts → List Nat
  | .nil => []
  | .cons t r => slT t ++ slTs r
  | .st t r => slT t ++ slTs r
end

def tyIs (n : String) (x : D) : Option Bool := match x with
  | .non => some (n == "NoneType")
  | .bl _ => some (n == "bool" || n == "int")
  | .int _ => some (n == "int")
  | .str _ => some (n == "str")
  | .tup _ => some (n == "tuple")
  | .lv _ => some (n == "list")
  | _ => none
def callD (c : Cfg) (f : Nat) (kw : List Nat) (ds zs : List D) (H : HH) : Rs D := match permL (ds ++ zs ++ c.dfl f) kw with
  | some l => c.call f l H
  | none => .no
def pcallE (c : Cfg) (f : Nat) (kw : List Nat) (ds zs : List D) (H : HH) : Rs D := match permL (ds ++ zs ++ c.dfl f) kw with
  | some l => match pcallD c.call f l with
    | some (.inl d) => .ok d H
    | some (.inr e) => .ex e H
    | none => .no
  | none => .no
mutual
def evE (c : Cfg) : E → Sd → HH → Rs D
  | .loc i, s, H => match s[i]? with | some (some d) => .ok d H | _ => .no
  | .cst d, _, H => .ok d H
  | .glb g, _, H => match c.consts[g]? with | some d => .ok d H | none => .no
  | .tup es, s, H => (evEs c es s H).bind fun ds H1 => if ds.length ≤ lim then .ok (.tup ds) H1 else .no
  | .lst es, s, H => (evEs c es s H).bind fun ds H1 => if ds.length ≤ lim then .ok (.lv ds) H1 else .no
  | .binR a b, s, H => (evE c a s H).bind fun x H1 => (evE c b s H1).bind fun y H2 => addR (viewD H2 x) (viewD H2 y) H2
  | .lstR es, s, H => (evEs c es s H).bind fun ds H1 => if ds.length ≤ lim then .ok (.ref H1.length) (H1 ++ [.lst ds]) else .no
  | .bin o a b, s, H => (evE c a s H).bind fun x H1 => (evE c b s H1).bind fun y H2 => Rs.ofO (binD o (viewD H2 x) (viewD H2 y)) H2
  | .neg a, s, H => (evE c a s H).bind fun x H1 => match x with | .int i => .ok (.int (-i)) H1 | _ => .no
  | .no a, s, H => (evE c a s H).bind fun x H1 => Rs.ofO ((truD (viewD H1 x)).map fun b => .bl (!b)) H1
  | .cmp o a b, s, H => (evE c a s H).bind fun x H1 => (evE c b s H1).bind fun y H2 => Rs.ofO ((cmpD o (viewD H2 x) (viewD H2 y)).map .bl) H2
  | .cmpF o a b, s, H => (evE c a s H).bind fun x H1 => (evE c b s H1).bind fun y H2 => Rs.ofO ((cmpG H2 o x y).map .bl) H2
  | .dnew, _, H => .ok (.ref H.length) (H ++ [.dic [] []])
  | .dc own t i g ek ev, s, H => (evI c i s H).bind fun p H1 => (dcL p.2 (asT t) (evOT c g) (evE c ek) (evE c ev) (wipeD s own) p.1 ([], []) H1).bind fun kv H2 => .ok (.ref H2.length) (H2 ++ [.dic kv.1 kv.2])
  | .din a b, s, H => (evE c a s H).bind fun y H1 => (evE c b s H1).bind fun x H2 => Rs.ofO ((dinD (viewD H2 x) y).map .bl) H2
  | .lci own t i g e, s, H => lciF (asT t) (evOT c g) (evE c e) own i s H
  | .dctP es, s, H => (evEs c es s H).bind fun ds H1 => match ds with
    | [x] => (match dictPD (viewD H1 x) with
      | some kv => .ok (.ref H1.length) (H1 ++ [.dic kv.1 kv.2])
      | none => .no)
    | _ => .no
  | .lrg1 a, s, H => (evE c a s H).bind fun x H1 => Rs.ofO (lrgD [x]) H1
  | .lrg2 a b, s, H => (evE c a s H).bind fun x H1 => (evE c b s H1).bind fun y H2 => Rs.ofO (lrgD [x, y]) H2
  | .dget a b, s, H => (evE c a s H).bind fun x H1 => (evE c b s H1).bind fun y H2 => Rs.ofO (dgetD (viewD H2 x) y) H2
  | .dget2 a b d, s, H => (evE c a s H).bind fun x H1 => if isDv (viewD H1 x) then (evE c b s H1).bind fun y H2 => (evE c d s H2).bind fun z H3 => Rs.ofO (dget2D (viewD H3 x) y z) H3 else .no
  | .cmp2 o p a b d, s, H => (evE c a s H).bind fun x H1 => (evE c b s H1).bind fun y H2 => match cmpD o (viewD H2 x) (viewD H2 y) with
      | some true => (evE c d s H2).bind fun z H3 => Rs.ofO ((cmpD p (viewD H3 y) (viewD H3 z)).map .bl) H3
      | some false => .ok (.bl false) H2
      | none => .no
  | .and a b, s, H => (evE c a s H).bind fun x H1 => match truD (viewD H1 x) with
      | some true => evE c b s H1
      | some false => .ok x H1
      | none => .no
  | .or a b, s, H => (evE c a s H).bind fun x H1 => match truD (viewD H1 x) with
      | some true => .ok x H1
      | some false => evE c b s H1
      | none => .no
  | .ite t a b, s, H => (evT c t s H).bind fun k H1 => if k then evE c a s H1 else evE c b s H1
  | .ix a b, s, H => (evE c a s H).bind fun x H1 => (evE c b s H1).bind fun y H2 => Rs.ofO (ixD (viewD H2 x) y) H2
  | .sl a lo hi, s, H => (evE c a s H).bind fun x H1 => (evO c lo s H1).bind fun l H2 => (evO c hi s H2).bind fun h H3 => Rs.ofO (slD (viewD H3 x) l h) H3
  | .rev a, s, H => (evE c a s H).bind fun x H1 => match viewD H1 x with | .lv xs => .ok (.lv xs.reverse) H1 | .fz xs => .ok (.lv xs.reverse) H1 | .str xs => if xs.length ≤ lim then .ok (.str xs.reverse) H1 else .no | _ => .no
  | .call f es ks kw, s, H => (evEs c es s H).bind fun ds H1 => (evEs c ks s H1).bind fun zs H2 => callD c f kw ds zs H2
  | .pcall f es ks kw, s, H => (evEs c es s H).bind fun ds H1 => (evEs c ks s H1).bind fun zs H2 => pcallE c f kw ds zs H2
  | .bi b es, s, H => (evEs c es s H).bind fun ds H1 => Rs.ofO (biD b (ds.map (viewD H1))) H1
  | .mt m o es, s, H => (evE c o s H).bind fun x H1 => if rcvOk m (viewD H1 x) then (evEs c es s H1).bind fun ds H2 => mtE m x ds H2 else .no
  | .isi a n, s, H => (evE c a s H).bind fun x H1 => Rs.ofO ((tyIs n (viewD H1 x)).map .bl) H1
  | .lc own t i g e, s, H => (evI c i s H).bind fun p H1 => (lcL p.2 (asT t) (evOT c g) (evE c e) (wipeD s own) p.1 [] H1).bind fun ds H2 => endL false ds H2
  | .lcR own t i g e, s, H => (evI c i s H).bind fun p H1 => (lcL p.2 (asT t) (evOT c g) (evE c e) (wipeD s own) p.1 [] H1).bind fun ds H2 => endL true ds H2
def evT (c : Cfg) : E → Sd → HH → Rs Bool
  | .no a, s, H => (evT c a s H).bind fun k H1 => .ok (!k) H1
  | .and a b, s, H => (evT c a s H).bind fun k H1 => if k then evT c b s H1 else .ok false H1
  | .or a b, s, H => (evT c a s H).bind fun k H1 => if k then .ok true H1 else evT c b s H1
  | .cmp o a b, s, H => (evE c a s H).bind fun x H1 => (evE c b s H1).bind fun y H2 => Rs.ofO (cmpD o (viewD H2 x) (viewD H2 y)) H2
  | .cmpF o a b, s, H => (evE c a s H).bind fun x H1 => (evE c b s H1).bind fun y H2 => Rs.ofO (cmpG H2 o x y) H2
  | .din a b, s, H => (evE c a s H).bind fun y H1 => (evE c b s H1).bind fun x H2 => Rs.ofO (dinD (viewD H2 x) y) H2
  | .cmp2 o p a b d, s, H => (evE c a s H).bind fun x H1 => (evE c b s H1).bind fun y H2 => match cmpD o (viewD H2 x) (viewD H2 y) with
      | some true => (evE c d s H2).bind fun z H3 => Rs.ofO (cmpD p (viewD H3 y) (viewD H3 z)) H3
      | some false => .ok false H2
      | none => .no
  | e, s, H => (evE c e s H).bind fun x H1 => Rs.ofO (truD (viewD H1 x)) H1
def evEs (c : Cfg) : Es → Sd → HH → Rs (List D)
  | .nil, _, H => .ok [] H
  | .cons e r, s, H => (evE c e s H).bind fun d H1 => (evEs c r s H1).bind fun ds H2 => .ok (d :: ds) H2
def evO (c : Cfg) : OE → Sd → HH → Rs (Option Int)
  | .no, _, H => .ok none H
  | .yes e, s, H => (evE c e s H).bind fun d H1 => match d with | .int i => .ok (some i) H1 | _ => .no
def evOT (c : Cfg) : OE → Sd → HH → Rs Bool
  | .no, _, H => .ok true H
  | .yes e, s, H => evT c e s H
def evI (c : Cfg) : I → Sd → HH → Rs (List D × Gd)
  | .val e, s, H => (evE c e s H).bind fun d H1 => Rs.ofO (itemsD H1 d) H1
  | .range es, s, H => (evEs c es s H).bind fun ds H1 => Rs.ofO ((rangeD ds).map fun xs => (xs, [])) H1
  | .enum e, s, H => (evE c e s H).bind fun d H1 => Rs.ofO ((enD H1 d).map fun p => (enumD p.1, p.2)) H1
  | .zip a b, s, H => (evE c a s H).bind fun x H1 => (evE c b s H1).bind fun y H2 => Rs.ofO (zipI H2 x y) H2
end
def Rs.st {A : Type} (r : Rs A) (s : Sd) (f : A → HH → RS) : RS := match r with
  | .ok a H => f a H
  | .ex e H => .ex e s H
  | .no => .no
@[simp] theorem Rs.st_ok {A : Type} (a : A) (H : HH) (s : Sd) (f : A → HH → RS) : (Rs.ok a H).st s f = f a H := rfl
@[simp] theorem Rs.st_ex {A : Type} (e : XV) (H : HH) (s : Sd) (f : A → HH → RS) : (Rs.ex e H : Rs A).st s f = .ex e s H := rfl
@[simp] theorem Rs.st_no {A : Type} (s : Sd) (f : A → HH → RS) : (Rs.no : Rs A).st s f = .no := rfl
/-- o[i] = d -/
def setE (x y d : D) (s : Sd) (H : HH) : RS := match x with
  | .ref r => match H[r]? with
    | some (.lst xs) => match y with
      | .int k => match L2.ixN xs.length k with
        | some j => .go (.nx s) (H.set r (.lst (xs.set j d)))
        | none => .no
      | _ => .no
    | _ => .no
  | _ => .no
def putE (x y d : D) (s : Sd) (H : HH) : RS := match x with
  | .ref r => match H[r]? with
    | some (.dic ks vs) => if keyOk y ∧ ks.length < lim then .go (.nx s) (H.set r (.dic (dputL ks vs y d).1 (dputL ks vs y d).2)) else .no
    | _ => .no
  | _ => .no
def augD (H : HH) (o : Operator) (x y : D) : Option D := match o, x, y with
  | .Add, .int i, .int j => some (.int (i + j))
  | .Sub, .int i, .int j => some (.int (i - j))
  | .Add, .str a, .str b => if a.length + b.length ≤ lim then some (.str (a ++ b)) else none
  | _, _, _ => none
/-- behind an except suite its name is gone -/
def unsetR (i : Nat) : RS → RS
  | .go (.nx s) H => .go (.nx (s.set i none)) H
  | .go (.bk s) H => .go (.bk (s.set i none)) H
  | .go (.ct s) H => .go (.ct (s.set i none)) H
  | .go (.rt d) H => .go (.rt d) H
  | _ => .no
def tryH (k i : Nat) (fh : D → Sd → HH → RS) (e : XV) (s : Sd) (H : HH) : RS := match e.cls, e.fld with
  | .own k', some d => if k' = k ∧ i < s.length then unsetR i (fh d (s.set i none) H) else .no
  | _, _ => .no
def tryL (k i : Nat) (fh : D → Sd → HH → RS) : RS → RS
  | .ex e s H => tryH k i fh e s H
  | .go f H => .go f H
  | .no => .no
mutual
def evS (c : Cfg) : S → Sd → HH → RS
  | .asg t e, s, H => (evE c e s H).st s fun d H1 => match asT t d s with | some s2 => .go (.nx s2) H1 | none => .no
  | .upk t e, s, H => (evE c e s H).st s fun d H1 => match asV H1 t d s with | some s2 => .go (.nx s2) H1 | none => .no
  | .sub o i e, s, H => (evE c e s H).st s fun d H1 => (evE c o s H1).st s fun x H2 => (evE c i s H2).st s fun y H3 => setE x y d s H3
  | .dput o i e, s, H => (evE c e s H).st s fun d H1 => (evE c o s H1).st s fun x H2 => (evE c i s H2).st s fun y H3 => putE x y d s H3
  | .par i j a b, s, H => (evE c a s H).st s fun x H1 => (evE c b s H1).st s fun y H2 => .go (.nx ((s.set i (some x)).set j (some y))) H2
  | .aug i o e, s, H => match s[i]? with
    | some (some x) => (evE c e s H).st s fun y H1 => match augD H1 o x y with
      | some z => .go (.nx (s.set i (some z))) H1
      | none => .no
    | _ => .no
  | .ex e, s, H => (evE c e s H).st s fun _ H1 => .go (.nx s) H1
  | .ret e, s, H => (evE c e s H).st s fun d H1 => .go (.rt d) H1
  | .retN, _, H => .go (.rt .non) H
  | .ite t a b, s, H => (evT c t s H).st s fun k H1 => if k then evSs c a s H1 else evSs c b s H1
  | .whl t b, s, H => whileL (evT c t) (evSs c b) c.fuel s H
  | .forr t i b, s, H => (evI c i s H).st s fun p H1 => forL p.2 (asT t) (evSs c b) p.1 s H1
  | .brk, s, H => .go (.bk s) H
  | .cnt, s, H => .go (.ct s) H
  | .pas, s, H => .go (.nx s) H
  | .never, _, _ => .no
  | .rz k e, s, H => (evE c e s H).st s fun d H1 => .ex ⟨.own k, some d⟩ s H1
  | .tryy b k i h, s, H => tryL k i (fun d => evSs c (h d)) (evSs c b s H)
def evSs (c : Cfg) : Ss → Sd → HH → RS
  | .nil, s, H => .go (.nx s) H
  | .cons a r, s, H => match evS c a s H with
    | .go (.nx s1) H1 => evSs c r s1 H1
    | x => x
end

structure Fd where
  name : Str
  params : List Str
  names : List Str
  dfl : List D
  body : Ss
structure Prg where
  fns : List Fd
  consts : List D
  fuel : Nat
def startD (f : Fd) (ds : List D) : Sd := ds.map some ++ List.replicate (f.names.length - ds.length) none
def runB (f : Fd) (c : Cfg) (ds : List D) (H : HH) : Rs D :=
  if ds.length = f.params.length then match evSs c f.body (startD f ds) H with
    | .go (.nx _) H1 => .ok .non H1
    | .go (.rt d) H1 => .ok d H1
    | .go _ _ => .no
    | .ex e _ H1 => .ex e H1
    | .no => .no
  else .no
def callN (P : Prg) : Nat → Nat → List D → HH → Rs D
  | 0, _, _, _ => .no
  | n + 1, f, ds, H => match P.fns[f]? with
    | some fd => runB fd ⟨callN P n, fun g => match P.fns[g]? with | some h => h.dfl | none => [], P.consts, P.fuel⟩ ds H
    | none => .no
end DI
namespace DI
open PySem PySem.Spec PyProof.Rows L2

/-- the ground: the written part, where the classes stand, the fields of the text's exceptions -/
structure Gr where
  K : PySem.W.Frag
  ca : Nat → Addr
  xf : Nat → Str
  /-- within an except suite: the slot of the exception's name, where it stands, its dict, its field's name, what the field is -/
  exc : Option (Nat × Addr × Addr × Str × D) := none
/-- where the live objects lie -/
structure Vw where
  mu : Nat → Addr
  n : Nat
  /-- what others hold -/
  xx : Addr → Prop
def Vw.O (w : Vw) (a : Addr) : Prop := ∃ i, i < w.n ∧ w.mu i = a
def Vw.L (w : Vw) (a : Addr) : Prop := w.O a ∨ w.xx a
theorem Vw.notO {w : Vw} {a : Addr} (h : ¬ w.L a) : ¬ w.O a := fun z => h (.inl z)

def KTup (K : PySem.W.Frag) (a : Addr) (vs : List V) : Prop := ∃ (o : Obj) (its : Array Value) (n : Nat), K.lookup a = some o ∧ o.cls = .type "tuple" ∧ o.data = .seq its n ∧ its.size ≤ sizeLine ∧ Vals vs its.toList
def KLst (K : PySem.W.Frag) (a : Addr) (vs : List V) : Prop := ∃ (o : Obj) (its : Array Value) (n : Nat), K.lookup a = some o ∧ o.cls = .type "list" ∧ o.dict = none ∧ o.data = .seq its n ∧ its.size ≤ sizeLine ∧ Vals vs its.toList
def TupAt (G : Gr) (w : Vw) (H : Hp) (a : Addr) (vs : List V) : Prop := (¬ w.L a ∧ Rd H a (.tup vs)) ∨ KTup G.K a vs
def FzAt (G : Gr) (w : Vw) (H : Hp) (a : Addr) (vs : List V) : Prop := (¬ w.L a ∧ Rd H a (.lst vs)) ∨ KLst G.K a vs

mutual
inductive RepV (G : Gr) (w : Vw) (H : Hp) : D → V → Prop
  | non : RepV G w H .non .non
  | bl (b : Bool) : RepV G w H (.bl b) (.bl b)
  | int (i : Int) : RepV G w H (.int i) (.int i)
  | str (x : List Nat) : RepV G w H (.str x) (.str ⟨x.toArray⟩)
  | tup {a : Addr} {xs : List D} {vs : List V} : TupAt G w H a vs → RepVs G w H xs vs → RepV G w H (.tup xs) (.ref a)
  | lv {a : Addr} {xs : List D} {vs : List V} : ¬ w.L a → H a = some (.lst vs) → RepVs G w H xs vs → RepV G w H (.lv xs) (.ref a)
  | fz {a : Addr} {xs : List D} {vs : List V} : FzAt G w H a vs → RepVs G w H xs vs → RepV G w H (.fz xs) (.ref a)
  | ref {r : Nat} : r < w.n → RepV G w H (.ref r) (.ref (w.mu r))
  | cls (c : Nat) : RepV G w H (.cls c) (.ref (G.ca c))
  | ty (n : String) : RepV G w H (.ty n) (.ty n)
inductive RepVs (G : Gr) (w : Vw) (H : Hp) : List D → List V → Prop
  | nil : RepVs G w H [] []
  | cons {d : D} {v : V} {ds : List D} {vs : List V} : RepV G w H d v → RepVs G w H ds vs → RepVs G w H (d :: ds) (v :: vs)
end
/-- a key as data -/
def keyD : L2.Key → D
  | .inl i => .int i
  | .inr x => .str x.cps.toList
def keysD (kvs : List (L2.Key × V)) : List D := kvs.map fun p => keyD p.1
inductive RepO (G : Gr) (w : Vw) (H : Hp) (a : Addr) : HD → Prop
  | lst {xs : List D} {vs : List V} : H a = some (.lst vs) → RepVs G w H xs vs → RepO G w H a (.lst xs)
  | dic {ds : List D} {kvs : List (L2.Key × V)} : H a = some (.dK kvs) → RepVs G w H ds (kvs.map fun p => p.2) → RepO G w H a (.dic (keysD kvs) ds)

structure Rel (G : Gr) (w : Vw) (Hd : HH) (H : Hp) : Prop where
  n : w.n = Hd.length
  inj : ∀ i j, i < w.n → j < w.n → w.mu i = w.mu j → i = j
  obj : ∀ i o, Hd[i]? = some o → RepO G w H (w.mu i) o
  xx : ∀ a, w.xx a → H a ≠ none ∧ ¬ w.O a
structure Ext (w w' : Vw) (H H' : Hp) : Prop where
  le : w.n ≤ w'.n
  mu : ∀ i, i < w.n → w'.mu i = w.mu i
  fresh : ∀ i, w.n ≤ i → i < w'.n → H (w'.mu i) = none
  keep : ∀ a o, ¬ w.O a → H a = some o → H' a = some o
  there : ∀ a, H a ≠ none → H' a ≠ none
  xx : ∀ a, w'.xx a → w.xx a ∨ H a = none
  xl : ∀ a, w.xx a → w'.xx a
theorem Ext.refl (w : Vw) (H : Hp) : Ext w w H H := ⟨Nat.le_refl _, fun _ _ => rfl, fun i h h' => absurd h' (by omega), fun _ _ _ h => h, fun _ h => h, fun _ h => .inl h, fun _ h => h⟩
theorem Ext.notO {w w' : Vw} {H H' : Hp} (e : Ext w w' H H') {a : Addr} {o : HO} (h : ¬ w.O a) (ha : H a = some o) : ¬ w'.O a := by
  rintro ⟨i, hi, rfl⟩
  by_cases h2 : i < w.n
  · exact h ⟨i, h2, (e.mu i h2).symm⟩
  · have z := e.fresh i (by omega) hi
    rw [z] at ha; cases ha
theorem Ext.notL {w w' : Vw} {H H' : Hp} (e : Ext w w' H H') {a : Addr} {o : HO} (h : ¬ w.L a) (ha : H a = some o) : ¬ w'.L a := by
  rintro (z | z)
  · exact e.notO (Vw.notO h) ha z
  · rcases e.xx a z with z | z
    · exact h (.inr z)
    · rw [ha] at z; cases z
theorem Ext.trans {w w' w2 : Vw} {H H' H2 : Hp} (a : Ext w w' H H') (b : Ext w' w2 H' H2) : Ext w w2 H H2 where
  le := Nat.le_trans a.le b.le
  mu := fun i h => (b.mu i (Nat.lt_of_lt_of_le h a.le)).trans (a.mu i h)
  fresh := fun i h h' => by
    by_cases h2 : i < w'.n
    · rw [b.mu i h2]; exact a.fresh i h h2
    · have z := b.fresh i (by omega) h'
      cases q : H (w2.mu i) with
      | none => rfl
      | some o => exact absurd z (a.there _ (by rw [q]; simp))
  keep := fun x o h hx => b.keep x o (a.notO h hx) (a.keep x o h hx)
  there := fun x h => b.there x (a.there x h)
  xx := fun x h => by
    rcases b.xx x h with z | z
    · exact a.xx x z
    · cases q : H x with
      | none => exact .inr rfl
      | some o => exact absurd z (a.there x (by rw [q]; simp))
  xl := fun x h => b.xl x (a.xl x h)

section
variable {G : Gr} {w w' : Vw} {H H' : Hp}
theorem Rd.ext {a : Addr} {o : HO} (e : Ext w w' H H') (h : ¬ w.L a) (r : Rd H a o) : ¬ w'.L a ∧ Rd H' a o := by
  rcases r with r | ⟨b, r⟩
  · exact ⟨e.notL h r, .inl (e.keep _ _ (Vw.notO h) r)⟩
  · exact ⟨e.notL h r, .inr ⟨b, e.keep _ _ (Vw.notO h) r⟩⟩
theorem TupAt.ext {a : Addr} {vs : List V} (e : Ext w w' H H') (h : TupAt G w H a vs) : TupAt G w' H' a vs := by
  rcases h with ⟨h, r⟩ | h
  · exact .inl (Rd.ext e h r)
  · exact .inr h
theorem FzAt.ext {a : Addr} {vs : List V} (e : Ext w w' H H') (h : FzAt G w H a vs) : FzAt G w' H' a vs := by
  rcases h with ⟨h, r⟩ | h
  · exact .inl (Rd.ext e h r)
  · exact .inr h
theorem TupAt.sq {a : Addr} {vs : List V} (h : TupAt G w H a vs) : SqT G.K H a vs := by
  rcases h with ⟨_, r⟩ | h
  · exact .inl r
  · exact .inr h
theorem FzAt.sq {a : Addr} {vs : List V} (h : FzAt G w H a vs) : SqL G.K H a vs := by
  rcases h with ⟨_, r⟩ | h
  · exact .inl r
  · exact .inr h
mutual
theorem RepV.ext (e : Ext w w' H H') : ∀ {d : D} {v : V}, RepV G w H d v → RepV G w' H' d v
  | _, _, .non => .non
  | _, _, .bl b => .bl b
  | _, _, .int i => .int i
  | _, _, .str x => .str x
  | _, _, .tup h r => .tup (h.ext e) (RepVs.ext e r)
  | _, _, .lv h q r => .lv (e.notL h q) (e.keep _ _ (Vw.notO h) q) (RepVs.ext e r)
  | _, _, .fz h r => .fz (h.ext e) (RepVs.ext e r)
  | _, _, .ref h => by rw [← e.mu _ h]; exact .ref (Nat.lt_of_lt_of_le h e.le)
  | _, _, .cls c => .cls c
  | _, _, .ty n => .ty n
theorem RepVs.ext (e : Ext w w' H H') : ∀ {d : List D} {v : List V}, RepVs G w H d v → RepVs G w' H' d v
  | _, _, .nil => .nil
  | _, _, .cons h r => .cons (RepV.ext e h) (RepVs.ext e r)
end
mutual
theorem RepV.gr {G G' : Gr} {w : Vw} {H : Hp} (hK : G'.K = G.K) (hc : G'.ca = G.ca) : ∀ {d : D} {v : V}, RepV G w H d v → RepV G' w H d v
  | _, _, .non => .non
  | _, _, .bl b => .bl b
  | _, _, .int i => .int i
  | _, _, .str x => .str x
  | _, _, .tup h r => .tup (by unfold TupAt at h ⊢; rw [hK]; exact h) (RepVs.gr hK hc r)
  | _, _, .lv h q r => .lv h q (RepVs.gr hK hc r)
  | _, _, .fz h r => .fz (by unfold FzAt at h ⊢; rw [hK]; exact h) (RepVs.gr hK hc r)
  | _, _, .ref h => .ref h
  | _, _, .cls c => by rw [← hc]; exact .cls c
  | _, _, .ty n => .ty n
theorem RepVs.gr {G G' : Gr} {w : Vw} {H : Hp} (hK : G'.K = G.K) (hc : G'.ca = G.ca) : ∀ {d : List D} {v : List V}, RepVs G w H d v → RepVs G' w H d v
  | _, _, .nil => .nil
  | _, _, .cons h r => .cons (RepV.gr hK hc h) (RepVs.gr hK hc r)
end
theorem RepO.gr {G G' : Gr} {w : Vw} {H : Hp} {a : Addr} {o : HD} (hK : G'.K = G.K) (hc : G'.ca = G.ca) (h : RepO G w H a o) : RepO G' w H a o := by
  cases h with
  | lst q r => exact .lst q (r.gr hK hc)
  | dic q r => exact .dic q (r.gr hK hc)
theorem Rel.gr {G G' : Gr} {w : Vw} {Hd : HH} {H : Hp} (hK : G'.K = G.K) (hc : G'.ca = G.ca) (r : Rel G w Hd H) : Rel G' w Hd H := ⟨r.n, r.inj, fun i o h => (r.obj i o h).gr hK hc, r.xx⟩
theorem RepVs.length : ∀ {ds : List D} {vs : List V}, RepVs G w H ds vs → ds.length = vs.length
  | _, _, .nil => rfl
  | _, _, .cons _ r => congrArg (· + 1) r.length
theorem RepVs.append : ∀ {ds es : List D} {vs us : List V}, RepVs G w H ds vs → RepVs G w H es us → RepVs G w H (ds ++ es) (vs ++ us)
  | _, _, _, _, .nil, s => s
  | _, _, _, _, .cons h r, s => .cons h (r.append s)
theorem RepVs.get : ∀ {ds : List D} {vs : List V} {i : Nat} {d : D}, RepVs G w H ds vs → ds[i]? = some d → ∃ v, vs[i]? = some v ∧ RepV G w H d v
  | _, _, _, _, .nil, e => by simp at e
  | _, _, 0, _, .cons h _, e => by simp at e; subst e; exact ⟨_, rfl, h⟩
  | _, _, i + 1, d, .cons _ r, e => by
    obtain ⟨v, h1, h2⟩ := RepVs.get (i := i) (d := d) r (by simpa using e)
    exact ⟨v, by simpa using h1, h2⟩
theorem RepVs.take : ∀ {ds : List D} {vs : List V} (n : Nat), RepVs G w H ds vs → RepVs G w H (ds.take n) (vs.take n)
  | _, _, 0, _ => .nil
  | _, _, _ + 1, .nil => .nil
  | _, _, n + 1, .cons h r => .cons h (r.take n)
theorem RepVs.drop : ∀ {ds : List D} {vs : List V} (n : Nat), RepVs G w H ds vs → RepVs G w H (ds.drop n) (vs.drop n)
  | _, _, 0, r => r
  | _, _, _ + 1, .nil => .nil
  | _, _, n + 1, .cons _ r => r.drop n
theorem RepVs.set {d : D} {v : V} (h : RepV G w H d v) : ∀ {ds : List D} {vs : List V} (i : Nat), RepVs G w H ds vs → RepVs G w H (ds.set i d) (vs.set i v)
  | _, _, _, .nil => .nil
  | _, _, 0, .cons _ r => .cons h r
  | _, _, i + 1, .cons q r => .cons q (r.set h i)
theorem RepVs.reverse {ds : List D} {vs : List V} (h : RepVs G w H ds vs) : RepVs G w H ds.reverse vs.reverse := by
  induction ds generalizing vs with
  | nil => cases h; exact .nil
  | cons d ds ih =>
    cases h with
    | cons h r => rw [List.reverse_cons, List.reverse_cons]; exact (ih r).append (.cons h .nil)
theorem RepVs.rep {ds : List D} {vs : List V} (h : RepVs G w H ds vs) : ∀ k : Nat, RepVs G w H (List.replicate k ds).flatten (List.replicate k vs).flatten
  | 0 => .nil
  | k + 1 => by rw [List.replicate_succ, List.replicate_succ, List.flatten_cons, List.flatten_cons]; exact h.append (h.rep k)

theorem Rel.lt {Hd : HH} (r : Rel G w Hd H) {i : Nat} (h : i < w.n) : ∃ o, Hd[i]? = some o ∧ RepO G w H (w.mu i) o := by
  have hi : i < Hd.length := by rw [← r.n]; exact h
  exact ⟨Hd[i], List.getElem?_eq_getElem hi, r.obj i _ (List.getElem?_eq_getElem hi)⟩
theorem RepO.some_ {a : Addr} {o : HD} (h : RepO G w H a o) : ∃ u, H a = some u := by
  cases h with
  | lst h _ => exact ⟨_, h⟩
  | dic h _ => exact ⟨_, h⟩
theorem Rel.ownSome {Hd : HH} (r : Rel G w Hd H) {a : Addr} (h : w.O a) : ∃ u, H a = some u := by
  obtain ⟨i, hi, rfl⟩ := h
  obtain ⟨o, _, q⟩ := r.lt hi
  exact q.some_
theorem Rel.liveSome {Hd : HH} (r : Rel G w Hd H) {a : Addr} (h : w.L a) : ∃ u, H a = some u := by
  rcases h with h | h
  · exact r.ownSome h
  · exact Option.ne_none_iff_exists'.mp (r.xx a h).1
theorem Rel.notL {Hd : HH} (r : Rel G w Hd H) {p : Addr} (hp : H p = none) : ¬ w.L p := fun h => by
  obtain ⟨u, e⟩ := r.liveSome h
  rw [hp] at e; cases e
theorem RepO.ext {a : Addr} {o : HD} (e : Ext w w' H H') (h : RepO G w H a o) (k : H' a = H a) : RepO G w' H' a o := by
  cases h with
  | lst h r => exact .lst (k.trans h) (r.ext e)
  | dic h r => exact .dic (k.trans h) (r.ext e)
/-- a new object that is not live -/
theorem ext_new {Hd : HH} (r : Rel G w Hd H) {p : Addr} (hp : H p = none) (o : HO) : Ext w w H (upd H p o) :=
  ⟨Nat.le_refl _, fun _ _ => rfl, fun i h h' => absurd h' (by omega), fun a u _ h => by rw [upd_ne (ne_of_none h hp)]; exact h, fun a h => by
    by_cases e : a = p
    · subst e; rw [upd_same]; simp
    · rw [upd_ne e]; exact h, fun _ h => .inl h, fun _ h => h⟩
theorem rel_new {Hd : HH} (r : Rel G w Hd H) {p : Addr} (hp : H p = none) (o : HO) : Rel G w Hd (upd H p o) :=
  ⟨r.n, r.inj, fun i u h => by
    have q := r.obj i u h
    obtain ⟨z, hz⟩ := q.some_
    exact q.ext (ext_new r hp o) (upd_ne (ne_of_none hz hp)), fun a h => ⟨(ext_new r hp o).there a (r.xx a h).1, (r.xx a h).2⟩⟩
/-- .. that is live -/
def Vw.add (w : Vw) (p : Addr) : Vw := ⟨fun i => if i = w.n then p else w.mu i, w.n + 1, w.xx⟩
theorem add_lt {i : Nat} {p : Addr} (h : i < w.n) : (w.add p).mu i = w.mu i := by
  show (if i = w.n then p else w.mu i) = _
  rw [if_neg (by omega)]
theorem add_n {p : Addr} : (w.add p).mu w.n = p := by
  show (if w.n = w.n then p else _) = p
  rw [if_pos rfl]
theorem ext_add {Hd : HH} (r : Rel G w Hd H) {p : Addr} (hp : H p = none) (o : HO) : Ext w (w.add p) H (upd H p o) :=
  ⟨Nat.le_succ _, fun i h => add_lt h, fun i h h' => by
    have e : i = w.n := by have : i < w.n + 1 := h'; omega
    subst e
    rw [add_n]; exact hp, (ext_new r hp o).keep, (ext_new r hp o).there, fun _ h => .inl h, fun _ h => h⟩
theorem rel_addO {Hd : HH} (r : Rel G w Hd H) {p : Addr} (hp : H p = none) {x : HD} {u : HO} (h : RepO G (w.add p) (upd H p u) p x) : Rel G (w.add p) (Hd ++ [x]) (upd H p u) := by
  have e := ext_add r hp u
  refine ⟨by rw [List.length_append]; show w.n + 1 = _; rw [r.n]; rfl, fun i j hi hj q => ?_, fun i o hi => ?_, fun a h => ⟨e.there a (r.xx a h).1, ?_⟩⟩
  · have hi : i < w.n + 1 := hi
    have hj : j < w.n + 1 := hj
    by_cases h1 : i < w.n
    · by_cases h2 : j < w.n
      · rw [add_lt h1, add_lt h2] at q; exact r.inj i j h1 h2 q
      · have : j = w.n := by omega
        subst this
        rw [add_lt h1, add_n] at q
        exact absurd ⟨i, h1, q⟩ (Vw.notO (r.notL hp))
    · have : i = w.n := by omega
      subst this
      by_cases h2 : j < w.n
      · rw [add_lt h2, add_n] at q
        exact absurd ⟨j, h2, q.symm⟩ (Vw.notO (r.notL hp))
      · omega
  · by_cases h1 : i < Hd.length
    · rw [List.getElem?_append_left h1] at hi
      have q := r.obj i o hi
      obtain ⟨z, hz⟩ := q.some_
      rw [add_lt (by rw [r.n]; exact h1)]
      exact q.ext e (upd_ne (ne_of_none hz hp))
    · have hlt : i < (Hd ++ [x]).length := (List.getElem?_eq_some_iff.mp hi).1
      have : i = Hd.length := by rw [List.length_append] at hlt; simp at hlt; omega
      subst this
      rw [List.getElem?_append_right (Nat.le_refl _)] at hi
      simp at hi
      subst hi
      rw [← r.n, add_n]
      exact h
  · rintro ⟨i, hi, z⟩
    have hi : i < w.n + 1 := hi
    by_cases h1 : i < w.n
    · rw [add_lt h1] at z
      exact (r.xx a h).2 ⟨i, h1, z⟩
    · have : i = w.n := by omega
      subst this
      rw [add_n] at z
      subst z
      exact (r.xx _ h).1 hp
theorem rel_add {Hd : HH} (r : Rel G w Hd H) {p : Addr} (hp : H p = none) {xs : List D} {vs : List V} (h : RepVs G w H xs vs) : Rel G (w.add p) (Hd ++ [.lst xs]) (upd H p (.lst vs)) :=
  rel_addO r hp (.lst upd_same (h.ext (ext_add r hp (.lst vs))))
/-- a live list turned -/
theorem ext_set {Hd : HH} (r : Rel G w Hd H) {i : Nat} (hi : i < w.n) (o : HO) : Ext w w H (upd H (w.mu i) o) :=
  ⟨Nat.le_refl _, fun _ _ => rfl, fun i h h' => absurd h' (by omega), fun a u hn h => by rw [upd_ne (fun z => hn ⟨i, hi, z.symm⟩)]; exact h, fun a h => by
    by_cases e : a = w.mu i
    · subst e; rw [upd_same]; simp
    · rw [upd_ne e]; exact h, fun _ h => .inl h, fun _ h => h⟩
theorem rel_setO {Hd : HH} (r : Rel G w Hd H) {i : Nat} (hi : i < w.n) {x : HD} {u : HO} (h : RepO G w (upd H (w.mu i) u) (w.mu i) x) : Rel G w (Hd.set i x) (upd H (w.mu i) u) := by
  have e := ext_set r hi u
  refine ⟨by rw [List.length_set]; exact r.n, r.inj, fun j o hj => ?_, fun a h => ⟨e.there a (r.xx a h).1, (r.xx a h).2⟩⟩
  by_cases hji : i = j
  · subst hji
    rw [List.getElem?_set_self (by rw [← r.n]; exact hi)] at hj
    cases hj
    exact h
  · rw [List.getElem?_set_ne hji] at hj
    have hl : j < w.n := by rw [r.n]; exact (List.getElem?_eq_some_iff.mp hj).1
    exact (r.obj j o hj).ext e (upd_ne fun z => hji (r.inj j i hl hi z).symm)
theorem rel_set {Hd : HH} (r : Rel G w Hd H) {i : Nat} (hi : i < w.n) {xs : List D} {vs : List V} (h : RepVs G w H xs vs) : Rel G w (Hd.set i (.lst xs)) (upd H (w.mu i) (.lst vs)) :=
  rel_setO r hi (.lst upd_same (h.ext (ext_set r hi (.lst vs))))
end

/-- the exception that a suite holds -/
def XcOk (G : Gr) (w : Vw) (H : Hp) (s : L2.St) : Prop := ∀ i a da f d, G.exc = some (i, a, da, f, d) → s[i]? = some (some (.ref a)) ∧ ∃ v, H da = some (.xd [(f, v)]) ∧ ¬ w.L da ∧ RepV G w H d v
theorem XcOk.ext {G : Gr} {w w' : Vw} {H H' : Hp} {s : L2.St} (e : Ext w w' H H') (x : XcOk G w H s) : XcOk G w' H' s := fun i a da f d h => by
  obtain ⟨h0, v, h1, h2, h3⟩ := x i a da f d h
  exact ⟨h0, v, e.keep _ _ (Vw.notO h2) h1, e.notL h2 h1, h3.ext e⟩
theorem XcOk.no {G : Gr} {w : Vw} {H : Hp} {s : L2.St} (hx : G.exc = none) : XcOk G w H s := fun i a da f d h => by rw [hx] at h; cases h
structure RepS (G : Gr) (w : Vw) (H : Hp) (sd : Sd) (s : L2.St) : Prop where
  len : sd.length = s.length
  get : ∀ (i : Nat) (d : D), sd[i]? = some (some d) → ∃ v : V, s[i]? = some (some v) ∧ RepV G w H d v
  xc : XcOk G w H s
section
variable {G : Gr} {w w' : Vw} {H H' : Hp} {sd : Sd} {s : L2.St}
theorem RepS.ext (e : Ext w w' H H') (r : RepS G w H sd s) : RepS G w' H' sd s := ⟨r.1, fun i d h => let ⟨v, h1, h2⟩ := r.2 i d h; ⟨v, h1, h2.ext e⟩, r.xc.ext e⟩
theorem RepS.set (hx : G.exc = none) (r : RepS G w H sd s) (i : Nat) {d : D} {v : V} (h : RepV G w H d v) : RepS G w H (sd.set i (some d)) (s.set i (some v)) := by
  refine ⟨by rw [List.length_set, List.length_set]; exact r.1, fun j e hj => ?_, .no hx⟩
  by_cases hi : i = j
  · subst hi
    have hl : i < sd.length := by
      have := (List.getElem?_eq_some_iff.mp hj).1
      rwa [List.length_set] at this
    rw [List.getElem?_set_self hl] at hj
    cases hj
    exact ⟨v, by rw [List.getElem?_set_self (by rw [← r.1]; exact hl)], h⟩
  · rw [List.getElem?_set_ne hi] at hj
    obtain ⟨u, h1, h2⟩ := r.2 j e hj
    exact ⟨u, by rw [List.getElem?_set_ne hi]; exact h1, h2⟩
theorem RepS.unset (hx : G.exc = none) (r : RepS G w H sd s) (i : Nat) : RepS G w H (sd.set i none) (s.set i none) := by
  refine ⟨by rw [List.length_set, List.length_set]; exact r.1, fun j e hj => ?_, .no hx⟩
  by_cases hi : i = j
  · subst hi
    have hl : i < sd.length := by
      have := (List.getElem?_eq_some_iff.mp hj).1
      rwa [List.length_set] at this
    rw [List.getElem?_set_self hl] at hj
    cases hj
  · rw [List.getElem?_set_ne hi] at hj
    obtain ⟨u, h1, h2⟩ := r.2 j e hj
    exact ⟨u, by rw [List.getElem?_set_ne hi]; exact h1, h2⟩
theorem RepS.wipe (hx : G.exc = none) (r : RepS G w H sd s) : ∀ vs : List Nat, RepS G w H (wipeD sd vs) (L2.wipe s vs)
  | [] => r
  | v :: vs => (RepS.wipe hx r vs).unset hx v
end

/-- how an exception lies -/
def RepX (G : Gr) (w : Vw) (H : Hp) (e : XV) (c : Value) (da : Option Addr) : Prop :=
  match e.cls with
  | .own k => c = .ref (G.ca k) ∧ match e.fld with
    | some d => ∃ a v, da = some a ∧ H a = some (.xd [(G.xf k, v)]) ∧ ¬ w.L a ∧ RepV G w H d v
    | none => True
  | .blt n => c = .type n
/-- of a result in general: R says what of the layer's world stands for it -/
abbrev RR (A B : Type) := Vw → Hp → A → B → Prop
def Post {A B : Type} (R : RR A B) (G : Gr) (w : Vw) (H : Hp) (r : Rs A) (W : XK) (Q : B → Hp → Prop) : Prop := match r with
  | .ok d Hd => ∀ w' H', Ext w w' H H' → Rel G w' Hd H' → ∀ v, R w' H' d v → Q v H'
  | .ex e Hd => ∀ w' H', Ext w w' H H' → Rel G w' Hd H' → ∀ c da, RepX G w' H' e c da → W c da H'
  | .no => False
/-- the very same -/
def Eqr (A : Type) : RR A A := fun _ _ a b => b = a
def PostS (G : Gr) (w : Vw) (H : Hp) (r : RS) (W : WX) (Q : Ends) : Prop := match r with
  | .go (.nx s) Hd => ∀ w' H', Ext w w' H H' → Rel G w' Hd H' → ∀ v, RepS G w' H' s v → Q.nx v H'
  | .go (.bk s) Hd => ∀ w' H', Ext w w' H H' → Rel G w' Hd H' → ∀ v, RepS G w' H' s v → Q.bk v H'
  | .go (.ct s) Hd => ∀ w' H', Ext w w' H H' → Rel G w' Hd H' → ∀ v, RepS G w' H' s v → Q.ct v H'
  | .go (.rt d) Hd => ∀ w' H', Ext w w' H H' → Rel G w' Hd H' → ∀ v, RepV G w' H' d v → Q.rt v H'
  | .ex e s Hd => ∀ w' H', Ext w w' H H' → Rel G w' Hd H' → ∀ v, RepS G w' H' s v → ∀ c da, RepX G w' H' e c da → W c da v H'
  | .no => False
abbrev wat (W : WX) (s : L2.St) : XK := fun c da H => W c da s H
section
variable {G : Gr} {w w1 : Vw} {H H1 : Hp} {W : XK}
theorem Post.step {A B : Type} {R : RR A B} {r : Rs A} {Q : B → Hp → Prop} (p : Post R G w H r W Q) (e : Ext w w1 H H1) : Post R G w1 H1 r W Q := by
  cases r with
  | ok d Hd => exact fun w' H' e' => p w' H' (e.trans e')
  | ex x Hd => exact fun w' H' e' => p w' H' (e.trans e')
  | no => exact p
theorem PostS.step {r : RS} {W : WX} {Q : Ends} (p : PostS G w H r W Q) (e : Ext w w1 H H1) : PostS G w1 H1 r W Q := by
  cases r with
  | go f Hd => cases f <;> exact fun w' H' e' => p w' H' (e.trans e')
  | ex x s Hd => exact fun w' H' e' => p w' H' (e.trans e')
  | no => exact p
end

def tX {A B : Type} (R : RR A B) (G : Gr) (W : WX) (f : Sd → HH → Rs A) (s : L2.St) (H : Hp) (Q : B → Hp → Prop) : Prop := ∃ w Hd sd, Rel G w Hd H ∧ RepS G w H sd s ∧ Post R G w H (f sd Hd) (wat W s) Q
abbrev tD (G : Gr) (W : WX) (f : Sd → HH → Rs D) : TE := tX (RepV G) G W f
abbrev tDA (G : Gr) (W : WX) (f : Sd → HH → Rs (List D)) : TA := tX (RepVs G) G W f
abbrev tDT (G : Gr) (W : WX) (f : Sd → HH → Rs Bool) : TT := tX (Eqr Bool) G W f
abbrev tDO (G : Gr) (W : WX) (f : Sd → HH → Rs (Option Int)) : TO := tX (Eqr (Option Int)) G W f
def tDG (G : Gr) (W : WX) (f : D → Sd → HH → Rs Sd) : TG := fun v s H Q => ∃ w Hd sd d, Rel G w Hd H ∧ RepS G w H sd s ∧ RepV G w H d v ∧ Post (RepS G) G w H (f d sd Hd) (wat W s) Q
def tDGs (G : Gr) (W : WX) (f : List D → Sd → HH → Rs Sd) : TGs := fun v s H Q => ∃ w Hd sd d, Rel G w Hd H ∧ RepS G w H sd s ∧ RepVs G w H d v ∧ Post (RepS G) G w H (f d sd Hd) (wat W s) Q
def tDS (G : Gr) (W : WX) (f : Sd → HH → RS) : TS := fun Q s H => ∃ w Hd sd, Rel G w Hd H ∧ RepS G w H sd s ∧ PostS G w H (f sd Hd) W Q
theorem PE.mono {X : Cx} {e : Expr} {t t' : TE} (h : PE X e t) (m : ∀ s H Q, t' s H Q → t s H Q) : PE X e t' := ⟨fun pins s σ H Q I q => h.run pins s σ H Q I (m _ _ _ q)⟩
theorem PT.mono {X : Cx} {e : Expr} {t t' : TT} (h : PT X e t) (m : ∀ s H Q, t' s H Q → t s H Q) : PT X e t' := ⟨fun pins s σ H Q I q => h.run pins s σ H Q I (m _ _ _ q)⟩
theorem PW.mono {X : Cx} {e : Expr} {t t' : TT} (h : PW X e t) (m : ∀ s H Q, t' s H Q → t s H Q) : PW X e t' := ⟨fun wh pins s σ H Q I q => h.run wh pins s σ H Q I (m _ _ _ q)⟩
theorem PA.mono {X : Cx} {e : List Expr} {t t' : TA} (h : PA X e t) (m : ∀ s H Q, t' s H Q → t s H Q) : PA X e t' := ⟨fun pos pins s σ H Q I q => h.run pos pins s σ H Q I (m _ _ _ q)⟩
theorem PG.mono {X : Cx} {e : Expr} {t t' : TG} (h : PG X e t) (m : ∀ v s H Q, t' v s H Q → t v s H Q) : PG X e t' := ⟨fun pins s σ H v u Q I r q => h.run pins s σ H v u Q I r (m _ _ _ _ q)⟩
theorem PGs.mono {X : Cx} {e : List Expr} {t t' : TGs} (h : PGs X e t) (m : ∀ v s H Q, t' v s H Q → t v s H Q) : PGs X e t' := ⟨fun pins s σ H v u Q I r q => h.run pins s σ H v u Q I r (m _ _ _ _ q)⟩
theorem PS.mono {X : Cx} {e : Stmt} {t t' : TS} (h : PS X e t) (m : ∀ D s H, t' D s H → t D s H) : PS X e t' := ⟨fun pins s σ H Q I q => h.run pins s σ H Q I (m _ _ _ q)⟩
theorem PSs.mono {X : Cx} {e : List Stmt} {t t' : TS} (h : PSs X e t) (m : ∀ D s H, t' D s H → t D s H) : PSs X e t' := ⟨fun pins s σ H Q I q => h.run pins s σ H Q I (m _ _ _ q)⟩

section
variable {G : Gr} {w : Vw} {H : Hp} {W : WX} {Hd : HH} {sd : Sd} {s : L2.St}
/-- a part, then the rest -/
theorem seq {A B C E : Type} {R : RR A B} {R' : RR C E} {f : Sd → HH → Rs A} {k : A → HH → Rs C} {Q : E → Hp → Prop} {Q1 : B → Hp → Prop} (rel : Rel G w Hd H) (rs : RepS G w H sd s)
    (p : Post R' G w H ((f sd Hd).bind k) (wat W s) Q)
    (h : ∀ x Hd1 w1 H1 v, Ext w w1 H H1 → Rel G w1 Hd1 H1 → RepS G w1 H1 sd s → R w1 H1 x v → Post R' G w1 H1 (k x Hd1) (wat W s) Q → Q1 v H1) : tX R G W f s H Q1 := by
  refine ⟨w, Hd, sd, rel, rs, ?_⟩
  generalize f sd Hd = r at p
  cases r with
  | ok d Hd1 => exact fun w1 H1 e r1 v rv => h d Hd1 w1 H1 v e r1 (rs.ext e) rv (Post.step p e)
  | ex x Hd1 => exact p
  | no => exact p
/-- .. with what came -/
theorem seqQ {A B C E : Type} {R : RR A B} {R' : RR C E} {f : Sd → HH → Rs A} {k : A → HH → Rs C} {Q : E → Hp → Prop} {Q1 : B → Hp → Prop} (rel : Rel G w Hd H) (rs : RepS G w H sd s)
    (p : Post R' G w H ((f sd Hd).bind k) (wat W s) Q)
    (h : ∀ x Hd1 w1 H1 v, f sd Hd = .ok x Hd1 → Ext w w1 H H1 → Rel G w1 Hd1 H1 → RepS G w1 H1 sd s → R w1 H1 x v → Post R' G w1 H1 (k x Hd1) (wat W s) Q → Q1 v H1) : tX R G W f s H Q1 := by
  refine ⟨w, Hd, sd, rel, rs, ?_⟩
  generalize e : f sd Hd = r at p
  cases r with
  | ok d Hd1 => exact fun w1 H1 e1 r1 v rv => h d Hd1 w1 H1 v e e1 r1 (rs.ext e1) rv (Post.step p e1)
  | ex x Hd1 => exact p
  | no => exact p
theorem ofO_post {A B : Type} {R : RR A B} {o : Option A} {W : XK} {Q : B → Hp → Prop} (p : Post R G w H (Rs.ofO o Hd) W Q) : ∃ d, o = some d ∧ ∀ w' H', Ext w w' H H' → Rel G w' Hd H' → ∀ v, R w' H' d v → Q v H' := by
  cases o with
  | some d => exact ⟨d, rfl, p⟩
  | none => exact p.elim
/-- .. of a statement -/
theorem seqS {A B : Type} {R : RR A B} {f : Sd → HH → Rs A} {k : A → HH → RS} {D : Ends} {Q1 : B → Hp → Prop} (rel : Rel G w Hd H) (rs : RepS G w H sd s)
    (p : PostS G w H ((f sd Hd).st sd k) W D)
    (h : ∀ x Hd1 w1 H1 v, Ext w w1 H H1 → Rel G w1 Hd1 H1 → RepS G w1 H1 sd s → R w1 H1 x v → PostS G w1 H1 (k x Hd1) W D → Q1 v H1) : tX R G W f s H Q1 := by
  refine ⟨w, Hd, sd, rel, rs, ?_⟩
  generalize f sd Hd = r at p
  cases r with
  | ok d Hd1 => exact fun w1 H1 e r1 v rv => h d Hd1 w1 H1 v e r1 (rs.ext e) rv (PostS.step p e)
  | ex x Hd1 => exact fun w' H' e r1 c da rx => p w' H' e r1 s (rs.ext e) c da rx
  | no => exact p
end
end DI
namespace DI
open PySem PySem.Spec PyProof.Rows L2
theorem tuple_mul1 (l : Addr) (items : Array Value) (n : Nat) (dd : Option Addr) (sl : Array (Option Value)) (u : Tok) (c1 : (items.isEmpty || (1 : Int) == 1) = true) :
    Meets (Builtin.«tuple.__mul__» ⟨[.ref l, .int 1 u], []⟩) (fun _ R s => s.heap.get? l = some { cls := .type "tuple", dict := dd, data := .seq items n, slots := sl } ∧ R (.ok (.ret (Value.ref l))) s) :=
  .of_wp fun prog w A R s h => by
    obtain ⟨hp, g, d, tk, os⟩ := s
    obtain ⟨hl, h⟩ := h
    have f1 := AutoSeq1.idx_int
    wp_walk using wpAny_loadPart' hl
    repeat (first
      | (refine wpAny_ite_true (decide_eq_true c1) ?_; wp_walk using wpAny_loadPart' hl))
    exact ⟨_, rfl, h⟩
theorem tuple_mul0 (l : Addr) (items : Array Value) (n : Nat) (dd : Option Addr) (sl : Array (Option Value)) (u : Tok) (c1 : (items.isEmpty || (0 : Int) == 1) = false) :
    Meets (Builtin.«tuple.__mul__» ⟨[.ref l, .int 0 u], []⟩) (fun _ R s => s.heap.get? l = some { cls := .type "tuple", dict := dd, data := .seq items n, slots := sl } ∧
      R (.ok (.ret (Value.ref s.heap.objs.size))) { s with heap := s.heap.push { cls := Value.type "tuple", data := Data.seq #[] }, toks := s.toks }) :=
  .of_wp fun prog w A R s h => by
    obtain ⟨hp, g, d, tk, os⟩ := s
    obtain ⟨hl, h⟩ := h
    have f1 := AutoSeq1.idx_int
    wp_walk using wpAny_loadPart' hl
    repeat (first
      | (refine wpAny_ite_false (decide_eq_false (by rw [c1]; exact Bool.false_ne_true)) ?_; wp_walk using wpAny_loadPart' hl))
    exact ⟨_, rfl, h⟩
def rRep01 (K : PySem.W.Frag) : R2 := fun x y H Q => ∃ l k xs, x = .ref l ∧ y = .int k ∧ SqT K H l xs ∧ xs ≠ [] ∧ ((k = 1 ∧ Q (.ref l) H) ∨ (k = 0 ∧ ∀ p, H p = none → Q (.ref p) (upd H p (.tup []))))
section
variable {X : Cx}
theorem op_rep01 : OpR X (binaryOp .Mult) (rRep01 X.K) := by
  intro pins s σ H x y v u Q I rx ry h
  obtain ⟨l, k, xs, rfl, rfl, hT, hne, q⟩ := h
  cases rx
  obtain ⟨t, rfl⟩ := ry
  obtain ⟨its, r, ⟨⟨cls, dd, data, sl⟩, ho, hc, n, hd⟩, hs⟩ := I.tuple hT
  simp only at hc hd
  subst hc hd
  have hle : its.length = xs.length := r.length.symm
  have hn : its ≠ [] := fun e => hne (by
    rw [e] at hle
    exact List.eq_nil_of_length_eq_zero hle.symm)
  have hi : its.toArray.isEmpty = false := by
    cases its with
    | nil => exact absurd rfl hn
    | cons a b => rfl
  rcases q with ⟨rfl, q⟩ | ⟨rfl, q⟩
  · refine wpAny_binaryOp_repeat_ref (T := "tuple") (U := "int") (by decide) ⟨_, ho, rfl⟩ (fun s' => typeIs_int s' 1 t) noFill_tuple_mul F.fills_int_mul F.slot_int_rmul repeat_tuple F.slot_int_index.lookup
      (call_meets F.slot_int_rmul (typeIs_int s 1 t) F.entry_int_rmul (F.args_int_rmul_2 _ _) (int_rmul_tuple 1 t l its.toArray n dd sl)
        ⟨ho, rfl, ⟨_, ho, rfl⟩, call_meets F.slot_tuple_mul ⟨_, ho, rfl⟩ F.entry_tuple_mul (F.args_tuple_mul_2 _ _) (tuple_mul1 l its.toArray n dd sl t (by rw [hi]; rfl)) ⟨ho, ?_⟩⟩)
    exact ⟨.ref l, H, I, rfl, q⟩
  · refine wpAny_binaryOp_repeat_ref (T := "tuple") (U := "int") (by decide) ⟨_, ho, rfl⟩ (fun s' => typeIs_int s' 0 t) noFill_tuple_mul F.fills_int_mul F.slot_int_rmul repeat_tuple F.slot_int_index.lookup
      (call_meets F.slot_int_rmul (typeIs_int s 0 t) F.entry_int_rmul (F.args_int_rmul_2 _ _) (int_rmul_tuple 0 t l its.toArray n dd sl)
        ⟨ho, rfl, ⟨_, ho, rfl⟩, call_meets F.slot_tuple_mul ⟨_, ho, rfl⟩ F.entry_tuple_mul (F.args_tuple_mul_2 _ _) (tuple_mul0 l its.toArray n dd sl t (by rw [hi]; rfl)) ⟨ho, ?_⟩⟩)
    refine ⟨.ref s.heap.objs.size, _, I.laid (t' := s.toks) (o := .tup []) (fun b ob q => Heap.get?_push_of_some _ q) (Nat.le_refl _) ?_, rfl, q _ (I.hok.fresh (Nat.le_refl _))⟩
    exact ⟨Nat.zero_le _, [], .nil, IsTup.new _ _⟩
end
end DI
namespace DI
open PySem PySem.Spec PyProof.Rows L2

def RepW (G : Gr) (w : Vw) (H : Hp) (d : D) (v : V) : Prop := match d with
  | .lv xs => ∃ (a : Addr) (vs : List V), v = .ref a ∧ H a = some (.lst vs) ∧ RepVs G w H xs vs
  | .dv ks ds => ∃ (a : Addr) (kvs : List (L2.Key × V)), v = .ref a ∧ H a = some (.dK kvs) ∧ ks = keysD kvs ∧ RepVs G w H ds (kvs.map fun p => p.2)
  | d => RepV G w H d v
section
variable {G : Gr} {w w' : Vw} {H H' : Hp} {Hd : HH}
theorem repW_of {d : D} {v : V} (h : RepV G w H d v) : RepW G w H d v := by
  cases h with
  | lv a b c => exact ⟨_, _, rfl, b, c⟩
  | non => exact .non
  | bl b => exact .bl b
  | int i => exact .int i
  | str x => exact .str x
  | tup a b => exact .tup a b
  | fz a b => exact .fz a b
  | ref a => exact .ref a
  | cls c => exact .cls c
  | ty c => exact .ty c
theorem repW_view {d : D} {v : V} (r : Rel G w Hd H) (h : RepV G w H d v) : RepW G w H (viewD Hd d) v := by
  cases h with
  | ref a =>
    obtain ⟨o, e, q⟩ := r.lt a
    cases q with
    | lst h1 h2 =>
      unfold viewD
      simp only [e]
      exact ⟨_, _, rfl, h1, h2⟩
    | dic h1 h2 =>
      unfold viewD
      simp only [e]
      exact ⟨_, _, rfl, h1, rfl, h2⟩
  | lv a b c => exact ⟨_, _, rfl, b, c⟩
  | non => exact .non
  | bl b => exact .bl b
  | int i => exact .int i
  | str x => exact .str x
  | tup a b => exact .tup a b
  | fz a b => exact .fz a b
  | cls c => exact .cls c
  | ty c => exact .ty c
theorem repWs_view (r : Rel G w Hd H) : ∀ {ds : List D} {vs : List V}, RepVs G w H ds vs → Paired (RepW G w H) (ds.map (viewD Hd)) vs
  | _, _, .nil => .nil
  | _, _, .cons h t => .cons (repW_view r h) (repWs_view r t)
/-- the new list, the new tuple as data -/
theorem new_lv {p : Addr} {xs : List D} {vs : List V} (r : Rel G w Hd H) (hp : H p = none) (h : RepVs G w H xs vs) : RepV G w (upd H p (.lst vs)) (.lv xs) (.ref p) :=
  .lv (r.notL hp) upd_same (h.ext (ext_new r hp _))
theorem new_tup {p : Addr} {xs : List D} {vs : List V} (r : Rel G w Hd H) (hp : H p = none) (h : RepVs G w H xs vs) : RepV G w (upd H p (.tup vs)) (.tup xs) (.ref p) :=
  .tup (.inl ⟨r.notL hp, .inl upd_same⟩) (h.ext (ext_new r hp _))
end
/-- what is done with a pure result -/
abbrev Ret (G : Gr) (w : Vw) (Hd : HH) (H : Hp) (d : D) (Q : VK) : Prop := ∀ w' H', Ext w w' H H' → Rel G w' Hd H' → ∀ v, RepV G w' H' d v → Q v H'
section
variable {G : Gr} {w : Vw} {H : Hp} {Hd : HH} {Q : VK} {d : D} {v : V}
theorem Ret.here (q : Ret G w Hd H d Q) (r : Rel G w Hd H) (h : RepV G w H d v) : Q v H := q w H (Ext.refl _ _) r v h
theorem Ret.lv {xs : List D} {vs : List V} (q : Ret G w Hd H (.lv xs) Q) (r : Rel G w Hd H) (h : RepVs G w H xs vs) : ∀ p, H p = none → Q (.ref p) (upd H p (.lst vs)) := fun p hp =>
  q w _ (ext_new r hp _) (rel_new r hp _) _ (new_lv r hp h)
theorem Ret.tup {xs : List D} {vs : List V} (q : Ret G w Hd H (.tup xs) Q) (r : Rel G w Hd H) (h : RepVs G w H xs vs) : ∀ p, H p = none → Q (.ref p) (upd H p (.tup vs)) := fun p hp =>
  q w _ (ext_new r hp _) (rel_new r hp _) _ (new_tup r hp h)
end

/-- an operator by views -/
def rW2 (G : Gr) (f : D → D → Option D) : R2 := fun x y H Q => ∃ w Hd dx dy d, Rel G w Hd H ∧ RepW G w H dx x ∧ RepW G w H dy y ∧ f dx dy = some d ∧ Ret G w Hd H d Q
theorem str_len (x : List Nat) : (⟨x.toArray⟩ : Str).length = x.length := by
  show (x.toArray).size = _
  simp
theorem str_app (x y : List Nat) : (⟨x.toArray⟩ : Str) ++ ⟨y.toArray⟩ = ⟨(x ++ y).toArray⟩ := by
  show (⟨x.toArray ++ y.toArray⟩ : Str) = _
  simp

theorem RepVs.nil_iff {G : Gr} {w : Vw} {H : Hp} {xs : List D} {vs : List V} (h : RepVs G w H xs vs) : vs = [] ↔ xs = [] := by
  cases h with
  | nil => simp
  | cons _ _ => simp
section
variable {X : Cx} {G : Gr}
theorem bin_add (hK : G.K = X.K) : OpR X (binaryOp .Add) (rW2 G (binD .Add)) := by
  intro pins s σ H x y v u Q I rx ry h
  obtain ⟨w, Hd, dx, dy, d, rel, hx, hy, hb, q⟩ := h
  simp only [binD] at hb
  split at hb
  · rename_i i j
    have hx : RepV G w H (.int i) x := hx
    have hy : RepV G w H (.int j) y := hy
    cases hx; cases hy; cases hb
    exact op_add pins s σ H _ _ v u Q I rx ry ⟨_, _, rfl, rfl, q.here rel (.int _)⟩
  · rename_i a b
    have hx : RepV G w H (.str a) x := hx
    have hy : RepV G w H (.str b) y := hy
    cases hx; cases hy
    split at hb
    · rename_i hl
      cases hb
      exact op_add_str pins s σ H _ _ v u Q I rx ry ⟨_, _, rfl, rfl, by rw [str_len, str_len, ← lim_eq]; exact hl, by rw [str_app]; exact q.here rel (.str _)⟩
    · cases hb
  · rename_i a b
    obtain ⟨p, vs, rfl, h1, h2⟩ := hx
    obtain ⟨p', vs', rfl, h1', h2'⟩ := hy
    split at hb
    · rename_i hl
      cases hb
      exact op_cat pins s σ H _ _ v u Q I rx ry ⟨p, p', _, _, rfl, rfl, h1, h1', by rw [← h2.length, ← h2'.length, ← lim_eq]; exact hl, q.lv rel (h2.append h2')⟩
    · cases hb
  · rename_i a b
    have hx : RepV G w H (.tup a) x := hx
    have hy : RepV G w H (.tup b) y := hy
    cases hx with
    | tup t1 h1 =>
      cases hy with
      | tup t2 h2 =>
        split at hb
        · rename_i hl
          cases hb
          refine op_catA pins s σ H _ _ v u Q I rx ry ⟨_, _, _, _, rfl, rfl, hK ▸ t1.sq, hK ▸ t2.sq, by rw [← h1.length, ← h2.length, ← lim_eq]; exact hl, fun e => ?_, fun _ e => ?_, fun _ _ => q.tup rel (h1.append h2)⟩
          · rw [h1.nil_iff] at e
            subst e
            exact q.here rel (.tup t2 h2)
          · rw [h2.nil_iff] at e
            subst e
            rw [List.append_nil] at q
            exact q.here rel (.tup t1 h1)
        · cases hb
  · cases hb
def rAddR (G : Gr) : R2 := fun x y H Q => ∃ w Hd xs ys, Rel G w Hd H ∧ RepW G w H (.lv xs) x ∧ RepW G w H (.lv ys) y ∧ xs.length + ys.length ≤ lim ∧ ∀ w' H', Ext w w' H H' → Rel G w' (Hd ++ [.lst (xs ++ ys)]) H' → ∀ v, RepV G w' H' (.ref Hd.length) v → Q v H'
theorem bin_addR : OpR X (binaryOp .Add) (rAddR G) := by
  intro pins s σ H x y v u Q I rx ry h
  obtain ⟨w, Hd, a, b, rel, hx, hy, hl, q⟩ := h
  obtain ⟨p, vs, rfl, h1, h2⟩ := hx
  obtain ⟨p', vs', rfl, h1', h2'⟩ := hy
  refine op_cat pins s σ H _ _ v u Q I rx ry ⟨p, p', _, _, rfl, rfl, h1, h1', by rw [← h2.length, ← h2'.length, ← lim_eq]; exact hl, fun t ht => ?_⟩
  have z : RepV G (w.add t) (upd H t (.lst (vs ++ vs'))) (.ref Hd.length) (.ref t) := by
    have := RepV.ref (G := G) (w := w.add t) (H := upd H t (.lst (vs ++ vs'))) (r := w.n) (Nat.lt_succ_self _)
    rw [add_n] at this
    rw [← rel.n]
    exact this
  exact q _ _ (ext_add rel ht _) (rel_add rel ht (h2.append h2')) _ z
theorem bin_sub : OpR X (binaryOp .Sub) (rW2 G (binD .Sub)) := by
  intro pins s σ H x y v u Q I rx ry h
  obtain ⟨w, Hd, dx, dy, d, rel, hx, hy, hb, q⟩ := h
  simp only [binD] at hb
  split at hb
  · rename_i i j
    have hx : RepV G w H (.int i) x := hx
    have hy : RepV G w H (.int j) y := hy
    cases hx; cases hy; cases hb
    exact op_sub pins s σ H _ _ v u Q I rx ry ⟨_, _, rfl, rfl, q.here rel (.int _)⟩
  · cases hb
theorem smallI_iff {i : Int} : smallI i = true ↔ -(2 ^ 64) < i ∧ i < 2 ^ 64 := by unfold smallI; exact decide_eq_true_iff
theorem fold_rep (c : Array Nat) : ∀ (n : Nat) (acc : Array Nat), (List.replicate n c).foldl (· ++ ·) acc = acc ++ (List.replicate n c.toList).flatten.toArray
  | 0, acc => by simp
  | n + 1, acc => by
    rw [List.replicate_succ, List.foldl_cons, fold_rep c n, List.replicate_succ, List.flatten_cons]
    apply Array.ext'
    simp
theorem rep_nil : ∀ n : Nat, (List.replicate n ([] : List Nat)).flatten = []
  | 0 => rfl
  | n + 1 => by rw [List.replicate_succ, List.flatten_cons, rep_nil n]; rfl
theorem rep_len {A : Type} (a : List A) : ∀ n : Nat, ((List.replicate n a).flatten).length = n * a.length
  | 0 => by simp
  | n + 1 => by rw [List.replicate_succ, List.flatten_cons, List.length_append, rep_len a n, Nat.add_mul]; omega
theorem op_repS : OpR X (binaryOp .Mult) (fun x y H Q => ∃ (a : List Nat) (k : Int), x = .str ⟨a.toArray⟩ ∧ y = .int k ∧ -(2 ^ 62) ≤ k ∧ k < 2 ^ 62 ∧ a.length * k.toNat ≤ 16777216 ∧ Q (.str ⟨(List.replicate k.toNat a).flatten.toArray⟩) H) := by
  intro pins s σ H x y v u Q I rx ry h
  obtain ⟨a, k, rfl, rfl, h1, h2, hz, q⟩ := h
  obtain ⟨t, rfl⟩ := rx
  obtain ⟨t', rfl⟩ := ry
  have hl : (⟨a.toArray⟩ : Str).length = a.length := str_len a
  refine PySem.P.mul_str (by rw [decide_eq_false (show ¬ k < -(2 ^ 63 : Int) by omega), decide_eq_false (show ¬ k ≥ 2 ^ 63 by omega)]; rfl) (fun k1 _ => ?_) (fun k1 _ => ?_) ?_
  · rw [hl]
    have hk : (k.toNat : Int) = k := Int.toNat_of_nonneg (by omega)
    have : ((a.length * k.toNat : Nat) : Int) ≤ 16777216 := Int.ofNat_le.mpr hz
    rw [Int.natCast_mul, hk] at this
    have z : (a.length : Int) ≤ (2 ^ 63 - 1) / k := Int.le_ediv_of_mul_le (by omega) (by omega)
    omega
  · rw [hl]
    unfold Builtin.Str.tooLong
    have := PySem.sizeLine_eq
    exact decide_eq_false (by omega)
  · by_cases k1 : k < 1
    · rw [if_pos k1]
      have e : k.toNat = 0 := by omega
      rw [e] at q
      exact ⟨by decide, .str _, H, I.tok _, ⟨_, rfl⟩, q⟩
    · rw [if_neg k1]
      by_cases k2 : (k == 1 || (⟨a.toArray⟩ : Str).length == 0) = true
      · rw [if_pos k2]
        refine ⟨.str _, H, I, ⟨_, rfl⟩, ?_⟩
        rw [Bool.or_eq_true, beq_iff_eq, beq_iff_eq, hl] at k2
        have e : (List.replicate k.toNat a).flatten = a := by
          rcases k2 with rfl | e
          · simp
          · have : a = [] := List.length_eq_zero_iff.mp e
            subst this
            exact rep_nil _
        rw [e] at q
        exact q
      · rw [if_neg k2]
        have e : (⟨(List.replicate k.toNat a.toArray).foldl (· ++ ·) #[]⟩ : Str) = ⟨(List.replicate k.toNat a).flatten.toArray⟩ := by
          rw [fold_rep]; simp
        show Made.post (Made.str (⟨(List.replicate k.toNat a.toArray).foldl (· ++ ·) #[]⟩ : Str)) _ _
        rw [e]
        refine ⟨?_, .str _, H, I.tok _, ⟨_, rfl⟩, q⟩
        rw [str_len, rep_len, ← lim_eq, Nat.mul_comm]
        exact hz
theorem bin_mul (hK : G.K = X.K) : OpR X (binaryOp .Mult) (rW2 G (binD .Mult)) := by
  intro pins s σ H x y v u Q I rx ry h
  obtain ⟨w, Hd, dx, dy, d, rel, hx, hy, hb, q⟩ := h
  simp only [binD] at hb
  split at hb
  · rename_i i j
    have hx : RepV G w H (.int i) x := hx
    have hy : RepV G w H (.int j) y := hy
    cases hx; cases hy
    split at hb
    · rename_i hl
      cases hb
      refine op_mul pins s σ H _ _ v u Q I rx ry ⟨_, _, rfl, rfl, ?_, q.here rel (.int _)⟩
      rw [Bool.or_eq_true, smallI_iff, smallI_iff] at hl
      exact hl
    · cases hb
  · rename_i a j
    have hx : RepV G w H (.str a) x := hx
    have hy : RepV G w H (.int j) y := hy
    cases hx
    cases hy
    split at hb
    · rename_i hl
      cases hb
      rw [Bool.and_eq_true, smallI_iff, decide_eq_true_iff] at hl
      exact op_repS pins s σ H _ _ v u Q I rx ry ⟨_, _, rfl, rfl, by omega, by omega, hl.2, q.here rel (.str _)⟩
    · cases hb
  · rename_i a j
    obtain ⟨p, vs, rfl, h1, h2⟩ := hx
    have hy : RepV G w H (.int j) y := hy
    cases hy
    split at hb
    · rename_i hl
      cases hb
      rw [Bool.and_eq_true, smallI_iff, decide_eq_true_iff] at hl
      refine op_rep pins s σ H _ _ v u Q I rx ry ⟨p, _, _, rfl, rfl, h1, by omega, by omega, by rw [← h2.length, ← lim_eq]; exact hl.2, q.lv rel (h2.rep _)⟩
    · cases hb
  · rename_i a j
    have hx : RepV G w H (.tup a) x := hx
    have hy : RepV G w H (.int j) y := hy
    cases hx with
    | tup t1 h1 =>
      cases hy
      split at hb
      · cases hb
      · rename_i hne
        have hvs : ∀ e : _ = [], False := fun e => hne (by rw [h1.nil_iff] at e; subst e; rfl)
        split at hb
        · rename_i e
          cases hb
          exact op_rep01 pins s σ H _ _ v u Q I rx ry ⟨_, _, _, rfl, rfl, hK ▸ t1.sq, hvs, .inr ⟨e, q.tup rel .nil⟩⟩
        · split at hb
          · rename_i e
            cases hb
            exact op_rep01 pins s σ H _ _ v u Q I rx ry ⟨_, _, _, rfl, rfl, hK ▸ t1.sq, hvs, .inl ⟨e, q.here rel (.tup t1 h1)⟩⟩
          · cases hb
  · cases hb
theorem bin_fdiv : OpR X (binaryOp .FloorDiv) (rW2 G (binD .FloorDiv)) := by
  intro pins s σ H x y v u Q I rx ry h
  obtain ⟨w, Hd, dx, dy, d, rel, hx, hy, hb, q⟩ := h
  simp only [binD] at hb
  split at hb
  · rename_i i j
    have hx : RepV G w H (.int i) x := hx
    have hy : RepV G w H (.int j) y := hy
    cases hx; cases hy
    split at hb
    · rename_i hl
      cases hb
      rw [Bool.and_eq_true, decide_eq_true_iff, decide_eq_true_iff] at hl
      exact op_fdiv pins s σ H _ _ v u Q I rx ry ⟨_, _, rfl, rfl, hl, q.here rel (.int _)⟩
    · cases hb
  · cases hb
theorem bin_mod : OpR X (binaryOp .Mod) (rW2 G (binD .Mod)) := by
  intro pins s σ H x y v u Q I rx ry h
  obtain ⟨w, Hd, dx, dy, d, rel, hx, hy, hb, q⟩ := h
  simp only [binD] at hb
  split at hb
  · rename_i i j
    have hx : RepV G w H (.int i) x := hx
    have hy : RepV G w H (.int j) y := hy
    cases hx; cases hy
    split at hb
    · rename_i hl
      cases hb
      exact op_mod pins s σ H _ _ v u Q I rx ry ⟨_, _, rfl, rfl, hl, q.here rel (.int _)⟩
    · cases hb
  · cases hb
theorem bin_pow : OpR X (binaryOp .Pow) (rW2 G (binD .Pow)) := by
  intro pins s σ H x y v u Q I rx ry h
  obtain ⟨w, Hd, dx, dy, d, rel, hx, hy, hb, q⟩ := h
  simp only [binD] at hb
  split at hb
  · rename_i i j
    have hx : RepV G w H (.int i) x := hx
    have hy : RepV G w H (.int j) y := hy
    cases hx; cases hy
    split at hb
    · rename_i hl
      cases hb
      simp only [Bool.and_eq_true, decide_eq_true_iff] at hl
      exact op_pow pins s σ H _ _ v u Q I rx ry ⟨_, _, rfl, rfl, ⟨hl.1.1.2, by omega, hl.2⟩, q.here rel (.int _)⟩
    · cases hb
  · cases hb
theorem op_bin (hK : G.K = X.K) (o : Operator) : OpR X (binaryOp o) (rW2 G (binD o)) := by
  cases o with
  | Add => exact bin_add hK
  | Sub => exact bin_sub
  | Mult => exact bin_mul hK
  | FloorDiv => exact bin_fdiv
  | Mod => exact bin_mod
  | Pow => exact bin_pow
  | _ => (intro pins s σ H x y v u Q I rx ry h; obtain ⟨w, Hd, dx, dy, d, rel, hx, hy, hb, q⟩ := h; cases hb)

mutual
theorem dp_of {w : Vw} {H : Hp} (hK : G.K = X.K) : ∀ {d : D} {v : V}, plainD d = true → RepV G w H d v → Dp X.K H v (toPy d)
  | _, _, _, .non => by unfold toPy; exact .non
  | _, _, _, .bl b => by unfold toPy; exact .bl b
  | _, _, _, .int i => by unfold toPy; exact .int i
  | _, _, _, .str x => by unfold toPy; exact .str _
  | _, _, p, .tup h r => by unfold toPy; unfold plainD at p; exact .tup (hK ▸ h.sq) (dps_of hK p r)
  | _, _, p, .lv _ h r => by unfold toPy; unfold plainD at p; exact .lst (SqL.of h) (dps_of hK p r)
  | .fz _, _, p, _ => by unfold plainD at p; cases p
  | .ref _, _, p, _ => by unfold plainD at p; cases p
  | .cls _, _, p, _ => by unfold plainD at p; cases p
  | .ty _, _, p, _ => by unfold plainD at p; cases p
theorem dps_of {w : Vw} {H : Hp} (hK : G.K = X.K) : ∀ {ds : List D} {vs : List V}, plainDs ds = true → RepVs G w H ds vs → DpAll X.K H vs (toPys ds)
  | _, _, _, .nil => by unfold toPys; exact .nil
  | _, _, p, .cons h r => by
    unfold toPys
    unfold plainDs at p
    rw [Bool.and_eq_true] at p
    exact .cons (dp_of hK p.1 h) (dps_of hK p.2 r)
end
theorem dpW_of {w : Vw} {H : Hp} (hK : G.K = X.K) {d : D} {v : V} (p : plainD d = true) (h : RepW G w H d v) : Dp X.K H v (toPy d) := by
  cases d with
  | lv xs =>
    obtain ⟨a, vs, rfl, h1, h2⟩ := h
    unfold toPy
    unfold plainD at p
    exact .lst (SqL.of h1) (dps_of hK p h2)
  | dv _ _ => unfold plainD at p; cases p
  | _ => exact dp_of hK p h
mutual
theorem depth_py : ∀ d : D, plainD d = true → (toPy d).depth = depthD d
  | .non, _ => by simp [toPy, PyData.depth, depthD]
  | .bl _, _ => by simp [toPy, PyData.depth, depthD]
  | .int _, _ => by simp [toPy, PyData.depth, depthD]
  | .str _, _ => by simp [toPy, PyData.depth, depthD]
  | .tup xs, p => by unfold plainD at p; simp only [toPy, PyData.depth, depthD, depths_py xs p]
  | .lv xs, p => by unfold plainD at p; simp only [toPy, PyData.depth, depthD, depths_py xs p]
  | .fz xs, p => by unfold plainD at p; cases p
  | .dv _ _, p => by unfold plainD at p; cases p
  | .sv _, p => by unfold plainD at p; cases p
  | .ref _, p => by unfold plainD at p; cases p
  | .cls _, p => by unfold plainD at p; cases p
  | .ty _, p => by unfold plainD at p; cases p
theorem depths_py : ∀ ds : List D, plainDs ds = true → PyData.depthAll (toPys ds) = depthDs ds
  | [], _ => by simp [toPys, PyData.depthAll, depthDs]
  | d :: ds, p => by
    unfold plainDs at p
    rw [Bool.and_eq_true] at p
    simp only [toPys, PyData.depthAll, depthDs, depth_py d p.1, depths_py ds p.2]
end
end
end DI
namespace DI
open PySem PySem.Spec PyProof.Rows L2
mutual
theorem eqv_py : ∀ (a b : D), plainD a = true → plainD b = true → PyData.eqv (toPy a) (toPy b) = eqD a b
  | .tup xs, .tup ys, p, q => by unfold plainD at p q; simp only [toPy, PyData.eqv, eqD, eqvs_py xs ys p q]
  | .lv xs, .lv ys, p, q => by unfold plainD at p q; simp only [toPy, PyData.eqv, eqD, eqvs_py xs ys p q]
  | .str x, .str y, _, _ => by
    simp only [toPy, PyData.eqv, eqD]
    rw [Bool.eq_iff_iff]
    simp
  | .non, .non, _, _ => by simp [toPy, PyData.eqv, eqD]
  | .non, .bl _, _, _ => by simp [toPy, PyData.eqv, eqD]
  | .non, .int _, _, _ => by simp [toPy, PyData.eqv, eqD]
  | .non, .str _, _, _ => by simp [toPy, PyData.eqv, eqD]
  | .non, .tup _, _, _ => by simp [toPy, PyData.eqv, eqD]
  | .non, .lv _, _, _ => by simp [toPy, PyData.eqv, eqD]
  | .bl _, .non, _, _ => by simp [toPy, PyData.eqv, eqD]
  | .bl _, .bl _, _, _ => by simp [toPy, PyData.eqv, eqD]
  | .bl _, .int _, _, _ => by simp [toPy, PyData.eqv, eqD]
  | .bl _, .str _, _, _ => by simp [toPy, PyData.eqv, eqD]
  | .bl _, .tup _, _, _ => by simp [toPy, PyData.eqv, eqD]
  | .bl _, .lv _, _, _ => by simp [toPy, PyData.eqv, eqD]
  | .int _, .non, _, _ => by simp [toPy, PyData.eqv, eqD]
  | .int _, .bl _, _, _ => by simp [toPy, PyData.eqv, eqD]
  | .int _, .int _, _, _ => by simp [toPy, PyData.eqv, eqD]
  | .int _, .str _, _, _ => by simp [toPy, PyData.eqv, eqD]
  | .int _, .tup _, _, _ => by simp [toPy, PyData.eqv, eqD]
  | .int _, .lv _, _, _ => by simp [toPy, PyData.eqv, eqD]
  | .str _, .non, _, _ => by simp [toPy, PyData.eqv, eqD]
  | .str _, .bl _, _, _ => by simp [toPy, PyData.eqv, eqD]
  | .str _, .int _, _, _ => by simp [toPy, PyData.eqv, eqD]
  | .str _, .tup _, _, _ => by simp [toPy, PyData.eqv, eqD]
  | .str _, .lv _, _, _ => by simp [toPy, PyData.eqv, eqD]
  | .tup _, .non, _, _ => by simp [toPy, PyData.eqv, eqD]
  | .tup _, .bl _, _, _ => by simp [toPy, PyData.eqv, eqD]
  | .tup _, .int _, _, _ => by simp [toPy, PyData.eqv, eqD]
  | .tup _, .str _, _, _ => by simp [toPy, PyData.eqv, eqD]
  | .tup _, .lv _, _, _ => by simp [toPy, PyData.eqv, eqD]
  | .lv _, .non, _, _ => by simp [toPy, PyData.eqv, eqD]
  | .lv _, .bl _, _, _ => by simp [toPy, PyData.eqv, eqD]
  | .lv _, .int _, _, _ => by simp [toPy, PyData.eqv, eqD]
  | .lv _, .str _, _, _ => by simp [toPy, PyData.eqv, eqD]
  | .lv _, .tup _, _, _ => by simp [toPy, PyData.eqv, eqD]
  | .fz _, _, p, _ => by unfold plainD at p; cases p
  | .dv _ _, _, p, _ => by unfold plainD at p; cases p
  | .sv _, _, p, _ => by unfold plainD at p; cases p
  | .ref _, _, p, _ => by unfold plainD at p; cases p
  | .cls _, _, p, _ => by unfold plainD at p; cases p
  | .ty _, _, p, _ => by unfold plainD at p; cases p
  | _, .fz _, _, p => by unfold plainD at p; cases p
  | _, .dv _ _, _, p => by unfold plainD at p; cases p
  | _, .sv _, _, p => by unfold plainD at p; cases p
  | _, .ref _, _, p => by unfold plainD at p; cases p
  | _, .cls _, _, p => by unfold plainD at p; cases p
  | _, .ty _, _, p => by unfold plainD at p; cases p
theorem eqvs_py : ∀ (a b : List D), plainDs a = true → plainDs b = true → PyData.eqvAll (toPys a) (toPys b) = eqDs a b
  | [], [], _, _ => by simp [toPys, PyData.eqvAll, eqDs]
  | [], _ :: _, _, _ => by simp [toPys, PyData.eqvAll, eqDs]
  | _ :: _, [], _, _ => by simp [toPys, PyData.eqvAll, eqDs]
  | a :: as, b :: bs, p, q => by
    unfold plainDs at p q
    rw [Bool.and_eq_true] at p q
    simp only [toPys, PyData.eqvAll, eqDs, eqv_py a b p.1 q.1, eqvs_py as bs p.2 q.2]
end
mutual
theorem lay_py : ∀ d : D, plainD d = true → okS d = true → (toPy d).canLay0 = true
  | .non, _, _ => by simp [toPy, PyData.canLay0]
  | .bl _, _, _ => by simp [toPy, PyData.canLay0]
  | .int _, _, _ => by simp [toPy, PyData.canLay0]
  | .str x, _, o => by
    unfold okS at o
    simp only [toPy, PyData.canLay0, PyData.strOk]
    simpa using o
  | .tup xs, p, o => by unfold plainD at p; unfold okS at o; simp only [toPy, PyData.canLay0]; exact lays_py xs p o
  | .lv xs, p, o => by unfold plainD at p; unfold okS at o; simp only [toPy, PyData.canLay0]; exact lays_py xs p o
  | .fz xs, p, _ => by unfold plainD at p; cases p
  | .dv _ _, p, _ => by unfold plainD at p; cases p
  | .sv _, p, _ => by unfold plainD at p; cases p
  | .ref _, p, _ => by unfold plainD at p; cases p
  | .cls _, p, _ => by unfold plainD at p; cases p
  | .ty _, p, _ => by unfold plainD at p; cases p
theorem lays_py : ∀ ds : List D, plainDs ds = true → okSs ds = true → PyData.canLayAll0 (toPys ds) = true
  | [], _, _ => by simp [toPys, PyData.canLayAll0]
  | d :: ds, p, o => by
    unfold plainDs at p
    unfold okSs at o
    rw [Bool.and_eq_true] at p o
    simp only [toPys, PyData.canLayAll0, lay_py d p.1 o.1, lays_py ds p.2 o.2, Bool.and_self]
end
theorem shaped_py {d : D} (h : eqOk d = true) : plainD d = true ∧ SeqAt.shaped (toPy d) = true := by
  unfold eqOk at h
  simp only [Bool.and_eq_true, decide_eq_true_iff] at h
  refine ⟨h.1.1, ?_⟩
  unfold SeqAt.shaped
  rw [Bool.and_eq_true, decide_eq_true_iff, depth_py d h.1.1]
  exact ⟨lay_py d h.1.1 h.1.2, h.2⟩
section
variable {X : Cx} {G : Gr}
/-- a comparison by views: the answer a bool -/
def rC2 (G : Gr) (f : D → D → Option Bool) : R2 := fun x y H Q => ∃ w dx dy b, RepW G w H dx x ∧ RepW G w H dy y ∧ f dx dy = some b ∧ Q (.bl b) H
theorem dec_s (a b : List Nat) : decide (V.str ⟨a.toArray⟩ = V.str ⟨b.toArray⟩) = (a == b) := by
  rw [Bool.eq_iff_iff]
  simp
theorem cmp_eq (hK : G.K = X.K) (hu : X.A.units + 64 < cLine) : OpR X (compareOp .Eq) (rC2 G (cmpD .Eq)) := by
  intro pins s σ H x y v u Q I rx ry h
  obtain ⟨w, dx, dy, d, hx, hy, hb, q⟩ := h
  simp only [cmpD] at hb
  unfold eqN at hb
  split at hb
  · rename_i xs
    obtain ⟨a, vs, rfl, h1, h2⟩ := (show ∃ (a : Addr) (vs : List V), x = .ref a ∧ H a = some (.lst vs) ∧ RepVs G w H xs vs from hx)
    obtain ⟨b, us, rfl, h3, h4⟩ := (show ∃ (a : Addr) (vs : List V), y = .ref a ∧ H a = some (.lst vs) ∧ RepVs G w H [] vs from hy)
    cases (show v = Value.ref a from rx)
    cases (show u = Value.ref b from ry)
    cases h4
    obtain ⟨i1, r1, p1, _⟩ := I.list (SqL.of h1)
    obtain ⟨i2, r2, p2, _⟩ := I.list (SqL.of h3)
    cases r2
    cases hb
    have l1 : xs.length = i1.length := h2.length.trans r1.length
    cases xs with
    | nil =>
      have e : i1 = [] := List.length_eq_zero_iff.mp (by rw [← l1]; rfl)
      subst e
      exact SeqAt.eq_listAt (e := fun _ => true) p1.isList p2.isList rfl (by omega) (fun j h1 h2 => absurd h1 (Nat.not_lt_zero _)) ⟨.bl true, H, I, rfl, q⟩
    | cons z xs =>
      refine SeqAt.eq_list_lengthsAt p1.isList p2.isList ?_ (by omega) ⟨.bl false, H, I, rfl, q⟩
      have : i1.length ≠ 0 := by rw [← l1]; simp
      simpa using this
  unfold eqO at hb
  split at hb
  · rename_i a b _
    have hx : RepV G w H (.str a) x := hx
    have hy : RepV G w H (.str b) y := hy
    cases hx; cases hy; cases hb
    exact op_eq pins s σ H _ _ v u Q I rx ry ⟨rfl, by rw [dec_s]; exact q⟩
  · split at hb
    · rename_i hl
      cases hb
      rw [Bool.and_eq_true] at hl
      obtain ⟨p1, s1⟩ := shaped_py hl.1
      obtain ⟨p2, s2⟩ := shaped_py hl.2
      exact op_eqD hu pins s σ H _ _ v u Q I rx ry ⟨_, _, dpW_of hK p1 hx, dpW_of hK p2 hy, s1, s2, by rw [eqv_py _ _ p1 p2]; exact q⟩
    · cases hb
theorem cmp_ne (hK : G.K = X.K) (hu : X.A.units + 64 < cLine) : OpR X (compareOp .NotEq) (rC2 G (cmpD .NotEq)) := by
  intro pins s σ H x y v u Q I rx ry h
  obtain ⟨w, dx, dy, d, hx, hy, hb, q⟩ := h
  simp only [cmpD] at hb
  unfold eqO at hb
  split at hb
  · rename_i a b
    have hx : RepV G w H (.str a) x := hx
    have hy : RepV G w H (.str b) y := hy
    cases hx; cases hy; cases hb
    exact op_ne pins s σ H _ _ v u Q I rx ry ⟨rfl, by rw [dec_s]; exact q⟩
  · split at hb
    · rename_i hl
      cases hb
      rw [Bool.and_eq_true] at hl
      obtain ⟨p1, s1⟩ := shaped_py hl.1
      obtain ⟨p2, s2⟩ := shaped_py hl.2
      exact op_neD hu pins s σ H _ _ v u Q I rx ry ⟨_, _, dpW_of hK p1 hx, dpW_of hK p2 hy, s1, s2, by rw [eqv_py _ _ p1 p2]; exact q⟩
    · cases hb
mutual
theorem dp_frz {w : Vw} {H : Hp} {Hd : HH} (hK : G.K = X.K) (rel : Rel G w Hd H) : ∀ (n : Nat) {d e : D} {v : V}, frzD Hd n d = some e → plainD e = true → RepV G w H d v → Dp X.K H v (toPy e)
  | 0, _, _, _, h, _, _ => by cases h
  | n + 1, .ref r, e, v, h, p, hv => by
    simp only [frzD] at h
    cases hv with
    | ref hr =>
      obtain ⟨o, e1, q⟩ := rel.lt hr
      rw [e1] at h
      cases q with
      | lst h1 h2 =>
        simp only at h
        obtain ⟨l, e2, rfl⟩ := Option.map_eq_some_iff.mp h
        unfold toPy
        unfold plainD at p
        exact .lst (SqL.of h1) (dps_frz hK rel n e2 p h2)
      | dic h1 h2 => simp only at h; cases h
  | n + 1, .tup xs, e, v, h, p, hv => by
    simp only [frzD] at h
    obtain ⟨l, e2, rfl⟩ := Option.map_eq_some_iff.mp h
    cases hv with
    | tup t h2 =>
      unfold toPy
      unfold plainD at p
      exact .tup (hK ▸ t.sq) (dps_frz hK rel n e2 p h2)
  | n + 1, .lv xs, e, v, h, p, hv => by
    simp only [frzD] at h
    obtain ⟨l, e2, rfl⟩ := Option.map_eq_some_iff.mp h
    cases hv with
    | lv _ h1 h2 =>
      unfold toPy
      unfold plainD at p
      exact .lst (SqL.of h1) (dps_frz hK rel n e2 p h2)
  | n + 1, .non, e, v, h, p, hv => by cases h; exact dp_of hK p hv
  | n + 1, .bl _, e, v, h, p, hv => by cases h; exact dp_of hK p hv
  | n + 1, .int _, e, v, h, p, hv => by cases h; exact dp_of hK p hv
  | n + 1, .str _, e, v, h, p, hv => by cases h; exact dp_of hK p hv
  | n + 1, .fz _, e, v, h, p, hv => by
    simp only [frzD] at h
    split at h
    · cases h; unfold plainD at p; cases p
    · cases h
  | n + 1, .dv _ _, e, v, h, p, hv => by cases hv
  | n + 1, .sv _, e, v, h, p, hv => by cases hv
  | n + 1, .cls _, e, v, h, p, hv => by cases h; unfold plainD at p; cases p
  | n + 1, .ty _, e, v, h, p, hv => by cases h; unfold plainD at p; cases p
theorem dps_frz {w : Vw} {H : Hp} {Hd : HH} (hK : G.K = X.K) (rel : Rel G w Hd H) : ∀ (n : Nat) {ds es : List D} {vs : List V}, frzDs Hd n ds = some es → plainDs es = true → RepVs G w H ds vs → DpAll X.K H vs (toPys es)
  | 0, _, _, _, h, _, _ => by cases h
  | n + 1, [], _, _, h, _, .nil => by cases h; unfold toPys; exact .nil
  | n + 1, d :: ds, _, _, h, p, .cons h1 h2 => by
    simp only [frzDs] at h
    cases e1 : frzD Hd n d with
    | none => rw [e1] at h; cases h
    | some a =>
      cases e2 : frzDs Hd n ds with
      | none => rw [e1, e2] at h; cases h
      | some b =>
        rw [e1, e2] at h
        cases h
        unfold toPys
        unfold plainDs at p
        rw [Bool.and_eq_true] at p
        exact .cons (dp_frz hK rel n e1 p.1 h1) (dps_frz hK rel n e2 p.2 h2)
end
/-- .. into live lists -/
def rC3 (G : Gr) (o : CmpOp) : R2 := fun x y H Q => ∃ w Hd dx dy b, Rel G w Hd H ∧ RepV G w H dx x ∧ RepV G w H dy y ∧ cmpG Hd o dx dy = some b ∧ Q (.bl b) H
theorem op_cmpG (hK : G.K = X.K) (hu : X.A.units + 64 < cLine) (o : CmpOp) : OpR X (compareOp o) (rC3 G o) := by
  intro pins s σ H x y v u Q I rx ry h
  obtain ⟨w, Hd, dx, dy, d, rel, hx, hy, hb, q⟩ := h
  unfold cmpG at hb
  split at hb
  · rename_i a b e1 e2
    split at hb
    · rename_i hl
      rw [Bool.and_eq_true] at hl
      obtain ⟨p1, s1⟩ := shaped_py hl.1
      obtain ⟨p2, s2⟩ := shaped_py hl.2
      cases o with
      | Eq => cases hb; exact op_eqD hu pins s σ H _ _ v u Q I rx ry ⟨_, _, dp_frz hK rel _ e1 p1 hx, dp_frz hK rel _ e2 p2 hy, s1, s2, by rw [eqv_py _ _ p1 p2]; exact q⟩
      | NotEq => cases hb; exact op_neD hu pins s σ H _ _ v u Q I rx ry ⟨_, _, dp_frz hK rel _ e1 p1 hx, dp_frz hK rel _ e2 p2 hy, s1, s2, by rw [eqv_py _ _ p1 p2]; exact q⟩
      | _ => cases hb
    · cases hb
  · cases hb
theorem cmp_ord {o : CmpOp} {p : Int → Int → Bool} (h1 : OpR X (compareOp o) (rI0 fun i j => .bl (p i j))) (hf : ∀ x y b, cmpD o x y = some b → ∃ i j, x = .int i ∧ y = .int j ∧ b = p i j) : OpR X (compareOp o) (rC2 G (cmpD o)) := by
  intro pins s σ H x y v u Q I rx ry h
  obtain ⟨w, dx, dy, d, hx, hy, hb, q⟩ := h
  obtain ⟨i, j, rfl, rfl, rfl⟩ := hf _ _ _ hb
  have hx : RepV G w H (.int i) x := hx
  have hy : RepV G w H (.int j) y := hy
  cases hx; cases hy
  exact h1 pins s σ H _ _ v u Q I rx ry ⟨_, _, rfl, rfl, q⟩
theorem eqD_flat {w : Vw} {H : Hp} {d e : D} {v u : V} (hd : flatD d = true) (he : flatD e = true) (h1 : RepV G w H d v) (h2 : RepV G w H e u) : flatV v = true ∧ flatV u = true ∧ eqV v u = eqD d e := by
  cases h1 <;> first
    | (simp [flatD] at hd; done)
    | (cases h2 <;> first
        | (simp [flatD] at he; done)
        | (refine ⟨rfl, rfl, ?_⟩; simp [eqV, eqD]; done)
        | (refine ⟨rfl, rfl, ?_⟩; simp only [eqV, eqD]; rw [Bool.eq_iff_iff]; simp; done))
theorem inV_flat {w : Vw} {H : Hp} {d : D} {v : V} (hd : flatD d = true) (h1 : RepV G w H d v) : ∀ {ys : List D} {vs : List V}, ys.all flatD = true → RepVs G w H ys vs → vs.all flatV = true ∧ inV v vs = ys.any fun z => eqD z d
  | _, _, _, .nil => ⟨rfl, rfl⟩
  | _, _, p, .cons h r => by
    rw [List.all_cons, Bool.and_eq_true] at p
    obtain ⟨a, b⟩ := inV_flat hd h1 p.2 r
    obtain ⟨c, d', e⟩ := eqD_flat p.1 hd h h1
    refine ⟨by rw [List.all_cons, c, a]; rfl, ?_⟩
    unfold inV at b ⊢
    rw [List.any_cons, List.any_cons, e, b]
theorem any_py {x : D} (hx : plainD x = true) : ∀ {ys : List D}, plainDs ys = true → ((toPys ys).any fun z => PyData.eqv z (toPy x)) = ys.any fun z => eqD z x
  | [], _ => by simp [toPys]
  | y :: ys, p => by
    unfold plainDs at p
    rw [Bool.and_eq_true] at p
    simp only [toPys, List.any_cons, eqv_py y x p.1 hx, any_py hx p.2]
theorem cmp_in (hK : G.K = X.K) (hu : X.A.units + 65 < cLine) : OpR X (compareOp .In) (rC2 G (cmpD .In)) := by
  intro pins s σ H x y v u Q I rx ry h
  obtain ⟨w, dx, dy, d, hx, hy, hb, q⟩ := h
  simp only [cmpD] at hb
  unfold inD at hb
  split at hb
  · split at hb
    · rename_i hl
      cases hb
      rw [Bool.and_eq_true] at hl
      obtain ⟨p1, s1⟩ := shaped_py hl.1
      obtain ⟨p2, s2⟩ := shaped_py hl.2
      have hd := dpW_of hK p2 hy
      unfold toPy at hd s2
      unfold plainD at p2
      exact op_inD hu pins s σ H _ _ v u Q I rx ry ⟨_, _, dpW_of hK p1 hx, hd, s1, s2, by rw [any_py p1 p2]; exact q⟩
    · cases hb
  · rename_i ys
    split at hb
    · rename_i hl
      cases hb
      rw [Bool.and_eq_true] at hl
      have hx' : RepV G w H dx x := by
        cases dx <;> first | exact hx | (have z := hl.1; simp [flatD] at z; done)
      have hy : RepV G w H (.tup ys) y := hy
      cases hy with
      | tup t r =>
        obtain ⟨a, b⟩ := inV_flat hl.1 hx' hl.2 r
        have fx := (eqD_flat hl.1 hl.1 hx' hx').1
        exact op_in_seq pins s σ H _ _ v u Q I rx ry ⟨_, _, rfl, .inr (hK ▸ t.sq), fx, a, by rw [if_neg (by simp), b]; exact q⟩
    · cases hb
  · rename_i z
    split at hb
    · rename_i c
      cases hb
      have hx : RepV G w H (.str [c]) x := hx
      have hy : RepV G w H (.str z) y := hy
      cases hx; cases hy
      exact op_in_sign pins s σ H _ _ v u Q I rx ry ⟨c, _, rfl, rfl, by simpa using q⟩
    · cases hb
  · cases hb
theorem cmp_nin (hK : G.K = X.K) (hu : X.A.units + 65 < cLine) : OpR X (compareOp .NotIn) (rC2 G (cmpD .NotIn)) := by
  intro pins s σ H x y v u Q I rx ry h
  obtain ⟨w, dx, dy, d, hx, hy, hb, q⟩ := h
  simp only [cmpD] at hb
  unfold inD at hb
  split at hb
  · split at hb
    · rename_i hl
      cases hb
      rw [Bool.and_eq_true] at hl
      obtain ⟨p1, s1⟩ := shaped_py hl.1
      obtain ⟨p2, s2⟩ := shaped_py hl.2
      have hd := dpW_of hK p2 hy
      unfold toPy at hd s2
      unfold plainD at p2
      exact op_notInD hu pins s σ H _ _ v u Q I rx ry ⟨_, _, dpW_of hK p1 hx, hd, s1, s2, by rw [any_py p1 p2]; exact q⟩
    · cases hb
  · rename_i ys
    split at hb
    · rename_i hl
      cases hb
      rw [Bool.and_eq_true] at hl
      have hx' : RepV G w H dx x := by
        cases dx <;> first | exact hx | (have z := hl.1; simp [flatD] at z; done)
      have hy : RepV G w H (.tup ys) y := hy
      cases hy with
      | tup t r =>
        obtain ⟨a, b⟩ := inV_flat hl.1 hx' hl.2 r
        have fx := (eqD_flat hl.1 hl.1 hx' hx').1
        exact op_notIn_seq pins s σ H _ _ v u Q I rx ry ⟨_, _, rfl, .inr (hK ▸ t.sq), fx, a, by rw [if_pos rfl, b]; exact q⟩
    · cases hb
  · rename_i z
    split at hb
    · rename_i c
      cases hb
      have hx : RepV G w H (.str [c]) x := hx
      have hy : RepV G w H (.str z) y := hy
      cases hx; cases hy
      exact op_notIn_sign pins s σ H _ _ v u Q I rx ry ⟨c, _, rfl, rfl, by simpa using q⟩
    · cases hb
  · cases hb
theorem cmp_is : OpR X (compareOp .Is) (rC2 G (cmpD .Is)) := by
  intro pins s σ H x y v u Q I rx ry h
  obtain ⟨w, dx, dy, d, hx, hy, hb, q⟩ := h
  simp only [cmpD] at hb
  split at hb
  · have hy : RepV G w H .non y := hy
    cases hy
    refine op_isN pins s σ H _ _ v u Q I rx ry ⟨rfl, ?_⟩
    cases dx <;> first
      | (obtain ⟨a, vs, rfl, _, _⟩ := hx; cases hb; exact q)
      | (have hx := (show RepV G w H _ x from hx); cases hx <;> (cases hb; exact q))
  · rename_i b
    split at hb
    · rename_i a
      have hx : RepV G w H (.bl a) x := hx
      have hy : RepV G w H (.bl b) y := hy
      cases hx; cases hy; cases hb
      exact op_is_bl pins s σ H _ _ v u Q I rx ry ⟨a, b, rfl, rfl, q⟩
    · cases hb
  · cases hb
theorem cmp_isnot : OpR X (compareOp .IsNot) (rC2 G (cmpD .IsNot)) := by
  intro pins s σ H x y v u Q I rx ry h
  obtain ⟨w, dx, dy, d, hx, hy, hb, q⟩ := h
  simp only [cmpD] at hb
  split at hb
  · have hy : RepV G w H .non y := hy
    cases hy
    refine op_notN pins s σ H _ _ v u Q I rx ry ⟨rfl, ?_⟩
    cases dx <;> first
      | (obtain ⟨a, vs, rfl, _, _⟩ := hx; cases hb; exact q)
      | (have hx := (show RepV G w H _ x from hx); cases hx <;> (cases hb; exact q))
  · rename_i b
    split at hb
    · rename_i a
      have hx : RepV G w H (.bl a) x := hx
      have hy : RepV G w H (.bl b) y := hy
      cases hx; cases hy; cases hb
      exact op_isnot_bl pins s σ H _ _ v u Q I rx ry ⟨a, b, rfl, rfl, q⟩
    · cases hb
  · cases hb
theorem op_cmp (hK : G.K = X.K) (hu : X.A.units + 65 < cLine) (o : CmpOp) : OpR X (compareOp o) (rC2 G (cmpD o)) := by
  cases o with
  | Eq => exact cmp_eq hK (by omega)
  | NotEq => exact cmp_ne hK (by omega)
  | Lt => exact cmp_ord op_lt fun x y b h => by simp only [cmpD] at h; split at h <;> first | exact ⟨_, _, rfl, rfl, (Option.some.inj h).symm⟩ | cases h
  | LtE => exact cmp_ord op_le fun x y b h => by simp only [cmpD] at h; split at h <;> first | exact ⟨_, _, rfl, rfl, (Option.some.inj h).symm⟩ | cases h
  | Gt => exact cmp_ord op_gt fun x y b h => by simp only [cmpD] at h; split at h <;> first | exact ⟨_, _, rfl, rfl, (Option.some.inj h).symm⟩ | cases h
  | GtE => exact cmp_ord op_ge fun x y b h => by simp only [cmpD] at h; split at h <;> first | exact ⟨_, _, rfl, rfl, (Option.some.inj h).symm⟩ | cases h
  | In => exact cmp_in hK hu
  | NotIn => exact cmp_nin hK hu
  | Is => exact cmp_is
  | IsNot => exact cmp_isnot
theorem tru_of {w : Vw} {H : Hp} (hK : G.K = X.K) {d : D} {v : V} {b : Bool} (h : RepW G w H d v) (e : truD d = some b) : TruV X.K v H b := by
  unfold truD at e
  split at e
  · have h : RepV G w H .non v := h
    cases h; cases e; rfl
  · rename_i k
    have h : RepV G w H (.bl k) v := h
    cases h; cases e; rfl
  · rename_i k
    have h : RepV G w H (.int k) v := h
    cases h; cases e; rfl
  · rename_i k
    have h : RepV G w H (.str k) v := h
    cases h
    split at e
    · rename_i hl
      cases e
      exact ⟨by rw [str_len, ← lim_eq]; exact hl, by rw [str_len]⟩
    · cases e
  · rename_i k
    obtain ⟨a, vs, rfl, h1, h2⟩ := h
    cases e
    exact .inl ⟨vs, SqL.of h1, by cases h2 <;> rfl⟩
  · rename_i k
    have h : RepV G w H (.tup k) v := h
    cases h with
    | tup t r =>
      cases e
      exact .inr (.inl ⟨_, hK ▸ t.sq, by cases r <;> rfl⟩)
  · cases e
end
end DI
namespace DI
open PySem PySem.Spec PyProof.Rows L2
section
variable {X : Cx} {G : Gr} {w : Vw} {H : Hp}
theorem at_rep {xs : List D} {vs : List V} {i : Int} {d : D} (h : RepVs G w H xs vs) (e : atD xs i = some d) : ∃ v, atI vs i = some v ∧ RepV G w H d v := by
  unfold atD atI at e
  unfold atI
  rw [← h.length]
  cases q : ixN xs.length i with
  | none => rw [q] at e; cases e
  | some j =>
    rw [q] at e
    exact h.get e
theorem cut_rep {xs : List D} {vs : List V} (h : RepVs G w H xs vs) (lo hi : Option Int) : RepVs G w H (cutD xs lo hi) (cutV vs lo hi) := by
  unfold cutD cutV
  rw [← h.length]
  exact (h.drop _).take _
/-- a subscript by views -/
def rIx2 (G : Gr) : R2 := fun x y H Q => ∃ w Hd dx dy d, Rel G w Hd H ∧ RepW G w H dx x ∧ RepV G w H dy y ∧ ixD dx dy = some d ∧ Ret G w Hd H d Q
theorem ix_all (hK : G.K = X.K) : IxR X (rIx2 G) := by
  intro value slice pins s σ H x y v u Q I rx ry h hs
  obtain ⟨w, Hd, dx, dy, d, rel, hx, hy, hb, q⟩ := h
  unfold ixD at hb
  split at hb
  · obtain ⟨p, vs, rfl, h1, h2⟩ := hx
    cases hy
    obtain ⟨z, hz, rz⟩ := at_rep h2 hb
    exact ix_list value slice pins s σ H _ _ v u Q I rx ry ⟨p, vs, _, z, rfl, rfl, SqL.of h1, hz, q.here rel rz⟩ hs
  · rename_i xs i
    have hx : RepV G w H (.fz xs) x := hx
    cases hy
    cases hx with
    | fz t r =>
      obtain ⟨z, hz, rz⟩ := at_rep r hb
      exact ix_list value slice pins s σ H _ _ v u Q I rx ry ⟨_, _, _, z, rfl, rfl, hK ▸ t.sq, hz, q.here rel rz⟩ hs
  · rename_i xs i
    have hx : RepV G w H (.tup xs) x := hx
    cases hy
    cases hx with
    | tup t r =>
      obtain ⟨z, hz, rz⟩ := at_rep r hb
      exact ix_tup value slice pins s σ H _ _ v u Q I rx ry ⟨_, _, _, z, rfl, rfl, hK ▸ t.sq, hz, q.here rel rz⟩ hs
  · rename_i xs i
    have hx : RepV G w H (.str xs) x := hx
    cases hx
    cases hy
    split at hb
    · rename_i hl
      cases e : atI xs i with
      | none => rw [e] at hb; cases hb
      | some c =>
        rw [e] at hb
        cases hb
        exact ix_str value slice pins s σ H _ _ v u Q I rx ry ⟨_, _, c, rfl, rfl, by rw [str_len, ← lim_eq]; exact hl, by simpa using e, q.here rel (.str [c])⟩ hs
    · cases hb
  · cases hb
/-- a slice by views -/
def rSl2 (G : Gr) : V → Option Int → Option Int → Hp → VK → Prop := fun x lo hi H Q => ∃ w Hd dx d, Rel G w Hd H ∧ RepW G w H dx x ∧ slD dx lo hi = some d ∧ Ret G w Hd H d Q
theorem sl_all (hK : G.K = X.K) : SlR X (rSl2 G) := by
  intro pins s σ H x v vl vu lo hi sl Q I rx hs pl pu h
  obtain ⟨w, Hd, dx, d, rel, hx, hb, q⟩ := h
  unfold slD at hb
  split at hb
  · obtain ⟨p, vs, rfl, h1, h2⟩ := hx
    cases hb
    exact sl_list pins s σ H _ v vl vu lo hi sl Q I rx hs pl pu ⟨p, vs, rfl, SqL.of h1, q.lv rel (cut_rep h2 lo hi)⟩
  · rename_i xs
    have hx : RepV G w H (.fz xs) x := hx
    cases hb
    cases hx with
    | fz t r => exact sl_list pins s σ H _ v vl vu lo hi sl Q I rx hs pl pu ⟨_, _, rfl, hK ▸ t.sq, q.lv rel (cut_rep r lo hi)⟩
  · rename_i xs
    have hx : RepV G w H (.tup xs) x := hx
    cases hb
    cases hx with
    | tup t r =>
      refine sl_tupA pins s σ H _ v vl vu lo hi sl Q I rx hs pl pu ⟨_, _, rfl, hK ▸ t.sq, fun hw => ?_, fun _ => q.tup rel (cut_rep r lo hi)⟩
      have e : cutD xs lo hi = xs := by
        unfold cutD
        rw [r.length, hw.1, hw.2, ← r.length, List.drop_zero, Nat.sub_zero, List.take_length]
      rw [e] at q
      exact q.here rel (.tup t r)
  · rename_i xs
    have hx : RepV G w H (.str xs) x := hx
    cases hx
    split at hb
    · rename_i hl
      cases hb
      refine sl_str pins s σ H _ v vl vu lo hi sl Q I rx hs pl pu ⟨_, rfl, by rw [str_len, ← lim_eq]; exact hl, ?_⟩
      have e : cutS ⟨xs.toArray⟩ lo hi = ⟨(cutD xs lo hi).toArray⟩ := by
        unfold cutS cutD
        rw [str_len]
      rw [e]
      exact q.here rel (.str _)
    · cases hb
  · cases hb
theorem ints_rep : ∀ {ds : List D} {vs : List V} {ns : List Int}, RepVs G w H ds vs → intsOf ds = some ns → vs = ns.map V.int
  | _, _, _, .nil, e => by cases e; rfl
  | d :: ds, _, ns, .cons h r, e => by
    cases h <;> first
      | (cases e; done)
      | (unfold intsOf at e
         cases q : intsOf ds with
         | none => rw [q] at e; cases e
         | some l => rw [q] at e; cases e; rw [ints_rep r q]; rfl)
theorem bls_rep : ∀ {ds : List D} {vs : List V} {ns : List Bool}, RepVs G w H ds vs → blsOf ds = some ns → vs = ns.map V.bl
  | _, _, _, .nil, e => by cases e; rfl
  | d :: ds, _, ns, .cons h r, e => by
    cases h <;> first
      | (cases e; done)
      | (unfold blsOf at e
         cases q : blsOf ds with
         | none => rw [q] at e; cases e
         | some l => rw [q] at e; cases e; rw [bls_rep r q]; rfl)
theorem strs_rep : ∀ {ds : List D} {vs : List V} {ns : List (List Nat)}, RepVs G w H ds vs → strsOf ds = some ns → vs = (ns.map fun x => (⟨x.toArray⟩ : Str)).map V.str
  | _, _, _, .nil, e => by cases e; rfl
  | d :: ds, _, ns, .cons h r, e => by
    cases h <;> first
      | (cases e; done)
      | (unfold strsOf at e
         cases q : strsOf ds with
         | none => rw [q] at e; cases e
         | some l => rw [q] at e; cases e; rw [strs_rep r q]; rfl)
/-- the model's name of a builtin -/
def biV : BI → Value
  | .len => .builtin "len" | .sum => .builtin "sum" | .int => .type "int" | .str => .type "str" | .repr => .builtin "repr" | .abs => .builtin "abs"
  | .max => .builtin "max" | .min => .builtin "min" | .tuple => .type "tuple" | .list => .type "list" | .all => .builtin "all" | .any => .builtin "any"
def biN : BI → Str
  | .len => "len" | .sum => "sum" | .int => "int" | .str => "str" | .repr => "repr" | .abs => "abs"
  | .max => "max" | .min => "min" | .tuple => "tuple" | .list => "list" | .all => "all" | .any => "any"
def rBi (G : Gr) (b : BI) : List V → Hp → VK → Prop := fun xs H Q => ∃ w Hd ds d, Rel G w Hd H ∧ Paired (RepW G w H) ds xs ∧ biD b ds = some d ∧ Ret G w Hd H d Q
theorem pair1 {A B : Type} {F : A → B → Prop} {a : A} {bs : List B} (h : Paired F [a] bs) : ∃ b, bs = [b] ∧ F a b := by
  cases h with
  | cons h t => cases t; exact ⟨_, rfl, h⟩
theorem pair2 {A B : Type} {F : A → B → Prop} {a c : A} {bs : List B} (h : Paired F [a, c] bs) : ∃ b d, bs = [b, d] ∧ F a b ∧ F c d := by
  cases h with
  | cons h t => cases t with
    | cons h2 t => cases t; exact ⟨_, _, rfl, h, h2⟩

theorem bi_one {b : BI} {f : D → Option D} (hb1 : ∀ ds d, biD b ds = some d → ∃ x, ds = [x] ∧ f x = some d)
    (h1 : ∀ (pins : List (Addr × Obj)) (s : Shared) (σ : L2.St) (H : Hp) (v : V) (us : List Value) (Q : VK) (w : Vw) (Hd : HH) (x d : D), L2.Inv X pins σ H s → L2.Vals [v] us → Rel G w Hd H → RepW G w H x v → f x = some d → Ret G w Hd H d Q →
      wpAny (model X.prog X.w) X.A (call (biV b) us) (L2.EP X pins σ Q) X.xe s) : CallR X (biV b) (rBi G b) := by
  intro pins s σ H xs us Q I r h
  obtain ⟨w, Hd, ds, d, rel, hx, hb, q⟩ := h
  obtain ⟨x, rfl, hf⟩ := hb1 _ _ hb
  obtain ⟨v, rfl, hv⟩ := pair1 hx
  exact h1 pins s σ H v us Q w Hd x d I r rel hv hf q
theorem one_of {b : BI} {f : D → Option D} (h : ∀ x, biD b [x] = f x) (h2 : ∀ x y, biD b [x, y] = none) : ∀ ds d, biD b ds = some d → ∃ x, ds = [x] ∧ f x = some d
  | [], d, e => by cases e
  | [x], d, e => ⟨x, rfl, (h x).symm.trans e⟩
  | [x, y], d, e => by rw [h2] at e; cases e
  | _ :: _ :: _ :: _, d, e => by cases e
theorem bi_len (hK : G.K = X.K) : CallR X (.builtin "len") (rBi G .len) := by
  refine bi_one (b := .len) (one_of (f := lenD) (fun _ => rfl) fun _ _ => rfl) fun pins s σ H v us Q w Hd x d I r rel hv hf q => ?_
  cases x with
  | str x =>
    have hv : RepV G w H (.str x) v := hv
    cases hv
    simp only [lenD] at hf
    split at hf
    · rename_i hl
      cases hf
      exact call_len_str pins s σ H _ us Q I r ⟨_, rfl, by rw [str_len, ← lim_eq]; exact hl, by rw [str_len]; exact q.here rel (.int _)⟩
    · cases hf
  | lv x =>
    obtain ⟨p, vs, rfl, h1, h2⟩ := hv
    cases hf
    exact call_len_seq pins s σ H _ us Q I r ⟨p, vs, rfl, .inl (SqL.of h1), by rw [← h2.length]; exact q.here rel (.int _)⟩
  | fz x =>
    have hv : RepV G w H (.fz x) v := hv
    cases hf
    cases hv with
    | fz t h2 => exact call_len_seq pins s σ H _ us Q I r ⟨_, _, rfl, .inl (hK ▸ t.sq), by rw [← h2.length]; exact q.here rel (.int _)⟩
  | tup x =>
    have hv : RepV G w H (.tup x) v := hv
    cases hf
    cases hv with
    | tup t h2 => exact call_len_seq pins s σ H _ us Q I r ⟨_, _, rfl, .inr (hK ▸ t.sq), by rw [← h2.length]; exact q.here rel (.int _)⟩
  | _ => cases hf
theorem bi_sum (hc : X.calm = true) : CallR X (.builtin "sum") (rBi G .sum) := by
  refine bi_one (b := .sum) (one_of (f := sumD) (fun _ => rfl) fun _ _ => rfl) fun pins s σ H v us Q w Hd x d I r rel hv hf q => ?_
  cases x with
  | lv x =>
    obtain ⟨p, vs, rfl, h1, h2⟩ := hv
    simp only [sumD] at hf
    cases e : intsOf x with
    | none => rw [e] at hf; cases hf
    | some ns =>
      rw [e] at hf
      cases hf
      have e2 := ints_rep h2 e
      subst e2
      exact cr_sum hc pins s σ H _ us Q I r ⟨p, ns, rfl, SqL.of h1, q.here rel (.int _)⟩
  | _ => cases hf
theorem bi_all (hc : X.calm = true) : CallR X (.builtin "all") (rBi G .all) := by
  refine bi_one (b := .all) (one_of (f := allD) (fun _ => rfl) fun _ _ => rfl) fun pins s σ H v us Q w Hd x d I r rel hv hf q => ?_
  cases x with
  | lv x =>
    obtain ⟨p, vs, rfl, h1, h2⟩ := hv
    simp only [allD] at hf
    cases e : blsOf x with
    | none => rw [e] at hf; cases hf
    | some ns =>
      rw [e] at hf
      cases hf
      have e2 := bls_rep h2 e
      subst e2
      exact cr_all hc pins s σ H _ us Q I r ⟨p, ns, rfl, SqL.of h1, q.here rel (.bl _)⟩
  | _ => cases hf
theorem bi_any (hc : X.calm = true) : CallR X (.builtin "any") (rBi G .any) := by
  refine bi_one (b := .any) (one_of (f := anyD) (fun _ => rfl) fun _ _ => rfl) fun pins s σ H v us Q w Hd x d I r rel hv hf q => ?_
  cases x with
  | lv x =>
    obtain ⟨p, vs, rfl, h1, h2⟩ := hv
    simp only [anyD] at hf
    cases e : blsOf x with
    | none => rw [e] at hf; cases hf
    | some ns =>
      rw [e] at hf
      cases hf
      have e2 := bls_rep h2 e
      subst e2
      exact cr_any hc pins s σ H _ us Q I r ⟨p, ns, rfl, SqL.of h1, q.here rel (.bl _)⟩
  | _ => cases hf
theorem bi_int : CallR X (.type "int") (rBi G .int) := by
  refine bi_one (b := .int) (one_of (f := intD) (fun _ => rfl) fun _ _ => rfl) fun pins s σ H v us Q w Hd x d I r rel hv hf q => ?_
  cases x with
  | int i =>
    have hv : RepV G w H (.int i) v := hv
    cases hv; cases hf
    exact call_int1 pins s σ H _ us Q I r (.inl ⟨_, rfl, q.here rel (.int _)⟩)
  | bl i =>
    have hv : RepV G w H (.bl i) v := hv
    cases hv; cases hf
    exact call_int1 pins s σ H _ us Q I r (.inr ⟨_, rfl, q.here rel (.int _)⟩)
  | _ => cases hf
theorem bi_abs : CallR X (.builtin "abs") (rBi G .abs) := by
  refine bi_one (b := .abs) (one_of (f := absD) (fun _ => rfl) fun _ _ => rfl) fun pins s σ H v us Q w Hd x d I r rel hv hf q => ?_
  cases x with
  | int i =>
    have hv : RepV G w H (.int i) v := hv
    cases hv; cases hf
    exact call_abs pins s σ H _ us Q I r ⟨_, rfl, q.here rel (.int _)⟩
  | _ => cases hf
theorem str_back (x : Str) : (⟨x.cps.toList.toArray⟩ : Str) = x := by simp
theorem bi_str : CallR X (.type "str") (rBi G .str) := by
  refine bi_one (b := .str) (one_of (f := strD) (fun _ => rfl) fun _ _ => rfl) fun pins s σ H v us Q w Hd x d I r rel hv hf q => ?_
  cases x with
  | int i =>
    have hv : RepV G w H (.int i) v := hv
    cases hv
    simp only [strD] at hf
    split at hf
    · rename_i hl
      cases hf
      refine call_str_int pins s σ H _ us Q I r ⟨_, rfl, hl, ?_⟩
      have z := q.here rel (.str (numT i))
      unfold numT at z
      rw [str_back] at z
      exact z
    · cases hf
  | str i =>
    have hv : RepV G w H (.str i) v := hv
    cases hv; cases hf
    exact SkE.call_str_str pins s σ H _ us Q I r ⟨_, rfl, q.here rel (.str _)⟩
  | _ => cases hf
theorem bi_tuple (hK : G.K = X.K) : CallR X (.type "tuple") (rBi G .tuple) := by
  refine bi_one (b := .tuple) (one_of (f := tupleD) (fun _ => rfl) fun _ _ => rfl) fun pins s σ H v us Q w Hd x d I r rel hv hf q => ?_
  cases x with
  | lv x =>
    obtain ⟨p, vs, rfl, h1, h2⟩ := hv
    cases hf
    exact call_tuple_of pins s σ H _ us Q I r ⟨p, vs, rfl, .inl ⟨SqL.of h1, q.tup rel h2⟩⟩
  | fz x =>
    have hv : RepV G w H (.fz x) v := hv
    cases hf
    cases hv with
    | fz t h2 => exact call_tuple_of pins s σ H _ us Q I r ⟨_, _, rfl, .inl ⟨hK ▸ t.sq, q.tup rel h2⟩⟩
  | tup x =>
    have hv : RepV G w H (.tup x) v := hv
    cases hf
    cases hv with
    | tup t h2 => exact call_tuple_of pins s σ H _ us Q I r ⟨_, _, rfl, .inr ⟨hK ▸ t.sq, q.here rel (.tup t h2)⟩⟩
  | _ => cases hf
theorem signs_rep : ∀ x : List Nat, RepVs G w H (x.map fun c => D.str [c]) (x.map fun c => V.str ⟨#[c]⟩)
  | [] => .nil
  | c :: r => .cons (.str [c]) (signs_rep r)
theorem signs_vals {x : List Nat} {us : List Value} (h : ItemsOf (SignAt ⟨x.toArray⟩) us.toArray x.length) : Vals (x.map fun c => V.str ⟨#[c]⟩) us := by
  refine vals_of_at (by rw [List.length_map]; exact h.1.symm) fun j v u h1 h2 => ?_
  obtain ⟨c, t, e, rfl⟩ := h.2 j u (by simpa using h2)
  have e : x[j]? = some c := by simpa using e
  rw [List.getElem?_map, e] at h1
  cases h1
  exact ⟨t, rfl⟩
/-- list of a str -/
theorem call_list_s (hc : X.calm = true) : CallR X (.type "list") (fun xs H Q => ∃ x : List Nat, xs = [.str ⟨x.toArray⟩] ∧ x.length ≤ sizeLine ∧ ∀ q, H q = none → Q (.ref q) (upd H q (.lst (x.map fun c => V.str ⟨#[c]⟩)))) := by
  intro pins s σ H xs us Q I r h
  obtain ⟨x, rfl, hz, q⟩ := h
  obtain ⟨u, rfl, t, rfl⟩ := vals1 r
  have hs : (⟨x.toArray⟩ : Str).cps.size = x.length := by simp
  refine PySem.call_list_str (I.ok.hd hc) _ t (fun h' tk acc' c' hk e' hi => ?_) (by rw [hs]; exact hz)
  rw [hs] at hi
  refine ⟨.ref s.heap.objs.size, upd H s.heap.objs.size (.lst (x.map fun c => V.str ⟨#[c]⟩)), I.laid hk (Nat.le_refl _) (show ObjOk X.prog X.w _ _ _ (.lst (x.map fun c => V.str ⟨#[c]⟩)) from ⟨?_, acc'.toList, c', signs_vals (by rw [Array.toArray_toList]; exact hi), ?_⟩), rfl, q _ (I.hok.fresh (Nat.le_refl _))⟩
  · rw [List.length_map]; exact hz
  · rw [Array.toArray_toList]; exact e'
theorem bi_list (hK : G.K = X.K) (hc : X.calm = true) : CallR X (.type "list") (rBi G .list) := by
  refine bi_one (b := .list) (one_of (f := listD) (fun _ => rfl) fun _ _ => rfl) fun pins s σ H v us Q w Hd x d I r rel hv hf q => ?_
  cases x with
  | lv x =>
    obtain ⟨p, vs, rfl, h1, h2⟩ := hv
    cases hf
    exact call_list_of pins s σ H _ us Q I r ⟨p, vs, rfl, .inl (SqL.of h1), q.lv rel h2⟩
  | fz x =>
    have hv : RepV G w H (.fz x) v := hv
    cases hf
    cases hv with
    | fz t h2 => exact call_list_of pins s σ H _ us Q I r ⟨_, _, rfl, .inl (hK ▸ t.sq), q.lv rel h2⟩
  | tup x =>
    have hv : RepV G w H (.tup x) v := hv
    cases hf
    cases hv with
    | tup t h2 => exact call_list_of pins s σ H _ us Q I r ⟨_, _, rfl, .inr (hK ▸ t.sq), q.lv rel h2⟩
  | str x =>
    have hv : RepV G w H (.str x) v := hv
    cases hv
    simp only [listD] at hf
    split at hf
    · rename_i hl
      cases hf
      exact call_list_s hc pins s σ H _ us Q I r ⟨x, rfl, by rw [PySem.sizeLine_eq]; exact hl, q.lv rel (signs_rep x)⟩
    · cases hf
  | _ => cases hf
theorem bi_twoE {b : BI} {f : D → D → Option D} {g : D → Option D} (h2 : ∀ x y, biD b [x, y] = f x y) (h1 : ∀ x, biD b [x] = g x) : ∀ ds d, biD b ds = some d → (∃ x, ds = [x] ∧ g x = some d) ∨ ∃ x y, ds = [x, y] ∧ f x y = some d
  | [], d, e => by cases e
  | [x], d, e => .inl ⟨x, rfl, (h1 x).symm.trans e⟩
  | [x, y], d, e => .inr ⟨x, y, rfl, (h2 x y).symm.trans e⟩
  | _ :: _ :: _ :: _, d, e => by cases e
theorem foldl_max : ∀ (r : List Int) (n : Int), (r.foldl max n = n ∨ r.foldl max n ∈ r) ∧ n ≤ r.foldl max n ∧ ∀ y ∈ r, y ≤ r.foldl max n
  | [], n => ⟨.inl rfl, Int.le_refl _, fun y h => by cases h⟩
  | m :: r, n => by
    obtain ⟨h1, h2, h3⟩ := foldl_max r (max n m)
    refine ⟨?_, ?_, fun y hy => ?_⟩
    · rcases h1 with h1 | h1
      · rw [List.foldl_cons, h1]
        by_cases h : n ≤ m
        · exact .inr (by rw [Int.max_eq_right h]; simp)
        · exact .inl (Int.max_eq_left (by omega))
      · exact .inr (List.mem_cons_of_mem _ h1)
    · rw [List.foldl_cons]; omega
    · rw [List.foldl_cons]
      rcases List.mem_cons.mp hy with rfl | hy
      · omega
      · exact h3 y hy
theorem foldl_min : ∀ (r : List Int) (n : Int), (r.foldl min n = n ∨ r.foldl min n ∈ r) ∧ r.foldl min n ≤ n ∧ ∀ y ∈ r, r.foldl min n ≤ y
  | [], n => ⟨.inl rfl, Int.le_refl _, fun y h => by cases h⟩
  | m :: r, n => by
    obtain ⟨h1, h2, h3⟩ := foldl_min r (min n m)
    refine ⟨?_, ?_, fun y hy => ?_⟩
    · rcases h1 with h1 | h1
      · rw [List.foldl_cons, h1]
        by_cases h : m ≤ n
        · exact .inr (by rw [Int.min_eq_right h]; simp)
        · exact .inl (Int.min_eq_left (by omega))
      · exact .inr (List.mem_cons_of_mem _ h1)
    · rw [List.foldl_cons]; omega
    · rw [List.foldl_cons]
      rcases List.mem_cons.mp hy with rfl | hy
      · omega
      · exact h3 y hy
theorem maxL_eq {ns : List Int} {m k : Int} (h : maxL ns = some k) (h1 : m ∈ ns) (h2 : ∀ y, y ∈ ns → y ≤ m) : m = k := by
  cases ns with
  | nil => cases h1
  | cons n r =>
    cases h
    obtain ⟨a, b, c⟩ := foldl_max r n
    have : r.foldl max n ≤ m := by
      rcases a with a | a
      · rw [a]; exact h2 n List.mem_cons_self
      · exact h2 _ (List.mem_cons_of_mem _ a)
    rcases List.mem_cons.mp h1 with rfl | h1
    · omega
    · have := c m h1; omega
theorem minL_eq {ns : List Int} {m k : Int} (h : minL ns = some k) (h1 : m ∈ ns) (h2 : ∀ y, y ∈ ns → m ≤ y) : m = k := by
  cases ns with
  | nil => cases h1
  | cons n r =>
    cases h
    obtain ⟨a, b, c⟩ := foldl_min r n
    have : m ≤ r.foldl min n := by
      rcases a with a | a
      · rw [a]; exact h2 n List.mem_cons_self
      · exact h2 _ (List.mem_cons_of_mem _ a)
    rcases List.mem_cons.mp h1 with rfl | h1
    · omega
    · have := c m h1; omega
theorem bi_max (hc : X.calm = true) : CallR X (.builtin "max") (rBi G .max) := by
  intro pins s σ H xs us Q I r h
  obtain ⟨w, Hd, ds, d, rel, hx, hb, q⟩ := h
  rcases bi_twoE (b := .max) (f := maxD) (g := maxLD) (fun _ _ => rfl) (fun _ => rfl) _ _ hb with ⟨x, rfl, hf⟩ | ⟨x, y, rfl, hf⟩
  · obtain ⟨v, rfl, h1⟩ := pair1 hx
    unfold maxLD at hf
    split at hf
    · rename_i x
      obtain ⟨p, vs, rfl, h1, h2⟩ := h1
      cases e : intsOf x with
      | none => rw [e] at hf; cases hf
      | some ns =>
        rw [e, Option.bind_some] at hf
        cases e3 : maxL ns with
        | none => rw [e3] at hf; cases hf
        | some k =>
          rw [e3] at hf
          cases hf
          have e2 := ints_rep h2 e
          subst e2
          exact cr_max hc pins s σ H _ us Q I r ⟨p, ns, rfl, SqL.of h1, by cases ns with | nil => cases e3 | cons _ _ => exact Nat.succ_pos _, fun m m1 m2 => by
            rw [maxL_eq e3 m1 m2]; exact q.here rel (.int _)⟩
    · cases hf
  · obtain ⟨v, v', rfl, h1, h2⟩ := pair2 hx
    unfold maxD at hf
    split at hf
    · rename_i i j
      have h1 : RepV G w H (.int i) v := h1
      have h2 : RepV G w H (.int j) v' := h2
      cases h1; cases h2; cases hf
      exact call_max2 hc pins s σ H _ us Q I r ⟨_, _, rfl, q.here rel (.int _)⟩
    · cases hf
theorem bi_min (hc : X.calm = true) : CallR X (.builtin "min") (rBi G .min) := by
  intro pins s σ H xs us Q I r h
  obtain ⟨w, Hd, ds, d, rel, hx, hb, q⟩ := h
  rcases bi_twoE (b := .min) (f := minD) (g := minLD) (fun _ _ => rfl) (fun _ => rfl) _ _ hb with ⟨x, rfl, hf⟩ | ⟨x, y, rfl, hf⟩
  · obtain ⟨v, rfl, h1⟩ := pair1 hx
    unfold minLD at hf
    split at hf
    · rename_i x
      obtain ⟨p, vs, rfl, h1, h2⟩ := h1
      cases e : intsOf x with
      | none => rw [e] at hf; cases hf
      | some ns =>
        rw [e, Option.bind_some] at hf
        cases e3 : minL ns with
        | none => rw [e3] at hf; cases hf
        | some k =>
          rw [e3] at hf
          cases hf
          have e2 := ints_rep h2 e
          subst e2
          exact cr_min hc pins s σ H _ us Q I r ⟨p, ns, rfl, SqL.of h1, by cases ns with | nil => cases e3 | cons _ _ => exact Nat.succ_pos _, fun m m1 m2 => by
            rw [minL_eq e3 m1 m2]; exact q.here rel (.int _)⟩
    · cases hf
  · obtain ⟨v, v', rfl, h1, h2⟩ := pair2 hx
    unfold minD at hf
    split at hf
    · rename_i i j
      have h1 : RepV G w H (.int i) v := h1
      have h2 : RepV G w H (.int j) v' := h2
      cases h1; cases h2; cases hf
      exact call_min2 hc pins s σ H _ us Q I r ⟨_, _, rfl, q.here rel (.int _)⟩
    · cases hf
mutual
theorem nodict_py : ∀ d : D, (toPy d).hasDict = false
  | .non => by simp [toPy, PyData.hasDict]
  | .bl _ => by simp [toPy, PyData.hasDict]
  | .int _ => by simp [toPy, PyData.hasDict]
  | .str _ => by simp [toPy, PyData.hasDict]
  | .tup xs => by simp only [toPy, PyData.hasDict]; exact nodicts_py xs
  | .lv xs => by simp only [toPy, PyData.hasDict]; exact nodicts_py xs
  | .fz xs => by simp [toPy, PyData.hasDict]
  | .dv _ _ => by simp [toPy, PyData.hasDict]
  | .sv _ => by simp [toPy, PyData.hasDict]
  | .ref _ => by simp [toPy, PyData.hasDict]
  | .cls _ => by simp [toPy, PyData.hasDict]
  | .ty _ => by simp [toPy, PyData.hasDict]
theorem nodicts_py : ∀ ds : List D, PyData.hasDictAll (toPys ds) = false
  | [] => by simp [toPys, PyData.hasDictAll]
  | d :: ds => by simp only [toPys, PyData.hasDictAll, nodict_py d, nodicts_py ds, Bool.or_self]
end
theorem bi_repr (hK : G.K = X.K) (hg : X.A.guards = some []) (hu : X.A.units + 66 < cLine) : CallR X (.builtin "repr") (rBi G .repr) := by
  refine bi_one (b := .repr) (one_of (f := fun x => if showOk x then some (.str (showD x)) else none) (fun _ => rfl) fun _ _ => rfl) fun pins s σ H v us Q w Hd x d I r rel hv hf q => ?_
  split at hf
  · rename_i ho
    cases hf
    unfold showOk at ho
    simp only [Bool.and_eq_true, decide_eq_true_iff] at ho
    obtain ⟨⟨⟨p, sh⟩, dp⟩, sz⟩ := ho
    have sz : (toPy x).shown.length ≤ sizeLine := by rw [← lim_eq]; exact sz
    have fin : Q (.str (toPy x).shown) H := by
      have z := q.here rel (.str (showD x))
      unfold showD at z
      rw [str_back] at z
      exact z
    have hd := dpW_of hK p hv
    obtain ⟨u, rfl, ru⟩ := vals1 r
    obtain ⟨as, rd⟩ := Dp.reads I _ _ _ hd ru
    cases u with
    | ref a =>
      refine PySem.repr_of_reads' rd sh (fun z => by rw [nodict_py] at z; cases z) hg (by rw [depth_py x p]; omega) (fun _ _ e => e) (fun h' tk k kp => ?_) sz
      exact ⟨.str _, H, I.kept (h' := h') (t' := k) kp, ⟨tk, rfl⟩, fin⟩
    | none =>
      generalize e : toPy x = y at rd fin
      cases rd
      exact PySem.P.repr_of_none ⟨.str _, H, I.tok _, ⟨_, rfl⟩, fin⟩
    | bool b =>
      generalize e : toPy x = y at rd fin
      cases rd
      exact PySem.P.repr_of_bool ⟨.str _, H, I.tok _, ⟨_, rfl⟩, fin⟩
    | int i t =>
      generalize e : toPy x = y at rd fin sh
      cases rd
      exact PySem.P.repr_of_int (by simpa [PyData.showable] using sh) ⟨.str _, H, I.tok _, ⟨_, rfl⟩, fin⟩
    | str y t =>
      generalize e : toPy x = y at rd fin sz
      cases rd
      exact PySem.P.repr_of_str ⟨.str _, H, I.tok _, ⟨_, rfl⟩, fin⟩ sz
    | _ => (generalize e : toPy x = y at rd; cases rd)
  · cases hf
/-- a builtin that a calm frame alone may call -/
def coolBI : BI → Bool
  | .sum => true | .max => true | .min => true | .all => true | .any => true | .list => true
  | _ => false
theorem bi_call (hK : G.K = X.K) (b : BI) (hc : coolBI b = true → X.calm = true) (hg : X.A.guards = some []) (hu : X.A.units + 66 < cLine) : CallR X (biV b) (rBi G b) := by
  cases b with
  | len => exact bi_len hK
  | sum => exact bi_sum (hc rfl)
  | int => exact bi_int
  | str => exact bi_str
  | repr => exact bi_repr hK hg hu
  | abs => exact bi_abs
  | max => exact bi_max (hc rfl)
  | min => exact bi_min (hc rfl)
  | tuple => exact bi_tuple hK
  | list => exact bi_list hK (hc rfl)
  | all => exact bi_all (hc rfl)
  | any => exact bi_any (hc rfl)
end
end DI
namespace DI
open PySem PySem.Spec PyProof.Rows L2

def notStar : Expr → Bool
  | .Starred _ _ => false
  | _ => true
theorem star_cons {e : Expr} {es : List Expr} {env : Env} (h : notStar e = true) : starEach (e :: es) env = (false, eval e env) :: starEach es env := by
  cases e <;> first | rfl | (simp [notStar] at h; done)
theorem star_plain {env : Env} {pos : Pos} : ∀ {es : List Expr}, es.all notStar = true → (backTo pos (starEach es env)).any (·.1) = false
  | [], _ => rfl
  | e :: es, h => by
    rw [List.all_cons, Bool.and_eq_true] at h
    rw [star_cons h.1]
    show (false || (backTo pos (starEach es env)).any (·.1)) = false
    rw [star_plain h.2] <;> rfl
/-- a test that is its value's truth -/
def valTest : Expr → Bool
  | .UnaryOp .Not _ _ => false
  | .BoolOp _ _ _ => false
  | .IfExp _ _ _ _ => false
  | .Compare _ _ _ _ => false
  | _ => true
theorem valTest_ok {e : Expr} {env : Env} (h : valTest e = true) : ∀ whole, isTrue e env whole = (do let v ← whole; standAt e.pos; holding [v] (truthy v)) := by
  intro whole
  cases e with
  | UnaryOp op a p => cases op <;> first | rfl | (simp [valTest] at h; done)
  | _ => first | rfl | (simp [valTest] at h; done)
def notSet : Expr → Bool
  | .Set _ _ _ => false
  | _ => true
theorem nomark_of {b : Expr} {op : CmpOp} (h : notSet b = true) : behindInMarks op b = false := by
  cases b <;> first | rfl | (simp [notSet] at h; done)
/-- what a body stands in -/
structure Okx (X : Cx) (G : Gr) (W : WX) : Prop where
  K : G.K = X.K
  gd : X.A.guards = some []
  un : X.A.units + 66 < cLine
  nd : X.N.Nodup
  tk : Takes X W
  hp : PassesOwn (model X.prog X.w) X.A X.env X.xe
section
variable {X : Cx} {G : Gr} {W : WX} {pos : Pos}
theorem d_loc {i : Nat} {x : Str} (h1 : X.N[i]? = some x) (h2 : Vis X.env.scope x) (h3 : (x == ("__debug__" : Str)) = false) (h4 : (x == ("__classdict__" : Str)) = false) :
    PE X (.Name x pos) (tD G W fun s H => match s[i]? with | some (some d) => .ok d H | _ => .no) := PE.mono (pe_var h1 h2 h3 h4) fun s H Q h => by
  obtain ⟨w, Hd, sd, rel, rs, p⟩ := h
  dsimp only at p
  split at p
  · rename_i d e
    obtain ⟨v, h5, h6⟩ := rs.2 i d e
    exact ⟨v, h5, p w H (Ext.refl _ _) rel v h6⟩
  · exact p.elim
theorem d_cst {e : Expr} {d : D} {v : V} (h : PE X e (tC v)) (r : ∀ w H, RepV G w H d v) : PE X e (tD G W fun _ H => .ok d H) := PE.mono h fun s H Q h => by
  obtain ⟨w, Hd, sd, rel, rs, p⟩ := h
  exact p w H (Ext.refl _ _) rel v (r w H)
variable {a b e : Expr} {es : List Expr} {fa fb fc : Sd → HH → Rs D} {fs : Sd → HH → Rs (List D)}
theorem d_nil : PA X [] (tDA G W fun _ H => .ok [] H) := PA.mono pa_nil fun s H Q h => by
  obtain ⟨w, Hd, sd, rel, rs, p⟩ := h
  exact p w H (Ext.refl _ _) rel [] .nil
theorem d_cons (hs : notStar e = true) (he : PE X e (tD G W fa)) (hr : PA X es (tDA G W fs)) : PA X (e :: es) (tDA G W fun s H => (fa s H).bind fun d H1 => (fs s H1).bind fun ds H2 => .ok (d :: ds) H2) :=
  PA.mono (pa_cons he hr (star_cons hs)) fun s H Q h => by
    obtain ⟨w, Hd, sd, rel, rs, p⟩ := h
    refine seq rel rs p fun x Hd1 w1 H1 v e1 rel1 rs1 r1 p1 => ?_
    refine seq rel1 rs1 p1 fun xs Hd2 w2 H2 vs e2 rel2 rs2 r2 p2 => ?_
    exact p2 w2 H2 (Ext.refl _ _) rel2 _ (.cons (r1.ext e2) r2)
theorem d_tup {k : Nat} (h : PA X es (tDA G W fs)) : PE X (.Tuple es k pos) (tD G W fun s H => (fs s H).bind fun ds H1 => if ds.length ≤ lim then .ok (.tup ds) H1 else .no) := PE.mono (pe_tup h) fun s H Q h => by
  obtain ⟨w, Hd, sd, rel, rs, p⟩ := h
  refine seq rel rs p fun xs Hd1 w1 H1 vs e1 rel1 rs1 r1 p1 => ?_
  split at p1
  · rename_i hl
    exact ⟨by rw [← r1.length, ← lim_eq]; exact hl, Ret.tup (fun w' H' e r v rv => p1 w' H' e r v rv) rel1 r1⟩
  · exact p1.elim
theorem d_lst (h : PA X es (tDA G W fs)) : PE X (.List es pos) (tD G W fun s H => (fs s H).bind fun ds H1 => if ds.length ≤ lim then .ok (.lv ds) H1 else .no) := PE.mono (pe_lst h) fun s H Q h => by
  obtain ⟨w, Hd, sd, rel, rs, p⟩ := h
  refine seq rel rs p fun xs Hd1 w1 H1 vs e1 rel1 rs1 r1 p1 => ?_
  split at p1
  · rename_i hl
    exact ⟨by rw [← r1.length, ← lim_eq]; exact hl, Ret.lv (fun w' H' e r v rv => p1 w' H' e r v rv) rel1 r1⟩
  · exact p1.elim
theorem d_lstR (h : PA X es (tDA G W fs)) : PE X (.List es pos) (tD G W fun s H => (fs s H).bind fun ds H1 => if ds.length ≤ lim then .ok (.ref H1.length) (H1 ++ [.lst ds]) else .no) := PE.mono (pe_lst h) fun s H Q h => by
  obtain ⟨w, Hd, sd, rel, rs, p⟩ := h
  refine seq rel rs p fun xs Hd1 w1 H1 vs e1 rel1 rs1 r1 p1 => ?_
  split at p1
  · rename_i hl
    refine ⟨by rw [← r1.length, ← lim_eq]; exact hl, fun q hq => ?_⟩
    have z : RepV G (w1.add q) (upd H1 q (.lst vs)) (.ref Hd1.length) (.ref q) := by
      have := RepV.ref (G := G) (w := w1.add q) (H := upd H1 q (.lst vs)) (r := w1.n) (Nat.lt_succ_self _)
      rw [add_n] at this
      rw [← rel1.n]
      exact this
    exact p1 _ _ (ext_add rel1 hq _) (rel_add rel1 hq r1) _ z
  · exact p1.elim
theorem d_bin (ok : Okx X G W) (o : Operator) (ha : PE X a (tD G W fa)) (hb : PE X b (tD G W fb)) :
    PE X (.BinOp a o b pos) (tD G W fun s H => (fa s H).bind fun x H1 => (fb s H1).bind fun y H2 => Rs.ofO (binD o (viewD H2 x) (viewD H2 y)) H2) := PE.mono (pe_op (op_bin ok.K o) ha hb) fun s H Q h => by
  obtain ⟨w, Hd, sd, rel, rs, p⟩ := h
  refine seq rel rs p fun x Hd1 w1 H1 v e1 rel1 rs1 r1 p1 => ?_
  refine seq rel1 rs1 p1 fun y Hd2 w2 H2 u e2 rel2 rs2 r2 p2 => ?_
  obtain ⟨d, hd, q⟩ := ofO_post p2
  exact ⟨w2, Hd2, _, _, d, rel2, repW_view rel2 (r1.ext e2), repW_view rel2 r2, hd, q⟩
theorem d_binR (ha : PE X a (tD G W fa)) (hb : PE X b (tD G W fb)) :
    PE X (.BinOp a .Add b pos) (tD G W fun s H => (fa s H).bind fun x H1 => (fb s H1).bind fun y H2 => addR (viewD H2 x) (viewD H2 y) H2) := PE.mono (pe_op (bin_addR (G := G)) ha hb) fun s H Q h => by
  obtain ⟨w, Hd, sd, rel, rs, p⟩ := h
  refine seq rel rs p fun x Hd1 w1 H1 v e1 rel1 rs1 r1 p1 => ?_
  refine seq rel1 rs1 p1 fun y Hd2 w2 H2 u e2 rel2 rs2 r2 p2 => ?_
  have q1 := repW_view rel2 (r1.ext e2)
  have q2 := repW_view rel2 r2
  revert p2 q1 q2
  generalize viewD Hd2 x = x'
  generalize viewD Hd2 y = y'
  intro p2 q1 q2
  unfold addR at p2
  split at p2
  · split at p2
    · rename_i hl
      exact ⟨w2, Hd2, _, _, rel2, q1, q2, hl, p2⟩
    · exact p2.elim
  · exact p2.elim
theorem d_neg (ha : PE X a (tD G W fa)) : PE X (.UnaryOp .USub a pos) (tD G W fun s H => (fa s H).bind fun x H1 => match x with | .int i => .ok (.int (-i)) H1 | _ => .no) := PE.mono (pe_un un_neg ha) fun s H Q h => by
  obtain ⟨w, Hd, sd, rel, rs, p⟩ := h
  refine seq rel rs p fun x Hd1 w1 H1 v e1 rel1 rs1 r1 p1 => ?_
  cases x <;> first
    | (cases r1; exact ⟨_, rfl, p1 w1 H1 (Ext.refl _ _) rel1 _ (.int _)⟩)
    | exact p1.elim
theorem d_no (ok : Okx X G W) (ha : PE X a (tD G W fa)) : PE X (.UnaryOp .Not a pos) (tD G W fun s H => (fa s H).bind fun x H1 => Rs.ofO ((truD (viewD H1 x)).map fun b => .bl (!b)) H1) := PE.mono (pe_notT ha) fun s H Q h => by
  obtain ⟨w, Hd, sd, rel, rs, p⟩ := h
  refine seq rel rs p fun x Hd1 w1 H1 v e1 rel1 rs1 r1 p1 => ?_
  obtain ⟨d, hd, q⟩ := ofO_post p1
  cases e : truD (viewD Hd1 x) with
  | none => rw [e] at hd; cases hd
  | some k =>
    rw [e] at hd
    cases hd
    exact ⟨k, tru_of ok.K (repW_view rel1 r1) e, q w1 H1 (Ext.refl _ _) rel1 _ (.bl _)⟩
theorem d_cmp (ok : Okx X G W) (o : CmpOp) (hm : notSet b = true) (ha : PE X a (tD G W fa)) (hb : PE X b (tD G W fb)) :
    PE X (.Compare a [o] [b] pos) (tD G W fun s H => (fa s H).bind fun x H1 => (fb s H1).bind fun y H2 => Rs.ofO ((cmpD o (viewD H2 x) (viewD H2 y)).map .bl) H2) := PE.mono (pe_cmpR (op_cmp ok.K (by have := ok.un; omega) o) ha hb (nomark_of hm)) fun s H Q h => by
  obtain ⟨w, Hd, sd, rel, rs, p⟩ := h
  refine seq rel rs p fun x Hd1 w1 H1 v e1 rel1 rs1 r1 p1 => ?_
  refine seq rel1 rs1 p1 fun y Hd2 w2 H2 u e2 rel2 rs2 r2 p2 => ?_
  obtain ⟨d, hd, q⟩ := ofO_post p2
  cases e : cmpD o (viewD Hd2 x) (viewD Hd2 y) with
  | none => rw [e] at hd; cases hd
  | some k =>
    rw [e] at hd
    cases hd
    exact ⟨w2, _, _, k, repW_view rel2 (r1.ext e2), repW_view rel2 r2, e, q w2 H2 (Ext.refl _ _) rel2 _ (.bl _)⟩
theorem d_cmpF (ok : Okx X G W) (o : CmpOp) (hm : notSet b = true) (ha : PE X a (tD G W fa)) (hb : PE X b (tD G W fb)) :
    PE X (.Compare a [o] [b] pos) (tD G W fun s H => (fa s H).bind fun x H1 => (fb s H1).bind fun y H2 => Rs.ofO ((cmpG H2 o x y).map .bl) H2) := PE.mono (pe_cmpR (op_cmpG ok.K (by have := ok.un; omega) o) ha hb (nomark_of hm)) fun s H Q h => by
  obtain ⟨w, Hd, sd, rel, rs, p⟩ := h
  refine seq rel rs p fun x Hd1 w1 H1 v e1 rel1 rs1 r1 p1 => ?_
  refine seq rel1 rs1 p1 fun y Hd2 w2 H2 u e2 rel2 rs2 r2 p2 => ?_
  obtain ⟨d, hd, q⟩ := ofO_post p2
  cases e : cmpG Hd2 o x y with
  | none => rw [e] at hd; cases hd
  | some k =>
    rw [e] at hd
    cases hd
    exact ⟨w2, Hd2, _, _, k, rel2, r1.ext e2, r2, e, q w2 H2 (Ext.refl _ _) rel2 _ (.bl _)⟩
theorem last2 {o p : CmpOp} {b c : Expr} (h : notSet c = true) : lastMarks [o, p] [b, c] = false := by
  show behindInMarks p c = false
  exact nomark_of h
theorem d_cmp2 {c : Expr} (ok : Okx X G W) (o p : CmpOp) (hm : notSet c = true) (ha : PE X a (tD G W fa)) (hb : PE X b (tD G W fb)) (hc : PE X c (tD G W fc)) :
    PE X (.Compare a [o, p] [b, c] pos) (tD G W fun s H => (fa s H).bind fun x H1 => (fb s H1).bind fun y H2 => match cmpD o (viewD H2 x) (viewD H2 y) with
      | some true => (fc s H2).bind fun z H3 => Rs.ofO ((cmpD p (viewD H3 y) (viewD H3 z)).map .bl) H3
      | some false => .ok (.bl false) H2
      | none => .no) := PE.mono (pe_chain (op_cmp ok.K (by have := ok.un; omega) o) (op_cmp ok.K (by have := ok.un; omega) p) ha hb hc (last2 hm)) fun s H Q h => by
  obtain ⟨w, Hd, sd, rel, rs, q⟩ := h
  refine seq rel rs q fun x Hd1 w1 H1 v e1 rel1 rs1 r1 p1 => ?_
  refine seq rel1 rs1 p1 fun y Hd2 w2 H2 u e2 rel2 rs2 r2 p2 => ?_
  cases e : cmpD o (viewD Hd2 x) (viewD Hd2 y) with
  | none => rw [e] at p2; exact p2.elim
  | some k =>
    rw [e] at p2
    refine ⟨w2, _, _, k, repW_view rel2 (r1.ext e2), repW_view rel2 r2, e, k, rfl, ?_⟩
    cases k with
    | false => exact iteF (p2 w2 H2 (Ext.refl _ _) rel2 _ (.bl _))
    | true =>
      refine iteT ?_
      refine seq rel2 rs2 p2 fun z Hd3 w3 H3 t e3 rel3 rs3 r3 p3 => ?_
      obtain ⟨d, hd, q⟩ := ofO_post p3
      cases e : cmpD p (viewD Hd3 y) (viewD Hd3 z) with
      | none => rw [e] at hd; cases hd
      | some k =>
        rw [e] at hd
        cases hd
        exact ⟨w3, _, _, k, repW_view rel3 (r2.ext e3), repW_view rel3 r3, e, q w3 H3 (Ext.refl _ _) rel3 _ (.bl _)⟩
variable {x y : Expr} {r : List Expr}
theorem d_one {o : BoolOp} (h : PE X x (tD G W fa)) : PE X (.BoolOp o [x] pos) (tD G W fa) := pe_one h
theorem d_and (ok : Okx X G W) (ha : PE X x (tD G W fa)) (hb : PE X (.BoolOp .And (y :: r) pos) (tD G W fb)) : PE X (.BoolOp .And (x :: y :: r) pos) (tD G W fun s H => (fa s H).bind fun v H1 => match truD (viewD H1 v) with
      | some true => fb s H1
      | some false => .ok v H1
      | none => .no) := PE.mono (pe_andT ha hb) fun s H Q h => by
  obtain ⟨w, Hd, sd, rel, rs, p⟩ := h
  refine seq rel rs p fun x Hd1 w1 H1 v e1 rel1 rs1 r1 p1 => ?_
  cases e : truD (viewD Hd1 x) with
  | none => rw [e] at p1; exact p1.elim
  | some k =>
    rw [e] at p1
    refine ⟨k, tru_of ok.K (repW_view rel1 r1) e, ?_⟩
    cases k with
    | true => exact iteT ⟨w1, Hd1, sd, rel1, rs1, p1⟩
    | false => exact iteF (p1 w1 H1 (Ext.refl _ _) rel1 _ r1)
theorem d_or (ok : Okx X G W) (ha : PE X x (tD G W fa)) (hb : PE X (.BoolOp .Or (y :: r) pos) (tD G W fb)) : PE X (.BoolOp .Or (x :: y :: r) pos) (tD G W fun s H => (fa s H).bind fun v H1 => match truD (viewD H1 v) with
      | some true => .ok v H1
      | some false => fb s H1
      | none => .no) := PE.mono (pe_orT ha hb) fun s H Q h => by
  obtain ⟨w, Hd, sd, rel, rs, p⟩ := h
  refine seq rel rs p fun x Hd1 w1 H1 v e1 rel1 rs1 r1 p1 => ?_
  cases e : truD (viewD Hd1 x) with
  | none => rw [e] at p1; exact p1.elim
  | some k =>
    rw [e] at p1
    refine ⟨k, tru_of ok.K (repW_view rel1 r1) e, ?_⟩
    cases k with
    | true => exact iteT (p1 w1 H1 (Ext.refl _ _) rel1 _ r1)
    | false => exact iteF ⟨w1, Hd1, sd, rel1, rs1, p1⟩
variable {ft fu : Sd → HH → Rs Bool}
theorem d_ite {t : Expr} (ht : PT X t (tDT G W ft)) (ha : PE X a (tD G W fa)) (hb : PE X b (tD G W fb)) : PE X (.IfExp t a b pos) (tD G W fun s H => (ft s H).bind fun k H1 => if k then fa s H1 else fb s H1) := PE.mono (pe_ifExp ht ha hb) fun s H Q h => by
  obtain ⟨w, Hd, sd, rel, rs, p⟩ := h
  refine seq rel rs p fun x Hd1 w1 H1 v e1 rel1 rs1 r1 p1 => ?_
  cases (show v = x from r1)
  cases x with
  | true => exact iteT ⟨w1, Hd1, sd, rel1, rs1, p1⟩
  | false => exact iteF ⟨w1, Hd1, sd, rel1, rs1, p1⟩
theorem t_val (ok : Okx X G W) (hv : valTest a = true) (ha : PE X a (tD G W fa)) : PT X a (tDT G W fun s H => (fa s H).bind fun x H1 => Rs.ofO (truD (viewD H1 x)) H1) := PT.mono (pt_truth ha (valTest_ok hv)) fun s H Q h => by
  obtain ⟨w, Hd, sd, rel, rs, p⟩ := h
  refine seq rel rs p fun x Hd1 w1 H1 v e1 rel1 rs1 r1 p1 => ?_
  obtain ⟨d, hd, q⟩ := ofO_post p1
  exact ⟨d, tru_of ok.K (repW_view rel1 r1) hd, q w1 H1 (Ext.refl _ _) rel1 _ rfl⟩
theorem t_no (ha : PT X a (tDT G W ft)) : PT X (.UnaryOp .Not a pos) (tDT G W fun s H => (ft s H).bind fun k H1 => .ok (!k) H1) := PT.mono (pt_not ha) fun s H Q h => by
  obtain ⟨w, Hd, sd, rel, rs, p⟩ := h
  refine seq rel rs p fun x Hd1 w1 H1 v e1 rel1 rs1 r1 p1 => ?_
  cases (show v = x from r1)
  exact p1 w1 H1 (Ext.refl _ _) rel1 _ rfl
theorem t_one {o : BoolOp} (h : PT X x (tDT G W ft)) : PW X (.BoolOp o [x] pos) (tDT G W ft) := by
  cases o with
  | And => exact pw_and1 h
  | Or => exact pw_or1 h
theorem t_and (ha : PT X x (tDT G W ft)) (hb : PW X (.BoolOp .And (y :: r) pos) (tDT G W fu)) : PW X (.BoolOp .And (x :: y :: r) pos) (tDT G W fun s H => (ft s H).bind fun k H1 => if k then fu s H1 else .ok false H1) := PW.mono (pw_and ha hb) fun s H Q h => by
  obtain ⟨w, Hd, sd, rel, rs, p⟩ := h
  refine seq rel rs p fun x Hd1 w1 H1 v e1 rel1 rs1 r1 p1 => ?_
  cases (show v = x from r1)
  cases x with
  | true => exact iteT ⟨w1, Hd1, sd, rel1, rs1, p1⟩
  | false => exact iteF (p1 w1 H1 (Ext.refl _ _) rel1 _ rfl)
theorem t_or (ha : PT X x (tDT G W ft)) (hb : PW X (.BoolOp .Or (y :: r) pos) (tDT G W fu)) : PW X (.BoolOp .Or (x :: y :: r) pos) (tDT G W fun s H => (ft s H).bind fun k H1 => if k then .ok true H1 else fu s H1) := PW.mono (pw_or ha hb) fun s H Q h => by
  obtain ⟨w, Hd, sd, rel, rs, p⟩ := h
  refine seq rel rs p fun x Hd1 w1 H1 v e1 rel1 rs1 r1 p1 => ?_
  cases (show v = x from r1)
  cases x with
  | true => exact iteT (p1 w1 H1 (Ext.refl _ _) rel1 _ rfl)
  | false => exact iteF ⟨w1, Hd1, sd, rel1, rs1, p1⟩
theorem t_cmp (ok : Okx X G W) (o : CmpOp) (hm : notSet b = true) (ha : PE X a (tD G W fa)) (hb : PE X b (tD G W fb)) :
    PT X (.Compare a [o] [b] pos) (tDT G W fun s H => (fa s H).bind fun x H1 => (fb s H1).bind fun y H2 => Rs.ofO (cmpD o (viewD H2 x) (viewD H2 y)) H2) := PT.mono (pt_cmpR (op_cmp ok.K (by have := ok.un; omega) o) ha hb (nomark_of hm)) fun s H Q h => by
  obtain ⟨w, Hd, sd, rel, rs, p⟩ := h
  refine seq rel rs p fun x Hd1 w1 H1 v e1 rel1 rs1 r1 p1 => ?_
  refine seq rel1 rs1 p1 fun y Hd2 w2 H2 u e2 rel2 rs2 r2 p2 => ?_
  obtain ⟨d, hd, q⟩ := ofO_post p2
  exact ⟨w2, _, _, d, repW_view rel2 (r1.ext e2), repW_view rel2 r2, hd, d, rfl, q w2 H2 (Ext.refl _ _) rel2 _ rfl⟩
theorem t_cmpF (ok : Okx X G W) (o : CmpOp) (hm : notSet b = true) (ha : PE X a (tD G W fa)) (hb : PE X b (tD G W fb)) :
    PT X (.Compare a [o] [b] pos) (tDT G W fun s H => (fa s H).bind fun x H1 => (fb s H1).bind fun y H2 => Rs.ofO (cmpG H2 o x y) H2) := PT.mono (pt_cmpR (op_cmpG ok.K (by have := ok.un; omega) o) ha hb (nomark_of hm)) fun s H Q h => by
  obtain ⟨w, Hd, sd, rel, rs, p⟩ := h
  refine seq rel rs p fun x Hd1 w1 H1 v e1 rel1 rs1 r1 p1 => ?_
  refine seq rel1 rs1 p1 fun y Hd2 w2 H2 u e2 rel2 rs2 r2 p2 => ?_
  obtain ⟨d, hd, q⟩ := ofO_post p2
  exact ⟨w2, Hd2, _, _, d, rel2, r1.ext e2, r2, hd, d, rfl, q w2 H2 (Ext.refl _ _) rel2 _ rfl⟩
theorem t_cmp2 {c : Expr} (ok : Okx X G W) (o p : CmpOp) (hm : notSet c = true) (ha : PE X a (tD G W fa)) (hb : PE X b (tD G W fb)) (hc : PE X c (tD G W fc)) :
    PT X (.Compare a [o, p] [b, c] pos) (tDT G W fun s H => (fa s H).bind fun x H1 => (fb s H1).bind fun y H2 => match cmpD o (viewD H2 x) (viewD H2 y) with
      | some true => (fc s H2).bind fun z H3 => Rs.ofO (cmpD p (viewD H3 y) (viewD H3 z)) H3
      | some false => .ok false H2
      | none => .no) := PT.mono (pt_chain (op_cmp ok.K (by have := ok.un; omega) o) (op_cmp ok.K (by have := ok.un; omega) p) ha hb hc (last2 hm)) fun s H Q h => by
  obtain ⟨w, Hd, sd, rel, rs, q⟩ := h
  refine seq rel rs q fun x Hd1 w1 H1 v e1 rel1 rs1 r1 p1 => ?_
  refine seq rel1 rs1 p1 fun y Hd2 w2 H2 u e2 rel2 rs2 r2 p2 => ?_
  cases e : cmpD o (viewD Hd2 x) (viewD Hd2 y) with
  | none => rw [e] at p2; exact p2.elim
  | some k =>
    rw [e] at p2
    refine ⟨w2, _, _, k, repW_view rel2 (r1.ext e2), repW_view rel2 r2, e, k, rfl, ?_⟩
    cases k with
    | false => exact iteF ⟨false, rfl, p2 w2 H2 (Ext.refl _ _) rel2 _ rfl⟩
    | true =>
      refine iteT ?_
      refine seq rel2 rs2 p2 fun z Hd3 w3 H3 t e3 rel3 rs3 r3 p3 => ?_
      obtain ⟨d, hd, q⟩ := ofO_post p3
      exact ⟨w3, _, _, d, repW_view rel3 (r2.ext e3), repW_view rel3 r3, hd, d, rfl, q w3 H3 (Ext.refl _ _) rel3 _ rfl⟩
def plainIx : Expr → Bool
  | .Slice _ _ _ _ => false
  | _ => true
theorem plainIx_ok {e : Expr} (h : plainIx e = true) : PlainIx e := by
  intro o i
  cases e <;> first | rfl | (simp [plainIx] at h; done)
theorem d_ix (ok : Okx X G W) (hp : plainIx b = true) (ha : PE X a (tD G W fa)) (hb : PE X b (tD G W fb)) :
    PE X (.Subscript a b pos) (tD G W fun s H => (fa s H).bind fun x H1 => (fb s H1).bind fun y H2 => Rs.ofO (ixD (viewD H2 x) y) H2) := PE.mono (pe_ix (ix_all ok.K) ha hb (plainIx_ok hp)) fun s H Q h => by
  obtain ⟨w, Hd, sd, rel, rs, p⟩ := h
  refine seq rel rs p fun x Hd1 w1 H1 v e1 rel1 rs1 r1 p1 => ?_
  refine seq rel1 rs1 p1 fun y Hd2 w2 H2 u e2 rel2 rs2 r2 p2 => ?_
  obtain ⟨d, hd, q⟩ := ofO_post p2
  exact ⟨w2, Hd2, _, _, d, rel2, repW_view rel2 (r1.ext e2), r2, hd, q⟩
theorem o_no : PO X none (tDO G W fun _ H => .ok none H) := ⟨fun pins s σ H Q I h => po_none.run pins s σ H Q I (by
  obtain ⟨w, Hd, sd, rel, rs, p⟩ := h
  exact p w H (Ext.refl _ _) rel _ rfl)⟩
theorem o_yes (ha : PE X a (tD G W fa)) : PO X (some a) (tDO G W fun s H => (fa s H).bind fun d H1 => match d with | .int i => .ok (some i) H1 | _ => .no) := ⟨fun pins s σ H Q I h => (po_some ha).run pins s σ H Q I (by
  obtain ⟨w, Hd, sd, rel, rs, p⟩ := h
  refine seq rel rs p fun x Hd1 w1 H1 v e1 rel1 rs1 r1 p1 => ?_
  cases x <;> first
    | (cases r1; exact ⟨_, rfl, p1 w1 H1 (Ext.refl _ _) rel1 _ rfl⟩)
    | exact p1.elim)⟩
theorem d_sl {lo hi : Option Expr} {fl fh : Sd → HH → Rs (Option Int)} {p2 : Pos} (ok : Okx X G W) (ha : PE X a (tD G W fa)) (hl : PO X lo (tDO G W fl)) (hh : PO X hi (tDO G W fh)) :
    PE X (.Subscript a (.Slice lo hi none p2) pos) (tD G W fun s H => (fa s H).bind fun x H1 => (fl s H1).bind fun l H2 => (fh s H2).bind fun h H3 => Rs.ofO (slD (viewD H3 x) l h) H3) := PE.mono (pe_slice (sl_all ok.K) ha hl hh) fun s H Q h => by
  obtain ⟨w, Hd, sd, rel, rs, p⟩ := h
  refine seq rel rs p fun x Hd1 w1 H1 v e1 rel1 rs1 r1 p1 => ?_
  refine seq rel1 rs1 p1 fun l Hd2 w2 H2 u e2 rel2 rs2 r2 p2 => ?_
  refine seq rel2 rs2 p2 fun h Hd3 w3 H3 t e3 rel3 rs3 r3 p3 => ?_
  obtain ⟨d, hd, q⟩ := ofO_post p3
  cases (show u = l from r2)
  cases (show t = h from r3)
  exact ⟨w3, Hd3, _, d, rel3, repW_view rel3 ((r1.ext e2).ext e3), hd, q⟩
theorem rev_signs (z : Str) : (Builtin.Str.strSliceIndices none none (-1) z.length).filterMap (z.cps[·]?) = z.cps.toList.reverse := by
  have e1 : Builtin.Str.strSliceIndices none none (-1) z.length = sliceRange ((z.length : Int) - 1) (-1) (-1) := rfl
  rw [e1, PySem.W.krv_sliceRange, PySem.W.krv_range, List.filterMap_reverse]
  exact congrArg List.reverse (PySem.W.krv_all z.cps)
def tRevS (te : TE) : TE := fun σ H Q => te σ H fun x H1 => ∃ z : Str, x = .str z ∧ z.length ≤ sizeLine ∧ Q (.str ⟨z.cps.toList.reverse.toArray⟩) H1
theorem pe_revS {e : Expr} {te : TE} {kd : Nat} {q1 q2 q3 q4 : Pos} (he : PE X e te) : PE X (.Subscript e (.Slice none none (some (.UnaryOp .USub (.Constant (.int 1) kd q1) q2)) q3) q4) (tRevS te) := by
  constructor
  intro pins sA σ H Q inv h
  apply Subscript_
  refine thn (he.run pins sA σ H _ inv h) ?_
  rintro v sB ⟨x, HB, invB, rx, z, ez, hz, q⟩
  subst ez
  obtain ⟨tk, rfl⟩ := rx
  have minus : PO X (some (.UnaryOp .USub (.Constant (.int 1) kd q1) q2)) (tPart (tUn (rU fun i => .int (-i)) (tC (.int 1)))) := po_some (pe_un un_neg pe_int)
  apply wpAny_Slice
  refine thn (po_none.run pins sB σ HB (fun o G => o = none ∧ G = HB) invB ⟨rfl, rfl⟩) ?_
  rintro va sC ⟨oa, HC, invC, pa, ea, eC⟩
  subst ea eC
  refine thn (po_none.run pins sC σ HC (fun o G => o = none ∧ G = HC) invC ⟨rfl, rfl⟩) ?_
  rintro vb sD ⟨ob, HD, invD, pb, eb, eD⟩
  subst eb eD
  refine thn (minus.run pins sD σ HD (fun o G => o = some (-1) ∧ G = HD) invD ⟨1, rfl, -1, rfl, rfl, rfl⟩) ?_
  rintro vc sE ⟨oc, HE, invE, pc, ec, eE⟩
  subst ec eE
  have invF : Inv X pins σ HE { sE with heap := sE.heap.push { cls := .type "slice", data := .fields #[va, vb, vc] } } := invE.kept (t' := sE.toks) fun _ _ y => Heap.get?_push_of_some _ y
  refine tail_any (ops := [.ref sE.heap.objs.size, .str z tk]) (typeIs_str _ z tk) F.slot_str_getitem.lookup ?_ (by with_unfolding_all rfl)
  obtain ⟨la, rfl, ha⟩ := IsPart.raw pa
  obtain ⟨lb, rfl, hb⟩ := IsPart.raw pb
  obtain ⟨lc, rfl, hc⟩ := IsPart.raw pc
  obtain ⟨ho, h1, h2, h3⟩ := Heap.IsSliceOf.new sE.heap (partValue la) (partValue lb) (partValue lc)
  refine wpAny_getItem_str_slice (l := la) (u := lb) (st := lc) ⟨ho, h1, h2, h3⟩ (by rw [hc]; rfl) ?_
  have em : sliceMade z tk la lb lc = .str ⟨z.cps.toList.reverse.toArray⟩ := by
    unfold sliceMade slicePicked
    rw [ha, hb, hc]
    show (if ((-1 : Int) == 1 && _) = true then _ else Made.str ⟨((Builtin.Str.strSliceIndices none none (-1) z.length).filterMap (z.cps[·]?)).toArray⟩) = _
    rw [rev_signs]
    rfl
  rw [em]
  refine ⟨?_, .str _, HE, invF.tok _, ⟨_, rfl⟩, q⟩
  show z.cps.toList.reverse.toArray.size ≤ _
  rw [List.size_toArray, List.length_reverse, Array.length_toList]
  exact hz
def isStrD : D → Bool
  | .str _ => true
  | _ => false
def isStrR : Rs D → Bool
  | .ok x H => isStrD (viewD H x)
  | _ => false
theorem d_rev {k : Nat} {p1 p2 p3 : Pos} (ok : Okx X G W) (ha : PE X a (tD G W fa)) : PE X (.Subscript a (.Slice none none (some (.UnaryOp .USub (.Constant (.int 1) k p1) p2)) p3) pos)
    (tD G W fun s H => (fa s H).bind fun x H1 => match viewD H1 x with | .lv xs => .ok (.lv xs.reverse) H1 | .fz xs => .ok (.lv xs.reverse) H1 | .str xs => if xs.length ≤ lim then .ok (.str xs.reverse) H1 else .no | _ => .no) := by
  have both : PE X (.Subscript a (.Slice none none (some (.UnaryOp .USub (.Constant (.int 1) k p1) p2)) p3) pos) (fun σ H Q => tRevL X.K (tD G W fa) σ H Q ∨ tRevS (tD G W fa) σ H Q) :=
    ⟨fun pins s σ H Q inv h => h.elim ((pe_revL ha).run pins s σ H Q inv) ((pe_revS ha).run pins s σ H Q inv)⟩
  refine PE.mono both fun s H Q h => ?_
  obtain ⟨w, Hd, sd, rel, rs, p⟩ := h
  cases hs : isStrR (fa sd Hd) with
  | false =>
    left
    refine ⟨w, Hd, sd, rel, rs, ?_⟩
    dsimp only at p
    generalize fa sd Hd = r at p hs ⊢
    cases r with
    | no => exact p
    | ex e H1 => exact p
    | ok x Hd1 =>
      intro w1 H1 e1 rel1 v r1
      have p1 := Post.step p e1
      have rw1 := repW_view rel1 r1
      have hs : isStrD (viewD Hd1 x) = _ := hs
      dsimp only [Rs.bind] at p1
      generalize viewD Hd1 x = y at p1 rw1 hs
      cases y with
      | lv xs =>
        obtain ⟨q, vs, rfl, h1, h2⟩ := rw1
        exact ⟨q, vs, rfl, SqL.of h1, Ret.lv (fun w' H' e r v rv => p1 w' H' e r v rv) rel1 h2.reverse⟩
      | fz xs =>
        have rw1 : RepV G w1 H1 (.fz xs) v := rw1
        cases rw1 with
        | fz t h2 => exact ⟨_, _, rfl, ok.K ▸ t.sq, Ret.lv (fun w' H' e r v rv => p1 w' H' e r v rv) rel1 h2.reverse⟩
      | str xs => cases hs
      | _ => exact p1.elim
  | true =>
    right
    refine ⟨w, Hd, sd, rel, rs, ?_⟩
    dsimp only at p
    generalize fa sd Hd = r at p hs ⊢
    cases r with
    | no => cases hs
    | ex e H1 => cases hs
    | ok x Hd1 =>
      intro w1 H1 e1 rel1 v r1
      have p1 := Post.step p e1
      have rw1 := repW_view rel1 r1
      have hs : isStrD (viewD Hd1 x) = _ := hs
      dsimp only [Rs.bind] at p1
      generalize viewD Hd1 x = y at p1 rw1 hs
      cases y with
      | str xs =>
        have rw1 : RepV G w1 H1 (.str xs) v := rw1
        cases rw1
        dsimp only at p1
        split at p1
        · rename_i hl
          refine ⟨_, rfl, by rw [PySem.sizeLine_eq, str_len]; exact hl, ?_⟩
          have := p1 w1 H1 (Ext.refl _ _) rel1 _ (.str _)
          simpa using this
        · exact p1.elim
      | _ => cases hs
theorem bi_boot (b : BI) : bootBuiltins (biN b) = some (biV b) := by cases b <;> decide +kernel
theorem bi_names (b : BI) : biN b ≠ "__name__" ∧ (biN b == ("__debug__" : Str)) = false := by cases b <;> decide +kernel
theorem d_bi {p : Pos} (ok : Okx X G W) (b : BI) (hq : coolBI b = true → X.calm = true) (hg : Gl X (biN b)) (hm : X.mg (biN b) = none) (hs : (e :: es).all notStar = true) (ha : PA X (e :: es) (tDA G W fs)) :
    PE X (.Call (.Name (biN b) p) (e :: es) [] pos) (tD G W fun s H => (fs s H).bind fun ds H1 => Rs.ofO (biD b (ds.map (viewD H1))) H1) := by
  have hs' := hs
  rw [List.all_cons, Bool.and_eq_true] at hs'
  have hc := bi_call ok.K b hq ok.gd ok.un
  have core : PE X (.Call (.Name (biN b) p) (e :: es) [] pos) (tCB (rBi G b) (tDA G W fs)) := by
    have hv := bi_boot b
    have hn := bi_names b
    cases b <;> first
      | exact pe_callB hc hg hm hv ha hn.1 hn.2 (star_cons hs'.1) (star_plain hs'.2)
      | exact pe_callTy hc hg hm hv ha hn.1 hn.2 (star_cons hs'.1) (star_plain hs'.2)
  refine PE.mono core fun s H Q h => ?_
  obtain ⟨w, Hd, sd, rel, rs, p⟩ := h
  refine seq rel rs p fun xs Hd1 w1 H1 vs e1 rel1 rs1 r1 p1 => ?_
  obtain ⟨d, hd, q⟩ := ofO_post p1
  exact ⟨w1, Hd1, _, d, rel1, repWs_view rel1 r1, hd, q⟩
end
end DI
namespace DI
open PySem PySem.Spec PyProof.Rows L2

theorem permL_pair {A B : Type} {F : A → B → Prop} {xs : List A} {ys : List B} (h : Paired F xs ys) : ∀ {p : List Nat} {l : List A}, permL xs p = some l → ∃ m, permL ys p = some m ∧ Paired F l m
  | [], _, e => by cases e; exact ⟨[], rfl, .nil⟩
  | k :: r, l, e => by
    unfold permL at e ⊢
    cases h1 : xs[k]? with
    | none => rw [h1] at e; cases e
    | some d =>
      cases h2 : permL xs r with
      | none => rw [h1, h2] at e; cases e
      | some l' =>
        rw [h1, h2] at e
        cases e
        obtain ⟨m, e2, q⟩ := permL_pair h h2
        have get : ∀ {xs : List A} {ys : List B} {k : Nat}, Paired F xs ys → xs[k]? = some d → ∃ y, ys[k]? = some y ∧ F d y := by
          intro xs ys k h
          induction h generalizing k with
          | nil => intro e; simp at e
          | cons r _ ih =>
            intro e
            cases k with
            | zero => simp at e; subst e; exact ⟨_, rfl, r⟩
            | succ k => simpa using ih (k := k) (by simpa using e)
        obtain ⟨y, e1, q1⟩ := get h h1
        rw [e1, e2]
        exact ⟨_, rfl, .cons q1 q⟩
section
variable {G : Gr} {w w' : Vw} {H H' : Hp}
theorem RepVs.paired : ∀ {ds : List D} {vs : List V}, RepVs G w H ds vs → Paired (RepV G w H) ds vs
  | _, _, .nil => .nil
  | _, _, .cons h r => .cons h r.paired
theorem RepVs.of_paired : ∀ {ds : List D} {vs : List V}, Paired (RepV G w H) ds vs → RepVs G w H ds vs
  | _, _, .nil => .nil
  | _, _, .cons h r => .cons h (RepVs.of_paired r)
theorem RepVs.perm {ds : List D} {vs : List V} (h : RepVs G w H ds vs) {p : List Nat} {l : List D} (e : permL ds p = some l) : ∃ m, permL vs p = some m ∧ RepVs G w H l m := by
  obtain ⟨m, a, b⟩ := permL_pair h.paired e
  exact ⟨m, a, RepVs.of_paired b⟩
end
/-- a def by its name's promise: what the evaluator says of it -/
def FnG (P : Program) (w : World) (K : PySem.W.Frag) (mg : Str → Option Value) (base : Heap) (G : Gr) (k : Nat) (f : Addr) (fd : FuncData) (ps : List Str) (F : List D → HH → Rs D) : Prop :=
  ∀ (A : Around) (outer : List Env) (s : Shared) (H : Hp) (args : Args) (us : List Value) (vs : List V) (ds : List D) (v : Vw) (Hd : HH) (Q : VK) (E : XK), Room k A → A.guards = some [] → Env0 P w K mg base A outer s H →
    BindsTo s fd args (ps.zip us) → Vals vs us → us.length = ps.length → Rel G v Hd H → RepVs G v H ds vs → Post (RepV G) G v H (F ds Hd) E Q → codeAny (model P w) A (.call (.ref f) args) (CR (L2.CX P w) outer P w H s Q E) s
/-- how a call of that form binds: n values by place, then those of the names ks, then the defaults -/
def KBd (K : PySem.W.Frag) (fd : FuncData) (ps : List Str) (n : Nat) (ks : List Str) (p : List Nat) (dvs : List Value) : Prop :=
  ∀ (s : Shared) (us ws : List Value), K.In s.heap → us.length = n → ws.length = ks.length → ∃ zs, permL (us ++ ws ++ dvs) p = some zs ∧ zs.length = ps.length ∧ BindsTo s fd ⟨us, ks.zip ws⟩ (ps.zip zs)
section
variable {X : Cx} {G : Gr} {W : WX} {pos p : Pos} {x : Str} {f : Addr} {fd : FuncData} {ps ks : List Str} {F : List D → HH → Rs D} {k n : Nat} {e : Expr} {es : List Expr} {kw kws : List Keyword} {fs fz : Sd → HH → Rs (List D)} {pm : List Nat} {dvs : List Value} {dfl : List D} {dV : List V}
/-- what a call must know of the def -/
structure Callee (X : Cx) (G : Gr) (k : Nat) (x : Str) (f : Addr) (fd : FuncData) (ps : List Str) (F : List D → HH → Rs D) (dfl : List D) (dV : List V) (dvs : List Value) : Prop where
  fn : FnG X.prog X.w X.K X.mg X.base G k f fd ps F
  mg : X.mg x = some (.ref f)
  kp : PySem.W.keepIn X.K (.ref f) = true
  nd : (x == ("__debug__" : Str)) = false
  dv : Vals dV dvs
  dr : ∀ w H, RepVs G w H dfl dV
theorem d_knil : PK X [] (tDA G W fun _ H => .ok [] H) := ⟨fun po pins s σ H Q I h => pk_nil.run po pins s σ H Q I (by
  obtain ⟨w, Hd, sd, rel, rs, p⟩ := h
  exact p w H (Ext.refl _ _) rel [] .nil)⟩
theorem d_kcons {fa : Sd → HH → Rs D} {nm : Option Str} {kp : Pos} (he : PE X e (tD G W fa)) (hr : PK X kws (tDA G W fs)) : PK X (⟨nm, e, kp⟩ :: kws) (tDA G W fun s H => (fa s H).bind fun d H1 => (fs s H1).bind fun ds H2 => .ok (d :: ds) H2) :=
  ⟨fun po pins s σ H Q I h => (pk_cons he hr).run po pins s σ H Q I (by
    obtain ⟨w, Hd, sd, rel, rs, p⟩ := h
    refine seq rel rs p fun x Hd1 w1 H1 v e1 rel1 rs1 r1 p1 => ?_
    refine seq rel1 rs1 p1 fun xs Hd2 w2 H2 vs e2 rel2 rs2 r2 p2 => ?_
    exact p2 w2 H2 (Ext.refl _ _) rel2 _ (.cons (r1.ext e2) r2))⟩
/-- the callee runs -/
theorem run_g {pins : List (Addr × Obj)} {σ : L2.St} {H : Hp} {s : Shared} {Q : VK} {us ws : List Value} {vs zs : List V} {ds xs : List D} {w : Vw} {Hd : HH} (ok : Okx X G W) (C : Callee X G k x f fd ps F dfl dV dvs) (hr : Room k X.A) (hb : KBd X.K fd ps n ks pm dvs)
    (I : L2.Inv X pins σ H s) (r : Vals vs us) (rz : Vals zs ws) (l1 : us.length = n) (l2 : ws.length = ks.length) (rel : Rel G w Hd H) (rd : RepVs G w H ds vs) (rx : RepVs G w H xs zs)
    {l : List D} (hl : permL (ds ++ xs ++ dfl) pm = some l) (h : Post (RepV G) G w H (F l Hd) (wat W σ) Q) : wpAny (model X.prog X.w) X.A (call (.ref f) us (ks.zip ws)) (L2.EP X pins σ Q) X.xe s := by
  obtain ⟨zz, hz, hzl, hbd⟩ := hb s us ws I.kIn l1 l2
  obtain ⟨m, hm, rm⟩ := ((rd.append rx).append (C.dr w H)).perm hl
  have va : Vals (vs ++ zs ++ dV) (us ++ ws ++ dvs) := (r.append rz).append C.dv
  obtain ⟨m', hm', vm⟩ := permL_pair (F := L2.RelV) va hm
  rw [hz] at hm'
  cases hm'
  refine wpAny_call (codeAny_mono (C.fn X.A X.stack s H ⟨us, ks.zip ws⟩ zz m l w Hd Q (wat W σ) hr ok.gd I.env0 hbd vm hzl rel rm h) fun rr s' hq => ?_)
  cases rr with
  | error e => exact passAt ok.tk σ pins H s e s' I hq
  | ok fl => cases fl with
    | ret u => exact I.after hq
    | _ => exact False.elim hq
def callF (F : List D → HH → Rs D) (dfl : List D) (pm : List Nat) (ds zs : List D) (H : HH) : Rs D := match permL (ds ++ zs ++ dfl) pm with
  | some l => F l H
  | none => .no
theorem callF_post {w : Vw} {H : Hp} {Hd : HH} {E : XK} {Q : VK} {ds zs : List D} (h : Post (RepV G) G w H (callF F dfl pm ds zs Hd) E Q) : ∃ l, permL (ds ++ zs ++ dfl) pm = some l ∧ Post (RepV G) G w H (F l Hd) E Q := by
  unfold callF at h
  cases e : permL (ds ++ zs ++ dfl) pm with
  | none => rw [e] at h; exact h.elim
  | some l => rw [e] at h; exact ⟨l, rfl, h⟩
theorem kw_names {pos : Pos} {env : Env} : ∀ {kws : List Keyword}, kws.map (·.arg) = ks.map some → (backToKw pos (keywordEach kws env)).all (·.1.isSome) = true ∧ (backToKw pos (keywordEach kws env)).filterMap (·.1) = ks ∧ (backToKw pos (keywordEach kws env)).any (·.1.isNone) = false := by
  intro kws
  induction kws generalizing ks with
  | nil => intro h; cases ks with
    | nil => exact ⟨rfl, rfl, rfl⟩
    | cons => cases h
  | cons kwd kws ih =>
    intro h
    cases ks with
    | nil => cases h
    | cons k ks =>
      obtain ⟨nm, v, p⟩ := kwd
      simp only [List.map_cons, List.cons.injEq] at h
      obtain ⟨h1, h2⟩ := h
      subst h1
      obtain ⟨a, b, c⟩ := ih h2
      refine ⟨?_, ?_, ?_⟩
      · show (true && (backToKw pos (keywordEach kws env)).all (·.1.isSome)) = true
        rw [a] <;> rfl
      · show k :: (backToKw pos (keywordEach kws env)).filterMap (·.1) = k :: ks
        rw [b]
      · show (false || (backToKw pos (keywordEach kws env)).any (·.1.isNone)) = false
        rw [c] <;> rfl
theorem kw_len {zs : List V} {ws : List Value} (h : Vals zs ws) (l : zs.length = ks.length) : ws.length = ks.length := h.length.symm.trans l

/-- the values by names, then the call -/
theorem call_tail (ok : Okx X G W) (C : Callee X G k x f fd ps F dfl dV dvs) (hr : Room k X.A) (hb : KBd X.K fd ps n ks pm dvs)
    (hk : PK X kws (tDA G W fz)) (l2 : ∀ s H ds H1, fz s H = .ok ds H1 → ds.length = ks.length)
    {pins : List (Addr × Obj)} {σ : L2.St} {sd : Sd} {Q : VK} {ds : List D} {vs : List V} {us : List Value} {Hd1 : HH} {w1 : Vw} {H1 : Hp} {s1 : Shared} (hl : us.length = n) (rel1 : Rel G w1 Hd1 H1) (rs1 : RepS G w1 H1 sd σ) (r1 : RepVs G w1 H1 ds vs)
    (I1 : L2.Inv X pins σ H1 s1) (v1 : Vals vs us) (p1 : Post (RepV G) G w1 H1 ((fz sd Hd1).bind fun zs H2 => callF F dfl pm ds zs H2) (wat W σ) Q) :
    wpAny (model X.prog X.w) X.A (evalAll ((backToKw pos (keywordEach kws X.env)).map (·.2))) (fun ws s2 => X.K.In s2.heap ∧ wpAny (model X.prog X.w) X.A (call (.ref f) us (ks.zip ws)) (L2.EP X pins σ Q) X.xe s2) X.xe s1 := by
  have z : tDA G W fz σ H1 (fun zs H2 => zs.length = ks.length ∧ ∃ w2 Hd2 xs, Ext w1 w2 H1 H2 ∧ Rel G w2 Hd2 H2 ∧ RepVs G w2 H2 xs zs ∧ Post (RepV G) G w2 H2 (callF F dfl pm ds xs Hd2) (wat W σ) Q) :=
    seqQ rel1 rs1 p1 fun xs Hd2 w2 H2 zs e e2 rel2 rs2 r2 p2 => ⟨by rw [← r2.length]; exact l2 _ _ _ _ e, w2, Hd2, xs, e2, rel2, r2, p2⟩
  refine thn (hk.run pos pins s1 σ H1 _ I1 z) fun ws s2 ⟨zs, H2, I2, r2, hlz, w2, Hd2, xs, e2, rel2, rx, p2⟩ => ⟨I2.kIn, ?_⟩
  obtain ⟨l, hp, p3⟩ := callF_post p2
  exact run_g ok C hr hb I2 v1 r2 hl (kw_len r2 hlz) rel2 (r1.ext e2) rx hp p3
/-- no values by names -/
theorem call_tail0 (ok : Okx X G W) (C : Callee X G k x f fd ps F dfl dV dvs) (hr : Room k X.A) (hb : KBd X.K fd ps n [] pm dvs)
    {pins : List (Addr × Obj)} {σ : L2.St} {Q : VK} {ds : List D} {vs : List V} {us : List Value} {Hd1 : HH} {w1 : Vw} {H1 : Hp} {s1 : Shared} (hl : us.length = n) (rel1 : Rel G w1 Hd1 H1) (r1 : RepVs G w1 H1 ds vs)
    (I1 : L2.Inv X pins σ H1 s1) (v1 : Vals vs us) (p1 : Post (RepV G) G w1 H1 (callF F dfl pm ds [] Hd1) (wat W σ) Q) :
    wpAny (model X.prog X.w) X.A (call (.ref f) us) (L2.EP X pins σ Q) X.xe s1 := by
  obtain ⟨l, hp, p3⟩ := callF_post p1
  exact run_g (ks := []) (ws := []) ok C hr hb I1 v1 .nil hl rfl rel1 r1 .nil hp p3
theorem d_callG (ok : Okx X G W) (C : Callee X G k x f fd ps F dfl dV dvs) (hr : Room k X.A) (hg : Gl X x) (hb : KBd X.K fd ps n ks pm dvs) (hs : es.all notStar = true)
    (ha : PA X es (tDA G W fs)) (hk : PK X kws (tDA G W fz)) (hn : kws.map (·.arg) = ks.map some)
    (l1 : ∀ s H ds H1, fs s H = .ok ds H1 → ds.length = n) (l2 : ∀ s H ds H1, fz s H = .ok ds H1 → ds.length = ks.length)
    (e1 : es = [] → ∀ s H, fs s H = .ok [] H) (e2 : kws = [] → ∀ s H, fz s H = .ok [] H) :
    PE X (.Call (.Name x p) es kws pos) (tD G W fun s H => (fs s H).bind fun ds H1 => (fz s H1).bind fun zs H2 => callF F dfl pm ds zs H2) := by
  refine ⟨fun pins s σ H Q I h => ?_⟩
  obtain ⟨w, Hd, sd, rel, rs, q⟩ := h
  refine wpAny_Call_Name_kw (ld_glob I hg C.mg ?_ C.nd)
  obtain ⟨n1, n2, n3⟩ := kw_names (pos := pos) (env := X.env) hn
  cases es with
  | nil =>
    have q' : Post (RepV G) G w H ((fz sd Hd).bind fun zs H2 => callF F dfl pm [] zs H2) (wat W σ) Q := by
      have z : fs sd Hd = .ok [] Hd := e1 rfl sd Hd
      dsimp only at q
      rw [z] at q
      exact q
    have hn0 : n = 0 := (l1 sd Hd [] Hd (e1 rfl sd Hd)).symm
    cases kws with
    | nil =>
      have ek : ks = [] := by
        cases ks with
        | nil => rfl
        | cons => cases hn
      subst ek
      have z : fz sd Hd = .ok [] Hd := e2 rfl sd Hd
      rw [z] at q'
      exact PySem.W.callWith_K0 I.kIn C.kp (call_tail0 (us := []) (vs := []) (ds := []) ok C hr hb hn0.symm rel .nil I .nil q')
    | cons kwd kws =>
      refine PySem.W.callWith_KW0 (h₀ := X.base) I.ok.mod.kin C.kp n1 ?_ (by show (false || _) = false; rw [n3] <;> rfl)
      rw [n2]
      exact call_tail (us := []) (vs := []) (ds := []) ok C hr hb hk l2 hn0.symm rel rs .nil I .nil q'
  | cons e es =>
    have hs' := hs
    rw [List.all_cons, Bool.and_eq_true] at hs'
    have z : tDA G W fs σ H (fun vs H1 => vs.length = n ∧ ∃ w1 Hd1 ds, Rel G w1 Hd1 H1 ∧ RepS G w1 H1 sd σ ∧ RepVs G w1 H1 ds vs ∧ Post (RepV G) G w1 H1 ((fz sd Hd1).bind fun zs H2 => callF F dfl pm ds zs H2) (wat W σ) Q) :=
      seqQ rel rs q fun xs Hd2 w2 H2 zs e e2 rel2 rs2 r2 p2 => ⟨by rw [← r2.length]; exact l1 _ _ _ _ e, w2, Hd2, xs, rel2, rs2, r2, p2⟩
    cases kws with
    | nil =>
      have ek : ks = [] := by
        cases ks with
        | nil => rfl
        | cons => cases hn
      subst ek
      refine PySem.W.callWith_K (h₀ := X.base) I.ok.mod.kin C.kp (thn (ha.run pos pins s σ H _ I z) fun us s1 ⟨vs, H1, I1, r, hl, w1, Hd1, ds, rel1, rs1, r1, p1⟩ => ⟨I1.kIn, ?_⟩) (star_cons hs'.1) (star_plain hs'.2)
      have z : fz sd Hd1 = .ok [] Hd1 := e2 rfl sd Hd1
      rw [z] at p1
      exact call_tail0 ok C hr hb (r.length.symm.trans hl) rel1 r1 I1 r p1
    | cons kwd kws =>
      refine PySem.W.callWith_KW (h₀ := X.base) I.ok.mod.kin C.kp n1 (thn (ha.run pos pins s σ H _ I z) fun us s1 ⟨vs, H1, I1, r, hl, w1, Hd1, ds, rel1, rs1, r1, p1⟩ => ?_) (by
        rw [star_cons hs'.1]
        show ((false || (backTo pos (starEach es X.env)).any (·.1)) || _) = false
        rw [star_plain hs'.2, n3] <;> rfl) (star_cons hs'.1)
      rw [n2]
      exact call_tail ok C hr hb hk l2 (r.length.symm.trans hl) rel1 rs1 r1 I1 r p1
end
section
variable {G : Gr} {w w' : Vw} {H H' : Hp} {Hd Hd' : HH}
/-- nothing live: all that stands is others' -/
def Vw.nil (w : Vw) : Vw := ⟨w.mu, 0, w.L⟩
theorem nil_L {a : Addr} : w.nil.L a ↔ w.L a := ⟨fun h => h.elim (fun ⟨i, hi, _⟩ => absurd hi (Nat.not_lt_zero _)) id, fun h => .inr h⟩
theorem rel_nil (r : Rel G w Hd H) : Rel G w.nil [] H := ⟨rfl, fun i j h => absurd h (Nat.not_lt_zero _), fun i o h => by simp at h, fun a h => ⟨by
  obtain ⟨u, e⟩ := r.liveSome h
  rw [e]; simp, fun ⟨i, hi, _⟩ => absurd hi (Nat.not_lt_zero _)⟩⟩
theorem TupAt.out {a : Addr} {vs : List V} (h : TupAt G w H a vs) : TupAt G w.nil H a vs := by
  rcases h with ⟨h, r⟩ | h
  · exact .inl ⟨fun z => h (nil_L.mp z), r⟩
  · exact .inr h
theorem FzAt.out {a : Addr} {vs : List V} (h : FzAt G w H a vs) : FzAt G w.nil H a vs := by
  rcases h with ⟨h, r⟩ | h
  · exact .inl ⟨fun z => h (nil_L.mp z), r⟩
  · exact .inr h
mutual
theorem RepV.out : ∀ {d : D} {v : V}, noRef d = true → RepV G w H d v → RepV G w.nil H d v
  | _, _, _, .non => .non
  | _, _, _, .bl b => .bl b
  | _, _, _, .int i => .int i
  | _, _, _, .str x => .str x
  | _, _, n, .tup h r => by unfold noRef at n; exact .tup h.out (RepVs.out n r)
  | _, _, n, .lv h q r => by unfold noRef at n; exact .lv (fun z => h (nil_L.mp z)) q (RepVs.out n r)
  | _, _, n, .fz h r => by unfold noRef at n; exact .fz h.out (RepVs.out n r)
  | .ref _, _, n, _ => by unfold noRef at n; cases n
  | _, _, _, .cls c => .cls c
  | _, _, _, .ty n => .ty n
theorem RepVs.out : ∀ {d : List D} {v : List V}, noRefs d = true → RepVs G w H d v → RepVs G w.nil H d v
  | _, _, _, .nil => .nil
  | _, _, n, .cons h r => by
    unfold noRefs at n
    rw [Bool.and_eq_true] at n
    exact .cons (RepV.out n.1 h) (RepVs.out n.2 r)
end
/-- back: w' grew out of nothing beside w -/
structure Bk (G : Gr) (w w' : Vw) (H H' : Hp) : Prop where
  xx : ∀ a, w.L a → w'.xx a
  fresh : ∀ i, i < w'.n → ¬ w.L (w'.mu i)
theorem Bk.notL {a : Addr} (b : Bk G w w' H H') (h : ¬ w'.L a) : ¬ w.L a := fun z => h (.inr (b.xx a z))
theorem TupAt.back {a : Addr} {vs : List V} (b : Bk G w w' H H') (h : TupAt G w' H' a vs) : TupAt G w H' a vs := by
  rcases h with ⟨h, r⟩ | h
  · exact .inl ⟨b.notL h, r⟩
  · exact .inr h
theorem FzAt.back {a : Addr} {vs : List V} (b : Bk G w w' H H') (h : FzAt G w' H' a vs) : FzAt G w H' a vs := by
  rcases h with ⟨h, r⟩ | h
  · exact .inl ⟨b.notL h, r⟩
  · exact .inr h
mutual
theorem RepV.back (b : Bk G w w' H H') : ∀ {d : D} {v : V}, noRef d = true → RepV G w' H' d v → RepV G w H' d v
  | _, _, _, .non => .non
  | _, _, _, .bl b => .bl b
  | _, _, _, .int i => .int i
  | _, _, _, .str x => .str x
  | _, _, n, .tup h r => by unfold noRef at n; exact .tup (h.back b) (RepVs.back b n r)
  | _, _, n, .lv h q r => by unfold noRef at n; exact .lv (b.notL h) q (RepVs.back b n r)
  | _, _, n, .fz h r => by unfold noRef at n; exact .fz (h.back b) (RepVs.back b n r)
  | .ref _, _, n, _ => by unfold noRef at n; cases n
  | _, _, _, .cls c => .cls c
  | _, _, _, .ty n => .ty n
theorem RepVs.back (b : Bk G w w' H H') : ∀ {d : List D} {v : List V}, noRefs d = true → RepVs G w' H' d v → RepVs G w H' d v
  | _, _, _, .nil => .nil
  | _, _, n, .cons h r => by
    unfold noRefs at n
    rw [Bool.and_eq_true] at n
    exact .cons (RepV.back b n.1 h) (RepVs.back b n.2 r)
end
mutual
theorem frz_back (b : Bk G w w' H H') (rel : Rel G w' Hd' H') : ∀ (n : Nat) {d e : D} {v : V}, frzD Hd' n d = some e → RepV G w' H' d v → RepV G w H' e v ∧ noRef e = true
  | 0, _, _, _, h, _ => by simp [frzD] at h
  | n + 1, .ref r, e, v, h, rv => by
    cases rv with
    | ref hr =>
      obtain ⟨o, ho, q⟩ := rel.lt hr
      cases q with
      | lst h1 h2 =>
        simp only [frzD, ho] at h
        cases z : frzDs Hd' n _ with
        | none => rw [z] at h; cases h
        | some l =>
          rw [z] at h
          cases h
          obtain ⟨a, c⟩ := frzs_back b rel n z h2
          exact ⟨.lv (b.fresh r hr) h1 a, by unfold noRef; exact c⟩
      | dic h1 h2 => simp only [frzD, ho] at h; cases h
  | n + 1, .tup xs, e, v, h, rv => by
    cases rv with
    | tup t h2 =>
      simp only [frzD] at h
      cases z : frzDs Hd' n xs with
      | none => rw [z] at h; cases h
      | some l =>
        rw [z] at h
        cases h
        obtain ⟨a, c⟩ := frzs_back b rel n z h2
        exact ⟨.tup (t.back b) a, by unfold noRef; exact c⟩
  | n + 1, .lv xs, e, v, h, rv => by
    cases rv with
    | lv t q h2 =>
      simp only [frzD] at h
      cases z : frzDs Hd' n xs with
      | none => rw [z] at h; cases h
      | some l =>
        rw [z] at h
        cases h
        obtain ⟨a, c⟩ := frzs_back b rel n z h2
        exact ⟨.lv (b.notL t) q a, by unfold noRef; exact c⟩
  | n + 1, .non, e, v, h, rv => by cases h; exact ⟨rv.back b rfl, rfl⟩
  | n + 1, .bl _, e, v, h, rv => by cases h; exact ⟨rv.back b rfl, rfl⟩
  | n + 1, .int _, e, v, h, rv => by cases h; exact ⟨rv.back b rfl, rfl⟩
  | n + 1, .str _, e, v, h, rv => by cases h; exact ⟨rv.back b rfl, rfl⟩
  | n + 1, .fz xs, e, v, h, rv => by
    simp only [frzD] at h
    split at h
    · rename_i z; cases h; exact ⟨rv.back b z, z⟩
    · cases h
  | n + 1, .dv _ _, e, v, h, rv => by cases rv
  | n + 1, .sv _, e, v, h, rv => by cases rv
  | n + 1, .cls _, e, v, h, rv => by cases h; exact ⟨rv.back b rfl, rfl⟩
  | n + 1, .ty _, e, v, h, rv => by cases h; exact ⟨rv.back b rfl, rfl⟩
theorem frzs_back (b : Bk G w w' H H') (rel : Rel G w' Hd' H') : ∀ (n : Nat) {d e : List D} {v : List V}, frzDs Hd' n d = some e → RepVs G w' H' d v → RepVs G w H' e v ∧ noRefs e = true
  | 0, _, _, _, h, _ => by simp [frzDs] at h
  | n + 1, [], e, v, h, rv => by cases rv; simp only [frzDs] at h; cases h; exact ⟨.nil, rfl⟩
  | n + 1, d :: ds, e, v, h, rv => by
    cases rv with
    | cons r1 r2 =>
      simp only [frzDs] at h
      cases z1 : frzD Hd' n d with
      | none => rw [z1] at h; cases h
      | some a =>
        cases z2 : frzDs Hd' n ds with
        | none => rw [z1, z2] at h; cases h
        | some l =>
          rw [z1, z2] at h
          cases h
          obtain ⟨a1, c1⟩ := frz_back b rel n z1 r1
          obtain ⟨a2, c2⟩ := frzs_back b rel n z2 r2
          exact ⟨.cons a1 a2, by unfold noRefs; rw [c1, c2] <;> rfl⟩
end
/-- behind such a call the caller's live objects stand -/
theorem nil_after (r : Rel G w Hd H) (e : Ext w.nil w' H H') : Ext w w H H' ∧ Rel G w Hd H' ∧ Bk G w w' H H' := by
  have no : ∀ a, ¬ w.nil.O a := fun a ⟨i, hi, _⟩ => absurd hi (Nat.not_lt_zero _)
  have e1 : Ext w w H H' := ⟨Nat.le_refl _, fun _ _ => rfl, fun i h h' => absurd h' (by omega), fun a o _ h => e.keep a o (no a) h, e.there, fun _ h => .inl h, fun _ h => h⟩
  refine ⟨e1, ⟨r.n, r.inj, fun i o h => ?_, fun a h => ⟨e.there a (r.xx a h).1, (r.xx a h).2⟩⟩, e.xl, fun i hi z => ?_⟩
  · have q := r.obj i o h
    obtain ⟨u, hu⟩ := q.some_
    exact q.ext e1 (by rw [hu]; exact e.keep _ _ (no _) hu)
  · obtain ⟨u, hu⟩ := r.liveSome z
    have := e.fresh i (Nat.zero_le _) hi
    rw [hu] at this; cases this
end
def pcallF (F : List D → HH → Rs D) (dfl : List D) (pm : List Nat) (ds zs : List D) (H : HH) : Rs D := match permL (ds ++ zs ++ dfl) pm with
  | some l => match pcallD (fun _ => F) 0 l with
    | some (.inl d) => .ok d H
    | some (.inr e) => .ex e H
    | none => .no
  | none => .no
/-- the callee by itself keeps the promise of the pure call -/
theorem pure_post {G : Gr} {w : Vw} {H : Hp} {Hd : HH} {F : List D → HH → Rs D} {l : List D} {E : XK} {Q : VK} (rel : Rel G w Hd H)
    (h : Post (RepV G) G w H (match pcallD (fun _ => F) 0 l with | some (.inl d) => .ok d Hd | some (.inr e) => .ex e Hd | none => .no) E Q) : noRefs l = true ∧ Post (RepV G) G w.nil H (F l []) E Q := by
  unfold pcallD at h
  by_cases hn : noRefs l = true
  · rw [if_pos hn] at h
    refine ⟨hn, ?_⟩
    dsimp only at h
    generalize F l [] = r at h
    cases r with
    | no => exact h
    | ok d H1 =>
      intro w' H' e rel' v rv
      obtain ⟨e1, r1, b⟩ := nil_after rel e
      dsimp only at h
      by_cases hd : noRef d = true
      · rw [if_pos hd] at h
        exact h w H' e1 r1 v (rv.back b hd)
      · rw [if_neg hd] at h
        cases z : frzD H1 100000 d with
        | none => rw [z] at h; exact h.elim
        | some d' =>
          rw [z] at h
          exact h w H' e1 r1 v (frz_back b rel' _ z rv).1
    | ex x H1 =>
      intro w' H' e rel' c da rx
      obtain ⟨e1, r1, b⟩ := nil_after rel e
      obtain ⟨xc, fld⟩ := x
      cases fld with
      | none =>
        exact h w H' e1 r1 c da (by
          cases xc with
          | own k => exact rx
          | blt n => exact rx)
      | some d =>
        dsimp only at h
        by_cases hd : noRef d = true
        · rw [if_pos hd] at h
          refine h w H' e1 r1 c da ?_
          cases xc with
          | own k =>
            obtain ⟨a, a1, v, a2, a3, a4, a5⟩ := rx
            exact ⟨a, a1, v, a2, a3, b.notL a4, a5.back b hd⟩
          | blt n => exact rx
        · rw [if_neg hd] at h; exact h.elim
  · rw [if_neg hn] at h; exact h.elim

section
variable {X : Cx} {G : Gr} {W : WX} {pos p : Pos} {x : Str} {f : Addr} {fd : FuncData} {ps ks : List Str} {F : List D → HH → Rs D} {k n : Nat} {e : Expr} {es : List Expr} {kw kws : List Keyword} {fs fz : Sd → HH → Rs (List D)} {pm : List Nat} {dvs : List Value} {dfl : List D} {dV : List V}
theorem run_p {pins : List (Addr × Obj)} {σ : L2.St} {H : Hp} {s : Shared} {Q : VK} {us ws : List Value} {vs zs : List V} {ds xs : List D} {w : Vw} {Hd : HH} (ok : Okx X G W) (C : Callee X G k x f fd ps F dfl dV dvs) (hr : Room k X.A) (hb : KBd X.K fd ps n ks pm dvs)
    (I : L2.Inv X pins σ H s) (r : Vals vs us) (rz : Vals zs ws) (l1 : us.length = n) (l2 : ws.length = ks.length) (rel : Rel G w Hd H) (rd : RepVs G w H ds vs) (rx : RepVs G w H xs zs)
    (h : Post (RepV G) G w H (pcallF F dfl pm ds xs Hd) (wat W σ) Q) : wpAny (model X.prog X.w) X.A (call (.ref f) us (ks.zip ws)) (L2.EP X pins σ Q) X.xe s := by
  unfold pcallF at h
  cases hl : permL (ds ++ xs ++ dfl) pm with
  | none => rw [hl] at h; exact h.elim
  | some l =>
    rw [hl] at h
    obtain ⟨hn, h2⟩ := pure_post rel h
    obtain ⟨zz, hz, hzl, hbd⟩ := hb s us ws I.kIn l1 l2
    obtain ⟨m, hm, rm⟩ := ((rd.append rx).append (C.dr w H)).perm hl
    have va : Vals (vs ++ zs ++ dV) (us ++ ws ++ dvs) := (r.append rz).append C.dv
    obtain ⟨m', hm', vm⟩ := permL_pair (F := L2.RelV) va hm
    rw [hz] at hm'
    cases hm'
    refine wpAny_call (codeAny_mono (C.fn X.A X.stack s H ⟨us, ks.zip ws⟩ zz m l w.nil [] Q (wat W σ) hr ok.gd I.env0 hbd vm hzl (rel_nil rel) (rm.out hn) h2) fun rr s' hq => ?_)
    cases rr with
    | error e => exact passAt ok.tk σ pins H s e s' I hq
    | ok fl => cases fl with
      | ret u => exact I.after hq
      | _ => exact False.elim hq
theorem pcall_tail (ok : Okx X G W) (C : Callee X G k x f fd ps F dfl dV dvs) (hr : Room k X.A) (hb : KBd X.K fd ps n ks pm dvs)
    (hk : PK X kws (tDA G W fz)) (l2 : ∀ s H ds H1, fz s H = .ok ds H1 → ds.length = ks.length)
    {pins : List (Addr × Obj)} {σ : L2.St} {sd : Sd} {Q : VK} {ds : List D} {vs : List V} {us : List Value} {Hd1 : HH} {w1 : Vw} {H1 : Hp} {s1 : Shared} (hl : us.length = n) (rel1 : Rel G w1 Hd1 H1) (rs1 : RepS G w1 H1 sd σ) (r1 : RepVs G w1 H1 ds vs)
    (I1 : L2.Inv X pins σ H1 s1) (v1 : Vals vs us) (p1 : Post (RepV G) G w1 H1 ((fz sd Hd1).bind fun zs H2 => pcallF F dfl pm ds zs H2) (wat W σ) Q) :
    wpAny (model X.prog X.w) X.A (evalAll ((backToKw pos (keywordEach kws X.env)).map (·.2))) (fun ws s2 => X.K.In s2.heap ∧ wpAny (model X.prog X.w) X.A (call (.ref f) us (ks.zip ws)) (L2.EP X pins σ Q) X.xe s2) X.xe s1 := by
  have z : tDA G W fz σ H1 (fun zs H2 => zs.length = ks.length ∧ ∃ w2 Hd2 xs, Ext w1 w2 H1 H2 ∧ Rel G w2 Hd2 H2 ∧ RepVs G w2 H2 xs zs ∧ Post (RepV G) G w2 H2 (pcallF F dfl pm ds xs Hd2) (wat W σ) Q) :=
    seqQ rel1 rs1 p1 fun xs Hd2 w2 H2 zs e e2 rel2 rs2 r2 p2 => ⟨by rw [← r2.length]; exact l2 _ _ _ _ e, w2, Hd2, xs, e2, rel2, r2, p2⟩
  refine thn (hk.run pos pins s1 σ H1 _ I1 z) fun ws s2 ⟨zs, H2, I2, r2, hlz, w2, Hd2, xs, e2, rel2, rx, p2⟩ => ⟨I2.kIn, ?_⟩
  exact run_p ok C hr hb I2 v1 r2 hl (kw_len r2 hlz) rel2 (r1.ext e2) rx p2
theorem d_pcallG (ok : Okx X G W) (C : Callee X G k x f fd ps F dfl dV dvs) (hr : Room k X.A) (hg : Gl X x) (hb : KBd X.K fd ps n ks pm dvs) (hs : es.all notStar = true)
    (ha : PA X es (tDA G W fs)) (hk : PK X kws (tDA G W fz)) (hn : kws.map (·.arg) = ks.map some)
    (l1 : ∀ s H ds H1, fs s H = .ok ds H1 → ds.length = n) (l2 : ∀ s H ds H1, fz s H = .ok ds H1 → ds.length = ks.length)
    (e1 : es = [] → ∀ s H, fs s H = .ok [] H) (e2 : kws = [] → ∀ s H, fz s H = .ok [] H) :
    PE X (.Call (.Name x p) es kws pos) (tD G W fun s H => (fs s H).bind fun ds H1 => (fz s H1).bind fun zs H2 => pcallF F dfl pm ds zs H2) := by
  refine ⟨fun pins s σ H Q I h => ?_⟩
  obtain ⟨w, Hd, sd, rel, rs, q⟩ := h
  refine wpAny_Call_Name_kw (ld_glob I hg C.mg ?_ C.nd)
  obtain ⟨n1, n2, n3⟩ := kw_names (pos := pos) (env := X.env) hn
  cases es with
  | nil =>
    have q' : Post (RepV G) G w H ((fz sd Hd).bind fun zs H2 => pcallF F dfl pm [] zs H2) (wat W σ) Q := by
      have z : fs sd Hd = .ok [] Hd := e1 rfl sd Hd
      dsimp only at q
      rw [z] at q
      exact q
    have hn0 : n = 0 := (l1 sd Hd [] Hd (e1 rfl sd Hd)).symm
    cases kws with
    | nil =>
      have ek : ks = [] := by
        cases ks with
        | nil => rfl
        | cons => cases hn
      subst ek
      have z : fz sd Hd = .ok [] Hd := e2 rfl sd Hd
      rw [z] at q'
      exact PySem.W.callWith_K0 I.kIn C.kp (run_p (ks := []) (ws := []) (us := []) (vs := []) (ds := []) ok C hr hb I .nil .nil hn0.symm rfl rel .nil .nil q')
    | cons kwd kws =>
      refine PySem.W.callWith_KW0 (h₀ := X.base) I.ok.mod.kin C.kp n1 ?_ (by show (false || _) = false; rw [n3] <;> rfl)
      rw [n2]
      exact pcall_tail (us := []) (vs := []) (ds := []) ok C hr hb hk l2 hn0.symm rel rs .nil I .nil q'
  | cons e es =>
    have hs' := hs
    rw [List.all_cons, Bool.and_eq_true] at hs'
    have z : tDA G W fs σ H (fun vs H1 => vs.length = n ∧ ∃ w1 Hd1 ds, Rel G w1 Hd1 H1 ∧ RepS G w1 H1 sd σ ∧ RepVs G w1 H1 ds vs ∧ Post (RepV G) G w1 H1 ((fz sd Hd1).bind fun zs H2 => pcallF F dfl pm ds zs H2) (wat W σ) Q) :=
      seqQ rel rs q fun xs Hd2 w2 H2 zs e e2 rel2 rs2 r2 p2 => ⟨by rw [← r2.length]; exact l1 _ _ _ _ e, w2, Hd2, xs, rel2, rs2, r2, p2⟩
    cases kws with
    | nil =>
      have ek : ks = [] := by
        cases ks with
        | nil => rfl
        | cons => cases hn
      subst ek
      refine PySem.W.callWith_K (h₀ := X.base) I.ok.mod.kin C.kp (thn (ha.run pos pins s σ H _ I z) fun us s1 ⟨vs, H1, I1, r, hl, w1, Hd1, ds, rel1, rs1, r1, p1⟩ => ⟨I1.kIn, ?_⟩) (star_cons hs'.1) (star_plain hs'.2)
      have z : fz sd Hd1 = .ok [] Hd1 := e2 rfl sd Hd1
      rw [z] at p1
      exact run_p (ks := []) (ws := []) ok C hr hb I1 r .nil (r.length.symm.trans hl) rfl rel1 r1 .nil p1
    | cons kwd kws =>
      refine PySem.W.callWith_KW (h₀ := X.base) I.ok.mod.kin C.kp n1 (thn (ha.run pos pins s σ H _ I z) fun us s1 ⟨vs, H1, I1, r, hl, w1, Hd1, ds, rel1, rs1, r1, p1⟩ => ?_) (by
        rw [star_cons hs'.1]
        show ((false || (backTo pos (starEach es X.env)).any (·.1)) || _) = false
        rw [star_plain hs'.2, n3] <;> rfl) (star_cons hs'.1)
      rw [n2]
      exact pcall_tail ok C hr hb hk l2 (r.length.symm.trans hl) rel1 rs1 r1 I1 r p1
end
end DI
namespace DI
open PySem PySem.Spec PyProof.Rows L2
mutual
theorem same_eq : ∀ (a b : D), same a b = true → a = b
  | .non, b, h => by cases b <;> simp [same] at h <;> rfl
  | .bl x, b, h => by cases b <;> simp [same] at h; rw [h]
  | .int x, b, h => by cases b <;> simp [same] at h; rw [h]
  | .str x, b, h => by cases b <;> simp [same] at h; rw [h]
  | .tup xs, b, h => by cases b <;> simp only [same, Bool.false_eq_true] at h; rw [sames_eq _ _ h]
  | .lv xs, b, h => by cases b <;> simp only [same, Bool.false_eq_true] at h; rw [sames_eq _ _ h]
  | .fz xs, b, h => by cases b <;> simp only [same, Bool.false_eq_true] at h; rw [sames_eq _ _ h]
  | .dv ks vs, b, h => by
    cases b <;> simp only [same, Bool.false_eq_true, Bool.and_eq_true] at h
    rw [sames_eq _ _ h.1, sames_eq _ _ h.2]
  | .sv xs, b, h => by cases b <;> simp only [same, Bool.false_eq_true] at h; rw [sames_eq _ _ h]
  | .ref n, b, h => by cases b <;> simp [same] at h; rw [h]
  | .cls n, b, h => by cases b <;> simp [same] at h; rw [h]
  | .ty n, b, h => by cases b <;> simp [same] at h; rw [h]
theorem sames_eq : ∀ (a b : List D), sames a b = true → a = b
  | [], [], _ => rfl
  | [], _ :: _, h => by simp [sames] at h
  | _ :: _, [], h => by simp [sames] at h
  | a :: as, b :: bs, h => by
    simp only [sames, Bool.and_eq_true] at h
    rw [same_eq a b h.1, sames_eq as bs h.2]
end
mutual
theorem same_refl : ∀ a : D, same a a = true
  | .non => rfl
  | .bl x => by simp [same]
  | .int x => by simp [same]
  | .str x => by simp [same]
  | .tup xs => by simp only [same]; exact sames_refl xs
  | .lv xs => by simp only [same]; exact sames_refl xs
  | .fz xs => by simp only [same]; exact sames_refl xs
  | .dv ks vs => by simp only [same, sames_refl ks, sames_refl vs, Bool.and_self]
  | .sv xs => by simp only [same]; exact sames_refl xs
  | .ref n => by simp [same]
  | .cls n => by simp [same]
  | .ty n => by simp [same]
theorem sames_refl : ∀ a : List D, sames a a = true
  | [] => rfl
  | a :: as => by simp only [sames, same_refl a, sames_refl as, Bool.and_self]
end
theorem wipe_at (s : L2.St) (vs : List Nat) (j : Nat) : (L2.wipe s vs)[j]? = if j ∈ vs then (s[j]?).map (fun _ => none) else s[j]? := by
  induction vs with
  | nil => simp [L2.wipe]
  | cons v vs ih =>
    unfold L2.wipe
    rw [List.getElem?_set]
    by_cases h : v = j
    · subst h
      rw [if_pos rfl, if_pos List.mem_cons_self, L2.wipe_length]
      by_cases hl : v < s.length
      · rw [if_pos hl, List.getElem?_eq_getElem hl] <;> rfl
      · rw [if_neg hl, List.getElem?_eq_none (by omega)] <;> rfl
    · rw [if_neg h, ih]
      by_cases hm : j ∈ vs
      · rw [if_pos hm, if_pos (List.mem_cons_of_mem _ hm)]
      · rw [if_neg hm, if_neg (by simp only [List.mem_cons, not_or]; exact ⟨fun e => h e.symm, hm⟩)]
/-- but for the places vs the same -/
def Onl (s s' : L2.St) (vs : List Nat) : Prop := s'.length = s.length ∧ ∀ j, j ∉ vs → s'[j]? = s[j]?
theorem Onl.wipe {s s' : L2.St} {vs us : List Nat} (h : Onl s s' vs) (m : ∀ i ∈ vs, i ∈ us) : L2.wipe s' us = L2.wipe s us := by
  apply List.ext_getElem?
  intro j
  rw [wipe_at, wipe_at]
  by_cases hj : j ∈ us
  · rw [if_pos hj, if_pos hj]
    by_cases hl : j < s.length
    · rw [List.getElem?_eq_getElem hl, List.getElem?_eq_getElem (by rw [h.1]; exact hl)] <;> rfl
    · have := h.1
      rw [List.getElem?_eq_none (by omega), List.getElem?_eq_none (by omega)]
  · rw [if_neg hj, if_neg hj]
    exact h.2 j fun z => hj (m j z)
theorem wipe_idem (s : L2.St) (vs : List Nat) : L2.wipe (L2.wipe s vs) vs = L2.wipe s vs := by
  apply List.ext_getElem?
  intro j
  rw [wipe_at, wipe_at]
  by_cases hj : j ∈ vs
  · rw [if_pos hj, if_pos hj]
    cases s[j]? <;> rfl
  · rw [if_neg hj]
end DI
namespace DI
open PySem PySem.Spec PyProof.Rows L2
section
variable {prog : Program} {w : World} {A : Around} {E : Value → Shared → Prop} {s : Shared} {p : Addr} {xs : Array Value} {n j : Nat} {Q : List Value → Shared → Prop}
/-- the part of xs that the starred target takes, at j of n targets -/
def mids (l : List Value) (n j : Nat) : List Value := (l.drop j).take (l.length + 1 - n)
def lasts (l : List Value) (n j : Nat) : List Value := (l.drop j).drop (l.length + 1 - n)
theorem star_fin {it : Addr} {h1 : Heap} (hj : j < n) (hn : n ≤ xs.size + 1) (hz : xs.size ≤ sizeLine)
    (col : ∀ R : List Value → Shared → Prop, (∀ h2 tk, Heap.ExtBut s.heap.objs.size s.heap h2 → R (xs.toList.drop j) { s with heap := h2, toks := tk }) → wpAny (model prog w) A (collect (.ref it)) R E { s with heap := h1 })
    (h : ∀ h2 tk, Heap.ExtBut s.heap.objs.size s.heap h2 → Q (xs.toList.take j ++ [.ref h2.objs.size] ++ lasts xs.toList n j) { s with heap := h2.push { cls := .type "list", data := .seq (mids xs.toList n j).toArray }, toks := tk }) :
    wpAny (model prog w) A (do
      let rest ← holding (xs.toList.take j) (collect (.ref it))
      let after := n - 1 - j
      if rest.length < after then
        rule "unpack.star.too-few"
        raiseError "ValueError" s!"not enough values to unpack (expected at least {n - 1}, got {j + rest.length})"
      let mid := rest.length - after
      return xs.toList.take j ++ [← newList (rest.take mid)] ++ rest.drop mid) Q E { s with heap := h1 } := by
  refine wpAny_bind (wpAny_holding (col _ fun h2 tk he => ?_))
  have l1 : (xs.toList.drop j).length = xs.size - j := by rw [List.length_drop, Array.length_toList]
  have l2 : (xs.toList.drop j).length - (n - 1 - j) = xs.toList.length + 1 - n := by rw [l1, Array.length_toList]; omega
  dsimp only
  rw [if_neg (by rw [l1]; omega), l2]
  refine wpAny_bind (wpAny_newList (wpAny_pure (h h2 tk he)) (by
    show ((xs.toList.drop j).take (xs.toList.length + 1 - n)).length ≤ sizeLine
    rw [List.length_take, l1]; omega))
theorem star_tup (hh : A.handled = none) (ht : IsTup s.heap p xs) (hj : j < n) (hn : n ≤ xs.size + 1) (hz : xs.size ≤ sizeLine)
    (h : ∀ h2 tk, Heap.ExtBut s.heap.objs.size s.heap h2 → Q (xs.toList.take j ++ [.ref h2.objs.size] ++ lasts xs.toList n j) { s with heap := h2.push { cls := .type "list", data := .seq (mids xs.toList n j).toArray }, toks := tk }) :
    wpAny (model prog w) A (unpackItems (.ref p) n (some j)) Q E s := by
  have ne : p ≠ s.heap.objs.size := by obtain ⟨o, e, _⟩ := ht; exact Nat.ne_of_lt (Heap.lt_size e)
  unfold unpackItems
  refine wpAny_bind ?_
  unfold notIterableAtAll
  refine wpAny_bind (wpAny_specialOf ht.typeIs F.slot_tuple_iter.lookup (wpAny_pure ?_))
  simp only [Bool.false_eq_true, if_false]
  refine wpAny_bind (wpAny_holding (iter_tuple ht ?_))
  refine wpAny_bind (wpAny_holding (draw_tuple ne j 0 _ _ ⟨_, Heap.get?_push_size _ rfl, rfl, rfl⟩ (ht.push _) (by omega) fun h1 it1 sb1 => ?_))
  have t1 : IsTup h1 p xs := (ht.push _).extBut sb1.extBut ne
  rw [Nat.zero_add] at it1
  rw [List.drop_zero, if_neg (show ¬ ((xs.toList.take j).length < j) by rw [List.length_take, Array.length_toList]; omega)]
  have a1 : s.heap.objs.size < h1.objs.size := by obtain ⟨o, e, _⟩ := it1; exact Heap.lt_size e
  have a2 : p < h1.objs.size := by obtain ⟨o, e, _⟩ := t1; exact Heap.lt_size e
  refine star_fin (s := s) hj hn hz (fun R hR => ?_) h
  exact PySem.W.kun_collect (s := { s with heap := h1 }) (T := "tuple_iterator") (.inr (.inr (.inr rfl))) (Walks.tuple (A := A.in1) hh _ p ne xs) (fun i u st => st.1.typeIs) (k := j) (by omega) ⟨it1, t1⟩ a1 a2
    (fun h2 tk hk => hR h2 tk fun b o hb e => hk b o hb (sb1.extBut b o hb (Heap.get?_push_of_some _ e))) hz
theorem star_lst (hh : A.handled = none) (ht : s.heap.IsList p xs) (hj : j < n) (hn : n ≤ xs.size + 1) (hz : xs.size ≤ sizeLine)
    (h : ∀ h2 tk, Heap.ExtBut s.heap.objs.size s.heap h2 → Q (xs.toList.take j ++ [.ref h2.objs.size] ++ lasts xs.toList n j) { s with heap := h2.push { cls := .type "list", data := .seq (mids xs.toList n j).toArray }, toks := tk }) :
    wpAny (model prog w) A (unpackItems (.ref p) n (some j)) Q E s := by
  have ne : p ≠ s.heap.objs.size := by obtain ⟨o, e, _⟩ := ht; exact Nat.ne_of_lt (Heap.lt_size e)
  unfold unpackItems
  refine wpAny_bind ?_
  unfold notIterableAtAll
  refine wpAny_bind (wpAny_specialOf ht.typeIs F.slot_list_iter.lookup (wpAny_pure ?_))
  simp only [Bool.false_eq_true, if_false]
  refine wpAny_bind (wpAny_holding (wpAny_pyIter_list ht ?_))
  refine wpAny_bind (wpAny_holding (PySem.W.kun_draw ne j 0 _ _ ⟨_, Heap.get?_push_size _ rfl, rfl, rfl⟩ (ht.push _) (by omega) fun h1 it1 sb1 => ?_))
  have t1 : h1.IsList p xs := (ht.push _).extBut sb1.extBut ne
  rw [Nat.zero_add] at it1
  rw [List.drop_zero, if_neg (show ¬ ((xs.toList.take j).length < j) by rw [List.length_take, Array.length_toList]; omega)]
  have a1 : s.heap.objs.size < h1.objs.size := by obtain ⟨o, e, _⟩ := it1; exact Heap.lt_size e
  have a2 : p < h1.objs.size := by obtain ⟨o, e, _⟩ := t1; exact Heap.lt_size e
  refine star_fin (s := s) hj hn hz (fun R hR => ?_) h
  exact PySem.W.kun_collect (s := { s with heap := h1 }) (T := "list_iterator") (.inr (.inr (.inl rfl))) (Walks.list (A := A.in1) hh _ p ne xs) (fun i u st => st.1.typeIs) (k := j) (by omega) ⟨it1, t1⟩ a1 a2
    (fun h2 tk hk => hR h2 tk fun b o hb e => hk b o hb (sb1.extBut b o hb (Heap.get?_push_of_some _ e))) hz
end
/-- (a, *b, ..) = a tuple, a list -/
def gStar (K : PySem.W.Frag) (n j : Nat) (t : TGs) : TG := fun v σ H Q => ∃ a xs, v = .ref a ∧ (SqT K H a xs ∨ SqL K H a xs) ∧ n ≤ xs.length + 1 ∧
  ∀ D, H D = none → t (xs.take j ++ [.ref D] ++ (xs.drop j).drop (xs.length + 1 - n)) σ (upd H D (.lst ((xs.drop j).take (xs.length + 1 - n)))) Q
section
variable {X : Cx} {pos : Pos}
theorem vals_take {xs : List V} {us : List Value} (h : L2.Vals xs us) (k : Nat) : L2.Vals (xs.take k) (us.take k) := by
  induction h generalizing k with
  | nil => cases k <;> exact .nil
  | cons r t ih =>
    cases k with
    | zero => exact .nil
    | succ k => exact .cons r (ih k)
theorem pg_star {es : List Expr} {k : Nat} {t : TGs} {n j : Nat} (hc : X.calm = true) (h : PGs X es t) (hn : (assignEach es X.env).length = n) (hst : (assignEach es X.env).findIdx? (·.1) = some j) (hj : j < n) : PG X (.Tuple es k pos) (gStar X.K n j t) := by
  refine ⟨fun pins s σ H v u Q I r hw => ?_⟩
  obtain ⟨a, xs, rfl, hq, hl, hw⟩ := hw
  cases r
  have fin : ∀ (its : List Value), L2.Vals xs its → xs.length ≤ sizeLine → ∀ h2 tk, Heap.ExtBut s.heap.objs.size s.heap h2 → wpAny (model X.prog X.w) X.A (assignInOrder ((assignEach es X.env).map (·.2)) (its.take j ++ [.ref h2.objs.size] ++ lasts its n j))
      (fun _ s' => ∃ σ' H', L2.Inv X pins σ' H' s' ∧ Q σ' H') X.xe { s with heap := h2.push { cls := .type "list", data := .seq (mids its n j).toArray }, toks := tk } := fun its rv hz h2 tk he => by
    have e := rv.length
    have I1 : L2.Inv X pins σ H { s with heap := h2 } := I.kept (t' := s.toks) fun b o q => he b o (Nat.ne_of_lt (Heap.lt_size q)) q
    have m1 : L2.Vals ((xs.drop j).take (xs.length + 1 - n)) (mids its n j) := by unfold mids; rw [← e]; exact vals_take (rv.drop j) _
    have I2 := I1.lnew (t' := tk) m1 (by rw [List.length_take, List.length_drop]; omega)
    have v1 : L2.Vals (xs.take j ++ [V.ref h2.objs.size] ++ (xs.drop j).drop (xs.length + 1 - n)) (its.take j ++ [Value.ref h2.objs.size] ++ lasts its n j) := by
      unfold lasts
      rw [← e]
      exact ((vals_take rv j).append (.cons (show L2.RelV (V.ref _) (Value.ref _) from rfl) .nil)).append ((rv.drop j).drop _)
    exact h.run pins _ σ _ _ _ Q I2 v1 (hw _ (I1.hok.fresh (Nat.le_refl _)))
  rw [PyProof.Rows.assign_Tuple]
  refine wpAny_bind (wpAny_standAt ?_)
  unfold unpack
  rw [hn, hst]
  rcases hq with hq | hq
  · obtain ⟨its, rv, ht, hz⟩ := I.tuple hq
    exact wpAny_bind (wpAny_holding (star_tup (I.ok.hd hc) ht hj (by simpa [← rv.length] using hl) (by simpa [← rv.length] using hz) (by simpa using fin its rv hz)))
  · obtain ⟨its, rv, pl, hz⟩ := I.list hq
    exact wpAny_bind (wpAny_holding (star_lst (I.ok.hd hc) pl.isList hj (by simpa [← rv.length] using hl) (by simpa [← rv.length] using hz) (by simpa using fin its rv hz)))
theorem pgs_star {e : Expr} {es : List Expr} {t : TG} {u : TGs} {p : Pos} (h1 : PG X e t) (h2 : PGs X es u) : PGs X (.Starred e p :: es) (gCons t u) := by
  refine ⟨fun pins s σ H vs us Q I r h => ?_⟩
  obtain ⟨v, vr, rfl, h⟩ := h
  cases r with
  | cons r rr =>
    exact assignInOrder_cons (thn (h1.run pins s σ H _ _ _ I r h) fun _ s1 ⟨σ1, H1, I1, q1⟩ => h2.run pins s1 σ1 H1 _ _ Q I1 rr q1)
end
mutual
def tP (K : PySem.W.Frag) : T → TG
  | .nm i => gName i
  | .tp ts => match stIx ts with
    | none => fun v s H Q => gTup K (lenTs ts) (tPs K ts) v s H Q ∨ gLst K (lenTs ts) (tPs K ts) v s H Q
    | some j => gStar K (lenTs ts) j (tPs K ts)
def tPs (K : PySem.W.Frag) : Ts → TGs
  | .nil => gNil
  | .cons t r => gCons (tP K t) (tPs K r)
  | .st t r => gCons (tP K t) (tPs K r)
end
theorem PG.or {X : Cx} {e : Expr} {t u : TG} (h1 : PG X e t) (h2 : PG X e u) : PG X e (fun v s H Q => t v s H Q ∨ u v s H Q) :=
  ⟨fun pins s σ H v u Q I r h => h.elim (h1.run pins s σ H v u Q I r) (h2.run pins s σ H v u Q I r)⟩
theorem asTs_len : ∀ (ts : Ts) {ds : List D} {sd sd' : Sd}, stIx ts = none → asTs ts ds sd = some sd' → ds.length = lenTs ts
  | .nil, [], _, _, _, _ => rfl
  | .nil, _ :: _, _, _, _, h => by unfold asTs at h; cases h
  | .cons _ _, [], _, _, _, h => by unfold asTs at h; cases h
  | .st _ _, _, _, _, hs, _ => by cases hs
  | .cons t r, d :: ds, sd, sd', hs, h => by
    unfold asTs at h
    unfold stIx at hs
    cases z : asT t d sd with
    | none => rw [z] at h; cases h
    | some s1 =>
      rw [z] at h
      rw [List.length_cons, asTs_len r (by simpa using hs) h]
      rfl
/-- the starred one as a plain one -/
def flat : Ts → Ts
  | .nil => .nil
  | .cons t r => .cons t (flat r)
  | .st t r => .cons t (flat r)
def spr : Ts → List D → List D
  | .st _ r, xs => .lv (xs.take (xs.length - lenTs r)) :: xs.drop (xs.length - lenTs r)
  | .cons _ r, x :: xs => x :: spr r xs
  | _, xs => xs
theorem flat_no : ∀ ts : Ts, stIx (flat ts) = none
  | .nil => rfl
  | .cons _ r => by simp [flat, stIx, flat_no r]
  | .st _ r => by simp [flat, stIx, flat_no r]
theorem flat_id : ∀ ts : Ts, stIx ts = none → flat ts = ts
  | .nil, _ => rfl
  | .cons t r, h => by
    unfold stIx at h
    rw [flat, flat_id r (by simpa using h)]
  | .st _ _, h => by cases h
theorem flat_sl : ∀ ts : Ts, slTs (flat ts) = slTs ts
  | .nil => rfl
  | .cons t r => by simp only [flat, slTs, flat_sl r]
  | .st t r => by simp only [flat, slTs, flat_sl r]
theorem flat_tPs (K : PySem.W.Frag) : ∀ ts : Ts, tPs K (flat ts) = tPs K ts
  | .nil => rfl
  | .cons t r => by simp only [flat, tPs, flat_tPs K r]
  | .st t r => by simp only [flat, tPs, flat_tPs K r]
theorem as_spr : ∀ (ts : Ts) {ds : List D} {sd sd' : Sd} {j : Nat}, stIx ts = some j → asTs ts ds sd = some sd' → asTs (flat ts) (spr ts ds) sd = some sd' ∧ lenTs ts ≤ ds.length + 1 ∧ j < lenTs ts
  | .nil, _, _, _, _, hs, _ => by cases hs
  | .cons t r, [], sd, sd', j, hs, h => by unfold asTs at h; cases h
  | .cons t r, d :: ds, sd, sd', j, hs, h => by
    unfold asTs at h
    unfold stIx at hs
    cases e : stIx r with
    | none => rw [e] at hs; cases hs
    | some i =>
      rw [e] at hs
      cases hs
      cases z : asT t d sd with
      | none => rw [z] at h; cases h
      | some s1 =>
        rw [z] at h
        obtain ⟨h1, h2, h3⟩ := as_spr r e h
        refine ⟨?_, by simp only [lenTs, List.length_cons]; omega, by simp only [lenTs]; omega⟩
        simp only [flat, spr]
        unfold asTs
        rw [z]
        exact h1
  | .st t r, ds, sd, sd', j, hs, h => by
    cases hs
    unfold asTs at h
    split at h
    · rename_i hc
      refine ⟨?_, by simp only [lenTs]; omega, by simp only [lenTs]; omega⟩
      simp only [flat, spr, flat_id r hc.1]
      unfold asTs
      exact h
    · cases h
section
variable {G : Gr} {w : Vw} {H : Hp} {K : PySem.W.Frag} {Hd : HH}
/-- where the starred one's list lies -/
theorem spr_rep {p : Addr} : ∀ (ts : Ts) {ds : List D} {vs : List V} {j : Nat}, stIx ts = some j → lenTs ts ≤ ds.length + 1 → RepVs G w H ds vs → (∀ m, RepVs G w H m ((vs.drop j).take (vs.length + 1 - lenTs ts)) → RepV G w (upd H p (.lst ((vs.drop j).take (vs.length + 1 - lenTs ts)))) (.lv m) (.ref p)) →
    Ext w w H (upd H p (.lst ((vs.drop j).take (vs.length + 1 - lenTs ts)))) → RepVs G w (upd H p (.lst ((vs.drop j).take (vs.length + 1 - lenTs ts)))) (spr ts ds) (vs.take j ++ [.ref p] ++ (vs.drop j).drop (vs.length + 1 - lenTs ts))
  | .nil, _, _, _, hs, _, _, _, _ => by cases hs
  | .cons t r, [], _, j, hs, hl, h, hm, e => by
    unfold stIx at hs
    cases z : stIx r with
    | none => rw [z] at hs; cases hs
    | some i =>
      exfalso
      have : 0 < lenTs r := by cases r <;> first | (cases z; done) | (simp only [lenTs]; omega)
      simp only [lenTs, List.length_nil] at hl
      omega
  | .cons t r, d :: ds, _, j, hs, hl, .cons (v := v) (vs := vs) h1 h2, hm, e => by
    unfold stIx at hs
    cases z : stIx r with
    | none => rw [z] at hs; cases hs
    | some i =>
      rw [z] at hs
      cases hs
      simp only [lenTs, List.length_cons] at hl hm e ⊢
      have e1 : vs.length + 1 + 1 - (lenTs r + 1) = vs.length + 1 - lenTs r := by omega
      rw [e1] at hm e ⊢
      simp only [List.drop_succ_cons, List.take_succ_cons, List.cons_append] at hm e ⊢
      exact .cons (h1.ext e) (spr_rep r z (by omega) h2 hm e)
  | .st t r, ds, vs, j, hs, hl, h, hm, e => by
    cases hs
    have l := h.length
    simp only [lenTs] at hl hm e ⊢
    have e1 : vs.length + 1 - (lenTs r + 1) = ds.length - lenTs r := by omega
    rw [e1] at hm e ⊢
    simp only [List.drop_zero, List.take_zero, List.nil_append, List.singleton_append] at hm e ⊢
    exact .cons (hm _ (h.take _)) ((h.drop _).ext e)
mutual
theorem pat_ok (hK : G.K = K) (hx : G.exc = none) : ∀ (t : T) {d : D} {v : V} {sd sd' : Sd} {s : L2.St} {H : Hp} {Q : L2.St → Hp → Prop}, Rel G w Hd H → RepV G w H d v → RepS G w H sd s → asT t d sd = some sd' → (∀ H' s', Ext w w H H' → Rel G w Hd H' → RepS G w H' sd' s' → Onl s s' (slT t) → Q s' H') → tP K t v s H Q
  | .nm i, d, v, sd, sd', s, H, Q, rel, rv, rs, e, q => by
    unfold asT at e
    cases e
    unfold tP
    exact q _ _ (Ext.refl _ _) rel (rs.set hx i rv) ⟨by rw [List.length_set], fun j hj => by rw [List.getElem?_set_ne (by intro z; exact hj (by unfold slT; simp [z]))]⟩
  | .tp ts, d, v, sd, sd', s, H, Q, rel, rv, rs, e, q => by
    have go : ∀ {xs : List D} {vs : List V} {a : Addr}, RepVs G w H xs vs → asTs ts xs sd = some sd' → v = .ref a → (SqT K H a vs ∨ SqL K H a vs) → tP K (.tp ts) v s H Q := fun {xs vs a} r e hv hq => by
      unfold tP
      cases hs : stIx ts with
      | none =>
        have z := pats_ok hK hx ts (Q := Q) rel r rs (by rw [flat_id ts hs]; exact e) (fun H' s' a1 a2 a3 b => q H' s' a1 a2 a3 (by unfold slT; exact b))
        have hl : vs.length = lenTs ts := r.length.symm.trans (asTs_len ts hs e)
        rcases hq with hq | hq
        · exact .inl ⟨_, _, hv, hq, hl, z⟩
        · exact .inr ⟨_, _, hv, hq, hl, z⟩
      | some j =>
        obtain ⟨h1, h2, h3⟩ := as_spr ts hs e
        refine ⟨a, vs, hv, hq, by rw [← r.length]; exact h2, fun p hp => ?_⟩
        have e1 := ext_new rel hp (.lst ((vs.drop j).take (vs.length + 1 - lenTs ts)))
        have rr := spr_rep (p := p) ts hs h2 r (fun m hm => new_lv rel hp hm) e1
        exact pats_ok hK hx ts (Q := Q) (rel_new rel hp _) rr (rs.ext e1) h1 (fun H' s' a1 a2 a3 b => q H' s' (e1.trans a1) a2 a3 (by unfold slT; exact b))
    cases rv with
    | tup t r =>
      unfold asT at e
      exact go r e rfl (.inl (hK ▸ t.sq))
    | lv a b r =>
      unfold asT at e
      exact go r e rfl (.inr (SqL.of b))
    | _ => (unfold asT at e; cases e)
theorem pats_ok (hK : G.K = K) (hx : G.exc = none) : ∀ (t : Ts) {d : List D} {v : List V} {sd sd' : Sd} {s : L2.St} {H : Hp} {Q : L2.St → Hp → Prop}, Rel G w Hd H → RepVs G w H d v → RepS G w H sd s → asTs (flat t) d sd = some sd' → (∀ H' s', Ext w w H H' → Rel G w Hd H' → RepS G w H' sd' s' → Onl s s' (slTs t) → Q s' H') → tPs K t v s H Q
  | .nil, _, _, sd, sd', s, H, Q, rel, .nil, rs, e, q => by
    unfold flat asTs at e
    cases e
    unfold tPs
    exact ⟨rfl, q H s (Ext.refl _ _) rel rs ⟨rfl, fun _ _ => rfl⟩⟩
  | .nil, _, _, sd, sd', s, H, Q, rel, .cons _ _, rs, e, q => by unfold flat asTs at e; cases e
  | .cons t r, _, _, sd, sd', s, H, Q, rel, .nil, rs, e, q => by unfold flat asTs at e; cases e
  | .st t r, _, _, sd, sd', s, H, Q, rel, .nil, rs, e, q => by unfold flat asTs at e; cases e
  | .cons t r, d :: ds, _, sd, sd', s, H, Q, rel, .cons rv rr, rs, e, q => by
    unfold flat asTs at e
    cases z : asT t d sd with
    | none => rw [z] at e; cases e
    | some s1 =>
      rw [z] at e
      unfold tPs
      refine ⟨_, _, rfl, pat_ok hK hx t (Q := fun s' H' => tPs K r _ s' H' Q) rel rv rs z fun H1 s' a1 a2 a3 b => ?_⟩
      refine pats_ok hK hx r (Q := Q) a2 (rr.ext a1) a3 e fun H2 s2 c1 c2 c3 b2 => q H2 s2 (a1.trans c1) c2 c3 ⟨b2.1.trans b.1, fun j hj => ?_⟩
      unfold slTs at hj
      rw [List.mem_append, not_or] at hj
      exact (b2.2 j hj.2).trans (b.2 j hj.1)
  | .st t r, d :: ds, _, sd, sd', s, H, Q, rel, .cons rv rr, rs, e, q => by
    unfold flat asTs at e
    cases z : asT t d sd with
    | none => rw [z] at e; cases e
    | some s1 =>
      rw [z] at e
      unfold tPs
      refine ⟨_, _, rfl, pat_ok hK hx t (Q := fun s' H' => tPs K r _ s' H' Q) rel rv rs z fun H1 s' a1 a2 a3 b => ?_⟩
      refine pats_ok hK hx r (Q := Q) a2 (rr.ext a1) a3 e fun H2 s2 c1 c2 c3 b2 => q H2 s2 (a1.trans c1) c2 c3 ⟨b2.1.trans b.1, fun j hj => ?_⟩
      unfold slTs at hj
      rw [List.mem_append, not_or] at hj
      exact (b2.2 j hj.2).trans (b.2 j hj.1)
end
/-- a list, live or not, taken apart -/
theorem upk_ok (hK : G.K = K) (hx : G.exc = none) (ts : Ts) {xs : List D} {vs : List V} {a : Addr} {sd sd' : Sd} {s : L2.St} {H : Hp} {Q : L2.St → Hp → Prop} (rel : Rel G w Hd H) (r : RepVs G w H xs vs) (rs : RepS G w H sd s) (e : asTs ts xs sd = some sd') (hq : SqL K H a vs)
    (q : ∀ H' s', Ext w w H H' → Rel G w Hd H' → RepS G w H' sd' s' → Q s' H') : tP K (.tp ts) (.ref a) s H Q := by
  unfold tP
  cases hs : stIx ts with
  | none =>
    have z := pats_ok hK hx ts (Q := Q) rel r rs (by rw [flat_id ts hs]; exact e) (fun H' s' a1 a2 a3 _ => q H' s' a1 a2 a3)
    exact .inr ⟨_, _, rfl, hq, r.length.symm.trans (asTs_len ts hs e), z⟩
  | some j =>
    obtain ⟨h1, h2, h3⟩ := as_spr ts hs e
    refine ⟨a, vs, rfl, .inr hq, by rw [← r.length]; exact h2, fun p hp => ?_⟩
    have e1 := ext_new rel hp (.lst ((vs.drop j).take (vs.length + 1 - lenTs ts)))
    have rr := spr_rep (p := p) ts hs h2 r (fun m hm => new_lv rel hp hm) e1
    exact pats_ok hK hx ts (Q := Q) (rel_new rel hp _) rr (rs.ext e1) h1 (fun H' s' a1 a2 a3 _ => q H' s' (e1.trans a1) a2 a3)
end
end DI
namespace DI
open PySem PySem.Spec PyProof.Rows L2
/-- the signs of x, each in a new pair with its number -/
def Ites (x : Str) : It :=
  ⟨fun i _ => i < x.cps.size, fun i H v H' => ∃ T c, v = .ref T ∧ H T = none ∧ H' = upd H T (.tup [.int (i : Nat), .str ⟨#[c]⟩]) ∧ x.cps[i]? = some c, fun i _ => x.cps.size ≤ i⟩
def EsSt (x : Str) (t : Tok) (e it : Addr) (i : Nat) (h : Heap) : Prop := (∃ old, IsEnum h e it ((i : Nat) : Int) old) ∧ h.IsStrIter it (strIterType x) x t i ∧ e ≠ it ∧ i ≤ x.cps.size
theorem turn_enumS {P : Program} {w : World} {K : PySem.W.Frag} {elts : List Expr} {kk : Nat} {tpos : Pos} (x : Str) (t : Tok) (e it : Addr) :
    Turn P w K (.Tuple elts kk tpos) (Ites x) [e, it] e (EsSt x t e it) where
  mem := by simp
  obj := fun i h st b hb => by
    obtain ⟨⟨old, he⟩, ⟨o, ho, hc, hd⟩, _⟩ := st
    have e' : b = e ∨ b = it := by simpa using hb
    rcases e' with z | z
    · rw [z]; exact ⟨_, he, fun v q => nomatch q⟩
    · rw [z]; exact ⟨o, ho, fun v q => by rw [hd] at q; cases q⟩
  keep := fun i h h' st k => let ⟨⟨old, he⟩, hi, hne, hle⟩ := st; ⟨⟨old, k e (by simp) _ he⟩, let ⟨o, q, r⟩ := hi; ⟨o, k it (by simp) o q, r⟩, hne, hle⟩
  item := by
    intro X hP hw hK hc i pins s σ H E I hf st hg
    subst hP hw hK
    obtain ⟨⟨old, he⟩, hit, hne, hle⟩ := st
    have hlt : i < x.cps.size := hg
    have hel : e < s.heap.objs.size := Heap.lt_size he
    have hil : it < s.heap.objs.size := by obtain ⟨_, q, _⟩ := hit; exact Heap.lt_size q
    refine wpAny_pyNext_enum_itemD (Draws.text (A := X.A.in1) (I.ok.hd hc) it x t) he hit hlt hne (by simpa using hne) fun y h' tk hP ho hit' hT hsz hk => ?_
    obtain ⟨c, u, hcx, rfl⟩ := hP
    refine ⟨_, rfl, wpAny_letOwnedTupleGo_enum (s := { s with heap := h', toks := tk + 1 }) ho fun h'' he' sb => ?_⟩
    have hT2 : h''.get? s.heap.objs.size = some { cls := .type "tuple", data := .seq #[.int i tk, .str ⟨#[c]⟩ u] } := (sb.2 _ (Nat.ne_of_gt hel)).trans hT
    have new : ObjOk X.prog X.w (upd H s.heap.objs.size (.tup [.int (i : Nat), .str ⟨#[c]⟩])) h'' s.heap.objs.size (.tup [.int (i : Nat), .str ⟨#[c]⟩]) :=
      ⟨by show 2 ≤ sizeLine; decide, [.int i tk, .str ⟨#[c]⟩ u], .cons ⟨_, rfl⟩ (.cons ⟨u, rfl⟩ .nil), ⟨_, hT2, rfl, _, rfl⟩⟩
    have I1 : Inv X pins σ (upd H s.heap.objs.size (.tup [.int (i : Nat), .str ⟨#[c]⟩])) { s with heap := h'', toks := tk + 1 } :=
      I.turnedNew (ch := [e, it]) (fun b ob hb q => (sb.2 b (fun z => hb (by simp [z]))).trans (hk b ob (fun z => hb (by simp [z])) (fun z => hb (by simp [z])) q)) hf (Nat.le_refl _) new
    refine ⟨.ref s.heap.objs.size, _, I1, rfl, ⟨_, c, rfl, I.hok.fresh (Nat.le_refl _), rfl, hcx⟩, ⟨⟨.str ⟨#[c]⟩ u, ?_⟩, let ⟨o, q, r⟩ := hit'; ⟨o, (sb.2 it (Ne.symm hne)).trans q, r⟩, hne, hlt⟩, fun b hb => ?_⟩
    · have e1 : ((i + 1 : Nat) : Int) = (i : Int) + 1 := by omega
      rw [e1]; exact he'
    · have hb' : b < s.heap.objs.size := by
        have e' : b = e ∨ b = it := by simpa using hb
        rcases e' with z | z
        · rw [z]; exact hel
        · rw [z]; exact hil
      rw [upd_ne (Nat.ne_of_lt hb')]
      exact (hf b hb).1
  done := by
    intro X hP hw hK hc i pins s σ H E I hf st hg
    subst hP hw hK
    obtain ⟨⟨old, he⟩, hit, hne, hle⟩ := st
    have hge : x.cps.size ≤ i := hg
    have ei : i = x.cps.size := by omega
    subst ei
    obtain ⟨f0, f1, f2, f3, f4, f5⟩ := hf it (by simp)
    exact wpAny_pyNext_enum_endD (Draws.text (A := X.A.in1) (I.ok.hd hc) it x t) he hit fun h' eb => ⟨rfl, I.turned (t' := s.toks) (fun b o hb q => eb b o hb q) f0 f1 f3 f4 f5⟩
  self := fun A i s Q E st h => let ⟨⟨_, he⟩, _⟩ := st; wpAny_pyIter_enum he h
def iEnum2 (K : PySem.W.Frag) (ta : TA) : TI := fun σ H R => ta σ H fun vs H1 => (∃ a xs, vs = [.ref a] ∧ SqL K H1 a xs ∧ R (Ite K a) H1) ∨ ∃ x, vs = [.str x] ∧ R (Ites x) H1
theorem pi_enum2 {X : Cx} {e : Expr} {ta : TA} {p pos tpos : Pos} {elts : List Expr} {kk : Nat} (hg : Gl X "enumerate") (hm : X.mg "enumerate" = none) (ha : PA X [e] ta) (hs : starEach [e] X.env = [(false, eval e X.env)] := by rfl) :
    PI X (.Tuple elts kk tpos) (.Call (.Name "enumerate" p) [e] [] pos) (iEnum2 X.K ta) := by
  refine ⟨fun pins s σ H R I h => ?_⟩
  refine Call_ (ld_blt I hg hm boot_enumerate (PyProof.Rows.callWith_type1 (thn (ha.run pos pins s σ H _ I h) fun us s1 ⟨vs, H1, I1, r1, q1⟩ => ?_) hs rfl))
  have ground : ∀ b, b ∈ [s1.heap.objs.size + 1, s1.heap.objs.size] → s1.heap.objs.size ≤ b := fun b hb => by
    have e' : b = s1.heap.objs.size + 1 ∨ b = s1.heap.objs.size := by simpa using hb
    rcases e' with z | z
    · rw [z]; exact Nat.le_add_right _ _
    · rw [z]; exact Nat.le_refl _
  rcases q1 with ⟨a, xs, ex, hq, q⟩ | ⟨x, ex, q⟩
  · subst ex
    cases r1 with
    | cons r rr =>
      cases rr
      cases r
      obtain ⟨its, rv, p', hz⟩ := I1.list hq
      refine call_enumerate_list p'.isList fun h' he hit hsz hk => wpAny_pyIter_enum he ?_
      have I2 : Inv X pins σ H1 { s1 with heap := h' } := I1.kept (t' := s1.toks) hk
      exact ⟨s1.heap.objs.size + 1, [s1.heap.objs.size + 1, s1.heap.objs.size], _, _, H1, rfl, I2, turn_enum a (s1.heap.objs.size + 1) s1.heap.objs.size, ⟨⟨.none, he⟩, hit, Nat.succ_ne_self _⟩, fun b hb => I1.fpOk (ground b hb) (I1.hok.fresh (ground b hb)), q⟩
  · subst ex
    cases r1 with
    | cons r rr =>
      cases rr
      obtain ⟨t, rfl⟩ := r
      refine call_enumerate_str fun h' he hit hsz hk => wpAny_pyIter_enum he ?_
      have I2 : Inv X pins σ H1 { s1 with heap := h' } := I1.kept (t' := s1.toks) hk
      exact ⟨s1.heap.objs.size + 1, [s1.heap.objs.size + 1, s1.heap.objs.size], _, _, H1, rfl, I2, turn_enumS x t (s1.heap.objs.size + 1) s1.heap.objs.size, ⟨⟨.none, he⟩, hit, Nat.succ_ne_self _, Nat.zero_le _⟩, fun b hb => I1.fpOk (ground b hb) (I1.hok.fresh (ground b hb)), q⟩
end DI
namespace DI
open PySem PySem.Spec PyProof.Rows L2
open AutoSeq1 (wpAny_loadPart')
theorem Draws_tuple {prog : Program} {w : World} {A : Around} (hh : A.handled = none) (it l : Addr) (hne : l ≠ it) (items : Array Value) :
    Draws prog w A it [it, l] items.size (fun i v => items[i]? = some v) (fun i h => h.IsTupleIter it l i ∧ h.IsTuple l items) where
  live := fun _ _ st => let ⟨o, ho, _⟩ := st.1; ⟨o, ho⟩
  frame := fun _ _ _ st hk => ⟨st.1.at fun o e => hk it (by simp) o e, let ⟨o, ho, r⟩ := st.2; ⟨o, hk l (by simp) o ho, r⟩⟩
  item := fun i s Q E hi st hQ => by
    refine RZ.nextOf_tuple_item st.1 st.2 (x := items[i]) (by simp [hi]) fun h' hit' hs' => ?_
    exact hQ _ h' s.toks (by simp [hi]) ⟨hit', st.2.extBut hs'.extBut hne⟩ hs'
  done := fun s Q E st hE => RZ.nextOf_tuple_end hh st.1 st.2 (by simp) hE
theorem Draws_end {prog : Program} {w : World} {A : Around} (hh : A.handled = none) (it l : Addr) (items : Array Value) (n : Nat) (hn : items[n]? = none) :
    Draws prog w A it [it, l] n (fun _ _ => True) (fun i h => h.IsTupleIter it l i ∧ h.IsTuple l items ∧ i = n) where
  live := fun _ _ st => let ⟨o, ho, _⟩ := st.1; ⟨o, ho⟩
  frame := fun _ _ _ st hk => ⟨st.1.at fun o e => hk it (by simp) o e, (let ⟨o, ho, r⟩ := st.2.1; ⟨o, hk l (by simp) o ho, r⟩), st.2.2⟩
  item := fun i s Q E hi st hQ => absurd st.2.2 (by omega)
  done := fun s Q E st hE => RZ.nextOf_tuple_end hh st.1 st.2.1 hn hE
theorem meets_enumT (l : Addr) (items : Array Value) (n : Nat) (dct : Option Addr) (sl : Array (Option Value)) :
    Meets (Builtin.«enumerate.__new__» ⟨[.type "enumerate", .ref l], []⟩) (fun _ R s => s.heap.get? l = some { cls := .type "tuple", dict := dct, data := .seq items n, slots := sl } ∧
      R (.ok (.ret (.ref (s.heap.push { cls := .type "tuple_iterator", data := .fields #[.ref l, .int 0 0] }).objs.size)))
        { s with heap := (s.heap.push { cls := .type "tuple_iterator", data := .fields #[.ref l, .int 0 0] }).push { cls := .type "enumerate", data := .fields #[.none, .bool false, .ref s.heap.objs.size, rawInt 0, .none, .none] } }) :=
  .of_wp fun prog w A R s h => by
    obtain ⟨hp, g, d, tk, os⟩ := s; obtain ⟨hl, h⟩ := h
    have hsub := sub_enumerate
    have hL : Heap.IsTuple (Shared.heap ⟨hp, g, d, tk, os⟩) l items := ⟨_, hl, rfl, n, rfl⟩
    wp_walk using wpAny_loadPart' hl
    refine wpAny_stack_any fun st => wpAny_pure ?_
    split
    · rename_i c _ _ _ _ _
      cases (c == Value.type "enumerate")
      · wp_walk using wpAny_loadPart' hl, wpAny_pyIter_tuple hL
        exact ⟨_, rfl, h⟩
      · wp_walk using wpAny_loadPart' hl, wpAny_pyIter_tuple hL
        exact ⟨_, rfl, h⟩
    · wp_walk using wpAny_loadPart' hl, wpAny_pyIter_tuple hL
      exact ⟨_, rfl, h⟩
section
variable {prog : Program} {w : World} {A : Around} {E : Value → Shared → Prop} {s : Shared}
theorem call_enumT {l : Addr} {items : Array Value} {Q : Value → Shared → Prop} (hL : s.heap.IsTuple l items)
    (h : ∀ h', IsEnum h' (s.heap.objs.size + 1) s.heap.objs.size 0 .none → h'.IsTupleIter s.heap.objs.size l 0 → h'.objs.size = s.heap.objs.size + 2 →
      (∀ b o, s.heap.get? b = some o → h'.get? b = some o) → Q (.ref (s.heap.objs.size + 1)) { s with heap := h' }) :
    wpAny (model prog w) A (call (.type "enumerate") [.ref l]) Q E s := by
  obtain ⟨⟨c, dct, dt, sl⟩, hl, hc, n, hd⟩ := hL
  replace hc : c = .type "tuple" := hc
  replace hd : dt = .seq items n := hd
  subst hc hd
  refine callType_new F.called_enumerate (by decide) (F.typeCall_enumerate_1 _) (F.newCall_enumerate_1 _) (fun obj => F.args_object_init_2 obj _) F.entry_enumerate_new
    (meets_enumT l items n dct sl) ⟨hl, ?_⟩
  have hz : (s.heap.push { cls := .type "tuple_iterator", data := .fields #[.ref l, .int 0 0] }).objs.size = s.heap.objs.size + 1 := Heap.size_push ..
  show _ ∧ _
  rw [hz]
  have he : IsEnum ((s.heap.push { cls := .type "tuple_iterator", data := .fields #[.ref l, .int 0 0] }).push
      { cls := .type "enumerate", data := .fields #[.none, .bool false, .ref s.heap.objs.size, rawInt 0, .none, .none] }) (s.heap.objs.size + 1) s.heap.objs.size 0 .none := by
    have := Heap.get?_push_size (s.heap.push { cls := .type "tuple_iterator", data := .fields #[.ref l, .int 0 0] })
      (o := { cls := .type "enumerate", data := .fields #[.none, .bool false, .ref s.heap.objs.size, rawInt 0, .none, .none] }) rfl
    rw [hz] at this; exact this
  refine ⟨⟨_, he, rfl⟩, h _ he ⟨_, Heap.get?_push_of_some _ (Heap.get?_push_size _ rfl), rfl, rfl⟩ (by rw [Heap.size_push, hz]) fun b o x => Heap.get?_push_of_some _ (Heap.get?_push_of_some _ x)⟩
end
/-- the tuple at a as it stands at each turn, each item in a new pair with its number -/
def Itet (K : PySem.W.Frag) (a : Addr) : It :=
  ⟨fun i H => ∃ (xs : List V) (x : V), SqT K H a xs ∧ xs[i]? = some x, fun i H v H' => ∃ T x, v = .ref T ∧ H T = none ∧ H' = upd H T (.tup [.int (i : Nat), x]) ∧ ∀ xs, SqT K H a xs → xs[i]? = some x, fun i H => ∃ xs : List V, SqT K H a xs ∧ xs.length ≤ i⟩
theorem turn_enumT {P : Program} {w : World} {K : PySem.W.Frag} {elts : List Expr} {kk : Nat} {tpos : Pos} (a e it : Addr) :
    Turn P w K (.Tuple elts kk tpos) (Itet K a) [e, it] e (fun i h => (∃ old, IsEnum h e it ((i : Nat) : Int) old) ∧ h.IsTupleIter it a i ∧ e ≠ it ∧ a ≠ it ∧ a ≠ e) where
  mem := by simp
  obj := fun i h st b hb => by
    obtain ⟨⟨old, he⟩, ⟨o, ho, hc, hd⟩, _⟩ := st
    have e' : b = e ∨ b = it := by simpa using hb
    rcases e' with z | z
    · rw [z]; exact ⟨_, he, fun v q => nomatch q⟩
    · rw [z]; exact ⟨o, ho, fun v q => by rw [hd] at q; cases q⟩
  keep := fun i h h' st k => let ⟨⟨old, he⟩, hi, hne⟩ := st; ⟨⟨old, k e (by simp) _ he⟩, hi.at fun o q => k it (by simp) o q, hne⟩
  item := by
    intro X hP hw hK hc i pins s σ H E I hf st hg
    subst hP hw hK
    obtain ⟨⟨old, he⟩, hit, hne, hai, hae⟩ := st
    obtain ⟨xs, x, hq, hx⟩ := hg
    obtain ⟨its, rv, p, hz⟩ := I.tuple hq
    obtain ⟨u, hu, ru⟩ := rv.get hx
    have hel : e < s.heap.objs.size := Heap.lt_size he
    have hil : it < s.heap.objs.size := by obtain ⟨_, q, _⟩ := hit; exact Heap.lt_size q
    have hlt : i < its.toArray.size := by
      have := (List.getElem?_eq_some_iff.mp hu).1
      simpa using this
    refine wpAny_pyNext_enum_itemD (Draws_tuple (A := X.A.in1) (I.ok.hd hc) it a hai its.toArray) he ⟨hit, p⟩ hlt hne (by simp; exact ⟨hne, fun z => hae z.symm⟩) fun y h' tk hP ho hit' hT hsz hk => ?_
    have hy : y = u := by
      have hP : its.toArray[i]? = some y := hP
      have : its[i]? = some y := by simpa using hP
      rw [hu] at this
      exact (Option.some.inj this).symm
    subst hy
    refine ⟨_, rfl, wpAny_letOwnedTupleGo_enum (s := { s with heap := h', toks := tk + 1 }) ho fun h'' he' sb => ?_⟩
    have hT2 : h''.get? s.heap.objs.size = some { cls := .type "tuple", data := .seq #[.int i tk, y] } := (sb.2 _ (Nat.ne_of_gt hel)).trans hT
    have new : ObjOk X.prog X.w (upd H s.heap.objs.size (.tup [.int (i : Nat), x])) h'' s.heap.objs.size (.tup [.int (i : Nat), x]) :=
      ⟨by show 2 ≤ sizeLine; decide, [.int i tk, y], .cons ⟨_, rfl⟩ (.cons ru .nil), ⟨_, hT2, rfl, _, rfl⟩⟩
    have I1 : Inv X pins σ (upd H s.heap.objs.size (.tup [.int (i : Nat), x])) { s with heap := h'', toks := tk + 1 } :=
      I.turnedNew (ch := [e, it]) (fun b ob hb q => (sb.2 b (fun z => hb (by simp [z]))).trans (hk b ob (fun z => hb (by simp [z])) (fun z => hb (by simp [z])) q)) hf (Nat.le_refl _) new
    refine ⟨.ref s.heap.objs.size, _, I1, rfl, ⟨_, x, rfl, I.hok.fresh (Nat.le_refl _), rfl, fun ys hy => by rw [I.tuple_inj hy hq]; exact hx⟩, ⟨⟨y, ?_⟩, hit'.1.at fun o q => (sb.2 it (Ne.symm hne)).trans q, hne, hai, hae⟩, fun b hb => ?_⟩
    · have e1 : ((i + 1 : Nat) : Int) = (i : Int) + 1 := by omega
      rw [e1]; exact he'
    · have hb' : b < s.heap.objs.size := by
        have e' : b = e ∨ b = it := by simpa using hb
        rcases e' with z | z
        · rw [z]; exact hel
        · rw [z]; exact hil
      rw [upd_ne (Nat.ne_of_lt hb')]
      exact (hf b hb).1
  done := by
    intro X hP hw hK hc i pins s σ H E I hf st hg
    subst hP hw hK
    obtain ⟨⟨old, he⟩, hit, hne, hai, hae⟩ := st
    obtain ⟨xs, hq, hx⟩ := hg
    obtain ⟨its, rv, p, hz⟩ := I.tuple hq
    obtain ⟨f0, f1, f2, f3, f4, f5⟩ := hf it (by simp)
    have hl := rv.length
    exact wpAny_pyNext_enum_endD (Draws_end (A := X.A.in1) (I.ok.hd hc) it a its.toArray i (by simp; omega)) he ⟨hit, p, rfl⟩ fun h' eb => ⟨rfl, I.turned (t' := s.toks) (fun b o hb q => eb b o hb q) f0 f1 f3 f4 f5⟩
  self := fun A i s Q E st h => let ⟨⟨_, he⟩, _⟩ := st; wpAny_pyIter_enum he h
def iEnum3 (K : PySem.W.Frag) (ta : TA) : TI := fun σ H R => ta σ H fun vs H1 => (∃ a xs, vs = [.ref a] ∧ SqL K H1 a xs ∧ R (Ite K a) H1) ∨ (∃ x, vs = [.str x] ∧ R (Ites x) H1) ∨ ∃ a xs, vs = [.ref a] ∧ SqT K H1 a xs ∧ R (Itet K a) H1
theorem pi_enum3 {X : Cx} {e : Expr} {ta : TA} {p pos tpos : Pos} {elts : List Expr} {kk : Nat} (hg : Gl X "enumerate") (hm : X.mg "enumerate" = none) (ha : PA X [e] ta) (hs : starEach [e] X.env = [(false, eval e X.env)] := by rfl) :
    PI X (.Tuple elts kk tpos) (.Call (.Name "enumerate" p) [e] [] pos) (iEnum3 X.K ta) := by
  refine ⟨fun pins s σ H R I h => ?_⟩
  refine Call_ (ld_blt I hg hm boot_enumerate (PyProof.Rows.callWith_type1 (thn (ha.run pos pins s σ H _ I h) fun us s1 ⟨vs, H1, I1, r1, q1⟩ => ?_) hs rfl))
  have ground : ∀ b, b ∈ [s1.heap.objs.size + 1, s1.heap.objs.size] → s1.heap.objs.size ≤ b := fun b hb => by
    have e' : b = s1.heap.objs.size + 1 ∨ b = s1.heap.objs.size := by simpa using hb
    rcases e' with z | z
    · rw [z]; exact Nat.le_add_right _ _
    · rw [z]; exact Nat.le_refl _
  rcases q1 with ⟨a, xs, ex, hq, q⟩ | ⟨x, ex, q⟩ | ⟨a, xs, ex, hq, q⟩
  · subst ex
    cases r1 with
    | cons r rr =>
      cases rr
      cases r
      obtain ⟨its, rv, p', hz⟩ := I1.list hq
      refine call_enumerate_list p'.isList fun h' he hit hsz hk => wpAny_pyIter_enum he ?_
      have I2 : Inv X pins σ H1 { s1 with heap := h' } := I1.kept (t' := s1.toks) hk
      exact ⟨s1.heap.objs.size + 1, [s1.heap.objs.size + 1, s1.heap.objs.size], _, _, H1, rfl, I2, turn_enum a (s1.heap.objs.size + 1) s1.heap.objs.size, ⟨⟨.none, he⟩, hit, Nat.succ_ne_self _⟩, fun b hb => I1.fpOk (ground b hb) (I1.hok.fresh (ground b hb)), q⟩
  · subst ex
    cases r1 with
    | cons r rr =>
      cases rr
      obtain ⟨t, rfl⟩ := r
      refine call_enumerate_str fun h' he hit hsz hk => wpAny_pyIter_enum he ?_
      have I2 : Inv X pins σ H1 { s1 with heap := h' } := I1.kept (t' := s1.toks) hk
      exact ⟨s1.heap.objs.size + 1, [s1.heap.objs.size + 1, s1.heap.objs.size], _, _, H1, rfl, I2, turn_enumS x t (s1.heap.objs.size + 1) s1.heap.objs.size, ⟨⟨.none, he⟩, hit, Nat.succ_ne_self _, Nat.zero_le _⟩, fun b hb => I1.fpOk (ground b hb) (I1.hok.fresh (ground b hb)), q⟩
  · subst ex
    cases r1 with
    | cons r rr =>
      cases rr
      cases r
      obtain ⟨its, rv, p', hz⟩ := I1.tuple hq
      have hlt : a < s1.heap.objs.size := by obtain ⟨o, ho, _⟩ := p'; exact Heap.lt_size ho
      refine call_enumT p' fun h' he hit hsz hk => wpAny_pyIter_enum he ?_
      have I2 : Inv X pins σ H1 { s1 with heap := h' } := I1.kept (t' := s1.toks) hk
      exact ⟨s1.heap.objs.size + 1, [s1.heap.objs.size + 1, s1.heap.objs.size], _, _, H1, rfl, I2, turn_enumT a (s1.heap.objs.size + 1) s1.heap.objs.size, ⟨⟨.none, he⟩, hit, Nat.succ_ne_self _, Nat.ne_of_lt hlt, Nat.ne_of_lt (Nat.lt_succ_of_lt hlt)⟩, fun b hb => I1.fpOk (ground b hb) (I1.hok.fresh (ground b hb)), q⟩
end DI
namespace DI
open PySem PySem.Spec PyProof.Rows L2
section
variable {G : Gr} {w w1 w2 : Vw} {H H1 H2 : Hp} {g : Gd} {xs ys : List D} {K : PySem.W.Frag}
/-- what stays while one walks -/
def GdP (G : Gr) (w1 : Vw) (H1 : Hp) (g : Gd) : Hp → Prop := fun H2 => ∃ w2 Hd2, Ext w1 w2 H1 H2 ∧ Rel G w2 Hd2 H2 ∧ gdOk g Hd2 = true
/-- what comes at a turn -/
def YdP (G : Gr) (w1 : Vw) (H1 : Hp) (g : Gd) (xs : List D) : Nat → Hp → V → Hp → Prop := fun i H2 x H3 => ∀ w2 Hd2, Ext w1 w2 H1 H2 → Rel G w2 Hd2 H2 → gdOk g Hd2 = true →
  Ext w2 w2 H2 H3 ∧ Rel G w2 Hd2 H3 ∧ ∃ d, xs[i]? = some d ∧ RepV G w2 H3 d x
def WlkR (G : Gr) : RR (List D × Gd) It := fun w1 H1 p J => Walk J p.1.length (GdP G w1 H1 p.2) (YdP G w1 H1 p.2 p.1)
abbrev tDI (G : Gr) (W : WX) (f : Sd → HH → Rs (List D × Gd)) : TI := tX (WlkR G) G W f
/-- a list, a tuple that is read as xs while the guard holds -/
def LsP (G : Gr) (K : PySem.W.Frag) (w1 : Vw) (H1 : Hp) (g : Gd) (a : Addr) (xs : List D) : Prop := ∀ w2 Hd2 H2, Ext w1 w2 H1 H2 → Rel G w2 Hd2 H2 → gdOk g Hd2 = true → ∃ vs, SqL K H2 a vs ∧ RepVs G w2 H2 xs vs
def TpP (G : Gr) (K : PySem.W.Frag) (w1 : Vw) (H1 : Hp) (g : Gd) (a : Addr) (xs : List D) : Prop := ∀ w2 Hd2 H2, Ext w1 w2 H1 H2 → Rel G w2 Hd2 H2 → gdOk g Hd2 = true → ∃ vs, SqT K H2 a vs ∧ RepVs G w2 H2 xs vs
theorem ls_lv (h : RepV G w1 H1 (.lv xs) (.ref a)) : LsP G K w1 H1 g a xs := by
  cases h with
  | lv h1 h2 h3 => exact fun w2 Hd2 H2 e _ _ => ⟨_, SqL.of (e.keep _ _ (Vw.notO h1) h2), h3.ext e⟩
theorem ls_fz (hK : G.K = K) (h : RepV G w1 H1 (.fz xs) (.ref a)) : LsP G K w1 H1 g a xs := by
  cases h with
  | fz h1 h3 => exact fun w2 Hd2 H2 e _ _ => ⟨_, hK ▸ (h1.ext e).sq, h3.ext e⟩
theorem tp_tup (hK : G.K = K) (h : RepV G w1 H1 (.tup xs) (.ref a)) : TpP G K w1 H1 g a xs := by
  cases h with
  | tup h1 h3 => exact fun w2 Hd2 H2 e _ _ => ⟨_, hK ▸ (h1.ext e).sq, h3.ext e⟩
theorem gd_mem {g : Gd} {Hd : HH} {r : Nat} {xs : List D} (h : gdOk g Hd = true) (m : (r, xs) ∈ g) : Hd[r]? = some (.lst xs) := by
  unfold gdOk at h
  have z := List.all_eq_true.mp h _ m
  dsimp only at z
  split at z
  · rename_i ys e
    rw [e, sames_eq _ _ z]
  · cases z
theorem ls_ref {r : Nat} (hr : r < w1.n) (m : (r, xs) ∈ g) : LsP G K w1 H1 g (w1.mu r) xs := fun w2 Hd2 H2 e rel gd => by
  have z := rel.obj r _ (gd_mem gd m)
  cases z with
  | lst h1 h2 => exact ⟨_, SqL.of (by rw [← e.mu r hr]; exact h1), h2⟩
variable {a b : Addr}
theorem wk_list (h : LsP G K w1 H1 g a xs) : Walk (Itl K a) xs.length (GdP G w1 H1 g) (YdP G w1 H1 g xs) := by
  refine ⟨fun i H2 hi q => ?_, fun H2 q => ?_, fun i H2 x H3 hi q y w2 Hd2 e rel gd => ?_⟩
  · obtain ⟨w2, Hd2, e, rel, gd⟩ := q
    obtain ⟨vs, h1, h2⟩ := h w2 Hd2 H2 e rel gd
    have hl := h2.length
    exact ⟨vs, vs[i], h1, by simp [show i < vs.length by omega]⟩
  · obtain ⟨w2, Hd2, e, rel, gd⟩ := q
    obtain ⟨vs, h1, h2⟩ := h w2 Hd2 H2 e rel gd
    exact ⟨vs, h1, by rw [h2.length]; exact Nat.le_refl _⟩
  · obtain ⟨vs, h1, h2⟩ := h w2 Hd2 H2 e rel gd
    obtain ⟨e3, y⟩ := y
    subst e3
    have hx : xs[i]? = some xs[i] := List.getElem?_eq_getElem hi
    obtain ⟨v, hv, rv⟩ := h2.get hx
    rw [y vs h1] at hv
    cases hv
    exact ⟨Ext.refl _ _, rel, _, hx, rv⟩
theorem wk_tup (h : TpP G K w1 H1 g a xs) : Walk (Itt K a) xs.length (GdP G w1 H1 g) (YdP G w1 H1 g xs) := by
  refine ⟨fun i H2 hi q => ?_, fun H2 q => ?_, fun i H2 x H3 hi q y w2 Hd2 e rel gd => ?_⟩
  · obtain ⟨w2, Hd2, e, rel, gd⟩ := q
    obtain ⟨vs, h1, h2⟩ := h w2 Hd2 H2 e rel gd
    have hl := h2.length
    exact ⟨vs, vs[i], h1, by simp [show i < vs.length by omega]⟩
  · obtain ⟨w2, Hd2, e, rel, gd⟩ := q
    obtain ⟨vs, h1, h2⟩ := h w2 Hd2 H2 e rel gd
    exact ⟨vs, h1, by rw [h2.length]; exact Nat.le_refl _⟩
  · obtain ⟨vs, h1, h2⟩ := h w2 Hd2 H2 e rel gd
    obtain ⟨e3, y⟩ := y
    subst e3
    have hx : xs[i]? = some xs[i] := List.getElem?_eq_getElem hi
    obtain ⟨v, hv, rv⟩ := h2.get hx
    rw [y vs h1] at hv
    cases hv
    exact ⟨Ext.refl _ _, rel, _, hx, rv⟩
theorem wk_str {x : List Nat} : Walk (Its ⟨x.toArray⟩) (x.map fun c => D.str [c]).length (GdP G w1 H1 g) (YdP G w1 H1 g (x.map fun c => D.str [c])) := by
  refine ⟨fun i H2 hi q => ?_, fun H2 q => ?_, fun i H2 v H3 hi q y w2 Hd2 e rel gd => ?_⟩
  · rw [List.length_map] at hi
    show i < x.toArray.size
    simpa using hi
  · show x.toArray.size ≤ _
    simp
  · obtain ⟨e3, c, hc, rfl⟩ := y
    subst e3
    have hc' : x[i]? = some c := by simpa using hc
    exact ⟨Ext.refl _ _, rel, .str [c], by rw [List.getElem?_map, hc'] <;> rfl, .str [c]⟩
theorem wk_range {lo : Int} {n : Nat} : Walk (Itr lo n) ((List.range n).map fun (k : Nat) => D.int (lo + (k : Nat))).length (GdP G w1 H1 g) (YdP G w1 H1 g ((List.range n).map fun (k : Nat) => D.int (lo + (k : Nat)))) := by
  refine ⟨fun i H2 hi q => ?_, fun H2 q => ?_, fun i H2 v H3 hi q y w2 Hd2 e rel gd => ?_⟩
  · show i < n
    simpa using hi
  · show n ≤ _
    simp
  · obtain ⟨e3, rfl⟩ := y
    subst e3
    have hi : i < n := by simpa using hi
    exact ⟨Ext.refl _ _, rel, .int (lo + (i : Nat)), by rw [List.getElem?_map, List.getElem?_range hi] <;> rfl, .int _⟩
theorem wk_pair {J : It} {n : Nat} {zs : List D} (hgo : ∀ i H, i < n → GdP G w1 H1 g H → J.go i H) (hst : ∀ H, GdP G w1 H1 g H → J.stop n H) (hl : zs.length = n)
    (hy : ∀ i H2 v H3 w2 Hd2, i < n → J.yld i H2 v H3 → Ext w1 w2 H1 H2 → Rel G w2 Hd2 H2 → gdOk g Hd2 = true → ∃ T x y d e, v = .ref T ∧ H2 T = none ∧ H3 = upd H2 T (.tup [x, y]) ∧ RepV G w2 H2 d x ∧ RepV G w2 H2 e y ∧ zs[i]? = some (.tup [d, e])) :
    Walk J zs.length (GdP G w1 H1 g) (YdP G w1 H1 g zs) := by
  subst hl
  refine ⟨hgo, hst, fun i H2 v H3 hi q y w2 Hd2 e rel gd => ?_⟩
  obtain ⟨T, x, y', d, e', rfl, hT, rfl, r1, r2, hz⟩ := hy i H2 v H3 w2 Hd2 hi y e rel gd
  exact ⟨ext_new rel hT _, rel_new rel hT _, _, hz, new_tup rel hT (.cons r1 (.cons r2 .nil))⟩
theorem enumD_at {xs : List D} {i : Nat} {d : D} (h : xs[i]? = some d) : (enumD xs)[i]? = some (.tup [.int (i : Nat), d]) := by
  unfold enumD
  rw [List.getElem?_map, List.getElem?_zipIdx, h]
  simp
theorem zipD_at {xs ys : List D} {i : Nat} {d e : D} (h : xs[i]? = some d) (h2 : ys[i]? = some e) : (zipD xs ys)[i]? = some (.tup [d, e]) := by
  unfold zipD
  rw [List.getElem?_map]
  have : (xs.zip ys)[i]? = some (d, e) := List.getElem?_zip_eq_some.mpr ⟨h, h2⟩
  rw [this] <;> rfl
theorem wk_enum (h : LsP G K w1 H1 g a xs) : Walk (Ite K a) (enumD xs).length (GdP G w1 H1 g) (YdP G w1 H1 g (enumD xs)) := by
  refine wk_pair (n := xs.length) (fun i H2 hi q => ?_) (fun H2 q => ?_) (by unfold enumD; simp) fun i H2 v H3 w2 Hd2 hi y e rel gd => ?_
  · obtain ⟨w2, Hd2, e, rel, gd⟩ := q
    obtain ⟨vs, h1, h2⟩ := h w2 Hd2 H2 e rel gd
    have hl := h2.length
    exact ⟨vs, vs[i], h1, by simp [show i < vs.length by omega]⟩
  · obtain ⟨w2, Hd2, e, rel, gd⟩ := q
    obtain ⟨vs, h1, h2⟩ := h w2 Hd2 H2 e rel gd
    exact ⟨vs, h1, by rw [h2.length]; exact Nat.le_refl _⟩
  · obtain ⟨vs, h1, h2⟩ := h w2 Hd2 H2 e rel gd
    obtain ⟨T, x, rfl, hT, rfl, y⟩ := y
    have hx : xs[i]? = some xs[i] := List.getElem?_eq_getElem hi
    obtain ⟨v, hv, rv⟩ := h2.get hx
    rw [y vs h1] at hv
    cases hv
    exact ⟨T, _, _, .int (i : Nat), xs[i], rfl, hT, rfl, .int _, rv, enumD_at hx⟩
theorem wk_enumT (h : TpP G K w1 H1 g a xs) : Walk (Itet K a) (enumD xs).length (GdP G w1 H1 g) (YdP G w1 H1 g (enumD xs)) := by
  refine wk_pair (n := xs.length) (fun i H2 hi q => ?_) (fun H2 q => ?_) (by unfold enumD; simp) fun i H2 v H3 w2 Hd2 hi y e rel gd => ?_
  · obtain ⟨w2, Hd2, e, rel, gd⟩ := q
    obtain ⟨vs, h1, h2⟩ := h w2 Hd2 H2 e rel gd
    have hl := h2.length
    exact ⟨vs, vs[i], h1, by simp [show i < vs.length by omega]⟩
  · obtain ⟨w2, Hd2, e, rel, gd⟩ := q
    obtain ⟨vs, h1, h2⟩ := h w2 Hd2 H2 e rel gd
    exact ⟨vs, h1, by rw [h2.length]; exact Nat.le_refl _⟩
  · obtain ⟨vs, h1, h2⟩ := h w2 Hd2 H2 e rel gd
    obtain ⟨T, x, rfl, hT, rfl, y⟩ := y
    have hx : xs[i]? = some xs[i] := List.getElem?_eq_getElem hi
    obtain ⟨v, hv, rv⟩ := h2.get hx
    rw [y vs h1] at hv
    cases hv
    exact ⟨T, _, _, .int (i : Nat), xs[i], rfl, hT, rfl, .int _, rv, enumD_at hx⟩
theorem wk_enumS {x : List Nat} : Walk (Ites ⟨x.toArray⟩) (enumD (x.map fun c => D.str [c])).length (GdP G w1 H1 g) (YdP G w1 H1 g (enumD (x.map fun c => D.str [c]))) := by
  refine wk_pair (n := x.length) (fun i H2 hi q => ?_) (fun H2 q => ?_) (by unfold enumD; simp) fun i H2 v H3 w2 Hd2 hi y e rel gd => ?_
  · show i < x.toArray.size
    simpa using hi
  · show x.toArray.size ≤ _
    simp
  · obtain ⟨T, c, rfl, hT, rfl, hc⟩ := y
    have hc' : x[i]? = some c := by simpa using hc
    exact ⟨T, _, _, .int (i : Nat), .str [c], rfl, hT, rfl, .int _, .str [c], enumD_at (by rw [List.getElem?_map, hc'] <;> rfl)⟩
theorem wk_zip (h : LsP G K w1 H1 g a xs) (h' : LsP G K w1 H1 g b ys) : Walk (Itz K a b) (zipD xs ys).length (GdP G w1 H1 g) (YdP G w1 H1 g (zipD xs ys)) := by
  refine wk_pair (n := min xs.length ys.length) (fun i H2 hi q => ?_) (fun H2 q => ?_) (by unfold zipD; simp) fun i H2 v H3 w2 Hd2 hi y e rel gd => ?_
  · obtain ⟨w2, Hd2, e, rel, gd⟩ := q
    obtain ⟨vs, h1, h2⟩ := h w2 Hd2 H2 e rel gd
    obtain ⟨us, h1', h2'⟩ := h' w2 Hd2 H2 e rel gd
    have hl := h2.length
    have hl' := h2'.length
    exact ⟨vs, us, vs[i]'(by omega), us[i]'(by omega), h1, h1', by simp [show i < vs.length by omega], by simp [show i < us.length by omega]⟩
  · obtain ⟨w2, Hd2, e, rel, gd⟩ := q
    obtain ⟨vs, h1, h2⟩ := h w2 Hd2 H2 e rel gd
    obtain ⟨us, h1', h2'⟩ := h' w2 Hd2 H2 e rel gd
    have hl := h2.length
    have hl' := h2'.length
    exact ⟨vs, us, h1, h1', by omega⟩
  · obtain ⟨vs, h1, h2⟩ := h w2 Hd2 H2 e rel gd
    obtain ⟨us, h1', h2'⟩ := h' w2 Hd2 H2 e rel gd
    obtain ⟨T, x, z, rfl, hT, rfl, y, y'⟩ := y
    have hx : xs[i]? = some (xs[i]'(by omega)) := List.getElem?_eq_getElem (by omega)
    have hy : ys[i]? = some (ys[i]'(by omega)) := List.getElem?_eq_getElem (by omega)
    obtain ⟨v, hv, rv⟩ := h2.get hx
    obtain ⟨u, hu, ru⟩ := h2'.get hy
    rw [y vs h1] at hv
    rw [y' us h1'] at hu
    cases hv; cases hu
    exact ⟨T, _, _, _, _, rfl, hT, rfl, rv, ru, zipD_at hx hy⟩
theorem wk_zipT (h : TpP G K w1 H1 g a xs) (h' : TpP G K w1 H1 g b ys) : Walk (RZ.ItzT K a b) (zipD xs ys).length (GdP G w1 H1 g) (YdP G w1 H1 g (zipD xs ys)) := by
  refine wk_pair (n := min xs.length ys.length) (fun i H2 hi q => ?_) (fun H2 q => ?_) (by unfold zipD; simp) fun i H2 v H3 w2 Hd2 hi y e rel gd => ?_
  · obtain ⟨w2, Hd2, e, rel, gd⟩ := q
    obtain ⟨vs, h1, h2⟩ := h w2 Hd2 H2 e rel gd
    obtain ⟨us, h1', h2'⟩ := h' w2 Hd2 H2 e rel gd
    have hl := h2.length
    have hl' := h2'.length
    exact ⟨vs, us, vs[i]'(by omega), us[i]'(by omega), h1, h1', by simp [show i < vs.length by omega], by simp [show i < us.length by omega]⟩
  · obtain ⟨w2, Hd2, e, rel, gd⟩ := q
    obtain ⟨vs, h1, h2⟩ := h w2 Hd2 H2 e rel gd
    obtain ⟨us, h1', h2'⟩ := h' w2 Hd2 H2 e rel gd
    have hl := h2.length
    have hl' := h2'.length
    exact ⟨vs, us, h1, h1', by omega⟩
  · obtain ⟨vs, h1, h2⟩ := h w2 Hd2 H2 e rel gd
    obtain ⟨us, h1', h2'⟩ := h' w2 Hd2 H2 e rel gd
    obtain ⟨T, x, z, rfl, hT, rfl, y, y'⟩ := y
    have hx : xs[i]? = some (xs[i]'(by omega)) := List.getElem?_eq_getElem (by omega)
    have hy : ys[i]? = some (ys[i]'(by omega)) := List.getElem?_eq_getElem (by omega)
    obtain ⟨v, hv, rv⟩ := h2.get hx
    obtain ⟨u, hu, ru⟩ := h2'.get hy
    rw [y vs h1] at hv
    rw [y' us h1'] at hu
    cases hv; cases hu
    exact ⟨T, _, _, _, _, rfl, hT, rfl, rv, ru, zipD_at hx hy⟩
end
theorem PI.mono {X : Cx} {tg e : Expr} {t t' : TI} (h : PI X tg e t) (m : ∀ s H Q, t' s H Q → t s H Q) : PI X tg e t' := ⟨fun pins s σ H Q I q => h.run pins s σ H Q I (m _ _ _ q)⟩
theorem PI.or {X : Cx} {tg e : Expr} {t t' : TI} (h : PI X tg e t) (h' : PI X tg e t') : PI X tg e (fun s H Q => t s H Q ∨ t' s H Q) := ⟨fun pins s σ H Q I q => q.elim (h.run pins s σ H Q I) (h'.run pins s σ H Q I)⟩

/-- a list (a tuple) among the kinds of what may be walked -/
theorem items_ls {G : Gr} {K : PySem.W.Frag} {w : Vw} {Hd : HH} {H : Hp} {d : D} {v : V} {xs : List D} {g : Gd} (hK : G.K = K) (rel : Rel G w Hd H) (r : RepV G w H d v) (h : itemsD Hd d = some (xs, g)) (h1 : ∀ ys, d ≠ .tup ys) (h2 : ∀ ys, d ≠ .str ys) :
    ∃ a, v = .ref a ∧ (∃ vs, SqL K H a vs) ∧ ∀ g', (∀ p ∈ g, p ∈ g') → LsP G K w H g' a xs := by
  cases d with
  | lv ys =>
    cases h
    have r' := r
    cases r with
    | lv a b c => exact ⟨_, rfl, ⟨_, SqL.of b⟩, fun g' _ => ls_lv r'⟩
  | fz ys =>
    cases h
    have r' := r
    cases r with
    | fz a b => exact ⟨_, rfl, ⟨_, hK ▸ a.sq⟩, fun g' _ => ls_fz hK r'⟩
  | tup ys => exact absurd rfl (h1 ys)
  | str x => exact absurd rfl (h2 x)
  | ref n =>
    cases r with
    | ref hr =>
      obtain ⟨o, e, q⟩ := rel.lt hr
      simp only [itemsD, e] at h
      cases q with
      | lst h1 h2 =>
        cases h
        exact ⟨_, rfl, ⟨_, SqL.of h1⟩, fun g' m => ls_ref hr (m _ List.mem_cons_self)⟩
      | dic h1 h2 => cases h
  | _ => cases h
theorem items_tp {G : Gr} {K : PySem.W.Frag} {w : Vw} {Hd : HH} {H : Hp} {ys : List D} {v : V} {xs : List D} {g : Gd} (hK : G.K = K) (r : RepV G w H (.tup ys) v) (h : itemsD Hd (.tup ys) = some (xs, g)) :
    ∃ a, v = .ref a ∧ (∃ vs, SqT K H a vs) ∧ ∀ g', TpP G K w H g' a xs := by
  cases h
  have r' := r
  cases r with
  | tup a b => exact ⟨_, rfl, ⟨_, hK ▸ a.sq⟩, fun g' => tp_tup hK r'⟩
section
variable {X : Cx} {G : Gr} {W : WX} {pos p : Pos} {tg e e2 : Expr} {fa fb : Sd → HH → Rs D} {fs : Sd → HH → Rs (List D)}
theorem i_val (ok : Okx X G W) (ha : PE X e (tD G W fa)) : PI X tg e (tDI G W fun s H => (fa s H).bind fun d H1 => Rs.ofO (itemsD H1 d) H1) :=
  PI.mono (PI.or (pi_list ha) (PI.or (pi_tup ha) (pi_str ha))) fun s H R h => by
    obtain ⟨w, Hd, sd, rel, rs, p⟩ := h
    dsimp only at p
    cases hf : fa sd Hd with
    | no => rw [hf] at p; exact p.elim
    | ex x Hd1 =>
      rw [hf] at p
      exact Or.inl ⟨w, Hd, sd, rel, rs, by rw [hf]; exact p⟩
    | ok d Hd1 =>
      rw [hf] at p
      obtain ⟨⟨xs, g⟩, z, k1⟩ := ofO_post p
      by_cases h1 : ∃ ys, d = .tup ys
      · obtain ⟨ys, rfl⟩ := h1
        refine Or.inr (Or.inl ⟨w, Hd, sd, rel, rs, ?_⟩)
        rw [hf]
        intro w1 H1 e1 r1 v rv
        obtain ⟨a, e, hq, h⟩ := items_tp ok.K rv z
        exact ⟨a, e, hq, k1 w1 H1 e1 r1 _ (wk_tup (h g))⟩
      · by_cases h2 : ∃ ys, d = .str ys
        · obtain ⟨ys, rfl⟩ := h2
          refine Or.inr (Or.inr ⟨w, Hd, sd, rel, rs, ?_⟩)
          rw [hf]
          intro w1 H1 e1 r1 v rv
          cases rv
          cases z
          exact ⟨_, rfl, k1 w1 H1 e1 r1 _ wk_str⟩
        · refine Or.inl ⟨w, Hd, sd, rel, rs, ?_⟩
          rw [hf]
          intro w1 H1 e1 r1 v rv
          obtain ⟨a, e, hq, h⟩ := items_ls ok.K r1 rv z (fun ys e => h1 ⟨ys, e⟩) (fun ys e => h2 ⟨ys, e⟩)
          exact ⟨a, e, hq, k1 w1 H1 e1 r1 _ (wk_list (h g fun _ m => m))⟩

theorem i_range1 {a : Expr} (hg : Gl X "range") (hm : X.mg "range" = none) (hs : notStar a = true) (ha : PA X [a] (tDA G W fs)) : PI X tg (.Call (.Name "range" p) [a] [] pos) (tDI G W fun s H => (fs s H).bind fun ds H1 => Rs.ofO ((rangeD1 ds).map fun xs => (xs, [])) H1) :=
  PI.mono (pi_range1 hg hm ha (star_cons hs)) fun s H R h => by
    obtain ⟨w, Hd, sd, rel, rs, p⟩ := h
    refine seq rel rs p fun ds Hd1 w1 H1 vs e1 rel1 rs1 r1 p1 => ?_
    obtain ⟨q, z, k1⟩ := ofO_post p1
    unfold rangeD1 at z
    split at z
    · rename_i j
      split at z
      · rename_i hl
        cases z
        simp only [Bool.and_eq_true, decide_eq_true_iff] at hl
        cases r1 with
        | cons a b =>
          cases a; cases b
          refine ⟨j, rfl, hl.1, hl.2, k1 w1 H1 (Ext.refl _ _) rel1 _ ?_⟩
          have e : (fun (k : Nat) => D.int (k : Int)) = fun (k : Nat) => D.int (0 + (k : Nat)) := by funext k; rw [Int.zero_add]
          show Walk _ _ _ _
          dsimp only
          rw [e]
          exact wk_range
      · cases z
    · cases z
theorem i_range2 {a b : Expr} (hg : Gl X "range") (hm : X.mg "range" = none) (hs : notStar a = true) (hs2 : notStar b = true) (ha : PA X [a, b] (tDA G W fs)) : PI X tg (.Call (.Name "range" p) [a, b] [] pos) (tDI G W fun s H => (fs s H).bind fun ds H1 => Rs.ofO ((rangeD2 ds).map fun xs => (xs, [])) H1) :=
  PI.mono (pi_range2 hg hm ha (by rw [star_cons hs, star_cons hs2]; rfl) (star_cons hs2)) fun s H R h => by
    obtain ⟨w, Hd, sd, rel, rs, p⟩ := h
    refine seq rel rs p fun ds Hd1 w1 H1 vs e1 rel1 rs1 r1 p1 => ?_
    obtain ⟨q, z, k1⟩ := ofO_post p1
    unfold rangeD2 at z
    split at z
    · rename_i i j
      split at z
      · rename_i hl
        cases z
        simp only [Bool.and_eq_true, decide_eq_true_iff] at hl
        cases r1 with
        | cons a b =>
          cases a
          cases b with
          | cons a b =>
            cases a; cases b
            exact ⟨i, j, rfl, ⟨hl.1.1.1, hl.1.1.2, hl.1.2, hl.2⟩, k1 w1 H1 (Ext.refl _ _) rel1 _ wk_range⟩
      · cases z
    · cases z
/-- one argument -/
theorem a_one (hs : notStar e = true) (he : PE X e (tD G W fa)) : PA X [e] (tDA G W fun s H => (fa s H).bind fun d H1 => .ok [d] H1) :=
  PA.mono (d_cons hs he d_nil) fun s H Q h => by
    obtain ⟨w, Hd, sd, rel, rs, p⟩ := h
    exact ⟨w, Hd, sd, rel, rs, p⟩
theorem i_enum {elts : List Expr} {kk : Nat} {tpos : Pos} (ok : Okx X G W) (hg : Gl X "enumerate") (hm : X.mg "enumerate" = none) (hs : notStar e = true) (he : PE X e (tD G W fa)) :
    PI X (.Tuple elts kk tpos) (.Call (.Name "enumerate" p) [e] [] pos) (tDI G W fun s H => (fa s H).bind fun d H1 => Rs.ofO ((enD H1 d).map fun p => (enumD p.1, p.2)) H1) :=
  PI.mono (pi_enum3 hg hm (a_one hs he) (star_cons hs)) fun s H R h => by
    obtain ⟨w, Hd, sd, rel, rs, p⟩ := h
    refine ⟨w, Hd, sd, rel, rs, ?_⟩
    dsimp only at p ⊢
    cases hf : fa sd Hd with
    | no => rw [hf] at p; exact p.elim
    | ex x Hd1 => rw [hf] at p; exact p
    | ok d Hd1 =>
      rw [hf] at p
      obtain ⟨q, z, k1⟩ := ofO_post p
      intro w1 H1 e1 r1 vs rv
      cases rv with
      | cons ra rb =>
        cases rb
        by_cases hstr : ∃ x, d = .str x
        · obtain ⟨x, rfl⟩ := hstr
          cases z
          cases ra
          exact .inr (.inl ⟨_, rfl, k1 w1 H1 e1 r1 _ wk_enumS⟩)
        · by_cases htup : ∃ x, d = .tup x
          · obtain ⟨x, rfl⟩ := htup
            cases z
            have ra' := ra
            cases ra with
            | tup t h2 => exact .inr (.inr ⟨_, _, rfl, ok.K ▸ t.sq, k1 w1 H1 e1 r1 _ (wk_enumT (tp_tup ok.K ra'))⟩)
          have z2 : enD Hd1 d = lsD Hd1 d := by cases d <;> first | rfl | exact absurd ⟨_, rfl⟩ hstr | exact absurd ⟨_, rfl⟩ htup
          rw [z2] at z
          cases z0 : lsD Hd1 d with
          | none => rw [z0] at z; cases z
          | some q0 =>
            obtain ⟨xs, g⟩ := q0
            rw [z0] at z
            cases z
            have z1 : itemsD Hd1 d = some (xs, g) ∧ (∀ ys, d ≠ .tup ys) ∧ (∀ ys, d ≠ .str ys) := by
              cases d <;> first | exact ⟨z0, fun _ => nofun, fun _ => nofun⟩ | cases z0
            obtain ⟨a, e, ⟨vs, hq⟩, h⟩ := items_ls ok.K r1 ra z1.1 z1.2.1 z1.2.2
            subst e
            exact .inl ⟨a, vs, rfl, hq, k1 w1 H1 e1 r1 _ (wk_enum (h g fun _ m => m))⟩
theorem i_zip {elts : List Expr} {kk : Nat} {tpos : Pos} (ok : Okx X G W) (hg : Gl X "zip") (hm : X.mg "zip" = none) (hs : notStar e = true) (hs2 : notStar e2 = true) (ha : PE X e (tD G W fa)) (hb : PE X e2 (tD G W fb)) :
    PI X (.Tuple elts kk tpos) (.Call (.Name "zip" p) [e, e2] [] pos) (tDI G W fun s H => (fa s H).bind fun x H1 => (fb s H1).bind fun y H2 => Rs.ofO (zipI H2 x y) H2) :=
  PI.mono (RZ.pi_zipA hg hm (PA.mono (pa_cons ha (pa_cons hb pa_nil (star_cons hs2)) (star_cons hs)) (t' := tCons (tD G W fa) (tCons (tD G W fb) tNil)) fun _ _ _ h => h) (star_cons hs) (by rw [star_cons hs2]; rfl)) fun s H R h => by
    obtain ⟨w, Hd, sd, rel, rs, p⟩ := h
    refine seq rel rs p fun x Hd1 w1 H1 v e1 rel1 rs1 r1 p1 => ?_
    refine seq rel1 rs1 p1 fun y Hd2 w2 H2 u e2 rel2 rs2 r2 p2 => ?_
    obtain ⟨q, z, k1⟩ := ofO_post p2
    have r1 := r1.ext e2
    unfold zipI at z
    split at z
    · rename_i xs ys
      cases z
      obtain ⟨a, ea, ⟨vs, ha⟩, fa⟩ := items_tp ok.K r1 (Hd := Hd2) rfl
      obtain ⟨b, eb, ⟨us, hb⟩, fb⟩ := items_tp ok.K r2 (Hd := Hd2) rfl
      subst ea eb
      exact ⟨a, b, vs, us, rfl, Or.inr ⟨ha, hb, k1 w2 H2 (Ext.refl _ _) rel2 _ (wk_zipT (fa []) (fb []))⟩⟩
    · cases z1 : lsD Hd2 x with
      | none => rw [z1] at z; cases z
      | some q1 =>
        cases z2 : lsD Hd2 y with
        | none => rw [z1, z2] at z; cases z
        | some q2 =>
          obtain ⟨xs, g⟩ := q1
          obtain ⟨ys, g'⟩ := q2
          rw [z1, z2] at z
          cases z
          have i1 : itemsD Hd2 x = some (xs, g) ∧ (∀ ys, x ≠ .tup ys) ∧ (∀ ys, x ≠ .str ys) := by
            cases x <;> first | exact ⟨z1, fun _ => nofun, fun _ => nofun⟩ | cases z1
          have i2 : itemsD Hd2 y = some (ys, g') ∧ (∀ ys, y ≠ .tup ys) ∧ (∀ ys, y ≠ .str ys) := by
            cases y <;> first | exact ⟨z2, fun _ => nofun, fun _ => nofun⟩ | cases z2
          obtain ⟨a, ea, ⟨vs, ha⟩, fa⟩ := items_ls ok.K rel2 r1 i1.1 i1.2.1 i1.2.2
          obtain ⟨b, eb, ⟨us, hb⟩, fb⟩ := items_ls ok.K rel2 r2 i2.1 i2.2.1 i2.2.2
          subst ea eb
          exact ⟨a, b, vs, us, rfl, Or.inl ⟨ha, hb, k1 w2 H2 (Ext.refl _ _) rel2 _ (wk_zip (fa _ fun _ m => List.mem_append_left _ m) (fb _ fun _ m => List.mem_append_right _ m))⟩⟩
end
end DI
namespace DI
open PySem PySem.Spec PyProof.Rows L2
section
variable {X : Cx} {G : Gr} {W : WX} {pos p : Pos} {tg iter elt : Expr} {body : List Stmt} {fi : Sd → HH → Rs (List D × Gd)} {fb : Sd → HH → RS} {ft : Sd → HH → Rs Bool} {fe : Sd → HH → Rs D}
theorem fold_of {env : Env} (h : notSet iter = true) : ∀ x, foldedSetIterable iter env x = pure x := by
  intro x
  cases iter <;> first | rfl | (simp [notSet] at h; done)
theorem forL_gd {g : Gd} {tgf : D → Sd → Option Sd} {l : List D} {s : Sd} {Hd : HH} {w : Vw} {H : Hp} {W : WX} {Q : Ends} (h : PostS G w H (forL g tgf fb l s Hd) W Q) : gdOk g Hd = true := by
  cases hg : gdOk g Hd with
  | true => rfl
  | false =>
    have : forL g tgf fb l s Hd = .no := by cases l <;> simp [forL, hg]
    rw [this] at h
    exact h.elim
theorem drop_at {xs : List D} {i : Nat} {d : D} (h : xs[i]? = some d) : xs.drop i = d :: xs.drop (i + 1) := by
  obtain ⟨hl, rfl⟩ := List.getElem?_eq_some_iff.mp h
  exact List.drop_eq_getElem_cons hl
theorem s_for (ok : Okx X G W) (hx : G.exc = none) (hc : X.calm = true) {t : T} (hfold : notSet iter = true) (hi : PI X tg iter (tDI G W fi)) (hg : PG X tg (tP X.K t)) (hb : PSs X body (tDS G W fb)) :
    PS X (.For tg iter body [] pos) (tDS G W fun s H => (fi s H).st s fun p H1 => forL p.2 (asT t) fb p.1 s H1) := PS.mono (ps_for ok.hp hc hi hg hb (fold_of hfold)) fun D s H h => by
  obtain ⟨w, Hd, sd, rel, rs, p⟩ := h
  refine seqS rel rs p fun q Hd1 w1 H1 J e1 rel1 rs1 wk p1 => ?_
  obtain ⟨xs, g⟩ := q
  dsimp only at p1
  have wk : Walk J xs.length (GdP G w1 H1 g) (YdP G w1 H1 g xs) := wk
  refine for_it wk (fun i σ H => ∃ w2 Hd2 sd2, Ext w1 w2 H1 H ∧ Rel G w2 Hd2 H ∧ RepS G w2 H sd2 σ ∧ PostS G w2 H (forL g (asT t) fb (xs.drop i) sd2 Hd2) W D) ⟨w1, Hd1, sd, Ext.refl _ _, rel1, rs1, p1⟩ ?_ ?_ ?_
  · rintro i σ H _ ⟨w2, Hd2, sd2, e2, rel2, rs2, p2⟩
    exact ⟨w2, Hd2, e2, rel2, forL_gd p2⟩
  · rintro i x σ H H' hi ⟨w2, Hd2, sd2, e2, rel2, rs2, p2⟩ y
    have hgd := forL_gd p2
    obtain ⟨e3, rel3, d, hd, rv⟩ := y w2 Hd2 e2 rel2 hgd
    rw [drop_at hd] at p2
    have p3 := p2.step e3
    simp only [forL, hgd, if_true] at p3
    cases z : asT t d sd2 with
    | none => rw [z] at p3; exact p3.elim
    | some s1 =>
      rw [z] at p3
      dsimp only at p3
      refine pat_ok ok.K hx t rel3 rv (rs2.ext e3) z fun H4 σ2 e4 rel4 rs4 _ => ?_
      refine ⟨w2, Hd2, s1, rel4, rs4, ?_⟩
      have p3 := p3.step e4
      generalize fb s1 Hd2 = r at p3
      have e13 := (e2.trans e3).trans e4
      cases r with
      | no => exact p3
      | ex x s5 H5 => exact p3
      | go f H5 =>
        cases f with
        | nx s5 => exact fun w' H' e rel' v rv => ⟨w', H5, s5, e13.trans e, rel', rv, p3.step e⟩
        | ct s5 => exact fun w' H' e rel' v rv => ⟨w', H5, s5, e13.trans e, rel', rv, p3.step e⟩
        | bk s5 => exact p3
        | rt d => exact p3
  · rintro σ H ⟨w2, Hd2, sd2, e2, rel2, rs2, p2⟩
    have hgd := forL_gd p2
    rw [List.drop_length] at p2
    simp only [forL, hgd, if_true] at p2
    exact p2 w2 H (Ext.refl _ _) rel2 σ rs2
theorem s_whl (ok : Okx X G W) {c : Expr} {n : Nat} (hc : PT X c (tDT G W ft)) (hb : PSs X body (tDS G W fb)) : PS X (.While c body [] pos) (tDS G W fun s H => whileL ft fb n s H) :=
  PS.mono (ps_while ok.hp hc hb) fun D s H h => by
    refine ⟨fun m σ H => ∃ w Hd sd, Rel G w Hd H ∧ RepS G w H sd σ ∧ PostS G w H (whileL ft fb m sd Hd) W D, ⟨n, h⟩, ?_⟩
    rintro m σ H ⟨w, Hd, sd, rel, rs, p⟩
    cases m with
    | zero => exact p.elim
    | succ m =>
      refine ⟨w, Hd, sd, rel, rs, ?_⟩
      unfold whileL at p
      generalize ft sd Hd = r at p
      cases r with
      | no => exact p
      | ex x H1 => exact fun w' H' e rel' c da rx => p w' H' e rel' σ (rs.ext e) c da rx
      | ok b H1 =>
        intro w1 H1' e1 rel1 v rv
        cases (show v = b from rv)
        cases b with
        | false => exact iteF (p w1 H1' e1 rel1 σ (rs.ext e1))
        | true =>
          refine iteT ⟨fun σ' H' => ∃ w Hd sd, Rel G w Hd H' ∧ RepS G w H' sd σ' ∧ PostS G w H' (whileL ft fb m sd Hd) W D, fun σ' H' h => ⟨m, Nat.lt_succ_self _, h⟩, w1, H1, sd, rel1, rs.ext e1, ?_⟩
          have p := p.step e1
          dsimp only at p
          generalize fb sd H1 = r at p
          cases r with
          | no => exact p
          | ex x s5 H5 => exact p
          | go f H5 =>
            cases f with
            | nx s5 => exact fun w' H' e rel' v rv => ⟨w', H5, s5, rel', rv, p.step e⟩
            | ct s5 => exact fun w' H' e rel' v rv => ⟨w', H5, s5, rel', rv, p.step e⟩
            | bk s5 => exact p
            | rt d => exact p
end

def Vw.pl (w : Vw) (D : Addr) : Vw := ⟨w.mu, w.n, fun a => w.xx a ∨ a = D⟩
def Vw.mi (w : Vw) (D : Addr) : Vw := ⟨w.mu, w.n, fun a => w.xx a ∧ a ≠ D⟩
section
variable {G : Gr} {w w' : Vw} {H : Hp} {D : Addr} {o : HO} {Hd : HH}
theorem rd_ne {H : Hp} {a : Addr} {o : HO} (h : Rd H a o) : H a ≠ none := by
  rcases h with h | ⟨b, h⟩ <;> rw [h] <;> simp
theorem rd_updx {a : Addr} {u : HO} (h : a ≠ D) (r : Rd H a u) : Rd (upd H D o) a u := by
  rcases r with r | ⟨b, r⟩
  · exact .inl (by rw [upd_ne h]; exact r)
  · exact .inr ⟨b, by rw [upd_ne h]; exact r⟩
/-- a turn of what is held by none of the data -/
theorem TupAt.tun {a : Addr} {vs : List V} (hL : ∀ a, H a ≠ none → ¬ w.L a → ¬ w'.L a ∧ a ≠ D) (h : TupAt G w H a vs) : TupAt G w' (upd H D o) a vs := by
  rcases h with ⟨h, r⟩ | h
  · obtain ⟨h1, h2⟩ := hL a (rd_ne r) h
    exact .inl ⟨h1, rd_updx h2 r⟩
  · exact .inr h
theorem FzAt.tun {a : Addr} {vs : List V} (hL : ∀ a, H a ≠ none → ¬ w.L a → ¬ w'.L a ∧ a ≠ D) (h : FzAt G w H a vs) : FzAt G w' (upd H D o) a vs := by
  rcases h with ⟨h, r⟩ | h
  · obtain ⟨h1, h2⟩ := hL a (rd_ne r) h
    exact .inl ⟨h1, rd_updx h2 r⟩
  · exact .inr h
mutual
theorem RepV.tun (hn : w'.n = w.n) (hm : w'.mu = w.mu) (hL : ∀ a, H a ≠ none → ¬ w.L a → ¬ w'.L a ∧ a ≠ D) : ∀ {d : DI.D} {v : V}, RepV G w H d v → RepV G w' (upd H D o) d v
  | _, _, .non => .non
  | _, _, .bl b => .bl b
  | _, _, .int i => .int i
  | _, _, .str x => .str x
  | _, _, .tup h r => .tup (h.tun hL) (RepVs.tun hn hm hL r)
  | _, _, .lv h q r => by
    obtain ⟨h1, h2⟩ := hL _ (by rw [q]; simp) h
    exact .lv h1 (by rw [upd_ne h2]; exact q) (RepVs.tun hn hm hL r)
  | _, _, .fz h r => .fz (h.tun hL) (RepVs.tun hn hm hL r)
  | _, _, .ref h => by rw [← hm]; exact .ref (by rw [hn]; exact h)
  | _, _, .cls c => .cls c
  | _, _, .ty n => .ty n
theorem RepVs.tun (hn : w'.n = w.n) (hm : w'.mu = w.mu) (hL : ∀ a, H a ≠ none → ¬ w.L a → ¬ w'.L a ∧ a ≠ D) : ∀ {d : List DI.D} {v : List V}, RepVs G w H d v → RepVs G w' (upd H D o) d v
  | _, _, .nil => .nil
  | _, _, .cons h r => .cons (RepV.tun hn hm hL h) (RepVs.tun hn hm hL r)
end
theorem TupAt.sub {a : Addr} {vs : List V} (hL : ∀ a, ¬ w.L a → ¬ w'.L a) (h : TupAt G w H a vs) : TupAt G w' H a vs := by
  rcases h with ⟨h, r⟩ | h
  · exact .inl ⟨hL a h, r⟩
  · exact .inr h
theorem FzAt.sub {a : Addr} {vs : List V} (hL : ∀ a, ¬ w.L a → ¬ w'.L a) (h : FzAt G w H a vs) : FzAt G w' H a vs := by
  rcases h with ⟨h, r⟩ | h
  · exact .inl ⟨hL a h, r⟩
  · exact .inr h
mutual
theorem RepV.sub (hn : w'.n = w.n) (hm : w'.mu = w.mu) (hL : ∀ a, ¬ w.L a → ¬ w'.L a) : ∀ {d : DI.D} {v : V}, RepV G w H d v → RepV G w' H d v
  | _, _, .non => .non
  | _, _, .bl b => .bl b
  | _, _, .int i => .int i
  | _, _, .str x => .str x
  | _, _, .tup h r => .tup (h.sub hL) (RepVs.sub hn hm hL r)
  | _, _, .lv h q r => .lv (hL _ h) q (RepVs.sub hn hm hL r)
  | _, _, .fz h r => .fz (h.sub hL) (RepVs.sub hn hm hL r)
  | _, _, .ref h => by rw [← hm]; exact .ref (by rw [hn]; exact h)
  | _, _, .cls c => .cls c
  | _, _, .ty n => .ty n
theorem RepVs.sub (hn : w'.n = w.n) (hm : w'.mu = w.mu) (hL : ∀ a, ¬ w.L a → ¬ w'.L a) : ∀ {d : List DI.D} {v : List V}, RepVs G w H d v → RepVs G w' H d v
  | _, _, .nil => .nil
  | _, _, .cons h r => .cons (RepV.sub hn hm hL h) (RepVs.sub hn hm hL r)
end
theorem pl_L {a : Addr} : (w.pl D).L a ↔ w.L a ∨ a = D := by
  constructor
  · rintro (h | h | h)
    · exact .inl (.inl h)
    · exact .inl (.inr h)
    · exact .inr h
  · rintro ((h | h) | h)
    · exact .inl h
    · exact .inr (.inl h)
    · exact .inr (.inr h)
theorem pl_tun (hD : H D = none) : ∀ a, H a ≠ none → ¬ w.L a → ¬ (w.pl D).L a ∧ a ≠ D := fun a h hn => by
  have : a ≠ D := fun e => h (e ▸ hD)
  exact ⟨fun z => (pl_L.mp z).elim hn this, this⟩
theorem x_tun (hD : w.xx D) : ∀ a, H a ≠ none → ¬ w.L a → ¬ w.L a ∧ a ≠ D := fun a _ hn => ⟨hn, fun e => hn (.inr (e ▸ hD))⟩
theorem mi_sub : ∀ a, ¬ w.L a → ¬ (w.mi D).L a := fun a h z => z.elim (fun z => h (.inl z)) fun z => h (.inr z.1)
/-- Rel, where an object is turned that is none of the live ones -/
theorem Rel.tun (r : Rel G w Hd H) (hn : w'.n = w.n) (hm : w'.mu = w.mu) (hL : ∀ a, H a ≠ none → ¬ w.L a → ¬ w'.L a ∧ a ≠ D) (hD : ¬ w.O D) (hx : ∀ a, w'.xx a → w.xx a ∨ a = D) : Rel G w' Hd (upd H D o) := by
  have hO : ∀ a, w'.O a ↔ w.O a := fun a => ⟨fun ⟨i, h1, h2⟩ => ⟨i, by rw [← hn]; exact h1, by rw [← hm]; exact h2⟩, fun ⟨i, h1, h2⟩ => ⟨i, by rw [hn]; exact h1, by rw [hm]; exact h2⟩⟩
  refine ⟨hn.trans r.n, fun i j hi hj => by rw [hm]; exact r.inj i j (hn ▸ hi) (hn ▸ hj), fun i u h => ?_, fun a h => ?_⟩
  · have q := r.obj i u h
    have hl : i < w.n := by rw [r.n]; exact (List.getElem?_eq_some_iff.mp h).1
    rw [hm]
    cases q with
    | lst q1 q2 => exact .lst (by rw [upd_ne fun e => hD ⟨i, hl, e⟩]; exact q1) (q2.tun hn hm hL)
    | dic q1 q2 => exact .dic (by rw [upd_ne fun e => hD ⟨i, hl, e⟩]; exact q1) (q2.tun hn hm hL)
  · rcases hx a h with z | z
    · refine ⟨?_, fun e => (r.xx a z).2 ((hO a).mp e)⟩
      by_cases e : a = D
      · subst e; rw [upd_same]; simp
      · rw [upd_ne e]; exact (r.xx a z).1
    · subst z
      exact ⟨by rw [upd_same]; simp, fun e => hD ((hO _).mp e)⟩
/-- what others held is live from now on -/
def Vw.pr (w : Vw) (D : Addr) : Vw := ⟨fun i => if i = w.n then D else w.mu i, w.n + 1, fun a => w.xx a ∧ a ≠ D⟩
theorem pr_L (hx : w.xx D) : ∀ a, ¬ w.L a → ¬ (w.pr D).L a := fun a h z => by
  rcases z with ⟨i, hi, z⟩ | z
  · have hi : i < w.n + 1 := hi
    by_cases h2 : i < w.n
    · rw [show (w.pr D).mu i = w.mu i from add_lt h2] at z
      exact h (.inl ⟨i, h2, z⟩)
    · have : i = w.n := by omega
      subst this
      rw [show (w.pr D).mu w.n = D from add_n] at z
      subst z
      exact h (.inr hx)
  · exact h (.inr z.1)
theorem TupAt.pr {a : Addr} {vs : List V} (hx : w.xx D) (h : TupAt G w H a vs) : TupAt G (w.pr D) H a vs := by
  rcases h with ⟨h, r⟩ | h
  · exact .inl ⟨pr_L hx a h, r⟩
  · exact .inr h
theorem FzAt.pr {a : Addr} {vs : List V} (hx : w.xx D) (h : FzAt G w H a vs) : FzAt G (w.pr D) H a vs := by
  rcases h with ⟨h, r⟩ | h
  · exact .inl ⟨pr_L hx a h, r⟩
  · exact .inr h
mutual
theorem RepV.pr (hx : w.xx D) : ∀ {d : DI.D} {v : V}, RepV G w H d v → RepV G (w.pr D) H d v
  | _, _, .non => .non
  | _, _, .bl b => .bl b
  | _, _, .int i => .int i
  | _, _, .str x => .str x
  | _, _, .tup h r => .tup (h.pr hx) (RepVs.pr hx r)
  | _, _, .lv h q r => .lv (pr_L hx _ h) q (RepVs.pr hx r)
  | _, _, .fz h r => .fz (h.pr hx) (RepVs.pr hx r)
  | _, _, .ref h => by rw [← show (w.pr D).mu _ = w.mu _ from add_lt h]; exact .ref (Nat.lt_succ_of_lt h)
  | _, _, .cls c => .cls c
  | _, _, .ty n => .ty n
theorem RepVs.pr (hx : w.xx D) : ∀ {d : List DI.D} {v : List V}, RepVs G w H d v → RepVs G (w.pr D) H d v
  | _, _, .nil => .nil
  | _, _, .cons h r => .cons (RepV.pr hx h) (RepVs.pr hx r)
end
theorem Rel.pr {Hd : HH} {xs : List DI.D} {vs : List V} (r : Rel G w Hd H) (hx : w.xx D) (hD : H D = some (.lst vs)) (h : RepVs G w H xs vs) : Rel G (w.pr D) (Hd ++ [.lst xs]) H := by
  have nO := (r.xx D hx).2
  refine ⟨by rw [List.length_append]; show w.n + 1 = _; rw [r.n]; rfl, fun i j hi hj q => ?_, fun i o hi => ?_, fun a h => ⟨(r.xx a h.1).1, ?_⟩⟩
  · have hi : i < w.n + 1 := hi
    have hj : j < w.n + 1 := hj
    by_cases h1 : i < w.n
    · by_cases h2 : j < w.n
      · rw [show (w.pr D).mu i = w.mu i from add_lt h1, show (w.pr D).mu j = w.mu j from add_lt h2] at q; exact r.inj i j h1 h2 q
      · have : j = w.n := by omega
        subst this
        rw [show (w.pr D).mu i = w.mu i from add_lt h1, show (w.pr D).mu w.n = D from add_n] at q
        exact absurd ⟨i, h1, q⟩ nO
    · have : i = w.n := by omega
      subst this
      by_cases h2 : j < w.n
      · rw [show (w.pr D).mu j = w.mu j from add_lt h2, show (w.pr D).mu w.n = D from add_n] at q
        exact absurd ⟨j, h2, q.symm⟩ nO
      · omega
  · by_cases h1 : i < Hd.length
    · rw [List.getElem?_append_left h1] at hi
      rw [show (w.pr D).mu i = w.mu i from add_lt (by rw [r.n]; exact h1)]
      cases r.obj i o hi with
      | lst q1 q2 => exact .lst q1 (q2.pr hx)
      | dic q1 q2 => exact .dic q1 (q2.pr hx)
    · have hlt : i < (Hd ++ [HD.lst xs]).length := (List.getElem?_eq_some_iff.mp hi).1
      have : i = Hd.length := by rw [List.length_append] at hlt; simp at hlt; omega
      subst this
      rw [List.getElem?_append_right (Nat.le_refl _)] at hi
      simp at hi
      subst hi
      rw [← r.n, show (w.pr D).mu w.n = D from add_n]
      exact .lst hD (h.pr hx)
  · rintro ⟨i, hi, z⟩
    have hi : i < w.n + 1 := hi
    by_cases h1 : i < w.n
    · rw [show (w.pr D).mu i = w.mu i from add_lt h1] at z
      exact (r.xx a h.1).2 ⟨i, h1, z⟩
    · have : i = w.n := by omega
      subst this
      rw [show (w.pr D).mu w.n = D from add_n] at z
      exact h.2 z.symm
theorem Rel.mi (r : Rel G w Hd H) : Rel G (w.mi D) Hd H := by
  refine ⟨r.n, r.inj, fun i u h => ?_, fun a h => r.xx a h.1⟩
  have q := r.obj i u h
  cases q with
  | lst q1 q2 => exact .lst q1 (RepVs.sub (w := w) (w' := w.mi D) rfl rfl mi_sub q2)
  | dic q1 q2 => exact .dic q1 (RepVs.sub (w := w) (w' := w.mi D) rfl rfl mi_sub q2)
end

theorem PTs.mono {X : Cx} {e : List Expr} {t t' : TT} (h : PTs X e t) (m : ∀ s H Q, t' s H Q → t s H Q) : PTs X e t' := ⟨fun pins s σ H Q I q => h.run pins s σ H Q I (m _ _ _ q)⟩
abbrev W0 : WX := fun _ _ _ _ => False
section
variable {X : Cx} {G : Gr} {W : WX} {pos p : Pos} {tg iter elt : Expr} {c : Expr} {fi : Sd → HH → Rs (List D × Gd)} {ft : Sd → HH → Rs Bool} {fe : Sd → HH → Rs D}
theorem ts_no : PTs X [] (tDT G W fun _ H => .ok true H) := PTs.mono pts_nil fun s H Q h => by
  obtain ⟨w, Hd, sd, rel, rs, p⟩ := h
  exact p w H (Ext.refl _ _) rel _ rfl
theorem ts_one (h : PT X c (tDT G W ft)) : PTs X [c] (tDT G W ft) := pts_one h
def lcF (b : Bool) (fi : Sd → HH → Rs (List D × Gd)) (ft : Sd → HH → Rs Bool) (fe : Sd → HH → Rs D) (own : List Nat) (t : T) : Sd → HH → Rs D := fun s H =>
  (fi s H).bind fun p H1 => (lcL p.2 (asT t) ft fe (wipeD s own) p.1 [] H1).bind fun ds H2 => endL b ds H2
/-- the layer's reading of a comprehension holds where the evaluator's does -/
theorem lc_at {b : Bool} {own : List Nat} {t : T} (hK : G.K = X.K) (hxc : G.exc = none) (hsl : ∀ i ∈ slT t, i ∈ own) {w1 : Vw} {Hd1 : HH} {H1 : Hp} {sd : Sd} {σ : L2.St} {J : It} {xs : List D} {g : Gd} {Q : V → Hp → Prop} {W1 : XK} (rel1 : Rel G w1 Hd1 H1) (rs1 : RepS G w1 H1 sd σ)
    (wk : Walk J xs.length (GdP G w1 H1 g) (YdP G w1 H1 g xs)) (p1 : Post (RepV G) G w1 H1 ((lcL g (asT t) ft fe (wipeD sd own) xs [] Hd1).bind fun ds H2 => endL b ds H2) W1 Q) : tLc (fun _ H R => R J H) (tP X.K t) (tDT G W0 ft) (tD G W0 fe) own σ H1 Q := by
  intro D hD
  generalize hr : lcL g (asT t) ft fe (wipeD sd own) xs [] Hd1 = r at p1
  have hD1 : ¬ w1.L D := rel1.notL hD
  have gdL : ∀ {l acc Hd2}, lcL g (asT t) ft fe (wipeD sd own) l acc Hd2 = r → gdOk g Hd2 = true := fun {l acc Hd2} e => by
    cases hg : gdOk g Hd2 with
    | true => rfl
    | false =>
      have : lcL g (asT t) ft fe (wipeD sd own) l acc Hd2 = .no := by cases l <;> simp [lcL, hg]
      rw [this] at e
      subst e
      exact p1.elim
  have nor : r ≠ .no := fun e => by subst e; exact p1
  refine lc_it wk (fun i H => ∃ w2 Hd2 ds acc, w2.xx D ∧ Ext w1 w2 H1 H ∧ Rel G w2 Hd2 H ∧ H D = some (.lst acc) ∧ RepVs G w2 H ds acc ∧ lcL g (asT t) ft fe (wipeD sd own) (xs.drop i) ds Hd2 = r) ?_ ?_ ?_ ?_
  · refine ⟨w1.pl D, Hd1, [], [], .inr rfl, ?_, rel1.tun rfl rfl (pl_tun hD) (Vw.notO hD1) (fun a h => h), upd_same, .nil, hr⟩
    have e := ext_new rel1 hD (.lst [])
    exact ⟨e.le, e.mu, e.fresh, e.keep, e.there, fun a h => h.elim .inl fun z => .inr (z ▸ hD), fun a h => .inl h⟩
  · rintro i H _ ⟨w2, Hd2, ds, acc, hx, e2, rel2, hacc, rv, e⟩
    exact ⟨w2, Hd2, e2, rel2, gdL e⟩
  · rintro i x H H' hi ⟨w2, Hd2, ds, acc, hx, e2, rel2, hacc, racc, e⟩ y
    have hgd := gdL e
    obtain ⟨e3, rel3, d, hd, rv⟩ := y w2 Hd2 e2 rel2 hgd
    rw [drop_at hd] at e
    simp only [lcL, hgd, if_true] at e
    have hacc3 : H' D = some (.lst acc) := e3.keep _ _ (rel2.xx D hx).2 hacc
    cases z : asT t d (wipeD sd own) with
    | none => rw [z] at e; exact absurd e.symm nor
    | some s1 =>
      rw [z] at e
      dsimp only at e
      refine pat_ok hK hxc t rel3 rv ((rs1.ext (e2.trans e3)).wipe hxc own) z fun H4 σ2 e4 rel4 rs4 on => ⟨?_, ?_⟩
      · rw [on.wipe hsl, wipe_idem]
      · refine ⟨w2, Hd2, s1, rel4, rs4, ?_⟩
        have hacc4 : H4 D = some (.lst acc) := e4.keep _ _ (rel2.xx D hx).2 hacc3
        generalize ft s1 Hd2 = rt at e
        cases rt with
        | no => exact absurd e.symm nor
        | ex x H5 => exact absurd e.symm nor
        | ok b H5 =>
          rw [Rs.bindN_ok] at e
          intro w5 H5' e5 rel5 v rvb
          cases (show v = b from rvb)
          have hacc5 : H5' D = some (.lst acc) := e5.keep _ _ (rel2.xx D hx).2 hacc4
          have hx5 : w5.xx D := e5.xl D hx
          have racc5 := ((racc.ext e3).ext e4).ext e5
          have e15 := ((e2.trans e3).trans e4).trans e5
          cases b with
          | false => exact iteF ⟨w5, H5, ds, acc, hx5, e15, rel5, hacc5, racc5, e⟩
          | true =>
            refine iteT ⟨w5, H5, s1, rel5, rs4.ext e5, ?_⟩
            simp only [if_true] at e
            generalize fe s1 H5 = re at e
            cases re with
            | no => exact absurd e.symm nor
            | ex x H6 => exact absurd e.symm nor
            | ok d6 H6 =>
              rw [Rs.bindN_ok] at e
              intro w6 H6' e6 rel6 v6 rv6
              split at e
              · rename_i hlt
                have hx6 : w6.xx D := e6.xl D hx5
                have racc6 := racc5.ext e6
                refine ⟨acc, e6.keep _ _ (rel5.xx D hx5).2 hacc5, by rw [← racc6.length, ← lim_eq]; exact hlt, w6, H6, ds ++ [d6], acc ++ [v6], hx6, ?_, ?_, upd_same, ?_, e⟩
                · have e16 := e15.trans e6
                  refine ⟨e16.le, e16.mu, e16.fresh, fun a o h1 h2 => ?_, fun a h => ?_, e16.xx, e16.xl⟩
                  · rw [upd_ne (ne_of_none h2 hD)]
                    exact e16.keep a o h1 h2
                  · by_cases q : a = D
                    · subst q; rw [upd_same]; simp
                    · rw [upd_ne q]; exact e16.there a h
                · exact rel6.tun rfl rfl (x_tun hx6) (rel6.xx D hx6).2 fun a h => .inl h
                · exact (racc6.append (.cons rv6 .nil)).tun rfl rfl (x_tun hx6)
              · exact absurd e.symm nor
  · rintro H ⟨w2, Hd2, ds, acc, hx, e2, rel2, hacc, racc, e⟩
    have hgd := gdL e
    rw [List.drop_length] at e
    simp only [lcL, hgd, if_true] at e
    subst e
    cases b with
    | false =>
      have hD2 : ¬ (w2.mi D).L D := fun z => z.elim (rel2.xx D hx).2 fun z => z.2 rfl
      exact p1 (w2.mi D) H ⟨e2.le, e2.mu, e2.fresh, e2.keep, e2.there, fun a h => e2.xx a h.1, fun a h => ⟨e2.xl a h, fun q => hD1 (.inr (q ▸ h))⟩⟩ rel2.mi _ (.lv hD2 hacc (RepVs.sub (w := w2) (w' := w2.mi D) rfl rfl mi_sub racc))
    | true =>
      have z : RepV G (w2.pr D) H (.ref Hd2.length) (.ref D) := by
        have := RepV.ref (G := G) (w := w2.pr D) (H := H) (r := w2.n) (Nat.lt_succ_self _)
        rw [show (w2.pr D).mu w2.n = D from add_n] at this
        rw [← rel2.n]
        exact this
      refine p1 (w2.pr D) H ⟨Nat.le_trans e2.le (Nat.le_succ _), fun i h => (add_lt (Nat.lt_of_lt_of_le h e2.le)).trans (e2.mu i h), fun i h h' => ?_, e2.keep, e2.there, fun a h => e2.xx a h.1, fun a h => ⟨e2.xl a h, fun q => hD1 (.inr (q ▸ h))⟩⟩ (rel2.pr hx hacc racc) _ z
      by_cases h2 : i < w2.n
      · rw [show (w2.pr D).mu i = w2.mu i from add_lt h2]; exact e2.fresh i h h2
      · have : i = w2.n := by have : i < w2.n + 1 := h'; omega
        subst this
        rw [show (w2.pr D).mu w2.n = D from add_n]; exact hD
theorem lc_read {b : Bool} {own : List Nat} {t : T} (hK : G.K = X.K) (hxc : G.exc = none) (hsl : ∀ i ∈ slT t, i ∈ own) : ∀ s H Q, tD G W (lcF b fi ft fe own t) s H Q → tLc (tDI G W fi) (tP X.K t) (tDT G W0 ft) (tD G W0 fe) own s H Q := fun σ H Q h => by
  obtain ⟨w, Hd, sd, rel, rs, p⟩ := h
  refine seq rel rs p fun q Hd1 w1 H1 J e1 rel1 rs1 wk p1 => ?_
  obtain ⟨xs, g⟩ := q
  dsimp only at p1
  exact lc_at hK hxc hsl rel1 rs1 wk p1
end
end DI
namespace DI
open PySem PySem.Spec PyProof.Rows L2
section
variable {X : Cx} {G : Gr} {W : WX} {pos p : Pos} {tg iter elt : Expr} {e c a b : Expr} {ifs : List Expr} {fi : Sd → HH → Rs (List D × Gd)} {ft : Sd → HH → Rs Bool} {fe fa fb : Sd → HH → Rs D}
theorem takes0 {X : Cx} : Takes X W0 := fun _ _ x => by
  obtain ⟨_, _, _, _, _, _, _, _, _, _, _, _, _, _, _, _, z⟩ := x
  exact z.elim
abbrev Blk (X : Cx) (scope : Scope) (F : Cx → Prop) : Prop := ∀ (s : Shared) (H : Hp) (C : Addr) (cl : List (Str × Addr)) (fp : List Addr), F (X.blk s H scope (compEnvC scope cl C X.env) fp)
theorem okx_blk (ok : Okx X G W) (scope : Scope) : Blk X scope fun Y => Okx Y G W0 := fun s H C cl fp =>
  ⟨ok.K, ok.gd, ok.un, ok.nd, takes0, PassesOwn.never⟩
theorem d_lc {lv : Bool} {scope : Scope} {own : List (Str × Nat)} {t : T} (ok : Okx X G W) (hx : G.exc = none) (hc : X.calm = true) (hfold : notSet iter = true) (hi : PI X tg iter (tDI G W fi)) (bk : BlkOk X.N X.env.scope scope own) (hsl : ∀ i ∈ slT t, i ∈ own.map (·.2))
    (hg : Blk X scope fun Y => PG Y tg (tP X.K t)) (ht : Blk X scope fun Y => PTs Y ifs (tDT G W0 ft)) (he : Blk X scope fun Y => PE Y elt (tD G W0 fe)) :
    PE X (.ListComp elt [⟨tg, iter, ifs, 0⟩] scope pos) (tD G W (lcF lv fi ft fe (own.map (·.2)) t)) :=
  PE.mono (pe_lc hc ok.nd hi bk hg ht he (fold_of hfold)) (lc_read ok.K hx hsl)

def plainBase : Expr → Bool
  | .Call _ [] _ _ => false
  | _ => true
theorem base_ok {o : Expr} {n : Str} {env : Env} {w : Sem Value} (h : plainBase o = true) : attributeBase o n env w = w := by
  cases o with
  | Call f as ks p =>
    cases as with
    | nil => simp [plainBase] at h
    | cons a as => cases f <;> rfl
  | _ => rfl
theorem few_ok {env : Env} (h : notStar e = true) : ((backTo pos (starEach [e] env)).all (fun x => !x.1) && (backToKw pos (keywordEach [] env)).all (fun x => x.1.isSome)
      && decide ([e].length + ([] : List Keyword).length + (if ([] : List Keyword).isEmpty then 0 else 1) < 30)) = true := by
  rw [star_cons h]; rfl
def mtN : MT → Str
  | .append => "append" | .extend => "extend" | .index => "index" | .join => "join" | .isalpha => "isalpha" | .split => "split"
def mtId : MT → String
  | .append => "list.append" | .extend => "list.extend" | .index => "list.index" | .join => "str.join" | .isalpha => "str.isalpha" | .split => "str.split"
def mtTy : MT → String
  | .append => "list" | .extend => "list" | .index => "list" | .join => "str" | .isalpha => "str" | .split => "str"
/-- a method with one argument, by the evaluator -/
def rMt (G : Gr) (m : MT) : V → List V → Hp → VK → Prop := fun x xs H Q => ∃ w Hd dx ds d Hd', Rel G w Hd H ∧ RepV G w H dx x ∧ RepVs G w H ds xs ∧ mtE m dx ds Hd = .ok d Hd' ∧ ∀ w' H', Ext w w' H H' → Rel G w' Hd' H' → ∀ v, RepV G w' H' d v → Q v H'
theorem idx_ok (y : D) : ∀ (ys : List D) (k j : Nat), idxD y ys k = some j → ∃ (i : Nat) (z : D), j = k + i ∧ ys[i]? = some z ∧ eqD z y = true ∧ ∀ (m : Nat) (z' : D), m < i → ys[m]? = some z' → eqD z' y = false
  | [], k, j, h => by cases h
  | z :: r, k, j, h => by
    unfold idxD at h
    cases hz : eqD z y with
    | true =>
      rw [hz] at h
      cases h
      exact ⟨0, z, rfl, rfl, hz, fun m z' hm => absurd hm (Nat.not_lt_zero _)⟩
    | false =>
      rw [hz] at h
      obtain ⟨i, u, h1, h2, h3, h4⟩ := idx_ok y r (k + 1) j h
      refine ⟨i + 1, u, by omega, by simpa using h2, h3, fun m z' hm hz' => ?_⟩
      cases m with
      | zero => simp at hz'; subst hz'; exact hz
      | succ m => exact h4 m z' (by omega) (by simpa using hz')
theorem toPys_get : ∀ {ds : List D} {i : Nat} {z : D}, ds[i]? = some z → (toPys ds)[i]? = some (toPy z)
  | [], _, _, h => by simp at h
  | d :: ds, 0, z, h => by simp at h; subst h; simp [toPys]
  | d :: ds, i + 1, z, h => by simp only [toPys]; simpa using toPys_get (ds := ds) (i := i) (by simpa using h)
theorem toPys_back : ∀ {ds : List D} {i : Nat} {z : PyData}, (toPys ds)[i]? = some z → ∃ d, ds[i]? = some d ∧ z = toPy d
  | [], _, _, h => by simp [toPys] at h
  | d :: ds, 0, z, h => by simp [toPys] at h; exact ⟨d, rfl, h.symm⟩
  | d :: ds, i + 1, z, h => by
    simp only [toPys, List.getElem?_cons_succ] at h
    obtain ⟨u, h1, h2⟩ := toPys_back h
    exact ⟨u, by simpa using h1, h2⟩
theorem plains_get : ∀ {ds : List D} {i : Nat} {z : D}, plainDs ds = true → ds[i]? = some z → plainD z = true
  | [], _, _, _, h => by simp at h
  | d :: ds, 0, z, p, h => by simp at h; subst h; unfold plainDs at p; rw [Bool.and_eq_true] at p; exact p.1
  | d :: ds, i + 1, z, p, h => by unfold plainDs at p; rw [Bool.and_eq_true] at p; exact plains_get (ds := ds) (i := i) p.2 (by simpa using h)
theorem mt_lists {m : MT} {x : D} {xs : List D} {Hd Hd' : HH} {d : D} (hm : isMu m = true) (h : mtE m x xs Hd = .ok d Hd') : ∃ r ys y, x = .ref r ∧ Hd[r]? = some (.lst ys) ∧ xs = [y] ∧ muD m x xs Hd = some (d, Hd') := by
  unfold mtE at h
  rw [if_pos hm] at h
  cases q : muD m x xs Hd with
  | none => rw [q] at h; cases h
  | some p =>
    rw [q] at h
    obtain ⟨d', H'⟩ := p
    cases h
    have q' := q
    unfold muD at q
    split at q
    · rename_i r
      split at q
      · rename_i ys e
        split at q
        · exact ⟨r, ys, _, rfl, e, rfl, rfl⟩
        · exact ⟨r, ys, _, rfl, e, rfl, rfl⟩
        · cases q
      · cases q
    · cases q
theorem joinL_eq (a : List Nat) : ∀ ys : List (List Nat), TL.joinL a ys = joinL a ys
  | [] => rfl
  | [x] => rfl
  | x :: y :: r => by
    show x ++ (a ++ TL.joinL a (y :: r)) = x ++ (a ++ joinL a (y :: r))
    rw [joinL_eq a (y :: r)]
theorem mt_ok (ok : Okx X G W) (m : MT) : MtR X (mtId m) (rMt G m) := by
  intro pins s σ H x xs v us Q I rx rxs h
  obtain ⟨w, Hd, dx, ds, d, Hd', rel, hx, hxs, e, q⟩ := h
  have mu : isMu m = true → ∃ r ys y u l vs, dx = .ref r ∧ Hd[r]? = some (.lst ys) ∧ ds = [y] ∧ xs = [u] ∧ RepV G w H y u ∧ muD m dx ds Hd = some (d, Hd') ∧ x = .ref l ∧ l = w.mu r ∧ r < w.n ∧ H l = some (.lst vs) ∧ RepVs G w H ys vs := fun hm => by
    obtain ⟨r, ys, y, rfl, h1, rfl, h2⟩ := mt_lists hm e
    cases hx with
    | ref hr =>
      have z := rel.obj r _ h1
      cases z with
      | lst h3 h4 =>
        cases hxs with
        | cons ra rb =>
          cases rb
          exact ⟨r, ys, y, _, _, _, rfl, h1, rfl, rfl, ra, h2, rfl, rfl, hr, h3, h4⟩
  cases m with
  | append =>
    obtain ⟨r, ys, y, u, l, vs, rfl, h1, rfl, rfl, ry, h2, rfl, rfl, hr, h3, h4⟩ := mu rfl
    simp only [muD, h1] at h2
    split at h2
    · rename_i hl
      cases h2
      exact mt_append pins s σ H _ _ v us Q I rx rxs ⟨_, vs, u, rfl, rfl, h3, by rw [← h4.length, ← lim_eq]; exact hl, q w _ (ext_set rel hr _) (rel_set rel hr (h4.append (.cons ry .nil))) _ .non⟩
    · cases h2
  | extend =>
    obtain ⟨r, ys, y, u, l, vs, rfl, h1, rfl, rfl, ry, h2, rfl, rfl, hr, h3, h4⟩ := mu rfl
    simp only [muD, h1] at h2
    have ry' := repW_view rel ry
    split at h2
    · rename_i zs hz
      rw [hz] at ry'
      obtain ⟨b, us', rfl, h5, h6⟩ := ry'
      split at h2
      · rename_i hl
        cases h2
        exact mt_extend pins s σ H _ _ v us Q I rx rxs ⟨_, b, vs, us', rfl, rfl, h3, h5, by rw [← h4.length, ← h6.length, ← lim_eq]; exact hl, q w _ (ext_set rel hr _) (rel_set rel hr (h4.append h6)) _ .non⟩
      · cases h2
    · cases h2
  | index =>
    simp only [mtE, isMu, Bool.false_eq_true, if_false, mtD] at e
    have rx' := repW_view rel hx
    have rs' := repWs_view rel hxs
    split at e
    · rename_i ys y ex es
      rw [ex] at rx'
      rw [es] at rs'
      obtain ⟨a, vs, rfl, h1, h2⟩ := rx'
      obtain ⟨u, rfl, ru⟩ := pair1 rs'
      split at e
      · rename_i hl
        rw [Bool.and_eq_true] at hl
        obtain ⟨p1, s1⟩ := shaped_py hl.1
        obtain ⟨p2, s2⟩ := shaped_py hl.2
        cases q0 : idxD y ys 0 with
        | none => rw [q0] at e; cases e
        | some j =>
          rw [q0] at e
          cases e
          obtain ⟨i, z, rfl, h3, h4, h5⟩ := idx_ok y ys 0 j q0
          have hd := dpW_of (X := X) ok.K (d := .lv ys) p2 ⟨a, vs, rfl, h1, h2⟩
          have p2' : plainDs ys = true := by unfold plainD at p2; exact p2
          unfold toPy at hd s2
          refine mt_indexD (by have := ok.un; omega) pins s σ H _ _ v us Q I rx rxs ⟨a, u, toPy y, toPys ys, i, toPy z, rfl, rfl, hd, dpW_of ok.K p1 ru, s2, s1, toPys_get h3, ?_, ?_, ?_⟩
          · rw [eqv_py _ _ (plains_get p2' h3) p1]; exact h4
          · intro m z' hm hz'
            obtain ⟨d', h6, rfl⟩ := toPys_back hz'
            rw [eqv_py _ _ (plains_get p2' h6) p1]
            exact h5 m d' hm h6
          · rw [show ((i : Nat) : Int) = ((0 + i : Nat) : Int) by omega]
            exact q w H (Ext.refl _ _) rel _ (.int _)
      · cases e
    · cases e
  | join =>
    simp only [mtE, isMu, Bool.false_eq_true, if_false, mtD] at e
    have rx' := repW_view rel hx
    have rs' := repWs_view rel hxs
    have fin : ∀ (sep : List Nat) (zs : List (List Nat)) (p : Addr), x = .str ⟨sep.toArray⟩ → xs = [.ref p] → (SqL X.K H p ((zs.map fun x => (⟨x.toArray⟩ : Str)).map V.str) ∨ SqT X.K H p ((zs.map fun x => (⟨x.toArray⟩ : Str)).map V.str)) →
        (zs.map (·.length)).sum + zs.length * sep.length ≤ lim → d = .str (joinL sep zs) → Hd' = Hd → wpAny (model X.prog X.w) X.A (call (.builtin (mtId .join)) (v :: us)) (L2.EP X pins σ Q) X.xe s := by
      rintro sep zs p rfl rfl hp hl rfl rfl
      refine mt_join pins s σ H _ _ v us Q I rx rxs ⟨_, p, zs.map fun x => (⟨x.toArray⟩ : Str), rfl, rfl, hp, ?_, ?_⟩
      · rw [List.map_map, List.length_map, str_len]
        have : ((fun x : Str => x.length) ∘ fun x : List Nat => (⟨x.toArray⟩ : Str)) = fun x => x.length := by funext x; exact str_len x
        rw [this]
        exact hl
      · have := SX.join_S sep zs
        have e2 : Txt.join (⟨sep.toArray⟩ : Str) (zs.map fun x => (⟨x.toArray⟩ : Str)) = ⟨(joinL sep zs).toArray⟩ := by
          rw [← joinL_eq]; exact this
        rw [e2]
        exact q w H (Ext.refl _ _) rel _ (.str _)
    split at e
    · rename_i sep ys ex es
      rw [ex] at rx'
      rw [es] at rs'
      have rx' : RepV G w H (.str sep) x := rx'
      cases rx'
      obtain ⟨u, rfl, ru⟩ := pair1 rs'
      obtain ⟨p, vs, rfl, h1, h2⟩ := ru
      cases q0 : strsOf ys with
      | none => rw [q0] at e; cases e
      | some zs =>
        rw [q0] at e
        have hv := strs_rep h2 q0
        subst hv
        dsimp only at e
        split at e
        · rename_i hl
          cases e
          exact fin sep zs p rfl rfl (.inl (SqL.of h1)) hl rfl rfl
        · cases e
    · rename_i sep ys ex es
      rw [ex] at rx'
      rw [es] at rs'
      have rx' : RepV G w H (.str sep) x := rx'
      cases rx'
      obtain ⟨u, rfl, ru⟩ := pair1 rs'
      have ru : RepV G w H (.tup ys) u := ru
      cases ru with
      | tup t h2 =>
        cases q0 : strsOf ys with
        | none => rw [q0] at e; cases e
        | some zs =>
          rw [q0] at e
          have hv := strs_rep h2 q0
          subst hv
          dsimp only at e
          split at e
          · rename_i hl
            cases e
            exact fin sep zs _ rfl rfl (.inr (ok.K ▸ t.sq)) hl rfl rfl
          · cases e
    · cases e
  | isalpha =>
    simp only [mtE, isMu, Bool.false_eq_true, if_false, mtD] at e
    have rx' := repW_view rel hx
    have rs' := repWs_view rel hxs
    split at e
    · rename_i z ex es
      rw [ex] at rx'
      rw [es] at rs'
      cases e
      have rx' : RepV G w H (.str z) x := rx'
      cases rx'
      cases rs'
      exact mt_isalpha pins s σ H _ _ v us Q I rx rxs ⟨_, rfl, rfl, trivial, q w H (Ext.refl _ _) rel _ (.bl _)⟩
    · cases e
  | split =>
    simp only [mtE, isMu, Bool.false_eq_true, if_false, mtD] at e
    have rx' := repW_view rel hx
    have rs' := repWs_view rel hxs
    split at e
    · rename_i z b ex es
      rw [ex] at rx'
      rw [es] at rs'
      split at e
      · rename_i hl
        cases e
        have rx' : RepV G w H (.str z) x := rx'
        cases rx'
        obtain ⟨u, rfl, ru⟩ := pair1 rs'
        have ru : RepV G w H (.str b) u := ru
        cases ru
        refine mt_split pins s σ H _ _ v us Q I rx rxs ⟨_, _, rfl, rfl, ?_, ?_, fun p hp => ?_⟩
        · rw [str_len]
          have : b.length ≠ 0 := fun h => hl.1 (List.length_eq_zero_iff.mp h)
          simpa using this
        · rw [str_len, ← lim_eq]; exact hl.2
        · have rv : ∀ l : List Str, RepVs G w H (l.map fun y => D.str y.cps.toList) (l.map V.str) := fun l => by
            induction l with
            | nil => exact .nil
            | cons y l ih =>
              refine .cons ?_ ih
              have z := RepV.str (G := G) (w := w) (H := H) y.cps.toList
              rw [str_back] at z
              exact z
          exact q w _ (ext_new rel hp _) (rel_new rel hp _) _ (new_lv rel hp (rv _))
      · cases e
    · cases e
end
end DI
namespace DI
open PySem PySem.Spec PyProof.Rows L2
section
variable {X : Cx} {G : Gr} {W : WX} {pos p : Pos} {tg iter elt : Expr} {e c a b o : Expr} {ft : Sd → HH → Rs Bool} {fe fa fb fo : Sd → HH → Rs D} {fs : Sd → HH → Rs (List D)}
theorem mt_rcv {m : MT} {w : Vw} {H : Hp} {Hd : HH} {d : D} {v : V} {K : PySem.W.Frag} (rel : Rel G w Hd H) (r : RepV G w H d v) (h : rcvOk m (viewD Hd d) = true) : tyV K (mtTy m) v H := by
  have r' := repW_view rel r
  cases m <;> (generalize viewD Hd d = y at r' h; cases y <;> first | (simp [rcvOk] at h; done) | skip) <;> first
    | (obtain ⟨a, vs, rfl, h1, _⟩ := r'; exact .inl ⟨rfl, vs, SqL.of h1⟩)
    | (have r' := (show RepV G w H (.str _) v from r'); cases r'; exact rfl)
theorem d_mt {apos : Pos} {n : Str} (ok : Okx X G W) (m : MT) (hn : n = mtN m) (hb : plainBase o = true) (hs : notStar e = true) (hl : (apos.endLine == pos.line) = true) (ho : PE X o (tD G W fo)) (he : PA X [e] (tDA G W fs)) :
    PE X (.Call (.Attribute o n apos) [e] [] pos) (tD G W fun s H => (fo s H).bind fun x H1 => if rcvOk m (viewD H1 x) then (fs s H1).bind fun ds H2 => mtE m x ds H2 else .no) := by
  subst hn
  have core : PE X (.Call (.Attribute o (mtN m) apos) [e] [] pos) (tBM X.K (mtTy m) (rMt G m) (tD G W fo) (tDA G W fs)) := by
    have hm := mt_ok ok m
    cases m with
    | append => exact pe_bm PySem.F.plainAttrs_list PySem.F.slot_list_append PySem.F.type_list_append hm ho he (base_ok hb) (few_ok hs) hl (star_cons hs) rfl
    | extend => exact pe_bm PySem.F.plainAttrs_list PySem.F.slot_list_extend PySem.F.type_list_extend hm ho he (base_ok hb) (few_ok hs) hl (star_cons hs) rfl
    | index => exact pe_bm PySem.F.plainAttrs_list PySem.F.slot_list_index PySem.F.type_list_index hm ho he (base_ok hb) (few_ok hs) hl (star_cons hs) rfl
    | join => exact pe_bm PySem.F.plainAttrs_str PySem.F.slot_str_join PySem.F.type_str_join hm ho he (base_ok hb) (few_ok hs) hl (star_cons hs) rfl
    | split => exact pe_bm PySem.F.plainAttrs_str PySem.F.slot_str_split PySem.F.type_str_split hm ho he (base_ok hb) (few_ok hs) hl (star_cons hs) rfl
    | isalpha => exact pe_bm PySem.F.plainAttrs_str PySem.F.slot_str_isalpha PySem.F.type_str_isalpha hm ho he (base_ok hb) (few_ok hs) hl (star_cons hs) rfl
  refine PE.mono core fun s H Q h => ?_
  obtain ⟨w, Hd, sd, rel, rs, p⟩ := h
  refine seq rel rs p fun x Hd1 w1 H1 v e1 rel1 rs1 r1 p1 => ?_
  split at p1
  · rename_i hr
    refine ⟨mt_rcv rel1 r1 hr, ?_⟩
    refine seq rel1 rs1 p1 fun xs Hd2 w2 H2 vs e2 rel2 rs2 r2 p2 => ?_
    cases q : mtE m x xs Hd2 with
    | ok d Hd3 => rw [q] at p2; exact ⟨w2, Hd2, x, xs, d, Hd3, rel2, r1.ext e2, r2, q, p2⟩
    | ex y Hd3 =>
      exfalso
      unfold mtE at q
      split at q
      · split at q <;> cases q
      · cases z : mtD m (viewD Hd2 x) (xs.map (viewD Hd2)) with
        | none => rw [z] at q; cases q
        | some d => rw [z] at q; cases q
    | no => rw [q] at p2; exact p2.elim
  · exact p1.elim
/-- a method without arguments -/
theorem d_mt0 {apos : Pos} (ok : Okx X G W) (hb : plainBase o = true) (hl : (apos.endLine == pos.line) = true) (ho : PE X o (tD G W fo)) :
    PE X (.Call (.Attribute o "isalpha" apos) [] [] pos) (tD G W fun s H => (fo s H).bind fun x H1 => if rcvOk .isalpha (viewD H1 x) then mtE .isalpha x [] H1 else .no) := by
  have core : PE X (.Call (.Attribute o "isalpha" apos) [] [] pos) (tBM0 X.K (mtTy .isalpha) (rMt G .isalpha) (tD G W fo)) :=
    pe_bm0 PySem.F.plainAttrs_str PySem.F.slot_str_isalpha PySem.F.type_str_isalpha (mt_ok ok .isalpha) ho (base_ok hb) hl
  refine PE.mono core fun s H Q h => ?_
  obtain ⟨w, Hd, sd, rel, rs, p⟩ := h
  refine seq rel rs p fun x Hd1 w1 H1 v e1 rel1 rs1 r1 p1 => ?_
  split at p1
  · rename_i hr
    refine ⟨mt_rcv rel1 r1 hr, ?_⟩
    cases q : mtE .isalpha x [] Hd1 with
    | ok d Hd3 => rw [q] at p1; exact ⟨w1, Hd1, x, [], d, Hd3, rel1, r1, .nil, q, p1⟩
    | ex y Hd3 =>
      exfalso
      unfold mtE at q
      rw [if_neg (by decide)] at q
      cases z : mtD .isalpha (viewD Hd1 x) ([].map (viewD Hd1)) with
      | none => rw [z] at q; cases q
      | some d => rw [z] at q; cases q
    | no => rw [q] at p1; exact p1.elim
  · exact p1.elim
def tyList : List (String × Value) := [("int", .type "int"), ("str", .type "str"), ("bool", .type "bool"), ("tuple", .type "tuple"), ("list", .type "list"), ("dict", .type "dict")]
def kitRow (n : String) : Bool := (kitB "NoneType" n == some (n == "NoneType")) && (kitB "bool" n == some (n == "bool" || n == "int")) && (kitB "int" n == some (n == "int")) && (kitB "str" n == some (n == "str")) && (kitB "tuple" n == some (n == "tuple")) && (kitB "list" n == some (n == "list"))
theorem ty_name : ∀ n ∈ tyList, bootBuiltins (n.1 : Str) = some n.2 ∧ n.2 = .type n.1 ∧ (n.1 : Str) ≠ "__name__" ∧ ((n.1 : Str) == ("__debug__" : Str)) = false ∧ kitRow n.1 = true := by
  intro n hn
  unfold tyList at hn
  simp only [List.mem_cons, List.mem_singleton, List.not_mem_nil, or_false] at hn
  rcases hn with rfl | rfl | rfl | rfl | rfl | rfl <;> decide +kernel
def rIsD (G : Gr) (n : String) : List V → Hp → VK → Prop := fun xs H Q => ∃ x w d b, xs = [x, .ty n] ∧ RepW G w H d x ∧ tyIs n d = some b ∧ Q (.bl b) H
theorem isi_ok (ok : Okx X G W) {n : String} (hk : kitRow n = true) : CallR X (.builtin "isinstance") (rIsD G n) := by
  intro pins s σ H xs us Q I r h
  obtain ⟨x, w, d, b, rfl, rv, hb, q⟩ := h
  unfold kitRow at hk
  simp only [Bool.and_eq_true, beq_iff_eq] at hk
  obtain ⟨⟨⟨⟨⟨k1, k2⟩, k3⟩, k4⟩, k5⟩, k6⟩ := hk
  have go : ∀ t : String, TyX X.K H x (.type t) → kitB t n = some b → wpAny (model X.prog X.w) X.A (call (.builtin "isinstance") us) (L2.EP X pins σ Q) X.xe s := fun t ty e =>
    call_isi pins s σ H _ us Q I r ⟨x, .ty n, .type t, .type n, b, rfl, .ty n, ty, kit_ty e, q⟩
  unfold tyIs at hb
  split at hb
  · have rv : RepV G w H .non x := rv
    cases rv; rw [← hb] at go; exact go _ (.base .non) k1
  · have rv : RepV G w H (.bl _) x := rv
    cases rv; rw [← hb] at go; exact go _ (.base (.bl _)) k2
  · have rv : RepV G w H (.int _) x := rv
    cases rv; rw [← hb] at go; exact go _ (.base (.int _)) k3
  · have rv : RepV G w H (.str _) x := rv
    cases rv; rw [← hb] at go; exact go _ (.base (.str _)) k4
  · have rv : RepV G w H (.tup _) x := rv
    rw [← hb] at go
    cases rv with
    | tup t _ =>
      rcases t with ⟨_, t | ⟨o, t⟩⟩ | t
      · exact go _ (.base (.tup t)) k5
      · exact go _ (.fTuple t) k5
      · obtain ⟨o, its, n, h1, h2, _⟩ := ok.K ▸ t
        exact go _ (.kTuple h1 h2) k5
  · rw [← hb] at go
    obtain ⟨a, vs, rfl, h1, _⟩ := rv
    exact go _ (.base (.lst h1)) k6
  · cases hb
theorem d_isi {p2 : Pos} (ok : Okx X G W) {n : String × Value} (hn : n ∈ tyList) (hg : Gl X "isinstance") (hm : X.mg "isinstance" = none) (hg2 : Gl X (n.1 : Str)) (hm2 : X.mg (n.1 : Str) = none) (hs : notStar a = true) (ha : PE X a (tD G W fa)) :
    PE X (.Call (.Name "isinstance" p) [a, .Name (n.1 : Str) p2] [] pos) (tD G W fun s H => (fa s H).bind fun x H1 => Rs.ofO ((tyIs n.1 (viewD H1 x)).map .bl) H1) := by
  obtain ⟨t1, t2, t3, t4, t5⟩ := ty_name n hn
  have hty : PE X (.Name (n.1 : Str) p2) (tC (.ty n.1)) := pe_bltn hg2 hm2 t1 (by rw [t2]; rfl) t3 t4
  have hpa : PA X [a, .Name (n.1 : Str) p2] (tCons (tD G W fa) (tCons (tC (.ty n.1)) tNil)) := pa_cons ha (pa_cons hty pa_nil (by rfl)) (star_cons hs)
  refine PE.mono (pe_callB (isi_ok ok t5) hg hm (by decide +kernel) hpa (by decide +kernel) (by decide +kernel) (star_cons hs) (by rfl)) fun s H Q h => ?_
  obtain ⟨w, Hd, sd, rel, rs, p⟩ := h
  refine seq rel rs p fun x Hd1 w1 H1 v e1 rel1 rs1 r1 p1 => ?_
  obtain ⟨d, hd, q⟩ := ofO_post p1
  cases e : tyIs n.1 (viewD Hd1 x) with
  | none => rw [e] at hd; cases hd
  | some k =>
    rw [e] at hd
    cases hd
    exact ⟨v, w1, _, k, rfl, repW_view rel1 r1, e, q w1 H1 (Ext.refl _ _) rel1 _ (.bl _)⟩
variable {st : Stmt} {rest body : List Stmt} {f g : Sd → HH → RS}
theorem s_nil : PSs X [] (tDS G W fun s H => .go (.nx s) H) := PSs.mono pss_nil fun D s H h => by
  obtain ⟨w, Hd, sd, rel, rs, p⟩ := h
  exact p w H (Ext.refl _ _) rel _ rs
theorem s_cons (h1 : PS X st (tDS G W f)) (h2 : PSs X rest (tDS G W g)) : PSs X (st :: rest) (tDS G W fun s H => match f s H with
      | .go (.nx s1) H1 => g s1 H1
      | x => x) := PSs.mono (pss_cons h1 h2) fun D s H h => by
  obtain ⟨w, Hd, sd, rel, rs, p⟩ := h
  refine ⟨w, Hd, sd, rel, rs, ?_⟩
  dsimp only at p
  generalize f sd Hd = r at p
  cases r with
  | no => exact p
  | ex x s5 H5 => exact p
  | go fl H5 =>
    cases fl with
    | nx s5 => exact fun w' H' e rel' v rv => ⟨w', H5, s5, rel', rv, p.step e⟩
    | ct s5 => exact p
    | bk s5 => exact p
    | rt d => exact p
def notComp : Expr → Bool
  | .ListComp _ _ _ _ => false
  | .SetComp _ _ _ _ => false
  | .DictComp _ _ _ _ _ => false
  | _ => true
theorem sw_none {t : Option Expr} {l : Nat} {env : Env} (h : notComp e = true) : swapsWith e t l env = pure false := by
  cases e <;> first | rfl | (simp [notComp] at h; done)
def notTup : Expr → Bool
  | .Tuple _ _ _ => false
  | .List _ _ => false
  | _ => true
def notTup1 : Expr → Bool
  | .Tuple _ _ _ => false
  | _ => true
theorem sst_none {env : Env} (h : notTup tg = true ∨ notTup1 e = true) : swappedStores [tg] e env = pure none := by
  rcases h with h | h
  · cases tg <;> first | rfl | (simp [notTup] at h; done)
  · cases tg <;> first | rfl | (cases e <;> first | rfl | (simp [notTup1] at h; done))
/-- a pattern stored -/
theorem s_asg {t : T} (ok : Okx X G W) (hx : G.exc = none) (hsw : swapsWith e (some tg) pos.line X.env = pure false) (hst : swappedStores [tg] e X.env = pure none) (hq : notStar tg = true) (he : PE X e (tD G W fe)) (hg : PG X tg (tP X.K t)) :
    PS X (.Assign [tg] e pos) (tDS G W fun s H => (fe s H).st s fun d H1 => match asT t d s with | some s2 => .go (.nx s2) H1 | none => .no) := PS.mono (ps_asg he hg hsw hst (by cases tg <;> first | rfl | (simp [notStar] at hq; done))) fun D s H h => by
  obtain ⟨w, Hd, sd, rel, rs, p⟩ := h
  refine seqS rel rs p fun x Hd1 w1 H1 v e1 rel1 rs1 r1 p1 => ?_
  cases z : asT t x sd with
  | none => rw [z] at p1; exact p1.elim
  | some s2 =>
    rw [z] at p1
    exact pat_ok ok.K hx t rel1 r1 rs1 z fun H' s' e' rel' rs' _ => p1 w1 H' e' rel' s' rs'
theorem s_upk {t : T} (ok : Okx X G W) (hx : G.exc = none) (hsw : swapsWith e (some tg) pos.line X.env = pure false) (hst : swappedStores [tg] e X.env = pure none) (hq : notStar tg = true) (he : PE X e (tD G W fe)) (hg : PG X tg (tP X.K t)) :
    PS X (.Assign [tg] e pos) (tDS G W fun s H => (fe s H).st s fun d H1 => match asV H1 t d s with | some s2 => .go (.nx s2) H1 | none => .no) := PS.mono (ps_asg he hg hsw hst (by cases tg <;> first | rfl | (simp [notStar] at hq; done))) fun D s H h => by
  obtain ⟨w, Hd, sd, rel, rs, p⟩ := h
  refine seqS rel rs p fun x Hd1 w1 H1 v e1 rel1 rs1 r1 p1 => ?_
  have rw1 := repW_view rel1 r1
  cases z : asV Hd1 t x sd with
  | none => rw [z] at p1; exact p1.elim
  | some s2 =>
    rw [z] at p1
    unfold asV at z
    cases t with
    | nm i => cases z
    | tp ts =>
      dsimp only at z
      generalize viewD Hd1 x = y at z rw1
      cases y with
      | lv xs =>
        obtain ⟨q, vs, rfl, h1, h2⟩ := rw1
        exact upk_ok ok.K hx ts rel1 h2 rs1 z (SqL.of h1) fun H' s' e' rel' rs' => p1 w1 H' e' rel' s' rs'
      | _ => cases z
/-- name = [..] on one line -/
theorem s_setLc {lv : Bool} {i : Nat} {y : Str} {py lpos : Pos} {iter elt : Expr} {ifs : List Expr} {fi : Sd → HH → Rs (List D × Gd)} {scope : Scope} {own : List (Str × Nat)} {t : T} (ok : Okx X G W) (hx : G.exc = none) (hc : X.calm = true) (hy : X.N[i]? = some y) (hyl : X.env.scope.names.lookup y = some .local)
    (hsw : swapsWith (.ListComp elt [⟨tg, iter, ifs, 0⟩] scope lpos) (some (.Name y py)) pos.line X.env = pure true)
    (hfold : notSet iter = true) (hi : PI X tg iter (tDI G W fi)) (bk : BlkOk X.N X.env.scope scope own) (hsl : ∀ i ∈ slT t, i ∈ own.map (·.2))
    (hg : Blk X scope fun Y => PG Y tg (tP X.K t)) (ht : Blk X scope fun Y => PTs Y ifs (tDT G W0 ft)) (he : Blk X scope fun Y => PE Y elt (tD G W0 fe)) :
    PS X (.Assign [.Name y py] (.ListComp elt [⟨tg, iter, ifs, 0⟩] scope lpos) pos) (tDS G W fun s H => (lcF lv fi ft fe (own.map (·.2)) t s H).st s fun d H1 => match asT (.nm i) d s with | some s2 => .go (.nx s2) H1 | none => .no) :=
  PS.mono (ps_setLc hc ok.nd hy hyl hsw hi bk hg ht he (fold_of hfold)) fun D s H h => by
    obtain ⟨w, Hd, sd, rel, rs, p⟩ := h
    refine lc_read (b := lv) ok.K hx hsl s H _ ?_
    exact seqS rel rs p fun x Hd1 w1 H1 v e1 rel1 rs1 r1 p1 => p1 w1 H1 (Ext.refl _ _) rel1 _ (rs1.set hx i r1)
theorem s_sub {i : Expr} {tpos : Pos} {fx : Sd → HH → Rs D} (ok : Okx X G W) (hx : plainIx i = true) (hc : notComp e = true) (he : PE X e (tD G W fe)) (ho : PE X o (tD G W fo)) (hi : PE X i (tD G W fx)) :
    PS X (.Assign [.Subscript o i tpos] e pos) (tDS G W fun s H => (fe s H).st s fun d H1 => (fo s H1).st s fun x H2 => (fx s H2).st s fun y H3 => setE x y d s H3) :=
  PS.mono (ps_asg he (pg_sub ho hi set_list (by intro v; cases i <;> first | rfl | (simp [plainIx] at hx; done))) (sw_none (t := some (.Subscript o i tpos)) (l := pos.line) (env := X.env) hc) (by rfl) (by rfl)) fun D s H h => by
    obtain ⟨w, Hd, sd, rel, rs, p⟩ := h
    refine seqS rel rs p fun d Hd1 w1 H1 v e1 rel1 rs1 r1 p1 => ?_
    refine seqS rel1 rs1 p1 fun x Hd2 w2 H2 u e2 rel2 rs2 r2 p2 => ?_
    refine seqS rel2 rs2 p2 fun y Hd3 w3 H3 t e3 rel3 rs3 r3 p3 => ?_
    unfold setE at p3
    split at p3
    · rename_i r
      split at p3
      · rename_i xs hx
        split at p3
        · rename_i k
          split at p3
          · rename_i j hj
            have r2 := r2.ext e3
            cases r2 with
            | ref hr =>
              cases r3
              cases rel3.obj r _ hx with
              | lst h1 h2 =>
                exact ⟨_, _, k, j, rfl, rfl, h1, by rw [← h2.length]; exact hj, p3 w3 _ (ext_set rel3 hr _) (rel_set rel3 hr (h2.set ((r1.ext e2).ext e3) j)) _ (rs3.ext (ext_set rel3 hr _))⟩
          · exact p3.elim
        · exact p3.elim
      · exact p3.elim
    · exact p3.elim
theorem s_par {i j : Nat} {x y : Str} {px py pt pt2 : Pos} {kt k2 : Nat} (ok : Okx X G W) (hxc : G.exc = none) (hc : X.calm = true) (hi : X.N[i]? = some x) (hj : X.N[j]? = some y) (hij : i ≠ j) (hx : X.env.scope.names.lookup x = some .local) (hy : X.env.scope.names.lookup y = some .local)
    (hw : swappedStores [.Tuple [.Name x px, .Name y py] kt pt] (.Tuple [a, b] k2 pt2) X.env = pure (some [x, y])) (hsa : notStar a = true) (hsb : notStar b = true) (ha : PE X a (tD G W fa)) (hb : PE X b (tD G W fb)) :
    PS X (.Assign [.Tuple [.Name x px, .Name y py] kt pt] (.Tuple [a, b] k2 pt2) pos) (tDS G W fun s H => (fa s H).st s fun x H1 => (fb s H1).st s fun y H2 => .go (.nx ((s.set i (some x)).set j (some y))) H2) :=
  PS.mono (ps_par hc ok.nd hi hj hij hx hy (d_cons hsa ha (d_cons hsb hb d_nil)) hw (by rfl)) fun D s H h => by
    obtain ⟨w, Hd, sd, rel, rs, p⟩ := h
    refine ⟨w, Hd, sd, rel, rs, ?_⟩
    dsimp only at p ⊢
    generalize fa sd Hd = ra at p
    cases ra with
    | no => exact p
    | ex x H5 => exact fun w' H' e r1 c da rx => p w' H' e r1 s (rs.ext e) c da rx
    | ok d1 H1 =>
      simp only [Rs.bind_ok, Rs.st_ok] at p ⊢
      generalize fb sd H1 = rb at p
      cases rb with
      | no => exact p
      | ex x H5 => exact fun w' H' e r1 c da rx => p w' H' e r1 s (rs.ext e) c da rx
      | ok d2 H2 =>
        intro w' H' e rel' vs rvs
        cases rvs with
        | cons r1 rvs =>
          cases rvs with
          | cons r2 rvs =>
            cases rvs
            exact ⟨_, _, rfl, p w' H' e rel' _ (((rs.ext e).set hxc i r1).set hxc j r2)⟩
def ipD (G : Gr) (op : Operator) : TIp := fun x y H Q => ∃ w Hd dx dy d, Rel G w Hd H ∧ RepV G w H dx x ∧ RepV G w H dy y ∧ augD Hd op dx dy = some d ∧ Ret G w Hd H d Q
theorem ip_all (op : Operator) : PIp X op (ipD G op) := by
  intro pins s σ H x y v u Q I r1 r2 h
  obtain ⟨w, Hd, dx, dy, d, rel, h1, h2, e, q⟩ := h
  unfold augD at e
  split at e
  · cases h1; cases h2; cases e
    exact ip_add pins s σ H _ _ v u Q I r1 r2 ⟨_, _, rfl, rfl, q.here rel (.int _)⟩
  · cases h1; cases h2; cases e
    exact ip_sub pins s σ H _ _ v u Q I r1 r2 ⟨_, _, rfl, rfl, q.here rel (.int _)⟩
  · cases h1; cases h2
    split at e
    · rename_i hl
      cases e
      exact iop_add_str pins s σ H _ _ v u Q I r1 r2 ⟨_, _, rfl, rfl, by rw [str_len, str_len, ← lim_eq]; exact hl, by rw [str_app]; exact q.here rel (.str _)⟩
    · cases e
  · cases e
theorem s_aug {i : Nat} {x : Str} {op : Operator} {tpos : Pos} (ok : Okx X G W) (hxc : G.exc = none) (hi : X.N[i]? = some x) (hx : Loc X.env.scope x) (hf : X.fn x = true ∨ X.env.scope.names.lookup x = some .local) (he : PE X e (tD G W fe)) :
    PS X (.AugAssign (.Name x tpos) op e pos) (tDS G W fun s H => match s[i]? with
    | some (some x) => (fe s H).st s fun y H1 => match augD H1 op x y with
      | some z => .go (.nx (s.set i (some z))) H1
      | none => .no
    | _ => .no) := PS.mono (ps_aug ok.nd hi hx he (ip_all op) hf) fun D s H h => by
  obtain ⟨w, Hd, sd, rel, rs, p⟩ := h
  dsimp only at p
  split at p
  · rename_i d hd
    obtain ⟨v, hv, rv⟩ := rs.2 i d hd
    refine ⟨v, hv, ?_⟩
    refine seqS rel rs p fun y Hd1 w1 H1 u e1 rel1 rs1 r1 p1 => ?_
    cases z : augD Hd1 op d y with
    | none => rw [z] at p1; exact p1.elim
    | some k =>
      rw [z] at p1
      exact ⟨w1, Hd1, d, y, k, rel1, rv.ext e1, r1, z, fun w2 H2 e2 rel2 t rt => p1 w2 H2 e2 rel2 _ ((rs1.ext e2).set hxc i rt)⟩
  · exact p.elim
theorem s_ex (hc : notComp e = true) (he : PE X e (tD G W fe)) : PS X (.Expr e pos) (tDS G W fun s H => (fe s H).st s fun _ H1 => .go (.nx s) H1) := PS.mono (ps_expr he (sw_none hc)) fun D s H h => by
  obtain ⟨w, Hd, sd, rel, rs, p⟩ := h
  exact seqS rel rs p fun x Hd1 w1 H1 v e1 rel1 rs1 r1 p1 => p1 w1 H1 (Ext.refl _ _) rel1 _ rs1
theorem s_ret (he : PE X e (tD G W fe)) : PS X (.Return (some e) pos) (tDS G W fun s H => (fe s H).st s fun d H1 => .go (.rt d) H1) := PS.mono (ps_ret he) fun D s H h => by
  obtain ⟨w, Hd, sd, rel, rs, p⟩ := h
  exact seqS rel rs p fun x Hd1 w1 H1 v e1 rel1 rs1 r1 p1 => p1 w1 H1 (Ext.refl _ _) rel1 _ r1
theorem s_retN : PS X (.Return none pos) (tDS G W fun s H => .go (.rt .non) H) := PS.mono ps_retN fun D s H h => by
  obtain ⟨w, Hd, sd, rel, rs, p⟩ := h
  exact p w H (Ext.refl _ _) rel _ .non
theorem s_ite {p q : List Stmt} (hc : PT X c (tDT G W ft)) (ha : PSs X p (tDS G W f)) (hb : PSs X q (tDS G W g)) : PS X (.If c p q pos) (tDS G W fun s H => (ft s H).st s fun k H1 => if k then f s H1 else g s H1) := PS.mono (ps_if hc ha hb) fun D s H h => by
  obtain ⟨w, Hd, sd, rel, rs, p⟩ := h
  refine seqS rel rs p fun x Hd1 w1 H1 v e1 rel1 rs1 r1 p1 => ?_
  cases (show v = x from r1)
  cases x with
  | true => exact iteT ⟨w1, Hd1, sd, rel1, rs1, p1⟩
  | false => exact iteF ⟨w1, Hd1, sd, rel1, rs1, p1⟩
theorem s_brk : PS X (.Break pos) (tDS G W fun s H => .go (.bk s) H) := PS.mono ps_break fun D s H h => by
  obtain ⟨w, Hd, sd, rel, rs, p⟩ := h
  exact p w H (Ext.refl _ _) rel _ rs
theorem s_cnt : PS X (.Continue pos) (tDS G W fun s H => .go (.ct s) H) := PS.mono ps_continue fun D s H h => by
  obtain ⟨w, Hd, sd, rel, rs, p⟩ := h
  exact p w H (Ext.refl _ _) rel _ rs
theorem s_pas : PS X (.Pass pos) (tDS G W fun s H => .go (.nx s) H) := PS.mono ps_pass fun D s H h => by
  obtain ⟨w, Hd, sd, rel, rs, p⟩ := h
  exact p w H (Ext.refl _ _) rel _ rs
theorem s_doc {x : Str} {j p1 p2} : PS X (.Expr (.Constant (.str x) j p1) p2) (tDS G W fun s H => .go (.nx s) H) := PS.mono ps_doc fun D s H h => by
  obtain ⟨w, Hd, sd, rel, rs, p⟩ := h
  exact p w H (Ext.refl _ _) rel _ rs
theorem s_never : PS X st (tDS G W fun _ _ => .no) := PS.mono ps_never fun D s H h => by
  obtain ⟨w, Hd, sd, rel, rs, p⟩ := h
  exact p.elim
end
end DI
namespace DI
open PySem PySem.Spec PyProof.Rows L2

theorem eqK_key : ∀ a b : L2.Key, eqK (keyD a) (keyD b) = decide (a = b)
  | .inl i, .inl j => by simp [keyD, eqK]
  | .inr x, .inr y => by
    simp only [keyD, eqK]
    refine decide_eq_decide.mpr ⟨fun h => ?_, fun h => by cases h; rfl⟩
    cases x; cases y
    simp only [Array.toList_inj] at h
    cases h; rfl
  | .inl i, .inr y => by simp [keyD, eqK]
  | .inr x, .inl j => by simp [keyD, eqK]
theorem key_rep {G : Gr} {w : Vw} {H : Hp} {d : D} {v : V} (r : RepV G w H d v) (h : keyOk d = true) : ∃ k : L2.Key, d = keyD k ∧ v = kV k := by
  cases r <;> first | (simp [keyOk] at h; done) | skip
  · exact ⟨.inl _, rfl, rfl⟩
  · rename_i x
    exact ⟨.inr ⟨x.toArray⟩, by simp [keyD], rfl⟩
section
variable {G : Gr} {w : Vw} {H : Hp}
theorem dget_some {k : L2.Key} : ∀ {kvs : List (L2.Key × V)} {ds : List D} {d : D}, RepVs G w H ds (kvs.map fun p => p.2) → dgetL (keysD kvs) ds (keyD k) = some d → ∃ v, valV kvs k = some v ∧ RepV G w H d v
  | [], _, _, r, h => by cases r; cases h
  | p :: t, _, _, r, h => by
    cases r with
    | cons r1 r2 =>
      simp only [keysD, List.map_cons, dgetL] at h
      rw [eqK_key] at h
      by_cases e : p.1 = k
      · rw [if_pos (by simpa using e)] at h
        cases h
        exact ⟨_, valV_pos e, r1⟩
      · rw [if_neg (by simpa using e)] at h
        rw [valV_neg e]
        exact dget_some r2 h
theorem dget_none {k : L2.Key} : ∀ {kvs : List (L2.Key × V)} {ds : List D}, RepVs G w H ds (kvs.map fun p => p.2) → dgetL (keysD kvs) ds (keyD k) = none → valV kvs k = none
  | [], _, _, _ => rfl
  | p :: t, _, r, h => by
    cases r with
    | cons r1 r2 =>
      simp only [keysD, List.map_cons, dgetL] at h
      rw [eqK_key] at h
      by_cases e : p.1 = k
      · rw [if_pos (by simpa using e)] at h; cases h
      · rw [if_neg (by simpa using e)] at h
        rw [valV_neg e]
        exact dget_none r2 h
theorem dset_rep {k : L2.Key} {d : D} {v : V} (hv : RepV G w H d v) : ∀ {kvs : List (L2.Key × V)} {ds : List D}, RepVs G w H ds (kvs.map fun p => p.2) →
    RepVs G w H (dsetL (keysD kvs) ds (keyD k) d) ((kvs.map fun kv => if kv.1 = k then (kv.1, v) else kv).map fun p => p.2)
  | [], _, r => by cases r; exact .nil
  | p :: t, _, r => by
    cases r with
    | cons r1 r2 =>
      simp only [keysD, List.map_cons, dsetL]
      rw [eqK_key]
      by_cases e : p.1 = k
      · rw [if_pos (by simpa using e), if_pos e]
        exact .cons hv (dset_rep hv r2)
      · rw [if_neg (by simpa using e), if_neg e]
        exact .cons r1 (dset_rep hv r2)
theorem keys_set {k : L2.Key} {v : V} : ∀ kvs : List (L2.Key × V), keysD (kvs.map fun kv => if kv.1 = k then (kv.1, v) else kv) = keysD kvs
  | [] => rfl
  | p :: t => by
    have ih := keys_set (k := k) (v := v) t
    simp only [keysD, List.map_cons] at ih ⊢
    rw [ih]
    by_cases e : p.1 = k
    · rw [if_pos e]
    · rw [if_neg e]
theorem repVs_snoc {ds : List D} {vs : List V} {d : D} {v : V} (h : RepVs G w H ds vs) (r : RepV G w H d v) : RepVs G w H (ds ++ [d]) (vs ++ [v]) := h.append (.cons r .nil)
theorem dput_rep {k : L2.Key} {d : D} {v : V} {kvs : List (L2.Key × V)} {ds : List D} (hv : RepV G w H d v) (r : RepVs G w H ds (kvs.map fun p => p.2)) :
    (dputL (keysD kvs) ds (keyD k) d).1 = keysD (putK kvs k v) ∧ RepVs G w H (dputL (keysD kvs) ds (keyD k) d).2 ((putK kvs k v).map fun p => p.2) := by
  unfold dputL putK
  rw [valV_any]
  cases q : dgetL (keysD kvs) ds (keyD k) with
  | none =>
    rw [dget_none r q]
    simp only [Option.isSome_none]
    rw [if_neg (by decide), if_neg (by decide)]
    refine ⟨by simp [keysD], ?_⟩
    rw [List.map_append]
    exact repVs_snoc r hv
  | some d0 =>
    obtain ⟨v0, h0, _⟩ := dget_some r q
    rw [h0]
    simp only [Option.isSome_some]
    rw [if_pos trivial, if_pos trivial]
    exact ⟨(keys_set kvs).symm, dset_rep hv r⟩
end
section
variable {X : Cx} {G : Gr} {W : WX} {pos : Pos} {a b c e o : Expr} {fa fb fc fe fo : Sd → HH → Rs D}
theorem noSl_of {i : Expr} (h : plainIx i = true) : NoSl i := by
  intro o v
  cases i <;> first | rfl | (simp [plainIx] at h; done)
theorem un1 (ok : Okx X G W) : X.A.units + 1 < cLine := Nat.lt_of_le_of_lt (Nat.add_le_add_left (by decide) _) ok.un
theorem d_dnew : PE X (.Dict [] [] pos) (tD G W fun s H => .ok (.ref H.length) (H ++ [.dic [] []])) := PE.mono pe_dnewK fun s H Q h => by
  obtain ⟨w, Hd, sd, rel, rs, p⟩ := h
  intro q hq
  have z : RepV G (w.add q) (upd H q (.dK [])) (.ref Hd.length) (.ref q) := by
    have := RepV.ref (G := G) (w := w.add q) (H := upd H q (.dK [])) (r := w.n) (Nat.lt_succ_self _)
    rw [add_n] at this
    rw [← rel.n]
    exact this
  exact p _ _ (ext_add rel hq _) (rel_addO rel hq (.dic (kvs := []) upd_same .nil)) _ z
theorem d_dget (ok : Okx X G W) (hp : plainIx b = true) (ha : PE X a (tD G W fa)) (hb : PE X b (tD G W fb)) :
    PE X (.Subscript a b pos) (tD G W fun s H => (fa s H).bind fun x H1 => (fb s H1).bind fun y H2 => Rs.ofO (dgetD (viewD H2 x) y) H2) := PE.mono (pe_dget (un1 ok) ha hb (noSl_of hp)) fun s H Q h => by
  obtain ⟨w, Hd, sd, rel, rs, p⟩ := h
  refine seq rel rs p fun x Hd1 w1 H1 v e1 rel1 rs1 r1 p1 => ?_
  refine seq rel1 rs1 p1 fun y Hd2 w2 H2 u e2 rel2 rs2 r2 p2 => ?_
  obtain ⟨d, hd, q⟩ := ofO_post p2
  have rx := repW_view rel2 (r1.ext e2)
  revert hd rx
  generalize viewD Hd2 x = x'
  intro hd rx
  unfold dgetD at hd
  split at hd
  · split at hd
    · rename_i hk
      obtain ⟨k, rfl, rfl⟩ := key_rep r2 hk
      obtain ⟨ad, kvs, rfl, h1, rfl, h2⟩ := rx
      obtain ⟨vv, h3, h4⟩ := dget_some h2 hd
      exact ⟨ad, vv, rfl, h3 ▸ DGet.k h1, q w2 H2 (Ext.refl _ _) rel2 vv h4⟩
    · cases hd
  · cases hd
theorem din_of (ok : Okx X G W) (ha : PE X a (tD G W fa)) (hb : PE X b (tD G W fb)) {w : Vw} {Hd : HH} {H : Hp} {x y : DI.D} {v u : V} {k : Bool} (rel : Rel G w Hd H) (ry : RepV G w H y v) (rx : RepV G w H x u) (h : dinD (viewD Hd x) y = some k) : ∃ a o, u = .ref a ∧ DGet H a v o ∧ o.isSome = k := by
  have rx := repW_view rel rx
  revert h rx
  generalize viewD Hd x = x'
  intro h rx
  unfold dinD at h
  split at h
  · split at h
    · rename_i hk
      obtain ⟨k', rfl, rfl⟩ := key_rep ry hk
      obtain ⟨ad, kvs, rfl, h1, rfl, h2⟩ := rx
      refine ⟨ad, _, rfl, DGet.k h1, ?_⟩
      cases hq : dgetL (keysD kvs) _ (keyD k') with
      | none =>
        rw [hq] at h
        rw [dget_none h2 hq]
        exact Option.some.inj h
      | some d0 =>
        rw [hq] at h
        obtain ⟨vv, h3, h4⟩ := dget_some h2 hq
        rw [h3]
        exact Option.some.inj h
    · cases h
  · cases h
theorem d_din (ok : Okx X G W) (hm : notSet b = true) (ha : PE X a (tD G W fa)) (hb : PE X b (tD G W fb)) :
    PE X (.Compare a [.In] [b] pos) (tD G W fun s H => (fa s H).bind fun y H1 => (fb s H1).bind fun x H2 => Rs.ofO ((dinD (viewD H2 x) y).map .bl) H2) := PE.mono (pe_cmp (pc_din (un1 ok) ha hb) (nomark_of hm)) fun s H Q h => by
  obtain ⟨w, Hd, sd, rel, rs, p⟩ := h
  refine seq rel rs p fun y Hd1 w1 H1 v e1 rel1 rs1 r1 p1 => ?_
  refine seq rel1 rs1 p1 fun x Hd2 w2 H2 u e2 rel2 rs2 r2 p2 => ?_
  obtain ⟨d, hd, q⟩ := ofO_post p2
  cases e : dinD (viewD Hd2 x) y with
  | none => rw [e] at hd; cases hd
  | some k =>
    rw [e] at hd
    cases hd
    obtain ⟨ad, o, rfl, g, ho⟩ := din_of ok ha hb rel2 (r1.ext e2) r2 e
    exact ⟨ad, o, rfl, g, by rw [ho]; exact q w2 H2 (Ext.refl _ _) rel2 _ (.bl _)⟩
theorem t_din (ok : Okx X G W) (hm : notSet b = true) (ha : PE X a (tD G W fa)) (hb : PE X b (tD G W fb)) :
    PT X (.Compare a [.In] [b] pos) (tDT G W fun s H => (fa s H).bind fun y H1 => (fb s H1).bind fun x H2 => Rs.ofO (dinD (viewD H2 x) y) H2) := PT.mono (pt_cmp (pc_din (un1 ok) ha hb) (nomark_of hm)) fun s H Q h => by
  obtain ⟨w, Hd, sd, rel, rs, p⟩ := h
  refine seq rel rs p fun y Hd1 w1 H1 v e1 rel1 rs1 r1 p1 => ?_
  refine seq rel1 rs1 p1 fun x Hd2 w2 H2 u e2 rel2 rs2 r2 p2 => ?_
  obtain ⟨d, hd, q⟩ := ofO_post p2
  obtain ⟨ad, o, rfl, g, ho⟩ := din_of ok ha hb rel2 (r1.ext e2) r2 hd
  exact ⟨ad, o, rfl, g, o.isSome, rfl, q w2 H2 (Ext.refl _ _) rel2 _ ho⟩
theorem d_dget2 {apos : Pos} {n : Str} (ok : Okx X G W) (hn : n = "get") (hbs : plainBase a = true) (hs1 : notStar b = true) (hs2 : notStar c = true) (hl : (apos.endLine == pos.line) = true)
    (ha : PE X a (tD G W fa)) (hb : PE X b (tD G W fb)) (hc : PE X c (tD G W fc)) :
    PE X (.Call (.Attribute a n apos) [b, c] [] pos) (tD G W fun s H => (fa s H).bind fun x H1 => if isDv (viewD H1 x) then (fb s H1).bind fun y H2 => (fc s H2).bind fun z H3 => Rs.ofO (dget2D (viewD H3 x) y z) H3 else .no) := by
  subst hn
  have tr : backTo pos (starEach [b, c] X.env) = [(false, eval b X.env), (false, eval c X.env)] := by
    rw [star_cons hs1, star_cons hs2] <;> rfl
  have m : M2 X a "get" apos b c pos := ⟨base_ok hbs, by rw [tr] <;> rfl, hl, tr⟩
  refine PE.mono (pe_dget2 (un1 ok) ha hb hc m) fun s H Q h => ?_
  obtain ⟨w, Hd, sd, rel, rs, p⟩ := h
  refine seq rel rs p fun x Hd1 w1 H1 v e1 rel1 rs1 r1 p1 => ?_
  split at p1
  · rename_i hdv
    have rx1 := repW_view rel1 r1
    cases hvx : viewD Hd1 x <;> (rw [hvx] at hdv rx1) <;> first | (simp [isDv] at hdv; done) | skip
    obtain ⟨ad, kvs, rfl, h1, _, _⟩ := rx1
    refine ⟨ad, rfl, .inl ⟨kvs, .inl h1⟩, ?_⟩
    refine seq rel1 rs1 p1 fun y Hd2 w2 H2 u e2 rel2 rs2 r2 p2 => ?_
    refine seq rel2 rs2 p2 fun z Hd3 w3 H3 t e3 rel3 rs3 r3 p3 => ?_
    obtain ⟨d, hd, q⟩ := ofO_post p3
    have rx := repW_view rel3 ((r1.ext e2).ext e3)
    revert hd rx
    generalize viewD Hd3 x = x'
    intro hd rx
    unfold dget2D at hd
    split at hd
    · split at hd
      · rename_i hk
        obtain ⟨k, rfl, rfl⟩ := key_rep r2 hk
        obtain ⟨ad', kvs', hae, h1', rfl, h2⟩ := rx
        cases hae
        refine ⟨_, DGet.k h1', ?_⟩
        cases hq : dgetL (keysD kvs') _ (keyD k) with
        | none =>
          rw [hq] at hd
          cases hd
          rw [dget_none h2 hq]
          exact q w3 H3 (Ext.refl _ _) rel3 _ r3
        | some d0 =>
          rw [hq] at hd
          cases hd
          obtain ⟨vv, h3, h4⟩ := dget_some h2 hq
          rw [h3]
          exact q w3 H3 (Ext.refl _ _) rel3 _ h4
      · cases hd
    · cases hd
  · exact p1.elim
theorem s_dput {i : Expr} {tpos : Pos} {fx : Sd → HH → Rs D} (ok : Okx X G W) (hc : notComp e = true) (he : PE X e (tD G W fe)) (ho : PE X o (tD G W fo)) (hi : PE X i (tD G W fx)) :
    PS X (.Assign [.Subscript o i tpos] e pos) (tDS G W fun s H => (fe s H).st s fun d H1 => (fo s H1).st s fun x H2 => (fx s H2).st s fun y H3 => putE x y d s H3) :=
  PS.mono (ps_dput (un1 ok) ho hi he (sw_none hc)) fun D s H h => by
    obtain ⟨w, Hd, sd, rel, rs, p⟩ := h
    refine seqS rel rs p fun d Hd1 w1 H1 v e1 rel1 rs1 r1 p1 => ?_
    refine seqS rel1 rs1 p1 fun x Hd2 w2 H2 u e2 rel2 rs2 r2 p2 => ?_
    refine seqS rel2 rs2 p2 fun y Hd3 w3 H3 t e3 rel3 rs3 r3 p3 => ?_
    unfold putE at p3
    split at p3
    · rename_i r
      split at p3
      · rename_i ks vs hx
        split at p3
        · rename_i hk
          obtain ⟨k, rfl, rfl⟩ := key_rep r3 hk.1
          have r2 := r2.ext e3
          cases r2 with
          | ref hr =>
            have ob := rel3.obj r _ hx
            revert hk p3
            cases ob with
            | @dic ds kvs h1 h2 =>
            intro hk p3
            obtain ⟨z1, z2⟩ := dput_rep (k := k) ((r1.ext e2).ext e3) h2
            have hl : kvs.length < sizeLine := by
              have := hk.2
              rw [keysD, List.length_map, lim_eq] at this
              exact this
            refine ⟨_, _, rfl, DPut.k h1 hl, ?_⟩
            rw [z1] at p3
            exact p3 w3 _ (ext_set rel3 hr _) (rel_setO rel3 hr (.dic upd_same (z2.ext (ext_set rel3 hr _)))) _ (rs3.ext (ext_set rel3 hr _))
        · exact p3.elim
      · exact p3.elim
    · exact p3.elim
end
end DI
namespace DI
open PySem PySem.Spec PyProof.Rows L2
section
variable {X : Cx} {G : Gr} {W : WX} {pos p p2 pos2 : Pos} {a b : Expr} {fa fb : Sd → HH → Rs D}
theorem rgs_rep {G : Gr} {w : Vw} {H : Hp} (a : Int) : ∀ l : List Nat, RepVs G w H (l.map fun (k : Nat) => D.int (a + (k : Nat))) (l.map fun (k : Nat) => V.int (a + (k : Nat)))
  | [] => .nil
  | k :: r => .cons (.int _) (rgs_rep a r)
theorem d_lrg1 (hc : X.calm = true) (hg : Gl X "list") (hm : X.mg "list" = none) (hg2 : Gl X "range") (hm2 : X.mg "range" = none) (hs : notStar a = true) (ha : PE X a (tD G W fa)) :
    PE X (.Call (.Name "list" p) [.Call (.Name "range" p2) [a] [] pos2] [] pos) (tD G W fun s H => (fa s H).bind fun x H1 => Rs.ofO (lrgD [x]) H1) := PE.mono (pe_listRg hc hg hm (prg_1 hg2 hm2 ha (star_cons hs))) fun s H Q h => by
  obtain ⟨w, Hd, sd, rel, rs, p⟩ := h
  refine seq rel rs p fun x Hd1 w1 H1 v e1 rel1 rs1 r1 p1 => ?_
  obtain ⟨d, hd, q⟩ := ofO_post p1
  unfold lrgD rangeD rangeD1 at hd
  dsimp only at hd
  cases x <;> first | (simp at hd; done) | skip
  rename_i j
  have r1 : RepV G w1 H1 (.int j) v := r1
  cases r1
  dsimp only at hd
  by_cases hb : (decide (-(2 ^ 62) ≤ j) && decide (j < 2 ^ 62)) = true
  · rw [if_pos hb] at hd
    dsimp only at hd
    split at hd
    · rename_i hl
      cases hd
      simp only [Bool.and_eq_true, decide_eq_true_iff] at hb
      rw [List.length_map, List.length_range] at hl
      refine ⟨j, rfl, ⟨by omega, by omega, hb.1, hb.2, by rw [Int.sub_zero]; exact hl⟩, ?_⟩
      refine Ret.lv (fun w' H' e r v rv => q w' H' e r v rv) rel1 ?_
      have := rgs_rep (G := G) (w := w1) (H := H1) 0 (List.range j.toNat)
      unfold rgV
      rw [Int.sub_zero]
      simpa using this
    · cases hd
  · rw [if_neg hb] at hd
    cases hd
theorem d_lrg2 (hc : X.calm = true) (hg : Gl X "list") (hm : X.mg "list" = none) (hg2 : Gl X "range") (hm2 : X.mg "range" = none) (hs : notStar a = true) (hs2 : notStar b = true) (ha : PE X a (tD G W fa)) (hb : PE X b (tD G W fb)) :
    PE X (.Call (.Name "list" p) [.Call (.Name "range" p2) [a, b] [] pos2] [] pos) (tD G W fun s H => (fa s H).bind fun x H1 => (fb s H1).bind fun y H2 => Rs.ofO (lrgD [x, y]) H2) := PE.mono (pe_listRg hc hg hm (prg_2 hg2 hm2 ha hb (star_cons hs) (star_cons hs2) (by rw [star_cons hs2] <;> rfl))) fun s H Q h => by
  obtain ⟨w, Hd, sd, rel, rs, p⟩ := h
  refine seq rel rs p fun x Hd1 w1 H1 v e1 rel1 rs1 r1 p1 => ?_
  refine seq rel1 rs1 p1 fun y Hd2 w2 H2 u e2 rel2 rs2 r2 p2 => ?_
  obtain ⟨d, hd, q⟩ := ofO_post p2
  unfold lrgD rangeD rangeD2 at hd
  dsimp only at hd
  cases x <;> first | (simp at hd; done) | skip
  cases y <;> first | (simp at hd; done) | skip
  rename_i i j
  have r1 : RepV G w1 H1 (.int i) v := r1
  have r2 : RepV G w2 H2 (.int j) u := r2
  cases r1
  cases r2
  dsimp only at hd
  by_cases hb : (decide (-(2 ^ 62) ≤ i) && decide (i < 2 ^ 62) && decide (-(2 ^ 62) ≤ j) && decide (j < 2 ^ 62)) = true
  · rw [if_pos hb] at hd
    dsimp only at hd
    split at hd
    · rename_i hl
      cases hd
      simp only [Bool.and_eq_true, decide_eq_true_iff] at hb
      rw [List.length_map, List.length_range] at hl
      refine ⟨i, j, rfl, rfl, ⟨hb.1.1.1, hb.1.1.2, hb.1.2, hb.2, hl⟩, ?_⟩
      exact Ret.lv (fun w' H' e r v rv => q w' H' e r v rv) rel2 (rgs_rep i (List.range (j - i).toNat))
    · cases hd
  · rw [if_neg hb] at hd
    cases hd
end
end DI
namespace DI
open PySem PySem.Spec PyProof.Rows L2
section
variable {G : Gr} {w : Vw} {H : Hp} {D : Addr}
theorem Rel.prd {Hd : HH} {kvs : List (L2.Key × V)} {ds : List DI.D} (r : Rel G w Hd H) (hx : w.xx D) (hD : H D = some (.dK kvs)) (h : RepVs G w H ds (kvs.map fun p => p.2)) : Rel G (w.pr D) (Hd ++ [.dic (keysD kvs) ds]) H := by
  have nO := (r.xx D hx).2
  refine ⟨by rw [List.length_append]; show w.n + 1 = _; rw [r.n]; rfl, fun i j hi hj q => ?_, fun i o hi => ?_, fun a h => ⟨(r.xx a h.1).1, ?_⟩⟩
  · have hi : i < w.n + 1 := hi
    have hj : j < w.n + 1 := hj
    by_cases h1 : i < w.n
    · by_cases h2 : j < w.n
      · rw [show (w.pr D).mu i = w.mu i from add_lt h1, show (w.pr D).mu j = w.mu j from add_lt h2] at q; exact r.inj i j h1 h2 q
      · have : j = w.n := by omega
        subst this
        rw [show (w.pr D).mu i = w.mu i from add_lt h1, show (w.pr D).mu w.n = D from add_n] at q
        exact absurd ⟨i, h1, q⟩ nO
    · have : i = w.n := by omega
      subst this
      by_cases h2 : j < w.n
      · rw [show (w.pr D).mu j = w.mu j from add_lt h2, show (w.pr D).mu w.n = D from add_n] at q
        exact absurd ⟨j, h2, q.symm⟩ nO
      · omega
  · by_cases h1 : i < Hd.length
    · rw [List.getElem?_append_left h1] at hi
      rw [show (w.pr D).mu i = w.mu i from add_lt (by rw [r.n]; exact h1)]
      cases r.obj i o hi with
      | lst q1 q2 => exact .lst q1 (q2.pr hx)
      | dic q1 q2 => exact .dic q1 (q2.pr hx)
    · have hlt : i < (Hd ++ [HD.dic (keysD kvs) ds]).length := (List.getElem?_eq_some_iff.mp hi).1
      have : i = Hd.length := by rw [List.length_append] at hlt; simp at hlt; omega
      subst this
      rw [List.getElem?_append_right (Nat.le_refl _)] at hi
      simp at hi
      subst hi
      rw [← r.n, show (w.pr D).mu w.n = D from add_n]
      exact .dic hD (h.pr hx)
  · rintro ⟨i, hi, z⟩
    have hi : i < w.n + 1 := hi
    by_cases h1 : i < w.n
    · rw [show (w.pr D).mu i = w.mu i from add_lt h1] at z
      exact (r.xx a h.1).2 ⟨i, h1, z⟩
    · have : i = w.n := by omega
      subst this
      rw [show (w.pr D).mu w.n = D from add_n] at z
      exact h.2 z.symm
end
section
variable {J : It} {n : Nat} {GG : Hp → Prop} {Y : Nat → Hp → V → Hp → Prop}
theorem dc_it (wk : Walk J n GG Y) {g : TG} {tt : TT} {tk tv : TE} {vs : List Nat} {σ : L2.St} {Hs : Hp} {D : Addr} {Qd : Hp → Prop} (Pv : Nat → Hp → Prop) (p0 : Pv 0 (upd Hs D (.dK []))) (pG : ∀ i H, i ≤ n → Pv i H → GG H)
    (ps : ∀ i x H H', i < n → Pv i H → Y i H x H' → g x (wipe σ vs) H' fun s2 Ha => wipe s2 vs = wipe σ vs ∧ tt s2 Ha fun b Hb =>
      if b = true then tk s2 Hb fun y Hc => tv s2 Hc fun z He => ∃ kvs k, y = kV k ∧ He D = some (.dK kvs) ∧ kvs.length < sizeLine ∧ Pv (i + 1) (upd He D (.dK (putK kvs k z))) else Pv (i + 1) Hb) (pd : ∀ H, Pv n H → Qd H) :
    ∃ W : Nat → Nat → Hp → Prop, (∃ m, W 0 m (upd Hs D (.dK []))) ∧ ∀ i m H, W i m H →
      (J.stop i H ∧ Qd H) ∨ (J.go i H ∧ ∃ Nx : Hp → Prop, (∀ H', Nx H' → ∃ m', m' < m ∧ W (i + 1) m' H') ∧ ∀ x H', J.yld i H x H' → g x (wipe σ vs) H' fun s2 Ha => wipe s2 vs = wipe σ vs ∧ tt s2 Ha fun b Hb =>
        if b = true then tk s2 Hb fun y Hc => tv s2 Hc fun z He => ∃ kvs k, y = kV k ∧ He D = some (.dK kvs) ∧ kvs.length < sizeLine ∧ Nx (upd He D (.dK (putK kvs k z))) else Nx Hb) := by
  refine ⟨fun a b H => (b = n - a ∧ a ≤ n) ∧ Pv a H, ⟨n, ⟨by simp, Nat.zero_le _⟩, p0⟩, ?_⟩
  intro a b H hh
  obtain ⟨⟨e, hi⟩, p⟩ := hh
  have q := pG a H hi p
  rcases Nat.lt_or_ge a n with hlt | hge
  · right
    exact ⟨wk.goes a H hlt q, Pv (a + 1), fun H' p' => ⟨n - (a + 1), by omega, ⟨rfl, hlt⟩, p'⟩, fun x H' y => ps a x H H' hlt p (wk.yields a H x H' hlt q y)⟩
  · left
    have e : a = n := by omega
    subst e
    exact ⟨wk.stops H q, pd H p⟩
end
section
variable {X : Cx} {G : Gr} {W : WX} {pos p : Pos} {tg iter kx vx : Expr} {ifs : List Expr} {fi : Sd → HH → Rs (List D × Gd)} {ft : Sd → HH → Rs Bool} {fk fv : Sd → HH → Rs D}
def dcF (fi : Sd → HH → Rs (List D × Gd)) (ft : Sd → HH → Rs Bool) (fk fv : Sd → HH → Rs D) (own : List Nat) (t : T) : Sd → HH → Rs D := fun s H =>
  (fi s H).bind fun p H1 => (dcL p.2 (asT t) ft fk fv (wipeD s own) p.1 ([], []) H1).bind fun kv H2 => .ok (.ref H2.length) (H2 ++ [.dic kv.1 kv.2])
theorem dc_read {own : List Nat} {t : T} (hK : G.K = X.K) (hxc : G.exc = none) (hsl : ∀ i ∈ slT t, i ∈ own) : ∀ s H Q, tD G W (dcF fi ft fk fv own t) s H Q → tDc (tDI G W fi) (tP X.K t) (tDT G W0 ft) (tD G W0 fk) (tD G W0 fv) own s H Q := fun σ H Q h => by
  obtain ⟨w, Hd, sd, rel, rs, p⟩ := h
  refine seq rel rs p fun q Hd1 w1 H1 J e1 rel1 rs1 wk p1 => ?_
  obtain ⟨xs, g⟩ := q
  dsimp only at p1
  have wk : Walk J xs.length (GdP G w1 H1 g) (YdP G w1 H1 g xs) := wk
  intro D hD
  generalize hr : dcL g (asT t) ft fk fv (wipeD sd own) xs ([], []) Hd1 = r at p1
  have hD1 : ¬ w1.L D := rel1.notL hD
  have gdL : ∀ {l acc Hd2}, dcL g (asT t) ft fk fv (wipeD sd own) l acc Hd2 = r → gdOk g Hd2 = true := fun {l acc Hd2} e => by
    cases hg : gdOk g Hd2 with
    | true => rfl
    | false =>
      have : dcL g (asT t) ft fk fv (wipeD sd own) l acc Hd2 = .no := by cases l <;> simp [dcL, hg]
      rw [this] at e
      subst e
      exact p1.elim
  have nor : r ≠ .no := fun e => by subst e; exact p1
  refine dc_it wk (fun i H => ∃ w2 Hd2 ds kvs, w2.xx D ∧ Ext w1 w2 H1 H ∧ Rel G w2 Hd2 H ∧ H D = some (.dK kvs) ∧ RepVs G w2 H ds (kvs.map fun p => p.2) ∧ dcL g (asT t) ft fk fv (wipeD sd own) (xs.drop i) (keysD kvs, ds) Hd2 = r) ?_ ?_ ?_ ?_
  · refine ⟨w1.pl D, Hd1, [], [], .inr rfl, ?_, rel1.tun rfl rfl (pl_tun hD) (Vw.notO hD1) (fun a h => h), upd_same, .nil, hr⟩
    have e := ext_new rel1 hD (.dK [])
    exact ⟨e.le, e.mu, e.fresh, e.keep, e.there, fun a h => h.elim .inl fun z => .inr (z ▸ hD), fun a h => .inl h⟩
  · rintro i H _ ⟨w2, Hd2, ds, kvs, hx, e2, rel2, hacc, rv, e⟩
    exact ⟨w2, Hd2, e2, rel2, gdL e⟩
  · rintro i x H H' hi ⟨w2, Hd2, ds, kvs, hx, e2, rel2, hacc, racc, e⟩ y
    have hgd := gdL e
    obtain ⟨e3, rel3, d, hd, rv⟩ := y w2 Hd2 e2 rel2 hgd
    rw [drop_at hd] at e
    simp only [dcL, hgd, if_true] at e
    have hacc3 : H' D = some (.dK kvs) := e3.keep _ _ (rel2.xx D hx).2 hacc
    cases z : asT t d (wipeD sd own) with
    | none => rw [z] at e; exact absurd e.symm nor
    | some s1 =>
      rw [z] at e
      dsimp only at e
      refine pat_ok hK hxc t rel3 rv ((rs1.ext (e2.trans e3)).wipe hxc own) z fun H4 σ2 e4 rel4 rs4 on => ⟨?_, ?_⟩
      · rw [on.wipe hsl, wipe_idem]
      · refine ⟨w2, Hd2, s1, rel4, rs4, ?_⟩
        have hacc4 : H4 D = some (.dK kvs) := e4.keep _ _ (rel2.xx D hx).2 hacc3
        generalize ft s1 Hd2 = rt at e
        cases rt with
        | no => exact absurd e.symm nor
        | ex x H5 => exact absurd e.symm nor
        | ok b H5 =>
          rw [Rs.bindN_ok] at e
          intro w5 H5' e5 rel5 v rvb
          cases (show v = b from rvb)
          have hacc5 : H5' D = some (.dK kvs) := e5.keep _ _ (rel2.xx D hx).2 hacc4
          have hx5 : w5.xx D := e5.xl D hx
          have racc5 := ((racc.ext e3).ext e4).ext e5
          have e15 := ((e2.trans e3).trans e4).trans e5
          cases b with
          | false => exact iteF ⟨w5, H5, ds, kvs, hx5, e15, rel5, hacc5, racc5, e⟩
          | true =>
            refine iteT ⟨w5, H5, s1, rel5, rs4.ext e5, ?_⟩
            simp only [if_true] at e
            generalize fk s1 H5 = re at e
            cases re with
            | no => exact absurd e.symm nor
            | ex x H6 => exact absurd e.symm nor
            | ok d6 H6 =>
              rw [Rs.bindN_ok] at e
              intro w6 H6' e6 rel6 v6 rv6
              have hx6 : w6.xx D := e6.xl D hx5
              have hacc6 : H6' D = some (.dK kvs) := e6.keep _ _ (rel5.xx D hx5).2 hacc5
              have racc6 := racc5.ext e6
              refine ⟨w6, H6, s1, rel6, (rs4.ext e5).ext e6, ?_⟩
              generalize fv s1 H6 = rz at e
              cases rz with
              | no => exact absurd e.symm nor
              | ex x H7 => exact absurd e.symm nor
              | ok d7 H7 =>
                rw [Rs.bindN_ok] at e
                intro w7 H7' e7 rel7 v7 rv7
                split at e
                · rename_i hlt
                  obtain ⟨hkey, hlt⟩ := hlt
                  have hx7 : w7.xx D := e7.xl D hx6
                  have racc7 := racc6.ext e7
                  have hacc7 : H7' D = some (.dK kvs) := e7.keep _ _ (rel6.xx D hx6).2 hacc6
                  obtain ⟨k, rfl, rfl⟩ := key_rep rv6 hkey
                  obtain ⟨p1, p2⟩ := dput_rep (k := k) rv7 racc7
                  have p2 := p2.tun (o := .dK (putK kvs k v7)) rfl rfl (x_tun hx7)
                  refine ⟨kvs, k, rfl, hacc7, by rw [← lim_eq]; simpa [keysD] using hlt, w7, H7, (dputL (keysD kvs) ds (keyD k) d7).2, putK kvs k v7, hx7, ?_, ?_, upd_same, p2, by rw [← p1]; exact e⟩
                  · have e16 := (e15.trans e6).trans e7
                    refine ⟨e16.le, e16.mu, e16.fresh, fun a o h1 h2 => ?_, fun a h => ?_, e16.xx, e16.xl⟩
                    · rw [upd_ne (ne_of_none h2 hD)]
                      exact e16.keep a o h1 h2
                    · by_cases q : a = D
                      · subst q; rw [upd_same]; simp
                      · rw [upd_ne q]; exact e16.there a h
                  · exact rel7.tun rfl rfl (x_tun hx7) (rel7.xx D hx7).2 fun a h => .inl h
                · exact absurd e.symm nor
  · rintro H ⟨w2, Hd2, ds, kvs, hx, e2, rel2, hacc, racc, e⟩
    have hgd := gdL e
    rw [List.drop_length] at e
    simp only [dcL, hgd, if_true] at e
    subst e
    have z : RepV G (w2.pr D) H (.ref Hd2.length) (.ref D) := by
      have := RepV.ref (G := G) (w := w2.pr D) (H := H) (r := w2.n) (Nat.lt_succ_self _)
      rw [show (w2.pr D).mu w2.n = D from add_n] at this
      rw [← rel2.n]
      exact this
    refine p1 (w2.pr D) H ⟨Nat.le_trans e2.le (Nat.le_succ _), fun i h => (add_lt (Nat.lt_of_lt_of_le h e2.le)).trans (e2.mu i h), fun i h h' => ?_, e2.keep, e2.there, fun a h => e2.xx a h.1, fun a h => ⟨e2.xl a h, fun q => hD1 (.inr (q ▸ h))⟩⟩ (rel2.prd hx hacc racc) _ z
    by_cases h2 : i < w2.n
    · rw [show (w2.pr D).mu i = w2.mu i from add_lt h2]; exact e2.fresh i h h2
    · have : i = w2.n := by have : i < w2.n + 1 := h'; omega
      subst this
      rw [show (w2.pr D).mu w2.n = D from add_n]; exact hD
theorem d_dc {scope : Scope} {own : List (Str × Nat)} {t : T} (ok : Okx X G W) (hx : G.exc = none) (hc : X.calm = true) (hfold : notSet iter = true) (hi : PI X tg iter (tDI G W fi)) (bk : BlkOk X.N X.env.scope scope own) (hsl : ∀ i ∈ slT t, i ∈ own.map (·.2))
    (hg : Blk X scope fun Y => PG Y tg (tP X.K t)) (ht : Blk X scope fun Y => PTs Y ifs (tDT G W0 ft)) (hk : Blk X scope fun Y => PE Y kx (tD G W0 fk)) (hv : Blk X scope fun Y => PE Y vx (tD G W0 fv)) :
    PE X (.DictComp kx vx [⟨tg, iter, ifs, 0⟩] scope pos) (tD G W (dcF fi ft fk fv (own.map (·.2)) t)) :=
  PE.mono (pe_dc hc ok.nd hi bk hg ht hk hv (fold_of hfold)) (dc_read ok.K hx hsl)
theorem pr_rep {x : D} {v : V} {q : D × D} {w : Vw} {H : Hp} (hK : G.K = X.K) (r : RepV G w H x v) (h : prD x = some q) : ∃ (a : Addr) (k : L2.Key) (u : V), v = .ref a ∧ q.1 = keyD k ∧ SqT X.K H a [kV k, u] ∧ RepV G w H q.2 u := by
  unfold prD at h
  split at h
  · split at h
    · rename_i k d hk
      cases h
      cases r with
      | tup t rs =>
        cases rs with
        | cons r1 rs =>
          cases rs with
          | cons r2 rs =>
            cases rs
            obtain ⟨kk, rfl, rfl⟩ := key_rep r1 hk
            exact ⟨_, kk, _, rfl, rfl, hK ▸ t.sq, r2⟩
    · cases h
  · cases h
theorem mrg_rep {w : Vw} {H : Hp} (hK : G.K = X.K) : ∀ {ps : List D} {vs : List V} {acc : List (L2.Key × V)} {ds : List D} {kv : List D × List D}, RepVs G w H ps vs → RepVs G w H ds (acc.map fun p => p.2) → mrgL ps (keysD acc, ds) = some kv →
    ∃ (as : List Addr) (kvs : List (L2.Key × V)), vs = as.map V.ref ∧ Paired (fun p q => SqT X.K H p [kV q.1, q.2]) as kvs ∧ kv.1 = keysD (mergeK acc kvs) ∧ RepVs G w H kv.2 ((mergeK acc kvs).map fun p => p.2)
  | [], _, acc, ds, kv, .nil, rd, h => by
    unfold mrgL at h
    cases h
    exact ⟨[], [], rfl, .nil, rfl, rd⟩
  | x :: ps, _, acc, ds, kv, .cons r rs, rd, h => by
    unfold mrgL at h
    cases e : prD x with
    | none => rw [e] at h; cases h
    | some q =>
      rw [e] at h
      dsimp only at h
      obtain ⟨a, k, u, rfl, e1, sq, ru⟩ := pr_rep hK r e
      rw [e1] at h
      obtain ⟨p1, p2⟩ := dput_rep (k := k) ru rd
      have h' : mrgL ps (keysD (putK acc k u), (dputL (keysD acc) ds (keyD k) q.2).2) = some kv := by rw [← p1]; exact h
      obtain ⟨as, kvs, rfl, pr, k1, k2⟩ := mrg_rep hK rs p2 h'
      exact ⟨a :: as, (k, u) :: kvs, rfl, .cons sq pr, k1, k2⟩
theorem d_dctP {e : Expr} {es : List Expr} {fs : Sd → HH → Rs (List D)} (ok : Okx X G W) (hc : X.calm = true) (hg : Gl X "dict") (hm : X.mg "dict" = none) (hs : (e :: es).all notStar = true) (ha : PA X (e :: es) (tDA G W fs)) :
    PE X (.Call (.Name "dict" p) (e :: es) [] pos) (tD G W fun s H => (fs s H).bind fun ds H1 => match ds with
    | [x] => (match dictPD (viewD H1 x) with
      | some kv => .ok (.ref H1.length) (H1 ++ [.dic kv.1 kv.2])
      | none => .no)
    | _ => .no) := by
  have hs' := hs
  rw [List.all_cons, Bool.and_eq_true] at hs'
  have core := pe_callTy (p := p) (pos := pos) (call_dictP hc) hg hm (by decide +kernel) ha (by decide) (by decide) (star_cons hs'.1) (star_plain hs'.2)
  refine PE.mono core fun s H Q h => ?_
  obtain ⟨w, Hd, sd, rel, rs, p⟩ := h
  refine seq rel rs p fun xs Hd1 w1 H1 vs e1 rel1 rs1 r1 p1 => ?_
  match xs, r1, p1 with
  | [], _, p1 => exact p1.elim
  | _ :: _ :: _, _, p1 => exact p1.elim
  | [x], r1, p1 =>
    cases r1 with
    | cons rx rn =>
      cases rn
      rename_i v
      have rw1 := repW_view rel1 rx
      dsimp only at p1
      generalize viewD Hd1 x = y at p1 rw1
      cases hq : dictPD y with
      | none => rw [hq] at p1; exact p1.elim
      | some kv =>
        rw [hq] at p1
        dsimp only at p1
        unfold dictPD at hq
        cases y with
        | lv ps =>
          obtain ⟨a, us, rfl, h1, h2⟩ := rw1
          obtain ⟨as, kvs, rfl, pr, k1, k2⟩ := mrg_rep (acc := []) (ds := []) ok.K h2 .nil hq
          refine ⟨a, as, kvs, rfl, SqL.of h1, pr, fun q hn => ?_⟩
          have z : RepV G (w1.add q) (upd H1 q (.dK (mergeK [] kvs))) (.ref Hd1.length) (.ref q) := by
            have := RepV.ref (G := G) (w := w1.add q) (H := upd H1 q (.dK (mergeK [] kvs))) (r := w1.n) (Nat.lt_succ_self _)
            rw [add_n] at this
            rw [← rel1.n]
            exact this
          have ro : RepO G (w1.add q) (upd H1 q (.dK (mergeK [] kvs))) q (.dic kv.1 kv.2) := by
            rw [k1]
            exact .dic upd_same (k2.ext (ext_add rel1 hn _))
          exact p1 _ _ (ext_add rel1 hn _) (rel_addO rel1 hn ro) _ z
        | _ => cases hq
end
end DI
namespace DI
open PySem PySem.Spec PyProof.Rows L2
section
variable {G : Gr} {w w' : Vw} {H H' : Hp} {Hd : HH}
mutual
theorem RepV.tr (kt : ∀ x vs, TupAt G w H x vs → TupAt G w' H' x vs) (kf : ∀ x vs, FzAt G w H x vs → FzAt G w' H' x vs) (kl : ∀ x vs, ¬ w.L x → H x = some (.lst vs) → ¬ w'.L x ∧ H' x = some (.lst vs)) : ∀ {d : D} {v : V}, noRef d = true → RepV G w H d v → RepV G w' H' d v
  | _, _, _, .non => .non
  | _, _, _, .bl b => .bl b
  | _, _, _, .int i => .int i
  | _, _, _, .str x => .str x
  | _, _, n, .tup h r => by unfold noRef at n; exact .tup (kt _ _ h) (RepVs.tr kt kf kl n r)
  | _, _, n, .lv h q r => by unfold noRef at n; exact .lv (kl _ _ h q).1 (kl _ _ h q).2 (RepVs.tr kt kf kl n r)
  | _, _, n, .fz h r => by unfold noRef at n; exact .fz (kf _ _ h) (RepVs.tr kt kf kl n r)
  | .ref _, _, n, _ => by unfold noRef at n; cases n
  | _, _, _, .cls c => .cls c
  | _, _, _, .ty n => .ty n
theorem RepVs.tr (kt : ∀ x vs, TupAt G w H x vs → TupAt G w' H' x vs) (kf : ∀ x vs, FzAt G w H x vs → FzAt G w' H' x vs) (kl : ∀ x vs, ¬ w.L x → H x = some (.lst vs) → ¬ w'.L x ∧ H' x = some (.lst vs)) : ∀ {d : List D} {v : List V}, noRefs d = true → RepVs G w H d v → RepVs G w' H' d v
  | _, _, _, .nil => .nil
  | _, _, n, .cons h r => by
    unfold noRefs at n
    rw [Bool.and_eq_true] at n
    exact .cons (RepV.tr kt kf kl n.1 h) (RepVs.tr kt kf kl n.2 r)
end
/-- the view while the dict at a is locked -/
def Vw.lk (w : Vw) (a : Addr) : Vw := ⟨w.mu, 0, fun x => w.L x ∧ x ≠ a⟩
theorem lk_O {a x : Addr} : ¬ (w.lk a).O x := fun ⟨i, hi, _⟩ => absurd hi (Nat.not_lt_zero _)
theorem lk_L {a x : Addr} (h : ¬ w.L x) : ¬ (w.lk a).L x := fun z => z.elim lk_O fun z => h z.1
theorem lk_rel {a : Addr} {o : HO} (r : Rel G w Hd H) : Rel G (w.lk a) [] (upd H a o) := ⟨rfl, fun i j h => absurd h (Nat.not_lt_zero _), fun i o h => by simp at h, fun x h => ⟨by
  obtain ⟨u, e⟩ := r.liveSome h.1
  rw [upd_ne h.2, e]; simp, lk_O⟩⟩
theorem lk_in {a : Addr} {o : HO} (ha : w.L a) {d : D} {v : V} (n : noRef d = true) (h : RepV G w H d v) : RepV G (w.lk a) (upd H a o) d v := by
  have ne : ∀ x, ¬ w.L x → x ≠ a := fun x h z => h (z ▸ ha)
  refine RepV.tr (fun x vs h => ?_) (fun x vs h => ?_) (fun x vs h q => ⟨lk_L h, by rw [upd_ne (ne x h)]; exact q⟩) n h
  · rcases h with ⟨h, r⟩ | h
    · refine .inl ⟨lk_L h, ?_⟩
      unfold Rd
      rw [upd_ne (ne x h)]
      exact r
    · exact .inr h
  · rcases h with ⟨h, r⟩ | h
    · refine .inl ⟨lk_L h, ?_⟩
      unfold Rd
      rw [upd_ne (ne x h)]
      exact r
    · exact .inr h
theorem lk_ins {a : Addr} {o : HO} (ha : w.L a) : ∀ {d : List D} {v : List V}, noRefs d = true → RepVs G w H d v → RepVs G (w.lk a) (upd H a o) d v
  | _, _, _, .nil => .nil
  | _, _, n, .cons h r => by
    unfold noRefs at n
    rw [Bool.and_eq_true] at n
    exact .cons (lk_in ha n.1 h) (lk_ins ha n.2 r)
theorem lk_out {a : Addr} {od : Obj} {kvs : List (L2.Key × V)} {o : HO} (e : Ext (w.lk a) w' (upd H a o) H') (ha : H' a = some (.frz od (.dK kvs))) {d : D} {v : V} (n : noRef d = true) (h : RepV G w' H' d v) : RepV G w (upd H' a (.dK kvs)) d v := by
  have ok : ∀ x, x ≠ a → ¬ w'.L x → ¬ w.L x := fun x ne h z => h (.inr (e.xl x ⟨z, ne⟩))
  refine RepV.tr (fun x vs h => ?_) (fun x vs h => ?_) (fun x vs h q => ?_) n h
  · rcases h with ⟨h, r⟩ | h
    · have ne : x ≠ a := fun z => by
        subst z
        rcases r with r | ⟨_, r⟩ <;> (rw [ha] at r; cases r)
      refine .inl ⟨ok x ne h, ?_⟩
      unfold Rd
      rw [upd_ne ne]
      exact r
    · exact .inr h
  · rcases h with ⟨h, r⟩ | h
    · have ne : x ≠ a := fun z => by
        subst z
        rcases r with r | ⟨_, r⟩ <;> (rw [ha] at r; cases r)
      refine .inl ⟨ok x ne h, ?_⟩
      unfold Rd
      rw [upd_ne ne]
      exact r
    · exact .inr h
  · have ne : x ≠ a := fun z => by
      subst z
      rw [ha] at q; cases q
    exact ⟨ok x ne h, by rw [upd_ne ne]; exact q⟩
/-- behind it: all as it was, and what is new -/
theorem lk_after {a : Addr} {od : Obj} {kvs : List (L2.Key × V)} {o : HO} (r : Rel G w Hd H) (h0 : H a = some (.dK kvs)) (e : Ext (w.lk a) w' (upd H a o) H') : Ext w w H (upd H' a (.dK kvs)) ∧ Rel G w Hd (upd H' a (.dK kvs)) := by
  have k : ∀ x u, H x = some u → upd H' a (.dK kvs) x = some u := fun x u h => by
    by_cases z : x = a
    · subst z
      rw [upd_same, ← h0]; exact h
    · rw [upd_ne z]
      exact e.keep x u lk_O (by rw [upd_ne z]; exact h)
  have th : ∀ x, H x ≠ none → upd H' a (.dK kvs) x ≠ none := fun x h => by
    obtain ⟨u, hu⟩ := Option.ne_none_iff_exists'.mp h
    rw [k x u hu]; simp
  have e1 : Ext w w H (upd H' a (.dK kvs)) := ⟨Nat.le_refl _, fun _ _ => rfl, fun i h h' => absurd h' (by omega), fun x u _ h => k x u h, th, fun _ h => .inl h, fun _ h => h⟩
  refine ⟨e1, ⟨r.n, r.inj, fun i o h => ?_, fun x h => ⟨th x (r.xx x h).1, (r.xx x h).2⟩⟩⟩
  have q := r.obj i o h
  obtain ⟨u, hu⟩ := q.some_
  exact q.ext e1 (by rw [hu]; exact k _ _ hu)
theorem prD_at {ks vs : List D} {i : Nat} {d e : D} (h : ks[i]? = some d) (h2 : vs[i]? = some e) : (itmD ks vs)[i]? = some (.tup [d, e]) := by
  unfold itmD
  rw [List.getElem?_map]
  have : (ks.zip vs)[i]? = some (d, e) := List.getElem?_zip_eq_some.mpr ⟨h, h2⟩
  rw [this] <;> rfl
theorem keyD_rep (k : L2.Key) : RepV G w H (keyD k) (kV k) := by
  cases k with
  | inl i => exact .int i
  | inr x => exact .str x.cps.toList
theorem wk_items {a : Addr} {od : Obj} {kvs : List (L2.Key × V)} {ds : List D} {w1 : Vw} {H1 : Hp} (hO : ¬ w1.O a) (ha : H1 a = some (.frz od (.dK kvs))) (hv : RepVs G w1 H1 ds (kvs.map fun p => p.2)) :
    Walk (Iti a od kvs) (itmD (keysD kvs) ds).length (GdP G w1 H1 []) (YdP G w1 H1 [] (itmD (keysD kvs) ds)) := by
  have ln : ds.length = kvs.length := by have := hv.length; rw [List.length_map] at this; exact this
  refine wk_pair (n := kvs.length) (fun i H2 hi q => ?_) (fun H2 q => ?_) (by unfold itmD keysD; simp [ln]) fun i H2 v H3 w2 Hd2 hi y e rel gd => ?_
  · obtain ⟨w2, Hd2, e, rel, gd⟩ := q
    exact ⟨e.keep _ _ hO ha, hi⟩
  · obtain ⟨w2, Hd2, e, rel, gd⟩ := q
    exact ⟨e.keep _ _ hO ha, Nat.le_refl _⟩
  · obtain ⟨T, k, u, hk, rfl, hT, rfl⟩ := y
    obtain ⟨d, hd⟩ : ∃ d, ds[i]? = some d := ⟨ds[i]'(by omega), List.getElem?_eq_getElem (by omega)⟩
    obtain ⟨u', hu, ru⟩ := (hv.ext e).get hd
    rw [List.getElem?_map, hk] at hu
    cases hu
    exact ⟨T, _, _, keyD k, d, rfl, hT, rfl, keyD_rep k, ru, prD_at (by unfold keysD; rw [List.getElem?_map, hk] <;> rfl) hd⟩
theorem norf_rs {a : Addr} {o : HO} {sd : Sd} {s : L2.St} (hx : G.exc = none) (ha : w.L a) (r : RepS G w H sd s) : RepS G (w.lk a) (upd H a o) (norfS sd) s := by
  refine ⟨by unfold norfS; rw [List.length_map]; exact r.1, fun j e hj => ?_, .no hx⟩
  unfold norfS at hj
  rw [List.getElem?_map] at hj
  cases h : sd[j]? with
  | none => rw [h] at hj; cases hj
  | some u =>
    rw [h] at hj
    cases u with
    | none => cases hj
    | some d =>
      have hj : (if noRef d then some d else none) = some e := Option.some.inj hj
      split at hj
      · rename_i n
        cases hj
        obtain ⟨v, h1, h2⟩ := r.2 j _ h
        exact ⟨v, h1, lk_in ha n h2⟩
      · cases hj
end
section
variable {X : Cx} {G : Gr} {W : WX} {pos p apos cpos tpos : Pos} {elt : Expr} {elts ifs : List Expr} {kk : Nat} {ft : Sd → HH → Rs Bool} {fe : Sd → HH → Rs D}
theorem lci_read {own : List Nat} {t : T} {i : Nat} (hK : G.K = X.K) (hx : G.exc = none) (hsl : ∀ i ∈ slT t, i ∈ own) (σ : L2.St) (H : Hp) (Q : V → Hp → Prop) (h : tD G W (lciF (asT t) ft fe own i) σ H Q) : tLockE (tLc (iItems (tVar i)) (tP X.K t) (tDT G W0 ft) (tD G W0 fe) own) σ H Q := by
  obtain ⟨w, Hd, sd, rel, rs, p⟩ := h
  unfold lciF at p
  split at p
  · rename_i r hr
    split at p
    · rename_i ks vs hd
      split at p
      · rename_i hn
        obtain ⟨v, hv, rv⟩ := rs.2 i _ hr
        cases rv with
        | ref hl =>
          have ro := rel.obj r _ hd
          generalize hz : HD.dic ks vs = z at ro
          cases ro with
          | lst _ _ => cases hz
          | @dic ds kvs q1 q2 =>
            cases hz
            have ha : w.L (w.mu r) := .inl ⟨r, hl, rfl⟩
            refine ⟨w.mu r, .dK kvs, q1, trivial, fun od => ?_⟩
            have R0 : Rel G (w.lk (w.mu r)) [] (upd H (w.mu r) (.frz od (.dK kvs))) := lk_rel rel
            have S0 : RepS G (w.lk (w.mu r)) (upd H (w.mu r) (.frz od (.dK kvs))) (norfS sd) σ := norf_rs hx ha rs
            have V0 := lk_ins (o := .frz od (.dK kvs)) ha hn q2
            have wk := wk_items (w1 := w.lk (w.mu r)) (H1 := upd H (w.mu r) (.frz od (.dK kvs))) lk_O upd_same V0
            refine ⟨_, hv, w.mu r, od, kvs, rfl, upd_same, ?_⟩
            refine lc_at (X := X) (ft := ft) (fe := fe) (b := false) (W1 := wat W σ) (Q := fun v H' => H' (w.mu r) = some (.frz od (.dK kvs)) ∧ Q v (upd H' (w.mu r) (.dK kvs))) hK hx hsl R0 S0 wk ?_
            generalize lcL [] (asT t) ft fe (wipeD (norfS sd) own) (itmD (keysD kvs) vs) [] [] = rr at p
            cases rr with
            | no => exact p.elim
            | ex a b => exact p.elim
            | ok ds H2 =>
              rw [Rs.bindN_ok] at p
              split at p
              · rename_i n2
                intro w' H' e rel' v rv
                have k := e.keep _ _ lk_O (upd_same (H := H) (a := w.mu r) (o := .frz od (.dK kvs)))
                have n3 : noRef (.lv ds) = true := by unfold noRef; exact n2
                obtain ⟨e1, r1⟩ := lk_after (od := od) rel q1 e
                exact ⟨k, p w _ e1 r1 v (lk_out e k n3 rv)⟩
              · exact p.elim
      · exact p.elim
    · exact p.elim
  · exact p.elim
theorem d_lci {scope : Scope} {own : List (Str × Nat)} {t : T} {i : Nat} {x : Str} (ok : Okx X G W) (hx : G.exc = none) (hc : X.calm = true) (h1 : X.N[i]? = some x) (h2 : Vis X.env.scope x) (h3 : (x == ("__debug__" : Str)) = false) (h4 : (x == ("__classdict__" : Str)) = false)
    (hline : (apos.endLine == cpos.line) = true) (bk : BlkOk X.N X.env.scope scope own) (hsl : ∀ i ∈ slT t, i ∈ own.map (·.2))
    (hg : Blk X scope fun Y => PG Y (.Tuple elts kk tpos) (tP X.K t)) (ht : Blk X scope fun Y => PTs Y ifs (tDT G W0 ft)) (he : Blk X scope fun Y => PE Y elt (tD G W0 fe)) :
    PE X (.ListComp elt [⟨.Tuple elts kk tpos, .Call (.Attribute (.Name x p) "items" apos) [] [] cpos, ifs, 0⟩] scope pos) (tD G W (lciF (asT t) ft fe (own.map (·.2)) i)) :=
  PE.mono (pe_lock (pe_lc hc ok.nd (pi_items (pe_var h1 h2 h3 h4) (base_ok rfl) hline) bk hg ht he (fold_of rfl))) fun σ H Q h => lci_read ok.K hx hsl σ H Q h
theorem s_setLci {j : Nat} {y : Str} {py lpos : Pos} {scope : Scope} {own : List (Str × Nat)} {t : T} {i : Nat} {x : Str} (ok : Okx X G W) (hx : G.exc = none) (hc : X.calm = true) (hy : X.N[j]? = some y) (hyl : X.env.scope.names.lookup y = some .local)
    (hsw : swapsWith (.ListComp elt [⟨.Tuple elts kk tpos, .Call (.Attribute (.Name x p) "items" apos) [] [] cpos, ifs, 0⟩] scope lpos) (some (.Name y py)) pos.line X.env = pure true)
    (h1 : X.N[i]? = some x) (h2 : Vis X.env.scope x) (h3 : (x == ("__debug__" : Str)) = false) (h4 : (x == ("__classdict__" : Str)) = false)
    (hline : (apos.endLine == cpos.line) = true) (bk : BlkOk X.N X.env.scope scope own) (hsl : ∀ i ∈ slT t, i ∈ own.map (·.2))
    (hg : Blk X scope fun Y => PG Y (.Tuple elts kk tpos) (tP X.K t)) (ht : Blk X scope fun Y => PTs Y ifs (tDT G W0 ft)) (he : Blk X scope fun Y => PE Y elt (tD G W0 fe)) :
    PS X (.Assign [.Name y py] (.ListComp elt [⟨.Tuple elts kk tpos, .Call (.Attribute (.Name x p) "items" apos) [] [] cpos, ifs, 0⟩] scope lpos) pos) (tDS G W fun s H => (lciF (asT t) ft fe (own.map (·.2)) i s H).st s fun d H1 => match asT (.nm j) d s with | some s2 => .go (.nx s2) H1 | none => .no) :=
  PS.mono (ps_lock (ps_setLc hc ok.nd hy hyl hsw (pi_items (pe_var h1 h2 h3 h4) (base_ok rfl) hline) bk hg ht he (fold_of rfl))) fun D s H h => by
    obtain ⟨w, Hd, sd, rel, rs, p⟩ := h
    have k := lci_read (X := X) (W := W) (ft := ft) (fe := fe) (own := own.map (·.2)) (i := i) ok.K hx hsl s H (fun v H' => D.nx (s.set j (some v)) H') (seqS rel rs p fun x Hd1 w1 H1 v e1 rel1 rs1 r1 p1 => p1 w1 H1 (Ext.refl _ _) rel1 _ (rs1.set hx j r1))
    obtain ⟨d, u, a1, a2, a3⟩ := k
    exact ⟨d, u, a1, a2, fun od => a3 od⟩
end
end DI
namespace DI
open PySem PySem.Spec PyProof.Rows L2

def oexB (K : PySem.W.Frag) (C : Addr) : Bool := match K.lookup C with
  | some ⟨.type "type", _, .cls cd, sl⟩ => (match cd.mro, sl.toList with
    | .ref C' :: bm, [_, _, _, _, some (.builtin n), _] => C' == C && (n == "ValueError.__new__" && (!cd.hasDel && (cd.hasDict && PySem.HandSPX.refsVE bm)))
    | _, _ => false)
  | _ => false
theorem oexB_ok {K : PySem.W.Frag} {C : Addr} (q : oexB K C = true) : ∃ nm q N bs bm sn sub ab col dd k0 k1 k2 k3 k5, K.lookup C = some (excClassObj nm q C N bs bm true sn sub ab col dd k0 k1 k2 k3 k5 "ValueError.__new__") ∧ PySem.HandSPX.refsVE bm = true := by
  unfold oexB at q
  split at q
  · rename_i dd cd sl ho
    split at q
    · rename_i C' bm k0 k1 k2 k3 n k5 hm hs
      simp only [Bool.and_eq_true, beq_iff_eq, Bool.not_eq_true'] at q
      obtain ⟨rfl, rfl, hdel, hdict, ht⟩ := q
      obtain ⟨nm, bs, mro, ns, qn, hd, sn, sub, ab, col, del⟩ := cd
      dsimp only at hm hdel hdict
      subst hm hdel hdict
      obtain ⟨l⟩ := sl
      simp only at hs
      subst hs
      exact ⟨nm, qn, ns, bs, bm, sn, sub, ab, col, dd, k0, k1, k2, k3, k5, ho, ht⟩
    · cases q
  · cases q
def inB (K : PySem.W.Frag) (B : Addr) : Bool := match PySem.W.findCls K (.ref B) (.type "type") "__init__" with
  | some (.val v) => decide (v = .builtin "ValueError.__init__")
  | _ => false
theorem inB_ok {K : PySem.W.Frag} {B : Addr} (h : inB K B = true) : PySem.W.findCls K (.ref B) (.type "type") "__init__" = some (.val (.builtin "ValueError.__init__")) := by
  unfold inB at h
  split at h
  · rename_i v e
    rw [e, of_decide_eq_true h]
  · cases h
/-- the class C keeps the field f; its __init__ calls B's -/
structure ExF (K : PySem.W.Frag) (C B : Addr) (f : Str) : Prop where
  T : OexC K C
  xf : XfC K C
  nof : PySem.W.findIn K (.ref C) f = some none
  ini : PySem.W.findIn K (.ref C) "__init__" = some (some (.ref (He.ma K C "__init__")))
  inT : PySem.W.typeIn K (.ref (He.ma K C "__init__")) = some (.type "function")
  ha : PySem.W.findIn K (.ref C) "__class__" = some (some (.builtin "object.__class__"))
  hn : PySem.W.specialIn K (.builtin "object.__class__") "__get__" = some (some (.builtin "getset_descriptor.__get__"))
  ht : PySem.W.takesIn K (.builtin "object.__class__") = some true
  hm : PySem.W.mroIn K C (.type "object") = some true
  self : PySem.W.exmOne K (.ref C) (.ref C) = some true
  hg : PySem.W.specialIn K (.ref B) "__getattribute__" = some (some (.builtin "type.__getattribute__"))
  rd : PySem.W.readsIn K B (.type "type") = true
  bI : PySem.W.findCls K (.ref B) (.type "type") "__init__" = some (.val (.builtin "ValueError.__init__"))
def exfB (K : PySem.W.Frag) (C B : Addr) (f : Str) : Bool :=
  oexB K C && (He.eqO (PySem.W.findIn K (.ref C) "__setattr__") (some (some (.builtin "object.__setattr__"))) && (decide (PySem.W.subIn K (.ref C) (.type "BaseException") = some true) && (decide (PySem.W.typeIn K (.ref C) = some (.type "type")) && (PySem.W.keepIn K (.ref C) &&
  (xfB K C && (He.eqO (PySem.W.findIn K (.ref C) f) (some none) && (He.eqO (PySem.W.findIn K (.ref C) "__init__") (some (some (.ref (He.ma K C "__init__")))) && (decide (PySem.W.typeIn K (.ref (He.ma K C "__init__")) = some (.type "function")) &&
  (He.eqO (PySem.W.findIn K (.ref C) "__class__") (some (some (.builtin "object.__class__"))) && (He.eqO (PySem.W.specialIn K (.builtin "object.__class__") "__get__") (some (some (.builtin "getset_descriptor.__get__"))) && (decide (PySem.W.takesIn K (.builtin "object.__class__") = some true) &&
  (decide (PySem.W.mroIn K C (.type "object") = some true) && (decide (PySem.W.exmOne K (.ref C) (.ref C) = some true) && (He.eqO (PySem.W.specialIn K (.ref B) "__getattribute__") (some (some (.builtin "type.__getattribute__"))) && (PySem.W.readsIn K B (.type "type") && inB K B)))))))))))))))
theorem exfB_ok {K : PySem.W.Frag} {C B : Addr} {f : Str} (h : exfB K C B f = true) : ExF K C B f := by
  unfold exfB at h
  simp only [Bool.and_eq_true, decide_eq_true_eq] at h
  obtain ⟨h1, h2, h3, h4, h5, h6, h7, h8, h9, h10, h11, h12, h13, h14, h15, h16, h17⟩ := h
  exact ⟨⟨oexB_ok h1, He.eqO_ok h2, h3, h4, h5⟩, xfB_ok h6, He.eqO_ok h7, He.eqO_ok h8, h9, He.eqO_ok h10, He.eqO_ok h11, h12, h13, h14, He.eqO_ok h15, h16, inB_ok h17⟩

section
variable {X : Cx} {pos p1 p2 : Pos} {e : Expr} {es : List Expr} {ta : TA}
/-- B.__init__(self, ..), B a class of the text that has ValueError's -/
theorem pe_binit {x : Str} {B : Addr} {pl : Sem Bool} (hg : Gl X x) (hm : X.mg x = some (.ref B)) (hd : (x == ("__debug__" : Str)) = false)
    (h1 : PySem.W.specialIn X.K (.ref B) "__getattribute__" = some (some (.builtin "type.__getattribute__"))) (h2 : PySem.W.readsIn X.K B (.type "type") = true) (h3 : PySem.W.findCls X.K (.ref B) (.type "type") "__init__" = some (.val (.builtin "ValueError.__init__")))
    (hc : eval (.Call (.Attribute (.Name x p1) "__init__" p2) (e :: es) [] pos) X.env = (do
      let ov ← eval (.Name x p1) X.env
      standAt p2.atName
      let (f, first) ← holding [ov] (getMethod ov "__init__" pl)
      callWith pos f first (backTo pos (starEach (e :: es) X.env)) (backToKw pos (keywordEach [] X.env))))
    (ha : PA X (e :: es) ta) (hs : notStar e = true) (hp : (backTo pos (starEach es X.env)).any (·.1) = false) :
    PE X (.Call (.Attribute (.Name x p1) "__init__" p2) (e :: es) [] pos) (tVeI X.K ta) := by
  refine ⟨fun pins s σ H Q I h => ?_⟩
  refine PySem.W.methodCall_KW (ld_glob I hg hm ?_ hd) hc
  refine PySem.W.method_cls I.kIn h1 (PySem.W.cls_value I.kIn h2 h3 (by decide +kernel) ?_)
  show wpAny _ _ (callWith pos (Value.builtin "ValueError.__init__") [] (backTo pos (starEach (e :: es) X.env)) []) _ _ _
  refine PyProof.Rows.callWith_method1 (thn (ha.run pos pins _ σ H _ (I.tok _) h) fun us s1 ⟨vs, H1, I1, r1, a, C, ws, ev, hl, T, ea, q⟩ => ?_) (star_cons hs) hp
  subst ev
  cases r1 with
  | @cons _ u0 _ ur ra rw' =>
    obtain rfl : u0 = Value.ref a := ra
    exact oinit_ok T I1 ea (by rw [← Paired.length rw', sizeLine_eq]; omega) fun s' J => ⟨.non, H1, J, rfl, q⟩
end
theorem init_eval {x n1 n2 : Str} {q1 q2 q3 q4 q5 : Pos} {env : Env} (hl : (q2.endLine == q5.line) = true) : eval (.Call (.Attribute (.Name x q1) "__init__" q2) [.Name n1 q3, .Name n2 q4] [] q5) env = (do
      let ov ← eval (.Name x q1) env
      standAt q2.atName
      let (f, first) ← holding [ov] (getMethod ov "__init__" (do return (← importBound (.Name x q1) env).getD true))
      callWith q5 f first (backTo q5 (starEach [.Name n1 q3, .Name n2 q4] env)) (backToKw q5 (keywordEach [] env))) := by
  have hpos : methodCallPos true (.Name x q1) env q2 q5 = pure q5 := by unfold methodCallPos; simp [hl]
  have hform : methodCallForm ([Expr.Name n1 q3, Expr.Name n2 q4].length + ([] : List Keyword).length) (backTo q5 (starEach [.Name n1 q3, .Name n2 q4] env)) (backToKw q5 (keywordEach [] env)) = true := rfl
  have hb : attributeBase (.Name x q1) "__init__" env (eval (.Name x q1) env) = eval (.Name x q1) env := rfl
  rw [arm_eval_Call, hb]
  unfold methodCall
  rw [hform, hpos]
  rfl
/-- what such an __init__ does -/
def spI (C : Addr) (f : Str) : Sp := fun vs H Q _ => ∃ a y, vs = [.ref a, y] ∧ H a = some (exo a C none) ∧ ∀ dx, H dx = none → dx ≠ a → Q .non (upd (upd H dx (exd dx [(f, y)])) a (exo a C (some dx)))
/-- the form of such an __init__: B, self, the field, the value's name -/
def iniForm : List Stmt → Option (Str × Str × Str × Str)
  | [.Expr (.Call (.Attribute (.Name x _) i ap) [.Name n1 _, .Name n2 _] [] cp) _, .Assign [.Attribute (.Name n3 _) f _] (.Name n4 _) _] => if i = "__init__" ∧ n1 = n3 ∧ n2 = n4 ∧ (ap.endLine == cp.line) = true then some (x, n1, f, n2) else none
  | _ => none
section
variable {P : Program} {w : World} {K : PySem.W.Frag} {mg : Str → Option Value} {base : Heap} {x qual n1 n2 f b : Str} {params : Arguments} {body : List Stmt} {scope : Scope} {fI C B : Addr} {fd : FuncData} {k : Nat}
theorem init_ok (E : ExF K C B f) (F : FunD K x qual params body scope [] [] fI fd) (S : FnScope [n1, n2] [n1, n2] scope) (hb : iniForm body = some (b, n1, f, n2)) (hmg : mg b = some (.ref B)) (hgl : scope.names.lookup b = some .globalImplicit) (hdb : (b == ("__debug__" : Str)) = false)
    (hl1 : scope.names.lookup n1 = some .local) (hl2 : scope.names.lookup n2 = some .local) (d1 : (n1 == ("__debug__" : Str)) = false ∧ (n1 == ("__classdict__" : Str)) = false) (d2 : (n2 == ("__debug__" : Str)) = false ∧ (n2 == ("__classdict__" : Str)) = false) : FnOk P w K mg base (L2.CX P w) (k + 1) fI fd [n1, n2] (spI C f) := by
  unfold iniForm at hb
  split at hb
  · rename_i x' _ i _ m1 _ m2 _ _ _ m3 _ f' _ m4 _ _
    split at hb
    · rename_i hc
      obtain ⟨rfl, rfl, rfl, hline⟩ := hc
      cases hb
      refine F.ok S (fun vs H Q E h => by obtain ⟨a, y, rfl, _⟩ := h; rfl) fun cdv A outer s H vs Q E0 hr hsp => ?_
      obtain ⟨a, y, rfl, ha, hq⟩ := hsp
      refine ⟨_, pss_cons (ps_expr (pe_binit (X := cxOf (L2.CX P w) P w K mg base [n1, n2] qual scope fI cdv A outer s H E0) hgl hmg hdb E.hg E.rd E.bI (init_eval hline)
        (pa_cons (pe_var (i := 0) rfl (by unfold Vis; show scope.names.lookup n1 = _ ∨ _; rw [hl1]; exact .inl rfl) d1.1 d1.2) (pa_cons (pe_var (i := 1) rfl (by unfold Vis; show scope.names.lookup n2 = _ ∨ _; rw [hl2]; exact .inl rfl) d2.1 d2.2) pa_nil (by rfl)) (by rfl)) (by rfl) (by rfl)) (by rfl))
        (pss_cons (ps_ost (pe_var (i := 0) rfl (by unfold Vis; show scope.names.lookup n1 = _ ∨ _; rw [hl1]; exact .inl rfl) d1.1 d1.2) (pe_var (i := 1) rfl (by unfold Vis; show scope.names.lookup n2 = _ ∨ _; rw [hl2]; exact .inl rfl) d2.1 d2.2) (by rfl)) pss_nil), ?_⟩
      refine ⟨.ref a, rfl, y, rfl, ?_⟩
      refine ⟨a, C, [y], rfl, by show 1 ≤ 1000; omega, E.T, ha, ?_⟩
      refine ⟨y, rfl, .ref a, rfl, a, C, rfl, E.T, E.nof, .inl ⟨ha, fun dx h1 h2 => hq dx h1 h2⟩⟩
    · cases hb
  · cases hb
end
end DI
namespace DI
open PySem PySem.Spec PyProof.Rows L2
/-- what a frame knows of the class that x names, its number k, its field f -/
structure ExK (X : Cx) (G : Gr) (x : Str) (k : Nat) (f : Str) : Prop where
  mg : X.mg x = some (.ref (G.ca k))
  nd : (x == ("__debug__" : Str)) = false
  xf : G.xf k = f
  F : ∃ B, ExF X.K (G.ca k) B f
  ini : ∃ l fd ps, FnOk X.prog X.w X.K X.mg X.base (L2.CX X.prog X.w) l (He.ma X.K (G.ca k) "__init__") fd ps (spI (G.ca k) f) ∧ Room (l + 1) X.A ∧ Binds X.K fd ps []
theorem mk_heap {H : Hp} {a dx C : Addr} {f : Str} {y : V} (ha : H a = none) (hd : dx ≠ a) :
    upd (del (upd (upd (upd H a (exo a C none)) dx (exd dx [(f, y)])) a (exo a C (some dx))) a) dx (.xd [(f, y)]) = upd H dx (.xd [(f, y)]) := by
  funext b
  by_cases h1 : b = dx
  · subst h1; rw [upd_same, upd_same]
  · rw [upd_ne h1, upd_ne h1]
    by_cases h2 : b = a
    · subst h2; rw [del_same, ha]
    · rw [del_ne h2, upd_ne h2, upd_ne h1, upd_ne h2]
section
variable {X : Cx} {G : Gr} {W : WX} {pos p p2 : Pos} {e : Expr} {fe : Sd → HH → Rs D} {x f : Str} {k : Nat}
theorem s_raise (ok : Okx X G W) (hc : X.calm = true) (E : ExK X G x k f) (hg : Gl X x) (hs : notStar e = true) (he : PE X e (tD G W fe)) :
    PS X (.Raise (some (.Call (.Name x p) [e] [] p2)) none pos) (tDS G W fun s H => (fe s H).st s fun d H1 => .ex ⟨.own k, some d⟩ s H1) := by
  obtain ⟨B, F⟩ := E.F
  obtain ⟨l, fd, ps, h1, h2, h3⟩ := E.ini
  refine PS.mono (ps_raise hc ok.tk (pmk_oex F.T F.ini F.inT h1 h2 h3 .nil (passes_call ok.tk fun _ _ _ _ z => z.elim) hg E.mg (pa_cons he pa_nil (star_cons hs)) E.nd (star_cons hs) (by rfl))) fun D s H h => ?_
  obtain ⟨w, Hd, sd, rel, rs, p⟩ := h
  refine seqS rel rs p fun d Hd1 w1 H1 v e1 rel1 rs1 r1 p1 => ⟨by show 1 ≤ 1000; omega, fun a ha => ⟨a, v, rfl, upd_same, fun dx n1 n2 => ?_⟩⟩
  rw [upd_ne n2] at n1
  refine ⟨rfl, dx, [(f, v)], upd_same, by rw [upd_ne n2, upd_same], n1, ?_⟩
  rw [mk_heap ha n2]
  refine p1 w1 _ (ext_new rel1 n1 _) (rel_new rel1 n1 _) _ (rs1.ext (ext_new rel1 n1 _)) _ _ ?_
  exact ⟨rfl, dx, v, rfl, by rw [E.xf, upd_same], rel1.notL n1, r1.ext (ext_new rel1 n1 _)⟩
end
section
variable {G G' : Gr} {w : Vw} {H : Hp} {sd : Sd} {s : L2.St} {i : Nat} {a dd : Addr} {f : Str} {d : D} {v : V}
theorem RepS.enter (hx : G.exc = none) (r : RepS G w H sd s) (hi : i < sd.length) (h1 : H dd = some (.xd [(f, v)])) (h2 : ¬ w.L dd) (h3 : RepV G w H d v) :
    RepS { G with exc := some (i, a, dd, f, d) } w H (sd.set i none) (s.set i (some (.ref a))) := by
  refine ⟨by rw [List.length_set, List.length_set]; exact r.1, fun j e hj => ?_, fun i' a' da' f' d' h => ?_⟩
  · by_cases hij : i = j
    · subst hij
      rw [List.getElem?_set_self hi] at hj; cases hj
    · rw [List.getElem?_set_ne hij] at hj ⊢
      obtain ⟨u, h4, h5⟩ := r.2 j e hj
      exact ⟨u, h4, RepV.gr (G := G) (G' := { G with exc := some (i, a, dd, f, d) }) rfl rfl h5⟩
  · cases h
    exact ⟨List.getElem?_set_self (by rw [← r.1]; exact hi), v, h1, h2, RepV.gr (G := G) (G' := { G with exc := some (i, a, dd, f, d) }) rfl rfl h3⟩
theorem RepS.leave (hx : G.exc = none) (hK : G.K = G'.K) (hc : G.ca = G'.ca) (r : RepS G' w H sd s) : RepS G w H (sd.set i none) (s.set i none) := by
  refine ⟨by rw [List.length_set, List.length_set]; exact r.1, fun j e hj => ?_, .no hx⟩
  by_cases hij : i = j
  · subst hij
    by_cases hi : i < sd.length
    · rw [List.getElem?_set_self hi] at hj; cases hj
    · rw [List.getElem?_eq_none (by rw [List.length_set]; omega)] at hj; cases hj
  · rw [List.getElem?_set_ne hij] at hj ⊢
    obtain ⟨u, h4, h5⟩ := r.2 j e hj
    exact ⟨u, h4, h5.gr hK hc⟩
end
section
variable {X : Cx} {G : Gr} {W : WX} {pos pos' np : Pos} {x n f : Str} {k i : Nat} {body suite : List Stmt} {b₀ : Stmt} {fb : Sd → HH → RS} {fh : D → Sd → HH → RS}
theorem s_try (ok : Okx X G W) (hx : G.exc = none) (hst : X.stack = X.env :: X.outer) (hf : X.env.frame = some X.env.locals) (hi : X.N[i]? = some n) (hln : X.env.kindOf n = some .local) (E : ExK X G x k f) (hg : Gl X x)
    (hb : ∀ (W' : WX) (pn : List (Addr × Obj)) (xe : Value → Shared → Prop), Takes (X.tr pn xe) W' → PassesOwn (model X.prog X.w) X.A X.env xe → PSs (X.tr pn xe) body (tDS G W' fb))
    (hsu : ∀ (a : Addr) (oe : Obj) (dd : Addr) (pn : List (Addr × Obj)) (fd : D), Zc (.ref (G.ca k)) (some dd) oe → (∃ vs, oe.data = .fields vs) → PSs (X.suite a ((a, oe) :: pn)) (b₀ :: suite) (tDS { G with exc := some (i, a, dd, f, fd) } W0 (fh fd))) :
    PS X (.Try body [.ExceptHandler (some (.Name x np)) (some n) (b₀ :: suite) pos'] [] [] pos) (tDS G W fun s H => tryL k i fh (fb s H)) := by
  obtain ⟨B, F⟩ := E.F
  refine PS.mono (ps_try_as (tb := fun W' => tDS G W' fb) (ts := fun a cls da En σ H => cls = .ref (G.ca k) ∧ ∃ (dd : Addr) (fd : D), da = some dd ∧ tDS { G with exc := some (i, a, dd, f, fd) } W0 (fh fd) En σ H)
    hst hf ok.nd hi hln (c := .ref (G.ca k)) ⟨hg, E.nd, .inl E.mg⟩ ok.tk hb (fun a oe cls da pn hz hfl => ⟨fun pins s σ H Q I h => ?_⟩)) fun En s H h => ?_
  · obtain ⟨rfl, dd, fd, rfl, h⟩ := h
    exact (hsu a oe dd pn fd hz hfl).run pins s σ H Q I h
  · obtain ⟨w, Hd, sd, rel, rs, p⟩ := h
    refine ⟨w, Hd, sd, rel, rs, ?_⟩
    dsimp only at p
    generalize fb sd Hd = r at p
    cases r with
    | no => exact p
    | go fl H1 => cases fl <;> exact p
    | ex e s1 H1 =>
      intro w' H' e1 rel1 v rs1 c da rx
      replace p : PostS G w H (tryH k i fh e s1 H1) W En := p
      unfold tryH at p
      split at p
      · rename_i k' d hcl hfl
        split at p
        · rename_i hk
          obtain ⟨rfl, hil⟩ := hk
          unfold RepX at rx
          rw [hcl, hfl] at rx
          obtain ⟨rfl, dd, u, rfl, h1, h2, h3⟩ := rx
          rw [E.xf] at h1
          refine ⟨true, F.self, fun _ a ha => ⟨rfl, dd, d, rfl, w', H1, s1.set i none, Rel.gr (G := G) (G' := { G with exc := some (i, a, dd, f, d) }) rfl rfl rel1, RepS.enter hx rs1 hil h1 h2 h3, ?_⟩, fun z => by cases z⟩
          generalize fh d (s1.set i none) H1 = r at p
          cases r with
          | no => exact p.elim
          | ex _ _ _ => exact p.elim
          | go fl H2 =>
            cases fl with
            | nx s2 => exact fun w2 Hp2 e2 rel2 v2 rs2 => p w2 Hp2 (e1.trans e2) (Rel.gr (G := { G with exc := some (i, a, dd, f, d) }) (G' := G) rfl rfl rel2) _ (RepS.leave (G := G) (G' := { G with exc := some (i, a, dd, f, d) }) hx rfl rfl rs2)
            | bk s2 => exact fun w2 Hp2 e2 rel2 v2 rs2 => p w2 Hp2 (e1.trans e2) (Rel.gr (G := { G with exc := some (i, a, dd, f, d) }) (G' := G) rfl rfl rel2) _ (RepS.leave (G := G) (G' := { G with exc := some (i, a, dd, f, d) }) hx rfl rfl rs2)
            | ct s2 => exact fun w2 Hp2 e2 rel2 v2 rs2 => p w2 Hp2 (e1.trans e2) (Rel.gr (G := { G with exc := some (i, a, dd, f, d) }) (G' := G) rfl rfl rel2) _ (RepS.leave (G := G) (G' := { G with exc := some (i, a, dd, f, d) }) hx rfl rfl rs2)
            | rt d2 => exact fun w2 Hp2 e2 rel2 v2 rv2 => p w2 Hp2 (e1.trans e2) (Rel.gr (G := { G with exc := some (i, a, dd, f, d) }) (G' := G) rfl rfl rel2) _ (RepV.gr (G := { G with exc := some (i, a, dd, f, d) }) (G' := G) rfl rfl rv2)
        · exact p.elim
      · exact p.elim
end
section
variable {X : Cx} {G : Gr} {pos p p1 p2 p3 : Pos} {n f : Str} {i : Nat} {a dd C : Addr} {oe : Obj} {pn : List (Addr × Obj)} {fd : D}
theorem d_xf {B : Addr} (F : ExF X.K C B f) (hx : G.exc = some (i, a, dd, f, fd)) (hz : Zc (.ref C) (some dd) oe) (hfl : ∃ vs, oe.data = .fields vs) (hi : X.N[i]? = some n) (hv : Vis X.env.scope n) (hd : (n == ("__debug__" : Str)) = false) (hd2 : (n == ("__classdict__" : Str)) = false) :
    PE (X.suite a ((a, oe) :: pn)) (.Attribute (.Name n p) f pos) (tD G W0 fun _ H => .ok fd H) :=
  PE.mono (pe_xf F.xf F.nof hz hfl (pe_var (X := X.suite a ((a, oe) :: pn)) hi hv hd hd2) (by rfl)) fun s H Q h => by
    obtain ⟨w, Hd, sd, rel, rs, q⟩ := h
    obtain ⟨h0, v, h1, h2, h3⟩ := rs.xc _ _ _ _ _ hx
    exact ⟨_, h0, rfl, rfl, dd, _, v, rfl, h1, by simp [List.lookup], q w H (Ext.refl _ _) rel v h3⟩
/-- isinstance(e, c), e the exception that the suite holds -/
def rIsX (K : PySem.W.Frag) (C a dd : Addr) : List V → Hp → VK → Prop := fun xs H Q => ∃ (c : V) (cv : Value) (b : Bool) (fs : List (Str × V)), xs = [.ref a, c] ∧ H dd = some (.xd fs) ∧ (∀ u, RelV c u → u = cv) ∧ PySem.W.kitOne K (.ref C) cv = some b ∧ Q (.bl b) H
theorem call_isX {B : Addr} (F : ExF X.K C B f) (hz : Zc (.ref C) (some dd) oe) (hfl : ∃ vs, oe.data = .fields vs) : CallR (X.suite a ((a, oe) :: pn)) (.builtin "isinstance") (rIsX X.K C a dd) := by
  intro pins s σ H xs us Q I r h
  obtain ⟨c, cv, b, fs, rfl, hdd, hcv, e, q⟩ := h
  cases r with
  | cons rx rr =>
    cases rr with
    | cons rt rr =>
      cases rr
      cases rx
      have ec := hcv _ rt
      subst ec
      obtain ⟨hget, _⟩ := I.pin (a, oe) (List.mem_append.mpr (.inl List.mem_cons_self))
      obtain ⟨vs, hv⟩ := hfl
      have hob : ObjOk X.prog X.w H s.heap dd (.xd fs) := I.hok dd _ hdd
      obtain ⟨mA, hns, _⟩ := hob
      obtain ⟨od, ho, _⟩ := lookIn_ns hns
      have J : PySem.W.InstAt s.heap a oe C (some od) := ⟨hget, hz.1, by unfold PySem.W.notCls; rw [hv] <;> rfl, by rw [hz.2]; exact ho⟩
      have hcl : (PySem.W.clsIn X.K C).isSome = true := by
        obtain ⟨_, _, _, _, _, _, _, _, _, _, _, _, _, _, _, hK, _⟩ := F.T.cls
        unfold PySem.W.clsIn
        rw [hK]; rfl
      exact PySem.W.kia_one (PySem.W.kitx_exc hcl F.xf.ga F.xf.gg F.xf.exC F.ha F.hn F.ht F.hm) I.kIn J e (fun z => nomatch z) fun tk => ⟨.bl b, H, I.kept (t' := tk) fun _ _ z => z, rfl, q⟩
/-- what is known of isinstance(e, y), e of the class C -/
def IsK (K : PySem.W.Frag) (mg : Str → Option Value) (C : Addr) (y : Str) (b : Bool) : Prop := (y == ("__debug__" : Str)) = false ∧ ((∃ A, mg y = some (.ref A) ∧ PySem.W.kitOne K (.ref C) (.ref A) = some b) ∨ ∃ t, mg y = none ∧ bootBuiltins y = some (.type t) ∧ y ≠ "__name__" ∧ PySem.W.kitOne K (.ref C) (.type t) = some b)
theorem d_xis {B : Addr} {y : Str} {b : Bool} (F : ExF X.K C B f) (hx : G.exc = some (i, a, dd, f, fd)) (hz : Zc (.ref C) (some dd) oe) (hfl : ∃ vs, oe.data = .fields vs) (hi : X.N[i]? = some n) (hv : Vis X.env.scope n) (hd : (n == ("__debug__" : Str)) = false) (hd2 : (n == ("__classdict__" : Str)) = false)
    (hg : Gl X "isinstance") (hm : X.mg "isinstance" = none) (hgy : Gl X y) (K : IsK X.K X.mg C y b) :
    PE (X.suite a ((a, oe) :: pn)) (.Call (.Name "isinstance" p1) [.Name n p2, .Name y p3] [] pos) (tD G W0 fun _ H => .ok (.bl b) H) := by
  have go : ∀ (c : V) (cv : Value), PE (X.suite a ((a, oe) :: pn)) (.Name y p3) (tC c) → (∀ u, RelV c u → u = cv) → PySem.W.kitOne X.K (.ref C) cv = some b →
      PE (X.suite a ((a, oe) :: pn)) (.Call (.Name "isinstance" p1) [.Name n p2, .Name y p3] [] pos) (tD G W0 fun _ H => .ok (.bl b) H) := fun c cv h1 h2 h3 => by
    refine PE.mono (pe_callB (X := X.suite a ((a, oe) :: pn)) (call_isX F hz hfl) hg hm (by decide +kernel) (pa_cons (pe_var (X := X.suite a ((a, oe) :: pn)) hi hv hd hd2) (pa_cons h1 pa_nil (by rfl)) (by rfl)) (by decide +kernel) (by decide +kernel) (by rfl) (by rfl)) fun s H Q h => ?_
    obtain ⟨w, Hd, sd, rel, rs, q⟩ := h
    obtain ⟨h0, v, h4, h5, h6⟩ := rs.xc _ _ _ _ _ hx
    exact ⟨_, h0, c, cv, b, _, rfl, h4, h2, h3, q w H (Ext.refl _ _) rel _ (.bl b)⟩
  obtain ⟨hd3, K⟩ := K
  rcases K with ⟨A, h1, h2⟩ | ⟨t, h1, h2, h3, h4⟩
  · exact go (.ref A) (.ref A) (pe_glob hgy h1 rfl hd3) (fun u hu => hu) h2
  · exact go (.ty t) (.type t) (pe_bltn hgy h1 h2 rfl h3 hd3) (fun u hu => hu) h4
end
end DI
namespace DI
open PySem PySem.Spec PyProof.Rows L2

structure Ck where
  N : List Str
  sc : Scope
  top : Bool
  /-- not within an except suite -/
  calm : Bool
  /-- the name of the suite's exception, its class's number, its field's name, the field -/
  exc : Option (Str × Nat × Str × D)
def mkCk (N : List Str) (sc : Scope) : Ck := ⟨N, sc, true, true, none⟩
structure Tb where
  fns : List Str
  forms : List (Nat × Nat × List Str × List Nat)
  cons : List Str
  blts : List Str
  live : List (Nat × Nat)
  imp : List (Nat × Nat)
  /-- own exception classes that keep a field: name, number, field -/
  exs : List (Str × Nat × Str) := []
  /-- what isinstance says of such an exception: the class's number, the asked class, the answer -/
  xis : List (Nat × Str × Bool) := []
def lkN (k : Ck) (x : Str) : Option NameKind := k.sc.names.lookup x
def visB (k : Ck) (x : Str) : Bool := match lkN k x with
  | some .local => true | some .cell => true | some .free => true | _ => false
def glB (k : Ck) (x : Str) : Bool := match lkN k x with
  | some .globalImplicit => true | _ => false
def stB (k : Ck) (x : Str) : Bool := match lkN k x with
  | some .local => true | some .cell => k.top | _ => false
def ixS (x : Str) : List Str → Nat → Option Nat
  | [], _ => none
  | y :: r, i => if x == y then some i else ixS x r (i + 1)
/-- the place of a name, checked -/
def ixN' (l : List Str) (x : Str) : Option Nat := match ixS x l 0 with
  | some i => if l[i]? = some x then some i else none
  | none => none
theorem ixN'_ok {l : List Str} {x : Str} {i : Nat} (h : ixN' l x = some i) : l[i]? = some x := by
  unfold ixN' at h
  split at h
  · split at h
    · rename_i e; cases h; exact e
    · cases h
  · cases h
def dbg (x : Str) : Bool := x == ("__debug__" : Str) || x == ("__classdict__" : Str)

structure Sx (T : Tb) (c : Cfg) (G : Gr) (k : Ck) (X : Cx) (W : WX) : Prop where
  ok : Okx X G W
  hN : X.N = k.N
  hs : X.env.scope = k.sc
  kd : k.sc.kind = .function
  fn : k.top = true → ∀ x, X.fn x = true
  blt : ∀ x ∈ T.blts, X.mg x = none
  con : ∀ (g : Nat) (x : Str), T.cons[g]? = some x → (x == ("__debug__" : Str)) = false ∧ ∃ d v u, c.consts[g]? = some d ∧ X.mg x = some u ∧ RelV v u ∧ ∀ w H, RepV G w H d v
  calm : k.calm = true → X.calm = true
  gx : k.calm = true → G.exc = none
  def_ : k.calm = true → ∀ (f : Nat) (x : Str), T.fns[f]? = some x → ∃ l a fd ps dV dvs, Room l X.A ∧ Callee X G l x a fd ps (c.call f) (c.dfl f) dV dvs ∧ ∀ n ks pm, (f, n, ks, pm) ∈ T.forms → KBd X.K fd ps n ks pm dvs
  fr : k.top = true → X.stack = X.env :: X.outer ∧ X.env.frame = some X.env.locals
  exk : k.calm = true → ∀ (x : Str) (n : Nat) (f : Str), (x, n, f) ∈ T.exs → ExK X G x n f
  iso : ∀ (n : Nat) (y : Str) (b : Bool), (n, y, b) ∈ T.xis → IsK X.K X.mg (G.ca n) y b
  xn : k.calm = true → k.exc = none
  xc : ∀ (n : Str) (kx : Nat) (f : Str) (d : D), k.exc = some (n, kx, f, d) → (∀ p p', PE X (.Attribute (.Name n p) f p') (tD G W fun _ H => .ok d H)) ∧
    ∀ (y : Str) (b : Bool), (kx, y, b) ∈ T.xis → glB k "isinstance" = true → ("isinstance" : Str) ∈ T.blts → glB k y = true → ∀ p1 p2 p3 p4, PE X (.Call (.Name "isinstance" p1) [.Name n p2, .Name y p3] [] p4) (tD G W fun _ H => .ok (.bl b) H)

section
variable {T : Tb} {c : Cfg} {G : Gr} {k : Ck} {X : Cx} {W : WX} {pos : Pos}
theorem Sx.lk (S : Sx T c G k X W) (x : Str) : X.env.scope.names.lookup x = lkN k x := by rw [S.hs]; rfl
theorem Sx.vis (S : Sx T c G k X W) {x : Str} (h : visB k x = true) : Vis X.env.scope x := by
  unfold visB at h
  unfold Vis
  rw [S.lk]
  split at h <;> first | (rename_i e; rw [e]; simp; done) | cases h
theorem Sx.gl (S : Sx T c G k X W) {x : Str} (h : glB k x = true) : Gl X x := by
  unfold glB at h
  show X.env.scope.names.lookup x = _
  rw [S.lk]
  split at h <;> first | assumption | cases h
theorem Sx.st (S : Sx T c G k X W) {x : Str} (h : stB k x = true) : L2.Loc X.env.scope x ∧ (X.fn x = true ∨ X.env.scope.names.lookup x = some .local) := by
  unfold stB at h
  unfold L2.Loc
  rw [S.lk]
  split at h
  · rename_i e; rw [e]; exact ⟨.inl rfl, .inr rfl⟩
  · rename_i e; rw [e]; exact ⟨.inr rfl, .inl (S.fn h x)⟩
  · cases h
theorem Sx.ix (S : Sx T c G k X W) {x : Str} {i : Nat} (h : ixN' k.N x = some i) : X.N[i]? = some x := by rw [S.hN]; exact ixN'_ok h

/-- the lower level's compilers -/
structure Rc where
  e : Ck → Expr → Option E
  t : Ck → Expr → Option E
structure Snd (T : Tb) (c : Cfg) (G : Gr) (r : Rc) : Prop where
  e : ∀ {k X W e d}, Sx T c G k X W → r.e k e = some d → PE X e (tD G W (evE c d))
  t : ∀ {k X W e d}, Sx T c G k X W → r.t k e = some d → PT X e (tDT G W (evT c d))

theorem eE {e : Expr} {f g : Sd → HH → Rs D} (h : PE X e (tD G W g)) (q : ∀ s H, f s H = g s H) : PE X e (tD G W f) := by
  have : f = g := by funext s H; exact q s H
  subst this; exact h
theorem eA {e : List Expr} {f g : Sd → HH → Rs (List D)} (h : PA X e (tDA G W g)) (q : ∀ s H, f s H = g s H) : PA X e (tDA G W f) := by
  have : f = g := by funext s H; exact q s H
  subst this; exact h
theorem eK {e : List Keyword} {f g : Sd → HH → Rs (List D)} (h : PK X e (tDA G W g)) (q : ∀ s H, f s H = g s H) : PK X e (tDA G W f) := by
  have : f = g := by funext s H; exact q s H
  subst this; exact h
theorem eT {e : Expr} {f g : Sd → HH → Rs Bool} (h : PT X e (tDT G W g)) (q : ∀ s H, f s H = g s H) : PT X e (tDT G W f) := by
  have : f = g := by funext s H; exact q s H
  subst this; exact h
theorem eW {e : Expr} {f g : Sd → HH → Rs Bool} (h : PW X e (tDT G W g)) (q : ∀ s H, f s H = g s H) : PW X e (tDT G W f) := by
  have : f = g := by funext s H; exact q s H
  subst this; exact h

def cConst : Const → Option E
  | .none => some (.cst .non)
  | .bool b => some (.cst (.bl b))
  | .int i => some (.cst (.int i))
  | .str s => some (.cst (.str s.cps.toList))
  | _ => none
theorem cConst_ok (S : Sx T c G k X W) {v : Const} {j : Nat} {d : E} (h : cConst v = some d) : PE X (.Constant v j pos) (tD G W (evE c d)) := by
  cases v <;> first
    | (cases h; exact eE (d_cst pe_non fun w H => .non) fun s H => by unfold evE; rfl)
    | (cases h; exact eE (d_cst pe_bl fun w H => .bl _) fun s H => by unfold evE; rfl)
    | (cases h; exact eE (d_cst pe_int fun w H => .int _) fun s H => by unfold evE; rfl)
    | (cases h
       rename_i x
       refine eE (d_cst (d := .str x.cps.toList) pe_str fun w H => ?_) fun s H => by unfold evE; rfl
       have := RepV.str (G := G) (w := w) (H := H) x.cps.toList
       simpa using this)
    | cases h
def cName (T : Tb) (k : Ck) (x : Str) : Option E :=
  if dbg x then none
  else if visB k x then (ixN' k.N x).map .loc
  else if glB k x then (ixN' T.cons x).map .glb
  else none
theorem cName_ok (S : Sx T c G k X W) {x : Str} {d : E} (h : cName T k x = some d) : PE X (.Name x pos) (tD G W (evE c d)) := by
  unfold cName at h
  split at h
  · cases h
  · rename_i hd
    unfold dbg at hd
    rw [Bool.not_eq_true, Bool.or_eq_false_iff] at hd
    split at h
    · rename_i hv
      cases e : ixN' k.N x with
      | none => rw [e] at h; cases h
      | some i =>
        rw [e] at h
        cases h
        exact eE (d_loc (S.ix e) (S.vis hv) hd.1 hd.2) fun s H => by unfold evE; rfl
    · split at h
      · rename_i hg
        cases e : ixN' T.cons x with
        | none => rw [e] at h; cases h
        | some i =>
          rw [e] at h
          cases h
          obtain ⟨h1, d, v, u, h2, h3, h4, h5⟩ := S.con i x (ixN'_ok e)
          exact eE (d_cst (pe_glob (S.gl hg) h3 h4 h1) h5) fun s H => by unfold evE; rw [h2]
      · cases h
def cList (f : Expr → Option E) : List Expr → Option Es
  | [] => some .nil
  | e :: r => if notStar e then match f e, cList f r with
    | some d, some ds => some (.cons d ds)
    | _, _ => none else none
def lenE : Es → Nat
  | .nil => 0
  | .cons _ r => lenE r + 1
theorem evEs_len (c : Cfg) : ∀ (es : Es) {s : Sd} {H H1 : HH} {ds : List D}, evEs c es s H = .ok ds H1 → ds.length = lenE es
  | .nil, _, _, _, _, h => by unfold evEs at h; cases h; rfl
  | .cons e r, s, H, H1, ds, h => by
    unfold evEs at h
    cases h1 : evE c e s H with
    | no => rw [h1] at h; cases h
    | ex x H2 => rw [h1] at h; cases h
    | ok d H2 =>
      rw [h1] at h
      simp only [Rs.bind_ok] at h
      cases h2 : evEs c r s H2 with
      | no => rw [h2] at h; cases h
      | ex x H2 => rw [h2] at h; cases h
      | ok d H2 =>
        rw [h2] at h
        cases h
        rw [List.length_cons, evEs_len c r h2]
        rfl
theorem cList_len {f : Expr → Option E} : ∀ {es : List Expr} {ds : Es}, cList f es = some ds → lenE ds = es.length ∧ es.all notStar = true
  | [], _, h => by cases h; exact ⟨rfl, rfl⟩
  | e :: r, _, h => by
    unfold cList at h
    split at h
    · rename_i hs
      cases h1 : f e with
      | none => rw [h1] at h; cases h
      | some d =>
        cases h2 : cList f r with
        | none => rw [h1, h2] at h; cases h
        | some ds =>
          rw [h1, h2] at h
          cases h
          obtain ⟨a, b⟩ := cList_len h2
          exact ⟨by show lenE ds + 1 = _; rw [a]; rfl, by rw [List.all_cons, hs, b]; rfl⟩
    · cases h
theorem cList_ok {r : Rc} (Z : Snd T c G r) (S : Sx T c G k X W) : ∀ {es : List Expr} {ds : Es}, cList (r.e k) es = some ds → PA X es (tDA G W (evEs c ds))
  | [], _, h => by cases h; exact eA d_nil fun s H => by unfold evEs; rfl
  | e :: es, _, h => by
    unfold cList at h
    split at h
    · rename_i hs
      cases h1 : r.e k e with
      | none => rw [h1] at h; cases h
      | some d =>
        cases h2 : cList (r.e k) es with
        | none => rw [h1, h2] at h; cases h
        | some ds =>
          rw [h1, h2] at h
          cases h
          exact eA (d_cons hs (Z.e S h1) (cList_ok Z S h2)) fun s H => by rw [evEs]
    · cases h
def cKw (f : Expr → Option E) : List Keyword → Option Es
  | [] => some .nil
  | ⟨_, e, _⟩ :: r => match f e, cKw f r with
    | some d, some ds => some (.cons d ds)
    | _, _ => none
theorem cKw_len {f : Expr → Option E} : ∀ {es : List Keyword} {ds : Es}, cKw f es = some ds → lenE ds = es.length
  | [], _, h => by cases h; rfl
  | ⟨a, e, p⟩ :: r, _, h => by
    unfold cKw at h
    cases h1 : f e with
    | none => rw [h1] at h; cases h
    | some d =>
      cases h2 : cKw f r with
      | none => rw [h1, h2] at h; cases h
      | some ds =>
        rw [h1, h2] at h
        cases h
        show lenE ds + 1 = _
        rw [cKw_len h2]; rfl
theorem cKw_ok {r : Rc} (Z : Snd T c G r) (S : Sx T c G k X W) : ∀ {es : List Keyword} {ds : Es}, cKw (r.e k) es = some ds → PK X es (tDA G W (evEs c ds))
  | [], _, h => by cases h; exact eK d_knil fun s H => by unfold evEs; rfl
  | ⟨a, e, p⟩ :: es, _, h => by
    unfold cKw at h
    cases h1 : r.e k e with
    | none => rw [h1] at h; cases h
    | some d =>
      cases h2 : cKw (r.e k) es with
      | none => rw [h1, h2] at h; cases h
      | some ds =>
        rw [h1, h2] at h
        cases h
        exact eK (d_kcons (Z.e S h1) (cKw_ok Z S h2)) fun s H => by rw [evEs]
def cBool (o : BoolOp) (f : Expr → Option E) : List Expr → Option E
  | [] => none
  | [x] => f x
  | x :: y :: r => match f x, cBool o f (y :: r) with
    | some a, some b => some (match o with | .And => .and a b | .Or => .or a b)
    | _, _ => none
theorem cBool_e {r : Rc} (Z : Snd T c G r) (S : Sx T c G k X W) {o : BoolOp} : ∀ {es : List Expr} {d : E}, cBool o (r.e k) es = some d → PE X (.BoolOp o es pos) (tD G W (evE c d))
  | [], _, h => by cases h
  | [x], d, h => d_one (Z.e S h)
  | x :: y :: l, d, h => by
    unfold cBool at h
    cases h1 : r.e k x with
    | none => rw [h1] at h; cases h
    | some a =>
      cases h2 : cBool o (r.e k) (y :: l) with
      | none => rw [h1, h2] at h; cases h
      | some b =>
        rw [h1, h2] at h
        cases o with
        | And => cases h; exact eE (d_and S.ok (Z.e S h1) (cBool_e Z S h2)) fun s H => by rw [evE] <;> rfl
        | Or => cases h; exact eE (d_or S.ok (Z.e S h1) (cBool_e Z S h2)) fun s H => by rw [evE] <;> rfl
theorem cBool_t {r : Rc} (Z : Snd T c G r) (S : Sx T c G k X W) {o : BoolOp} : ∀ {es : List Expr} {d : E}, cBool o (r.t k) es = some d → PW X (.BoolOp o es pos) (tDT G W (evT c d))
  | [], _, h => by cases h
  | [x], d, h => t_one (Z.t S h)
  | x :: y :: l, d, h => by
    unfold cBool at h
    cases h1 : r.t k x with
    | none => rw [h1] at h; cases h
    | some a =>
      cases h2 : cBool o (r.t k) (y :: l) with
      | none => rw [h1, h2] at h; cases h
      | some b =>
        rw [h1, h2] at h
        cases o with
        | And => cases h; exact eW (t_and (Z.t S h1) (cBool_t Z S h2)) fun s H => by rw [evT]
        | Or => cases h; exact eW (t_or (Z.t S h1) (cBool_t Z S h2)) fun s H => by rw [evT]
end
end DI
namespace DI
open PySem PySem.Spec PyProof.Rows L2
section
variable {T : Tb} {c : Cfg} {G : Gr} {k : Ck} {X : Cx} {W : WX} {pos p : Pos} {r : Rc}
def cCmp (lv : Bool) (f : Expr → Option E) (a : Expr) : List CmpOp → List Expr → Option E
  | [o], [b] => if notSet b then match f a, f b with
    | some x, some y => if lv then (if o = .In then some (.din x y) else some (.cmpF o x y)) else some (.cmp o x y)
    | _, _ => none else none
  | [o, p], [b, d] => if notSet d then match f a, f b, f d with
    | some x, some y, some z => some (.cmp2 o p x y z)
    | _, _, _ => none else none
  | _, _ => none
theorem cCmp_ok (Z : Snd T c G r) (S : Sx T c G k X W) {a : Expr} {os : List CmpOp} {es : List Expr} {lv : Bool} {d : E} (h : cCmp lv (r.e k) a os es = some d) : PE X (.Compare a os es pos) (tD G W (evE c d)) ∧ PT X (.Compare a os es pos) (tDT G W (evT c d)) := by
  unfold cCmp at h
  split at h
  · rename_i o b
    split at h
    · rename_i hs
      cases h1 : r.e k a with
      | none => rw [h1] at h; cases h
      | some x =>
        cases h2 : r.e k b with
        | none => rw [h1, h2] at h; cases h
        | some y =>
          rw [h1, h2] at h
          dsimp only at h
          split at h
          · split at h
            · rename_i ho
              subst ho
              cases h
              exact ⟨eE (d_din S.ok hs (Z.e S h1) (Z.e S h2)) fun s H => by rw [evE], eT (t_din S.ok hs (Z.e S h1) (Z.e S h2)) fun s H => by rw [evT]⟩
            cases h
            exact ⟨eE (d_cmpF S.ok o hs (Z.e S h1) (Z.e S h2)) fun s H => by rw [evE], eT (t_cmpF S.ok o hs (Z.e S h1) (Z.e S h2)) fun s H => by rw [evT]⟩
          cases h
          exact ⟨eE (d_cmp S.ok o hs (Z.e S h1) (Z.e S h2)) fun s H => by rw [evE], eT (t_cmp S.ok o hs (Z.e S h1) (Z.e S h2)) fun s H => by rw [evT]⟩
    · cases h
  · rename_i o p b e
    split at h
    · rename_i hs
      cases h1 : r.e k a with
      | none => rw [h1] at h; cases h
      | some x =>
        cases h2 : r.e k b with
        | none => rw [h1, h2] at h; cases h
        | some y =>
          cases h3 : r.e k e with
          | none => rw [h1, h2, h3] at h; cases h
          | some z =>
            rw [h1, h2, h3] at h
            cases h
            exact ⟨eE (d_cmp2 S.ok o p hs (Z.e S h1) (Z.e S h2) (Z.e S h3)) fun s H => by rw [evE] <;> rfl, eT (t_cmp2 S.ok o p hs (Z.e S h1) (Z.e S h2) (Z.e S h3)) fun s H => by rw [evT] <;> rfl⟩
    · cases h
  · cases h
def cOpt (f : Expr → Option E) : Option Expr → Option OE
  | none => some .no
  | some e => (f e).map .yes
theorem cOpt_ok (Z : Snd T c G r) (S : Sx T c G k X W) {o : Option Expr} {d : OE} (h : cOpt (r.e k) o = some d) : PO X o (tDO G W (evO c d)) := by
  cases o with
  | none =>
    cases h
    have e : evO c .no = fun _ H => .ok none H := by funext s H; rw [evO]
    rw [e]; exact o_no
  | some e =>
    unfold cOpt at h
    dsimp only at h
    cases h1 : r.e k e with
    | none => rw [h1] at h; cases h
    | some x =>
      rw [h1] at h
      cases h
      have e : evO c (.yes x) = fun s H => (evE c x s H).bind fun d H1 => match d with | .int i => .ok (some i) H1 | _ => .no := by funext s H; rw [evO] <;> rfl
      rw [e]; exact o_yes (Z.e S h1)
def isRev : Option Expr → Option Expr → Option Expr → Bool
  | none, none, some (.UnaryOp .USub (.Constant (.int 1) _ _) _) => true
  | _, _, _ => false
def cSub (f : Expr → Option E) (a b : Expr) : Option E := match b with
  | .Slice lo hi none _ => match f a, cOpt f lo, cOpt f hi with
    | some x, some l, some h => some (.sl x l h)
    | _, _, _ => none
  | .Slice lo hi st _ => if isRev lo hi st then (f a).map .rev else none
  | b => if plainIx b then match f a, f b with
    | some x, some y => some (.ix x y)
    | _, _ => none else none
theorem cSub_ok (Z : Snd T c G r) (S : Sx T c G k X W) {a b : Expr} {d : E} (h : cSub (r.e k) a b = some d) : PE X (.Subscript a b pos) (tD G W (evE c d)) := by
  unfold cSub at h
  split at h
  · rename_i lo hi p2
    cases h1 : r.e k a with
    | none => rw [h1] at h; cases h
    | some x =>
      cases h2 : cOpt (r.e k) lo with
      | none => rw [h1, h2] at h; cases h
      | some y =>
        cases h3 : cOpt (r.e k) hi with
        | none => rw [h1, h2, h3] at h; cases h
        | some z =>
          rw [h1, h2, h3] at h
          cases h
          exact eE (d_sl S.ok (Z.e S h1) (cOpt_ok Z S h2) (cOpt_ok Z S h3)) fun s H => by rw [evE]
  · rename_i lo hi st p2 _
    split at h
    · rename_i hr
      unfold isRev at hr
      split at hr
      · cases h1 : r.e k a with
        | none => rw [h1] at h; cases h
        | some x =>
          rw [h1] at h
          cases h
          exact eE (d_rev S.ok (Z.e S h1)) fun s H => by rw [evE] <;> rfl
      · cases hr
    · cases h
  · split at h
    · rename_i hp
      cases h1 : r.e k a with
      | none => rw [h1] at h; cases h
      | some x =>
        cases h2 : r.e k b with
        | none => rw [h1, h2] at h; cases h
        | some y =>
          rw [h1, h2] at h
          cases h
          exact eE (d_ix S.ok hp (Z.e S h1) (Z.e S h2)) fun s H => by rw [evE]
    · cases h
def biOf (x : Str) : List BI → Option BI
  | [] => none
  | b :: r => if x = biN b then some b else biOf x r
theorem biOf_ok {x : Str} : ∀ {l : List BI} {b : BI}, biOf x l = some b → x = biN b
  | [], _, h => by cases h
  | b :: r, _, h => by
    unfold biOf at h
    split at h
    · rename_i e; cases h; exact e
    · exact biOf_ok h
def biAll : List BI := [.len, .sum, .int, .str, .repr, .abs, .max, .min, .tuple, .list, .all, .any]
def tyOf (x : Str) : List (String × Value) → Option (String × Value)
  | [] => none
  | b :: r => if x = (b.1 : Str) then some b else tyOf x r
theorem tyOf_ok {x : Str} : ∀ {l : List (String × Value)} {b : String × Value}, tyOf x l = some b → x = (b.1 : Str) ∧ b ∈ l
  | [], _, h => by cases h
  | b :: r, _, h => by
    unfold tyOf at h
    split at h
    · rename_i e; cases h; exact ⟨e, List.mem_cons_self⟩
    · exact ⟨(tyOf_ok h).1, List.mem_cons_of_mem _ (tyOf_ok h).2⟩
def cIsi (T : Tb) (k : Ck) (f : Expr → Option E) : List Expr → Option E
  | [a, .Name x _] => match tyOf x tyList with
    | some n => if notStar a && glB k "isinstance" && glB k x && decide (("isinstance" : Str) ∈ T.blts) && decide (x ∈ T.blts) then (f a).map (.isi · n.1) else none
    | none => none
  | _ => none
theorem cIsi_ok (Z : Snd T c G r) (S : Sx T c G k X W) {es : List Expr} {d : E} (h : cIsi T k (r.e k) es = some d) : PE X (.Call (.Name "isinstance" p) es [] pos) (tD G W (evE c d)) := by
  unfold cIsi at h
  split at h
  · rename_i a x p2
    cases h1 : tyOf x tyList with
    | none => rw [h1] at h; cases h
    | some n =>
      rw [h1] at h
      dsimp only at h
      split at h
      · rename_i hc
        simp only [Bool.and_eq_true, decide_eq_true_eq] at hc
        obtain ⟨e, hn⟩ := tyOf_ok h1
        subst e
        cases h2 : r.e k a with
        | none => rw [h2] at h; cases h
        | some y =>
          rw [h2] at h
          cases h
          exact eE (d_isi S.ok hn (S.gl hc.1.1.1.2) (S.blt _ hc.1.2) (S.gl hc.1.1.2) (S.blt _ hc.2) hc.1.1.1.1 (Z.e S h2)) fun s H => by rw [evE]
      · cases h
  · cases h
def xisOf (n : Nat) (y : Str) : List (Nat × Str × Bool) → Option Bool
  | [] => none
  | (m, z, b) :: r => if n = m ∧ y = z then some b else xisOf n y r
theorem xisOf_ok {n : Nat} {y : Str} : ∀ {l : List (Nat × Str × Bool)} {b : Bool}, xisOf n y l = some b → (n, y, b) ∈ l
  | [], _, h => by cases h
  | (m, z, b') :: r, b, h => by
    unfold xisOf at h
    split at h
    · rename_i e
      obtain ⟨rfl, rfl⟩ := e
      cases h
      exact List.mem_cons_self
    · exact List.mem_cons_of_mem _ (xisOf_ok h)
/-- isinstance(e, y), e the exception of the suite -/
def cIsX (T : Tb) (k : Ck) : List Expr → Option E
  | [.Name n _, .Name y _] => match k.exc with
    | some (n', kx, _, _) => if n = n' ∧ glB k "isinstance" = true ∧ glB k y = true ∧ ("isinstance" : Str) ∈ T.blts then (xisOf kx y T.xis).map fun b => .cst (.bl b) else none
    | none => none
  | _ => none
theorem cIsX_ok (S : Sx T c G k X W) {es : List Expr} {d : E} (h : cIsX T k es = some d) : PE X (.Call (.Name "isinstance" p) es [] pos) (tD G W (evE c d)) := by
  unfold cIsX at h
  split at h
  · rename_i n _ y _
    split at h
    · rename_i n' kx f fd hk
      split at h
      · rename_i hc
        obtain ⟨rfl, h1, h2, h3⟩ := hc
        cases h4 : xisOf kx y T.xis with
        | none => rw [h4] at h; cases h
        | some b =>
          rw [h4] at h
          cases h
          exact eE ((S.xc _ _ _ _ hk).2 y b (xisOf_ok h4) h1 h3 h2 _ _ _ _) fun s H => by rw [evE]
      · cases h
    · cases h
  · cases h
/-- e.f, e the exception of the suite -/
def cAttr (k : Ck) (n f : Str) : Option E := match k.exc with
  | some (n', _, f', d) => if n = n' ∧ f = f' then some (.cst d) else none
  | none => none
theorem cAttr_ok (S : Sx T c G k X W) {n f : Str} {d : E} (h : cAttr k n f = some d) : PE X (.Attribute (.Name n p) f pos) (tD G W (evE c d)) := by
  unfold cAttr at h
  split at h
  · rename_i n' kx f' fd hk
    split at h
    · rename_i hc
      obtain ⟨rfl, rfl⟩ := hc
      cases h
      exact eE ((S.xc _ _ _ _ hk).1 _ _) fun s H => by rw [evE]
    · cases h
  · cases h
def kwNs : List Keyword → Option (List Str)
  | [] => some []
  | ⟨some n, _, _⟩ :: r => (kwNs r).map (n :: ·)
  | ⟨none, _, _⟩ :: _ => none
theorem kwNs_ok : ∀ {kws : List Keyword} {ks : List Str}, kwNs kws = some ks → kws.map (·.arg) = ks.map some
  | [], _, h => by cases h; rfl
  | ⟨some n, e, p⟩ :: r, ks, h => by
    unfold kwNs at h
    cases q : kwNs r with
    | none => rw [q] at h; cases h
    | some l =>
      rw [q] at h
      cases h
      rw [List.map_cons, List.map_cons, kwNs_ok q]
  | ⟨none, _, _⟩ :: _, _, h => by cases h
def frm (f n : Nat) (ks : List Str) : List (Nat × Nat × List Str × List Nat) → Option (List Nat)
  | [] => none
  | (f', n', ks', pm) :: r => if f = f' ∧ n = n' ∧ ks = ks' then some pm else frm f n ks r
theorem frm_ok {f n : Nat} {ks : List Str} : ∀ {l : List (Nat × Nat × List Str × List Nat)} {pm : List Nat}, frm f n ks l = some pm → (f, n, ks, pm) ∈ l
  | [], _, h => by cases h
  | (f', n', ks', pm') :: r, pm, h => by
    unfold frm at h
    split at h
    · rename_i e
      obtain ⟨rfl, rfl, rfl⟩ := e
      cases h
      exact List.mem_cons_self
    · exact List.mem_cons_of_mem _ (frm_ok h)
/-- a def of the text, by its number -/
def cDef (T : Tb) (k : Ck) (f : Expr → Option E) (i : Nat) (es : List Expr) (kws : List Keyword) (imp : Bool) : Option E := if k.calm then match cList f es, cKw f kws, kwNs kws with
  | some ds, some zs, some ks => match frm i es.length ks T.forms with
    | some pm => some (if imp then .call i ds zs pm else .pcall i ds zs pm)
    | none => none
  | _, _, _ => none else none
theorem cDef_ok (Z : Snd T c G r) (S : Sx T c G k X W) {x : Str} {i : Nat} {es : List Expr} {kws : List Keyword} {imp : Bool} {d : E} (hg : glB k x = true) (hi : T.fns[i]? = some x) (h : cDef T k (r.e k) i es kws imp = some d) : PE X (.Call (.Name x p) es kws pos) (tD G W (evE c d)) := by
  unfold cDef at h
  split at h
  case isFalse => cases h
  rename_i hcm
  cases h1 : cList (r.e k) es with
  | none => rw [h1] at h; cases h
  | some ds =>
    cases h2 : cKw (r.e k) kws with
    | none => rw [h1, h2] at h; cases h
    | some zs =>
      cases h3 : kwNs kws with
      | none => rw [h1, h2, h3] at h; cases h
      | some ks =>
        rw [h1, h2, h3] at h
        dsimp only at h
        cases h4 : frm i es.length ks T.forms with
        | none => rw [h4] at h; cases h
        | some pm =>
          rw [h4] at h
          obtain ⟨l, a, fd, ps, dV, dvs, hr, C, hb⟩ := S.def_ hcm i x hi
          have hb := hb _ _ _ (frm_ok h4)
          have hk := kwNs_ok h3
          have kl : ks.length = kws.length := by
            have := congrArg List.length hk
            simpa using this.symm
          obtain ⟨n1, n2⟩ := cList_len h1
          have l1 : ∀ s H ds' H1, evEs c ds s H = .ok ds' H1 → ds'.length = es.length := fun s H ds' H1 e => (evEs_len c ds e).trans n1
          have l2 : ∀ s H ds' H1, evEs c zs s H = .ok ds' H1 → ds'.length = ks.length := fun s H ds' H1 e => (evEs_len c zs e).trans ((cKw_len h2).trans kl.symm)
          have e1 : es = [] → ∀ s H, evEs c ds s H = .ok [] H := fun e s H => by subst e; cases h1; unfold evEs; rfl
          have e2 : kws = [] → ∀ s H, evEs c zs s H = .ok [] H := fun e s H => by subst e; cases h2; unfold evEs; rfl
          cases imp with
          | true =>
            cases (show some (E.call i ds zs pm) = some d from h)
            exact eE (d_callG S.ok C hr (S.gl hg) hb n2 (cList_ok Z S h1) (cKw_ok Z S h2) hk l1 l2 e1 e2) fun s H => by rw [evE] <;> rfl
          | false =>
            cases (show some (E.pcall i ds zs pm) = some d from h)
            exact eE (d_pcallG S.ok C hr (S.gl hg) hb n2 (cList_ok Z S h1) (cKw_ok Z S h2) hk l1 l2 e1 e2) fun s H => by rw [evE] <;> rfl
def cCall (T : Tb) (k : Ck) (f : Expr → Option E) (x : Str) (es : List Expr) (kws : List Keyword) (pos : Pos) : Option E :=
  if glB k x then match ixN' T.fns x with
    | some i => cDef T k f i es kws (decide ((pos.line, pos.col) ∈ T.imp))
    | none => match kws with
      | [] => if x = ("isinstance" : Str) then (match cIsX T k es with | some d => some d | none => cIsi T k f es) else match biOf x biAll with
        | some b => if decide (x ∈ T.blts) && (!coolBI b || k.calm) then match es with
          | [] => none
          | e :: es => (cList f (e :: es)).map (.bi b) else none
        | none => none
      | _ => none
  else none
theorem cCall_ok (Z : Snd T c G r) (S : Sx T c G k X W) {x : Str} {es : List Expr} {kws : List Keyword} {d : E} (h : cCall T k (r.e k) x es kws pos = some d) : PE X (.Call (.Name x p) es kws pos) (tD G W (evE c d)) := by
  unfold cCall at h
  split at h
  · rename_i hg
    split at h
    · rename_i i hi
      exact cDef_ok Z S hg (ixN'_ok hi) h
    · split at h
      · split at h
        · rename_i e
          subst e
          split at h
          · rename_i d' hd'
            cases h
            exact cIsX_ok S hd'
          · exact cIsi_ok Z S h
        · split at h
          · rename_i b hb
            have e := biOf_ok hb
            subst e
            split at h
            · rename_i hm
              rw [Bool.and_eq_true, decide_eq_true_eq, Bool.or_eq_true, Bool.not_eq_true'] at hm
              split at h
              · cases h
              · rename_i e es
                cases h1 : cList (r.e k) (e :: es) with
                | none => rw [h1] at h; cases h
                | some ds =>
                  rw [h1] at h
                  cases h
                  exact eE (d_bi S.ok b (fun hq => hm.2.elim (fun z => absurd (hq.symm.trans z) (by decide)) S.calm) (S.gl hg) (S.blt _ hm.1) (cList_len h1).2 (cList_ok Z S h1)) fun s H => by rw [evE]
            · cases h
          · cases h
      · cases h
  · cases h
def mtOf (x : Str) : List MT → Option MT
  | [] => none
  | b :: r => if x = mtN b then some b else mtOf x r
theorem mtOf_ok {x : Str} : ∀ {l : List MT} {b : MT}, mtOf x l = some b → x = mtN b
  | [], _, h => by cases h
  | b :: r, _, h => by
    unfold mtOf at h
    split at h
    · rename_i e; cases h; exact e
    · exact mtOf_ok h
def cMeth (f : Expr → Option E) (o : Expr) (nm : Str) (ap pos : Pos) (e : Expr) : Option E := match mtOf nm [.append, .extend, .index, .join, .split] with
  | some m => if plainBase o && notStar e && (ap.endLine == pos.line) then match f o, cList f [e] with
    | some x, some ds => some (.mt m x ds)
    | _, _ => none else none
  | none => none
theorem cMeth_ok (Z : Snd T c G r) (S : Sx T c G k X W) {o e : Expr} {nm : Str} {ap : Pos} {d : E} (h : cMeth (r.e k) o nm ap pos e = some d) : PE X (.Call (.Attribute o nm ap) [e] [] pos) (tD G W (evE c d)) := by
  unfold cMeth at h
  split at h
  · rename_i m hm
    split at h
    · rename_i hc
      simp only [Bool.and_eq_true] at hc
      cases h1 : r.e k o with
      | none => rw [h1] at h; cases h
      | some x =>
        cases h2 : cList (r.e k) [e] with
        | none => rw [h1, h2] at h; cases h
        | some ds =>
          rw [h1, h2] at h
          cases h
          exact eE (d_mt S.ok m (mtOf_ok hm) hc.1.1 hc.1.2 hc.2 (Z.e S h1) (cList_ok Z S h2)) fun s H => by rw [evE]
    · cases h
  · cases h
def cMeth0 (f : Expr → Option E) (o : Expr) (nm : Str) (ap pos : Pos) : Option E := if nm = ("isalpha" : Str) then if plainBase o && (ap.endLine == pos.line) then match f o with
    | some x => some (.mt .isalpha x .nil)
    | none => none else none else none
theorem cMeth0_ok (Z : Snd T c G r) (S : Sx T c G k X W) {o : Expr} {nm : Str} {ap : Pos} {d : E} (h : cMeth0 (r.e k) o nm ap pos = some d) : PE X (.Call (.Attribute o nm ap) [] [] pos) (tD G W (evE c d)) := by
  unfold cMeth0 at h
  split at h
  · rename_i hn
    subst hn
    split at h
    · rename_i hc
      simp only [Bool.and_eq_true] at hc
      cases h1 : r.e k o with
      | none => rw [h1] at h; cases h
      | some x =>
        rw [h1] at h
        cases h
        exact eE (d_mt0 S.ok hc.1 hc.2 (Z.e S h1)) fun s H => by rw [evE]; simp only [evEs, Rs.bind_ok]
    · cases h
  · cases h
def cSubD (f : Expr → Option E) (a b : Expr) : Option E := if plainIx b then match f a, f b with
    | some x, some y => some (.dget x y)
    | _, _ => none else none
theorem cSubD_ok (Z : Snd T c G r) (S : Sx T c G k X W) {a b : Expr} {d : E} (h : cSubD (r.e k) a b = some d) : PE X (.Subscript a b pos) (tD G W (evE c d)) := by
  unfold cSubD at h
  split at h
  · rename_i hp
    cases h1 : r.e k a with
    | none => rw [h1] at h; cases h
    | some x =>
      cases h2 : r.e k b with
      | none => rw [h1, h2] at h; cases h
      | some y =>
        rw [h1, h2] at h
        cases h
        exact eE (d_dget S.ok hp (Z.e S h1) (Z.e S h2)) fun s H => by rw [evE]
  · cases h
def cMeth2 (f : Expr → Option E) (o : Expr) (nm : Str) (ap pos : Pos) (a b : Expr) : Option E := if nm = ("get" : Str) then if plainBase o && notStar a && notStar b && (ap.endLine == pos.line) then match f o, f a, f b with
    | some x, some y, some z => some (.dget2 x y z)
    | _, _, _ => none else none else none
theorem cMeth2_ok (Z : Snd T c G r) (S : Sx T c G k X W) {o a b : Expr} {nm : Str} {ap : Pos} {d : E} (h : cMeth2 (r.e k) o nm ap pos a b = some d) : PE X (.Call (.Attribute o nm ap) [a, b] [] pos) (tD G W (evE c d)) := by
  unfold cMeth2 at h
  split at h
  · rename_i hn
    split at h
    · rename_i hc
      simp only [Bool.and_eq_true] at hc
      cases h1 : r.e k o with
      | none => rw [h1] at h; cases h
      | some x =>
        cases h2 : r.e k a with
        | none => rw [h1, h2] at h; cases h
        | some y =>
          cases h3 : r.e k b with
          | none => rw [h1, h2, h3] at h; cases h
          | some z =>
            rw [h1, h2, h3] at h
            cases h
            exact eE (d_dget2 S.ok hn hc.1.1.1 hc.1.1.2 hc.1.2 hc.2 (Z.e S h1) (Z.e S h2) (Z.e S h3)) fun s H => by rw [evE]
    · cases h
  · cases h
theorem asg_cons {e : Expr} {es : List Expr} {env : Env} (h : notStar e = true) : assignEach (e :: es) env = (false, assign e env) :: assignEach es env := by
  cases e <;> first | rfl | (simp [notStar] at h; done)
def cPats (f : Expr → Option DI.T) : List Expr → Option Ts
  | [] => some .nil
  | .Starred e _ :: r => match f e, cPats f r with
    | some d, some ds => some (.st d ds)
    | _, _ => none
  | e :: r => if notStar e then match f e, cPats f r with
    | some d, some ds => some (.cons d ds)
    | _, _ => none else none
def cPat : Nat → Ck → Expr → Option DI.T
  | 0, _, _ => none
  | n + 1, k, e => match e with
    | .Name x _ => if stB k x then (ixN' k.N x).map .nm else none
    | .Tuple es _ _ => if k.calm then (cPats (cPat n k) es).map .tp else none
    | _ => none
theorem cPats_cases {f : Expr → Option DI.T} {e : Expr} {es : List Expr} {ts : Ts} (h : cPats f (e :: es) = some ts) : (∃ e' p d ds, e = .Starred e' p ∧ f e' = some d ∧ cPats f es = some ds ∧ ts = .st d ds) ∨ (notStar e = true ∧ ∃ d ds, f e = some d ∧ cPats f es = some ds ∧ ts = .cons d ds) := by
  unfold cPats at h
  split at h
  · rename_i heq; cases heq
  · rename_i e' p r heq
    cases heq
    cases h1 : f e' with
    | none => rw [h1] at h; cases h
    | some d =>
      cases h2 : cPats f es with
      | none => rw [h1, h2] at h; cases h
      | some ds => rw [h1, h2] at h; cases h; exact .inl ⟨_, _, _, _, rfl, h1, rfl, rfl⟩
  · rename_i e0 r0 _ heq
    cases heq
    split at h
    · rename_i hs
      cases h1 : f e with
      | none => rw [h1] at h; cases h
      | some d =>
        cases h2 : cPats f es with
        | none => rw [h1, h2] at h; cases h
        | some ds => rw [h1, h2] at h; cases h; exact .inr ⟨hs, _, _, rfl, rfl, rfl⟩
    · cases h
theorem cPats_env {f : Expr → Option DI.T} {env : Env} : ∀ {es : List Expr} {ts : Ts}, cPats f es = some ts → (assignEach es env).length = lenTs ts ∧ (assignEach es env).findIdx? (·.1) = stIx ts
  | [], _, h => by cases h; exact ⟨rfl, rfl⟩
  | e :: es, _, h => by
    rcases cPats_cases h with ⟨e', p, d, ds, rfl, h1, h2, rfl⟩ | ⟨hs, d, ds, h1, h2, rfl⟩
    · obtain ⟨a, b⟩ := cPats_env (env := env) h2
      refine ⟨by show _ + 1 = lenTs ds + 1; rw [a], ?_⟩
      show ((true, _) :: assignEach es env).findIdx? (·.1) = some 0
      rw [List.findIdx?_cons] <;> rfl
    · obtain ⟨a, b⟩ := cPats_env (env := env) h2
      rw [asg_cons hs]
      refine ⟨by show _ + 1 = lenTs ds + 1; rw [a], ?_⟩
      rw [List.findIdx?_cons]
      simp [b, stIx]
theorem cPats_ok {f : Expr → Option DI.T} (hf : ∀ {e d}, f e = some d → PG X e (tP X.K d)) : ∀ {es : List Expr} {ts : Ts}, cPats f es = some ts → PGs X es (tPs X.K ts)
  | [], _, h => by cases h; unfold tPs; exact pgs_nil
  | e :: es, _, h => by
    rcases cPats_cases h with ⟨e', p, d, ds, rfl, h1, h2, rfl⟩ | ⟨hs, d, ds, h1, h2, rfl⟩
    · unfold tPs
      exact pgs_star (hf h1) (cPats_ok hf h2)
    · unfold tPs
      exact pgs_cons (hf h1) (cPats_ok hf h2) (by rw [asg_cons hs]; rfl)
theorem stIx_lt : ∀ {ts : Ts} {j : Nat}, stIx ts = some j → j < lenTs ts
  | .nil, _, h => by cases h
  | .cons t r, j, h => by
    unfold stIx at h
    cases e : stIx r with
    | none => rw [e] at h; cases h
    | some i => rw [e] at h; cases h; have := stIx_lt e; simp only [lenTs]; omega
  | .st t r, j, h => by cases h; simp only [lenTs]; omega
theorem cPat_ok (S : Sx T c G k X W) : ∀ {n : Nat} {e : Expr} {d : DI.T}, cPat n k e = some d → PG X e (tP X.K d)
  | 0, _, _, h => by cases h
  | n + 1, e, d, h => by
    unfold cPat at h
    split at h
    · rename_i x p
      split at h
      · rename_i hs
        cases h1 : ixN' k.N x with
        | none => rw [h1] at h; cases h
        | some i =>
          rw [h1] at h
          cases h
          obtain ⟨a, b⟩ := S.st hs
          unfold tP
          exact pg_name S.ok.nd (S.ix h1) a b
      · cases h
    · rename_i es kk p
      split at h
      case isFalse => cases h
      rename_i hcm
      have hcm := S.calm hcm
      cases h1 : cPats (cPat n k) es with
      | none => rw [h1] at h; cases h
      | some ts =>
        rw [h1] at h
        cases h
        unfold tP
        obtain ⟨a, b⟩ := cPats_env (env := X.env) h1
        have z := cPats_ok (X := X) (fun h => cPat_ok S h) h1
        cases e : stIx ts with
        | none => rw [e] at b; exact PG.or (pg_tup hcm z a b) (pg_lst hcm z a b)
        | some j => rw [e] at b; exact pg_star hcm z a b (stIx_lt e)
    · cases h
end
end DI
namespace DI
open PySem PySem.Spec PyProof.Rows L2
section
variable {T : Tb} {c : Cfg} {G : Gr} {k : Ck} {X : Cx} {W : WX} {pos p : Pos} {r : Rc}
theorem eI {tg e : Expr} {f g : Sd → HH → Rs (List D × Gd)} (h : PI X tg e (tDI G W g)) (q : ∀ s H, f s H = g s H) : PI X tg e (tDI G W f) := by
  have : f = g := by funext s H; exact q s H
  subst this; exact h
def isTup : Expr → Bool
  | .Tuple _ _ _ => true
  | _ => false
def blB (T : Tb) (k : Ck) (x : Str) : Bool := glB k x && decide (x ∈ T.blts)
def cIt (T : Tb) (k : Ck) (f : Expr → Option E) (tg : Expr) : Expr → Option I
  | .Call (.Name x p) es [] pos =>
    if x = ("range" : Str) then if blB T k x then match es with
      | [a] => (cList f [a]).map .range
      | [a, b] => (cList f [a, b]).map .range
      | _ => none else none
    else if x = ("enumerate" : Str) then if blB T k x && isTup tg then match es with
      | [a] => if notStar a then (f a).map .enum else none
      | _ => none else none
    else if x = ("zip" : Str) then if blB T k x && isTup tg then match es with
      | [a, b] => if notStar a && notStar b then match f a, f b with
        | some x, some y => some (.zip x y)
        | _, _ => none else none
      | _ => none else none
    else (f (.Call (.Name x p) es [] pos)).map .val
  | e => (f e).map .val
theorem blB_ok (S : Sx T c G k X W) {x : Str} (h : blB T k x = true) : Gl X x ∧ X.mg x = none := by
  unfold blB at h
  rw [Bool.and_eq_true, decide_eq_true_eq] at h
  exact ⟨S.gl h.1, S.blt _ h.2⟩
theorem val_ok (Z : Snd T c G r) (S : Sx T c G k X W) {tg e : Expr} {i : I} (h : (r.e k e).map .val = some i) : PI X tg e (tDI G W (evI c i)) := by
  cases h1 : r.e k e with
  | none => rw [h1] at h; cases h
  | some d =>
    rw [h1] at h
    cases h
    exact eI (i_val S.ok (Z.e S h1)) fun s H => by rw [evI]
theorem list_of_len : ∀ {n : Nat} {ds : List D}, ds.length = n → (n = 1 → ∃ x, ds = [x]) ∧ (n = 2 → ∃ x y, ds = [x, y])
  | _, [], h => ⟨fun e => by subst e; simp at h, fun e => by subst e; simp at h⟩
  | _, [x], h => ⟨fun _ => ⟨x, rfl⟩, fun e => by subst e; simp at h⟩
  | _, [x, y], h => ⟨fun e => by subst e; simp at h, fun _ => ⟨x, y, rfl⟩⟩
  | _, x :: y :: z :: r, h => ⟨fun e => by subst e; simp at h, fun e => by subst e; simp at h⟩
theorem cIt_ok (Z : Snd T c G r) (S : Sx T c G k X W) {tg e : Expr} {i : I} (h : cIt T k (r.e k) tg e = some i) : PI X tg e (tDI G W (evI c i)) := by
  unfold cIt at h
  split at h
  · rename_i x p es pos
    split at h
    · rename_i hx
      subst hx
      split at h
      · rename_i hb
        obtain ⟨hg, hm⟩ := blB_ok S hb
        split at h
        · rename_i a
          cases h1 : cList (r.e k) [a] with
          | none => rw [h1] at h; cases h
          | some ds =>
            rw [h1] at h
            cases h
            obtain ⟨l1, l2⟩ := cList_len h1
            rw [List.all_cons, Bool.and_eq_true] at l2
            refine eI (i_range1 hg hm l2.1 (cList_ok Z S h1)) fun s H => ?_
            rw [evI]
            cases q : evEs c ds s H with
            | no => rfl
            | ex _ _ => rfl
            | ok xs H1 =>
              obtain ⟨x, rfl⟩ := (list_of_len ((evEs_len c ds q).trans l1)).1 rfl
              rfl
        · rename_i a b
          cases h1 : cList (r.e k) [a, b] with
          | none => rw [h1] at h; cases h
          | some ds =>
            rw [h1] at h
            cases h
            obtain ⟨l1, l2⟩ := cList_len h1
            rw [List.all_cons, List.all_cons, Bool.and_eq_true, Bool.and_eq_true] at l2
            refine eI (i_range2 hg hm l2.1 l2.2.1 (cList_ok Z S h1)) fun s H => ?_
            rw [evI]
            cases q : evEs c ds s H with
            | no => rfl
            | ex _ _ => rfl
            | ok xs H1 =>
              obtain ⟨x, y, rfl⟩ := (list_of_len ((evEs_len c ds q).trans l1)).2 rfl
              rfl
        · cases h
      · cases h
    · split at h
      · rename_i hx
        subst hx
        split at h
        · rename_i hb
          rw [Bool.and_eq_true] at hb
          obtain ⟨hg, hm⟩ := blB_ok S hb.1
          obtain ⟨elts, kk, tpos, rfl⟩ : ∃ a b c, tg = .Tuple a b c := by
            cases tg <;> first | exact ⟨_, _, _, rfl⟩ | (have := hb.2; simp [isTup] at this; done)
          split at h
          · rename_i a
            split at h
            · rename_i hs
              cases h1 : r.e k a with
              | none => rw [h1] at h; cases h
              | some d =>
                rw [h1] at h
                cases h
                exact eI (i_enum S.ok hg hm hs (Z.e S h1)) fun s H => by rw [evI]
            · cases h
          · cases h
        · cases h
      · split at h
        · rename_i hx
          subst hx
          split at h
          · rename_i hb
            rw [Bool.and_eq_true] at hb
            obtain ⟨hg, hm⟩ := blB_ok S hb.1
            obtain ⟨elts, kk, tpos, rfl⟩ : ∃ a b c, tg = .Tuple a b c := by
              cases tg <;> first | exact ⟨_, _, _, rfl⟩ | (have := hb.2; simp [isTup] at this; done)
            split at h
            · rename_i a b
              split at h
              · rename_i hs
                rw [Bool.and_eq_true] at hs
                cases h1 : r.e k a with
                | none => rw [h1] at h; cases h
                | some d =>
                  cases h2 : r.e k b with
                  | none => rw [h1, h2] at h; cases h
                  | some d2 =>
                    rw [h1, h2] at h
                    cases h
                    exact eI (i_zip S.ok hg hm hs.1 hs.2 (Z.e S h1) (Z.e S h2)) fun s H => by rw [evI]
              · cases h
            · cases h
          · cases h
        · exact val_ok Z S h
  · exact val_ok Z S h
def ownOf (N : List Str) (scope : Scope) : List (Str × Nat) := scope.names.filterMap fun y => match y.2 with
  | .local => (ixN' N y.1).map fun i => (y.1, i)
  | .cell => (ixN' N y.1).map fun i => (y.1, i)
  | _ => none
def inCk (k : Ck) (scope : Scope) : Ck := ⟨k.N, relS scope k.sc, false, k.calm, none⟩
def cIfs (f : Expr → Option E) : List Expr → Option OE
  | [] => some .no
  | [x] => (f x).map .yes
  | _ => none
structure LcP where
  lv : Bool
  own : List Nat
  t : DI.T
  i : I
  g : OE
  e : E
def cComp (T : Tb) (r : Rc) (k : Ck) (lv : Bool) (elt : Expr) (scope : Scope) : List Comprehension → Option LcP
  | [⟨tg, iter, ifs, a⟩] => if decide (a = 0) && k.calm && notSet iter && blkC k.N k.sc scope (ownOf k.N scope) then
      match cPat 4 (inCk k scope) tg, cIt T k (r.e k) tg iter, cIfs (r.t (inCk k scope)) ifs, r.e (inCk k scope) elt with
      | some t, some i, some g, some e => if (slT t).all fun j => decide (j ∈ (ownOf k.N scope).map (·.2)) then some ⟨lv, (ownOf k.N scope).map (·.2), t, i, g, e⟩ else none
      | _, _, _, _ => none
    else none
  | _ => none
theorem Sx.blk (S : Sx T c G k X W) {scope : Scope} (hk : scope.kind = .function) : Blk X scope fun Y => Sx T c G (inCk k scope) Y W0 := fun s H C cl fp =>
  ⟨okx_blk S.ok scope s H C cl fp, S.hN, by show relS scope X.env.scope = relS scope k.sc; rw [S.hs], hk, fun h => absurd h (by simp [inCk]), S.blt, S.con, fun h => S.calm h, S.gx, fun hcm f x h => let ⟨l, a, fd, ps, dV, dvs, hr, C, hb⟩ := S.def_ hcm f x h; ⟨l, a, fd, ps, dV, dvs, hr, ⟨C.fn, C.mg, C.kp, C.nd, C.dv, C.dr⟩, hb⟩, fun h => absurd h (by simp [inCk]),
    fun hcm x n f m => let E := S.exk hcm x n f m; ⟨E.mg, E.nd, E.xf, E.F, E.ini⟩, fun n y b m => S.iso n y b m, fun _ => rfl, fun n kx f d h => by cases h⟩
theorem cIfs_ok (Z : Snd T c G r) (S : Sx T c G k X W) {es : List Expr} {d : OE} (h : cIfs (r.t k) es = some d) : PTs X es (tDT G W (evOT c d)) := by
  unfold cIfs at h
  split at h
  · cases h
    have e : evOT c .no = fun _ H => .ok true H := by funext s H; rw [evOT]
    rw [e]; exact ts_no
  · rename_i x
    cases h1 : r.t k x with
    | none => rw [h1] at h; cases h
    | some y =>
      rw [h1] at h
      cases h
      have e : evOT c (.yes y) = fun s H => evT c y s H := by funext s H; rw [evOT]
      rw [e]; exact ts_one (Z.t S h1)
  · cases h
/-- what the rules of comprehensions ask -/
structure LcOk (T : Tb) (c : Cfg) (G : Gr) (k : Ck) (X : Cx) (W : WX) (elt tg iter : Expr) (ifs : List Expr) (scope : Scope) (L : LcP) : Prop where
  own : L.own = (ownOf k.N scope).map (·.2)
  calm : X.calm = true
  gx : G.exc = none
  fold : notSet iter = true
  hi : PI X tg iter (tDI G W (evI c L.i))
  bk : BlkOk X.N X.env.scope scope (ownOf k.N scope)
  sl : ∀ i ∈ slT L.t, i ∈ (ownOf k.N scope).map (·.2)
  hg : Blk X scope fun Y => PG Y tg (tP X.K L.t)
  ht : Blk X scope fun Y => PTs Y ifs (tDT G W0 (evOT c L.g))
  he : Blk X scope fun Y => PE Y elt (tD G W0 (evE c L.e))
theorem cComp_ok (Z : Snd T c G r) (S : Sx T c G k X W) {elt : Expr} {scope : Scope} {gs : List Comprehension} {lv : Bool} {L : LcP} (h : cComp T r k lv elt scope gs = some L) : ∃ tg iter ifs, gs = [⟨tg, iter, ifs, 0⟩] ∧ LcOk T c G k X W elt tg iter ifs scope L := by
  unfold cComp at h
  split at h
  · rename_i tg iter ifs a
    split at h
    · rename_i hc
      simp only [Bool.and_eq_true, decide_eq_true_eq] at hc
      obtain ⟨⟨⟨rfl, hcm⟩, hf⟩, hb⟩ := hc
      cases h1 : cPat 4 (inCk k scope) tg with
      | none => rw [h1] at h; cases h
      | some t =>
        cases h2 : cIt T k (r.e k) tg iter with
        | none => rw [h1, h2] at h; cases h
        | some i =>
          cases h3 : cIfs (r.t (inCk k scope)) ifs with
          | none => rw [h1, h2, h3] at h; cases h
          | some g =>
            cases h4 : r.e (inCk k scope) elt with
            | none => rw [h1, h2, h3, h4] at h; cases h
            | some e =>
              rw [h1, h2, h3, h4] at h
              dsimp only at h
              split at h
              · rename_i hsl
                cases h
                have bk := blkOk_by hb
                have SB := S.blk (scope := scope) bk.kind
                refine ⟨tg, iter, ifs, rfl, rfl, S.calm hcm, S.gx hcm, hf, cIt_ok Z S h2, by rw [S.hN, S.hs]; exact bk, fun i hi => ?_, fun s H C cl fp => cPat_ok (SB s H C cl fp) h1, fun s H C cl fp => cIfs_ok Z (SB s H C cl fp) h3, fun s H C cl fp => Z.e (SB s H C cl fp) h4⟩
                exact of_decide_eq_true (List.all_eq_true.mp hsl i hi)
              · cases h
    · cases h
  · cases h
def LcP.E (L : LcP) : DI.E := if L.lv then .lcR L.own L.t L.i L.g L.e else .lc L.own L.t L.i L.g L.e
theorem lcE (c : Cfg) (L : LcP) : ∀ s H, evE c L.E s H = lcF L.lv (evI c L.i) (evOT c L.g) (evE c L.e) L.own L.t s H := fun s H => by
  obtain ⟨lv, own, t, i, g, e⟩ := L
  cases lv
  · show evE c (.lc own t i g e) s H = _
    rw [evE] <;> rfl
  · show evE c (.lcR own t i g e) s H = _
    rw [evE] <;> rfl
theorem lc_pe (S : Sx T c G k X W) {elt tg iter : Expr} {ifs : List Expr} {scope : Scope} {L : LcP} (h : LcOk T c G k X W elt tg iter ifs scope L) : PE X (.ListComp elt [⟨tg, iter, ifs, 0⟩] scope pos) (tD G W (evE c L.E)) :=
  eE (d_lc S.ok h.gx h.calm h.fold h.hi h.bk h.sl h.hg h.ht h.he) fun s H => by rw [lcE, h.own]
/-- a comprehension over the items of a live dict -/
def cLci (T : Tb) (r : Rc) (k : Ck) (elt : Expr) (scope : Scope) : List Comprehension → Option E
  | [⟨.Tuple elts kk tpos, .Call (.Attribute (.Name x p) y apos) [] [] cpos, ifs, a⟩] => if decide (y = ("items" : Str)) && ((apos.endLine == cpos.line) && (!dbg x && visB k x)) then (match ixN' k.N x, cComp T r k false elt scope [⟨.Tuple elts kk tpos, .Name x p, ifs, a⟩] with
    | some i, some L => some (.lci L.own L.t i L.g L.e)
    | _, _ => none) else none
  | _ => none
structure LciOk (T : Tb) (c : Cfg) (G : Gr) (k : Ck) (X : Cx) (W : WX) (elt : Expr) (scope : Scope) (elts : List Expr) (kk : Nat) (tpos : Pos) (x : Str) (apos cpos : Pos) (ifs : List Expr) (i : Nat) (L : LcP) : Prop where
  own : L.own = (ownOf k.N scope).map (·.2)
  calm : X.calm = true
  gx : G.exc = none
  ix : X.N[i]? = some x
  vis : Vis X.env.scope x
  d1 : (x == ("__debug__" : Str)) = false
  d2 : (x == ("__classdict__" : Str)) = false
  hl : (apos.endLine == cpos.line) = true
  bk : BlkOk X.N X.env.scope scope (ownOf k.N scope)
  sl : ∀ i ∈ slT L.t, i ∈ (ownOf k.N scope).map (·.2)
  hg : Blk X scope fun Y => PG Y (.Tuple elts kk tpos) (tP X.K L.t)
  ht : Blk X scope fun Y => PTs Y ifs (tDT G W0 (evOT c L.g))
  he : Blk X scope fun Y => PE Y elt (tD G W0 (evE c L.e))
theorem cLci_inv (Z : Snd T c G r) (S : Sx T c G k X W) {elt : Expr} {scope : Scope} {gs : List Comprehension} {d : E} (h : cLci T r k elt scope gs = some d) :
    ∃ elts kk tpos x p apos cpos ifs i L, gs = [⟨.Tuple elts kk tpos, .Call (.Attribute (.Name x p) "items" apos) [] [] cpos, ifs, 0⟩] ∧ d = .lci L.own L.t i L.g L.e ∧ LciOk T c G k X W elt scope elts kk tpos x apos cpos ifs i L := by
  unfold cLci at h
  split at h
  · rename_i elts kk tpos x p y apos cpos ifs a
    split at h
    · rename_i hc
      simp only [Bool.and_eq_true, decide_eq_true_eq, Bool.not_eq_true'] at hc
      obtain ⟨rfl, hl, hd, hv⟩ := hc
      unfold dbg at hd
      rw [Bool.or_eq_false_iff] at hd
      cases e : ixN' k.N x with
      | none => rw [e] at h; cases h
      | some i =>
        cases h1 : cComp T r k false elt scope [⟨.Tuple elts kk tpos, .Name x p, ifs, a⟩] with
        | none => rw [e, h1] at h; cases h
        | some L =>
          rw [e, h1] at h
          cases h
          obtain ⟨tg, iter, ifs', hgs, hl'⟩ := cComp_ok Z S h1
          cases hgs
          exact ⟨elts, kk, tpos, x, p, apos, cpos, ifs, i, L, rfl, rfl, hl'.own, hl'.calm, hl'.gx, S.ix e, S.vis hv, hd.1, hd.2, hl, hl'.bk, hl'.sl, hl'.hg, hl'.ht, hl'.he⟩
    · cases h
  · cases h
theorem cLci_ok (Z : Snd T c G r) (S : Sx T c G k X W) {elt : Expr} {scope : Scope} {gs : List Comprehension} {d : E} (h : cLci T r k elt scope gs = some d) : PE X (.ListComp elt gs scope pos) (tD G W (evE c d)) := by
  obtain ⟨elts, kk, tpos, x, p, apos, cpos, ifs, i, L, rfl, rfl, q⟩ := cLci_inv Z S h
  exact eE (d_lci S.ok q.gx q.calm q.ix q.vis q.d1 q.d2 q.hl q.bk q.sl q.hg q.ht q.he) fun s H => by rw [evE, q.own]
/-- dict(pairs) -/
def cDct (T : Tb) (k : Ck) (f : Expr → Option E) (x : Str) (es : List Expr) (kws : List Keyword) : Option E := match es, kws with
  | e :: es, [] => if decide (x = ("dict" : Str)) && (glB k x && (decide (x ∈ T.blts) && k.calm)) then (cList f (e :: es)).map .dctP else none
  | _, _ => none
theorem cDct_ok (Z : Snd T c G r) (S : Sx T c G k X W) {x : Str} {p : Pos} {es : List Expr} {kws : List Keyword} {d : E} (h : cDct T k (r.e k) x es kws = some d) : PE X (.Call (.Name x p) es kws pos) (tD G W (evE c d)) := by
  unfold cDct at h
  split at h
  · split at h
    · rename_i e es hc
      simp only [Bool.and_eq_true, decide_eq_true_eq] at hc
      obtain ⟨rfl, h1, h2, h3⟩ := hc
      cases q : cList (r.e k) (e :: es) with
      | none => rw [q] at h; cases h
      | some ds =>
        rw [q] at h
        cases h
        exact eE (d_dctP S.ok (S.calm h3) (S.gl h1) (S.blt _ h2) (cList_len q).2 (cList_ok Z S q)) fun s H => by rw [evE] <;> rfl
    · cases h
  · cases h
def cDC (T : Tb) (r : Rc) (k : Ck) (kx vx : Expr) (scope : Scope) (gs : List Comprehension) : Option E := match cComp T r k false kx scope gs, r.e (inCk k scope) vx with
  | some L, some v => some (.dc L.own L.t L.i L.g L.e v)
  | _, _ => none
theorem cDC_ok (Z : Snd T c G r) (S : Sx T c G k X W) {kx vx : Expr} {scope : Scope} {gs : List Comprehension} {d : E} (h : cDC T r k kx vx scope gs = some d) : PE X (.DictComp kx vx gs scope pos) (tD G W (evE c d)) := by
  unfold cDC at h
  cases h1 : cComp T r k false kx scope gs with
  | none => rw [h1] at h; cases h
  | some L =>
    cases h2 : r.e (inCk k scope) vx with
    | none => rw [h1, h2] at h; cases h
    | some v =>
      rw [h1, h2] at h
      cases h
      obtain ⟨tg, iter, ifs, rfl, hl⟩ := cComp_ok Z S h1
      have SB := S.blk (scope := scope) hl.bk.kind
      exact eE (d_dc S.ok hl.gx hl.calm hl.fold hl.hi hl.bk hl.sl hl.hg hl.ht hl.he fun s H C cl fp => Z.e (SB s H C cl fp) h2) fun s H => by
        rw [evE, hl.own] <;> rfl
/-- list(range(..)) -/
def cLrg (T : Tb) (k : Ck) (f : Expr → Option E) (x : Str) (es : List Expr) (kws : List Keyword) : Option E := match es, kws with
  | [.Call (.Name y _) es2 [] _], [] => if decide (x = ("list" : Str)) && (decide (y = ("range" : Str)) && (glB k x && (glB k y && (decide (x ∈ T.blts) && (decide (y ∈ T.blts) && k.calm))))) then match es2 with
    | [a] => if notStar a then (f a).map .lrg1 else none
    | [a, b] => if notStar a && notStar b then (match f a, f b with
      | some u, some v => some (.lrg2 u v)
      | _, _ => none) else none
    | _ => none else none
  | _, _ => none
theorem cLrg_ok (Z : Snd T c G r) (S : Sx T c G k X W) {x : Str} {p : Pos} {es : List Expr} {kws : List Keyword} {d : E} (h : cLrg T k (r.e k) x es kws = some d) : PE X (.Call (.Name x p) es kws pos) (tD G W (evE c d)) := by
  unfold cLrg at h
  split at h
  · split at h
    · rename_i y p2 es2 pos2 hc
      simp only [Bool.and_eq_true, decide_eq_true_eq] at hc
      obtain ⟨rfl, rfl, h1, h2, h3, h4, h5⟩ := hc
      split at h
      · rename_i a
        split at h
        · rename_i hs
          cases q : r.e k a with
          | none => rw [q] at h; cases h
          | some u =>
            rw [q] at h
            cases h
            exact eE (d_lrg1 (S.calm h5) (S.gl h1) (S.blt _ h3) (S.gl h2) (S.blt _ h4) hs (Z.e S q)) fun s H => by rw [evE]
        · cases h
      · rename_i a b
        split at h
        · rename_i hs
          rw [Bool.and_eq_true] at hs
          cases q : r.e k a with
          | none => rw [q] at h; cases h
          | some u =>
            cases q2 : r.e k b with
            | none => rw [q, q2] at h; cases h
            | some v =>
              rw [q, q2] at h
              cases h
              exact eE (d_lrg2 (S.calm h5) (S.gl h1) (S.blt _ h3) (S.gl h2) (S.blt _ h4) hs.1 hs.2 (Z.e S q) (Z.e S q2)) fun s H => by rw [evE]
        · cases h
      · cases h
    · cases h
  · cases h
def stepE (T : Tb) (r : Rc) (k : Ck) : Expr → Option E
  | .Constant v _ _ => cConst v
  | .Name x _ => cName T k x
  | .Tuple es _ _ => (cList (r.e k) es).map .tup
  | .List es p => (cList (r.e k) es).map (if decide ((p.line, p.col) ∈ T.live) then .lstR else .lst)
  | .BinOp a o b p => match r.e k a, r.e k b with
    | some x, some y => if decide ((p.line, p.col) ∈ T.live) && (o == .Add) then some (.binR x y) else some (.bin o x y)
    | _, _ => none
  | .UnaryOp .USub a _ => (r.e k a).map .neg
  | .UnaryOp .Not a _ => (r.e k a).map .no
  | .Compare a os es p => cCmp (decide ((p.line, p.col) ∈ T.live)) (r.e k) a os es
  | .BoolOp o es _ => cBool o (r.e k) es
  | .IfExp t a b _ => match r.t k t, r.e k a, r.e k b with
    | some x, some y, some z => some (.ite x y z)
    | _, _, _ => none
  | .Subscript a b p => if decide ((p.line, p.col) ∈ T.live) then cSubD (r.e k) a b else cSub (r.e k) a b
  | .Dict [] [] _ => some .dnew
  | .Attribute (.Name n _) f _ => cAttr k n f
  | .Call (.Attribute o nm ap) [a, b] [] p => cMeth2 (r.e k) o nm ap p a b
  | .Call (.Name x _) es kws p => match cLrg T k (r.e k) x es kws with
    | some d => some d
    | none => match cDct T k (r.e k) x es kws with
      | some d => some d
      | none => cCall T k (r.e k) x es kws p
  | .DictComp kx vx gs scope _ => cDC T r k kx vx scope gs
  | .Call (.Attribute o nm ap) [e] [] p => cMeth (r.e k) o nm ap p e
  | .Call (.Attribute o nm ap) [] [] p => cMeth0 (r.e k) o nm ap p
  | .ListComp elt gs scope p => match cLci T r k elt scope gs with
    | some d => some d
    | none => (cComp T r k (decide ((p.line, p.col) ∈ T.live)) elt scope gs).map LcP.E
  | _ => none
def valE : E → Bool
  | .no _ => false | .and _ _ => false | .or _ _ => false | .cmp _ _ _ => false | .cmpF _ _ _ => false | .din _ _ => false | .cmp2 _ _ _ _ _ => false
  | _ => true
theorem valE_ok {d : E} (h : valE d = true) : ∀ s H, evT c d s H = (evE c d s H).bind fun x H1 => Rs.ofO (truD (viewD H1 x)) H1 := by
  intro s H
  cases d <;> first | (rw [evT]; all_goals (intros; contradiction)) | (simp [valE] at h; done)
def stepT (T : Tb) (r : Rc) (k : Ck) (e : Expr) : Option E := match e with
  | .UnaryOp .Not a _ => (r.t k a).map .no
  | .BoolOp o es _ => cBool o (r.t k) es
  | .Compare a os es p => cCmp (decide ((p.line, p.col) ∈ T.live)) (r.e k) a os es
  | e => if valTest e then match r.e k e with
    | some d => if valE d then some d else none
    | none => none else none
def rc (T : Tb) : Nat → Rc
  | 0 => ⟨fun _ _ => none, fun _ _ => none⟩
  | n + 1 => ⟨stepE T (rc T n), stepT T (rc T n)⟩
theorem stepE_ok (Z : Snd T c G r) (S : Sx T c G k X W) {e : Expr} {d : E} (h : stepE T r k e = some d) : PE X e (tD G W (evE c d)) := by
  unfold stepE at h
  split at h
  · exact cConst_ok S h
  · exact cName_ok S h
  · cases h1 : cList (r.e k) _ with
    | none => rw [h1] at h; cases h
    | some ds => rw [h1] at h; cases h; exact eE (d_tup (cList_ok Z S h1)) fun s H => by rw [evE]
  · cases h1 : cList (r.e k) _ with
    | none => rw [h1] at h; cases h
    | some ds =>
      rw [h1] at h
      split at h
      · cases h; exact eE (d_lstR (cList_ok Z S h1)) fun s H => by rw [evE]
      · cases h; exact eE (d_lst (cList_ok Z S h1)) fun s H => by rw [evE]
  · rename_i a o b p
    cases h1 : r.e k a with
    | none => rw [h1] at h; cases h
    | some x =>
      cases h2 : r.e k b with
      | none => rw [h1, h2] at h; cases h
      | some y =>
        rw [h1, h2] at h
        dsimp only at h
        split at h
        · rename_i hc
          rw [Bool.and_eq_true] at hc
          have ho : o = .Add := by have := hc.2; cases o <;> first | rfl | cases this
          subst ho
          cases h; exact eE (d_binR (Z.e S h1) (Z.e S h2)) fun s H => by rw [evE]
        · cases h; exact eE (d_bin S.ok o (Z.e S h1) (Z.e S h2)) fun s H => by rw [evE]
  · rename_i a p
    cases h1 : r.e k a with
    | none => rw [h1] at h; cases h
    | some x => rw [h1] at h; cases h; exact eE (d_neg (Z.e S h1)) fun s H => by rw [evE] <;> rfl
  · rename_i a p
    cases h1 : r.e k a with
    | none => rw [h1] at h; cases h
    | some x => rw [h1] at h; cases h; exact eE (d_no S.ok (Z.e S h1)) fun s H => by rw [evE]
  · exact (cCmp_ok Z S h).1
  · exact cBool_e Z S h
  · rename_i t a b p
    cases h1 : r.t k t with
    | none => rw [h1] at h; cases h
    | some x =>
      cases h2 : r.e k a with
      | none => rw [h1, h2] at h; cases h
      | some y =>
        cases h3 : r.e k b with
        | none => rw [h1, h2, h3] at h; cases h
        | some z => rw [h1, h2, h3] at h; cases h; exact eE (d_ite (Z.t S h1) (Z.e S h2) (Z.e S h3)) fun s H => by rw [evE]
  · split at h
    · exact cSubD_ok Z S h
    · exact cSub_ok Z S h
  · cases h; exact eE d_dnew fun s H => by rw [evE]
  · exact cAttr_ok S h
  · exact cMeth2_ok Z S h
  · split at h
    · rename_i d' hd'
      cases h
      exact cLrg_ok Z S hd'
    · split at h
      · rename_i d' hd'
        cases h
        exact cDct_ok Z S hd'
      · exact cCall_ok Z S h
  · exact cDC_ok Z S h
  · exact cMeth_ok Z S h
  · exact cMeth0_ok Z S h
  · split at h
    · rename_i d' hd'
      cases h
      exact cLci_ok Z S hd'
    · cases h1 : cComp T r k _ _ _ _ with
      | none => rw [h1] at h; cases h
      | some L =>
        rw [h1] at h
        cases h
        obtain ⟨tg, iter, ifs, rfl, hl⟩ := cComp_ok Z S h1
        exact lc_pe S hl
  · cases h
theorem stepT_ok (Z : Snd T c G r) (S : Sx T c G k X W) {e : Expr} {d : E} (h : stepT T r k e = some d) : PT X e (tDT G W (evT c d)) := by
  unfold stepT at h
  split at h
  · rename_i a p
    cases h1 : r.t k a with
    | none => rw [h1] at h; cases h
    | some x => rw [h1] at h; cases h; exact eT (t_no (Z.t S h1)) fun s H => by rw [evT]
  · exact (cBool_t Z S h).pt
  · exact (cCmp_ok Z S h).2
  · split at h
    · rename_i hv
      cases h1 : r.e k e with
      | none => rw [h1] at h; cases h
      | some x =>
        rw [h1] at h
        dsimp only at h
        split at h
        · rename_i hx
          cases h
          exact eT (t_val S.ok hv (Z.e S h1)) (valE_ok hx)
        · cases h
    · cases h
theorem snd (T : Tb) (c : Cfg) (G : Gr) : ∀ n, Snd T c G (rc T n)
  | 0 => ⟨fun _ h => (by cases h), fun _ h => (by cases h)⟩
  | n + 1 => ⟨fun S h => stepE_ok (snd T c G n) S h, fun S h => stepT_ok (snd T c G n) S h⟩
end
end DI
namespace DI
open PySem PySem.Spec PyProof.Rows L2
section
variable {T : Tb} {c : Cfg} {G : Gr} {k : Ck} {X : Cx} {W : WX} {pos p : Pos} {r : Rc}
theorem eS {st : Stmt} {f g : Sd → HH → RS} (h : PS X st (tDS G W g)) (q : ∀ s H, f s H = g s H) : PS X st (tDS G W f) := by
  have : f = g := by funext s H; exact q s H
  subst this; exact h
theorem eSs {st : List Stmt} {f g : Sd → HH → RS} (h : PSs X st (tDS G W g)) (q : ∀ s H, f s H = g s H) : PSs X st (tDS G W f) := by
  have : f = g := by funext s H; exact q s H
  subst this; exact h
def locN (k : Ck) (x : Str) : Bool := match lkN k x with
  | some .local => true
  | _ => false
theorem locN_ok (S : Sx T c G k X W) {x : Str} (h : locN k x = true) : X.env.scope.names.lookup x = some .local := by
  rw [S.lk]
  unfold locN at h
  split at h <;> first | assumption | cases h
/-- name = [..] on one line -/
def swpLc (k : Ck) (y : Str) (py : Pos) (scope : Scope) (lp : Pos) : Bool := (py.line == lp.line) && locN k y && !(scope.names.any fun (n, k) => n == y && (k == .local || k == .cell))
theorem swpLc_ok (S : Sx T c G k X W) {y : Str} {py lp : Pos} {scope : Scope} {elt : Expr} {gs : List Comprehension} {l : Nat} (h : swpLc k y py scope lp = true) : swapsWith (.ListComp elt gs scope lp) (some (.Name y py)) l X.env = pure true := by
  unfold swpLc at h
  rw [Bool.and_eq_true, Bool.and_eq_true, Bool.not_eq_true'] at h
  exact sw_true (by rw [S.hs]; exact S.kd) (locN_ok S h.1.2) h.1.1 h.2
theorem swNo {y : Str} {py lp : Pos} {scope : Scope} {elt : Expr} {gs : List Comprehension} {l : Nat} {env : Env} (h : (py.line == lp.line) = false) : swapsWith (.ListComp elt gs scope lp) (some (.Name y py)) l env = pure false := by
  unfold swapsWith
  simp only [Expr.pos, h]
  simp
theorem swNo2 (S : Sx T c G k X W) {y : Str} {py lp : Pos} {scope : Scope} {elt : Expr} {gs : List Comprehension} {l : Nat} (h : py.line = lp.line → locN k y = false) : swapsWith (.ListComp elt gs scope lp) (some (.Name y py)) l X.env = pure false := by
  by_cases e : py.line = lp.line
  · have h1 : (X.env.kindOf y == some .local) = false := by
      refine Bool.eq_false_iff.mpr fun z => ?_
      have z := eq_of_beq z
      have z2 : lkN k y = some .local := (S.lk y).symm.trans z
      have h := h e
      unfold locN at h
      rw [z2] at h
      cases h
    unfold swapsWith
    simp only [h1]
    simp
  · exact swNo (by simpa using e)
theorem swNo2D (S : Sx T c G k X W) {y : Str} {py lp : Pos} {scope : Scope} {kx vx : Expr} {gs : List Comprehension} {l : Nat} (h : locN k y = false) : swapsWith (.DictComp kx vx gs scope lp) (some (.Name y py)) l X.env = pure false := by
  have h1 : (X.env.kindOf y == some .local) = false := by
    refine Bool.eq_false_iff.mpr fun z => ?_
    have z := eq_of_beq z
    have z2 : lkN k y = some .local := (S.lk y).symm.trans z
    unfold locN at h
    rw [z2] at h
    cases h
  unfold swapsWith
  simp only [h1]
  simp
/-- a, b = x, y -/
def swpB (k : Ck) (x y : Str) (px py : Pos) (a b : Expr) : Bool := notStar a && notStar b && locN k x && locN k y && (py.line == px.line) && !(x == y) && !([a, b].all (foldedForSure 8)) && !([a, b].all (constantsAlone 8))
theorem star_no : ∀ (e : Expr), (match e with | .Starred .. => true | _ => false) = true → notStar e = false := by
  intro e h
  cases e <;> first | rfl | cases h
theorem swpB_ok (S : Sx T c G k X W) {x y : Str} {px py pt pt2 : Pos} {kt k2 : Nat} {a b : Expr} (h : swpB k x y px py a b = true) : swappedStores [.Tuple [.Name x px, .Name y py] kt pt] (.Tuple [a, b] k2 pt2) X.env = pure (some [x, y]) := by
  unfold swpB at h
  simp only [Bool.and_eq_true, Bool.not_eq_true'] at h
  obtain ⟨⟨⟨⟨⟨⟨⟨h1, h2⟩, h3⟩, h4⟩, h5⟩, h6⟩, h7⟩, h8⟩ := h
  have k1 : X.env.kindOf x = some .local := locN_ok S h3
  have k2 : X.env.kindOf y = some .local := locN_ok S h4
  have hb : X.env.blockKind = .function := by unfold Env.blockKind; rw [S.hs, S.kd]; rfl
  have e6 : (y == x) = false := by
    rw [beq_eq_false_iff_ne] at h6 ⊢
    exact fun e => h6 e.symm
  unfold swappedStores
  simp only [hb, k1, k2, List.any_cons, List.any_nil, List.filterMap_cons, List.filterMap_nil, List.head?_cons, Option.map_some, Option.getD_some, Expr.pos, h5, h7, h8, List.length_cons, List.length_nil]
  simp [List.eraseDups_cons, e6, h6]
  intro hh
  rcases hh with hh | hh
  · rw [star_no a hh] at h1; cases h1
  · rw [star_no b hh] at h2; cases h2
structure Rs' where
  s : Ck → Stmt → Option S
def cStmts (f : Stmt → Option S) : List Stmt → Option Ss
  | [] => some .nil
  | st :: l => match f st, cStmts f l with
    | some a, some b => some (.cons a b)
    | _, _ => none
def cAsg (T : Tb) (r : Rc) (k : Ck) (tg e : Expr) : Option S := match tg with
  | .Subscript o i sp => if plainIx i && notComp e then match r.e k o, r.e k i, r.e k e with
    | some x, some y, some z => if decide ((sp.line, sp.col) ∈ T.live) then some (.dput x y z) else some (.sub x y z)
    | _, _, _ => none else none
  | .Name y py => match e with
    | .ListComp elt gs scope lp => if swpLc k y py scope lp then match ixN' k.N y, cLci T r k elt scope gs with
        | some i, some d => some (.asg (.nm i) d)
        | _, _ => match ixN' k.N y, cComp T r k (decide ((lp.line, lp.col) ∈ T.live)) elt scope gs with
          | some i, some L => some (.asg (.nm i) L.E)
          | _, _ => none
      else if py.line == lp.line && locN k y then none else match cPat 4 k (.Name y py), r.e k e with
        | some t, some d => some (.asg t d)
        | _, _ => none
    | .DictComp kx vx gs scope lp => if locN k y then none else match cPat 4 k (.Name y py), r.e k (.DictComp kx vx gs scope lp) with
        | some t, some d => some (.asg t d)
        | _, _ => none
    | e => if notComp e then match cPat 4 k (.Name y py), r.e k e with
        | some t, some d => some (.asg t d)
        | _, _ => none else none
  | .Tuple ts kt pt => match ts, e with
    | [.Name x px, .Name y py], .Tuple [a, b] _ _ => if swpB k x y px py a b && k.calm then match ixN' k.N x, ixN' k.N y, r.e k a, r.e k b with
        | some i, some j, some u, some v => if i = j then none else some (.par i j u v)
        | _, _, _, _ => none else none
    | ts, e => if notTup1 e && notComp e then (if decide ((pt.line, pt.col) ∈ T.live) then match cPat 4 k (.Tuple ts kt pt), r.e k e with
        | some t, some d => some (.upk t d)
        | _, _ => none else match cPat 4 k (.Tuple ts kt pt), r.e k e with
        | some t, some d => some (.asg t d)
        | _, _ => none) else none
  | _ => none
theorem plain_asg (Z : Snd T c G r) (S : Sx T c G k X W) (hxc : G.exc = none) {tg e : Expr} {s : DI.S} (hsw : swapsWith e (some tg) pos.line X.env = pure false) (hst : swappedStores [tg] e X.env = pure none) (hq : notStar tg = true)
    (h : (match cPat 4 k tg, r.e k e with | some t, some d => some (.asg t d) | _, _ => none) = some s) : PS X (.Assign [tg] e pos) (tDS G W (evS c s)) := by
  cases h1 : cPat 4 k tg with
  | none => rw [h1] at h; cases h
  | some t =>
    cases h2 : r.e k e with
    | none => rw [h1, h2] at h; cases h
    | some d =>
      rw [h1, h2] at h
      cases h
      exact eS (s_asg S.ok hxc hsw hst hq (Z.e S h2) (cPat_ok S h1)) fun s H => by rw [evS] <;> rfl
theorem plain_upk (Z : Snd T c G r) (S : Sx T c G k X W) (hxc : G.exc = none) {tg e : Expr} {s : DI.S} (hsw : swapsWith e (some tg) pos.line X.env = pure false) (hst : swappedStores [tg] e X.env = pure none) (hq : notStar tg = true)
    (h : (match cPat 4 k tg, r.e k e with | some t, some d => some (.upk t d) | _, _ => none) = some s) : PS X (.Assign [tg] e pos) (tDS G W (evS c s)) := by
  cases h1 : cPat 4 k tg with
  | none => rw [h1] at h; cases h
  | some t =>
    cases h2 : r.e k e with
    | none => rw [h1, h2] at h; cases h
    | some d =>
      rw [h1, h2] at h
      cases h
      exact eS (s_upk S.ok hxc hsw hst hq (Z.e S h2) (cPat_ok S h1)) fun s H => by rw [evS] <;> rfl
theorem cAsg_ok (Z : Snd T c G r) (S : Sx T c G k X W) (hcm : k.calm = true) {tg e : Expr} {s : DI.S} (h : cAsg T r k tg e = some s) : PS X (.Assign [tg] e pos) (tDS G W (evS c s)) := by
  unfold cAsg at h
  split at h
  · rename_i o i p
    split at h
    · rename_i hc
      rw [Bool.and_eq_true] at hc
      cases h1 : r.e k o with
      | none => rw [h1] at h; cases h
      | some x =>
        cases h2 : r.e k i with
        | none => rw [h1, h2] at h; cases h
        | some y =>
          cases h3 : r.e k e with
          | none => rw [h1, h2, h3] at h; cases h
          | some z =>
            rw [h1, h2, h3] at h
            dsimp only at h
            split at h
            · cases h
              exact eS (s_dput S.ok hc.2 (Z.e S h3) (Z.e S h1) (Z.e S h2)) fun s H => by rw [evS]
            cases h
            exact eS (s_sub S.ok hc.1 hc.2 (Z.e S h3) (Z.e S h1) (Z.e S h2)) fun s H => by rw [evS]
    · cases h
  · rename_i y py
    split at h
    · rename_i elt gs scope lp
      split at h
      · rename_i hsw
        cases h1 : ixN' k.N y with
        | none => rw [h1] at h; cases h
        | some i =>
          have hy : locN k y = true := by
            unfold swpLc at hsw
            rw [Bool.and_eq_true, Bool.and_eq_true] at hsw
            exact hsw.1.2
          cases h0 : cLci T r k elt scope gs with
          | some d =>
            rw [h1, h0] at h
            cases h
            obtain ⟨elts, kk, tpos, x, p, apos, cpos, ifs, i2, L, rfl, rfl, q⟩ := cLci_inv Z S h0
            refine eS (s_setLci S.ok q.gx q.calm (S.ix h1) (locN_ok S hy) (swpLc_ok S hsw) q.ix q.vis q.d1 q.d2 q.hl q.bk q.sl q.hg q.ht q.he) fun s H => ?_
            rw [evS, evE, q.own] <;> rfl
          | none =>
            cases h2 : cComp T r k (decide ((lp.line, lp.col) ∈ T.live)) elt scope gs with
            | none => rw [h1, h0, h2] at h; cases h
            | some L =>
              rw [h1, h0, h2] at h
              cases h
              obtain ⟨tg, iter, ifs, rfl, hl⟩ := cComp_ok Z S h2
              refine eS (s_setLc (lv := L.lv) S.ok hl.gx hl.calm (S.ix h1) (locN_ok S hy) (swpLc_ok S hsw) hl.fold hl.hi hl.bk hl.sl hl.hg hl.ht hl.he) fun s H => ?_
              rw [evS, lcE, hl.own] <;> rfl
      · split at h
        · cases h
        · rename_i hl
          exact plain_asg Z S (S.gx hcm) (swNo2 S (by simpa using hl)) (by rfl) rfl h
    · split at h
      · cases h
      · rename_i hl
        exact plain_asg Z S (S.gx hcm) (swNo2D S (by simpa using hl)) (by rfl) rfl h
    · split at h
      · rename_i hc
        exact plain_asg Z S (S.gx hcm) (sw_none hc) (by rfl) rfl h
      · cases h
  · rename_i ts kt pt
    split at h
    · rename_i x px y py a b k2 pt2
      split at h
      · rename_i hsw
        rw [Bool.and_eq_true] at hsw
        obtain ⟨hsw, hsw2⟩ := hsw
        have hsw' := hsw
        unfold swpB at hsw'
        simp only [Bool.and_eq_true, Bool.not_eq_true'] at hsw'
        cases h1 : ixN' k.N x with
        | none => rw [h1] at h; cases h
        | some i =>
          cases h2 : ixN' k.N y with
          | none => rw [h1, h2] at h; cases h
          | some j =>
            cases h3 : r.e k a with
            | none => rw [h1, h2, h3] at h; cases h
            | some u =>
              cases h4 : r.e k b with
              | none => rw [h1, h2, h3, h4] at h; cases h
              | some v =>
                rw [h1, h2, h3, h4] at h
                dsimp only at h
                split at h
                · cases h
                · rename_i hij
                  cases h
                  exact eS (s_par S.ok (S.gx hsw2) (S.calm hsw2) (S.ix h1) (S.ix h2) hij (locN_ok S hsw'.1.1.1.1.1.2) (locN_ok S hsw'.1.1.1.1.2) (swpB_ok S hsw) hsw'.1.1.1.1.1.1.1 hsw'.1.1.1.1.1.1.2 (Z.e S h3) (Z.e S h4)) fun s H => by rw [evS]
      · cases h
    · split at h
      · rename_i hc
        rw [Bool.and_eq_true] at hc
        split at h
        · exact plain_upk Z S (S.gx hcm) (sw_none hc.2) (sst_none (.inr hc.1)) rfl h
        · exact plain_asg Z S (S.gx hcm) (sw_none hc.2) (sst_none (.inr hc.1)) rfl h
      · cases h
  · cases h
def isDoc : Expr → Bool
  | .Constant (.str _) _ _ => true
  | _ => false
def exsOf (x : Str) : List (Str × Nat × Str) → Option (Nat × Str)
  | [] => none
  | (y, n, f) :: r => if x = y then some (n, f) else exsOf x r
theorem exsOf_ok {x : Str} : ∀ {l : List (Str × Nat × Str)} {n : Nat} {f : Str}, exsOf x l = some (n, f) → (x, n, f) ∈ l
  | [], _, _, h => by cases h
  | (y, n', f') :: r, n, f, h => by
    unfold exsOf at h
    split at h
    · rename_i e
      subst e
      cases h
      exact List.mem_cons_self
    · exact List.mem_cons_of_mem _ (exsOf_ok h)
/-- raise C(e) -/
def cRaise (T : Tb) (r : Rc) (k : Ck) : Option Expr → Option Expr → Option S
  | some (.Call (.Name x _) [e] [] _), none => if k.calm && glB k x && notStar e then match exsOf x T.exs, r.e k e with
      | some (n, _), some d => some (.rz n d)
      | _, _ => some .never
    else some .never
  | _, _ => some .never
theorem cRaise_ok (Z : Snd T c G r) (S : Sx T c G k X W) {a b : Option Expr} {s : DI.S} (h : cRaise T r k a b = some s) : PS X (.Raise a b pos) (tDS G W (evS c s)) := by
  have nv : some DI.S.never = some s → PS X (.Raise a b pos) (tDS G W (evS c s)) := fun h => by cases h; exact eS s_never fun s H => by rw [evS]
  unfold cRaise at h
  split at h
  · rename_i x p e p2
    split at h
    · rename_i hc
      simp only [Bool.and_eq_true] at hc
      split at h
      · rename_i n f d h1 h2
        cases h
        exact eS (s_raise S.ok (S.calm hc.1.1) (S.exk hc.1.1 _ _ _ (exsOf_ok h1)) (S.gl hc.1.2) hc.2 (Z.e S h2)) fun s H => by rw [evS]
      · exact nv h
    · exact nv h
  · exact nv h
def Ck.hot (k : Ck) (n : Str) (kx : Nat) (f : Str) (d : D) : Ck := { k with calm := false, exc := some (n, kx, f, d) }
def cS (T : Tb) (r : Rc) : Nat → Ck → Stmt → Option S
  | 0, _, _ => none
  | n + 1, k, st => match st with
    | .Assign [tg] e _ => if k.calm then cAsg T r k tg e else none
    | .AugAssign (.Name x _) o e _ => if stB k x && k.calm then match ixN' k.N x, r.e k e with
      | some i, some d => some (.aug i o d)
      | _, _ => none else none
    | .Expr e _ => if isDoc e then some .pas else if notComp e then (r.e k e).map .ex else none
    | .Return (some e) _ => (r.e k e).map .ret
    | .Return none _ => some .retN
    | .If t a b _ => match r.t k t, cStmts (cS T r n k) a, cStmts (cS T r n k) b with
      | some x, some y, some z => some (.ite x y z)
      | _, _, _ => none
    | .While t b [] _ => match r.t k t, cStmts (cS T r n k) b with
      | some x, some y => some (.whl x y)
      | _, _ => none
    | .For tg it b [] _ => if notSet it && k.calm then match cPat 4 k tg, cIt T k (r.e k) tg it, cStmts (cS T r n k) b with
      | some x, some y, some z => some (.forr x y z)
      | _, _, _ => none else none
    | .Break _ => some .brk
    | .Continue _ => some .cnt
    | .Pass _ => some .pas
    | .Raise a b _ => cRaise T r k a b
    | .Try body [.ExceptHandler (some (.Name x _)) (some y) (b0 :: suite) _] [] [] _ =>
      if k.top && k.calm && locN k y && glB k x && !dbg y then match exsOf x T.exs, ixN' k.N y, cStmts (cS T r n k) body with
        | some (kx, f), some i, some b => some (.tryy b kx i fun d => (cStmts (cS T r n (k.hot y kx f d)) (b0 :: suite)).getD (.cons .never .nil))
        | _, _, _ => none
      else none
    | _ => none
theorem cStmts_ok {f : Stmt → Option S} (hf : ∀ {st s}, f st = some s → PS X st (tDS G W (evS c s))) : ∀ {l : List Stmt} {ss : Ss}, cStmts f l = some ss → PSs X l (tDS G W (evSs c ss))
  | [], _, h => by cases h; exact eSs s_nil fun s H => by rw [evSs]
  | st :: l, _, h => by
    unfold cStmts at h
    cases h1 : f st with
    | none => rw [h1] at h; cases h
    | some a =>
      cases h2 : cStmts f l with
      | none => rw [h1, h2] at h; cases h
      | some b =>
        rw [h1, h2] at h
        cases h
        exact eSs (s_cons (hf h1) (cStmts_ok hf h2)) fun s H => by rw [evSs] <;> rfl
/-- a try's body -/
theorem Sx.tr (S : Sx T c G k X W) (hcm : k.calm = true) {pn : List (Addr × Obj)} {xe : Value → Shared → Prop} {W' : WX} (tk : Takes (X.tr pn xe) W') (hp : PassesOwn (model X.prog X.w) X.A X.env xe) : Sx T c G k (X.tr pn xe) W' where
  ok := ⟨S.ok.K, S.ok.gd, S.ok.un, S.ok.nd, tk, hp⟩
  hN := S.hN
  hs := S.hs
  kd := S.kd
  fn := S.fn
  blt := S.blt
  con := S.con
  calm := S.calm
  gx := S.gx
  def_ := fun hcm f x h => let ⟨l, a, fd, ps, dV, dvs, hr, C, hb⟩ := S.def_ hcm f x h; ⟨l, a, fd, ps, dV, dvs, hr, ⟨C.fn, C.mg, C.kp, C.nd, C.dv, C.dr⟩, hb⟩
  fr := S.fr
  exk := fun hcm x n f m => let E := S.exk hcm x n f m; ⟨E.mg, E.nd, E.xf, E.F, E.ini⟩
  iso := fun n y b m => S.iso n y b m
  xn := S.xn
  xc := fun n kx f d h => by rw [S.xn hcm] at h; cases h
/-- an except suite -/
theorem Sx.hot (S : Sx T c G k X W) {y f : Str} {kx i : Nat} {a dd : Addr} {oe : Obj} {pn : List (Addr × Obj)} {fd : D} {B : Addr} (F : ExF X.K (G.ca kx) B f) (hz : Zc (.ref (G.ca kx)) (some dd) oe) (hfl : ∃ vs, oe.data = .fields vs)
    (hi : X.N[i]? = some y) (hv : Vis X.env.scope y) (hd : (y == ("__debug__" : Str)) = false) (hd2 : (y == ("__classdict__" : Str)) = false) :
    Sx T c { G with exc := some (i, a, dd, f, fd) } (k.hot y kx f fd) (X.suite a ((a, oe) :: pn)) W0 where
  ok := ⟨S.ok.K, S.ok.gd, S.ok.un, S.ok.nd, takes0, PassesOwn.never⟩
  hN := S.hN
  hs := S.hs
  kd := S.kd
  fn := S.fn
  blt := S.blt
  con := fun g x h => let ⟨h1, d, v, u, h2, h3, h4, h5⟩ := S.con g x h; ⟨h1, d, v, u, h2, h3, h4, fun w H => RepV.gr (G := G) (G' := { G with exc := some (i, a, dd, f, fd) }) rfl rfl (h5 w H)⟩
  calm := fun h => by cases h
  gx := fun h => by cases h
  def_ := fun h => by cases h
  fr := S.fr
  exk := fun h => by cases h
  iso := fun n y b m => S.iso n y b m
  xn := fun h => by cases h
  xc := fun n k' f' d' h => by
    cases h
    refine ⟨fun p p' => d_xf F rfl hz hfl hi hv hd hd2, fun z b m h1 h2 h3 p1 p2 p3 p4 => d_xis F rfl hz hfl hi hv hd hd2 (S.gl h1) (S.blt _ h2) (S.gl h3) (S.iso _ _ _ m)⟩
theorem cS_ok (Z : ∀ G, Snd T c G r) : ∀ {n : Nat} {k : Ck} {X : Cx} {G : Gr} {W : WX} {st : Stmt} {s : DI.S}, Sx T c G k X W → cS T r n k st = some s → PS X st (tDS G W (evS c s))
  | 0, _, _, _, _, _, _, _, h => by cases h
  | n + 1, k, X, G, W, st, s, S, h => by
    have IH : ∀ {k : Ck} {X : Cx} {G : Gr} {W : WX} {l : List Stmt} {ss : Ss}, Sx T c G k X W → cStmts (cS T r n k) l = some ss → PSs X l (tDS G W (evSs c ss)) := fun S h => cStmts_ok (fun h => cS_ok Z S h) h
    have Z := Z
    unfold cS at h
    split at h
    · split at h
      · rename_i hcm
        exact cAsg_ok (Z G) S hcm h
      · cases h
    · rename_i x p o e p2
      split at h
      · rename_i hs
        rw [Bool.and_eq_true] at hs
        obtain ⟨hs, hcm⟩ := hs
        cases h1 : ixN' k.N x with
        | none => rw [h1] at h; cases h
        | some i =>
          cases h2 : r.e k e with
          | none => rw [h1, h2] at h; cases h
          | some d =>
            rw [h1, h2] at h
            cases h
            exact eS (s_aug S.ok (S.gx hcm) (S.ix h1) (S.st hs).1 (S.st hs).2 ((Z G).e S h2)) fun s H => by rw [evS] <;> rfl
      · cases h
    · rename_i e p
      split at h
      · rename_i hd
        cases h
        unfold isDoc at hd
        split at hd
        · exact eS s_doc fun s H => by rw [evS]
        · cases hd
      · split at h
        · rename_i hc
          cases h1 : r.e k e with
          | none => rw [h1] at h; cases h
          | some d => rw [h1] at h; cases h; exact eS (s_ex hc ((Z G).e S h1)) fun s H => by rw [evS]
        · cases h
    · rename_i e p
      cases h1 : r.e k e with
      | none => rw [h1] at h; cases h
      | some d => rw [h1] at h; cases h; exact eS (s_ret ((Z G).e S h1)) fun s H => by rw [evS]
    · cases h; exact eS s_retN fun s H => by rw [evS]
    · rename_i t a b p
      cases h1 : r.t k t with
      | none => rw [h1] at h; cases h
      | some x =>
        cases h2 : cStmts (cS T r n k) a with
        | none => rw [h1, h2] at h; cases h
        | some y =>
          cases h3 : cStmts (cS T r n k) b with
          | none => rw [h1, h2, h3] at h; cases h
          | some z => rw [h1, h2, h3] at h; cases h; exact eS (s_ite ((Z G).t S h1) (IH S h2) (IH S h3)) fun s H => by rw [evS]
    · rename_i t b p
      cases h1 : r.t k t with
      | none => rw [h1] at h; cases h
      | some x =>
        cases h2 : cStmts (cS T r n k) b with
        | none => rw [h1, h2] at h; cases h
        | some y => rw [h1, h2] at h; cases h; exact eS (s_whl S.ok ((Z G).t S h1) (IH S h2)) fun s H => by rw [evS]
    · rename_i tg it b p
      split at h
      · rename_i hf
        rw [Bool.and_eq_true] at hf
        cases h1 : cPat 4 k tg with
        | none => rw [h1] at h; cases h
        | some x =>
          cases h2 : cIt T k (r.e k) tg it with
          | none => rw [h1, h2] at h; cases h
          | some y =>
            cases h3 : cStmts (cS T r n k) b with
            | none => rw [h1, h2, h3] at h; cases h
            | some z => rw [h1, h2, h3] at h; cases h; exact eS (s_for S.ok (S.gx hf.2) (S.calm hf.2) hf.1 (cIt_ok (Z G) S h2) (cPat_ok S h1) (IH S h3)) fun s H => by rw [evS]
      · cases h
    · cases h; exact eS s_brk fun s H => by rw [evS]
    · cases h; exact eS s_cnt fun s H => by rw [evS]
    · cases h; exact eS s_pas fun s H => by rw [evS]
    · exact cRaise_ok (Z G) S h
    · rename_i body x np y b0 suite p1 p2
      split at h
      · rename_i hc
        simp only [Bool.and_eq_true, Bool.not_eq_true'] at hc
        obtain ⟨⟨⟨⟨hct, hcm⟩, hcl⟩, hcg⟩, hcd⟩ := hc
        unfold dbg at hcd
        rw [Bool.or_eq_false_iff] at hcd
        split at h
        · rename_i kx f i b h1 h2 h3
          cases h
          have E := S.exk hcm _ _ _ (exsOf_ok h1)
          obtain ⟨B, F⟩ := E.F
          have hl := locN_ok S hcl
          refine eS (s_try (fb := evSs c b) (fh := fun d => evSs c ((cStmts (cS T r n (k.hot y kx f d)) (b0 :: suite)).getD (.cons .never .nil))) S.ok (S.gx hcm) (S.fr hct).1 (S.fr hct).2 (S.ix h2) hl E (S.gl hcg) (fun W' pn xe tk hp => IH (S.tr hcm tk hp) h3) fun a oe dd pn fd hz hfl => ?_) fun s H => by rw [evS]
          cases h4 : cStmts (cS T r n (k.hot y kx f fd)) (b0 :: suite) with
          | none =>
            refine PSs.mono (t := fun _ _ _ => False) ⟨fun pins s σ H Q I z => z.elim⟩ fun D s H z => ?_
            obtain ⟨w, Hd, sd, rel, rs, q⟩ := z
            simp only [Option.getD_none, evSs, evS] at q
            exact q
          | some ss =>
            have hv : Vis X.env.scope y := by unfold Vis; rw [hl]; exact .inl rfl
            have q := IH (S.hot (a := a) (pn := pn) (fd := fd) F hz hfl (S.ix h2) hv hcd.1 hcd.2) h4
            exact q
        · cases h
      · cases h
    · cases h
/-- a def's body -/
def cBody (T : Tb) (n : Nat) (k : Ck) (b : List Stmt) : Option Ss := cStmts (cS T (rc T n) n k) b
theorem cBody_ok (S : Sx T c G k X W) {n : Nat} {b : List Stmt} {ss : Ss} (h : cBody T n k b = some ss) : PSs X b (tDS G W (evSs c ss)) := cStmts_ok (fun h => cS_ok (fun G => snd T c G n) S h) h
end
end DI
namespace DI
open PySem PySem.Spec PyProof.Rows L2
theorem startS {G : Gr} {v : Vw} {H : Hp} {ds : List D} {vs : List V} {N : List Str} {f : Fd} (hn : f.names.length = N.length) (hx : G.exc = none) (r : RepVs G v H ds vs) : RepS G v H (startD f ds) (L2.start N vs) := by
  unfold startD L2.start
  have hl := r.length
  refine ⟨by simp only [List.length_append, List.length_map, List.length_replicate, hn, hl], fun i d h => ?_, .no hx⟩
  by_cases hi : i < ds.length
  · rw [List.getElem?_append_left (by simpa using hi), List.getElem?_map] at h
    cases e : ds[i]? with
    | none => rw [e] at h; cases h
    | some d' =>
      rw [e] at h
      cases h
      obtain ⟨u, h1, h2⟩ := r.get e
      exact ⟨u, by rw [List.getElem?_append_left (by simpa [← hl] using hi), List.getElem?_map, h1] <;> rfl, h2⟩
  · rw [List.getElem?_append_right (by simpa using hi), List.getElem?_replicate] at h
    split at h <;> cases h
/-- the static facts of a module, by its global names -/
structure Md (T : Tb) (consts : List D) (dfl : Nat → List D) (G : Gr) (K : PySem.W.Frag) (mg : Str → Option Value) : Prop where
  K : G.K = K
  blt : ∀ x ∈ T.blts, mg x = none
  exc : G.exc = none
  exk : ∀ (x : Str) (n : Nat) (f : Str), (x, n, f) ∈ T.exs → mg x = some (.ref (G.ca n)) ∧ (x == ("__debug__" : Str)) = false ∧ G.xf n = f ∧ ∃ B, ExF G.K (G.ca n) B f
  iso : ∀ (n : Nat) (y : Str) (b : Bool), (n, y, b) ∈ T.xis → IsK G.K mg (G.ca n) y b
  con : ∀ (g : Nat) (x : Str), T.cons[g]? = some x → (x == ("__debug__" : Str)) = false ∧ ∃ d v u, consts[g]? = some d ∧ mg x = some u ∧ RelV v u ∧ ∀ w H, RepV G w H d v
/-- a def of the module as a callee, at all levels -/
structure De (T : Tb) (K : PySem.W.Frag) (mg : Str → Option Value) (G : Gr) (i : Nat) (x : Str) (dfl : List D) (a : Addr) (fd : FuncData) (ps : List Str) : Prop where
  mg : mg x = some (.ref a)
  kp : PySem.W.keepIn K (.ref a) = true
  nd : (x == ("__debug__" : Str)) = false
  dv : ∃ (dV : List V) (dvs : List Value), Vals dV dvs ∧ (∀ w H, RepVs G w H dfl dV) ∧ ∀ n ks pm, (i, n, ks, pm) ∈ T.forms → KBd K fd ps n ks pm dvs
section
variable {P : Program} {w : World} {K : PySem.W.Frag} {mg : Str → Option Value} {base : Heap} {G : Gr} {T : Tb} {x qual : Str} {params : Arguments} {body : List Stmt} {scope : Scope} {dvs : List V} {kws : List (Str × V)} {f : Addr} {fd : FuncData} {N ps : List Str} {k n : Nat} {ss : Ss} {cfg : Cfg} {fD : Fd}
theorem fn_g (F : FunD K x qual params body scope dvs kws f fd) (S : FnScope N ps scope) (hc : cBody T n (mkCk N scope) body = some ss) (hb : fD.body = ss) (hn : fD.names.length = N.length) (hp : fD.params.length = ps.length)
    (M : Md T cfg.consts cfg.dfl G K mg)
    (HX : ∀ (y : Str) (m : Nat) (g : Str), (y, m, g) ∈ T.exs → ∃ l fd ps, FnOk P w K mg base (L2.CX P w) l (He.ma K (G.ca m) "__init__") fd ps (spI (G.ca m) g) ∧ l + 1 ≤ k ∧ Binds K fd ps [])
    (HD : ∀ (i : Nat) (y : Str), T.fns[i]? = some y → ∃ a fd ps, De T K mg G i y (cfg.dfl i) a fd ps ∧ FnG P w K mg base G k a fd ps (cfg.call i)) :
    FnG P w K mg base G (k + 1) f fd ps (runB fD cfg) := by
  obtain ⟨oc, od, dV, kV, doc, pm, an, cdv, ct, osl, rfl, lk, hcd, _, _⟩ := F.ex
  intro A outer s H args us vs ds v Hd Q E hr hg e0 hbt rv hl rel rd hq
  have lv : vs.length = ps.length := rv.length.trans hl
  have KX : K.In s.heap := e0.mod.kin.keeps fun b o e => (e0.bs b o e).1
  have kinds : ∀ y ∈ ps.zip us, scope.names.lookup y.1 = some .local ∨ (scope.names.lookup y.1 = some .cell ∧ ((cellsFrom (s.heap.objs.size + 1) scope.names []).lookup y.1).isSome = true) := by
    rintro ⟨n, u⟩ hy
    rcases S.par n (List.of_mem_zip hy).1 with q | q
    · exact .inl q
    · exact .inr ⟨q, PySem.W.cellsFrom_some _ _ _ (.inl q)⟩
  refine codeAny_call_function hr.depth (KX _ _ lk) rfl S.co S.gen rfl (PySem.W.codeRec_of KX hcd) (hbt _ _ _ _ ?_)
  refine wpAny_newFunctionEnv_cells S.kind kinds fun env he s1 hx => ?_
  cases he
  refine ⟨Heap.NoLimit.keeps (e0.mod.nolimit.keeps fun b o e => (e0.bs b o e).1) hx.toInCall.keep, codeAny_func ?_⟩
  have I : L2.Inv (cxOf (CX P w) P w K mg base N qual scope f cdv A outer s H E) [] (L2.start N vs) H s1 := inv_start S hr.hd e0 lv rv hx
  have hr' : Room k (A.deeper (envOfC qual scope s.heap.objs.size f cdv)) := hr.deeper _
  have SX : Sx T cfg G (mkCk N scope) (cxOf (CX P w) P w K mg base N qual scope f cdv A outer s H E) (fun c d _ H => E c d H) :=
    ⟨⟨M.K, hg, by have := hr'.un; show (A.deeper _).units + 66 < _; omega, S.nd, takes_of rfl rfl rfl rfl, passes_of rfl⟩, rfl, rfl, S.kind, fun _ _ => rfl, M.blt, M.con, fun _ => rfl, fun _ => M.exc, fun _ i y hy => by
      obtain ⟨a, fd', ps', D1, D2⟩ := HD i y hy
      obtain ⟨dV', dvs', h1, h2, h3⟩ := D1.dv
      exact ⟨k, a, fd', ps', dV', dvs', hr', ⟨D2, D1.mg, D1.kp, D1.nd, h1, h2⟩, h3⟩, fun _ => ⟨rfl, rfl⟩, fun _ y m g hm => by
      obtain ⟨h1, h2, h3, h4⟩ := M.exk y m g hm
      obtain ⟨l, fd', ps', q1, q2, q3⟩ := HX y m g hm
      exact ⟨h1, h2, h3, M.K ▸ h4, l, fd', ps', q1, hr'.mono q2, q3⟩, fun m y b hm => M.K ▸ M.iso m y b hm, fun _ => rfl, fun _ _ _ _ h => by cases h⟩
  have run := cBody_ok SX hc
  have start : tDS G (fun c d _ H => E c d H) (evSs cfg ss) { nx := fun _ H' => Q .non H', rt := Q } (L2.start N vs) H := by
    refine ⟨v, Hd, startD fD ds, rel, startS hn M.exc rd, ?_⟩
    unfold runB at hq
    rw [if_pos (by rw [rd.length, lv, hp]), hb] at hq
    generalize evSs cfg ss (startD fD ds) Hd = r at hq
    cases r with
    | no => exact hq
    | ex e s H => exact fun w' H' e' r' _ _ c da rx => hq w' H' e' r' c da rx
    | go fl H =>
      cases fl with
      | nx s => exact fun w' H' e' r' _ _ => hq w' H' e' r' _ .non
      | rt d => exact hq
      | bk s => exact hq.elim
      | ct s => exact hq.elim
  refine wpAny_mono (run.run [] s1 _ H _ I start) (fun fl s' hs => ?_) fun _ _ h => h
  have close : ∀ {σ : L2.St} {H' : Hp} {v : V} {u : Value}, L2.Inv (cxOf (CX P w) P w K mg base N qual scope f cdv A outer s H E) [] σ H' s' → L2.RelV v u → Q v H' → CE outer P w H s Q u s' := fun J rv q => ⟨_, _, J.os, J.bare, J.base, J.hok, rv, q⟩
  cases fl with
  | next => obtain ⟨σ, H', J, q⟩ := hs; exact close (v := V.non) (u := Value.none) J rfl q
  | ret u => obtain ⟨v, σ, H', J, rv, q⟩ := hs; exact close J rv q
  | brk => obtain ⟨_, _, _, q⟩ := hs; exact q.elim
  | cont => obtain ⟨_, _, _, q⟩ := hs; exact q.elim
/-- no defaults: a form of call -/
theorem kb_no {ks : List Str} {pm : List Nat} (F : FunD K x qual params body scope [] kws f fd)
    (h : ∀ (kV doc pmv : Value) (an : Option Addr) (cdv ct : Value) (us ws : List Value), us.length = n → ws.length = ks.length → ∃ zs, permL (us ++ ws ++ []) pm = some zs ∧ zs.length = ps.length ∧ bindArgs (PySem.W.fnOf x qual params body scope .none kV doc pmv an cdv ct) ⟨us, ks.zip ws⟩ = pure (ps.zip zs)) :
    KBd K fd ps n ks pm [] := by
  obtain ⟨oc, od, dV, kV, doc, pmv, an, cdv, ct, osl, rfl, lk, hcd, hD, hK⟩ := F.ex
  intro s us ws _ l1 l2
  rcases hD with ⟨_, rfl⟩ | ⟨e, _⟩
  · obtain ⟨zs, h1, h2, h3⟩ := h kV doc pmv an cdv ct us ws l1 l2
    exact ⟨zs, h1, h2, .of_eq h3⟩
  · exact absurd rfl e
/-- keyword-only defaults: one list of their values for all forms of call -/
theorem kb_kws (F : FunD K x qual params body scope [] kws f fd) (hk : kws ≠ []) : ∃ dvs : List Value, dvs.length = kws.length ∧ L2.Vals (kws.map (·.2)) dvs ∧ ∀ (n : Nat) (ks : List Str) (pm : List Nat),
    (∀ (D : Addr) (doc pmv : Value) (an : Option Addr) (cdv ct : Value) (us ws : List Value), us.length = n → ws.length = ks.length → ∃ zs l, permL (us ++ ws ++ dvs) pm = some zs ∧ zs.length = ps.length ∧ (∀ q ∈ l, q ∈ (kws.map (·.1)).zip dvs) ∧
      KwChain D l (bindArgs (PySem.W.fnOf x qual params body scope .none (.ref D) doc pmv an cdv ct) ⟨us, ks.zip ws⟩) (ps.zip zs)) → KBd K fd ps n ks pm dvs := by
  obtain ⟨oc, od, dV, kV, doc, pmv, an, cdv, ct, osl, rfl, lk, hcd, hD, hK⟩ := F.ex
  rcases hD with ⟨_, rfl⟩ | ⟨e, _⟩
  · rcases hK with e | ⟨D, rfl, hq⟩
    · exact absurd e hk
    · obtain ⟨us, h1, h2, h3⟩ := kwd_vals hq
      refine ⟨us, h1, h2, fun n ks pm h s vs ws X l1 l2 => ?_⟩
      obtain ⟨zs, l, p1, p2, p3, p4⟩ := h D doc pmv an cdv ct vs ws l1 l2
      exact ⟨zs, p1, p2, BindsTo.of_looks fun M => KwChain.looks X (fun q hm => h3 q (p3 q hm)) p4⟩
  · exact absurd rfl e
end
end DI
namespace DI
open PySem PySem.Spec PyProof.Rows L2
theorem ktup_of {K : PySem.W.Frag} {x : Str} {vs : List He.Dv} (h : He.tupB K x vs = true) : KTup K (He.ga K x) (vs.map (He.Dv.v K)) := by
  unfold He.tupB at h
  cases q : K.lookup (He.ga K x) with
  | none =>
    rw [q] at h
    cases h
  | some o =>
    obtain ⟨oc, od, dt, osl⟩ := o
    rw [q] at h
    cases oc with
    | type c =>
      cases dt with
      | seq its n =>
        obtain ⟨h1, h2⟩ := He.ba (show (decide (c = "tuple") && (decide (its.size ≤ sizeLine) && He.relAll (vs.map (He.Dv.v K)) its.toList)) = true from h)
        obtain ⟨h3, h4⟩ := He.ba h2
        exact ⟨_, its, n, q, congrArg Value.type (of_decide_eq_true h1), rfl, of_decide_eq_true h3, He.relAll_ok h4⟩
      | _ => cases h
    | _ => cases dt <;> cases h
abbrev AlX : Type := He.AlD × Bool
def obsX (fa : List He.Fa) (fn : List He.DefD) (tb : List (Str × List He.Dv)) (ex : PySem.W.Frag → List Bool) (K : PySem.W.Frag) : AlX := (He.obsD fa fn K, (tb.all fun t => He.tupB K t.1 t.2) && (ex K).all id)
def SaysX (fa : List He.Fa) (fn : List He.DefD) (tb : List (Str × List He.Dv)) (ex : PySem.W.Frag → List Bool) (K : PySem.W.Frag) : Prop := obsX fa fn tb ex K = (He.valD fn, true)
def obsXG (n : Nat) (fa : List He.Fa) (fn : List He.DefD) (tb : List (Str × List He.Dv)) (ex : PySem.W.Frag → List Bool) (g : Addr → Option Obj) : AlX := obsX fa fn tb ex (He.frG g (cStatics :: He.asD g n))
def hookX (n : Nat) (fa : List He.Fa) (fn : List He.DefD) (tb : List (Str × List He.Dv)) (ex : PySem.W.Frag → List Bool) : PySem.W.Hook where
  α := AlX
  obs := fun s => obsXG n fa fn tb ex s.heap.get?
  val := fun _ => (He.valD fn, true)
  says := fun _ h => ∃ K : PySem.W.Frag, K.In h ∧ SaysX fa fn tb ex K
  of := fun _ _ e => ⟨_, He.frG_in, e⟩
  keeps := fun _ _ _ ⟨K, hK, c⟩ k => ⟨K, PySem.W.Frag.In.keeps hK k, c⟩
theorem obsXG_eq {n : Nat} {fa : List He.Fa} {fn : List He.DefD} {tb : List (Str × List He.Dv)} {ex : PySem.W.Frag → List Bool} {g : Addr → Option Obj} {s : Shared} (h : ∀ a, g a = s.heap.get? a) : obsXG n fa fn tb ex g = (hookX n fa fn tb ex).obs s := by
  have e : g = s.heap.get? := funext h
  rw [e] <;> rfl
theorem SaysX.d {fa : List He.Fa} {fn : List He.DefD} {tb : List (Str × List He.Dv)} {ex : PySem.W.Frag → List Bool} {K : PySem.W.Frag} (c : SaysX fa fn tb ex K) : He.SaysD fa fn K := congrArg (fun z : AlX => z.1) c
theorem SaysX.tup {fa : List He.Fa} {fn : List He.DefD} {tb : List (Str × List He.Dv)} {ex : PySem.W.Frag → List Bool} {K : PySem.W.Frag} (c : SaysX fa fn tb ex K) (i : Nat) {x : Str} {vs : List He.Dv} (h : tb[i]? = some (x, vs) := by rfl) : KTup K (He.ga K x) (vs.map (He.Dv.v K)) :=
  ktup_of (List.all_eq_true.mp (He.ba (show ((tb.all fun t => He.tupB K t.1 t.2) && (ex K).all id) = true from congrArg (fun z : AlX => z.2) c)).1 (x, vs) (List.mem_of_getElem? h))
theorem SaysX.ex {fa : List He.Fa} {fn : List He.DefD} {tb : List (Str × List He.Dv)} {ex : PySem.W.Frag → List Bool} {K : PySem.W.Frag} (c : SaysX fa fn tb ex K) (i : Nat) {b : Bool} (h : (ex K)[i]? = some b := by rfl) : b = true :=
  List.all_eq_true.mp (He.ba (show ((tb.all fun t => He.tupB K t.1 t.2) && (ex K).all id) = true from congrArg (fun z : AlX => z.2) c)).2 b (List.mem_of_getElem? h)
/-- what isinstance says of an exception of the class at C: none: y is a class of the text, t: the builtin one -/
def isKB (K : PySem.W.Frag) (C : Addr) (y : Str) (b : Bool) : Option String → Bool
  | none => decide (PySem.W.kitOne K (.ref C) (.ref (He.ga K y)) = some b)
  | some t => decide (PySem.W.kitOne K (.ref C) (.type t) = some b)
theorem isK_own {K : PySem.W.Frag} {mg : Str → Option Value} {C : Addr} {y : Str} {b : Bool} (h : isKB K C y b none = true) (hm : mg y = some (.ref (He.ga K y))) (hd : (y == ("__debug__" : Str)) = false) : IsK K mg C y b := ⟨hd, .inl ⟨_, hm, of_decide_eq_true h⟩⟩
theorem isK_blt {K : PySem.W.Frag} {mg : Str → Option Value} {C : Addr} {y : Str} {b : Bool} {t : String} (h : isKB K C y b (some t) = true) (hm : mg y = none) (hb : bootBuiltins y = some (.type t)) (hn : y ≠ "__name__") (hd : (y == ("__debug__" : Str)) = false) : IsK K mg C y b := ⟨hd, .inr ⟨t, hm, hb, hn, of_decide_eq_true h⟩⟩
/-- nothing live -/
def vw0 : Vw := ⟨fun _ => 0, 0, fun _ => False⟩
theorem no0 (a : Addr) : ¬ vw0.L a := fun z => z.elim (fun ⟨_, h, _⟩ => absurd h (Nat.not_lt_zero _)) fun h => h
theorem rel0 (G : Gr) (H : Hp) : Rel G vw0 [] H := ⟨rfl, fun _ _ h => absurd h (Nat.not_lt_zero _), fun _ _ h => by simp at h, fun _ h => h.elim⟩
theorem repInts (G : Gr) (v : Vw) (H : Hp) : ∀ ns : List Int, RepVs G v H (ns.map D.int) (ns.map V.int)
  | [] => .nil
  | n :: r => .cons (.int n) (repInts G v H r)
abbrev Told (s : Shared) : Result → Shared → Prop := fun r s' => r = .ok (.ret (.bool true)) ∧ OldK s.heap s'.heap ∧ s'.os = s.os ∧ AllBare s'.gens
section
variable {P : Program} {w : World} {K : PySem.W.Frag} {mg mb : Str → Option Value} {G : Gr} {k : Nat} {f a : Addr} {fd : FuncData} {x : Str} {F : List D → HH → Rs D} {s : Shared} {its : List Value} {ns : List Int}
/-- what the module's frame asks -/
structure Stand (K : PySem.W.Frag) (mg mb : Str → Option Value) (s : Shared) : Prop where
  kin : K.In s.heap
  ns : s.heap.Ns mainGlobals mg
  bn : s.heap.Ns builtinsNs mb
  bb : ∀ x : Str, x ≠ "__name__" → mb x = bootBuiltins x
  lim : s.heap.NoLimit
  gens : s.gens = #[]
/-- the law's call over a heap that tells the script alone -/
theorem over (St : Stand K mg mb s) (hG : G.K = K) {H : Hp} (ob : s.heap.get? a = some { cls := .type "list", data := .seq its.toArray }) (only : ∀ b u, H b = some u → b = a ∧ u = .frz { cls := .type "list", data := .seq its.toArray } (.lst (ns.map V.int)))
    (sq : SqL K H a (ns.map V.int)) (hok : HOk P w H s.heap) (hk : H a ≠ none → K.lookup a = none) (hr : Room k callerA) (ok : ∀ base : Heap, K.In base → base.Ns mainGlobals mg → FnG P w K mg base G k f fd [x] F)
    (bind : ∀ u : Value, BindsTo s fd ⟨[u], []⟩ [(x, u)]) (val : ∃ Hd, F [.fz (ns.map D.int)] [] = .ok (.bl true) Hd) : codeAny (model P w) callerA (.call (.ref f) ⟨[.ref a], []⟩) (Told s) s := by
  have free : ∀ {b : Addr} {o : Obj}, s.heap.get? b = some o → (∀ arr m, o.data ≠ .seq arr m) → H b = none := by
    intro b o e hd
    cases q : H b with
    | none => rfl
    | some u =>
      obtain ⟨rfl, _⟩ := only b u q
      rw [ob] at e
      cases e
      exact absurd rfl (hd _ _)
  have ns' : ∀ {b : Addr} {m : Str → Option Value}, s.heap.Ns b m → (hidT s.heap H).Ns b m := by
    rintro b m ⟨o, es, ep, e, d, r⟩
    exact ⟨o, es, ep, hidT_get e (free e fun _ _ z => by rw [d] at z; cases z), d, r⟩
  have kin : K.In (hidT s.heap H) := by
    intro b o e
    refine hidT_get (St.kin b o e) ?_
    cases q : H b with
    | none => rfl
    | some u =>
      obtain ⟨rfl, _⟩ := only b u q
      have z := hk (by rw [q]; simp)
      rw [z] at e
      cases e
  have md : Mod K mg (hidT s.heap H) := by
    obtain ⟨mc, c1, c2⟩ := St.lim
    exact ⟨kin, ns' St.ns, ⟨mb, ns' St.bn, St.bb⟩, ⟨mc, ns' c1, c2⟩⟩
  have e0 : Env0 P w K mg (hidT s.heap H) callerA [] s H :=
    ⟨rfl, md, fun b o e => of_hidT e, by rw [hidT_size]; exact Nat.le_refl _, trivial, fun b hb => (List.not_mem_nil hb).elim, hok, .of_eq St.gens⟩
  obtain ⟨Hd, hv⟩ := val
  have fz : FzAt G vw0 H a (ns.map V.int) := by
    rcases sq with z | z
    · exact .inl ⟨no0 a, z⟩
    · exact .inr (hG ▸ z)
  refine codeAny_mono (ok _ kin (ns' St.ns) callerA [] s H ⟨[.ref a], []⟩ [.ref a] [.ref a] [.fz (ns.map D.int)] vw0 [] (fun v _ => v = .bl true) (fun _ _ _ => False) hr rfl e0 (bind _) (.cons rfl .nil) rfl (rel0 G H) (.cons (.fz fz (repInts G _ _ ns)) .nil) ?_) ?_
  · rw [hv]
    intro w' H' _ _ v rv
    cases rv
    rfl
  · intro r s' hq
    cases r with
    | error e =>
      obtain ⟨_, _, _, _, _, _, _, _, _, _, _, _, z⟩ := hq
      exact z.elim
    | ok fl =>
      cases fl with
      | ret u =>
        obtain ⟨v, H', os, bare, un, hok', rv, rfl⟩ := hq
        cases (show u = Value.bool true from rv)
        refine ⟨rfl, .of_keep fun b o e => ?_, os, bare⟩
        cases q : H b with
        | none => exact un.keep b o e q (fun z => List.not_mem_nil z) (fun z => List.not_mem_nil z)
        | some u =>
          obtain ⟨_, rfl⟩ := only b u q
          have z2 := un.frzs b _ _ q
          have e1 := (hok b _ q).1
          have e2 := (hok' b _ z2).1
          rw [e1] at e
          rw [e2, e]
      | next => exact hq.elim
      | brk => exact hq.elim
      | cont => exact hq.elim
theorem call_g (St : Stand K mg mb s) (hG : G.K = K) (ob : s.heap.get? a = some { cls := .type "list", data := .seq its.toArray }) (hi : IntsAre its ns) (hl : ns.length ≤ sizeLine) (hr : Room k callerA)
    (ok : ∀ base : Heap, K.In base → base.Ns mainGlobals mg → FnG P w K mg base G k f fd [x] F) (bind : ∀ u : Value, BindsTo s fd ⟨[u], []⟩ [(x, u)]) (val : ∃ Hd, F [.fz (ns.map D.int)] [] = .ok (.bl true) Hd) :
    codeAny (model P w) callerA (.call (.ref f) ⟨[.ref a], []⟩) (Told s) s := by
  have rv : L2.Vals (ns.map V.int) its := vals_ints hi
  cases hk : K.lookup a with
  | some o =>
    have e := St.kin a o hk
    rw [ob] at e
    cases e
    refine over (H := fun _ => none) St hG ob (fun b u z => nomatch (show (none : Option HO) = some u from z)) (.inr ⟨_, its.toArray, _, hk, rfl, rfl, rfl, by rw [List.size_toArray, hi.length]; exact hl, by simpa using rv⟩) (fun b u z => nomatch (show (none : Option HO) = some u from z)) (fun z => absurd rfl z) hr ok bind val
  | none =>
    let Hs : Hp := fun b => if b = a then some (.frz { cls := .type "list", data := .seq its.toArray } (.lst (ns.map V.int))) else none
    have at_ : ∀ b u, Hs b = some u → b = a ∧ u = .frz { cls := .type "list", data := .seq its.toArray } (.lst (ns.map V.int)) := by
      intro b u z
      by_cases hb : b = a
      · exact ⟨hb, (Option.some.inj ((if_pos hb).symm.trans z)).symm⟩
      · cases (if_neg hb).symm.trans z
    refine over (H := Hs) St hG ob at_ (.inl (.inr ⟨_, if_pos rfl⟩)) (fun b u z => ?_) (fun _ => hk) hr ok bind val
    obtain ⟨rfl, rfl⟩ := at_ b u z
    exact ⟨ob, by rw [List.length_map]; exact hl, its, _, rv, ob⟩
end
/-- the goal behind a head, by the core's run of the law -/
theorem walk_g {l : PySem.W.OpenLaw} {n k : Nat} {q : Program} {loose : List Str} {XP : (Str → Option Value) → Heap → Prop} {YP : World → Heap → Prop} {d : DefRec} {x : Str} (hn : l.most = some n) (hn2 : n ≤ sizeLine) (hdf : d.params.defaults = []) (hr : Room k callerA)
    (W : ∀ (w : World) (mg : Str → Option Value) (f : Addr) (h : Heap), YP w h → h.Ns mainGlobals mg → mg d.name = some (.ref f) → ∃ (K : PySem.W.Frag) (fd : FuncData) (G : Gr) (F : List D → HH → Rs D), K.In h ∧ G.K = K ∧
      (∀ (s : Shared) (u : Value), BindsTo s fd ⟨[u], []⟩ [(x, u)]) ∧ (∀ ns : List Int, ns.length ≤ n → ∃ Hd, F [.fz (ns.map D.int)] [] = .ok (.bl true) Hd) ∧ ∀ base : Heap, K.In base → base.Ns mainGlobals mg → FnG l.prog w K mg base G k f fd [x] F) :
    PySem.W.WalkO q loose XP YP l.row.toRowW d [] (fun f vs => PySem.call f vs) := by
  refine Att.attach_call hn hdf ?_
  intro w s₀ s mg mb f o pm cd doc a its ns Gd Y _ _ _ hmg ob hi hl hg
  obtain ⟨K, fd, G, F, kin, hG, hb, hv, ok⟩ := W w mg f _ Y Gd.T.g hmg
  exact call_g ⟨kin, Gd.T.g, Gd.T.b, Gd.T.builtins, Gd.T.nolimit, hg⟩ hG ob hi (Nat.le_trans hl hn2) hr ok (hb s) (hv ns hl)
end DI
namespace DI
open PySem

def Rs.wp {A : Type} (r : Rs A) (Q : A → HH → Prop) : Prop := match r with
  | .ok a H => Q a H
  | _ => False
@[simp] theorem wp_ok {A : Type} (a : A) (H : HH) (Q : A → HH → Prop) : (Rs.ok a H).wp Q = Q a H := rfl
@[simp] theorem wp_ex {A : Type} (e : XV) (H : HH) (Q : A → HH → Prop) : (Rs.ex e H : Rs A).wp Q = False := rfl
@[simp] theorem wp_no {A : Type} (Q : A → HH → Prop) : (Rs.no : Rs A).wp Q = False := rfl
@[simp] theorem wp_bind {A B : Type} (r : Rs A) (f : A → HH → Rs B) (Q : B → HH → Prop) : (r.bind f).wp Q = r.wp fun a H => (f a H).wp Q := by cases r <;> rfl
@[simp] theorem wp_bindN {A B : Type} (r : Rs A) (f : A → HH → Rs B) (Q : B → HH → Prop) : (r.bindN f).wp Q = r.wp fun a H => (f a H).wp Q := by cases r <;> rfl
@[simp] theorem wp_ofO {A : Type} (o : Option A) (H : HH) (Q : A → HH → Prop) : (Rs.ofO o H).wp Q = ∃ a, o = some a ∧ Q a H := by
  cases o with
  | none => simp [Rs.ofO, Rs.wp]
  | some a => simp [Rs.ofO, Rs.wp]
theorem wp_mono {A : Type} {r : Rs A} {Q Q' : A → HH → Prop} (h : r.wp Q) (m : ∀ a H, Q a H → Q' a H) : r.wp Q' := by
  cases r with
  | ok a H => exact m a H h
  | _ => exact h
theorem wp_elim {A : Type} {r : Rs A} {Q : A → HH → Prop} (h : r.wp Q) : ∃ a H, r = .ok a H ∧ Q a H := by
  cases r with
  | ok a H => exact ⟨a, H, rfl, h⟩
  | _ => exact h.elim
def RS.wp (r : RS) (Q : Fl → HH → Prop) : Prop := match r with
  | .go f H => Q f H
  | _ => False
@[simp] theorem swp_go (f : Fl) (H : HH) (Q : Fl → HH → Prop) : (RS.go f H).wp Q = Q f H := rfl
@[simp] theorem swp_ex (e : XV) (s : Sd) (H : HH) (Q : Fl → HH → Prop) : (RS.ex e s H).wp Q = False := rfl
@[simp] theorem swp_no (Q : Fl → HH → Prop) : (RS.no).wp Q = False := rfl
@[simp] theorem swp_st {A : Type} (r : Rs A) (s : Sd) (f : A → HH → RS) (Q : Fl → HH → Prop) : (r.st s f).wp Q = r.wp fun a H => (f a H).wp Q := by cases r <;> rfl
theorem swp_mono {r : RS} {Q Q' : Fl → HH → Prop} (h : r.wp Q) (m : ∀ a H, Q a H → Q' a H) : r.wp Q' := by
  cases r with
  | go a H => exact m a H h
  | _ => exact h
/-- the rest of a suite -/
def nxt (c : Cfg) (r : Ss) (Q : Fl → HH → Prop) : Fl → HH → Prop := fun f H => match f with
  | .nx s => (evSs c r s H).wp Q
  | f => Q f H
@[simp] theorem nxt_nx (c : Cfg) (r : Ss) (Q : Fl → HH → Prop) (s : Sd) (H : HH) : nxt c r Q (.nx s) H = (evSs c r s H).wp Q := rfl
@[simp] theorem nxt_rt (c : Cfg) (r : Ss) (Q : Fl → HH → Prop) (d : D) (H : HH) : nxt c r Q (.rt d) H = Q (.rt d) H := rfl
@[simp] theorem nxt_bk (c : Cfg) (r : Ss) (Q : Fl → HH → Prop) (s : Sd) (H : HH) : nxt c r Q (.bk s) H = Q (.bk s) H := rfl
@[simp] theorem nxt_ct (c : Cfg) (r : Ss) (Q : Fl → HH → Prop) (s : Sd) (H : HH) : nxt c r Q (.ct s) H = Q (.ct s) H := rfl
@[simp] theorem ss_nil (c : Cfg) (s : Sd) (H : HH) (Q : Fl → HH → Prop) : (evSs c .nil s H).wp Q = Q (.nx s) H := by rw [evSs]; rfl
@[simp] theorem ss_cons (c : Cfg) (a : S) (r : Ss) (s : Sd) (H : HH) (Q : Fl → HH → Prop) : (evSs c (.cons a r) s H).wp Q = (evS c a s H).wp (nxt c r Q) := by
  rw [evSs]
  cases evS c a s H with
  | go f H1 => cases f <;> rfl
  | ex e s H => rfl
  | no => rfl
/-- how a body goes on in a loop -/
def lop (I : Sd → HH → Prop) (Q : Fl → HH → Prop) : Fl → HH → Prop := fun f H => match f with
  | .nx s => I s H
  | .ct s => I s H
  | .bk s => Q (.nx s) H
  | .rt d => Q (.rt d) H
@[simp] theorem lop_nx (I : Sd → HH → Prop) (Q : Fl → HH → Prop) (s : Sd) (H : HH) : lop I Q (.nx s) H = I s H := rfl
@[simp] theorem lop_ct (I : Sd → HH → Prop) (Q : Fl → HH → Prop) (s : Sd) (H : HH) : lop I Q (.ct s) H = I s H := rfl
@[simp] theorem lop_bk (I : Sd → HH → Prop) (Q : Fl → HH → Prop) (s : Sd) (H : HH) : lop I Q (.bk s) H = Q (.nx s) H := rfl
@[simp] theorem lop_rt (I : Sd → HH → Prop) (Q : Fl → HH → Prop) (d : D) (H : HH) : lop I Q (.rt d) H = Q (.rt d) H := rfl
theorem for_wp {g : Gd} {tg : D → Sd → Option Sd} {body : Sd → HH → RS} {Q : Fl → HH → Prop} (I : List D → Sd → HH → Prop)
    (step : ∀ x r s H, I (x :: r) s H → gdOk g H = true ∧ ∃ s1, tg x s = some s1 ∧ (body s1 H).wp (lop (I r) Q)) (done : ∀ s H, I [] s H → gdOk g H = true ∧ Q (.nx s) H) :
    ∀ (xs : List D) (s : Sd) (H : HH), I xs s H → (forL g tg body xs s H).wp Q
  | [], s, H, h => by
    obtain ⟨h1, h2⟩ := done s H h
    simp only [forL, h1, if_true, swp_go]
    exact h2
  | x :: xs, s, H, h => by
    obtain ⟨h1, s1, h2, h3⟩ := step x xs s H h
    simp only [forL, h1, if_true, h2]
    generalize body s1 H = r at h3
    cases r with
    | go f H1 =>
      cases f with
      | nx s2 => exact for_wp I step done xs s2 H1 h3
      | ct s2 => exact for_wp I step done xs s2 H1 h3
      | bk s2 => exact h3
      | rt d => exact h3
    | ex e s2 H1 => exact h3
    | no => exact h3
theorem while_wp {test : Sd → HH → Rs Bool} {body : Sd → HH → RS} {Q : Fl → HH → Prop} (I : Nat → Sd → HH → Prop)
    (step : ∀ n s H, I n s H → (test s H).wp fun b H1 => if b = true then ∃ m, n = m + 1 ∧ (body s H1).wp (lop (I m) Q) else Q (.nx s) H1) :
    ∀ (fuel n : Nat) (s : Sd) (H : HH), n < fuel → I n s H → (whileL test body fuel s H).wp Q
  | 0, n, s, H, hl, _ => absurd hl (Nat.not_lt_zero _)
  | fuel + 1, n, s, H, hl, h => by
    have z := step n s H h
    unfold whileL
    generalize test s H = r at z
    cases r with
    | no => exact z
    | ex e H1 => exact z
    | ok b H1 =>
      cases b with
      | false => simpa using z
      | true =>
        simp only [wp_ok, if_true] at z
        obtain ⟨m, rfl, z⟩ := z
        dsimp only
        generalize body s H1 = r at z
        cases r with
        | go f H2 =>
          cases f with
          | nx s2 => exact while_wp I step fuel m s2 H2 (by omega) z
          | ct s2 => exact while_wp I step fuel m s2 H2 (by omega) z
          | bk s2 => exact z
          | rt d => exact z
        | ex e s2 H2 => exact z
        | no => exact z
theorem lc_wp {g : Gd} {tg : D → Sd → Option Sd} {test : Sd → HH → Rs Bool} {elt : Sd → HH → Rs D} {s : Sd} {Q : List D → HH → Prop} (I : List D → List D → HH → Prop)
    (step : ∀ x r acc H, I (x :: r) acc H → gdOk g H = true ∧ ∃ s1, tg x s = some s1 ∧ (test s1 H).wp fun b H2 => if b = true then (elt s1 H2).wp fun d H3 => acc.length < lim ∧ I r (acc ++ [d]) H3 else I r acc H2) (done : ∀ acc H, I [] acc H → gdOk g H = true ∧ Q acc H) :
    ∀ (xs acc : List D) (H : HH), I xs acc H → (lcL g tg test elt s xs acc H).wp Q
  | [], acc, H, h => by
    obtain ⟨h1, h2⟩ := done acc H h
    simp only [lcL, h1, if_true, wp_ok]
    exact h2
  | x :: xs, acc, H, h => by
    obtain ⟨h1, s1, h2, h3⟩ := step x xs acc H h
    simp only [lcL, h1, if_true, h2, wp_bindN]
    refine wp_mono h3 fun b H2 z => ?_
    cases b with
    | false => simp only [Bool.false_eq_true, if_false] at z ⊢; exact lc_wp I step done xs acc H2 z
    | true =>
      simp only [if_true, wp_bindN] at z ⊢
      refine wp_mono z fun d H3 ⟨q1, q2⟩ => ?_
      rw [if_pos q1]
      exact lc_wp I step done xs (acc ++ [d]) H3 q2
/-- a comprehension that maps and leaves the heap -/
theorem lc_map {tg : D → Sd → Option Sd} {elt : Sd → HH → Rs D} {s : Sd} {H : HH} {g : Gd} (f : D → D) (hg : gdOk g H = true) : ∀ (xs acc : List D), (∀ x ∈ xs, ∃ s1, tg x s = some s1 ∧ elt s1 H = .ok (f x) H) → acc.length + xs.length ≤ lim →
    lcL g tg (fun _ H => .ok true H) elt s xs acc H = .ok (acc ++ xs.map f) H
  | [], acc, _, _ => by simp [lcL, hg]
  | x :: xs, acc, h, hl => by
    obtain ⟨s1, h1, h2⟩ := h x List.mem_cons_self
    rw [List.length_cons] at hl
    simp only [lcL, hg, if_true, h1, Rs.bindN_ok, h2, if_pos (show acc.length < lim by omega)]
    rw [lc_map f hg xs (acc ++ [f x]) (fun y hy => h y (List.mem_cons_of_mem _ hy)) (by rw [List.length_append]; simp; omega)]
    simp
theorem pcall_wp {c : Cfg} {f : Nat} {kw : List Nat} {ds zs l : List D} {H : HH} {Q : D → HH → Prop} (h1 : permL (ds ++ zs ++ c.dfl f) kw = some l) (h2 : noRefs l = true)
    (h3 : (c.call f l []).wp fun d H1 => ∃ e, (if noRef d = true then some d else frzD H1 100000 d) = some e ∧ Q e H) : (pcallE c f kw ds zs H).wp Q := by
  unfold pcallE
  rw [h1]
  dsimp only
  unfold pcallD
  rw [if_pos h2]
  generalize c.call f l [] = r at h3
  cases r with
  | no => exact h3
  | ex e H1 => exact False.elim h3
  | ok d H1 =>
    obtain ⟨e, h4, h5⟩ := h3
    dsimp only
    by_cases hd : noRef d = true
    · rw [if_pos hd] at h4 ⊢
      cases h4
      exact h5
    · rw [if_neg hd] at h4 ⊢
      rw [h4]
      exact h5
theorem call_wp {c : Cfg} {f : Nat} {kw : List Nat} {ds zs l : List D} {H : HH} {Q : D → HH → Prop} (h1 : permL (ds ++ zs ++ c.dfl f) kw = some l) (h3 : (c.call f l H).wp Q) : (callD c f kw ds zs H).wp Q := by
  unfold callD
  rw [h1]
  exact h3
theorem run_wp {f : Fd} {c : Cfg} {ds : List D} {H : HH} {Q : D → HH → Prop} (hl : ds.length = f.params.length) (h : (evSs c f.body (startD f ds) H).wp fun fl H1 => match fl with
    | .nx _ => Q .non H1
    | .rt d => Q d H1
    | _ => False) : (runB f c ds H).wp Q := by
  unfold runB
  rw [if_pos hl]
  generalize evSs c f.body (startD f ds) H = r at h
  cases r with
  | go fl H1 => cases fl <;> exact h
  | ex e s H1 => exact h
  | no => exact h
mutual
def wt : D → Nat
  | .int i => i.natAbs.log2 + 3
  | .str x => 10 * x.length + 2
  | .tup xs => wts xs + 3
  | .lv xs => wts xs + 3
  | _ => 6
def wts : List D → Nat
  | [] => 0
  | x :: xs => wt x + 2 + wts xs
end
theorem textFrom_le : ∀ (ts : List Str) (k : Nat) (acc : Str), (textFrom k acc ts).length ≤ acc.length + piled ts
  | [], k, acc => by show acc.length ≤ _; omega
  | t :: r, k, acc => by
    have h := textFrom_le r (k + 1) (acc ++ (if k > 0 then ", " else "" : String) ++ t)
    have e : (acc ++ (if k > 0 then ", " else "" : String) ++ t).length ≤ acc.length + 2 + t.length := by
      rw [strLen_append, strLen_append]
      have : (((if k > 0 then ", " else "" : String)) : Str).length ≤ 2 := by
        split
        · decide
        · decide
      omega
    show (textFrom (k + 1) _ r).length ≤ _
    rw [piled_cons]
    omega
theorem listText_le (ts : List Str) : (listText ts).length ≤ piled ts + 3 := by
  have h := textFrom_le ts 0 "["
  unfold listText
  rw [strLen_append]
  have e1 : (("[" : String) : Str).length = 1 := rfl
  have e2 : (("]" : String) : Str).length = 1 := rfl
  rw [e1] at h
  rw [e2]
  omega
theorem tupleText_le (ts : List Str) : (tupleText ts).length ≤ piled ts + 3 := by
  unfold tupleText
  rw [strLen_append, strLen_append]
  have e1 : (("(" : String) : Str).length = 1 := rfl
  have e2 : (((if ts.length == 1 then ",)" else ")" : String)) : Str).length ≤ 2 := by split <;> decide
  have e3 : (Str.join ", " ts).length ≤ piled ts := by
    cases ts with
    | nil => decide
    | cons t r =>
      have := join_length_add (t :: r) (by simp)
      omega
  rw [e1]
  omega
mutual
theorem shown_wt : ∀ d : D, plainD d = true → okS d = true → (toPy d).showable = true → (toPy d).shown.length ≤ wt d
  | .non, _, _, _ => by simp only [toPy, PyData.shown, wt]; decide
  | .bl b, _, _, _ => by cases b <;> (simp only [toPy, PyData.shown, wt]; decide)
  | .int i, _, _, h => by
    simp only [toPy, PyData.shown, wt]
    have := int_text_length_le (a := i) (k := i.natAbs.log2 + 1) (by omega) (by omega)
    have e : (Str.ofString (toString i)).length = (toString i).length := by
      rw [Str.ofString_eq_toList]
      show (List.map Char.toNat (toString i).toList).toArray.size = _
      simp [String.length_toList]
    show (Str.ofString (toString i)).length ≤ _
    omega
  | .str x, _, o, _ => by
    simp only [toPy, PyData.shown, wt]
    unfold okS at o
    have := StrLaws.reprText_len (⟨x.toArray⟩ : Str) (fun c hc => by
      have z := List.all_eq_true.mp o c (by simpa using hc)
      have z : c < 0x110000 := by simpa using z
      omega)
    have e : (⟨x.toArray⟩ : Str).length = x.length := str_len x
    omega
  | .tup xs, p, o, s => by
    unfold plainD at p; unfold okS at o
    simp only [toPy, PyData.showable] at s
    simp only [toPy, PyData.shown, wt]
    exact Nat.le_trans (tupleText_le _) (Nat.add_le_add_right (showns_wt xs p o s) 3)
  | .lv xs, p, o, s => by
    unfold plainD at p; unfold okS at o
    simp only [toPy, PyData.showable] at s
    simp only [toPy, PyData.shown, wt]
    exact Nat.le_trans (listText_le _) (Nat.add_le_add_right (showns_wt xs p o s) 3)
  | .fz xs, p, _, _ => by unfold plainD at p; cases p
  | .dv _ _, p, _, _ => by unfold plainD at p; cases p
  | .sv _, p, _, _ => by unfold plainD at p; cases p
  | .ref _, p, _, _ => by unfold plainD at p; cases p
  | .cls _, p, _, _ => by unfold plainD at p; cases p
  | .ty _, p, _, _ => by unfold plainD at p; cases p
theorem showns_wt : ∀ ds : List D, plainDs ds = true → okSs ds = true → PyData.showableAll (toPys ds) = true → piled (PyData.shownAll (toPys ds)) ≤ wts ds
  | [], _, _, _ => by simp only [toPys, PyData.shownAll, wts]; exact Nat.le_refl _
  | d :: ds, p, o, s => by
    unfold plainDs at p; unfold okSs at o
    rw [Bool.and_eq_true] at p o
    simp only [toPys, PyData.showableAll, Bool.and_eq_true] at s
    have h1 := shown_wt d p.1 o.1 s.1
    have h2 := showns_wt ds p.2 o.2 s.2
    simp only [toPys, PyData.shownAll, wts, piled_cons]
    omega
end
end DI
namespace DI
open PySem
/-- an option's value, then on -/
def ow {A : Type} (o : Option A) (Q : A → HH → Prop) (H : HH) : Prop := match o with
  | some a => Q a H
  | none => False
@[simp] theorem ow_some {A : Type} (a : A) (Q : A → HH → Prop) (H : HH) : ow (some a) Q H = Q a H := rfl
@[simp] theorem ow_none {A : Type} (Q : A → HH → Prop) (H : HH) : ow (none : Option A) Q H = False := rfl
theorem ow_if {A : Type} {p : Prop} [Decidable p] {a : A} {Q : A → HH → Prop} {H : HH} (h : p) (q : Q a H) : ow (if p then some a else none) Q H := by rw [if_pos h]; exact q
theorem wp_ow {A : Type} (o : Option A) (H : HH) (Q : A → HH → Prop) : (Rs.ofO o H).wp Q = ow o Q H := by cases o <;> rfl
theorem wp_owm {A B : Type} (f : A → B) (o : Option A) (H : HH) (Q : B → HH → Prop) : (Rs.ofO (o.map f) H).wp Q = ow o (fun a H => Q (f a) H) H := by cases o <;> rfl
/-- .. f of it -/
def km {A B : Type} (f : A → B) (Q : B → HH → Prop) : A → HH → Prop := fun a H => Q (f a) H
@[simp] theorem km_ {A B : Type} (f : A → B) (Q : B → HH → Prop) (a : A) (H : HH) : km f Q a H = Q (f a) H := rfl
/-- a premise, then on -/
def pw {A : Type} (p : Prop) (Q : A → HH → Prop) (a : A) (H : HH) : Prop := p ∧ Q a H
@[simp] theorem pw_ {A : Type} (p : Prop) (Q : A → HH → Prop) (a : A) (H : HH) : pw p Q a H = (p ∧ Q a H) := rfl
section
variable {c : Cfg} {s : Sd} {H : HH} {Q : D → HH → Prop} {B : Bool → HH → Prop} {L : List D → HH → Prop} {O : Option Int → HH → Prop} {F : Fl → HH → Prop} {J : List D × Gd → HH → Prop}
@[simp] theorem v_non : viewD H .non = .non := rfl
@[simp] theorem v_bl (b : Bool) : viewD H (.bl b) = .bl b := rfl
@[simp] theorem v_int (i : Int) : viewD H (.int i) = .int i := rfl
@[simp] theorem v_str (x : List Nat) : viewD H (.str x) = .str x := rfl
@[simp] theorem v_tup (x : List D) : viewD H (.tup x) = .tup x := rfl
@[simp] theorem v_lv (x : List D) : viewD H (.lv x) = .lv x := rfl
@[simp] theorem v_fz (x : List D) : viewD H (.fz x) = .fz x := rfl
theorem v_ref {r : Nat} {xs : List D} (h : H[r]? = some (.lst xs)) : viewD H (.ref r) = .lv xs := by simp only [viewD, h]
@[simp] theorem w_loc (i : Nat) : (evE c (.loc i) s H).wp Q = ow (s[i]?.bind id) Q H := by
  rw [evE]
  cases h : s[i]? with
  | none => rfl
  | some o => cases o <;> rfl
@[simp] theorem w_cst (d : D) : (evE c (.cst d) s H).wp Q = Q d H := by rw [evE]; rfl
@[simp] theorem w_glb (g : Nat) : (evE c (.glb g) s H).wp Q = ow c.consts[g]? Q H := by
  rw [evE]
  cases h : c.consts[g]? <;> rfl
def k_tup (Q : D → HH → Prop) : List D → HH → Prop := fun ds H => ds.length ≤ lim ∧ Q (.tup ds) H
@[simp] theorem k_tup_ (Q : D → HH → Prop) (ds : List D) (H : HH) : k_tup Q ds H = (ds.length ≤ lim ∧ Q (.tup ds) H) := rfl
@[simp] theorem w_tup (es : Es) : (evE c (.tup es) s H).wp Q = (evEs c es s H).wp (k_tup Q) := by
  rw [evE, wp_bind]; congr 1; funext ds H1; by_cases h : ds.length ≤ lim <;> simp [h]
def k_lst (Q : D → HH → Prop) : List D → HH → Prop := fun ds H => ds.length ≤ lim ∧ Q (.lv ds) H
@[simp] theorem k_lst_ (Q : D → HH → Prop) (ds : List D) (H : HH) : k_lst Q ds H = (ds.length ≤ lim ∧ Q (.lv ds) H) := rfl
@[simp] theorem w_lst (es : Es) : (evE c (.lst es) s H).wp Q = (evEs c es s H).wp (k_lst Q) := by
  rw [evE, wp_bind]; congr 1; funext ds H1; by_cases h : ds.length ≤ lim <;> simp [h]
def k_binR2 (x : D) (Q : D → HH → Prop) : D → HH → Prop := fun y H => (addR (viewD H x) (viewD H y) H).wp Q
@[simp] theorem k_binR2_ (x : D) (Q : D → HH → Prop) (y : D) (H : HH) : k_binR2 x Q y H = (addR (viewD H x) (viewD H y) H).wp Q := rfl
def k_binR1 (c : Cfg) (s : Sd) (b : E) (Q : D → HH → Prop) : D → HH → Prop := fun x H => (evE c b s H).wp (k_binR2 x Q)
@[simp] theorem k_binR1_ (c : Cfg) (s : Sd) (b : E) (Q : D → HH → Prop) (x : D) (H : HH) : k_binR1 c s b Q x H = ((evE c b s H).wp (k_binR2 x Q)) := rfl
@[simp] theorem w_binR (a b : E) : (evE c (.binR a b) s H).wp Q = (evE c a s H).wp (k_binR1 c s b Q) := by
  rw [evE]; simp only [wp_bind]; congr 1
@[simp] theorem addR_lv (xs ys : List D) (H : HH) (Q : D → HH → Prop) : (addR (.lv xs) (.lv ys) H).wp Q = (xs.length + ys.length ≤ lim ∧ Q (.ref H.length) (H ++ [.lst (xs ++ ys)])) := by
  unfold addR
  dsimp only
  split
  · rename_i h; simp [h]
  · rename_i h; simp [h, Rs.wp]
def k_lstR (Q : D → HH → Prop) : List D → HH → Prop := fun ds H => ds.length ≤ lim ∧ Q (.ref H.length) (H ++ [.lst ds])
@[simp] theorem k_lstR_ (Q : D → HH → Prop) (ds : List D) (H : HH) : k_lstR Q ds H = (ds.length ≤ lim ∧ Q (.ref H.length) (H ++ [.lst ds])) := rfl
@[simp] theorem w_lstR (es : Es) : (evE c (.lstR es) s H).wp Q = (evEs c es s H).wp (k_lstR Q) := by
  rw [evE, wp_bind]; congr 1; funext ds H1; by_cases h : ds.length ≤ lim <;> simp [h]
def k_bin2 (o : Operator) (x : D) (Q : D → HH → Prop) : D → HH → Prop := fun y H => ow (binD o (viewD H x) (viewD H y)) Q H
@[simp] theorem k_bin2_ (o : Operator) (x : D) (Q : D → HH → Prop) (y : D) (H : HH) : k_bin2 o x Q y H = (ow (binD o (viewD H x) (viewD H y)) Q H) := rfl
def k_bin1 (c : Cfg) (s : Sd) (o : Operator) (b : E) (Q : D → HH → Prop) : D → HH → Prop := fun x H => (evE c b s H).wp (k_bin2 o x Q)
@[simp] theorem k_bin1_ (c : Cfg) (s : Sd) (o : Operator) (b : E) (Q : D → HH → Prop) (x : D) (H : HH) : k_bin1 c s o b Q x H = ((evE c b s H).wp (k_bin2 o x Q)) := rfl
@[simp] theorem w_bin (o : Operator) (a b : E) : (evE c (.bin o a b) s H).wp Q = (evE c a s H).wp (k_bin1 c s o b Q) := by
  rw [evE]; simp only [wp_bind, wp_ow]; rfl
def k_neg (Q : D → HH → Prop) : D → HH → Prop := fun x H => match x with | .int i => Q (.int (-i)) H | _ => False
@[simp] theorem k_neg_ (Q : D → HH → Prop) (i : Int) (H : HH) : k_neg Q (.int i) H = Q (.int (-i)) H := rfl
@[simp] theorem w_neg (a : E) : (evE c (.neg a) s H).wp Q = (evE c a s H).wp (k_neg Q) := by
  rw [evE, wp_bind]; congr 1; funext x H1; cases x <;> rfl
def nB (b : Bool) : D := .bl (!b)
@[simp] theorem nB_ (b : Bool) : nB b = .bl (!b) := rfl
def k_no (Q : D → HH → Prop) : D → HH → Prop := fun x H => ow (truD (viewD H x)) (km nB Q) H
@[simp] theorem k_no_ (Q : D → HH → Prop) (x : D) (H : HH) : k_no Q x H = (ow (truD (viewD H x)) (km nB Q) H) := rfl
@[simp] theorem w_no (a : E) : (evE c (.no a) s H).wp Q = (evE c a s H).wp (k_no Q) := by
  rw [evE]; simp only [wp_bind, wp_owm]; rfl
def k_cmp2 (o : CmpOp) (x : D) (B : Bool → HH → Prop) : D → HH → Prop := fun y H => ow (cmpD o (viewD H x) (viewD H y)) B H
@[simp] theorem k_cmp2_ (o : CmpOp) (x : D) (B : Bool → HH → Prop) (y : D) (H : HH) : k_cmp2 o x B y H = (ow (cmpD o (viewD H x) (viewD H y)) B H) := rfl
def k_cmp1 (c : Cfg) (s : Sd) (o : CmpOp) (b : E) (B : Bool → HH → Prop) : D → HH → Prop := fun x H => (evE c b s H).wp (k_cmp2 o x B)
@[simp] theorem k_cmp1_ (c : Cfg) (s : Sd) (o : CmpOp) (b : E) (B : Bool → HH → Prop) (x : D) (H : HH) : k_cmp1 c s o b B x H = ((evE c b s H).wp (k_cmp2 o x B)) := rfl
@[simp] theorem w_cmp (o : CmpOp) (a b : E) : (evE c (.cmp o a b) s H).wp Q = (evE c a s H).wp (k_cmp1 c s o b (km .bl Q)) := by
  rw [evE]; simp only [wp_bind, wp_owm]; rfl
@[simp] theorem t_wcmp (o : CmpOp) (a b : E) : (evT c (.cmp o a b) s H).wp B = (evE c a s H).wp (k_cmp1 c s o b B) := by
  rw [evT]; simp only [wp_bind, wp_ow]; rfl
def k_cmpF2 (o : CmpOp) (x : D) (B : Bool → HH → Prop) : D → HH → Prop := fun y H => ow (cmpG H o x y) B H
@[simp] theorem k_cmpF2_ (o : CmpOp) (x : D) (B : Bool → HH → Prop) (y : D) (H : HH) : k_cmpF2 o x B y H = (ow (cmpG H o x y) B H) := rfl
def k_cmpF1 (c : Cfg) (s : Sd) (o : CmpOp) (b : E) (B : Bool → HH → Prop) : D → HH → Prop := fun x H => (evE c b s H).wp (k_cmpF2 o x B)
@[simp] theorem k_cmpF1_ (c : Cfg) (s : Sd) (o : CmpOp) (b : E) (B : Bool → HH → Prop) (x : D) (H : HH) : k_cmpF1 c s o b B x H = ((evE c b s H).wp (k_cmpF2 o x B)) := rfl
@[simp] theorem w_cmpF (o : CmpOp) (a b : E) : (evE c (.cmpF o a b) s H).wp Q = (evE c a s H).wp (k_cmpF1 c s o b (km .bl Q)) := by
  rw [evE]; simp only [wp_bind, wp_owm]; rfl
@[simp] theorem t_wcmpF (o : CmpOp) (a b : E) : (evT c (.cmpF o a b) s H).wp B = (evE c a s H).wp (k_cmpF1 c s o b B) := by
  rw [evT]; simp only [wp_bind, wp_ow]; rfl
def k_ch3 (c : Cfg) (s : Sd) (p : CmpOp) (d : E) (y : D) (B : Bool → HH → Prop) : Bool → HH → Prop := fun k H => if k = true then (evE c d s H).wp (k_cmp2 p y B) else B false H
@[simp] theorem k_ch3_ (c : Cfg) (s : Sd) (p : CmpOp) (d : E) (y : D) (B : Bool → HH → Prop) (k : Bool) (H : HH) : k_ch3 c s p d y B k H = (if k = true then (evE c d s H).wp (k_cmp2 p y B) else B false H) := rfl
def k_ch2 (c : Cfg) (s : Sd) (o : CmpOp) (p : CmpOp) (d : E) (x : D) (B : Bool → HH → Prop) : D → HH → Prop := fun y H => ow (cmpD o (viewD H x) (viewD H y)) (k_ch3 c s p d y B) H
@[simp] theorem k_ch2_ (c : Cfg) (s : Sd) (o : CmpOp) (p : CmpOp) (d : E) (x : D) (B : Bool → HH → Prop) (y : D) (H : HH) : k_ch2 c s o p d x B y H = (ow (cmpD o (viewD H x) (viewD H y)) (k_ch3 c s p d y B) H) := rfl
def k_ch1 (c : Cfg) (s : Sd) (o : CmpOp) (p : CmpOp) (b : E) (d : E) (B : Bool → HH → Prop) : D → HH → Prop := fun x H => (evE c b s H).wp (k_ch2 c s o p d x B)
@[simp] theorem k_ch1_ (c : Cfg) (s : Sd) (o : CmpOp) (p : CmpOp) (b : E) (d : E) (B : Bool → HH → Prop) (x : D) (H : HH) : k_ch1 c s o p b d B x H = ((evE c b s H).wp (k_ch2 c s o p d x B)) := rfl
@[simp] theorem w_cmp2 (o p : CmpOp) (a b d : E) : (evE c (.cmp2 o p a b d) s H).wp Q = (evE c a s H).wp (k_ch1 c s o p b d (km .bl Q)) := by
  rw [evE]; simp only [wp_bind]; congr 1; funext x H1; rw [k_ch1_]; congr 1; funext y H2; rw [k_ch2_]
  cases cmpD o (viewD H2 x) (viewD H2 y) with
  | none => rfl
  | some k =>
    cases k with
    | false => rfl
    | true => simp only [wp_bind, wp_owm, ow_some, k_ch3_, if_true]; rfl
@[simp] theorem t_wcmp2 (o p : CmpOp) (a b d : E) : (evT c (.cmp2 o p a b d) s H).wp B = (evE c a s H).wp (k_ch1 c s o p b d B) := by
  rw [evT]; simp only [wp_bind]; congr 1; funext x H1; rw [k_ch1_]; congr 1; funext y H2; rw [k_ch2_]
  cases cmpD o (viewD H2 x) (viewD H2 y) with
  | none => rfl
  | some k =>
    cases k with
    | false => rfl
    | true => simp only [wp_bind, wp_ow, ow_some, k_ch3_, if_true]; rfl
theorem wp_ite {A : Type} (k : Prop) [Decidable k] (r r0 : Rs A) (P : A → HH → Prop) : (if k then r else r0).wp P = if k then r.wp P else r0.wp P := by split <;> rfl
def k_and2 (c : Cfg) (s : Sd) (b : E) (x : D) (Q : D → HH → Prop) : Bool → HH → Prop := fun k H => if k = true then (evE c b s H).wp Q else Q x H
@[simp] theorem k_and2_ (c : Cfg) (s : Sd) (b : E) (x : D) (Q : D → HH → Prop) (k : Bool) (H : HH) : k_and2 c s b x Q k H = (if k = true then (evE c b s H).wp Q else Q x H) := rfl
def k_and1 (c : Cfg) (s : Sd) (b : E) (Q : D → HH → Prop) : D → HH → Prop := fun x H => ow (truD (viewD H x)) (k_and2 c s b x Q) H
@[simp] theorem k_and1_ (c : Cfg) (s : Sd) (b : E) (Q : D → HH → Prop) (x : D) (H : HH) : k_and1 c s b Q x H = (ow (truD (viewD H x)) (k_and2 c s b x Q) H) := rfl
def k_or2 (c : Cfg) (s : Sd) (b : E) (x : D) (Q : D → HH → Prop) : Bool → HH → Prop := fun k H => if k = true then Q x H else (evE c b s H).wp Q
@[simp] theorem k_or2_ (c : Cfg) (s : Sd) (b : E) (x : D) (Q : D → HH → Prop) (k : Bool) (H : HH) : k_or2 c s b x Q k H = (if k = true then Q x H else (evE c b s H).wp Q) := rfl
def k_or1 (c : Cfg) (s : Sd) (b : E) (Q : D → HH → Prop) : D → HH → Prop := fun x H => ow (truD (viewD H x)) (k_or2 c s b x Q) H
@[simp] theorem k_or1_ (c : Cfg) (s : Sd) (b : E) (Q : D → HH → Prop) (x : D) (H : HH) : k_or1 c s b Q x H = (ow (truD (viewD H x)) (k_or2 c s b x Q) H) := rfl
@[simp] theorem w_and (a b : E) : (evE c (.and a b) s H).wp Q = (evE c a s H).wp (k_and1 c s b Q) := by
  rw [evE]; simp only [wp_bind]; congr 1; funext x H1; rw [k_and1_]
  cases truD (viewD H1 x) with
  | none => rfl
  | some k => cases k <;> rfl
@[simp] theorem w_or (a b : E) : (evE c (.or a b) s H).wp Q = (evE c a s H).wp (k_or1 c s b Q) := by
  rw [evE]; simp only [wp_bind]; congr 1; funext x H1; rw [k_or1_]
  cases truD (viewD H1 x) with
  | none => rfl
  | some k => cases k <;> rfl
def k_ite (c : Cfg) (s : Sd) (a : E) (b : E) (Q : D → HH → Prop) : Bool → HH → Prop := fun k H => if k = true then (evE c a s H).wp Q else (evE c b s H).wp Q
@[simp] theorem k_ite_ (c : Cfg) (s : Sd) (a : E) (b : E) (Q : D → HH → Prop) (k : Bool) (H : HH) : k_ite c s a b Q k H = (if k = true then (evE c a s H).wp Q else (evE c b s H).wp Q) := rfl
@[simp] theorem w_ite (t a b : E) : (evE c (.ite t a b) s H).wp Q = (evT c t s H).wp (k_ite c s a b Q) := by
  rw [evE]; simp only [wp_bind, wp_ite]; rfl
def k_ix2 (x : D) (Q : D → HH → Prop) : D → HH → Prop := fun y H => ow (ixD (viewD H x) y) Q H
@[simp] theorem k_ix2_ (x : D) (Q : D → HH → Prop) (y : D) (H : HH) : k_ix2 x Q y H = (ow (ixD (viewD H x) y) Q H) := rfl
def k_ix1 (c : Cfg) (s : Sd) (b : E) (Q : D → HH → Prop) : D → HH → Prop := fun x H => (evE c b s H).wp (k_ix2 x Q)
@[simp] theorem k_ix1_ (c : Cfg) (s : Sd) (b : E) (Q : D → HH → Prop) (x : D) (H : HH) : k_ix1 c s b Q x H = ((evE c b s H).wp (k_ix2 x Q)) := rfl
@[simp] theorem w_ix (a b : E) : (evE c (.ix a b) s H).wp Q = (evE c a s H).wp (k_ix1 c s b Q) := by
  rw [evE]; simp only [wp_bind, wp_ow]; rfl
def k_sl3 (x : D) (l : Option Int) (Q : D → HH → Prop) : Option Int → HH → Prop := fun h H => ow (slD (viewD H x) l h) Q H
@[simp] theorem k_sl3_ (x : D) (l : Option Int) (Q : D → HH → Prop) (h : Option Int) (H : HH) : k_sl3 x l Q h H = (ow (slD (viewD H x) l h) Q H) := rfl
def k_sl2 (c : Cfg) (s : Sd) (x : D) (hi : OE) (Q : D → HH → Prop) : Option Int → HH → Prop := fun l H => (evO c hi s H).wp (k_sl3 x l Q)
@[simp] theorem k_sl2_ (c : Cfg) (s : Sd) (x : D) (hi : OE) (Q : D → HH → Prop) (l : Option Int) (H : HH) : k_sl2 c s x hi Q l H = ((evO c hi s H).wp (k_sl3 x l Q)) := rfl
def k_sl1 (c : Cfg) (s : Sd) (lo : OE) (hi : OE) (Q : D → HH → Prop) : D → HH → Prop := fun x H => (evO c lo s H).wp (k_sl2 c s x hi Q)
@[simp] theorem k_sl1_ (c : Cfg) (s : Sd) (lo : OE) (hi : OE) (Q : D → HH → Prop) (x : D) (H : HH) : k_sl1 c s lo hi Q x H = ((evO c lo s H).wp (k_sl2 c s x hi Q)) := rfl
@[simp] theorem w_sl (a : E) (lo hi : OE) : (evE c (.sl a lo hi) s H).wp Q = (evE c a s H).wp (k_sl1 c s lo hi Q) := by
  rw [evE]; simp only [wp_bind, wp_ow]; rfl
def revD : D → Option D
  | .lv xs => some (.lv xs.reverse)
  | .fz xs => some (.lv xs.reverse)
  | .str xs => if xs.length ≤ lim then some (.str xs.reverse) else none
  | _ => none
@[simp] theorem rev_lv (xs : List D) : revD (.lv xs) = some (.lv xs.reverse) := rfl
def k_rev (Q : D → HH → Prop) : D → HH → Prop := fun x H => ow (revD (viewD H x)) Q H
@[simp] theorem k_rev_ (Q : D → HH → Prop) (x : D) (H : HH) : k_rev Q x H = (ow (revD (viewD H x)) Q H) := rfl
@[simp] theorem w_rev (a : E) : (evE c (.rev a) s H).wp Q = (evE c a s H).wp (k_rev Q) := by
  rw [evE, wp_bind]; congr 1; funext x H1; rw [k_rev_]; cases viewD H1 x <;> first | rfl | (simp only [revD]; split <;> rfl)
def k_call2 (c : Cfg) (f : Nat) (kw : List Nat) (ds : List D) (Q : D → HH → Prop) : List D → HH → Prop := fun zs H => (callD c f kw ds zs H).wp Q
@[simp] theorem k_call2_ (c : Cfg) (f : Nat) (kw : List Nat) (ds : List D) (Q : D → HH → Prop) (zs : List D) (H : HH) : k_call2 c f kw ds Q zs H = ((callD c f kw ds zs H).wp Q) := rfl
def k_call1 (c : Cfg) (s : Sd) (f : Nat) (kw : List Nat) (ks : Es) (Q : D → HH → Prop) : List D → HH → Prop := fun ds H => (evEs c ks s H).wp (k_call2 c f kw ds Q)
@[simp] theorem k_call1_ (c : Cfg) (s : Sd) (f : Nat) (kw : List Nat) (ks : Es) (Q : D → HH → Prop) (ds : List D) (H : HH) : k_call1 c s f kw ks Q ds H = ((evEs c ks s H).wp (k_call2 c f kw ds Q)) := rfl
@[simp] theorem w_call (f : Nat) (es ks : Es) (kw : List Nat) : (evE c (.call f es ks kw) s H).wp Q = (evEs c es s H).wp (k_call1 c s f kw ks Q) := by
  rw [evE]; simp only [wp_bind]; rfl
def k_pcall2 (c : Cfg) (f : Nat) (kw : List Nat) (ds : List D) (Q : D → HH → Prop) : List D → HH → Prop := fun zs H => (pcallE c f kw ds zs H).wp Q
@[simp] theorem k_pcall2_ (c : Cfg) (f : Nat) (kw : List Nat) (ds : List D) (Q : D → HH → Prop) (zs : List D) (H : HH) : k_pcall2 c f kw ds Q zs H = ((pcallE c f kw ds zs H).wp Q) := rfl
def k_pcall1 (c : Cfg) (s : Sd) (f : Nat) (kw : List Nat) (ks : Es) (Q : D → HH → Prop) : List D → HH → Prop := fun ds H => (evEs c ks s H).wp (k_pcall2 c f kw ds Q)
@[simp] theorem k_pcall1_ (c : Cfg) (s : Sd) (f : Nat) (kw : List Nat) (ks : Es) (Q : D → HH → Prop) (ds : List D) (H : HH) : k_pcall1 c s f kw ks Q ds H = ((evEs c ks s H).wp (k_pcall2 c f kw ds Q)) := rfl
@[simp] theorem w_pcall (f : Nat) (es ks : Es) (kw : List Nat) : (evE c (.pcall f es ks kw) s H).wp Q = (evEs c es s H).wp (k_pcall1 c s f kw ks Q) := by
  rw [evE]; simp only [wp_bind]; rfl
def k_bi (b : BI) (Q : D → HH → Prop) : List D → HH → Prop := fun ds H => ow (biD b (ds.map (viewD H))) Q H
@[simp] theorem k_bi_ (b : BI) (Q : D → HH → Prop) (ds : List D) (H : HH) : k_bi b Q ds H = (ow (biD b (ds.map (viewD H))) Q H) := rfl
@[simp] theorem w_bi (b : BI) (es : Es) : (evE c (.bi b es) s H).wp Q = (evEs c es s H).wp (k_bi b Q) := by
  rw [evE]; simp only [wp_bind, wp_ow]; rfl
def k_mt2 (m : MT) (x : D) (Q : D → HH → Prop) : List D → HH → Prop := fun ds H => (mtE m x ds H).wp Q
@[simp] theorem k_mt2_ (m : MT) (x : D) (Q : D → HH → Prop) (ds : List D) (H : HH) : k_mt2 m x Q ds H = ((mtE m x ds H).wp Q) := rfl
def k_mt1 (c : Cfg) (s : Sd) (m : MT) (es : Es) (Q : D → HH → Prop) : D → HH → Prop := fun x H => rcvOk m (viewD H x) = true ∧ (evEs c es s H).wp (k_mt2 m x Q)
@[simp] theorem k_mt1_ (c : Cfg) (s : Sd) (m : MT) (es : Es) (Q : D → HH → Prop) (x : D) (H : HH) : k_mt1 c s m es Q x H = (rcvOk m (viewD H x) = true ∧ (evEs c es s H).wp (k_mt2 m x Q)) := rfl
@[simp] theorem w_mt (m : MT) (o : E) (es : Es) : (evE c (.mt m o es) s H).wp Q = (evE c o s H).wp (k_mt1 c s m es Q) := by
  rw [evE]; simp only [wp_bind]; congr 1; funext x H1; rw [k_mt1_]
  cases rcvOk m (viewD H1 x) with
  | true => simp; rfl
  | false => simp
def k_isi (n : String) (Q : D → HH → Prop) : D → HH → Prop := fun x H => ow (tyIs n (viewD H x)) (km .bl Q) H
@[simp] theorem k_isi_ (n : String) (Q : D → HH → Prop) (x : D) (H : HH) : k_isi n Q x H = (ow (tyIs n (viewD H x)) (km .bl Q) H) := rfl
@[simp] theorem w_isi (a : E) (n : String) : (evE c (.isi a n) s H).wp Q = (evE c a s H).wp (k_isi n Q) := by
  rw [evE]; simp only [wp_bind, wp_owm]; rfl
def k_lc (c : Cfg) (s : Sd) (own : List Nat) (t : T) (g : OE) (e : E) (Q : D → HH → Prop) : List D × Gd → HH → Prop := fun p H => (lcL p.2 (asT t) (evOT c g) (evE c e) (wipeD s own) p.1 [] H).wp (km .lv Q)
@[simp] theorem k_lc_ (c : Cfg) (s : Sd) (own : List Nat) (t : T) (g : OE) (e : E) (Q : D → HH → Prop) (p : List D × Gd) (H : HH) : k_lc c s own t g e Q p H = ((lcL p.2 (asT t) (evOT c g) (evE c e) (wipeD s own) p.1 [] H).wp (km .lv Q)) := rfl
@[simp] theorem w_lc (own : List Nat) (t : T) (i : I) (g : OE) (e : E) : (evE c (.lc own t i g e) s H).wp Q = (evI c i s H).wp (k_lc c s own t g e Q) := by
  rw [evE]; simp only [wp_bind, wp_ok]; rfl
def k_ref (Q : D → HH → Prop) : List D → HH → Prop := fun ds H => Q (.ref H.length) (H ++ [.lst ds])
@[simp] theorem k_ref_ (Q : D → HH → Prop) (ds : List D) (H : HH) : k_ref Q ds H = Q (.ref H.length) (H ++ [.lst ds]) := rfl
def k_lcR (c : Cfg) (s : Sd) (own : List Nat) (t : T) (g : OE) (e : E) (Q : D → HH → Prop) : List D × Gd → HH → Prop := fun p H => (lcL p.2 (asT t) (evOT c g) (evE c e) (wipeD s own) p.1 [] H).wp (k_ref Q)
@[simp] theorem k_lcR_ (c : Cfg) (s : Sd) (own : List Nat) (t : T) (g : OE) (e : E) (Q : D → HH → Prop) (p : List D × Gd) (H : HH) : k_lcR c s own t g e Q p H = ((lcL p.2 (asT t) (evOT c g) (evE c e) (wipeD s own) p.1 [] H).wp (k_ref Q)) := rfl
@[simp] theorem w_lcR (own : List Nat) (t : T) (i : I) (g : OE) (e : E) : (evE c (.lcR own t i g e) s H).wp Q = (evI c i s H).wp (k_lcR c s own t g e Q) := by
  rw [evE]; simp only [wp_bind]; rfl
def k_cons2 (d : D) (L : List D → HH → Prop) : List D → HH → Prop := fun ds H => L (d :: ds) H
@[simp] theorem k_cons2_ (d : D) (L : List D → HH → Prop) (ds : List D) (H : HH) : k_cons2 d L ds H = (L (d :: ds) H) := rfl
def k_cons1 (c : Cfg) (s : Sd) (r : Es) (L : List D → HH → Prop) : D → HH → Prop := fun d H => (evEs c r s H).wp (k_cons2 d L)
@[simp] theorem k_cons1_ (c : Cfg) (s : Sd) (r : Es) (L : List D → HH → Prop) (d : D) (H : HH) : k_cons1 c s r L d H = ((evEs c r s H).wp (k_cons2 d L)) := rfl
@[simp] theorem w_nil : (evEs c .nil s H).wp L = L [] H := by rw [evEs]; rfl
@[simp] theorem w_cons (e : E) (r : Es) : (evEs c (.cons e r) s H).wp L = (evE c e s H).wp (k_cons1 c s r L) := by
  rw [evEs]; simp only [wp_bind, wp_ok]; rfl
def k_o (O : Option Int → HH → Prop) : D → HH → Prop := fun x H => match x with | .int i => O (some i) H | _ => False
@[simp] theorem k_o_ (O : Option Int → HH → Prop) (i : Int) (H : HH) : k_o O (.int i) H = O (some i) H := rfl
@[simp] theorem o_wno : (evO c .no s H).wp O = O none H := by rw [evO]; rfl
@[simp] theorem o_wyes (e : E) : (evO c (.yes e) s H).wp O = (evE c e s H).wp (k_o O) := by
  rw [evO, wp_bind]; congr 1; funext x H1; cases x <;> rfl
@[simp] theorem ot_no : (evOT c .no s H).wp B = B true H := by rw [evOT]; rfl
@[simp] theorem ot_yes (e : E) : (evOT c (.yes e) s H).wp B = (evT c e s H).wp B := by rw [evOT]
def k_tno (B : Bool → HH → Prop) : Bool → HH → Prop := fun k H => B (!k) H
@[simp] theorem k_tno_ (B : Bool → HH → Prop) (k : Bool) (H : HH) : k_tno B k H = (B (!k) H) := rfl
@[simp] theorem t_wno (a : E) : (evT c (.no a) s H).wp B = (evT c a s H).wp (k_tno B) := by rw [evT]; simp only [wp_bind, wp_ok]; rfl
def k_tand (c : Cfg) (s : Sd) (b : E) (B : Bool → HH → Prop) : Bool → HH → Prop := fun k H => if k = true then (evT c b s H).wp B else B false H
@[simp] theorem k_tand_ (c : Cfg) (s : Sd) (b : E) (B : Bool → HH → Prop) (k : Bool) (H : HH) : k_tand c s b B k H = (if k = true then (evT c b s H).wp B else B false H) := rfl
@[simp] theorem t_wand (a b : E) : (evT c (.and a b) s H).wp B = (evT c a s H).wp (k_tand c s b B) := by
  rw [evT]; simp only [wp_bind, wp_ite, wp_ok]; rfl
def k_tor (c : Cfg) (s : Sd) (b : E) (B : Bool → HH → Prop) : Bool → HH → Prop := fun k H => if k = true then B true H else (evT c b s H).wp B
@[simp] theorem k_tor_ (c : Cfg) (s : Sd) (b : E) (B : Bool → HH → Prop) (k : Bool) (H : HH) : k_tor c s b B k H = (if k = true then B true H else (evT c b s H).wp B) := rfl
@[simp] theorem t_wor (a b : E) : (evT c (.or a b) s H).wp B = (evT c a s H).wp (k_tor c s b B) := by
  rw [evT]; simp only [wp_bind, wp_ite, wp_ok]; rfl
def k_tv (B : Bool → HH → Prop) : D → HH → Prop := fun x H => ow (truD (viewD H x)) B H
@[simp] theorem k_tv_ (B : Bool → HH → Prop) (x : D) (H : HH) : k_tv B x H = (ow (truD (viewD H x)) B H) := rfl
/-- any other test is its value's truth -/
theorem t_wval {d : E} (h : valE d = true) : (evT c d s H).wp B = (evE c d s H).wp (k_tv B) := by
  rw [valE_ok h]; simp only [wp_bind, wp_ow]; rfl
@[simp] theorem t_wloc (i : Nat) : (evT c (.loc i) s H).wp B = (evE c (.loc i) s H).wp (k_tv B) := t_wval rfl
@[simp] theorem t_wix (a b : E) : (evT c (.ix a b) s H).wp B = (evE c (.ix a b) s H).wp (k_tv B) := t_wval rfl
@[simp] theorem t_wsl (a : E) (l h : OE) : (evT c (.sl a l h) s H).wp B = (evE c (.sl a l h) s H).wp (k_tv B) := t_wval rfl
@[simp] theorem t_wcall (f : Nat) (es ks : Es) (kw : List Nat) : (evT c (.call f es ks kw) s H).wp B = (evE c (.call f es ks kw) s H).wp (k_tv B) := t_wval rfl
@[simp] theorem t_wpcall (f : Nat) (es ks : Es) (kw : List Nat) : (evT c (.pcall f es ks kw) s H).wp B = (evE c (.pcall f es ks kw) s H).wp (k_tv B) := t_wval rfl
@[simp] theorem t_wbi (b : BI) (es : Es) : (evT c (.bi b es) s H).wp B = (evE c (.bi b es) s H).wp (k_tv B) := t_wval rfl
@[simp] theorem t_wmt (m : MT) (o : E) (es : Es) : (evT c (.mt m o es) s H).wp B = (evE c (.mt m o es) s H).wp (k_tv B) := t_wval rfl
@[simp] theorem t_wisi (a : E) (n : String) : (evT c (.isi a n) s H).wp B = (evE c (.isi a n) s H).wp (k_tv B) := t_wval rfl
@[simp] theorem t_wbin (o : Operator) (a b : E) : (evT c (.bin o a b) s H).wp B = (evE c (.bin o a b) s H).wp (k_tv B) := t_wval rfl
@[simp] theorem t_wcst (d : D) : (evT c (.cst d) s H).wp B = (evE c (.cst d) s H).wp (k_tv B) := t_wval rfl
@[simp] theorem t_wglb (g : Nat) : (evT c (.glb g) s H).wp B = (evE c (.glb g) s H).wp (k_tv B) := t_wval rfl
@[simp] theorem t_wlst (es : Es) : (evT c (.lst es) s H).wp B = (evE c (.lst es) s H).wp (k_tv B) := t_wval rfl
@[simp] theorem t_wlc (own : List Nat) (t : T) (i : I) (g : OE) (e : E) : (evT c (.lc own t i g e) s H).wp B = (evE c (.lc own t i g e) s H).wp (k_tv B) := t_wval rfl
def k_ival (J : List D × Gd → HH → Prop) : D → HH → Prop := fun x H => ow (itemsD H x) J H
@[simp] theorem k_ival_ (J : List D × Gd → HH → Prop) (x : D) (H : HH) : k_ival J x H = (ow (itemsD H x) J H) := rfl
@[simp] theorem i_wval (e : E) : (evI c (.val e) s H).wp J = (evE c e s H).wp (k_ival J) := by rw [evI]; simp only [wp_bind, wp_ow]; rfl
def mkR (xs : List D) : List D × Gd := (xs, [])
@[simp] theorem mkR_ (xs : List D) : mkR xs = (xs, []) := rfl
def k_irng (J : List D × Gd → HH → Prop) : List D → HH → Prop := fun ds H => ow (rangeD ds) (km mkR J) H
@[simp] theorem k_irng_ (J : List D × Gd → HH → Prop) (ds : List D) (H : HH) : k_irng J ds H = (ow (rangeD ds) (km mkR J) H) := rfl
@[simp] theorem i_wrange (es : Es) : (evI c (.range es) s H).wp J = (evEs c es s H).wp (k_irng J) := by rw [evI]; simp only [wp_bind, wp_owm]; rfl
def mkE (p : List D × Gd) : List D × Gd := (enumD p.1, p.2)
@[simp] theorem mkE_ (p : List D × Gd) : mkE p = (enumD p.1, p.2) := rfl
def k_ienum (J : List D × Gd → HH → Prop) : D → HH → Prop := fun x H => ow (enD H x) (km mkE J) H
@[simp] theorem k_ienum_ (J : List D × Gd → HH → Prop) (x : D) (H : HH) : k_ienum J x H = (ow (enD H x) (km mkE J) H) := rfl
@[simp] theorem i_wenum (e : E) : (evI c (.enum e) s H).wp J = (evE c e s H).wp (k_ienum J) := by rw [evI]; simp only [wp_bind, wp_owm]; rfl
def k_izip2 (x : D) (J : List D × Gd → HH → Prop) : D → HH → Prop := fun y H => ow (zipI H x y) J H
@[simp] theorem k_izip2_ (x : D) (J : List D × Gd → HH → Prop) (y : D) (H : HH) : k_izip2 x J y H = (ow (zipI H x y) J H) := rfl
def k_izip1 (c : Cfg) (s : Sd) (b : E) (J : List D × Gd → HH → Prop) : D → HH → Prop := fun x H => (evE c b s H).wp (k_izip2 x J)
@[simp] theorem k_izip1_ (c : Cfg) (s : Sd) (b : E) (J : List D × Gd → HH → Prop) (x : D) (H : HH) : k_izip1 c s b J x H = ((evE c b s H).wp (k_izip2 x J)) := rfl
@[simp] theorem i_wzip (a b : E) : (evI c (.zip a b) s H).wp J = (evE c a s H).wp (k_izip1 c s b J) := by rw [evI]; simp only [wp_bind, wp_ow]; rfl
def oS (o : Option Sd) (F : Fl → HH → Prop) (H : HH) : Prop := match o with | some s => F (.nx s) H | none => False
@[simp] theorem oS_some (s : Sd) (F : Fl → HH → Prop) (H : HH) : oS (some s) F H = F (.nx s) H := rfl
def k_asg (s : Sd) (t : T) (F : Fl → HH → Prop) : D → HH → Prop := fun d H => oS (asT t d s) F H
@[simp] theorem k_asg_ (s : Sd) (t : T) (F : Fl → HH → Prop) (d : D) (H : HH) : k_asg s t F d H = (oS (asT t d s) F H) := rfl
@[simp] theorem z_asg (t : T) (e : E) : (evS c (.asg t e) s H).wp F = (evE c e s H).wp (k_asg s t F) := by
  rw [evS, swp_st]; congr 1; funext d H1; rw [k_asg_]; cases asT t d s <;> rfl
def k_sub3 (s : Sd) (d : D) (x : D) (F : Fl → HH → Prop) : D → HH → Prop := fun y H => (setE x y d s H).wp F
@[simp] theorem k_sub3_ (s : Sd) (d : D) (x : D) (F : Fl → HH → Prop) (y : D) (H : HH) : k_sub3 s d x F y H = ((setE x y d s H).wp F) := rfl
def k_sub2 (c : Cfg) (s : Sd) (i : E) (d : D) (F : Fl → HH → Prop) : D → HH → Prop := fun x H => (evE c i s H).wp (k_sub3 s d x F)
@[simp] theorem k_sub2_ (c : Cfg) (s : Sd) (i : E) (d : D) (F : Fl → HH → Prop) (x : D) (H : HH) : k_sub2 c s i d F x H = ((evE c i s H).wp (k_sub3 s d x F)) := rfl
def k_sub1 (c : Cfg) (s : Sd) (o : E) (i : E) (F : Fl → HH → Prop) : D → HH → Prop := fun d H => (evE c o s H).wp (k_sub2 c s i d F)
@[simp] theorem k_sub1_ (c : Cfg) (s : Sd) (o : E) (i : E) (F : Fl → HH → Prop) (d : D) (H : HH) : k_sub1 c s o i F d H = ((evE c o s H).wp (k_sub2 c s i d F)) := rfl
@[simp] theorem z_sub (o i e : E) : (evS c (.sub o i e) s H).wp F = (evE c e s H).wp (k_sub1 c s o i F) := by rw [evS]; simp only [swp_st]; rfl
def k_par2 (s : Sd) (i : Nat) (j : Nat) (x : D) (F : Fl → HH → Prop) : D → HH → Prop := fun y H => F (.nx ((s.set i (some x)).set j (some y))) H
@[simp] theorem k_par2_ (s : Sd) (i : Nat) (j : Nat) (x : D) (F : Fl → HH → Prop) (y : D) (H : HH) : k_par2 s i j x F y H = (F (.nx ((s.set i (some x)).set j (some y))) H) := rfl
def k_par1 (c : Cfg) (s : Sd) (i : Nat) (j : Nat) (b : E) (F : Fl → HH → Prop) : D → HH → Prop := fun x H => (evE c b s H).wp (k_par2 s i j x F)
@[simp] theorem k_par1_ (c : Cfg) (s : Sd) (i : Nat) (j : Nat) (b : E) (F : Fl → HH → Prop) (x : D) (H : HH) : k_par1 c s i j b F x H = ((evE c b s H).wp (k_par2 s i j x F)) := rfl
@[simp] theorem z_par (i j : Nat) (a b : E) : (evS c (.par i j a b) s H).wp F = (evE c a s H).wp (k_par1 c s i j b F) := by rw [evS]; simp only [swp_st, swp_go]; rfl
def k_aug3 (s : Sd) (i : Nat) (F : Fl → HH → Prop) : D → HH → Prop := fun z H => F (.nx (s.set i (some z))) H
@[simp] theorem k_aug3_ (s : Sd) (i : Nat) (F : Fl → HH → Prop) (z : D) (H : HH) : k_aug3 s i F z H = (F (.nx (s.set i (some z))) H) := rfl
def k_aug2 (s : Sd) (i : Nat) (o : Operator) (x : D) (F : Fl → HH → Prop) : D → HH → Prop := fun y H => ow (augD H o x y) (k_aug3 s i F) H
@[simp] theorem k_aug2_ (s : Sd) (i : Nat) (o : Operator) (x : D) (F : Fl → HH → Prop) (y : D) (H : HH) : k_aug2 s i o x F y H = (ow (augD H o x y) (k_aug3 s i F) H) := rfl
def k_aug1 (c : Cfg) (s : Sd) (i : Nat) (o : Operator) (e : E) (F : Fl → HH → Prop) : D → HH → Prop := fun x H => (evE c e s H).wp (k_aug2 s i o x F)
@[simp] theorem k_aug1_ (c : Cfg) (s : Sd) (i : Nat) (o : Operator) (e : E) (F : Fl → HH → Prop) (x : D) (H : HH) : k_aug1 c s i o e F x H = ((evE c e s H).wp (k_aug2 s i o x F)) := rfl
@[simp] theorem z_aug (i : Nat) (o : Operator) (e : E) : (evS c (.aug i o e) s H).wp F = ow (s[i]?.bind id) (k_aug1 c s i o e F) H := by
  rw [evS]
  cases s[i]? with
  | none => rfl
  | some q =>
    cases q with
    | none => rfl
    | some x =>
      dsimp only
      rw [swp_st]
      show _ = (evE c e s H).wp (k_aug2 s i o x F)
      congr 1; funext y H1; rw [k_aug2_]
      cases augD H1 o x y <;> rfl
def k_ex (s : Sd) (F : Fl → HH → Prop) : D → HH → Prop := fun _d H => F (.nx s) H
@[simp] theorem k_ex_ (s : Sd) (F : Fl → HH → Prop) (_d : D) (H : HH) : k_ex s F _d H = (F (.nx s) H) := rfl
@[simp] theorem z_ex (e : E) : (evS c (.ex e) s H).wp F = (evE c e s H).wp (k_ex s F) := by rw [evS]; simp only [swp_st, swp_go]; rfl
def k_ret (F : Fl → HH → Prop) : D → HH → Prop := fun d H => F (.rt d) H
@[simp] theorem k_ret_ (F : Fl → HH → Prop) (d : D) (H : HH) : k_ret F d H = (F (.rt d) H) := rfl
@[simp] theorem z_ret (e : E) : (evS c (.ret e) s H).wp F = (evE c e s H).wp (k_ret F) := by rw [evS]; simp only [swp_st, swp_go]; rfl
@[simp] theorem z_retN : (evS c .retN s H).wp F = F (.rt .non) H := by rw [evS]; rfl
theorem swp_ite (k : Prop) [Decidable k] (r r0 : RS) : (if k then r else r0).wp F = if k then r.wp F else r0.wp F := by split <;> rfl
def k_if (c : Cfg) (s : Sd) (a : Ss) (b : Ss) (F : Fl → HH → Prop) : Bool → HH → Prop := fun k H => if k = true then (evSs c a s H).wp F else (evSs c b s H).wp F
@[simp] theorem k_if_ (c : Cfg) (s : Sd) (a : Ss) (b : Ss) (F : Fl → HH → Prop) (k : Bool) (H : HH) : k_if c s a b F k H = (if k = true then (evSs c a s H).wp F else (evSs c b s H).wp F) := rfl
@[simp] theorem z_ite (t : E) (a b : Ss) : (evS c (.ite t a b) s H).wp F = (evT c t s H).wp (k_if c s a b F) := by rw [evS]; simp only [swp_st, swp_ite]; rfl
@[simp] theorem z_whl (t : E) (b : Ss) : (evS c (.whl t b) s H).wp F = (whileL (evT c t) (evSs c b) c.fuel s H).wp F := by rw [evS]
def k_for (c : Cfg) (s : Sd) (t : T) (b : Ss) (F : Fl → HH → Prop) : List D × Gd → HH → Prop := fun p H => (forL p.2 (asT t) (evSs c b) p.1 s H).wp F
@[simp] theorem k_for_ (c : Cfg) (s : Sd) (t : T) (b : Ss) (F : Fl → HH → Prop) (p : List D × Gd) (H : HH) : k_for c s t b F p H = ((forL p.2 (asT t) (evSs c b) p.1 s H).wp F) := rfl
@[simp] theorem z_forr (t : T) (i : I) (b : Ss) : (evS c (.forr t i b) s H).wp F = (evI c i s H).wp (k_for c s t b F) := by rw [evS]; simp only [swp_st]; rfl
@[simp] theorem z_brk : (evS c .brk s H).wp F = F (.bk s) H := by rw [evS]; rfl
@[simp] theorem z_cnt : (evS c .cnt s H).wp F = F (.ct s) H := by rw [evS]; rfl
@[simp] theorem z_pas : (evS c .pas s H).wp F = F (.nx s) H := by rw [evS]; rfl
/-- a def's end -/
def kRun (Q : D → HH → Prop) : Fl → HH → Prop := fun fl H => match fl with
  | .nx _ => Q .non H
  | .rt d => Q d H
  | _ => False
@[simp] theorem kRun_nx (Q : D → HH → Prop) (s : Sd) (H : HH) : kRun Q (.nx s) H = Q .non H := rfl
@[simp] theorem kRun_rt (Q : D → HH → Prop) (d : D) (H : HH) : kRun Q (.rt d) H = Q d H := rfl
theorem run_k {f : Fd} {ds : List D} (hl : ds.length = f.params.length) (h : (evSs c f.body (startD f ds) H).wp (kRun Q)) : (runB f c ds H).wp Q := run_wp hl (swp_mono h fun fl H h => by cases fl <;> exact h)
@[simp] theorem a_nm (i : Nat) (d : D) : asT (.nm i) d s = some (s.set i (some d)) := by rw [asT]
@[simp] theorem a_tp (ts : Ts) (xs : List D) : asT (.tp ts) (.tup xs) s = asTs ts xs s := by rw [asT]
@[simp] theorem a_tpl (ts : Ts) (xs : List D) : asT (.tp ts) (.lv xs) s = asTs ts xs s := by rw [asT]
@[simp] theorem a_nil : asTs .nil [] s = some s := by rw [asTs]
@[simp] theorem a_cons (t : T) (r : Ts) (x : D) (xs : List D) : asTs (.cons t r) (x :: xs) s = (asT t x s).bind (asTs r xs) := by
  rw [asTs]; cases asT t x s <;> rfl
@[simp] theorem a_st (t : T) (r : Ts) (xs : List D) (h : stIx r = none) : asTs (.st t r) xs s = if lenTs r ≤ xs.length then (asT t (.lv (xs.take (xs.length - lenTs r))) s).bind (asTs r (xs.drop (xs.length - lenTs r))) else none := by
  rw [asTs]
  simp only [h, true_and]
  split
  · cases asT t (.lv (xs.take (xs.length - lenTs r))) s <;> rfl
  · rfl
@[simp] theorem a_st0 (t : T) (xs : List D) : asTs (.st t .nil) xs s = asT t (.lv xs) s := by
  rw [asTs]
  simp only [stIx, lenTs, Nat.sub_zero, List.take_length, List.drop_length, Nat.zero_le, and_self, if_true]
  cases asT t (.lv xs) s with
  | none => rfl
  | some s1 => simp
@[simp] theorem wipe_nil : wipeD s [] = s := rfl
@[simp] theorem wipe_cons (v : Nat) (vs : List Nat) : wipeD s (v :: vs) = (wipeD s vs).set v none := rfl
@[simp] theorem b_add (i j : Int) : binD .Add (.int i) (.int j) = some (.int (i + j)) := rfl
@[simp] theorem b_sub (i j : Int) : binD .Sub (.int i) (.int j) = some (.int (i - j)) := rfl
@[simp] theorem b_cat (a b : List D) : binD .Add (.lv a) (.lv b) = if a.length + b.length ≤ lim then some (.lv (a ++ b)) else none := rfl
@[simp] theorem b_catT (a b : List D) : binD .Add (.tup a) (.tup b) = if a.length + b.length ≤ lim then some (.tup (a ++ b)) else none := rfl
theorem b_repS (a : List Nat) {j : Int} (h : smallI (4 * j) = true) (h2 : a.length * j.toNat ≤ lim) : binD .Mult (.str a) (.int j) = some (.str (List.replicate j.toNat a).flatten) := by
  show (if smallI (4 * j) && decide (a.length * j.toNat ≤ lim) then _ else _) = _
  rw [if_pos (by simp [h, h2])]
@[simp] theorem b_catS (a b : List Nat) : binD .Add (.str a) (.str b) = if a.length + b.length ≤ lim then some (.str (a ++ b)) else none := rfl
theorem b_mul {i j : Int} (h : smallI i = true ∨ smallI j = true) : binD .Mult (.int i) (.int j) = some (.int (i * j)) := by
  show (if smallI i || smallI j then _ else _) = _
  rw [if_pos (by simpa using h)]
theorem b_mod {i j : Int} (h : 0 < j) : binD .Mod (.int i) (.int j) = some (.int (i % j)) := if_pos h
theorem b_div {i j : Int} (h : 0 < j) (h2 : j < 1073741824) : binD .FloorDiv (.int i) (.int j) = some (.int (i / j)) := by
  show (if decide (0 < j) && decide (j < 1073741824) then _ else _) = _
  rw [if_pos (by simp [h, h2])]
theorem small_of {i : Int} (h : -(2 ^ 64) < i) (h2 : i < 2 ^ 64) : smallI i = true := by unfold smallI; simp only [decide_eq_true_eq]; exact ⟨h, h2⟩
@[simp] theorem c_lt (i j : Int) : cmpD .Lt (.int i) (.int j) = some (decide (i < j)) := rfl
@[simp] theorem c_le (i j : Int) : cmpD .LtE (.int i) (.int j) = some (decide (i ≤ j)) := rfl
@[simp] theorem c_gt (i j : Int) : cmpD .Gt (.int i) (.int j) = some (decide (j < i)) := rfl
@[simp] theorem c_ge (i j : Int) : cmpD .GtE (.int i) (.int j) = some (decide (j ≤ i)) := rfl
@[simp] theorem c_eqI (i j : Int) : cmpD .Eq (.int i) (.int j) = some (i == j) := by simp [cmpD, eqN, eqO, eqOk, plainD, okS, depthD, eqD]
@[simp] theorem c_neI (i j : Int) : cmpD .NotEq (.int i) (.int j) = some (!(i == j)) := by simp [cmpD, eqO, eqOk, plainD, okS, depthD, eqD]
@[simp] theorem c_eqS (i j : List Nat) : cmpD .Eq (.str i) (.str j) = some (i == j) := rfl
@[simp] theorem c_neS (i j : List Nat) : cmpD .NotEq (.str i) (.str j) = some (!(i == j)) := rfl
theorem e_lv0 (xs : List D) : eqD (.lv xs) (.lv []) = xs.isEmpty := by rw [eqD]; cases xs <;> (unfold eqDs; rfl)
theorem c_eq {x y : D} (h : eqOk x = true) (h2 : eqOk y = true) : cmpD .Eq x y = some (eqD x y) := by
  simp only [cmpD]
  unfold eqN
  split
  · rename_i xs
    rw [e_lv0]
  unfold eqO
  split
  · simp only [eqD]
  · simp [h, h2]
theorem c_ne {x y : D} (h : eqOk x = true) (h2 : eqOk y = true) : cmpD .NotEq x y = some (!eqD x y) := by
  simp only [cmpD]
  unfold eqO
  split
  · simp only [eqD]; rfl
  · simp [h, h2]
@[simp] theorem c_isN (x : D) : cmpD .Is x .non = some (match x with | .non => true | _ => false) := rfl
@[simp] theorem c_notN (x : D) : cmpD .IsNot x .non = some (match x with | .non => false | _ => true) := rfl
@[simp] theorem c_isB (a b : Bool) : cmpD .Is (.bl a) (.bl b) = some (decide (a = b)) := rfl
@[simp] theorem c_notB (a b : Bool) : cmpD .IsNot (.bl a) (.bl b) = some (!decide (a = b)) := rfl
@[simp] theorem c_nin (x y : D) : cmpD .NotIn x y = (inD x y).map (!·) := rfl
@[simp] theorem c_in (x y : D) : cmpD .In x y = inD x y := rfl
@[simp] theorem tr_bl (b : Bool) : truD (.bl b) = some b := rfl
@[simp] theorem tr_non : truD .non = some false := rfl
@[simp] theorem tr_int (i : Int) : truD (.int i) = some (i != 0) := rfl
@[simp] theorem tr_lv (xs : List D) : truD (.lv xs) = some (!xs.isEmpty) := rfl
@[simp] theorem tr_tup (xs : List D) : truD (.tup xs) = some (!xs.isEmpty) := rfl
@[simp] theorem x_lv (xs : List D) (i : Int) : ixD (.lv xs) (.int i) = L2.atI xs i := rfl
@[simp] theorem x_fz (xs : List D) (i : Int) : ixD (.fz xs) (.int i) = L2.atI xs i := rfl
@[simp] theorem x_tup (xs : List D) (i : Int) : ixD (.tup xs) (.int i) = L2.atI xs i := rfl
theorem at_nat {A : Type} {xs : List A} {i : Int} {n : Nat} (h : i = (n : Int)) (hl : n < xs.length) : L2.atI xs i = xs[n]? := by
  subst h
  unfold L2.atI L2.ixN
  rw [if_pos (by omega), if_pos (by omega)]
  simp
@[simp] theorem at_0 {A : Type} (x : A) (xs : List A) : L2.atI (x :: xs) 0 = some x := (at_nat (xs := x :: xs) (n := 0) rfl (by simp)).trans rfl
@[simp] theorem at_1 {A : Type} (x y : A) (xs : List A) : L2.atI (x :: y :: xs) 1 = some y := (at_nat (xs := x :: y :: xs) (n := 1) rfl (by simp)).trans rfl
@[simp] theorem at_2 {A : Type} (x y z : A) (xs : List A) : L2.atI (x :: y :: z :: xs) 2 = some z := (at_nat (xs := x :: y :: z :: xs) (n := 2) rfl (by simp)).trans rfl
theorem at_last {A : Type} (xs : List A) (y : A) : L2.atI (xs ++ [y]) (-1) = some y := by
  unfold L2.atI L2.ixN
  rw [if_neg (by omega), List.length_append, List.length_singleton, if_pos (by omega)]
  have e : (-1 + ((xs.length + 1 : Nat) : Int)).toNat = xs.length := by omega
  show (some _).bind _ = _
  rw [e]
  simp
theorem get_set {r : Nat} {o x : HD} (h : H[r]? = some o) : (H.set r x)[r]? = some x := by
  rw [List.getElem?_set_self (List.getElem?_eq_some_iff.mp h).1]
theorem set_ok {r : Nat} {xs : List D} {k : Int} {j : Nat} {d : D} (h : H[r]? = some (.lst xs)) (hj : L2.ixN xs.length k = some j) : setE (.ref r) (.int k) d s H = .go (.nx s) (H.set r (.lst (xs.set j d))) := by
  unfold setE
  simp only [h, hj]
theorem app_ok {r : Nat} {xs : List D} {d : D} (h : H[r]? = some (.lst xs)) (hl : xs.length < lim) : mtE .append (.ref r) [d] H = .ok .non (H.set r (.lst (xs ++ [d]))) := by
  simp [mtE, isMu, muD, h, hl]
theorem items_ref {r : Nat} {xs : List D} (h : H[r]? = some (.lst xs)) : itemsD H (.ref r) = some (xs, [(r, xs)]) := by simp [itemsD, h]
@[simp] theorem items_lv (xs : List D) : itemsD H (.lv xs) = some (xs, []) := rfl
@[simp] theorem items_fz (xs : List D) : itemsD H (.fz xs) = some (xs, []) := rfl
@[simp] theorem items_tup (xs : List D) : itemsD H (.tup xs) = some (xs, []) := rfl
@[simp] theorem gd_nil : gdOk [] H = true := rfl
theorem gd_one {r : Nat} {xs : List D} (h : H[r]? = some (.lst xs)) : gdOk [(r, xs)] H = true := by simp [gdOk, h, sames_refl]
theorem range1 {j : Int} (h : -(2 ^ 62) ≤ j) (h2 : j < 2 ^ 62) : rangeD [.int j] = some ((List.range j.toNat).map fun (k : Nat) => D.int k) := by
  show (if decide _ && decide _ then _ else _) = _
  rw [if_pos (by rw [Bool.and_eq_true, decide_eq_true_eq, decide_eq_true_eq]; exact ⟨h, h2⟩)]
theorem range2 {i j : Int} (h : -(2 ^ 62) ≤ i) (h2 : i < 2 ^ 62) (h3 : -(2 ^ 62) ≤ j) (h4 : j < 2 ^ 62) : rangeD [.int i, .int j] = some ((List.range (j - i).toNat).map fun (k : Nat) => D.int (i + (k : Nat))) := by
  show (if decide _ && decide _ && decide _ && decide _ then _ else _) = _
  rw [if_pos (by simp only [Bool.and_eq_true, decide_eq_true_eq]; exact ⟨⟨⟨h, h2⟩, h3⟩, h4⟩)]
theorem sm_mod {x n : Int} (h : 0 < n) (h2 : n < 2 ^ 64) : smallI (x % n) = true := small_of (by have := Int.emod_nonneg x (show n ≠ 0 by omega); omega) (by have := Int.emod_lt_of_pos x h; omega)
theorem cut_to {A : Type} (xs : List A) {i : Int} (h : 0 ≤ i) : cutD xs none (some i) = xs.take i.toNat := by
  obtain ⟨n, rfl⟩ := Int.eq_ofNat_of_zero_le h
  unfold cutD
  show (xs.drop 0).take (HT.sIx xs.length xs.length (some (n : Int)) - 0) = _
  rw [HT.sIx_nat, List.drop_zero, Nat.sub_zero, Int.toNat_natCast, List.take_eq_take_iff]
  omega
@[simp] theorem e_tup (xs ys : List D) : eqD (.tup xs) (.tup ys) = eqDs xs ys := by rw [eqD]
@[simp] theorem e_lv (xs ys : List D) : eqD (.lv xs) (.lv ys) = eqDs xs ys := by rw [eqD]
@[simp] theorem e_str (x y : List Nat) : eqD (.str x) (.str y) = (x == y) := by rw [eqD]
@[simp] theorem e_int (x y : Int) : eqD (.int x) (.int y) = (x == y) := by rw [eqD]
@[simp] theorem e_bl (x y : Bool) : eqD (.bl x) (.bl y) = (x == y) := by rw [eqD]
@[simp] theorem e_nil : eqDs [] [] = true := by rw [eqDs]
@[simp] theorem e_cons (x y : D) (xs ys : List D) : eqDs (x :: xs) (y :: ys) = (eqD x y && eqDs xs ys) := by rw [eqDs]
theorem ints_map : ∀ ns : List Int, intsOf (ns.map D.int) = some ns
  | [] => rfl
  | n :: r => by simp [intsOf, ints_map r]
end
end DI
namespace DI
open PySem
section
variable {c : Cfg} {s : Sd} {H : HH} {Q : D → HH → Prop} {B : Bool → HH → Prop} {F : Fl → HH → Prop}
theorem v_dic {r : Nat} {ks vs : List D} (h : H[r]? = some (.dic ks vs)) : viewD H (.ref r) = .dv ks vs := by simp only [viewD, h]
@[simp] theorem v_dv (ks vs : List D) : viewD H (.dv ks vs) = .dv ks vs := rfl
@[simp] theorem w_dnew : (evE c .dnew s H).wp Q = Q (.ref H.length) (H ++ [.dic [] []]) := by rw [evE]; rfl
def k_dg2 (x : D) (Q : D → HH → Prop) : D → HH → Prop := fun y H => ow (dgetD (viewD H x) y) Q H
@[simp] theorem k_dg2_ (x : D) (Q : D → HH → Prop) (y : D) (H : HH) : k_dg2 x Q y H = ow (dgetD (viewD H x) y) Q H := rfl
def k_dg1 (c : Cfg) (s : Sd) (b : E) (Q : D → HH → Prop) : D → HH → Prop := fun x H => (evE c b s H).wp (k_dg2 x Q)
@[simp] theorem k_dg1_ (c : Cfg) (s : Sd) (b : E) (Q : D → HH → Prop) (x : D) (H : HH) : k_dg1 c s b Q x H = (evE c b s H).wp (k_dg2 x Q) := rfl
@[simp] theorem w_dget (a b : E) : (evE c (.dget a b) s H).wp Q = (evE c a s H).wp (k_dg1 c s b Q) := by rw [evE]; simp only [wp_bind, wp_ow]; rfl
def k_dh3 (x y : D) (Q : D → HH → Prop) : D → HH → Prop := fun z H => ow (dget2D (viewD H x) y z) Q H
@[simp] theorem k_dh3_ (x y : D) (Q : D → HH → Prop) (z : D) (H : HH) : k_dh3 x y Q z H = ow (dget2D (viewD H x) y z) Q H := rfl
def k_dh2 (c : Cfg) (s : Sd) (d : E) (x : D) (Q : D → HH → Prop) : D → HH → Prop := fun y H => (evE c d s H).wp (k_dh3 x y Q)
@[simp] theorem k_dh2_ (c : Cfg) (s : Sd) (d : E) (x : D) (Q : D → HH → Prop) (y : D) (H : HH) : k_dh2 c s d x Q y H = (evE c d s H).wp (k_dh3 x y Q) := rfl
def k_dh1 (c : Cfg) (s : Sd) (b d : E) (Q : D → HH → Prop) : D → HH → Prop := fun x H => isDv (viewD H x) = true ∧ (evE c b s H).wp (k_dh2 c s d x Q)
@[simp] theorem k_dh1_ (c : Cfg) (s : Sd) (b d : E) (Q : D → HH → Prop) (x : D) (H : HH) : k_dh1 c s b d Q x H = (isDv (viewD H x) = true ∧ (evE c b s H).wp (k_dh2 c s d x Q)) := rfl
@[simp] theorem w_dget2 (a b d : E) : (evE c (.dget2 a b d) s H).wp Q = (evE c a s H).wp (k_dh1 c s b d Q) := by
  rw [evE]
  simp only [wp_bind]
  congr 1
  funext x H1
  show _ = (isDv (viewD H1 x) = true ∧ _)
  by_cases h : isDv (viewD H1 x) = true
  · rw [if_pos h]
    simp only [wp_bind, wp_ow, h, true_and]
    rfl
  · rw [if_neg h]
    simp [h]
@[simp] theorem isDv_ (ks vs : List D) : isDv (.dv ks vs) = true := rfl
@[simp] theorem keyOk_int (i : Int) : keyOk (.int i) = true := rfl
@[simp] theorem keyOk_str (x : List Nat) : keyOk (.str x) = true := rfl
@[simp] theorem dget_int (ks vs : List D) (i : Int) : dgetD (.dv ks vs) (.int i) = dgetL ks vs (.int i) := rfl
@[simp] theorem dget_str (ks vs : List D) (x : List Nat) : dgetD (.dv ks vs) (.str x) = dgetL ks vs (.str x) := rfl
@[simp] theorem dget2_int (ks vs : List D) (i : Int) (z : D) : dget2D (.dv ks vs) (.int i) z = some ((dgetL ks vs (.int i)).getD z) := rfl
@[simp] theorem dget2_str (ks vs : List D) (x : List Nat) (z : D) : dget2D (.dv ks vs) (.str x) z = some ((dgetL ks vs (.str x)).getD z) := rfl
def k_dp3 (s : Sd) (d x : D) (F : Fl → HH → Prop) : D → HH → Prop := fun y H => (putE x y d s H).wp F
@[simp] theorem k_dp3_ (s : Sd) (d x : D) (F : Fl → HH → Prop) (y : D) (H : HH) : k_dp3 s d x F y H = (putE x y d s H).wp F := rfl
def k_dp2 (c : Cfg) (s : Sd) (i : E) (d : D) (F : Fl → HH → Prop) : D → HH → Prop := fun x H => (evE c i s H).wp (k_dp3 s d x F)
@[simp] theorem k_dp2_ (c : Cfg) (s : Sd) (i : E) (d : D) (F : Fl → HH → Prop) (x : D) (H : HH) : k_dp2 c s i d F x H = (evE c i s H).wp (k_dp3 s d x F) := rfl
def k_dp1 (c : Cfg) (s : Sd) (o i : E) (F : Fl → HH → Prop) : D → HH → Prop := fun d H => (evE c o s H).wp (k_dp2 c s i d F)
@[simp] theorem k_dp1_ (c : Cfg) (s : Sd) (o i : E) (F : Fl → HH → Prop) (d : D) (H : HH) : k_dp1 c s o i F d H = (evE c o s H).wp (k_dp2 c s i d F) := rfl
@[simp] theorem z_dput (o i e : E) : (evS c (.dput o i e) s H).wp F = (evE c e s H).wp (k_dp1 c s o i F) := by rw [evS]; simp only [swp_st]; rfl
theorem put_wp {r : Nat} {ks vs : List D} {y d : D} (h : H[r]? = some (.dic ks vs)) (hk : keyOk y = true) (hl : ks.length < lim) (q : F (.nx s) (H.set r (.dic (dputL ks vs y d).1 (dputL ks vs y d).2))) : (putE (.ref r) y d s H).wp F := by
  unfold putE
  simp only [h]
  rw [if_pos ⟨hk, hl⟩]
  exact q
def k_lr1 (Q : D → HH → Prop) : D → HH → Prop := fun x H => ow (lrgD [x]) Q H
@[simp] theorem k_lr1_ (Q : D → HH → Prop) (x : D) (H : HH) : k_lr1 Q x H = ow (lrgD [x]) Q H := rfl
@[simp] theorem w_lrg1 (a : E) : (evE c (.lrg1 a) s H).wp Q = (evE c a s H).wp (k_lr1 Q) := by rw [evE]; simp only [wp_bind, wp_ow]; rfl
def k_lr3 (x : D) (Q : D → HH → Prop) : D → HH → Prop := fun y H => ow (lrgD [x, y]) Q H
@[simp] theorem k_lr3_ (x : D) (Q : D → HH → Prop) (y : D) (H : HH) : k_lr3 x Q y H = ow (lrgD [x, y]) Q H := rfl
def k_lr2 (c : Cfg) (s : Sd) (b : E) (Q : D → HH → Prop) : D → HH → Prop := fun x H => (evE c b s H).wp (k_lr3 x Q)
@[simp] theorem k_lr2_ (c : Cfg) (s : Sd) (b : E) (Q : D → HH → Prop) (x : D) (H : HH) : k_lr2 c s b Q x H = (evE c b s H).wp (k_lr3 x Q) := rfl
@[simp] theorem w_lrg2 (a b : E) : (evE c (.lrg2 a b) s H).wp Q = (evE c a s H).wp (k_lr2 c s b Q) := by rw [evE]; simp only [wp_bind, wp_ow]; rfl
theorem lrg_one {j : Int} (h : 0 ≤ j) (h2 : j ≤ 16777216) : lrgD [.int j] = some (.lv ((List.range j.toNat).map fun (k : Nat) => D.int (k : Nat))) := by
  unfold lrgD
  rw [range1 (by omega) (by omega)]
  exact if_pos (by rw [List.length_map, List.length_range]; show _ ≤ 16777216; omega)
theorem lrg_two {i j : Int} (h : 0 ≤ i) (h1 : i ≤ 16777216) (h2 : 0 ≤ j) (h3 : j ≤ 16777216) : lrgD [.int i, .int j] = some (.lv ((List.range (j - i).toNat).map fun (k : Nat) => D.int (i + (k : Nat)))) := by
  unfold lrgD
  rw [range2 (by omega) (by omega) (by omega) (by omega)]
  exact if_pos (by rw [List.length_map, List.length_range]; show _ ≤ 16777216; omega)
def k_upk (s : Sd) (t : T) (F : Fl → HH → Prop) : D → HH → Prop := fun d H => oS (asV H t d s) F H
@[simp] theorem k_upk_ (s : Sd) (t : T) (F : Fl → HH → Prop) (d : D) (H : HH) : k_upk s t F d H = (oS (asV H t d s) F H) := rfl
@[simp] theorem z_upk (t : T) (e : E) : (evS c (.upk t e) s H).wp F = (evE c e s H).wp (k_upk s t F) := by
  rw [evS, swp_st]; congr 1; funext d H1; rw [k_upk_]; cases asV H1 t d s <;> rfl
theorem as_v {H : HH} {ts : Ts} {d : D} {xs : List D} (h : viewD H d = .lv xs) : asV H (.tp ts) d s = asTs ts xs s := by unfold asV; simp only [h]
def k_dic (Q : D → HH → Prop) : List D × List D → HH → Prop := fun kv H => Q (.ref H.length) (H ++ [.dic kv.1 kv.2])
@[simp] theorem k_dic_ (Q : D → HH → Prop) (kv : List D × List D) (H : HH) : k_dic Q kv H = Q (.ref H.length) (H ++ [.dic kv.1 kv.2]) := rfl
def k_dc (c : Cfg) (s : Sd) (own : List Nat) (t : T) (g : OE) (ek ev : E) (Q : D → HH → Prop) : List D × Gd → HH → Prop := fun p H => (dcL p.2 (asT t) (evOT c g) (evE c ek) (evE c ev) (wipeD s own) p.1 ([], []) H).wp (k_dic Q)
@[simp] theorem k_dc_ (c : Cfg) (s : Sd) (own : List Nat) (t : T) (g : OE) (ek ev : E) (Q : D → HH → Prop) (p : List D × Gd) (H : HH) : k_dc c s own t g ek ev Q p H = ((dcL p.2 (asT t) (evOT c g) (evE c ek) (evE c ev) (wipeD s own) p.1 ([], []) H).wp (k_dic Q)) := rfl
@[simp] theorem w_dc (own : List Nat) (t : T) (i : I) (g : OE) (ek ev : E) : (evE c (.dc own t i g ek ev) s H).wp Q = (evI c i s H).wp (k_dc c s own t g ek ev Q) := by
  rw [evE]; simp only [wp_bind]; rfl
def k_dctP (Q : D → HH → Prop) : List D → HH → Prop := fun ds H => match ds with
  | [x] => ow (dictPD (viewD H x)) (k_dic Q) H
  | _ => False
@[simp] theorem k_dctP_ (Q : D → HH → Prop) (x : D) (H : HH) : k_dctP Q [x] H = ow (dictPD (viewD H x)) (k_dic Q) H := rfl
@[simp] theorem w_dctP (es : Es) : (evE c (.dctP es) s H).wp Q = (evEs c es s H).wp (k_dctP Q) := by
  rw [evE, wp_bind]; congr 1; funext ds H1
  match ds with
  | [] => rfl
  | _ :: _ :: _ => rfl
  | [x] =>
    show _ = ow (dictPD (viewD H1 x)) (k_dic Q) H1
    cases h : dictPD (viewD H1 x) <;> simp [h]
def k_din2 (y : D) (B : Bool → HH → Prop) : D → HH → Prop := fun x H => ow (dinD (viewD H x) y) B H
@[simp] theorem k_din2_ (y : D) (B : Bool → HH → Prop) (x : D) (H : HH) : k_din2 y B x H = ow (dinD (viewD H x) y) B H := rfl
def k_din1 (c : Cfg) (s : Sd) (b : E) (B : Bool → HH → Prop) : D → HH → Prop := fun y H => (evE c b s H).wp (k_din2 y B)
@[simp] theorem k_din1_ (c : Cfg) (s : Sd) (b : E) (B : Bool → HH → Prop) (y : D) (H : HH) : k_din1 c s b B y H = ((evE c b s H).wp (k_din2 y B)) := rfl
@[simp] theorem w_din (a b : E) : (evE c (.din a b) s H).wp Q = (evE c a s H).wp (k_din1 c s b (km .bl Q)) := by
  rw [evE]; simp only [wp_bind, wp_owm]; rfl
@[simp] theorem t_wdin (a b : E) : (evT c (.din a b) s H).wp B = (evE c a s H).wp (k_din1 c s b B) := by
  rw [evT]; simp only [wp_bind, wp_ow]; rfl
@[simp] theorem din_int (ks vs : List D) (i : Int) : dinD (.dv ks vs) (.int i) = some (dgetL ks vs (.int i)).isSome := rfl
def k_lci (H : HH) (Q : D → HH → Prop) : List D → HH → Prop := fun ds _ => noRefs ds = true ∧ Q (.lv ds) H
theorem lci_wp {own : List Nat} {t : T} {i : Nat} {g : OE} {e : E} {r : Nat} {ks vs : List D} (hs : s[i]? = some (some (.ref r))) (hd : H[r]? = some (.dic ks vs)) (hn : noRefs vs = true)
    (q : (lcL [] (asT t) (evOT c g) (evE c e) (wipeD (norfS s) own) (itmD ks vs) [] []).wp (k_lci H Q)) : (evE c (.lci own t i g e) s H).wp Q := by
  rw [evE]
  unfold lciF
  rw [hs]
  dsimp only
  rw [hd]
  dsimp only
  rw [if_pos hn, wp_bindN]
  refine wp_mono q fun ds H2 h => ?_
  obtain ⟨h1, h2⟩ := h
  rw [if_pos h1]
  exact h2
theorem dc_wp {g : Gd} {tg : D → Sd → Option Sd} {test : Sd → HH → Rs Bool} {ek ev : Sd → HH → Rs D} {s : Sd} {Q : List D × List D → HH → Prop} (I : List D → List D × List D → HH → Prop)
    (step : ∀ x r acc H, I (x :: r) acc H → gdOk g H = true ∧ ∃ s1, tg x s = some s1 ∧ (test s1 H).wp fun b H2 => if b = true then (ek s1 H2).wp fun y H3 => (ev s1 H3).wp fun z H4 => (keyOk y = true ∧ acc.1.length < lim) ∧ I r (dputL acc.1 acc.2 y z) H4 else I r acc H2) (done : ∀ acc H, I [] acc H → gdOk g H = true ∧ Q acc H) :
    ∀ (xs : List D) (acc : List D × List D) (H : HH), I xs acc H → (dcL g tg test ek ev s xs acc H).wp Q
  | [], acc, H, h => by
    obtain ⟨h1, h2⟩ := done acc H h
    simp only [dcL, h1, if_true, wp_ok]
    exact h2
  | x :: xs, acc, H, h => by
    obtain ⟨h1, s1, h2, h3⟩ := step x xs acc H h
    simp only [dcL, h1, if_true, h2, wp_bindN]
    refine wp_mono h3 fun b H2 z => ?_
    cases b with
    | false => simp only [Bool.false_eq_true, if_false] at z ⊢; exact dc_wp I step done xs acc H2 z
    | true =>
      simp only [if_true, wp_bindN] at z ⊢
      refine wp_mono z fun y H3 z => ?_
      refine wp_mono z fun d H4 ⟨q1, q2⟩ => ?_
      rw [if_pos q1]
      exact dc_wp I step done xs _ H4 q2
/-- what a run makes sure of, an exception too -/
def Rs.wpx {A : Type} (r : Rs A) (Q : A → HH → Prop) (X : XV → HH → Prop) : Prop := match r with
  | .ok a H => Q a H
  | .ex e H => X e H
  | .no => False
def RS.wpx (r : RS) (F : Fl → HH → Prop) (X : XV → Sd → HH → Prop) : Prop := match r with
  | .go f H => F f H
  | .ex e s H => X e s H
  | .no => False
theorem wpx_of {A : Type} {r : Rs A} {Q : A → HH → Prop} {X : XV → HH → Prop} (h : r.wp Q) : r.wpx Q X := by cases r <;> first | exact h | exact h.elim
theorem swpx_of {r : RS} {F : Fl → HH → Prop} {X : XV → Sd → HH → Prop} (h : r.wp F) : r.wpx F X := by cases r <;> first | exact h | exact h.elim
theorem wpx_bind {A B : Type} {r : Rs A} {f : A → HH → Rs B} {Q : B → HH → Prop} {X : XV → HH → Prop} (h : r.wpx (fun a H => (f a H).wpx Q X) X) : (r.bind f).wpx Q X := by cases r <;> exact h
theorem swpx_st {A : Type} {r : Rs A} {f : A → HH → RS} {F : Fl → HH → Prop} {X : XV → Sd → HH → Prop} (h : r.wpx (fun a H => (f a H).wpx F X) (fun e H => X e s H)) : (r.st s f).wpx F X := by cases r <;> exact h
theorem swpx_cons {a : S} {r : Ss} {X : XV → Sd → HH → Prop} (h : (evS c a s H).wpx (fun f H1 => match f with | .nx s1 => (evSs c r s1 H1).wpx F X | f => F f H1) X) : (evSs c (.cons a r) s H).wpx F X := by
  rw [evSs]
  cases q : evS c a s H with
  | go f H1 => rw [q] at h; cases f <;> exact h
  | ex e s H => rw [q] at h; exact h
  | no => rw [q] at h; exact h
theorem swpx_ex {e : E} {X : XV → Sd → HH → Prop} (h : (evE c e s H).wpx (fun _ H1 => F (.nx s) H1) (fun x H1 => X x s H1)) : (evS c (.ex e) s H).wpx F X := by rw [evS]; exact swpx_st h
theorem swpx_ret {e : E} {X : XV → Sd → HH → Prop} (h : (evE c e s H).wpx (fun d H1 => F (.rt d) H1) (fun x H1 => X x s H1)) : (evS c (.ret e) s H).wpx F X := by rw [evS]; exact swpx_st h
theorem swpx_asg {t : T} {e : E} {X : XV → Sd → HH → Prop} (h : (evE c e s H).wpx (fun d H1 => oS (asT t d s) F H1) (fun x H1 => X x s H1)) : (evS c (.asg t e) s H).wpx F X := by
  rw [evS]
  refine swpx_st ?_
  revert h
  generalize evE c e s H = r
  intro h
  cases r with
  | ok d H1 =>
    have h : oS (asT t d s) F H1 := h
    show RS.wpx (match asT t d s with | some s2 => .go (.nx s2) H1 | none => .no) F X
    cases q : asT t d s with
    | none => rw [q] at h; exact h.elim
    | some s2 => rw [q] at h; exact h
  | ex x H1 => exact h
  | no => exact h
theorem swpx_rz {k : Nat} {e : E} {X : XV → Sd → HH → Prop} (h : (evE c e s H).wp (fun d H1 => X ⟨.own k, some d⟩ s H1)) : (evS c (.rz k e) s H).wpx F X := by
  rw [evS]
  exact swpx_st (wpx_of h)
theorem swpx_ite {t : E} {a b : Ss} {X : XV → Sd → HH → Prop} (h : (evT c t s H).wp (fun k H1 => if k then (evSs c a s H1).wpx F X else (evSs c b s H1).wpx F X)) : (evS c (.ite t a b) s H).wpx F X := by
  rw [evS]
  refine swpx_st (wpx_of (wp_mono h fun k H1 z => ?_))
  cases k <;> exact z
theorem swp_try {b : Ss} {k i : Nat} {h : D → Ss} (q : (evSs c b s H).wpx F (fun e s1 H1 => (tryH k i (fun d => evSs c (h d)) e s1 H1).wp F)) : (evS c (.tryy b k i h) s H).wp F := by
  rw [evS]
  cases z : evSs c b s H with
  | go f H1 => rw [z] at q; exact q
  | ex e s1 H1 => rw [z] at q; exact q
  | no => rw [z] at q; exact q
/-- how a suite ends -/
def kUn (i : Nat) (F : Fl → HH → Prop) : Fl → HH → Prop := fun f H => match f with
  | .nx s => F (.nx (s.set i none)) H
  | .bk s => F (.bk (s.set i none)) H
  | .ct s => F (.ct (s.set i none)) H
  | .rt d => F (.rt d) H
theorem tryH_wp {k i : Nat} {fh : D → Sd → HH → RS} {d : D} (hi : i < s.length) (h : (fh d (s.set i none) H).wp (kUn i F)) : (tryH k i fh ⟨.own k, some d⟩ s H).wp F := by
  unfold tryH
  dsimp only
  rw [if_pos ⟨rfl, hi⟩]
  revert h
  generalize fh d (s.set i none) H = r
  intro h
  cases r with
  | go f H1 => cases f <;> exact h
  | ex _ _ _ => exact h
  | no => exact h
/-- a call that may raise -/
theorem pcallE_wpx {f : Nat} {kw : List Nat} {ds zs l : List D} {X : XV → HH → Prop} (h1 : permL (ds ++ zs ++ c.dfl f) kw = some l) (h2 : noRefs l = true)
    (h3 : (c.call f l []).wpx (fun d _ => noRef d = true ∧ Q d H) (fun e _ => (∀ d, e.fld = some d → noRef d = true) ∧ X e H)) : (pcallE c f kw ds zs H).wpx Q X := by
  unfold pcallE pcallD
  simp only [h1]
  rw [if_pos h2]
  cases q : c.call f l [] with
  | ok d H1 =>
    rw [q] at h3
    simp only [h3.1, if_true]
    exact h3.2
  | ex e H1 =>
    rw [q] at h3
    obtain ⟨h4, h5⟩ := h3
    dsimp only
    cases z : e.fld with
    | none => exact h5
    | some d => simp only [h4 d z, if_true]; exact h5
  | no => rw [q] at h3; exact h3.elim
theorem w_pcallx {f : Nat} {es ks : Es} {kw : List Nat} {X : XV → HH → Prop} (h : (evEs c es s H).wp fun ds H1 => (evEs c ks s H1).wp fun zs H2 => (pcallE c f kw ds zs H2).wpx Q X) : (evE c (.pcall f es ks kw) s H).wpx Q X := by
  rw [evE]
  exact wpx_bind (wpx_of (wp_mono h fun ds H1 z => wpx_bind (wpx_of z)))
/-- a def's run, an exception too -/
theorem run_wpx {f : Fd} {ds : List D} {X : XV → HH → Prop} (hl : ds.length = f.params.length) (h : (evSs c f.body (startD f ds) H).wpx (fun fl H1 => match fl with
    | .nx _ => Q .non H1
    | .rt d => Q d H1
    | _ => False) fun e _ H1 => X e H1) : (runB f c ds H).wpx Q X := by
  unfold runB
  rw [if_pos hl]
  cases q : evSs c f.body (startD f ds) H with
  | go fl H1 => rw [q] at h; cases fl <;> exact h
  | ex e s H1 => rw [q] at h; exact h
  | no => rw [q] at h; exact h
end
end DI
namespace DI
open PySem
mutual
def ht : D → Nat
  | .tup xs => hts xs + 1
  | .lv xs => hts xs + 1
  | _ => 0
def hts : List D → Nat
  | [] => 0
  | x :: xs => max (ht x) (hts xs) + 1
end
mutual
theorem frz_self (H : HH) : ∀ (d : D) (n : Nat), noRef d = true → ht d < n → frzD H n d = some d
  | _, 0, _, h => absurd h (Nat.not_lt_zero _)
  | .tup xs, n + 1, r, h => by
    unfold noRef at r; unfold ht at h
    simp only [frzD, frzs_self H xs n r (by omega), Option.map_some]
  | .lv xs, n + 1, r, h => by
    unfold noRef at r; unfold ht at h
    simp only [frzD, frzs_self H xs n r (by omega), Option.map_some]
  | .ref _, n + 1, r, _ => by unfold noRef at r; cases r
  | .non, n + 1, _, _ => rfl
  | .bl _, n + 1, _, _ => rfl
  | .int _, n + 1, _, _ => rfl
  | .str _, n + 1, _, _ => rfl
  | .fz xs, n + 1, r, _ => by simp only [frzD, r, if_true]
  | .dv _ _, n + 1, r, _ => by simp only [frzD, r, if_true]
  | .sv _, n + 1, r, _ => by simp only [frzD, r, if_true]
  | .cls _, n + 1, _, _ => rfl
  | .ty _, n + 1, _, _ => rfl
theorem frzs_self (H : HH) : ∀ (ds : List D) (n : Nat), noRefs ds = true → hts ds < n → frzDs H n ds = some ds
  | _, 0, _, h => absurd h (Nat.not_lt_zero _)
  | [], n + 1, _, _ => rfl
  | d :: ds, n + 1, r, h => by
    unfold noRefs at r
    rw [Bool.and_eq_true] at r
    unfold hts at h
    simp only [frzDs, frz_self H d n r.1 (by omega), frzs_self H ds n r.2 (by omega)]
end
theorem frz_ref {H : HH} {r n : Nat} {xs : List D} (h : H[r]? = some (.lst xs)) (hr : noRefs xs = true) (hl : hts xs < n) : frzD H (n + 1) (.ref r) = some (.lv xs) := by
  simp only [frzD, h, frzs_self H xs n hr hl, Option.map_some]
def Pool (r : Nat) (H : HH) : Prop := ∃ a b : Int, H[r]? = some (.lst [.int a, .int b]) ∧ 0 ≤ a ∧ 0 ≤ b
/-- the pool at r goes on, all else stays -/
structure Go (r : Nat) (H H' : HH) : Prop where
  pool : Pool r H'
  len : H.length ≤ H'.length
  keep : ∀ j, j < H.length → j ≠ r → H'[j]? = H[j]?
theorem Go.refl {r : Nat} {H : HH} (h : Pool r H) : Go r H H := ⟨h, Nat.le_refl _, fun _ _ _ => rfl⟩
theorem Go.trans {r : Nat} {H H1 H2 : HH} (a : Go r H H1) (b : Go r H1 H2) : Go r H H2 := ⟨b.pool, Nat.le_trans a.len b.len, fun j h n => (b.keep j (Nat.lt_of_lt_of_le h a.len) n).trans (a.keep j h n)⟩
theorem Go.add {r : Nat} {H : HH} (h : Pool r H) (L : List HD) : Go r H (H ++ L) := by
  obtain ⟨a, b, h1, h2⟩ := h
  have hl := (List.getElem?_eq_some_iff.mp h1).1
  exact ⟨⟨a, b, by rw [List.getElem?_append_left hl]; exact h1, h2⟩, by simp, fun j hj _ => List.getElem?_append_left hj⟩
theorem Pool.lt {r : Nat} {H : HH} (h : Pool r H) : r < H.length := by
  obtain ⟨a, b, h1, _⟩ := h
  exact (List.getElem?_eq_some_iff.mp h1).1
theorem Go.set {r : Nat} {H : HH} {o : HD} {a b : Int} (h : H[r]? = some o) (ha : 0 ≤ a) (hb : 0 ≤ b) : Go r H (H.set r (.lst [.int a, .int b])) :=
  ⟨⟨a, b, get_set h, ha, hb⟩, by simp, fun j _ n => List.getElem?_set_ne (Ne.symm n)⟩
/-- another live object turned -/
theorem Pool.other {r j : Nat} {H : HH} {o : HD} (h : Pool r H) (n : j ≠ r) : Pool r (H.set j o) := by
  obtain ⟨a, b, h1, h2⟩ := h
  exact ⟨a, b, by rw [List.getElem?_set_ne n]; exact h1, h2⟩
def takeFd : Fd := ⟨"_law_take", ["_law_pool_here", "_law_many"], ["_law_pool_here", "_law_many", "_law_found"], [], (.cons (.ite (.cmp .Gt (.ix (.loc 0) (.cst (.int (0)))) (.cst (.int (0)))) (.cons (.asg (.nm 2) (.bin .Mod (.ix (.loc 0) (.cst (.int (0)))) (.loc 1))) (.cons (.sub (.loc 0) (.cst (.int (0))) (.bin .FloorDiv (.ix (.loc 0) (.cst (.int (0)))) (.loc 1))) (.cons (.ret (.loc 2)) .nil))) .nil) (.cons (.sub (.loc 0) (.cst (.int (1))) (.bin .Mod (.bin .Add (.bin .Mult (.ix (.loc 0) (.cst (.int (1)))) (.cst (.int (48271)))) (.cst (.int (11)))) (.cst (.int (2147483647))))) (.cons (.ret (.bin .Mod (.bin .FloorDiv (.bin .Mod (.bin .Mult (.ix (.loc 0) (.cst (.int (1)))) (.ix (.loc 0) (.cst (.int (1))))) (.cst (.int (2147483629)))) (.cst (.int (16)))) (.loc 1))) .nil)))⟩
def poolFd : Fd := ⟨"_law_pool", ["_law_script", "_law_k"], ["_law_script", "_law_k", "_law_cell", "_law_size", "_law_mixed"], [], (.cons (.asg (.nm 2) (.bin .Add (.bin .Mult (.cst (.int (7))) (.bi .sum (.cons (.sl (.loc 0) .no (.yes (.cst (.int (63))))) .nil))) (.loc 1))) (.cons (.ite (.cmp .Lt (.loc 1) (.bi .len (.cons (.loc 0) .nil))) (.cons (.asg (.nm 2) (.ix (.loc 0) (.loc 1))) .nil) .nil) (.cons (.asg (.nm 3) (.bi .abs (.cons (.loc 2) .nil))) (.cons (.asg (.nm 4) (.bin .Mod (.bin .Mult (.bin .Add (.bin .Add (.bin .Add (.bin .Mod (.loc 3) (.cst (.int (2147483629)))) (.bin .Mult (.bin .Mult (.cst (.int (7919))) (.loc 1)) (.loc 1))) (.bin .Mult (.cst (.int (31))) (.loc 1))) (.cst (.int (17)))) (.cst (.int (48271)))) (.cst (.int (2147483647))))) (.cons (.ret (.lstR (.cons (.bin .Mult (.loc 3) (.bi .int (.cons (.cmp .GtE (.loc 3) (.bin .Pow (.cst (.int (10))) (.cst (.int (18))))) .nil))) (.cons (.bin .Mod (.bin .Mult (.loc 4) (.loc 4)) (.cst (.int (2147483629)))) .nil)))) .nil)))))⟩
def oneFd (t : Nat) : Fd := ⟨"_law_one", ["_law_pool_here", "_law_some"], ["_law_pool_here", "_law_some"], [], (.cons (.ret (.ix (.loc 1) (.call t (.cons (.loc 0) (.cons (.bi .len (.cons (.loc 1) .nil)) .nil)) .nil [0, 1]))) .nil)⟩
section
variable {c : Cfg} {H : HH} {r : Nat} {Q : D → HH → Prop}
theorem sm_01 (p : Prop) [Decidable p] : smallI (if p then 1 else 0) = true := by split <;> decide
theorem nn01 (p : Prop) [Decidable p] : (0 : Int) ≤ (if p then 1 else 0) := by split <;> decide
theorem take_wp {m : Int} (h : Pool r H) (hm : 0 < m) (hm2 : m < 1073741824) (q : ∀ t H', 0 ≤ t → t < m → Go r H H' → Q (.int t) H') : (runB takeFd c [.ref r, .int m] H).wp Q := by
  obtain ⟨a, b, h, ha, hb⟩ := h
  refine run_k rfl ?_
  have s0 : ∀ d s, setE (.ref r) (.int 0) d s H = .go (.nx s) (H.set r (.lst [d, .int b])) := fun d s => set_ok (k := 0) (j := 0) h rfl
  have s1 : ∀ d s, setE (.ref r) (.int 1) d s H = .go (.nx s) (H.set r (.lst [.int a, d])) := fun d s => set_ok (k := 1) (j := 1) h rfl
  have v1 : ∀ x y, viewD (H.set r (.lst [x, y])) (.ref r) = .lv [x, y] := fun x y => v_ref (get_set h)
  have hm0 : m ≠ 0 := by omega
  by_cases ca : 0 < a
  · simp (decide := true) [takeFd, startD, v_ref h, v1, s0, s1, b_mod, b_div, b_mul, hm, hm2, ca]
    exact q _ _ (Int.emod_nonneg _ (by omega)) (Int.emod_lt_of_pos _ hm) (.set h (Int.ediv_nonneg ha (by omega)) hb)
  · simp (decide := true) [takeFd, startD, v_ref h, v1, s0, s1, b_mod, b_div, b_mul, sm_mod, hm, hm2, ca]
    exact q _ _ (Int.emod_nonneg _ (by omega)) (Int.emod_lt_of_pos _ hm) (.set h ha (Int.emod_nonneg _ (by omega)))
theorem pool_wp {ns : List Int} {i : Int} (hi : 0 ≤ i) (hi2 : i < 100) (hl : ns.length ≤ 63) (q : ∀ a b, 0 ≤ a → 0 ≤ b → Q (.ref H.length) (H ++ [.lst [.int a, .int b]])) : (runB poolFd c [.fz (ns.map D.int), .int i] H).wp Q := by
  refine run_k rfl ?_
  have e1 : intsOf (cutD (ns.map D.int) none (some 63)) = some ns := by
    rw [cut_to _ (by decide), List.take_of_length_le (by simpa using hl), ints_map]
  have si : smallI i = true := small_of (by omega) (by omega)
  have hp : binD .Pow (.int 10) (.int 18) = some (.int (10 ^ 18)) := by rfl
  have ab : ∀ z : Int, 0 ≤ (if z < 0 then -z else z) := fun z => by split <;> omega
  by_cases cn : i < (ns.length : Int)
  · have e2 : L2.atI (ns.map D.int) i = some (.int ns[i.toNat]!) := by
      obtain ⟨n, rfl⟩ := Int.eq_ofNat_of_zero_le hi
      rw [at_nat (n := n) rfl (by simp; omega)]
      have : n < ns.length := by omega
      simp [this]
    generalize ns[i.toNat]! = z at e2
    simp (decide := true) [poolFd, startD, b_mod, b_div, b_mul, slD, biD, sumD, lenD, intD, absD, e1, e2, cn, si, hp, sm_mod, sm_01]
    exact q _ _ (Int.mul_nonneg (ab z) (nn01 _)) (Int.emod_nonneg _ (by decide))
  · simp (decide := true) [poolFd, startD, b_mod, b_div, b_mul, slD, biD, sumD, lenD, intD, absD, e1, cn, si, hp, sm_mod, sm_01]
    exact q _ _ (Int.mul_nonneg (ab _) (nn01 _)) (Int.emod_nonneg _ (by decide))
theorem one_wp {t : Nat} {xs : List D} {c' : Cfg} (hc : ∀ ds H, c.call t ds H = runB takeFd c' ds H) (hd : c.dfl t = []) (h : Pool r H) (hx : xs ≠ []) (hl : xs.length < 1073741824) (q : ∀ x H', x ∈ xs → Go r H H' → Q x H') : (runB (oneFd t) c [.ref r, .lv xs] H).wp Q := by
  refine run_k rfl ?_
  have h0 : 0 < xs.length := List.length_pos_iff.mpr hx
  simp [oneFd, startD, biD, lenD]
  refine call_wp (l := [.ref r, .int xs.length]) (by rw [hd]; rfl) ?_
  rw [hc]
  refine take_wp h (by omega) (by omega) fun t H' h1 h2 g => ?_
  obtain ⟨n, rfl⟩ := Int.eq_ofNat_of_zero_le h1
  have e : L2.atI xs (n : Int) = some (xs[n]'(by omega)) := by
    rw [at_nat (n := n) rfl (by omega), List.getElem?_eq_getElem (by omega)]
  simp [e]
  exact q _ _ (List.getElem_mem _) g
end
end DI
namespace DI
open PySem
abbrev cfP (P : Prg) (k : Nat) : Cfg := ⟨callN P k, fun g => match (P.fns[g]? : Option Fd) with | some h => h.dfl | none => [], P.consts, P.fuel⟩
theorem stepP {P : Prg} {i : Nat} {fd : Fd} (h : P.fns[i]? = some fd) (k : Nat) (dl : List D) (H : HH) : callN P (k + 1) i dl H = runB fd (cfP P k) dl H := by
  show (match P.fns[i]? with | some fd => _ | none => _) = _
  rw [h] <;> rfl
theorem dflP {P : Prg} {i : Nat} {fd : Fd} (h : P.fns[i]? = some fd) (k : Nat) : (cfP P k).dfl i = fd.dfl := by
  show (match P.fns[i]? with | some h => h.dfl | none => []) = _
  rw [h] <;> rfl
theorem callC {P : Prg} {i k : Nat} {fd : Fd} (h : P.fns[i]? = some fd) {dl zs l : List D} {kw : List Nat} {H : HH} {Q : D → HH → Prop} (hp : permL (dl ++ zs ++ fd.dfl) kw = some l) (q : (runB fd (cfP P k) l H).wp Q) : (callD (cfP P (k + 1)) i kw dl zs H).wp Q := by
  refine call_wp (l := l) (by rw [dflP h]; exact hp) ?_
  show (callN P (k + 1) i l H).wp Q
  rw [stepP h]
  exact q
/-- a pure call whose answer is frozen already -/
theorem pureC {P : Prg} {i k : Nat} {fd : Fd} (h : P.fns[i]? = some fd) {dl zs l : List D} {kw : List Nat} {H : HH} {Q : D → HH → Prop} (hp : permL (dl ++ zs ++ fd.dfl) kw = some l) (hr : noRefs l = true) (q : (runB fd (cfP P k) l []).wp fun d _ => noRef d = true ∧ Q d H) : (pcallE (cfP P (k + 1)) i kw dl zs H).wp Q := by
  refine pcall_wp (l := l) (by rw [dflP h]; exact hp) hr ?_
  show (callN P (k + 1) i l []).wp _
  rw [stepP h]
  exact wp_mono q fun d H1 ⟨h1, h2⟩ => ⟨d, by rw [if_pos h1], h2⟩
theorem takeP {P : Prg} {i k r : Nat} (hi : P.fns[i]? = some takeFd) {H : HH} {m : Int} {Q : D → HH → Prop} (h : Pool r H) (hm : 0 < m) (hm2 : m < 1073741824) (q : ∀ t H', 0 ≤ t → t < m → Go r H H' → Q (.int t) H') : (callD (cfP P (k + 1)) i [0, 1] [.ref r, .int m] [] H).wp Q :=
  callC hi (l := [.ref r, .int m]) rfl (take_wp h hm hm2 q)
theorem oneP {P : Prg} {i t k r : Nat} (hi : P.fns[i]? = some (oneFd t)) (ht : P.fns[t]? = some takeFd) {H : HH} {xs : List D} {Q : D → HH → Prop} (h : Pool r H) (hx : xs ≠ []) (hl : xs.length < 1073741824) (q : ∀ x H', x ∈ xs → Go r H H' → Q x H') : (callD (cfP P (k + 2)) i [0, 1] [.ref r, .lv xs] [] H).wp Q :=
  callC hi (l := [.ref r, .lv xs]) rfl (one_wp (c' := cfP P k) (fun dl H => stepP ht k dl H) (dflP ht _) h hx hl q)
theorem poolP {P : Prg} {i k : Nat} (hi : P.fns[i]? = some poolFd) {H : HH} {ns : List Int} {j : Int} {Q : D → HH → Prop} (h0 : 0 ≤ j) (h1 : j < 100) (hl : ns.length ≤ 63) (q : ∀ a b, 0 ≤ a → 0 ≤ b → Q (.ref H.length) (H ++ [.lst [.int a, .int b]])) : (callD (cfP P (k + 1)) i [0, 1] [.fz (ns.map D.int), .int j] [] H).wp Q :=
  callC hi (l := [.fz (ns.map D.int), .int j]) rfl (pool_wp h0 h1 hl q)
/-- formulas -/
inductive Fm where
  | atom (p a : List Nat)
  | imp (x y : Fm)
  deriving DecidableEq
def Fm.d : Fm → D
  | .atom p a => .tup [.str [97, 116, 111, 109], .str p, .str a]
  | .imp x y => .tup [.str [116, 104, 101, 110], x.d, y.d]
def Fm.dep : Fm → Nat
  | .atom _ _ => 0
  | .imp x y => max x.dep y.dep + 1
def okT (x : List Nat) : Bool := x.all (· < 0x110000) && decide (x.length ≤ 8)
def Fm.good : Fm → Bool
  | .atom p a => okT p && okT a
  | .imp x y => x.good && y.good
theorem d_noRef : ∀ f : Fm, noRef f.d = true
  | .atom _ _ => by simp [Fm.d, noRef, noRefs]
  | .imp x y => by simp [Fm.d, noRef, noRefs, d_noRef x, d_noRef y]
theorem d_plain : ∀ f : Fm, plainD f.d = true
  | .atom _ _ => by simp [Fm.d, plainD, plainDs]
  | .imp x y => by simp [Fm.d, plainD, plainDs, d_plain x, d_plain y]
theorem d_okS : ∀ f : Fm, f.good = true → okS f.d = true
  | .atom p a, h => by
    simp only [Fm.good, okT, Bool.and_eq_true] at h
    simp only [Fm.d, okS, okSs, h.1.1, h.2.1]
    rfl
  | .imp x y, h => by
    simp only [Fm.good, Bool.and_eq_true] at h
    simp only [Fm.d, okS, okSs, d_okS x h.1, d_okS y h.2]
    rfl
theorem d_depth : ∀ f : Fm, depthD f.d = f.dep + 1
  | .atom p a => by simp [Fm.d, depthD, depthDs, Fm.dep]
  | .imp x y => by simp only [Fm.d, depthD, depthDs, d_depth x, d_depth y, Fm.dep]; omega
theorem d_eqOk (f : Fm) (h : f.good = true) (hd : f.dep ≤ 60) : eqOk f.d = true := by
  unfold eqOk
  rw [d_plain, d_okS f h, d_depth]
  simp; omega
theorem d_eq : ∀ f g : Fm, eqD f.d g.d = decide (f = g)
  | .atom p a, .atom q b => by
    simp only [Fm.d, e_tup, e_cons, e_nil, e_str, Bool.and_true, Fm.atom.injEq]
    rw [Bool.eq_iff_iff]; simp
  | .atom p a, .imp x y => by
    simp only [Fm.d, e_tup, e_cons, e_str]
    rw [decide_eq_false (by nofun)]; rfl
  | .imp x y, .atom p a => by
    simp only [Fm.d, e_tup, e_cons, e_str]
    rw [decide_eq_false (by nofun)]; rfl
  | .imp x y, .imp u v => by
    simp only [Fm.d, e_tup, e_cons, e_nil, e_str, Bool.and_true, d_eq x u, d_eq y v, Fm.imp.injEq]
    rw [Bool.eq_iff_iff]; simp
theorem d_show : ∀ f : Fm, (toPy f.d).showable = true
  | .atom p a => by simp [Fm.d, toPy, toPys, PyData.showable, PyData.showableAll]
  | .imp x y => by simp [Fm.d, toPy, toPys, PyData.showable, PyData.showableAll, d_show x, d_show y]
theorem d_wt : ∀ f : Fm, f.good = true → wt f.d + 60 ≤ 400 * 2 ^ f.dep
  | .atom p a, h => by
    simp only [Fm.good, okT, Bool.and_eq_true, decide_eq_true_eq] at h
    simp only [Fm.d, wt, wts, Fm.dep, List.length_cons, List.length_nil]
    omega
  | .imp x y, h => by
    simp only [Fm.good, Bool.and_eq_true] at h
    have h1 := d_wt x h.1
    have h2 := d_wt y h.2
    simp only [Fm.d, wt, wts, Fm.dep, List.length_cons, List.length_nil]
    have p1 : 2 ^ x.dep ≤ 2 ^ max x.dep y.dep := Nat.pow_le_pow_right (by decide) (Nat.le_max_left _ _)
    have p2 : 2 ^ y.dep ≤ 2 ^ max x.dep y.dep := Nat.pow_le_pow_right (by decide) (Nat.le_max_right _ _)
    rw [Nat.pow_succ]
    omega
theorem d_ht : ∀ f : Fm, ht f.d ≤ 4 * f.dep + 4
  | .atom p a => by simp [Fm.d, ht, hts, Fm.dep]
  | .imp x y => by
    have := d_ht x; have := d_ht y
    simp only [Fm.d, ht, hts, Fm.dep]; omega
abbrev ds (l : List Fm) : List D := l.map Fm.d
def allG (n : Nat) (l : List Fm) : Prop := ∀ f ∈ l, f.good = true ∧ f.dep ≤ n
theorem ds_noRef : ∀ l : List Fm, noRefs (ds l) = true
  | [] => rfl
  | f :: l => by simp only [ds, List.map_cons, noRefs, d_noRef, Bool.true_and]; exact ds_noRef l
theorem ds_plain : ∀ l : List Fm, plainDs (ds l) = true
  | [] => rfl
  | f :: l => by simp only [ds, List.map_cons, plainDs, d_plain, Bool.true_and]; exact ds_plain l
theorem ds_okS : ∀ {l : List Fm} {n : Nat}, allG n l → okSs (ds l) = true
  | [], _, _ => rfl
  | f :: l, n, h => by
    simp only [ds, List.map_cons, okSs, d_okS f (h f List.mem_cons_self).1, Bool.true_and]
    exact ds_okS (n := n) fun g hg => h g (List.mem_cons_of_mem _ hg)
theorem ds_depth : ∀ {l : List Fm} {n : Nat}, allG n l → depthDs (ds l) ≤ n + 1
  | [], _, _ => by simp [depthDs]
  | f :: l, n, h => by
    have h1 := ds_depth (l := l) (n := n) fun g hg => h g (List.mem_cons_of_mem _ hg)
    have h2 := (h f List.mem_cons_self).2
    simp only [ds, List.map_cons, depthDs, d_depth] at h1 ⊢
    omega
theorem ds_wt : ∀ {l : List Fm} {n : Nat}, allG n l → wts (ds l) ≤ l.length * (400 * 2 ^ n)
  | [], _, _ => by simp [wts]
  | f :: l, n, h => by
    have h1 := ds_wt (l := l) (n := n) fun g hg => h g (List.mem_cons_of_mem _ hg)
    have h2 := h f List.mem_cons_self
    have h3 := d_wt f h2.1
    have p1 : 2 ^ f.dep ≤ 2 ^ n := Nat.pow_le_pow_right (by decide) h2.2
    simp only [ds, List.map_cons, wts, List.length_cons, Nat.add_mul] at h1 ⊢
    omega
theorem ds_ht : ∀ {l : List Fm} {n : Nat}, allG n l → hts (ds l) ≤ l.length + 4 * n + 4
  | [], _, _ => by simp [hts]
  | f :: l, n, h => by
    have h1 := ds_ht (l := l) (n := n) fun g hg => h g (List.mem_cons_of_mem _ hg)
    have h2 := h f List.mem_cons_self
    have h3 := d_ht f
    simp only [ds, List.map_cons, hts, List.length_cons] at h1 ⊢
    omega
theorem ds_eqOk {l : List Fm} {n : Nat} (h : allG n l) (hn : n ≤ 60) : eqOk (.lv (ds l)) = true := by
  have := ds_depth h
  unfold eqOk
  simp only [plainD, okS, depthD, ds_plain, ds_okS h, Bool.true_and, decide_eq_true_eq]
  exact decide_eq_true (show depthDs (ds l) + 1 ≤ 64 by omega)
theorem ds_eq : ∀ l m : List Fm, eqDs (ds l) (ds m) = decide (l = m)
  | [], [] => rfl
  | [], _ :: _ => rfl
  | _ :: _, [] => rfl
  | f :: l, g :: m => by
    simp only [ds, List.map_cons, e_cons, d_eq]
    rw [show eqDs (l.map Fm.d) (m.map Fm.d) = decide (l = m) from ds_eq l m]
    rw [Bool.eq_iff_iff]; simp
theorem ds_showOk {l : List Fm} {n : Nat} (h : allG n l) (hn : n ≤ 10) (hl : l.length ≤ 20) : showOk (.lv (ds l)) = true := by
  have h1 := ds_depth h
  have sh : ∀ l : List Fm, PyData.showableAll (toPys (ds l)) = true := fun l => by
    induction l with
    | nil => simp [toPys, PyData.showableAll]
    | cons f l ih => simp only [ds, List.map_cons, toPys, PyData.showableAll, d_show, Bool.true_and]; exact ih
  have s1 : (toPy (.lv (ds l))).showable = true := by simp only [toPy, PyData.showable]; exact sh l
  have h2 := shown_wt (.lv (ds l)) (by unfold plainD; exact ds_plain l) (by unfold okS; exact ds_okS h) s1
  have h3 := ds_wt h
  have h4 : l.length * (400 * 2 ^ n) ≤ 20 * (400 * 2 ^ 10) := Nat.mul_le_mul hl (Nat.mul_le_mul_left _ (Nat.pow_le_pow_right (by decide) hn))
  unfold wt at h2
  unfold showOk
  simp only [plainD, depthD, ds_plain, s1, Bool.true_and, Bool.and_eq_true, decide_eq_true_eq]
  refine ⟨decide_eq_true (show depthDs (ds l) + 1 ≤ 64 by omega), ?_⟩
  show _ ≤ 16777216
  omega
theorem mem_any (g : Fm) : ∀ l : List Fm, ((ds l).any fun z => eqD z g.d) = decide (g ∈ l)
  | [] => rfl
  | f :: l => by
    simp only [ds, List.map_cons, List.any_cons, d_eq]
    rw [show ((l.map Fm.d).any fun z => eqD z g.d) = decide (g ∈ l) from mem_any g l, Bool.eq_iff_iff]
    simp only [Bool.or_eq_true, decide_eq_true_eq, List.mem_cons]
    exact ⟨fun h => h.elim (fun e => .inl e.symm) .inr, fun h => h.elim (fun e => .inl e.symm) .inr⟩
theorem lc_mapA {A : Type} {c : Cfg} {tg : D → Sd → Option Sd} {elt : Sd → HH → Rs D} {s : Sd} {H : HH} {Q : List D → HH → Prop} (u v : A → D) : ∀ (xs : List A) (acc : List D), (∀ x ∈ xs, ∃ s1, tg (u x) s = some s1 ∧ ∀ P : D → HH → Prop, P (v x) H → (elt s1 H).wp P) → acc.length + xs.length ≤ lim →
    Q (acc ++ xs.map v) H → (lcL [] tg (evOT c .no) elt s (xs.map u) acc H).wp Q
  | [], acc, _, _, q => by simp only [List.map_nil, lcL, gd_nil, if_true, wp_ok]; simpa using q
  | x :: xs, acc, h, hl, q => by
    obtain ⟨s1, h1, h2⟩ := h x List.mem_cons_self
    rw [List.length_cons] at hl
    simp only [List.map_cons, lcL, gd_nil, if_true, h1, wp_bindN, ot_no]
    refine h2 _ ?_
    rw [if_pos (show acc.length < lim by omega)]
    exact lc_mapA u v xs (acc ++ [v x]) (fun y hy => h y (List.mem_cons_of_mem _ hy)) (by rw [List.length_append]; simp; omega) (by simpa using q)
theorem vfm (f : Fm) (H : HH) : viewD H f.d = f.d := by cases f <;> rfl
def strEs : List (List Nat) → Es
  | [] => .nil
  | x :: r => .cons (.cst (.str x)) (strEs r)
@[simp] theorem w_strEs {c : Cfg} {s : Sd} {H : HH} : ∀ (xs : List (List Nat)) {L : List D → HH → Prop}, (evEs c (strEs xs) s H).wp L = L (xs.map D.str) H
  | [], L => by simp [strEs]
  | x :: r, L => by simp [strEs, w_strEs r]
def madeFd (t o m : Nat) (ps qs : List (List Nat)) : Fd := ⟨"_law_made", ["_law_pool_here", "_law_deep"], ["_law_pool_here", "_law_deep"], [],
  (.cons (.ite (.or (.cmp .Eq (.loc 1) (.cst (.int (0)))) (.cmp .Eq (.call t (.cons (.loc 0) (.cons (.cst (.int (4))) .nil)) .nil [0, 1]) (.cst (.int (0))))) (.cons (.ret (.tup (.cons (.cst (.str [97, 116, 111, 109])) (.cons (.call o (.cons (.loc 0) (.cons (.lst (strEs ps)) .nil)) .nil [0, 1]) (.cons (.call o (.cons (.loc 0) (.cons (.lst (strEs qs)) .nil)) .nil [0, 1]) .nil))))) .nil) .nil) (.cons (.ret (.tup (.cons (.cst (.str [116, 104, 101, 110])) (.cons (.call m (.cons (.loc 0) (.cons (.bin .Sub (.loc 1) (.cst (.int (1)))) .nil)) .nil [0, 1]) (.cons (.call m (.cons (.loc 0) (.cons (.bin .Sub (.loc 1) (.cst (.int (1)))) .nil)) .nil [0, 1]) .nil))))) .nil))⟩
theorem madeP {P : Prg} {t o m r : Nat} {ps qs : List (List Nat)} (ht : P.fns[t]? = some takeFd) (ho : P.fns[o]? = some (oneFd t)) (hm : P.fns[m]? = some (madeFd t o m ps qs))
    (p0 : ps ≠ []) (q0 : qs ≠ []) (pl : ps.length ≤ 100) (ql : qs.length ≤ 100) (pok : ∀ p ∈ ps, okT p = true) (qok : ∀ p ∈ qs, okT p = true) :
    ∀ (n k : Nat) (H : HH) (Q : D → HH → Prop), n + 3 ≤ k → Pool r H → (∀ (f : Fm) H', f.good = true → f.dep ≤ n → Go r H H' → Q f.d H') → (callD (cfP P k) m [0, 1] [.ref r, .int n] [] H).wp Q
  | n, 0, _, _, hk, _, _ => absurd hk (by omega)
  | n, k + 1, H, Q, hk, hp, q => by
    refine callC hm (l := [.ref r, .int n]) rfl ?_
    obtain ⟨j, rfl⟩ : ∃ j, k = j + 2 := ⟨k - 2, by omega⟩
    refine run_k rfl ?_
    have at_ : ∀ H1, Go r H H1 → ∀ F : Fl → HH → Prop, (∀ (f : Fm) H', f.good = true → f.dep ≤ n → Go r H H' → F (.rt f.d) H') → (evSs (cfP P (j + 2)) (.cons (.ret (.tup (.cons (.cst (.str [97, 116, 111, 109])) (.cons (.call o (.cons (.loc 0) (.cons (.lst (strEs ps)) .nil)) .nil [0, 1]) (.cons (.call o (.cons (.loc 0) (.cons (.lst (strEs qs)) .nil)) .nil [0, 1]) .nil))))) .nil) [some (.ref r), some (.int n)] H1).wp F := fun H1 g1 F hF => by
      simp
      refine ⟨by show ps.length ≤ 16777216; omega, oneP ho ht g1.pool (by simpa using p0) (by simp; omega) fun x H2 hx g2 => ?_⟩
      simp
      refine ⟨by show qs.length ≤ 16777216; omega, oneP ho ht g2.pool (by simpa using q0) (by simp; omega) fun y H3 hy g3 => ?_⟩
      simp
      obtain ⟨p, hp, rfl⟩ := List.mem_map.mp hx
      obtain ⟨a, ha, rfl⟩ := List.mem_map.mp hy
      exact ⟨by decide, hF (.atom p a) H3 (by simp [Fm.good, pok p hp, qok a ha]) (Nat.zero_le _) ((g1.trans g2).trans g3)⟩
    simp [madeFd, startD]
    cases n with
    | zero =>
      simp
      have := at_ H (.refl hp) (nxt (cfP P (j + 2)) (.cons (.ret (.tup (.cons (.cst (.str [116, 104, 101, 110])) (.cons (.call m (.cons (.loc 0) (.cons (.bin .Sub (.loc 1) (.cst (.int (1)))) .nil)) .nil [0, 1]) (.cons (.call m (.cons (.loc 0) (.cons (.bin .Sub (.loc 1) (.cst (.int (1)))) .nil)) .nil [0, 1]) .nil))))) .nil) (kRun Q)) (fun f H' a b c => by simpa using q f H' a b c)
      simpa using this
    | succ n =>
      have n0 : ¬ ((n : Int) + 1 = 0) := by omega
      simp [n0]
      refine takeP ht hp (by decide) (by decide) fun x H1 t1 t2 g1 => ?_
      by_cases hx : x = 0
      · subst hx
        simp
        have := at_ H1 g1 (nxt (cfP P (j + 2)) (.cons (.ret (.tup (.cons (.cst (.str [116, 104, 101, 110])) (.cons (.call m (.cons (.loc 0) (.cons (.bin .Sub (.loc 1) (.cst (.int (1)))) .nil)) .nil [0, 1]) (.cons (.call m (.cons (.loc 0) (.cons (.bin .Sub (.loc 1) (.cst (.int (1)))) .nil)) .nil [0, 1]) .nil))))) .nil) (kRun Q)) (fun f H' a b c => by simpa using q f H' a b c)
        simpa using this
      · simp [hx]
        refine madeP ht ho hm p0 q0 pl ql pok qok n (j + 2) H1 _ (by omega) g1.pool fun u H2 hu du g2 => ?_
        simp
        refine madeP ht ho hm p0 q0 pl ql pok qok n (j + 2) H2 _ (by omega) g2.pool fun v H3 hv dv g3 => ?_
        simp
        exact ⟨by decide, q (.imp u v) H3 (by simp [Fm.good, hu, hv]) (by simp only [Fm.dep]; omega) ((g1.trans g2).trans g3)⟩
end DI
namespace DI
open PySem
/-- all stays, more may come -/
structure Kp (H0 H : HH) : Prop where
  len : H0.length ≤ H.length
  same : ∀ j, j < H0.length → H[j]? = H0[j]?
theorem Kp.refl (H : HH) : Kp H H := ⟨Nat.le_refl _, fun _ _ => rfl⟩
theorem Kp.trans {A B C : HH} (a : Kp A B) (b : Kp B C) : Kp A C := ⟨Nat.le_trans a.len b.len, fun j h => (b.same j (Nat.lt_of_lt_of_le h a.len)).trans (a.same j h)⟩
theorem Kp.add {A B : HH} (a : Kp A B) (L : List HD) : Kp A (B ++ L) := ⟨by rw [List.length_append]; have := a.len; omega, fun j h => by rw [List.getElem?_append_left (Nat.lt_of_lt_of_le h a.len)]; exact a.same j h⟩
theorem Kp.set {A B : HH} (a : Kp A B) {j : Nat} (h : A.length ≤ j) (o : HD) : Kp A (B.set j o) := ⟨by rw [List.length_set]; exact a.len, fun i hi => by rw [List.getElem?_set_ne (by omega)]; exact a.same i hi⟩
theorem Kp.get {A B : HH} (a : Kp A B) {j : Nat} {o : HD} (h : A[j]? = some o) : B[j]? = some o := by rw [a.same j (List.getElem?_eq_some_iff.mp h).1]; exact h
theorem get_add {H : HH} {j : Nat} {o : HD} (h : H[j]? = some o) (L : List HD) : (H ++ L)[j]? = some o := by
  rw [List.getElem?_append_left (List.getElem?_eq_some_iff.mp h).1]; exact h
theorem get_new (H : HH) (o : HD) : (H ++ [o])[H.length]? = some o := by simp
theorem Pool.kp {r : Nat} {H H' : HH} (h : Pool r H) (k : Kp H H') : Pool r H' := by
  obtain ⟨a, b, h1, h2⟩ := h
  exact ⟨a, b, k.get h1, h2⟩
theorem Go.kp {r : Nat} {H H1 H2 : HH} (g : Go r H H1) (k : Kp H1 H2) : Go r H H2 := ⟨g.pool.kp k, Nat.le_trans g.len k.len, fun j h n => (k.same j (Nat.lt_of_lt_of_le h g.len)).trans (g.keep j h n)⟩
theorem lc_mapG {A : Type} {c : Cfg} {g : Gd} {tg : D → Sd → Option Sd} {elt : Sd → HH → Rs D} {s : Sd} {H : HH} {Q : List D → HH → Prop} (u v : A → D) (hg : gdOk g H = true) : ∀ (xs : List A) (acc : List D), (∀ x ∈ xs, ∃ s1, tg (u x) s = some s1 ∧ ∀ P : D → HH → Prop, P (v x) H → (elt s1 H).wp P) → acc.length + xs.length ≤ lim →
    Q (acc ++ xs.map v) H → (lcL g tg (evOT c .no) elt s (xs.map u) acc H).wp Q
  | [], acc, _, _, q => by simp only [List.map_nil, lcL, hg, if_true, wp_ok]; simpa using q
  | x :: xs, acc, h, hl, q => by
    obtain ⟨s1, h1, h2⟩ := h x List.mem_cons_self
    rw [List.length_cons] at hl
    simp only [List.map_cons, lcL, hg, if_true, h1, wp_bindN, ot_no]
    refine h2 _ ?_
    rw [if_pos (show acc.length < lim by omega)]
    exact lc_mapG u v hg xs (acc ++ [v x]) (fun y hy => h y (List.mem_cons_of_mem _ hy)) (by rw [List.length_append]; simp; omega) (by simpa using q)
theorem lc_filG {A : Type} {g : Gd} {tg : D → Sd → Option Sd} {test : Sd → HH → Rs Bool} {elt : Sd → HH → Rs D} {s : Sd} {H : HH} {Q : List D → HH → Prop} (u v : A → D) (p : A → Bool) (hg : gdOk g H = true) : ∀ (xs : List A) (acc : List D), (∀ x ∈ xs, ∃ s1, tg (u x) s = some s1 ∧ (∀ P : Bool → HH → Prop, P (p x) H → (test s1 H).wp P) ∧ ∀ P : D → HH → Prop, P (v x) H → (elt s1 H).wp P) → acc.length + xs.length ≤ lim →
    Q (acc ++ (xs.filter p).map v) H → (lcL g tg test elt s (xs.map u) acc H).wp Q
  | [], acc, _, _, q => by simp only [List.map_nil, lcL, hg, if_true, wp_ok]; simpa using q
  | x :: xs, acc, h, hl, q => by
    obtain ⟨s1, h1, h2, h3⟩ := h x List.mem_cons_self
    rw [List.length_cons] at hl
    simp only [List.map_cons, lcL, hg, if_true, h1, wp_bindN]
    refine h2 _ ?_
    cases hp : p x with
    | true =>
      simp only [if_true, wp_bindN]
      refine h3 _ ?_
      rw [if_pos (show acc.length < lim by omega)]
      exact lc_filG u v p hg xs (acc ++ [v x]) (fun y hy => h y (List.mem_cons_of_mem _ hy)) (by rw [List.length_append]; simp; omega) (by simpa [hp] using q)
    | false =>
      simp only [Bool.false_eq_true, if_false]
      exact lc_filG u v p hg xs acc (fun y hy => h y (List.mem_cons_of_mem _ hy)) (by omega) (by simpa [hp] using q)
theorem cut_last {A : Type} (xs : List A) : cutD xs (some (-1)) none = xs.drop (xs.length - 1) := by
  unfold cutD
  have e : HT.sIx xs.length 0 (some (-1)) = xs.length - 1 := by
    show (if (-1 : Int) < 0 then (-1 + (xs.length : Int)).toNat else min (-1 : Int).toNat xs.length) = _
    rw [if_pos (by decide)]; omega
  rw [e, HT.sIx_none]
  exact List.take_of_length_le (by simp)
theorem last_drop {A : Type} (xs : List A) : xs.drop (xs.length - 1) = xs.getLast?.toList := by
  rcases List.eq_nil_or_concat xs with rfl | ⟨L, y, h⟩
  · rfl
  · rw [List.concat_eq_append] at h
    subst h
    simp
theorem cut_from {A : Type} (xs : List A) {i : Int} {j : Nat} (h : i = (j : Nat)) (hj : j ≤ xs.length) : cutD xs (some i) none = xs.drop j := by
  subst h
  unfold cutD
  rw [HT.sIx_nat, HT.sIx_none, Nat.min_eq_left hj]
  exact List.take_of_length_le (by simp)
def cOk (x : List Nat) : Bool := x.all (· < 0x110000)
theorem strs_pl : ∀ ws : List (List Nat), plainDs (ws.map D.str) = true ∧ depthDs (ws.map D.str) ≤ 0
  | [] => ⟨rfl, by simp [depthDs]⟩
  | w :: ws => by
    obtain ⟨a, b⟩ := strs_pl ws
    exact ⟨by simp [plainDs, plainD, a], by simp only [List.map_cons, depthDs, depthD]; omega⟩
theorem strs_okS : ∀ {ws : List (List Nat)}, (∀ w ∈ ws, cOk w = true) → okSs (ws.map D.str) = true
  | [], _ => rfl
  | w :: ws, h => by
    have h1 : w.all (· < 0x110000) = true := h w List.mem_cons_self
    simp only [List.map_cons, okSs, okS, h1, Bool.true_and]
    exact strs_okS fun v hv => h v (List.mem_cons_of_mem _ hv)
theorem strs_ok {ws : List (List Nat)} (h : ∀ w ∈ ws, cOk w = true) : eqOk (.lv (ws.map D.str)) = true := by
  obtain ⟨a, b⟩ := strs_pl ws
  unfold eqOk
  simp only [plainD, okS, depthD, a, strs_okS h, Bool.true_and]
  exact decide_eq_true (by omega)
theorem strs_okT {ws : List (List Nat)} (h : ∀ w ∈ ws, cOk w = true) : eqOk (.tup (ws.map D.str)) = true := by
  obtain ⟨a, b⟩ := strs_pl ws
  unfold eqOk
  simp only [plainD, okS, depthD, a, strs_okS h, Bool.true_and]
  exact decide_eq_true (by omega)
theorem str_ok1 {w : List Nat} (h : cOk w = true) : eqOk (.str w) = true := by
  have h1 : w.all (· < 0x110000) = true := h
  simp [eqOk, plainD, okS, depthD, h1]
theorem eqs_strs : ∀ a b : List (List Nat), eqDs (a.map D.str) (b.map D.str) = decide (a = b)
  | [], [] => rfl
  | [], _ :: _ => rfl
  | _ :: _, [] => rfl
  | x :: a, y :: b => by
    simp only [List.map_cons, e_cons, e_str, eqs_strs a b, List.cons.injEq]
    rw [Bool.eq_iff_iff]; simp
theorem any_strs (w : List Nat) : ∀ l : List (List Nat), ((l.map D.str).any fun z => eqD z (.str w)) = decide (w ∈ l)
  | [] => rfl
  | x :: l => by
    simp only [List.map_cons, List.any_cons, e_str, any_strs w l]
    rw [Bool.eq_iff_iff]
    simp only [Bool.or_eq_true, decide_eq_true_eq, List.mem_cons, beq_iff_eq]
    exact ⟨fun h => h.elim (fun e => .inl e.symm) .inr, fun h => h.elim (fun e => .inl e.symm) .inr⟩
theorem in_strs {w : List Nat} {l : List (List Nat)} (h : cOk w = true) (hl : ∀ x ∈ l, cOk x = true) : inD (.str w) (.lv (l.map D.str)) = some (decide (w ∈ l)) := by
  show (if eqOk (.str w) && eqOk (.lv (l.map D.str)) then _ else _) = _
  rw [if_pos (by rw [str_ok1 h, strs_ok hl]; rfl), any_strs]
theorem flat_strs : ∀ l : List (List Nat), (l.map D.str).all flatD = true
  | [] => rfl
  | x :: l => by simp only [List.map_cons, List.all_cons, flat_strs l]; rfl
theorem in_strsT (w : List Nat) (l : List (List Nat)) : inD (.str w) (.tup (l.map D.str)) = some (decide (w ∈ l)) := by
  show (if flatD (.str w) && (l.map D.str).all flatD then _ else _) = _
  rw [if_pos (by rw [flat_strs]; rfl), any_strs]
theorem hts_strs : ∀ l : List (List Nat), hts (l.map D.str) ≤ l.length
  | [] => by simp [hts]
  | x :: l => by have := hts_strs l; simp only [List.map_cons, hts, DI.ht, List.length_cons]; omega
theorem nr_strs : ∀ l : List (List Nat), noRefs (l.map D.str) = true
  | [] => rfl
  | x :: l => by simp only [List.map_cons, noRefs, noRef, nr_strs l, Bool.and_self]
theorem shows_strs : ∀ l : List (List Nat), PyData.showableAll (toPys (l.map D.str)) = true
  | [] => by simp [toPys, PyData.showableAll]
  | x :: l => by simp only [List.map_cons, toPys, toPy, PyData.showableAll, PyData.showable, shows_strs l, Bool.and_self]
theorem wts_strs {n : Nat} : ∀ {l : List (List Nat)}, (∀ w ∈ l, w.length ≤ n) → wts (l.map D.str) ≤ l.length * (10 * n + 4)
  | [], _ => by simp [wts]
  | x :: l, h => by
    have h1 := wts_strs (l := l) fun y hy => h y (List.mem_cons_of_mem _ hy)
    have h2 := h x List.mem_cons_self
    simp only [List.map_cons, wts, wt, List.length_cons, Nat.add_mul]
    omega
theorem show_strs {l : List (List Nat)} (h : ∀ w ∈ l, w.length ≤ 100 ∧ cOk w = true) (hl : l.length ≤ 1000) : showOk (.lv (l.map D.str)) = true := by
  obtain ⟨a, b⟩ := strs_pl l
  have s1 : (toPy (.lv (l.map D.str))).showable = true := by simp only [toPy, PyData.showable]; exact shows_strs l
  have h2 := shown_wt (.lv (l.map D.str)) (by unfold plainD; exact a) (by unfold okS; exact strs_okS fun w hw => (h w hw).2) s1
  have h3 := wts_strs (n := 100) fun w hw => (h w hw).1
  unfold wt at h2
  unfold showOk
  simp only [plainD, depthD, a, s1, Bool.true_and, Bool.and_eq_true, decide_eq_true_eq]
  refine ⟨decide_eq_true (show depthDs (l.map D.str) + 1 ≤ 64 by omega), ?_⟩
  have : l.length * (10 * 100 + 4) ≤ 1000 * (10 * 100 + 4) := Nat.mul_le_mul_right _ hl
  show _ ≤ 16777216
  omega
theorem len_tup (l : List D) : biD .len [.tup l] = some (.int (l.length : Nat)) := rfl
theorem len_lv (l : List D) : biD .len [.lv l] = some (.int (l.length : Nat)) := rfl
theorem len_str {x : List Nat} (h : x.length ≤ 16777216) : biD .len [.str x] = some (.int (x.length : Nat)) := by
  show (if x.length ≤ lim then some (D.int (x.length : Nat)) else none) = _
  rw [if_pos h]
theorem joinL_app (s : List Nat) : ∀ a b : List (List Nat), a ≠ [] → b ≠ [] → joinL s (a ++ b) = joinL s a ++ s ++ joinL s b
  | [], _, h, _ => absurd rfl h
  | [x], [], _, h => absurd rfl h
  | [x], y :: b, _, _ => by simp [joinL]
  | x :: y :: a, b, _, h => by
    have := joinL_app s (y :: a) b (by simp) h
    show x ++ (s ++ joinL s (y :: (a ++ b))) = _
    have e : y :: (a ++ b) = (y :: a) ++ b := rfl
    rw [e, this]
    simp [joinL]
theorem join_inj (c : Nat) : ∀ a b : List (List Nat), a ≠ [] → b ≠ [] → (∀ x ∈ a, c ∉ x) → (∀ x ∈ b, c ∉ x) → joinL [c] a = joinL [c] b → a = b := by
  have tw : ∀ (x : List Nat) (r : List Nat), c ∉ x → (x ++ c :: r).takeWhile (· != c) = x ∧ (x ++ c :: r).dropWhile (· != c) = c :: r := by
    intro x
    induction x with
    | nil => intro r _; simp
    | cons y x ih =>
      intro r h
      have hy : y ≠ c := fun e => h (by simp [e])
      obtain ⟨h1, h2⟩ := ih r fun e => h (List.mem_cons_of_mem _ e)
      simp [hy, h1, h2]
  have tn : ∀ x : List Nat, c ∉ x → x.takeWhile (· != c) = x ∧ x.dropWhile (· != c) = [] := by
    intro x
    induction x with
    | nil => intro _; simp
    | cons y x ih =>
      intro h
      have hy : y ≠ c := fun e => h (by simp [e])
      obtain ⟨h1, h2⟩ := ih fun e => h (List.mem_cons_of_mem _ e)
      simp [hy, h1, h2]
  intro a
  induction a with
  | nil => intro b h; exact absurd rfl h
  | cons x a ih =>
    intro b _ hb ha hb2 e
    cases b with
    | nil => exact absurd rfl hb
    | cons y b =>
      have hx := ha x List.mem_cons_self
      have hy := hb2 y List.mem_cons_self
      cases a with
      | nil =>
        cases b with
        | nil => simp [joinL] at e; rw [e]
        | cons z b =>
          simp [joinL] at e
          exact absurd (by rw [e]; simp) hx
      | cons u a =>
        cases b with
        | nil =>
          simp [joinL] at e
          exact absurd (by rw [← e]; simp) hy
        | cons z b =>
          have e : x ++ c :: joinL [c] (u :: a) = y ++ c :: joinL [c] (z :: b) := by simpa [joinL] using e
          have h1 := (tw x (joinL [c] (u :: a)) hx)
          have h2 := (tw y (joinL [c] (z :: b)) hy)
          rw [e] at h1
          have exy : y = x := h2.1.symm.trans h1.1
          have er : joinL [c] (u :: a) = joinL [c] (z :: b) := by
            have := h1.2.symm.trans h2.2
            exact (List.cons.inj this).2
          rw [exy, ih (z :: b) (by simp) (by simp) (fun v hv => ha v (List.mem_cons_of_mem _ hv)) (fun v hv => hb2 v (List.mem_cons_of_mem _ hv)) er]
theorem split_ne (x y : Str) : Txt.split x y ≠ [] := by
  unfold Txt.split
  split
  · simp
  · split
    · simp
    · rw [StrLaws.partsBetween_eq]
      obtain ⟨p, r, e⟩ := StrLaws.partsFrom_ne x y.length 0 (Builtin.Str.occurrences x y 0 x.length (x.length + 1))
      rw [e]
      simp
theorem split_join {c : Nat} {ws : List (List Nat)} (h0 : ws ≠ []) (h : ∀ w ∈ ws, c ∉ w) : (Txt.split ⟨(joinL [c] ws).toArray⟩ ⟨[c].toArray⟩).map (fun y => y.cps.toList) = ws := by
  have h1 := StrLaws.join_split ⟨(joinL [c] ws).toArray⟩ ⟨#[c]⟩
  have h2 := StrLaws.split_free ⟨(joinL [c] ws).toArray⟩ c
  have h3 := split_ne ⟨(joinL [c] ws).toArray⟩ ⟨#[c]⟩
  show (Txt.split ⟨(joinL [c] ws).toArray⟩ ⟨#[c]⟩).map (fun y => y.cps.toList) = ws
  generalize Txt.split ⟨(joinL [c] ws).toArray⟩ ⟨#[c]⟩ = S at h1 h2 h3 ⊢
  have e : S = (S.map fun y => y.cps.toList).map fun x => (⟨x.toArray⟩ : Str) := by
    rw [List.map_map]
    have : ((fun x : List Nat => (⟨x.toArray⟩ : Str)) ∘ fun y : Str => y.cps.toList) = id := by funext y; exact str_back y
    rw [this, List.map_id]
  have h4 := SX.join_S [c] (S.map fun y => y.cps.toList)
  have e2 : (S.map fun y => y.cps.toList).map SX.S = S := e.symm
  rw [e2] at h4
  have h5 : Txt.join (⟨#[c]⟩ : Str) S = Str.join ⟨#[c]⟩ S := TL.join_eq _ _
  have h6 : (⟨(joinL [c] (S.map fun y => y.cps.toList)).toArray⟩ : Str) = ⟨(joinL [c] ws).toArray⟩ := by
    rw [← h1, ← h5]
    rw [← joinL_eq]
    exact h4.symm
  have h7 : joinL [c] (S.map fun y => y.cps.toList) = joinL [c] ws := by
    have := congrArg (fun z : Str => z.cps.toList) h6
    simpa using this
  refine join_inj c _ _ (by simpa using h3) h0 (fun x hx => ?_) h h7
  obtain ⟨y, hy, rfl⟩ := List.mem_map.mp hx
  exact h2 y hy
end DI
namespace K04
open PySem PySem.Spec PyProof.Rows L2 DI
def top (i : Nat) : Stmt := PySem.Challenge.pw_pagesofproofs_k04_changes_beside_one_ano.main.body.getD i (.Pass ⟨0, 0, 0, 0⟩)
def T : Tb where
  fns := ["is_number", "is_part", "is_change", "wanted", "makes", "spelt", "grown", "change_by", "changed", "made_of", "behind", "led", "beside", "_law_pool", "_law_take", "_law_text", "_law_parts", "_law_change", "_law_made", "_law_due", "_law_both", "_law_alone", "_law_led", "_law_refused", "law"]
  forms := [(0, 2, [], [0, 1]), (1, 1, [], [0]), (6, 3, [], [0, 1, 2]), (3, 1, [], [0]), (5, 1, [], [0]), (9, 1, [], [0]), (7, 2, [], [0, 1]), (4, 1, [], [0]), (11, 2, ["ahead"], [0, 1, 2]), (14, 2, [], [0, 1]), (16, 2, [], [0, 1]), (19, 2, [], [0, 1]), (12, 2, [], [0, 1]), (13, 2, [], [0, 1]), (15, 2, [], [0, 1]), (20, 3, [], [0, 1, 2]), (17, 2, [], [0, 1]), (21, 3, [], [0, 1, 2]), (22, 3, [], [0, 1, 2]), (23, 2, [], [0, 1]), (8, 2, [], [0, 1]), (10, 2, [], [0, 1]), (2, 1, [], [0])]
  cons := ["WORDS"]
  blts := ["abs", "all", "any", "bool", "int", "isinstance", "len", "list", "max", "min", "range", "str", "sum", "tuple", "zip"]
  live := [(29, 12), (33, 12), (43, 12), (58, 12), (69, 12), (83, 12), (86, 24), (86, 40), (106, 11), (118, 17), (121, 38), (135, 12), (138, 17), (140, 21), (152, 12), (155, 17), (157, 21), (158, 21), (163, 17), (165, 21), (170, 17)]
  imp := [(50, 12), (51, 12), (52, 12), (68, 18), (81, 18), (82, 18), (94, 11), (116, 31), (116, 84), (130, 15), (131, 19), (134, 63), (135, 60), (153, 11), (180, 11), (189, 25), (190, 25), (192, 35), (192, 75), (193, 32), (193, 74), (194, 25), (195, 34), (195, 76), (196, 25), (196, 69)]
  exs := [("NoFit", 0, "wants")]
  xis := []
def N0 : List Str := ["thing", "least"]
def N1 : List Str := ["thing"]
def N2 : List Str := ["thing", "words", "word", "what", "part", "one", "other"]
def N3 : List Str := ["change", "word", "what"]
def N4 : List Str := ["change", "word", "what"]
def N5 : List Str := ["change", "stays", "puts", "word", "what"]
def N6 : List Str := ["parts", "word", "what"]
def N7 : List Str := ["many", "items", "parts", "come", "past", "item"]
def N8 : List Str := ["text", "change", "found", "at", "word", "what"]
def N9 : List Str := ["change", "found", "place", "stays", "puts"]
def N10 : List Str := ["one", "other", "signs", "item"]
def N11 : List Str := ["one", "other", "ahead", "found", "many", "place", "stays", "puts", "past", "texts", "kept", "own", "others"]
def N12 : List Str := ["one", "other"]
def N13 : List Str := ["_law_script", "_law_k", "_law_cell", "_law_size", "_law_mixed"]
def N14 : List Str := ["_law_pool_here", "_law_many", "_law_found"]
def N15 : List Str := ["_law_pool_here", "_law_most", "_law_signs", "_law_turn"]
def N16 : List Str := ["_law_stays", "_law_puts", "_law_found", "_law_place", "_law_word"]
def N17 : List Str := ["_law_pool_here", "_law_many", "_law_way", "_law_stays", "_law_puts", "_law_place"]
def N18 : List Str := ["_law_signs", "_law_stays", "_law_puts", "_law_found", "_law_place"]
def N19 : List Str := ["_law_many", "_law_items", "_law_stays", "_law_puts", "_law_place", "_law_item"]
def N20 : List Str := ["_law_one", "_law_other", "_law_many", "_law_found", "_law_place", "_law_item", "_law_sign"]
def N21 : List Str := ["_law_own", "_law_many", "_law_word", "_law_found", "_law_place", "_law_sign"]
def N22 : List Str := ["_law_ahead", "_law_both_here", "_law_word", "_law_items", "_law_at", "_law_item"]
def N23 : List Str := ["_law_one", "_law_other", "e"]
def N24 : List Str := ["_law_script", "_law_k", "_law_known", "_law_pool_here", "_law_text_here", "_law_many", "_law_both_here", "_law_due_here", "_law_found", "_law_signs", "_law_still", "_law_later", "_law_first", "_law_second", "_law_one", "_law_other", "_law_mine", "_law_theirs", "_law_item", "_law_part"]
def consts : List D := [.tup [.str [107, 101, 101, 112], .str [100, 114, 111, 112], .str [112, 117, 116]]]
def b0 : Ss := (.cons (.ret (.and (.isi (.loc 0) "int") (.and (.no (.isi (.loc 0) "bool")) (.cmp .GtE (.loc 0) (.loc 1))))) .nil)
def b1 : Ss := (.cons (.ite (.or (.no (.isi (.loc 0) "tuple")) (.or (.cmp .NotEq (.bi .len (.cons (.loc 0) .nil)) (.cst (.int (2)))) (.or (.no (.isi (.ix (.loc 0) (.cst (.int (0)))) "str")) (.cmp .NotIn (.ix (.loc 0) (.cst (.int (0)))) (.glb 0))))) (.cons (.ret (.cst (.bl false))) .nil) .nil) (.cons (.ite (.cmp .Eq (.ix (.loc 0) (.cst (.int (0)))) (.cst (.str [112, 117, 116]))) (.cons (.ret (.and (.isi (.ix (.loc 0) (.cst (.int (1)))) "str") (.cmp .NotEq (.ix (.loc 0) (.cst (.int (1)))) (.cst (.str []))))) .nil) .nil) (.cons (.ret (.pcall 0 (.cons (.ix (.loc 0) (.cst (.int (1)))) (.cons (.cst (.int (1))) .nil)) .nil [0, 1])) .nil)))
def b2 : Ss := (.cons (.ite (.or (.no (.isi (.loc 0) "tuple")) (.no (.bi .all (.cons (.lc [4] (.nm 4) (.val (.loc 0)) .no (.pcall 1 (.cons (.loc 4) .nil) .nil [0])) .nil)))) (.cons (.ret (.cst (.bl false))) .nil) .nil) (.cons (.asg (.nm 1) (.lc [2, 3] (.tp (.cons (.nm 2) (.cons (.nm 3) .nil))) (.val (.loc 0)) .no (.loc 2))) (.cons (.ret (.no (.bi .any (.cons (.lc [5, 6] (.tp (.cons (.nm 5) (.cons (.nm 6) .nil))) (.zip (.loc 1) (.sl (.loc 1) (.yes (.cst (.int (1)))) .no)) .no (.or (.cmp .Eq (.loc 5) (.loc 6)) (.cmp .Eq (.tup (.cons (.loc 5) (.cons (.loc 6) .nil))) (.tup (.cons (.cst (.str [100, 114, 111, 112])) (.cons (.cst (.str [112, 117, 116])) .nil)))))) .nil)))) .nil)))
def b3 : Ss := (.cons (.ret (.bi .sum (.cons (.lc [1, 2] (.tp (.cons (.nm 1) (.cons (.nm 2) .nil))) (.val (.loc 0)) (.yes (.cmp .NotEq (.loc 1) (.cst (.str [112, 117, 116])))) (.loc 2)) .nil))) .nil)
def b4 : Ss := (.cons (.ret (.bi .sum (.cons (.lc [1, 2] (.tp (.cons (.nm 1) (.cons (.nm 2) .nil))) (.val (.loc 0)) (.yes (.cmp .NotEq (.loc 1) (.cst (.str [100, 114, 111, 112])))) (.ite (.cmp .Eq (.loc 1) (.cst (.str [112, 117, 116]))) (.bi .len (.cons (.loc 2) .nil)) (.loc 2))) .nil))) .nil)
def b5 : Ss := (.cons (.asg (.nm 1) (.lstR .nil)) (.cons (.asg (.nm 2) .dnew) (.cons (.forr (.tp (.cons (.nm 3) (.cons (.nm 4) .nil))) (.val (.loc 0)) (.cons (.ite (.cmp .Eq (.loc 3) (.cst (.str [112, 117, 116]))) (.cons (.dput (.loc 2) (.bi .len (.cons (.loc 1) .nil)) (.loc 4)) .nil) (.cons (.ex (.mt .extend (.loc 1) (.cons (.bin .Mult (.lst (.cons (.cmp .Eq (.loc 3) (.cst (.str [107, 101, 101, 112]))) .nil)) (.loc 4)) .nil))) .nil)) .nil)) (.cons (.ret (.tup (.cons (.loc 1) (.cons (.loc 2) .nil)))) .nil))))
def b6 : Ss := (.cons (.ite (.and (.cmp .NotEq (.loc 0) (.lst .nil)) (.cmp .Eq (.ix (.ix (.loc 0) (.neg (.cst (.int (1))))) (.cst (.int (0)))) (.loc 1))) (.cons (.sub (.loc 0) (.neg (.cst (.int (1)))) (.tup (.cons (.loc 1) (.cons (.bin .Add (.ix (.ix (.loc 0) (.neg (.cst (.int (1))))) (.cst (.int (1)))) (.loc 2)) .nil)))) .nil) (.cons (.ite (.cmp .NotIn (.loc 2) (.tup (.cons (.cst (.int (0))) (.cons (.cst (.str [])) .nil)))) (.cons (.ex (.mt .append (.loc 0) (.cons (.tup (.cons (.loc 1) (.cons (.loc 2) .nil))) .nil))) .nil) .nil) .nil)) .nil)
def b7 : Ss := (.cons (.asg (.nm 2) (.lstR .nil)) (.cons (.asg (.nm 3) (.cst (.str []))) (.cons (.asg (.nm 4) (.cst (.int (0)))) (.cons (.forr (.nm 5) (.val (.bin .Add (.loc 1) (.lst (.cons (.loc 0) .nil)))) (.cons (.ite (.isi (.loc 5) "str") (.cons (.aug 3 .Add (.loc 5)) .nil) (.cons (.ex (.call 6 (.cons (.loc 2) (.cons (.cst (.str [112, 117, 116])) (.cons (.loc 3) .nil))) .nil [0, 1, 2])) (.cons (.ex (.call 6 (.cons (.loc 2) (.cons (.cst (.str [100, 114, 111, 112])) (.cons (.bin .Sub (.loc 5) (.loc 4)) .nil))) .nil [0, 1, 2])) (.cons (.ex (.call 6 (.cons (.loc 2) (.cons (.cst (.str [107, 101, 101, 112])) (.cons (.bi .int (.cons (.cmp .Lt (.loc 5) (.loc 0)) .nil)) .nil))) .nil [0, 1, 2])) (.cons (.par 3 4 (.cst (.str [])) (.bin .Add (.loc 5) (.cst (.int (1))))) .nil))))) .nil)) (.cons (.ret (.bi .tuple (.cons (.loc 2) .nil))) .nil)))))
def b8 : Ss := (.cons (.ite (.cmp .NotEq (.bi .len (.cons (.loc 0) .nil)) (.pcall 3 (.cons (.loc 1) .nil) .nil [0])) (.cons (.rz 0 (.pcall 3 (.cons (.loc 1) .nil) .nil [0])) .nil) .nil) (.cons (.asg (.nm 2) (.lstR .nil)) (.cons (.asg (.nm 3) (.cst (.int (0)))) (.cons (.forr (.tp (.cons (.nm 4) (.cons (.nm 5) .nil))) (.val (.loc 1)) (.cons (.ite (.cmp .Eq (.loc 4) (.cst (.str [112, 117, 116]))) (.cons (.ex (.mt .append (.loc 2) (.cons (.loc 5) .nil))) .nil) (.cons (.ex (.mt .append (.loc 2) (.cons (.ite (.cmp .Eq (.loc 4) (.cst (.str [107, 101, 101, 112]))) (.sl (.loc 0) (.yes (.loc 3)) (.yes (.bin .Add (.loc 3) (.loc 5)))) (.cst (.str []))) .nil))) (.cons (.aug 3 .Add (.loc 5)) .nil))) .nil)) (.cons (.ret (.mt .join (.cst (.str [])) (.cons (.loc 2) .nil))) .nil)))))
def b9 : Ss := (.cons (.asg (.tp (.cons (.nm 3) (.cons (.nm 4) .nil))) (.call 5 (.cons (.loc 0) .nil) .nil [0])) (.cons (.asg (.nm 1) (.lstR .nil)) (.cons (.forr (.nm 2) (.range (.cons (.bin .Add (.bi .len (.cons (.loc 3) .nil)) (.cst (.int (1)))) .nil)) (.cons (.ex (.mt .extend (.loc 1) (.cons (.bi .list (.cons (.dget2 (.loc 4) (.loc 2) (.cst (.str []))) .nil)) .nil))) (.cons (.ite (.and (.cmp .Lt (.loc 2) (.bi .len (.cons (.loc 3) .nil))) (.ix (.loc 3) (.loc 2))) (.cons (.ex (.mt .append (.loc 1) (.cons (.loc 2) .nil))) .nil) .nil) .nil))) (.cons (.ret (.loc 1)) .nil))))
def b10 : Ss := (.cons (.ite (.cmp .NotEq (.pcall 4 (.cons (.loc 0) .nil) .nil [0]) (.pcall 3 (.cons (.loc 1) .nil) .nil [0])) (.cons (.rz 0 (.pcall 3 (.cons (.loc 1) .nil) .nil [0])) .nil) .nil) (.cons (.asg (.nm 2) (.pcall 9 (.cons (.loc 0) .nil) .nil [0])) (.cons (.ret (.pcall 7 (.cons (.pcall 3 (.cons (.loc 0) .nil) .nil [0]) (.cons (.lc [3] (.nm 3) (.val (.pcall 9 (.cons (.loc 1) .nil) .nil [0])) .no (.ite (.isi (.loc 3) "str") (.loc 3) (.ix (.loc 2) (.loc 3)))) .nil)) .nil [0, 1])) .nil)))
def b11 : Ss := (.cons (.asg (.tp (.cons (.nm 6) (.cons (.nm 7) .nil))) (.call 5 (.cons (.loc 0) .nil) .nil [0])) (.cons (.asg (.tp (.cons (.nm 8) (.cons (.nm 9) .nil))) (.call 5 (.cons (.loc 1) .nil) .nil [0])) (.cons (.asg (.nm 3) (.lstR .nil)) (.cons (.asg (.nm 4) (.cst (.int (0)))) (.cons (.forr (.nm 5) (.range (.cons (.bin .Add (.bi .len (.cons (.loc 6) .nil)) (.cst (.int (1)))) .nil)) (.cons (.par 11 12 (.ite (.din (.loc 5) (.loc 7)) (.lst (.cons (.dget (.loc 7) (.loc 5)) .nil)) (.lst .nil)) (.bi .len (.cons (.dget2 (.loc 9) (.loc 5) (.cst (.str []))) .nil))) (.cons (.asg (.nm 10) (.lrg2 (.loc 4) (.bin .Add (.loc 4) (.loc 12)))) (.cons (.ex (.mt .extend (.loc 3) (.cons (.ite (.loc 2) (.bin .Add (.loc 11) (.loc 10)) (.bin .Add (.loc 10) (.loc 11))) .nil))) (.cons (.aug 4 .Add (.loc 12)) (.cons (.ite (.and (.cmp .Lt (.loc 5) (.bi .len (.cons (.loc 6) .nil))) (.ix (.loc 8) (.loc 5))) (.cons (.ite (.ix (.loc 6) (.loc 5)) (.cons (.ex (.mt .append (.loc 3) (.cons (.loc 4) .nil))) .nil) .nil) (.cons (.aug 4 .Add (.cst (.int (1)))) .nil)) .nil) .nil)))))) (.cons (.ret (.call 7 (.cons (.loc 4) (.cons (.loc 3) .nil)) .nil [0, 1])) .nil))))))
def b12 : Ss := (.cons (.ite (.cmp .NotEq (.pcall 3 (.cons (.loc 0) .nil) .nil [0]) (.pcall 3 (.cons (.loc 1) .nil) .nil [0])) (.cons (.rz 0 (.pcall 3 (.cons (.loc 1) .nil) .nil [0])) .nil) .nil) (.cons (.ret (.tup (.cons (.pcall 11 (.cons (.loc 1) (.cons (.loc 0) .nil)) (.cons (.cst (.bl false)) .nil) [0, 1, 2]) (.cons (.pcall 11 (.cons (.loc 0) (.cons (.loc 1) .nil)) (.cons (.cst (.bl true)) .nil) [0, 1, 2]) .nil)))) .nil))
def b13 : Ss := (.cons (.asg (.nm 2) (.bin .Add (.bin .Mult (.cst (.int (7))) (.bi .sum (.cons (.sl (.loc 0) .no (.yes (.cst (.int (63))))) .nil))) (.loc 1))) (.cons (.ite (.cmp .Lt (.loc 1) (.bi .len (.cons (.loc 0) .nil))) (.cons (.asg (.nm 2) (.ix (.loc 0) (.loc 1))) .nil) .nil) (.cons (.asg (.nm 3) (.bi .abs (.cons (.loc 2) .nil))) (.cons (.asg (.nm 4) (.bin .Mod (.bin .Mult (.bin .Add (.bin .Add (.bin .Add (.bin .Mod (.loc 3) (.cst (.int (2147483629)))) (.bin .Mult (.bin .Mult (.cst (.int (7919))) (.loc 1)) (.loc 1))) (.bin .Mult (.cst (.int (31))) (.loc 1))) (.cst (.int (17)))) (.cst (.int (48271)))) (.cst (.int (2147483647))))) (.cons (.ret (.lstR (.cons (.bin .Mult (.loc 3) (.bi .int (.cons (.cmp .GtE (.loc 3) (.bin .Pow (.cst (.int (10))) (.cst (.int (18))))) .nil))) (.cons (.bin .Mod (.bin .Mult (.loc 4) (.loc 4)) (.cst (.int (2147483629)))) .nil)))) .nil)))))
def b14 : Ss := (.cons (.ite (.cmp .Gt (.ix (.loc 0) (.cst (.int (0)))) (.cst (.int (0)))) (.cons (.asg (.nm 2) (.bin .Mod (.ix (.loc 0) (.cst (.int (0)))) (.loc 1))) (.cons (.sub (.loc 0) (.cst (.int (0))) (.bin .FloorDiv (.ix (.loc 0) (.cst (.int (0)))) (.loc 1))) (.cons (.ret (.loc 2)) .nil))) .nil) (.cons (.sub (.loc 0) (.cst (.int (1))) (.bin .Mod (.bin .Add (.bin .Mult (.ix (.loc 0) (.cst (.int (1)))) (.cst (.int (48271)))) (.cst (.int (11)))) (.cst (.int (2147483647))))) (.cons (.ret (.bin .Mod (.bin .FloorDiv (.bin .Mod (.bin .Mult (.ix (.loc 0) (.cst (.int (1)))) (.ix (.loc 0) (.cst (.int (1))))) (.cst (.int (2147483629)))) (.cst (.int (16)))) (.loc 1))) .nil)))
def b15 : Ss := (.cons (.asg (.nm 2) (.lst (.cons (.cst (.str [97])) (.cons (.cst (.str [98])) (.cons (.cst (.str [32])) (.cons (.cst (.str [10])) (.cons (.cst (.str [46])) (.cons (.cst (.str [123])) (.cons (.cst (.str [125])) (.cons (.cst (.str [90])) .nil)))))))))) (.cons (.ret (.mt .join (.cst (.str [])) (.cons (.lc [3] (.nm 3) (.range (.cons (.call 14 (.cons (.loc 0) (.cons (.loc 1) .nil)) .nil [0, 1]) .nil)) .no (.ix (.loc 2) (.call 14 (.cons (.loc 0) (.cons (.cst (.int (8))) .nil)) .nil [0, 1]))) .nil))) .nil))
def b16 : Ss := (.cons (.asg (.nm 2) (.lstR .nil)) (.cons (.forr (.nm 3) (.range (.cons (.bin .Add (.bi .len (.cons (.loc 0) .nil)) (.cst (.int (1)))) .nil)) (.cons (.ite (.cmp .NotEq (.dget2 (.loc 1) (.loc 3) (.cst (.str []))) (.cst (.str []))) (.cons (.ex (.mt .append (.loc 2) (.cons (.tup (.cons (.cst (.str [112, 117, 116])) (.cons (.dget (.loc 1) (.loc 3)) .nil))) .nil))) .nil) .nil) (.cons (.ite (.cmp .Lt (.loc 3) (.bi .len (.cons (.loc 0) .nil))) (.cons (.asg (.nm 4) (.ix (.lst (.cons (.cst (.str [100, 114, 111, 112])) (.cons (.cst (.str [107, 101, 101, 112])) .nil))) (.bi .int (.cons (.ix (.loc 0) (.loc 3)) .nil)))) (.cons (.ite (.and (.cmp .NotEq (.loc 2) (.lst .nil)) (.cmp .Eq (.ix (.ix (.loc 2) (.neg (.cst (.int (1))))) (.cst (.int (0)))) (.loc 4))) (.cons (.sub (.loc 2) (.neg (.cst (.int (1)))) (.tup (.cons (.loc 4) (.cons (.bin .Add (.ix (.ix (.loc 2) (.neg (.cst (.int (1))))) (.cst (.int (1)))) (.cst (.int (1)))) .nil)))) .nil) (.cons (.ex (.mt .append (.loc 2) (.cons (.tup (.cons (.loc 4) (.cons (.cst (.int (1))) .nil))) .nil))) .nil)) .nil)) .nil) .nil))) (.cons (.ret (.bi .tuple (.cons (.loc 2) .nil))) .nil)))
def b17 : Ss := (.cons (.asg (.nm 2) (.call 14 (.cons (.loc 0) (.cons (.cst (.int (4))) .nil)) .nil [0, 1])) (.cons (.asg (.nm 3) (.lc [5] (.nm 5) (.range (.cons (.loc 1) .nil)) .no (.ix (.lst (.cons (.cmp .Eq (.call 14 (.cons (.loc 0) (.cons (.cst (.int (2))) .nil)) .nil [0, 1]) (.cst (.int (0)))) (.cons (.cst (.bl true)) (.cons (.cmp .NotEq (.bin .Mod (.loc 5) (.cst (.int (5)))) (.cst (.int (1)))) (.cons (.cst (.bl false)) .nil))))) (.loc 2)))) (.cons (.asg (.nm 4) .dnew) (.cons (.forr (.nm 5) (.range (.cons (.bin .Add (.loc 1) (.cst (.int (1)))) .nil)) (.cons (.ite (.and (.or (.cmp .Eq (.loc 5) (.cst (.int (0)))) (.ix (.loc 3) (.bin .Sub (.loc 5) (.cst (.int (1)))))) (.cmp .Eq (.call 14 (.cons (.loc 0) (.cons (.cst (.int (3))) .nil)) .nil [0, 1]) (.cst (.int (0))))) (.cons (.dput (.loc 4) (.loc 5) (.ix (.lst (.cons (.cst (.str [120])) (.cons (.cst (.str [121, 121])) (.cons (.cst (.str [122, 32, 113])) (.cons (.cst (.str [46])) .nil))))) (.call 14 (.cons (.loc 0) (.cons (.cst (.int (4))) .nil)) .nil [0, 1]))) .nil) .nil) .nil)) (.cons (.ret (.tup (.cons (.loc 3) (.cons (.loc 4) .nil)))) .nil)))))
def b18 : Ss := (.cons (.asg (.nm 3) (.lstR .nil)) (.cons (.forr (.nm 4) (.range (.cons (.bin .Add (.bi .len (.cons (.loc 1) .nil)) (.cst (.int (1)))) .nil)) (.cons (.asg (.nm 3) (.binR (.loc 3) (.bi .list (.cons (.dget2 (.loc 2) (.loc 4) (.cst (.str []))) .nil)))) (.cons (.ite (.and (.cmp .Lt (.loc 4) (.bi .len (.cons (.loc 1) .nil))) (.ix (.loc 1) (.loc 4))) (.cons (.ex (.mt .append (.loc 3) (.cons (.ix (.loc 0) (.loc 4)) .nil))) .nil) .nil) .nil))) (.cons (.ret (.loc 3)) .nil)))
def b19 : Ss := (.cons (.asg (.nm 2) (.lc [4] (.nm 4) (.range (.cons (.loc 0) .nil)) .no (.cmp .In (.loc 4) (.loc 1)))) (.cons (.asg (.nm 3) .dnew) (.cons (.asg (.nm 4) (.cst (.int (0)))) (.cons (.forr (.nm 5) (.val (.loc 1)) (.cons (.ite (.isi (.loc 5) "int") (.cons (.asg (.nm 4) (.bin .Add (.loc 5) (.cst (.int (1))))) .nil) (.cons (.dput (.loc 3) (.loc 4) (.bin .Add (.dget2 (.loc 3) (.loc 4) (.cst (.str []))) (.loc 5))) .nil)) .nil)) (.cons (.ret (.call 16 (.cons (.loc 2) (.cons (.loc 3) .nil)) .nil [0, 1])) .nil)))))
def b20 : Ss := (.cons (.asg (.nm 3) (.lstR .nil)) (.cons (.forr (.nm 4) (.range (.cons (.bin .Add (.loc 2) (.cst (.int (1)))) .nil)) (.cons (.asg (.nm 3) (.binR (.loc 3) (.lc [6] (.nm 6) (.val (.dget2 (.ix (.loc 0) (.cst (.int (1)))) (.loc 4) (.cst (.str [])))) .no (.tup (.cons (.cst (.str [111, 110, 101])) (.cons (.loc 6) .nil)))))) (.cons (.asg (.nm 3) (.binR (.loc 3) (.lc [6] (.nm 6) (.val (.dget2 (.ix (.loc 1) (.cst (.int (1)))) (.loc 4) (.cst (.str [])))) .no (.tup (.cons (.cst (.str [111, 116, 104, 101, 114])) (.cons (.loc 6) .nil)))))) (.cons (.ite (.cmp .Lt (.loc 4) (.loc 2)) (.cons (.ex (.mt .append (.loc 3) (.cons (.tup (.cons (.cst (.str [111, 108, 100])) (.cons (.loc 4) .nil))) .nil))) .nil) .nil) .nil)))) (.cons (.ret (.lc [5] (.nm 5) (.val (.loc 3)) (.yes (.or (.cmp .NotEq (.ix (.loc 5) (.cst (.int (0)))) (.cst (.str [111, 108, 100]))) (.and (.ix (.ix (.loc 0) (.cst (.int (0)))) (.ix (.loc 5) (.cst (.int (1))))) (.ix (.ix (.loc 1) (.cst (.int (0)))) (.ix (.loc 5) (.cst (.int (1)))))))) (.loc 5))) .nil)))
def b21 : Ss := (.cons (.asg (.nm 3) (.lstR .nil)) (.cons (.forr (.nm 4) (.range (.cons (.bin .Add (.loc 1) (.cst (.int (1)))) .nil)) (.cons (.asg (.nm 3) (.binR (.loc 3) (.lc [5] (.nm 5) (.val (.dget2 (.ix (.loc 0) (.cst (.int (1)))) (.loc 4) (.cst (.str [])))) .no (.tup (.cons (.loc 2) (.cons (.loc 5) .nil)))))) (.cons (.ite (.and (.cmp .Lt (.loc 4) (.loc 1)) (.ix (.ix (.loc 0) (.cst (.int (0)))) (.loc 4))) (.cons (.ex (.mt .append (.loc 3) (.cons (.tup (.cons (.cst (.str [111, 108, 100])) (.cons (.loc 4) .nil))) .nil))) .nil) .nil) .nil))) (.cons (.ret (.loc 3)) .nil)))
def b22 : Ss := (.cons (.asg (.nm 3) (.lstR .nil)) (.cons (.asg (.nm 4) (.cst (.int (0)))) (.cons (.forr (.nm 5) (.val (.loc 1)) (.cons (.ite (.or (.cmp .Eq (.ix (.loc 5) (.cst (.int (0)))) (.loc 2)) (.cmp .Eq (.ix (.loc 5) (.cst (.int (0)))) (.cst (.str [111, 108, 100])))) (.cons (.whl (.cmp .NotEq (.ix (.loc 0) (.loc 4)) (.loc 5)) (.cons (.asg (.nm 4) (.bin .Add (.loc 4) (.cst (.int (1))))) .nil)) (.cons (.ex (.mt .append (.loc 3) (.cons (.loc 4) .nil))) (.cons (.asg (.nm 4) (.bin .Add (.loc 4) (.cst (.int (1))))) .nil))) (.cons (.ex (.mt .append (.loc 3) (.cons (.ix (.loc 5) (.cst (.int (1)))) .nil))) .nil)) .nil)) (.cons (.ret (.call 19 (.cons (.bi .len (.cons (.loc 0) .nil)) (.cons (.loc 3) .nil)) .nil [0, 1])) .nil))))
def b23 : Ss := (.cons (.tryy (.cons (.ex (.pcall 12 (.cons (.loc 0) (.cons (.loc 1) .nil)) .nil [0, 1])) .nil) 0 2 fun d => (.cons (.ret (.cst d)) .nil)) (.cons (.ret (.cst (.str [116, 111, 108, 100]))) .nil))
def b24 : Ss := (.cons (.forr (.nm 1) (.range (.cons (.bi .max (.cons (.cst (.int (1))) (.cons (.bi .min (.cons (.bi .len (.cons (.loc 0) .nil)) (.cons (.cst (.int (16))) .nil))) .nil))) .nil)) (.cons (.asg (.nm 3) (.call 13 (.cons (.loc 0) (.cons (.loc 1) .nil)) .nil [0, 1])) (.cons (.asg (.nm 4) (.call 15 (.cons (.loc 3) (.cons (.cst (.int (16))) .nil)) .nil [0, 1])) (.cons (.asg (.nm 5) (.bi .len (.cons (.loc 4) .nil))) (.cons (.par 12 13 (.call 17 (.cons (.loc 3) (.cons (.loc 5) .nil)) .nil [0, 1]) (.call 17 (.cons (.loc 3) (.cons (.loc 5) .nil)) .nil [0, 1])) (.cons (.par 14 15 (.call 16 (.cons (.ix (.loc 12) (.cst (.int (0)))) (.cons (.ix (.loc 12) (.cst (.int (1)))) .nil)) .nil [0, 1]) (.call 16 (.cons (.ix (.loc 13) (.cst (.int (0)))) (.cons (.ix (.loc 13) (.cst (.int (1)))) .nil)) .nil [0, 1])) (.cons (.asg (.nm 6) (.call 20 (.cons (.loc 12) (.cons (.loc 13) (.cons (.loc 5) .nil))) .nil [0, 1, 2])) (.cons (.par 16 17 (.call 21 (.cons (.loc 12) (.cons (.loc 5) (.cons (.cst (.str [111, 110, 101])) .nil))) .nil [0, 1, 2]) (.call 21 (.cons (.loc 13) (.cons (.loc 5) (.cons (.cst (.str [111, 116, 104, 101, 114])) .nil))) .nil [0, 1, 2])) (.cons (.asg (.nm 7) (.tup (.cons (.call 22 (.cons (.loc 16) (.cons (.loc 6) (.cons (.cst (.str [111, 110, 101])) .nil))) .nil [0, 1, 2]) (.cons (.call 22 (.cons (.loc 17) (.cons (.loc 6) (.cons (.cst (.str [111, 116, 104, 101, 114])) .nil))) .nil [0, 1, 2]) .nil)))) (.cons (.asg (.nm 8) (.pcall 12 (.cons (.loc 14) (.cons (.loc 15) .nil)) .nil [0, 1])) (.cons (.ite (.or (.cmp .NotEq (.loc 8) (.loc 7)) (.cmp .NotEq (.lc [19] (.nm 19) (.val (.loc 7)) (.yes (.no (.pcall 2 (.cons (.loc 19) .nil) .nil [0]))) (.loc 19)) (.lst .nil))) (.cons (.ret (.cst (.bl false))) .nil) .nil) (.cons (.asg (.nm 9) (.mt .join (.cst (.str [])) (.cons (.lc [18] (.nm 18) (.val (.loc 6)) .no (.ite (.cmp .Eq (.ix (.loc 18) (.cst (.int (0)))) (.cst (.str [111, 108, 100]))) (.ix (.loc 4) (.ix (.loc 18) (.cst (.int (1))))) (.ix (.loc 18) (.cst (.int (1)))))) .nil))) (.cons (.ite (.or (.cmp .NotEq (.pcall 8 (.cons (.pcall 8 (.cons (.loc 4) (.cons (.loc 14) .nil)) .nil [0, 1]) (.cons (.ix (.loc 8) (.cst (.int (0)))) .nil)) .nil [0, 1]) (.loc 9)) (.cmp .NotEq (.pcall 8 (.cons (.pcall 8 (.cons (.loc 4) (.cons (.loc 15) .nil)) .nil [0, 1]) (.cons (.ix (.loc 8) (.cst (.int (1)))) .nil)) .nil [0, 1]) (.loc 9))) (.cons (.ret (.cst (.bl false))) .nil) .nil) (.cons (.ite (.or (.cmp .NotEq (.pcall 10 (.cons (.loc 14) (.cons (.ix (.loc 8) (.cst (.int (0)))) .nil)) .nil [0, 1]) (.pcall 10 (.cons (.loc 15) (.cons (.ix (.loc 8) (.cst (.int (1)))) .nil)) .nil [0, 1])) (.cmp .NotEq (.pcall 3 (.cons (.ix (.loc 8) (.cst (.int (0)))) .nil) .nil [0]) (.pcall 4 (.cons (.loc 14) .nil) .nil [0]))) (.cons (.ret (.cst (.bl false))) .nil) .nil) (.cons (.asg (.nm 10) (.bin .Mult (.tup (.cons (.tup (.cons (.cst (.str [107, 101, 101, 112])) (.cons (.loc 5) .nil))) .nil)) (.bi .int (.cons (.cmp .Gt (.loc 5) (.cst (.int (0)))) .nil)))) (.cons (.asg (.nm 11) (.bin .Mult (.tup (.cons (.tup (.cons (.cst (.str [107, 101, 101, 112])) (.cons (.pcall 4 (.cons (.loc 14) .nil) .nil [0]) .nil))) .nil)) (.bi .int (.cons (.cmp .Gt (.pcall 4 (.cons (.loc 14) .nil) .nil [0]) (.cst (.int (0)))) .nil)))) (.cons (.ite (.or (.cmp .NotEq (.pcall 12 (.cons (.loc 14) (.cons (.loc 10) .nil)) .nil [0, 1]) (.tup (.cons (.loc 11) (.cons (.loc 14) .nil)))) (.cmp .NotEq (.pcall 12 (.cons (.loc 10) (.cons (.loc 14) .nil)) .nil [0, 1]) (.tup (.cons (.loc 14) (.cons (.loc 11) .nil))))) (.cons (.ret (.cst (.bl false))) .nil) .nil) (.cons (.ite (.or (.cmp .NotEq (.pcall 23 (.cons (.loc 14) (.cons (.tup (.cons (.tup (.cons (.cst (.str [100, 114, 111, 112])) (.cons (.bin .Add (.loc 5) (.cst (.int (1)))) .nil))) .nil)) .nil)) .nil [0, 1]) (.bin .Add (.loc 5) (.cst (.int (1))))) (.cmp .NotEq (.pcall 23 (.cons (.tup (.cons (.tup (.cons (.cst (.str [100, 114, 111, 112])) (.cons (.bin .Add (.loc 5) (.cst (.int (1)))) .nil))) .nil)) (.cons (.loc 14) .nil)) .nil [0, 1]) (.loc 5))) (.cons (.ret (.cst (.bl false))) .nil) .nil) .nil)))))))))))))))))) (.cons (.asg (.nm 2) (.pcall 12 (.cons (.tup (.cons (.tup (.cons (.cst (.str [112, 117, 116])) (.cons (.cst (.str [97])) .nil))) (.cons (.tup (.cons (.cst (.str [107, 101, 101, 112])) (.cons (.cst (.int (1))) .nil))) .nil))) (.cons (.tup (.cons (.tup (.cons (.cst (.str [112, 117, 116])) (.cons (.cst (.str [98])) .nil))) (.cons (.tup (.cons (.cst (.str [100, 114, 111, 112])) (.cons (.cst (.int (1))) .nil))) .nil))) .nil)) .nil [0, 1])) (.cons (.ite (.cmp .NotEq (.loc 2) (.tup (.cons (.tup (.cons (.tup (.cons (.cst (.str [107, 101, 101, 112])) (.cons (.cst (.int (1))) .nil))) (.cons (.tup (.cons (.cst (.str [112, 117, 116])) (.cons (.cst (.str [98])) .nil))) (.cons (.tup (.cons (.cst (.str [100, 114, 111, 112])) (.cons (.cst (.int (1))) .nil))) .nil)))) (.cons (.tup (.cons (.tup (.cons (.cst (.str [112, 117, 116])) (.cons (.cst (.str [97])) .nil))) (.cons (.tup (.cons (.cst (.str [107, 101, 101, 112])) (.cons (.cst (.int (1))) .nil))) .nil))) .nil)))) (.cons (.ret (.cst (.bl false))) .nil) .nil) (.cons (.ret (.and (.cmp .Eq (.pcall 23 (.cons (.tup (.cons (.tup (.cons (.cst (.str [107, 101, 101, 112])) (.cons (.cst (.int (1))) .nil))) .nil)) (.cons (.tup .nil) .nil)) .nil [0, 1]) (.cst (.int (0)))) (.cmp .Eq (.pcall 23 (.cons (.tup .nil) (.cons (.tup (.cons (.tup (.cons (.cst (.str [112, 117, 116])) (.cons (.cst (.str [97])) .nil))) (.cons (.tup (.cons (.cst (.str [100, 114, 111, 112])) (.cons (.cst (.int (2))) .nil))) .nil))) .nil)) .nil [0, 1]) (.cst (.int (2)))))) .nil))))
theorem c0 : cBody T 30 (mkCk N0 (defScope (top 5))) (defBody (top 5)) = some b0 := by kernel_rfl
theorem c1 : cBody T 30 (mkCk N1 (defScope (top 6))) (defBody (top 6)) = some b1 := by kernel_rfl
theorem c2 : cBody T 30 (mkCk N2 (defScope (top 7))) (defBody (top 7)) = some b2 := by kernel_rfl
theorem c3 : cBody T 30 (mkCk N3 (defScope (top 8))) (defBody (top 8)) = some b3 := by kernel_rfl
theorem c4 : cBody T 30 (mkCk N4 (defScope (top 9))) (defBody (top 9)) = some b4 := by kernel_rfl
theorem c5 : cBody T 30 (mkCk N5 (defScope (top 10))) (defBody (top 10)) = some b5 := by kernel_rfl
theorem c6 : cBody T 30 (mkCk N6 (defScope (top 11))) (defBody (top 11)) = some b6 := by kernel_rfl
theorem c7 : cBody T 30 (mkCk N7 (defScope (top 12))) (defBody (top 12)) = some b7 := by kernel_rfl
theorem c8 : cBody T 30 (mkCk N8 (defScope (top 13))) (defBody (top 13)) = some b8 := by kernel_rfl
theorem c9 : cBody T 30 (mkCk N9 (defScope (top 14))) (defBody (top 14)) = some b9 := by kernel_rfl
theorem c10 : cBody T 30 (mkCk N10 (defScope (top 15))) (defBody (top 15)) = some b10 := by kernel_rfl
theorem c11 : cBody T 30 (mkCk N11 (defScope (top 16))) (defBody (top 16)) = some b11 := by kernel_rfl
theorem c12 : cBody T 30 (mkCk N12 (defScope (top 17))) (defBody (top 17)) = some b12 := by kernel_rfl
theorem c13 : cBody T 30 (mkCk N13 (defScope (top 19))) (defBody (top 19)) = some b13 := by kernel_rfl
theorem c14 : cBody T 30 (mkCk N14 (defScope (top 20))) (defBody (top 20)) = some b14 := by kernel_rfl
theorem c15 : cBody T 30 (mkCk N15 (defScope (top 21))) (defBody (top 21)) = some b15 := by kernel_rfl
theorem c16 : cBody T 30 (mkCk N16 (defScope (top 22))) (defBody (top 22)) = some b16 := by kernel_rfl
theorem c17 : cBody T 30 (mkCk N17 (defScope (top 23))) (defBody (top 23)) = some b17 := by kernel_rfl
theorem c18 : cBody T 30 (mkCk N18 (defScope (top 24))) (defBody (top 24)) = some b18 := by kernel_rfl
theorem c19 : cBody T 30 (mkCk N19 (defScope (top 25))) (defBody (top 25)) = some b19 := by kernel_rfl
theorem c20 : cBody T 30 (mkCk N20 (defScope (top 26))) (defBody (top 26)) = some b20 := by kernel_rfl
theorem c21 : cBody T 30 (mkCk N21 (defScope (top 27))) (defBody (top 27)) = some b21 := by kernel_rfl
theorem c22 : cBody T 30 (mkCk N22 (defScope (top 28))) (defBody (top 28)) = some b22 := by kernel_rfl
theorem c23 : cBody T 30 (mkCk N23 (defScope (top 29))) (defBody (top 29)) = some b23 := by kernel_rfl
theorem c24 : cBody T 30 (mkCk N24 (defScope (top 30))) (defBody (top 30)) = some b24 := by kernel_rfl
theorem s0 : FnScope N0 ["thing", "least"] (defScope (top 5)) := ⟨rfl, rfl, rfl, by decide +kernel, rfl, by decide +kernel, by decide +kernel⟩
theorem s1 : FnScope N1 ["thing"] (defScope (top 6)) := ⟨rfl, rfl, rfl, by decide +kernel, rfl, by decide +kernel, by decide +kernel⟩
theorem s2 : FnScope N2 ["thing"] (defScope (top 7)) := ⟨rfl, rfl, rfl, by decide +kernel, rfl, by decide +kernel, by decide +kernel⟩
theorem s3 : FnScope N3 ["change"] (defScope (top 8)) := ⟨rfl, rfl, rfl, by decide +kernel, rfl, by decide +kernel, by decide +kernel⟩
theorem s4 : FnScope N4 ["change"] (defScope (top 9)) := ⟨rfl, rfl, rfl, by decide +kernel, rfl, by decide +kernel, by decide +kernel⟩
theorem s5 : FnScope N5 ["change"] (defScope (top 10)) := ⟨rfl, rfl, rfl, by decide +kernel, rfl, by decide +kernel, by decide +kernel⟩
theorem s6 : FnScope N6 ["parts", "word", "what"] (defScope (top 11)) := ⟨rfl, rfl, rfl, by decide +kernel, rfl, by decide +kernel, by decide +kernel⟩
theorem s7 : FnScope N7 ["many", "items"] (defScope (top 12)) := ⟨rfl, rfl, rfl, by decide +kernel, rfl, by decide +kernel, by decide +kernel⟩
theorem s8 : FnScope N8 ["text", "change"] (defScope (top 13)) := ⟨rfl, rfl, rfl, by decide +kernel, rfl, by decide +kernel, by decide +kernel⟩
theorem s9 : FnScope N9 ["change"] (defScope (top 14)) := ⟨rfl, rfl, rfl, by decide +kernel, rfl, by decide +kernel, by decide +kernel⟩
theorem s10 : FnScope N10 ["one", "other"] (defScope (top 15)) := ⟨rfl, rfl, rfl, by decide +kernel, rfl, by decide +kernel, by decide +kernel⟩
theorem s11 : FnScope N11 ["one", "other", "ahead"] (defScope (top 16)) := ⟨rfl, rfl, rfl, by decide +kernel, rfl, by decide +kernel, by decide +kernel⟩
theorem s12 : FnScope N12 ["one", "other"] (defScope (top 17)) := ⟨rfl, rfl, rfl, by decide +kernel, rfl, by decide +kernel, by decide +kernel⟩
theorem s13 : FnScope N13 ["_law_script", "_law_k"] (defScope (top 19)) := ⟨rfl, rfl, rfl, by decide +kernel, rfl, by decide +kernel, by decide +kernel⟩
theorem s14 : FnScope N14 ["_law_pool_here", "_law_many"] (defScope (top 20)) := ⟨rfl, rfl, rfl, by decide +kernel, rfl, by decide +kernel, by decide +kernel⟩
theorem s15 : FnScope N15 ["_law_pool_here", "_law_most"] (defScope (top 21)) := ⟨rfl, rfl, rfl, by decide +kernel, rfl, by decide +kernel, by decide +kernel⟩
theorem s16 : FnScope N16 ["_law_stays", "_law_puts"] (defScope (top 22)) := ⟨rfl, rfl, rfl, by decide +kernel, rfl, by decide +kernel, by decide +kernel⟩
theorem s17 : FnScope N17 ["_law_pool_here", "_law_many"] (defScope (top 23)) := ⟨rfl, rfl, rfl, by decide +kernel, rfl, by decide +kernel, by decide +kernel⟩
theorem s18 : FnScope N18 ["_law_signs", "_law_stays", "_law_puts"] (defScope (top 24)) := ⟨rfl, rfl, rfl, by decide +kernel, rfl, by decide +kernel, by decide +kernel⟩
theorem s19 : FnScope N19 ["_law_many", "_law_items"] (defScope (top 25)) := ⟨rfl, rfl, rfl, by decide +kernel, rfl, by decide +kernel, by decide +kernel⟩
theorem s20 : FnScope N20 ["_law_one", "_law_other", "_law_many"] (defScope (top 26)) := ⟨rfl, rfl, rfl, by decide +kernel, rfl, by decide +kernel, by decide +kernel⟩
theorem s21 : FnScope N21 ["_law_own", "_law_many", "_law_word"] (defScope (top 27)) := ⟨rfl, rfl, rfl, by decide +kernel, rfl, by decide +kernel, by decide +kernel⟩
theorem s22 : FnScope N22 ["_law_ahead", "_law_both_here", "_law_word"] (defScope (top 28)) := ⟨rfl, rfl, rfl, by decide +kernel, rfl, by decide +kernel, by decide +kernel⟩
theorem s23 : FnScope N23 ["_law_one", "_law_other"] (defScope (top 29)) := ⟨rfl, rfl, rfl, by decide +kernel, rfl, by decide +kernel, by decide +kernel⟩
theorem s24 : FnScope N24 ["_law_script"] (defScope (top 30)) := ⟨rfl, rfl, rfl, by decide +kernel, rfl, by decide +kernel, by decide +kernel⟩
def f0 : Fd := ⟨"is_number", ["thing", "least"], N0, [], b0⟩
def d0 : He.DefD := ⟨("is_number", none), "is_number", "is_number", defArgs (top 5), defBody (top 5), defScope (top 5), [], []⟩
def f1 : Fd := ⟨"is_part", ["thing"], N1, [], b1⟩
def d1 : He.DefD := ⟨("is_part", none), "is_part", "is_part", defArgs (top 6), defBody (top 6), defScope (top 6), [], []⟩
def f2 : Fd := ⟨"is_change", ["thing"], N2, [], b2⟩
def d2 : He.DefD := ⟨("is_change", none), "is_change", "is_change", defArgs (top 7), defBody (top 7), defScope (top 7), [], []⟩
def f3 : Fd := ⟨"wanted", ["change"], N3, [], b3⟩
def d3 : He.DefD := ⟨("wanted", none), "wanted", "wanted", defArgs (top 8), defBody (top 8), defScope (top 8), [], []⟩
def f4 : Fd := ⟨"makes", ["change"], N4, [], b4⟩
def d4 : He.DefD := ⟨("makes", none), "makes", "makes", defArgs (top 9), defBody (top 9), defScope (top 9), [], []⟩
def f5 : Fd := ⟨"spelt", ["change"], N5, [], b5⟩
def d5 : He.DefD := ⟨("spelt", none), "spelt", "spelt", defArgs (top 10), defBody (top 10), defScope (top 10), [], []⟩
def f6 : Fd := ⟨"grown", ["parts", "word", "what"], N6, [], b6⟩
def d6 : He.DefD := ⟨("grown", none), "grown", "grown", defArgs (top 11), defBody (top 11), defScope (top 11), [], []⟩
def f7 : Fd := ⟨"change_by", ["many", "items"], N7, [], b7⟩
def d7 : He.DefD := ⟨("change_by", none), "change_by", "change_by", defArgs (top 12), defBody (top 12), defScope (top 12), [], []⟩
def f8 : Fd := ⟨"changed", ["text", "change"], N8, [], b8⟩
def d8 : He.DefD := ⟨("changed", none), "changed", "changed", defArgs (top 13), defBody (top 13), defScope (top 13), [], []⟩
def f9 : Fd := ⟨"made_of", ["change"], N9, [], b9⟩
def d9 : He.DefD := ⟨("made_of", none), "made_of", "made_of", defArgs (top 14), defBody (top 14), defScope (top 14), [], []⟩
def f10 : Fd := ⟨"behind", ["one", "other"], N10, [], b10⟩
def d10 : He.DefD := ⟨("behind", none), "behind", "behind", defArgs (top 15), defBody (top 15), defScope (top 15), [], []⟩
def f11 : Fd := ⟨"led", ["one", "other", "ahead"], N11, [], b11⟩
def d11 : He.DefD := ⟨("led", none), "led", "led", defArgs (top 16), defBody (top 16), defScope (top 16), [], []⟩
def f12 : Fd := ⟨"beside", ["one", "other"], N12, [], b12⟩
def d12 : He.DefD := ⟨("beside", none), "beside", "beside", defArgs (top 17), defBody (top 17), defScope (top 17), [], []⟩
def f13 : Fd := ⟨"_law_pool", ["_law_script", "_law_k"], N13, [], b13⟩
def d13 : He.DefD := ⟨("_law_pool", none), "_law_pool", "_law_pool", defArgs (top 19), defBody (top 19), defScope (top 19), [], []⟩
def f14 : Fd := ⟨"_law_take", ["_law_pool_here", "_law_many"], N14, [], b14⟩
def d14 : He.DefD := ⟨("_law_take", none), "_law_take", "_law_take", defArgs (top 20), defBody (top 20), defScope (top 20), [], []⟩
def f15 : Fd := ⟨"_law_text", ["_law_pool_here", "_law_most"], N15, [], b15⟩
def d15 : He.DefD := ⟨("_law_text", none), "_law_text", "_law_text", defArgs (top 21), defBody (top 21), defScope (top 21), [], []⟩
def f16 : Fd := ⟨"_law_parts", ["_law_stays", "_law_puts"], N16, [], b16⟩
def d16 : He.DefD := ⟨("_law_parts", none), "_law_parts", "_law_parts", defArgs (top 22), defBody (top 22), defScope (top 22), [], []⟩
def f17 : Fd := ⟨"_law_change", ["_law_pool_here", "_law_many"], N17, [], b17⟩
def d17 : He.DefD := ⟨("_law_change", none), "_law_change", "_law_change", defArgs (top 23), defBody (top 23), defScope (top 23), [], []⟩
def f18 : Fd := ⟨"_law_made", ["_law_signs", "_law_stays", "_law_puts"], N18, [], b18⟩
def d18 : He.DefD := ⟨("_law_made", none), "_law_made", "_law_made", defArgs (top 24), defBody (top 24), defScope (top 24), [], []⟩
def f19 : Fd := ⟨"_law_due", ["_law_many", "_law_items"], N19, [], b19⟩
def d19 : He.DefD := ⟨("_law_due", none), "_law_due", "_law_due", defArgs (top 25), defBody (top 25), defScope (top 25), [], []⟩
def f20 : Fd := ⟨"_law_both", ["_law_one", "_law_other", "_law_many"], N20, [], b20⟩
def d20 : He.DefD := ⟨("_law_both", none), "_law_both", "_law_both", defArgs (top 26), defBody (top 26), defScope (top 26), [], []⟩
def f21 : Fd := ⟨"_law_alone", ["_law_own", "_law_many", "_law_word"], N21, [], b21⟩
def d21 : He.DefD := ⟨("_law_alone", none), "_law_alone", "_law_alone", defArgs (top 27), defBody (top 27), defScope (top 27), [], []⟩
def f22 : Fd := ⟨"_law_led", ["_law_ahead", "_law_both_here", "_law_word"], N22, [], b22⟩
def d22 : He.DefD := ⟨("_law_led", none), "_law_led", "_law_led", defArgs (top 28), defBody (top 28), defScope (top 28), [], []⟩
def f23 : Fd := ⟨"_law_refused", ["_law_one", "_law_other"], N23, [], b23⟩
def d23 : He.DefD := ⟨("_law_refused", none), "_law_refused", "_law_refused", defArgs (top 29), defBody (top 29), defScope (top 29), [], []⟩
def f24 : Fd := ⟨"law", ["_law_script"], N24, [], b24⟩
def d24 : He.DefD := ⟨("law", none), "law", "law", defArgs (top 30), defBody (top 30), defScope (top 30), [], []⟩
def Pg : Prg := ⟨[f0, f1, f2, f3, f4, f5, f6, f7, f8, f9, f10, f11, f12, f13, f14, f15, f16, f17, f18, f19, f20, f21, f22, f23, f24], consts, 1000000⟩
def e0 : He.DefD := ⟨("NoFit", some "__init__"), "__init__", "NoFit.__init__", defArgs (inClass (top 2) 0), defBody (inClass (top 2) 0), defScope (inClass (top 2) 0), [], []⟩
theorem es0 : FnScope ["self", "wants"] ["self", "wants"] (defScope (inClass (top 2) 0)) := ⟨rfl, rfl, rfl, by decide +kernel, rfl, by decide +kernel, by decide +kernel⟩
def fn : List He.DefD := [d0, d1, d2, d3, d4, d5, d6, d7, d8, d9, d10, d11, d12, d13, d14, d15, d16, d17, d18, d19, d20, d21, d22, d23, d24, e0]
def tb : List (Str × List He.Dv) := [("WORDS", [.str "keep", .str "drop", .str "put"])]
def fa : List He.Fa := [.glo "is_number", .glo "is_part", .glo "is_change", .glo "wanted", .glo "makes", .glo "spelt", .glo "grown", .glo "change_by", .glo "changed", .glo "made_of", .glo "behind", .glo "led", .glo "beside", .glo "_law_pool", .glo "_law_take", .glo "_law_text", .glo "_law_parts", .glo "_law_change", .glo "_law_made", .glo "_law_due", .glo "_law_both", .glo "_law_alone", .glo "_law_led", .glo "_law_refused", .glo "law", .free "abs", .free "all", .free "any", .free "bool", .free "int", .free "isinstance", .free "len", .free "list", .free "max", .free "min", .free "range", .free "str", .free "sum", .free "tuple", .free "zip", .glo "WORDS", .glo "NoFit", .glo "PageError"]
def exL (K : PySem.W.Frag) : List Bool := [exfB K (He.ga K "NoFit") (He.ga K "PageError") "wants"]
abbrev R : PySem.W.OpenRow := PySem.W.OpenLaw.row PySem.Challenge.rw_pagesofproofs_k04_changes_beside_one_ano
abbrev hk : PySem.W.Hook := hookX 4 fa fn tb exL
def ob (s : PySem.W.SharedT) : AlX := obsXG 4 fa fn tb exL (HandSHeadRun.getT s)
theorem ob_eq (s : PySem.W.SharedT) : ob s = hk.obs s.abs := obsXG_eq (HandSHeadRun.getT_eq s)
def loose : List PySem.Str := ["is_number", "is_part", "is_change", "wanted", "makes", "spelt", "grown", "change_by", "changed", "made_of", "behind", "led", "beside", "_law_pool", "_law_take", "_law_text", "_law_parts", "_law_change", "_law_made", "_law_due", "_law_both", "_law_alone", "_law_led", "_law_refused", "WORDS", "PageError", "NoFit"]
theorem run (w : World) : HandSHeadRun.RunEq R (PySem.W.view R.prog [30]) hk ob 2260 loose w := by
  intro os
  kernel_rfl
section
variable {P : Program} {w : World} {K : PySem.W.Frag} {h : Heap} {mg : Str → Option Value} {base : Heap}
def gr (K : PySem.W.Frag) : Gr := ⟨K, fun i => match i with | 0 => He.ga K "NoFit" | _ => 0, fun i => match i with | 0 => "wants" | _ => "", none⟩
theorem md (X : K.In h) (Y : h.Ns mainGlobals mg) (c : SaysX fa fn tb exL K) : Md T Pg.consts (fun _ => []) (gr K) K mg := by
  refine ⟨rfl, fun x hx => ?_, rfl, fun x n f hm => ?_, fun n y b hm => ?_, fun g x hg => ?_⟩
  · simp only [T, List.mem_cons, List.not_mem_nil, or_false] at hx
    rcases hx with rfl | rfl | rfl | rfl | rfl | rfl | rfl | rfl | rfl | rfl | rfl | rfl | rfl | rfl | rfl
    · exact He.free_ok X Y (c.d.fact 25 (f := .free "abs") rfl)
    · exact He.free_ok X Y (c.d.fact 26 (f := .free "all") rfl)
    · exact He.free_ok X Y (c.d.fact 27 (f := .free "any") rfl)
    · exact He.free_ok X Y (c.d.fact 28 (f := .free "bool") rfl)
    · exact He.free_ok X Y (c.d.fact 29 (f := .free "int") rfl)
    · exact He.free_ok X Y (c.d.fact 30 (f := .free "isinstance") rfl)
    · exact He.free_ok X Y (c.d.fact 31 (f := .free "len") rfl)
    · exact He.free_ok X Y (c.d.fact 32 (f := .free "list") rfl)
    · exact He.free_ok X Y (c.d.fact 33 (f := .free "max") rfl)
    · exact He.free_ok X Y (c.d.fact 34 (f := .free "min") rfl)
    · exact He.free_ok X Y (c.d.fact 35 (f := .free "range") rfl)
    · exact He.free_ok X Y (c.d.fact 36 (f := .free "str") rfl)
    · exact He.free_ok X Y (c.d.fact 37 (f := .free "sum") rfl)
    · exact He.free_ok X Y (c.d.fact 38 (f := .free "tuple") rfl)
    · exact He.free_ok X Y (c.d.fact 39 (f := .free "zip") rfl)
  · simp only [T, List.mem_cons, Prod.mk.injEq, List.not_mem_nil, or_false] at hm
    rcases hm with ⟨rfl, rfl, rfl⟩
    · exact ⟨He.glo_ok X Y (c.d.fact 41 (f := .glo "NoFit") rfl), by decide +kernel, rfl, He.ga K "PageError", exfB_ok (c.ex 0 rfl)⟩
  · simp only [T, List.mem_cons, Prod.mk.injEq, List.not_mem_nil, or_false] at hm
  · match g, hg with
    | 0, hg =>
      cases hg
      exact ⟨by decide +kernel, .tup [.str [107, 101, 101, 112], .str [100, 114, 111, 112], .str [112, 117, 116]], .ref (He.ga K "WORDS"), _, rfl, He.glo_ok X Y (c.d.fact 40 (f := .glo "WORDS") rfl), rfl, fun w H => .tup (.inr (c.tup 0 (x := "WORDS") (vs := [.str "keep", .str "drop", .str "put"]) rfl)) (.cons (.str _) (.cons (.str _) (.cons (.str _) .nil)))⟩
    | g + 1, hg => cases hg
theorem de0 (X : K.In h) (Y : h.Ns mainGlobals mg) (c : He.SaysD fa fn K) {fd : FuncData} (F : FunD K d0.name d0.qual d0.params d0.body d0.scope (d0.dvs K) (d0.kws K) (He.fAd K d0.at_) fd) : De T K mg (gr K) 0 "is_number" [] (He.fAd K d0.at_) fd ["thing", "least"] := by
  refine ⟨He.glo_ok X Y (c.fact 0 (f := .glo "is_number") rfl), F.kp, by decide +kernel, [], [], .nil, fun _ _ => .nil, fun n ks pm hm => ?_⟩
  simp only [T, List.mem_cons, Prod.mk.injEq, List.not_mem_nil, or_false] at hm
  rcases hm with ⟨h1, rfl, rfl, rfl⟩ | ⟨h1, rfl, rfl, rfl⟩ | ⟨h1, rfl, rfl, rfl⟩ | ⟨h1, rfl, rfl, rfl⟩ | ⟨h1, rfl, rfl, rfl⟩ | ⟨h1, rfl, rfl, rfl⟩ | ⟨h1, rfl, rfl, rfl⟩ | ⟨h1, rfl, rfl, rfl⟩ | ⟨h1, rfl, rfl, rfl⟩ | ⟨h1, rfl, rfl, rfl⟩ | ⟨h1, rfl, rfl, rfl⟩ | ⟨h1, rfl, rfl, rfl⟩ | ⟨h1, rfl, rfl, rfl⟩ | ⟨h1, rfl, rfl, rfl⟩ | ⟨h1, rfl, rfl, rfl⟩ | ⟨h1, rfl, rfl, rfl⟩ | ⟨h1, rfl, rfl, rfl⟩ | ⟨h1, rfl, rfl, rfl⟩ | ⟨h1, rfl, rfl, rfl⟩ | ⟨h1, rfl, rfl, rfl⟩ | ⟨h1, rfl, rfl, rfl⟩ | ⟨h1, rfl, rfl, rfl⟩ | ⟨h1, rfl, rfl, rfl⟩
  · exact kb_no F fun _ _ _ _ _ _ us ws l1 l2 => match us, ws, l1, l2 with | [u0, u1], [], _, _ => ⟨_, rfl, rfl, rfl⟩
  · exact absurd h1 (by decide)
  · exact absurd h1 (by decide)
  · exact absurd h1 (by decide)
  · exact absurd h1 (by decide)
  · exact absurd h1 (by decide)
  · exact absurd h1 (by decide)
  · exact absurd h1 (by decide)
  · exact absurd h1 (by decide)
  · exact absurd h1 (by decide)
  · exact absurd h1 (by decide)
  · exact absurd h1 (by decide)
  · exact absurd h1 (by decide)
  · exact absurd h1 (by decide)
  · exact absurd h1 (by decide)
  · exact absurd h1 (by decide)
  · exact absurd h1 (by decide)
  · exact absurd h1 (by decide)
  · exact absurd h1 (by decide)
  · exact absurd h1 (by decide)
  · exact absurd h1 (by decide)
  · exact absurd h1 (by decide)
  · exact absurd h1 (by decide)
theorem de1 (X : K.In h) (Y : h.Ns mainGlobals mg) (c : He.SaysD fa fn K) {fd : FuncData} (F : FunD K d1.name d1.qual d1.params d1.body d1.scope (d1.dvs K) (d1.kws K) (He.fAd K d1.at_) fd) : De T K mg (gr K) 1 "is_part" [] (He.fAd K d1.at_) fd ["thing"] := by
  refine ⟨He.glo_ok X Y (c.fact 1 (f := .glo "is_part") rfl), F.kp, by decide +kernel, [], [], .nil, fun _ _ => .nil, fun n ks pm hm => ?_⟩
  simp only [T, List.mem_cons, Prod.mk.injEq, List.not_mem_nil, or_false] at hm
  rcases hm with ⟨h1, rfl, rfl, rfl⟩ | ⟨h1, rfl, rfl, rfl⟩ | ⟨h1, rfl, rfl, rfl⟩ | ⟨h1, rfl, rfl, rfl⟩ | ⟨h1, rfl, rfl, rfl⟩ | ⟨h1, rfl, rfl, rfl⟩ | ⟨h1, rfl, rfl, rfl⟩ | ⟨h1, rfl, rfl, rfl⟩ | ⟨h1, rfl, rfl, rfl⟩ | ⟨h1, rfl, rfl, rfl⟩ | ⟨h1, rfl, rfl, rfl⟩ | ⟨h1, rfl, rfl, rfl⟩ | ⟨h1, rfl, rfl, rfl⟩ | ⟨h1, rfl, rfl, rfl⟩ | ⟨h1, rfl, rfl, rfl⟩ | ⟨h1, rfl, rfl, rfl⟩ | ⟨h1, rfl, rfl, rfl⟩ | ⟨h1, rfl, rfl, rfl⟩ | ⟨h1, rfl, rfl, rfl⟩ | ⟨h1, rfl, rfl, rfl⟩ | ⟨h1, rfl, rfl, rfl⟩ | ⟨h1, rfl, rfl, rfl⟩ | ⟨h1, rfl, rfl, rfl⟩
  · exact absurd h1 (by decide)
  · exact kb_no F fun _ _ _ _ _ _ us ws l1 l2 => match us, ws, l1, l2 with | [u0], [], _, _ => ⟨_, rfl, rfl, rfl⟩
  · exact absurd h1 (by decide)
  · exact absurd h1 (by decide)
  · exact absurd h1 (by decide)
  · exact absurd h1 (by decide)
  · exact absurd h1 (by decide)
  · exact absurd h1 (by decide)
  · exact absurd h1 (by decide)
  · exact absurd h1 (by decide)
  · exact absurd h1 (by decide)
  · exact absurd h1 (by decide)
  · exact absurd h1 (by decide)
  · exact absurd h1 (by decide)
  · exact absurd h1 (by decide)
  · exact absurd h1 (by decide)
  · exact absurd h1 (by decide)
  · exact absurd h1 (by decide)
  · exact absurd h1 (by decide)
  · exact absurd h1 (by decide)
  · exact absurd h1 (by decide)
  · exact absurd h1 (by decide)
  · exact absurd h1 (by decide)
theorem de2 (X : K.In h) (Y : h.Ns mainGlobals mg) (c : He.SaysD fa fn K) {fd : FuncData} (F : FunD K d2.name d2.qual d2.params d2.body d2.scope (d2.dvs K) (d2.kws K) (He.fAd K d2.at_) fd) : De T K mg (gr K) 2 "is_change" [] (He.fAd K d2.at_) fd ["thing"] := by
  refine ⟨He.glo_ok X Y (c.fact 2 (f := .glo "is_change") rfl), F.kp, by decide +kernel, [], [], .nil, fun _ _ => .nil, fun n ks pm hm => ?_⟩
  simp only [T, List.mem_cons, Prod.mk.injEq, List.not_mem_nil, or_false] at hm
  rcases hm with ⟨h1, rfl, rfl, rfl⟩ | ⟨h1, rfl, rfl, rfl⟩ | ⟨h1, rfl, rfl, rfl⟩ | ⟨h1, rfl, rfl, rfl⟩ | ⟨h1, rfl, rfl, rfl⟩ | ⟨h1, rfl, rfl, rfl⟩ | ⟨h1, rfl, rfl, rfl⟩ | ⟨h1, rfl, rfl, rfl⟩ | ⟨h1, rfl, rfl, rfl⟩ | ⟨h1, rfl, rfl, rfl⟩ | ⟨h1, rfl, rfl, rfl⟩ | ⟨h1, rfl, rfl, rfl⟩ | ⟨h1, rfl, rfl, rfl⟩ | ⟨h1, rfl, rfl, rfl⟩ | ⟨h1, rfl, rfl, rfl⟩ | ⟨h1, rfl, rfl, rfl⟩ | ⟨h1, rfl, rfl, rfl⟩ | ⟨h1, rfl, rfl, rfl⟩ | ⟨h1, rfl, rfl, rfl⟩ | ⟨h1, rfl, rfl, rfl⟩ | ⟨h1, rfl, rfl, rfl⟩ | ⟨h1, rfl, rfl, rfl⟩ | ⟨h1, rfl, rfl, rfl⟩
  · exact absurd h1 (by decide)
  · exact absurd h1 (by decide)
  · exact absurd h1 (by decide)
  · exact absurd h1 (by decide)
  · exact absurd h1 (by decide)
  · exact absurd h1 (by decide)
  · exact absurd h1 (by decide)
  · exact absurd h1 (by decide)
  · exact absurd h1 (by decide)
  · exact absurd h1 (by decide)
  · exact absurd h1 (by decide)
  · exact absurd h1 (by decide)
  · exact absurd h1 (by decide)
  · exact absurd h1 (by decide)
  · exact absurd h1 (by decide)
  · exact absurd h1 (by decide)
  · exact absurd h1 (by decide)
  · exact absurd h1 (by decide)
  · exact absurd h1 (by decide)
  · exact absurd h1 (by decide)
  · exact absurd h1 (by decide)
  · exact absurd h1 (by decide)
  · exact kb_no F fun _ _ _ _ _ _ us ws l1 l2 => match us, ws, l1, l2 with | [u0], [], _, _ => ⟨_, rfl, rfl, rfl⟩
theorem de3 (X : K.In h) (Y : h.Ns mainGlobals mg) (c : He.SaysD fa fn K) {fd : FuncData} (F : FunD K d3.name d3.qual d3.params d3.body d3.scope (d3.dvs K) (d3.kws K) (He.fAd K d3.at_) fd) : De T K mg (gr K) 3 "wanted" [] (He.fAd K d3.at_) fd ["change"] := by
  refine ⟨He.glo_ok X Y (c.fact 3 (f := .glo "wanted") rfl), F.kp, by decide +kernel, [], [], .nil, fun _ _ => .nil, fun n ks pm hm => ?_⟩
  simp only [T, List.mem_cons, Prod.mk.injEq, List.not_mem_nil, or_false] at hm
  rcases hm with ⟨h1, rfl, rfl, rfl⟩ | ⟨h1, rfl, rfl, rfl⟩ | ⟨h1, rfl, rfl, rfl⟩ | ⟨h1, rfl, rfl, rfl⟩ | ⟨h1, rfl, rfl, rfl⟩ | ⟨h1, rfl, rfl, rfl⟩ | ⟨h1, rfl, rfl, rfl⟩ | ⟨h1, rfl, rfl, rfl⟩ | ⟨h1, rfl, rfl, rfl⟩ | ⟨h1, rfl, rfl, rfl⟩ | ⟨h1, rfl, rfl, rfl⟩ | ⟨h1, rfl, rfl, rfl⟩ | ⟨h1, rfl, rfl, rfl⟩ | ⟨h1, rfl, rfl, rfl⟩ | ⟨h1, rfl, rfl, rfl⟩ | ⟨h1, rfl, rfl, rfl⟩ | ⟨h1, rfl, rfl, rfl⟩ | ⟨h1, rfl, rfl, rfl⟩ | ⟨h1, rfl, rfl, rfl⟩ | ⟨h1, rfl, rfl, rfl⟩ | ⟨h1, rfl, rfl, rfl⟩ | ⟨h1, rfl, rfl, rfl⟩ | ⟨h1, rfl, rfl, rfl⟩
  · exact absurd h1 (by decide)
  · exact absurd h1 (by decide)
  · exact absurd h1 (by decide)
  · exact kb_no F fun _ _ _ _ _ _ us ws l1 l2 => match us, ws, l1, l2 with | [u0], [], _, _ => ⟨_, rfl, rfl, rfl⟩
  · exact absurd h1 (by decide)
  · exact absurd h1 (by decide)
  · exact absurd h1 (by decide)
  · exact absurd h1 (by decide)
  · exact absurd h1 (by decide)
  · exact absurd h1 (by decide)
  · exact absurd h1 (by decide)
  · exact absurd h1 (by decide)
  · exact absurd h1 (by decide)
  · exact absurd h1 (by decide)
  · exact absurd h1 (by decide)
  · exact absurd h1 (by decide)
  · exact absurd h1 (by decide)
  · exact absurd h1 (by decide)
  · exact absurd h1 (by decide)
  · exact absurd h1 (by decide)
  · exact absurd h1 (by decide)
  · exact absurd h1 (by decide)
  · exact absurd h1 (by decide)
theorem de4 (X : K.In h) (Y : h.Ns mainGlobals mg) (c : He.SaysD fa fn K) {fd : FuncData} (F : FunD K d4.name d4.qual d4.params d4.body d4.scope (d4.dvs K) (d4.kws K) (He.fAd K d4.at_) fd) : De T K mg (gr K) 4 "makes" [] (He.fAd K d4.at_) fd ["change"] := by
  refine ⟨He.glo_ok X Y (c.fact 4 (f := .glo "makes") rfl), F.kp, by decide +kernel, [], [], .nil, fun _ _ => .nil, fun n ks pm hm => ?_⟩
  simp only [T, List.mem_cons, Prod.mk.injEq, List.not_mem_nil, or_false] at hm
  rcases hm with ⟨h1, rfl, rfl, rfl⟩ | ⟨h1, rfl, rfl, rfl⟩ | ⟨h1, rfl, rfl, rfl⟩ | ⟨h1, rfl, rfl, rfl⟩ | ⟨h1, rfl, rfl, rfl⟩ | ⟨h1, rfl, rfl, rfl⟩ | ⟨h1, rfl, rfl, rfl⟩ | ⟨h1, rfl, rfl, rfl⟩ | ⟨h1, rfl, rfl, rfl⟩ | ⟨h1, rfl, rfl, rfl⟩ | ⟨h1, rfl, rfl, rfl⟩ | ⟨h1, rfl, rfl, rfl⟩ | ⟨h1, rfl, rfl, rfl⟩ | ⟨h1, rfl, rfl, rfl⟩ | ⟨h1, rfl, rfl, rfl⟩ | ⟨h1, rfl, rfl, rfl⟩ | ⟨h1, rfl, rfl, rfl⟩ | ⟨h1, rfl, rfl, rfl⟩ | ⟨h1, rfl, rfl, rfl⟩ | ⟨h1, rfl, rfl, rfl⟩ | ⟨h1, rfl, rfl, rfl⟩ | ⟨h1, rfl, rfl, rfl⟩ | ⟨h1, rfl, rfl, rfl⟩
  · exact absurd h1 (by decide)
  · exact absurd h1 (by decide)
  · exact absurd h1 (by decide)
  · exact absurd h1 (by decide)
  · exact absurd h1 (by decide)
  · exact absurd h1 (by decide)
  · exact absurd h1 (by decide)
  · exact kb_no F fun _ _ _ _ _ _ us ws l1 l2 => match us, ws, l1, l2 with | [u0], [], _, _ => ⟨_, rfl, rfl, rfl⟩
  · exact absurd h1 (by decide)
  · exact absurd h1 (by decide)
  · exact absurd h1 (by decide)
  · exact absurd h1 (by decide)
  · exact absurd h1 (by decide)
  · exact absurd h1 (by decide)
  · exact absurd h1 (by decide)
  · exact absurd h1 (by decide)
  · exact absurd h1 (by decide)
  · exact absurd h1 (by decide)
  · exact absurd h1 (by decide)
  · exact absurd h1 (by decide)
  · exact absurd h1 (by decide)
  · exact absurd h1 (by decide)
  · exact absurd h1 (by decide)
theorem de5 (X : K.In h) (Y : h.Ns mainGlobals mg) (c : He.SaysD fa fn K) {fd : FuncData} (F : FunD K d5.name d5.qual d5.params d5.body d5.scope (d5.dvs K) (d5.kws K) (He.fAd K d5.at_) fd) : De T K mg (gr K) 5 "spelt" [] (He.fAd K d5.at_) fd ["change"] := by
  refine ⟨He.glo_ok X Y (c.fact 5 (f := .glo "spelt") rfl), F.kp, by decide +kernel, [], [], .nil, fun _ _ => .nil, fun n ks pm hm => ?_⟩
  simp only [T, List.mem_cons, Prod.mk.injEq, List.not_mem_nil, or_false] at hm
  rcases hm with ⟨h1, rfl, rfl, rfl⟩ | ⟨h1, rfl, rfl, rfl⟩ | ⟨h1, rfl, rfl, rfl⟩ | ⟨h1, rfl, rfl, rfl⟩ | ⟨h1, rfl, rfl, rfl⟩ | ⟨h1, rfl, rfl, rfl⟩ | ⟨h1, rfl, rfl, rfl⟩ | ⟨h1, rfl, rfl, rfl⟩ | ⟨h1, rfl, rfl, rfl⟩ | ⟨h1, rfl, rfl, rfl⟩ | ⟨h1, rfl, rfl, rfl⟩ | ⟨h1, rfl, rfl, rfl⟩ | ⟨h1, rfl, rfl, rfl⟩ | ⟨h1, rfl, rfl, rfl⟩ | ⟨h1, rfl, rfl, rfl⟩ | ⟨h1, rfl, rfl, rfl⟩ | ⟨h1, rfl, rfl, rfl⟩ | ⟨h1, rfl, rfl, rfl⟩ | ⟨h1, rfl, rfl, rfl⟩ | ⟨h1, rfl, rfl, rfl⟩ | ⟨h1, rfl, rfl, rfl⟩ | ⟨h1, rfl, rfl, rfl⟩ | ⟨h1, rfl, rfl, rfl⟩
  · exact absurd h1 (by decide)
  · exact absurd h1 (by decide)
  · exact absurd h1 (by decide)
  · exact absurd h1 (by decide)
  · exact kb_no F fun _ _ _ _ _ _ us ws l1 l2 => match us, ws, l1, l2 with | [u0], [], _, _ => ⟨_, rfl, rfl, rfl⟩
  · exact absurd h1 (by decide)
  · exact absurd h1 (by decide)
  · exact absurd h1 (by decide)
  · exact absurd h1 (by decide)
  · exact absurd h1 (by decide)
  · exact absurd h1 (by decide)
  · exact absurd h1 (by decide)
  · exact absurd h1 (by decide)
  · exact absurd h1 (by decide)
  · exact absurd h1 (by decide)
  · exact absurd h1 (by decide)
  · exact absurd h1 (by decide)
  · exact absurd h1 (by decide)
  · exact absurd h1 (by decide)
  · exact absurd h1 (by decide)
  · exact absurd h1 (by decide)
  · exact absurd h1 (by decide)
  · exact absurd h1 (by decide)
theorem de6 (X : K.In h) (Y : h.Ns mainGlobals mg) (c : He.SaysD fa fn K) {fd : FuncData} (F : FunD K d6.name d6.qual d6.params d6.body d6.scope (d6.dvs K) (d6.kws K) (He.fAd K d6.at_) fd) : De T K mg (gr K) 6 "grown" [] (He.fAd K d6.at_) fd ["parts", "word", "what"] := by
  refine ⟨He.glo_ok X Y (c.fact 6 (f := .glo "grown") rfl), F.kp, by decide +kernel, [], [], .nil, fun _ _ => .nil, fun n ks pm hm => ?_⟩
  simp only [T, List.mem_cons, Prod.mk.injEq, List.not_mem_nil, or_false] at hm
  rcases hm with ⟨h1, rfl, rfl, rfl⟩ | ⟨h1, rfl, rfl, rfl⟩ | ⟨h1, rfl, rfl, rfl⟩ | ⟨h1, rfl, rfl, rfl⟩ | ⟨h1, rfl, rfl, rfl⟩ | ⟨h1, rfl, rfl, rfl⟩ | ⟨h1, rfl, rfl, rfl⟩ | ⟨h1, rfl, rfl, rfl⟩ | ⟨h1, rfl, rfl, rfl⟩ | ⟨h1, rfl, rfl, rfl⟩ | ⟨h1, rfl, rfl, rfl⟩ | ⟨h1, rfl, rfl, rfl⟩ | ⟨h1, rfl, rfl, rfl⟩ | ⟨h1, rfl, rfl, rfl⟩ | ⟨h1, rfl, rfl, rfl⟩ | ⟨h1, rfl, rfl, rfl⟩ | ⟨h1, rfl, rfl, rfl⟩ | ⟨h1, rfl, rfl, rfl⟩ | ⟨h1, rfl, rfl, rfl⟩ | ⟨h1, rfl, rfl, rfl⟩ | ⟨h1, rfl, rfl, rfl⟩ | ⟨h1, rfl, rfl, rfl⟩ | ⟨h1, rfl, rfl, rfl⟩
  · exact absurd h1 (by decide)
  · exact absurd h1 (by decide)
  · exact kb_no F fun _ _ _ _ _ _ us ws l1 l2 => match us, ws, l1, l2 with | [u0, u1, u2], [], _, _ => ⟨_, rfl, rfl, rfl⟩
  · exact absurd h1 (by decide)
  · exact absurd h1 (by decide)
  · exact absurd h1 (by decide)
  · exact absurd h1 (by decide)
  · exact absurd h1 (by decide)
  · exact absurd h1 (by decide)
  · exact absurd h1 (by decide)
  · exact absurd h1 (by decide)
  · exact absurd h1 (by decide)
  · exact absurd h1 (by decide)
  · exact absurd h1 (by decide)
  · exact absurd h1 (by decide)
  · exact absurd h1 (by decide)
  · exact absurd h1 (by decide)
  · exact absurd h1 (by decide)
  · exact absurd h1 (by decide)
  · exact absurd h1 (by decide)
  · exact absurd h1 (by decide)
  · exact absurd h1 (by decide)
  · exact absurd h1 (by decide)
theorem de7 (X : K.In h) (Y : h.Ns mainGlobals mg) (c : He.SaysD fa fn K) {fd : FuncData} (F : FunD K d7.name d7.qual d7.params d7.body d7.scope (d7.dvs K) (d7.kws K) (He.fAd K d7.at_) fd) : De T K mg (gr K) 7 "change_by" [] (He.fAd K d7.at_) fd ["many", "items"] := by
  refine ⟨He.glo_ok X Y (c.fact 7 (f := .glo "change_by") rfl), F.kp, by decide +kernel, [], [], .nil, fun _ _ => .nil, fun n ks pm hm => ?_⟩
  simp only [T, List.mem_cons, Prod.mk.injEq, List.not_mem_nil, or_false] at hm
  rcases hm with ⟨h1, rfl, rfl, rfl⟩ | ⟨h1, rfl, rfl, rfl⟩ | ⟨h1, rfl, rfl, rfl⟩ | ⟨h1, rfl, rfl, rfl⟩ | ⟨h1, rfl, rfl, rfl⟩ | ⟨h1, rfl, rfl, rfl⟩ | ⟨h1, rfl, rfl, rfl⟩ | ⟨h1, rfl, rfl, rfl⟩ | ⟨h1, rfl, rfl, rfl⟩ | ⟨h1, rfl, rfl, rfl⟩ | ⟨h1, rfl, rfl, rfl⟩ | ⟨h1, rfl, rfl, rfl⟩ | ⟨h1, rfl, rfl, rfl⟩ | ⟨h1, rfl, rfl, rfl⟩ | ⟨h1, rfl, rfl, rfl⟩ | ⟨h1, rfl, rfl, rfl⟩ | ⟨h1, rfl, rfl, rfl⟩ | ⟨h1, rfl, rfl, rfl⟩ | ⟨h1, rfl, rfl, rfl⟩ | ⟨h1, rfl, rfl, rfl⟩ | ⟨h1, rfl, rfl, rfl⟩ | ⟨h1, rfl, rfl, rfl⟩ | ⟨h1, rfl, rfl, rfl⟩
  · exact absurd h1 (by decide)
  · exact absurd h1 (by decide)
  · exact absurd h1 (by decide)
  · exact absurd h1 (by decide)
  · exact absurd h1 (by decide)
  · exact absurd h1 (by decide)
  · exact kb_no F fun _ _ _ _ _ _ us ws l1 l2 => match us, ws, l1, l2 with | [u0, u1], [], _, _ => ⟨_, rfl, rfl, rfl⟩
  · exact absurd h1 (by decide)
  · exact absurd h1 (by decide)
  · exact absurd h1 (by decide)
  · exact absurd h1 (by decide)
  · exact absurd h1 (by decide)
  · exact absurd h1 (by decide)
  · exact absurd h1 (by decide)
  · exact absurd h1 (by decide)
  · exact absurd h1 (by decide)
  · exact absurd h1 (by decide)
  · exact absurd h1 (by decide)
  · exact absurd h1 (by decide)
  · exact absurd h1 (by decide)
  · exact absurd h1 (by decide)
  · exact absurd h1 (by decide)
  · exact absurd h1 (by decide)
theorem de8 (X : K.In h) (Y : h.Ns mainGlobals mg) (c : He.SaysD fa fn K) {fd : FuncData} (F : FunD K d8.name d8.qual d8.params d8.body d8.scope (d8.dvs K) (d8.kws K) (He.fAd K d8.at_) fd) : De T K mg (gr K) 8 "changed" [] (He.fAd K d8.at_) fd ["text", "change"] := by
  refine ⟨He.glo_ok X Y (c.fact 8 (f := .glo "changed") rfl), F.kp, by decide +kernel, [], [], .nil, fun _ _ => .nil, fun n ks pm hm => ?_⟩
  simp only [T, List.mem_cons, Prod.mk.injEq, List.not_mem_nil, or_false] at hm
  rcases hm with ⟨h1, rfl, rfl, rfl⟩ | ⟨h1, rfl, rfl, rfl⟩ | ⟨h1, rfl, rfl, rfl⟩ | ⟨h1, rfl, rfl, rfl⟩ | ⟨h1, rfl, rfl, rfl⟩ | ⟨h1, rfl, rfl, rfl⟩ | ⟨h1, rfl, rfl, rfl⟩ | ⟨h1, rfl, rfl, rfl⟩ | ⟨h1, rfl, rfl, rfl⟩ | ⟨h1, rfl, rfl, rfl⟩ | ⟨h1, rfl, rfl, rfl⟩ | ⟨h1, rfl, rfl, rfl⟩ | ⟨h1, rfl, rfl, rfl⟩ | ⟨h1, rfl, rfl, rfl⟩ | ⟨h1, rfl, rfl, rfl⟩ | ⟨h1, rfl, rfl, rfl⟩ | ⟨h1, rfl, rfl, rfl⟩ | ⟨h1, rfl, rfl, rfl⟩ | ⟨h1, rfl, rfl, rfl⟩ | ⟨h1, rfl, rfl, rfl⟩ | ⟨h1, rfl, rfl, rfl⟩ | ⟨h1, rfl, rfl, rfl⟩ | ⟨h1, rfl, rfl, rfl⟩
  · exact absurd h1 (by decide)
  · exact absurd h1 (by decide)
  · exact absurd h1 (by decide)
  · exact absurd h1 (by decide)
  · exact absurd h1 (by decide)
  · exact absurd h1 (by decide)
  · exact absurd h1 (by decide)
  · exact absurd h1 (by decide)
  · exact absurd h1 (by decide)
  · exact absurd h1 (by decide)
  · exact absurd h1 (by decide)
  · exact absurd h1 (by decide)
  · exact absurd h1 (by decide)
  · exact absurd h1 (by decide)
  · exact absurd h1 (by decide)
  · exact absurd h1 (by decide)
  · exact absurd h1 (by decide)
  · exact absurd h1 (by decide)
  · exact absurd h1 (by decide)
  · exact absurd h1 (by decide)
  · exact kb_no F fun _ _ _ _ _ _ us ws l1 l2 => match us, ws, l1, l2 with | [u0, u1], [], _, _ => ⟨_, rfl, rfl, rfl⟩
  · exact absurd h1 (by decide)
  · exact absurd h1 (by decide)
theorem de9 (X : K.In h) (Y : h.Ns mainGlobals mg) (c : He.SaysD fa fn K) {fd : FuncData} (F : FunD K d9.name d9.qual d9.params d9.body d9.scope (d9.dvs K) (d9.kws K) (He.fAd K d9.at_) fd) : De T K mg (gr K) 9 "made_of" [] (He.fAd K d9.at_) fd ["change"] := by
  refine ⟨He.glo_ok X Y (c.fact 9 (f := .glo "made_of") rfl), F.kp, by decide +kernel, [], [], .nil, fun _ _ => .nil, fun n ks pm hm => ?_⟩
  simp only [T, List.mem_cons, Prod.mk.injEq, List.not_mem_nil, or_false] at hm
  rcases hm with ⟨h1, rfl, rfl, rfl⟩ | ⟨h1, rfl, rfl, rfl⟩ | ⟨h1, rfl, rfl, rfl⟩ | ⟨h1, rfl, rfl, rfl⟩ | ⟨h1, rfl, rfl, rfl⟩ | ⟨h1, rfl, rfl, rfl⟩ | ⟨h1, rfl, rfl, rfl⟩ | ⟨h1, rfl, rfl, rfl⟩ | ⟨h1, rfl, rfl, rfl⟩ | ⟨h1, rfl, rfl, rfl⟩ | ⟨h1, rfl, rfl, rfl⟩ | ⟨h1, rfl, rfl, rfl⟩ | ⟨h1, rfl, rfl, rfl⟩ | ⟨h1, rfl, rfl, rfl⟩ | ⟨h1, rfl, rfl, rfl⟩ | ⟨h1, rfl, rfl, rfl⟩ | ⟨h1, rfl, rfl, rfl⟩ | ⟨h1, rfl, rfl, rfl⟩ | ⟨h1, rfl, rfl, rfl⟩ | ⟨h1, rfl, rfl, rfl⟩ | ⟨h1, rfl, rfl, rfl⟩ | ⟨h1, rfl, rfl, rfl⟩ | ⟨h1, rfl, rfl, rfl⟩
  · exact absurd h1 (by decide)
  · exact absurd h1 (by decide)
  · exact absurd h1 (by decide)
  · exact absurd h1 (by decide)
  · exact absurd h1 (by decide)
  · exact kb_no F fun _ _ _ _ _ _ us ws l1 l2 => match us, ws, l1, l2 with | [u0], [], _, _ => ⟨_, rfl, rfl, rfl⟩
  · exact absurd h1 (by decide)
  · exact absurd h1 (by decide)
  · exact absurd h1 (by decide)
  · exact absurd h1 (by decide)
  · exact absurd h1 (by decide)
  · exact absurd h1 (by decide)
  · exact absurd h1 (by decide)
  · exact absurd h1 (by decide)
  · exact absurd h1 (by decide)
  · exact absurd h1 (by decide)
  · exact absurd h1 (by decide)
  · exact absurd h1 (by decide)
  · exact absurd h1 (by decide)
  · exact absurd h1 (by decide)
  · exact absurd h1 (by decide)
  · exact absurd h1 (by decide)
  · exact absurd h1 (by decide)
theorem de10 (X : K.In h) (Y : h.Ns mainGlobals mg) (c : He.SaysD fa fn K) {fd : FuncData} (F : FunD K d10.name d10.qual d10.params d10.body d10.scope (d10.dvs K) (d10.kws K) (He.fAd K d10.at_) fd) : De T K mg (gr K) 10 "behind" [] (He.fAd K d10.at_) fd ["one", "other"] := by
  refine ⟨He.glo_ok X Y (c.fact 10 (f := .glo "behind") rfl), F.kp, by decide +kernel, [], [], .nil, fun _ _ => .nil, fun n ks pm hm => ?_⟩
  simp only [T, List.mem_cons, Prod.mk.injEq, List.not_mem_nil, or_false] at hm
  rcases hm with ⟨h1, rfl, rfl, rfl⟩ | ⟨h1, rfl, rfl, rfl⟩ | ⟨h1, rfl, rfl, rfl⟩ | ⟨h1, rfl, rfl, rfl⟩ | ⟨h1, rfl, rfl, rfl⟩ | ⟨h1, rfl, rfl, rfl⟩ | ⟨h1, rfl, rfl, rfl⟩ | ⟨h1, rfl, rfl, rfl⟩ | ⟨h1, rfl, rfl, rfl⟩ | ⟨h1, rfl, rfl, rfl⟩ | ⟨h1, rfl, rfl, rfl⟩ | ⟨h1, rfl, rfl, rfl⟩ | ⟨h1, rfl, rfl, rfl⟩ | ⟨h1, rfl, rfl, rfl⟩ | ⟨h1, rfl, rfl, rfl⟩ | ⟨h1, rfl, rfl, rfl⟩ | ⟨h1, rfl, rfl, rfl⟩ | ⟨h1, rfl, rfl, rfl⟩ | ⟨h1, rfl, rfl, rfl⟩ | ⟨h1, rfl, rfl, rfl⟩ | ⟨h1, rfl, rfl, rfl⟩ | ⟨h1, rfl, rfl, rfl⟩ | ⟨h1, rfl, rfl, rfl⟩
  · exact absurd h1 (by decide)
  · exact absurd h1 (by decide)
  · exact absurd h1 (by decide)
  · exact absurd h1 (by decide)
  · exact absurd h1 (by decide)
  · exact absurd h1 (by decide)
  · exact absurd h1 (by decide)
  · exact absurd h1 (by decide)
  · exact absurd h1 (by decide)
  · exact absurd h1 (by decide)
  · exact absurd h1 (by decide)
  · exact absurd h1 (by decide)
  · exact absurd h1 (by decide)
  · exact absurd h1 (by decide)
  · exact absurd h1 (by decide)
  · exact absurd h1 (by decide)
  · exact absurd h1 (by decide)
  · exact absurd h1 (by decide)
  · exact absurd h1 (by decide)
  · exact absurd h1 (by decide)
  · exact absurd h1 (by decide)
  · exact kb_no F fun _ _ _ _ _ _ us ws l1 l2 => match us, ws, l1, l2 with | [u0, u1], [], _, _ => ⟨_, rfl, rfl, rfl⟩
  · exact absurd h1 (by decide)
theorem de11 (X : K.In h) (Y : h.Ns mainGlobals mg) (c : He.SaysD fa fn K) {fd : FuncData} (F : FunD K d11.name d11.qual d11.params d11.body d11.scope (d11.dvs K) (d11.kws K) (He.fAd K d11.at_) fd) : De T K mg (gr K) 11 "led" [] (He.fAd K d11.at_) fd ["one", "other", "ahead"] := by
  refine ⟨He.glo_ok X Y (c.fact 11 (f := .glo "led") rfl), F.kp, by decide +kernel, [], [], .nil, fun _ _ => .nil, fun n ks pm hm => ?_⟩
  simp only [T, List.mem_cons, Prod.mk.injEq, List.not_mem_nil, or_false] at hm
  rcases hm with ⟨h1, rfl, rfl, rfl⟩ | ⟨h1, rfl, rfl, rfl⟩ | ⟨h1, rfl, rfl, rfl⟩ | ⟨h1, rfl, rfl, rfl⟩ | ⟨h1, rfl, rfl, rfl⟩ | ⟨h1, rfl, rfl, rfl⟩ | ⟨h1, rfl, rfl, rfl⟩ | ⟨h1, rfl, rfl, rfl⟩ | ⟨h1, rfl, rfl, rfl⟩ | ⟨h1, rfl, rfl, rfl⟩ | ⟨h1, rfl, rfl, rfl⟩ | ⟨h1, rfl, rfl, rfl⟩ | ⟨h1, rfl, rfl, rfl⟩ | ⟨h1, rfl, rfl, rfl⟩ | ⟨h1, rfl, rfl, rfl⟩ | ⟨h1, rfl, rfl, rfl⟩ | ⟨h1, rfl, rfl, rfl⟩ | ⟨h1, rfl, rfl, rfl⟩ | ⟨h1, rfl, rfl, rfl⟩ | ⟨h1, rfl, rfl, rfl⟩ | ⟨h1, rfl, rfl, rfl⟩ | ⟨h1, rfl, rfl, rfl⟩ | ⟨h1, rfl, rfl, rfl⟩
  · exact absurd h1 (by decide)
  · exact absurd h1 (by decide)
  · exact absurd h1 (by decide)
  · exact absurd h1 (by decide)
  · exact absurd h1 (by decide)
  · exact absurd h1 (by decide)
  · exact absurd h1 (by decide)
  · exact absurd h1 (by decide)
  · exact kb_no F fun _ _ _ _ _ _ us ws l1 l2 => match us, ws, l1, l2 with | [u0, u1], [v0], _, _ => ⟨_, rfl, rfl, rfl⟩
  · exact absurd h1 (by decide)
  · exact absurd h1 (by decide)
  · exact absurd h1 (by decide)
  · exact absurd h1 (by decide)
  · exact absurd h1 (by decide)
  · exact absurd h1 (by decide)
  · exact absurd h1 (by decide)
  · exact absurd h1 (by decide)
  · exact absurd h1 (by decide)
  · exact absurd h1 (by decide)
  · exact absurd h1 (by decide)
  · exact absurd h1 (by decide)
  · exact absurd h1 (by decide)
  · exact absurd h1 (by decide)
theorem de12 (X : K.In h) (Y : h.Ns mainGlobals mg) (c : He.SaysD fa fn K) {fd : FuncData} (F : FunD K d12.name d12.qual d12.params d12.body d12.scope (d12.dvs K) (d12.kws K) (He.fAd K d12.at_) fd) : De T K mg (gr K) 12 "beside" [] (He.fAd K d12.at_) fd ["one", "other"] := by
  refine ⟨He.glo_ok X Y (c.fact 12 (f := .glo "beside") rfl), F.kp, by decide +kernel, [], [], .nil, fun _ _ => .nil, fun n ks pm hm => ?_⟩
  simp only [T, List.mem_cons, Prod.mk.injEq, List.not_mem_nil, or_false] at hm
  rcases hm with ⟨h1, rfl, rfl, rfl⟩ | ⟨h1, rfl, rfl, rfl⟩ | ⟨h1, rfl, rfl, rfl⟩ | ⟨h1, rfl, rfl, rfl⟩ | ⟨h1, rfl, rfl, rfl⟩ | ⟨h1, rfl, rfl, rfl⟩ | ⟨h1, rfl, rfl, rfl⟩ | ⟨h1, rfl, rfl, rfl⟩ | ⟨h1, rfl, rfl, rfl⟩ | ⟨h1, rfl, rfl, rfl⟩ | ⟨h1, rfl, rfl, rfl⟩ | ⟨h1, rfl, rfl, rfl⟩ | ⟨h1, rfl, rfl, rfl⟩ | ⟨h1, rfl, rfl, rfl⟩ | ⟨h1, rfl, rfl, rfl⟩ | ⟨h1, rfl, rfl, rfl⟩ | ⟨h1, rfl, rfl, rfl⟩ | ⟨h1, rfl, rfl, rfl⟩ | ⟨h1, rfl, rfl, rfl⟩ | ⟨h1, rfl, rfl, rfl⟩ | ⟨h1, rfl, rfl, rfl⟩ | ⟨h1, rfl, rfl, rfl⟩ | ⟨h1, rfl, rfl, rfl⟩
  · exact absurd h1 (by decide)
  · exact absurd h1 (by decide)
  · exact absurd h1 (by decide)
  · exact absurd h1 (by decide)
  · exact absurd h1 (by decide)
  · exact absurd h1 (by decide)
  · exact absurd h1 (by decide)
  · exact absurd h1 (by decide)
  · exact absurd h1 (by decide)
  · exact absurd h1 (by decide)
  · exact absurd h1 (by decide)
  · exact absurd h1 (by decide)
  · exact kb_no F fun _ _ _ _ _ _ us ws l1 l2 => match us, ws, l1, l2 with | [u0, u1], [], _, _ => ⟨_, rfl, rfl, rfl⟩
  · exact absurd h1 (by decide)
  · exact absurd h1 (by decide)
  · exact absurd h1 (by decide)
  · exact absurd h1 (by decide)
  · exact absurd h1 (by decide)
  · exact absurd h1 (by decide)
  · exact absurd h1 (by decide)
  · exact absurd h1 (by decide)
  · exact absurd h1 (by decide)
  · exact absurd h1 (by decide)
theorem de13 (X : K.In h) (Y : h.Ns mainGlobals mg) (c : He.SaysD fa fn K) {fd : FuncData} (F : FunD K d13.name d13.qual d13.params d13.body d13.scope (d13.dvs K) (d13.kws K) (He.fAd K d13.at_) fd) : De T K mg (gr K) 13 "_law_pool" [] (He.fAd K d13.at_) fd ["_law_script", "_law_k"] := by
  refine ⟨He.glo_ok X Y (c.fact 13 (f := .glo "_law_pool") rfl), F.kp, by decide +kernel, [], [], .nil, fun _ _ => .nil, fun n ks pm hm => ?_⟩
  simp only [T, List.mem_cons, Prod.mk.injEq, List.not_mem_nil, or_false] at hm
  rcases hm with ⟨h1, rfl, rfl, rfl⟩ | ⟨h1, rfl, rfl, rfl⟩ | ⟨h1, rfl, rfl, rfl⟩ | ⟨h1, rfl, rfl, rfl⟩ | ⟨h1, rfl, rfl, rfl⟩ | ⟨h1, rfl, rfl, rfl⟩ | ⟨h1, rfl, rfl, rfl⟩ | ⟨h1, rfl, rfl, rfl⟩ | ⟨h1, rfl, rfl, rfl⟩ | ⟨h1, rfl, rfl, rfl⟩ | ⟨h1, rfl, rfl, rfl⟩ | ⟨h1, rfl, rfl, rfl⟩ | ⟨h1, rfl, rfl, rfl⟩ | ⟨h1, rfl, rfl, rfl⟩ | ⟨h1, rfl, rfl, rfl⟩ | ⟨h1, rfl, rfl, rfl⟩ | ⟨h1, rfl, rfl, rfl⟩ | ⟨h1, rfl, rfl, rfl⟩ | ⟨h1, rfl, rfl, rfl⟩ | ⟨h1, rfl, rfl, rfl⟩ | ⟨h1, rfl, rfl, rfl⟩ | ⟨h1, rfl, rfl, rfl⟩ | ⟨h1, rfl, rfl, rfl⟩
  · exact absurd h1 (by decide)
  · exact absurd h1 (by decide)
  · exact absurd h1 (by decide)
  · exact absurd h1 (by decide)
  · exact absurd h1 (by decide)
  · exact absurd h1 (by decide)
  · exact absurd h1 (by decide)
  · exact absurd h1 (by decide)
  · exact absurd h1 (by decide)
  · exact absurd h1 (by decide)
  · exact absurd h1 (by decide)
  · exact absurd h1 (by decide)
  · exact absurd h1 (by decide)
  · exact kb_no F fun _ _ _ _ _ _ us ws l1 l2 => match us, ws, l1, l2 with | [u0, u1], [], _, _ => ⟨_, rfl, rfl, rfl⟩
  · exact absurd h1 (by decide)
  · exact absurd h1 (by decide)
  · exact absurd h1 (by decide)
  · exact absurd h1 (by decide)
  · exact absurd h1 (by decide)
  · exact absurd h1 (by decide)
  · exact absurd h1 (by decide)
  · exact absurd h1 (by decide)
  · exact absurd h1 (by decide)
theorem de14 (X : K.In h) (Y : h.Ns mainGlobals mg) (c : He.SaysD fa fn K) {fd : FuncData} (F : FunD K d14.name d14.qual d14.params d14.body d14.scope (d14.dvs K) (d14.kws K) (He.fAd K d14.at_) fd) : De T K mg (gr K) 14 "_law_take" [] (He.fAd K d14.at_) fd ["_law_pool_here", "_law_many"] := by
  refine ⟨He.glo_ok X Y (c.fact 14 (f := .glo "_law_take") rfl), F.kp, by decide +kernel, [], [], .nil, fun _ _ => .nil, fun n ks pm hm => ?_⟩
  simp only [T, List.mem_cons, Prod.mk.injEq, List.not_mem_nil, or_false] at hm
  rcases hm with ⟨h1, rfl, rfl, rfl⟩ | ⟨h1, rfl, rfl, rfl⟩ | ⟨h1, rfl, rfl, rfl⟩ | ⟨h1, rfl, rfl, rfl⟩ | ⟨h1, rfl, rfl, rfl⟩ | ⟨h1, rfl, rfl, rfl⟩ | ⟨h1, rfl, rfl, rfl⟩ | ⟨h1, rfl, rfl, rfl⟩ | ⟨h1, rfl, rfl, rfl⟩ | ⟨h1, rfl, rfl, rfl⟩ | ⟨h1, rfl, rfl, rfl⟩ | ⟨h1, rfl, rfl, rfl⟩ | ⟨h1, rfl, rfl, rfl⟩ | ⟨h1, rfl, rfl, rfl⟩ | ⟨h1, rfl, rfl, rfl⟩ | ⟨h1, rfl, rfl, rfl⟩ | ⟨h1, rfl, rfl, rfl⟩ | ⟨h1, rfl, rfl, rfl⟩ | ⟨h1, rfl, rfl, rfl⟩ | ⟨h1, rfl, rfl, rfl⟩ | ⟨h1, rfl, rfl, rfl⟩ | ⟨h1, rfl, rfl, rfl⟩ | ⟨h1, rfl, rfl, rfl⟩
  · exact absurd h1 (by decide)
  · exact absurd h1 (by decide)
  · exact absurd h1 (by decide)
  · exact absurd h1 (by decide)
  · exact absurd h1 (by decide)
  · exact absurd h1 (by decide)
  · exact absurd h1 (by decide)
  · exact absurd h1 (by decide)
  · exact absurd h1 (by decide)
  · exact kb_no F fun _ _ _ _ _ _ us ws l1 l2 => match us, ws, l1, l2 with | [u0, u1], [], _, _ => ⟨_, rfl, rfl, rfl⟩
  · exact absurd h1 (by decide)
  · exact absurd h1 (by decide)
  · exact absurd h1 (by decide)
  · exact absurd h1 (by decide)
  · exact absurd h1 (by decide)
  · exact absurd h1 (by decide)
  · exact absurd h1 (by decide)
  · exact absurd h1 (by decide)
  · exact absurd h1 (by decide)
  · exact absurd h1 (by decide)
  · exact absurd h1 (by decide)
  · exact absurd h1 (by decide)
  · exact absurd h1 (by decide)
theorem de15 (X : K.In h) (Y : h.Ns mainGlobals mg) (c : He.SaysD fa fn K) {fd : FuncData} (F : FunD K d15.name d15.qual d15.params d15.body d15.scope (d15.dvs K) (d15.kws K) (He.fAd K d15.at_) fd) : De T K mg (gr K) 15 "_law_text" [] (He.fAd K d15.at_) fd ["_law_pool_here", "_law_most"] := by
  refine ⟨He.glo_ok X Y (c.fact 15 (f := .glo "_law_text") rfl), F.kp, by decide +kernel, [], [], .nil, fun _ _ => .nil, fun n ks pm hm => ?_⟩
  simp only [T, List.mem_cons, Prod.mk.injEq, List.not_mem_nil, or_false] at hm
  rcases hm with ⟨h1, rfl, rfl, rfl⟩ | ⟨h1, rfl, rfl, rfl⟩ | ⟨h1, rfl, rfl, rfl⟩ | ⟨h1, rfl, rfl, rfl⟩ | ⟨h1, rfl, rfl, rfl⟩ | ⟨h1, rfl, rfl, rfl⟩ | ⟨h1, rfl, rfl, rfl⟩ | ⟨h1, rfl, rfl, rfl⟩ | ⟨h1, rfl, rfl, rfl⟩ | ⟨h1, rfl, rfl, rfl⟩ | ⟨h1, rfl, rfl, rfl⟩ | ⟨h1, rfl, rfl, rfl⟩ | ⟨h1, rfl, rfl, rfl⟩ | ⟨h1, rfl, rfl, rfl⟩ | ⟨h1, rfl, rfl, rfl⟩ | ⟨h1, rfl, rfl, rfl⟩ | ⟨h1, rfl, rfl, rfl⟩ | ⟨h1, rfl, rfl, rfl⟩ | ⟨h1, rfl, rfl, rfl⟩ | ⟨h1, rfl, rfl, rfl⟩ | ⟨h1, rfl, rfl, rfl⟩ | ⟨h1, rfl, rfl, rfl⟩ | ⟨h1, rfl, rfl, rfl⟩
  · exact absurd h1 (by decide)
  · exact absurd h1 (by decide)
  · exact absurd h1 (by decide)
  · exact absurd h1 (by decide)
  · exact absurd h1 (by decide)
  · exact absurd h1 (by decide)
  · exact absurd h1 (by decide)
  · exact absurd h1 (by decide)
  · exact absurd h1 (by decide)
  · exact absurd h1 (by decide)
  · exact absurd h1 (by decide)
  · exact absurd h1 (by decide)
  · exact absurd h1 (by decide)
  · exact absurd h1 (by decide)
  · exact kb_no F fun _ _ _ _ _ _ us ws l1 l2 => match us, ws, l1, l2 with | [u0, u1], [], _, _ => ⟨_, rfl, rfl, rfl⟩
  · exact absurd h1 (by decide)
  · exact absurd h1 (by decide)
  · exact absurd h1 (by decide)
  · exact absurd h1 (by decide)
  · exact absurd h1 (by decide)
  · exact absurd h1 (by decide)
  · exact absurd h1 (by decide)
  · exact absurd h1 (by decide)
theorem de16 (X : K.In h) (Y : h.Ns mainGlobals mg) (c : He.SaysD fa fn K) {fd : FuncData} (F : FunD K d16.name d16.qual d16.params d16.body d16.scope (d16.dvs K) (d16.kws K) (He.fAd K d16.at_) fd) : De T K mg (gr K) 16 "_law_parts" [] (He.fAd K d16.at_) fd ["_law_stays", "_law_puts"] := by
  refine ⟨He.glo_ok X Y (c.fact 16 (f := .glo "_law_parts") rfl), F.kp, by decide +kernel, [], [], .nil, fun _ _ => .nil, fun n ks pm hm => ?_⟩
  simp only [T, List.mem_cons, Prod.mk.injEq, List.not_mem_nil, or_false] at hm
  rcases hm with ⟨h1, rfl, rfl, rfl⟩ | ⟨h1, rfl, rfl, rfl⟩ | ⟨h1, rfl, rfl, rfl⟩ | ⟨h1, rfl, rfl, rfl⟩ | ⟨h1, rfl, rfl, rfl⟩ | ⟨h1, rfl, rfl, rfl⟩ | ⟨h1, rfl, rfl, rfl⟩ | ⟨h1, rfl, rfl, rfl⟩ | ⟨h1, rfl, rfl, rfl⟩ | ⟨h1, rfl, rfl, rfl⟩ | ⟨h1, rfl, rfl, rfl⟩ | ⟨h1, rfl, rfl, rfl⟩ | ⟨h1, rfl, rfl, rfl⟩ | ⟨h1, rfl, rfl, rfl⟩ | ⟨h1, rfl, rfl, rfl⟩ | ⟨h1, rfl, rfl, rfl⟩ | ⟨h1, rfl, rfl, rfl⟩ | ⟨h1, rfl, rfl, rfl⟩ | ⟨h1, rfl, rfl, rfl⟩ | ⟨h1, rfl, rfl, rfl⟩ | ⟨h1, rfl, rfl, rfl⟩ | ⟨h1, rfl, rfl, rfl⟩ | ⟨h1, rfl, rfl, rfl⟩
  · exact absurd h1 (by decide)
  · exact absurd h1 (by decide)
  · exact absurd h1 (by decide)
  · exact absurd h1 (by decide)
  · exact absurd h1 (by decide)
  · exact absurd h1 (by decide)
  · exact absurd h1 (by decide)
  · exact absurd h1 (by decide)
  · exact absurd h1 (by decide)
  · exact absurd h1 (by decide)
  · exact kb_no F fun _ _ _ _ _ _ us ws l1 l2 => match us, ws, l1, l2 with | [u0, u1], [], _, _ => ⟨_, rfl, rfl, rfl⟩
  · exact absurd h1 (by decide)
  · exact absurd h1 (by decide)
  · exact absurd h1 (by decide)
  · exact absurd h1 (by decide)
  · exact absurd h1 (by decide)
  · exact absurd h1 (by decide)
  · exact absurd h1 (by decide)
  · exact absurd h1 (by decide)
  · exact absurd h1 (by decide)
  · exact absurd h1 (by decide)
  · exact absurd h1 (by decide)
  · exact absurd h1 (by decide)
theorem de17 (X : K.In h) (Y : h.Ns mainGlobals mg) (c : He.SaysD fa fn K) {fd : FuncData} (F : FunD K d17.name d17.qual d17.params d17.body d17.scope (d17.dvs K) (d17.kws K) (He.fAd K d17.at_) fd) : De T K mg (gr K) 17 "_law_change" [] (He.fAd K d17.at_) fd ["_law_pool_here", "_law_many"] := by
  refine ⟨He.glo_ok X Y (c.fact 17 (f := .glo "_law_change") rfl), F.kp, by decide +kernel, [], [], .nil, fun _ _ => .nil, fun n ks pm hm => ?_⟩
  simp only [T, List.mem_cons, Prod.mk.injEq, List.not_mem_nil, or_false] at hm
  rcases hm with ⟨h1, rfl, rfl, rfl⟩ | ⟨h1, rfl, rfl, rfl⟩ | ⟨h1, rfl, rfl, rfl⟩ | ⟨h1, rfl, rfl, rfl⟩ | ⟨h1, rfl, rfl, rfl⟩ | ⟨h1, rfl, rfl, rfl⟩ | ⟨h1, rfl, rfl, rfl⟩ | ⟨h1, rfl, rfl, rfl⟩ | ⟨h1, rfl, rfl, rfl⟩ | ⟨h1, rfl, rfl, rfl⟩ | ⟨h1, rfl, rfl, rfl⟩ | ⟨h1, rfl, rfl, rfl⟩ | ⟨h1, rfl, rfl, rfl⟩ | ⟨h1, rfl, rfl, rfl⟩ | ⟨h1, rfl, rfl, rfl⟩ | ⟨h1, rfl, rfl, rfl⟩ | ⟨h1, rfl, rfl, rfl⟩ | ⟨h1, rfl, rfl, rfl⟩ | ⟨h1, rfl, rfl, rfl⟩ | ⟨h1, rfl, rfl, rfl⟩ | ⟨h1, rfl, rfl, rfl⟩ | ⟨h1, rfl, rfl, rfl⟩ | ⟨h1, rfl, rfl, rfl⟩
  · exact absurd h1 (by decide)
  · exact absurd h1 (by decide)
  · exact absurd h1 (by decide)
  · exact absurd h1 (by decide)
  · exact absurd h1 (by decide)
  · exact absurd h1 (by decide)
  · exact absurd h1 (by decide)
  · exact absurd h1 (by decide)
  · exact absurd h1 (by decide)
  · exact absurd h1 (by decide)
  · exact absurd h1 (by decide)
  · exact absurd h1 (by decide)
  · exact absurd h1 (by decide)
  · exact absurd h1 (by decide)
  · exact absurd h1 (by decide)
  · exact absurd h1 (by decide)
  · exact kb_no F fun _ _ _ _ _ _ us ws l1 l2 => match us, ws, l1, l2 with | [u0, u1], [], _, _ => ⟨_, rfl, rfl, rfl⟩
  · exact absurd h1 (by decide)
  · exact absurd h1 (by decide)
  · exact absurd h1 (by decide)
  · exact absurd h1 (by decide)
  · exact absurd h1 (by decide)
  · exact absurd h1 (by decide)
theorem de18 (X : K.In h) (Y : h.Ns mainGlobals mg) (c : He.SaysD fa fn K) {fd : FuncData} (F : FunD K d18.name d18.qual d18.params d18.body d18.scope (d18.dvs K) (d18.kws K) (He.fAd K d18.at_) fd) : De T K mg (gr K) 18 "_law_made" [] (He.fAd K d18.at_) fd ["_law_signs", "_law_stays", "_law_puts"] := by
  refine ⟨He.glo_ok X Y (c.fact 18 (f := .glo "_law_made") rfl), F.kp, by decide +kernel, [], [], .nil, fun _ _ => .nil, fun n ks pm hm => ?_⟩
  simp only [T, List.mem_cons, Prod.mk.injEq, List.not_mem_nil, or_false] at hm
  rcases hm with ⟨h1, rfl, rfl, rfl⟩ | ⟨h1, rfl, rfl, rfl⟩ | ⟨h1, rfl, rfl, rfl⟩ | ⟨h1, rfl, rfl, rfl⟩ | ⟨h1, rfl, rfl, rfl⟩ | ⟨h1, rfl, rfl, rfl⟩ | ⟨h1, rfl, rfl, rfl⟩ | ⟨h1, rfl, rfl, rfl⟩ | ⟨h1, rfl, rfl, rfl⟩ | ⟨h1, rfl, rfl, rfl⟩ | ⟨h1, rfl, rfl, rfl⟩ | ⟨h1, rfl, rfl, rfl⟩ | ⟨h1, rfl, rfl, rfl⟩ | ⟨h1, rfl, rfl, rfl⟩ | ⟨h1, rfl, rfl, rfl⟩ | ⟨h1, rfl, rfl, rfl⟩ | ⟨h1, rfl, rfl, rfl⟩ | ⟨h1, rfl, rfl, rfl⟩ | ⟨h1, rfl, rfl, rfl⟩ | ⟨h1, rfl, rfl, rfl⟩ | ⟨h1, rfl, rfl, rfl⟩ | ⟨h1, rfl, rfl, rfl⟩ | ⟨h1, rfl, rfl, rfl⟩
  · exact absurd h1 (by decide)
  · exact absurd h1 (by decide)
  · exact absurd h1 (by decide)
  · exact absurd h1 (by decide)
  · exact absurd h1 (by decide)
  · exact absurd h1 (by decide)
  · exact absurd h1 (by decide)
  · exact absurd h1 (by decide)
  · exact absurd h1 (by decide)
  · exact absurd h1 (by decide)
  · exact absurd h1 (by decide)
  · exact absurd h1 (by decide)
  · exact absurd h1 (by decide)
  · exact absurd h1 (by decide)
  · exact absurd h1 (by decide)
  · exact absurd h1 (by decide)
  · exact absurd h1 (by decide)
  · exact absurd h1 (by decide)
  · exact absurd h1 (by decide)
  · exact absurd h1 (by decide)
  · exact absurd h1 (by decide)
  · exact absurd h1 (by decide)
  · exact absurd h1 (by decide)
theorem de19 (X : K.In h) (Y : h.Ns mainGlobals mg) (c : He.SaysD fa fn K) {fd : FuncData} (F : FunD K d19.name d19.qual d19.params d19.body d19.scope (d19.dvs K) (d19.kws K) (He.fAd K d19.at_) fd) : De T K mg (gr K) 19 "_law_due" [] (He.fAd K d19.at_) fd ["_law_many", "_law_items"] := by
  refine ⟨He.glo_ok X Y (c.fact 19 (f := .glo "_law_due") rfl), F.kp, by decide +kernel, [], [], .nil, fun _ _ => .nil, fun n ks pm hm => ?_⟩
  simp only [T, List.mem_cons, Prod.mk.injEq, List.not_mem_nil, or_false] at hm
  rcases hm with ⟨h1, rfl, rfl, rfl⟩ | ⟨h1, rfl, rfl, rfl⟩ | ⟨h1, rfl, rfl, rfl⟩ | ⟨h1, rfl, rfl, rfl⟩ | ⟨h1, rfl, rfl, rfl⟩ | ⟨h1, rfl, rfl, rfl⟩ | ⟨h1, rfl, rfl, rfl⟩ | ⟨h1, rfl, rfl, rfl⟩ | ⟨h1, rfl, rfl, rfl⟩ | ⟨h1, rfl, rfl, rfl⟩ | ⟨h1, rfl, rfl, rfl⟩ | ⟨h1, rfl, rfl, rfl⟩ | ⟨h1, rfl, rfl, rfl⟩ | ⟨h1, rfl, rfl, rfl⟩ | ⟨h1, rfl, rfl, rfl⟩ | ⟨h1, rfl, rfl, rfl⟩ | ⟨h1, rfl, rfl, rfl⟩ | ⟨h1, rfl, rfl, rfl⟩ | ⟨h1, rfl, rfl, rfl⟩ | ⟨h1, rfl, rfl, rfl⟩ | ⟨h1, rfl, rfl, rfl⟩ | ⟨h1, rfl, rfl, rfl⟩ | ⟨h1, rfl, rfl, rfl⟩
  · exact absurd h1 (by decide)
  · exact absurd h1 (by decide)
  · exact absurd h1 (by decide)
  · exact absurd h1 (by decide)
  · exact absurd h1 (by decide)
  · exact absurd h1 (by decide)
  · exact absurd h1 (by decide)
  · exact absurd h1 (by decide)
  · exact absurd h1 (by decide)
  · exact absurd h1 (by decide)
  · exact absurd h1 (by decide)
  · exact kb_no F fun _ _ _ _ _ _ us ws l1 l2 => match us, ws, l1, l2 with | [u0, u1], [], _, _ => ⟨_, rfl, rfl, rfl⟩
  · exact absurd h1 (by decide)
  · exact absurd h1 (by decide)
  · exact absurd h1 (by decide)
  · exact absurd h1 (by decide)
  · exact absurd h1 (by decide)
  · exact absurd h1 (by decide)
  · exact absurd h1 (by decide)
  · exact absurd h1 (by decide)
  · exact absurd h1 (by decide)
  · exact absurd h1 (by decide)
  · exact absurd h1 (by decide)
theorem de20 (X : K.In h) (Y : h.Ns mainGlobals mg) (c : He.SaysD fa fn K) {fd : FuncData} (F : FunD K d20.name d20.qual d20.params d20.body d20.scope (d20.dvs K) (d20.kws K) (He.fAd K d20.at_) fd) : De T K mg (gr K) 20 "_law_both" [] (He.fAd K d20.at_) fd ["_law_one", "_law_other", "_law_many"] := by
  refine ⟨He.glo_ok X Y (c.fact 20 (f := .glo "_law_both") rfl), F.kp, by decide +kernel, [], [], .nil, fun _ _ => .nil, fun n ks pm hm => ?_⟩
  simp only [T, List.mem_cons, Prod.mk.injEq, List.not_mem_nil, or_false] at hm
  rcases hm with ⟨h1, rfl, rfl, rfl⟩ | ⟨h1, rfl, rfl, rfl⟩ | ⟨h1, rfl, rfl, rfl⟩ | ⟨h1, rfl, rfl, rfl⟩ | ⟨h1, rfl, rfl, rfl⟩ | ⟨h1, rfl, rfl, rfl⟩ | ⟨h1, rfl, rfl, rfl⟩ | ⟨h1, rfl, rfl, rfl⟩ | ⟨h1, rfl, rfl, rfl⟩ | ⟨h1, rfl, rfl, rfl⟩ | ⟨h1, rfl, rfl, rfl⟩ | ⟨h1, rfl, rfl, rfl⟩ | ⟨h1, rfl, rfl, rfl⟩ | ⟨h1, rfl, rfl, rfl⟩ | ⟨h1, rfl, rfl, rfl⟩ | ⟨h1, rfl, rfl, rfl⟩ | ⟨h1, rfl, rfl, rfl⟩ | ⟨h1, rfl, rfl, rfl⟩ | ⟨h1, rfl, rfl, rfl⟩ | ⟨h1, rfl, rfl, rfl⟩ | ⟨h1, rfl, rfl, rfl⟩ | ⟨h1, rfl, rfl, rfl⟩ | ⟨h1, rfl, rfl, rfl⟩
  · exact absurd h1 (by decide)
  · exact absurd h1 (by decide)
  · exact absurd h1 (by decide)
  · exact absurd h1 (by decide)
  · exact absurd h1 (by decide)
  · exact absurd h1 (by decide)
  · exact absurd h1 (by decide)
  · exact absurd h1 (by decide)
  · exact absurd h1 (by decide)
  · exact absurd h1 (by decide)
  · exact absurd h1 (by decide)
  · exact absurd h1 (by decide)
  · exact absurd h1 (by decide)
  · exact absurd h1 (by decide)
  · exact absurd h1 (by decide)
  · exact kb_no F fun _ _ _ _ _ _ us ws l1 l2 => match us, ws, l1, l2 with | [u0, u1, u2], [], _, _ => ⟨_, rfl, rfl, rfl⟩
  · exact absurd h1 (by decide)
  · exact absurd h1 (by decide)
  · exact absurd h1 (by decide)
  · exact absurd h1 (by decide)
  · exact absurd h1 (by decide)
  · exact absurd h1 (by decide)
  · exact absurd h1 (by decide)
theorem de21 (X : K.In h) (Y : h.Ns mainGlobals mg) (c : He.SaysD fa fn K) {fd : FuncData} (F : FunD K d21.name d21.qual d21.params d21.body d21.scope (d21.dvs K) (d21.kws K) (He.fAd K d21.at_) fd) : De T K mg (gr K) 21 "_law_alone" [] (He.fAd K d21.at_) fd ["_law_own", "_law_many", "_law_word"] := by
  refine ⟨He.glo_ok X Y (c.fact 21 (f := .glo "_law_alone") rfl), F.kp, by decide +kernel, [], [], .nil, fun _ _ => .nil, fun n ks pm hm => ?_⟩
  simp only [T, List.mem_cons, Prod.mk.injEq, List.not_mem_nil, or_false] at hm
  rcases hm with ⟨h1, rfl, rfl, rfl⟩ | ⟨h1, rfl, rfl, rfl⟩ | ⟨h1, rfl, rfl, rfl⟩ | ⟨h1, rfl, rfl, rfl⟩ | ⟨h1, rfl, rfl, rfl⟩ | ⟨h1, rfl, rfl, rfl⟩ | ⟨h1, rfl, rfl, rfl⟩ | ⟨h1, rfl, rfl, rfl⟩ | ⟨h1, rfl, rfl, rfl⟩ | ⟨h1, rfl, rfl, rfl⟩ | ⟨h1, rfl, rfl, rfl⟩ | ⟨h1, rfl, rfl, rfl⟩ | ⟨h1, rfl, rfl, rfl⟩ | ⟨h1, rfl, rfl, rfl⟩ | ⟨h1, rfl, rfl, rfl⟩ | ⟨h1, rfl, rfl, rfl⟩ | ⟨h1, rfl, rfl, rfl⟩ | ⟨h1, rfl, rfl, rfl⟩ | ⟨h1, rfl, rfl, rfl⟩ | ⟨h1, rfl, rfl, rfl⟩ | ⟨h1, rfl, rfl, rfl⟩ | ⟨h1, rfl, rfl, rfl⟩ | ⟨h1, rfl, rfl, rfl⟩
  · exact absurd h1 (by decide)
  · exact absurd h1 (by decide)
  · exact absurd h1 (by decide)
  · exact absurd h1 (by decide)
  · exact absurd h1 (by decide)
  · exact absurd h1 (by decide)
  · exact absurd h1 (by decide)
  · exact absurd h1 (by decide)
  · exact absurd h1 (by decide)
  · exact absurd h1 (by decide)
  · exact absurd h1 (by decide)
  · exact absurd h1 (by decide)
  · exact absurd h1 (by decide)
  · exact absurd h1 (by decide)
  · exact absurd h1 (by decide)
  · exact absurd h1 (by decide)
  · exact absurd h1 (by decide)
  · exact kb_no F fun _ _ _ _ _ _ us ws l1 l2 => match us, ws, l1, l2 with | [u0, u1, u2], [], _, _ => ⟨_, rfl, rfl, rfl⟩
  · exact absurd h1 (by decide)
  · exact absurd h1 (by decide)
  · exact absurd h1 (by decide)
  · exact absurd h1 (by decide)
  · exact absurd h1 (by decide)
theorem de22 (X : K.In h) (Y : h.Ns mainGlobals mg) (c : He.SaysD fa fn K) {fd : FuncData} (F : FunD K d22.name d22.qual d22.params d22.body d22.scope (d22.dvs K) (d22.kws K) (He.fAd K d22.at_) fd) : De T K mg (gr K) 22 "_law_led" [] (He.fAd K d22.at_) fd ["_law_ahead", "_law_both_here", "_law_word"] := by
  refine ⟨He.glo_ok X Y (c.fact 22 (f := .glo "_law_led") rfl), F.kp, by decide +kernel, [], [], .nil, fun _ _ => .nil, fun n ks pm hm => ?_⟩
  simp only [T, List.mem_cons, Prod.mk.injEq, List.not_mem_nil, or_false] at hm
  rcases hm with ⟨h1, rfl, rfl, rfl⟩ | ⟨h1, rfl, rfl, rfl⟩ | ⟨h1, rfl, rfl, rfl⟩ | ⟨h1, rfl, rfl, rfl⟩ | ⟨h1, rfl, rfl, rfl⟩ | ⟨h1, rfl, rfl, rfl⟩ | ⟨h1, rfl, rfl, rfl⟩ | ⟨h1, rfl, rfl, rfl⟩ | ⟨h1, rfl, rfl, rfl⟩ | ⟨h1, rfl, rfl, rfl⟩ | ⟨h1, rfl, rfl, rfl⟩ | ⟨h1, rfl, rfl, rfl⟩ | ⟨h1, rfl, rfl, rfl⟩ | ⟨h1, rfl, rfl, rfl⟩ | ⟨h1, rfl, rfl, rfl⟩ | ⟨h1, rfl, rfl, rfl⟩ | ⟨h1, rfl, rfl, rfl⟩ | ⟨h1, rfl, rfl, rfl⟩ | ⟨h1, rfl, rfl, rfl⟩ | ⟨h1, rfl, rfl, rfl⟩ | ⟨h1, rfl, rfl, rfl⟩ | ⟨h1, rfl, rfl, rfl⟩ | ⟨h1, rfl, rfl, rfl⟩
  · exact absurd h1 (by decide)
  · exact absurd h1 (by decide)
  · exact absurd h1 (by decide)
  · exact absurd h1 (by decide)
  · exact absurd h1 (by decide)
  · exact absurd h1 (by decide)
  · exact absurd h1 (by decide)
  · exact absurd h1 (by decide)
  · exact absurd h1 (by decide)
  · exact absurd h1 (by decide)
  · exact absurd h1 (by decide)
  · exact absurd h1 (by decide)
  · exact absurd h1 (by decide)
  · exact absurd h1 (by decide)
  · exact absurd h1 (by decide)
  · exact absurd h1 (by decide)
  · exact absurd h1 (by decide)
  · exact absurd h1 (by decide)
  · exact kb_no F fun _ _ _ _ _ _ us ws l1 l2 => match us, ws, l1, l2 with | [u0, u1, u2], [], _, _ => ⟨_, rfl, rfl, rfl⟩
  · exact absurd h1 (by decide)
  · exact absurd h1 (by decide)
  · exact absurd h1 (by decide)
  · exact absurd h1 (by decide)
theorem de23 (X : K.In h) (Y : h.Ns mainGlobals mg) (c : He.SaysD fa fn K) {fd : FuncData} (F : FunD K d23.name d23.qual d23.params d23.body d23.scope (d23.dvs K) (d23.kws K) (He.fAd K d23.at_) fd) : De T K mg (gr K) 23 "_law_refused" [] (He.fAd K d23.at_) fd ["_law_one", "_law_other"] := by
  refine ⟨He.glo_ok X Y (c.fact 23 (f := .glo "_law_refused") rfl), F.kp, by decide +kernel, [], [], .nil, fun _ _ => .nil, fun n ks pm hm => ?_⟩
  simp only [T, List.mem_cons, Prod.mk.injEq, List.not_mem_nil, or_false] at hm
  rcases hm with ⟨h1, rfl, rfl, rfl⟩ | ⟨h1, rfl, rfl, rfl⟩ | ⟨h1, rfl, rfl, rfl⟩ | ⟨h1, rfl, rfl, rfl⟩ | ⟨h1, rfl, rfl, rfl⟩ | ⟨h1, rfl, rfl, rfl⟩ | ⟨h1, rfl, rfl, rfl⟩ | ⟨h1, rfl, rfl, rfl⟩ | ⟨h1, rfl, rfl, rfl⟩ | ⟨h1, rfl, rfl, rfl⟩ | ⟨h1, rfl, rfl, rfl⟩ | ⟨h1, rfl, rfl, rfl⟩ | ⟨h1, rfl, rfl, rfl⟩ | ⟨h1, rfl, rfl, rfl⟩ | ⟨h1, rfl, rfl, rfl⟩ | ⟨h1, rfl, rfl, rfl⟩ | ⟨h1, rfl, rfl, rfl⟩ | ⟨h1, rfl, rfl, rfl⟩ | ⟨h1, rfl, rfl, rfl⟩ | ⟨h1, rfl, rfl, rfl⟩ | ⟨h1, rfl, rfl, rfl⟩ | ⟨h1, rfl, rfl, rfl⟩ | ⟨h1, rfl, rfl, rfl⟩
  · exact absurd h1 (by decide)
  · exact absurd h1 (by decide)
  · exact absurd h1 (by decide)
  · exact absurd h1 (by decide)
  · exact absurd h1 (by decide)
  · exact absurd h1 (by decide)
  · exact absurd h1 (by decide)
  · exact absurd h1 (by decide)
  · exact absurd h1 (by decide)
  · exact absurd h1 (by decide)
  · exact absurd h1 (by decide)
  · exact absurd h1 (by decide)
  · exact absurd h1 (by decide)
  · exact absurd h1 (by decide)
  · exact absurd h1 (by decide)
  · exact absurd h1 (by decide)
  · exact absurd h1 (by decide)
  · exact absurd h1 (by decide)
  · exact absurd h1 (by decide)
  · exact kb_no F fun _ _ _ _ _ _ us ws l1 l2 => match us, ws, l1, l2 with | [u0, u1], [], _, _ => ⟨_, rfl, rfl, rfl⟩
  · exact absurd h1 (by decide)
  · exact absurd h1 (by decide)
  · exact absurd h1 (by decide)
theorem de24 (X : K.In h) (Y : h.Ns mainGlobals mg) (c : He.SaysD fa fn K) {fd : FuncData} (F : FunD K d24.name d24.qual d24.params d24.body d24.scope (d24.dvs K) (d24.kws K) (He.fAd K d24.at_) fd) : De T K mg (gr K) 24 "law" [] (He.fAd K d24.at_) fd ["_law_script"] := by
  refine ⟨He.glo_ok X Y (c.fact 24 (f := .glo "law") rfl), F.kp, by decide +kernel, [], [], .nil, fun _ _ => .nil, fun n ks pm hm => ?_⟩
  simp only [T, List.mem_cons, Prod.mk.injEq, List.not_mem_nil, or_false] at hm
  rcases hm with ⟨h1, rfl, rfl, rfl⟩ | ⟨h1, rfl, rfl, rfl⟩ | ⟨h1, rfl, rfl, rfl⟩ | ⟨h1, rfl, rfl, rfl⟩ | ⟨h1, rfl, rfl, rfl⟩ | ⟨h1, rfl, rfl, rfl⟩ | ⟨h1, rfl, rfl, rfl⟩ | ⟨h1, rfl, rfl, rfl⟩ | ⟨h1, rfl, rfl, rfl⟩ | ⟨h1, rfl, rfl, rfl⟩ | ⟨h1, rfl, rfl, rfl⟩ | ⟨h1, rfl, rfl, rfl⟩ | ⟨h1, rfl, rfl, rfl⟩ | ⟨h1, rfl, rfl, rfl⟩ | ⟨h1, rfl, rfl, rfl⟩ | ⟨h1, rfl, rfl, rfl⟩ | ⟨h1, rfl, rfl, rfl⟩ | ⟨h1, rfl, rfl, rfl⟩ | ⟨h1, rfl, rfl, rfl⟩ | ⟨h1, rfl, rfl, rfl⟩ | ⟨h1, rfl, rfl, rfl⟩ | ⟨h1, rfl, rfl, rfl⟩ | ⟨h1, rfl, rfl, rfl⟩
  · exact absurd h1 (by decide)
  · exact absurd h1 (by decide)
  · exact absurd h1 (by decide)
  · exact absurd h1 (by decide)
  · exact absurd h1 (by decide)
  · exact absurd h1 (by decide)
  · exact absurd h1 (by decide)
  · exact absurd h1 (by decide)
  · exact absurd h1 (by decide)
  · exact absurd h1 (by decide)
  · exact absurd h1 (by decide)
  · exact absurd h1 (by decide)
  · exact absurd h1 (by decide)
  · exact absurd h1 (by decide)
  · exact absurd h1 (by decide)
  · exact absurd h1 (by decide)
  · exact absurd h1 (by decide)
  · exact absurd h1 (by decide)
  · exact absurd h1 (by decide)
  · exact absurd h1 (by decide)
  · exact absurd h1 (by decide)
  · exact absurd h1 (by decide)
  · exact absurd h1 (by decide)
theorem hx (X : K.In h) (Y : h.Ns mainGlobals mg) (c : SaysX fa fn tb exL K) (k : Nat) : ∀ (y : Str) (m : Nat) (g : Str), (y, m, g) ∈ T.exs → ∃ l fd ps, FnOk P w K mg base (L2.CX P w) l (He.ma K ((gr K).ca m) "__init__") fd ps (spI ((gr K).ca m) g) ∧ l + 1 ≤ k + 2 ∧ Binds K fd ps [] := by
  intro y m g hm
  simp only [T, List.mem_cons, Prod.mk.injEq, List.not_mem_nil, or_false] at hm
  rcases hm with ⟨rfl, rfl, rfl⟩
  · obtain ⟨fd, F⟩ := c.d.def_ 25 (d := e0) rfl
    exact ⟨0 + 1, fd, _, init_ok (exfB_ok (c.ex 0 rfl)) F es0 (by kernel_rfl) (He.glo_ok X Y (c.d.fact 42 (f := .glo "PageError") rfl)) (by decide +kernel) (by decide +kernel) (by decide +kernel) (by decide +kernel) (by decide +kernel) (by decide +kernel), by omega, FunD.bindsN F fun _ _ _ _ _ _ us hl => match us, hl with | [_, _], _ => rfl⟩
def dflOf (i : Nat) : List D := match (Pg.fns[i]? : Option Fd) with | some h => h.dfl | none => []
theorem all (X : K.In h) (Y : h.Ns mainGlobals mg) (c : SaysX fa fn tb exL K) : ∀ (k i : Nat) (y : Str), T.fns[i]? = some y → ∃ a fd ps, De T K mg (gr K) i y (dflOf i) a fd ps ∧ FnG P w K mg base (gr K) (k + 2) a fd ps (callN Pg k i)
  | 0, i, y, hi => by
    match i, hi with
    | 0, hi => cases hi; obtain ⟨fd, F⟩ := c.d.def_ 0 (d := d0) rfl; exact ⟨_, fd, _, de0 X Y c.d F, fun _ _ _ _ _ _ _ _ _ _ _ _ _ _ _ _ _ _ _ _ h => h.elim⟩
    | 1, hi => cases hi; obtain ⟨fd, F⟩ := c.d.def_ 1 (d := d1) rfl; exact ⟨_, fd, _, de1 X Y c.d F, fun _ _ _ _ _ _ _ _ _ _ _ _ _ _ _ _ _ _ _ _ h => h.elim⟩
    | 2, hi => cases hi; obtain ⟨fd, F⟩ := c.d.def_ 2 (d := d2) rfl; exact ⟨_, fd, _, de2 X Y c.d F, fun _ _ _ _ _ _ _ _ _ _ _ _ _ _ _ _ _ _ _ _ h => h.elim⟩
    | 3, hi => cases hi; obtain ⟨fd, F⟩ := c.d.def_ 3 (d := d3) rfl; exact ⟨_, fd, _, de3 X Y c.d F, fun _ _ _ _ _ _ _ _ _ _ _ _ _ _ _ _ _ _ _ _ h => h.elim⟩
    | 4, hi => cases hi; obtain ⟨fd, F⟩ := c.d.def_ 4 (d := d4) rfl; exact ⟨_, fd, _, de4 X Y c.d F, fun _ _ _ _ _ _ _ _ _ _ _ _ _ _ _ _ _ _ _ _ h => h.elim⟩
    | 5, hi => cases hi; obtain ⟨fd, F⟩ := c.d.def_ 5 (d := d5) rfl; exact ⟨_, fd, _, de5 X Y c.d F, fun _ _ _ _ _ _ _ _ _ _ _ _ _ _ _ _ _ _ _ _ h => h.elim⟩
    | 6, hi => cases hi; obtain ⟨fd, F⟩ := c.d.def_ 6 (d := d6) rfl; exact ⟨_, fd, _, de6 X Y c.d F, fun _ _ _ _ _ _ _ _ _ _ _ _ _ _ _ _ _ _ _ _ h => h.elim⟩
    | 7, hi => cases hi; obtain ⟨fd, F⟩ := c.d.def_ 7 (d := d7) rfl; exact ⟨_, fd, _, de7 X Y c.d F, fun _ _ _ _ _ _ _ _ _ _ _ _ _ _ _ _ _ _ _ _ h => h.elim⟩
    | 8, hi => cases hi; obtain ⟨fd, F⟩ := c.d.def_ 8 (d := d8) rfl; exact ⟨_, fd, _, de8 X Y c.d F, fun _ _ _ _ _ _ _ _ _ _ _ _ _ _ _ _ _ _ _ _ h => h.elim⟩
    | 9, hi => cases hi; obtain ⟨fd, F⟩ := c.d.def_ 9 (d := d9) rfl; exact ⟨_, fd, _, de9 X Y c.d F, fun _ _ _ _ _ _ _ _ _ _ _ _ _ _ _ _ _ _ _ _ h => h.elim⟩
    | 10, hi => cases hi; obtain ⟨fd, F⟩ := c.d.def_ 10 (d := d10) rfl; exact ⟨_, fd, _, de10 X Y c.d F, fun _ _ _ _ _ _ _ _ _ _ _ _ _ _ _ _ _ _ _ _ h => h.elim⟩
    | 11, hi => cases hi; obtain ⟨fd, F⟩ := c.d.def_ 11 (d := d11) rfl; exact ⟨_, fd, _, de11 X Y c.d F, fun _ _ _ _ _ _ _ _ _ _ _ _ _ _ _ _ _ _ _ _ h => h.elim⟩
    | 12, hi => cases hi; obtain ⟨fd, F⟩ := c.d.def_ 12 (d := d12) rfl; exact ⟨_, fd, _, de12 X Y c.d F, fun _ _ _ _ _ _ _ _ _ _ _ _ _ _ _ _ _ _ _ _ h => h.elim⟩
    | 13, hi => cases hi; obtain ⟨fd, F⟩ := c.d.def_ 13 (d := d13) rfl; exact ⟨_, fd, _, de13 X Y c.d F, fun _ _ _ _ _ _ _ _ _ _ _ _ _ _ _ _ _ _ _ _ h => h.elim⟩
    | 14, hi => cases hi; obtain ⟨fd, F⟩ := c.d.def_ 14 (d := d14) rfl; exact ⟨_, fd, _, de14 X Y c.d F, fun _ _ _ _ _ _ _ _ _ _ _ _ _ _ _ _ _ _ _ _ h => h.elim⟩
    | 15, hi => cases hi; obtain ⟨fd, F⟩ := c.d.def_ 15 (d := d15) rfl; exact ⟨_, fd, _, de15 X Y c.d F, fun _ _ _ _ _ _ _ _ _ _ _ _ _ _ _ _ _ _ _ _ h => h.elim⟩
    | 16, hi => cases hi; obtain ⟨fd, F⟩ := c.d.def_ 16 (d := d16) rfl; exact ⟨_, fd, _, de16 X Y c.d F, fun _ _ _ _ _ _ _ _ _ _ _ _ _ _ _ _ _ _ _ _ h => h.elim⟩
    | 17, hi => cases hi; obtain ⟨fd, F⟩ := c.d.def_ 17 (d := d17) rfl; exact ⟨_, fd, _, de17 X Y c.d F, fun _ _ _ _ _ _ _ _ _ _ _ _ _ _ _ _ _ _ _ _ h => h.elim⟩
    | 18, hi => cases hi; obtain ⟨fd, F⟩ := c.d.def_ 18 (d := d18) rfl; exact ⟨_, fd, _, de18 X Y c.d F, fun _ _ _ _ _ _ _ _ _ _ _ _ _ _ _ _ _ _ _ _ h => h.elim⟩
    | 19, hi => cases hi; obtain ⟨fd, F⟩ := c.d.def_ 19 (d := d19) rfl; exact ⟨_, fd, _, de19 X Y c.d F, fun _ _ _ _ _ _ _ _ _ _ _ _ _ _ _ _ _ _ _ _ h => h.elim⟩
    | 20, hi => cases hi; obtain ⟨fd, F⟩ := c.d.def_ 20 (d := d20) rfl; exact ⟨_, fd, _, de20 X Y c.d F, fun _ _ _ _ _ _ _ _ _ _ _ _ _ _ _ _ _ _ _ _ h => h.elim⟩
    | 21, hi => cases hi; obtain ⟨fd, F⟩ := c.d.def_ 21 (d := d21) rfl; exact ⟨_, fd, _, de21 X Y c.d F, fun _ _ _ _ _ _ _ _ _ _ _ _ _ _ _ _ _ _ _ _ h => h.elim⟩
    | 22, hi => cases hi; obtain ⟨fd, F⟩ := c.d.def_ 22 (d := d22) rfl; exact ⟨_, fd, _, de22 X Y c.d F, fun _ _ _ _ _ _ _ _ _ _ _ _ _ _ _ _ _ _ _ _ h => h.elim⟩
    | 23, hi => cases hi; obtain ⟨fd, F⟩ := c.d.def_ 23 (d := d23) rfl; exact ⟨_, fd, _, de23 X Y c.d F, fun _ _ _ _ _ _ _ _ _ _ _ _ _ _ _ _ _ _ _ _ h => h.elim⟩
    | 24, hi => cases hi; obtain ⟨fd, F⟩ := c.d.def_ 24 (d := d24) rfl; exact ⟨_, fd, _, de24 X Y c.d F, fun _ _ _ _ _ _ _ _ _ _ _ _ _ _ _ _ _ _ _ _ h => h.elim⟩
    | i + 25, hi => cases hi
  | k + 1, i, y, hi => by
    have M := md X Y c
    have IH := all X Y c k
    match i, hi with
    | 0, hi =>
      cases hi
      obtain ⟨fd, F⟩ := c.d.def_ 0 (d := d0) rfl
      refine ⟨_, fd, _, de0 X Y c.d F, fn_g (fD := f0) F s0 c0 rfl rfl rfl ⟨M.K, M.blt, M.exc, M.exk, M.iso, M.con⟩ (hx X Y c k) fun i y hy => ?_⟩
      obtain ⟨a, fd, ps, h1, h2⟩ := IH i y hy
      exact ⟨a, fd, ps, h1, h2⟩
    | 1, hi =>
      cases hi
      obtain ⟨fd, F⟩ := c.d.def_ 1 (d := d1) rfl
      refine ⟨_, fd, _, de1 X Y c.d F, fn_g (fD := f1) F s1 c1 rfl rfl rfl ⟨M.K, M.blt, M.exc, M.exk, M.iso, M.con⟩ (hx X Y c k) fun i y hy => ?_⟩
      obtain ⟨a, fd, ps, h1, h2⟩ := IH i y hy
      exact ⟨a, fd, ps, h1, h2⟩
    | 2, hi =>
      cases hi
      obtain ⟨fd, F⟩ := c.d.def_ 2 (d := d2) rfl
      refine ⟨_, fd, _, de2 X Y c.d F, fn_g (fD := f2) F s2 c2 rfl rfl rfl ⟨M.K, M.blt, M.exc, M.exk, M.iso, M.con⟩ (hx X Y c k) fun i y hy => ?_⟩
      obtain ⟨a, fd, ps, h1, h2⟩ := IH i y hy
      exact ⟨a, fd, ps, h1, h2⟩
    | 3, hi =>
      cases hi
      obtain ⟨fd, F⟩ := c.d.def_ 3 (d := d3) rfl
      refine ⟨_, fd, _, de3 X Y c.d F, fn_g (fD := f3) F s3 c3 rfl rfl rfl ⟨M.K, M.blt, M.exc, M.exk, M.iso, M.con⟩ (hx X Y c k) fun i y hy => ?_⟩
      obtain ⟨a, fd, ps, h1, h2⟩ := IH i y hy
      exact ⟨a, fd, ps, h1, h2⟩
    | 4, hi =>
      cases hi
      obtain ⟨fd, F⟩ := c.d.def_ 4 (d := d4) rfl
      refine ⟨_, fd, _, de4 X Y c.d F, fn_g (fD := f4) F s4 c4 rfl rfl rfl ⟨M.K, M.blt, M.exc, M.exk, M.iso, M.con⟩ (hx X Y c k) fun i y hy => ?_⟩
      obtain ⟨a, fd, ps, h1, h2⟩ := IH i y hy
      exact ⟨a, fd, ps, h1, h2⟩
    | 5, hi =>
      cases hi
      obtain ⟨fd, F⟩ := c.d.def_ 5 (d := d5) rfl
      refine ⟨_, fd, _, de5 X Y c.d F, fn_g (fD := f5) F s5 c5 rfl rfl rfl ⟨M.K, M.blt, M.exc, M.exk, M.iso, M.con⟩ (hx X Y c k) fun i y hy => ?_⟩
      obtain ⟨a, fd, ps, h1, h2⟩ := IH i y hy
      exact ⟨a, fd, ps, h1, h2⟩
    | 6, hi =>
      cases hi
      obtain ⟨fd, F⟩ := c.d.def_ 6 (d := d6) rfl
      refine ⟨_, fd, _, de6 X Y c.d F, fn_g (fD := f6) F s6 c6 rfl rfl rfl ⟨M.K, M.blt, M.exc, M.exk, M.iso, M.con⟩ (hx X Y c k) fun i y hy => ?_⟩
      obtain ⟨a, fd, ps, h1, h2⟩ := IH i y hy
      exact ⟨a, fd, ps, h1, h2⟩
    | 7, hi =>
      cases hi
      obtain ⟨fd, F⟩ := c.d.def_ 7 (d := d7) rfl
      refine ⟨_, fd, _, de7 X Y c.d F, fn_g (fD := f7) F s7 c7 rfl rfl rfl ⟨M.K, M.blt, M.exc, M.exk, M.iso, M.con⟩ (hx X Y c k) fun i y hy => ?_⟩
      obtain ⟨a, fd, ps, h1, h2⟩ := IH i y hy
      exact ⟨a, fd, ps, h1, h2⟩
    | 8, hi =>
      cases hi
      obtain ⟨fd, F⟩ := c.d.def_ 8 (d := d8) rfl
      refine ⟨_, fd, _, de8 X Y c.d F, fn_g (fD := f8) F s8 c8 rfl rfl rfl ⟨M.K, M.blt, M.exc, M.exk, M.iso, M.con⟩ (hx X Y c k) fun i y hy => ?_⟩
      obtain ⟨a, fd, ps, h1, h2⟩ := IH i y hy
      exact ⟨a, fd, ps, h1, h2⟩
    | 9, hi =>
      cases hi
      obtain ⟨fd, F⟩ := c.d.def_ 9 (d := d9) rfl
      refine ⟨_, fd, _, de9 X Y c.d F, fn_g (fD := f9) F s9 c9 rfl rfl rfl ⟨M.K, M.blt, M.exc, M.exk, M.iso, M.con⟩ (hx X Y c k) fun i y hy => ?_⟩
      obtain ⟨a, fd, ps, h1, h2⟩ := IH i y hy
      exact ⟨a, fd, ps, h1, h2⟩
    | 10, hi =>
      cases hi
      obtain ⟨fd, F⟩ := c.d.def_ 10 (d := d10) rfl
      refine ⟨_, fd, _, de10 X Y c.d F, fn_g (fD := f10) F s10 c10 rfl rfl rfl ⟨M.K, M.blt, M.exc, M.exk, M.iso, M.con⟩ (hx X Y c k) fun i y hy => ?_⟩
      obtain ⟨a, fd, ps, h1, h2⟩ := IH i y hy
      exact ⟨a, fd, ps, h1, h2⟩
    | 11, hi =>
      cases hi
      obtain ⟨fd, F⟩ := c.d.def_ 11 (d := d11) rfl
      refine ⟨_, fd, _, de11 X Y c.d F, fn_g (fD := f11) F s11 c11 rfl rfl rfl ⟨M.K, M.blt, M.exc, M.exk, M.iso, M.con⟩ (hx X Y c k) fun i y hy => ?_⟩
      obtain ⟨a, fd, ps, h1, h2⟩ := IH i y hy
      exact ⟨a, fd, ps, h1, h2⟩
    | 12, hi =>
      cases hi
      obtain ⟨fd, F⟩ := c.d.def_ 12 (d := d12) rfl
      refine ⟨_, fd, _, de12 X Y c.d F, fn_g (fD := f12) F s12 c12 rfl rfl rfl ⟨M.K, M.blt, M.exc, M.exk, M.iso, M.con⟩ (hx X Y c k) fun i y hy => ?_⟩
      obtain ⟨a, fd, ps, h1, h2⟩ := IH i y hy
      exact ⟨a, fd, ps, h1, h2⟩
    | 13, hi =>
      cases hi
      obtain ⟨fd, F⟩ := c.d.def_ 13 (d := d13) rfl
      refine ⟨_, fd, _, de13 X Y c.d F, fn_g (fD := f13) F s13 c13 rfl rfl rfl ⟨M.K, M.blt, M.exc, M.exk, M.iso, M.con⟩ (hx X Y c k) fun i y hy => ?_⟩
      obtain ⟨a, fd, ps, h1, h2⟩ := IH i y hy
      exact ⟨a, fd, ps, h1, h2⟩
    | 14, hi =>
      cases hi
      obtain ⟨fd, F⟩ := c.d.def_ 14 (d := d14) rfl
      refine ⟨_, fd, _, de14 X Y c.d F, fn_g (fD := f14) F s14 c14 rfl rfl rfl ⟨M.K, M.blt, M.exc, M.exk, M.iso, M.con⟩ (hx X Y c k) fun i y hy => ?_⟩
      obtain ⟨a, fd, ps, h1, h2⟩ := IH i y hy
      exact ⟨a, fd, ps, h1, h2⟩
    | 15, hi =>
      cases hi
      obtain ⟨fd, F⟩ := c.d.def_ 15 (d := d15) rfl
      refine ⟨_, fd, _, de15 X Y c.d F, fn_g (fD := f15) F s15 c15 rfl rfl rfl ⟨M.K, M.blt, M.exc, M.exk, M.iso, M.con⟩ (hx X Y c k) fun i y hy => ?_⟩
      obtain ⟨a, fd, ps, h1, h2⟩ := IH i y hy
      exact ⟨a, fd, ps, h1, h2⟩
    | 16, hi =>
      cases hi
      obtain ⟨fd, F⟩ := c.d.def_ 16 (d := d16) rfl
      refine ⟨_, fd, _, de16 X Y c.d F, fn_g (fD := f16) F s16 c16 rfl rfl rfl ⟨M.K, M.blt, M.exc, M.exk, M.iso, M.con⟩ (hx X Y c k) fun i y hy => ?_⟩
      obtain ⟨a, fd, ps, h1, h2⟩ := IH i y hy
      exact ⟨a, fd, ps, h1, h2⟩
    | 17, hi =>
      cases hi
      obtain ⟨fd, F⟩ := c.d.def_ 17 (d := d17) rfl
      refine ⟨_, fd, _, de17 X Y c.d F, fn_g (fD := f17) F s17 c17 rfl rfl rfl ⟨M.K, M.blt, M.exc, M.exk, M.iso, M.con⟩ (hx X Y c k) fun i y hy => ?_⟩
      obtain ⟨a, fd, ps, h1, h2⟩ := IH i y hy
      exact ⟨a, fd, ps, h1, h2⟩
    | 18, hi =>
      cases hi
      obtain ⟨fd, F⟩ := c.d.def_ 18 (d := d18) rfl
      refine ⟨_, fd, _, de18 X Y c.d F, fn_g (fD := f18) F s18 c18 rfl rfl rfl ⟨M.K, M.blt, M.exc, M.exk, M.iso, M.con⟩ (hx X Y c k) fun i y hy => ?_⟩
      obtain ⟨a, fd, ps, h1, h2⟩ := IH i y hy
      exact ⟨a, fd, ps, h1, h2⟩
    | 19, hi =>
      cases hi
      obtain ⟨fd, F⟩ := c.d.def_ 19 (d := d19) rfl
      refine ⟨_, fd, _, de19 X Y c.d F, fn_g (fD := f19) F s19 c19 rfl rfl rfl ⟨M.K, M.blt, M.exc, M.exk, M.iso, M.con⟩ (hx X Y c k) fun i y hy => ?_⟩
      obtain ⟨a, fd, ps, h1, h2⟩ := IH i y hy
      exact ⟨a, fd, ps, h1, h2⟩
    | 20, hi =>
      cases hi
      obtain ⟨fd, F⟩ := c.d.def_ 20 (d := d20) rfl
      refine ⟨_, fd, _, de20 X Y c.d F, fn_g (fD := f20) F s20 c20 rfl rfl rfl ⟨M.K, M.blt, M.exc, M.exk, M.iso, M.con⟩ (hx X Y c k) fun i y hy => ?_⟩
      obtain ⟨a, fd, ps, h1, h2⟩ := IH i y hy
      exact ⟨a, fd, ps, h1, h2⟩
    | 21, hi =>
      cases hi
      obtain ⟨fd, F⟩ := c.d.def_ 21 (d := d21) rfl
      refine ⟨_, fd, _, de21 X Y c.d F, fn_g (fD := f21) F s21 c21 rfl rfl rfl ⟨M.K, M.blt, M.exc, M.exk, M.iso, M.con⟩ (hx X Y c k) fun i y hy => ?_⟩
      obtain ⟨a, fd, ps, h1, h2⟩ := IH i y hy
      exact ⟨a, fd, ps, h1, h2⟩
    | 22, hi =>
      cases hi
      obtain ⟨fd, F⟩ := c.d.def_ 22 (d := d22) rfl
      refine ⟨_, fd, _, de22 X Y c.d F, fn_g (fD := f22) F s22 c22 rfl rfl rfl ⟨M.K, M.blt, M.exc, M.exk, M.iso, M.con⟩ (hx X Y c k) fun i y hy => ?_⟩
      obtain ⟨a, fd, ps, h1, h2⟩ := IH i y hy
      exact ⟨a, fd, ps, h1, h2⟩
    | 23, hi =>
      cases hi
      obtain ⟨fd, F⟩ := c.d.def_ 23 (d := d23) rfl
      refine ⟨_, fd, _, de23 X Y c.d F, fn_g (fD := f23) F s23 c23 rfl rfl rfl ⟨M.K, M.blt, M.exc, M.exk, M.iso, M.con⟩ (hx X Y c k) fun i y hy => ?_⟩
      obtain ⟨a, fd, ps, h1, h2⟩ := IH i y hy
      exact ⟨a, fd, ps, h1, h2⟩
    | 24, hi =>
      cases hi
      obtain ⟨fd, F⟩ := c.d.def_ 24 (d := d24) rfl
      refine ⟨_, fd, _, de24 X Y c.d F, fn_g (fD := f24) F s24 c24 rfl rfl rfl ⟨M.K, M.blt, M.exc, M.exk, M.iso, M.con⟩ (hx X Y c k) fun i y hy => ?_⟩
      obtain ⟨a, fd, ps, h1, h2⟩ := IH i y hy
      exact ⟨a, fd, ps, h1, h2⟩
    | i + 25, hi => cases hi
end
end K04
namespace K04
open PySem DI
def cK : List Nat := [107, 101, 101, 112]
def cD : List Nat := [100, 114, 111, 112]
def cP : List Nat := [112, 117, 116]
inductive Pt where
  | kp (n : Nat)
  | dr (n : Nat)
  | pu (w : List Nat)
def Pt.wd : Pt → List Nat
  | .kp _ => cK
  | .dr _ => cD
  | .pu _ => cP
def Pt.val : Pt → D
  | .kp n => .int n
  | .dr n => .int n
  | .pu w => .str w
def Pt.d (p : Pt) : D := .tup [.str p.wd, p.val]
def Pt.ok : Pt → Prop
  | .kp n => 1 ≤ n ∧ n ≤ 10 ^ 20
  | .dr n => 1 ≤ n ∧ n ≤ 100000
  | .pu w => w ≠ [] ∧ w.length ≤ 100000 ∧ cOk w = true
def Pt.isP : Pt → Bool
  | .pu _ => true
  | _ => false
def Pt.isR : Pt → Bool
  | .dr _ => true
  | _ => false
def Pt.len : Pt → Nat
  | .kp n => n
  | .dr n => n
  | .pu w => w.length
def ptsD (ps : List Pt) : List D := ps.map Pt.d
def want : List Pt → Nat
  | [] => 0
  | .kp n :: r => n + want r
  | .dr n :: r => n + want r
  | .pu _ :: r => want r
def mks : List Pt → Nat
  | [] => 0
  | .kp n :: r => n + mks r
  | .dr _ :: r => mks r
  | .pu w :: r => w.length + mks r
def app (t : List Nat) : List Pt → Nat → List Nat
  | [], _ => []
  | .kp n :: r, a => (t.drop a).take n ++ app t r (a + n)
  | .dr n :: r, a => app t r (a + n)
  | .pu w :: r, a => w ++ app t r a
theorem vpt (p : Pt) (H : HH) : viewD H p.d = p.d := rfl
theorem pt_nr (p : Pt) : noRef p.d = true := by cases p <;> simp [Pt.d, Pt.val, noRef, noRefs]
theorem pts_nr : ∀ ps : List Pt, noRefs (ptsD ps) = true
  | [] => rfl
  | p :: r => by
    show (noRef p.d && noRefs (ptsD r)) = true
    rw [pt_nr, pts_nr r]; rfl
theorem asPt {i j : Nat} {s : Sd} (p : Pt) : asT (.tp (.cons (.nm i) (.cons (.nm j) .nil))) p.d s = some ((s.set i (some (.str p.wd))).set j (some p.val)) := by
  simp [Pt.d]
theorem ints_sum : ∀ ns : List Nat, sumD (.lv (ns.map fun n => D.int (n : Nat))) = some (.int ((ns.sum : Nat) : Int)) := by
  intro ns
  have h : intsOf (ns.map fun n => D.int (n : Nat)) = some (ns.map fun n => ((n : Nat) : Int)) := by
    induction ns with
    | nil => rfl
    | cons n r ih => simp [intsOf, ih]
  show (intsOf _).map _ = _
  rw [h]
  simp only [Option.map_some, Option.some.injEq, D.int.injEq]
  clear h
  induction ns with
  | nil => rfl
  | cons n r ih => simp [ih]
theorem want_sum : ∀ ps : List Pt, ((ps.filter fun p => !p.isP).map Pt.len).sum = want ps
  | [] => rfl
  | .kp n :: r => by rw [List.filter_cons]; exact congrArg (n + ·) (want_sum r)
  | .dr n :: r => by rw [List.filter_cons]; exact congrArg (n + ·) (want_sum r)
  | .pu w :: r => by rw [List.filter_cons]; exact want_sum r
theorem want_ints : ∀ ps : List Pt, (ps.filter fun p => !p.isP).map Pt.val = ((ps.filter fun p => !p.isP).map Pt.len).map fun n => D.int (n : Nat)
  | [] => rfl
  | .kp n :: r => by rw [List.filter_cons]; exact congrArg (D.int n :: ·) (want_ints r)
  | .dr n :: r => by rw [List.filter_cons]; exact congrArg (D.int n :: ·) (want_ints r)
  | .pu w :: r => by rw [List.filter_cons]; exact want_ints r
theorem mks_sum : ∀ ps : List Pt, ((ps.filter fun p => !p.isR).map Pt.len).sum = mks ps
  | [] => rfl
  | .kp n :: r => by rw [List.filter_cons]; exact congrArg (n + ·) (mks_sum r)
  | .dr n :: r => by rw [List.filter_cons]; exact mks_sum r
  | .pu w :: r => by rw [List.filter_cons]; exact congrArg (w.length + ·) (mks_sum r)
theorem wantP {k : Nat} {H : HH} {ps : List Pt} {Q : D → HH → Prop} (hl : ps.length ≤ 100000) (q : Q (.int (want ps : Nat)) H) : (pcallE (cfP Pg (k + 1)) 3 [0] [.tup (ptsD ps)] [] H).wp Q := by
  refine pureC (P := Pg) (fd := f3) rfl (l := [.tup (ptsD ps)]) rfl (by simp only [noRefs, noRef, pts_nr]; rfl) ?_
  refine run_k rfl ?_
  simp [f3, b3, startD, N3]
  refine lc_filG Pt.d Pt.val (fun p => !p.isP) rfl ps [] (fun p _ => ⟨_, asPt p, ?_, ?_⟩) (by show 0 + ps.length ≤ 16777216; omega) ?_
  · intro P h
    cases p <;> simpa [Pt.wd, cK, cD, cP, Pt.isP] using h
  · intro P h
    simpa using h
  · rw [List.nil_append, want_ints]
    have e := ints_sum ((ps.filter fun p => !p.isP).map Pt.len)
    rw [want_sum] at e
    generalize List.map (fun n => D.int (n : Nat)) (List.map Pt.len (ps.filter fun p => !p.isP)) = L at e ⊢
    simp [biD, e]
    exact ⟨by simp [noRef], q⟩
theorem mksP {k : Nat} {H : HH} {ps : List Pt} {Q : D → HH → Prop} (hl : ps.length ≤ 100000) (ho : ∀ p ∈ ps, p.ok) (q : Q (.int (mks ps : Nat)) H) : (pcallE (cfP Pg (k + 1)) 4 [0] [.tup (ptsD ps)] [] H).wp Q := by
  refine pureC (P := Pg) (fd := f4) rfl (l := [.tup (ptsD ps)]) rfl (by simp only [noRefs, noRef, pts_nr]; rfl) ?_
  refine run_k rfl ?_
  simp [f4, b4, startD, N4]
  refine lc_filG Pt.d (fun p => .int (p.len : Nat)) (fun p => !p.isR) rfl ps [] (fun p hp => ⟨_, asPt p, ?_, ?_⟩) (by show 0 + ps.length ≤ 16777216; omega) ?_
  · intro P h
    cases p <;> simpa [Pt.wd, cK, cD, cP, Pt.isR] using h
  · intro P h
    have := ho p hp
    cases p with
    | kp n => simpa [Pt.wd, cK, cD, cP, Pt.val, Pt.len] using h
    | dr n => simpa [Pt.wd, cK, cD, cP, Pt.val, Pt.len] using h
    | pu w =>
      have hw : w.length ≤ 16777216 := by have := this.2.1; omega
      simpa [Pt.wd, cK, cD, cP, Pt.val, Pt.len, len_str hw] using h
  · rw [List.nil_append]
    have e : (ps.filter fun p => !p.isR).map (fun p => D.int (p.len : Nat)) = ((ps.filter fun p => !p.isR).map Pt.len).map fun n => D.int (n : Nat) := by rw [List.map_map]; rfl
    rw [e]
    have e := ints_sum ((ps.filter fun p => !p.isR).map Pt.len)
    rw [mks_sum] at e
    generalize List.map (fun n => D.int (n : Nat)) (List.map Pt.len (ps.filter fun p => !p.isR)) = L at e ⊢
    simp [biD, e]
    exact ⟨by simp [noRef], q⟩
end K04
namespace K04
open PySem DI
theorem cut_mid {A : Type} (xs : List A) (a n : Nat) (h : a + n ≤ xs.length) : cutD xs (some (a : Nat)) (some ((a : Nat) + (n : Nat))) = (xs.drop a).take n := by
  unfold cutD
  have e1 : HT.sIx xs.length 0 (some (a : Nat)) = a := by
    show (if ((a : Nat) : Int) < 0 then (((a : Nat) : Int) + (xs.length : Int)).toNat else min ((a : Nat) : Int).toNat xs.length) = _
    rw [if_neg (by omega)]; omega
  have e2 : HT.sIx xs.length xs.length (some ((a : Nat) + (n : Nat))) = a + n := by
    show (if ((a : Nat) + (n : Nat) : Int) < 0 then (((a : Nat) + (n : Nat) : Int) + (xs.length : Int)).toNat else min ((a : Nat) + (n : Nat) : Int).toNat xs.length) = _
    rw [if_neg (by omega)]; omega
  rw [e1, e2]
  congr 1
  omega
theorem strs_of : ∀ l : List (List Nat), strsOf (l.map D.str) = some l
  | [] => rfl
  | x :: l => by simp [strsOf, strs_of l]
theorem joinE : ∀ l : List (List Nat), joinL [] l = l.flatten
  | [] => rfl
  | [x] => by simp [joinL]
  | x :: y :: r => by
    have := joinE (y :: r)
    simp [joinL, this]
theorem join_nil {l : List (List Nat)} (h : (l.map (·.length)).sum ≤ 16777216) : mtD .join (.str []) [.lv (l.map D.str)] = some (.str l.flatten) := by
  show (match strsOf (l.map D.str) with | some zs => _ | none => none) = _
  rw [strs_of]
  show (if (l.map (·.length)).sum + l.length * 0 ≤ lim then some (D.str (joinL [] l)) else none) = _
  rw [if_pos (by show _ ≤ 16777216; omega), joinE]
theorem sl_mid {t : List Nat} {a n : Nat} (h : a + n ≤ t.length) (hl : t.length ≤ 16777216) : slD (.str t) (some ((a : Nat) : Int)) (some (((a : Nat) : Int) + ((n : Nat) : Int))) = some (.str ((t.drop a).take n)) := by
  show (if t.length ≤ lim then some (D.str (cutD t _ _)) else none) = _
  rw [if_pos (by show _ ≤ 16777216; exact hl), cut_mid t a n h]
def ChI (t : List Nat) (ps0 : List Pt) (xs : List D) (s : Sd) (H : HH) : Prop := ∃ (ps : List Pt) (acc : List (List Nat)) (a : Nat) (x4 x5 : Option D), xs = ptsD ps ∧ H = [.lst (acc.map D.str)] ∧ a + want ps = t.length ∧ acc.flatten ++ app t ps a = app t ps0 0 ∧ acc.length + ps.length ≤ 100000 ∧ (∀ p ∈ ps, p.ok) ∧
  s = [some (.str t), some (.tup (ptsD ps0)), some (.ref 0), some (.int (a : Nat)), x4, x5]
theorem changedOk {k : Nat} {H : HH} {t : List Nat} {ps : List Pt} {Q : D → HH → Prop} (hl : ps.length ≤ 100000) (ho : ∀ p ∈ ps, p.ok) (ht : t.length ≤ 100000) (hw : want ps = t.length) (hA : (app t ps 0).length ≤ 1000000) (q : Q (.str (app t ps 0)) H) :
    (pcallE (cfP Pg (k + 2)) 8 [0, 1] [.str t, .tup (ptsD ps)] [] H).wp Q := by
  refine pureC (P := Pg) (fd := f8) rfl (l := [.str t, .tup (ptsD ps)]) rfl (by simp only [noRefs, noRef, pts_nr]; rfl) ?_
  refine run_k rfl ?_
  have ln : biD .len [.str t] = some (.int (t.length : Nat)) := len_str (by omega)
  simp [f8, b8, startD, N8, ln]
  refine wantP hl ?_
  simp [hw]
  refine for_wp (I := ChI t ps) ?_ ?_ _ _ _ ⟨ps, [], 0, _, _, rfl, rfl, by omega, by simp, by simpa using hl, ho, rfl⟩
  · rintro x xs s H1 ⟨qs, acc, a, x4, x5, hx, rfl, ha, he, hn, hok, rfl⟩
    cases qs with
    | nil => cases hx
    | cons p qs =>
      cases hx
      refine ⟨rfl, _, asPt p, ?_⟩
      have hp := hok p List.mem_cons_self
      have hok' : ∀ p ∈ qs, p.ok := fun p h => hok p (List.mem_cons_of_mem _ h)
      simp only [List.length_cons] at hn
      have al : (acc.map D.str).length < lim := by show _ < 16777216; rw [List.length_map]; omega
      have v0 : viewD [.lst (acc.map D.str)] (.ref 0) = .lv (acc.map D.str) := rfl
      have ap : ∀ w : List Nat, mtE .append (.ref 0) [.str w] [.lst (acc.map D.str)] = .ok .non [.lst ((acc ++ [w]).map D.str)] := fun w => by
        rw [app_ok rfl al, List.map_append]; rfl
      cases p with
      | pu w =>
        simp [Pt.wd, cP, Pt.val, v0, rcvOk, ap]
        exact ⟨qs, acc ++ [w], a, _, _, rfl, by simp, by simpa [want] using ha, by simpa [app] using he, by simp; omega, hok', rfl⟩
      | kp n =>
        have sl := sl_mid (t := t) (a := a) (n := n) (by simp only [want] at ha; omega) (by omega)
        simp [Pt.wd, cK, Pt.val, v0, rcvOk, sl, ap, augD]
        exact ⟨qs, acc ++ [(t.drop a).take n], a + n, some (.str cK), some (.int n), rfl, by simp, by simp only [want] at ha; omega, by simpa [app] using he, by simp; omega, hok', by simp [cK]⟩
      | dr n =>
        simp [Pt.wd, cD, Pt.val, v0, rcvOk, ap, augD]
        exact ⟨qs, acc ++ [[]], a + n, some (.str cD), some (.int n), rfl, by simp, by simp only [want] at ha; omega, by simpa [app] using he, by simp; omega, hok', by simp [cD]⟩
  · rintro s H1 ⟨qs, acc, a, x4, x5, hx, rfl, ha, he, hn, hok, rfl⟩
    cases qs with
    | cons p qs => cases hx
    | nil =>
      refine ⟨rfl, ?_⟩
      simp only [app, List.append_nil] at he
      have v0 : viewD [.lst (acc.map D.str)] (.ref 0) = .lv (acc.map D.str) := rfl
      have hs : (acc.map (·.length)).sum ≤ 1000000 := by rw [← List.length_flatten, he]; exact hA
      simp [rcvOk, mtE, isMu, v0]
      refine ⟨_, join_nil (l := acc) (by omega), by simp [noRef], ?_⟩
      rw [he]
      exact q
theorem changedEx {k : Nat} {H : HH} {t : List Nat} {ps : List Pt} {Q : D → HH → Prop} {X : XV → HH → Prop} (hl : ps.length ≤ 100000) (ht : t.length ≤ 100000) (hw : want ps ≠ t.length) (q : X ⟨.own 0, some (.int (want ps : Nat))⟩ H) :
    (pcallE (cfP Pg (k + 2)) 8 [0, 1] [.str t, .tup (ptsD ps)] [] H).wpx Q X := by
  refine pcallE_wpx (l := [.str t, .tup (ptsD ps)]) (by rw [dflP (P := Pg) (fd := f8) rfl]; rfl) (by simp only [noRefs, noRef, pts_nr]; rfl) ?_
  rw [show (cfP Pg (k + 2)).call = callN Pg (k + 2) from rfl, stepP (P := Pg) (fd := f8) rfl]
  refine run_wpx rfl ?_
  have ln : biD .len [.str t] = some (.int (t.length : Nat)) := len_str (by omega)
  refine swpx_cons (swpx_ite ?_)
  simp [f8, startD, N8, ln]
  refine wantP hl ?_
  have e : ((t.length : Int) == (want ps : Nat)) = false := by simp; omega
  simp [e]
  refine swpx_cons (swpx_rz ?_)
  simp
  refine wantP hl ?_
  exact ⟨by simp [noRef], q⟩
end K04
namespace K04
open PySem DI
def badL : List D := [.tup [.str cK, .int 0], .tup [.str cD, .int (-1)], .tup [.str cP, .str []], .tup [.str cK, .bl true], .lv [.str cK, .int 1], .tup [.str cK, .str [49]], .tup [.str cP, .int 1], .tup [.str [103, 111], .int 1],
  .tup [.str cK, .int 1, .int 1], .non, .str cP, .tup [.str cP, .lv [.str [97]]], .tup [.lv [.str cK], .int 1]]
theorem bad_nr : ∀ d ∈ badL, noRef d = true := by decide
def words3 : List (List Nat) := [cK, cD, cP]
theorem numP {k : Nat} {H : HH} {n : Nat} {Q : D → HH → Prop} (q : Q (.bl (decide (1 ≤ n))) H) : (pcallE (cfP Pg (k + 1)) 0 [0, 1] [.int (n : Nat), .int 1] [] H).wp Q := by
  refine pureC (P := Pg) (fd := f0) rfl (l := [.int (n : Nat), .int 1]) rfl rfl ?_
  refine run_k rfl ?_
  have e : decide ((1 : Int) ≤ (n : Nat)) = decide (1 ≤ n) := decide_eq_decide.mpr (by omega)
  simp [f0, b0, startD, N0, tyIs, e]
  exact ⟨by simp [noRef], q⟩
theorem numI {k : Nat} {H : HH} {i : Int} {Q : D → HH → Prop} (q : Q (.bl (decide (1 ≤ i))) H) : (pcallE (cfP Pg (k + 1)) 0 [0, 1] [.int i, .int 1] [] H).wp Q := by
  refine pureC (P := Pg) (fd := f0) rfl (l := [.int i, .int 1]) rfl rfl ?_
  refine run_k rfl ?_
  simp [f0, b0, startD, N0, tyIs]
  exact ⟨by simp [noRef], q⟩
theorem numN {k : Nat} {H : HH} {d : D} {Q : D → HH → Prop} (hd : d = .bl true ∨ d = .str [49]) (q : Q (.bl false) H) : (pcallE (cfP Pg (k + 1)) 0 [0, 1] [d, .int 1] [] H).wp Q := by
  refine pureC (P := Pg) (fd := f0) rfl (l := [d, .int 1]) rfl (by rcases hd with rfl | rfl <;> rfl) ?_
  refine run_k rfl ?_
  rcases hd with rfl | rfl
  · simp [f0, b0, startD, N0, tyIs]
    exact ⟨by simp [noRef], q⟩
  · simp [f0, b0, startD, N0, tyIs]
    exact ⟨by simp [noRef], q⟩
theorem con0 : Pg.consts[0]? = some (.tup (words3.map D.str)) := rfl
theorem inK : [107, 101, 101, 112] ∈ words3 := by decide
theorem inD' : [100, 114, 111, 112] ∈ words3 := by decide
theorem inP : [112, 117, 116] ∈ words3 := by decide
theorem inNo : [103, 111] ∉ words3 := by decide
theorem partP {k : Nat} {H : HH} {p : Pt} {Q : D → HH → Prop} (ho : p.ok) (q : Q (.bl true) H) : (pcallE (cfP Pg (k + 2)) 1 [0] [p.d] [] H).wp Q := by
  refine pureC (P := Pg) (fd := f1) rfl (l := [p.d]) rfl (by simp [noRefs, pt_nr]) ?_
  refine run_k rfl ?_
  cases p with
  | kp n =>
    simp [f1, b1, startD, N1, tyIs, Pt.d, Pt.wd, Pt.val, con0, in_strsT, len_tup, cK, inK]
    refine numP ?_
    simp [ho.1]
    exact ⟨by simp [noRef], q⟩
  | dr n =>
    simp [f1, b1, startD, N1, tyIs, Pt.d, Pt.wd, Pt.val, con0, in_strsT, len_tup, cD, inD']
    refine numP ?_
    simp [ho.1]
    exact ⟨by simp [noRef], q⟩
  | pu w =>
    have h : w.isEmpty = false := by have := ho.1; cases w with | nil => exact absurd rfl this | cons _ _ => rfl
    simp [f1, b1, startD, N1, tyIs, Pt.d, Pt.wd, Pt.val, con0, in_strsT, len_tup, cP, inP, h]
    exact ⟨by simp [noRef], q⟩
theorem badP {k : Nat} {H : HH} {d : D} {Q : D → HH → Prop} (hd : d ∈ badL) (q : Q (.bl false) H) : (pcallE (cfP Pg (k + 2)) 1 [0] [d] [] H).wp Q := by
  refine pureC (P := Pg) (fd := f1) rfl (l := [d]) rfl (by simp [noRefs, bad_nr d hd]) ?_
  refine run_k rfl ?_
  simp only [badL, List.mem_cons, List.not_mem_nil, or_false] at hd
  rcases hd with rfl | rfl | rfl | rfl | rfl | rfl | rfl | rfl | rfl | rfl | rfl | rfl | rfl
  · simp [f1, b1, startD, N1, tyIs, con0, in_strsT, len_tup, cK, cD, cP, inK, inD', inP, inNo]
    refine numI (i := 0) ?_
    simp
    exact ⟨by simp [noRef], q⟩
  · simp [f1, b1, startD, N1, tyIs, con0, in_strsT, len_tup, cK, cD, cP, inK, inD', inP, inNo]
    refine numI (i := -1) ?_
    simp
    exact ⟨by simp [noRef], q⟩
  · simp [f1, b1, startD, N1, tyIs, con0, in_strsT, len_tup, cK, cD, cP, inK, inD', inP, inNo]
    exact ⟨by simp [noRef], q⟩
  · simp [f1, b1, startD, N1, tyIs, con0, in_strsT, len_tup, cK, cD, cP, inK, inD', inP, inNo]
    refine numN (.inl rfl) ?_
    simp
    exact ⟨by simp [noRef], q⟩
  · simp [f1, b1, startD, N1, tyIs, con0, in_strsT, len_tup, cK, cD, cP, inK, inD', inP, inNo]
    exact ⟨by simp [noRef], q⟩
  · simp [f1, b1, startD, N1, tyIs, con0, in_strsT, len_tup, cK, cD, cP, inK, inD', inP, inNo]
    refine numN (.inr rfl) ?_
    simp
    exact ⟨by simp [noRef], q⟩
  · simp [f1, b1, startD, N1, tyIs, con0, in_strsT, len_tup, cK, cD, cP, inK, inD', inP, inNo]
    exact ⟨by simp [noRef], q⟩
  · simp [f1, b1, startD, N1, tyIs, con0, in_strsT, len_tup, cK, cD, cP, inK, inD', inP, inNo]
    exact ⟨by simp [noRef], q⟩
  · simp [f1, b1, startD, N1, tyIs, con0, in_strsT, len_tup, cK, cD, cP, inK, inD', inP, inNo]
    exact ⟨by simp [noRef], q⟩
  · simp [f1, b1, startD, N1, tyIs, con0, in_strsT, len_tup, cK, cD, cP, inK, inD', inP, inNo]
    exact ⟨by simp [noRef], q⟩
  · simp [f1, b1, startD, N1, tyIs, con0, in_strsT, len_tup, cK, cD, cP, inK, inD', inP, inNo]
    exact ⟨by simp [noRef], q⟩
  · simp [f1, b1, startD, N1, tyIs, con0, in_strsT, len_tup, cK, cD, cP, inK, inD', inP, inNo]
    exact ⟨by simp [noRef], q⟩
  · simp [f1, b1, startD, N1, tyIs, con0, in_strsT, len_tup, cK, cD, cP, inK, inD', inP, inNo]
    exact ⟨by simp [noRef], q⟩
end K04
namespace K04
open PySem DI
inductive El where
  | pt (p : Pt)
  | bad (d : D)
def El.d : El → D
  | .pt p => p.d
  | .bad d => d
def El.ok : El → Prop
  | .pt p => p.ok
  | .bad d => d ∈ badL
def El.isPt : El → Bool
  | .pt _ => true
  | .bad _ => false
def elsD (es : List El) : List D := es.map El.d
theorem el_nr {e : El} (h : e.ok) : noRef e.d = true := by
  cases e with
  | pt p => exact pt_nr p
  | bad d => exact bad_nr d h
theorem els_nr : ∀ {es : List El}, (∀ e ∈ es, e.ok) → noRefs (elsD es) = true
  | [], _ => rfl
  | e :: r, h => by
    show (noRef e.d && noRefs (elsD r)) = true
    rw [el_nr (h e List.mem_cons_self), els_nr fun x hx => h x (List.mem_cons_of_mem _ hx)]; rfl
theorem all_bls (es : List El) : allD (.lv (es.map fun e => D.bl e.isPt)) = some (.bl (es.all El.isPt)) := by
  have h : blsOf (es.map fun e => D.bl e.isPt) = some (es.map El.isPt) := by
    induction es with
    | nil => rfl
    | cons e r ih => simp [blsOf, ih]
  show (blsOf _).map _ = _
  rw [h]
  simp [List.all_map]
theorem pts_of : ∀ {es : List El}, es.all El.isPt = true → ∃ ps : List Pt, es = ps.map .pt
  | [], _ => ⟨[], rfl⟩
  | .pt p :: r, h => by
    obtain ⟨ps, rfl⟩ := pts_of (es := r) (by simpa [El.isPt] using h)
    exact ⟨p :: ps, rfl⟩
  | .bad d :: r, h => by simp [El.isPt] at h
theorem elPart {k : Nat} {H : HH} {e : El} {Q : D → HH → Prop} (he : e.ok) (q : Q (.bl e.isPt) H) : (pcallE (cfP Pg (k + 2)) 1 [0] [e.d] [] H).wp Q := by
  cases e with
  | pt p => exact partP he q
  | bad d => exact badP he q
def bad2 (x y : Pt) : Bool := (x.wd == y.wd) || (x.isR && y.isP)
def adj (ps : List Pt) : Bool := !((ps.zip ps.tail).any fun z => bad2 z.1 z.2)
def isCh (es : List El) : Bool := match es.all El.isPt with
  | true => adj (es.filterMap fun e => match e with | .pt p => some p | .bad _ => none)
  | false => false
theorem els_pts (ps : List Pt) : elsD (ps.map .pt) = ptsD ps := by
  unfold elsD ptsD
  rw [List.map_map]; rfl
theorem isCh_pts (ps : List Pt) : isCh (ps.map .pt) = adj ps := by
  have h : (ps.map El.pt).all El.isPt = true := by simp [El.isPt]
  have e : (ps.map El.pt).filterMap (fun e => match e with | .pt p => some p | .bad _ => none) = ps := by
    rw [List.filterMap_map]
    simp [Function.comp_def]
  unfold isCh
  rw [h]
  exact congrArg adj e
theorem isCh_bad {es : List El} (h : es.all El.isPt = false) : isCh es = false := by unfold isCh; rw [h]
def pairD (z : Pt × Pt) : D := .tup [.str z.1.wd, .str z.2.wd]
theorem asPr {i j : Nat} {s : Sd} (z : Pt × Pt) : asT (.tp (.cons (.nm i) (.cons (.nm j) .nil))) (pairD z) s = some ((s.set i (some (.str z.1.wd))).set j (some (.str z.2.wd))) := by
  simp [pairD]
theorem zipW (a b : List Pt) : zipD (a.map fun p => D.str p.wd) (b.map fun p => D.str p.wd) = (a.zip b).map pairD := by
  unfold zipD
  rw [List.zip_map, List.map_map]
  rfl
theorem any_bls (l : List (Pt × Pt)) : anyD (.lv (l.map fun z => D.bl (bad2 z.1 z.2))) = some (.bl (l.any fun z => bad2 z.1 z.2)) := by
  have h : blsOf (l.map fun z => D.bl (bad2 z.1 z.2)) = some (l.map fun z => bad2 z.1 z.2) := by
    induction l with
    | nil => rfl
    | cons e r ih => simp [blsOf, ih]
  show (blsOf _).map _ = _
  rw [h]
  simp [List.any_map]
theorem cut1 (l : List D) (h : 1 ≤ l.length ∨ l = []) : cutD l (some 1) none = l.drop 1 := by
  rcases h with h | rfl
  · exact cut_from l (j := 1) rfl h
  · rfl
theorem eqPair (x y : Pt) : cmpD .Eq (.tup [.str x.wd, .str y.wd]) (.tup [.str [100, 114, 111, 112], .str [112, 117, 116]]) = some (x.isR && y.isP) := by
  cases x <;> cases y <;> rfl
theorem changeP {k : Nat} {H : HH} {es : List El} {Q : D → HH → Prop} (ho : ∀ e ∈ es, e.ok) (hl : es.length ≤ 100000) (q : Q (.bl (isCh es)) H) : (pcallE (cfP Pg (k + 3)) 2 [0] [.tup (elsD es)] [] H).wp Q := by
  refine pureC (P := Pg) (fd := f2) rfl (l := [.tup (elsD es)]) rfl (by simp only [noRefs, noRef, els_nr ho]; rfl) ?_
  refine run_k rfl ?_
  simp [f2, b2, startD, N2, tyIs]
  refine lc_mapG El.d (fun e => .bl e.isPt) rfl es [] (fun e he => ⟨_, a_nm 4 e.d, fun P h => ?_⟩) (by show 0 + es.length ≤ 16777216; omega) ?_
  · simp
    exact elPart (ho e he) h
  · rw [List.nil_append]
    simp [biD, all_bls]
    cases ha : es.all El.isPt with
    | false =>
      rw [isCh_bad ha] at q
      have hx : ∃ x, x ∈ es ∧ x.isPt = false := by simpa using ha
      rw [if_pos hx]
      exact ⟨by simp [noRef], q⟩
    | true =>
      obtain ⟨ps, rfl⟩ := pts_of ha
      rw [isCh_pts] at q
      rw [List.length_map] at hl
      rw [els_pts]
      rw [if_neg (by rintro ⟨x, h1, h2⟩; obtain ⟨p, _, rfl⟩ := List.mem_map.mp h1; cases h2)]
      refine lc_mapG Pt.d (fun p => .str p.wd) rfl ps [] (fun p he => ⟨_, asPt p, fun P h => ?_⟩) (by show 0 + ps.length ≤ 16777216; omega) ?_
      · simpa using h
      · rw [List.nil_append]
        have sl : slD (.lv (ps.map fun p => D.str p.wd)) (some 1) none = some (.lv (ps.tail.map fun p => D.str p.wd)) := by
          show some (D.lv (cutD _ (some 1) none)) = _
          rw [cut1 _ (by cases ps <;> simp), List.drop_one, ← List.map_tail]
        have zp : ∀ H, zipI H (.lv (ps.map fun p => D.str p.wd)) (.lv (ps.tail.map fun p => D.str p.wd)) = some ((ps.zip ps.tail).map pairD, []) := fun H => by
          show some (zipD _ _, [] ++ []) = _
          rw [zipW]; rfl
        generalize (ps.map fun p => D.str p.wd) = W at sl zp ⊢
        generalize (ps.tail.map fun p => D.str p.wd) = W1 at sl zp ⊢
        simp [sl, zp]
        refine lc_mapG pairD (fun z => .bl (bad2 z.1 z.2)) rfl (ps.zip ps.tail) [] (fun z he => ⟨_, asPr z, fun P h => ?_⟩) (by show 0 + _ ≤ 16777216; rw [List.length_zip]; omega) ?_
        · simp
          by_cases e : z.1.wd = z.2.wd
          · have h1 : bad2 z.1 z.2 = true := by simp [bad2, e]
            rw [h1] at h
            simpa [e] using h
          · have h1 : bad2 z.1 z.2 = (z.1.isR && z.2.isP) := by simp [bad2, e]
            rw [h1] at h
            simp [e, eqPair]
            exact ⟨by decide, h⟩
        · rw [List.nil_append]
          have an := any_bls (ps.zip ps.tail)
          generalize ((ps.zip ps.tail).map fun z => D.bl (bad2 z.1 z.2)) = L at an ⊢
          simp [biD, an]
          exact ⟨by simp [noRef], q⟩
theorem changePL {k : Nat} {H : HH} {ds : List D} {Q : D → HH → Prop} (hn : noRefs ds = true) (q : Q (.bl false) H) : (pcallE (cfP Pg (k + 3)) 2 [0] [.lv ds] [] H).wp Q := by
  refine pureC (P := Pg) (fd := f2) rfl (l := [.lv ds]) rfl (by simp [noRefs, noRef, hn]) ?_
  refine run_k rfl ?_
  simp [f2, b2, startD, N2, tyIs]
  exact ⟨by simp [noRef], q⟩
theorem bads_ok : ∀ d ∈ badL, plainD d = true ∧ okS d = true ∧ depthD d ≤ 5 := by decide
theorem el_bad {es : List El} (ho : ∀ e ∈ es, e.ok) : eqOk (.lv ((es.filter fun e => !e.isPt).map El.d)) = true := by
  have h : ∀ l : List El, (∀ e ∈ l, e.d ∈ badL) → plainDs (l.map El.d) = true ∧ okSs (l.map El.d) = true ∧ depthDs (l.map El.d) ≤ 5 := by
    intro l
    induction l with
    | nil => intro _; exact ⟨rfl, rfl, by decide⟩
    | cons e r ih =>
      intro h
      obtain ⟨a, b, c⟩ := ih fun x hx => h x (List.mem_cons_of_mem _ hx)
      obtain ⟨a1, b1, c1⟩ := bads_ok _ (h e List.mem_cons_self)
      refine ⟨?_, ?_, ?_⟩
      · show (plainD e.d && plainDs (r.map El.d)) = true
        rw [a1, a]; rfl
      · show (okS e.d && okSs (r.map El.d)) = true
        rw [b1, b]; rfl
      · show max (depthD e.d) (depthDs (r.map El.d)) ≤ 5
        omega
  obtain ⟨a, b, c⟩ := h (es.filter fun e => !e.isPt) fun e he => by
    obtain ⟨h1, h2⟩ := List.mem_filter.mp he
    have h3 := ho e h1
    cases e with
    | pt p => cases h2
    | bad d => exact h3
  unfold eqOk
  show (plainDs _ && okSs _ && decide (depthDs _ + 1 ≤ 64)) = true
  rw [a, b]
  simp; omega
theorem nil_ok : eqOk (.lv []) = true := by decide
theorem ne_bads {es : List El} (ho : ∀ e ∈ es, e.ok) : cmpD .NotEq (.lv ((es.filter fun e => !e.isPt).map El.d)) (.lv []) = some (!es.all El.isPt) := by
  show (eqO _ _).map (!·) = _
  have e : eqO (.lv ((es.filter fun e => !e.isPt).map El.d)) (.lv []) = some (es.all El.isPt) := by
    show (if eqOk _ && eqOk _ then some (eqD _ _) else none) = _
    rw [el_bad ho, nil_ok]
    simp only [Bool.and_self, if_true]
    rw [e_lv]
    clear ho
    congr 1
    induction es with
    | nil => rfl
    | cons e r ih =>
      cases e with
      | pt p => simpa [El.isPt] using ih
      | bad d => simp [El.isPt, eqDs]
  rw [e]; rfl
end K04
namespace K04
open PySem DI
def addU (F : List Pt) (b : Bool) : List Pt := match F.getLast?, b with
  | some (.kp k), true => F.dropLast ++ [.kp (k + 1)]
  | some (.dr k), false => F.dropLast ++ [.dr (k + 1)]
  | _, true => F ++ [.kp 1]
  | _, false => F ++ [.dr 1]
def putAt (o : Option (List Nat)) : List Pt := match o with
  | some w => [.pu w]
  | none => []
def Fs (st : List Bool) (lk : Nat → Option (List Nat)) : Nat → List Pt
  | 0 => []
  | p + 1 => match st[p]? with
    | some b => addU (Fs st lk p ++ putAt (lk p)) b
    | none => Fs st lk p ++ putAt (lk p)
def Ms (t : List Nat) (st : List Bool) (lk : Nat → Option (List Nat)) : Nat → List Nat
  | 0 => []
  | p + 1 => Ms t st lk p ++ (lk p).getD [] ++ (match st[p]?, t[p]? with | some true, some c => [c] | _, _ => [])
theorem want_app : ∀ a b : List Pt, want (a ++ b) = want a + want b
  | [], b => by simp [want]
  | .kp n :: r, b => by simp [want, want_app r b]; omega
  | .dr n :: r, b => by simp [want, want_app r b]; omega
  | .pu w :: r, b => by simp [want, want_app r b]
theorem mks_app : ∀ a b : List Pt, mks (a ++ b) = mks a + mks b
  | [], b => by simp [mks]
  | .kp n :: r, b => by simp [mks, mks_app r b]; omega
  | .dr n :: r, b => by simp [mks, mks_app r b]
  | .pu w :: r, b => by simp [mks, mks_app r b]; omega
theorem app_app (t : List Nat) : ∀ (a b : List Pt) (i : Nat), app t (a ++ b) i = app t a i ++ app t b (i + want a)
  | [], b, i => by simp [app, want]
  | .kp n :: r, b, i => by simp [app, want, app_app t r b, Nat.add_assoc]
  | .dr n :: r, b, i => by simp [app, want, app_app t r b, Nat.add_assoc]
  | .pu w :: r, b, i => by simp [app, want, app_app t r b]
def okF (F : List Pt) : Prop := adj F = true ∧ ∀ p ∈ F, p.ok
theorem adj_iff (F : List Pt) : adj F = true ↔ ∀ k x y, F[k]? = some x → F[k + 1]? = some y → bad2 x y = false := by
  unfold adj
  rw [Bool.not_eq_true', List.any_eq_false]
  constructor
  · intro h k x y h1 h2
    have := h (x, y) (List.mem_iff_getElem?.mpr ⟨k, by rw [List.getElem?_zip_eq_some]; exact ⟨h1, by rw [List.getElem?_tail]; exact h2⟩⟩)
    simpa using this
  · rintro h ⟨x, y⟩ hz
    obtain ⟨k, hk⟩ := List.mem_iff_getElem?.mp hz
    rw [List.getElem?_zip_eq_some] at hk
    obtain ⟨h1, h2⟩ := hk
    rw [List.getElem?_tail] at h2
    simpa using h k x y h1 h2
theorem adj_snoc {F : List Pt} {y : Pt} (h : adj F = true) (hl : ∀ x, F.getLast? = some x → bad2 x y = false) : adj (F ++ [y]) = true := by
  rw [adj_iff] at h ⊢
  intro k x z h1 h2
  by_cases hk : k + 1 < F.length
  · rw [List.getElem?_append_left (by omega)] at h1
    rw [List.getElem?_append_left hk] at h2
    exact h k x z h1 h2
  · have l2 := (List.getElem?_eq_some_iff.mp h2).1
    rw [List.length_append, List.length_singleton] at l2
    have e : k + 1 = F.length := by omega
    rw [e, List.getElem?_append_right (Nat.le_refl _)] at h2
    simp at h2
    subst h2
    rw [List.getElem?_append_left (by omega)] at h1
    refine hl x ?_
    rw [List.getLast?_eq_getElem?, show F.length - 1 = k by omega]
    exact h1
theorem adj_init {F : List Pt} {x : Pt} (h : adj (F ++ [x]) = true) : adj F = true := by
  rw [adj_iff] at h ⊢
  intro k a b h1 h2
  have l2 := (List.getElem?_eq_some_iff.mp h2).1
  exact h k a b (by rw [List.getElem?_append_left (by omega)]; exact h1) (by rw [List.getElem?_append_left l2]; exact h2)
theorem adj_swap {F : List Pt} {x y : Pt} (h : adj (F ++ [x]) = true) (hw : ∀ z, bad2 z y = bad2 z x) : adj (F ++ [y]) = true := by
  refine adj_snoc (adj_init h) fun z hz => ?_
  rw [hw]
  rw [adj_iff] at h
  have hl : 0 < F.length := by cases F with | nil => cases hz | cons _ _ => simp
  rw [List.getLast?_eq_getElem?] at hz
  refine h (F.length - 1) z x (by rw [List.getElem?_append_left (by omega)]; exact hz) ?_
  rw [show F.length - 1 + 1 = F.length by omega, List.getElem?_append_right (Nat.le_refl _)]
  simp
structure Inv1 (t : List Nat) (F : List Pt) (M : List Nat) (p : Nat) : Prop where
  ad : adj F = true
  ok : ∀ x ∈ F, x.ok
  wt : want F = p
  ap : app t F 0 = M
  mm : mks F = M.length
theorem kp1 : (Pt.kp 1).ok := ⟨by decide, by decide⟩
theorem dr1 : (Pt.dr 1).ok := ⟨by decide, by decide⟩
theorem inv_put {t : List Nat} {F : List Pt} {M : List Nat} {p : Nat} {w : List Nat} (h : Inv1 t F M p) (hw : (Pt.pu w).ok) (hl : ∀ x, F.getLast? = some x → ∃ n, x = .kp n) : Inv1 t (F ++ [.pu w]) (M ++ w) p where
  ad := adj_snoc h.ad fun x hx => by obtain ⟨n, rfl⟩ := hl x hx; rfl
  ok := fun x hx => by
    rcases List.mem_append.mp hx with hx | hx
    · exact h.ok x hx
    · rw [List.mem_singleton.mp hx]; exact hw
  wt := by rw [want_app, h.wt]; rfl
  ap := by rw [app_app, h.ap]; simp [app]
  mm := by rw [mks_app, h.mm]; simp [mks]
theorem take1 {t : List Nat} {p : Nat} {c : Nat} (h : t[p]? = some c) : (t.drop p).take 1 = [c] := by
  have e : (t.drop p)[0]? = some c := by simpa using h
  cases hd : t.drop p with
  | nil => rw [hd] at e; cases e
  | cons x r => rw [hd] at e; cases e; rfl
theorem takeS {t : List Nat} {a k : Nat} {c : Nat} (h : t[a + k]? = some c) : (t.drop a).take (k + 1) = (t.drop a).take k ++ [c] := by
  rw [List.take_add_one, List.getElem?_drop, h]; rfl
theorem inv_new {t : List Nat} {F : List Pt} {M : List Nat} {p c : Nat} {b : Bool} (h : Inv1 t F M p) (hc : t[p]? = some c) (hl : ∀ x, F.getLast? = some x → bad2 x (if b then .kp 1 else .dr 1) = false) : Inv1 t (F ++ [if b then .kp 1 else .dr 1]) (M ++ if b then [c] else []) (p + 1) where
  ad := adj_snoc h.ad hl
  ok := fun x hx => by
    rcases List.mem_append.mp hx with hx | hx
    · exact h.ok x hx
    · rw [List.mem_singleton.mp hx]; cases b <;> first | exact kp1 | exact dr1
  wt := by rw [want_app, h.wt]; cases b <;> rfl
  ap := by
    rw [app_app, h.ap, h.wt, Nat.zero_add]
    cases b with
    | false => simp [app]
    | true => simp [app, take1 hc]
  mm := by rw [mks_app, h.mm]; cases b <;> simp [mks]
theorem inv_more {t : List Nat} {G : List Pt} {M : List Nat} {p c k : Nat} {b : Bool} (ht : t.length ≤ 90000) (h : Inv1 t (G ++ [if b then .kp k else .dr k]) M p) (hc : t[p]? = some c) : Inv1 t (G ++ [if b then .kp (k + 1) else .dr (k + 1)]) (M ++ if b then [c] else []) (p + 1) where
  ad := adj_swap h.ad fun z => by cases b <;> cases z <;> rfl
  ok := fun x hx => by
    rcases List.mem_append.mp hx with hx | hx
    · exact h.ok x (List.mem_append_left _ hx)
    · rw [List.mem_singleton.mp hx]
      have w := h.wt
      rw [want_app] at w
      have hp := (List.getElem?_eq_some_iff.mp hc).1
      cases b with
      | true =>
        have w : want G + (k + 0) = p := w
        have big : (90001 : Nat) ≤ 10 ^ 20 := by decide
        have hk : k + 1 ≤ 90001 := by omega
        exact ⟨by omega, Nat.le_trans hk big⟩
      | false =>
        have w : want G + (k + 0) = p := w
        exact ⟨by omega, by show k + 1 ≤ 100000; omega⟩
  wt := by
    have w := h.wt
    rw [want_app] at w ⊢
    cases b with
    | true => have w : want G + (k + 0) = p := w; show want G + (k + 1 + 0) = _; omega
    | false => have w : want G + (k + 0) = p := w; show want G + (k + 1 + 0) = _; omega
  ap := by
    have w := h.wt
    have a := h.ap
    rw [want_app] at w
    rw [app_app, Nat.zero_add] at a ⊢
    cases b with
    | true =>
      have w : want G + (k + 0) = p := w
      have hk : t[want G + k]? = some c := by rw [show want G + k = p by omega]; exact hc
      rw [← a]
      simp [app, takeS hk]
    | false =>
      rw [← a]
      simp [app]
  mm := by
    have m := h.mm
    rw [mks_app] at m ⊢
    cases b with
    | true => have m : mks G + (k + 0) = M.length := m; show mks G + (k + 1 + 0) = _; simp; omega
    | false => have m : mks G + 0 = M.length := m; show mks G + 0 = _; simpa using m
theorem inv_add {t : List Nat} {F : List Pt} {M : List Nat} {p c : Nat} {b : Bool} (ht : t.length ≤ 90000) (h : Inv1 t F M p) (hc : t[p]? = some c) : Inv1 t (addU F b) (M ++ if b then [c] else []) (p + 1) ∧ (addU F b).getLast?.any (fun x => match x with | .kp _ => b | .dr _ => !b | .pu _ => false) = true := by
  rcases List.eq_nil_or_concat F with rfl | ⟨G, x, e⟩
  · have := inv_new (b := b) h hc (fun x hx => by cases hx)
    cases b with
    | true => exact ⟨this, rfl⟩
    | false => exact ⟨this, rfl⟩
  · rw [List.concat_eq_append] at e
    subst e
    have gl : (G ++ [x]).getLast? = some x := by simp
    have dl : (G ++ [x]).dropLast = G := by simp
    cases x with
    | kp k =>
      cases b with
      | true =>
        have z := inv_more (b := true) ht h hc
        have ea : addU (G ++ [.kp k]) true = G ++ [.kp (k + 1)] := by unfold addU; rw [gl, dl]
        rw [ea]
        exact ⟨z, by simp⟩
      | false =>
        have z := inv_new (b := false) h hc (fun x hx => by rw [gl] at hx; cases hx; rfl)
        have ea : addU (G ++ [.kp k]) false = G ++ [.kp k] ++ [.dr 1] := by unfold addU; rw [gl]
        rw [ea]
        exact ⟨z, by simp⟩
    | dr k =>
      cases b with
      | true =>
        have z := inv_new (b := true) h hc (fun x hx => by rw [gl] at hx; cases hx; rfl)
        have ea : addU (G ++ [.dr k]) true = G ++ [.dr k] ++ [.kp 1] := by unfold addU; rw [gl]
        rw [ea]
        exact ⟨z, by simp⟩
      | false =>
        have z := inv_more (b := false) ht h hc
        have ea : addU (G ++ [.dr k]) false = G ++ [.dr (k + 1)] := by unfold addU; rw [gl, dl]
        rw [ea]
        exact ⟨z, by simp⟩
    | pu w =>
      have z := inv_new (b := b) h hc (fun x hx => by rw [gl] at hx; cases hx; cases b <;> rfl)
      have ea : addU (G ++ [.pu w]) b = G ++ [.pu w] ++ [if b then .kp 1 else .dr 1] := by unfold addU; rw [gl]; cases b <;> rfl
      rw [ea]
      exact ⟨z, by cases b <;> simp⟩
def lkOk (st : List Bool) (lk : Nat → Option (List Nat)) : Prop := ∀ p w, lk p = some w → (Pt.pu w).ok ∧ (p = 0 ∨ st[p - 1]? = some true)
theorem addU_len (F : List Pt) (b : Bool) : (addU F b).length ≤ F.length + 1 := by
  rcases List.eq_nil_or_concat F with rfl | ⟨G, x, e⟩
  · cases b <;> simp [addU]
  · rw [List.concat_eq_append] at e
    subst e
    cases x <;> cases b <;> simp [addU]
theorem putAt_len (o : Option (List Nat)) : (putAt o).length ≤ 1 := by cases o <;> simp [putAt]
theorem inv_putAt {t : List Nat} {F : List Pt} {M : List Nat} {p : Nat} {o : Option (List Nat)} (h : Inv1 t F M p) (hw : ∀ w, o = some w → (Pt.pu w).ok ∧ ∀ x, F.getLast? = some x → ∃ n, x = .kp n) : Inv1 t (F ++ putAt o) (M ++ o.getD []) p := by
  cases o with
  | none => simpa [putAt] using h
  | some w => exact inv_put h (hw w rfl).1 (hw w rfl).2
def lastIs (F : List Pt) (b : Bool) : Prop := F.getLast?.any (fun x => match x with | .kp _ => b | .dr _ => !b | .pu _ => false) = true
theorem last_kp {F : List Pt} (h : lastIs F true) : ∀ x, F.getLast? = some x → ∃ n, x = .kp n := fun x hx => by
  unfold lastIs at h
  rw [hx] at h
  cases x with
  | kp n => exact ⟨n, rfl⟩
  | dr n => simp at h
  | pu n => simp at h
theorem fs_inv {t : List Nat} {st : List Bool} {lk : Nat → Option (List Nat)} (ht : t.length ≤ 40000) (hs : st.length = t.length) (hk : lkOk st lk) : ∀ p, p ≤ t.length →
    Inv1 t (Fs st lk p) (Ms t st lk p) p ∧ (Fs st lk p).length ≤ 2 * p ∧ ((p = 0 ∧ Fs st lk p = []) ∨ ∃ b, st[p - 1]? = some b ∧ lastIs (Fs st lk p) b)
  | 0, _ => ⟨⟨rfl, by simp [Fs], rfl, rfl, rfl⟩, by simp [Fs], .inl ⟨rfl, rfl⟩⟩
  | p + 1, hp => by
    obtain ⟨h1, h2, h3⟩ := fs_inv ht hs hk p (by omega)
    obtain ⟨b, hb⟩ : ∃ b, st[p]? = some b := ⟨_, List.getElem?_eq_getElem (by omega)⟩
    obtain ⟨c, hc⟩ : ∃ c, t[p]? = some c := ⟨_, List.getElem?_eq_getElem (by omega)⟩
    have i2 : Inv1 t (Fs st lk p ++ putAt (lk p)) (Ms t st lk p ++ (lk p).getD []) p := inv_putAt h1 fun w hw => by
      obtain ⟨k1, k2⟩ := hk p w hw
      refine ⟨k1, ?_⟩
      rcases h3 with ⟨_, e⟩ | ⟨b', hb', hl⟩
      · rw [e]; intro x hx; cases hx
      · rcases k2 with rfl | k2
        · intro x hx
          have : Fs st lk 0 = [] := rfl
          rw [this] at hx; cases hx
        · rw [k2] at hb'; cases hb'
          exact last_kp hl
    obtain ⟨a1, a2⟩ := inv_add (b := b) (by omega) i2 hc
    have e1 : Fs st lk (p + 1) = addU (Fs st lk p ++ putAt (lk p)) b := by simp only [Fs, hb]
    have e2 : Ms t st lk (p + 1) = Ms t st lk p ++ (lk p).getD [] ++ if b then [c] else [] := by simp only [Ms, hb, hc]; cases b <;> rfl
    rw [e1, e2]
    refine ⟨a1, ?_, .inr ⟨b, by simpa using hb, a2⟩⟩
    have := addU_len (Fs st lk p ++ putAt (lk p)) b
    have := putAt_len (lk p)
    rw [List.length_append] at *
    omega
theorem fs_all {t : List Nat} {st : List Bool} {lk : Nat → Option (List Nat)} (ht : t.length ≤ 40000) (hs : st.length = t.length) (hk : lkOk st lk) :
    Inv1 t (Fs st lk (t.length + 1)) (Ms t st lk (t.length + 1)) t.length ∧ (Fs st lk (t.length + 1)).length ≤ 2 * t.length + 1 := by
  obtain ⟨h1, h2, h3⟩ := fs_inv ht hs hk t.length (Nat.le_refl _)
  have hn : st[t.length]? = none := List.getElem?_eq_none (by omega)
  have e1 : Fs st lk (t.length + 1) = Fs st lk t.length ++ putAt (lk t.length) := by simp only [Fs, hn]
  have e2 : Ms t st lk (t.length + 1) = Ms t st lk t.length ++ (lk t.length).getD [] := by simp only [Ms, hn]; simp
  rw [e1, e2]
  refine ⟨inv_putAt h1 fun w hw => ?_, ?_⟩
  · obtain ⟨k1, k2⟩ := hk _ w hw
    refine ⟨k1, ?_⟩
    rcases h3 with ⟨_, e⟩ | ⟨b', hb', hl⟩
    · rw [e]; intro x hx; cases hx
    · rcases k2 with k2 | k2
      · intro x hx
        rw [k2] at hx
        have : Fs st lk 0 = [] := rfl
        rw [this] at hx; cases hx
      · rw [k2] at hb'; cases hb'
        exact last_kp hl
  · have := putAt_len (lk t.length)
    rw [List.length_append]; omega
end K04
namespace K04
open PySem DI
theorem takeK {k r : Nat} {H : HH} {m : Int} {Q : D → HH → Prop} (h : Pool r H) (hm : 0 < m) (hm2 : m < 1073741824) (q : ∀ t H', 0 ≤ t → t < m → Go r H H' → Q (.int t) H') : (callD (cfP Pg (k + 1)) 14 [0, 1] [.ref r, .int m] [] H).wp Q :=
  takeP (P := Pg) rfl h hm hm2 q
theorem at3 {A : Type} (x y z u : A) (xs : List A) : L2.atI (x :: y :: z :: u :: xs) 3 = some u := (at_nat (xs := x :: y :: z :: u :: xs) (n := 3) rfl (by simp)).trans rfl
def signL : List Nat := [97, 98, 32, 10, 46, 123, 125, 90]
theorem sign_ok : ∀ c ∈ signL, c < 0x110000 := by decide
theorem flat_one : ∀ ts : List Nat, (ts.map fun c => [c]).flatten = ts
  | [] => rfl
  | c :: r => by simp [flat_one r]
theorem sum_one : ∀ ts : List Nat, ((ts.map fun c => [c]).map (·.length)).sum = ts.length
  | [] => rfl
  | c :: r => by have := sum_one r; simp at this ⊢; omega
def oneD (ts : List Nat) : List D := ts.map fun c => D.str [c]
theorem join_one {ts : List Nat} (h : ts.length ≤ 16777216) : mtD .join (.str []) [.lv (oneD ts)] = some (.str ts) := by
  have := join_nil (l := ts.map fun c => [c]) (by rw [sum_one]; exact h)
  rw [flat_one, List.map_map] at this
  exact this
def look : List (Nat × List Nat) → Nat → Option (List Nat)
  | [], _ => none
  | z :: r, p => if z.1 = p then some z.2 else look r p
def kD (kv : List (Nat × List Nat)) : List D := kv.map fun z => .int (z.1 : Nat)
def vD (kv : List (Nat × List Nat)) : List D := kv.map fun z => .str z.2
theorem dget_kv (p : Nat) : ∀ kv : List (Nat × List Nat), dgetL (kD kv) (vD kv) (.int (p : Nat)) = (look kv p).map .str
  | [] => rfl
  | z :: r => by
    have ih := dget_kv p r
    show (if eqK (.int (z.1 : Nat)) (.int (p : Nat)) then some (D.str z.2) else dgetL (kD r) (vD r) _) = _
    have e : eqK (.int (z.1 : Nat)) (.int (p : Nat)) = decide (z.1 = p) := by
      show decide (((z.1 : Nat) : Int) = (p : Nat)) = _
      exact decide_eq_decide.mpr (by omega)
    rw [e, ih]
    by_cases h : z.1 = p <;> simp [look, h]
theorem dput_kv {kv : List (Nat × List Nat)} {p : Nat} {w : List Nat} (h : look kv p = none) : dputL (kD kv) (vD kv) (.int (p : Nat)) (.str w) = (kD (kv ++ [(p, w)]), vD (kv ++ [(p, w)])) := by
  unfold dputL
  rw [dget_kv, h]
  simp [kD, vD]
theorem look_none {p : Nat} : ∀ {kv : List (Nat × List Nat)}, (∀ z ∈ kv, z.1 < p) → look kv p = none
  | [], _ => rfl
  | z :: r, h => by
    have h1 := h z List.mem_cons_self
    unfold look
    rw [if_neg (by omega)]
    exact look_none fun y hy => h y (List.mem_cons_of_mem _ hy)
theorem look_mem {p : Nat} {w : List Nat} : ∀ {kv : List (Nat × List Nat)}, look kv p = some w → (p, w) ∈ kv
  | [], h => by cases h
  | z :: r, h => by
    unfold look at h
    split at h
    · rename_i e
      cases h; subst e
      exact List.mem_cons_self
    · exact List.mem_cons_of_mem _ (look_mem h)
def putL : List (List Nat) := [[120], [121, 121], [122, 32, 113], [46]]
theorem put_ok : ∀ w ∈ putL, (Pt.pu w).ok := by
  intro w hw
  simp only [putL, List.mem_cons, List.not_mem_nil, or_false] at hw
  rcases hw with rfl | rfl | rfl | rfl <;> exact ⟨by decide, by decide, by decide⟩
def kvOk (st : List Bool) (kv : List (Nat × List Nat)) : Prop := ∀ z ∈ kv, (Pt.pu z.2).ok ∧ (z.1 = 0 ∨ st[z.1 - 1]? = some true)
theorem put_len : ∀ w ∈ putL, w.length ≤ 3 := by decide
theorem kv_lk {st : List Bool} {kv : List (Nat × List Nat)} (h : kvOk st kv) : lkOk st (look kv) := fun p w hw => h _ (look_mem hw)
def bls (st : List Bool) : List D := st.map D.bl
theorem bls_at {st : List Bool} {i : Int} {p : Nat} {b : Bool} (hi : i = (p : Nat)) (h : st[p]? = some b) : L2.atI (bls st) i = some (.bl b) := by
  have hl := (List.getElem?_eq_some_iff.mp h).1
  rw [at_nat (n := p) hi (by simpa [bls] using hl)]
  unfold bls
  rw [List.getElem?_map, h]; rfl
def rng (p m : Nat) : List D := (List.range' p m).map fun (k : Nat) => D.int (k : Nat)
theorem rng_succ (p m : Nat) : rng p (m + 1) = .int (p : Nat) :: rng (p + 1) m := by simp [rng, List.range'_succ]
theorem rng_eq (n : Nat) : (List.range n).map (fun (k : Nat) => D.int (k : Nat)) = rng 0 n := by rw [List.range_eq_range']; rfl
def StI (r : Nat) (H1 : HH) (n : Nat) (xs acc : List D) (H : HH) : Prop := Go r H1 H ∧ ∃ st : List Bool, acc = bls st ∧ st.length + xs.length = n ∧ ∀ x ∈ xs, ∃ i : Int, x = .int i
def PuI (r d : Nat) (H1 : HH) (n : Nat) (st : List Bool) (x2 : Option D) (N : Int) (xs : List D) (s : Sd) (H : HH) : Prop := Go r H1 H ∧ ∃ (p m : Nat) (kv : List (Nat × List Nat)) (x5 : Option D), xs = rng p m ∧ p + m = n + 1 ∧ H[d]? = some (.dic (kD kv) (vD kv)) ∧ kvOk st kv ∧ (∀ z ∈ kv, z.1 < p ∧ z.2.length ≤ 3) ∧ kv.length ≤ p ∧
  s = [some (.ref r), some (.int N), x2, some (.lv (bls st)), some (.ref d), x5]
theorem changeK {k r : Nat} {H : HH} {n : Nat} {N : Int} {Q : D → HH → Prop} (h : Pool r H) (hn : n ≤ 30000) (hN : N = (n : Nat)) (q : ∀ (st : List Bool) (kv : List (Nat × List Nat)) d H', st.length = n → H.length ≤ d → H'[d]? = some (.dic (kD kv) (vD kv)) → kvOk st kv → (∀ z ∈ kv, z.2.length ≤ 3) → Go r H H' → Q (.tup [.lv (bls st), .ref d]) H') : (callD (cfP Pg (k + 2)) 17 [0, 1] [.ref r, .int N] [] H).wp Q := by
  refine callC (P := Pg) (fd := f17) rfl (l := [.ref r, .int N]) rfl ?_
  refine run_k rfl ?_
  simp [f17, b17, startD, N17]
  refine takeK (m := 4) h (by decide) (by decide) fun t H2 t1 t2 g2 => ?_
  simp
  rw [range1 (by omega) (by omega)]
  simp
  have tt : t = 0 ∨ t = 1 ∨ t = 2 ∨ t = 3 := by omega
  refine lc_wp (I := StI r H n) ?_ ?_ _ _ _ ⟨g2, [], rfl, by simp; omega, by simp⟩
  · rintro y ys acc H3 ⟨g3, st, rfl, w2, w3⟩
    obtain ⟨i, rfl⟩ := w3 y List.mem_cons_self
    have w3 := fun y hy => w3 y (List.mem_cons_of_mem _ hy)
    simp only [List.length_cons] at w2
    simp
    refine takeK (m := 2) g3.pool (by decide) (by decide) fun u H4 u1 u2 g4 => ?_
    have fin : ∀ b : Bool, (bls st).length < lim ∧ StI r H n ys (bls st ++ [.bl b]) H4 := fun b => ⟨by show _ < 16777216; simp [bls]; omega, g3.trans g4, st ++ [b], by simp [bls], by simp; omega, w3⟩
    simp [b_mod]
    refine ⟨by decide, ?_⟩
    rcases tt with rfl | rfl | rfl | rfl <;> (simp [at3]; exact fin _)
  · rintro acc H3 ⟨g3, st, rfl, w2, w3⟩
    have sn : st.length = n := by simpa using w2
    clear w2 w3
    simp
    have d0 : H3.length ≥ H.length := g3.len
    have rl : r < H.length := h.lt
    rw [range1 (by omega) (by omega), rng_eq, show (N + 1).toNat = n + 1 by omega]
    simp
    refine for_wp (I := PuI r H3.length H n st (some (.int t)) N) ?_ ?_ _ _ _ ⟨g3.trans (.add g3.pool _), 0, n + 1, [], none, rfl, by omega, by simp [kD, vD], (fun z hz => by cases hz), (fun z hz => by cases hz), by simp, rfl⟩
    · rintro y ys s H4 ⟨g4, p, m, kv, x5, hx, hp, hd, ko, kl, kn, rfl⟩
      cases m with
      | zero => cases hx
      | succ m =>
        rw [rng_succ] at hx
        cases hx
        have nxt : ∀ H5, Go r H H5 → H5[H3.length]? = some (.dic (kD kv) (vD kv)) → PuI r H3.length H n st (some (.int t)) N (rng (p + 1) m) [some (.ref r), some (.int N), some (.int t), some (.lv (bls st)), some (.ref H3.length), some (.int (p : Nat))] H5 := fun H5 g5 h5 =>
          ⟨g5, p + 1, m, kv, _, rfl, by omega, h5, ko, fun z hz => ⟨by have := (kl z hz).1; omega, (kl z hz).2⟩, by omega, rfl⟩
        have ho : ∀ B : Bool → HH → Prop, B (decide (p = 0 ∨ st[p - 1]? = some true)) H4 → (evT (cfP Pg (k + 1)) (.or (.cmp .Eq (.loc 5) (.cst (.int (0)))) (.ix (.loc 3) (.bin .Sub (.loc 5) (.cst (.int (1)))))) [some (.ref r), some (.int N), some (.int t), some (.lv (bls st)), some (.ref H3.length), some (.int (p : Nat))] H4).wp B := fun B hB => by
          cases p with
          | zero => simpa using hB
          | succ p =>
            obtain ⟨b, hb⟩ : ∃ b, st[p]? = some b := ⟨_, List.getElem?_eq_getElem (by omega)⟩
            have e1 := bls_at (st := st) (i := ((p + 1 : Nat) : Int) - 1) (by omega) hb
            have e2 : (((p + 1 : Nat) : Int) == 0) = false := by simp; omega
            have e3 : decide (p + 1 = 0 ∨ st[p + 1 - 1]? = some true) = b := by simp [hb]
            rw [e3] at hB
            simp only [t_wor, t_wcmp, w_loc, w_cst, List.getElem?_cons_succ, List.getElem?_cons_zero, Option.bind_some, id, ow_some, k_cmp1_, k_cmp2_, v_int, c_eqI, e2, k_tor_, Bool.false_eq_true, if_false, t_wix, w_ix, k_ix1_, w_bin, k_bin1_, k_bin2_, b_sub, k_ix2_, v_lv, x_lv, e1, k_tv_, v_bl, tr_bl]
            exact hB
        refine ⟨rfl, _, a_nm 5 _, ?_⟩
        simp [-t_wor]
        refine ho _ ?_
        by_cases h0 : p = 0 ∨ st[p - 1]? = some true
        · rw [decide_eq_true h0]
          simp
          refine takeK (m := 3) g4.pool (by decide) (by decide) fun u H5 u1 u2 g5 => ?_
          have hd5 : H5[H3.length]? = some (.dic (kD kv) (vD kv)) := by rw [g5.keep _ (List.getElem?_eq_some_iff.mp hd).1 (by omega)]; exact hd
          by_cases hu : u = 0
          · subst hu
            simp
            refine ⟨by decide, takeK (m := 4) g5.pool (by decide) (by decide) fun v H6 v1 v2 g6 => ?_⟩
            have hd6 : H6[H3.length]? = some (.dic (kD kv) (vD kv)) := by rw [g6.keep _ (List.getElem?_eq_some_iff.mp hd5).1 (by omega)]; exact hd5
            obtain ⟨j, rfl⟩ := Int.eq_ofNat_of_zero_le v1
            have e : L2.atI [D.str [120], D.str [121, 121], D.str [122, 32, 113], D.str [46]] (j : Int) = some (.str (putL[j]'(by show j < 4; omega))) := by
              rw [at_nat (n := j) rfl (by show j < 4; omega)]
              show (putL.map D.str)[j]? = _
              rw [List.getElem?_map, List.getElem?_eq_getElem (by show j < 4; omega)]; rfl
            simp [e]
            refine put_wp hd6 rfl (by show _ < 16777216; simp [kD]; omega) ?_
            rw [dput_kv (look_none fun z hz => (kl z hz).1)]
            have g7 : Go r H (H6.set H3.length (.dic (kD (kv ++ [(p, putL[j]'(by show j < 4; omega))])) (vD (kv ++ [(p, putL[j]'(by show j < 4; omega))])))) := by
              have := (g4.trans g5).trans g6
              exact ⟨this.pool.other (by omega), by simpa using this.len, fun j hj hn => by rw [List.getElem?_set_ne (by omega)]; exact this.keep j hj hn⟩
            refine ⟨g7, p + 1, m, _, _, rfl, by omega, get_set hd6, fun z hz => ?_, fun z hz => ?_, by simp; omega, rfl⟩
            · rcases List.mem_append.mp hz with hz | hz
              · exact ko z hz
              · rw [List.mem_singleton.mp hz]
                exact ⟨put_ok _ (List.getElem_mem _), h0⟩
            · rcases List.mem_append.mp hz with hz | hz
              · exact ⟨by have := (kl z hz).1; omega, (kl z hz).2⟩
              · rw [List.mem_singleton.mp hz]; exact ⟨by show p < p + 1; omega, put_len _ (List.getElem_mem _)⟩
          · simp [hu]
            exact nxt H5 (g4.trans g5) hd5
        · rw [decide_eq_false h0]
          simp
          exact nxt H4 g4 hd
    · rintro s H4 ⟨g4, p, m, kv, x5, hx, hp, hd, ko, kl, kn, rfl⟩
      simp
      exact ⟨by decide, q st kv H3.length H4 sn d0 hd ko (fun z hz => (kl z hz).2) g4⟩
end K04
namespace K04
open PySem DI
theorem pt_data {p : Pt} (h : p.ok) : plainD p.d = true ∧ okS p.d = true ∧ depthD p.d ≤ 1 := by
  cases p with
  | kp n => exact ⟨rfl, rfl, by simp [Pt.d, Pt.val, depthD, depthDs]⟩
  | dr n => exact ⟨rfl, rfl, by simp [Pt.d, Pt.val, depthD, depthDs]⟩
  | pu w =>
    have h1 : w.all (· < 0x110000) = true := h.2.2
    exact ⟨rfl, by simp [Pt.d, Pt.wd, Pt.val, okS, okSs, cP, h1], by simp [Pt.d, Pt.val, depthD, depthDs]⟩
theorem pts_data : ∀ {ps : List Pt}, (∀ p ∈ ps, p.ok) → plainDs (ptsD ps) = true ∧ okSs (ptsD ps) = true ∧ depthDs (ptsD ps) ≤ 1
  | [], _ => ⟨rfl, rfl, by simp [ptsD, depthDs]⟩
  | p :: r, h => by
    obtain ⟨a, b, c⟩ := pts_data (ps := r) fun x hx => h x (List.mem_cons_of_mem _ hx)
    obtain ⟨a1, b1, c1⟩ := pt_data (h p List.mem_cons_self)
    refine ⟨?_, ?_, ?_⟩
    · show (plainD p.d && plainDs (ptsD r)) = true
      rw [a1, a]; rfl
    · show (okS p.d && okSs (ptsD r)) = true
      rw [b1, b]; rfl
    · show max (depthD p.d) (depthDs (ptsD r)) ≤ 1
      omega
theorem pts_okL {ps : List Pt} (h : ∀ p ∈ ps, p.ok) : eqOk (.lv (ptsD ps)) = true := by
  obtain ⟨a, b, c⟩ := pts_data h
  unfold eqOk
  show (plainDs _ && okSs _ && decide (depthDs _ + 1 ≤ 64)) = true
  rw [a, b]
  simp; omega
theorem pts_ne {ps : List Pt} (h : ∀ p ∈ ps, p.ok) : cmpD .NotEq (.lv (ptsD ps)) (.lv []) = some (!ps.isEmpty) := by
  rw [c_ne (pts_okL h) nil_ok, e_lv0]
  cases ps <;> rfl
theorem pts_app (a : List Pt) (p : Pt) : ptsD (a ++ [p]) = ptsD a ++ [p.d] := by simp [ptsD]
theorem ixN_last {A : Type} (xs : List A) (y : A) : L2.ixN (xs ++ [y]).length (-1) = some xs.length := by
  unfold L2.ixN
  rw [if_neg (by omega), List.length_append, List.length_singleton, if_pos (by omega)]
  congr 1
  omega
theorem int_bl (b : Bool) : biD .int [.bl b] = some (.int (if b then 1 else 0)) := rfl
def PaI (H : HH) (st : List Bool) (lk : Nat → Option (List Nat)) (d n : Nat) (xs : List D) (s : Sd) (H1 : HH) : Prop := ∃ (p m : Nat) (x3 x4 : Option D), xs = rng p m ∧ p + m = n + 1 ∧ H1 = H ++ [.lst (ptsD (Fs st lk p))] ∧ s = [some (.lv (bls st)), some (.ref d), some (.ref H.length), x3, x4]
theorem addU_or (F : List Pt) (b : Bool) (h : ∀ G x, F = G ++ [x] → x.wd ≠ (if b then cK else cD)) : addU F b = F ++ [if b then .kp 1 else .dr 1] := by
  rcases List.eq_nil_or_concat F with rfl | ⟨G, x, e⟩
  · cases b <;> rfl
  · rw [List.concat_eq_append] at e
    subst e
    have := h G x rfl
    cases x <;> cases b <;> first | exact absurd rfl this | simp [addU]
theorem partsK {k : Nat} {H : HH} {st : List Bool} {kv : List (Nat × List Nat)} {d : Nat} {Q : D → HH → Prop} (hs : st.length ≤ 30000) (hd : H[d]? = some (.dic (kD kv) (vD kv))) (ko : lkOk st (look kv)) (q : ∀ L, Q (.tup (ptsD (Fs st (look kv) (st.length + 1)))) (H ++ L)) : (callD (cfP Pg (k + 1)) 16 [0, 1] [.lv (bls st), .ref d] [] H).wp Q := by
  refine callC (P := Pg) (fd := f16) rfl (l := [.lv (bls st), .ref d]) rfl ?_
  refine run_k rfl ?_
  have inv := fs_inv (t := List.replicate st.length 0) (st := st) (lk := look kv) (by simp; omega) (by simp) ko
  have ln : biD .len [.lv (bls st)] = some (.int (st.length : Nat)) := by rw [len_lv]; simp [bls]
  obtain ⟨N, hN⟩ : ∃ N : Int, N = ((st.length : Nat) : Int) := ⟨_, rfl⟩
  rw [← hN] at ln
  simp [f16, b16, startD, N16, ln]
  rw [range1 (by omega) (by omega), rng_eq, show (N + 1).toNat = st.length + 1 by omega]
  simp
  refine for_wp (I := PaI H st (look kv) d st.length) ?_ ?_ _ _ _ ⟨0, st.length + 1, none, none, rfl, by omega, rfl, rfl⟩
  · rintro y ys s H1 ⟨p, m, x3, x4, hx, hp, rfl, rfl⟩
    cases m with
    | zero => cases hx
    | succ m =>
      rw [rng_succ] at hx
      cases hx
      obtain ⟨i1, i2, _⟩ := inv p (by simp; omega)
      have dv : ∀ L, viewD (H ++ L) (.ref d) = .dv (kD kv) (vD kv) := fun L => v_dic (get_add hd L)
      have lv : ∀ L, viewD (H ++ [.lst L]) (.ref H.length) = .lv L := fun L => v_ref (by simp)
      have st_ : ∀ (L M : List D), (H ++ [HD.lst L]).set H.length (.lst M) = H ++ [.lst M] := fun L M => by simp
      have hg := dget_kv p kv
      refine ⟨rfl, _, a_nm 3 _, ?_⟩
      simp only [ss_cons]
      refine swp_mono (Q := fun f H2 => f = .nx [some (.lv (bls st)), some (.ref d), some (.ref H.length), some (.int (p : Nat)), x4] ∧ H2 = H ++ [.lst (ptsD (Fs st (look kv) p ++ putAt (look kv p)))]) ?_ ?_
      · cases hw : look kv p with
        | none =>
          rw [hw] at hg
          simp [dv, hg, putAt]
        | some w =>
          rw [hw] at hg
          have hw0 : w ≠ [] := (ko p w hw).1.1
          have hl : (ptsD (Fs st (look kv) p)).length < lim := by show _ < 16777216; simp [ptsD]; omega
          have ap : ∀ w, mtE .append (.ref H.length) [w] (H ++ [.lst (ptsD (Fs st (look kv) p))]) = .ok .non (H ++ [.lst (ptsD (Fs st (look kv) p) ++ [w])]) := fun w => by
            rw [app_ok (by simp) hl, st_]
          simp [dv, lv, hg, putAt, hw0, rcvOk, ap, pts_app]
          exact ⟨by decide, rfl⟩
      · rintro _ _ ⟨rfl, rfl⟩
        simp only [nxt_nx, ss_cons]
        have fok : ∀ x ∈ Fs st (look kv) p ++ putAt (look kv p), x.ok := by
          intro x hx
          rcases List.mem_append.mp hx with hx | hx
          · exact i1.ok x hx
          · cases hw : look kv p with
            | none => rw [hw] at hx; cases hx
            | some w =>
              rw [hw] at hx
              rw [List.mem_singleton.mp hx]
              exact (ko p w hw).1
        have ne := pts_ne fok
        have fl : (Fs st (look kv) p ++ putAt (look kv p)).length ≤ 100000 := by
          rw [List.length_append]
          have := putAt_len (look kv p)
          omega
        have fin : ∀ x4, (∃ b, st[p]? = some b ∧ True) ∨ st[p]? = none → PaI H st (look kv) d st.length (rng (p + 1) m) [some (.lv (bls st)), some (.ref d), some (.ref H.length), some (.int (p : Nat)), x4] (H ++ [.lst (ptsD (Fs st (look kv) (p + 1)))]) := fun x4 _ =>
          ⟨p + 1, m, _, x4, rfl, by omega, rfl, rfl⟩
        by_cases hlt : p < st.length
        · obtain ⟨b, hb⟩ : ∃ b, st[p]? = some b := ⟨_, List.getElem?_eq_getElem hlt⟩
          have fin := fun x4 => fin x4 (.inl ⟨b, hb, trivial⟩)
          have e1 : Fs st (look kv) (p + 1) = addU (Fs st (look kv) p ++ putAt (look kv p)) b := by simp only [Fs, hb]
          rw [e1] at fin
          have ba := bls_at (st := st) (i := (p : Nat)) rfl hb
          have lt' : decide ((p : Int) < N) = true := by simp; omega
          generalize Fs st (look kv) p ++ putAt (look kv p) = F at ne fl fin fok ⊢
          have ap : ∀ w, mtE .append (.ref H.length) [w] (H ++ [.lst (ptsD F)]) = .ok .non (H ++ [.lst (ptsD F ++ [w])]) := fun w => by
            rw [app_ok (xs := ptsD F) (by simp) (by show _ < 16777216; simp [ptsD]; omega), st_]
          rcases List.eq_nil_or_concat F with rfl | ⟨G, x, e⟩
          · have ne0 : cmpD .NotEq (.lv []) (.lv []) = some false := by decide
            have ap0 : ∀ w, mtE .append (.ref H.length) [w] (H ++ [.lst []]) = .ok .non (H ++ [.lst [w]]) := ap
            cases b with
            | true =>
              have fin := fin (some (.str cK))
              simp [ln, lt', ba, lv, int_bl, ne0, rcvOk, ap0, ptsD]
              exact ⟨by decide, fin⟩
            | false =>
              have fin := fin (some (.str cD))
              simp [ln, lt', ba, lv, int_bl, ne0, rcvOk, ap0, ptsD]
              exact ⟨by decide, fin⟩
          · rw [List.concat_eq_append] at e
            subst e
            rw [pts_app] at ne ap ⊢
            have se : ∀ d s, setE (.ref H.length) (.int (-1)) d s (H ++ [.lst (ptsD G ++ [x.d])]) = .go (.nx s) (H ++ [.lst (ptsD G ++ [d])]) := fun d s => by
              rw [set_ok (xs := ptsD G ++ [x.d]) (by simp) (ixN_last _ _), st_]
              simp
            have la := at_last (ptsD G) x.d
            have nem : (!(G ++ [x]).isEmpty) = true := by simp
            rw [nem] at ne
            cases x with
            | kp n =>
              cases b with
              | true =>
                have e : addU (G ++ [.kp n]) true = G ++ [.kp (n + 1)] := by simp [addU]
                rw [e, pts_app] at fin
                generalize ptsD G = L at *
                have fin := fin (some (.str cK))
                simp [Pt.d, Pt.wd, Pt.val, cK, cD, cP] at ne la se
                simp [ln, lt', ba, lv, int_bl, ne, la, se, Pt.d, Pt.wd, Pt.val, cK, cD, cP]
                simp [Pt.d, Pt.wd, Pt.val, cK, cD, cP] at fin
                exact ⟨by decide, fin⟩
              | false =>
                have e : addU (G ++ [.kp n]) false = G ++ [.kp n] ++ [.dr 1] := by simp [addU]
                rw [e, pts_app, pts_app] at fin
                generalize ptsD G = L at *
                have fin := fin (some (.str cD))
                simp [Pt.d, Pt.wd, Pt.val, cK, cD, cP] at ne la ap
                simp [ln, lt', ba, lv, int_bl, ne, la, rcvOk, ap, Pt.d, Pt.wd, Pt.val, cK, cD, cP]
                simp [Pt.d, Pt.wd, Pt.val, cK, cD, cP] at fin
                exact ⟨by decide, fin⟩
            | dr n =>
              cases b with
              | true =>
                have e : addU (G ++ [.dr n]) true = G ++ [.dr n] ++ [.kp 1] := by simp [addU]
                rw [e, pts_app, pts_app] at fin
                generalize ptsD G = L at *
                have fin := fin (some (.str cK))
                simp [Pt.d, Pt.wd, Pt.val, cK, cD, cP] at ne la ap
                simp [ln, lt', ba, lv, int_bl, ne, la, rcvOk, ap, Pt.d, Pt.wd, Pt.val, cK, cD, cP]
                simp [Pt.d, Pt.wd, Pt.val, cK, cD, cP] at fin
                exact ⟨by decide, fin⟩
              | false =>
                have e : addU (G ++ [.dr n]) false = G ++ [.dr (n + 1)] := by simp [addU]
                rw [e, pts_app] at fin
                generalize ptsD G = L at *
                have fin := fin (some (.str cD))
                simp [Pt.d, Pt.wd, Pt.val, cK, cD, cP] at ne la se
                simp [ln, lt', ba, lv, int_bl, ne, la, se, Pt.d, Pt.wd, Pt.val, cK, cD, cP]
                simp [Pt.d, Pt.wd, Pt.val, cK, cD, cP] at fin
                exact ⟨by decide, fin⟩
            | pu w =>
              cases b with
              | true =>
                have e : addU (G ++ [.pu w]) true = G ++ [.pu w] ++ [.kp 1] := by simp [addU]
                rw [e, pts_app, pts_app] at fin
                generalize ptsD G = L at *
                have fin := fin (some (.str cK))
                simp [Pt.d, Pt.wd, Pt.val, cK, cD, cP] at ne la ap
                simp [ln, lt', ba, lv, int_bl, ne, la, rcvOk, ap, Pt.d, Pt.wd, Pt.val, cK, cD, cP]
                simp [Pt.d, Pt.wd, Pt.val, cK, cD, cP] at fin
                exact ⟨by decide, fin⟩
              | false =>
                have e : addU (G ++ [.pu w]) false = G ++ [.pu w] ++ [.dr 1] := by simp [addU]
                rw [e, pts_app, pts_app] at fin
                generalize ptsD G = L at *
                have fin := fin (some (.str cD))
                simp [Pt.d, Pt.wd, Pt.val, cK, cD, cP] at ne la ap
                simp [ln, lt', ba, lv, int_bl, ne, la, rcvOk, ap, Pt.d, Pt.wd, Pt.val, cK, cD, cP]
                simp [Pt.d, Pt.wd, Pt.val, cK, cD, cP] at fin
                exact ⟨by decide, fin⟩
        · have hn : st[p]? = none := List.getElem?_eq_none (by omega)
          have lt' : decide ((p : Int) < N) = false := by simp; omega
          have e1 : Fs st (look kv) (p + 1) = Fs st (look kv) p ++ putAt (look kv p) := by simp only [Fs, hn]
          have fin := fin x4 (.inr hn)
          rw [e1] at fin
          simp [ln, lt']
          exact fin
  · rintro s H1 ⟨p, m, x3, x4, hx, hp, rfl, rfl⟩
    cases m with
    | succ m => rw [rng_succ] at hx; cases hx
    | zero =>
      have lv : ∀ L, viewD (H ++ [.lst L]) (.ref H.length) = .lv L := fun L => v_ref (by simp)
      have e : p = st.length + 1 := by omega
      subst e
      have tu : ∀ L, biD .tuple [.lv L] = some (.tup L) := fun _ => rfl
      simp [lv, tu]
      exact q _
end K04
namespace K04
open PySem DI
def Pt.nil : Pt → Bool
  | .kp n => n == 0
  | .dr n => n == 0
  | .pu w => w.isEmpty
def Pt.sg : Pt → Prop
  | .pu w => cOk w = true ∧ w.length ≤ 100000
  | _ => True
def mer : Pt → Pt → Option Pt
  | .kp a, .kp b => some (.kp (a + b))
  | .dr a, .dr b => some (.dr (a + b))
  | .pu a, .pu b => some (.pu (a ++ b))
  | _, _ => none
def grP (F : List Pt) (p : Pt) : List Pt := match F.getLast? with
  | some x => (match mer x p with
    | some y => F.dropLast ++ [y]
    | none => if p.nil then F else F ++ [p])
  | none => if p.nil then F else F ++ [p]
theorem grP_nil (p : Pt) : grP [] p = if p.nil then [] else [p] := rfl
theorem grP_snoc (G : List Pt) (x p : Pt) : grP (G ++ [x]) p = match mer x p with
    | some y => G ++ [y]
    | none => if p.nil then G ++ [x] else G ++ [x] ++ [p] := by
  unfold grP
  rw [List.getLast?_concat, List.dropLast_concat]
theorem pt_dataS {p : Pt} (h : p.sg) : plainD p.d = true ∧ okS p.d = true ∧ depthD p.d ≤ 1 := by
  cases p with
  | kp n => exact ⟨rfl, rfl, by simp [Pt.d, Pt.val, depthD, depthDs]⟩
  | dr n => exact ⟨rfl, rfl, by simp [Pt.d, Pt.val, depthD, depthDs]⟩
  | pu w =>
    have h1 : w.all (· < 0x110000) = true := h.1
    exact ⟨rfl, by simp [Pt.d, Pt.wd, Pt.val, okS, okSs, cP, h1], by simp [Pt.d, Pt.val, depthD, depthDs]⟩
theorem pts_dataS : ∀ {ps : List Pt}, (∀ p ∈ ps, p.sg) → plainDs (ptsD ps) = true ∧ okSs (ptsD ps) = true ∧ depthDs (ptsD ps) ≤ 1
  | [], _ => ⟨rfl, rfl, by simp [ptsD, depthDs]⟩
  | p :: r, h => by
    obtain ⟨a, b, c⟩ := pts_dataS (ps := r) fun x hx => h x (List.mem_cons_of_mem _ hx)
    obtain ⟨a1, b1, c1⟩ := pt_dataS (h p List.mem_cons_self)
    refine ⟨?_, ?_, ?_⟩
    · show (plainD p.d && plainDs (ptsD r)) = true
      rw [a1, a]; rfl
    · show (okS p.d && okSs (ptsD r)) = true
      rw [b1, b]; rfl
    · show max (depthD p.d) (depthDs (ptsD r)) ≤ 1
      omega
theorem pts_okS {ps : List Pt} (h : ∀ p ∈ ps, p.sg) : eqOk (.lv (ptsD ps)) = true := by
  obtain ⟨a, b, c⟩ := pts_dataS h
  unfold eqOk
  show (plainDs _ && okSs _ && decide (depthDs _ + 1 ≤ 64)) = true
  rw [a, b]
  simp; omega
theorem pts_okT {ps : List Pt} (h : ∀ p ∈ ps, p.sg) : eqOk (.tup (ptsD ps)) = true := by
  obtain ⟨a, b, c⟩ := pts_dataS h
  unfold eqOk
  show (plainDs _ && okSs _ && decide (depthDs _ + 1 ≤ 64)) = true
  rw [a, b]
  simp; omega
theorem nil_okL : eqOk (.lv []) = true := by decide
theorem pts_neS {ps : List Pt} (h : ∀ p ∈ ps, p.sg) : cmpD .NotEq (.lv (ptsD ps)) (.lv []) = some (!ps.isEmpty) := by
  rw [c_ne (pts_okS h) nil_okL, e_lv0]
  cases ps <;> rfl
theorem ptsD_app (a b : List Pt) : ptsD (a ++ b) = ptsD a ++ ptsD b := by simp [ptsD]
theorem set_same {H : HH} {q : Nat} {o : HD} (h : H[q]? = some o) : H.set q o = H := by
  obtain ⟨hl, rfl⟩ := List.getElem?_eq_some_iff.mp h
  exact List.set_getElem_self hl
theorem in0 (p : Pt) : inD p.val (.tup [.int 0, .str []]) = some p.nil := by
  have e0 : ∀ n : Nat, ((0 : Int) == (n : Nat)) = (n == 0) := fun n => by
    rw [Bool.eq_iff_iff]; simp; omega
  cases p with
  | kp n =>
    show some (eqD (.int 0) (.int (n : Nat)) || (eqD (.str []) (.int (n : Nat)) || false)) = _
    rw [e_int, e0]
    simp [eqD, Pt.nil]
  | dr n =>
    show some (eqD (.int 0) (.int (n : Nat)) || (eqD (.str []) (.int (n : Nat)) || false)) = _
    rw [e_int, e0]
    simp [eqD, Pt.nil]
  | pu w =>
    show some (eqD (.int 0) (.str w) || (eqD (.str []) (.str w) || false)) = _
    cases w <;> simp [eqD, Pt.nil]
theorem grownK {k q : Nat} {H : HH} {F : List Pt} {p : Pt} {Q : D → HH → Prop} (h : H[q]? = some (.lst (ptsD F))) (hF : ∀ x ∈ F, x.sg) (hp : p.sg) (hl : F.length ≤ 1000000) (r : Q .non (H.set q (.lst (ptsD (grP F p))))) :
    (callD (cfP Pg (k + 1)) 6 [0, 1, 2] [.ref q, .str p.wd, p.val] [] H).wp Q := by
  refine callC (P := Pg) (fd := f6) rfl (l := [.ref q, .str p.wd, p.val]) rfl ?_
  refine run_k rfl ?_
  have lv : viewD H (.ref q) = .lv (ptsD F) := v_ref h
  have ne := pts_neS hF
  have i0 := in0 p
  have vp : viewD H p.val = p.val := by cases p <;> rfl
  have ll : (ptsD F).length < lim := by show _ < 16777216; simp [ptsD]; omega
  have ap : mtE .append (.ref q) [p.d] H = .ok .non (H.set q (.lst (ptsD F ++ [p.d]))) := app_ok h ll
  have pe : p.d = .tup [.str p.wd, p.val] := rfl
  have tail : (grP F p = if p.nil then F else F ++ [p]) → (evS (cfP Pg k) (.ite (.cmp .NotIn (.loc 2) (.tup (.cons (.cst (.int (0))) (.cons (.cst (.str [])) .nil)))) (.cons (.ex (.mt .append (.loc 0) (.cons (.tup (.cons (.loc 1) (.cons (.loc 2) .nil))) .nil))) .nil) .nil) [some (.ref q), some (.str p.wd), some p.val] H).wp (nxt (cfP Pg k) .nil (nxt (cfP Pg k) .nil (kRun Q))) := fun hg => by
    rw [hg] at r
    simp [vp, i0]
    refine ⟨by decide, ?_⟩
    cases hn : p.nil with
    | true =>
      rw [hn] at r
      simp only [if_true] at r
      rw [set_same h] at r
      simp [i0, hn]
      exact r
    | false =>
      rw [hn] at r
      simp only [Bool.false_eq_true, if_false, ptsD_app] at r
      simp [i0, hn, lv, rcvOk]
      refine ⟨by decide, ?_⟩
      rw [← pe, ap]
      exact r
  rcases List.eq_nil_or_concat F with rfl | ⟨G, x, e⟩
  · have tail := tail rfl
    have ne : cmpD .NotEq (.lv (ptsD [])) (.lv []) = some false := ne
    simp [-z_ite, f6, b6, startD, N6]
    rw [z_ite]
    simp [-z_ite, lv, ne]
    exact tail
  · rw [List.concat_eq_append] at e
    subst e
    rw [ptsD_app] at lv ne ll h
    have la : L2.atI (ptsD G ++ [.tup [.str x.wd, x.val]]) (-1) = some (.tup [.str x.wd, x.val]) := at_last (ptsD G) x.d
    have nem : (!(G ++ [x]).isEmpty) = true := by simp
    rw [nem] at ne
    change viewD H (.ref q) = .lv (ptsD G ++ [.tup [.str x.wd, x.val]]) at lv
    change cmpD .NotEq (.lv (ptsD G ++ [.tup [.str x.wd, x.val]])) (.lv []) = some true at ne
    by_cases hw : x.wd = p.wd
    · have hm : ∃ y, mer x p = some y ∧ y.wd = p.wd ∧ binD .Add x.val p.val = some y.val := by
        cases x <;> cases p <;> first | (exfalso; simp [Pt.wd, cK, cD, cP] at hw; done) | skip
        · exact ⟨_, rfl, rfl, by simp [Pt.val]⟩
        · exact ⟨_, rfl, rfl, by simp [Pt.val]⟩
        · rename_i v w
          have h1 : v.length ≤ 100000 := (hF (.pu v) (by simp)).2
          have h2 : w.length ≤ 100000 := hp.2
          exact ⟨_, rfl, rfl, if_pos (by show _ ≤ 16777216; omega)⟩
      obtain ⟨y, hm1, hm2, hm3⟩ := hm
      have vx : viewD H x.val = x.val := by cases x <;> rfl
      have hg : grP (G ++ [x]) p = G ++ [y] := by rw [grP_snoc, hm1]
      rw [hg, ptsD_app] at r
      have se : ∀ d s, setE (.ref q) (.int (-1)) d s H = .go (.nx s) (H.set q (.lst (ptsD G ++ [d]))) := fun d s => by
        rw [set_ok (xs := ptsD G ++ [x.d]) h (ixN_last _ _)]
        simp
      have r : Q .non (H.set q (.lst (ptsD G ++ [.tup [.str p.wd, y.val]]))) := by rw [← hm2]; exact r
      rw [hw] at lv ne la
      simp [f6, b6, startD, N6, lv, ne, la, vx, vp, hm3, se]
      exact ⟨by decide, r⟩
    · have hm : mer x p = none := by
        cases x <;> cases p <;> first | (exfalso; exact hw rfl) | rfl
      have tail := tail (by rw [grP_snoc, hm])
      simp [-z_ite, f6, b6, startD, N6]
      rw [z_ite]
      simp [-z_ite, lv, ne, la, hw]
      exact tail
end K04
namespace K04
open PySem DI
inductive It where
  | pl (p : Nat)
  | tx (w : List Nat)
def It.d : It → D
  | .pl p => .int p
  | .tx w => .str w
def itsD (its : List It) : List D := its.map It.d
def gr3 (n : Nat) (F : List Pt) (come : List Nat) (past p : Nat) : List Pt := grP (grP (grP F (.pu come)) (.dr (p - past))) (.kp (if p < n then 1 else 0))
def cbGo (n : Nat) : List It → List Pt → List Nat → Nat → List Pt
  | [], F, _, _ => F
  | .tx w :: r, F, come, past => cbGo n r F (come ++ w) past
  | .pl p :: r, F, come, past => cbGo n r (gr3 n F come past p) [] (p + 1)
def cb (n : Nat) (its : List It) : List Pt := cbGo n (its ++ [.pl n]) [] [] 0
def itOk : Nat → List It → Prop
  | _, [] => True
  | past, .tx w :: r => cOk w = true ∧ itOk past r
  | past, .pl p :: r => past ≤ p ∧ itOk (p + 1) r
def txI : List It → Nat
  | [] => 0
  | .tx w :: r => w.length + txI r
  | .pl _ :: r => txI r
def txs : List Pt → Nat
  | [] => 0
  | .pu w :: r => w.length + txs r
  | .kp _ :: r => txs r
  | .dr _ :: r => txs r
def Pt.co : Pt → Prop
  | .pu w => cOk w = true
  | _ => True
theorem txs_app : ∀ a b : List Pt, txs (a ++ b) = txs a + txs b
  | [], b => by simp [txs]
  | .pu w :: r, b => by simp [txs, txs_app r b]; omega
  | .kp n :: r, b => by simp [txs, txs_app r b]
  | .dr n :: r, b => by simp [txs, txs_app r b]
theorem nil_txs {p : Pt} (h : p.nil = true) : txs [p] = 0 := by
  cases p with
  | pu w => cases w with
    | nil => rfl
    | cons _ _ => cases h
  | _ => rfl
theorem txs_grP (F : List Pt) (p : Pt) : txs (grP F p) = txs F + txs [p] := by
  rcases List.eq_nil_or_concat F with rfl | ⟨G, x, e⟩
  · rw [grP_nil]
    cases h : p.nil with
    | true => simp [nil_txs h, txs]
    | false => simp [txs]
  · rw [List.concat_eq_append] at e
    subst e
    rw [grP_snoc]
    have no : mer x p = none → txs (match mer x p with | some y => G ++ [y] | none => if p.nil then G ++ [x] else G ++ [x] ++ [p]) = txs (G ++ [x]) + txs [p] := fun hm => by
      rw [hm]
      cases h : p.nil with
      | true => simp [nil_txs h]
      | false => simp only [Bool.false_eq_true, if_false]; exact txs_app _ _
    cases x <;> cases p <;> first | exact no rfl | (simp [mer, txs_app, txs]; try omega)
theorem co_grP {F : List Pt} {p : Pt} (h : ∀ x ∈ F, x.co) (hp : p.co) : ∀ x ∈ grP F p, x.co := by
  rcases List.eq_nil_or_concat F with rfl | ⟨G, x, e⟩
  · rw [grP_nil]
    intro y hy
    split at hy
    · cases hy
    · rw [List.mem_singleton.mp hy]; exact hp
  · rw [List.concat_eq_append] at e
    subst e
    rw [grP_snoc]
    have hx := h x (by simp)
    have hG : ∀ y ∈ G, y.co := fun y hy => h y (by simp [hy])
    intro y hy
    cases hm : mer x p with
    | none =>
      rw [hm] at hy
      dsimp only at hy
      split at hy
      · exact h y hy
      · rcases List.mem_append.mp hy with hy | hy
        · exact h y hy
        · rw [List.mem_singleton.mp hy]; exact hp
    | some z =>
      rw [hm] at hy
      rcases List.mem_append.mp hy with hy | hy
      · exact hG y hy
      · rw [List.mem_singleton.mp hy]
        cases x <;> cases p <;> cases hm <;> first | exact trivial | skip
        have h1 : cOk _ = true := hx
        have h2 : cOk _ = true := hp
        unfold cOk at h1 h2
        show cOk (_ ++ _) = true
        unfold cOk
        rw [List.all_append, h1, h2]; rfl
theorem len_grP (F : List Pt) (p : Pt) : (grP F p).length ≤ F.length + 1 := by
  rcases List.eq_nil_or_concat F with rfl | ⟨G, x, e⟩
  · rw [grP_nil]; split <;> simp
  · rw [List.concat_eq_append] at e
    subst e
    rw [grP_snoc]
    split
    · simp
    · split <;> simp
theorem txs_mem {x : Pt} : ∀ {F : List Pt}, x ∈ F → txs [x] ≤ txs F
  | y :: r, h => by
    have e : txs (y :: r) = txs [y] + txs r := txs_app [y] r
    rcases List.mem_cons.mp h with rfl | h
    · omega
    · have := txs_mem h; omega
theorem sg_of {F : List Pt} (h : ∀ x ∈ F, x.co) (ht : txs F ≤ 100000) : ∀ x ∈ F, x.sg := by
  intro x hx
  have h1 := h x hx
  have h2 := txs_mem hx
  cases x with
  | pu w => exact ⟨h1, by simp [txs] at h2; omega⟩
  | _ => trivial
theorem its_nr : ∀ its : List It, noRefs (itsD its) = true
  | [] => rfl
  | .pl p :: r => by show (noRef (.int _) && noRefs (itsD r)) = true; rw [its_nr r]; rfl
  | .tx w :: r => by show (noRef (.str _) && noRefs (itsD r)) = true; rw [its_nr r]; rfl
def CbI (n : Nat) (its : List It) (N : Int) (res : List Pt) (xs : List D) (s : Sd) (H1 : HH) : Prop := ∃ (r : List It) (F : List Pt) (come : List Nat) (past : Nat) (x5 : Option D), xs = itsD r ∧ H1 = [.lst (ptsD F)] ∧ cbGo n r F come past = res ∧ itOk past r ∧ (∀ x ∈ F, x.co) ∧ cOk come = true ∧ txs F + come.length + txI r ≤ 100000 ∧ F.length + 3 * r.length ≤ 1000000 ∧
  s = [some (.int N), some (.lv (itsD its)), some (.ref 0), some (.str come), some (.int (past : Nat)), x5]
theorem cbK {k : Nat} {H : HH} {n : Nat} {N : Int} {its : List It} {Q : D → HH → Prop} (hN : N = (n : Nat)) (ho : itOk 0 (its ++ [.pl n])) (hl : its.length ≤ 300000) (ht : txI (its ++ [.pl n]) ≤ 100000) (q : Q (.tup (ptsD (cb n its))) H) :
    (pcallE (cfP Pg (k + 2)) 7 [0, 1] [.int N, .lv (itsD its)] [] H).wp Q := by
  refine pureC (P := Pg) (fd := f7) rfl (l := [.int N, .lv (itsD its)]) rfl (by simp only [noRefs, noRef, its_nr]; rfl) ?_
  refine run_k rfl ?_
  have ls : binD .Add (.lv (itsD its)) (.lv [.int N]) = some (.lv (itsD (its ++ [.pl n]))) := by
    have e : itsD (its ++ [.pl n]) = itsD its ++ [.int N] := by rw [hN]; simp [itsD, It.d]
    rw [e]
    exact if_pos (by show _ ≤ 16777216; simp [itsD]; omega)
  simp [-b_cat, f7, b7, startD, N7, ls]
  refine ⟨by decide, ?_⟩
  refine for_wp (I := CbI n its N (cb n its)) ?_ ?_ _ _ _ ⟨its ++ [.pl n], [], [], 0, none, rfl, rfl, rfl, ho, by simp, rfl, by simpa [txs] using ht, by simp; omega, rfl⟩
  · rintro y ys s H1 ⟨r, F, come, past, x5, hx, rfl, hg, ok, fc, cc, tb, lb, rfl⟩
    cases r with
    | nil => cases hx
    | cons i r =>
      cases hx
      refine ⟨rfl, _, a_nm 5 _, ?_⟩
      cases i with
      | tx w =>
        have cw : cOk (come ++ w) = true := by
          have h1 := ok.1
          unfold cOk at h1 cc ⊢
          rw [List.all_append, h1, cc]; rfl
        simp only [txI] at tb
        have ag : ∀ H, augD H .Add (.str come) (.str w) = some (.str (come ++ w)) := fun H => if_pos (by show _ ≤ 16777216; omega)
        simp [It.d, tyIs, ag]
        exact ⟨r, F, come ++ w, past, _, rfl, rfl, hg, ok.2, fc, cw, by simp; omega, by simp at lb; omega, rfl⟩
      | pl p =>
        obtain ⟨k1, k2⟩ := ok
        simp only [txI] at tb
        simp only [List.length_cons] at lb
        have lb' : F.length + 3 * r.length + 3 ≤ 1000000 := by omega
        have t1 := txs_grP F (.pu come)
        have t2 := txs_grP (grP F (.pu come)) (.dr (p - past))
        have t3 := txs_grP (grP (grP F (.pu come)) (.dr (p - past))) (.kp (if p < n then 1 else 0))
        have l1 := len_grP F (.pu come)
        have l2 := len_grP (grP F (.pu come)) (.dr (p - past))
        have l3 := len_grP (grP (grP F (.pu come)) (.dr (p - past))) (.kp (if p < n then 1 else 0))
        have c1 := co_grP fc (p := .pu come) cc
        have c2 := co_grP c1 (p := .dr (p - past)) trivial
        have c3 := co_grP c2 (p := .kp (if p < n then 1 else 0)) trivial
        simp only [txs] at t1 t2 t3
        have s0 := sg_of fc (by omega)
        have s1 := sg_of c1 (by omega)
        have s2 := sg_of c2 (by omega)
        simp [It.d, tyIs]
        refine grownK (p := .pu come) (q := 0) (F := F) rfl s0 ⟨cc, by omega⟩ (by omega) ?_
        simp
        have es : ((p : Int) - (past : Nat)) = ((p - past : Nat) : Int) := by omega
        rw [es]
        refine grownK (p := .dr (p - past)) (q := 0) (F := grP F (.pu come)) rfl s1 trivial (by omega) ?_
        have ib : biD .int [.bl (decide ((p : Int) < N))] = some (.int ((if p < n then 1 else 0 : Nat) : Int)) := by
          show some (D.int (if decide ((p : Int) < N) then 1 else 0)) = _
          by_cases h : p < n
          · have h' : (p : Int) < N := by omega
            simp [h, h']
          · have h' : ¬ (p : Int) < N := by omega
            simp [h, h']
        simp [ib]
        refine grownK (p := .kp (if p < n then 1 else 0)) (q := 0) (F := grP (grP F (.pu come)) (.dr (p - past))) rfl s2 trivial (by omega) ?_
        simp
        exact ⟨r, gr3 n F come past p, [], p + 1, some (.int (p : Nat)), rfl, rfl, hg, k2, c3, rfl, by show txs (grP _ _) + _ + _ ≤ _; simp; omega, by show (grP _ _).length + _ ≤ _; omega, by simp⟩
  · rintro s H1 ⟨r, F, come, past, x5, hx, rfl, hg, ok, fc, cc, tb, lb, rfl⟩
    cases r with
    | cons i r => cases hx
    | nil =>
      have hg : F = cb n its := hg
      subst hg
      have lv : viewD [.lst (ptsD (cb n its))] (.ref 0) = .lv (ptsD (cb n its)) := rfl
      have tu : ∀ L, biD .tuple [.lv L] = some (.tup L) := fun _ => rfl
      simp [lv, tu]
      exact ⟨by simp only [noRef, pts_nr], q⟩
end K04
namespace K04
open PySem DI
@[irreducible] def bs : Nat := 2000000
theorem bs_eq : bs = 2000000 := by unfold bs; rfl
def dcI (c : Nat) : It := if c < bs then .tx [c] else .pl (c - bs)
def dec (l : List Nat) : List It := l.map dcI
def itD (l : List Nat) : List D := itsD (dec l)
def cod (n : Nat) : List Nat := List.range' bs n
def sub (S : List Nat) (c : Nat) : Nat := if c < bs then c else S.getD (c - bs) 0
theorem dec_app (a b : List Nat) : dec (a ++ b) = dec a ++ dec b := by simp [dec]
theorem cod_len (n : Nat) : (cod n).length = n := by simp [cod]
theorem app_map (g : Nat → Nat) (t : List Nat) : ∀ (F : List Pt) (a : Nat), (∀ w, Pt.pu w ∈ F → ∀ c ∈ w, g c = c) → app (t.map g) F a = (app t F a).map g
  | [], _, _ => rfl
  | .kp n :: r, a, h => by
    simp only [app, List.map_append, app_map g t r (a + n) fun w hw => h w (List.mem_cons_of_mem _ hw), List.map_take, List.map_drop]
  | .dr n :: r, a, h => by
    simp only [app, app_map g t r (a + n) fun w hw => h w (List.mem_cons_of_mem _ hw)]
  | .pu w :: r, a, h => by
    have e : w.map g = w := by
      have := h w List.mem_cons_self
      rw [List.map_congr_left this, List.map_id']
    simp only [app, List.map_append, app_map g t r a fun w hw => h w (List.mem_cons_of_mem _ hw), e]
theorem cod_map {S : List Nat} {n : Nat} (h : S.length = n) : (cod n).map (sub S) = S := by
  refine List.ext_getElem (by simp [cod, h]) fun i h1 h2 => ?_
  have hi : i < n := by simpa [cod] using h1
  simp only [List.getElem_map, cod, List.getElem_range', sub]
  rw [if_neg (by omega), show bs + 1 * i - bs = i by omega, List.getD_eq_getElem?_getD, List.getElem?_eq_getElem (by omega)]
  rfl
theorem ok_sg {P : List Pt} (h : ∀ p ∈ P, p.ok) : ∀ w, Pt.pu w ∈ P → ∀ c ∈ w, c < 0x110000 := fun w hw c hc => by
  have : cOk w = true := (h _ hw).2.2
  unfold cOk at this
  simp only [List.all_eq_true, decide_eq_true_eq] at this
  exact this c hc
theorem app_sub {S : List Nat} {n : Nat} {P : List Pt} (h : S.length = n) (ho : ∀ p ∈ P, p.ok) : app S P 0 = (app (cod n) P 0).map (sub S) := by
  rw [← app_map (sub S) (cod n) P 0, cod_map h]
  intro w hw c hc
  have := ok_sg ho w hw c hc
  unfold sub
  rw [if_pos (by have := bs_eq; omega)]
theorem dec_tx {w : List Nat} (h : ∀ c ∈ w, c < 0x110000) : dec w = w.map fun c => .tx [c] := by
  unfold dec
  refine List.map_congr_left fun c hc => ?_
  unfold dcI
  rw [if_pos (by have := h c hc; have := bs_eq; omega)]
theorem dec_run {n a m : Nat} (h : a + m ≤ n) : dec (((cod n).drop a).take m) = (List.range' a m).map .pl := by
  have e : ((cod n).drop a).take m = List.range' (bs + a) m := by
    refine List.ext_getElem (by simp [cod]; omega) fun i h1 h2 => ?_
    simp only [cod, List.getElem_take, List.getElem_drop, List.getElem_range']
    omega
  rw [e]
  have : ∀ (m a : Nat), dec (List.range' (bs + a) m) = (List.range' a m).map .pl := by
    intro m
    induction m with
    | zero => intro a; rfl
    | succ m ih =>
      intro a
      rw [List.range'_succ, List.range'_succ, List.map_cons]
      show dcI (bs + a) :: dec (List.range' (bs + a + 1) m) = _
      rw [show bs + a + 1 = bs + (a + 1) by omega, ih]
      unfold dcI
      rw [if_neg (by omega), show bs + a - bs = a by omega]
  exact this m a
theorem cb_tx {n : Nat} {r : List It} {F : List Pt} {past : Nat} : ∀ (w come : List Nat), cbGo n ((w.map fun c => It.tx [c]) ++ r) F come past = cbGo n r F (come ++ w) past
  | [], come => by simp
  | c :: w, come => by
    show cbGo n ((w.map fun c => It.tx [c]) ++ r) F (come ++ [c]) past = _
    rw [cb_tx w, List.append_assoc]; rfl
theorem adj_pre {A C : List Pt} (h : adj (A ++ C) = true) : adj A = true := by
  rw [adj_iff] at h ⊢
  intro k x y h1 h2
  have l2 := (List.getElem?_eq_some_iff.mp h2).1
  exact h k x y (by rw [List.getElem?_append_left (by omega)]; exact h1) (by rw [List.getElem?_append_left l2]; exact h2)
theorem adj_two {A C : List Pt} {x y : Pt} (h : adj (A ++ x :: y :: C) = true) : bad2 x y = false := by
  rw [adj_iff] at h
  refine h A.length x y ?_ ?_
  · rw [List.getElem?_append_right (Nat.le_refl _)]; simp
  · rw [List.getElem?_append_right (by omega)]; simp
theorem bad_mer {x y : Pt} (h : bad2 x y = false) : mer x y = none := by
  cases x <;> cases y <;> first | rfl | (simp [bad2, Pt.wd] at h; done)
theorem grP_adj {F : List Pt} {p : Pt} (h : adj (F ++ [p]) = true) (hp : p.nil = false) : grP F p = F ++ [p] := by
  rcases List.eq_nil_or_concat F with rfl | ⟨G, x, e⟩
  · rw [grP_nil, hp]; rfl
  · rw [List.concat_eq_append] at e
    subst e
    rw [List.append_assoc] at h
    have hm := bad_mer (adj_two h)
    rw [grP_snoc, hm, hp]; rfl
def nz (ps : List Pt) : List Pt := ps.filter fun p => !p.nil
def pend (come : List Nat) (past a : Nat) : List Pt := nz [.pu come, .dr (a - past)]
theorem grP_nl {F : List Pt} {p : Pt} (h : p.nil = true) : grP F p = F := by
  rcases List.eq_nil_or_concat F with rfl | ⟨G, x, e⟩
  · rw [grP_nil, h]; rfl
  · rw [List.concat_eq_append] at e
    subst e
    rw [grP_snoc]
    cases x <;> cases p <;> simp [mer, Pt.nil] at h ⊢ <;> simp [h, Pt.nil]
theorem kp0 (F : List Pt) : grP F (.kp 0) = F := grP_nl rfl
theorem dr0 (F : List Pt) : grP F (.dr 0) = F := grP_nl rfl
theorem pu0 (F : List Pt) : grP F (.pu []) = F := grP_nl rfl
theorem gr3_keep {n p : Nat} (F : List Pt) (h : p < n) : gr3 n F [] p p = grP F (.kp 1) := by
  unfold gr3
  rw [pu0, Nat.sub_self, dr0, if_pos h]
theorem kp_kp (G : List Pt) (a b : Nat) : grP (G ++ [.kp a]) (.kp b) = G ++ [.kp (a + b)] := by rw [grP_snoc]; rfl
theorem cb_runK {n : Nat} {r : List It} {G : List Pt} : ∀ (m p k : Nat), p + m ≤ n → cbGo n ((List.range' p m).map .pl ++ r) (G ++ [.kp k]) [] p = cbGo n r (G ++ [.kp (k + m)]) [] (p + m)
  | 0, p, k, _ => rfl
  | m + 1, p, k, h => by
    rw [List.range'_succ, List.map_cons, List.cons_append]
    show cbGo n ((List.range' (p + 1) m).map .pl ++ r) (gr3 n (G ++ [.kp k]) [] p p) [] (p + 1) = _
    rw [gr3_keep _ (by omega), kp_kp, cb_runK m (p + 1) (k + 1) (by omega), show k + 1 + m = k + (m + 1) by omega, show p + 1 + m = p + (m + 1) by omega]
theorem gr_pend {F : List Pt} {come : List Nat} {past a : Nat} (h : adj (F ++ pend come past a) = true) : grP (grP F (.pu come)) (.dr (a - past)) = F ++ pend come past a := by
  unfold pend nz at h ⊢
  cases hc : (Pt.pu come).nil with
  | true =>
    rw [grP_nl hc]
    cases hd : (Pt.dr (a - past)).nil with
    | true =>
      rw [grP_nl hd]
      simp [hc, hd]
    | false =>
      simp only [List.filter_cons, hc, hd, Bool.not_true, Bool.not_false, Bool.false_eq_true, if_false, if_true, List.filter_nil] at h ⊢
      exact grP_adj h hd
  | false =>
    cases hd : (Pt.dr (a - past)).nil with
    | true =>
      rw [grP_nl hd]
      simp only [List.filter_cons, hc, hd, Bool.not_true, Bool.not_false, Bool.false_eq_true, if_false, if_true, List.filter_nil] at h ⊢
      exact grP_adj h hc
    | false =>
      simp only [List.filter_cons, hc, hd, Bool.not_false, if_true, List.filter_nil] at h ⊢
      have h1 : adj ((F ++ [.pu come]) ++ [.dr (a - past)]) = true := by simpa using h
      rw [grP_adj (adj_pre h1) hc, grP_adj h1 hd]
      simp
theorem pend_self (come : List Nat) (a : Nat) : pend come a a = if come = [] then [] else [.pu come] := by
  unfold pend nz
  cases come <;> simp [Pt.nil]
theorem cb_gen {n : Nat} : ∀ (P F : List Pt) (come : List Nat) (past a : Nat), a + want P = n → past ≤ a → (∀ p ∈ P, p.ok) → adj (F ++ pend come past a ++ P) = true →
    cbGo n (dec (app (cod n) P a) ++ [.pl n]) F come past = F ++ pend come past a ++ P
  | [], F, come, past, a, hw, hp, ho, ha => by
    have e : a = n := by simpa [want] using hw
    subst e
    rw [List.append_nil] at ha ⊢
    show gr3 a F come past a = _
    unfold gr3
    rw [if_neg (by omega), kp0, gr_pend ha]
  | .kp m :: r, F, come, past, a, hw, hp, ho, ha => by
    have hm : 1 ≤ m := (ho _ List.mem_cons_self).1
    obtain ⟨m, rfl⟩ : ∃ k, m = k + 1 := ⟨m - 1, by omega⟩
    simp only [want] at hw
    have ho' : ∀ p ∈ r, p.ok := fun p h => ho p (List.mem_cons_of_mem _ h)
    show cbGo n (dec (((cod n).drop a).take (m + 1) ++ app (cod n) r (a + (m + 1))) ++ [.pl n]) F come past = _
    rw [dec_app, dec_run (n := n) (a := a) (m := m + 1) (by omega), List.append_assoc, List.range'_succ, List.map_cons, List.cons_append]
    show cbGo n ((List.range' (a + 1) m).map .pl ++ (dec (app (cod n) r (a + (m + 1))) ++ [.pl n])) (gr3 n F come past a) [] (a + 1) = _
    have h1 : adj (F ++ pend come past a ++ [.kp (m + 1)]) = true := by
      have : F ++ pend come past a ++ .kp (m + 1) :: r = (F ++ pend come past a ++ [.kp (m + 1)]) ++ r := by simp
      rw [this] at ha
      exact adj_pre ha
    have h2 : adj (F ++ pend come past a ++ [.kp 1]) = true := adj_swap h1 fun z => by cases z <;> rfl
    have e1 : gr3 n F come past a = F ++ pend come past a ++ [.kp 1] := by
      unfold gr3
      rw [if_pos (show a < n by omega), gr_pend (adj_pre h1), grP_adj h2 rfl]
    rw [e1, cb_runK (n := n) m (a + 1) 1 (by omega), show a + 1 + m = a + (m + 1) by omega, show 1 + m = m + 1 by omega]
    have pe : pend [] (a + (m + 1)) (a + (m + 1)) = [] := by rw [pend_self]; rfl
    have := cb_gen (n := n) r (F ++ pend come past a ++ [.kp (m + 1)]) [] (a + (m + 1)) (a + (m + 1)) (by omega) (Nat.le_refl _) ho' (by rw [pe, List.append_nil]; simpa using ha)
    rw [this, pe]
    simp
  | .dr m :: r, F, come, past, a, hw, hp, ho, ha => by
    have hm : 1 ≤ m := (ho _ List.mem_cons_self).1
    simp only [want] at hw
    have ho' : ∀ p ∈ r, p.ok := fun p h => ho p (List.mem_cons_of_mem _ h)
    have e : past = a := by
      rcases Nat.lt_or_ge past a with h | h
      · exfalso
        have nd : (Pt.dr (a - past)).nil = false := by simp [Pt.nil]; omega
        have : ∃ A, F ++ pend come past a ++ .dr m :: r = A ++ .dr (a - past) :: .dr m :: r := by
          unfold pend nz
          simp only [List.filter_cons, nd, Bool.not_false, if_true, List.filter_nil]
          split
          · exact ⟨F ++ [.pu come], by simp⟩
          · exact ⟨F, by simp⟩
        obtain ⟨A, e⟩ := this
        rw [e] at ha
        have := adj_two ha
        simp [bad2, Pt.wd] at this
      · omega
    subst e
    show cbGo n (dec (app (cod n) r (past + m)) ++ [.pl n]) F come past = _
    have nd : (Pt.dr m).nil = false := by simp [Pt.nil]; omega
    have e2 : F ++ pend come past past ++ .dr m :: r = F ++ pend come past (past + m) ++ r := by
      rw [pend_self]
      unfold pend nz
      rw [show past + m - past = m by omega]
      simp only [List.filter_cons, nd, Bool.not_false, if_true, List.filter_nil]
      cases come <;> simp [Pt.nil]
    rw [e2] at ha ⊢
    exact cb_gen (n := n) r F come past (past + m) (by omega) (by omega) ho' ha
  | .pu w :: r, F, come, past, a, hw, hp, ho, ha => by
    have hw0 := ok_sg ho w List.mem_cons_self
    have hne : w ≠ [] := (ho _ List.mem_cons_self).1
    simp only [want] at hw
    have ho' : ∀ p ∈ r, p.ok := fun p h => ho p (List.mem_cons_of_mem _ h)
    have e : past = a := by
      rcases Nat.lt_or_ge past a with h | h
      · exfalso
        have nd : (Pt.dr (a - past)).nil = false := by simp [Pt.nil]; omega
        have : ∃ A, F ++ pend come past a ++ .pu w :: r = A ++ .dr (a - past) :: .pu w :: r := by
          unfold pend nz
          simp only [List.filter_cons, nd, Bool.not_false, if_true, List.filter_nil]
          split
          · exact ⟨F ++ [.pu come], by simp⟩
          · exact ⟨F, by simp⟩
        obtain ⟨A, e⟩ := this
        rw [e] at ha
        have := adj_two ha
        simp [bad2, Pt.isR, Pt.isP] at this
      · omega
    subst e
    have ec : come = [] := by
      cases hc : come with
      | nil => rfl
      | cons x y =>
        exfalso
        rw [pend_self, if_neg (by rw [hc]; simp), List.append_assoc, List.singleton_append] at ha
        have := adj_two ha
        simp [bad2, Pt.wd] at this
    subst ec
    show cbGo n (dec (w ++ app (cod n) r past) ++ [.pl n]) F [] past = _
    rw [dec_app, dec_tx hw0, List.append_assoc, cb_tx, List.nil_append]
    have e2 : F ++ pend [] past past ++ .pu w :: r = F ++ pend w past past ++ r := by
      rw [pend_self, pend_self, if_pos rfl, if_neg hne]
      simp
    rw [e2] at ha ⊢
    exact cb_gen (n := n) r F w past past hw (Nat.le_refl _) ho' ha
theorem cb_self {n : Nat} {P : List Pt} (ho : ∀ p ∈ P, p.ok) (ha : adj P = true) (hw : want P = n) : cb n (dec (app (cod n) P 0)) = P := by
  have pe : pend [] 0 0 = [] := by rw [pend_self]; rfl
  have := cb_gen (n := n) P [] [] 0 0 (by omega) (Nat.le_refl _) ho (by rw [pe]; exact ha)
  rw [pe] at this
  exact this
end K04
namespace K04
open PySem DI
def opt (w : List Nat) : Option (List Nat) := if w = [] then none else some w
def lkGo : List Nat → Nat → List Nat → Nat → Option (List Nat)
  | [], past, come, q => if q = past then opt come else none
  | c :: r, past, come, q => if c < bs then lkGo r past (come ++ [c]) q else if q = past then opt come else lkGo r (c - bs + 1) [] q
def stM (n : Nat) (l : List Nat) : List Bool := (List.range n).map fun p => decide (bs + p ∈ l)
def gd (n : Nat) : Nat → List Nat → Prop
  | _, [] => True
  | past, c :: r => if c < bs then c < 0x110000 ∧ gd n past r else past ≤ c - bs ∧ c - bs < n ∧ gd n (c - bs + 1) r
theorem gd_ge {n : Nat} : ∀ {r : List Nat} {past q : Nat}, gd n past r → bs + q ∈ r → past ≤ q ∧ q < n
  | c :: r, past, q, h, hm => by
    unfold gd at h
    rcases List.mem_cons.mp hm with e | hm
    · rw [if_neg (by omega)] at h
      omega
    · split at h
      · exact gd_ge h.2 hm
      · have := gd_ge h.2.2 hm; omega
theorem lk_lt {n : Nat} : ∀ {r : List Nat} {past q : Nat} {come : List Nat}, gd n past r → q < past → lkGo r past come q = none
  | [], past, q, come, _, hq => by unfold lkGo; rw [if_neg (by omega)]
  | c :: r, past, q, come, h, hq => by
    unfold gd at h
    unfold lkGo
    split at h
    · rename_i hc
      rw [if_pos hc]
      exact lk_lt h.2 hq
    · rename_i hc
      rw [if_neg hc, if_neg (by omega)]
      exact lk_lt h.2.2 (by omega)
def pc (t : List Nat) (st : List Bool) (lk : Nat → Option (List Nat)) (q : Nat) : List Nat := (lk q).getD [] ++ (match st[q]?, t[q]? with | some true, some c => [c] | _, _ => [])
def sg (t : List Nat) (st : List Bool) (lk : Nat → Option (List Nat)) : Nat → Nat → List Nat
  | _, 0 => []
  | p, m + 1 => pc t st lk p ++ sg t st lk (p + 1) m
theorem ms_pc (t : List Nat) (st : List Bool) (lk : Nat → Option (List Nat)) (p : Nat) : Ms t st lk (p + 1) = Ms t st lk p ++ pc t st lk p := by
  unfold pc
  rw [← List.append_assoc]; rfl
theorem ms_sg (t : List Nat) (st : List Bool) (lk : Nat → Option (List Nat)) : ∀ m p, Ms t st lk (p + m) = Ms t st lk p ++ sg t st lk p m
  | 0, p => by simp [sg]
  | m + 1, p => by
    rw [show p + (m + 1) = (p + 1) + m by omega, ms_sg t st lk m (p + 1), ms_pc, List.append_assoc]; rfl
theorem sg_add (t : List Nat) (st : List Bool) (lk : Nat → Option (List Nat)) : ∀ m k p, sg t st lk p (m + k) = sg t st lk p m ++ sg t st lk (p + m) k
  | 0, k, p => by simp [sg]
  | m + 1, k, p => by
    rw [show m + 1 + k = (m + k) + 1 by omega]
    show pc t st lk p ++ sg t st lk (p + 1) (m + k) = pc t st lk p ++ sg t st lk (p + 1) m ++ _
    rw [sg_add t st lk m k (p + 1), List.append_assoc, show p + 1 + m = p + (m + 1) by omega]
theorem sg_nil {t : List Nat} {st : List Bool} {lk : Nat → Option (List Nat)} : ∀ (m p : Nat), (∀ q, p ≤ q → q < p + m → pc t st lk q = []) → sg t st lk p m = []
  | 0, _, _ => rfl
  | m + 1, p, h => by
    show pc t st lk p ++ sg t st lk (p + 1) m = []
    rw [h p (Nat.le_refl _) (by omega), sg_nil m (p + 1) fun q h1 h2 => h q (by omega) (by omega)]; rfl
theorem opt_get (w : List Nat) : (opt w).getD [] = w := by
  unfold opt
  split
  · rename_i h; rw [h]; rfl
  · rfl
theorem cod_get {n q : Nat} (h : q < n) : (cod n)[q]? = some (bs + q) := by
  unfold cod
  rw [List.getElem?_range' h]; simp
theorem due_sg {n : Nat} {st : List Bool} {lk : Nat → Option (List Nat)} (hst : ∀ q, n ≤ q → st[q]? = none) : ∀ (r : List Nat) (past : Nat) (come : List Nat), past ≤ n → gd n past r → (∀ q, past ≤ q → q < n → st[q]? = some (decide (bs + q ∈ r))) → (∀ q, past ≤ q → lk q = lkGo r past come q) →
    sg (cod n) st lk past (n + 1 - past) = come ++ r
  | [], past, come, hp, _, hs, hl => by
    obtain ⟨m, hm⟩ : ∃ m, n + 1 - past = m + 1 := ⟨n - past, by omega⟩
    rw [hm]
    show pc (cod n) st lk past ++ sg (cod n) st lk (past + 1) m = _
    have noS : ∀ q, past ≤ q → (match st[q]?, (cod n)[q]? with | some true, some c => [c] | _, _ => []) = ([] : List Nat) := fun q hq => by
      rcases Nat.lt_or_ge q n with h | h
      · rw [hs q hq h]; simp
      · rw [hst q h]
    rw [sg_nil m (past + 1) fun q h1 h2 => by
      unfold pc
      rw [noS q (by omega), hl q (by omega)]
      unfold lkGo
      rw [if_neg (by omega)]; rfl]
    unfold pc
    rw [noS past (Nat.le_refl _), hl past (Nat.le_refl _)]
    unfold lkGo
    rw [if_pos rfl, opt_get]
    simp
  | c :: r, past, come, hp, hg, hs, hl => by
    unfold gd at hg
    by_cases hc : c < bs
    · rw [if_pos hc] at hg
      have := due_sg (lk := lk) hst r past (come ++ [c]) hp hg.2 (fun q h1 h2 => by
        rw [hs q h1 h2]
        congr 1
        refine decide_eq_decide.mpr ⟨fun h => ?_, fun h => List.mem_cons_of_mem _ h⟩
        rcases List.mem_cons.mp h with e | h
        · omega
        · exact h) (fun q h1 => by
        rw [hl q h1]
        show (if c < bs then _ else _) = _
        rw [if_pos hc])
      rw [this, List.append_assoc]; rfl
    · rw [if_neg hc] at hg
      obtain ⟨g1, g2, g3⟩ := hg
      obtain ⟨p, rfl⟩ : ∃ p, c = bs + p := ⟨c - bs, by omega⟩
      have ep : bs + p - bs = p := by omega
      rw [ep] at g1 g2 g3
      have hl2 : ∀ q, past ≤ q → lk q = if q = past then opt come else lkGo r (p + 1) [] q := fun q h1 => by
        rw [hl q h1]
        show (if bs + p < bs then _ else _) = _
        rw [if_neg (by omega), ep]
      have noR : ∀ q, q ≤ p → bs + q ∉ r := fun q hq h => by have := gd_ge g3 h; omega
      have noS : ∀ q, past ≤ q → q < p → (match st[q]?, (cod n)[q]? with | some true, some c => [c] | _, _ => []) = ([] : List Nat) := fun q h1 h2 => by
        have : decide (bs + q ∈ (bs + p) :: r) = false := by
          refine decide_eq_false fun h => ?_
          rcases List.mem_cons.mp h with e | h
          · omega
          · exact noR q (by omega) h
        rw [hs q h1 (by omega), this]
      have atP : (match st[p]?, (cod n)[p]? with | some true, some c => [c] | _, _ => []) = [bs + p] := by
        rw [hs p g1 g2, cod_get g2, decide_eq_true List.mem_cons_self]
      have ih := due_sg (lk := lk) hst r (p + 1) [] (by omega) g3 (fun q h1 h2 => by
        rw [hs q (by omega) h2]
        congr 1
        refine decide_eq_decide.mpr ⟨fun h => ?_, fun h => List.mem_cons_of_mem _ h⟩
        rcases List.mem_cons.mp h with e | h
        · omega
        · exact h) (fun q h1 => by rw [hl2 q (by omega), if_neg (by omega)])
      rw [List.nil_append] at ih
      have e1 : n + 1 - past = (p - past) + ((n + 1 - (p + 1)) + 1) := by omega
      rw [e1, sg_add, show past + (p - past) = p by omega]
      show sg (cod n) st lk past (p - past) ++ (pc (cod n) st lk p ++ sg (cod n) st lk (p + 1) (n + 1 - (p + 1))) = _
      rw [ih]
      rcases Nat.lt_or_ge past p with h | h
      · obtain ⟨m, hm⟩ : ∃ m, p - past = m + 1 := ⟨p - past - 1, by omega⟩
        rw [hm]
        show pc (cod n) st lk past ++ sg (cod n) st lk (past + 1) m ++ _ = _
        rw [sg_nil m (past + 1) fun q h1 h2 => by
          unfold pc
          rw [noS q (by omega) (by omega), hl2 q (by omega), if_neg (by omega), lk_lt g3 (by omega)]; rfl]
        unfold pc
        rw [noS past (Nat.le_refl _) h, hl2 past (Nat.le_refl _), if_pos rfl, opt_get, atP, hl2 p g1, if_neg (by omega), lk_lt g3 (by omega)]
        simp
      · have e : past = p := by omega
        subst e
        rw [Nat.sub_self]
        show [] ++ _ = _
        unfold pc
        rw [atP, hl2 past (Nat.le_refl _), if_pos rfl, opt_get]
        simp
theorem lk_some {n : Nat} : ∀ {r : List Nat} {past q : Nat} {come w : List Nat}, gd n past r → (∀ c ∈ come, c < 0x110000) → lkGo r past come q = some w → w ≠ [] ∧ w.length ≤ come.length + r.length ∧ (∀ c ∈ w, c < 0x110000) ∧ (q = past ∨ (1 ≤ q ∧ bs + (q - 1) ∈ r))
  | [], past, q, come, w, _, hc, h => by
    unfold lkGo at h
    split at h
    · rename_i e
      unfold opt at h
      split at h
      · cases h
      · rename_i hn
        cases h
        exact ⟨hn, by simp, hc, .inl e⟩
    · cases h
  | c :: r, past, q, come, w, hg, hc, h => by
    unfold gd at hg
    unfold lkGo at h
    split at hg
    · rename_i hb
      rw [if_pos hb] at h
      obtain ⟨a, b, d, e⟩ := lk_some hg.2 (fun x hx => by
        rcases List.mem_append.mp hx with hx | hx
        · exact hc x hx
        · rw [List.mem_singleton.mp hx]; exact hg.1) h
      exact ⟨a, by simp at b ⊢; omega, d, e.elim .inl fun z => .inr ⟨z.1, List.mem_cons_of_mem _ z.2⟩⟩
    · rename_i hb
      rw [if_neg hb] at h
      split at h
      · rename_i e
        unfold opt at h
        split at h
        · cases h
        · rename_i hn
          cases h
          exact ⟨hn, by simp, hc, .inl e⟩
      · obtain ⟨a, b, d, e⟩ := lk_some hg.2.2 (fun x hx => by cases hx) h
        refine ⟨a, by simp at b ⊢; omega, d, .inr ?_⟩
        rcases e with e | e
        · exact ⟨by omega, by rw [show bs + (q - 1) = c by omega]; exact List.mem_cons_self⟩
        · exact ⟨e.1, List.mem_cons_of_mem _ e.2⟩
def dueF (n : Nat) (l : List Nat) : List Pt := Fs (stM n l) (lkGo l 0 []) (n + 1)
theorem stM_len (n : Nat) (l : List Nat) : (stM n l).length = n := by simp [stM]
theorem stM_get {n q : Nat} (l : List Nat) (h : q < n) : (stM n l)[q]? = some (decide (bs + q ∈ l)) := by
  unfold stM
  rw [List.getElem?_map, List.getElem?_range h]; rfl
theorem due_lk {n : Nat} {l : List Nat} (hg : gd n 0 l) (hl : l.length ≤ 90000) : lkOk (stM n l) (lkGo l 0 []) := fun p w hw => by
  obtain ⟨a, b, c, d⟩ := lk_some hg (fun x hx => by cases hx) hw
  refine ⟨⟨a, by simp at b; omega, ?_⟩, ?_⟩
  · unfold cOk
    simp only [List.all_eq_true, decide_eq_true_eq]
    exact c
  · rcases d with d | d
    · exact .inl d
    · right
      have := gd_ge hg d.2
      rw [stM_get l this.2, decide_eq_true d.2]
theorem due_all {n : Nat} {l : List Nat} (hn : n ≤ 40000) (hg : gd n 0 l) (hl : l.length ≤ 90000) : adj (dueF n l) = true ∧ (∀ p ∈ dueF n l, p.ok) ∧ want (dueF n l) = n ∧ app (cod n) (dueF n l) 0 = l ∧ mks (dueF n l) = l.length ∧ (dueF n l).length ≤ 2 * n + 1 := by
  obtain ⟨inv, le⟩ := fs_all (t := cod n) (st := stM n l) (lk := lkGo l 0 []) (by rw [cod_len]; exact hn) (by rw [stM_len, cod_len]) (due_lk hg hl)
  rw [cod_len] at inv le
  have ms : Ms (cod n) (stM n l) (lkGo l 0 []) (n + 1) = l := by
    have := ms_sg (cod n) (stM n l) (lkGo l 0 []) (n + 1) 0
    rw [Nat.zero_add] at this
    rw [this]
    have := due_sg (n := n) (st := stM n l) (lk := lkGo l 0 []) (fun q hq => List.getElem?_eq_none (by rw [stM_len]; exact hq)) l 0 [] (Nat.zero_le _) hg (fun q _ h2 => stM_get l h2) fun q _ => rfl
    rw [Nat.sub_zero] at this
    rw [this]; rfl
  have ap := inv.ap
  have mm := inv.mm
  rw [ms] at ap mm
  exact ⟨inv.ad, inv.ok, inv.wt, ap, mm, le⟩
theorem cb_due {n : Nat} {l : List Nat} (hn : n ≤ 40000) (hg : gd n 0 l) (hl : l.length ≤ 90000) : cb n (dec l) = dueF n l := by
  obtain ⟨a, b, c, d, _, _⟩ := due_all hn hg hl
  have := cb_self b a c
  rwa [d] at this
def goodL (n : Nat) (l : List Nat) : Prop := (∀ c ∈ l, c < 0x110000 ∨ (bs ≤ c ∧ c < bs + n)) ∧ (l.filter fun c => decide (bs ≤ c)).Pairwise (· < ·)
theorem gd_of {n : Nat} : ∀ {l : List Nat} {past : Nat}, (∀ c ∈ l, c < 0x110000 ∨ (bs + past ≤ c ∧ c < bs + n)) → (l.filter fun c => decide (bs ≤ c)).Pairwise (· < ·) → gd n past l
  | [], _, _, _ => trivial
  | c :: r, past, h, hp => by
    unfold gd
    have hc := h c List.mem_cons_self
    have hr := fun x hx => h x (List.mem_cons_of_mem _ hx)
    split
    · rename_i hb
      refine ⟨by omega, gd_of hr ?_⟩
      rw [List.filter_cons, if_neg (by simp; omega)] at hp
      exact hp
    · rename_i hb
      have hc : bs + past ≤ c ∧ c < bs + n := hc.elim (fun z => by have := bs_eq; omega) id
      rw [List.filter_cons, if_pos (by simp; omega), List.pairwise_cons] at hp
      refine ⟨by omega, by omega, gd_of (fun x hx => ?_) hp.2⟩
      rcases hr x hx with z | z
      · exact .inl z
      · right
        have := hp.1 x (by simp; exact ⟨hx, by omega⟩)
        omega
theorem good_gd {n : Nat} {l : List Nat} (h : goodL n l) : gd n 0 l := gd_of (by simpa using h.1) h.2
theorem good_cod (n : Nat) : goodL n (cod n) := by
  refine ⟨fun c hc => ?_, ?_⟩
  · unfold cod at hc
    rw [List.mem_range'] at hc
    obtain ⟨i, h1, rfl⟩ := hc
    omega
  · exact List.Pairwise.filter _ List.pairwise_lt_range'
theorem app_mem {t : List Nat} : ∀ {F : List Pt} {a c : Nat}, c ∈ app t F a → c ∈ t ∨ ∃ w, Pt.pu w ∈ F ∧ c ∈ w
  | .kp n :: r, a, c, h => by
    rcases List.mem_append.mp h with h | h
    · exact .inl (List.mem_of_mem_drop (List.mem_of_mem_take h))
    · rcases app_mem h with h | ⟨w, h1, h2⟩
      · exact .inl h
      · exact .inr ⟨w, List.mem_cons_of_mem _ h1, h2⟩
  | .dr n :: r, a, c, h => by
    rcases app_mem (F := r) (a := a + n) h with h | ⟨w, h1, h2⟩
    · exact .inl h
    · exact .inr ⟨w, List.mem_cons_of_mem _ h1, h2⟩
  | .pu w :: r, a, c, h => by
    rcases List.mem_append.mp h with h | h
    · exact .inr ⟨w, List.mem_cons_self, h⟩
    · rcases app_mem h with h | ⟨w, h1, h2⟩
      · exact .inl h
      · exact .inr ⟨w, List.mem_cons_of_mem _ h1, h2⟩
theorem app_sl {t : List Nat} : ∀ {F : List Pt} {a : Nat}, (∀ w, Pt.pu w ∈ F → ∀ c ∈ w, c < bs) → ((app t F a).filter fun c => decide (bs ≤ c)).Sublist ((t.drop a).filter fun c => decide (bs ≤ c))
  | [], a, _ => by simp [app]
  | .kp n :: r, a, h => by
    have ih := app_sl (t := t) (F := r) (a := a + n) fun w hw => h w (List.mem_cons_of_mem _ hw)
    have e : t.drop a = (t.drop a).take n ++ t.drop (a + n) := by rw [← List.drop_drop, List.take_append_drop]
    rw [e]
    show (((t.drop a).take n ++ app t r (a + n)).filter _).Sublist _
    rw [List.filter_append, List.filter_append]
    exact List.Sublist.append (List.Sublist.refl _) ih
  | .dr n :: r, a, h => by
    have ih := app_sl (t := t) (F := r) (a := a + n) fun w hw => h w (List.mem_cons_of_mem _ hw)
    refine ih.trans (List.Sublist.filter _ ?_)
    rw [← List.drop_drop]
    exact List.drop_sublist _ _
  | .pu w :: r, a, h => by
    have ih := app_sl (t := t) (F := r) (a := a) fun w hw => h w (List.mem_cons_of_mem _ hw)
    show ((w ++ app t r a).filter _).Sublist _
    have e : w.filter (fun c => decide (bs ≤ c)) = [] := by
      rw [List.filter_eq_nil_iff]
      intro c hc
      have := h w List.mem_cons_self c hc
      simp; omega
    rw [List.filter_append, e, List.nil_append]
    exact ih
theorem good_app {n : Nat} {t : List Nat} {F : List Pt} (h : goodL n t) (ho : ∀ p ∈ F, p.ok) : goodL n (app t F 0) := by
  refine ⟨fun c hc => ?_, ?_⟩
  · rcases app_mem hc with hc | ⟨w, h1, h2⟩
    · exact h.1 c hc
    · exact .inl (ok_sg ho w h1 c h2)
  · have := app_sl (t := t) (F := F) (a := 0) fun w hw c hc => by have := ok_sg ho w hw c hc; have := bs_eq; omega
    rw [List.drop_zero] at this
    exact h.2.sublist this
end K04
namespace K04
open PySem DI
def stF : List Pt → List Bool
  | [] => []
  | .kp n :: r => List.replicate n true ++ stF r
  | .dr n :: r => List.replicate n false ++ stF r
  | .pu _ :: r => stF r
def kvF : List Pt → Nat → List (Nat × List Nat)
  | [], _ => []
  | .kp n :: r, a => kvF r (a + n)
  | .dr n :: r, a => kvF r (a + n)
  | .pu w :: r, a => (a, w) :: kvF r a
theorem stF_len : ∀ F : List Pt, (stF F).length = want F
  | [] => rfl
  | .kp n :: r => by simp [stF, want, stF_len r]
  | .dr n :: r => by simp [stF, want, stF_len r]
  | .pu w :: r => by simp [stF, want, stF_len r]
theorem kvF_ge : ∀ {F : List Pt} {a : Nat} {z : Nat × List Nat}, z ∈ kvF F a → a ≤ z.1
  | .kp n :: r, a, z, h => by have := kvF_ge (F := r) h; omega
  | .dr n :: r, a, z, h => by have := kvF_ge (F := r) h; omega
  | .pu w :: r, a, z, h => by
    rcases List.mem_cons.mp h with rfl | h
    · exact Nat.le_refl _
    · exact kvF_ge (F := r) h
theorem look_ge {kv : List (Nat × List Nat)} {a q : Nat} (h : ∀ z ∈ kv, a ≤ z.1) (hq : q < a) : look kv q = none := by
  cases e : look kv q with
  | none => rfl
  | some w => have := h _ (look_mem e); omega
theorem adj_tail {x : Pt} {r : List Pt} (h : adj (x :: r) = true) : adj r = true := by
  rw [adj_iff] at h ⊢
  intro k a b h1 h2
  exact h (k + 1) a b (by simpa using h1) (by simpa using h2)
theorem sg_cong {t : List Nat} {st : List Bool} {lk lk' : Nat → Option (List Nat)} : ∀ (m p : Nat), (∀ q, p ≤ q → q < p + m → lk q = lk' q) → sg t st lk p m = sg t st lk' p m
  | 0, _, _ => rfl
  | m + 1, p, h => by
    show pc t st lk p ++ sg t st lk (p + 1) m = pc t st lk' p ++ sg t st lk' (p + 1) m
    rw [sg_cong m (p + 1) fun q h1 h2 => h q (by omega) (by omega)]
    unfold pc
    rw [h p (Nat.le_refl _) (by omega)]
theorem sg_keep {t : List Nat} {st : List Bool} {lk : Nat → Option (List Nat)} : ∀ (m p : Nat), p + m ≤ t.length → (∀ q, p ≤ q → q < p + m → lk q = none ∧ st[q]? = some true) → sg t st lk p m = (t.drop p).take m
  | 0, _, _, _ => by simp [sg]
  | m + 1, p, hl, h => by
    have hp : p < t.length := by omega
    show pc t st lk p ++ sg t st lk (p + 1) m = _
    rw [sg_keep m (p + 1) (by omega) fun q h1 h2 => h q (by omega) (by omega)]
    obtain ⟨a, b⟩ := h p (Nat.le_refl _) (by omega)
    unfold pc
    rw [a, b, List.getElem?_eq_getElem hp, List.drop_eq_getElem_cons hp, List.take_succ_cons]; rfl
theorem spG {t : List Nat} {st : List Bool} : ∀ (r : List Pt) (a : Nat) (lk : Nat → Option (List Nat)), a + want r ≤ t.length → (∀ q, a ≤ q → st[q]? = (stF r)[q - a]?) → (∀ q, a ≤ q → lk q = look (kvF r a) q) → adj r = true → (∀ p ∈ r, p.ok) → sg t st lk a (want r + 1) = app t r a
  | [], a, lk, hl, hs, hk, _, _ => by
    show pc t st lk a ++ [] = []
    unfold pc
    rw [hk a (Nat.le_refl _), hs a (Nat.le_refl _)]
    rfl
  | .kp n :: r, a, lk, hl, hs, hk, ha, ho => by
    simp only [want] at hl ⊢
    rw [show n + want r + 1 = n + (want r + 1) by omega, sg_add]
    show _ = (t.drop a).take n ++ app t r (a + n)
    rw [sg_keep n a (by omega) fun q h1 h2 => ⟨by rw [hk q h1]; exact look_ge (a := a + n) (fun z hz => kvF_ge (F := r) hz) h2, by
      rw [hs q h1]
      show (List.replicate n true ++ stF r)[q - a]? = _
      rw [List.getElem?_append_left (by simp; omega), List.getElem?_replicate, if_pos (by omega)]⟩]
    rw [spG r (a + n) lk (by omega) (fun q h1 => by
      rw [hs q (by omega)]
      show (List.replicate n true ++ stF r)[q - a]? = _
      rw [List.getElem?_append_right (by simp; omega), List.length_replicate, show q - a - n = q - (a + n) by omega]) (fun q h1 => hk q (by omega)) (adj_tail ha) fun p hp => ho p (List.mem_cons_of_mem _ hp)]
  | .dr n :: r, a, lk, hl, hs, hk, ha, ho => by
    simp only [want] at hl ⊢
    rw [show n + want r + 1 = n + (want r + 1) by omega, sg_add]
    show _ = app t r (a + n)
    rw [sg_nil n a fun q h1 h2 => by
      unfold pc
      have e1 : lk q = none := by rw [hk q h1]; exact look_ge (a := a + n) (fun z hz => kvF_ge (F := r) hz) h2
      have e2 : st[q]? = some false := by
        rw [hs q h1]
        show (List.replicate n false ++ stF r)[q - a]? = _
        rw [List.getElem?_append_left (by simp; omega), List.getElem?_replicate, if_pos (by omega)]
      rw [e1, e2]; rfl]
    rw [List.nil_append, spG r (a + n) lk (by omega) (fun q h1 => by
      rw [hs q (by omega)]
      show (List.replicate n false ++ stF r)[q - a]? = _
      rw [List.getElem?_append_right (by simp; omega), List.length_replicate, show q - a - n = q - (a + n) by omega]) (fun q h1 => hk q (by omega)) (adj_tail ha) fun p hp => ho p (List.mem_cons_of_mem _ hp)]
  | .pu w :: r, a, lk, hl, hs, hk, ha, ho => by
    simp only [want] at hl ⊢
    have hr : look (kvF r a) a = none := by
      cases r with
      | nil => rfl
      | cons x r =>
        have := adj_two (A := []) ha
        cases x with
        | kp n =>
          have : 1 ≤ n := (ho (.kp n) (by simp)).1
          exact look_ge (a := a + n) (fun z hz => kvF_ge (F := r) hz) (by omega)
        | dr n =>
          have : 1 ≤ n := (ho (.dr n) (by simp)).1
          exact look_ge (a := a + n) (fun z hz => kvF_ge (F := r) hz) (by omega)
        | pu v => simp [bad2, Pt.wd] at this
    have ih := spG r a (fun q => if q = a then none else lk q) (by omega) hs (fun q h1 => by
      by_cases e : q = a
      · subst e
        simp [hr]
      · rw [if_neg e, hk q h1]
        show (if a = q then some w else look (kvF r a) q) = _
        rw [if_neg (by omega)]) (adj_tail ha) fun p hp => ho p (List.mem_cons_of_mem _ hp)
    show pc t st lk a ++ sg t st lk (a + 1) (want r) = w ++ app t r a
    rw [← ih]
    show _ = w ++ (pc t st (fun q => if q = a then none else lk q) a ++ sg t st (fun q => if q = a then none else lk q) (a + 1) (want r))
    rw [sg_cong (lk := lk) (lk' := fun q => if q = a then none else lk q) (want r) (a + 1) fun q h1 _ => by rw [if_neg (by omega)]]
    have e1 : lk a = some w := by
      rw [hk a (Nat.le_refl _)]
      show (if a = a then some w else _) = _
      rw [if_pos rfl]
    unfold pc
    rw [e1]
    simp
theorem spA {F : List Pt} (ha : adj F = true) (ho : ∀ p ∈ F, p.ok) : Ms (cod (want F)) (stF F) (look (kvF F 0)) (want F + 1) = app (cod (want F)) F 0 := by
  have := ms_sg (cod (want F)) (stF F) (look (kvF F 0)) (want F + 1) 0
  rw [Nat.zero_add] at this
  rw [this]
  have := spG (t := cod (want F)) (st := stF F) F 0 (look (kvF F 0)) (by rw [cod_len]; omega) (fun q _ => by simp) (fun q _ => rfl) ha ho
  rw [this]; rfl
theorem ext_ok {H : HH} {q : Nat} {ys zs : List D} (h : H[q]? = some (.lst ys)) (hl : ys.length + zs.length ≤ 16777216) : mtE .extend (.ref q) [.lv zs] H = .ok .non (H.set q (.lst (ys ++ zs))) := by
  have hl' : ys.length + zs.length ≤ lim := hl
  simp [mtE, isMu, muD, h, hl']
theorem b_repL (a : List D) {j : Int} (h : smallI (4 * j) = true) (h2 : a.length * j.toNat ≤ lim) : binD .Mult (.lv a) (.int j) = some (.lv (List.replicate j.toNat a).flatten) := by
  show (if smallI (4 * j) && decide (a.length * j.toNat ≤ lim) then _ else _) = _
  rw [if_pos (by simp [h, h2])]
theorem rep_flat (b : Bool) : ∀ m : Nat, (List.replicate m [D.bl b]).flatten = bls (List.replicate m b)
  | 0 => rfl
  | m + 1 => by rw [List.replicate_succ, List.flatten_cons, rep_flat b m, List.replicate_succ]; rfl
theorem rep_len {b : Bool} {n : Nat} (h : n ≤ 1000000) : ([D.bl b] : List D).length * n ≤ lim := by
  rw [List.length_singleton, Nat.one_mul]
  exact Nat.le_trans h (by decide)
theorem rep_sm {J : Int} (h0 : 0 ≤ J) (h : J ≤ 1000000) : smallI (4 * J) = true := small_of (by omega) (by omega)
theorem rep_blI {b : Bool} {n : Nat} {J : Int} (hJ : J = (n : Nat)) (h : n ≤ 1000000) : binD .Mult (.lv [.bl b]) (.int J) = some (.lv (bls (List.replicate n b))) := by
  have e : J.toNat = n := by omega
  have z := b_repL [D.bl b] (j := J) (rep_sm (by omega) (by omega)) (by rw [e]; exact rep_len h)
  rw [z, e, rep_flat]
theorem rep_bl {b : Bool} {n : Nat} (h : n ≤ 1000000) : binD .Mult (.lv [.bl b]) (.int (n : Nat)) = some (.lv (bls (List.replicate n b))) := rep_blI rfl h
def noPu (r : List Pt) : Prop := ∀ w r', r ≠ .pu w :: r'
def SpI (H : HH) (F : List Pt) (xs : List D) (s : Sd) (H1 : HH) : Prop := ∃ (r : List Pt) (st : List Bool) (kv : List (Nat × List Nat)) (x3 x4 : Option D), xs = ptsD r ∧ H1 = H ++ [.lst (bls st), .dic (kD kv) (vD kv)] ∧ st ++ stF r = stF F ∧ kv ++ kvF r st.length = kvF F 0 ∧ (∀ p ∈ r, p.ok) ∧ adj r = true ∧ (∀ z ∈ kv, z.1 < st.length ∨ (z.1 = st.length ∧ noPu r)) ∧ st.length + want r ≤ 100000 ∧ kv.length + r.length ≤ 100000 ∧
  s = [some (.tup (ptsD F)), some (.ref H.length), some (.ref (H.length + 1)), x3, x4]
theorem spK {k : Nat} {H : HH} {F : List Pt} {Q : D → HH → Prop} (ho : ∀ p ∈ F, p.ok) (ha : adj F = true) (hl : F.length ≤ 100000) (hw : want F ≤ 100000) (q : Q (.tup [.ref H.length, .ref (H.length + 1)]) (H ++ [.lst (bls (stF F)), .dic (kD (kvF F 0)) (vD (kvF F 0))])) : (callD (cfP Pg (k + 1)) 5 [0] [.tup (ptsD F)] [] H).wp Q := by
  refine callC (P := Pg) (fd := f5) rfl (l := [.tup (ptsD F)]) rfl ?_
  refine run_k rfl ?_
  simp [f5, b5, startD, N5]
  refine for_wp (I := SpI H F) ?_ ?_ _ _ _ ⟨F, [], [], none, none, rfl, by simp [bls, kD, vD], rfl, rfl, ho, ha, (fun z hz => by cases hz), by simpa using hw, by simpa using hl, rfl⟩
  · rintro x xs s H1 ⟨r, st, kv, x3, x4, hx, rfl, e1, e2, ok, aj, kk, wb, lb, rfl⟩
    cases r with
    | nil => cases hx
    | cons p r =>
      cases hx
      have hp := ok p List.mem_cons_self
      have ok' : ∀ p ∈ r, p.ok := fun p h => ok p (List.mem_cons_of_mem _ h)
      have aj' := adj_tail aj
      have g1 : ∀ (a b : HD), (H ++ [a, b])[H.length]? = some a := fun a b => by simp
      have g2 : ∀ (a b : HD), (H ++ [a, b])[H.length + 1]? = some b := fun a b => by simp
      have s1 : ∀ (a b c : HD), (H ++ [a, b]).set H.length c = H ++ [c, b] := fun a b c => by simp
      have s2 : ∀ (a b c : HD), (H ++ [a, b]).set (H.length + 1) c = H ++ [a, c] := fun a b c => by simp
      have lv : viewD (H ++ [.lst (bls st), .dic (kD kv) (vD kv)]) (.ref H.length) = .lv (bls st) := v_ref (g1 _ _)
      have ln : biD .len [.lv (bls st)] = some (.int (st.length : Nat)) := by rw [len_lv]; simp [bls]
      refine ⟨rfl, _, asPt p, ?_⟩
      cases p with
      | pu w =>
        simp only [want] at wb
        simp [Pt.wd, cP, Pt.val, lv, ln]
        have no : look kv st.length = none := by
          cases e : look kv st.length with
          | none => rfl
          | some v =>
            rcases kk _ (look_mem e) with h | ⟨_, h⟩
            · exact absurd h (by simp)
            · exact absurd rfl (h w r)
        refine put_wp (g2 _ _) rfl (by show _ < 16777216; simp [kD]; simp at lb; omega) ?_
        rw [dput_kv no, s2]
        refine ⟨r, st, kv ++ [(st.length, w)], _, _, rfl, rfl, e1, ?_, ok', aj', fun z hz => ?_, wb, by simp at lb ⊢; omega, rfl⟩
        · rw [List.append_assoc]; exact e2
        · rcases List.mem_append.mp hz with hz | hz
          · rcases kk z hz with h | ⟨_, h⟩
            · exact .inl h
            · exact absurd rfl (h w r)
          · rw [List.mem_singleton.mp hz]
            refine .inr ⟨rfl, fun v r' e => ?_⟩
            subst e
            have := adj_two (A := []) aj
            simp [bad2, Pt.wd] at this
      | kp n =>
        simp only [want] at wb
        have n1 : 1 ≤ n := hp.1
        obtain ⟨J, hJ⟩ : ∃ J : Int, J = ((n : Nat) : Int) := ⟨_, rfl⟩
        have rb := rep_blI (b := true) (n := n) hJ (by omega)
        have ex := ext_ok (g1 (.lst (bls st)) (.dic (kD kv) (vD kv))) (zs := bls (List.replicate n true)) (by simp [bls]; omega)
        rw [s1] at ex
        simp [Pt.wd, cK, Pt.val, ← hJ, lv, rcvOk]
        refine ⟨by decide, ?_⟩
        rw [rb]
        simp [ex]
        refine ⟨r, st ++ List.replicate n true, kv, _, _, rfl, by simp [bls], by rw [List.append_assoc]; exact e1, ?_, ok', aj', fun z hz => ?_, by simp; omega, by simp at lb; omega, rfl⟩
        · rw [List.length_append, List.length_replicate]; exact e2
        · left
          rw [List.length_append, List.length_replicate]
          rcases kk z hz with h | ⟨h, _⟩ <;> omega
      | dr n =>
        simp only [want] at wb
        have n1 : 1 ≤ n := hp.1
        obtain ⟨J, hJ⟩ : ∃ J : Int, J = ((n : Nat) : Int) := ⟨_, rfl⟩
        have rb := rep_blI (b := false) (n := n) hJ (by omega)
        have ex := ext_ok (g1 (.lst (bls st)) (.dic (kD kv) (vD kv))) (zs := bls (List.replicate n false)) (by simp [bls]; omega)
        rw [s1] at ex
        simp [Pt.wd, cD, Pt.val, ← hJ, lv, rcvOk]
        refine ⟨by decide, ?_⟩
        rw [rb]
        simp [ex]
        refine ⟨r, st ++ List.replicate n false, kv, _, _, rfl, by simp [bls], by rw [List.append_assoc]; exact e1, ?_, ok', aj', fun z hz => ?_, by simp; omega, by simp at lb; omega, rfl⟩
        · rw [List.length_append, List.length_replicate]; exact e2
        · left
          rw [List.length_append, List.length_replicate]
          rcases kk z hz with h | ⟨h, _⟩ <;> omega
  · rintro s H1 ⟨r, st, kv, x3, x4, hx, rfl, e1, e2, ok, aj, kk, wb, lb, rfl⟩
    cases r with
    | cons p r => cases hx
    | nil =>
      simp only [stF, List.append_nil] at e1
      simp only [kvF, List.append_nil] at e2
      subst e1 e2
      simp
      exact ⟨by decide, q⟩
end K04
namespace K04
open PySem DI
theorem itD_app (a b : List Nat) : itD (a ++ b) = itD a ++ itD b := by simp [itD, itsD, dec]
theorem itD_len (a : List Nat) : (itD a).length = a.length := by simp [itD, itsD, dec]
theorem itD_tx {w : List Nat} (h : ∀ c ∈ w, c < 0x110000) : itD w = oneD w := by
  unfold itD
  rw [dec_tx h]
  unfold itsD oneD
  rw [List.map_map]; rfl
theorem it_at {t : List Nat} {i : Int} {p c : Nat} (hi : i = (p : Nat)) (h : t[p]? = some c) : L2.atI (itD t) i = some (dcI c).d := by
  have hl := (List.getElem?_eq_some_iff.mp h).1
  rw [at_nat (n := p) hi (by rw [itD_len]; exact hl)]
  show ((t.map dcI).map It.d)[p]? = _
  rw [List.getElem?_map, List.getElem?_map, h]; rfl
theorem it_pl (p : Nat) : itD [bs + p] = [.int (p : Nat)] := by
  show [(dcI (bs + p)).d] = _
  unfold dcI
  rw [if_neg (by omega), show bs + p - bs = p by omega]; rfl
theorem it_v (i : It) (H : HH) : viewD H i.d = i.d := by cases i <;> rfl
theorem it_nr (l : List Nat) : noRefs (itD l) = true := its_nr (dec l)
theorem it_hts : ∀ l : List Nat, hts (itD l) ≤ l.length
  | [] => by simp [itD, itsD, dec, hts]
  | c :: r => by
    have ih := it_hts r
    have e : itD (c :: r) = (dcI c).d :: itD r := rfl
    rw [e]
    have : DI.ht (dcI c).d = 0 := by cases dcI c <;> rfl
    simp only [hts, this, List.length_cons]
    omega
theorem list_str {w : List Nat} (h : w.length ≤ 16777216) : biD .list [.str w] = some (.lv (oneD w)) := if_pos h
theorem lk_tx {st : List Bool} {lk : Nat → Option (List Nat)} (h : lkOk st lk) (p : Nat) : oneD ((lk p).getD []) = itD ((lk p).getD []) ∧ ((lk p).getD []).length ≤ 100000 := by
  cases hw : lk p with
  | none => exact ⟨rfl, by simp⟩
  | some w =>
    have ok := (h p w hw).1
    have : cOk w = true := ok.2.2
    unfold cOk at this
    simp only [List.all_eq_true, decide_eq_true_eq] at this
    exact ⟨(itD_tx this).symm, ok.2.1⟩
def MaI (H : HH) (d0 : D) (t : List Nat) (st : List Bool) (lk : Nat → Option (List Nat)) (d n : Nat) (xs : List D) (s : Sd) (H1 : HH) : Prop := ∃ (p m q : Nat) (x4 : Option D), xs = rng p m ∧ p + m = n + 1 ∧ Kp H H1 ∧ H.length ≤ q ∧ H1[q]? = some (.lst (itD (Ms t st lk p))) ∧
  s = [some d0, some (.lv (bls st)), some (.ref d), some (.ref q), x4]
theorem madeK {k : Nat} {H : HH} {d0 : D} {t : List Nat} {st : List Bool} {kv : List (Nat × List Nat)} {d : Nat} {Q : D → HH → Prop} (hs : st.length ≤ 30000) (ht : t.length = st.length) (hd : H[d]? = some (.dic (kD kv) (vD kv))) (ko : lkOk st (look kv))
    (hm : ∀ p, p ≤ st.length + 1 → (Ms t st (look kv) p).length ≤ 1000000) (v0 : ∀ H1, Kp H H1 → viewD H1 d0 = .lv (itD t))
    (q : ∀ j H1, Kp H H1 → H.length ≤ j → H1[j]? = some (.lst (itD (Ms t st (look kv) (st.length + 1)))) → Q (.ref j) H1) : (callD (cfP Pg (k + 1)) 18 [0, 1, 2] [d0, .lv (bls st), .ref d] [] H).wp Q := by
  refine callC (P := Pg) (fd := f18) rfl (l := [d0, .lv (bls st), .ref d]) rfl ?_
  refine run_k rfl ?_
  have ln : biD .len [.lv (bls st)] = some (.int (st.length : Nat)) := by rw [len_lv]; simp [bls]
  obtain ⟨N, hN⟩ : ∃ N : Int, N = ((st.length : Nat) : Int) := ⟨_, rfl⟩
  rw [← hN] at ln
  simp [f18, b18, startD, N18, ln]
  rw [range1 (by omega) (by omega), rng_eq, show (N + 1).toNat = st.length + 1 by omega]
  simp
  refine for_wp (I := MaI H d0 t st (look kv) d st.length) ?_ ?_ _ _ _ ⟨0, st.length + 1, H.length, none, rfl, by omega, (Kp.refl H).add _, Nat.le_refl _, by simp [Ms, itD, itsD, dec], rfl⟩
  · rintro y ys s H1 ⟨p, m, j, x4, hx, hp, kp, hj, gj, rfl⟩
    cases m with
    | zero => cases hx
    | succ m =>
      rw [rng_succ] at hx
      cases hx
      have dv : viewD H1 (.ref d) = .dv (kD kv) (vD kv) := v_dic (kp.get hd)
      have lv : viewD H1 (.ref j) = .lv (itD (Ms t st (look kv) p)) := v_ref gj
      have hg : (dgetL (kD kv) (vD kv) (.int (p : Nat))).getD (.str []) = .str ((look kv p).getD []) := by
        rw [dget_kv]
        cases look kv p <;> rfl
      obtain ⟨wo, wl⟩ := lk_tx ko p
      have ml := hm p (by omega)
      have ls := list_str (w := (look kv p).getD []) (by omega)
      rw [wo] at ls
      refine ⟨rfl, _, a_nm 4 _, ?_⟩
      have ms : Ms t st (look kv) (p + 1) = Ms t st (look kv) p ++ (look kv p).getD [] ++ (match st[p]?, t[p]? with | some true, some c => [c] | _, _ => []) := rfl
      simp [dv, lv, hg, ls, ln]
      refine ⟨by show _ ≤ 16777216; rw [itD_len, itD_len]; omega, ?_⟩
      have fin : ∀ L : List Nat, (match st[p]?, t[p]? with | some true, some c => [c] | _, _ => []) = L → MaI H d0 t st (look kv) d st.length (rng (p + 1) m) [some d0, some (.lv (bls st)), some (.ref d), some (.ref H1.length), some (.int (p : Nat))] (H1 ++ [.lst (itD (Ms t st (look kv) p) ++ itD ((look kv p).getD []) ++ itD L)]) := fun L hL => by
        refine ⟨p + 1, m, H1.length, _, rfl, by omega, kp.add _, kp.len, ?_, rfl⟩
        rw [ms, hL, itD_app, itD_app]
        simp
      generalize (look kv p).getD [] = w at *
      by_cases hlt : p < st.length
      · obtain ⟨b, hb⟩ : ∃ b, st[p]? = some b := ⟨_, List.getElem?_eq_getElem hlt⟩
        obtain ⟨c, hc⟩ : ∃ c, t[p]? = some c := ⟨_, List.getElem?_eq_getElem (by omega)⟩
        have ba := bls_at (st := st) (i := (p : Nat)) rfl hb
        have oa := it_at (t := t) (i := (p : Nat)) rfl hc
        have lt' : (p : Int) < N := by omega
        rw [if_pos lt']
        rw [hb, hc] at fin
        cases b with
        | false =>
          simp [ba]
          simpa [itD, itsD, dec] using fin [] rfl
        | true =>
          have lv2 : ∀ L, viewD (H1 ++ [.lst L]) (.ref H1.length) = .lv L := fun L => v_ref (by simp)
          have ap : ∀ L w, L.length < 16777216 → mtE .append (.ref H1.length) [w] (H1 ++ [.lst L]) = .ok .non (H1 ++ [.lst (L ++ [w])]) := fun L w hl => by
            rw [app_ok (xs := L) (by simp) hl]
            simp
          have ap := fun z => ap (itD (Ms t st (look kv) p) ++ itD w) z (by rw [List.length_append, itD_len, itD_len]; omega)
          have vv := v0 _ (kp.add [.lst (itD (Ms t st (look kv) p) ++ itD w)])
          simp [-List.append_assoc, ba, lv2, rcvOk, vv, oa, ap]
          exact fin [c] rfl
      · have hn : st[p]? = none := List.getElem?_eq_none (by omega)
        have lt' : ¬ (p : Int) < N := by omega
        rw [if_neg lt']
        rw [hn] at fin
        simpa [itD, itsD, dec] using fin [] rfl
  · rintro s H1 ⟨p, m, j, x4, hx, hp, kp, hj, gj, rfl⟩
    cases m with
    | succ m => rw [rng_succ] at hx; cases hx
    | zero =>
      have e : p = st.length + 1 := by omega
      subst e
      simp
      exact q j H1 kp hj gj
def MoI (t0 : D) (a b : HD) (st : List Bool) (lk : Nat → Option (List Nat)) (n : Nat) (xs : List D) (s : Sd) (H1 : HH) : Prop := ∃ (p m : Nat) (x2 : Option D), xs = rng p m ∧ p + m = n + 1 ∧ H1 = [a, b, .lst (itD (Ms (cod n) st lk p))] ∧ s = [some t0, some (.ref 2), x2, some (.ref 0), some (.ref 1)]
theorem ms_mono (t : List Nat) (st : List Bool) (lk : Nat → Option (List Nat)) {p q : Nat} (h : p ≤ q) : (Ms t st lk p).length ≤ (Ms t st lk q).length := by
  obtain ⟨m, rfl⟩ : ∃ m, q = p + m := ⟨q - p, by omega⟩
  rw [ms_sg]
  simp
theorem kvF_mem : ∀ {F : List Pt} {a : Nat} {z : Nat × List Nat}, z ∈ kvF F a → Pt.pu z.2 ∈ F
  | .kp n :: r, a, z, h => List.mem_cons_of_mem _ (kvF_mem (F := r) h)
  | .dr n :: r, a, z, h => List.mem_cons_of_mem _ (kvF_mem (F := r) h)
  | .pu w :: r, a, z, h => by
    rcases List.mem_cons.mp h with rfl | h
    · exact List.mem_cons_self
    · exact List.mem_cons_of_mem _ (kvF_mem (F := r) h)
theorem moK {k : Nat} {H : HH} {F : List Pt} {Q : D → HH → Prop} (ho : ∀ p ∈ F, p.ok) (ha : adj F = true) (hl : F.length ≤ 100000) (hw : want F ≤ 50000) (hm : (app (cod (want F)) F 0).length ≤ 90000) (q : Q (.lv (itD (app (cod (want F)) F 0))) H) :
    (pcallE (cfP Pg (k + 2)) 9 [0] [.tup (ptsD F)] [] H).wp Q := by
  refine pcall_wp (l := [.tup (ptsD F)]) (by rw [dflP (P := Pg) (fd := f9) rfl]; rfl) (by simp only [noRefs, noRef, pts_nr]; rfl) ?_
  show (callN Pg (k + 2) 9 [.tup (ptsD F)] []).wp _
  rw [stepP (P := Pg) (fd := f9) rfl]
  refine run_k rfl ?_
  simp [f9, b9, startD, N9]
  refine spK ho ha hl (by omega) ?_
  have sl := stF_len F
  have ms := spA ha ho
  have mono := fun p (hp : p ≤ want F + 1) => ms_mono (cod (want F)) (stF F) (look (kvF F 0)) hp
  rw [ms] at mono
  have words : ∀ p, oneD ((look (kvF F 0) p).getD []) = itD ((look (kvF F 0) p).getD []) ∧ ((look (kvF F 0) p).getD []).length ≤ 100000 := fun p => by
    cases hw : look (kvF F 0) p with
    | none => exact ⟨rfl, by simp⟩
    | some w =>
      have := kvF_mem (look_mem hw)
      exact ⟨(itD_tx (ok_sg ho w this)).symm, (ho _ this).2.1⟩
  generalize stF F = st at *
  generalize kvF F 0 = kv at *
  generalize hn : want F = n at *
  have ln : biD .len [.lv (bls st)] = some (.int (n : Nat)) := by rw [len_lv]; simp [bls, sl]
  obtain ⟨N, hN⟩ : ∃ N : Int, N = ((n : Nat) : Int) := ⟨_, rfl⟩
  rw [← hN] at ln
  have v0 : ∀ c : HD, viewD [.lst (bls st), .dic (kD kv) (vD kv), c] (.ref 0) = .lv (bls st) := fun c => rfl
  have v1 : ∀ c : HD, viewD [.lst (bls st), .dic (kD kv) (vD kv), c] (.ref 1) = .dv (kD kv) (vD kv) := fun c => rfl
  have v2 : ∀ L : List D, viewD [.lst (bls st), .dic (kD kv) (vD kv), .lst L] (.ref 2) = .lv L := fun L => rfl
  simp [v0, ln]
  rw [range1 (by omega) (by omega), rng_eq, show (N + 1).toNat = n + 1 by omega]
  simp
  refine for_wp (I := MoI (.tup (ptsD F)) (.lst (bls st)) (.dic (kD kv) (vD kv)) st (look kv) n) ?_ ?_ _ _ _ ⟨0, n + 1, none, rfl, by omega, by simp [Ms, itD, itsD, dec], rfl⟩
  · rintro y ys s H1 ⟨p, m, x2, hx, hp, rfl, rfl⟩
    cases m with
    | zero => cases hx
    | succ m =>
      rw [rng_succ] at hx
      cases hx
      have hg : (dgetL (kD kv) (vD kv) (.int (p : Nat))).getD (.str []) = .str ((look kv p).getD []) := by
        rw [dget_kv]
        cases look kv p <;> rfl
      obtain ⟨wo, wl⟩ := words p
      have ml := mono p (by omega)
      have ml2 := mono (p + 1) (by omega)
      have ls := list_str (w := (look kv p).getD []) (by omega)
      rw [wo] at ls
      have ex : mtE .extend (.ref 2) [.lv (itD ((look kv p).getD []))] [.lst (bls st), .dic (kD kv) (vD kv), .lst (itD (Ms (cod n) st (look kv) p))] = .ok .non [.lst (bls st), .dic (kD kv) (vD kv), .lst (itD (Ms (cod n) st (look kv) p) ++ itD ((look kv p).getD []))] := by
        rw [ext_ok (q := 2) (ys := itD (Ms (cod n) st (look kv) p)) rfl (by rw [itD_len, itD_len]; omega)]; rfl
      have ap : ∀ L w, L.length < 16777216 → mtE .append (.ref 2) [w] [.lst (bls st), .dic (kD kv) (vD kv), .lst L] = .ok .non [.lst (bls st), .dic (kD kv) (vD kv), .lst (L ++ [w])] := fun L w hl => by
        rw [app_ok (r := 2) (xs := L) rfl hl]; rfl
      have ap := fun z => ap (itD (Ms (cod n) st (look kv) p) ++ itD ((look kv p).getD [])) z (by rw [List.length_append, itD_len, itD_len]; omega)
      have ms1 : Ms (cod n) st (look kv) (p + 1) = Ms (cod n) st (look kv) p ++ (look kv p).getD [] ++ (match st[p]?, (cod n)[p]? with | some true, some c => [c] | _, _ => []) := rfl
      have fin : ∀ L : List Nat, (match st[p]?, (cod n)[p]? with | some true, some c => [c] | _, _ => []) = L → MoI (.tup (ptsD F)) (.lst (bls st)) (.dic (kD kv) (vD kv)) st (look kv) n (rng (p + 1) m) [some (.tup (ptsD F)), some (.ref 2), some (.int (p : Nat)), some (.ref 0), some (.ref 1)] [.lst (bls st), .dic (kD kv) (vD kv), .lst (itD (Ms (cod n) st (look kv) p) ++ itD ((look kv p).getD []) ++ itD L)] := fun L hL => by
        refine ⟨p + 1, m, _, rfl, by omega, ?_, rfl⟩
        rw [ms1, hL, itD_app, itD_app]
      refine ⟨rfl, _, a_nm 2 _, ?_⟩
      simp [v0, v1, v2, hg, ls, ln, rcvOk, ex]
      generalize (look kv p).getD [] = w at *
      by_cases hlt : p < n
      · obtain ⟨b, hb⟩ : ∃ b, st[p]? = some b := ⟨_, List.getElem?_eq_getElem (by omega)⟩
        have ba := bls_at (st := st) (i := (p : Nat)) rfl hb
        have lt' : (p : Int) < N := by omega
        rw [if_pos lt']
        rw [hb, cod_get hlt] at fin
        cases b with
        | false =>
          simp [v0, ba]
          simpa [itD, itsD, dec] using fin [] rfl
        | true =>
          simp [-List.append_assoc, v0, v2, ba, rcvOk, ap]
          have := fin [bs + p] rfl
          rw [it_pl] at this
          exact this
      · have hn' : st[p]? = none := List.getElem?_eq_none (by omega)
        have lt' : ¬ (p : Int) < N := by omega
        rw [if_neg lt']
        rw [hn'] at fin
        simpa [itD, itsD, dec] using fin [] rfl
  · rintro s H1 ⟨p, m, x2, hx, hp, rfl, rfl⟩
    cases m with
    | succ m => rw [rng_succ] at hx; cases hx
    | zero =>
      have e : p = n + 1 := by omega
      subst e
      rw [ms]
      simp
      have := it_hts (app (cod n) F 0)
      refine ⟨_, ?_, q⟩
      rw [if_neg (by simp [noRef])]
      exact frz_ref (n := 99999) (r := 2) rfl (it_nr _) (by omega)
end K04
namespace K04
open PySem DI
def putKv (kv : List (Nat × List Nat)) (p : Nat) (w : List Nat) : List (Nat × List Nat) := if (look kv p).isSome then kv.map (fun z => if z.1 = p then (p, w) else z) else kv ++ [(p, w)]
theorem dset_kv (p : Nat) (w : List Nat) : ∀ kv : List (Nat × List Nat), dsetL (kD kv) (vD kv) (.int (p : Nat)) (.str w) = vD (kv.map fun z => if z.1 = p then (p, w) else z)
  | [] => rfl
  | z :: r => by
    have ih := dset_kv p w r
    show (if eqK (.int (z.1 : Nat)) (.int (p : Nat)) then D.str w else D.str z.2) :: dsetL (kD r) (vD r) _ _ = _
    have e : eqK (.int (z.1 : Nat)) (.int (p : Nat)) = decide (z.1 = p) := by
      show decide (((z.1 : Nat) : Int) = (p : Nat)) = _
      exact decide_eq_decide.mpr (by omega)
    rw [e, ih]
    by_cases h : z.1 = p <;> simp [vD, h]
theorem kD_map (p : Nat) (w : List Nat) (kv : List (Nat × List Nat)) : kD (kv.map fun z => if z.1 = p then (p, w) else z) = kD kv := by
  unfold kD
  rw [List.map_map]
  refine List.map_congr_left fun z _ => ?_
  show D.int ((if z.1 = p then (p, w) else z).1 : Nat) = _
  split
  · rename_i h; rw [h]
  · rfl
theorem dput_gen {kv : List (Nat × List Nat)} {p : Nat} {w : List Nat} : dputL (kD kv) (vD kv) (.int (p : Nat)) (.str w) = (kD (putKv kv p w), vD (putKv kv p w)) := by
  unfold dputL putKv
  rw [dget_kv]
  cases look kv p with
  | none => simp [kD, vD]
  | some v =>
    simp only [Option.map_some, Option.isSome_some, if_true]
    rw [dset_kv, kD_map]
theorem look_app (a b : List (Nat × List Nat)) (q : Nat) : look (a ++ b) q = (look a q).or (look b q) := by
  induction a with
  | nil => simp [look]
  | cons z r ih =>
    show (if z.1 = q then some z.2 else look (r ++ b) q) = _
    rw [ih]
    show _ = (if z.1 = q then some z.2 else look r q).or _
    split <;> simp
theorem look_map (p : Nat) (w : List Nat) (q : Nat) : ∀ kv : List (Nat × List Nat), look (kv.map fun z => if z.1 = p then (p, w) else z) q = if q = p then (look kv q).map fun _ => w else look kv q
  | [] => by simp [look]
  | z :: r => by
    have ih := look_map p w q r
    show (if (if z.1 = p then (p, w) else z).1 = q then some (if z.1 = p then (p, w) else z).2 else look (r.map _) q) = _
    rw [ih]
    show _ = if q = p then (if z.1 = q then some z.2 else look r q).map fun _ => w else (if z.1 = q then some z.2 else look r q)
    by_cases h1 : z.1 = p <;> by_cases h2 : q = p <;> by_cases h3 : z.1 = q <;> simp_all
theorem look_put (kv : List (Nat × List Nat)) (p : Nat) (w : List Nat) (q : Nat) : look (putKv kv p w) q = if q = p then some w else look kv q := by
  unfold putKv
  cases h : look kv p with
  | none =>
    simp only [Option.isSome_none, Bool.false_eq_true, if_false]
    rw [look_app]
    by_cases e : q = p
    · subst e; simp [h, look]
    · rw [if_neg e]
      have : look [(p, w)] q = none := by
        show (if p = q then some w else none) = none
        rw [if_neg (by omega)]
      rw [this]; simp
  | some v =>
    simp only [Option.isSome_some, if_true]
    rw [look_map]
    by_cases e : q = p
    · subst e; simp [h]
    · rw [if_neg e, if_neg e]
theorem put_len2 (kv : List (Nat × List Nat)) (p : Nat) (w : List Nat) : (putKv kv p w).length ≤ kv.length + 1 := by
  unfold putKv
  split <;> simp
theorem it_data {l : List Nat} (h : ∀ c ∈ l, c < 0x110000 ∨ bs ≤ c) : plainDs (itD l) = true ∧ okSs (itD l) = true ∧ depthDs (itD l) ≤ 1 := by
  induction l with
  | nil => exact ⟨rfl, rfl, by simp [itD, itsD, dec, depthDs]⟩
  | cons c r ih =>
    obtain ⟨a, b, d⟩ := ih fun x hx => h x (List.mem_cons_of_mem _ hx)
    have hc := h c List.mem_cons_self
    have e : itD (c :: r) = (dcI c).d :: itD r := rfl
    have k : plainD (dcI c).d = true ∧ okS (dcI c).d = true ∧ depthD (dcI c).d ≤ 1 := by
      unfold dcI
      split
      · rename_i hb
        have hc : c < 0x110000 := hc.elim id fun z => by omega
        exact ⟨rfl, by simp [It.d, okS, hc], by simp [It.d, depthD]⟩
      · exact ⟨rfl, rfl, by simp [It.d, depthD]⟩
    rw [e]
    refine ⟨?_, ?_, ?_⟩
    · show (plainD _ && plainDs _) = true
      rw [k.1, a]; rfl
    · show (okS _ && okSs _) = true
      rw [k.2.1, b]; rfl
    · show max (depthD _) (depthDs _) ≤ 1
      have := k.2.2
      omega
theorem in_it {l : List Nat} {p : Nat} (h : ∀ c ∈ l, c < 0x110000 ∨ bs ≤ c) : inD (.int (p : Nat)) (.lv (itD l)) = some (decide (bs + p ∈ l)) := by
  obtain ⟨a, b, d⟩ := it_data h
  have ok : eqOk (.lv (itD l)) = true := by
    unfold eqOk
    show (plainDs _ && okSs _ && decide (depthDs _ + 1 ≤ 64)) = true
    rw [a, b]
    simp; omega
  have oi : eqOk (.int (p : Nat)) = true := by simp [eqOk, plainD, okS, depthD]
  show (if eqOk (.int (p : Nat)) && eqOk (.lv (itD l)) then some ((itD l).any fun z => eqD z (.int (p : Nat))) else none) = _
  rw [ok, oi]
  simp only [Bool.and_self, if_true]
  congr 1
  clear h a b d ok oi
  induction l with
  | nil => simp [itD, itsD, dec]
  | cons c r ih =>
    show (eqD (dcI c).d (.int (p : Nat)) || (itD r).any _) = _
    rw [ih]
    have e : eqD (dcI c).d (.int (p : Nat)) = decide (bs + p = c) := by
      unfold dcI
      split
      · rename_i hb
        show eqD (.str [c]) (.int (p : Nat)) = _
        rw [decide_eq_false (by omega)]
        simp [eqD]
      · rename_i hb
        show eqD (.int ((c - bs : Nat) : Int)) (.int (p : Nat)) = _
        rw [e_int, Bool.eq_iff_iff]
        simp
        omega
    rw [e, Bool.eq_iff_iff]
    simp
def DuI (H : HH) (n : Nat) (N : Int) (d0 : D) (l : List Nat) (xs : List D) (s : Sd) (H1 : HH) : Prop := ∃ (r : List Nat) (kv : List (Nat × List Nat)) (past : Nat) (come : List Nat) (x5 : Option D), xs = itD r ∧ H1 = H ++ [.dic (kD kv) (vD kv)] ∧
  (∀ q, lkGo l 0 [] q = if q < past then look kv q else lkGo r past come q) ∧ look kv past = opt come ∧ (∀ q, past < q → look kv q = none) ∧ gd n past r ∧ come.length + r.length ≤ 90000 ∧ kv.length + r.length ≤ 100000 ∧
  s = [some (.int N), some d0, some (.lv (bls (stM n l))), some (.ref H.length), some (.int (past : Nat)), x5]
theorem dueR {k : Nat} {H : HH} {n : Nat} {d0 : D} {N : Int} {l : List Nat} {Q : D → HH → Prop} (hN : N = (n : Nat)) (hn : n ≤ 30000) (hg : goodL n l) (hl : l.length ≤ 90000) (vj : viewD H d0 = .lv (itD l)) (it : ∃ g, ∀ L, itemsD (H ++ L) d0 = some (itD l, g) ∧ gdOk g (H ++ L) = true) (q : ∀ L, Q (.tup (ptsD (dueF n l))) (H ++ L)) :
    (runB f19 (cfP Pg (k + 1)) [.int N, d0] H).wp Q := by
  obtain ⟨g, it⟩ := it
  refine run_k rfl ?_
  have chr : ∀ c ∈ l, c < 0x110000 ∨ bs ≤ c := fun c hc => (hg.1 c hc).elim .inl fun z => .inr z.1
  simp [f19, b19, startD, N19]
  rw [range1 (by omega) (by omega), show N.toNat = n by omega]
  simp
  refine lc_mapG (A := Nat) (fun k => .int (k : Nat)) (fun p => .bl (decide (bs + p ∈ l))) rfl (List.range n) [] (fun p hp => ⟨_, a_nm 4 _, fun P h => ?_⟩) (by show 0 + (List.range n).length ≤ 16777216; simp; omega) ?_
  · simp [vj, in_it chr]
    exact h
  · have e : (List.range n).map (fun p => D.bl (decide (bs + p ∈ l))) = bls (stM n l) := by
      unfold bls stM
      rw [List.map_map]; rfl
    rw [List.nil_append, e]
    simp
    rw [(it [.dic [] []]).1]
    simp
    refine for_wp (I := DuI H n N d0 l) ?_ ?_ _ _ _ ⟨l, [], 0, [], none, rfl, rfl, fun q => rfl, rfl, fun q _ => rfl, good_gd hg, by simpa using hl, by simp; omega, rfl⟩
    · rintro x xs s H1 ⟨r, kv, past, come, x5, hx, rfl, e1, e2, e3, gr, cb, kb, rfl⟩
      cases r with
      | nil => cases hx
      | cons c r =>
        cases hx
        refine ⟨(it _).2, _, a_nm 5 _, ?_⟩
        unfold gd at gr
        simp only [List.length_cons] at cb kb
        have dv : viewD (H ++ [.dic (kD kv) (vD kv)]) (.ref H.length) = .dv (kD kv) (vD kv) := v_dic (by simp)
        by_cases hc : c < bs
        · rw [if_pos hc] at gr
          have ed : (dcI c).d = .str [c] := by unfold dcI; rw [if_pos hc]; rfl
          rw [ed]
          have hg2 : (dgetL (kD kv) (vD kv) (.int (past : Nat))).getD (.str []) = .str come := by
            rw [dget_kv, e2]
            unfold opt
            split
            · rename_i h; rw [h]; rfl
            · rfl
          have ba : binD .Add (.str come) (.str [c]) = some (.str (come ++ [c])) := if_pos (by show _ ≤ 16777216; simp; omega)
          simp [-b_catS, tyIs, dv, hg2, ba]
          refine put_wp (ks := kD kv) (vs := vD kv) (by simp) rfl (by show _ < 16777216; simp [kD]; omega) ?_
          rw [dput_gen]
          have st_ : ∀ (a b : HD), (H ++ [a]).set H.length b = H ++ [b] := fun a b => by simp
          rw [st_]
          have pl2 := put_len2 kv past (come ++ [c])
          refine ⟨r, putKv kv past (come ++ [c]), past, come ++ [c], _, by first | rfl | simp [itD, itsD, dec], rfl, fun q => ?_, ?_, fun q hq => ?_, gr.2, by simp; omega, by omega, rfl⟩
          · rw [e1 q, look_put]
            by_cases hq : q < past
            · rw [if_pos hq, if_pos hq, if_neg (by omega)]
            · rw [if_neg hq, if_neg hq]
              show (if c < bs then _ else _) = _
              rw [if_pos hc]
          · rw [look_put, if_pos rfl]
            unfold opt
            rw [if_neg (by simp)]
          · rw [look_put, if_neg (by omega)]
            exact e3 q hq
        · rw [if_neg hc] at gr
          obtain ⟨g1, g2, g3⟩ := gr
          obtain ⟨p, rfl⟩ : ∃ p, c = bs + p := ⟨c - bs, by omega⟩
          have ep : bs + p - bs = p := by omega
          rw [ep] at g1 g2 g3
          have ed : (dcI (bs + p)).d = .int (p : Nat) := by unfold dcI; rw [if_neg hc, ep]; rfl
          rw [ed]
          simp [tyIs]
          refine ⟨r, kv, p + 1, [], some (.int (p : Nat)), by first | rfl | simp [itD, itsD, dec], rfl, fun q => ?_, ?_, fun q hq => e3 q (by omega), g3, by simp; omega, by omega, by simp⟩
          · rw [e1 q]
            by_cases hq : q < past
            · rw [if_pos hq, if_pos (by omega)]
            · rw [if_neg hq]
              show (if bs + p < bs then _ else if q = past then opt come else lkGo r (bs + p - bs + 1) [] q) = _
              rw [if_neg hc, ep]
              by_cases hqp : q = past
              · subst hqp
                rw [if_pos rfl, if_pos (by omega), e2]
              · rw [if_neg hqp]
                by_cases hq2 : q < p + 1
                · rw [if_pos hq2, e3 q (by omega), lk_lt g3 hq2]
                · rw [if_neg hq2]
          · rw [e3 (p + 1) (by omega)]; rfl
    · rintro s H1 ⟨r, kv, past, come, x5, hx, rfl, e1, e2, e3, gr, cb, kb, rfl⟩
      cases r with
      | cons c r => cases hx
      | nil =>
        have hk : look kv = lkGo l 0 [] := by
          funext q
          rw [e1 q]
          by_cases hq : q < past
          · rw [if_pos hq]
          · rw [if_neg hq]
            show _ = (if q = past then opt come else none)
            by_cases h : q = past
            · rw [if_pos h, h, e2]
            · rw [if_neg h, e3 q (by omega)]
        simp
        refine ⟨(it _).2, ?_⟩
        refine partsK (st := stM n l) (kv := kv) (d := H.length) (by rw [stM_len]; exact hn) (List.getElem?_concat_length ..) (by rw [hk]; exact due_lk (good_gd hg) hl) fun L => ?_
        rw [hk, stM_len, List.append_assoc]
        exact q _
theorem dueK {k : Nat} {H : HH} {n j : Nat} {N : Int} {l : List Nat} {Q : D → HH → Prop} (hN : N = (n : Nat)) (hn : n ≤ 30000) (hg : goodL n l) (hl : l.length ≤ 90000) (gj : H[j]? = some (.lst (itD l))) (q : ∀ L, Q (.tup (ptsD (dueF n l))) (H ++ L)) :
    (callD (cfP Pg (k + 2)) 19 [0, 1] [.int N, .ref j] [] H).wp Q :=
  callC (P := Pg) (fd := f19) rfl (l := [.int N, .ref j]) rfl (dueR hN hn hg hl (v_ref gj) ⟨_, fun L => ⟨items_ref (get_add gj _), gd_one (get_add gj _)⟩⟩ q)
theorem dueP {k : Nat} {H : HH} {n : Nat} {N : Int} {l : List Nat} {Q : D → HH → Prop} (hN : N = (n : Nat)) (hn : n ≤ 30000) (hg : goodL n l) (hl : l.length ≤ 90000) (q : Q (.tup (ptsD (dueF n l))) H) :
    (pcallE (cfP Pg (k + 2)) 19 [0, 1] [.int N, .lv (itD l)] [] H).wp Q :=
  pureC (P := Pg) (fd := f19) rfl (l := [.int N, .lv (itD l)]) rfl (by simp only [noRefs, noRef, it_nr]; rfl) (dueR hN hn hg hl rfl ⟨_, fun L => ⟨rfl, rfl⟩⟩ fun L => ⟨by simp only [noRef, pts_nr], q⟩)
end K04
namespace K04
open PySem DI
def mk (P : List Pt) : List Nat := app (cod (want P)) P 0
structure Vd (P : List Pt) : Prop where
  ok : ∀ p ∈ P, p.ok
  ad : adj P = true
  len : P.length ≤ 90000
  wt : want P ≤ 30000
  mm : mks P ≤ 80000
theorem app_len {t : List Nat} : ∀ {F : List Pt} {a : Nat}, a + want F ≤ t.length → (app t F a).length = mks F
  | [], _, _ => rfl
  | .kp n :: r, a, h => by
    simp only [want] at h
    simp only [app, mks, List.length_append, List.length_take, List.length_drop, app_len (t := t) (F := r) (a := a + n) (by omega)]
    omega
  | .dr n :: r, a, h => by
    simp only [want] at h
    simp only [app, mks, app_len (t := t) (F := r) (a := a + n) (by omega)]
  | .pu w :: r, a, h => by
    simp only [want] at h
    simp only [app, mks, List.length_append, app_len (t := t) (F := r) (a := a) h]
theorem mk_len (P : List Pt) : (mk P).length = mks P := app_len (by rw [cod_len]; omega)
theorem mk_good {P : List Pt} (ho : ∀ p ∈ P, p.ok) : goodL (want P) (mk P) := good_app (good_cod _) ho
def compF (P R : List Pt) : List Pt := dueF (want P) (app (mk P) R 0)
theorem app_subs {S T : List Nat} {R : List Pt} (h : T.length = want R) (ho : ∀ p ∈ R, p.ok) : app T R 0 = (mk R).map (sub T) := app_sub h ho
theorem sub_w {S w : List Nat} (h : ∀ c ∈ w, c < 0x110000) : ∀ c ∈ w, sub S c = c := fun c hc => by
  unfold sub
  rw [if_pos (by have := h c hc; have := bs_eq; omega)]
theorem comp_all {P R : List Pt} (vP : Vd P) (vR : Vd R) (h : mks P = want R) : Vd (compF P R) ∧ want (compF P R) = want P ∧ mk (compF P R) = app (mk P) R 0 ∧ mks (compF P R) = mks R := by
  have gm := good_app (mk_good vP.ok) vR.ok
  have l1 : (app (mk P) R 0).length = mks R := app_len (by rw [mk_len]; omega)
  have mR := vR.mm
  have wP := vP.wt
  obtain ⟨a, b, c, d, e, f⟩ := due_all (n := want P) (by omega) (good_gd gm) (by omega)
  refine ⟨⟨b, a, ?_, ?_, ?_⟩, c, ?_, ?_⟩
  · show (dueF _ _).length ≤ _
    omega
  · show want (dueF _ _) ≤ _
    omega
  · show mks (dueF _ _) ≤ _
    omega
  · unfold mk
    rw [show want (compF P R) = want P from c]
    exact d
  · show mks (dueF _ _) = _
    omega
theorem comp_assoc {P R T : List Pt} (vP : Vd P) (vR : Vd R) (vT : Vd T) (h1 : mks P = want R) (h2 : mks R = want T) : compF P (compF R T) = compF (compF P R) T := by
  obtain ⟨v1, w1, k1, m1⟩ := comp_all vP vR h1
  obtain ⟨v2, w2, k2, m2⟩ := comp_all vR vT h2
  unfold compF at *
  rw [w1]
  congr 1
  have e1 : app (mk P) (dueF (want R) (app (mk R) T 0)) 0 = (mk (dueF (want R) (app (mk R) T 0))).map (sub (mk P)) := app_sub (by rw [mk_len, h1, w2]) v2.ok
  have e2 : app (mk P) R 0 = (mk R).map (sub (mk P)) := app_sub (by rw [mk_len, h1]) vR.ok
  rw [e1, k2, k1, e2]
  symm
  exact app_map (sub (mk P)) (mk R) T 0 fun w hw => sub_w (ok_sg vT.ok w hw)
def stillF (n : Nat) : List Pt := if n = 0 then [] else [.kp n]
theorem still_all {n : Nat} (h : n ≤ 30000) : Vd (stillF n) ∧ want (stillF n) = n ∧ mks (stillF n) = n ∧ ∀ t : List Nat, t.length = n → app t (stillF n) 0 = t := by
  unfold stillF
  by_cases h0 : n = 0
  · subst h0
    refine ⟨⟨by simp, rfl, by simp, by simp [want], by simp [mks]⟩, rfl, rfl, fun t ht => ?_⟩
    have : t = [] := List.length_eq_zero_iff.mp ht
    subst this; rfl
  · rw [if_neg h0]
    refine ⟨⟨fun p hp => ?_, rfl, by simp, by simp [want]; omega, by simp [mks]; omega⟩, by simp [want], by simp [mks], fun t ht => ?_⟩
    · rw [List.mem_singleton.mp hp]
      exact ⟨by omega, Nat.le_trans h (by decide)⟩
    · show (t.drop 0).take n ++ [] = t
      rw [List.drop_zero, List.append_nil, List.take_of_length_le (by omega)]
theorem self_due {P : List Pt} (vP : Vd P) : dueF (want P) (mk P) = P := by
  rw [← cb_due (by have := vP.wt; omega) (good_gd (mk_good vP.ok)) (by rw [mk_len]; have := vP.mm; omega)]
  exact cb_self vP.ok vP.ad rfl
theorem comp_still {P : List Pt} (vP : Vd P) : compF P (stillF (mks P)) = P := by
  unfold compF stillF
  by_cases h0 : mks P = 0
  · rw [if_pos h0]
    have : mk P = [] := List.length_eq_zero_iff.mp (by rw [mk_len, h0])
    show dueF (want P) [] = P
    rw [← this]
    exact self_due vP
  · rw [if_neg h0]
    have e : app (mk P) [.kp (mks P)] 0 = mk P := by
      show ((mk P).drop 0).take (mks P) ++ [] = _
      rw [List.drop_zero, List.append_nil, List.take_of_length_le (by rw [mk_len]; exact Nat.le_refl _)]
    rw [e]
    exact self_due vP
theorem still_comp {P : List Pt} (vP : Vd P) : compF (stillF (want P)) P = P := by
  obtain ⟨v, w, m, a⟩ := still_all (n := want P) vP.wt
  unfold compF
  have e : mk (stillF (want P)) = cod (want P) := by
    unfold mk
    rw [w]
    exact a _ (cod_len _)
  rw [w, e]
  exact self_due vP
theorem gd_itOk {n : Nat} : ∀ {l : List Nat} {past : Nat}, past ≤ n → gd n past l → itOk past (dec l ++ [.pl n])
  | [], past, hp, _ => ⟨hp, trivial⟩
  | c :: r, past, hp, h => by
    unfold gd at h
    show itOk past (dcI c :: (dec r ++ [.pl n]))
    unfold dcI
    split at h
    · rename_i hc
      rw [if_pos hc]
      exact ⟨by simp [cOk, h.1], gd_itOk hp h.2⟩
    · rename_i hc
      rw [if_neg hc]
      exact ⟨h.1, gd_itOk (by omega) h.2.2⟩
theorem txI_dec : ∀ (l : List Nat) (n : Nat), txI (dec l ++ [.pl n]) ≤ l.length
  | [], n => by simp [dec, txI]
  | c :: r, n => by
    have ih := txI_dec r n
    show txI (dcI c :: (dec r ++ [.pl n])) ≤ _
    unfold dcI
    split
    · simp only [txI, List.length_cons, List.length_nil]; omega
    · simp only [txI, List.length_cons]; omega
theorem mk_mem {P : List Pt} (ho : ∀ p ∈ P, p.ok) : ∀ c ∈ mk P, c < bs ∨ ∃ p, c = bs + p ∧ p < want P := fun c hc => by
  rcases (mk_good ho).1 c hc with h | h
  · left; have := bs_eq; omega
  · exact .inr ⟨c - bs, by omega, by omega⟩
theorem dcI_pl (p : Nat) : (dcI (bs + p)).d = .int (p : Nat) := by
  unfold dcI
  rw [if_neg (by omega), show bs + p - bs = p by omega]; rfl
theorem dcI_tx {c : Nat} (h : c < bs) : (dcI c).d = .str [c] := by
  unfold dcI
  rw [if_pos h]; rfl
theorem sub_tx {S : List Nat} {c : Nat} (h : c < bs) : sub S c = c := by
  unfold sub
  rw [if_pos h]
theorem sub_pl {S : List Nat} {p c : Nat} (h : S[p]? = some c) : sub S (bs + p) = c := by
  unfold sub
  rw [if_neg (by omega), show bs + p - bs = p by omega, List.getD_eq_getElem?_getD, h]; rfl
theorem itD_map (l : List Nat) : itD l = l.map fun c => (dcI c).d := by unfold itD itsD dec; rw [List.map_map]; rfl
theorem behindK {k : Nat} {H : HH} {P R : List Pt} {Q : D → HH → Prop} (vP : Vd P) (vR : Vd R) (h : mks P = want R) (q : Q (.tup (ptsD (compF P R))) H) : (pcallE (cfP Pg (k + 4)) 10 [0, 1] [.tup (ptsD P), .tup (ptsD R)] [] H).wp Q := by
  refine pureC (P := Pg) (fd := f10) rfl (l := [.tup (ptsD P), .tup (ptsD R)]) rfl (by simp only [noRefs, noRef, pts_nr]; rfl) ?_
  refine run_k rfl ?_
  have p1 := vP.len
  have p2 := vP.wt
  have p3 := vP.mm
  have r1 := vR.len
  have r2 := vR.wt
  have r3 := vR.mm
  simp [f10, b10, startD, N10]
  refine mksP (by omega) vP.ok ?_
  simp
  refine wantP (by omega) ?_
  simp [h]
  refine moK vP.ok vP.ad (by omega) (by omega) (by rw [show app (cod (want P)) P 0 = mk P from rfl, mk_len]; omega) ?_
  simp
  refine wantP (by omega) ?_
  simp
  refine moK vR.ok vR.ad (by omega) (by omega) (by rw [show app (cod (want R)) R 0 = mk R from rfl, mk_len]; omega) ?_
  rw [show app (cod (want R)) R 0 = mk R from rfl, show app (cod (want P)) P 0 = mk P from rfl]
  simp
  have ml := mk_len P
  have ml2 := mk_len R
  have e := app_sub (S := mk P) (by rw [mk_len, h]) vR.ok
  rw [itD_map (mk R)]
  refine lc_mapG (A := Nat) (fun c => (dcI c).d) (fun c => (dcI (sub (mk P) c)).d) rfl (mk R) [] (fun c hc => ⟨_, a_nm 3 _, fun T hT => ?_⟩) (by show 0 + (mk R).length ≤ 16777216; omega) ?_
  · rcases mk_mem vR.ok c hc with hb | ⟨p, rfl, h1⟩
    · rw [sub_tx hb, dcI_tx hb] at hT
      rw [dcI_tx hb]
      simpa [tyIs] using hT
    · obtain ⟨x, hx⟩ : ∃ x, (mk P)[p]? = some x := ⟨_, List.getElem?_eq_getElem (by omega)⟩
      have e3 := it_at (t := mk P) (i := (p : Nat)) rfl hx
      rw [sub_pl hx] at hT
      rw [dcI_pl]
      simp [tyIs, e3]
      exact hT
  · have e5 : (mk R).map (fun c => (dcI (sub (mk P) c)).d) = itsD (dec (app (mk P) R 0)) := by
      rw [e]
      show _ = itD _
      rw [itD_map, List.map_map]; rfl
    have l1 : (app (mk P) R 0).length = mks R := app_len (by rw [mk_len]; omega)
    have gg := good_gd (good_app (mk_good vP.ok) vR.ok)
    have tb := txI_dec (app (mk P) R 0) (want P)
    rw [List.nil_append, e5]
    simp
    refine cbK (n := want P) rfl (gd_itOk (Nat.zero_le _) gg) (by simp [dec]; omega) (by omega) ?_
    rw [cb_due (by omega) gg (by omega)]
    simp
    exact ⟨by simp only [noRef, pts_nr], q⟩
theorem behindX {k : Nat} {H : HH} {P R : List Pt} {Q : D → HH → Prop} {X : XV → HH → Prop} (vP : Vd P) (vR : Vd R) (h : mks P ≠ want R) (q : X ⟨.own 0, some (.int (want R : Nat))⟩ H) : (pcallE (cfP Pg (k + 4)) 10 [0, 1] [.tup (ptsD P), .tup (ptsD R)] [] H).wpx Q X := by
  refine pcallE_wpx (l := [.tup (ptsD P), .tup (ptsD R)]) (by rw [dflP (P := Pg) (fd := f10) rfl]; rfl) (by simp only [noRefs, noRef, pts_nr]; rfl) ?_
  rw [show (cfP Pg (k + 4)).call = callN Pg (k + 4) from rfl, stepP (P := Pg) (fd := f10) rfl]
  refine run_wpx rfl ?_
  have p1 := vP.len
  have r1 := vR.len
  refine swpx_cons (swpx_ite ?_)
  simp [f10, startD, N10]
  refine mksP (by omega) vP.ok ?_
  simp
  refine wantP (by omega) ?_
  have e : ((mks P : Int) == (want R : Nat)) = false := by simp; omega
  simp [e]
  refine swpx_cons (swpx_rz ?_)
  simp
  refine wantP (by omega) ?_
  exact ⟨by simp [noRef], q⟩
theorem lm {n : Nat} {P : Prop} (h : n ≤ 16777216) (q : P) : n ≤ lim ∧ P := ⟨h, q⟩
end K04
namespace K04
open PySem DI
theorem pts_sgO {ps : List Pt} (h : ∀ p ∈ ps, p.ok) : ∀ p ∈ ps, p.sg := fun p hp => by
  have := h p hp
  cases p with
  | pu w => exact ⟨this.2.2, this.2.1⟩
  | _ => trivial
theorem eq_self {ps : List Pt} (h : ∀ p ∈ ps, p.ok) : cmpD .NotEq (.tup (ptsD ps)) (.tup (ptsD ps)) = some false ∧ cmpD .Eq (.tup (ptsD ps)) (.tup (ptsD ps)) = some true := by
  have e : ∀ qs : List Pt, eqDs (ptsD qs) (ptsD qs) = true := by
    intro qs
    induction qs with
    | nil => rfl
    | cons x r ih =>
      show eqDs (x.d :: ptsD r) (x.d :: ptsD r) = true
      rw [e_cons, ih]
      cases x <;> simp [Pt.d, Pt.val]
  have ok := pts_okT (pts_sgO h)
  exact ⟨by rw [c_ne ok ok, e_tup, e]; rfl, by rw [c_eq ok ok, e_tup, e]⟩
theorem isT {k : Nat} {H : HH} {ps : List Pt} {Q : D → HH → Prop} (v : Vd ps) (q : Q (.bl true) H) : (pcallE (cfP Pg (k + 3)) 2 [0] [.tup (ptsD ps)] [] H).wp Q := by
  have := v.len
  rw [← els_pts]
  refine changeP (es := ps.map .pt) (fun e he => by obtain ⟨p, hp, rfl⟩ := List.mem_map.mp he; exact v.ok p hp) (by rw [List.length_map]; omega) ?_
  rw [isCh_pts, v.ad]; exact q
def TmI (r : Nat) (H1 : HH) (n : Nat) (xs acc : List D) (H : HH) : Prop := Go r H1 H ∧ ∃ ts : List Nat, acc = oneD ts ∧ (∀ c ∈ ts, c ∈ signL) ∧ ts.length + xs.length ≤ n
theorem textM {k r : Nat} {H : HH} {M : Int} {n : Nat} {Q : D → HH → Prop} (h : Pool r H) (hM : M = ((n + 1 : Nat) : Int)) (hn : n ≤ 23) (q : ∀ (t : List Nat) H', t.length ≤ n → (∀ c ∈ t, c < 0x110000) → Go r H H' → Q (.str t) H') : (callD (cfP Pg (k + 2)) 15 [0, 1] [.ref r, .int M] [] H).wp Q := by
  refine callC (P := Pg) (fd := f15) rfl (l := [.ref r, .int M]) rfl ?_
  refine run_k rfl ?_
  simp [f15, b15, startD, N15]
  refine ⟨by decide, ?_⟩
  simp [rcvOk]
  refine takeK (m := M) h (by omega) (by omega) fun t H2 t1 t2 g2 => ?_
  simp
  rw [range1 (by omega) (by omega)]
  simp
  refine lc_wp (I := TmI r H n) ?_ ?_ _ _ _ ⟨g2, [], rfl, by simp, by simp; omega⟩
  · rintro y ys acc H3 ⟨g3, ts, rfl, w1, w2⟩
    simp
    refine takeK (m := 8) g3.pool (by decide) (by decide) fun u H4 u1 u2 g4 => ?_
    obtain ⟨j, rfl⟩ := Int.eq_ofNat_of_zero_le u1
    have e : L2.atI (oneD signL) (j : Int) = some (.str [signL[j]'(by show j < 8; omega)]) := by
      rw [at_nat (n := j) rfl (by show j < 8; omega), List.getElem?_eq_getElem (by show j < 8; omega)]
      simp [oneD]
    have e' : L2.atI [D.str [97], D.str [98], D.str [32], D.str [10], D.str [46], D.str [123], D.str [125], D.str [90]] (j : Int) = some (.str [signL[j]'(by show j < 8; omega)]) := e
    simp [e']
    simp only [List.length_cons] at w2
    exact ⟨by show _ < 16777216; simp [oneD]; omega, g3.trans g4, ts ++ [signL[j]'(by show j < 8; omega)], by simp [oneD], fun v hv => by
      simp only [List.mem_append, List.mem_singleton] at hv
      rcases hv with hv | rfl
      · exact w1 v hv
      · exact List.getElem_mem _, by simp; omega⟩
  · rintro acc H3 ⟨g3, ts, rfl, w1, w2⟩
    simp [mtE, isMu]
    refine ⟨_, join_one (by simp at w2; omega), ?_⟩
    exact q ts H3 (by simpa using w2) (fun c hc => sign_ok c (w1 c hc)) g3
def fl (t : List Nat) (Ps : List (List Pt)) : List Nat := Ps.foldl (fun a P => app a P 0) t
theorem fl_snoc (t : List Nat) (Ps : List (List Pt)) (P : List Pt) : fl t (Ps ++ [P]) = app (fl t Ps) P 0 := by simp [fl]
def en : Nat → List (List Pt) → Nat
  | m, [] => m
  | _, P :: r => en (mks P) r
theorem en_snoc (P : List Pt) : ∀ (Ps : List (List Pt)) (m : Nat), en m (Ps ++ [P]) = mks P
  | [], _ => rfl
  | R :: r, m => en_snoc P r (mks R)
def Chn : Nat → List (List Pt) → Prop
  | _, [] => True
  | m, P :: r => (∀ p ∈ P, p.ok) ∧ adj P = true ∧ want P = m ∧ Chn (mks P) r
theorem chn_snoc {P : List Pt} (ho : ∀ p ∈ P, p.ok) (ha : adj P = true) : ∀ {Ps : List (List Pt)} {m : Nat}, Chn m Ps → want P = en m Ps → Chn m (Ps ++ [P])
  | [], m, _, hw => ⟨ho, ha, hw, trivial⟩
  | R :: r, m, h, hw => ⟨h.1, h.2.1, h.2.2.1, chn_snoc ho ha h.2.2.2 hw⟩
theorem fl_len : ∀ {Ps : List (List Pt)} {t : List Nat}, Chn t.length Ps → (fl t Ps).length = en t.length Ps
  | [], t, _ => rfl
  | P :: r, t, h => by
    have l : (app t P 0).length = mks P := app_len (by have := h.2.2.1; omega)
    show (fl (app t P 0) r).length = en (mks P) r
    rw [fl_len (by rw [l]; exact h.2.2.2), l]
theorem fl_map (S : List Nat) : ∀ {Ps : List (List Pt)} (t : List Nat), (∀ P ∈ Ps, ∀ p ∈ P, p.ok) → fl (t.map (sub S)) Ps = (fl t Ps).map (sub S)
  | [], _, _ => rfl
  | P :: r, t, h => by
    show fl (app (t.map (sub S)) P 0) r = (fl (app t P 0) r).map (sub S)
    rw [app_map (sub S) t P 0 fun w hw => sub_w (ok_sg (h P List.mem_cons_self) w hw), fl_map S _ fun R hR => h R (List.mem_cons_of_mem _ hR)]
theorem fl_sub {S : List Nat} {n : Nat} {Ps : List (List Pt)} (h : S.length = n) (ho : ∀ P ∈ Ps, ∀ p ∈ P, p.ok) : fl S Ps = (fl (cod n) Ps).map (sub S) := by
  rw [← fl_map S (cod n) ho, cod_map h]
theorem chn_ok : ∀ {Ps : List (List Pt)} {m : Nat}, Chn m Ps → ∀ P ∈ Ps, ∀ p ∈ P, p.ok
  | R :: r, m, h, P, hP => by
    rcases List.mem_cons.mp hP with rfl | hP
    · exact h.1
    · exact chn_ok h.2.2.2 P hP
theorem fl_good {n : Nat} : ∀ {Ps : List (List Pt)} {t : List Nat}, goodL n t → (∀ P ∈ Ps, ∀ p ∈ P, p.ok) → goodL n (fl t Ps)
  | [], _, h, _ => h
  | P :: r, t, h, ho => fl_good (Ps := r) (good_app h (ho P List.mem_cons_self)) fun R hR => ho R (List.mem_cons_of_mem _ hR)
theorem fl_chr : ∀ {Ps : List (List Pt)} {t : List Nat}, (∀ c ∈ t, c < 0x110000) → (∀ P ∈ Ps, ∀ p ∈ P, p.ok) → ∀ c ∈ fl t Ps, c < 0x110000
  | [], _, h, _ => h
  | P :: r, t, h, ho => fl_chr (Ps := r) (fun c hc => by
    rcases app_mem hc with hc | ⟨w, h1, h2⟩
    · exact h c hc
    · exact ok_sg (ho P List.mem_cons_self) w h1 c h2) fun R hR => ho R (List.mem_cons_of_mem _ hR)
def dueL (n : Nat) (Ps : List (List Pt)) : List (List Pt) := (List.range Ps.length).map fun i => dueF n (fl (cod n) (Ps.take (i + 1)))
theorem dueL_snoc (n : Nat) (Ps : List (List Pt)) (P : List Pt) : dueL n (Ps ++ [P]) = dueL n Ps ++ [dueF n (fl (cod n) (Ps ++ [P]))] := by
  unfold dueL
  rw [List.length_append, List.length_singleton, List.range_succ, List.map_append]
  congr 1
  · refine List.map_congr_left fun i hi => ?_
    rw [List.mem_range] at hi
    rw [List.take_append_of_le_length (by omega)]
  · simp only [List.map_cons, List.map_nil]
    rw [List.take_of_length_le (by simp)]
def tupd (P : List Pt) : D := .tup (ptsD P)
theorem ms_len3 {t : List Nat} {st : List Bool} {kv : List (Nat × List Nat)} (h : ∀ z ∈ kv, z.2.length ≤ 3) : ∀ p, (Ms t st (look kv) p).length ≤ 4 * p
  | 0 => by simp [Ms]
  | p + 1 => by
    have ih := ms_len3 h (t := t) (st := st) p
    have h1 : ((look kv p).getD []).length ≤ 3 := by
      cases hw : look kv p with
      | none => simp
      | some w => exact h _ (look_mem hw)
    simp only [Ms, List.length_append]
    split <;> simp only [List.length_cons, List.length_nil] <;> omega
def LvAt (r c1 c2 : Nat) (H : HH) (d : D) (L : List D) : Prop := d = .lv L ∨ ∃ j, d = .ref j ∧ j ≠ r ∧ j ≠ c1 ∧ j ≠ c2 ∧ H[j]? = some (.lst L)
theorem LvAt.view {r c1 c2 : Nat} {H : HH} {d : D} {L : List D} (h : LvAt r c1 c2 H d L) : viewD H d = .lv L := by
  rcases h with rfl | ⟨j, rfl, _, _, _, h⟩
  · rfl
  · exact v_ref h
theorem LvAt.kp {r c1 c2 : Nat} {H H' : HH} {d : D} {L : List D} (h : LvAt r c1 c2 H d L) (k : Kp H H') : LvAt r c1 c2 H' d L := by
  rcases h with rfl | ⟨j, rfl, a, b, c, h⟩
  · exact .inl rfl
  · exact .inr ⟨j, rfl, a, b, c, k.get h⟩
theorem LvAt.go {r c1 c2 : Nat} {H H' : HH} {d : D} {L : List D} (h : LvAt r c1 c2 H d L) (g : Go r H H') : LvAt r c1 c2 H' d L := by
  rcases h with rfl | ⟨j, rfl, a, b, c, h⟩
  · exact .inl rfl
  · exact .inr ⟨j, rfl, a, b, c, by rw [g.keep j (List.getElem?_eq_some_iff.mp h).1 a]; exact h⟩
theorem rg_cod (n : Nat) : (List.range n).map (fun (k : Nat) => D.int (k : Nat)) = itD (cod n) := by
  rw [itD_map]
  unfold cod
  rw [List.range'_eq_map_range, List.map_map]
  refine List.map_congr_left fun k _ => ?_
  exact (dcI_pl k).symm
end K04
namespace K04
open PySem DI
theorem stF_app : ∀ (A B : List Pt), stF (A ++ B) = stF A ++ stF B
  | [], B => rfl
  | .kp n :: r, B => by simp [stF, stF_app r B]
  | .dr n :: r, B => by simp [stF, stF_app r B]
  | .pu w :: r, B => by simp [stF, stF_app r B]
theorem kvF_app : ∀ (A B : List Pt) (a : Nat), kvF (A ++ B) a = kvF A a ++ kvF B (a + want A)
  | [], B, a => by simp [kvF, want]
  | .kp n :: r, B, a => by simp [kvF, want, kvF_app r B, Nat.add_assoc]
  | .dr n :: r, B, a => by simp [kvF, want, kvF_app r B, Nat.add_assoc]
  | .pu w :: r, B, a => by simp [kvF, want, kvF_app r B, Nat.add_assoc]
theorem spA_addU (F : List Pt) (b : Bool) : want (addU F b) = want F + 1 ∧ stF (addU F b) = stF F ++ [b] ∧ kvF (addU F b) 0 = kvF F 0 := by
  have plain : ∀ b : Bool, want (F ++ [if b then .kp 1 else .dr 1]) = want F + 1 ∧ stF (F ++ [if b then .kp 1 else .dr 1]) = stF F ++ [b] ∧ kvF (F ++ [if b then .kp 1 else .dr 1]) 0 = kvF F 0 := fun b => by
    refine ⟨by rw [want_app]; cases b <;> rfl, by rw [stF_app]; cases b <;> rfl, ?_⟩
    rw [kvF_app]
    cases b <;> simp [kvF]
  rcases List.eq_nil_or_concat F with rfl | ⟨G, x, e⟩
  · have := plain b
    cases b <;> exact this
  · rw [List.concat_eq_append] at e
    subst e
    have gl : (G ++ [x]).getLast? = some x := by simp
    have dl : (G ++ [x]).dropLast = G := by simp
    cases x with
    | kp k =>
      cases b with
      | false =>
        have := plain false
        unfold addU
        rw [gl]
        exact this
      | true =>
        unfold addU
        rw [gl]
        dsimp only
        rw [dl]
        simp only [want_app, stF_app, kvF_app, want, stF, kvF, List.append_nil, List.append_assoc]
        refine ⟨by omega, ?_, trivial⟩
        rw [← List.replicate_append_replicate (n := k) (m := 1)]; rfl
    | dr k =>
      cases b with
      | true =>
        have := plain true
        unfold addU
        rw [gl]
        exact this
      | false =>
        unfold addU
        rw [gl]
        dsimp only
        rw [dl]
        simp only [want_app, stF_app, kvF_app, want, stF, kvF, List.append_nil, List.append_assoc]
        refine ⟨by omega, ?_, trivial⟩
        rw [← List.replicate_append_replicate (n := k) (m := 1)]; rfl
    | pu w =>
      have := plain b
      unfold addU
      rw [gl]
      cases b <;> exact this
def kvL (lk : Nat → Option (List Nat)) : Nat → List (Nat × List Nat)
  | 0 => []
  | m + 1 => kvL lk m ++ (match lk m with | some w => [(m, w)] | none => [])
theorem sp_put (o : Option (List Nat)) (a : Nat) : want (putAt o) = 0 ∧ stF (putAt o) = [] ∧ kvF (putAt o) a = (match o with | some w => [(a, w)] | none => []) := by
  cases o <;> exact ⟨rfl, rfl, rfl⟩
theorem sp_Fs {st : List Bool} {lk : Nat → Option (List Nat)} : ∀ m, m ≤ st.length → want (Fs st lk m) = m ∧ stF (Fs st lk m) = st.take m ∧ kvF (Fs st lk m) 0 = kvL lk m
  | 0, _ => ⟨rfl, by simp [Fs, stF], rfl⟩
  | m + 1, h => by
    obtain ⟨w, e1, e2⟩ := sp_Fs (st := st) (lk := lk) m (by omega)
    have hl : m < st.length := h
    have hb : st[m]? = some st[m] := List.getElem?_eq_getElem hl
    have e : Fs st lk (m + 1) = addU (Fs st lk m ++ putAt (lk m)) st[m] := by
      show (match st[m]? with | some b => _ | none => _) = _
      rw [hb]
    obtain ⟨p1, p2, p3⟩ := sp_put (lk m) (0 + want (Fs st lk m))
    obtain ⟨a1, a2, a3⟩ := spA_addU (Fs st lk m ++ putAt (lk m)) st[m]
    rw [e]
    refine ⟨by rw [a1, want_app, p1, w], ?_, ?_⟩
    · rw [a2, stF_app, p2, e1, List.append_nil, List.take_add_one, hb]; rfl
    · rw [a3, kvF_app, e2, p3, w, Nat.zero_add]; rfl
theorem sp_Fs1 {st : List Bool} {lk : Nat → Option (List Nat)} : stF (Fs st lk (st.length + 1)) = st ∧ kvF (Fs st lk (st.length + 1)) 0 = kvL lk (st.length + 1) := by
  obtain ⟨w, e1, e2⟩ := sp_Fs (st := st) (lk := lk) st.length (Nat.le_refl _)
  have hn : st[st.length]? = none := List.getElem?_eq_none (Nat.le_refl _)
  have e : Fs st lk (st.length + 1) = Fs st lk st.length ++ putAt (lk st.length) := by
    show (match st[st.length]? with | some b => _ | none => _) = _
    rw [hn]
  obtain ⟨p1, p2, p3⟩ := sp_put (lk st.length) (0 + want (Fs st lk st.length))
  rw [e]
  refine ⟨by rw [stF_app, p2, e1, List.append_nil, List.take_length], ?_⟩
  rw [kvF_app, e2, p3, w, Nat.zero_add]; rfl
theorem kvL_lt {lk : Nat → Option (List Nat)} : ∀ {m : Nat} {z : Nat × List Nat}, z ∈ kvL lk m → z.1 < m
  | m + 1, z, h => by
    rcases List.mem_append.mp h with h | h
    · have := kvL_lt h; omega
    · cases e : lk m with
      | none => rw [e] at h; cases h
      | some w => rw [e] at h; rw [List.mem_singleton.mp h]; exact Nat.lt_succ_self m
theorem lookA (q : Nat) : ∀ (A B : List (Nat × List Nat)), look (A ++ B) q = (match look A q with | some w => some w | none => look B q)
  | [], B => rfl
  | z :: r, B => by
    show (if z.1 = q then some z.2 else look (r ++ B) q) = (match (if z.1 = q then some z.2 else look r q) with | some w => some w | none => look B q)
    by_cases h : z.1 = q
    · rw [if_pos h, if_pos h]
    · rw [if_neg h, if_neg h]; exact lookA q r B
theorem look_kvL {lk : Nat → Option (List Nat)} {q : Nat} : ∀ m, q < m → look (kvL lk m) q = lk q
  | m + 1, h => by
    show look (kvL lk m ++ _) q = _
    rw [lookA]
    by_cases e : q = m
    · subst e
      rw [look_none fun z hz => kvL_lt hz]
      dsimp only
      cases hk : lk q with
      | none => rfl
      | some w => simp [look]
    · rw [look_kvL m (by omega)]
      cases hk : lk q with
      | none =>
        dsimp only
        cases hm : lk m with
        | none => rfl
        | some w => simp only [look]; rw [if_neg (by omega)]
      | some w => rfl
theorem look_far {lk : Nat → Option (List Nat)} {q : Nat} : ∀ m, m ≤ q → look (kvL lk m) q = none := fun m h => look_none fun z hz => by have := kvL_lt hz; omega
def lks (lk : Nat → Option (List Nat)) (p : Nat) : List Nat := (lk p).getD []
def one01 (b : Bool) : Nat := if b then 1 else 0
def stB (st : List Bool) (p : Nat) : Bool := st[p]? == some true
def mP (ps : List Bool) (tx : Nat → Option (List Nat)) : Nat → Nat
  | 0 => 0
  | p + 1 => mP ps tx p + (lks tx p).length + one01 (stB ps p)
def blk (a : Bool) (own nums : List Nat) : List Nat := if a then own ++ nums else nums ++ own
def ldB (a : Bool) (st : List Bool) (lk : Nat → Option (List Nat)) (ps : List Bool) (tx : Nat → Option (List Nat)) (p : Nat) : List Nat :=
  blk a (lks lk p) (List.range' (bs + mP ps tx p) (lks tx p).length) ++ (if stB ps p && stB st p then [bs + (mP ps tx p + (lks tx p).length)] else [])
def ldP (a : Bool) (st : List Bool) (lk : Nat → Option (List Nat)) (ps : List Bool) (tx : Nat → Option (List Nat)) : Nat → List Nat
  | 0 => []
  | p + 1 => ldP a st lk ps tx p ++ ldB a st lk ps tx p
def ownI (lk : Nat → Option (List Nat)) (p : Nat) : List It := match lk p with
  | some w => [It.tx w]
  | none => []
def nmI (ps : List Bool) (tx : Nat → Option (List Nat)) (p : Nat) : List It := (List.range' (mP ps tx p) (lks tx p).length).map It.pl
def oldI (st ps : List Bool) (tx : Nat → Option (List Nat)) (p : Nat) : List It := if stB ps p && stB st p then [It.pl (mP ps tx p + (lks tx p).length)] else []
def blI (a : Bool) (own nums : List It) : List It := if a then own ++ nums else nums ++ own
def ldI (a : Bool) (st : List Bool) (lk : Nat → Option (List Nat)) (ps : List Bool) (tx : Nat → Option (List Nat)) : Nat → List It
  | 0 => []
  | p + 1 => ldI a st lk ps tx p ++ (blI a (ownI lk p) (nmI ps tx p) ++ oldI st ps tx p)
theorem mP_mono (ps : List Bool) (tx : Nat → Option (List Nat)) {p q : Nat} (h : p ≤ q) : mP ps tx p ≤ mP ps tx q := by
  induction q with
  | zero => rw [Nat.le_zero.mp h]; exact Nat.le_refl _
  | succ q ih =>
    by_cases e : p = q + 1
    · rw [e]; exact Nat.le_refl _
    · have := ih (by omega)
      show _ ≤ mP ps tx q + _ + _
      omega
theorem ms_mP {T : List Nat} {ps : List Bool} {tx : Nat → Option (List Nat)} (h : ps.length ≤ T.length) : ∀ p, (Ms T ps tx p).length = mP ps tx p
  | 0 => rfl
  | p + 1 => by
    have ih := ms_mP (tx := tx) h p
    show (Ms T ps tx p ++ (tx p).getD [] ++ (match ps[p]?, T[p]? with | some true, some c => [c] | _, _ => [])).length = mP ps tx p + (lks tx p).length + one01 (stB ps p)
    rw [List.length_append, List.length_append, ih]
    congr 1
    unfold stB one01
    cases e : ps[p]? with
    | none => rfl
    | some b =>
      cases b with
      | false => rfl
      | true =>
        have hl := (List.getElem?_eq_some_iff.mp e).1
        rw [List.getElem?_eq_getElem (show p < T.length by omega)]
        rfl
theorem good_app2 {m m' : Nat} {l l2 : List Nat} (h : goodL m l) (h1 : ∀ c ∈ l2, c < 0x110000 ∨ (bs + m ≤ c ∧ c < bs + m')) (h2 : (l2.filter fun c => decide (bs ≤ c)).Pairwise (· < ·)) (hm : m ≤ m') : goodL m' (l ++ l2) := by
  refine ⟨fun c hc => ?_, ?_⟩
  · rcases List.mem_append.mp hc with hc | hc
    · rcases h.1 c hc with g | g
      · exact .inl g
      · exact .inr ⟨g.1, by omega⟩
    · rcases h1 c hc with g | g
      · exact .inl g
      · exact .inr ⟨by omega, g.2⟩
  · rw [List.filter_append, List.pairwise_append]
    refine ⟨h.2, h2, fun a ha b hb => ?_⟩
    obtain ⟨a1, a2⟩ := List.mem_filter.mp ha
    obtain ⟨b1, b2⟩ := List.mem_filter.mp hb
    have a2 : bs ≤ a := of_decide_eq_true a2
    have b2 : bs ≤ b := of_decide_eq_true b2
    have := bs_eq
    rcases h.1 a a1 with g | g
    · omega
    · rcases h1 b b1 with g' | g'
      · omega
      · omega
theorem fil_tx {w : List Nat} (h : ∀ c ∈ w, c < 0x110000) : (w.filter fun c => decide (bs ≤ c)) = [] := by
  rw [List.filter_eq_nil_iff]
  intro c hc
  have := h c hc
  have := bs_eq
  simp; omega
theorem fil_rg (a k : Nat) : ((List.range' (bs + a) k).filter fun c => decide (bs ≤ c)) = List.range' (bs + a) k := by
  rw [List.filter_eq_self]
  intro c hc
  rw [List.mem_range'] at hc
  obtain ⟨i, _, rfl⟩ := hc
  simp; omega
def sgn (lk : Nat → Option (List Nat)) : Prop := ∀ p w, lk p = some w → ∀ c ∈ w, c < 0x110000
theorem sgn_l {lk : Nat → Option (List Nat)} (h : sgn lk) (p : Nat) : ∀ c ∈ lks lk p, c < 0x110000 := by
  unfold lks
  cases e : lk p with
  | none => intro c hc; cases hc
  | some w => exact h p w e
theorem ldP_good {a : Bool} {st : List Bool} {lk : Nat → Option (List Nat)} {ps : List Bool} {tx : Nat → Option (List Nat)} (hk : sgn lk) : ∀ p, goodL (mP ps tx p) (ldP a st lk ps tx p)
  | 0 => ⟨fun c hc => (by cases hc), .nil⟩
  | p + 1 => by
    have ih := ldP_good (a := a) (st := st) (lk := lk) (ps := ps) (tx := tx) hk p
    have hc := sgn_l hk p
    refine good_app2 ih (fun c h => ?_) ?_ (mP_mono ps tx (Nat.le_succ p))
    · show _ ∨ (_ ∧ c < bs + (mP ps tx p + (lks tx p).length + one01 (stB ps p)))
      unfold ldB at h
      rcases List.mem_append.mp h with h | h
      · have h : c ∈ lks lk p ∨ c ∈ List.range' (bs + mP ps tx p) (lks tx p).length := by
          unfold blk at h
          split at h
          · exact List.mem_append.mp h
          · exact (List.mem_append.mp h).symm
        rcases h with h | h
        · exact .inl (hc c h)
        · rw [List.mem_range'] at h
          obtain ⟨i, hi, rfl⟩ := h
          exact .inr ⟨by omega, by omega⟩
      · split at h
        · rename_i hb
          rw [Bool.and_eq_true] at hb
          rw [List.mem_singleton.mp h, hb.1]
          exact .inr ⟨by omega, by show _ < bs + (_ + 1); omega⟩
        · cases h
    · unfold ldB
      rw [List.filter_append]
      have e : ((blk a (lks lk p) (List.range' (bs + mP ps tx p) (lks tx p).length)).filter fun c => decide (bs ≤ c)) = List.range' (bs + mP ps tx p) (lks tx p).length := by
        unfold blk
        split <;> rw [List.filter_append, fil_tx hc, fil_rg] <;> simp
      rw [e, List.pairwise_append]
      refine ⟨List.pairwise_lt_range', ?_, fun x hx y hy => ?_⟩
      · split
        · exact List.Pairwise.filter _ (List.pairwise_singleton _ _)
        · simp
      · rw [List.mem_range'] at hx
        obtain ⟨i, hi, rfl⟩ := hx
        obtain ⟨hy, _⟩ := List.mem_filter.mp hy
        split at hy
        · rw [List.mem_singleton.mp hy]; omega
        · cases hy
/-- what both make of T -/
def boS (T : List Nat) (s1 : List Bool) (l1 : Nat → Option (List Nat)) (s2 : List Bool) (l2 : Nat → Option (List Nat)) : Nat → List Nat
  | 0 => []
  | p + 1 => boS T s1 l1 s2 l2 p ++ (lks l1 p ++ lks l2 p ++ (if stB s1 p && stB s2 p then [T.getD p 0] else []))
theorem sub_at {S : List Nat} {j c : Nat} (h : S[j]? = some c) : sub S (bs + j) = c := by
  unfold sub
  rw [if_neg (by omega), show bs + j - bs = j by omega, List.getD_eq_getElem?_getD, h]; rfl
theorem sub_rg {S w : List Nat} {m : Nat} (h : ∀ i, i < w.length → S[m + i]? = w[i]?) : (List.range' (bs + m) w.length).map (sub S) = w := by
  refine List.ext_getElem (by simp) fun i h1 h2 => ?_
  rw [List.getElem_map, List.getElem_range']
  have := h i h2
  rw [List.getElem?_eq_getElem h2] at this
  rw [show bs + m + 1 * i = bs + (m + i) by omega]
  exact sub_at this
theorem sub_ws {S w : List Nat} (h : ∀ c ∈ w, c < 0x110000) : w.map (sub S) = w := by
  have := sub_w (S := S) h
  exact (List.map_congr_left this).trans (List.map_id _)
theorem blk_map (a : Bool) (g : Nat → Nat) (x y : List Nat) : (blk a x y).map g = blk a (x.map g) (y.map g) := by
  unfold blk; split <;> rw [List.map_append]
/-- the signs of the text that the other makes, put in the numbers' stead -/
theorem ld_sub {a : Bool} {st : List Bool} {lk : Nat → Option (List Nat)} {ps : List Bool} {tx : Nat → Option (List Nat)} {T : List Nat} {n : Nat} (hT : T.length = n) (hp : ps.length = n) (hk : sgn lk) : ∀ p, p ≤ n + 1 →
    (ldP a st lk ps tx p).map (sub (Ms T ps tx (n + 1))) = (if a then boS T st lk ps tx p else boS T ps tx st lk p)
  | 0, _ => by split <;> rfl
  | p + 1, h => by
    have ih := ld_sub (a := a) (st := st) (lk := lk) (ps := ps) (tx := tx) hT hp hk p (by omega)
    obtain ⟨r, hr⟩ : ∃ r, n + 1 = (p + 1) + r := ⟨n - p, by omega⟩
    have e : Ms T ps tx (n + 1) = Ms T ps tx p ++ pc T ps tx p ++ sg T ps tx (p + 1) r := by rw [hr, ms_sg, ms_pc]
    have lm := ms_mP (tx := tx) (show ps.length ≤ T.length by omega) p
    have epc : pc T ps tx p = lks tx p ++ (match ps[p]?, T[p]? with | some true, some c => [c] | _, _ => []) := rfl
    have hn : (List.range' (bs + mP ps tx p) (lks tx p).length).map (sub (Ms T ps tx (n + 1))) = lks tx p := sub_rg fun i hi => by
      rw [e, List.append_assoc, List.getElem?_append_right (by omega), lm, show mP ps tx p + i - mP ps tx p = i by omega, epc, List.append_assoc, List.getElem?_append_left hi]
    have ho : ((if stB ps p && stB st p then [bs + (mP ps tx p + (lks tx p).length)] else []) : List Nat).map (sub (Ms T ps tx (n + 1))) = if stB ps p && stB st p then [T.getD p 0] else [] := by
      split
      · rename_i hb
        rw [Bool.and_eq_true] at hb
        have hq : ps[p]? = some true := eq_of_beq hb.1
        have hl := (List.getElem?_eq_some_iff.mp hq).1
        have ht : T[p]? = some (T.getD p 0) := by
          rw [List.getD_eq_getElem?_getD, List.getElem?_eq_getElem (show p < T.length by omega)]; rfl
        rw [List.map_singleton]
        congr 1
        refine sub_at ?_
        rw [e, List.append_assoc, List.getElem?_append_right (by omega), lm, show mP ps tx p + (lks tx p).length - mP ps tx p = (lks tx p).length by omega, epc, hq, ht, List.append_assoc, List.getElem?_append_right (Nat.le_refl _)]
        simp
      · rfl
    show (ldP a st lk ps tx p ++ ldB a st lk ps tx p).map _ = _
    rw [List.map_append, ih]
    unfold ldB
    rw [List.map_append, blk_map, hn, ho, sub_ws (sgn_l hk p)]
    cases a with
    | true =>
      simp only [if_true]
      rw [Bool.and_comm]; rfl
    | false =>
      simp only [Bool.false_eq_true, if_false]; rfl
theorem cb_cong {n : Nat} {X Y : List It} (h : ∀ F come past, cbGo n X F come past = cbGo n Y F come past) : ∀ (A : List It) F come past, cbGo n (A ++ X) F come past = cbGo n (A ++ Y) F come past
  | [], F, come, past => h F come past
  | .tx w :: r, F, come, past => cb_cong h r F (come ++ w) past
  | .pl p :: r, F, come, past => cb_cong h r (gr3 n F come past p) [] (p + 1)
theorem dcI_pI (q : Nat) : dcI (bs + q) = .pl q := by
  unfold dcI
  rw [if_neg (by omega), show bs + q - bs = q by omega]
theorem dec_rg (m k : Nat) : dec (List.range' (bs + m) k) = (List.range' m k).map .pl := by
  unfold dec
  refine List.ext_getElem (by simp) fun i h1 h2 => ?_
  rw [List.getElem_map, List.getElem_map, List.getElem_range', List.getElem_range', show bs + m + 1 * i = bs + (m + 1 * i) by omega, dcI_pI]
theorem cb_ld {a : Bool} {st : List Bool} {lk : Nat → Option (List Nat)} {ps : List Bool} {tx : Nat → Option (List Nat)} {n : Nat} (hk : sgn lk) : ∀ (p : Nat) (r : List It) F come past, cbGo n (ldI a st lk ps tx p ++ r) F come past = cbGo n (dec (ldP a st lk ps tx p) ++ r) F come past
  | 0, r, F, come, past => rfl
  | p + 1, r, F, come, past => by
    have ih := fun r => cb_ld (a := a) (st := st) (lk := lk) (ps := ps) (tx := tx) (n := n) hk p r
    have own : ∀ r F come past, cbGo n (ownI lk p ++ r) F come past = cbGo n (dec (lks lk p) ++ r) F come past := fun r F come past => by
      have hc := sgn_l hk p
      rw [dec_tx hc]
      unfold lks at hc ⊢
      unfold ownI
      cases e : lk p with
      | none => rfl
      | some w => exact (cb_tx w come).symm
    have old : dec (if stB ps p && stB st p then [bs + (mP ps tx p + (lks tx p).length)] else []) = oldI st ps tx p := by
      unfold oldI
      split
      · show [dcI _] = _
        rw [dcI_pI]
      · rfl
    have bk : ∀ r F come past, cbGo n ((blI a (ownI lk p) (nmI ps tx p) ++ oldI st ps tx p) ++ r) F come past = cbGo n (dec (ldB a st lk ps tx p) ++ r) F come past := fun r F come past => by
      unfold ldB blk blI
      rw [dec_app, old, List.append_assoc, List.append_assoc]
      cases a with
      | true =>
        simp only [if_true]
        rw [dec_app, dec_rg, List.append_assoc, List.append_assoc]
        exact own _ F come past
      | false =>
        simp only [Bool.false_eq_true, if_false]
        rw [dec_app, dec_rg, List.append_assoc, List.append_assoc]
        exact cb_cong (own _) _ F come past
    show cbGo n ((ldI a st lk ps tx p ++ (blI a (ownI lk p) (nmI ps tx p) ++ oldI st ps tx p)) ++ r) F come past = cbGo n (dec (ldP a st lk ps tx p ++ ldB a st lk ps tx p) ++ r) F come past
    generalize hX : blI a (ownI lk p) (nmI ps tx p) ++ oldI st ps tx p = X at bk ⊢
    rw [List.append_assoc, ih, dec_app, List.append_assoc]
    exact cb_cong (bk r) _ F come past
theorem itOk_run : ∀ (m p : Nat) (r : List It), itOk (p + m) r → itOk p ((List.range' p m).map .pl ++ r)
  | 0, p, r, h => h
  | m + 1, p, r, h => by
    rw [List.range'_succ, List.map_cons, List.cons_append]
    refine ⟨Nat.le_refl _, itOk_run m (p + 1) r ?_⟩
    rw [show p + 1 + m = p + (m + 1) by omega]; exact h
theorem itOk_le : ∀ (r : List It) {p q : Nat}, p ≤ q → itOk q r → itOk p r
  | [], _, _, _, _ => trivial
  | .tx w :: r, _, _, h, o => ⟨o.1, itOk_le r h o.2⟩
  | .pl x :: r, _, _, h, o => ⟨Nat.le_trans h o.1, o.2⟩
def lkC (lk : Nat → Option (List Nat)) : Prop := ∀ p w, lk p = some w → cOk w = true
theorem ldI_ok {a : Bool} {st : List Bool} {lk : Nat → Option (List Nat)} {ps : List Bool} {tx : Nat → Option (List Nat)} (hk : lkC lk) : ∀ (p : Nat) (r : List It), itOk (mP ps tx p) r → itOk 0 (ldI a st lk ps tx p ++ r)
  | 0, r, h => h
  | p + 1, r, h => by
    have own : ∀ {q : Nat} {r : List It}, itOk q r → itOk q (ownI lk p ++ r) := fun {q r} h => by
      unfold ownI
      cases e : lk p with
      | none => exact h
      | some w => exact ⟨hk p w e, h⟩
    have h : itOk (mP ps tx p + (lks tx p).length + one01 (stB ps p)) r := h
    have h1 : itOk (mP ps tx p + (lks tx p).length) (oldI st ps tx p ++ r) := by
      unfold oldI
      split
      · rename_i hb
        rw [Bool.and_eq_true] at hb
        rw [hb.1] at h
        exact ⟨Nat.le_refl _, h⟩
      · exact itOk_le r (by omega) h
    show itOk 0 ((ldI a st lk ps tx p ++ (blI a (ownI lk p) (nmI ps tx p) ++ oldI st ps tx p)) ++ r)
    rw [List.append_assoc]
    refine ldI_ok hk p _ ?_
    rw [List.append_assoc]
    unfold blI
    cases a with
    | true =>
      simp only [if_true]
      rw [List.append_assoc]
      exact own (itOk_run _ _ _ h1)
    | false =>
      simp only [Bool.false_eq_true, if_false]
      rw [List.append_assoc]
      exact itOk_run _ _ _ (own h1)
end K04
namespace K04
open PySem DI
def CbJ (H0 : HH) (j n : Nat) (N : Int) (res : List Pt) (xs : List D) (s : Sd) (H1 : HH) : Prop := ∃ (r : List It) (F : List Pt) (come : List Nat) (past : Nat) (x5 : Option D), xs = itsD r ∧ H1 = H0 ++ [.lst (ptsD F)] ∧ cbGo n r F come past = res ∧ itOk past r ∧ (∀ x ∈ F, x.co) ∧ cOk come = true ∧ txs F + come.length + txI r ≤ 100000 ∧ F.length + 3 * r.length ≤ 1000000 ∧
  s = [some (.int N), some (.ref j), some (.ref H0.length), some (.str come), some (.int (past : Nat)), x5]
theorem set_last (H0 : HH) (x y : HD) : (H0 ++ [x]).set H0.length y = H0 ++ [y] := by simp
theorem cbC {k j : Nat} {H : HH} {n : Nat} {N : Int} {its : List It} {Q : D → HH → Prop} (hN : N = (n : Nat)) (ho : itOk 0 (its ++ [.pl n])) (hl : its.length ≤ 300000) (ht : txI (its ++ [.pl n]) ≤ 100000) (hj : H[j]? = some (.lst (itsD its))) (q : ∀ H', Q (.tup (ptsD (cb n its))) H') :
    (callD (cfP Pg (k + 2)) 7 [0, 1] [.int N, .ref j] [] H).wp Q := by
  refine callC (P := Pg) (fd := f7) rfl (l := [.int N, .ref j]) rfl ?_
  refine run_k rfl ?_
  have ls : binD .Add (.lv (itsD its)) (.lv [.int N]) = some (.lv (itsD (its ++ [.pl n]))) := by
    have e : itsD (its ++ [.pl n]) = itsD its ++ [.int N] := by rw [hN]; simp [itsD, It.d]
    rw [e]
    exact if_pos (by show _ ≤ 16777216; simp [itsD]; omega)
  have vj : ∀ L, viewD (H ++ L) (.ref j) = .lv (itsD its) := fun L => v_ref (get_add hj L)
  simp [-b_cat, f7, b7, startD, N7, ls, vj]
  refine ⟨by decide, ?_⟩
  refine for_wp (I := CbJ H j n N (cb n its)) ?_ ?_ _ _ _ ⟨its ++ [.pl n], [], [], 0, none, rfl, rfl, rfl, ho, by simp, rfl, by simpa [txs] using ht, by simp; omega, rfl⟩
  · rintro y ys s H1 ⟨r, F, come, past, x5, hx, rfl, hg, ok, fc, cc, tb, lb, rfl⟩
    cases r with
    | nil => cases hx
    | cons i r =>
      cases hx
      refine ⟨rfl, _, a_nm 5 _, ?_⟩
      cases i with
      | tx w =>
        have cw : cOk (come ++ w) = true := by
          have h1 := ok.1
          unfold cOk at h1 cc ⊢
          rw [List.all_append, h1, cc]; rfl
        simp only [txI] at tb
        have ag : ∀ H, augD H .Add (.str come) (.str w) = some (.str (come ++ w)) := fun H => if_pos (by show _ ≤ 16777216; omega)
        simp [It.d, tyIs, ag]
        exact ⟨r, F, come ++ w, past, _, rfl, rfl, hg, ok.2, fc, cw, by simp; omega, by simp at lb; omega, rfl⟩
      | pl p =>
        obtain ⟨k1, k2⟩ := ok
        simp only [txI] at tb
        simp only [List.length_cons] at lb
        have lb' : F.length + 3 * r.length + 3 ≤ 1000000 := by omega
        have t1 := txs_grP F (.pu come)
        have t2 := txs_grP (grP F (.pu come)) (.dr (p - past))
        have t3 := txs_grP (grP (grP F (.pu come)) (.dr (p - past))) (.kp (if p < n then 1 else 0))
        have l1 := len_grP F (.pu come)
        have l2 := len_grP (grP F (.pu come)) (.dr (p - past))
        have l3 := len_grP (grP (grP F (.pu come)) (.dr (p - past))) (.kp (if p < n then 1 else 0))
        have c1 := co_grP fc (p := .pu come) cc
        have c2 := co_grP c1 (p := .dr (p - past)) trivial
        have c3 := co_grP c2 (p := .kp (if p < n then 1 else 0)) trivial
        simp only [txs] at t1 t2 t3
        have s0 := sg_of fc (by omega)
        have s1 := sg_of c1 (by omega)
        have s2 := sg_of c2 (by omega)
        have gl : ∀ F : List Pt, (H ++ [HD.lst (ptsD F)])[H.length]? = some (.lst (ptsD F)) := fun F => by simp
        simp [It.d, tyIs]
        refine grownK (p := .pu come) (q := H.length) (F := F) (gl F) s0 ⟨cc, by omega⟩ (by omega) ?_
        rw [set_last]
        simp
        have es : ((p : Int) - (past : Nat)) = ((p - past : Nat) : Int) := by omega
        rw [es]
        refine grownK (p := .dr (p - past)) (q := H.length) (F := grP F (.pu come)) (gl _) s1 trivial (by omega) ?_
        rw [set_last]
        have ib : biD .int [.bl (decide ((p : Int) < N))] = some (.int ((if p < n then 1 else 0 : Nat) : Int)) := by
          show some (D.int (if decide ((p : Int) < N) then 1 else 0)) = _
          by_cases h : p < n
          · have h' : (p : Int) < N := by omega
            simp [h, h']
          · have h' : ¬ (p : Int) < N := by omega
            simp [h, h']
        simp [ib]
        refine grownK (p := .kp (if p < n then 1 else 0)) (q := H.length) (F := grP (grP F (.pu come)) (.dr (p - past))) (gl _) s2 trivial (by omega) ?_
        rw [set_last]
        simp
        exact ⟨r, gr3 n F come past p, [], p + 1, some (.int (p : Nat)), rfl, rfl, hg, k2, c3, rfl, by show txs (grP _ _) + _ + _ ≤ _; simp; omega, by show (grP _ _).length + _ ≤ _; omega, by simp⟩
  · rintro s H1 ⟨r, F, come, past, x5, hx, rfl, hg, ok, fc, cc, tb, lb, rfl⟩
    cases r with
    | cons i r => cases hx
    | nil =>
      have hg : F = cb n its := hg
      subst hg
      have lv : viewD (H ++ [.lst (ptsD (cb n its))]) (.ref H.length) = .lv (ptsD (cb n its)) := v_ref (by simp)
      have tu : ∀ L, biD .tuple [.lv L] = some (.tup L) := fun _ => rfl
      simp [lv, tu]
      exact q _
theorem rg_its (a m : Nat) : (List.range m).map (fun (k : Nat) => D.int ((a : Nat) + (k : Nat) : Int)) = itsD ((List.range' a m).map .pl) := by
  rw [List.range'_eq_map_range]
  unfold itsD
  rw [List.map_map, List.map_map]
  refine List.map_congr_left fun k _ => ?_
  simp [It.d]
theorem ldI_len (a : Bool) (st : List Bool) (lk : Nat → Option (List Nat)) (ps : List Bool) (tx : Nat → Option (List Nat)) : ∀ p, (ldI a st lk ps tx p).length ≤ p + mP ps tx p
  | 0 => Nat.zero_le _
  | p + 1 => by
    have ih := ldI_len a st lk ps tx p
    have h1 : (ownI lk p).length ≤ 1 := by unfold ownI; split <;> simp
    have h2 : (nmI ps tx p).length = (lks tx p).length := by simp [nmI]
    have h3 : (oldI st ps tx p).length ≤ one01 (stB ps p) := by
      unfold oldI
      split
      · rename_i hb
        rw [Bool.and_eq_true] at hb
        rw [hb.1]; simp [one01]
      · simp
    have h4 : (blI a (ownI lk p) (nmI ps tx p)).length = (ownI lk p).length + (nmI ps tx p).length := by unfold blI; split <;> rw [List.length_append] <;> omega
    show (ldI a st lk ps tx p ++ (blI a (ownI lk p) (nmI ps tx p) ++ oldI st ps tx p)).length ≤ p + 1 + (mP ps tx p + (lks tx p).length + one01 (stB ps p))
    rw [List.length_append, List.length_append, h4]
    omega
theorem ldP_len (a : Bool) (st : List Bool) (lk : Nat → Option (List Nat)) (ps : List Bool) (tx : Nat → Option (List Nat)) : ∀ p, (ldP a st lk ps tx p).length ≤ mP st lk p + mP ps tx p
  | 0 => Nat.zero_le _
  | p + 1 => by
    have ih := ldP_len a st lk ps tx p
    have h1 : (blk a (lks lk p) (List.range' (bs + mP ps tx p) (lks tx p).length)).length = (lks lk p).length + (lks tx p).length := by
      unfold blk; split <;> rw [List.length_append, List.length_range'] <;> omega
    have h3 : (if stB ps p && stB st p then [bs + (mP ps tx p + (lks tx p).length)] else []).length ≤ one01 (stB ps p) := by
      split
      · rename_i hb
        rw [Bool.and_eq_true] at hb
        rw [hb.1]; simp [one01]
      · simp
    show (ldP a st lk ps tx p ++ (blk a (lks lk p) (List.range' (bs + mP ps tx p) (lks tx p).length) ++ _)).length ≤ mP st lk p + (lks lk p).length + one01 (stB st p) + (mP ps tx p + (lks tx p).length + one01 (stB ps p))
    rw [List.length_append, List.length_append, h1]
    omega
theorem txI_app : ∀ a b : List It, txI (a ++ b) = txI a + txI b
  | [], b => by simp [txI]
  | .tx w :: r, b => by simp [txI, txI_app r b]; omega
  | .pl p :: r, b => by simp [txI, txI_app r b]
theorem txI_pl (l : List Nat) : txI (l.map .pl) = 0 := by
  induction l with
  | nil => rfl
  | cons x r ih => exact ih
theorem ldI_tx (a : Bool) (st : List Bool) (lk : Nat → Option (List Nat)) (ps : List Bool) (tx : Nat → Option (List Nat)) : ∀ p, txI (ldI a st lk ps tx p) ≤ mP st lk p
  | 0 => Nat.zero_le _
  | p + 1 => by
    have ih := ldI_tx a st lk ps tx p
    have h1 : txI (ownI lk p) = (lks lk p).length := by
      unfold ownI lks
      cases lk p <;> simp [txI]
    have h2 : txI (nmI ps tx p) = 0 := txI_pl _
    have h3 : txI (oldI st ps tx p) = 0 := by unfold oldI; split <;> rfl
    have h4 : txI (blI a (ownI lk p) (nmI ps tx p)) = txI (ownI lk p) + txI (nmI ps tx p) := by unfold blI; split <;> rw [txI_app] <;> omega
    show txI (ldI a st lk ps tx p ++ (blI a (ownI lk p) (nmI ps tx p) ++ oldI st ps tx p)) ≤ mP st lk p + (lks lk p).length + one01 (stB st p)
    rw [txI_app, txI_app, h4]
    omega
def ledF (a : Bool) (P R : List Pt) : List Pt := dueF (mks R) (ldP a (stF P) (look (kvF P 0)) (stF R) (look (kvF R 0)) (want P + 1))
theorem kv_sgn {P : List Pt} (ho : ∀ p ∈ P, p.ok) : sgn (look (kvF P 0)) := fun p w h => ok_sg ho w (kvF_mem (look_mem h))
theorem kv_C {P : List Pt} (ho : ∀ p ∈ P, p.ok) : lkC (look (kvF P 0)) := fun p w h => (ho _ (kvF_mem (look_mem h))).2.2
theorem mP_mks {P : List Pt} (v : Vd P) : mP (stF P) (look (kvF P 0)) (want P + 1) = mks P := by
  have h := ms_mP (T := cod (want P)) (ps := stF P) (tx := look (kvF P 0)) (by rw [stF_len, cod_len]; exact Nat.le_refl _) (want P + 1)
  rw [← h, spA v.ad v.ok]
  exact mk_len P
def LdI (a : Bool) (x0 x1 : Option D) (n : Nat) (st : List Bool) (kv : List (Nat × List Nat)) (ps : List Bool) (kv2 : List (Nat × List Nat)) (xs : List D) (s : Sd) (H : HH) : Prop := ∃ (p m : Nat) (J : Int) (x5 x10 x11 x12 : Option D), xs = rng p m ∧ p + m = n + 1 ∧ J = (mP ps (look kv2) p : Nat) ∧
  H = [.lst (bls st), .dic (kD kv) (vD kv), .lst (bls ps), .dic (kD kv2) (vD kv2), .lst (itsD (ldI a st (look kv) ps (look kv2) p))] ∧
  s = [x0, x1, some (.bl a), some (.ref 4), some (.int J), x5, some (.ref 0), some (.ref 1), some (.ref 2), some (.ref 3), x10, x11, x12]
theorem ledK {k : Nat} {H : HH} {kw : List Nat} {dl zs : List D} {P R : List Pt} {a : Bool} {Q : D → HH → Prop} (hp : permL (dl ++ zs ++ f11.dfl) kw = some [.tup (ptsD P), .tup (ptsD R), .bl a]) (vP : Vd P) (vR : Vd R) (hw : want P = want R) (hP : mks P ≤ 30000) (hR : mks R ≤ 30000) (q : Q (.tup (ptsD (ledF a P R))) H) : (pcallE (cfP Pg (k + 4)) 11 kw dl zs H).wp Q := by
  have p1 := vP.len
  have p2 := vP.wt
  have p3 := vP.mm
  have r1 := vR.len
  have r2 := vR.wt
  refine pureC (P := Pg) (fd := f11) rfl (l := [.tup (ptsD P), .tup (ptsD R), .bl a]) hp (by simp only [noRefs, noRef, pts_nr]; rfl) ?_
  refine run_k rfl ?_
  simp [f11, b11, startD, N11]
  refine spK vP.ok vP.ad (by omega) (by omega) ?_
  simp
  refine spK vR.ok vR.ad (by omega) (by omega) ?_
  have sl := stF_len P
  have sl2 := stF_len R
  have mm := mP_mks vR
  have mm1 := mP_mks vP
  have sg1 := kv_sgn vP.ok
  have c1 := kv_C vP.ok
  have lw : ∀ p w, look (kvF R 0) p = some w → biD .len [.str w] = some (.int (w.length : Nat)) := fun p w hw => by
    have : w.length ≤ 100000 := (vR.ok _ (kvF_mem (look_mem hw))).2.1
    exact len_str (by omega)
  have hF : ledF a P R = dueF (mks R) (ldP a (stF P) (look (kvF P 0)) (stF R) (look (kvF R 0)) (want P + 1)) := rfl
  rw [hF] at q
  generalize stF P = st at *
  generalize kvF P 0 = kv at *
  generalize stF R = ps at *
  generalize kvF R 0 = kv2 at *
  generalize hn : want P = n at *
  obtain ⟨N, hN⟩ : ∃ N : Int, N = ((n : Nat) : Int) := ⟨_, rfl⟩
  have ln : biD .len [.lv (bls st)] = some (.int N) := by rw [len_lv, hN, ← sl]; simp [bls]
  have v0 : ∀ X Y Z L, viewD [.lst (bls st), X, Y, Z, L] (.ref 0) = .lv (bls st) := fun _ _ _ _ => rfl
  have v1 : ∀ X Y Z L, viewD [X, .dic (kD kv) (vD kv), Y, Z, L] (.ref 1) = .dv (kD kv) (vD kv) := fun _ _ _ _ => rfl
  have v2 : ∀ X Y Z L, viewD [X, Y, .lst (bls ps), Z, L] (.ref 2) = .lv (bls ps) := fun _ _ _ _ => rfl
  have v3 : ∀ X Y Z L, viewD [X, Y, Z, .dic (kD kv2) (vD kv2), L] (.ref 3) = .dv (kD kv2) (vD kv2) := fun _ _ _ _ => rfl
  simp [v0, ln]
  rw [range1 (by omega) (by omega), rng_eq, show (N + 1).toNat = n + 1 by omega]
  simp
  refine for_wp (I := LdI a (some (.tup (ptsD P))) (some (.tup (ptsD R))) n st kv ps kv2) ?_ ?_ _ _ _ ⟨0, n + 1, 0, none, none, none, none, rfl, by omega, rfl, rfl, rfl⟩
  · rintro y ys s H1 ⟨p, m, J, x5, x10, x11, x12, hx, hpm, hJ, rfl, rfl⟩
    cases m with
    | zero => cases hx
    | succ m =>
      rw [rng_succ] at hx
      cases hx
      refine ⟨rfl, _, a_nm 5 _, ?_⟩
      have dg := dget_kv p kv
      have dg2 := dget_kv p kv2
      have lz : biD .len [.str []] = some (.int 0) := rfl
      have mo := mP_mono ps (look kv2) (show p + 1 ≤ n + 1 by omega)
      rw [show want R = n by omega] at mm
      rw [mm] at mo
      have mo1 : mP ps (look kv2) p + (lks (look kv2) p).length + one01 (stB ps p) ≤ mks R := mo
      obtain ⟨K, hK⟩ : ∃ K : Int, K = (((lks (look kv2) p).length : Nat) : Int) := ⟨_, rfl⟩
      have lo : (dgetL (kD kv2) (vD kv2) (.int (p : Nat))).getD (.str []) = .str (lks (look kv2) p) := by
        rw [dg2]
        unfold lks
        cases look kv2 p <;> rfl
      have lk2 : biD .len [.str (lks (look kv2) p)] = some (.int K) := by
        rw [hK]
        unfold lks
        cases e : look kv2 p with
        | none => rfl
        | some w => exact lw p w e
      have nl : (itsD (nmI ps (look kv2) p)).length = (lks (look kv2) p).length := by simp [nmI, itsD]
      have lg : lrgD [.int J, .int (J + K)] = some (.lv (itsD (nmI ps (look kv2) p))) := by
        rw [lrg_two (by omega) (by omega) (by omega) (by omega), show (J + K - J).toNat = (lks (look kv2) p).length by omega, hJ, rg_its]; rfl
      have ol : (itsD (ownI (look kv) p)).length ≤ 1 := by unfold ownI itsD; cases look kv p <;> simp
      have i1 := ldI_len a st (look kv) ps (look kv2) p
      have sz1 : (itsD (ownI (look kv) p)).length + (itsD (nmI ps (look kv2) p)).length ≤ lim := by show _ ≤ 16777216; omega
      have sz2 : (itsD (nmI ps (look kv2) p)).length + (itsD (ownI (look kv) p)).length ≤ lim := by show _ ≤ 16777216; omega
      have bb : ∀ (Q : D → HH → Prop) (H : HH), Q (.lv (itsD (blI a (ownI (look kv) p) (nmI ps (look kv2) p)))) H → (evE (cfP Pg (k + 3)) (.ite (.loc 2) (.bin .Add (.loc 11) (.loc 10)) (.bin .Add (.loc 10) (.loc 11))) [some (.tup (ptsD P)), some (.tup (ptsD R)), some (.bl a), some (.ref 4), some (.int J), some (.int (p : Nat)), some (.ref 0), some (.ref 1), some (.ref 2), some (.ref 3), some (.lv (itsD (nmI ps (look kv2) p))), some (.lv (itsD (ownI (look kv) p))), some (.int K)] H).wp Q := fun Q H hQ => by
        unfold blI at hQ
        cases a with
        | true =>
          simp only [if_true] at hQ
          simp [sz1]
          simpa [itsD] using hQ
        | false =>
          simp only [Bool.false_eq_true, if_false] at hQ
          simp [sz2]
          simpa [itsD] using hQ
      have bl : (blI a (ownI (look kv) p) (nmI ps (look kv2) p)).length ≤ 1 + (lks (look kv2) p).length := by
        have e1 : (ownI (look kv) p).length ≤ 1 := by simpa [itsD] using ol
        have e2 : (nmI ps (look kv2) p).length = (lks (look kv2) p).length := by simpa [itsD] using nl
        unfold blI; split <;> rw [List.length_append] <;> omega
      have g4 : ∀ ys : List D, [HD.lst (bls st), HD.dic (kD kv) (vD kv), HD.lst (bls ps), HD.dic (kD kv2) (vD kv2), HD.lst ys][4]? = some (.lst ys) := fun _ => rfl
      have ex1 := ext_ok (zs := itsD (blI a (ownI (look kv) p) (nmI ps (look kv2) p))) (g4 (itsD (ldI a st (look kv) ps (look kv2) p))) (by simp only [itsD, List.length_map]; omega)
      rw [← show itsD (ldI a st (look kv) ps (look kv2) p ++ blI a (ownI (look kv) p) (nmI ps (look kv2) p)) = itsD (ldI a st (look kv) ps (look kv2) p) ++ itsD (blI a (ownI (look kv) p) (nmI ps (look kv2) p)) from by simp [itsD]] at ex1
      have par : ∀ (F : Fl → HH → Prop) (H : HH), viewD H (.ref 1) = .dv (kD kv) (vD kv) → viewD H (.ref 3) = .dv (kD kv2) (vD kv2) → F (.nx [some (.tup (ptsD P)), some (.tup (ptsD R)), some (.bl a), some (.ref 4), some (.int J), some (.int (p : Nat)), some (.ref 0), some (.ref 1), some (.ref 2), some (.ref 3), x10, some (.lv (itsD (ownI (look kv) p))), some (.int K)]) H →
          (evS (cfP Pg (k + 3)) (.par 11 12 (.ite (.din (.loc 5) (.loc 7)) (.lst (.cons (.dget (.loc 7) (.loc 5)) .nil)) (.lst .nil)) (.bi .len (.cons (.dget2 (.loc 9) (.loc 5) (.cst (.str []))) .nil))) [some (.tup (ptsD P)), some (.tup (ptsD R)), some (.bl a), some (.ref 4), some (.int J), some (.int (p : Nat)), some (.ref 0), some (.ref 1), some (.ref 2), some (.ref 3), x10, x11, x12] H).wp F := fun F H h1 h3 hF => by
        unfold ownI at hF
        cases hk : look kv p with
        | none =>
          rw [hk] at dg hF
          simp [h1, h3, dg, lo, lk2]
          exact hF
        | some w =>
          rw [hk] at dg hF
          simp [h1, h3, dg, lo, lk2]
          exact ⟨by decide, hF⟩
      simp [-z_par]
      refine par _ _ rfl rfl ?_
      simp [-w_ite, lg]
      refine ⟨rfl, bb _ _ ?_⟩
      have ag : ∀ H, augD H .Add (.int J) (.int K) = some (.int (J + K)) := fun _ => rfl
      simp [ex1, ag]
      generalize hX : ldI a st (look kv) ps (look kv2) p ++ blI a (ownI (look kv) p) (nmI ps (look kv2) p) = X
      have nxt : ∀ (J' : Int) (Y : List It), J' = (mP ps (look kv2) (p + 1) : Nat) → Y = ldI a st (look kv) ps (look kv2) (p + 1) → LdI a (some (.tup (ptsD P))) (some (.tup (ptsD R))) n st kv ps kv2 (rng (p + 1) m) [some (.tup (ptsD P)), some (.tup (ptsD R)), some (.bl a), some (.ref 4), some (.int J'), some (.int (p : Nat)), some (.ref 0), some (.ref 1), some (.ref 2), some (.ref 3), some (.lv (itsD (nmI ps (look kv2) p))), some (.lv (itsD (ownI (look kv) p))), some (.int K)] [.lst (bls st), .dic (kD kv) (vD kv), .lst (bls ps), .dic (kD kv2) (vD kv2), .lst (itsD Y)] := fun J' Y h1 h2 =>
        ⟨p + 1, m, J', _, _, _, _, rfl, by omega, h1, by rw [h2], rfl⟩
      have fin : ldI a st (look kv) ps (look kv2) (p + 1) = X ++ oldI st ps (look kv2) p := by
        rw [← hX, List.append_assoc]; rfl
      have mst : mP ps (look kv2) (p + 1) = mP ps (look kv2) p + (lks (look kv2) p).length + one01 (stB ps p) := rfl
      have xl : X.length ≤ 200000 := by rw [← hX, List.length_append]; omega
      by_cases hpn : p < n
      · have c1 : ((p : Nat) : Int) < N := by omega
        have hb : ps[p]? = some (ps[p]'(by omega)) := List.getElem?_eq_getElem (by omega)
        have hs : st[p]? = some (st[p]'(by omega)) := List.getElem?_eq_getElem (by omega)
        generalize ps[p]'(by omega) = b at hb
        generalize st[p]'(by omega) = b2 at hs
        have e1 := bls_at (st := ps) (i := ((p : Nat) : Int)) rfl hb
        have e2 := bls_at (st := st) (i := ((p : Nat) : Int)) rfl hs
        have sb : stB ps p = b := by unfold stB; rw [hb]; cases b <;> rfl
        have sb2 : stB st p = b2 := by unfold stB; rw [hs]; cases b2 <;> rfl
        rw [sb] at mst
        unfold oldI at fin
        rw [sb, sb2] at fin
        cases b with
        | false =>
          simp [v0, ln, c1, v2, e1]
          exact nxt _ _ (by simp [one01] at mst; omega) (by rw [fin]; simp)
        | true =>
          cases b2 with
          | false =>
            simp [v0, ln, c1, v2, e1, e2]
            exact nxt _ _ (by simp [one01] at mst; omega) (by rw [fin]; simp)
          | true =>
            have ap := app_ok (d := .int (J + K)) (g4 (itsD X)) (by show _ < 16777216; simp [itsD]; omega)
            rw [show itsD X ++ [.int (J + K)] = itsD (X ++ [.pl (mP ps (look kv2) p + (lks (look kv2) p).length)]) from by rw [hJ, hK]; simp [itsD, It.d]] at ap
            simp [v0, ln, c1, v2, e1, e2, ap]
            refine ⟨rfl, ?_⟩
            have ag1 : ∀ H, augD H .Add (.int (J + K)) (.int 1) = some (.int (J + K + 1)) := fun _ => rfl
            simp [ag1]
            exact nxt _ _ (by simp [one01] at mst; omega) (by rw [fin]; simp)
      · have c1 : ¬ ((p : Nat) : Int) < N := by omega
        have hb : ps[p]? = none := List.getElem?_eq_none (by omega)
        have sb : stB ps p = false := by unfold stB; rw [hb]; rfl
        rw [sb] at mst
        unfold oldI at fin
        rw [sb] at fin
        simp [v0, ln, c1]
        exact nxt _ _ (by simp [one01] at mst; omega) (by rw [fin]; simp)
  · rintro s H1 ⟨p, m, J, x5, x10, x11, x12, hx, hpm, hJ, rfl, rfl⟩
    cases m with
    | succ m => rw [rng_succ] at hx; cases hx
    | zero =>
      obtain rfl : p = n + 1 := by omega
      rw [show want R = n by omega] at mm
      rw [mm] at hJ
      have i1 := ldI_len a st (look kv) ps (look kv2) (n + 1)
      have i2 := ldI_tx a st (look kv) ps (look kv2) (n + 1)
      simp
      refine cbC (n := mks R) (its := ldI a st (look kv) ps (look kv2) (n + 1)) hJ (ldI_ok c1 (n + 1) _ (by rw [mm]; exact ⟨Nat.le_refl _, trivial⟩)) (by omega) (by rw [txI_app]; simp [txI]; omega) rfl fun H' => ?_
      have gd := ldP_good (a := a) (st := st) (lk := look kv) (ps := ps) (tx := look kv2) sg1 (n + 1)
      rw [mm] at gd
      have e1 : cb (mks R) (ldI a st (look kv) ps (look kv2) (n + 1)) = dueF (mks R) (ldP a st (look kv) ps (look kv2) (n + 1)) := by
        rw [← cb_due (by omega) (good_gd gd) (by have := ldP_len a st (look kv) ps (look kv2) (n + 1); omega)]
        exact cb_ld sg1 (n + 1) _ _ _ _
      rw [e1]
      simp
      exact ⟨by simp only [noRef, pts_nr], q⟩
end K04
namespace K04
open PySem DI
theorem besideK {k : Nat} {H : HH} {P R : List Pt} {Q : D → HH → Prop} (vP : Vd P) (vR : Vd R) (hw : want P = want R) (hP : mks P ≤ 30000) (hR : mks R ≤ 30000) (q : Q (.tup [.tup (ptsD (ledF false R P)), .tup (ptsD (ledF true P R))]) H) : (pcallE (cfP Pg (k + 5)) 12 [0, 1] [.tup (ptsD P), .tup (ptsD R)] [] H).wp Q := by
  have p1 := vP.len
  have r1 := vR.len
  refine pureC (P := Pg) (fd := f12) rfl (l := [.tup (ptsD P), .tup (ptsD R)]) rfl (by simp only [noRefs, noRef, pts_nr]; rfl) ?_
  refine run_k rfl ?_
  simp [f12, b12, startD, N12]
  refine wantP (by omega) ?_
  simp
  refine wantP (by omega) ?_
  rw [hw]
  simp
  refine ledK rfl vR vP hw.symm hR hP ?_
  simp
  refine ledK rfl vP vR hw hP hR ?_
  simp
  exact ⟨by decide, by simp only [noRef, noRefs, pts_nr]; rfl, q⟩
theorem besideX {k : Nat} {H : HH} {P R : List Pt} {Q : D → HH → Prop} {X : XV → HH → Prop} (lP : P.length ≤ 90000) (lR : R.length ≤ 90000) (hw : want P ≠ want R) (q : X ⟨.own 0, some (.int (want R : Nat))⟩ H) : (pcallE (cfP Pg (k + 5)) 12 [0, 1] [.tup (ptsD P), .tup (ptsD R)] [] H).wpx Q X := by
  refine pcallE_wpx (l := [.tup (ptsD P), .tup (ptsD R)]) (by rw [dflP (P := Pg) (fd := f12) rfl]; rfl) (by simp only [noRefs, noRef, pts_nr]; rfl) ?_
  rw [show (cfP Pg (k + 5)).call = callN Pg (k + 5) from rfl, stepP (P := Pg) (fd := f12) rfl]
  refine run_wpx rfl ?_
  refine swpx_cons (swpx_ite ?_)
  simp [f12, startD, N12]
  refine wantP (by omega) ?_
  simp
  refine wantP (by omega) ?_
  have e : ((want P : Int) == (want R : Nat)) = false := by simp; omega
  simp [e]
  refine swpx_cons (swpx_rz ?_)
  simp
  refine wantP (by omega) ?_
  exact ⟨by simp [noRef], q⟩
theorem refusedB {k : Nat} {H : HH} {P R : List Pt} {Q : D → HH → Prop} (lP : P.length ≤ 90000) (lR : R.length ≤ 90000) (hw : want P ≠ want R) (q : Q (.int (want R : Nat)) H) : (pcallE (cfP Pg (k + 6)) 23 [0, 1] [.tup (ptsD P), .tup (ptsD R)] [] H).wp Q := by
  refine pureC (P := Pg) (fd := f23) rfl (l := [.tup (ptsD P), .tup (ptsD R)]) rfl (by simp only [noRefs, noRef, pts_nr]; rfl) ?_
  refine run_k rfl ?_
  simp only [f23, b23, startD, N23, ss_cons]
  refine swp_try ?_
  refine swpx_cons (swpx_ex (w_pcallx ?_))
  simp
  refine besideX lP lR hw ?_
  refine tryH_wp (by simp) ?_
  simp [kUn]
  exact ⟨by simp [noRef], q⟩
end K04
namespace K04
open PySem DI
inductive X where | one (c : Nat) | oth (c : Nat) | old (p : Nat)
  deriving DecidableEq
def tOne : List Nat := [111, 110, 101]
def tOth : List Nat := [111, 116, 104, 101, 114]
def tOld : List Nat := [111, 108, 100]
def X.d : X → D
  | .one c => .tup [.str tOne, .str [c]]
  | .oth c => .tup [.str tOth, .str [c]]
  | .old p => .tup [.str tOld, .int (p : Nat)]
def X.code : X → Nat
  | .one c => c
  | .oth c => c
  | .old _ => 0
def X.isOld : X → Bool
  | .old _ => true
  | _ => false
def tg (w : Bool) (c : Nat) : X := if w then .oth c else .one c
def tgT (w : Bool) : List Nat := if w then tOth else tOne
def isW (w : Bool) : X → Bool
  | .one _ => !w
  | .oth _ => w
  | .old _ => true
def boU (n : Nat) (l1 l2 : Nat → Option (List Nat)) : Nat → List X
  | 0 => []
  | p + 1 => boU n l1 l2 p ++ ((lks l1 p).map .one ++ (lks l2 p).map .oth ++ (if p < n then [.old p] else []))
def keepX (s1 s2 : List Bool) : X → Bool
  | .old p => stB s1 p && stB s2 p
  | _ => true
def boR (s1 : List Bool) (l1 : Nat → Option (List Nat)) (s2 : List Bool) (l2 : Nat → Option (List Nat)) : Nat → Nat → List X
  | _, 0 => []
  | p, r + 1 => ((lks l1 p).map .one ++ (lks l2 p).map .oth ++ (if stB s1 p && stB s2 p then [.old p] else [])) ++ boR s1 l1 s2 l2 (p + 1) r
def alX (w : Bool) (s : List Bool) (l : Nat → Option (List Nat)) : Nat → List X
  | 0 => []
  | p + 1 => alX w s l p ++ ((lks l p).map (tg w) ++ (if stB s p then [.old p] else []))
def alR (w : Bool) (s : List Bool) (l : Nat → Option (List Nat)) : Nat → Nat → List X
  | _, 0 => []
  | p, r + 1 => ((lks l p).map (tg w) ++ (if stB s p then [.old p] else [])) ++ alR w s l (p + 1) r
def ldR (a : Bool) (st : List Bool) (lk : Nat → Option (List Nat)) (ps : List Bool) (tx : Nat → Option (List Nat)) : Nat → Nat → List Nat
  | _, 0 => []
  | p, r + 1 => ldB a st lk ps tx p ++ ldR a st lk ps tx (p + 1) r
theorem stB_lt {s : List Bool} {p : Nat} (h : stB s p = true) : p < s.length := (List.getElem?_eq_some_iff.mp (eq_of_beq h)).1
theorem fil_one (s1 s2 : List Bool) (l : List Nat) : (l.map X.one).filter (keepX s1 s2) = l.map X.one := List.filter_eq_self.mpr fun x hx => by
  obtain ⟨c, _, rfl⟩ := List.mem_map.mp hx; rfl
theorem fil_oth (s1 s2 : List Bool) (l : List Nat) : (l.map X.oth).filter (keepX s1 s2) = l.map X.oth := List.filter_eq_self.mpr fun x hx => by
  obtain ⟨c, _, rfl⟩ := List.mem_map.mp hx; rfl
theorem bo_suf {n : Nat} {s1 s2 : List Bool} {l1 l2 : Nat → Option (List Nat)} (h1 : s1.length = n) : ∀ r p, (boU n l1 l2 (p + r)).filter (keepX s1 s2) = (boU n l1 l2 p).filter (keepX s1 s2) ++ boR s1 l1 s2 l2 p r
  | 0, p => by simp [boR]
  | r + 1, p => by
    rw [show p + (r + 1) = (p + 1) + r by omega, bo_suf h1 r (p + 1)]
    show ((boU n l1 l2 p ++ ((lks l1 p).map X.one ++ (lks l2 p).map X.oth ++ (if p < n then [X.old p] else []))).filter (keepX s1 s2)) ++ _ = _ ++ (_ ++ _)
    rw [List.filter_append, List.filter_append, List.filter_append, fil_one, fil_oth, List.append_assoc]
    congr 2
    congr 1
    by_cases hp : p < n
    · rw [if_pos hp, List.filter_cons, List.filter_nil]; rfl
    · rw [if_neg hp, List.filter_nil, if_neg]
      intro z
      rw [Bool.and_eq_true] at z
      have := stB_lt z.1
      omega
theorem al_suf {w : Bool} {s : List Bool} {l : Nat → Option (List Nat)} : ∀ r p, alX w s l (p + r) = alX w s l p ++ alR w s l p r
  | 0, p => by simp [alR]
  | r + 1, p => by
    rw [show p + (r + 1) = (p + 1) + r by omega, al_suf r (p + 1)]
    show (alX w s l p ++ _) ++ _ = _
    rw [List.append_assoc]; rfl
theorem ld_suf {a : Bool} {st : List Bool} {lk : Nat → Option (List Nat)} {ps : List Bool} {tx : Nat → Option (List Nat)} : ∀ r p, ldP a st lk ps tx (p + r) = ldP a st lk ps tx p ++ ldR a st lk ps tx p r
  | 0, p => by simp [ldR]
  | r + 1, p => by
    rw [show p + (r + 1) = (p + 1) + r by omega, ld_suf r (p + 1)]
    show (ldP a st lk ps tx p ++ _) ++ _ = _
    rw [List.append_assoc]; rfl
theorem al_len {w : Bool} {s : List Bool} {l : Nat → Option (List Nat)} : ∀ p, (alX w s l p).length = mP s l p
  | 0 => rfl
  | p + 1 => by
    show (alX w s l p ++ ((lks l p).map (tg w) ++ (if stB s p then [X.old p] else []))).length = mP s l p + (lks l p).length + one01 (stB s p)
    rw [List.length_append, List.length_append, al_len p, List.length_map]
    cases stB s p <;> simp [one01]; omega
/-- the numbers and signs as the law finds them -/
def lgo (A : List X) (w : Bool) : List X → Nat → List Nat
  | [], _ => []
  | x :: r, k => if isW w x then (bs + (k + (A.drop k).idxOf x)) :: lgo A w r (k + (A.drop k).idxOf x + 1) else x.code :: lgo A w r k
def lok (A : List X) (w : Bool) : List X → Nat → Prop
  | [], _ => True
  | x :: r, k => if isW w x then x ∈ A.drop k ∧ lok A w r (k + (A.drop k).idxOf x + 1) else lok A w r k
theorem idx_skip {x : X} {rest : List X} : ∀ {S : List X}, x ∉ S → (S ++ x :: rest).idxOf x = S.length
  | [], _ => by simp [List.idxOf_cons]
  | y :: S, h => by
    rw [List.mem_cons, not_or] at h
    rw [List.cons_append, List.idxOf_cons, idx_skip h.2]
    have : (y == x) = false := by
      rw [beq_eq_false_iff_ne]; exact fun e => h.1 e.symm
    rw [this]; rfl
/-- one found thing -/
theorem lg_hit {A S rest Br : List X} {w : Bool} {x : X} {k : Nat} (hw : isW w x = true) (hA : A.drop k = S ++ x :: rest) (hx : x ∉ S) :
    A.drop (k + S.length + 1) = rest ∧ (lok A w Br (k + S.length + 1) → lok A w (x :: Br) k) ∧ lgo A w (x :: Br) k = (bs + (k + S.length)) :: lgo A w Br (k + S.length + 1) := by
  have hi : (A.drop k).idxOf x = S.length := by rw [hA]; exact idx_skip hx
  refine ⟨?_, fun h => ?_, ?_⟩
  · rw [show k + S.length + 1 = k + (S.length + 1) by omega, ← List.drop_drop, hA]
    simp
  · unfold lok
    rw [if_pos hw, hi]
    exact ⟨by rw [hA]; simp, h⟩
  · rw [lgo, if_pos hw, hi]
def oldS (p : Nat) (S : List X) : Prop := ∀ x ∈ S, ∃ q, q < p ∧ x = .old q
theorem old_no {p : Nat} {S : List X} (h : oldS p S) (w : Bool) (c : Nat) : tg w c ∉ S := fun z => by
  obtain ⟨q, _, e⟩ := h _ z
  unfold tg at e
  split at e <;> cases e
theorem tg_W (w : Bool) (c : Nat) : isW w (tg w c) = true := by cases w <;> rfl
theorem lg_run {A Br : List X} {w : Bool} {p : Nat} : ∀ (ws : List Nat) (k : Nat) (S rest : List X), A.drop k = S ++ (ws.map (tg w) ++ rest) → oldS p S →
    ∃ (k' : Nat) (S' : List X), A.drop k' = S' ++ rest ∧ oldS p S' ∧ k' + S'.length = k + S.length + ws.length ∧ (lok A w Br k' → lok A w (ws.map (tg w) ++ Br) k) ∧ lgo A w (ws.map (tg w) ++ Br) k = List.range' (bs + (k + S.length)) ws.length ++ lgo A w Br k'
  | [], k, S, rest, h, hS => ⟨k, S, h, hS, rfl, id, rfl⟩
  | c :: ws, k, S, rest, h, hS => by
    obtain ⟨a1, a2, a3⟩ := lg_hit (Br := ws.map (tg w) ++ Br) (tg_W w c) h (old_no hS w c)
    obtain ⟨k', S', b1, b2, b3, b4, b5⟩ := lg_run ws (k + S.length + 1) [] rest a1 (fun x hx => by cases hx)
    refine ⟨k', S', b1, b2, ?_, fun z => a2 (b4 z), ?_⟩
    · rw [b3]; simp only [List.length_nil, List.length_cons]; omega
    · show lgo A w (tg w c :: (ws.map (tg w) ++ Br)) k = _
      rw [a3, b5, List.length_cons, List.range'_succ, List.cons_append]
      rfl
theorem lg_no {A Br : List X} {w : Bool} {k : Nat} : ∀ (ws : List Nat), (lok A w Br k → lok A w (ws.map (tg (!w)) ++ Br) k) ∧ lgo A w (ws.map (tg (!w)) ++ Br) k = ws ++ lgo A w Br k
  | [] => ⟨id, rfl⟩
  | c :: ws => by
    obtain ⟨a, b⟩ := lg_no ws
    have hw : isW w (tg (!w) c) = false := by cases w <;> rfl
    have hc : (tg (!w) c).code = c := by cases w <;> rfl
    refine ⟨fun z => ?_, ?_⟩
    · show lok A w (tg (!w) c :: _) k
      unfold lok
      rw [hw]
      exact a z
    · show lgo A w (tg (!w) c :: (ws.map (tg (!w)) ++ Br)) k = _
      rw [lgo, hw, hc, b]; rfl
theorem old_mono {p q : Nat} {S : List X} (h : oldS p S) (hq : p ≤ q) : oldS q S := fun x hx => by
  obtain ⟨i, a, b⟩ := h x hx
  exact ⟨i, by omega, b⟩
/-- the law finds what led finds: w the word: false one, true other -/
theorem lg_all {A : List X} {w : Bool} {s1 s2 : List Bool} {l1 l2 : Nat → Option (List Nat)} {ps st : List Bool} {tx lk : Nat → Option (List Nat)} (hps : ps = if w then s2 else s1) (htx : tx = if w then l2 else l1) (hst : st = if w then s1 else s2) (hlk : lk = if w then l1 else l2) :
    ∀ (r p k : Nat) (S : List X), A.drop k = S ++ alR w ps tx p r → oldS p S → k + S.length = mP ps tx p → lok A w (boR s1 l1 s2 l2 p r) k ∧ lgo A w (boR s1 l1 s2 l2 p r) k = ldR w st lk ps tx p r
  | 0, p, k, S, _, _, _ => ⟨trivial, rfl⟩
  | r + 1, p, k, S, hA, hS, hk => by
    have hA : A.drop k = S ++ (((lks tx p).map (tg w) ++ (if stB ps p then [.old p] else [])) ++ alR w ps tx (p + 1) r) := hA
    rw [List.append_assoc] at hA
    -- the old one and what is behind
    have tail : ∀ k' S', A.drop k' = S' ++ ((if stB ps p then [.old p] else []) ++ alR w ps tx (p + 1) r) → oldS p S' → k' + S'.length = mP ps tx p + (lks tx p).length →
        lok A w ((if stB s1 p && stB s2 p then [.old p] else []) ++ boR s1 l1 s2 l2 (p + 1) r) k' ∧ lgo A w ((if stB s1 p && stB s2 p then [.old p] else []) ++ boR s1 l1 s2 l2 (p + 1) r) k' = (if stB ps p && stB st p then [bs + (mP ps tx p + (lks tx p).length)] else []) ++ ldR w st lk ps tx (p + 1) r := fun k' S' hA' hS' hk' => by
      have eq : (stB s1 p && stB s2 p) = (stB ps p && stB st p) := by
        subst hps hst
        cases w
        · rfl
        · exact Bool.and_comm _ _
      have mp : mP ps tx (p + 1) = mP ps tx p + (lks tx p).length + one01 (stB ps p) := rfl
      rw [eq]
      cases hb : stB ps p with
      | false =>
        rw [hb] at hA' mp
        exact lg_all hps htx hst hlk r (p + 1) k' S' hA' (old_mono hS' (Nat.le_succ p)) (by rw [mp, hk']; rfl)
      | true =>
        rw [hb] at hA' mp
        cases hb2 : stB st p with
        | true =>
          have hno : X.old p ∉ S' := fun z => by
            obtain ⟨q, h1, h2⟩ := hS' _ z
            cases h2; omega
          obtain ⟨a1, a2, a3⟩ := lg_hit (Br := boR s1 l1 s2 l2 (p + 1) r) (w := w) (x := .old p) rfl hA' hno
          obtain ⟨b1, b2⟩ := lg_all hps htx hst hlk r (p + 1) (k' + S'.length + 1) [] a1 (fun x hx => by cases hx) (by rw [mp]; simp [one01]; omega)
          refine ⟨a2 b1, ?_⟩
          show lgo A w (X.old p :: boR s1 l1 s2 l2 (p + 1) r) k' = _
          rw [a3, b2, hk']; rfl
        | false =>
          refine lg_all hps htx hst hlk r (p + 1) k' (S' ++ [.old p]) ?_ (fun x hx => ?_) (by rw [mp]; simp [one01]; omega)
          · rw [hA', List.append_assoc]; rfl
          · rcases List.mem_append.mp hx with hx | hx
            · exact old_mono hS' (Nat.le_succ p) x hx
            · exact ⟨p, Nat.lt_succ_self p, List.mem_singleton.mp hx⟩
    have e : boR s1 l1 s2 l2 p (r + 1) = (lks l1 p).map .one ++ ((lks l2 p).map .oth ++ ((if stB s1 p && stB s2 p then [.old p] else []) ++ boR s1 l1 s2 l2 (p + 1) r)) := by
      show (((lks l1 p).map X.one ++ (lks l2 p).map X.oth) ++ _) ++ _ = _
      rw [List.append_assoc, List.append_assoc]
    have e2 : ldR w st lk ps tx p (r + 1) = blk w (lks lk p) (List.range' (bs + mP ps tx p) (lks tx p).length) ++ ((if stB ps p && stB st p then [bs + (mP ps tx p + (lks tx p).length)] else []) ++ ldR w st lk ps tx (p + 1) r) := by
      show ldB w st lk ps tx p ++ _ = _
      unfold ldB
      rw [List.append_assoc]
    rw [e, e2]
    generalize hB : (if stB s1 p && stB s2 p then [X.old p] else []) ++ boR s1 l1 s2 l2 (p + 1) r = Br at tail ⊢
    generalize (if stB ps p && stB st p then [bs + (mP ps tx p + (lks tx p).length)] else []) ++ ldR w st lk ps tx (p + 1) r = Lr at tail ⊢
    have to : (lks l1 p).map X.one = (lks l1 p).map (tg false) := rfl
    have tt : (lks l2 p).map X.oth = (lks l2 p).map (tg true) := rfl
    rw [to, tt]
    cases w with
    | false =>
      have htx : tx = l1 := htx
      have hlk : lk = l2 := hlk
      subst htx hlk
      obtain ⟨k', S', b1, b2, b3, b4, b5⟩ := lg_run (Br := (lks lk p).map (tg true) ++ Br) (lks tx p) k S _ hA hS
      obtain ⟨c1, c2⟩ := tail k' S' b1 b2 (by rw [b3, hk])
      obtain ⟨d1, d2⟩ := lg_no (A := A) (Br := Br) (w := false) (k := k') (lks lk p)
      refine ⟨b4 (d1 c1), ?_⟩
      rw [b5, show (!false) = true from rfl] at *
      rw [d2, c2, hk]
      show _ = (_ ++ _) ++ _
      rw [List.append_assoc]
    | true =>
      have htx : tx = l2 := htx
      have hlk : lk = l1 := hlk
      subst htx hlk
      obtain ⟨k', S', b1, b2, b3, b4, b5⟩ := lg_run (Br := Br) (lks tx p) k S _ hA hS
      obtain ⟨c1, c2⟩ := tail k' S' b1 b2 (by rw [b3, hk])
      obtain ⟨d1, d2⟩ := lg_no (A := A) (Br := (lks tx p).map (tg true) ++ Br) (w := true) (k := k) (lks lk p)
      refine ⟨d1 (b4 c1), ?_⟩
      rw [show (!true) = false from rfl] at d2
      rw [d2, b5, c2, hk]
      show _ = (_ ++ _) ++ _
      rw [List.append_assoc]
/-- what the law finds -/
theorem lg_law {w : Bool} {n : Nat} {s1 s2 : List Bool} {l1 l2 : Nat → Option (List Nat)} {ps st : List Bool} {tx lk : Nat → Option (List Nat)} (h1 : s1.length = n) (hps : ps = if w then s2 else s1) (htx : tx = if w then l2 else l1) (hst : st = if w then s1 else s2) (hlk : lk = if w then l1 else l2) :
    lok (alX w ps tx (n + 1)) w ((boU n l1 l2 (n + 1)).filter (keepX s1 s2)) 0 ∧ lgo (alX w ps tx (n + 1)) w ((boU n l1 l2 (n + 1)).filter (keepX s1 s2)) 0 = ldP w st lk ps tx (n + 1) := by
  have eb := bo_suf (l1 := l1) (l2 := l2) (s2 := s2) h1 (n + 1) 0
  have ea := al_suf (w := w) (s := ps) (l := tx) (n + 1) 0
  have el := ld_suf (a := w) (st := st) (lk := lk) (ps := ps) (tx := tx) (n + 1) 0
  rw [Nat.zero_add] at eb ea el
  have eb : (boU n l1 l2 (n + 1)).filter (keepX s1 s2) = boR s1 l1 s2 l2 0 (n + 1) := eb
  have ea : alX w ps tx (n + 1) = alR w ps tx 0 (n + 1) := ea
  have el : ldP w st lk ps tx (n + 1) = ldR w st lk ps tx 0 (n + 1) := el
  rw [eb, el]
  exact lg_all hps htx hst hlk (n + 1) 0 0 [] (by rw [ea]; rfl) (fun x hx => by cases hx) rfl
/-- the signs of both -/
def X.sgn (T : List Nat) : X → Nat
  | .one c => c
  | .oth c => c
  | .old p => T.getD p 0
theorem bo_sgn {n : Nat} {T : List Nat} {s1 s2 : List Bool} {l1 l2 : Nat → Option (List Nat)} (h1 : s1.length = n) : ∀ p, ((boU n l1 l2 p).filter (keepX s1 s2)).map (X.sgn T) = boS T s1 l1 s2 l2 p
  | 0 => rfl
  | p + 1 => by
    have := bo_suf (l1 := l1) (l2 := l2) (s2 := s2) h1 1 p
    rw [this, List.map_append, bo_sgn h1 p]
    show _ ++ List.map _ ((((lks l1 p).map X.one ++ (lks l2 p).map X.oth ++ (if stB s1 p && stB s2 p then [X.old p] else [])) ++ [])) = boS T s1 l1 s2 l2 p ++ (lks l1 p ++ lks l2 p ++ (if stB s1 p && stB s2 p then [T.getD p 0] else []))
    rw [List.append_nil, List.map_append, List.map_append, List.map_map, List.map_map]
    have i1 : (lks l1 p).map (X.sgn T ∘ X.one) = lks l1 p := List.map_id _
    have i2 : (lks l2 p).map (X.sgn T ∘ X.oth) = lks l2 p := List.map_id _
    rw [i1, i2]
    congr 2
    split <;> rfl
end K04
namespace K04
open PySem DI
def xs_ (l : List X) : List D := l.map X.d
theorem xs_app (a b : List X) : xs_ (a ++ b) = xs_ a ++ xs_ b := by simp [xs_]
theorem xs_len (a : List X) : (xs_ a).length = a.length := by simp [xs_]
theorem d_tg (w : Bool) (c : Nat) : (tg w c).d = .tup [.str (tgT w), .str [c]] := by cases w <;> rfl
theorem al_bound {w : Bool} {s : List Bool} {l : Nat → Option (List Nat)} {p q M : Nat} (h : p ≤ q) (hM : mP s l q ≤ M) : (alX w s l p).length ≤ M := by
  rw [al_len]
  exact Nat.le_trans (mP_mono s l h) hM
def AlI (H : HH) (w : Bool) (N : Int) (s : List Bool) (l : Nat → Option (List Nat)) (d n : Nat) (xs : List D) (st : Sd) (H1 : HH) : Prop := ∃ (p m q : Nat) (x4 x5 : Option D), xs = rng p m ∧ p + m = n + 1 ∧ Kp H H1 ∧ H.length ≤ q ∧ H1[q]? = some (.lst (xs_ (alX w s l p))) ∧
  st = [some (.tup [.lv (bls s), .ref d]), some (.int N), some (.str (tgT w)), some (.ref q), x4, x5]
theorem aloneK {k : Nat} {H : HH} {w : Bool} {s : List Bool} {kv : List (Nat × List Nat)} {d n : Nat} {N : Int} {Q : D → HH → Prop} (hN : N = (n : Nat)) (hn : n ≤ 30000) (hs : s.length = n) (hd : H[d]? = some (.dic (kD kv) (vD kv))) (hm : mP s (look kv) (n + 1) ≤ 1000000)
    (q : ∀ j H1, Kp H H1 → H.length ≤ j → H1[j]? = some (.lst (xs_ (alX w s (look kv) (n + 1)))) → Q (.ref j) H1) : (callD (cfP Pg (k + 1)) 21 [0, 1, 2] [.tup [.lv (bls s), .ref d], .int N, .str (tgT w)] [] H).wp Q := by
  refine callC (P := Pg) (fd := f21) rfl (l := [.tup [.lv (bls s), .ref d], .int N, .str (tgT w)]) rfl ?_
  refine run_k rfl ?_
  simp [f21, b21, startD, N21]
  rw [range1 (by omega) (by omega), rng_eq, show (N + 1).toNat = n + 1 by omega]
  simp
  refine for_wp (I := AlI H w N s (look kv) d n) ?_ ?_ _ _ _ ⟨0, n + 1, H.length, none, none, rfl, by omega, (Kp.refl H).add _, Nat.le_refl _, by simp [alX, xs_], rfl⟩
  · rintro y ys st H1 ⟨p, m, j, x4, x5, hx, hp, kp, hj, gj, rfl⟩
    cases m with
    | zero => cases hx
    | succ m =>
      rw [rng_succ] at hx
      cases hx
      have dv : viewD H1 (.ref d) = .dv (kD kv) (vD kv) := v_dic (kp.get hd)
      have lv : viewD H1 (.ref j) = .lv (xs_ (alX w s (look kv) p)) := v_ref gj
      have hg : (dgetL (kD kv) (vD kv) (.int (p : Nat))).getD (.str []) = .str (lks (look kv) p) := by
        rw [dget_kv]
        unfold lks
        cases look kv p <;> rfl
      have mo := mP_mono s (look kv) (show p + 1 ≤ n + 1 by omega)
      have mo1 : mP s (look kv) p + (lks (look kv) p).length + one01 (stB s p) ≤ mP s (look kv) (n + 1) := mo
      have la : (alX w s (look kv) p).length = mP s (look kv) p := al_len p
      refine ⟨rfl, _, a_nm 4 _, ?_⟩
      simp [dv, hg]
      refine lc_mapG (A := Nat) (fun c => .str [c]) (fun c => (tg w c).d) rfl (lks (look kv) p) [] (fun c hc => ⟨_, a_nm 5 _, fun T hT => ?_⟩) (by show 0 + (lks (look kv) p).length ≤ 16777216; omega) ?_
      · rw [d_tg] at hT
        simp
        exact ⟨by decide, hT⟩
      · have em : (lks (look kv) p).map (fun c => (tg w c).d) = xs_ ((lks (look kv) p).map (tg w)) := by simp [xs_]
        rw [List.nil_append, em]
        have sz : (xs_ (alX w s (look kv) p)).length + (xs_ ((lks (look kv) p).map (tg w))).length ≤ lim := by rw [xs_len, xs_len, List.length_map]; show _ ≤ 16777216; omega
        simp [lv, addR, sz]
        rw [← xs_app]
        generalize hX : alX w s (look kv) p ++ (lks (look kv) p).map (tg w) = Y
        have yl : Y.length ≤ 1000000 := by rw [← hX, List.length_append, List.length_map]; omega
        have fin : ∀ L : List X, L = (if stB s p then [.old p] else []) → AlI H w N s (look kv) d n (rng (p + 1) m) [some (.tup [.lv (bls s), .ref d]), some (.int N), some (.str (tgT w)), some (.ref H1.length), some (.int (p : Nat)), x5] (H1 ++ [.lst (xs_ (Y ++ L))]) := fun L hL => by
          refine ⟨p + 1, m, H1.length, _, _, rfl, by omega, kp.add _, kp.len, ?_, rfl⟩
          show (H1 ++ _)[H1.length]? = some (.lst (xs_ (alX w s (look kv) p ++ ((lks (look kv) p).map (tg w) ++ (if stB s p then [.old p] else [])))))
          rw [← List.append_assoc, hX, hL]
          simp
        by_cases hpn : p < n
        · have c1 : ((p : Nat) : Int) < N := by omega
          have hb : s[p]? = some (s[p]'(by omega)) := List.getElem?_eq_getElem (by omega)
          generalize s[p]'(by omega) = b at hb
          have e1 := bls_at (st := s) (i := ((p : Nat) : Int)) rfl hb
          have sb : stB s p = b := by unfold stB; rw [hb]; cases b <;> rfl
          rw [sb] at fin
          cases b with
          | false =>
            simp [c1, e1]
            simpa using fin [] rfl
          | true =>
            have ap : mtE .append (.ref H1.length) [(X.old p).d] (H1 ++ [.lst (xs_ Y)]) = .ok .non (H1 ++ [.lst (xs_ (Y ++ [.old p]))]) := by
              rw [app_ok (xs := xs_ Y) (by simp) (by show _ < 16777216; rw [xs_len]; omega), xs_app]
              simp [xs_]
            have rc : rcvOk .append (viewD (H1 ++ [.lst (xs_ Y)]) (.ref H1.length)) = true := by rw [v_ref (by simp : (H1 ++ [HD.lst (xs_ Y)])[H1.length]? = some (.lst (xs_ Y)))]; rfl
            simp [c1, e1]
            refine ⟨rc, by decide, ?_⟩
            have ap2 : mtE .append (.ref H1.length) [.tup [.str [111, 108, 100], .int (p : Nat)]] (H1 ++ [.lst (xs_ Y)]) = .ok .non (H1 ++ [.lst (xs_ (Y ++ [.old p]))]) := ap
            simp [ap2]
            exact fin [.old p] rfl
        · have c1 : ¬ ((p : Nat) : Int) < N := by omega
          have hb : s[p]? = none := List.getElem?_eq_none (by omega)
          have sb : stB s p = false := by unfold stB; rw [hb]; rfl
          rw [sb] at fin
          simp [c1]
          simpa using fin [] rfl
  · rintro st H1 ⟨p, m, j, x4, x5, hx, hp, kp, hj, gj, rfl⟩
    cases m with
    | succ m => rw [rng_succ] at hx; cases hx
    | zero =>
      obtain rfl : p = n + 1 := by omega
      simp
      exact q j H1 kp hj gj
end K04
namespace K04
open PySem DI
theorem bo_len {n : Nat} {l1 l2 : Nat → Option (List Nat)} (s1 s2 : List Bool) : ∀ p, (boU n l1 l2 p).length ≤ mP s1 l1 p + mP s2 l2 p + p
  | 0 => Nat.zero_le _
  | p + 1 => by
    have ih := bo_len (n := n) (l1 := l1) (l2 := l2) s1 s2 p
    show (boU n l1 l2 p ++ ((lks l1 p).map X.one ++ (lks l2 p).map X.oth ++ (if p < n then [X.old p] else []))).length ≤ mP s1 l1 p + (lks l1 p).length + one01 (stB s1 p) + (mP s2 l2 p + (lks l2 p).length + one01 (stB s2 p)) + (p + 1)
    have h3 : (if p < n then [X.old p] else []).length ≤ 1 := by split <;> simp
    rw [List.length_append, List.length_append, List.length_append, List.length_map, List.length_map]
    omega
theorem bo_old {n : Nat} {l1 l2 : Nat → Option (List Nat)} {i : Nat} : ∀ p, X.old i ∈ boU n l1 l2 p → i < n
  | p + 1, h => by
    rcases List.mem_append.mp h with h | h
    · exact bo_old p h
    · rcases List.mem_append.mp h with h | h
      · rcases List.mem_append.mp h with h | h
        · obtain ⟨c, _, e⟩ := List.mem_map.mp h; cases e
        · obtain ⟨c, _, e⟩ := List.mem_map.mp h; cases e
      · split at h
        · rename_i hp
          cases List.mem_singleton.mp h
          exact hp
        · cases h
def BoI (H : HH) (N : Int) (s1 : List Bool) (l1 : Nat → Option (List Nat)) (d1 : Nat) (s2 : List Bool) (l2 : Nat → Option (List Nat)) (d2 n : Nat) (xs : List D) (st : Sd) (H1 : HH) : Prop := ∃ (p m q : Nat) (x4 x6 : Option D), xs = rng p m ∧ p + m = n + 1 ∧ Kp H H1 ∧ H.length ≤ q ∧ H1[q]? = some (.lst (xs_ (boU n l1 l2 p))) ∧
  st = [some (.tup [.lv (bls s1), .ref d1]), some (.tup [.lv (bls s2), .ref d2]), some (.int N), some (.ref q), x4, none, x6]
theorem bothK {k : Nat} {H : HH} {s1 s2 : List Bool} {kv1 kv2 : List (Nat × List Nat)} {d1 d2 n : Nat} {N : Int} {Q : D → HH → Prop} (hN : N = (n : Nat)) (hn : n ≤ 30000) (h1 : s1.length = n) (h2 : s2.length = n) (hd1 : H[d1]? = some (.dic (kD kv1) (vD kv1))) (hd2 : H[d2]? = some (.dic (kD kv2) (vD kv2))) (hm1 : mP s1 (look kv1) (n + 1) ≤ 1000000) (hm2 : mP s2 (look kv2) (n + 1) ≤ 1000000)
    (q : ∀ H1, Kp H H1 → Q (.lv (xs_ ((boU n (look kv1) (look kv2) (n + 1)).filter (keepX s1 s2)))) H1) : (callD (cfP Pg (k + 1)) 20 [0, 1, 2] [.tup [.lv (bls s1), .ref d1], .tup [.lv (bls s2), .ref d2], .int N] [] H).wp Q := by
  refine callC (P := Pg) (fd := f20) rfl (l := [.tup [.lv (bls s1), .ref d1], .tup [.lv (bls s2), .ref d2], .int N]) rfl ?_
  refine run_k rfl ?_
  simp [f20, b20, startD, N20]
  rw [range1 (by omega) (by omega), rng_eq, show (N + 1).toNat = n + 1 by omega]
  simp
  refine for_wp (I := BoI H N s1 (look kv1) d1 s2 (look kv2) d2 n) ?_ ?_ _ _ _ ⟨0, n + 1, H.length, none, none, rfl, by omega, (Kp.refl H).add _, Nat.le_refl _, by simp [boU, xs_], rfl⟩
  · rintro y ys st H1 ⟨p, m, j, x4, x6, hx, hp, kp, hj, gj, rfl⟩
    cases m with
    | zero => cases hx
    | succ m =>
      rw [rng_succ] at hx
      cases hx
      have dv1 : viewD H1 (.ref d1) = .dv (kD kv1) (vD kv1) := v_dic (kp.get hd1)
      have lv : viewD H1 (.ref j) = .lv (xs_ (boU n (look kv1) (look kv2) p)) := v_ref gj
      have hg : ∀ kv, (dgetL (kD kv) (vD kv) (.int (p : Nat))).getD (.str []) = .str (lks (look kv) p) := fun kv => by
        rw [dget_kv]
        unfold lks
        cases look kv p <;> rfl
      have mo : mP s1 (look kv1) p + (lks (look kv1) p).length + one01 (stB s1 p) ≤ mP s1 (look kv1) (n + 1) := mP_mono s1 (look kv1) (show p + 1 ≤ n + 1 by omega)
      have mo2 : mP s2 (look kv2) p + (lks (look kv2) p).length + one01 (stB s2 p) ≤ mP s2 (look kv2) (n + 1) := mP_mono s2 (look kv2) (show p + 1 ≤ n + 1 by omega)
      have la := bo_len (n := n) (l1 := look kv1) (l2 := look kv2) s1 s2 p
      refine ⟨rfl, _, a_nm 4 _, ?_⟩
      simp [dv1, hg]
      refine lc_mapG (A := Nat) (fun c => .str [c]) (fun c => (X.one c).d) rfl (lks (look kv1) p) [] (fun c hc => ⟨_, a_nm 6 _, fun T hT => ?_⟩) (by show 0 + (lks (look kv1) p).length ≤ 16777216; omega) ?_
      · simp
        exact ⟨by decide, hT⟩
      · have em : (lks (look kv1) p).map (fun c => (X.one c).d) = xs_ ((lks (look kv1) p).map X.one) := by simp [xs_]
        rw [List.nil_append, em]
        have sz : (xs_ (boU n (look kv1) (look kv2) p)).length + (xs_ ((lks (look kv1) p).map X.one)).length ≤ lim := by rw [xs_len, xs_len, List.length_map]; show _ ≤ 16777216; omega
        simp [lv, addR, sz]
        rw [← xs_app]
        generalize hX : boU n (look kv1) (look kv2) p ++ (lks (look kv1) p).map X.one = Y
        have yl : Y.length ≤ 3000000 := by rw [← hX, List.length_append, List.length_map]; omega
        have kp2 : Kp H (H1 ++ [.lst (xs_ Y)]) := kp.add _
        have hl2 : H.length ≤ H1.length := kp.len
        have gY : (H1 ++ [HD.lst (xs_ Y)])[H1.length]? = some (.lst (xs_ Y)) := by simp
        generalize hH2 : H1 ++ [HD.lst (xs_ Y)] = H2 at kp2 gY ⊢
        generalize H1.length = j2 at hl2 gY ⊢
        have dv2 : viewD H2 (.ref d2) = .dv (kD kv2) (vD kv2) := v_dic (kp2.get hd2)
        have lv2 : viewD H2 (.ref j2) = .lv (xs_ Y) := v_ref gY
        simp [dv2, hg]
        refine lc_mapG (A := Nat) (fun c => .str [c]) (fun c => (X.oth c).d) rfl (lks (look kv2) p) [] (fun c hc => ⟨_, a_nm 6 _, fun T hT => ?_⟩) (by show 0 + (lks (look kv2) p).length ≤ 16777216; omega) ?_
        · simp
          exact ⟨by decide, hT⟩
        · have em : (lks (look kv2) p).map (fun c => (X.oth c).d) = xs_ ((lks (look kv2) p).map X.oth) := by simp [xs_]
          rw [List.nil_append, em]
          have sz : (xs_ Y).length + (xs_ ((lks (look kv2) p).map X.oth)).length ≤ lim := by rw [xs_len, xs_len, List.length_map]; show _ ≤ 16777216; omega
          simp [lv2, addR, sz]
          rw [← xs_app]
          generalize hZ : Y ++ (lks (look kv2) p).map X.oth = Z
          have zl : Z.length ≤ 6000000 := by rw [← hZ, List.length_append, List.length_map]; omega
          have fin : ∀ L : List X, L = (if p < n then [.old p] else []) → BoI H N s1 (look kv1) d1 s2 (look kv2) d2 n (rng (p + 1) m) [some (.tup [.lv (bls s1), .ref d1]), some (.tup [.lv (bls s2), .ref d2]), some (.int N), some (.ref H2.length), some (.int (p : Nat)), none, x6] (H2 ++ [.lst (xs_ (Z ++ L))]) := fun L hL => by
            refine ⟨p + 1, m, H2.length, _, _, rfl, by omega, kp2.add _, kp2.len, ?_, rfl⟩
            show (H2 ++ _)[H2.length]? = some (.lst (xs_ (boU n (look kv1) (look kv2) p ++ ((lks (look kv1) p).map X.one ++ (lks (look kv2) p).map X.oth ++ (if p < n then [X.old p] else [])))))
            rw [← List.append_assoc, ← List.append_assoc, hX, hZ, hL]
            simp
          by_cases hpn : p < n
          · have c1 : ((p : Nat) : Int) < N := by omega
            rw [if_pos hpn] at fin
            have ap : mtE .append (.ref H2.length) [.tup [.str [111, 108, 100], .int (p : Nat)]] (H2 ++ [.lst (xs_ Z)]) = .ok .non (H2 ++ [.lst (xs_ (Z ++ [.old p]))]) := by
              rw [app_ok (xs := xs_ Z) (by simp) (by show _ < 16777216; rw [xs_len]; omega), xs_app]
              simp [xs_, X.d, tOld]
            have rc : rcvOk .append (viewD (H2 ++ [.lst (xs_ Z)]) (.ref H2.length)) = true := by rw [v_ref (by simp : (H2 ++ [HD.lst (xs_ Z)])[H2.length]? = some (.lst (xs_ Z)))]; rfl
            simp [c1]
            refine ⟨rc, by decide, ?_⟩
            simp [ap]
            exact fin [.old p] rfl
          · have c1 : ¬ ((p : Nat) : Int) < N := by omega
            rw [if_neg hpn] at fin
            simp [c1]
            simpa using fin [] rfl
  · rintro st H1 ⟨p, m, j, x4, x6, hx, hp, kp, hj, gj, rfl⟩
    cases m with
    | succ m => rw [rng_succ] at hx; cases hx
    | zero =>
      obtain rfl : p = n + 1 := by omega
      have la := bo_len (n := n) (l1 := look kv1) (l2 := look kv2) s1 s2 (n + 1)
      simp [items_ref gj]
      refine lc_filG (A := X) X.d X.d (keepX s1 s2) (gd_one gj) (boU n (look kv1) (look kv2) (n + 1)) [] (fun x hx => ⟨_, a_nm 5 _, fun T hT => ?_, fun T hT => ?_⟩) (by show 0 + _ ≤ 16777216; omega) ?_
      · cases x with
        | one c => simp [X.d, tOne]; exact hT
        | oth c => simp [X.d, tOth]; exact hT
        | old i =>
          have hi := bo_old _ hx
          have hb : s1[i]? = some (s1[i]'(by omega)) := List.getElem?_eq_getElem (by omega)
          have hb2 : s2[i]? = some (s2[i]'(by omega)) := List.getElem?_eq_getElem (by omega)
          generalize s1[i]'(by omega) = b at hb
          generalize s2[i]'(by omega) = b2 at hb2
          have e1 := bls_at (st := s1) (i := ((i : Nat) : Int)) rfl hb
          have e2 := bls_at (st := s2) (i := ((i : Nat) : Int)) rfl hb2
          have ek : keepX s1 s2 (.old i) = (b && b2) := by
            show (stB s1 i && stB s2 i) = _
            unfold stB; rw [hb, hb2]; cases b <;> cases b2 <;> rfl
          rw [ek] at hT
          cases b with
          | false => simp [X.d, tOld, e1]; exact hT
          | true => simp [X.d, tOld, e1, e2]; exact hT
      · simp
        exact hT
      · rw [List.nil_append]
        exact q H1 kp
end K04
namespace K04
open PySem DI
def X.ok : X → Prop
  | .one c => c < 0x110000
  | .oth c => c < 0x110000
  | .old _ => True
theorem X_eqOk {x : X} (h : x.ok) : eqOk x.d = true := by
  cases x with
  | one c =>
    have h : c < 0x110000 := h
    have e : (plainD (X.one c).d && okS (X.one c).d && decide (depthD (X.one c).d ≤ 64)) = true := by
      simp [X.d, tOne, plainD, plainDs, okS, okSs, depthD, depthDs, h]
    unfold eqOk; exact e
  | oth c =>
    have h : c < 0x110000 := h
    have e : (plainD (X.oth c).d && okS (X.oth c).d && decide (depthD (X.oth c).d ≤ 64)) = true := by
      simp [X.d, tOth, plainD, plainDs, okS, okSs, depthD, depthDs, h]
    unfold eqOk; exact e
  | old p =>
    have e : (plainD (X.old p).d && okS (X.old p).d && decide (depthD (X.old p).d ≤ 64)) = true := by
      simp [X.d, tOld, plainD, plainDs, okS, okSs, depthD, depthDs]
    unfold eqOk; exact e
theorem X_eqD (x y : X) : eqD x.d y.d = decide (x = y) := by
  cases x <;> cases y <;> simp [X.d, eqD, eqDs, tOne, tOth, tOld]
  · rw [Bool.eq_iff_iff]; simp
  · rw [Bool.eq_iff_iff]; simp
  · rw [Bool.eq_iff_iff]; simp; omega
theorem X_ne {x y : X} (hx : x.ok) (hy : y.ok) : cmpD .NotEq x.d y.d = some (!decide (x = y)) := by
  rw [c_ne (X_eqOk hx) (X_eqOk hy), X_eqD]
theorem idx_spec {x : X} : ∀ {L : List X}, x ∈ L → L[L.idxOf x]? = some x ∧ ∀ i, i < L.idxOf x → ∃ y, L[i]? = some y ∧ y ≠ x
  | y :: L, h => by
    rw [List.idxOf_cons]
    by_cases e : y = x
    · subst e
      simp
    · have hx : x ∈ L := by
        rcases List.mem_cons.mp h with h | h
        · exact absurd h.symm e
        · exact h
      obtain ⟨a, b⟩ := idx_spec hx
      have eb : (y == x) = false := by rw [beq_eq_false_iff_ne]; exact e
      rw [eb]
      refine ⟨a, fun i hi => ?_⟩
      cases i with
      | zero => exact ⟨y, rfl, e⟩
      | succ i => exact b i (by simpa using hi)
theorem xs_at {A : List X} {i : Int} {p : Nat} {x : X} (hi : i = (p : Nat)) (h : A[p]? = some x) : L2.atI (xs_ A) i = some x.d := by
  have hl := (List.getElem?_eq_some_iff.mp h).1
  rw [at_nat (n := p) hi (by rw [xs_len]; exact hl)]
  unfold xs_
  rw [List.getElem?_map, h]; rfl
def LgI (H : HH) (j n : Nat) (A : List X) (B : List X) (w : Bool) (tot : List Nat) (xs : List D) (st : Sd) (H1 : HH) : Prop := ∃ (r : List X) (k : Nat) (acc : List Nat) (x5 : Option D), xs = xs_ r ∧ (∀ x ∈ r, x.ok) ∧ lok A w r k ∧ acc ++ lgo A w r k = tot ∧ acc.length + r.length ≤ 90000 ∧ H1 = H ++ [.lst (itD acc)] ∧
  st = [some (.ref j), some (.lv (xs_ B)), some (.str (tgT w)), some (.ref H.length), some (.int (k : Nat)), x5]
theorem llawK {k j n : Nat} {H : HH} {A B : List X} {w : Bool} {Q : D → HH → Prop} (hA : A.length = n) (hn : n ≤ 30000) (hB : B.length ≤ 90000) (okA : ∀ x ∈ A, x.ok) (okB : ∀ x ∈ B, x.ok) (hl : lok A w B 0) (hg : goodL n (lgo A w B 0)) (hj : H[j]? = some (.lst (xs_ A)))
    (q : ∀ H1, Kp H H1 → Q (.tup (ptsD (dueF n (lgo A w B 0)))) H1) : (callD (cfP Pg (k + 3)) 22 [0, 1, 2] [.ref j, .lv (xs_ B), .str (tgT w)] [] H).wp Q := by
  refine callC (P := Pg) (fd := f22) rfl (l := [.ref j, .lv (xs_ B), .str (tgT w)]) rfl ?_
  refine run_k rfl ?_
  generalize ht : lgo A w B 0 = tot at *
  simp [f22, b22, startD, N22]
  refine for_wp (I := LgI H j n A B w tot) ?_ ?_ _ _ _ ⟨B, 0, [], none, rfl, okB, hl, ht, by simp; omega, rfl, rfl⟩
  · rintro y ys st H1 ⟨r, i, acc, x5, hx, okr, lk, tt, lb, rfl, rfl⟩
    cases r with
    | nil => cases hx
    | cons x r =>
      cases hx
      have ox := okr x List.mem_cons_self
      have okr := fun z hz => okr z (List.mem_cons_of_mem _ hz)
      simp only [List.length_cons] at lb
      refine ⟨rfl, _, a_nm 5 _, ?_⟩
      have vA : ∀ L, viewD (H ++ L) (.ref j) = .lv (xs_ A) := fun L => v_ref (get_add hj L)
      have vx : ∀ (H : HH) (z : X), viewD H z.d = z.d := fun H z => by cases z <;> rfl
      have cond : ∀ (Bq : Bool → HH → Prop) (H2 : HH), Bq (isW w x) H2 → (evT (cfP Pg (k + 2)) (.or (.cmp .Eq (.ix (.loc 5) (.cst (.int (0)))) (.loc 2)) (.cmp .Eq (.ix (.loc 5) (.cst (.int (0)))) (.cst (.str [111, 108, 100])))) [some (.ref j), some (.lv (xs_ B)), some (.str (tgT w)), some (.ref H.length), some (.int (i : Nat)), some x.d] H2).wp Bq := fun Bq H2 hq => by
        cases w <;> cases x <;> simp [X.d, tgT, tOne, tOth, tOld] <;> exact hq
      simp [-t_wor]
      refine cond _ _ ?_
      cases hw : isW w x with
      | true =>
        unfold lok at lk
        rw [if_pos hw] at lk
        obtain ⟨lk1, lk2⟩ := lk
        obtain ⟨sp1, sp2⟩ := idx_spec lk1
        rw [lgo, if_pos hw] at tt
        generalize (A.drop i).idxOf x = m at *
        have lm : i + m < A.length := by
          rw [List.getElem?_drop] at sp1
          exact (List.getElem?_eq_some_iff.mp sp1).1
        simp
        refine while_wp (I := fun z st H1 => ∃ e : Nat, e + z = m ∧ H1 = H ++ [.lst (itD acc)] ∧ st = [some (.ref j), some (.lv (xs_ B)), some (.str (tgT w)), some (.ref H.length), some (.int ((i + e : Nat) : Int)), some x.d]) ?_ _ m _ _ (by show _ < 1000000; omega) ⟨0, by omega, rfl, rfl⟩
        rintro z st H1 ⟨e, he, rfl, rfl⟩
        cases z with
        | zero =>
          obtain rfl : e = m := by omega
          rw [List.getElem?_drop] at sp1
          have a1 := xs_at (A := A) (i := ((i + e : Nat) : Int)) rfl sp1
          have ne := X_ne (okA x (List.mem_of_getElem? sp1)) ox
          have vi : viewD (H ++ [.lst (itD acc)]) (.ref H.length) = .lv (itD acc) := v_ref (by simp)
          have ap : mtE .append (.ref H.length) [.int ((i + e : Nat) : Int)] (H ++ [.lst (itD acc)]) = .ok .non (H ++ [.lst (itD (acc ++ [bs + (i + e)]))]) := by
            rw [app_ok (xs := itD acc) (by simp) (by show _ < 16777216; rw [itD_len]; omega)]
            rw [itD_app, it_pl (i + e)]
            simp
          have rc : rcvOk .append (viewD (H ++ [.lst (itD acc)]) (.ref H.length)) = true := by rw [vi]; rfl
          simp only [Int.natCast_add] at a1 ap
          simp [vA, a1, vx, ne]
          refine ⟨rc, ?_⟩
          simp [ap]
          refine ⟨r, i + e + 1, acc ++ [bs + (i + e)], some x.d, rfl, okr, lk2, by rw [← tt]; simp, by simp; omega, rfl, ?_⟩
          simp
        | succ z =>
          obtain ⟨y, hy, hne⟩ := sp2 e (by omega)
          rw [List.getElem?_drop] at hy
          have a1 := xs_at (A := A) (i := ((i + e : Nat) : Int)) rfl hy
          have ne := X_ne (okA y (List.mem_of_getElem? hy)) ox
          rw [decide_eq_false hne] at ne
          simp only [Int.natCast_add] at a1
          simp [vA, a1, vx, ne]
          exact ⟨e + 1, by omega, by omega⟩
      | false =>
        unfold lok at lk
        rw [if_neg (by rw [hw]; exact Bool.false_ne_true)] at lk
        rw [lgo, if_neg (by rw [hw]; exact Bool.false_ne_true)] at tt
        have vi : viewD (H ++ [.lst (itD acc)]) (.ref H.length) = .lv (itD acc) := v_ref (by simp)
        have rc : rcvOk .append (viewD (H ++ [.lst (itD acc)]) (.ref H.length)) = true := by rw [vi]; rfl
        have xc : x.code < 0x110000 := by
          cases x with
          | one c => exact ox
          | oth c => exact ox
          | old p => exact absurd hw (by simp [isW])
        have x1 : ∃ t, x.d = .tup [.str t, .str [x.code]] := by
          cases x with
          | one c => exact ⟨_, rfl⟩
          | oth c => exact ⟨_, rfl⟩
          | old p => exact absurd hw (by simp [isW])
        obtain ⟨tt1, x1⟩ := x1
        have ap : mtE .append (.ref H.length) [.str [x.code]] (H ++ [.lst (itD acc)]) = .ok .non (H ++ [.lst (itD (acc ++ [x.code]))]) := by
          rw [app_ok (xs := itD acc) (by simp) (by show _ < 16777216; rw [itD_len]; omega)]
          have e : itD [x.code] = [.str [x.code]] := by
            have := itD_tx (w := [x.code]) (fun c hc => by rw [List.mem_singleton.mp hc]; exact xc)
            exact this
          rw [itD_app, e]
          simp
        rw [x1]
        simp
        refine ⟨rc, ?_⟩
        simp [ap]
        exact ⟨r, i, acc ++ [x.code], _, rfl, okr, lk, by rw [← tt]; simp, by simp; omega, rfl, rfl⟩
  · rintro st H1 ⟨r, i, acc, x5, hx, okr, lk, tt, lb, rfl, rfl⟩
    cases r with
    | cons x r => cases hx
    | nil =>
      have tt : acc ++ [] = tot := tt
      rw [List.append_nil] at tt
      subst tt
      have vA : viewD (H ++ [.lst (itD acc)]) (.ref j) = .lv (xs_ A) := v_ref (get_add hj _)
      have lA : biD .len [.lv (xs_ A)] = some (.int (n : Nat)) := by rw [len_lv, xs_len, hA]
      simp [vA, lA]
      refine dueK (n := n) (l := acc) (j := H.length) rfl hn hg (by simp at lb; omega) (by simp) fun L => ?_
      simp
      exact q _ ((Kp.refl H).add (_ :: L))
end K04
namespace K04
open PySem DI
theorem mP_cong {ps : List Bool} {tx tx' : Nat → Option (List Nat)} {m : Nat} (h : ∀ q, q < m → tx q = tx' q) : ∀ p, p ≤ m → mP ps tx p = mP ps tx' p
  | 0, _ => rfl
  | p + 1, hp => by
    show mP ps tx p + (lks tx p).length + _ = mP ps tx' p + (lks tx' p).length + _
    unfold lks
    rw [mP_cong h p (by omega), h p (by omega)]
theorem ldP_cong {a : Bool} {st ps : List Bool} {lk lk' tx tx' : Nat → Option (List Nat)} {m : Nat} (h : ∀ q, q < m → tx q = tx' q) (h2 : ∀ q, q < m → lk q = lk' q) : ∀ p, p ≤ m → ldP a st lk ps tx p = ldP a st lk' ps tx' p
  | 0, _ => rfl
  | p + 1, hp => by
    show ldP a st lk ps tx p ++ ldB a st lk ps tx p = ldP a st lk' ps tx' p ++ ldB a st lk' ps tx' p
    rw [ldP_cong h h2 p (by omega)]
    unfold ldB lks
    rw [mP_cong h p (by omega), h p (by omega), h2 p (by omega)]
theorem due_Vd {n : Nat} {l : List Nat} (hn : n ≤ 30000) (hg : goodL n l) (hl : l.length ≤ 80000) : Vd (dueF n l) ∧ want (dueF n l) = n ∧ mk (dueF n l) = l ∧ mks (dueF n l) = l.length := by
  obtain ⟨a, b, c, d, e, f⟩ := due_all (by omega) (good_gd hg) (by omega : l.length ≤ 90000)
  exact ⟨⟨b, a, by omega, by omega, by omega⟩, c, by unfold mk; rw [c]; exact d, e⟩
/-- of the law's changes -/
structure LwC (n : Nat) (s : List Bool) (l : Nat → Option (List Nat)) (P : List Pt) : Prop where
  v : Vd P
  len : s.length = n
  wt : want P = n
  st : stF P = s
  lk : ∀ q, q < n + 1 → look (kvF P 0) q = l q
  sg : sgn l
  ap : ∀ T : List Nat, T.length = n → app T P 0 = Ms T s l (n + 1)
theorem LwC.mp {n : Nat} {s : List Bool} {l : Nat → Option (List Nat)} {P : List Pt} (h : LwC n s l P) : mP s l (n + 1) = mks P := by
  have := ms_mP (T := cod n) (ps := s) (tx := l) (by rw [h.len, cod_len]; exact Nat.le_refl _) (n + 1)
  rw [← this, ← h.ap _ (cod_len n)]
  exact app_len (by rw [cod_len, h.wt]; omega)
theorem lwc {n : Nat} {s : List Bool} {l : Nat → Option (List Nat)} (hn : n ≤ 30000) (hs : s.length = n) (hk : lkOk s l) (hm : (Ms (cod n) s l (n + 1)).length ≤ 30000) : LwC n s l (Fs s l (n + 1)) := by
  obtain ⟨inv, fle⟩ := fs_all (t := cod n) (st := s) (lk := l) (by rw [cod_len]; omega) (by rw [cod_len]; exact hs) hk
  rw [cod_len] at inv fle
  have sp := sp_Fs1 (st := s) (lk := l)
  rw [hs] at sp
  refine ⟨⟨inv.ok, inv.ad, by omega, by rw [inv.wt]; exact hn, by rw [inv.mm]; omega⟩, hs, inv.wt, sp.1, fun q hq => ?_, fun p w h => ?_, fun T hT => ?_⟩
  · rw [sp.2]
    exact look_kvL (n + 1) hq
  · have := (hk p w h).1.2.2
    unfold cOk at this
    rw [List.all_eq_true] at this
    exact fun c hc => of_decide_eq_true (this c hc)
  · obtain ⟨inv2, _⟩ := fs_all (t := T) (st := s) (lk := l) (by omega) (by omega) hk
    rw [hT] at inv2
    exact inv2.ap
/-- a change led behind another one -/
theorem led_all {a : Bool} {n : Nat} {s1 s2 : List Bool} {l1 l2 : Nat → Option (List Nat)} {P R : List Pt} (c1 : LwC n s1 l1 P) (c2 : LwC n s2 l2 R) (hP : mks P ≤ 30000) (hR : mks R ≤ 30000) :
    ledF a P R = dueF (mks R) (ldP a s1 l1 s2 l2 (n + 1)) ∧ goodL (mks R) (ldP a s1 l1 s2 l2 (n + 1)) ∧ Vd (ledF a P R) ∧ want (ledF a P R) = mks R ∧ mk (ledF a P R) = ldP a s1 l1 s2 l2 (n + 1) ∧ mks (ledF a P R) ≤ mks P + mks R := by
  have e : ledF a P R = dueF (mks R) (ldP a s1 l1 s2 l2 (n + 1)) := by
    unfold ledF
    rw [c1.st, c2.st, c1.wt]
    rw [ldP_cong (fun q hq => c2.lk q hq) (fun q hq => c1.lk q hq) (n + 1) (Nat.le_refl _)]
  have g := ldP_good (a := a) (st := s1) (lk := l1) (ps := s2) (tx := l2) c1.sg (n + 1)
  rw [c2.mp] at g
  have ll := ldP_len a s1 l1 s2 l2 (n + 1)
  rw [c1.mp, c2.mp] at ll
  obtain ⟨v, w, m, ms⟩ := due_Vd hR g (by omega)
  rw [e]
  exact ⟨rfl, g, v, w, m, by omega⟩
/-- both ways come to one text -/
theorem led_app {a : Bool} {n : Nat} {s1 s2 : List Bool} {l1 l2 : Nat → Option (List Nat)} {P R : List Pt} (c1 : LwC n s1 l1 P) (c2 : LwC n s2 l2 R) (hP : mks P ≤ 30000) (hR : mks R ≤ 30000) {T : List Nat} (hT : T.length = n) :
    app (app T R 0) (ledF a P R) 0 = (if a then boS T s1 l1 s2 l2 (n + 1) else boS T s2 l2 s1 l1 (n + 1)) := by
  obtain ⟨e, g, v, w, m, ms⟩ := led_all (a := a) c1 c2 hP hR
  have hl : (app T R 0).length = mks R := app_len (by rw [c2.wt, hT]; omega)
  rw [app_subs (S := []) (by rw [w, hl]) v.ok, m, c2.ap T hT]
  exact ld_sub hT c2.len c1.sg (n + 1) (Nat.le_refl _)
theorem stF_still (n : Nat) : stF (stillF n) = List.replicate n true := by
  unfold stillF
  by_cases h : n = 0
  · subst h; rfl
  · rw [if_neg h]; simp [stF]
theorem kvF_still (n : Nat) : kvF (stillF n) 0 = [] := by
  unfold stillF
  by_cases h : n = 0
  · subst h; rfl
  · rw [if_neg h]; simp [kvF]
theorem stB_rep {n p : Nat} : stB (List.replicate n true) p = decide (p < n) := by
  unfold stB
  rw [List.getElem?_replicate]
  by_cases h : p < n
  · rw [if_pos h, decide_eq_true h]; rfl
  · rw [if_neg h, decide_eq_false h]; rfl
theorem ld_still {a : Bool} {n : Nat} {ps : List Bool} {tx : Nat → Option (List Nat)} (hp : ps.length = n) : ∀ p, ldP a (List.replicate n true) (look []) ps tx p = List.range' bs (mP ps tx p)
  | 0 => rfl
  | p + 1 => by
    show ldP a _ _ ps tx p ++ ldB a (List.replicate n true) (look []) ps tx p = List.range' bs (mP ps tx p + (lks tx p).length + one01 (stB ps p))
    rw [ld_still hp p]
    have eb : ldB a (List.replicate n true) (look []) ps tx p = List.range' (bs + mP ps tx p) (lks tx p).length ++ (if stB ps p then [bs + (mP ps tx p + (lks tx p).length)] else []) := by
      unfold ldB
      have e1 : blk a (lks (look []) p) (List.range' (bs + mP ps tx p) (lks tx p).length) = List.range' (bs + mP ps tx p) (lks tx p).length := by
        have : lks (look []) p = [] := rfl
        unfold blk; rw [this]; split <;> simp
      rw [e1]
      congr 1
      cases h : stB ps p with
      | false => rfl
      | true =>
        have := stB_lt h
        rw [stB_rep, decide_eq_true (by omega)]; rfl
    rw [eb]
    have e2 : ∀ m k, List.range' bs m ++ List.range' (bs + m) k = List.range' bs (m + k) := fun m k => by rw [List.range'_append_1]
    rw [← List.append_assoc, e2]
    cases stB ps p with
    | false => simp [one01]
    | true =>
      have := e2 (mP ps tx p + (lks tx p).length) 1
      exact this
theorem mP_still {n : Nat} : ∀ p, mP (List.replicate n true) (look []) p = min p n
  | 0 => by simp [mP]
  | p + 1 => by
    show mP _ _ p + 0 + one01 (stB _ p) = _
    rw [mP_still p, stB_rep]
    by_cases h : p < n
    · rw [decide_eq_true h]; simp [one01]; omega
    · rw [decide_eq_false h]; simp [one01]; omega
theorem ld_by_still {a : Bool} {n : Nat} {s : List Bool} {l : Nat → Option (List Nat)} (hs : s.length = n) : ∀ p, p ≤ n + 1 → ldP a s l (List.replicate n true) (look []) p = Ms (cod n) s l p
  | 0, _ => rfl
  | p + 1, hp => by
    show ldP a s l _ _ p ++ ldB a s l (List.replicate n true) (look []) p = Ms (cod n) s l p ++ (l p).getD [] ++ (match s[p]?, (cod n)[p]? with | some true, some c => [c] | _, _ => [])
    rw [ld_by_still hs p (by omega), List.append_assoc]
    congr 1
    unfold ldB
    have e0 : (lks (look []) p) = [] := rfl
    have e1 : blk a (lks l p) (List.range' (bs + mP (List.replicate n true) (look []) p) (lks (look []) p).length) = (l p).getD [] := by
      rw [e0]; unfold blk; split <;> simp [lks]
    rw [e1]
    congr 1
    by_cases h : p < n
    · have hb : s[p]? = some (s[p]'(by omega)) := List.getElem?_eq_getElem (by omega)
      rw [cod_get h, mP_still, stB_rep, decide_eq_true h, e0]
      generalize s[p]'(by omega) = b at hb
      have sb : stB s p = b := by unfold stB; rw [hb]; cases b <;> rfl
      rw [sb, hb]
      cases b with
      | false => rfl
      | true =>
        show [bs + (min p n + 0)] = [bs + p]
        rw [show min p n + 0 = p by omega]
    · rw [stB_rep, decide_eq_false h, List.getElem?_eq_none (show s.length ≤ p by omega)]; rfl
theorem mk_still {n : Nat} (h : n ≤ 30000) : mk (stillF n) = cod n := by
  obtain ⟨v, w, m, e⟩ := still_all h
  unfold mk
  rw [w]
  exact e _ (cod_len n)
theorem led_still {a : Bool} {P : List Pt} (v : Vd P) (hP : mks P ≤ 30000) : ledF a (stillF (want P)) P = stillF (mks P) := by
  have hn := v.wt
  obtain ⟨vs, ws, ms, _⟩ := still_all hn
  unfold ledF
  rw [stF_still, kvF_still, ws, ld_still (stF_len P), mP_mks v]
  have hk := mk_still hP
  have := self_due (still_all hP).1
  rw [(still_all hP).2.1, hk] at this
  exact this
theorem still_led {a : Bool} {P : List Pt} (v : Vd P) : ledF a P (stillF (want P)) = P := by
  have hn := v.wt
  obtain ⟨vs, ws, ms, _⟩ := still_all hn
  unfold ledF
  rw [stF_still, kvF_still, ms, ld_by_still (stF_len P) (want P + 1) (Nat.le_refl _), spA v.ad v.ok]
  exact self_due v
theorem eq_pair {a b : List Pt} (ha : ∀ p ∈ a, p.ok) (hb : ∀ p ∈ b, p.ok) : cmpD .NotEq (.tup [.tup (ptsD a), .tup (ptsD b)]) (.tup [.tup (ptsD a), .tup (ptsD b)]) = some false := by
  have e : ∀ qs : List Pt, eqDs (ptsD qs) (ptsD qs) = true := by
    intro qs
    induction qs with
    | nil => rfl
    | cons x r ih =>
      show eqDs (x.d :: ptsD r) (x.d :: ptsD r) = true
      rw [e_cons, ih]
      cases x <;> simp [Pt.d, Pt.val]
  obtain ⟨a1, a2, a3⟩ := pts_data ha
  obtain ⟨b1, b2, b3⟩ := pts_data hb
  have ok : eqOk (.tup [.tup (ptsD a), .tup (ptsD b)]) = true := by
    have p1 : plainD (.tup [.tup (ptsD a), .tup (ptsD b)]) = true := by
      show ((plainDs (ptsD a)) && ((plainDs (ptsD b)) && true)) = true
      rw [a1, b1]; rfl
    have p2 : okS (.tup [.tup (ptsD a), .tup (ptsD b)]) = true := by
      show ((okSs (ptsD a)) && ((okSs (ptsD b)) && true)) = true
      rw [a2, b2]; rfl
    have p3 : depthD (.tup [.tup (ptsD a), .tup (ptsD b)]) ≤ 64 := by
      show max (depthDs (ptsD a) + 1) (max (depthDs (ptsD b) + 1) 0) + 1 ≤ 64
      omega
    unfold eqOk
    rw [p1, p2, decide_eq_true p3]; rfl
  rw [c_ne ok ok, e_tup, e_cons, e_cons, e_tup, e_tup, e, e]
  rfl
theorem still_d {n : Nat} {J : Int} (hJ : J = (n : Nat)) : binD .Mult (.tup [.tup [.str [107, 101, 101, 112], .int J]]) (.int (if n = 0 then 0 else 1)) = some (.tup (ptsD (stillF n))) := by
  unfold stillF
  by_cases h : n = 0
  · subst h; rfl
  · rw [if_neg h, if_neg h, hJ]; rfl
end K04
namespace K04
open PySem DI
/-- the cells -/
def CeI (x0 : Option D) (xs : List D) (s : Sd) (_ : HH) : Prop := (∀ x ∈ xs, ∃ i : Int, x = .int i ∧ 0 ≤ i ∧ i < 24) ∧ ∃ x1 x2 x3 x4 x5 x6 x7 x8 x9 x10 x11 x12 x13 x14 x15 x16 x17 x18 x19, s = [x0, x1, x2, x3, x4, x5, x6, x7, x8, x9, x10, x11, x12, x13, x14, x15, x16, x17, x18, x19]
theorem al_ok {w : Bool} {s : List Bool} {l : Nat → Option (List Nat)} (h : sgn l) : ∀ p, ∀ x ∈ alX w s l p, x.ok
  | p + 1, x, hx => by
    rcases List.mem_append.mp hx with hx | hx
    · exact al_ok h p x hx
    · rcases List.mem_append.mp hx with hx | hx
      · obtain ⟨c, hc, rfl⟩ := List.mem_map.mp hx
        have := sgn_l h p c hc
        cases w <;> exact this
      · split at hx
        · rw [List.mem_singleton.mp hx]; trivial
        · cases hx
theorem bo_ok {n : Nat} {l1 l2 : Nat → Option (List Nat)} (h1 : sgn l1) (h2 : sgn l2) : ∀ p, ∀ x ∈ boU n l1 l2 p, x.ok
  | p + 1, x, hx => by
    rcases List.mem_append.mp hx with hx | hx
    · exact bo_ok h1 h2 p x hx
    · rcases List.mem_append.mp hx with hx | hx
      · rcases List.mem_append.mp hx with hx | hx
        · obtain ⟨c, hc, rfl⟩ := List.mem_map.mp hx
          exact sgn_l h1 p c hc
        · obtain ⟨c, hc, rfl⟩ := List.mem_map.mp hx
          exact sgn_l h2 p c hc
      · split at hx
        · rw [List.mem_singleton.mp hx]; trivial
        · cases hx
theorem str_at {t : List Nat} {i : Int} {p c : Nat} (hl : t.length ≤ 16777216) (hi : i = (p : Nat)) (h : t[p]? = some c) : ixD (.str t) (.int i) = some (.str [c]) := by
  have hp := (List.getElem?_eq_some_iff.mp h).1
  show (if t.length ≤ lim then (L2.atI t i).map fun c => D.str [c] else none) = _
  rw [if_pos (by show _ ≤ 16777216; exact hl), at_nat (n := p) hi hp, h]; rfl
theorem int_gt {n : Nat} {N : Int} (hN : N = (n : Nat)) : biD .int [.bl (decide (0 < N))] = some (.int (if n = 0 then 0 else 1)) := by
  show some (D.int (if decide (0 < N) then 1 else 0)) = _
  by_cases h : n = 0
  · have : ¬ (0 < N) := by omega
    simp [h, this]
  · have : 0 < N := by omega
    simp [h, this]
theorem value : ∀ ns : List Int, ns.length ≤ 63 → ∃ Hd, callN Pg 100 24 [.fz (ns.map D.int)] [] = .ok (.bl true) Hd := by
  intro ns hl
  suffices h : (callN Pg 100 24 [.fz (ns.map D.int)] []).wp fun d _ => d = .bl true by
    obtain ⟨a, H, h1, h2⟩ := wp_elim h
    exact ⟨H, by rw [h1, h2]⟩
  rw [stepP (P := Pg) (fd := f24) rfl 99]
  refine run_k rfl ?_
  simp [f24, b24, startD, N24, biD, lenD, minD, maxD]
  rw [range1 (by split <;> split <;> omega) (by split <;> split <;> omega)]
  simp
  refine for_wp (I := CeI (some (.fz (ns.map D.int)))) ?_ ?_ _ _ _ ⟨fun x hx => ?_, _, _, _, _, _, _, _, _, _, _, _, _, _, _, _, _, _, _, _, rfl⟩
  rotate_left 2
  · simp only [List.mem_map, List.mem_range] at hx
    obtain ⟨i, hi, rfl⟩ := hx
    exact ⟨i, rfl, by omega, by split at hi <;> split at hi <;> omega⟩
  · rintro x xs s H ⟨hx, x1, x2, x3, x4, x5, x6, x7, x8, x9, x10, x11, x12, x13, x14, x15, x16, x17, x18, x19, rfl⟩
    obtain ⟨i, rfl, i0, i1⟩ := hx x List.mem_cons_self
    have hx := fun y hy => hx y (List.mem_cons_of_mem _ hy)
    refine ⟨rfl, _, a_nm 1 _, ?_⟩
    simp
    refine poolP (P := Pg) rfl i0 (by omega) hl fun a b ha hb => ?_
    have hp : Pool H.length (H ++ [.lst [.int a, .int b]]) := ⟨a, b, by simp, ha, hb⟩
    generalize H.length = r at hp ⊢
    generalize H ++ [.lst [.int a, .int b]] = H1 at hp ⊢
    simp
    refine textM (n := 15) hp rfl (by decide) fun t H2 tl tc g2 => ?_
    obtain ⟨n, hn⟩ : ∃ n : Nat, n = t.length := ⟨_, rfl⟩
    obtain ⟨N, hN⟩ : ∃ N : Int, N = ((n : Nat) : Int) := ⟨_, rfl⟩
    have lt := len_str (x := t) (by omega)
    rw [← hn, ← hN] at lt
    rw [← hn] at tl
    simp [lt]
    refine changeK (n := n) g2.pool (by omega) hN fun s1 kv1 d1 H3 sl1 dl1 hd1 ko1 ks1 g3 => ?_
    have lk1 := kv_lk ko1
    simp
    refine changeK (n := n) g3.pool (by omega) hN fun s2 kv2 d2 H4 sl2 dl2 hd2 ko2 ks2 g4 => ?_
    have lk2 := kv_lk ko2
    have d1l := (List.getElem?_eq_some_iff.mp hd1).1
    have rl : r < H2.length := g2.pool.lt
    have hd1' : H4[d1]? = some (.dic (kD kv1) (vD kv1)) := by rw [g4.keep _ d1l (by omega)]; exact hd1
    have b1 := ms_len3 (t := cod n) (st := s1) ks1 (n + 1)
    have b2 := ms_len3 (t := cod n) (st := s2) ks2 (n + 1)
    have C1 := lwc (n := n) (by omega) sl1 lk1 (by omega)
    have C2 := lwc (n := n) (by omega) sl2 lk2 (by omega)
    have m1 := ms_mP (T := cod n) (ps := s1) (tx := look kv1) (by rw [cod_len]; omega) (n + 1)
    have m2 := ms_mP (T := cod n) (ps := s2) (tx := look kv2) (by rw [cod_len]; omega) (n + 1)
    rw [m1, C1.mp] at b1
    rw [m2, C2.mp] at b2
    have e1 := C1.mp
    have e2 := C2.mp
    clear m1 m2
    have f1 : (Fs s1 (look kv1) (n + 1)).length ≤ 2 * n + 1 := by
      have := (fs_all (t := cod n) (st := s1) (lk := look kv1) (by rw [cod_len]; omega) (by rw [cod_len]; omega) lk1).2
      rwa [cod_len] at this
    simp
    refine partsK (st := s1) (kv := kv1) (d := d1) (by omega) hd1' lk1 fun L => ?_
    have q5 : Kp H4 (H4 ++ L) := (Kp.refl H4).add L
    generalize H4 ++ L = H5 at q5 ⊢
    rw [sl1]
    simp
    refine partsK (st := s2) (kv := kv2) (d := d2) (by omega) (q5.get hd2) lk2 fun L => ?_
    have q6 : Kp H5 (H5 ++ L) := (Kp.refl H5).add L
    generalize H5 ++ L = H6 at q6 ⊢
    have h61 := q6.get (q5.get hd1')
    have h62 := q6.get (q5.get hd2)
    rw [sl2]
    generalize Fs s1 (look kv1) (n + 1) = P1 at *
    generalize Fs s2 (look kv2) (n + 1) = P2 at *
    have V1 := C1.v
    have V2 := C2.v
    have w1 := C1.wt
    have w2 := C2.wt
    simp
    refine bothK (n := n) hN (by omega) sl1 sl2 h61 h62 (by omega) (by omega) fun H7 q7 => ?_
    simp
    refine aloneK (w := false) (n := n) hN (by omega) sl1 (q7.get h61) (by omega) fun j1 H8 q8 jl1 g1 => ?_
    simp
    refine aloneK (w := true) (n := n) hN (by omega) sl2 (q8.get (q7.get h62)) (by omega) fun j2 H9 q9 jl2 g2' => ?_
    have bl := bo_len (n := n) (l1 := look kv1) (l2 := look kv2) s1 s2 (n + 1)
    obtain ⟨ok0, go0⟩ := lg_law (w := false) (n := n) (s1 := s1) (s2 := s2) (l1 := look kv1) (l2 := look kv2) sl1 rfl rfl rfl rfl
    obtain ⟨ok1, go1⟩ := lg_law (w := true) (n := n) (s1 := s1) (s2 := s2) (l1 := look kv1) (l2 := look kv2) sl1 rfl rfl rfl rfl
    simp only [Bool.false_eq_true, if_false] at ok0 go0
    simp only [if_true] at ok1 go1
    have okB : ∀ x ∈ (boU n (look kv1) (look kv2) (n + 1)).filter (keepX s1 s2), x.ok := fun x hx => bo_ok C1.sg C2.sg (n + 1) x (List.mem_filter.mp hx).1
    have oB : ∀ i, X.old i ∈ (boU n (look kv1) (look kv2) (n + 1)).filter (keepX s1 s2) → i < n := fun i hi => bo_old _ (List.mem_filter.mp hi).1
    have lB : ((boU n (look kv1) (look kv2) (n + 1)).filter (keepX s1 s2)).length ≤ 1000 := by
      have := List.length_filter_le (keepX s1 s2) (boU n (look kv1) (look kv2) (n + 1))
      omega
    have sg0 := bo_sgn (n := n) (T := t) (s2 := s2) (l1 := look kv1) (l2 := look kv2) sl1 (n + 1)
    generalize (boU n (look kv1) (look kv2) (n + 1)).filter (keepX s1 s2) = B at *
    obtain ⟨F0, G0, W0, k0, i0', M0⟩ := led_all (a := false) C2 C1 (by omega) (by omega)
    obtain ⟨F1, G1, W1, k1, i1', M1⟩ := led_all (a := true) C1 C2 (by omega) (by omega)
    have a0 := led_app (a := false) C2 C1 (by omega) (by omega) hn.symm
    have a1 := led_app (a := true) C1 C2 (by omega) (by omega) hn.symm
    have c0 := led_app (a := false) C2 C1 (by omega) (by omega) (cod_len n)
    have c1 := led_app (a := true) C1 C2 (by omega) (by omega) (cod_len n)
    simp only [Bool.false_eq_true, if_false] at a0 c0
    simp only [if_true] at a1 c1
    rw [← go0] at F0 G0
    rw [← go1] at F1 G1
    simp
    refine llawK (w := false) (n := mks P1) (by rw [al_len]; exact e1) (by omega) (by omega) (al_ok C1.sg (n + 1)) okB ok0 G0 (q9.get g1) fun Ha qa => ?_
    rw [← F0]
    simp
    refine llawK (w := true) (n := mks P2) (by rw [al_len]; exact e2) (by omega) (by omega) (al_ok C2.sg (n + 1)) okB ok1 G1 (qa.get g2') fun Hb qb => ?_
    rw [← F1]
    clear F0 F1 G0 G1 go0 go1 ok0 ok1 i0' i1'
    have l0 := W0.len
    have l1 := W1.len
    have bo0 : (boS t s1 (look kv1) s2 (look kv2) (n + 1)).length ≤ 1000 := by rw [← sg0, List.length_map]; exact lB
    generalize hA : ledF false P2 P1 = A at *
    generalize hC : ledF true P1 P2 = C at *
    simp
    refine ⟨by decide, ?_⟩
    refine besideK V1 V2 (by omega) (by omega) (by omega) ?_
    rw [hA, hC]
    have ep := eq_pair W0.ok W1.ok
    simp [ep]
    refine lc_filG (A := List Pt) (fun P => .tup (ptsD P)) (fun P => .tup (ptsD P)) (fun _ => false) rfl [A, C] [] (fun z hz => ⟨_, a_nm 19 _, fun T hT => ?_, fun T hT => ?_⟩) (by show 0 + 2 ≤ 16777216; decide) ?_
    · have vz : Vd z := by
        simp only [List.mem_cons, List.not_mem_nil, or_false] at hz
        rcases hz with rfl | rfl
        · exact W0
        · exact W1
      simp
      refine isT vz ?_
      simp
      exact hT
    · simp
      exact hT
    · have cn : cmpD .NotEq (.lv []) (.lv []) = some false := rfl
      simp [cn]
      refine ⟨rfl, ?_⟩
      refine lc_mapG (A := X) X.d (fun x => .str [x.sgn t]) rfl B [] (fun x hx => ⟨_, a_nm 18 _, fun T hT => ?_⟩) (by show 0 + B.length ≤ 16777216; omega) ?_
      · cases x with
        | one c => simp [X.d, tOne]; exact hT
        | oth c => simp [X.d, tOth]; exact hT
        | old p =>
          have hp := oB p hx
          have tp : t[p]? = some (t.getD p 0) := by
            rw [List.getD_eq_getElem?_getD, List.getElem?_eq_getElem (show p < t.length by omega)]; rfl
          have sa := str_at (t := t) (i := ((p : Nat) : Int)) (by omega) rfl tp
          simp [X.d, tOld, sa]
          exact hT
      · have em : B.map (fun x => D.str [x.sgn t]) = oneD (boS t s1 (look kv1) s2 (look kv2) (n + 1)) := by
          rw [← sg0]; unfold oneD; rw [List.map_map]; rfl
        rw [List.nil_append, em]
        have jo := join_one (ts := boS t s1 (look kv1) s2 (look kv2) (n + 1)) (by omega)
        generalize boS t s1 (look kv1) s2 (look kv2) (n + 1) = Z at *
        have jn : ∀ H : HH, mtE .join (.str []) [.lv (oneD Z)] H = .ok (.str Z) H := fun H => by
          show Rs.ofO (mtD .join (.str []) [.lv (oneD Z)]) H = _
          rw [jo]; rfl
        simp [jn]
        have la1 : (app t P1 0).length = mks P1 := app_len (by omega)
        have la2 : (app t P2 0).length = mks P2 := app_len (by omega)
        refine changedOk (by have := V1.len; omega) V1.ok (by omega) (by omega) (by omega) ?_
        simp
        refine changedOk (by omega) W0.ok (by omega) (by omega) (by rw [a0]; omega) ?_
        rw [a0]
        simp
        refine changedOk (by have := V2.len; omega) V2.ok (by omega) (by omega) (by omega) ?_
        simp
        refine changedOk (by omega) W1.ok (by omega) (by omega) (by rw [a1]; omega) ?_
        rw [a1]
        simp
        refine behindK V1 W0 k0.symm ?_
        obtain ⟨VC, wC, kC, mC⟩ := comp_all V1 W0 k0.symm
        have ec : compF P2 C = compF P1 A := by
          unfold compF mk
          rw [w1, w2, c0, c1]
        simp
        refine behindK V2 W1 k1.symm ?_
        rw [ec]
        have qc := (eq_self VC.ok).1
        simp [qc]
        refine wantP (by omega) ?_
        rw [k0]
        simp
        refine mksP (by have := V1.len; omega) V1.ok ?_
        simp
        have ig := int_gt hN
        have sd := still_d hN
        obtain ⟨vs, ws, ms, _⟩ := still_all (n := n) (by omega)
        obtain ⟨M, hM⟩ : ∃ M : Int, M = ((mks P1 : Nat) : Int) := ⟨_, rfl⟩
        obtain ⟨vl, wl, ml, _⟩ := still_all (n := mks P1) (by omega)
        refine lm (by decide) ?_
        refine lm (by decide) ?_
        simp [-b_repL, ig, sd]
        refine mksP (by have := V1.len; omega) V1.ok ?_
        rw [← hM]
        have ig2 := int_gt hM
        have sd2 := still_d hM
        simp
        refine lm (by decide) ?_
        refine lm (by decide) ?_
        refine mksP (by have := V1.len; omega) V1.ok ?_
        rw [← hM]
        simp [ig2, sd2]
        refine besideK V1 vs (by omega) (by omega) (by omega) ?_
        have ls1 : ledF false (stillF n) P1 = stillF (mks P1) := by have := led_still (a := false) V1 (by omega); rwa [w1] at this
        have ls2 : ledF true (stillF n) P1 = stillF (mks P1) := by have := led_still (a := true) V1 (by omega); rwa [w1] at this
        have ls3 : ledF true P1 (stillF n) = P1 := by have := still_led (a := true) V1; rwa [w1] at this
        have ls4 : ledF false P1 (stillF n) = P1 := by have := still_led (a := false) V1; rwa [w1] at this
        rw [ls1, ls3]
        have ep1 := eq_pair vl.ok V1.ok
        have ep2 := eq_pair V1.ok vl.ok
        simp [ep1]
        refine lm (by decide) ?_
        refine besideK vs V1 (by omega) (by omega) (by omega) ?_
        rw [ls4, ls2]
        simp [ep2]
        have ed : D.tup [.tup [.str [100, 114, 111, 112], .int (N + 1)]] = .tup (ptsD [.dr (n + 1)]) := by rw [hN]; rfl
        have wd : want [.dr (n + 1)] = n + 1 := rfl
        refine lm (by decide) ?_
        refine lm (by decide) ?_
        rw [ed]
        refine refusedB (P := P1) (R := [.dr (n + 1)]) V1.len (by simp) (by omega) ?_
        have c1' : ((((want [.dr (n + 1)] : Nat) : Int)) == N + 1) = true := by rw [wd, hN]; simp
        simp [c1']
        refine lm (by decide) ?_
        refine lm (by decide) ?_
        rw [ed]
        refine refusedB (P := [.dr (n + 1)]) (R := P1) (by simp) V1.len (by omega) ?_
        have c2' : ((((want P1 : Nat) : Int)) == N) = true := by rw [w1, hN]; simp
        simp [c2']
        exact ⟨hx, _, _, _, _, _, _, _, _, _, _, _, _, _, _, _, _, _, _, _, rfl⟩
  · rintro s H ⟨hx, x1, x2, x3, x4, x5, x6, x7, x8, x9, x10, x11, x12, x13, x14, x15, x16, x17, x18, x19, rfl⟩
    simp
    repeat (refine lm (by decide) ?_)
    have VA : Vd [.pu [97], .kp 1] := ⟨fun p hp => by
      simp only [List.mem_cons, List.not_mem_nil, or_false] at hp
      rcases hp with rfl | rfl
      · exact ⟨by simp, by simp, by decide⟩
      · exact kp1, rfl, by simp, by simp [want], by simp [mks]⟩
    have VB : Vd [.pu [98], .dr 1] := ⟨fun p hp => by
      simp only [List.mem_cons, List.not_mem_nil, or_false] at hp
      rcases hp with rfl | rfl
      · exact ⟨by simp, by simp, by decide⟩
      · exact dr1, rfl, by simp, by simp [want], by simp [mks]⟩
    have VC : Vd [.kp 1, .pu [98], .dr 1] := ⟨fun p hp => by
      simp only [List.mem_cons, List.not_mem_nil, or_false] at hp
      rcases hp with rfl | rfl | rfl
      · exact kp1
      · exact ⟨by simp, by simp, by decide⟩
      · exact dr1, rfl, by simp, by simp [want], by simp [mks]⟩
    have ea : ledF false [.pu [98], .dr 1] [.pu [97], .kp 1] = [.kp 1, .pu [98], .dr 1] := by
      have h := self_due VC
      exact h
    have eb : ledF true [.pu [97], .kp 1] [.pu [98], .dr 1] = [.pu [97], .kp 1] := by
      have h := self_due VA
      exact h
    refine besideK (P := [.pu [97], .kp 1]) (R := [.pu [98], .dr 1]) VA VB rfl (by simp [mks]) (by simp [mks]) ?_
    rw [ea, eb]
    have ep := eq_pair VC.ok VA.ok
    have ep : cmpD .NotEq (.tup [.tup (ptsD [.kp 1, .pu [98], .dr 1]), .tup (ptsD [.pu [97], .kp 1])]) (.tup [.tup [.tup [.str [107, 101, 101, 112], .int 1], .tup [.str [112, 117, 116], .str [98]], .tup [.str [100, 114, 111, 112], .int 1]], .tup [.tup [.str [112, 117, 116], .str [97]], .tup [.str [107, 101, 101, 112], .int 1]]]) = some false := ep
    simp [ep]
    repeat (refine lm (by decide) ?_)
    refine refusedB (P := [.kp 1]) (R := []) (by decide) (by decide) (by decide) ?_
    have z0 : want [] = 0 := rfl
    rw [z0]
    simp
    repeat (refine lm (by decide) ?_)
    refine refusedB (P := []) (R := [.pu [97], .dr 2]) (by decide) (by decide) (by decide) ?_
    have z2 : want [.pu [97], .dr 2] = 2 := rfl
    rw [z2]
    simp
end K04
namespace K04
open PySem PySem.Spec PyProof.Rows L2 DI
theorem reach (v : ∀ ns : List Int, ns.length ≤ 63 → ∃ Hd, callN Pg 100 24 [.fz (ns.map D.int)] [] = .ok (.bl true) Hd) {w : World} {mg : Str → Option Value} {f : Addr} {h : Heap} (Y : hk.says w h) (G : h.Ns mainGlobals mg) (hmg : mg ("law" : Str) = some (.ref f)) :
    ∃ (K : PySem.W.Frag) (fd : FuncData) (G : Gr) (F : List D → HH → Rs D), K.In h ∧ G.K = K ∧ (∀ (s : Shared) (u : Value), BindsTo s fd ⟨[u], []⟩ [("_law_script", u)]) ∧ (∀ ns : List Int, ns.length ≤ 63 → ∃ Hd, F [.fz (ns.map D.int)] [] = .ok (.bl true) Hd) ∧
      ∀ base : Heap, K.In base → base.Ns mainGlobals mg → FnG (PySem.Challenge.rw_pagesofproofs_k04_changes_beside_one_ano).prog w K mg base G 102 f fd ["_law_script"] F := by
  obtain ⟨K, X, c⟩ := Y
  obtain ⟨fd, F⟩ := c.d.def_ 24 (d := d24) rfl
  have e := hmg.symm.trans (He.glo_ok X G (c.d.fact 24 (f := .glo "law") rfl))
  cases e
  have bd := FunD.bindsA (ps := ["_law_script"]) F fun _ _ _ _ _ _ us hl => match us, hl with | [_], _ => rfl
  refine ⟨K, fd, gr K, callN Pg 100 24, X, rfl, fun s u => bd s [u] rfl, v, fun base Xb Yb => ?_⟩
  have M := md X G c
  have IH := all (P := (PySem.Challenge.rw_pagesofproofs_k04_changes_beside_one_ano).prog) (w := w) (base := base) X G c 99
  refine fn_g (fD := f24) (cfg := ⟨callN Pg 99, fun g => match (Pg.fns[g]? : Option Fd) with | some h => h.dfl | none => [], Pg.consts, Pg.fuel⟩) F s24 c24 rfl rfl rfl ⟨M.K, M.blt, M.exc, M.exk, M.iso, M.con⟩ (hx X G c 99) fun i y hy => ?_
  obtain ⟨a, fd, ps, h1, h2⟩ := IH i y hy
  exact ⟨a, fd, ps, h1, h2⟩
end K04
open PySem PySem.W PySem.Calls PyProof.Rows
theorem PySem.Challenge.cw_pagesofproofs_k04_changes_beside_one_ano_holds : PySem.Challenge.rw_pagesofproofs_k04_changes_beside_one_ano.Holds := by
  w_on; o_law
  refine HandSHeadRun.head_any (r := OpenLaw.row PySem.Challenge.rw_pagesofproofs_k04_changes_beside_one_ano) (q := view (OpenLaw.row PySem.Challenge.rw_pagesofproofs_k04_changes_beside_one_ano).prog [30]) (H := K04.hk) (ob := K04.ob) (M := 2260) (loose := K04.loose) (d := HandSHeadRun.topDef (OpenLaw.row PySem.Challenge.rw_pagesofproofs_k04_changes_beside_one_ano).prog 30) (kwd := []) K04.ob_eq
    (by kernel_rfl) (fun s => by kernel_rfl) K04.run (by kernel_rfl) (by kernel_rfl) (by kernel_rfl) (by rfl) (by first | assumption | decide +kernel) (by decide +kernel) ⟨rfl, rfl, rfl, rfl, rfl, by decide +kernel⟩ ?hw ?hc
  case hw => w_witness2
  case hc =>
    refine DI.walk_g (l := PySem.Challenge.rw_pagesofproofs_k04_changes_beside_one_ano) (n := 63) (k := 102) (x := "_law_script") rfl (by decide) (by kernel_rfl) ⟨rfl, by decide, by decide⟩ fun w mg f h Y G hm0 => ?_
    have hm : mg ("law" : PySem.Str) = some (.ref f) := by
      rw [← show (HandSHeadRun.topDef (OpenLaw.row PySem.Challenge.rw_pagesofproofs_k04_changes_beside_one_ano).prog 30).name = ("law" : PySem.Str) by kernel_rfl]
      exact hm0
    exact K04.reach K04.value Y G hm
