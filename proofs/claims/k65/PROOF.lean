import PyProof.Rows.All
import Wide.All
import OpenK.AllK
import Wide.FinOn
import HandS.ForMost
import HandS.Flow
import HandS.Style
import HandS.Wide
import HandS.TupAny
import HandS.Walk
import HandS.Zip
import HandS.Rev
import HandS.Deep
import HandS.Exc
import HandS.ExcOwn
import HandS.TryOnly
import HandS.CallSlots
import HandS.RaiseMore
import HandS.Defaults
import HandS.TupLe
import KE.SortData
import HandS.TupMul
import HandS.IsInst
import PyProof.ListStr
import HandS.Conv
import KE.KUnpackStar
import KE.GoesMore
import HandS.Steps
import HandS.Codes
import HandS.SetFor
import HandS.DictComp
import HandS.More
import HandS.ReplaceLit
import HandS.ReplaceList
import HandS.ExcInit
import HandS.ExcField
import HandS.ExcIs
import KE.KExcIs
import KE.KIsAll
import HandS.HeadHook1
import HandS.HeadHook2
import HandS.Ends
import HandS.HeadEnd
import HandS.HeadHook3
import PyProof.StrLawsRepr
import HandS.Head0
import HandS.Head1
import HandS.Head2
import HandS.Words
import PySem.Challenge.RW_pagesofproofs_k65_changes_written
set_option Elab.async false
set_option linter.all false
set_option maxRecDepth 100000
set_option maxHeartbeats 0
namespace DI
open PySem

/-- a value: pure data, or a live object of the evaluator's heap -/
inductive D where
  | non | bl (b : Bool) | int (i : Int) | str (x : List Nat)
  | tup (xs : List D)
  /-- a list that nobody changes any more -/
  | lv (xs : List D)
  /-- the same, known to the world by its very object (the script) -/
  | fz (xs : List D)
  /-- a dict, a set that nobody changes any more -/
  | dv (ks vs : List D) | sv (xs : List D)
  /-- a live object -/
  | ref (n : Nat)
  /-- a class of the text, a builtin class -/
  | cls (c : Nat) | ty (n : String)
  deriving Inhabited

/-- a live object -/
inductive HD where
  | lst (xs : List D)
  | dic (ks vs : List D)
  | ins (c : Nat) (fs : List (Nat × D))
  deriving Inhabited
abbrev HH := List HD

/-- an exception: a class of the text by its number, or a builtin one; its field -/
inductive XC where
  | own (c : Nat) | blt (n : String)
  deriving Inhabited, DecidableEq
structure XV where
  cls : XC
  fld : Option D
  deriving Inhabited

inductive Rs (A : Type) where
  | ok (a : A) (H : HH)
  | ex (e : XV) (H : HH)
  | no
  deriving Inhabited
abbrev M (A : Type) := HH → Rs A
abbrev Sd := List (Option D)

def Rs.bind {A B : Type} (r : Rs A) (f : A → HH → Rs B) : Rs B := match r with
  | .ok a H => f a H
  | .ex e H => .ex e H
  | .no => .no
@[simp] theorem Rs.bind_ok {A B : Type} (a : A) (H : HH) (f : A → HH → Rs B) : (Rs.ok a H).bind f = f a H := rfl
@[simp] theorem Rs.bind_ex {A B : Type} (e : XV) (H : HH) (f : A → HH → Rs B) : (Rs.ex e H : Rs A).bind f = .ex e H := rfl
@[simp] theorem Rs.bind_no {A B : Type} (f : A → HH → Rs B) : (Rs.no : Rs A).bind f = .no := rfl
def Rs.ofO {A : Type} (o : Option A) (H : HH) : Rs A := match o with
  | some a => .ok a H
  | none => .no
@[simp] theorem Rs.ofO_some {A : Type} (a : A) (H : HH) : Rs.ofO (some a) H = .ok a H := rfl
@[simp] theorem Rs.ofO_none {A : Type} (H : HH) : Rs.ofO (none : Option A) H = .no := rfl

mutual
def eqD : D → D → Bool
  | .non, .non => true
  | .bl a, .bl b => a == b
  | .bl a, .int j => (if a then 1 else 0) == j
  | .int i, .bl b => i == (if b then 1 else 0)
  | .int i, .int j => i == j
  | .str x, .str y => x == y
  | .tup xs, .tup ys => eqDs xs ys
  | .lv xs, .lv ys => eqDs xs ys
  | _, _ => false
def eqDs : List D → List D → Bool
  | [], [] => true
  | x :: xs, y :: ys => eqD x y && eqDs xs ys
  | _, _ => false
end
mutual
/-- plain data: what == and repr take -/
def plainD : D → Bool
  | .non => true
  | .bl _ => true
  | .int _ => true
  | .str _ => true
  | .tup xs => plainDs xs
  | .lv xs => plainDs xs
  | _ => false
def plainDs : List D → Bool
  | [] => true
  | x :: xs => plainD x && plainDs xs
end
mutual
def depthD : D → Nat
  | .tup xs => depthDs xs + 1
  | .lv xs => depthDs xs + 1
  | _ => 0
def depthDs : List D → Nat
  | [] => 0
  | x :: xs => max (depthD x) (depthDs xs)
end
mutual
/-- the very same data -/
def same : D → D → Bool
  | .non, .non => true
  | .bl a, .bl b => a == b
  | .int i, .int j => i == j
  | .str x, .str y => x == y
  | .tup xs, .tup ys => sames xs ys
  | .lv xs, .lv ys => sames xs ys
  | .fz xs, .fz ys => sames xs ys
  | .dv ks vs, .dv ks' vs' => sames ks ks' && sames vs vs'
  | .sv xs, .sv ys => sames xs ys
  | .ref n, .ref m => n == m
  | .cls n, .cls m => n == m
  | .ty n, .ty m => n == m
  | _, _ => false
def sames : List D → List D → Bool
  | [], [] => true
  | x :: xs, y :: ys => same x y && sames xs ys
  | _, _ => false
end
mutual
/-- nothing live within -/
def noRef : D → Bool
  | .tup xs => noRefs xs
  | .lv xs => noRefs xs
  | .fz xs => noRefs xs
  | .dv ks vs => noRefs ks && noRefs vs
  | .sv xs => noRefs xs
  | .ref _ => false
  | _ => true
def noRefs : List D → Bool
  | [] => true
  | x :: xs => noRef x && noRefs xs
end
end DI
namespace DI
open PySem

abbrev lim : Nat := 16777216
theorem lim_eq : lim = sizeLine := PySem.sizeLine_eq.symm

/-- a live list or dict as the data that it is now -/
def viewD (H : HH) (d : D) : D := match d with
  | .ref r => match H[r]? with
    | some (.lst xs) => .lv xs
    | some (.dic ks vs) => .dv ks vs
    | _ => d
  | _ => d

def atD (xs : List D) (i : Int) : Option D := L2.atI xs i
def cutD {A : Type} (xs : List A) (lo hi : Option Int) : List A :=
  (xs.drop (HT.sIx xs.length 0 lo)).take (HT.sIx xs.length xs.length hi - HT.sIx xs.length 0 lo)
def smallI (i : Int) : Bool := decide (-(2 ^ 64) < i ∧ i < 2 ^ 64)

def binD (o : Operator) (x y : D) : Option D := match o with
  | .Add => match x, y with
    | .int i, .int j => some (.int (i + j))
    | .str a, .str b => if a.length + b.length ≤ lim then some (.str (a ++ b)) else none
    | .lv a, .lv b => if a.length + b.length ≤ lim then some (.lv (a ++ b)) else none
    | .tup a, .tup b => if a.length + b.length ≤ lim then some (.tup (a ++ b)) else none
    | _, _ => none
  | .Sub => match x, y with
    | .int i, .int j => some (.int (i - j))
    | _, _ => none
  | .Mult => match x, y with
    | .int i, .int j => if smallI i || smallI j then some (.int (i * j)) else none
    | .str a, .int j => if smallI (4 * j) && decide (a.length * j.toNat ≤ lim) then some (.str (List.replicate j.toNat a).flatten) else none
    | .lv a, .int j => if smallI (4 * j) && decide (a.length * j.toNat ≤ lim) then some (.lv (List.replicate j.toNat a).flatten) else none
    | .tup a, .int j => if a.isEmpty then none else if j = 0 then some (.tup []) else if j = 1 then some (.tup a) else none
    | _, _ => none
  | .FloorDiv => match x, y with
    | .int i, .int j => if decide (0 < j) && decide (j < 1073741824) then some (.int (i / j)) else none
    | _, _ => none
  | .Mod => match x, y with
    | .int i, .int j => if 0 < j then some (.int (i % j)) else none
    | _, _ => none
  | .Pow => match x, y with
    | .int i, .int j => if smallI i && decide (0 ≤ j) && decide (j ≤ 1000) && decide (i.natAbs < 2 ^ 64) then some (.int (i ^ j.toNat)) else none
    | _, _ => none
  | _ => none

mutual
/-- its texts are of signs that there are -/
def okS : D → Bool
  | .str x => x.all (· < 0x110000)
  | .tup xs => okSs xs
  | .lv xs => okSs xs
  | _ => true
def okSs : List D → Bool
  | [] => true
  | x :: xs => okS x && okSs xs
end
/-- may be compared by == -/
def eqOk (d : D) : Bool := plainD d && okS d && decide (depthD d ≤ 64)
def flatD : D → Bool
  | .non => true | .bl _ => true | .int _ => true | .str _ => true | _ => false

def inD (x y : D) : Option Bool := match y with
  | .lv ys => if eqOk x && eqOk (.lv ys) then some (ys.any fun z => eqD z x) else none
  | .tup ys => if flatD x && ys.all flatD then some (ys.any fun z => eqD z x) else none
  | .str z => match x with
    | .str [c] => some (decide (c ∈ z))
    | _ => none
  | _ => none
def eqO (x y : D) : Option Bool := match x, y with
  | .str a, .str b => some (a == b)
  | _, _ => if eqOk x && eqOk y then some (eqD x y) else none
/-- a list of whatever beside an empty one: by how many -/
def eqN (x y : D) : Option Bool := match x, y with
  | .lv xs, .lv [] => some xs.isEmpty
  | _, _ => eqO x y
def cmpD (o : CmpOp) (x y : D) : Option Bool := match o with
  | .Eq => eqN x y
  | .NotEq => (eqO x y).map (!·)
  | .Lt => match x, y with | .int i, .int j => some (decide (i < j)) | _, _ => none
  | .LtE => match x, y with | .int i, .int j => some (decide (i ≤ j)) | _, _ => none
  | .Gt => match x, y with | .int i, .int j => some (decide (j < i)) | _, _ => none
  | .GtE => match x, y with | .int i, .int j => some (decide (j ≤ i)) | _, _ => none
  | .In => inD x y
  | .NotIn => (inD x y).map (!·)
  | .Is => match y with | .non => some (match x with | .non => true | _ => false) | .bl b => (match x with | .bl a => some (decide (a = b)) | _ => none) | _ => none
  | .IsNot => match y with | .non => some (match x with | .non => false | _ => true) | .bl b => (match x with | .bl a => some (!decide (a = b)) | _ => none) | _ => none

def truD (x : D) : Option Bool := match x with
  | .non => some false
  | .bl b => some b
  | .int i => some (i != 0)
  | .str y => if y.length ≤ lim then some ((y.length : Int) != 0) else none
  | .lv xs => some (!xs.isEmpty)
  | .tup xs => some (!xs.isEmpty)
  | _ => none

def ixD (x y : D) : Option D := match x, y with
  | .lv xs, .int i => atD xs i
  | .fz xs, .int i => atD xs i
  | .tup xs, .int i => atD xs i
  | .str xs, .int i => if xs.length ≤ lim then (L2.atI xs i).map fun c => .str [c] else none
  | _, _ => none
def slD (x : D) (lo hi : Option Int) : Option D := match x with
  | .lv xs => some (.lv (cutD xs lo hi))
  | .fz xs => some (.lv (cutD xs lo hi))
  | .tup xs => some (.tup (cutD xs lo hi))
  | .str xs => if xs.length ≤ lim then some (.str (cutD xs lo hi)) else none
  | _ => none

def keyOk : D → Bool
  | .int _ => true
  | .str _ => true
  | _ => false
def eqK : D → D → Bool
  | .int i, .int j => decide (i = j)
  | .str x, .str y => decide (x = y)
  | _, _ => false
def dgetL : List D → List D → D → Option D
  | k :: ks, v :: vs, x => if eqK k x then some v else dgetL ks vs x
  | _, _, _ => none
def dsetL : List D → List D → D → D → List D
  | k :: ks, v :: vs, x, d => (if eqK k x then d else v) :: dsetL ks vs x d
  | _, _, _, _ => []
def dputL (ks vs : List D) (x d : D) : List D × List D := if (dgetL ks vs x).isSome then (ks, dsetL ks vs x d) else (ks ++ [x], vs ++ [d])
/-- o[k], o a dict; o.get(k, d) -/
def dgetD (x y : D) : Option D := match x with
  | .dv ks vs => if keyOk y then dgetL ks vs y else none
  | _ => none
def dget2D (x y z : D) : Option D := match x with
  | .dv ks vs => if keyOk y then some ((dgetL ks vs y).getD z) else none
  | _ => none
/-- .. of a dict of the module -/
def ggetD (ks vs : List D) : D → Option D
  | .str z => dgetL ks vs (.str z)
  | _ => none
def ginD (b : Bool) (ks vs : List D) : D → Option Bool
  | .str z => some (if b then (dgetL ks vs (.str z)).isSome else !(dgetL ks vs (.str z)).isSome)
  | _ => none
def gget2D (ks vs : List D) (y z : D) : Option D := match y with
  | .str x => some ((dgetL ks vs (.str x)).getD z)
  | _ => none
def gdat : Option D → List D × List D
  | some (.dv ks vs) => (ks, vs)
  | _ => ([], [])
def isDv : D → Bool
  | .dv _ _ => true
  | _ => false
inductive BI where
  | len | sum | int | str | repr | abs | max | min | tuple | list | all | any | sorted
  deriving DecidableEq, Inhabited
def intsOf : List D → Option (List Int)
  | [] => some []
  | .int i :: r => (intsOf r).map (i :: ·)
  | _ => none
def blsOf : List D → Option (List Bool)
  | [] => some []
  | .bl i :: r => (blsOf r).map (i :: ·)
  | _ => none
def strsOf : List D → Option (List (List Nat))
  | [] => some []
  | .str i :: r => (strsOf r).map (i :: ·)
  | _ => none

mutual
def toPy : D → PyData
  | .bl b => .bool b
  | .int i => .int i
  | .str x => .str ⟨x.toArray⟩
  | .tup xs => .tuple (toPys xs)
  | .lv xs => .list (toPys xs)
  | _ => .none
def toPys : List D → List PyData
  | [] => []
  | x :: xs => toPy x :: toPys xs
end
def leD (a b : D) : Bool := PySem.W.dataLe false toPy a b
def tupNe : D → Bool
  | .tup (_ :: _) => true
  | _ => false
def notNT : D → Bool
  | .non => false
  | .tup _ => false
  | _ => true
def okSort (xs : List D) : Bool := plainDs xs && ((xs.all fun a => xs.all fun b => PySem.W.alike (toPy a) (toPy b)) && ((xs.all tupNe || xs.all notNT) && (decide (xs.length ≤ lim) && xs.all fun a => decide (depthD a ≤ 50))))
def srtD (xs : List D) : Option D := if okSort xs then some (.lv (xs.mergeSort leD)) else none
def sortedD : D → Option D
  | .lv xs => srtD xs
  | .fz xs => srtD xs
  | .tup xs => srtD xs
  | _ => none
def showD (d : D) : List Nat := (toPy d).shown.cps.toList
def showOk (d : D) : Bool := plainD d && (toPy d).showable && decide (depthD d ≤ 64) && decide ((toPy d).shown.length ≤ lim)

def lenD : D → Option D
  | .str x => if x.length ≤ lim then some (.int x.length) else none
  | .lv x => some (.int x.length)
  | .fz x => some (.int x.length)
  | .tup x => some (.int x.length)
  | _ => none
def sumD : D → Option D
  | .lv x => (intsOf x).map fun ns => .int ns.sum
  | _ => none
/-- the number of a text of figures -/
def figD (x : List Nat) : Nat := x.foldl (fun a c => a * 10 + (c - 48)) 0
def intD : D → Option D
  | .int i => some (.int i)
  | .bl b => some (.int (if b then 1 else 0))
  | .str x => if x ≠ [] ∧ (x.all fun c => decide (48 ≤ c ∧ c ≤ 57)) = true ∧ x.length ≤ 640 then some (.int (figD x : Nat)) else none
  | _ => none
def absD : D → Option D
  | .int i => some (.int (if i < 0 then -i else i))
  | _ => none
def maxD : D → D → Option D
  | .int i, .int j => some (.int (if j > i then j else i))
  | _, _ => none
def minD : D → D → Option D
  | .int i, .int j => some (.int (if j < i then j else i))
  | _, _ => none
def numT (i : Int) : List Nat := (PySem.Str.ofString (toString i)).cps.toList
def strD : D → Option D
  | .str x => some (.str x)
  | .int i => if i.natAbs.log2 < 1920 then some (.str (numT i)) else none
  | _ => none
def tupleD : D → Option D
  | .lv x => some (.tup x)
  | .fz x => some (.tup x)
  | .tup x => some (.tup x)
  | _ => none
def listD : D → Option D
  | .str x => if x.length ≤ lim then some (.lv (x.map fun c => .str [c])) else none
  | .lv x => some (.lv x)
  | .fz x => some (.lv x)
  | .tup x => some (.lv x)
  | _ => none
def allD : D → Option D
  | .lv x => (blsOf x).map fun bs => .bl (bs.all id)
  | _ => none
def anyD : D → Option D
  | .lv x => (blsOf x).map fun bs => .bl (bs.any id)
  | _ => none
def maxL : List Int → Option Int
  | [] => none
  | n :: r => some (r.foldl max n)
def minL : List Int → Option Int
  | [] => none
  | n :: r => some (r.foldl min n)
def maxLD : D → Option D
  | .lv x => ((intsOf x).bind maxL).map .int
  | _ => none
def minLD : D → Option D
  | .lv x => ((intsOf x).bind minL).map .int
  | _ => none
def biD (b : BI) (xs : List D) : Option D := match xs with
  | [x] => match b with
    | .len => lenD x
    | .sum => sumD x
    | .int => intD x
    | .abs => absD x
    | .repr => if showOk x then some (.str (showD x)) else none
    | .str => strD x
    | .tuple => tupleD x
    | .list => listD x
    | .all => allD x
    | .any => anyD x
    | .sorted => sortedD x
    | .max => maxLD x
    | .min => minLD x
  | [x, y] => match b with
    | .max => maxD x y
    | .min => minD x y
    | _ => none
  | _ => none

inductive MT where
  | append | extend | index | join | isalpha | split | count
  deriving DecidableEq, Inhabited
def idxD (x : D) : List D → Nat → Option Nat
  | [], _ => none
  | z :: r, k => if eqD z x then some k else idxD x r (k + 1)
def joinL (sep : List Nat) : List (List Nat) → List Nat
  | [] => []
  | [x] => x
  | x :: y :: r => x ++ (sep ++ joinL sep (y :: r))
/-- a method that changes nothing, by views -/
def mtD (m : MT) (x : D) (xs : List D) : Option D := match m with
  | .index => match x, xs with
    | .lv ys, [y] => if eqOk y && eqOk (.lv ys) then (idxD y ys 0).map fun k => .int k else none
    | _, _ => none
  | .join => match x, xs with
    | .str s, [.lv ys] => match strsOf ys with
      | some zs => if (zs.map (·.length)).sum + zs.length * s.length ≤ lim then some (.str (joinL s zs)) else none
      | none => none
    | .str s, [.tup ys] => match strsOf ys with
      | some zs => if (zs.map (·.length)).sum + zs.length * s.length ≤ lim then some (.str (joinL s zs)) else none
      | none => none
    | _, _ => none
  | .count => match x, xs with
    | .lv ys, [y] => if eqOk y && eqOk (.lv ys) then some (.int ((ys.countP fun z => eqD z y : Nat) : Int)) else none
    | _, _ => none
  | .isalpha => match x, xs with
    | .str s, [] => some (.bl (Txt.isalpha ⟨s.toArray⟩))
    | _, _ => none
  | .split => match x, xs with
    | .str s, [.str b] => if b ≠ [] ∧ s.length + 2 ≤ lim then some (.lv ((Txt.split ⟨s.toArray⟩ ⟨b.toArray⟩).map fun y => .str y.cps.toList)) else none
    | _, _ => none
  | _ => none
/-- a method that changes a live list -/
def muD (m : MT) (x : D) (xs : List D) (H : HH) : Option (D × HH) := match x with
  | .ref r => match H[r]? with
    | some (.lst ys) => match m, xs with
      | .append, [y] => if ys.length < lim then some (.non, H.set r (.lst (ys ++ [y]))) else none
      | .extend, [y] => match viewD H y with
        | .lv zs => if ys.length + zs.length ≤ lim then some (.non, H.set r (.lst (ys ++ zs))) else none
        | _ => none
      | _, _ => none
    | _ => none
  | _ => none
/-- what a method's receiver must be -/
def rcvOk (m : MT) (x : D) : Bool := match m, x with
  | .append, .lv _ => true
  | .extend, .lv _ => true
  | .index, .lv _ => true
  | .join, .str _ => true
  | .isalpha, .str _ => true
  | .split, .str _ => true
  | .count, .lv _ => true
  | _, _ => false
def isMu : MT → Bool
  | .append => true
  | .extend => true
  | _ => false

def mtE (m : MT) (x : D) (ds : List D) (H : HH) : Rs D := if isMu m then match muD m x ds H with | some (d, H3) => .ok d H3 | none => .no
  else Rs.ofO (mtD m (viewD H x) (ds.map (viewD H))) H
mutual
inductive E where
  | loc (i : Nat) | cst (d : D) | glb (g : Nat)
  | tup (es : Es) | lst (es : Es) | lstR (es : Es)
  | bin (o : Operator) (a b : E) | binR (a b : E) | neg (a : E) | no (a : E)
  | cmp (o : CmpOp) (a b : E) | cmpF (o : CmpOp) (a b : E) | cmp2 (o p : CmpOp) (a b c : E)
  | and (a b : E) | or (a b : E) | ite (c a b : E)
  | ix (a b : E) | sl (a : E) (lo hi : OE) | rev (a : E)
  | call (f : Nat) (es ks : Es) (kw : List Nat) | pcall (f : Nat) (es ks : Es) (kw : List Nat)
  | bi (b : BI) (es : Es)
  | mt (m : MT) (o : E) (es : Es)
  | isi (a : E) (n : String)
  | lc (own : List Nat) (t : T) (i : I) (c : OE) (e : E)
  | lcR (own : List Nat) (t : T) (i : I) (c : OE) (e : E)
  | dnew | dget (a b : E) | dget2 (a b d : E)
  | lrg1 (a : E) | lrg2 (a b : E)
  | dc (own : List Nat) (t : T) (i : I) (c : OE) (ek ev : E) | dctP (es : Es)
  | lci (own : List Nat) (t : T) (i : Nat) (c : OE) (e : E) | din (a b : E)
  | dlit (es : Es)
  | mrk (c : List Nat) (ch : List (Nat × List Nat)) (e : E)
  | gget (g : Nat) (b : E) | gin (b : Bool) (g : Nat) (a : E) | gget2 (g : Nat) (a b : E)
inductive Es where | nil | cons (e : E) (r : Es)
inductive OE where | no | yes (e : E)
inductive I where | val (e : E) | range (es : Es) | enum (e : E) | zip (a b : E)
inductive T where | nm (i : Nat) | tp (ts : Ts)
inductive Ts where | nil | cons (t : T) (r : Ts) | st (t : T) (r : Ts)
end
mutual
inductive S where
  | asg (t : T) (e : E) | upk (t : T) (e : E) | sub (o i e : E) | dput (o i e : E) | par (i j : Nat) (a b : E) | aug (i : Nat) (o : Operator) (e : E) | ex (e : E)
  | ret (e : E) | retN | ite (c : E) (a b : Ss) | whl (c : E) (b : Ss) | forr (t : T) (i : I) (b : Ss)
  | brk | cnt | pas | never | rz (k : Nat) (e : E) | tryy (b : Ss) (k i : Nat) (h : D → Ss)
inductive Ss where | nil | cons (s : S) (r : Ss)
end

/-- how a statement ends -/
inductive Fl where | nx (s : Sd) | rt (d : D) | bk (s : Sd) | ct (s : Sd)
  deriving Inhabited
inductive RS where | go (f : Fl) (H : HH) | ex (e : XV) (s : Sd) (H : HH) | no
  deriving Inhabited

structure Cfg where
  call : Nat → List D → HH → Rs D
  dfl : Nat → List D
  consts : List D
  fuel : Nat

/-- two lists behind one another, live -/
def addR (x y : D) (H : HH) : Rs D := match x, y with
  | .lv xs, .lv ys => if xs.length + ys.length ≤ lim then .ok (.ref H.length) (H ++ [.lst (xs ++ ys)]) else .no
  | _, _ => .no

mutual
def frzD (H : HH) : Nat → D → Option D
  | 0, _ => none
  | n + 1, .ref r => match H[r]? with
    | some (.lst xs) => (frzDs H n xs).map .lv
    | _ => none
  | n + 1, .tup xs => (frzDs H n xs).map .tup
  | n + 1, .lv xs => (frzDs H n xs).map .lv
  | _ + 1, d => if noRef d then some d else none
def frzDs (H : HH) : Nat → List D → Option (List D)
  | 0, _ => none
  | _ + 1, [] => some []
  | n + 1, x :: xs => match frzD H n x, frzDs H n xs with
    | some a, some b => some (a :: b)
    | _, _ => none
end
/-- a comparison that looks into live lists wherever they stand -/
def cmpG (H : HH) (o : CmpOp) (x y : D) : Option Bool := match frzD H 1000 x, frzD H 1000 y with
  | some a, some b => if eqOk a && eqOk b then match o with
    | .Eq => some (eqD a b)
    | .NotEq => some (!eqD a b)
    | _ => none
    else none
  | _, _ => none
/-- a call whose result hangs on the arguments alone -/
def pcallD (call : Nat → List D → HH → Rs D) (f : Nat) (ds : List D) : Option (D ⊕ XV) :=
  if noRefs ds then match call f ds [] with
    | .ok d H => if noRef d then some (.inl d) else (frzD H 100000 d).map .inl
    | .ex e H => match e.fld with
      | none => some (.inr e)
      | some d => if noRef d then some (.inr e) else none
    | .no => none
  else none

/-- the arguments in the parameters' order -/
def permL {A : Type} (ds : List A) : List Nat → Option (List A)
  | [] => some []
  | k :: r => match ds[k]?, permL ds r with
    | some d, some l => some (d :: l)
    | _, _ => none

/-- the items of a walk, and what must stay as it is -/
abbrev Gd := List (Nat × List D)
def gdOk (g : Gd) (H : HH) : Bool := g.all fun p => match H[p.1]? with
  | some (.lst xs) => sames xs p.2
  | _ => false
def itemsD (H : HH) (d : D) : Option (List D × Gd) := match d with
  | .lv xs => some (xs, [])
  | .fz xs => some (xs, [])
  | .tup xs => some (xs, [])
  | .str x => some (x.map fun c => .str [c], [])
  | .ref r => match H[r]? with
    | some (.lst xs) => some (xs, [(r, xs)])
    | _ => none
  | _ => none
def rangeD1 : List D → Option (List D)
  | [.int j] => if decide (-(2 ^ 62) ≤ j) && decide (j < 2 ^ 62) then some ((List.range j.toNat).map fun (k : Nat) => .int k) else none
  | _ => none
def rangeD2 : List D → Option (List D)
  | [.int i, .int j] => if decide (-(2 ^ 62) ≤ i) && decide (i < 2 ^ 62) && decide (-(2 ^ 62) ≤ j) && decide (j < 2 ^ 62) then some ((List.range (j - i).toNat).map fun (k : Nat) => .int (i + (k : Nat))) else none
  | _ => none
def rangeD (ds : List D) : Option (List D) := match ds with
  | [x] => rangeD1 [x]
  | [x, y] => rangeD2 [x, y]
  | _ => none
/-- list(range(..)) -/
def lrgD (ds : List D) : Option D := match rangeD ds with
  | some xs => if xs.length ≤ lim then some (.lv xs) else none
  | none => none
/-- lists alone -/
def lsD (H : HH) (d : D) : Option (List D × Gd) := match d with
  | .tup _ => none
  | .str _ => none
  | d => itemsD H d
/-- what enumerate walks over: lists, strs -/
def enD (H : HH) (d : D) : Option (List D × Gd) := match d with
  | .str x => some (x.map fun c => .str [c], [])
  | .tup xs => some (xs, [])
  | d => lsD H d
def enumD (xs : List D) : List D := xs.zipIdx.map fun p => .tup [.int (p.2 : Nat), p.1]
def zipD (xs ys : List D) : List D := (xs.zip ys).map fun p => .tup [p.1, p.2]
def zipI (H : HH) (x y : D) : Option (List D × Gd) := match x, y with
  | .tup xs, .tup ys => some (zipD xs ys, [])
  | x, y => match lsD H x, lsD H y with
    | some p, some q => some (zipD p.1 q.1, p.2 ++ q.2)
    | _, _ => none

def forL (g : Gd) (tg : D → Sd → Option Sd) (body : Sd → HH → RS) : List D → Sd → HH → RS
  | [], s, H => if gdOk g H then .go (.nx s) H else .no
  | x :: xs, s, H => if gdOk g H then
      match tg x s with
      | some s1 => match body s1 H with
        | .go (.nx s2) H2 => forL g tg body xs s2 H2
        | .go (.ct s2) H2 => forL g tg body xs s2 H2
        | .go (.bk s2) H2 => .go (.nx s2) H2
        | .go (.rt d) H2 => .go (.rt d) H2
        | .ex e s2 H2 => .ex e s2 H2
        | .no => .no
      | none => .no
    else .no
def whileL (test : Sd → HH → Rs Bool) (body : Sd → HH → RS) : Nat → Sd → HH → RS
  | 0, _, _ => .no
  | n + 1, s, H => match test s H with
    | .ok true H1 => match body s H1 with
      | .go (.nx s2) H2 => whileL test body n s2 H2
      | .go (.ct s2) H2 => whileL test body n s2 H2
      | .go (.bk s2) H2 => .go (.nx s2) H2
      | .go (.rt d) H2 => .go (.rt d) H2
      | .ex e s2 H2 => .ex e s2 H2
      | .no => .no
    | .ok false H1 => .go (.nx s) H1
    | .ex e H1 => .ex e s H1
    | .no => .no
def wipeD (s : Sd) : List Nat → Sd
  | [] => s
  | v :: vs => (wipeD s vs).set v none
/-- where nothing may be raised -/
def Rs.bindN {A B : Type} (r : Rs A) (f : A → HH → Rs B) : Rs B := match r with
  | .ok a H => f a H
  | _ => .no
@[simp] theorem Rs.bindN_ok {A B : Type} (a : A) (H : HH) (f : A → HH → Rs B) : (Rs.ok a H).bindN f = f a H := rfl
/-- a comprehension: the items made -/
def lcL (g : Gd) (tg : D → Sd → Option Sd) (test : Sd → HH → Rs Bool) (elt : Sd → HH → Rs D) (s : Sd) : List D → List D → HH → Rs (List D)
  | [], acc, H => if gdOk g H then .ok acc H else .no
  | x :: xs, acc, H => if gdOk g H then
      match tg x s with
      | some s1 => (test s1 H).bindN fun b H2 =>
        if b then (elt s1 H2).bindN fun d H3 => if acc.length < lim then lcL g tg test elt s xs (acc ++ [d]) H3 else .no
        else lcL g tg test elt s xs acc H2
      | none => .no
    else .no

/-- a dict comprehension: keys and values -/
def dcL (g : Gd) (tg : D → Sd → Option Sd) (test : Sd → HH → Rs Bool) (ek ev : Sd → HH → Rs D) (s : Sd) : List D → List D × List D → HH → Rs (List D × List D)
  | [], acc, H => if gdOk g H then .ok acc H else .no
  | x :: xs, acc, H => if gdOk g H then
      match tg x s with
      | some s1 => (test s1 H).bindN fun b H2 =>
        if b then (ek s1 H2).bindN fun y H3 => (ev s1 H3).bindN fun z H4 => if keyOk y = true ∧ acc.1.length < lim then dcL g tg test ek ev s xs (dputL acc.1 acc.2 y z) H4 else .no
        else dcL g tg test ek ev s xs acc H2
      | none => .no
    else .no
/-- dict of pairs -/
def prD : D → Option (D × D)
  | .tup [k, v] => if keyOk k then some (k, v) else none
  | _ => none
def mrgL : List D → List D × List D → Option (List D × List D)
  | [], acc => some acc
  | x :: r, acc => match prD x with
    | some q => mrgL r (dputL acc.1 acc.2 q.1 q.2)
    | none => none
/-- the pairs of a display -/
def litL : List D → List D × List D → Option (List D × List D)
  | [], acc => some acc
  | k :: v :: r, acc => if keyOk k then litL r (dputL acc.1 acc.2 k v) else none
  | [_], _ => none
def litD (ds : List D) : Option (List D × List D) := if ds.length ≤ 30 then litL ds ([], []) else none
def dictPD (x : D) : Option (List D × List D) := match x with
  | .lv ps => mrgL ps ([], [])
  | _ => none
/-- what a comprehension tells: frozen or live -/
def endL (b : Bool) (ds : List D) (H : HH) : Rs D := if b then .ok (.ref H.length) (H ++ [.lst ds]) else .ok (.lv ds) H
/-- a key in a dict -/
def dinD (x y : D) : Option Bool := match x with
  | .dv ks vs => if keyOk y then some (dgetL ks vs y).isSome else none
  | _ => none
/-- the slots that hold nothing live -/
def norfS (s : Sd) : Sd := s.map fun o => match o with
  | some d => if noRef d then some d else none
  | none => none
/-- the pairs of a dict -/
def itmD (ks vs : List D) : List D := (ks.zip vs).map fun p => .tup [p.1, p.2]
/-- a comprehension over the items of a live dict in slot i -/
def lciF (tg : D → Sd → Option Sd) (test : Sd → HH → Rs Bool) (elt : Sd → HH → Rs D) (own : List Nat) (i : Nat) : Sd → HH → Rs D := fun s H => match s[i]? with
  | some (some (.ref r)) => (match H[r]? with
    | some (.dic ks vs) => if noRefs vs then (lcL [] tg test elt (wipeD (norfS s) own) (itmD ks vs) [] []).bindN fun ds _ => if noRefs ds then .ok (.lv ds) H else .no else .no
    | _ => .no)
  | _ => .no
def lenTs : Ts → Nat
  | .nil => 0
  | .cons _ r => lenTs r + 1
  | .st _ r => lenTs r + 1
/-- where the starred one is -/
def stIx : Ts → Option Nat
  | .nil => none
  | .cons _ r => (stIx r).map (· + 1)
  | .st _ _ => some 0
mutual
def asT : T → D → Sd → Option Sd
  | .nm i, d, s => some (s.set i (some d))
  | .tp ts, d, s => match d with
    | .tup xs => asTs ts xs s
    | .lv xs => asTs ts xs s
    | _ => none
def asTs : Ts → List D → Sd → Option Sd
  | .nil, [], s => some s
  | .cons t r, x :: xs, s => match asT t x s with
    | some s1 => asTs r xs s1
    | none => none
  | .st t r, xs, s => if stIx r = none ∧ lenTs r ≤ xs.length then match asT t (.lv (xs.take (xs.length - lenTs r))) s with
    | some s1 => asTs r (xs.drop (xs.length - lenTs r)) s1
    | none => none else none
  | _, _, _ => none
end
/-- a, b = l, l a list, live or not -/
def asV (H : HH) (t : T) (d : D) (s : Sd) : Option Sd := match t with
  | .tp ts => (match viewD H d with | .lv xs => asTs ts xs s | _ => none)
  | _ => none
mutual
/-- the places that a pattern stores -/
def slT : T → List Nat
  | .nm i => [i]
  | .tp ts => slTs ts
def slTs : Ts → List Nat
  | .nil => []
  | .cons t r => slT t ++ slTs r
  | .st t r => slT t ++ slTs r
end

/-- one sign put otherwise, wherever it stands; then the next -/
def markS (c : Nat) (z l : List Nat) : List Nat := l.flatMap fun d => if d = c then z else [d]
def markL : List (Nat × List Nat) → List Nat → List Nat
  | [], l => l
  | (c, z) :: r, l => markL r (markS c z l)
def fitsM : List (Nat × List Nat) → List Nat → Bool
  | [], _ => true
  | (c, z) :: r, l => decide (l.length + (l.length + 1) * z.length ≤ 16777216) && fitsM r (markS c z l)
def mrkD (x : List Nat) (ch : List (Nat × List Nat)) : D → Option D
  | .str l => if fitsM ch l = true ∧ x.length + (markL ch l).length ≤ lim then some (.str (x ++ markL ch l)) else none
  | _ => none
def tyIs (n : String) (x : D) : Option Bool := match x with
  | .non => some (n == "NoneType")
  | .bl _ => some (n == "bool" || n == "int")
  | .int _ => some (n == "int")
  | .str _ => some (n == "str")
  | .tup _ => some (n == "tuple")
  | .lv _ => some (n == "list")
  | .dv _ _ => some (n == "dict")
  | _ => none
def callD (c : Cfg) (f : Nat) (kw : List Nat) (ds zs : List D) (H : HH) : Rs D := match permL (ds ++ zs ++ c.dfl f) kw with
  | some l => c.call f l H
  | none => .no
def pcallE (c : Cfg) (f : Nat) (kw : List Nat) (ds zs : List D) (H : HH) : Rs D := match permL (ds ++ zs ++ c.dfl f) kw with
  | some l => match pcallD c.call f l with
    | some (.inl d) => .ok d H
    | some (.inr e) => .ex e H
    | none => .no
  | none => .no
mutual
def evE (c : Cfg) : E → Sd → HH → Rs D
  | .loc i, s, H => match s[i]? with | some (some d) => .ok d H | _ => .no
  | .cst d, _, H => .ok d H
  | .glb g, _, H => match c.consts[g]? with | some d => .ok d H | none => .no
  | .tup es, s, H => (evEs c es s H).bind fun ds H1 => if ds.length ≤ lim then .ok (.tup ds) H1 else .no
  | .lst es, s, H => (evEs c es s H).bind fun ds H1 => if ds.length ≤ lim then .ok (.lv ds) H1 else .no
  | .binR a b, s, H => (evE c a s H).bind fun x H1 => (evE c b s H1).bind fun y H2 => addR (viewD H2 x) (viewD H2 y) H2
  | .lstR es, s, H => (evEs c es s H).bind fun ds H1 => if ds.length ≤ lim then .ok (.ref H1.length) (H1 ++ [.lst ds]) else .no
  | .bin o a b, s, H => (evE c a s H).bind fun x H1 => (evE c b s H1).bind fun y H2 => Rs.ofO (binD o (viewD H2 x) (viewD H2 y)) H2
  | .neg a, s, H => (evE c a s H).bind fun x H1 => match x with | .int i => .ok (.int (-i)) H1 | _ => .no
  | .no a, s, H => (evE c a s H).bind fun x H1 => Rs.ofO ((truD (viewD H1 x)).map fun b => .bl (!b)) H1
  | .cmp o a b, s, H => (evE c a s H).bind fun x H1 => (evE c b s H1).bind fun y H2 => Rs.ofO ((cmpD o (viewD H2 x) (viewD H2 y)).map .bl) H2
  | .cmpF o a b, s, H => (evE c a s H).bind fun x H1 => (evE c b s H1).bind fun y H2 => Rs.ofO ((cmpG H2 o x y).map .bl) H2
  | .dnew, _, H => .ok (.ref H.length) (H ++ [.dic [] []])
  | .dc own t i g ek ev, s, H => (evI c i s H).bind fun p H1 => (dcL p.2 (asT t) (evOT c g) (evE c ek) (evE c ev) (wipeD s own) p.1 ([], []) H1).bind fun kv H2 => .ok (.ref H2.length) (H2 ++ [.dic kv.1 kv.2])
  | .din a b, s, H => (evE c a s H).bind fun y H1 => (evE c b s H1).bind fun x H2 => Rs.ofO ((dinD (viewD H2 x) y).map .bl) H2
  | .lci own t i g e, s, H => lciF (asT t) (evOT c g) (evE c e) own i s H
  | .dctP es, s, H => (evEs c es s H).bind fun ds H1 => match ds with
    | [x] => (match dictPD (viewD H1 x) with
      | some kv => .ok (.ref H1.length) (H1 ++ [.dic kv.1 kv.2])
      | none => .no)
    | _ => .no
  | .lrg1 a, s, H => (evE c a s H).bind fun x H1 => Rs.ofO (lrgD [x]) H1
  | .lrg2 a b, s, H => (evE c a s H).bind fun x H1 => (evE c b s H1).bind fun y H2 => Rs.ofO (lrgD [x, y]) H2
  | .dlit es, s, H => (evEs c es s H).bind fun ds H1 => match litD ds with
    | some kv => .ok (.ref H1.length) (H1 ++ [.dic kv.1 kv.2])
    | none => .no
  | .mrk x ch e, s, H => (evE c e s H).bind fun y H1 => Rs.ofO (mrkD x ch y) H1
  | .gget g b, s, H => (evE c b s H).bind fun y H1 => Rs.ofO (ggetD (gdat c.consts[g]?).1 (gdat c.consts[g]?).2 y) H1
  | .gin k g a, s, H => (evE c a s H).bind fun y H1 => Rs.ofO ((ginD k (gdat c.consts[g]?).1 (gdat c.consts[g]?).2 y).map .bl) H1
  | .gget2 g a b, s, H => (evE c a s H).bind fun y H1 => (evE c b s H1).bind fun z H2 => Rs.ofO (gget2D (gdat c.consts[g]?).1 (gdat c.consts[g]?).2 y z) H2
  | .dget a b, s, H => (evE c a s H).bind fun x H1 => (evE c b s H1).bind fun y H2 => Rs.ofO (dgetD (viewD H2 x) y) H2
  | .dget2 a b d, s, H => (evE c a s H).bind fun x H1 => if isDv (viewD H1 x) then (evE c b s H1).bind fun y H2 => (evE c d s H2).bind fun z H3 => Rs.ofO (dget2D (viewD H3 x) y z) H3 else .no
  | .cmp2 o p a b d, s, H => (evE c a s H).bind fun x H1 => (evE c b s H1).bind fun y H2 => match cmpD o (viewD H2 x) (viewD H2 y) with
      | some true => (evE c d s H2).bind fun z H3 => Rs.ofO ((cmpD p (viewD H3 y) (viewD H3 z)).map .bl) H3
      | some false => .ok (.bl false) H2
      | none => .no
  | .and a b, s, H => (evE c a s H).bind fun x H1 => match truD (viewD H1 x) with
      | some true => evE c b s H1
      | some false => .ok x H1
      | none => .no
  | .or a b, s, H => (evE c a s H).bind fun x H1 => match truD (viewD H1 x) with
      | some true => .ok x H1
      | some false => evE c b s H1
      | none => .no
  | .ite t a b, s, H => (evT c t s H).bind fun k H1 => if k then evE c a s H1 else evE c b s H1
  | .ix a b, s, H => (evE c a s H).bind fun x H1 => (evE c b s H1).bind fun y H2 => Rs.ofO (ixD (viewD H2 x) y) H2
  | .sl a lo hi, s, H => (evE c a s H).bind fun x H1 => (evO c lo s H1).bind fun l H2 => (evO c hi s H2).bind fun h H3 => Rs.ofO (slD (viewD H3 x) l h) H3
  | .rev a, s, H => (evE c a s H).bind fun x H1 => match viewD H1 x with | .lv xs => .ok (.lv xs.reverse) H1 | .fz xs => .ok (.lv xs.reverse) H1 | .str xs => if xs.length ≤ lim then .ok (.str xs.reverse) H1 else .no | _ => .no
  | .call f es ks kw, s, H => (evEs c es s H).bind fun ds H1 => (evEs c ks s H1).bind fun zs H2 => callD c f kw ds zs H2
  | .pcall f es ks kw, s, H => (evEs c es s H).bind fun ds H1 => (evEs c ks s H1).bind fun zs H2 => pcallE c f kw ds zs H2
  | .bi b es, s, H => (evEs c es s H).bind fun ds H1 => Rs.ofO (biD b (ds.map (viewD H1))) H1
  | .mt m o es, s, H => (evE c o s H).bind fun x H1 => if rcvOk m (viewD H1 x) then (evEs c es s H1).bind fun ds H2 => mtE m x ds H2 else .no
  | .isi a n, s, H => (evE c a s H).bind fun x H1 => Rs.ofO ((tyIs n (viewD H1 x)).map .bl) H1
  | .lc own t i g e, s, H => (evI c i s H).bind fun p H1 => (lcL p.2 (asT t) (evOT c g) (evE c e) (wipeD s own) p.1 [] H1).bind fun ds H2 => endL false ds H2
  | .lcR own t i g e, s, H => (evI c i s H).bind fun p H1 => (lcL p.2 (asT t) (evOT c g) (evE c e) (wipeD s own) p.1 [] H1).bind fun ds H2 => endL true ds H2
def evT (c : Cfg) : E → Sd → HH → Rs Bool
  | .no a, s, H => (evT c a s H).bind fun k H1 => .ok (!k) H1
  | .and a b, s, H => (evT c a s H).bind fun k H1 => if k then evT c b s H1 else .ok false H1
  | .or a b, s, H => (evT c a s H).bind fun k H1 => if k then .ok true H1 else evT c b s H1
  | .cmp o a b, s, H => (evE c a s H).bind fun x H1 => (evE c b s H1).bind fun y H2 => Rs.ofO (cmpD o (viewD H2 x) (viewD H2 y)) H2
  | .cmpF o a b, s, H => (evE c a s H).bind fun x H1 => (evE c b s H1).bind fun y H2 => Rs.ofO (cmpG H2 o x y) H2
  | .din a b, s, H => (evE c a s H).bind fun y H1 => (evE c b s H1).bind fun x H2 => Rs.ofO (dinD (viewD H2 x) y) H2
  | .gin k g a, s, H => (evE c a s H).bind fun y H1 => Rs.ofO (ginD k (gdat c.consts[g]?).1 (gdat c.consts[g]?).2 y) H1
  | .cmp2 o p a b d, s, H => (evE c a s H).bind fun x H1 => (evE c b s H1).bind fun y H2 => match cmpD o (viewD H2 x) (viewD H2 y) with
      | some true => (evE c d s H2).bind fun z H3 => Rs.ofO (cmpD p (viewD H3 y) (viewD H3 z)) H3
      | some false => .ok false H2
      | none => .no
  | e, s, H => (evE c e s H).bind fun x H1 => Rs.ofO (truD (viewD H1 x)) H1
def evEs (c : Cfg) : Es → Sd → HH → Rs (List D)
  | .nil, _, H => .ok [] H
  | .cons e r, s, H => (evE c e s H).bind fun d H1 => (evEs c r s H1).bind fun ds H2 => .ok (d :: ds) H2
def evO (c : Cfg) : OE → Sd → HH → Rs (Option Int)
  | .no, _, H => .ok none H
  | .yes e, s, H => (evE c e s H).bind fun d H1 => match d with | .int i => .ok (some i) H1 | _ => .no
def evOT (c : Cfg) : OE → Sd → HH → Rs Bool
  | .no, _, H => .ok true H
  | .yes e, s, H => evT c e s H
def evI (c : Cfg) : I → Sd → HH → Rs (List D × Gd)
  | .val e, s, H => (evE c e s H).bind fun d H1 => Rs.ofO (itemsD H1 d) H1
  | .range es, s, H => (evEs c es s H).bind fun ds H1 => Rs.ofO ((rangeD ds).map fun xs => (xs, [])) H1
  | .enum e, s, H => (evE c e s H).bind fun d H1 => Rs.ofO ((enD H1 d).map fun p => (enumD p.1, p.2)) H1
  | .zip a b, s, H => (evE c a s H).bind fun x H1 => (evE c b s H1).bind fun y H2 => Rs.ofO (zipI H2 x y) H2
end
def Rs.st {A : Type} (r : Rs A) (s : Sd) (f : A → HH → RS) : RS := match r with
  | .ok a H => f a H
  | .ex e H => .ex e s H
  | .no => .no
@[simp] theorem Rs.st_ok {A : Type} (a : A) (H : HH) (s : Sd) (f : A → HH → RS) : (Rs.ok a H).st s f = f a H := rfl
@[simp] theorem Rs.st_ex {A : Type} (e : XV) (H : HH) (s : Sd) (f : A → HH → RS) : (Rs.ex e H : Rs A).st s f = .ex e s H := rfl
@[simp] theorem Rs.st_no {A : Type} (s : Sd) (f : A → HH → RS) : (Rs.no : Rs A).st s f = .no := rfl
/-- o[i] = d -/
def setE (x y d : D) (s : Sd) (H : HH) : RS := match x with
  | .ref r => match H[r]? with
    | some (.lst xs) => match y with
      | .int k => match L2.ixN xs.length k with
        | some j => .go (.nx s) (H.set r (.lst (xs.set j d)))
        | none => .no
      | _ => .no
    | _ => .no
  | _ => .no
def putE (x y d : D) (s : Sd) (H : HH) : RS := match x with
  | .ref r => match H[r]? with
    | some (.dic ks vs) => if keyOk y ∧ ks.length < lim then .go (.nx s) (H.set r (.dic (dputL ks vs y d).1 (dputL ks vs y d).2)) else .no
    | _ => .no
  | _ => .no
def augD (H : HH) (o : Operator) (x y : D) : Option D := match o, x, y with
  | .Add, .int i, .int j => some (.int (i + j))
  | .Sub, .int i, .int j => some (.int (i - j))
  | .Add, .str a, .str b => if a.length + b.length ≤ lim then some (.str (a ++ b)) else none
  | _, _, _ => none
/-- behind an except suite its name is gone -/
def unsetR (i : Nat) : RS → RS
  | .go (.nx s) H => .go (.nx (s.set i none)) H
  | .go (.bk s) H => .go (.bk (s.set i none)) H
  | .go (.ct s) H => .go (.ct (s.set i none)) H
  | .go (.rt d) H => .go (.rt d) H
  | _ => .no
def tryH (k i : Nat) (fh : D → Sd → HH → RS) (e : XV) (s : Sd) (H : HH) : RS := match e.cls, e.fld with
  | .own k', some d => if k' = k ∧ i < s.length then unsetR i (fh d (s.set i none) H) else .no
  | _, _ => .no
def tryL (k i : Nat) (fh : D → Sd → HH → RS) : RS → RS
  | .ex e s H => tryH k i fh e s H
  | .go f H => .go f H
  | .no => .no
mutual
def evS (c : Cfg) : S → Sd → HH → RS
  | .asg t e, s, H => (evE c e s H).st s fun d H1 => match asT t d s with | some s2 => .go (.nx s2) H1 | none => .no
  | .upk t e, s, H => (evE c e s H).st s fun d H1 => match asV H1 t d s with | some s2 => .go (.nx s2) H1 | none => .no
  | .sub o i e, s, H => (evE c e s H).st s fun d H1 => (evE c o s H1).st s fun x H2 => (evE c i s H2).st s fun y H3 => setE x y d s H3
  | .dput o i e, s, H => (evE c e s H).st s fun d H1 => (evE c o s H1).st s fun x H2 => (evE c i s H2).st s fun y H3 => putE x y d s H3
  | .par i j a b, s, H => (evE c a s H).st s fun x H1 => (evE c b s H1).st s fun y H2 => .go (.nx ((s.set i (some x)).set j (some y))) H2
  | .aug i o e, s, H => match s[i]? with
    | some (some x) => (evE c e s H).st s fun y H1 => match augD H1 o x y with
      | some z => .go (.nx (s.set i (some z))) H1
      | none => .no
    | _ => .no
  | .ex e, s, H => (evE c e s H).st s fun _ H1 => .go (.nx s) H1
  | .ret e, s, H => (evE c e s H).st s fun d H1 => .go (.rt d) H1
  | .retN, _, H => .go (.rt .non) H
  | .ite t a b, s, H => (evT c t s H).st s fun k H1 => if k then evSs c a s H1 else evSs c b s H1
  | .whl t b, s, H => whileL (evT c t) (evSs c b) c.fuel s H
  | .forr t i b, s, H => (evI c i s H).st s fun p H1 => forL p.2 (asT t) (evSs c b) p.1 s H1
  | .brk, s, H => .go (.bk s) H
  | .cnt, s, H => .go (.ct s) H
  | .pas, s, H => .go (.nx s) H
  | .never, _, _ => .no
  | .rz k e, s, H => (evE c e s H).st s fun d H1 => .ex ⟨.own k, some d⟩ s H1
  | .tryy b k i h, s, H => tryL k i (fun d => evSs c (h d)) (evSs c b s H)
def evSs (c : Cfg) : Ss → Sd → HH → RS
  | .nil, s, H => .go (.nx s) H
  | .cons a r, s, H => match evS c a s H with
    | .go (.nx s1) H1 => evSs c r s1 H1
    | x => x
end

structure Fd where
  name : Str
  params : List Str
  names : List Str
  dfl : List D
  body : Ss
structure Prg where
  fns : List Fd
  consts : List D
  fuel : Nat
def startD (f : Fd) (ds : List D) : Sd := ds.map some ++ List.replicate (f.names.length - ds.length) none
def runB (f : Fd) (c : Cfg) (ds : List D) (H : HH) : Rs D :=
  if ds.length = f.params.length then match evSs c f.body (startD f ds) H with
    | .go (.nx _) H1 => .ok .non H1
    | .go (.rt d) H1 => .ok d H1
    | .go _ _ => .no
    | .ex e _ H1 => .ex e H1
    | .no => .no
  else .no
def callN (P : Prg) : Nat → Nat → List D → HH → Rs D
  | 0, _, _, _ => .no
  | n + 1, f, ds, H => match P.fns[f]? with
    | some fd => runB fd ⟨callN P n, fun g => match P.fns[g]? with | some h => h.dfl | none => [], P.consts, P.fuel⟩ ds H
    | none => .no
end DI
namespace DI
open PySem PySem.Spec PyProof.Rows L2

/-- the ground: the written part, where the classes stand, the fields of the text's exceptions -/
structure Gr where
  K : PySem.W.Frag
  ca : Nat → Addr
  xf : Nat → Str
  /-- within an except suite: the slot of the exception's name, where it stands, its dict, its field's name, what the field is -/
  exc : Option (Nat × Addr × Addr × Str × D) := none
/-- where the live objects lie -/
structure Vw where
  mu : Nat → Addr
  n : Nat
  /-- what others hold -/
  xx : Addr → Prop
def Vw.O (w : Vw) (a : Addr) : Prop := ∃ i, i < w.n ∧ w.mu i = a
def Vw.L (w : Vw) (a : Addr) : Prop := w.O a ∨ w.xx a
theorem Vw.notO {w : Vw} {a : Addr} (h : ¬ w.L a) : ¬ w.O a := fun z => h (.inl z)

def KTup (K : PySem.W.Frag) (a : Addr) (vs : List V) : Prop := ∃ (o : Obj) (its : Array Value) (n : Nat), K.lookup a = some o ∧ o.cls = .type "tuple" ∧ o.data = .seq its n ∧ its.size ≤ sizeLine ∧ Vals vs its.toList
def KLst (K : PySem.W.Frag) (a : Addr) (vs : List V) : Prop := ∃ (o : Obj) (its : Array Value) (n : Nat), K.lookup a = some o ∧ o.cls = .type "list" ∧ o.dict = none ∧ o.data = .seq its n ∧ its.size ≤ sizeLine ∧ Vals vs its.toList
def TupAt (G : Gr) (w : Vw) (H : Hp) (a : Addr) (vs : List V) : Prop := (¬ w.L a ∧ Rd H a (.tup vs)) ∨ KTup G.K a vs
def FzAt (G : Gr) (w : Vw) (H : Hp) (a : Addr) (vs : List V) : Prop := (¬ w.L a ∧ Rd H a (.lst vs)) ∨ KLst G.K a vs

mutual
inductive RepV (G : Gr) (w : Vw) (H : Hp) : D → V → Prop
  | non : RepV G w H .non .non
  | bl (b : Bool) : RepV G w H (.bl b) (.bl b)
  | int (i : Int) : RepV G w H (.int i) (.int i)
  | str (x : List Nat) : RepV G w H (.str x) (.str ⟨x.toArray⟩)
  | tup {a : Addr} {xs : List D} {vs : List V} : TupAt G w H a vs → RepVs G w H xs vs → RepV G w H (.tup xs) (.ref a)
  | lv {a : Addr} {xs : List D} {vs : List V} : ¬ w.L a → H a = some (.lst vs) → RepVs G w H xs vs → RepV G w H (.lv xs) (.ref a)
  | fz {a : Addr} {xs : List D} {vs : List V} : FzAt G w H a vs → RepVs G w H xs vs → RepV G w H (.fz xs) (.ref a)
  | ref {r : Nat} : r < w.n → RepV G w H (.ref r) (.ref (w.mu r))
  | cls (c : Nat) : RepV G w H (.cls c) (.ref (G.ca c))
  | ty (n : String) : RepV G w H (.ty n) (.ty n)
inductive RepVs (G : Gr) (w : Vw) (H : Hp) : List D → List V → Prop
  | nil : RepVs G w H [] []
  | cons {d : D} {v : V} {ds : List D} {vs : List V} : RepV G w H d v → RepVs G w H ds vs → RepVs G w H (d :: ds) (v :: vs)
end
/-- a key as data -/
def keyD : L2.Key → D
  | .inl i => .int i
  | .inr x => .str x.cps.toList
def keysD (kvs : List (L2.Key × V)) : List D := kvs.map fun p => keyD p.1
inductive RepO (G : Gr) (w : Vw) (H : Hp) (a : Addr) : HD → Prop
  | lst {xs : List D} {vs : List V} : H a = some (.lst vs) → RepVs G w H xs vs → RepO G w H a (.lst xs)
  | dic {ds : List D} {kvs : List (L2.Key × V)} : H a = some (.dK kvs) → RepVs G w H ds (kvs.map fun p => p.2) → RepO G w H a (.dic (keysD kvs) ds)

structure Rel (G : Gr) (w : Vw) (Hd : HH) (H : Hp) : Prop where
  n : w.n = Hd.length
  inj : ∀ i j, i < w.n → j < w.n → w.mu i = w.mu j → i = j
  obj : ∀ i o, Hd[i]? = some o → RepO G w H (w.mu i) o
  xx : ∀ a, w.xx a → H a ≠ none ∧ ¬ w.O a
structure Ext (w w' : Vw) (H H' : Hp) : Prop where
  le : w.n ≤ w'.n
  mu : ∀ i, i < w.n → w'.mu i = w.mu i
  fresh : ∀ i, w.n ≤ i → i < w'.n → H (w'.mu i) = none
  keep : ∀ a o, ¬ w.O a → H a = some o → H' a = some o
  there : ∀ a, H a ≠ none → H' a ≠ none
  xx : ∀ a, w'.xx a → w.xx a ∨ H a = none
  xl : ∀ a, w.xx a → w'.xx a
theorem Ext.refl (w : Vw) (H : Hp) : Ext w w H H := ⟨Nat.le_refl _, fun _ _ => rfl, fun i h h' => absurd h' (by omega), fun _ _ _ h => h, fun _ h => h, fun _ h => .inl h, fun _ h => h⟩
theorem Ext.notO {w w' : Vw} {H H' : Hp} (e : Ext w w' H H') {a : Addr} {o : HO} (h : ¬ w.O a) (ha : H a = some o) : ¬ w'.O a := by
  rintro ⟨i, hi, rfl⟩
  by_cases h2 : i < w.n
  · exact h ⟨i, h2, (e.mu i h2).symm⟩
  · have z := e.fresh i (by omega) hi
    rw [z] at ha; cases ha
theorem Ext.notL {w w' : Vw} {H H' : Hp} (e : Ext w w' H H') {a : Addr} {o : HO} (h : ¬ w.L a) (ha : H a = some o) : ¬ w'.L a := by
  rintro (z | z)
  · exact e.notO (Vw.notO h) ha z
  · rcases e.xx a z with z | z
    · exact h (.inr z)
    · rw [ha] at z; cases z
theorem Ext.trans {w w' w2 : Vw} {H H' H2 : Hp} (a : Ext w w' H H') (b : Ext w' w2 H' H2) : Ext w w2 H H2 where
  le := Nat.le_trans a.le b.le
  mu := fun i h => (b.mu i (Nat.lt_of_lt_of_le h a.le)).trans (a.mu i h)
  fresh := fun i h h' => by
    by_cases h2 : i < w'.n
    · rw [b.mu i h2]; exact a.fresh i h h2
    · have z := b.fresh i (by omega) h'
      cases q : H (w2.mu i) with
      | none => rfl
      | some o => exact absurd z (a.there _ (by rw [q]; simp))
  keep := fun x o h hx => b.keep x o (a.notO h hx) (a.keep x o h hx)
  there := fun x h => b.there x (a.there x h)
  xx := fun x h => by
    rcases b.xx x h with z | z
    · exact a.xx x z
    · cases q : H x with
      | none => exact .inr rfl
      | some o => exact absurd z (a.there x (by rw [q]; simp))
  xl := fun x h => b.xl x (a.xl x h)

section
variable {G : Gr} {w w' : Vw} {H H' : Hp}
theorem Rd.ext {a : Addr} {o : HO} (e : Ext w w' H H') (h : ¬ w.L a) (r : Rd H a o) : ¬ w'.L a ∧ Rd H' a o := by
  rcases r with r | ⟨b, r⟩
  · exact ⟨e.notL h r, .inl (e.keep _ _ (Vw.notO h) r)⟩
  · exact ⟨e.notL h r, .inr ⟨b, e.keep _ _ (Vw.notO h) r⟩⟩
theorem TupAt.ext {a : Addr} {vs : List V} (e : Ext w w' H H') (h : TupAt G w H a vs) : TupAt G w' H' a vs := by
  rcases h with ⟨h, r⟩ | h
  · exact .inl (Rd.ext e h r)
  · exact .inr h
theorem FzAt.ext {a : Addr} {vs : List V} (e : Ext w w' H H') (h : FzAt G w H a vs) : FzAt G w' H' a vs := by
  rcases h with ⟨h, r⟩ | h
  · exact .inl (Rd.ext e h r)
  · exact .inr h
theorem TupAt.sq {a : Addr} {vs : List V} (h : TupAt G w H a vs) : SqT G.K H a vs := by
  rcases h with ⟨_, r⟩ | h
  · exact .inl r
  · exact .inr h
theorem FzAt.sq {a : Addr} {vs : List V} (h : FzAt G w H a vs) : SqL G.K H a vs := by
  rcases h with ⟨_, r⟩ | h
  · exact .inl r
  · exact .inr h
mutual
theorem RepV.ext (e : Ext w w' H H') : ∀ {d : D} {v : V}, RepV G w H d v → RepV G w' H' d v
  | _, _, .non => .non
  | _, _, .bl b => .bl b
  | _, _, .int i => .int i
  | _, _, .str x => .str x
  | _, _, .tup h r => .tup (h.ext e) (RepVs.ext e r)
  | _, _, .lv h q r => .lv (e.notL h q) (e.keep _ _ (Vw.notO h) q) (RepVs.ext e r)
  | _, _, .fz h r => .fz (h.ext e) (RepVs.ext e r)
  | _, _, .ref h => by rw [← e.mu _ h]; exact .ref (Nat.lt_of_lt_of_le h e.le)
  | _, _, .cls c => .cls c
  | _, _, .ty n => .ty n
theorem RepVs.ext (e : Ext w w' H H') : ∀ {d : List D} {v : List V}, RepVs G w H d v → RepVs G w' H' d v
  | _, _, .nil => .nil
  | _, _, .cons h r => .cons (RepV.ext e h) (RepVs.ext e r)
end
mutual
theorem RepV.gr {G G' : Gr} {w : Vw} {H : Hp} (hK : G'.K = G.K) (hc : G'.ca = G.ca) : ∀ {d : D} {v : V}, RepV G w H d v → RepV G' w H d v
  | _, _, .non => .non
  | _, _, .bl b => .bl b
  | _, _, .int i => .int i
  | _, _, .str x => .str x
  | _, _, .tup h r => .tup (by unfold TupAt at h ⊢; rw [hK]; exact h) (RepVs.gr hK hc r)
  | _, _, .lv h q r => .lv h q (RepVs.gr hK hc r)
  | _, _, .fz h r => .fz (by unfold FzAt at h ⊢; rw [hK]; exact h) (RepVs.gr hK hc r)
  | _, _, .ref h => .ref h
  | _, _, .cls c => by rw [← hc]; exact .cls c
  | _, _, .ty n => .ty n
theorem RepVs.gr {G G' : Gr} {w : Vw} {H : Hp} (hK : G'.K = G.K) (hc : G'.ca = G.ca) : ∀ {d : List D} {v : List V}, RepVs G w H d v → RepVs G' w H d v
  | _, _, .nil => .nil
  | _, _, .cons h r => .cons (RepV.gr hK hc h) (RepVs.gr hK hc r)
end
theorem RepO.gr {G G' : Gr} {w : Vw} {H : Hp} {a : Addr} {o : HD} (hK : G'.K = G.K) (hc : G'.ca = G.ca) (h : RepO G w H a o) : RepO G' w H a o := by
  cases h with
  | lst q r => exact .lst q (r.gr hK hc)
  | dic q r => exact .dic q (r.gr hK hc)
theorem Rel.gr {G G' : Gr} {w : Vw} {Hd : HH} {H : Hp} (hK : G'.K = G.K) (hc : G'.ca = G.ca) (r : Rel G w Hd H) : Rel G' w Hd H := ⟨r.n, r.inj, fun i o h => (r.obj i o h).gr hK hc, r.xx⟩
theorem RepVs.length : ∀ {ds : List D} {vs : List V}, RepVs G w H ds vs → ds.length = vs.length
  | _, _, .nil => rfl
  | _, _, .cons _ r => congrArg (· + 1) r.length
theorem RepVs.append : ∀ {ds es : List D} {vs us : List V}, RepVs G w H ds vs → RepVs G w H es us → RepVs G w H (ds ++ es) (vs ++ us)
  | _, _, _, _, .nil, s => s
  | _, _, _, _, .cons h r, s => .cons h (r.append s)
theorem RepVs.get : ∀ {ds : List D} {vs : List V} {i : Nat} {d : D}, RepVs G w H ds vs → ds[i]? = some d → ∃ v, vs[i]? = some v ∧ RepV G w H d v
  | _, _, _, _, .nil, e => by simp at e
  | _, _, 0, _, .cons h _, e => by simp at e; subst e; exact ⟨_, rfl, h⟩
  | _, _, i + 1, d, .cons _ r, e => by
    obtain ⟨v, h1, h2⟩ := RepVs.get (i := i) (d := d) r (by simpa using e)
    exact ⟨v, by simpa using h1, h2⟩
theorem RepVs.take : ∀ {ds : List D} {vs : List V} (n : Nat), RepVs G w H ds vs → RepVs G w H (ds.take n) (vs.take n)
  | _, _, 0, _ => .nil
  | _, _, _ + 1, .nil => .nil
  | _, _, n + 1, .cons h r => .cons h (r.take n)
theorem RepVs.drop : ∀ {ds : List D} {vs : List V} (n : Nat), RepVs G w H ds vs → RepVs G w H (ds.drop n) (vs.drop n)
  | _, _, 0, r => r
  | _, _, _ + 1, .nil => .nil
  | _, _, n + 1, .cons _ r => r.drop n
theorem RepVs.set {d : D} {v : V} (h : RepV G w H d v) : ∀ {ds : List D} {vs : List V} (i : Nat), RepVs G w H ds vs → RepVs G w H (ds.set i d) (vs.set i v)
  | _, _, _, .nil => .nil
  | _, _, 0, .cons _ r => .cons h r
  | _, _, i + 1, .cons q r => .cons q (r.set h i)
theorem RepVs.reverse {ds : List D} {vs : List V} (h : RepVs G w H ds vs) : RepVs G w H ds.reverse vs.reverse := by
  induction ds generalizing vs with
  | nil => cases h; exact .nil
  | cons d ds ih =>
    cases h with
    | cons h r => rw [List.reverse_cons, List.reverse_cons]; exact (ih r).append (.cons h .nil)
theorem RepVs.rep {ds : List D} {vs : List V} (h : RepVs G w H ds vs) : ∀ k : Nat, RepVs G w H (List.replicate k ds).flatten (List.replicate k vs).flatten
  | 0 => .nil
  | k + 1 => by rw [List.replicate_succ, List.replicate_succ, List.flatten_cons, List.flatten_cons]; exact h.append (h.rep k)

theorem Rel.lt {Hd : HH} (r : Rel G w Hd H) {i : Nat} (h : i < w.n) : ∃ o, Hd[i]? = some o ∧ RepO G w H (w.mu i) o := by
  have hi : i < Hd.length := by rw [← r.n]; exact h
  exact ⟨Hd[i], List.getElem?_eq_getElem hi, r.obj i _ (List.getElem?_eq_getElem hi)⟩
theorem RepO.some_ {a : Addr} {o : HD} (h : RepO G w H a o) : ∃ u, H a = some u := by
  cases h with
  | lst h _ => exact ⟨_, h⟩
  | dic h _ => exact ⟨_, h⟩
theorem Rel.ownSome {Hd : HH} (r : Rel G w Hd H) {a : Addr} (h : w.O a) : ∃ u, H a = some u := by
  obtain ⟨i, hi, rfl⟩ := h
  obtain ⟨o, _, q⟩ := r.lt hi
  exact q.some_
theorem Rel.liveSome {Hd : HH} (r : Rel G w Hd H) {a : Addr} (h : w.L a) : ∃ u, H a = some u := by
  rcases h with h | h
  · exact r.ownSome h
  · exact Option.ne_none_iff_exists'.mp (r.xx a h).1
theorem Rel.notL {Hd : HH} (r : Rel G w Hd H) {p : Addr} (hp : H p = none) : ¬ w.L p := fun h => by
  obtain ⟨u, e⟩ := r.liveSome h
  rw [hp] at e; cases e
theorem RepO.ext {a : Addr} {o : HD} (e : Ext w w' H H') (h : RepO G w H a o) (k : H' a = H a) : RepO G w' H' a o := by
  cases h with
  | lst h r => exact .lst (k.trans h) (r.ext e)
  | dic h r => exact .dic (k.trans h) (r.ext e)
/-- a new object that is not live -/
theorem ext_new {Hd : HH} (r : Rel G w Hd H) {p : Addr} (hp : H p = none) (o : HO) : Ext w w H (upd H p o) :=
  ⟨Nat.le_refl _, fun _ _ => rfl, fun i h h' => absurd h' (by omega), fun a u _ h => by rw [upd_ne (ne_of_none h hp)]; exact h, fun a h => by
    by_cases e : a = p
    · subst e; rw [upd_same]; simp
    · rw [upd_ne e]; exact h, fun _ h => .inl h, fun _ h => h⟩
theorem rel_new {Hd : HH} (r : Rel G w Hd H) {p : Addr} (hp : H p = none) (o : HO) : Rel G w Hd (upd H p o) :=
  ⟨r.n, r.inj, fun i u h => by
    have q := r.obj i u h
    obtain ⟨z, hz⟩ := q.some_
    exact q.ext (ext_new r hp o) (upd_ne (ne_of_none hz hp)), fun a h => ⟨(ext_new r hp o).there a (r.xx a h).1, (r.xx a h).2⟩⟩
/-- .. that is live -/
def Vw.add (w : Vw) (p : Addr) : Vw := ⟨fun i => if i = w.n then p else w.mu i, w.n + 1, w.xx⟩
theorem add_lt {i : Nat} {p : Addr} (h : i < w.n) : (w.add p).mu i = w.mu i := by
  show (if i = w.n then p else w.mu i) = _
  rw [if_neg (by omega)]
theorem add_n {p : Addr} : (w.add p).mu w.n = p := by
  show (if w.n = w.n then p else _) = p
  rw [if_pos rfl]
theorem ext_add {Hd : HH} (r : Rel G w Hd H) {p : Addr} (hp : H p = none) (o : HO) : Ext w (w.add p) H (upd H p o) :=
  ⟨Nat.le_succ _, fun i h => add_lt h, fun i h h' => by
    have e : i = w.n := by have : i < w.n + 1 := h'; omega
    subst e
    rw [add_n]; exact hp, (ext_new r hp o).keep, (ext_new r hp o).there, fun _ h => .inl h, fun _ h => h⟩
theorem rel_addO {Hd : HH} (r : Rel G w Hd H) {p : Addr} (hp : H p = none) {x : HD} {u : HO} (h : RepO G (w.add p) (upd H p u) p x) : Rel G (w.add p) (Hd ++ [x]) (upd H p u) := by
  have e := ext_add r hp u
  refine ⟨by rw [List.length_append]; show w.n + 1 = _; rw [r.n]; rfl, fun i j hi hj q => ?_, fun i o hi => ?_, fun a h => ⟨e.there a (r.xx a h).1, ?_⟩⟩
  · have hi : i < w.n + 1 := hi
    have hj : j < w.n + 1 := hj
    by_cases h1 : i < w.n
    · by_cases h2 : j < w.n
      · rw [add_lt h1, add_lt h2] at q; exact r.inj i j h1 h2 q
      · have : j = w.n := by omega
        subst this
        rw [add_lt h1, add_n] at q
        exact absurd ⟨i, h1, q⟩ (Vw.notO (r.notL hp))
    · have : i = w.n := by omega
      subst this
      by_cases h2 : j < w.n
      · rw [add_lt h2, add_n] at q
        exact absurd ⟨j, h2, q.symm⟩ (Vw.notO (r.notL hp))
      · omega
  · by_cases h1 : i < Hd.length
    · rw [List.getElem?_append_left h1] at hi
      have q := r.obj i o hi
      obtain ⟨z, hz⟩ := q.some_
      rw [add_lt (by rw [r.n]; exact h1)]
      exact q.ext e (upd_ne (ne_of_none hz hp))
    · have hlt : i < (Hd ++ [x]).length := (List.getElem?_eq_some_iff.mp hi).1
      have : i = Hd.length := by rw [List.length_append] at hlt; simp at hlt; omega
      subst this
      rw [List.getElem?_append_right (Nat.le_refl _)] at hi
      simp at hi
      subst hi
      rw [← r.n, add_n]
      exact h
  · rintro ⟨i, hi, z⟩
    have hi : i < w.n + 1 := hi
    by_cases h1 : i < w.n
    · rw [add_lt h1] at z
      exact (r.xx a h).2 ⟨i, h1, z⟩
    · have : i = w.n := by omega
      subst this
      rw [add_n] at z
      subst z
      exact (r.xx _ h).1 hp
theorem rel_add {Hd : HH} (r : Rel G w Hd H) {p : Addr} (hp : H p = none) {xs : List D} {vs : List V} (h : RepVs G w H xs vs) : Rel G (w.add p) (Hd ++ [.lst xs]) (upd H p (.lst vs)) :=
  rel_addO r hp (.lst upd_same (h.ext (ext_add r hp (.lst vs))))
/-- a live list turned -/
theorem ext_set {Hd : HH} (r : Rel G w Hd H) {i : Nat} (hi : i < w.n) (o : HO) : Ext w w H (upd H (w.mu i) o) :=
  ⟨Nat.le_refl _, fun _ _ => rfl, fun i h h' => absurd h' (by omega), fun a u hn h => by rw [upd_ne (fun z => hn ⟨i, hi, z.symm⟩)]; exact h, fun a h => by
    by_cases e : a = w.mu i
    · subst e; rw [upd_same]; simp
    · rw [upd_ne e]; exact h, fun _ h => .inl h, fun _ h => h⟩
theorem rel_setO {Hd : HH} (r : Rel G w Hd H) {i : Nat} (hi : i < w.n) {x : HD} {u : HO} (h : RepO G w (upd H (w.mu i) u) (w.mu i) x) : Rel G w (Hd.set i x) (upd H (w.mu i) u) := by
  have e := ext_set r hi u
  refine ⟨by rw [List.length_set]; exact r.n, r.inj, fun j o hj => ?_, fun a h => ⟨e.there a (r.xx a h).1, (r.xx a h).2⟩⟩
  by_cases hji : i = j
  · subst hji
    rw [List.getElem?_set_self (by rw [← r.n]; exact hi)] at hj
    cases hj
    exact h
  · rw [List.getElem?_set_ne hji] at hj
    have hl : j < w.n := by rw [r.n]; exact (List.getElem?_eq_some_iff.mp hj).1
    exact (r.obj j o hj).ext e (upd_ne fun z => hji (r.inj j i hl hi z).symm)
theorem rel_set {Hd : HH} (r : Rel G w Hd H) {i : Nat} (hi : i < w.n) {xs : List D} {vs : List V} (h : RepVs G w H xs vs) : Rel G w (Hd.set i (.lst xs)) (upd H (w.mu i) (.lst vs)) :=
  rel_setO r hi (.lst upd_same (h.ext (ext_set r hi (.lst vs))))
end

/-- the exception that a suite holds -/
def XcOk (G : Gr) (w : Vw) (H : Hp) (s : L2.St) : Prop := ∀ i a da f d, G.exc = some (i, a, da, f, d) → s[i]? = some (some (.ref a)) ∧ ∃ v, H da = some (.xd [(f, v)]) ∧ ¬ w.L da ∧ RepV G w H d v
theorem XcOk.ext {G : Gr} {w w' : Vw} {H H' : Hp} {s : L2.St} (e : Ext w w' H H') (x : XcOk G w H s) : XcOk G w' H' s := fun i a da f d h => by
  obtain ⟨h0, v, h1, h2, h3⟩ := x i a da f d h
  exact ⟨h0, v, e.keep _ _ (Vw.notO h2) h1, e.notL h2 h1, h3.ext e⟩
theorem XcOk.no {G : Gr} {w : Vw} {H : Hp} {s : L2.St} (hx : G.exc = none) : XcOk G w H s := fun i a da f d h => by rw [hx] at h; cases h
structure RepS (G : Gr) (w : Vw) (H : Hp) (sd : Sd) (s : L2.St) : Prop where
  len : sd.length = s.length
  get : ∀ (i : Nat) (d : D), sd[i]? = some (some d) → ∃ v : V, s[i]? = some (some v) ∧ RepV G w H d v
  xc : XcOk G w H s
section
variable {G : Gr} {w w' : Vw} {H H' : Hp} {sd : Sd} {s : L2.St}
theorem RepS.ext (e : Ext w w' H H') (r : RepS G w H sd s) : RepS G w' H' sd s := ⟨r.1, fun i d h => let ⟨v, h1, h2⟩ := r.2 i d h; ⟨v, h1, h2.ext e⟩, r.xc.ext e⟩
theorem RepS.set (hx : G.exc = none) (r : RepS G w H sd s) (i : Nat) {d : D} {v : V} (h : RepV G w H d v) : RepS G w H (sd.set i (some d)) (s.set i (some v)) := by
  refine ⟨by rw [List.length_set, List.length_set]; exact r.1, fun j e hj => ?_, .no hx⟩
  by_cases hi : i = j
  · subst hi
    have hl : i < sd.length := by
      have := (List.getElem?_eq_some_iff.mp hj).1
      rwa [List.length_set] at this
    rw [List.getElem?_set_self hl] at hj
    cases hj
    exact ⟨v, by rw [List.getElem?_set_self (by rw [← r.1]; exact hl)], h⟩
  · rw [List.getElem?_set_ne hi] at hj
    obtain ⟨u, h1, h2⟩ := r.2 j e hj
    exact ⟨u, by rw [List.getElem?_set_ne hi]; exact h1, h2⟩
theorem RepS.setX (r : RepS G w H sd s) (i : Nat) (hne : ∀ j a da f d, G.exc = some (j, a, da, f, d) → j ≠ i) {d : D} {v : V} (h : RepV G w H d v) : RepS G w H (sd.set i (some d)) (s.set i (some v)) := by
  refine ⟨by rw [List.length_set, List.length_set]; exact r.1, fun j e hj => ?_, fun j a da f d hx => ?_⟩
  · by_cases hi : i = j
    · subst hi
      have hl : i < sd.length := by
        have := (List.getElem?_eq_some_iff.mp hj).1
        rwa [List.length_set] at this
      rw [List.getElem?_set_self hl] at hj
      cases hj
      exact ⟨v, by rw [List.getElem?_set_self (by rw [← r.1]; exact hl)], h⟩
    · rw [List.getElem?_set_ne hi] at hj
      obtain ⟨u, h1, h2⟩ := r.2 j e hj
      exact ⟨u, by rw [List.getElem?_set_ne hi]; exact h1, h2⟩
  · obtain ⟨h1, h2⟩ := r.xc j a da f d hx
    exact ⟨by rw [List.getElem?_set_ne (fun e => hne j a da f d hx e.symm)]; exact h1, h2⟩
theorem RepS.unset (hx : G.exc = none) (r : RepS G w H sd s) (i : Nat) : RepS G w H (sd.set i none) (s.set i none) := by
  refine ⟨by rw [List.length_set, List.length_set]; exact r.1, fun j e hj => ?_, .no hx⟩
  by_cases hi : i = j
  · subst hi
    have hl : i < sd.length := by
      have := (List.getElem?_eq_some_iff.mp hj).1
      rwa [List.length_set] at this
    rw [List.getElem?_set_self hl] at hj
    cases hj
  · rw [List.getElem?_set_ne hi] at hj
    obtain ⟨u, h1, h2⟩ := r.2 j e hj
    exact ⟨u, by rw [List.getElem?_set_ne hi]; exact h1, h2⟩
theorem RepS.wipe (hx : G.exc = none) (r : RepS G w H sd s) : ∀ vs : List Nat, RepS G w H (wipeD sd vs) (L2.wipe s vs)
  | [] => r
  | v :: vs => (RepS.wipe hx r vs).unset hx v
end

/-- how an exception lies -/
def RepX (G : Gr) (w : Vw) (H : Hp) (e : XV) (c : Value) (da : Option Addr) : Prop :=
  match e.cls with
  | .own k => c = .ref (G.ca k) ∧ match e.fld with
    | some d => ∃ a v, da = some a ∧ H a = some (.xd [(G.xf k, v)]) ∧ ¬ w.L a ∧ RepV G w H d v
    | none => True
  | .blt n => c = .type n
/-- of a result in general: R says what of the layer's world stands for it -/
abbrev RR (A B : Type) := Vw → Hp → A → B → Prop
def Post {A B : Type} (R : RR A B) (G : Gr) (w : Vw) (H : Hp) (r : Rs A) (W : XK) (Q : B → Hp → Prop) : Prop := match r with
  | .ok d Hd => ∀ w' H', Ext w w' H H' → Rel G w' Hd H' → ∀ v, R w' H' d v → Q v H'
  | .ex e Hd => ∀ w' H', Ext w w' H H' → Rel G w' Hd H' → ∀ c da, RepX G w' H' e c da → W c da H'
  | .no => False
/-- the very same -/
def Eqr (A : Type) : RR A A := fun _ _ a b => b = a
def PostS (G : Gr) (w : Vw) (H : Hp) (r : RS) (W : WX) (Q : Ends) : Prop := match r with
  | .go (.nx s) Hd => ∀ w' H', Ext w w' H H' → Rel G w' Hd H' → ∀ v, RepS G w' H' s v → Q.nx v H'
  | .go (.bk s) Hd => ∀ w' H', Ext w w' H H' → Rel G w' Hd H' → ∀ v, RepS G w' H' s v → Q.bk v H'
  | .go (.ct s) Hd => ∀ w' H', Ext w w' H H' → Rel G w' Hd H' → ∀ v, RepS G w' H' s v → Q.ct v H'
  | .go (.rt d) Hd => ∀ w' H', Ext w w' H H' → Rel G w' Hd H' → ∀ v, RepV G w' H' d v → Q.rt v H'
  | .ex e s Hd => ∀ w' H', Ext w w' H H' → Rel G w' Hd H' → ∀ v, RepS G w' H' s v → ∀ c da, RepX G w' H' e c da → W c da v H'
  | .no => False
abbrev wat (W : WX) (s : L2.St) : XK := fun c da H => W c da s H
section
variable {G : Gr} {w w1 : Vw} {H H1 : Hp} {W : XK}
theorem Post.step {A B : Type} {R : RR A B} {r : Rs A} {Q : B → Hp → Prop} (p : Post R G w H r W Q) (e : Ext w w1 H H1) : Post R G w1 H1 r W Q := by
  cases r with
  | ok d Hd => exact fun w' H' e' => p w' H' (e.trans e')
  | ex x Hd => exact fun w' H' e' => p w' H' (e.trans e')
  | no => exact p
theorem PostS.step {r : RS} {W : WX} {Q : Ends} (p : PostS G w H r W Q) (e : Ext w w1 H H1) : PostS G w1 H1 r W Q := by
  cases r with
  | go f Hd => cases f <;> exact fun w' H' e' => p w' H' (e.trans e')
  | ex x s Hd => exact fun w' H' e' => p w' H' (e.trans e')
  | no => exact p
end

def tX {A B : Type} (R : RR A B) (G : Gr) (W : WX) (f : Sd → HH → Rs A) (s : L2.St) (H : Hp) (Q : B → Hp → Prop) : Prop := ∃ w Hd sd, Rel G w Hd H ∧ RepS G w H sd s ∧ Post R G w H (f sd Hd) (wat W s) Q
abbrev tD (G : Gr) (W : WX) (f : Sd → HH → Rs D) : TE := tX (RepV G) G W f
abbrev tDA (G : Gr) (W : WX) (f : Sd → HH → Rs (List D)) : TA := tX (RepVs G) G W f
abbrev tDT (G : Gr) (W : WX) (f : Sd → HH → Rs Bool) : TT := tX (Eqr Bool) G W f
abbrev tDO (G : Gr) (W : WX) (f : Sd → HH → Rs (Option Int)) : TO := tX (Eqr (Option Int)) G W f
def tDG (G : Gr) (W : WX) (f : D → Sd → HH → Rs Sd) : TG := fun v s H Q => ∃ w Hd sd d, Rel G w Hd H ∧ RepS G w H sd s ∧ RepV G w H d v ∧ Post (RepS G) G w H (f d sd Hd) (wat W s) Q
def tDGs (G : Gr) (W : WX) (f : List D → Sd → HH → Rs Sd) : TGs := fun v s H Q => ∃ w Hd sd d, Rel G w Hd H ∧ RepS G w H sd s ∧ RepVs G w H d v ∧ Post (RepS G) G w H (f d sd Hd) (wat W s) Q
def tDS (G : Gr) (W : WX) (f : Sd → HH → RS) : TS := fun Q s H => ∃ w Hd sd, Rel G w Hd H ∧ RepS G w H sd s ∧ PostS G w H (f sd Hd) W Q
theorem PE.mono {X : Cx} {e : Expr} {t t' : TE} (h : PE X e t) (m : ∀ s H Q, t' s H Q → t s H Q) : PE X e t' := ⟨fun pins s σ H Q I q => h.run pins s σ H Q I (m _ _ _ q)⟩
theorem PT.mono {X : Cx} {e : Expr} {t t' : TT} (h : PT X e t) (m : ∀ s H Q, t' s H Q → t s H Q) : PT X e t' := ⟨fun pins s σ H Q I q => h.run pins s σ H Q I (m _ _ _ q)⟩
theorem PW.mono {X : Cx} {e : Expr} {t t' : TT} (h : PW X e t) (m : ∀ s H Q, t' s H Q → t s H Q) : PW X e t' := ⟨fun wh pins s σ H Q I q => h.run wh pins s σ H Q I (m _ _ _ q)⟩
theorem PA.mono {X : Cx} {e : List Expr} {t t' : TA} (h : PA X e t) (m : ∀ s H Q, t' s H Q → t s H Q) : PA X e t' := ⟨fun pos pins s σ H Q I q => h.run pos pins s σ H Q I (m _ _ _ q)⟩
theorem PG.mono {X : Cx} {e : Expr} {t t' : TG} (h : PG X e t) (m : ∀ v s H Q, t' v s H Q → t v s H Q) : PG X e t' := ⟨fun pins s σ H v u Q I r q => h.run pins s σ H v u Q I r (m _ _ _ _ q)⟩
theorem PGs.mono {X : Cx} {e : List Expr} {t t' : TGs} (h : PGs X e t) (m : ∀ v s H Q, t' v s H Q → t v s H Q) : PGs X e t' := ⟨fun pins s σ H v u Q I r q => h.run pins s σ H v u Q I r (m _ _ _ _ q)⟩
theorem PS.mono {X : Cx} {e : Stmt} {t t' : TS} (h : PS X e t) (m : ∀ D s H, t' D s H → t D s H) : PS X e t' := ⟨fun pins s σ H Q I q => h.run pins s σ H Q I (m _ _ _ q)⟩
theorem PSs.mono {X : Cx} {e : List Stmt} {t t' : TS} (h : PSs X e t) (m : ∀ D s H, t' D s H → t D s H) : PSs X e t' := ⟨fun pins s σ H Q I q => h.run pins s σ H Q I (m _ _ _ q)⟩

section
variable {G : Gr} {w : Vw} {H : Hp} {W : WX} {Hd : HH} {sd : Sd} {s : L2.St}
/-- a part, then the rest -/
theorem seq {A B C E : Type} {R : RR A B} {R' : RR C E} {f : Sd → HH → Rs A} {k : A → HH → Rs C} {Q : E → Hp → Prop} {Q1 : B → Hp → Prop} (rel : Rel G w Hd H) (rs : RepS G w H sd s)
    (p : Post R' G w H ((f sd Hd).bind k) (wat W s) Q)
    (h : ∀ x Hd1 w1 H1 v, Ext w w1 H H1 → Rel G w1 Hd1 H1 → RepS G w1 H1 sd s → R w1 H1 x v → Post R' G w1 H1 (k x Hd1) (wat W s) Q → Q1 v H1) : tX R G W f s H Q1 := by
  refine ⟨w, Hd, sd, rel, rs, ?_⟩
  generalize f sd Hd = r at p
  cases r with
  | ok d Hd1 => exact fun w1 H1 e r1 v rv => h d Hd1 w1 H1 v e r1 (rs.ext e) rv (Post.step p e)
  | ex x Hd1 => exact p
  | no => exact p
/-- .. with what came -/
theorem seqQ {A B C E : Type} {R : RR A B} {R' : RR C E} {f : Sd → HH → Rs A} {k : A → HH → Rs C} {Q : E → Hp → Prop} {Q1 : B → Hp → Prop} (rel : Rel G w Hd H) (rs : RepS G w H sd s)
    (p : Post R' G w H ((f sd Hd).bind k) (wat W s) Q)
    (h : ∀ x Hd1 w1 H1 v, f sd Hd = .ok x Hd1 → Ext w w1 H H1 → Rel G w1 Hd1 H1 → RepS G w1 H1 sd s → R w1 H1 x v → Post R' G w1 H1 (k x Hd1) (wat W s) Q → Q1 v H1) : tX R G W f s H Q1 := by
  refine ⟨w, Hd, sd, rel, rs, ?_⟩
  generalize e : f sd Hd = r at p
  cases r with
  | ok d Hd1 => exact fun w1 H1 e1 r1 v rv => h d Hd1 w1 H1 v e e1 r1 (rs.ext e1) rv (Post.step p e1)
  | ex x Hd1 => exact p
  | no => exact p
theorem ofO_post {A B : Type} {R : RR A B} {o : Option A} {W : XK} {Q : B → Hp → Prop} (p : Post R G w H (Rs.ofO o Hd) W Q) : ∃ d, o = some d ∧ ∀ w' H', Ext w w' H H' → Rel G w' Hd H' → ∀ v, R w' H' d v → Q v H' := by
  cases o with
  | some d => exact ⟨d, rfl, p⟩
  | none => exact p.elim
/-- .. of a statement -/
theorem seqS {A B : Type} {R : RR A B} {f : Sd → HH → Rs A} {k : A → HH → RS} {D : Ends} {Q1 : B → Hp → Prop} (rel : Rel G w Hd H) (rs : RepS G w H sd s)
    (p : PostS G w H ((f sd Hd).st sd k) W D)
    (h : ∀ x Hd1 w1 H1 v, Ext w w1 H H1 → Rel G w1 Hd1 H1 → RepS G w1 H1 sd s → R w1 H1 x v → PostS G w1 H1 (k x Hd1) W D → Q1 v H1) : tX R G W f s H Q1 := by
  refine ⟨w, Hd, sd, rel, rs, ?_⟩
  generalize f sd Hd = r at p
  cases r with
  | ok d Hd1 => exact fun w1 H1 e r1 v rv => h d Hd1 w1 H1 v e r1 (rs.ext e) rv (PostS.step p e)
  | ex x Hd1 => exact fun w' H' e r1 c da rx => p w' H' e r1 s (rs.ext e) c da rx
  | no => exact p
end
end DI
namespace DI
open PySem PySem.Spec PyProof.Rows L2
theorem tuple_mul1 (l : Addr) (items : Array Value) (n : Nat) (dd : Option Addr) (sl : Array (Option Value)) (u : Tok) (c1 : (items.isEmpty || (1 : Int) == 1) = true) :
    Meets (Builtin.«tuple.__mul__» ⟨[.ref l, .int 1 u], []⟩) (fun _ R s => s.heap.get? l = some { cls := .type "tuple", dict := dd, data := .seq items n, slots := sl } ∧ R (.ok (.ret (Value.ref l))) s) :=
  .of_wp fun prog w A R s h => by
    obtain ⟨hp, g, d, tk, os⟩ := s
    obtain ⟨hl, h⟩ := h
    have f1 := AutoSeq1.idx_int
    wp_walk using wpAny_loadPart' hl
    repeat (first
      | (refine wpAny_ite_true (decide_eq_true c1) ?_; wp_walk using wpAny_loadPart' hl))
    exact ⟨_, rfl, h⟩
theorem tuple_mul0 (l : Addr) (items : Array Value) (n : Nat) (dd : Option Addr) (sl : Array (Option Value)) (u : Tok) (c1 : (items.isEmpty || (0 : Int) == 1) = false) :
    Meets (Builtin.«tuple.__mul__» ⟨[.ref l, .int 0 u], []⟩) (fun _ R s => s.heap.get? l = some { cls := .type "tuple", dict := dd, data := .seq items n, slots := sl } ∧
      R (.ok (.ret (Value.ref s.heap.objs.size))) { s with heap := s.heap.push { cls := Value.type "tuple", data := Data.seq #[] }, toks := s.toks }) :=
  .of_wp fun prog w A R s h => by
    obtain ⟨hp, g, d, tk, os⟩ := s
    obtain ⟨hl, h⟩ := h
    have f1 := AutoSeq1.idx_int
    wp_walk using wpAny_loadPart' hl
    repeat (first
      | (refine wpAny_ite_false (decide_eq_false (by rw [c1]; exact Bool.false_ne_true)) ?_; wp_walk using wpAny_loadPart' hl))
    exact ⟨_, rfl, h⟩
def rRep01 (K : PySem.W.Frag) : R2 := fun x y H Q => ∃ l k xs, x = .ref l ∧ y = .int k ∧ SqT K H l xs ∧ xs ≠ [] ∧ ((k = 1 ∧ Q (.ref l) H) ∨ (k = 0 ∧ ∀ p, H p = none → Q (.ref p) (upd H p (.tup []))))
section
variable {X : Cx}
theorem op_rep01 : OpR X (binaryOp .Mult) (rRep01 X.K) := by
  intro pins s σ H x y v u Q I rx ry h
  obtain ⟨l, k, xs, rfl, rfl, hT, hne, q⟩ := h
  cases rx
  obtain ⟨t, rfl⟩ := ry
  obtain ⟨its, r, ⟨⟨cls, dd, data, sl⟩, ho, hc, n, hd⟩, hs⟩ := I.tuple hT
  simp only at hc hd
  subst hc hd
  have hle : its.length = xs.length := r.length.symm
  have hn : its ≠ [] := fun e => hne (by
    rw [e] at hle
    exact List.eq_nil_of_length_eq_zero hle.symm)
  have hi : its.toArray.isEmpty = false := by
    cases its with
    | nil => exact absurd rfl hn
    | cons a b => rfl
  rcases q with ⟨rfl, q⟩ | ⟨rfl, q⟩
  · refine wpAny_binaryOp_repeat_ref (T := "tuple") (U := "int") (by decide) ⟨_, ho, rfl⟩ (fun s' => typeIs_int s' 1 t) noFill_tuple_mul F.fills_int_mul F.slot_int_rmul repeat_tuple F.slot_int_index.lookup
      (call_meets F.slot_int_rmul (typeIs_int s 1 t) F.entry_int_rmul (F.args_int_rmul_2 _ _) (int_rmul_tuple 1 t l its.toArray n dd sl)
        ⟨ho, rfl, ⟨_, ho, rfl⟩, call_meets F.slot_tuple_mul ⟨_, ho, rfl⟩ F.entry_tuple_mul (F.args_tuple_mul_2 _ _) (tuple_mul1 l its.toArray n dd sl t (by rw [hi]; rfl)) ⟨ho, ?_⟩⟩)
    exact ⟨.ref l, H, I, rfl, q⟩
  · refine wpAny_binaryOp_repeat_ref (T := "tuple") (U := "int") (by decide) ⟨_, ho, rfl⟩ (fun s' => typeIs_int s' 0 t) noFill_tuple_mul F.fills_int_mul F.slot_int_rmul repeat_tuple F.slot_int_index.lookup
      (call_meets F.slot_int_rmul (typeIs_int s 0 t) F.entry_int_rmul (F.args_int_rmul_2 _ _) (int_rmul_tuple 0 t l its.toArray n dd sl)
        ⟨ho, rfl, ⟨_, ho, rfl⟩, call_meets F.slot_tuple_mul ⟨_, ho, rfl⟩ F.entry_tuple_mul (F.args_tuple_mul_2 _ _) (tuple_mul0 l its.toArray n dd sl t (by rw [hi]; rfl)) ⟨ho, ?_⟩⟩)
    refine ⟨.ref s.heap.objs.size, _, I.laid (t' := s.toks) (o := .tup []) (fun b ob q => Heap.get?_push_of_some _ q) (Nat.le_refl _) ?_, rfl, q _ (I.hok.fresh (Nat.le_refl _))⟩
    exact ⟨Nat.zero_le _, [], .nil, IsTup.new _ _⟩
end
end DI
namespace DI
open PySem PySem.Spec PyProof.Rows L2

def RepW (G : Gr) (w : Vw) (H : Hp) (d : D) (v : V) : Prop := match d with
  | .lv xs => ∃ (a : Addr) (vs : List V), v = .ref a ∧ H a = some (.lst vs) ∧ RepVs G w H xs vs
  | .dv ks ds => ∃ (a : Addr) (kvs : List (L2.Key × V)), v = .ref a ∧ H a = some (.dK kvs) ∧ ks = keysD kvs ∧ RepVs G w H ds (kvs.map fun p => p.2)
  | d => RepV G w H d v
section
variable {G : Gr} {w w' : Vw} {H H' : Hp} {Hd : HH}
theorem repW_of {d : D} {v : V} (h : RepV G w H d v) : RepW G w H d v := by
  cases h with
  | lv a b c => exact ⟨_, _, rfl, b, c⟩
  | non => exact .non
  | bl b => exact .bl b
  | int i => exact .int i
  | str x => exact .str x
  | tup a b => exact .tup a b
  | fz a b => exact .fz a b
  | ref a => exact .ref a
  | cls c => exact .cls c
  | ty c => exact .ty c
theorem repW_view {d : D} {v : V} (r : Rel G w Hd H) (h : RepV G w H d v) : RepW G w H (viewD Hd d) v := by
  cases h with
  | ref a =>
    obtain ⟨o, e, q⟩ := r.lt a
    cases q with
    | lst h1 h2 =>
      unfold viewD
      simp only [e]
      exact ⟨_, _, rfl, h1, h2⟩
    | dic h1 h2 =>
      unfold viewD
      simp only [e]
      exact ⟨_, _, rfl, h1, rfl, h2⟩
  | lv a b c => exact ⟨_, _, rfl, b, c⟩
  | non => exact .non
  | bl b => exact .bl b
  | int i => exact .int i
  | str x => exact .str x
  | tup a b => exact .tup a b
  | fz a b => exact .fz a b
  | cls c => exact .cls c
  | ty c => exact .ty c
theorem repWs_view (r : Rel G w Hd H) : ∀ {ds : List D} {vs : List V}, RepVs G w H ds vs → Paired (RepW G w H) (ds.map (viewD Hd)) vs
  | _, _, .nil => .nil
  | _, _, .cons h t => .cons (repW_view r h) (repWs_view r t)
/-- the new list, the new tuple as data -/
theorem new_lv {p : Addr} {xs : List D} {vs : List V} (r : Rel G w Hd H) (hp : H p = none) (h : RepVs G w H xs vs) : RepV G w (upd H p (.lst vs)) (.lv xs) (.ref p) :=
  .lv (r.notL hp) upd_same (h.ext (ext_new r hp _))
theorem new_tup {p : Addr} {xs : List D} {vs : List V} (r : Rel G w Hd H) (hp : H p = none) (h : RepVs G w H xs vs) : RepV G w (upd H p (.tup vs)) (.tup xs) (.ref p) :=
  .tup (.inl ⟨r.notL hp, .inl upd_same⟩) (h.ext (ext_new r hp _))
end
/-- what is done with a pure result -/
abbrev Ret (G : Gr) (w : Vw) (Hd : HH) (H : Hp) (d : D) (Q : VK) : Prop := ∀ w' H', Ext w w' H H' → Rel G w' Hd H' → ∀ v, RepV G w' H' d v → Q v H'
section
variable {G : Gr} {w : Vw} {H : Hp} {Hd : HH} {Q : VK} {d : D} {v : V}
theorem Ret.here (q : Ret G w Hd H d Q) (r : Rel G w Hd H) (h : RepV G w H d v) : Q v H := q w H (Ext.refl _ _) r v h
theorem Ret.lv {xs : List D} {vs : List V} (q : Ret G w Hd H (.lv xs) Q) (r : Rel G w Hd H) (h : RepVs G w H xs vs) : ∀ p, H p = none → Q (.ref p) (upd H p (.lst vs)) := fun p hp =>
  q w _ (ext_new r hp _) (rel_new r hp _) _ (new_lv r hp h)
theorem Ret.tup {xs : List D} {vs : List V} (q : Ret G w Hd H (.tup xs) Q) (r : Rel G w Hd H) (h : RepVs G w H xs vs) : ∀ p, H p = none → Q (.ref p) (upd H p (.tup vs)) := fun p hp =>
  q w _ (ext_new r hp _) (rel_new r hp _) _ (new_tup r hp h)
end

/-- an operator by views -/
def rW2 (G : Gr) (f : D → D → Option D) : R2 := fun x y H Q => ∃ w Hd dx dy d, Rel G w Hd H ∧ RepW G w H dx x ∧ RepW G w H dy y ∧ f dx dy = some d ∧ Ret G w Hd H d Q
theorem str_len (x : List Nat) : (⟨x.toArray⟩ : Str).length = x.length := by
  show (x.toArray).size = _
  simp
theorem str_app (x y : List Nat) : (⟨x.toArray⟩ : Str) ++ ⟨y.toArray⟩ = ⟨(x ++ y).toArray⟩ := by
  show (⟨x.toArray ++ y.toArray⟩ : Str) = _
  simp

theorem RepVs.nil_iff {G : Gr} {w : Vw} {H : Hp} {xs : List D} {vs : List V} (h : RepVs G w H xs vs) : vs = [] ↔ xs = [] := by
  cases h with
  | nil => simp
  | cons _ _ => simp
section
variable {X : Cx} {G : Gr}
theorem bin_add (hK : G.K = X.K) : OpR X (binaryOp .Add) (rW2 G (binD .Add)) := by
  intro pins s σ H x y v u Q I rx ry h
  obtain ⟨w, Hd, dx, dy, d, rel, hx, hy, hb, q⟩ := h
  simp only [binD] at hb
  split at hb
  · rename_i i j
    have hx : RepV G w H (.int i) x := hx
    have hy : RepV G w H (.int j) y := hy
    cases hx; cases hy; cases hb
    exact op_add pins s σ H _ _ v u Q I rx ry ⟨_, _, rfl, rfl, q.here rel (.int _)⟩
  · rename_i a b
    have hx : RepV G w H (.str a) x := hx
    have hy : RepV G w H (.str b) y := hy
    cases hx; cases hy
    split at hb
    · rename_i hl
      cases hb
      exact op_add_str pins s σ H _ _ v u Q I rx ry ⟨_, _, rfl, rfl, by rw [str_len, str_len, ← lim_eq]; exact hl, by rw [str_app]; exact q.here rel (.str _)⟩
    · cases hb
  · rename_i a b
    obtain ⟨p, vs, rfl, h1, h2⟩ := hx
    obtain ⟨p', vs', rfl, h1', h2'⟩ := hy
    split at hb
    · rename_i hl
      cases hb
      exact op_cat pins s σ H _ _ v u Q I rx ry ⟨p, p', _, _, rfl, rfl, h1, h1', by rw [← h2.length, ← h2'.length, ← lim_eq]; exact hl, q.lv rel (h2.append h2')⟩
    · cases hb
  · rename_i a b
    have hx : RepV G w H (.tup a) x := hx
    have hy : RepV G w H (.tup b) y := hy
    cases hx with
    | tup t1 h1 =>
      cases hy with
      | tup t2 h2 =>
        split at hb
        · rename_i hl
          cases hb
          refine op_catA pins s σ H _ _ v u Q I rx ry ⟨_, _, _, _, rfl, rfl, hK ▸ t1.sq, hK ▸ t2.sq, by rw [← h1.length, ← h2.length, ← lim_eq]; exact hl, fun e => ?_, fun _ e => ?_, fun _ _ => q.tup rel (h1.append h2)⟩
          · rw [h1.nil_iff] at e
            subst e
            exact q.here rel (.tup t2 h2)
          · rw [h2.nil_iff] at e
            subst e
            rw [List.append_nil] at q
            exact q.here rel (.tup t1 h1)
        · cases hb
  · cases hb
def rAddR (G : Gr) : R2 := fun x y H Q => ∃ w Hd xs ys, Rel G w Hd H ∧ RepW G w H (.lv xs) x ∧ RepW G w H (.lv ys) y ∧ xs.length + ys.length ≤ lim ∧ ∀ w' H', Ext w w' H H' → Rel G w' (Hd ++ [.lst (xs ++ ys)]) H' → ∀ v, RepV G w' H' (.ref Hd.length) v → Q v H'
theorem bin_addR : OpR X (binaryOp .Add) (rAddR G) := by
  intro pins s σ H x y v u Q I rx ry h
  obtain ⟨w, Hd, a, b, rel, hx, hy, hl, q⟩ := h
  obtain ⟨p, vs, rfl, h1, h2⟩ := hx
  obtain ⟨p', vs', rfl, h1', h2'⟩ := hy
  refine op_cat pins s σ H _ _ v u Q I rx ry ⟨p, p', _, _, rfl, rfl, h1, h1', by rw [← h2.length, ← h2'.length, ← lim_eq]; exact hl, fun t ht => ?_⟩
  have z : RepV G (w.add t) (upd H t (.lst (vs ++ vs'))) (.ref Hd.length) (.ref t) := by
    have := RepV.ref (G := G) (w := w.add t) (H := upd H t (.lst (vs ++ vs'))) (r := w.n) (Nat.lt_succ_self _)
    rw [add_n] at this
    rw [← rel.n]
    exact this
  exact q _ _ (ext_add rel ht _) (rel_add rel ht (h2.append h2')) _ z
theorem bin_sub : OpR X (binaryOp .Sub) (rW2 G (binD .Sub)) := by
  intro pins s σ H x y v u Q I rx ry h
  obtain ⟨w, Hd, dx, dy, d, rel, hx, hy, hb, q⟩ := h
  simp only [binD] at hb
  split at hb
  · rename_i i j
    have hx : RepV G w H (.int i) x := hx
    have hy : RepV G w H (.int j) y := hy
    cases hx; cases hy; cases hb
    exact op_sub pins s σ H _ _ v u Q I rx ry ⟨_, _, rfl, rfl, q.here rel (.int _)⟩
  · cases hb
theorem smallI_iff {i : Int} : smallI i = true ↔ -(2 ^ 64) < i ∧ i < 2 ^ 64 := by unfold smallI; exact decide_eq_true_iff
theorem fold_rep (c : Array Nat) : ∀ (n : Nat) (acc : Array Nat), (List.replicate n c).foldl (· ++ ·) acc = acc ++ (List.replicate n c.toList).flatten.toArray
  | 0, acc => by simp
  | n + 1, acc => by
    rw [List.replicate_succ, List.foldl_cons, fold_rep c n, List.replicate_succ, List.flatten_cons]
    apply Array.ext'
    simp
theorem rep_nil : ∀ n : Nat, (List.replicate n ([] : List Nat)).flatten = []
  | 0 => rfl
  | n + 1 => by rw [List.replicate_succ, List.flatten_cons, rep_nil n]; rfl
theorem rep_len {A : Type} (a : List A) : ∀ n : Nat, ((List.replicate n a).flatten).length = n * a.length
  | 0 => by simp
  | n + 1 => by rw [List.replicate_succ, List.flatten_cons, List.length_append, rep_len a n, Nat.add_mul]; omega
theorem op_repS : OpR X (binaryOp .Mult) (fun x y H Q => ∃ (a : List Nat) (k : Int), x = .str ⟨a.toArray⟩ ∧ y = .int k ∧ -(2 ^ 62) ≤ k ∧ k < 2 ^ 62 ∧ a.length * k.toNat ≤ 16777216 ∧ Q (.str ⟨(List.replicate k.toNat a).flatten.toArray⟩) H) := by
  intro pins s σ H x y v u Q I rx ry h
  obtain ⟨a, k, rfl, rfl, h1, h2, hz, q⟩ := h
  obtain ⟨t, rfl⟩ := rx
  obtain ⟨t', rfl⟩ := ry
  have hl : (⟨a.toArray⟩ : Str).length = a.length := str_len a
  refine PySem.P.mul_str (by rw [decide_eq_false (show ¬ k < -(2 ^ 63 : Int) by omega), decide_eq_false (show ¬ k ≥ 2 ^ 63 by omega)]; rfl) (fun k1 _ => ?_) (fun k1 _ => ?_) ?_
  · rw [hl]
    have hk : (k.toNat : Int) = k := Int.toNat_of_nonneg (by omega)
    have : ((a.length * k.toNat : Nat) : Int) ≤ 16777216 := Int.ofNat_le.mpr hz
    rw [Int.natCast_mul, hk] at this
    have z : (a.length : Int) ≤ (2 ^ 63 - 1) / k := Int.le_ediv_of_mul_le (by omega) (by omega)
    omega
  · rw [hl]
    unfold Builtin.Str.tooLong
    have := PySem.sizeLine_eq
    exact decide_eq_false (by omega)
  · by_cases k1 : k < 1
    · rw [if_pos k1]
      have e : k.toNat = 0 := by omega
      rw [e] at q
      exact ⟨by decide, .str _, H, I.tok _, ⟨_, rfl⟩, q⟩
    · rw [if_neg k1]
      by_cases k2 : (k == 1 || (⟨a.toArray⟩ : Str).length == 0) = true
      · rw [if_pos k2]
        refine ⟨.str _, H, I, ⟨_, rfl⟩, ?_⟩
        rw [Bool.or_eq_true, beq_iff_eq, beq_iff_eq, hl] at k2
        have e : (List.replicate k.toNat a).flatten = a := by
          rcases k2 with rfl | e
          · simp
          · have : a = [] := List.length_eq_zero_iff.mp e
            subst this
            exact rep_nil _
        rw [e] at q
        exact q
      · rw [if_neg k2]
        have e : (⟨(List.replicate k.toNat a.toArray).foldl (· ++ ·) #[]⟩ : Str) = ⟨(List.replicate k.toNat a).flatten.toArray⟩ := by
          rw [fold_rep]; simp
        show Made.post (Made.str (⟨(List.replicate k.toNat a.toArray).foldl (· ++ ·) #[]⟩ : Str)) _ _
        rw [e]
        refine ⟨?_, .str _, H, I.tok _, ⟨_, rfl⟩, q⟩
        rw [str_len, rep_len, ← lim_eq, Nat.mul_comm]
        exact hz
theorem bin_mul (hK : G.K = X.K) : OpR X (binaryOp .Mult) (rW2 G (binD .Mult)) := by
  intro pins s σ H x y v u Q I rx ry h
  obtain ⟨w, Hd, dx, dy, d, rel, hx, hy, hb, q⟩ := h
  simp only [binD] at hb
  split at hb
  · rename_i i j
    have hx : RepV G w H (.int i) x := hx
    have hy : RepV G w H (.int j) y := hy
    cases hx; cases hy
    split at hb
    · rename_i hl
      cases hb
      refine op_mul pins s σ H _ _ v u Q I rx ry ⟨_, _, rfl, rfl, ?_, q.here rel (.int _)⟩
      rw [Bool.or_eq_true, smallI_iff, smallI_iff] at hl
      exact hl
    · cases hb
  · rename_i a j
    have hx : RepV G w H (.str a) x := hx
    have hy : RepV G w H (.int j) y := hy
    cases hx
    cases hy
    split at hb
    · rename_i hl
      cases hb
      rw [Bool.and_eq_true, smallI_iff, decide_eq_true_iff] at hl
      exact op_repS pins s σ H _ _ v u Q I rx ry ⟨_, _, rfl, rfl, by omega, by omega, hl.2, q.here rel (.str _)⟩
    · cases hb
  · rename_i a j
    obtain ⟨p, vs, rfl, h1, h2⟩ := hx
    have hy : RepV G w H (.int j) y := hy
    cases hy
    split at hb
    · rename_i hl
      cases hb
      rw [Bool.and_eq_true, smallI_iff, decide_eq_true_iff] at hl
      refine op_rep pins s σ H _ _ v u Q I rx ry ⟨p, _, _, rfl, rfl, h1, by omega, by omega, by rw [← h2.length, ← lim_eq]; exact hl.2, q.lv rel (h2.rep _)⟩
    · cases hb
  · rename_i a j
    have hx : RepV G w H (.tup a) x := hx
    have hy : RepV G w H (.int j) y := hy
    cases hx with
    | tup t1 h1 =>
      cases hy
      split at hb
      · cases hb
      · rename_i hne
        have hvs : ∀ e : _ = [], False := fun e => hne (by rw [h1.nil_iff] at e; subst e; rfl)
        split at hb
        · rename_i e
          cases hb
          exact op_rep01 pins s σ H _ _ v u Q I rx ry ⟨_, _, _, rfl, rfl, hK ▸ t1.sq, hvs, .inr ⟨e, q.tup rel .nil⟩⟩
        · split at hb
          · rename_i e
            cases hb
            exact op_rep01 pins s σ H _ _ v u Q I rx ry ⟨_, _, _, rfl, rfl, hK ▸ t1.sq, hvs, .inl ⟨e, q.here rel (.tup t1 h1)⟩⟩
          · cases hb
  · cases hb
theorem bin_fdiv : OpR X (binaryOp .FloorDiv) (rW2 G (binD .FloorDiv)) := by
  intro pins s σ H x y v u Q I rx ry h
  obtain ⟨w, Hd, dx, dy, d, rel, hx, hy, hb, q⟩ := h
  simp only [binD] at hb
  split at hb
  · rename_i i j
    have hx : RepV G w H (.int i) x := hx
    have hy : RepV G w H (.int j) y := hy
    cases hx; cases hy
    split at hb
    · rename_i hl
      cases hb
      rw [Bool.and_eq_true, decide_eq_true_iff, decide_eq_true_iff] at hl
      exact op_fdiv pins s σ H _ _ v u Q I rx ry ⟨_, _, rfl, rfl, hl, q.here rel (.int _)⟩
    · cases hb
  · cases hb
theorem bin_mod : OpR X (binaryOp .Mod) (rW2 G (binD .Mod)) := by
  intro pins s σ H x y v u Q I rx ry h
  obtain ⟨w, Hd, dx, dy, d, rel, hx, hy, hb, q⟩ := h
  simp only [binD] at hb
  split at hb
  · rename_i i j
    have hx : RepV G w H (.int i) x := hx
    have hy : RepV G w H (.int j) y := hy
    cases hx; cases hy
    split at hb
    · rename_i hl
      cases hb
      exact op_mod pins s σ H _ _ v u Q I rx ry ⟨_, _, rfl, rfl, hl, q.here rel (.int _)⟩
    · cases hb
  · cases hb
theorem bin_pow : OpR X (binaryOp .Pow) (rW2 G (binD .Pow)) := by
  intro pins s σ H x y v u Q I rx ry h
  obtain ⟨w, Hd, dx, dy, d, rel, hx, hy, hb, q⟩ := h
  simp only [binD] at hb
  split at hb
  · rename_i i j
    have hx : RepV G w H (.int i) x := hx
    have hy : RepV G w H (.int j) y := hy
    cases hx; cases hy
    split at hb
    · rename_i hl
      cases hb
      simp only [Bool.and_eq_true, decide_eq_true_iff] at hl
      exact op_pow pins s σ H _ _ v u Q I rx ry ⟨_, _, rfl, rfl, ⟨hl.1.1.2, by omega, hl.2⟩, q.here rel (.int _)⟩
    · cases hb
  · cases hb
theorem op_bin (hK : G.K = X.K) (o : Operator) : OpR X (binaryOp o) (rW2 G (binD o)) := by
  cases o with
  | Add => exact bin_add hK
  | Sub => exact bin_sub
  | Mult => exact bin_mul hK
  | FloorDiv => exact bin_fdiv
  | Mod => exact bin_mod
  | Pow => exact bin_pow
  | _ => (intro pins s σ H x y v u Q I rx ry h; obtain ⟨w, Hd, dx, dy, d, rel, hx, hy, hb, q⟩ := h; cases hb)

mutual
theorem dp_of {w : Vw} {H : Hp} (hK : G.K = X.K) : ∀ {d : D} {v : V}, plainD d = true → RepV G w H d v → Dp X.K H v (toPy d)
  | _, _, _, .non => by unfold toPy; exact .non
  | _, _, _, .bl b => by unfold toPy; exact .bl b
  | _, _, _, .int i => by unfold toPy; exact .int i
  | _, _, _, .str x => by unfold toPy; exact .str _
  | _, _, p, .tup h r => by unfold toPy; unfold plainD at p; exact .tup (hK ▸ h.sq) (dps_of hK p r)
  | _, _, p, .lv _ h r => by unfold toPy; unfold plainD at p; exact .lst (SqL.of h) (dps_of hK p r)
  | .fz _, _, p, _ => by unfold plainD at p; cases p
  | .ref _, _, p, _ => by unfold plainD at p; cases p
  | .cls _, _, p, _ => by unfold plainD at p; cases p
  | .ty _, _, p, _ => by unfold plainD at p; cases p
theorem dps_of {w : Vw} {H : Hp} (hK : G.K = X.K) : ∀ {ds : List D} {vs : List V}, plainDs ds = true → RepVs G w H ds vs → DpAll X.K H vs (toPys ds)
  | _, _, _, .nil => by unfold toPys; exact .nil
  | _, _, p, .cons h r => by
    unfold toPys
    unfold plainDs at p
    rw [Bool.and_eq_true] at p
    exact .cons (dp_of hK p.1 h) (dps_of hK p.2 r)
end
theorem dpW_of {w : Vw} {H : Hp} (hK : G.K = X.K) {d : D} {v : V} (p : plainD d = true) (h : RepW G w H d v) : Dp X.K H v (toPy d) := by
  cases d with
  | lv xs =>
    obtain ⟨a, vs, rfl, h1, h2⟩ := h
    unfold toPy
    unfold plainD at p
    exact .lst (SqL.of h1) (dps_of hK p h2)
  | dv _ _ => unfold plainD at p; cases p
  | _ => exact dp_of hK p h
mutual
theorem depth_py : ∀ d : D, plainD d = true → (toPy d).depth = depthD d
  | .non, _ => by simp [toPy, PyData.depth, depthD]
  | .bl _, _ => by simp [toPy, PyData.depth, depthD]
  | .int _, _ => by simp [toPy, PyData.depth, depthD]
  | .str _, _ => by simp [toPy, PyData.depth, depthD]
  | .tup xs, p => by unfold plainD at p; simp only [toPy, PyData.depth, depthD, depths_py xs p]
  | .lv xs, p => by unfold plainD at p; simp only [toPy, PyData.depth, depthD, depths_py xs p]
  | .fz xs, p => by unfold plainD at p; cases p
  | .dv _ _, p => by unfold plainD at p; cases p
  | .sv _, p => by unfold plainD at p; cases p
  | .ref _, p => by unfold plainD at p; cases p
  | .cls _, p => by unfold plainD at p; cases p
  | .ty _, p => by unfold plainD at p; cases p
theorem depths_py : ∀ ds : List D, plainDs ds = true → PyData.depthAll (toPys ds) = depthDs ds
  | [], _ => by simp [toPys, PyData.depthAll, depthDs]
  | d :: ds, p => by
    unfold plainDs at p
    rw [Bool.and_eq_true] at p
    simp only [toPys, PyData.depthAll, depthDs, depth_py d p.1, depths_py ds p.2]
end
end
end DI
namespace DI
open PySem PySem.Spec PyProof.Rows L2
mutual
theorem eqv_py : ∀ (a b : D), plainD a = true → plainD b = true → PyData.eqv (toPy a) (toPy b) = eqD a b
  | .tup xs, .tup ys, p, q => by unfold plainD at p q; simp only [toPy, PyData.eqv, eqD, eqvs_py xs ys p q]
  | .lv xs, .lv ys, p, q => by unfold plainD at p q; simp only [toPy, PyData.eqv, eqD, eqvs_py xs ys p q]
  | .str x, .str y, _, _ => by
    simp only [toPy, PyData.eqv, eqD]
    rw [Bool.eq_iff_iff]
    simp
  | .non, .non, _, _ => by simp [toPy, PyData.eqv, eqD]
  | .non, .bl _, _, _ => by simp [toPy, PyData.eqv, eqD]
  | .non, .int _, _, _ => by simp [toPy, PyData.eqv, eqD]
  | .non, .str _, _, _ => by simp [toPy, PyData.eqv, eqD]
  | .non, .tup _, _, _ => by simp [toPy, PyData.eqv, eqD]
  | .non, .lv _, _, _ => by simp [toPy, PyData.eqv, eqD]
  | .bl _, .non, _, _ => by simp [toPy, PyData.eqv, eqD]
  | .bl _, .bl _, _, _ => by simp [toPy, PyData.eqv, eqD]
  | .bl _, .int _, _, _ => by simp [toPy, PyData.eqv, eqD]
  | .bl _, .str _, _, _ => by simp [toPy, PyData.eqv, eqD]
  | .bl _, .tup _, _, _ => by simp [toPy, PyData.eqv, eqD]
  | .bl _, .lv _, _, _ => by simp [toPy, PyData.eqv, eqD]
  | .int _, .non, _, _ => by simp [toPy, PyData.eqv, eqD]
  | .int _, .bl _, _, _ => by simp [toPy, PyData.eqv, eqD]
  | .int _, .int _, _, _ => by simp [toPy, PyData.eqv, eqD]
  | .int _, .str _, _, _ => by simp [toPy, PyData.eqv, eqD]
  | .int _, .tup _, _, _ => by simp [toPy, PyData.eqv, eqD]
  | .int _, .lv _, _, _ => by simp [toPy, PyData.eqv, eqD]
  | .str _, .non, _, _ => by simp [toPy, PyData.eqv, eqD]
  | .str _, .bl _, _, _ => by simp [toPy, PyData.eqv, eqD]
  | .str _, .int _, _, _ => by simp [toPy, PyData.eqv, eqD]
  | .str _, .tup _, _, _ => by simp [toPy, PyData.eqv, eqD]
  | .str _, .lv _, _, _ => by simp [toPy, PyData.eqv, eqD]
  | .tup _, .non, _, _ => by simp [toPy, PyData.eqv, eqD]
  | .tup _, .bl _, _, _ => by simp [toPy, PyData.eqv, eqD]
  | .tup _, .int _, _, _ => by simp [toPy, PyData.eqv, eqD]
  | .tup _, .str _, _, _ => by simp [toPy, PyData.eqv, eqD]
  | .tup _, .lv _, _, _ => by simp [toPy, PyData.eqv, eqD]
  | .lv _, .non, _, _ => by simp [toPy, PyData.eqv, eqD]
  | .lv _, .bl _, _, _ => by simp [toPy, PyData.eqv, eqD]
  | .lv _, .int _, _, _ => by simp [toPy, PyData.eqv, eqD]
  | .lv _, .str _, _, _ => by simp [toPy, PyData.eqv, eqD]
  | .lv _, .tup _, _, _ => by simp [toPy, PyData.eqv, eqD]
  | .fz _, _, p, _ => by unfold plainD at p; cases p
  | .dv _ _, _, p, _ => by unfold plainD at p; cases p
  | .sv _, _, p, _ => by unfold plainD at p; cases p
  | .ref _, _, p, _ => by unfold plainD at p; cases p
  | .cls _, _, p, _ => by unfold plainD at p; cases p
  | .ty _, _, p, _ => by unfold plainD at p; cases p
  | _, .fz _, _, p => by unfold plainD at p; cases p
  | _, .dv _ _, _, p => by unfold plainD at p; cases p
  | _, .sv _, _, p => by unfold plainD at p; cases p
  | _, .ref _, _, p => by unfold plainD at p; cases p
  | _, .cls _, _, p => by unfold plainD at p; cases p
  | _, .ty _, _, p => by unfold plainD at p; cases p
theorem eqvs_py : ∀ (a b : List D), plainDs a = true → plainDs b = true → PyData.eqvAll (toPys a) (toPys b) = eqDs a b
  | [], [], _, _ => by simp [toPys, PyData.eqvAll, eqDs]
  | [], _ :: _, _, _ => by simp [toPys, PyData.eqvAll, eqDs]
  | _ :: _, [], _, _ => by simp [toPys, PyData.eqvAll, eqDs]
  | a :: as, b :: bs, p, q => by
    unfold plainDs at p q
    rw [Bool.and_eq_true] at p q
    simp only [toPys, PyData.eqvAll, eqDs, eqv_py a b p.1 q.1, eqvs_py as bs p.2 q.2]
end
mutual
theorem lay_py : ∀ d : D, plainD d = true → okS d = true → (toPy d).canLay0 = true
  | .non, _, _ => by simp [toPy, PyData.canLay0]
  | .bl _, _, _ => by simp [toPy, PyData.canLay0]
  | .int _, _, _ => by simp [toPy, PyData.canLay0]
  | .str x, _, o => by
    unfold okS at o
    simp only [toPy, PyData.canLay0, PyData.strOk]
    simpa using o
  | .tup xs, p, o => by unfold plainD at p; unfold okS at o; simp only [toPy, PyData.canLay0]; exact lays_py xs p o
  | .lv xs, p, o => by unfold plainD at p; unfold okS at o; simp only [toPy, PyData.canLay0]; exact lays_py xs p o
  | .fz xs, p, _ => by unfold plainD at p; cases p
  | .dv _ _, p, _ => by unfold plainD at p; cases p
  | .sv _, p, _ => by unfold plainD at p; cases p
  | .ref _, p, _ => by unfold plainD at p; cases p
  | .cls _, p, _ => by unfold plainD at p; cases p
  | .ty _, p, _ => by unfold plainD at p; cases p
theorem lays_py : ∀ ds : List D, plainDs ds = true → okSs ds = true → PyData.canLayAll0 (toPys ds) = true
  | [], _, _ => by simp [toPys, PyData.canLayAll0]
  | d :: ds, p, o => by
    unfold plainDs at p
    unfold okSs at o
    rw [Bool.and_eq_true] at p o
    simp only [toPys, PyData.canLayAll0, lay_py d p.1 o.1, lays_py ds p.2 o.2, Bool.and_self]
end
theorem shaped_py {d : D} (h : eqOk d = true) : plainD d = true ∧ SeqAt.shaped (toPy d) = true := by
  unfold eqOk at h
  simp only [Bool.and_eq_true, decide_eq_true_iff] at h
  refine ⟨h.1.1, ?_⟩
  unfold SeqAt.shaped
  rw [Bool.and_eq_true, decide_eq_true_iff, depth_py d h.1.1]
  exact ⟨lay_py d h.1.1 h.1.2, h.2⟩
section
variable {X : Cx} {G : Gr}
/-- a comparison by views: the answer a bool -/
def rC2 (G : Gr) (f : D → D → Option Bool) : R2 := fun x y H Q => ∃ w dx dy b, RepW G w H dx x ∧ RepW G w H dy y ∧ f dx dy = some b ∧ Q (.bl b) H
theorem dec_s (a b : List Nat) : decide (V.str ⟨a.toArray⟩ = V.str ⟨b.toArray⟩) = (a == b) := by
  rw [Bool.eq_iff_iff]
  simp
theorem cmp_eq (hK : G.K = X.K) (hu : X.A.units + 64 < cLine) : OpR X (compareOp .Eq) (rC2 G (cmpD .Eq)) := by
  intro pins s σ H x y v u Q I rx ry h
  obtain ⟨w, dx, dy, d, hx, hy, hb, q⟩ := h
  simp only [cmpD] at hb
  unfold eqN at hb
  split at hb
  · rename_i xs
    obtain ⟨a, vs, rfl, h1, h2⟩ := (show ∃ (a : Addr) (vs : List V), x = .ref a ∧ H a = some (.lst vs) ∧ RepVs G w H xs vs from hx)
    obtain ⟨b, us, rfl, h3, h4⟩ := (show ∃ (a : Addr) (vs : List V), y = .ref a ∧ H a = some (.lst vs) ∧ RepVs G w H [] vs from hy)
    cases (show v = Value.ref a from rx)
    cases (show u = Value.ref b from ry)
    cases h4
    obtain ⟨i1, r1, p1, _⟩ := I.list (SqL.of h1)
    obtain ⟨i2, r2, p2, _⟩ := I.list (SqL.of h3)
    cases r2
    cases hb
    have l1 : xs.length = i1.length := h2.length.trans r1.length
    cases xs with
    | nil =>
      have e : i1 = [] := List.length_eq_zero_iff.mp (by rw [← l1]; rfl)
      subst e
      exact SeqAt.eq_listAt (e := fun _ => true) p1.isList p2.isList rfl (by omega) (fun j h1 h2 => absurd h1 (Nat.not_lt_zero _)) ⟨.bl true, H, I, rfl, q⟩
    | cons z xs =>
      refine SeqAt.eq_list_lengthsAt p1.isList p2.isList ?_ (by omega) ⟨.bl false, H, I, rfl, q⟩
      have : i1.length ≠ 0 := by rw [← l1]; simp
      simpa using this
  unfold eqO at hb
  split at hb
  · rename_i a b _
    have hx : RepV G w H (.str a) x := hx
    have hy : RepV G w H (.str b) y := hy
    cases hx; cases hy; cases hb
    exact op_eq pins s σ H _ _ v u Q I rx ry ⟨rfl, by rw [dec_s]; exact q⟩
  · split at hb
    · rename_i hl
      cases hb
      rw [Bool.and_eq_true] at hl
      obtain ⟨p1, s1⟩ := shaped_py hl.1
      obtain ⟨p2, s2⟩ := shaped_py hl.2
      exact op_eqD hu pins s σ H _ _ v u Q I rx ry ⟨_, _, dpW_of hK p1 hx, dpW_of hK p2 hy, s1, s2, by rw [eqv_py _ _ p1 p2]; exact q⟩
    · cases hb
theorem cmp_ne (hK : G.K = X.K) (hu : X.A.units + 64 < cLine) : OpR X (compareOp .NotEq) (rC2 G (cmpD .NotEq)) := by
  intro pins s σ H x y v u Q I rx ry h
  obtain ⟨w, dx, dy, d, hx, hy, hb, q⟩ := h
  simp only [cmpD] at hb
  unfold eqO at hb
  split at hb
  · rename_i a b
    have hx : RepV G w H (.str a) x := hx
    have hy : RepV G w H (.str b) y := hy
    cases hx; cases hy; cases hb
    exact op_ne pins s σ H _ _ v u Q I rx ry ⟨rfl, by rw [dec_s]; exact q⟩
  · split at hb
    · rename_i hl
      cases hb
      rw [Bool.and_eq_true] at hl
      obtain ⟨p1, s1⟩ := shaped_py hl.1
      obtain ⟨p2, s2⟩ := shaped_py hl.2
      exact op_neD hu pins s σ H _ _ v u Q I rx ry ⟨_, _, dpW_of hK p1 hx, dpW_of hK p2 hy, s1, s2, by rw [eqv_py _ _ p1 p2]; exact q⟩
    · cases hb
mutual
theorem dp_frz {w : Vw} {H : Hp} {Hd : HH} (hK : G.K = X.K) (rel : Rel G w Hd H) : ∀ (n : Nat) {d e : D} {v : V}, frzD Hd n d = some e → plainD e = true → RepV G w H d v → Dp X.K H v (toPy e)
  | 0, _, _, _, h, _, _ => by cases h
  | n + 1, .ref r, e, v, h, p, hv => by
    simp only [frzD] at h
    cases hv with
    | ref hr =>
      obtain ⟨o, e1, q⟩ := rel.lt hr
      rw [e1] at h
      cases q with
      | lst h1 h2 =>
        simp only at h
        obtain ⟨l, e2, rfl⟩ := Option.map_eq_some_iff.mp h
        unfold toPy
        unfold plainD at p
        exact .lst (SqL.of h1) (dps_frz hK rel n e2 p h2)
      | dic h1 h2 => simp only at h; cases h
  | n + 1, .tup xs, e, v, h, p, hv => by
    simp only [frzD] at h
    obtain ⟨l, e2, rfl⟩ := Option.map_eq_some_iff.mp h
    cases hv with
    | tup t h2 =>
      unfold toPy
      unfold plainD at p
      exact .tup (hK ▸ t.sq) (dps_frz hK rel n e2 p h2)
  | n + 1, .lv xs, e, v, h, p, hv => by
    simp only [frzD] at h
    obtain ⟨l, e2, rfl⟩ := Option.map_eq_some_iff.mp h
    cases hv with
    | lv _ h1 h2 =>
      unfold toPy
      unfold plainD at p
      exact .lst (SqL.of h1) (dps_frz hK rel n e2 p h2)
  | n + 1, .non, e, v, h, p, hv => by cases h; exact dp_of hK p hv
  | n + 1, .bl _, e, v, h, p, hv => by cases h; exact dp_of hK p hv
  | n + 1, .int _, e, v, h, p, hv => by cases h; exact dp_of hK p hv
  | n + 1, .str _, e, v, h, p, hv => by cases h; exact dp_of hK p hv
  | n + 1, .fz _, e, v, h, p, hv => by
    simp only [frzD] at h
    split at h
    · cases h; unfold plainD at p; cases p
    · cases h
  | n + 1, .dv _ _, e, v, h, p, hv => by cases hv
  | n + 1, .sv _, e, v, h, p, hv => by cases hv
  | n + 1, .cls _, e, v, h, p, hv => by cases h; unfold plainD at p; cases p
  | n + 1, .ty _, e, v, h, p, hv => by cases h; unfold plainD at p; cases p
theorem dps_frz {w : Vw} {H : Hp} {Hd : HH} (hK : G.K = X.K) (rel : Rel G w Hd H) : ∀ (n : Nat) {ds es : List D} {vs : List V}, frzDs Hd n ds = some es → plainDs es = true → RepVs G w H ds vs → DpAll X.K H vs (toPys es)
  | 0, _, _, _, h, _, _ => by cases h
  | n + 1, [], _, _, h, _, .nil => by cases h; unfold toPys; exact .nil
  | n + 1, d :: ds, _, _, h, p, .cons h1 h2 => by
    simp only [frzDs] at h
    cases e1 : frzD Hd n d with
    | none => rw [e1] at h; cases h
    | some a =>
      cases e2 : frzDs Hd n ds with
      | none => rw [e1, e2] at h; cases h
      | some b =>
        rw [e1, e2] at h
        cases h
        unfold toPys
        unfold plainDs at p
        rw [Bool.and_eq_true] at p
        exact .cons (dp_frz hK rel n e1 p.1 h1) (dps_frz hK rel n e2 p.2 h2)
end
/-- .. into live lists -/
def rC3 (G : Gr) (o : CmpOp) : R2 := fun x y H Q => ∃ w Hd dx dy b, Rel G w Hd H ∧ RepV G w H dx x ∧ RepV G w H dy y ∧ cmpG Hd o dx dy = some b ∧ Q (.bl b) H
theorem op_cmpG (hK : G.K = X.K) (hu : X.A.units + 64 < cLine) (o : CmpOp) : OpR X (compareOp o) (rC3 G o) := by
  intro pins s σ H x y v u Q I rx ry h
  obtain ⟨w, Hd, dx, dy, d, rel, hx, hy, hb, q⟩ := h
  unfold cmpG at hb
  split at hb
  · rename_i a b e1 e2
    split at hb
    · rename_i hl
      rw [Bool.and_eq_true] at hl
      obtain ⟨p1, s1⟩ := shaped_py hl.1
      obtain ⟨p2, s2⟩ := shaped_py hl.2
      cases o with
      | Eq => cases hb; exact op_eqD hu pins s σ H _ _ v u Q I rx ry ⟨_, _, dp_frz hK rel _ e1 p1 hx, dp_frz hK rel _ e2 p2 hy, s1, s2, by rw [eqv_py _ _ p1 p2]; exact q⟩
      | NotEq => cases hb; exact op_neD hu pins s σ H _ _ v u Q I rx ry ⟨_, _, dp_frz hK rel _ e1 p1 hx, dp_frz hK rel _ e2 p2 hy, s1, s2, by rw [eqv_py _ _ p1 p2]; exact q⟩
      | _ => cases hb
    · cases hb
  · cases hb
theorem cmp_ord {o : CmpOp} {p : Int → Int → Bool} (h1 : OpR X (compareOp o) (rI0 fun i j => .bl (p i j))) (hf : ∀ x y b, cmpD o x y = some b → ∃ i j, x = .int i ∧ y = .int j ∧ b = p i j) : OpR X (compareOp o) (rC2 G (cmpD o)) := by
  intro pins s σ H x y v u Q I rx ry h
  obtain ⟨w, dx, dy, d, hx, hy, hb, q⟩ := h
  obtain ⟨i, j, rfl, rfl, rfl⟩ := hf _ _ _ hb
  have hx : RepV G w H (.int i) x := hx
  have hy : RepV G w H (.int j) y := hy
  cases hx; cases hy
  exact h1 pins s σ H _ _ v u Q I rx ry ⟨_, _, rfl, rfl, q⟩
theorem eqD_flat {w : Vw} {H : Hp} {d e : D} {v u : V} (hd : flatD d = true) (he : flatD e = true) (h1 : RepV G w H d v) (h2 : RepV G w H e u) : flatV v = true ∧ flatV u = true ∧ eqV v u = eqD d e := by
  cases h1 <;> first
    | (simp [flatD] at hd; done)
    | (cases h2 <;> first
        | (simp [flatD] at he; done)
        | (refine ⟨rfl, rfl, ?_⟩; simp [eqV, eqD]; done)
        | (refine ⟨rfl, rfl, ?_⟩; simp only [eqV, eqD]; rw [Bool.eq_iff_iff]; simp; done))
theorem inV_flat {w : Vw} {H : Hp} {d : D} {v : V} (hd : flatD d = true) (h1 : RepV G w H d v) : ∀ {ys : List D} {vs : List V}, ys.all flatD = true → RepVs G w H ys vs → vs.all flatV = true ∧ inV v vs = ys.any fun z => eqD z d
  | _, _, _, .nil => ⟨rfl, rfl⟩
  | _, _, p, .cons h r => by
    rw [List.all_cons, Bool.and_eq_true] at p
    obtain ⟨a, b⟩ := inV_flat hd h1 p.2 r
    obtain ⟨c, d', e⟩ := eqD_flat p.1 hd h h1
    refine ⟨by rw [List.all_cons, c, a]; rfl, ?_⟩
    unfold inV at b ⊢
    rw [List.any_cons, List.any_cons, e, b]
theorem any_py {x : D} (hx : plainD x = true) : ∀ {ys : List D}, plainDs ys = true → ((toPys ys).any fun z => PyData.eqv z (toPy x)) = ys.any fun z => eqD z x
  | [], _ => by simp [toPys]
  | y :: ys, p => by
    unfold plainDs at p
    rw [Bool.and_eq_true] at p
    simp only [toPys, List.any_cons, eqv_py y x p.1 hx, any_py hx p.2]
theorem cmp_in (hK : G.K = X.K) (hu : X.A.units + 65 < cLine) : OpR X (compareOp .In) (rC2 G (cmpD .In)) := by
  intro pins s σ H x y v u Q I rx ry h
  obtain ⟨w, dx, dy, d, hx, hy, hb, q⟩ := h
  simp only [cmpD] at hb
  unfold inD at hb
  split at hb
  · split at hb
    · rename_i hl
      cases hb
      rw [Bool.and_eq_true] at hl
      obtain ⟨p1, s1⟩ := shaped_py hl.1
      obtain ⟨p2, s2⟩ := shaped_py hl.2
      have hd := dpW_of hK p2 hy
      unfold toPy at hd s2
      unfold plainD at p2
      exact op_inD hu pins s σ H _ _ v u Q I rx ry ⟨_, _, dpW_of hK p1 hx, hd, s1, s2, by rw [any_py p1 p2]; exact q⟩
    · cases hb
  · rename_i ys
    split at hb
    · rename_i hl
      cases hb
      rw [Bool.and_eq_true] at hl
      have hx' : RepV G w H dx x := by
        cases dx <;> first | exact hx | (have z := hl.1; simp [flatD] at z; done)
      have hy : RepV G w H (.tup ys) y := hy
      cases hy with
      | tup t r =>
        obtain ⟨a, b⟩ := inV_flat hl.1 hx' hl.2 r
        have fx := (eqD_flat hl.1 hl.1 hx' hx').1
        exact op_in_seq pins s σ H _ _ v u Q I rx ry ⟨_, _, rfl, .inr (hK ▸ t.sq), fx, a, by rw [if_neg (by simp), b]; exact q⟩
    · cases hb
  · rename_i z
    split at hb
    · rename_i c
      cases hb
      have hx : RepV G w H (.str [c]) x := hx
      have hy : RepV G w H (.str z) y := hy
      cases hx; cases hy
      exact op_in_sign pins s σ H _ _ v u Q I rx ry ⟨c, _, rfl, rfl, by simpa using q⟩
    · cases hb
  · cases hb
theorem cmp_nin (hK : G.K = X.K) (hu : X.A.units + 65 < cLine) : OpR X (compareOp .NotIn) (rC2 G (cmpD .NotIn)) := by
  intro pins s σ H x y v u Q I rx ry h
  obtain ⟨w, dx, dy, d, hx, hy, hb, q⟩ := h
  simp only [cmpD] at hb
  unfold inD at hb
  split at hb
  · split at hb
    · rename_i hl
      cases hb
      rw [Bool.and_eq_true] at hl
      obtain ⟨p1, s1⟩ := shaped_py hl.1
      obtain ⟨p2, s2⟩ := shaped_py hl.2
      have hd := dpW_of hK p2 hy
      unfold toPy at hd s2
      unfold plainD at p2
      exact op_notInD hu pins s σ H _ _ v u Q I rx ry ⟨_, _, dpW_of hK p1 hx, hd, s1, s2, by rw [any_py p1 p2]; exact q⟩
    · cases hb
  · rename_i ys
    split at hb
    · rename_i hl
      cases hb
      rw [Bool.and_eq_true] at hl
      have hx' : RepV G w H dx x := by
        cases dx <;> first | exact hx | (have z := hl.1; simp [flatD] at z; done)
      have hy : RepV G w H (.tup ys) y := hy
      cases hy with
      | tup t r =>
        obtain ⟨a, b⟩ := inV_flat hl.1 hx' hl.2 r
        have fx := (eqD_flat hl.1 hl.1 hx' hx').1
        exact op_notIn_seq pins s σ H _ _ v u Q I rx ry ⟨_, _, rfl, .inr (hK ▸ t.sq), fx, a, by rw [if_pos rfl, b]; exact q⟩
    · cases hb
  · rename_i z
    split at hb
    · rename_i c
      cases hb
      have hx : RepV G w H (.str [c]) x := hx
      have hy : RepV G w H (.str z) y := hy
      cases hx; cases hy
      exact op_notIn_sign pins s σ H _ _ v u Q I rx ry ⟨c, _, rfl, rfl, by simpa using q⟩
    · cases hb
  · cases hb
theorem cmp_is : OpR X (compareOp .Is) (rC2 G (cmpD .Is)) := by
  intro pins s σ H x y v u Q I rx ry h
  obtain ⟨w, dx, dy, d, hx, hy, hb, q⟩ := h
  simp only [cmpD] at hb
  split at hb
  · have hy : RepV G w H .non y := hy
    cases hy
    refine op_isN pins s σ H _ _ v u Q I rx ry ⟨rfl, ?_⟩
    cases dx <;> first
      | (obtain ⟨a, vs, rfl, _, _⟩ := hx; cases hb; exact q)
      | (have hx := (show RepV G w H _ x from hx); cases hx <;> (cases hb; exact q))
  · rename_i b
    split at hb
    · rename_i a
      have hx : RepV G w H (.bl a) x := hx
      have hy : RepV G w H (.bl b) y := hy
      cases hx; cases hy; cases hb
      exact op_is_bl pins s σ H _ _ v u Q I rx ry ⟨a, b, rfl, rfl, q⟩
    · cases hb
  · cases hb
theorem cmp_isnot : OpR X (compareOp .IsNot) (rC2 G (cmpD .IsNot)) := by
  intro pins s σ H x y v u Q I rx ry h
  obtain ⟨w, dx, dy, d, hx, hy, hb, q⟩ := h
  simp only [cmpD] at hb
  split at hb
  · have hy : RepV G w H .non y := hy
    cases hy
    refine op_notN pins s σ H _ _ v u Q I rx ry ⟨rfl, ?_⟩
    cases dx <;> first
      | (obtain ⟨a, vs, rfl, _, _⟩ := hx; cases hb; exact q)
      | (have hx := (show RepV G w H _ x from hx); cases hx <;> (cases hb; exact q))
  · rename_i b
    split at hb
    · rename_i a
      have hx : RepV G w H (.bl a) x := hx
      have hy : RepV G w H (.bl b) y := hy
      cases hx; cases hy; cases hb
      exact op_isnot_bl pins s σ H _ _ v u Q I rx ry ⟨a, b, rfl, rfl, q⟩
    · cases hb
  · cases hb
theorem op_cmp (hK : G.K = X.K) (hu : X.A.units + 65 < cLine) (o : CmpOp) : OpR X (compareOp o) (rC2 G (cmpD o)) := by
  cases o with
  | Eq => exact cmp_eq hK (by omega)
  | NotEq => exact cmp_ne hK (by omega)
  | Lt => exact cmp_ord op_lt fun x y b h => by simp only [cmpD] at h; split at h <;> first | exact ⟨_, _, rfl, rfl, (Option.some.inj h).symm⟩ | cases h
  | LtE => exact cmp_ord op_le fun x y b h => by simp only [cmpD] at h; split at h <;> first | exact ⟨_, _, rfl, rfl, (Option.some.inj h).symm⟩ | cases h
  | Gt => exact cmp_ord op_gt fun x y b h => by simp only [cmpD] at h; split at h <;> first | exact ⟨_, _, rfl, rfl, (Option.some.inj h).symm⟩ | cases h
  | GtE => exact cmp_ord op_ge fun x y b h => by simp only [cmpD] at h; split at h <;> first | exact ⟨_, _, rfl, rfl, (Option.some.inj h).symm⟩ | cases h
  | In => exact cmp_in hK hu
  | NotIn => exact cmp_nin hK hu
  | Is => exact cmp_is
  | IsNot => exact cmp_isnot
theorem tru_of {w : Vw} {H : Hp} (hK : G.K = X.K) {d : D} {v : V} {b : Bool} (h : RepW G w H d v) (e : truD d = some b) : TruV X.K v H b := by
  unfold truD at e
  split at e
  · have h : RepV G w H .non v := h
    cases h; cases e; rfl
  · rename_i k
    have h : RepV G w H (.bl k) v := h
    cases h; cases e; rfl
  · rename_i k
    have h : RepV G w H (.int k) v := h
    cases h; cases e; rfl
  · rename_i k
    have h : RepV G w H (.str k) v := h
    cases h
    split at e
    · rename_i hl
      cases e
      exact ⟨by rw [str_len, ← lim_eq]; exact hl, by rw [str_len]⟩
    · cases e
  · rename_i k
    obtain ⟨a, vs, rfl, h1, h2⟩ := h
    cases e
    exact .inl ⟨vs, SqL.of h1, by cases h2 <;> rfl⟩
  · rename_i k
    have h : RepV G w H (.tup k) v := h
    cases h with
    | tup t r =>
      cases e
      exact .inr (.inl ⟨_, hK ▸ t.sq, by cases r <;> rfl⟩)
  · cases e
end
end DI
namespace DI
open PySem PySem.Spec PyProof.Rows L2 PySem.W
section
variable {prog : Program} {w : World} {A : Around} {E : Value → Shared → Prop} {s : Shared}
/-- the items of a list or a tuple -/
def SeqIs (h : Heap) (l : Addr) (vs : List Value) : Prop := ∃ (o : Obj) (T : String) (n : Nat), h.get? l = some o ∧ o.cls = .type T ∧ (T = "list" ∨ T = "tuple") ∧ o.data = .seq vs.toArray n
theorem collect_seq {l : Addr} {vs : List Value} {Q : List Value → Shared → Prop} (hl : SeqIs s.heap l vs)
    (h : Q vs { s with heap := (s.heap.push (seqObj "list" #[] 0)).update s.heap.objs.size (Obj.mapSeq (· ++ vs.toArray)) }) (hsz : vs.length ≤ sizeLine) :
    wpAny (model prog w) A (collect (.ref l)) Q E s := by
  obtain ⟨o, T, n, ho, hc, hT, hd⟩ := hl
  unfold collect
  refine wpAny_bind (wpAny_runValue (codeAny_builtin entry_proto_collect' ?_))
  show wpAny _ _ (do again (.builtin "list.__iadd__" ⟨[← newList [], .ref l], []⟩)) _ _ s
  refine wpAny_bind (wpAny_newList (wpAny_pure ⟨Code.quiet_builtin _ (by decide +kernel), codeAny_builtin entry_list_iadd' ?_⟩))
  show wpAny _ _ (Builtin.List.listExtendWith (.ref s.heap.objs.size) (.ref l) (.ref s.heap.objs.size)) _ _ { s with heap := s.heap.push (seqObj "list" #[] 0) }
  unfold Builtin.List.listExtendWith
  have ho' : (s.heap.push (seqObj "list" #[] 0)).get? l = some o := Heap.get?_push_of_some _ ho
  refine wpAny_bind (wpAny_typeOf (T := T) ⟨o, ho', hc⟩ ?_)
  have ht : (Builtin.List.listSameRef (Value.ref s.heap.objs.size) (Value.ref l) || Value.type T == Value.type "list" || Value.type T == Value.type "tuple") = true := by
    rcases hT with rfl | rfl
    · have : (Value.type "list" == Value.type "list") = true := by rfl
      rw [this]; simp
    · have : (Value.type "tuple" == Value.type "tuple") = true := by rfl
      rw [this]; simp
  rw [if_pos ht]
  refine wpAny_bind (listItems_at ho' hd ?_)
  refine wpAny_bind (listItems_at (xs := #[]) (n := 0) (Heap.get?_push_size _ rfl) rfl ?_)
  rw [if_neg (by simp)]
  refine wpAny_bind (listUpdate_at (xs := #[]) (n := 0) (Heap.get?_push_size _ rfl) rfl ?_ (Nat.zero_le _) (by show (#[] ++ vs.toArray).size ≤ sizeLine + 1; simp only [Array.size_append, List.size_toArray, List.length_nil]; omega))
  refine wpAny_pure ?_
  show wpAny (model prog w) A (do
      let o ← load s.heap.objs.size
      match o.data with
      | .seq xs _ => pure xs.toList
      | _ => unsupported "internal:collect") Q E { s with heap := (s.heap.push (seqObj "list" #[] 0)).update s.heap.objs.size (Obj.mapSeq (· ++ vs.toArray)) }
  refine wpAny_bind (wpAny_load (get?_update_seq (Heap.get?_push_size _ rfl) _) ?_)
  show wpAny _ _ (pure ((#[] : Array Value) ++ vs.toArray).toList) Q E _
  rw [show ((#[] : Array Value) ++ vs.toArray).toList = vs by simp]
  exact wpAny_pure h
theorem sorted_of_sortQ {l : Addr} {vs : List Value} {Q : Value → Shared → Prop} (hl : SeqIs s.heap l vs) (hL : vs.length ≤ sizeLine)
    (body : ∀ E' : Value → Shared → Prop, wpAny (model prog w) A.in1.in1 (Builtin.«list.sort» ⟨[.ref (s.heap.objs.size + 1)], []⟩) (fun f s' => f = .done (.ret .none) ∧ Q (.ref (s.heap.objs.size + 1)) s') E' { s with heap := copyHeap s.heap vs }) :
    wpAny (model prog w) A (call (.builtin "sorted") [.ref l] []) Q E s := by
  refine call_function_entry_kw kind_sorted plain_sorted entry_sorted (args_sorted1 _) ?_
  unfold Builtin.«sorted»
  refine wpAny_bind (m := checkCount "sorted" 1 1 _) (wpAny_pure ?_)
  refine wpAny_bind (collect_seq hl ?_ hL)
  refine wpAny_bind (wpAny_newList ?_ hL)
  have hsz : ((s.heap.push (seqObj "list" #[] 0)).update s.heap.objs.size (Obj.mapSeq (· ++ vs.toArray))).objs.size = s.heap.objs.size + 1 := by
    rw [Heap.size_update, size_push']
  show wpAny _ _ _ _ _ { s with heap := copyHeap s.heap vs }
  rw [hsz]
  refine wpAny_bind (wpAny_holding (wpAny_call_entry_kw slot_list_sort ⟨_, copyHeap_at s.heap vs, rfl⟩ entry_list_sort ?body (args_list_sort _)))
  case body =>
    show wpAny (model prog w) A.in1.in1 (Builtin.«list.sort» ⟨[.ref (s.heap.objs.size + 1)], []⟩) _ _ _
    refine wpAny_mono (body _) (fun f s' hf => ?_) fun _ _ e => e
    obtain ⟨rfl, hq⟩ := hf
    exact ⟨_, rfl, wpAny_pure ⟨_, rfl, hq⟩⟩
theorem sorted_seq {β : Type} {R : Value → β → Prop} {enc : β → PyData} {vs : List Value} {bs : List β} {l : Addr} {Q : Value → Shared → Prop} (hl : SeqIs s.heap l vs) (e : EachIs R vs bs) (er : EachIs (fun v b => ∃ as, Reads s.heap v (enc b) as) vs bs) (hal : AllAlike (bs.map enc)) (hk : Sortable (bs.map enc)) (hL : bs.length ≤ sizeLine)
    (hu : ∀ b, b ∈ bs → A.units + 2 + (enc b).depth < cLine) (h : ∀ out, out.length = bs.length → EachIs R out (bs.mergeSort (dataLe false enc)) → Q (.ref (s.heap.objs.size + 1)) { s with heap := sortedAll s.heap vs (List.toArray out) }) :
    wpAny (model prog w) A (call (.builtin "sorted") [.ref l]) Q E s := by
  have er' : EachIs (fun v b => ∃ as, Reads (sortingHeap (copyHeap s.heap vs) (s.heap.objs.size + 1) vs) v (enc b) as) vs bs := er.mono fun _ _ ⟨as, r⟩ => ⟨as, PyProof.Rows.Reads.keeps (fun _ _ => sorting_copy_old) r⟩
  have S : SortsAt prog w A.in1.in1 { s with heap := sortingHeap (copyHeap s.heap vs) (s.heap.objs.size + 1) vs } _ vs := SortsAt.data (s := { s with heap := sortingHeap (copyHeap s.heap vs) (s.heap.objs.size + 1) vs }) (each_map (R := fun v d => ∃ as, Reads (sortingHeap (copyHeap s.heap vs) (s.heap.objs.size + 1) vs) v d as) enc er') hal hk (bound_map hu)
  refine sorted_of_sortQ hl (by rw [e.length]; exact hL) fun _ => list_sort_vals (s := { s with heap := copyHeap s.heap vs }) (copyHeap_at s.heap vs) S (by rw [e.length]; exact hL) ⟨rfl, ?_⟩
  exact h _ (by rw [sortVals_length false rfl]; exact e.length) (sortVals_data false e er' hal)
end
theorem toPys_map : ∀ xs : List D, toPys xs = xs.map toPy
  | [] => rfl
  | x :: xs => by simp only [toPys, List.map_cons, toPys_map xs]
theorem tupNe_py {d : D} (h : tupNe d = true) : ∃ x r, toPy d = .tuple (x :: r) := by
  cases d with
  | tup xs =>
    cases xs with
    | nil => cases h
    | cons x r => exact ⟨toPy x, toPys r, by simp [toPy, toPys]⟩
  | _ => cases h
theorem notNT_py {d : D} (h : notNT d = true) (hp : plainD d = true) : toPy d ≠ .none ∧ ∀ xs, toPy d ≠ .tuple xs := by
  cases d <;> first | (cases h; done) | (cases hp; done) | (simp [toPy]; done)
theorem paired_each {A B : Type} {R : A → B → Prop} : ∀ {as : List A} {bs : List B}, Paired R as bs → EachIs (fun b a => R a b) bs as
  | _, _, .nil => .nil
  | _, _, .cons h t => .cons h (paired_each t)
section
variable {X : Cx} {G : Gr} {w : Vw} {Hd : HH} {H : Hp} {pins : List (Addr × Obj)} {σ : L2.St} {s : Shared}
theorem each_zip : ∀ {xs : List D} {vs : List V} {its : List Value}, xs.length = vs.length → Vals vs its → EachIs (fun v (b : D × V) => RelV b.2 v) its (xs.zip vs)
  | [], [], _, _, .nil => .nil
  | x :: xs, v :: vs, _, h, .cons r t => .cons r (each_zip (Nat.succ.inj h) t)
theorem each_back : ∀ {bs : List (D × V)} {its : List Value}, EachIs (fun v (b : D × V) => RelV b.2 v) its bs → Vals (bs.map Prod.snd) its
  | _, _, .nil => .nil
  | _, _, .cons h t => .cons h (each_back t)
theorem rep_zip {xs : List D} {vs : List V} (h : RepVs G w H xs vs) : ∀ p ∈ xs.zip vs, RepV G w H p.1 p.2 := by
  intro p hp
  induction xs generalizing vs with
  | nil => cases h; cases hp
  | cons x xs ih =>
    cases h with
    | cons h1 h2 =>
      rcases List.mem_cons.mp hp with rfl | hp
      · exact h1
      · exact ih h2 hp
theorem rep_unzip : ∀ {bs : List (D × V)}, (∀ p ∈ bs, RepV G w H p.1 p.2) → RepVs G w H (bs.map Prod.fst) (bs.map Prod.snd)
  | [], _ => .nil
  | p :: bs, h => .cons (h p List.mem_cons_self) (rep_unzip fun q hq => h q (List.mem_cons_of_mem _ hq))
theorem plain_mem : ∀ {xs : List D}, plainDs xs = true → ∀ d ∈ xs, plainD d = true
  | x :: xs, h, d, hd => by
    unfold plainDs at h
    rw [Bool.and_eq_true] at h
    rcases List.mem_cons.mp hd with rfl | hd
    · exact h.1
    · exact plain_mem h.2 d hd
theorem srt_call (hK : G.K = X.K) (hu : X.A.units + 66 < cLine) {a : Addr} {xs : List D} {vs : List V} {d : D} {Q : VK} (I : L2.Inv X pins σ H s) (rel : Rel G w Hd H) (hs : SqL X.K H a vs ∨ SqT X.K H a vs) (rv : RepVs G w H xs vs) (hd : srtD xs = some d) (q : Ret G w Hd H d Q) :
    wpAny (model X.prog X.w) X.A (call (.builtin "sorted") [.ref a]) (L2.EP X pins σ Q) X.xe s := by
  unfold srtD at hd
  split at hd
  · rename_i ho
    cases hd
    unfold okSort at ho
    simp only [Bool.and_eq_true, Bool.or_eq_true, List.all_eq_true, decide_eq_true_eq] at ho
    obtain ⟨hp, hal, hk, hlen, hdp⟩ := ho
    have hsq : ∃ its : List Value, Vals vs its ∧ SeqIs s.heap a its := by
      rcases hs with h | h
      · obtain ⟨its, r, ⟨o, n, e, c, _, dd⟩, _⟩ := I.list h
        exact ⟨its, r, o, "list", n, e, c, .inl rfl, dd⟩
      · obtain ⟨its, r, ⟨o, e, c, n, dd⟩, _⟩ := I.tuple h
        exact ⟨its, r, o, "tuple", n, e, c, .inr rfl, dd⟩
    obtain ⟨its, hv, hl⟩ := hsq
    have hlv := rv.length
    have hmap : (xs.zip vs).map (fun b => toPy b.1) = toPys xs := by
      rw [toPys_map, show (fun b : D × V => toPy b.1) = toPy ∘ Prod.fst from rfl, ← List.map_map, List.map_fst_zip (by omega)]
    obtain ⟨as, ra⟩ := Dp.readsAll I (toPys xs) vs its (dps_of hK hp rv) hv
    rw [← hmap] at ra
    have hmem : ∀ b ∈ xs.zip vs, b.1 ∈ xs := fun b hb => (List.of_mem_zip hb).1
    refine sorted_seq (R := fun v (b : D × V) => RelV b.2 v) (enc := fun b : D × V => toPy b.1) (bs := xs.zip vs) hl (each_zip hlv hv) (readsAll_each _ ra) ?_ ?_ ?_ ?_ fun out h1 h2 => ?_
    · intro x hx y hy
      obtain ⟨b, hb, rfl⟩ := List.mem_map.mp hx
      obtain ⟨c, hc, rfl⟩ := List.mem_map.mp hy
      exact hal _ (hmem b hb) _ (hmem c hc)
    · rcases hk with hk | hk
      · left
        intro x hx
        obtain ⟨b, hb, rfl⟩ := List.mem_map.mp hx
        exact tupNe_py (hk _ (hmem b hb))
      · right
        intro x hx
        obtain ⟨b, hb, rfl⟩ := List.mem_map.mp hx
        exact notNT_py (hk _ (hmem b hb)) (plain_mem hp _ (hmem b hb))
    · rw [List.length_zip, ← lim_eq]; omega
    · intro b hb
      have := hdp _ (hmem b hb)
      rw [depth_py _ (plain_mem hp _ (hmem b hb))]
      omega
    · have e1 : ((xs.zip vs).mergeSort (dataLe false fun b : D × V => toPy b.1)).map Prod.fst = xs.mergeSort leD := by
        have := List.map_mergeSort (r := dataLe false fun b : D × V => toPy b.1) (s := leD) (f := Prod.fst) (l := xs.zip vs) (fun a _ b _ => rfl)
        rw [this, List.map_fst_zip (by omega)]
      have r2 := each_back h2
      have r3 := rep_unzip (G := G) (w := w) (H := H) (bs := (xs.zip vs).mergeSort (dataLe false fun b : D × V => toPy b.1)) fun p hp => rep_zip rv p ((List.mergeSort_perm _ _).mem_iff.mp hp)
      rw [e1] at r3
      obtain ⟨ep, he'⟩ := PyProof.Rows.sortedAll_at s.heap its out.toArray
      have hlen2 : (((xs.zip vs).mergeSort (dataLe false fun b : D × V => toPy b.1)).map Prod.snd).length ≤ sizeLine := by
        rw [List.length_map, List.length_mergeSort, List.length_zip, ← lim_eq]; omega
      exact ⟨.ref _, upd H (s.heap.objs.size + 1) (.lst (((xs.zip vs).mergeSort (dataLe false fun b : D × V => toPy b.1)).map Prod.snd)), I.laid (t' := s.toks) (fun _ _ => PyProof.Rows.sortedAll_old) (Nat.le_succ _) ⟨hlen2, out, ep, r2, he'⟩, rfl, q.lv rel r3 _ (I.hok.fresh (Nat.le_succ _))⟩
  · cases hd
end
end DI
namespace DI
open PySem PySem.Spec PyProof.Rows L2
section
variable {X : Cx} {G : Gr} {w : Vw} {H : Hp}
theorem at_rep {xs : List D} {vs : List V} {i : Int} {d : D} (h : RepVs G w H xs vs) (e : atD xs i = some d) : ∃ v, atI vs i = some v ∧ RepV G w H d v := by
  unfold atD atI at e
  unfold atI
  rw [← h.length]
  cases q : ixN xs.length i with
  | none => rw [q] at e; cases e
  | some j =>
    rw [q] at e
    exact h.get e
theorem cut_rep {xs : List D} {vs : List V} (h : RepVs G w H xs vs) (lo hi : Option Int) : RepVs G w H (cutD xs lo hi) (cutV vs lo hi) := by
  unfold cutD cutV
  rw [← h.length]
  exact (h.drop _).take _
/-- a subscript by views -/
def rIx2 (G : Gr) : R2 := fun x y H Q => ∃ w Hd dx dy d, Rel G w Hd H ∧ RepW G w H dx x ∧ RepV G w H dy y ∧ ixD dx dy = some d ∧ Ret G w Hd H d Q
theorem ix_all (hK : G.K = X.K) : IxR X (rIx2 G) := by
  intro value slice pins s σ H x y v u Q I rx ry h hs
  obtain ⟨w, Hd, dx, dy, d, rel, hx, hy, hb, q⟩ := h
  unfold ixD at hb
  split at hb
  · obtain ⟨p, vs, rfl, h1, h2⟩ := hx
    cases hy
    obtain ⟨z, hz, rz⟩ := at_rep h2 hb
    exact ix_list value slice pins s σ H _ _ v u Q I rx ry ⟨p, vs, _, z, rfl, rfl, SqL.of h1, hz, q.here rel rz⟩ hs
  · rename_i xs i
    have hx : RepV G w H (.fz xs) x := hx
    cases hy
    cases hx with
    | fz t r =>
      obtain ⟨z, hz, rz⟩ := at_rep r hb
      exact ix_list value slice pins s σ H _ _ v u Q I rx ry ⟨_, _, _, z, rfl, rfl, hK ▸ t.sq, hz, q.here rel rz⟩ hs
  · rename_i xs i
    have hx : RepV G w H (.tup xs) x := hx
    cases hy
    cases hx with
    | tup t r =>
      obtain ⟨z, hz, rz⟩ := at_rep r hb
      exact ix_tup value slice pins s σ H _ _ v u Q I rx ry ⟨_, _, _, z, rfl, rfl, hK ▸ t.sq, hz, q.here rel rz⟩ hs
  · rename_i xs i
    have hx : RepV G w H (.str xs) x := hx
    cases hx
    cases hy
    split at hb
    · rename_i hl
      cases e : atI xs i with
      | none => rw [e] at hb; cases hb
      | some c =>
        rw [e] at hb
        cases hb
        exact ix_str value slice pins s σ H _ _ v u Q I rx ry ⟨_, _, c, rfl, rfl, by rw [str_len, ← lim_eq]; exact hl, by simpa using e, q.here rel (.str [c])⟩ hs
    · cases hb
  · cases hb
/-- a slice by views -/
def rSl2 (G : Gr) : V → Option Int → Option Int → Hp → VK → Prop := fun x lo hi H Q => ∃ w Hd dx d, Rel G w Hd H ∧ RepW G w H dx x ∧ slD dx lo hi = some d ∧ Ret G w Hd H d Q
theorem sl_all (hK : G.K = X.K) : SlR X (rSl2 G) := by
  intro pins s σ H x v vl vu lo hi sl Q I rx hs pl pu h
  obtain ⟨w, Hd, dx, d, rel, hx, hb, q⟩ := h
  unfold slD at hb
  split at hb
  · obtain ⟨p, vs, rfl, h1, h2⟩ := hx
    cases hb
    exact sl_list pins s σ H _ v vl vu lo hi sl Q I rx hs pl pu ⟨p, vs, rfl, SqL.of h1, q.lv rel (cut_rep h2 lo hi)⟩
  · rename_i xs
    have hx : RepV G w H (.fz xs) x := hx
    cases hb
    cases hx with
    | fz t r => exact sl_list pins s σ H _ v vl vu lo hi sl Q I rx hs pl pu ⟨_, _, rfl, hK ▸ t.sq, q.lv rel (cut_rep r lo hi)⟩
  · rename_i xs
    have hx : RepV G w H (.tup xs) x := hx
    cases hb
    cases hx with
    | tup t r =>
      refine sl_tupA pins s σ H _ v vl vu lo hi sl Q I rx hs pl pu ⟨_, _, rfl, hK ▸ t.sq, fun hw => ?_, fun _ => q.tup rel (cut_rep r lo hi)⟩
      have e : cutD xs lo hi = xs := by
        unfold cutD
        rw [r.length, hw.1, hw.2, ← r.length, List.drop_zero, Nat.sub_zero, List.take_length]
      rw [e] at q
      exact q.here rel (.tup t r)
  · rename_i xs
    have hx : RepV G w H (.str xs) x := hx
    cases hx
    split at hb
    · rename_i hl
      cases hb
      refine sl_str pins s σ H _ v vl vu lo hi sl Q I rx hs pl pu ⟨_, rfl, by rw [str_len, ← lim_eq]; exact hl, ?_⟩
      have e : cutS ⟨xs.toArray⟩ lo hi = ⟨(cutD xs lo hi).toArray⟩ := by
        unfold cutS cutD
        rw [str_len]
      rw [e]
      exact q.here rel (.str _)
    · cases hb
  · cases hb
theorem ints_rep : ∀ {ds : List D} {vs : List V} {ns : List Int}, RepVs G w H ds vs → intsOf ds = some ns → vs = ns.map V.int
  | _, _, _, .nil, e => by cases e; rfl
  | d :: ds, _, ns, .cons h r, e => by
    cases h <;> first
      | (cases e; done)
      | (unfold intsOf at e
         cases q : intsOf ds with
         | none => rw [q] at e; cases e
         | some l => rw [q] at e; cases e; rw [ints_rep r q]; rfl)
theorem bls_rep : ∀ {ds : List D} {vs : List V} {ns : List Bool}, RepVs G w H ds vs → blsOf ds = some ns → vs = ns.map V.bl
  | _, _, _, .nil, e => by cases e; rfl
  | d :: ds, _, ns, .cons h r, e => by
    cases h <;> first
      | (cases e; done)
      | (unfold blsOf at e
         cases q : blsOf ds with
         | none => rw [q] at e; cases e
         | some l => rw [q] at e; cases e; rw [bls_rep r q]; rfl)
theorem strs_rep : ∀ {ds : List D} {vs : List V} {ns : List (List Nat)}, RepVs G w H ds vs → strsOf ds = some ns → vs = (ns.map fun x => (⟨x.toArray⟩ : Str)).map V.str
  | _, _, _, .nil, e => by cases e; rfl
  | d :: ds, _, ns, .cons h r, e => by
    cases h <;> first
      | (cases e; done)
      | (unfold strsOf at e
         cases q : strsOf ds with
         | none => rw [q] at e; cases e
         | some l => rw [q] at e; cases e; rw [strs_rep r q]; rfl)
/-- the model's name of a builtin -/
def biV : BI → Value
  | .len => .builtin "len" | .sum => .builtin "sum" | .int => .type "int" | .str => .type "str" | .repr => .builtin "repr" | .abs => .builtin "abs"
  | .max => .builtin "max" | .min => .builtin "min" | .tuple => .type "tuple" | .list => .type "list" | .all => .builtin "all" | .any => .builtin "any" | .sorted => .builtin "sorted"
def biN : BI → Str
  | .len => "len" | .sum => "sum" | .int => "int" | .str => "str" | .repr => "repr" | .abs => "abs"
  | .max => "max" | .min => "min" | .tuple => "tuple" | .list => "list" | .all => "all" | .any => "any" | .sorted => "sorted"
def rBi (G : Gr) (b : BI) : List V → Hp → VK → Prop := fun xs H Q => ∃ w Hd ds d, Rel G w Hd H ∧ Paired (RepW G w H) ds xs ∧ biD b ds = some d ∧ Ret G w Hd H d Q
theorem pair1 {A B : Type} {F : A → B → Prop} {a : A} {bs : List B} (h : Paired F [a] bs) : ∃ b, bs = [b] ∧ F a b := by
  cases h with
  | cons h t => cases t; exact ⟨_, rfl, h⟩
theorem pair2 {A B : Type} {F : A → B → Prop} {a c : A} {bs : List B} (h : Paired F [a, c] bs) : ∃ b d, bs = [b, d] ∧ F a b ∧ F c d := by
  cases h with
  | cons h t => cases t with
    | cons h2 t => cases t; exact ⟨_, _, rfl, h, h2⟩

theorem bi_one {b : BI} {f : D → Option D} (hb1 : ∀ ds d, biD b ds = some d → ∃ x, ds = [x] ∧ f x = some d)
    (h1 : ∀ (pins : List (Addr × Obj)) (s : Shared) (σ : L2.St) (H : Hp) (v : V) (us : List Value) (Q : VK) (w : Vw) (Hd : HH) (x d : D), L2.Inv X pins σ H s → L2.Vals [v] us → Rel G w Hd H → RepW G w H x v → f x = some d → Ret G w Hd H d Q →
      wpAny (model X.prog X.w) X.A (call (biV b) us) (L2.EP X pins σ Q) X.xe s) : CallR X (biV b) (rBi G b) := by
  intro pins s σ H xs us Q I r h
  obtain ⟨w, Hd, ds, d, rel, hx, hb, q⟩ := h
  obtain ⟨x, rfl, hf⟩ := hb1 _ _ hb
  obtain ⟨v, rfl, hv⟩ := pair1 hx
  exact h1 pins s σ H v us Q w Hd x d I r rel hv hf q
theorem one_of {b : BI} {f : D → Option D} (h : ∀ x, biD b [x] = f x) (h2 : ∀ x y, biD b [x, y] = none) : ∀ ds d, biD b ds = some d → ∃ x, ds = [x] ∧ f x = some d
  | [], d, e => by cases e
  | [x], d, e => ⟨x, rfl, (h x).symm.trans e⟩
  | [x, y], d, e => by rw [h2] at e; cases e
  | _ :: _ :: _ :: _, d, e => by cases e
theorem bi_len (hK : G.K = X.K) : CallR X (.builtin "len") (rBi G .len) := by
  refine bi_one (b := .len) (one_of (f := lenD) (fun _ => rfl) fun _ _ => rfl) fun pins s σ H v us Q w Hd x d I r rel hv hf q => ?_
  cases x with
  | str x =>
    have hv : RepV G w H (.str x) v := hv
    cases hv
    simp only [lenD] at hf
    split at hf
    · rename_i hl
      cases hf
      exact call_len_str pins s σ H _ us Q I r ⟨_, rfl, by rw [str_len, ← lim_eq]; exact hl, by rw [str_len]; exact q.here rel (.int _)⟩
    · cases hf
  | lv x =>
    obtain ⟨p, vs, rfl, h1, h2⟩ := hv
    cases hf
    exact call_len_seq pins s σ H _ us Q I r ⟨p, vs, rfl, .inl (SqL.of h1), by rw [← h2.length]; exact q.here rel (.int _)⟩
  | fz x =>
    have hv : RepV G w H (.fz x) v := hv
    cases hf
    cases hv with
    | fz t h2 => exact call_len_seq pins s σ H _ us Q I r ⟨_, _, rfl, .inl (hK ▸ t.sq), by rw [← h2.length]; exact q.here rel (.int _)⟩
  | tup x =>
    have hv : RepV G w H (.tup x) v := hv
    cases hf
    cases hv with
    | tup t h2 => exact call_len_seq pins s σ H _ us Q I r ⟨_, _, rfl, .inr (hK ▸ t.sq), by rw [← h2.length]; exact q.here rel (.int _)⟩
  | _ => cases hf
theorem bi_sum (hc : X.calm = true) : CallR X (.builtin "sum") (rBi G .sum) := by
  refine bi_one (b := .sum) (one_of (f := sumD) (fun _ => rfl) fun _ _ => rfl) fun pins s σ H v us Q w Hd x d I r rel hv hf q => ?_
  cases x with
  | lv x =>
    obtain ⟨p, vs, rfl, h1, h2⟩ := hv
    simp only [sumD] at hf
    cases e : intsOf x with
    | none => rw [e] at hf; cases hf
    | some ns =>
      rw [e] at hf
      cases hf
      have e2 := ints_rep h2 e
      subst e2
      exact cr_sum hc pins s σ H _ us Q I r ⟨p, ns, rfl, SqL.of h1, q.here rel (.int _)⟩
  | _ => cases hf
theorem bi_all (hc : X.calm = true) : CallR X (.builtin "all") (rBi G .all) := by
  refine bi_one (b := .all) (one_of (f := allD) (fun _ => rfl) fun _ _ => rfl) fun pins s σ H v us Q w Hd x d I r rel hv hf q => ?_
  cases x with
  | lv x =>
    obtain ⟨p, vs, rfl, h1, h2⟩ := hv
    simp only [allD] at hf
    cases e : blsOf x with
    | none => rw [e] at hf; cases hf
    | some ns =>
      rw [e] at hf
      cases hf
      have e2 := bls_rep h2 e
      subst e2
      exact cr_all hc pins s σ H _ us Q I r ⟨p, ns, rfl, SqL.of h1, q.here rel (.bl _)⟩
  | _ => cases hf
theorem bi_any (hc : X.calm = true) : CallR X (.builtin "any") (rBi G .any) := by
  refine bi_one (b := .any) (one_of (f := anyD) (fun _ => rfl) fun _ _ => rfl) fun pins s σ H v us Q w Hd x d I r rel hv hf q => ?_
  cases x with
  | lv x =>
    obtain ⟨p, vs, rfl, h1, h2⟩ := hv
    simp only [anyD] at hf
    cases e : blsOf x with
    | none => rw [e] at hf; cases hf
    | some ns =>
      rw [e] at hf
      cases hf
      have e2 := bls_rep h2 e
      subst e2
      exact cr_any hc pins s σ H _ us Q I r ⟨p, ns, rfl, SqL.of h1, q.here rel (.bl _)⟩
  | _ => cases hf
theorem bi_int : CallR X (.type "int") (rBi G .int) := by
  refine bi_one (b := .int) (one_of (f := intD) (fun _ => rfl) fun _ _ => rfl) fun pins s σ H v us Q w Hd x d I r rel hv hf q => ?_
  cases x with
  | int i =>
    have hv : RepV G w H (.int i) v := hv
    cases hv; cases hf
    exact call_int1 pins s σ H _ us Q I r (.inl ⟨_, rfl, q.here rel (.int _)⟩)
  | bl i =>
    have hv : RepV G w H (.bl i) v := hv
    cases hv; cases hf
    exact call_int1 pins s σ H _ us Q I r (.inr ⟨_, rfl, q.here rel (.int _)⟩)
  | str x =>
    have hv : RepV G w H (.str x) v := hv
    cases hv
    have hf : (if x ≠ [] ∧ (x.all fun c => decide (48 ≤ c ∧ c ≤ 57)) = true ∧ x.length ≤ 640 then some (D.int (figD x : Nat)) else none) = some d := hf
    split at hf
    · rename_i hc
      cases hf
      obtain ⟨h1, h2, h3⟩ := hc
      have ha : NumText.AllDigits x := fun c hc => of_decide_eq_true (List.all_eq_true.mp h2 c hc)
      have hl : (Str.mk x.toArray).length ≤ 640 := by show x.toArray.size ≤ 640; simpa using h3
      exact call_int_str pins s σ H _ us Q I r ⟨⟨x.toArray⟩, _, rfl, PySem.intText_digits (x := ⟨x.toArray⟩) ha h1 (by omega), hl, q.here rel (.int _)⟩
    · cases hf
  | _ => cases hf
theorem bi_abs : CallR X (.builtin "abs") (rBi G .abs) := by
  refine bi_one (b := .abs) (one_of (f := absD) (fun _ => rfl) fun _ _ => rfl) fun pins s σ H v us Q w Hd x d I r rel hv hf q => ?_
  cases x with
  | int i =>
    have hv : RepV G w H (.int i) v := hv
    cases hv; cases hf
    exact call_abs pins s σ H _ us Q I r ⟨_, rfl, q.here rel (.int _)⟩
  | _ => cases hf
theorem str_back (x : Str) : (⟨x.cps.toList.toArray⟩ : Str) = x := by simp
theorem bi_str : CallR X (.type "str") (rBi G .str) := by
  refine bi_one (b := .str) (one_of (f := strD) (fun _ => rfl) fun _ _ => rfl) fun pins s σ H v us Q w Hd x d I r rel hv hf q => ?_
  cases x with
  | int i =>
    have hv : RepV G w H (.int i) v := hv
    cases hv
    simp only [strD] at hf
    split at hf
    · rename_i hl
      cases hf
      refine call_str_int pins s σ H _ us Q I r ⟨_, rfl, hl, ?_⟩
      have z := q.here rel (.str (numT i))
      unfold numT at z
      rw [str_back] at z
      exact z
    · cases hf
  | str i =>
    have hv : RepV G w H (.str i) v := hv
    cases hv; cases hf
    exact SkE.call_str_str pins s σ H _ us Q I r ⟨_, rfl, q.here rel (.str _)⟩
  | _ => cases hf
theorem bi_tuple (hK : G.K = X.K) : CallR X (.type "tuple") (rBi G .tuple) := by
  refine bi_one (b := .tuple) (one_of (f := tupleD) (fun _ => rfl) fun _ _ => rfl) fun pins s σ H v us Q w Hd x d I r rel hv hf q => ?_
  cases x with
  | lv x =>
    obtain ⟨p, vs, rfl, h1, h2⟩ := hv
    cases hf
    exact call_tuple_of pins s σ H _ us Q I r ⟨p, vs, rfl, .inl ⟨SqL.of h1, q.tup rel h2⟩⟩
  | fz x =>
    have hv : RepV G w H (.fz x) v := hv
    cases hf
    cases hv with
    | fz t h2 => exact call_tuple_of pins s σ H _ us Q I r ⟨_, _, rfl, .inl ⟨hK ▸ t.sq, q.tup rel h2⟩⟩
  | tup x =>
    have hv : RepV G w H (.tup x) v := hv
    cases hf
    cases hv with
    | tup t h2 => exact call_tuple_of pins s σ H _ us Q I r ⟨_, _, rfl, .inr ⟨hK ▸ t.sq, q.here rel (.tup t h2)⟩⟩
  | _ => cases hf
theorem signs_rep : ∀ x : List Nat, RepVs G w H (x.map fun c => D.str [c]) (x.map fun c => V.str ⟨#[c]⟩)
  | [] => .nil
  | c :: r => .cons (.str [c]) (signs_rep r)
theorem signs_vals {x : List Nat} {us : List Value} (h : ItemsOf (SignAt ⟨x.toArray⟩) us.toArray x.length) : Vals (x.map fun c => V.str ⟨#[c]⟩) us := by
  refine vals_of_at (by rw [List.length_map]; exact h.1.symm) fun j v u h1 h2 => ?_
  obtain ⟨c, t, e, rfl⟩ := h.2 j u (by simpa using h2)
  have e : x[j]? = some c := by simpa using e
  rw [List.getElem?_map, e] at h1
  cases h1
  exact ⟨t, rfl⟩
/-- list of a str -/
theorem call_list_s (hc : X.calm = true) : CallR X (.type "list") (fun xs H Q => ∃ x : List Nat, xs = [.str ⟨x.toArray⟩] ∧ x.length ≤ sizeLine ∧ ∀ q, H q = none → Q (.ref q) (upd H q (.lst (x.map fun c => V.str ⟨#[c]⟩)))) := by
  intro pins s σ H xs us Q I r h
  obtain ⟨x, rfl, hz, q⟩ := h
  obtain ⟨u, rfl, t, rfl⟩ := vals1 r
  have hs : (⟨x.toArray⟩ : Str).cps.size = x.length := by simp
  refine PySem.call_list_str (I.ok.hd hc) _ t (fun h' tk acc' c' hk e' hi => ?_) (by rw [hs]; exact hz)
  rw [hs] at hi
  refine ⟨.ref s.heap.objs.size, upd H s.heap.objs.size (.lst (x.map fun c => V.str ⟨#[c]⟩)), I.laid hk (Nat.le_refl _) (show ObjOk X.prog X.w _ _ _ (.lst (x.map fun c => V.str ⟨#[c]⟩)) from ⟨?_, acc'.toList, c', signs_vals (by rw [Array.toArray_toList]; exact hi), ?_⟩), rfl, q _ (I.hok.fresh (Nat.le_refl _))⟩
  · rw [List.length_map]; exact hz
  · rw [Array.toArray_toList]; exact e'
theorem bi_list (hK : G.K = X.K) (hc : X.calm = true) : CallR X (.type "list") (rBi G .list) := by
  refine bi_one (b := .list) (one_of (f := listD) (fun _ => rfl) fun _ _ => rfl) fun pins s σ H v us Q w Hd x d I r rel hv hf q => ?_
  cases x with
  | lv x =>
    obtain ⟨p, vs, rfl, h1, h2⟩ := hv
    cases hf
    exact call_list_of pins s σ H _ us Q I r ⟨p, vs, rfl, .inl (SqL.of h1), q.lv rel h2⟩
  | fz x =>
    have hv : RepV G w H (.fz x) v := hv
    cases hf
    cases hv with
    | fz t h2 => exact call_list_of pins s σ H _ us Q I r ⟨_, _, rfl, .inl (hK ▸ t.sq), q.lv rel h2⟩
  | tup x =>
    have hv : RepV G w H (.tup x) v := hv
    cases hf
    cases hv with
    | tup t h2 => exact call_list_of pins s σ H _ us Q I r ⟨_, _, rfl, .inr (hK ▸ t.sq), q.lv rel h2⟩
  | str x =>
    have hv : RepV G w H (.str x) v := hv
    cases hv
    simp only [listD] at hf
    split at hf
    · rename_i hl
      cases hf
      exact call_list_s hc pins s σ H _ us Q I r ⟨x, rfl, by rw [PySem.sizeLine_eq]; exact hl, q.lv rel (signs_rep x)⟩
    · cases hf
  | _ => cases hf
theorem bi_twoE {b : BI} {f : D → D → Option D} {g : D → Option D} (h2 : ∀ x y, biD b [x, y] = f x y) (h1 : ∀ x, biD b [x] = g x) : ∀ ds d, biD b ds = some d → (∃ x, ds = [x] ∧ g x = some d) ∨ ∃ x y, ds = [x, y] ∧ f x y = some d
  | [], d, e => by cases e
  | [x], d, e => .inl ⟨x, rfl, (h1 x).symm.trans e⟩
  | [x, y], d, e => .inr ⟨x, y, rfl, (h2 x y).symm.trans e⟩
  | _ :: _ :: _ :: _, d, e => by cases e
theorem foldl_max : ∀ (r : List Int) (n : Int), (r.foldl max n = n ∨ r.foldl max n ∈ r) ∧ n ≤ r.foldl max n ∧ ∀ y ∈ r, y ≤ r.foldl max n
  | [], n => ⟨.inl rfl, Int.le_refl _, fun y h => by cases h⟩
  | m :: r, n => by
    obtain ⟨h1, h2, h3⟩ := foldl_max r (max n m)
    refine ⟨?_, ?_, fun y hy => ?_⟩
    · rcases h1 with h1 | h1
      · rw [List.foldl_cons, h1]
        by_cases h : n ≤ m
        · exact .inr (by rw [Int.max_eq_right h]; simp)
        · exact .inl (Int.max_eq_left (by omega))
      · exact .inr (List.mem_cons_of_mem _ h1)
    · rw [List.foldl_cons]; omega
    · rw [List.foldl_cons]
      rcases List.mem_cons.mp hy with rfl | hy
      · omega
      · exact h3 y hy
theorem foldl_min : ∀ (r : List Int) (n : Int), (r.foldl min n = n ∨ r.foldl min n ∈ r) ∧ r.foldl min n ≤ n ∧ ∀ y ∈ r, r.foldl min n ≤ y
  | [], n => ⟨.inl rfl, Int.le_refl _, fun y h => by cases h⟩
  | m :: r, n => by
    obtain ⟨h1, h2, h3⟩ := foldl_min r (min n m)
    refine ⟨?_, ?_, fun y hy => ?_⟩
    · rcases h1 with h1 | h1
      · rw [List.foldl_cons, h1]
        by_cases h : m ≤ n
        · exact .inr (by rw [Int.min_eq_right h]; simp)
        · exact .inl (Int.min_eq_left (by omega))
      · exact .inr (List.mem_cons_of_mem _ h1)
    · rw [List.foldl_cons]; omega
    · rw [List.foldl_cons]
      rcases List.mem_cons.mp hy with rfl | hy
      · omega
      · exact h3 y hy
theorem maxL_eq {ns : List Int} {m k : Int} (h : maxL ns = some k) (h1 : m ∈ ns) (h2 : ∀ y, y ∈ ns → y ≤ m) : m = k := by
  cases ns with
  | nil => cases h1
  | cons n r =>
    cases h
    obtain ⟨a, b, c⟩ := foldl_max r n
    have : r.foldl max n ≤ m := by
      rcases a with a | a
      · rw [a]; exact h2 n List.mem_cons_self
      · exact h2 _ (List.mem_cons_of_mem _ a)
    rcases List.mem_cons.mp h1 with rfl | h1
    · omega
    · have := c m h1; omega
theorem minL_eq {ns : List Int} {m k : Int} (h : minL ns = some k) (h1 : m ∈ ns) (h2 : ∀ y, y ∈ ns → m ≤ y) : m = k := by
  cases ns with
  | nil => cases h1
  | cons n r =>
    cases h
    obtain ⟨a, b, c⟩ := foldl_min r n
    have : m ≤ r.foldl min n := by
      rcases a with a | a
      · rw [a]; exact h2 n List.mem_cons_self
      · exact h2 _ (List.mem_cons_of_mem _ a)
    rcases List.mem_cons.mp h1 with rfl | h1
    · omega
    · have := c m h1; omega
theorem bi_max (hc : X.calm = true) : CallR X (.builtin "max") (rBi G .max) := by
  intro pins s σ H xs us Q I r h
  obtain ⟨w, Hd, ds, d, rel, hx, hb, q⟩ := h
  rcases bi_twoE (b := .max) (f := maxD) (g := maxLD) (fun _ _ => rfl) (fun _ => rfl) _ _ hb with ⟨x, rfl, hf⟩ | ⟨x, y, rfl, hf⟩
  · obtain ⟨v, rfl, h1⟩ := pair1 hx
    unfold maxLD at hf
    split at hf
    · rename_i x
      obtain ⟨p, vs, rfl, h1, h2⟩ := h1
      cases e : intsOf x with
      | none => rw [e] at hf; cases hf
      | some ns =>
        rw [e, Option.bind_some] at hf
        cases e3 : maxL ns with
        | none => rw [e3] at hf; cases hf
        | some k =>
          rw [e3] at hf
          cases hf
          have e2 := ints_rep h2 e
          subst e2
          exact cr_max hc pins s σ H _ us Q I r ⟨p, ns, rfl, SqL.of h1, by cases ns with | nil => cases e3 | cons _ _ => exact Nat.succ_pos _, fun m m1 m2 => by
            rw [maxL_eq e3 m1 m2]; exact q.here rel (.int _)⟩
    · cases hf
  · obtain ⟨v, v', rfl, h1, h2⟩ := pair2 hx
    unfold maxD at hf
    split at hf
    · rename_i i j
      have h1 : RepV G w H (.int i) v := h1
      have h2 : RepV G w H (.int j) v' := h2
      cases h1; cases h2; cases hf
      exact call_max2 hc pins s σ H _ us Q I r ⟨_, _, rfl, q.here rel (.int _)⟩
    · cases hf
theorem bi_min (hc : X.calm = true) : CallR X (.builtin "min") (rBi G .min) := by
  intro pins s σ H xs us Q I r h
  obtain ⟨w, Hd, ds, d, rel, hx, hb, q⟩ := h
  rcases bi_twoE (b := .min) (f := minD) (g := minLD) (fun _ _ => rfl) (fun _ => rfl) _ _ hb with ⟨x, rfl, hf⟩ | ⟨x, y, rfl, hf⟩
  · obtain ⟨v, rfl, h1⟩ := pair1 hx
    unfold minLD at hf
    split at hf
    · rename_i x
      obtain ⟨p, vs, rfl, h1, h2⟩ := h1
      cases e : intsOf x with
      | none => rw [e] at hf; cases hf
      | some ns =>
        rw [e, Option.bind_some] at hf
        cases e3 : minL ns with
        | none => rw [e3] at hf; cases hf
        | some k =>
          rw [e3] at hf
          cases hf
          have e2 := ints_rep h2 e
          subst e2
          exact cr_min hc pins s σ H _ us Q I r ⟨p, ns, rfl, SqL.of h1, by cases ns with | nil => cases e3 | cons _ _ => exact Nat.succ_pos _, fun m m1 m2 => by
            rw [minL_eq e3 m1 m2]; exact q.here rel (.int _)⟩
    · cases hf
  · obtain ⟨v, v', rfl, h1, h2⟩ := pair2 hx
    unfold minD at hf
    split at hf
    · rename_i i j
      have h1 : RepV G w H (.int i) v := h1
      have h2 : RepV G w H (.int j) v' := h2
      cases h1; cases h2; cases hf
      exact call_min2 hc pins s σ H _ us Q I r ⟨_, _, rfl, q.here rel (.int _)⟩
    · cases hf
mutual
theorem nodict_py : ∀ d : D, (toPy d).hasDict = false
  | .non => by simp [toPy, PyData.hasDict]
  | .bl _ => by simp [toPy, PyData.hasDict]
  | .int _ => by simp [toPy, PyData.hasDict]
  | .str _ => by simp [toPy, PyData.hasDict]
  | .tup xs => by simp only [toPy, PyData.hasDict]; exact nodicts_py xs
  | .lv xs => by simp only [toPy, PyData.hasDict]; exact nodicts_py xs
  | .fz xs => by simp [toPy, PyData.hasDict]
  | .dv _ _ => by simp [toPy, PyData.hasDict]
  | .sv _ => by simp [toPy, PyData.hasDict]
  | .ref _ => by simp [toPy, PyData.hasDict]
  | .cls _ => by simp [toPy, PyData.hasDict]
  | .ty _ => by simp [toPy, PyData.hasDict]
theorem nodicts_py : ∀ ds : List D, PyData.hasDictAll (toPys ds) = false
  | [] => by simp [toPys, PyData.hasDictAll]
  | d :: ds => by simp only [toPys, PyData.hasDictAll, nodict_py d, nodicts_py ds, Bool.or_self]
end
theorem bi_repr (hK : G.K = X.K) (hg : X.A.guards = some []) (hu : X.A.units + 66 < cLine) : CallR X (.builtin "repr") (rBi G .repr) := by
  refine bi_one (b := .repr) (one_of (f := fun x => if showOk x then some (.str (showD x)) else none) (fun _ => rfl) fun _ _ => rfl) fun pins s σ H v us Q w Hd x d I r rel hv hf q => ?_
  split at hf
  · rename_i ho
    cases hf
    unfold showOk at ho
    simp only [Bool.and_eq_true, decide_eq_true_iff] at ho
    obtain ⟨⟨⟨p, sh⟩, dp⟩, sz⟩ := ho
    have sz : (toPy x).shown.length ≤ sizeLine := by rw [← lim_eq]; exact sz
    have fin : Q (.str (toPy x).shown) H := by
      have z := q.here rel (.str (showD x))
      unfold showD at z
      rw [str_back] at z
      exact z
    have hd := dpW_of hK p hv
    obtain ⟨u, rfl, ru⟩ := vals1 r
    obtain ⟨as, rd⟩ := Dp.reads I _ _ _ hd ru
    cases u with
    | ref a =>
      refine PySem.repr_of_reads' rd sh (fun z => by rw [nodict_py] at z; cases z) hg (by rw [depth_py x p]; omega) (fun _ _ e => e) (fun h' tk k kp => ?_) sz
      exact ⟨.str _, H, I.kept (h' := h') (t' := k) kp, ⟨tk, rfl⟩, fin⟩
    | none =>
      generalize e : toPy x = y at rd fin
      cases rd
      exact PySem.P.repr_of_none ⟨.str _, H, I.tok _, ⟨_, rfl⟩, fin⟩
    | bool b =>
      generalize e : toPy x = y at rd fin
      cases rd
      exact PySem.P.repr_of_bool ⟨.str _, H, I.tok _, ⟨_, rfl⟩, fin⟩
    | int i t =>
      generalize e : toPy x = y at rd fin sh
      cases rd
      exact PySem.P.repr_of_int (by simpa [PyData.showable] using sh) ⟨.str _, H, I.tok _, ⟨_, rfl⟩, fin⟩
    | str y t =>
      generalize e : toPy x = y at rd fin sz
      cases rd
      exact PySem.P.repr_of_str ⟨.str _, H, I.tok _, ⟨_, rfl⟩, fin⟩ sz
    | _ => (generalize e : toPy x = y at rd; cases rd)
  · cases hf
theorem bi_sorted (hK : G.K = X.K) (hu : X.A.units + 66 < cLine) : CallR X (.builtin "sorted") (rBi G .sorted) := by
  refine bi_one (b := .sorted) (one_of (f := sortedD) (fun _ => rfl) fun _ _ => rfl) fun pins s σ H v us Q w Hd x d I r rel hv hf q => ?_
  cases x with
  | lv x =>
    obtain ⟨p, vs, rfl, h1, h2⟩ := hv
    rw [Vals.ref1 r]
    exact srt_call hK hu I rel (.inl (SqL.of h1)) h2 hf q
  | fz x =>
    have hv : RepV G w H (.fz x) v := hv
    cases hv with
    | fz t h2 =>
      rw [Vals.ref1 r]
      exact srt_call hK hu I rel (.inl (hK ▸ t.sq)) h2 hf q
  | tup x =>
    have hv : RepV G w H (.tup x) v := hv
    cases hv with
    | tup t h2 =>
      rw [Vals.ref1 r]
      exact srt_call hK hu I rel (.inr (hK ▸ t.sq)) h2 hf q
  | _ => cases hf
/-- a builtin that a calm frame alone may call -/
def coolBI : BI → Bool
  | .sum => true | .max => true | .min => true | .all => true | .any => true | .list => true
  | _ => false
theorem bi_call (hK : G.K = X.K) (b : BI) (hc : coolBI b = true → X.calm = true) (hg : X.A.guards = some []) (hu : X.A.units + 66 < cLine) : CallR X (biV b) (rBi G b) := by
  cases b with
  | len => exact bi_len hK
  | sum => exact bi_sum (hc rfl)
  | int => exact bi_int
  | str => exact bi_str
  | repr => exact bi_repr hK hg hu
  | abs => exact bi_abs
  | max => exact bi_max (hc rfl)
  | min => exact bi_min (hc rfl)
  | tuple => exact bi_tuple hK
  | list => exact bi_list hK (hc rfl)
  | all => exact bi_all (hc rfl)
  | any => exact bi_any (hc rfl)
  | sorted => exact bi_sorted hK hu
end
end DI
namespace DI
open PySem PySem.Spec PyProof.Rows L2

def notStar : Expr → Bool
  | .Starred _ _ => false
  | _ => true
theorem star_cons {e : Expr} {es : List Expr} {env : Env} (h : notStar e = true) : starEach (e :: es) env = (false, eval e env) :: starEach es env := by
  cases e <;> first | rfl | (simp [notStar] at h; done)
theorem star_plain {env : Env} {pos : Pos} : ∀ {es : List Expr}, es.all notStar = true → (backTo pos (starEach es env)).any (·.1) = false
  | [], _ => rfl
  | e :: es, h => by
    rw [List.all_cons, Bool.and_eq_true] at h
    rw [star_cons h.1]
    show (false || (backTo pos (starEach es env)).any (·.1)) = false
    rw [star_plain h.2] <;> rfl
/-- a test that is its value's truth -/
def valTest : Expr → Bool
  | .UnaryOp .Not _ _ => false
  | .BoolOp _ _ _ => false
  | .IfExp _ _ _ _ => false
  | .Compare _ _ _ _ => false
  | _ => true
theorem valTest_ok {e : Expr} {env : Env} (h : valTest e = true) : ∀ whole, isTrue e env whole = (do let v ← whole; standAt e.pos; holding [v] (truthy v)) := by
  intro whole
  cases e with
  | UnaryOp op a p => cases op <;> first | rfl | (simp [valTest] at h; done)
  | _ => first | rfl | (simp [valTest] at h; done)
def notSet : Expr → Bool
  | .Set _ _ _ => false
  | _ => true
theorem nomark_of {b : Expr} {op : CmpOp} (h : notSet b = true) : behindInMarks op b = false := by
  cases b <;> first | rfl | (simp [notSet] at h; done)
/-- what a body stands in -/
structure Okx (X : Cx) (G : Gr) (W : WX) : Prop where
  K : G.K = X.K
  gd : X.A.guards = some []
  un : X.A.units + 66 < cLine
  nd : X.N.Nodup
  tk : Takes X W
  hp : PassesOwn (model X.prog X.w) X.A X.env X.xe
section
variable {X : Cx} {G : Gr} {W : WX} {pos : Pos}
theorem d_loc {i : Nat} {x : Str} (h1 : X.N[i]? = some x) (h2 : Vis X.env.scope x) (h3 : (x == ("__debug__" : Str)) = false) (h4 : (x == ("__classdict__" : Str)) = false) :
    PE X (.Name x pos) (tD G W fun s H => match s[i]? with | some (some d) => .ok d H | _ => .no) := PE.mono (pe_var h1 h2 h3 h4) fun s H Q h => by
  obtain ⟨w, Hd, sd, rel, rs, p⟩ := h
  dsimp only at p
  split at p
  · rename_i d e
    obtain ⟨v, h5, h6⟩ := rs.2 i d e
    exact ⟨v, h5, p w H (Ext.refl _ _) rel v h6⟩
  · exact p.elim
theorem d_cst {e : Expr} {d : D} {v : V} (h : PE X e (tC v)) (r : ∀ w H, RepV G w H d v) : PE X e (tD G W fun _ H => .ok d H) := PE.mono h fun s H Q h => by
  obtain ⟨w, Hd, sd, rel, rs, p⟩ := h
  exact p w H (Ext.refl _ _) rel v (r w H)
variable {a b e : Expr} {es : List Expr} {fa fb fc : Sd → HH → Rs D} {fs : Sd → HH → Rs (List D)}
theorem d_nil : PA X [] (tDA G W fun _ H => .ok [] H) := PA.mono pa_nil fun s H Q h => by
  obtain ⟨w, Hd, sd, rel, rs, p⟩ := h
  exact p w H (Ext.refl _ _) rel [] .nil
theorem d_cons (hs : notStar e = true) (he : PE X e (tD G W fa)) (hr : PA X es (tDA G W fs)) : PA X (e :: es) (tDA G W fun s H => (fa s H).bind fun d H1 => (fs s H1).bind fun ds H2 => .ok (d :: ds) H2) :=
  PA.mono (pa_cons he hr (star_cons hs)) fun s H Q h => by
    obtain ⟨w, Hd, sd, rel, rs, p⟩ := h
    refine seq rel rs p fun x Hd1 w1 H1 v e1 rel1 rs1 r1 p1 => ?_
    refine seq rel1 rs1 p1 fun xs Hd2 w2 H2 vs e2 rel2 rs2 r2 p2 => ?_
    exact p2 w2 H2 (Ext.refl _ _) rel2 _ (.cons (r1.ext e2) r2)
theorem d_tup {k : Nat} (h : PA X es (tDA G W fs)) : PE X (.Tuple es k pos) (tD G W fun s H => (fs s H).bind fun ds H1 => if ds.length ≤ lim then .ok (.tup ds) H1 else .no) := PE.mono (pe_tup h) fun s H Q h => by
  obtain ⟨w, Hd, sd, rel, rs, p⟩ := h
  refine seq rel rs p fun xs Hd1 w1 H1 vs e1 rel1 rs1 r1 p1 => ?_
  split at p1
  · rename_i hl
    exact ⟨by rw [← r1.length, ← lim_eq]; exact hl, Ret.tup (fun w' H' e r v rv => p1 w' H' e r v rv) rel1 r1⟩
  · exact p1.elim
theorem d_lst (h : PA X es (tDA G W fs)) : PE X (.List es pos) (tD G W fun s H => (fs s H).bind fun ds H1 => if ds.length ≤ lim then .ok (.lv ds) H1 else .no) := PE.mono (pe_lst h) fun s H Q h => by
  obtain ⟨w, Hd, sd, rel, rs, p⟩ := h
  refine seq rel rs p fun xs Hd1 w1 H1 vs e1 rel1 rs1 r1 p1 => ?_
  split at p1
  · rename_i hl
    exact ⟨by rw [← r1.length, ← lim_eq]; exact hl, Ret.lv (fun w' H' e r v rv => p1 w' H' e r v rv) rel1 r1⟩
  · exact p1.elim
theorem d_lstR (h : PA X es (tDA G W fs)) : PE X (.List es pos) (tD G W fun s H => (fs s H).bind fun ds H1 => if ds.length ≤ lim then .ok (.ref H1.length) (H1 ++ [.lst ds]) else .no) := PE.mono (pe_lst h) fun s H Q h => by
  obtain ⟨w, Hd, sd, rel, rs, p⟩ := h
  refine seq rel rs p fun xs Hd1 w1 H1 vs e1 rel1 rs1 r1 p1 => ?_
  split at p1
  · rename_i hl
    refine ⟨by rw [← r1.length, ← lim_eq]; exact hl, fun q hq => ?_⟩
    have z : RepV G (w1.add q) (upd H1 q (.lst vs)) (.ref Hd1.length) (.ref q) := by
      have := RepV.ref (G := G) (w := w1.add q) (H := upd H1 q (.lst vs)) (r := w1.n) (Nat.lt_succ_self _)
      rw [add_n] at this
      rw [← rel1.n]
      exact this
    exact p1 _ _ (ext_add rel1 hq _) (rel_add rel1 hq r1) _ z
  · exact p1.elim
theorem d_bin (ok : Okx X G W) (o : Operator) (ha : PE X a (tD G W fa)) (hb : PE X b (tD G W fb)) :
    PE X (.BinOp a o b pos) (tD G W fun s H => (fa s H).bind fun x H1 => (fb s H1).bind fun y H2 => Rs.ofO (binD o (viewD H2 x) (viewD H2 y)) H2) := PE.mono (pe_op (op_bin ok.K o) ha hb) fun s H Q h => by
  obtain ⟨w, Hd, sd, rel, rs, p⟩ := h
  refine seq rel rs p fun x Hd1 w1 H1 v e1 rel1 rs1 r1 p1 => ?_
  refine seq rel1 rs1 p1 fun y Hd2 w2 H2 u e2 rel2 rs2 r2 p2 => ?_
  obtain ⟨d, hd, q⟩ := ofO_post p2
  exact ⟨w2, Hd2, _, _, d, rel2, repW_view rel2 (r1.ext e2), repW_view rel2 r2, hd, q⟩
theorem d_binR (ha : PE X a (tD G W fa)) (hb : PE X b (tD G W fb)) :
    PE X (.BinOp a .Add b pos) (tD G W fun s H => (fa s H).bind fun x H1 => (fb s H1).bind fun y H2 => addR (viewD H2 x) (viewD H2 y) H2) := PE.mono (pe_op (bin_addR (G := G)) ha hb) fun s H Q h => by
  obtain ⟨w, Hd, sd, rel, rs, p⟩ := h
  refine seq rel rs p fun x Hd1 w1 H1 v e1 rel1 rs1 r1 p1 => ?_
  refine seq rel1 rs1 p1 fun y Hd2 w2 H2 u e2 rel2 rs2 r2 p2 => ?_
  have q1 := repW_view rel2 (r1.ext e2)
  have q2 := repW_view rel2 r2
  revert p2 q1 q2
  generalize viewD Hd2 x = x'
  generalize viewD Hd2 y = y'
  intro p2 q1 q2
  unfold addR at p2
  split at p2
  · split at p2
    · rename_i hl
      exact ⟨w2, Hd2, _, _, rel2, q1, q2, hl, p2⟩
    · exact p2.elim
  · exact p2.elim
theorem d_neg (ha : PE X a (tD G W fa)) : PE X (.UnaryOp .USub a pos) (tD G W fun s H => (fa s H).bind fun x H1 => match x with | .int i => .ok (.int (-i)) H1 | _ => .no) := PE.mono (pe_un un_neg ha) fun s H Q h => by
  obtain ⟨w, Hd, sd, rel, rs, p⟩ := h
  refine seq rel rs p fun x Hd1 w1 H1 v e1 rel1 rs1 r1 p1 => ?_
  cases x <;> first
    | (cases r1; exact ⟨_, rfl, p1 w1 H1 (Ext.refl _ _) rel1 _ (.int _)⟩)
    | exact p1.elim
theorem d_no (ok : Okx X G W) (ha : PE X a (tD G W fa)) : PE X (.UnaryOp .Not a pos) (tD G W fun s H => (fa s H).bind fun x H1 => Rs.ofO ((truD (viewD H1 x)).map fun b => .bl (!b)) H1) := PE.mono (pe_notT ha) fun s H Q h => by
  obtain ⟨w, Hd, sd, rel, rs, p⟩ := h
  refine seq rel rs p fun x Hd1 w1 H1 v e1 rel1 rs1 r1 p1 => ?_
  obtain ⟨d, hd, q⟩ := ofO_post p1
  cases e : truD (viewD Hd1 x) with
  | none => rw [e] at hd; cases hd
  | some k =>
    rw [e] at hd
    cases hd
    exact ⟨k, tru_of ok.K (repW_view rel1 r1) e, q w1 H1 (Ext.refl _ _) rel1 _ (.bl _)⟩
theorem d_cmp (ok : Okx X G W) (o : CmpOp) (hm : notSet b = true) (ha : PE X a (tD G W fa)) (hb : PE X b (tD G W fb)) :
    PE X (.Compare a [o] [b] pos) (tD G W fun s H => (fa s H).bind fun x H1 => (fb s H1).bind fun y H2 => Rs.ofO ((cmpD o (viewD H2 x) (viewD H2 y)).map .bl) H2) := PE.mono (pe_cmpR (op_cmp ok.K (by have := ok.un; omega) o) ha hb (nomark_of hm)) fun s H Q h => by
  obtain ⟨w, Hd, sd, rel, rs, p⟩ := h
  refine seq rel rs p fun x Hd1 w1 H1 v e1 rel1 rs1 r1 p1 => ?_
  refine seq rel1 rs1 p1 fun y Hd2 w2 H2 u e2 rel2 rs2 r2 p2 => ?_
  obtain ⟨d, hd, q⟩ := ofO_post p2
  cases e : cmpD o (viewD Hd2 x) (viewD Hd2 y) with
  | none => rw [e] at hd; cases hd
  | some k =>
    rw [e] at hd
    cases hd
    exact ⟨w2, _, _, k, repW_view rel2 (r1.ext e2), repW_view rel2 r2, e, q w2 H2 (Ext.refl _ _) rel2 _ (.bl _)⟩
theorem d_cmpF (ok : Okx X G W) (o : CmpOp) (hm : notSet b = true) (ha : PE X a (tD G W fa)) (hb : PE X b (tD G W fb)) :
    PE X (.Compare a [o] [b] pos) (tD G W fun s H => (fa s H).bind fun x H1 => (fb s H1).bind fun y H2 => Rs.ofO ((cmpG H2 o x y).map .bl) H2) := PE.mono (pe_cmpR (op_cmpG ok.K (by have := ok.un; omega) o) ha hb (nomark_of hm)) fun s H Q h => by
  obtain ⟨w, Hd, sd, rel, rs, p⟩ := h
  refine seq rel rs p fun x Hd1 w1 H1 v e1 rel1 rs1 r1 p1 => ?_
  refine seq rel1 rs1 p1 fun y Hd2 w2 H2 u e2 rel2 rs2 r2 p2 => ?_
  obtain ⟨d, hd, q⟩ := ofO_post p2
  cases e : cmpG Hd2 o x y with
  | none => rw [e] at hd; cases hd
  | some k =>
    rw [e] at hd
    cases hd
    exact ⟨w2, Hd2, _, _, k, rel2, r1.ext e2, r2, e, q w2 H2 (Ext.refl _ _) rel2 _ (.bl _)⟩
theorem last2 {o p : CmpOp} {b c : Expr} (h : notSet c = true) : lastMarks [o, p] [b, c] = false := by
  show behindInMarks p c = false
  exact nomark_of h
theorem d_cmp2 {c : Expr} (ok : Okx X G W) (o p : CmpOp) (hm : notSet c = true) (ha : PE X a (tD G W fa)) (hb : PE X b (tD G W fb)) (hc : PE X c (tD G W fc)) :
    PE X (.Compare a [o, p] [b, c] pos) (tD G W fun s H => (fa s H).bind fun x H1 => (fb s H1).bind fun y H2 => match cmpD o (viewD H2 x) (viewD H2 y) with
      | some true => (fc s H2).bind fun z H3 => Rs.ofO ((cmpD p (viewD H3 y) (viewD H3 z)).map .bl) H3
      | some false => .ok (.bl false) H2
      | none => .no) := PE.mono (pe_chain (op_cmp ok.K (by have := ok.un; omega) o) (op_cmp ok.K (by have := ok.un; omega) p) ha hb hc (last2 hm)) fun s H Q h => by
  obtain ⟨w, Hd, sd, rel, rs, q⟩ := h
  refine seq rel rs q fun x Hd1 w1 H1 v e1 rel1 rs1 r1 p1 => ?_
  refine seq rel1 rs1 p1 fun y Hd2 w2 H2 u e2 rel2 rs2 r2 p2 => ?_
  cases e : cmpD o (viewD Hd2 x) (viewD Hd2 y) with
  | none => rw [e] at p2; exact p2.elim
  | some k =>
    rw [e] at p2
    refine ⟨w2, _, _, k, repW_view rel2 (r1.ext e2), repW_view rel2 r2, e, k, rfl, ?_⟩
    cases k with
    | false => exact iteF (p2 w2 H2 (Ext.refl _ _) rel2 _ (.bl _))
    | true =>
      refine iteT ?_
      refine seq rel2 rs2 p2 fun z Hd3 w3 H3 t e3 rel3 rs3 r3 p3 => ?_
      obtain ⟨d, hd, q⟩ := ofO_post p3
      cases e : cmpD p (viewD Hd3 y) (viewD Hd3 z) with
      | none => rw [e] at hd; cases hd
      | some k =>
        rw [e] at hd
        cases hd
        exact ⟨w3, _, _, k, repW_view rel3 (r2.ext e3), repW_view rel3 r3, e, q w3 H3 (Ext.refl _ _) rel3 _ (.bl _)⟩
variable {x y : Expr} {r : List Expr}
theorem d_one {o : BoolOp} (h : PE X x (tD G W fa)) : PE X (.BoolOp o [x] pos) (tD G W fa) := pe_one h
theorem d_and (ok : Okx X G W) (ha : PE X x (tD G W fa)) (hb : PE X (.BoolOp .And (y :: r) pos) (tD G W fb)) : PE X (.BoolOp .And (x :: y :: r) pos) (tD G W fun s H => (fa s H).bind fun v H1 => match truD (viewD H1 v) with
      | some true => fb s H1
      | some false => .ok v H1
      | none => .no) := PE.mono (pe_andT ha hb) fun s H Q h => by
  obtain ⟨w, Hd, sd, rel, rs, p⟩ := h
  refine seq rel rs p fun x Hd1 w1 H1 v e1 rel1 rs1 r1 p1 => ?_
  cases e : truD (viewD Hd1 x) with
  | none => rw [e] at p1; exact p1.elim
  | some k =>
    rw [e] at p1
    refine ⟨k, tru_of ok.K (repW_view rel1 r1) e, ?_⟩
    cases k with
    | true => exact iteT ⟨w1, Hd1, sd, rel1, rs1, p1⟩
    | false => exact iteF (p1 w1 H1 (Ext.refl _ _) rel1 _ r1)
theorem d_or (ok : Okx X G W) (ha : PE X x (tD G W fa)) (hb : PE X (.BoolOp .Or (y :: r) pos) (tD G W fb)) : PE X (.BoolOp .Or (x :: y :: r) pos) (tD G W fun s H => (fa s H).bind fun v H1 => match truD (viewD H1 v) with
      | some true => .ok v H1
      | some false => fb s H1
      | none => .no) := PE.mono (pe_orT ha hb) fun s H Q h => by
  obtain ⟨w, Hd, sd, rel, rs, p⟩ := h
  refine seq rel rs p fun x Hd1 w1 H1 v e1 rel1 rs1 r1 p1 => ?_
  cases e : truD (viewD Hd1 x) with
  | none => rw [e] at p1; exact p1.elim
  | some k =>
    rw [e] at p1
    refine ⟨k, tru_of ok.K (repW_view rel1 r1) e, ?_⟩
    cases k with
    | true => exact iteT (p1 w1 H1 (Ext.refl _ _) rel1 _ r1)
    | false => exact iteF ⟨w1, Hd1, sd, rel1, rs1, p1⟩
variable {ft fu : Sd → HH → Rs Bool}
theorem d_ite {t : Expr} (ht : PT X t (tDT G W ft)) (ha : PE X a (tD G W fa)) (hb : PE X b (tD G W fb)) : PE X (.IfExp t a b pos) (tD G W fun s H => (ft s H).bind fun k H1 => if k then fa s H1 else fb s H1) := PE.mono (pe_ifExp ht ha hb) fun s H Q h => by
  obtain ⟨w, Hd, sd, rel, rs, p⟩ := h
  refine seq rel rs p fun x Hd1 w1 H1 v e1 rel1 rs1 r1 p1 => ?_
  cases (show v = x from r1)
  cases x with
  | true => exact iteT ⟨w1, Hd1, sd, rel1, rs1, p1⟩
  | false => exact iteF ⟨w1, Hd1, sd, rel1, rs1, p1⟩
theorem t_val (ok : Okx X G W) (hv : valTest a = true) (ha : PE X a (tD G W fa)) : PT X a (tDT G W fun s H => (fa s H).bind fun x H1 => Rs.ofO (truD (viewD H1 x)) H1) := PT.mono (pt_truth ha (valTest_ok hv)) fun s H Q h => by
  obtain ⟨w, Hd, sd, rel, rs, p⟩ := h
  refine seq rel rs p fun x Hd1 w1 H1 v e1 rel1 rs1 r1 p1 => ?_
  obtain ⟨d, hd, q⟩ := ofO_post p1
  exact ⟨d, tru_of ok.K (repW_view rel1 r1) hd, q w1 H1 (Ext.refl _ _) rel1 _ rfl⟩
theorem t_no (ha : PT X a (tDT G W ft)) : PT X (.UnaryOp .Not a pos) (tDT G W fun s H => (ft s H).bind fun k H1 => .ok (!k) H1) := PT.mono (pt_not ha) fun s H Q h => by
  obtain ⟨w, Hd, sd, rel, rs, p⟩ := h
  refine seq rel rs p fun x Hd1 w1 H1 v e1 rel1 rs1 r1 p1 => ?_
  cases (show v = x from r1)
  exact p1 w1 H1 (Ext.refl _ _) rel1 _ rfl
theorem t_one {o : BoolOp} (h : PT X x (tDT G W ft)) : PW X (.BoolOp o [x] pos) (tDT G W ft) := by
  cases o with
  | And => exact pw_and1 h
  | Or => exact pw_or1 h
theorem t_and (ha : PT X x (tDT G W ft)) (hb : PW X (.BoolOp .And (y :: r) pos) (tDT G W fu)) : PW X (.BoolOp .And (x :: y :: r) pos) (tDT G W fun s H => (ft s H).bind fun k H1 => if k then fu s H1 else .ok false H1) := PW.mono (pw_and ha hb) fun s H Q h => by
  obtain ⟨w, Hd, sd, rel, rs, p⟩ := h
  refine seq rel rs p fun x Hd1 w1 H1 v e1 rel1 rs1 r1 p1 => ?_
  cases (show v = x from r1)
  cases x with
  | true => exact iteT ⟨w1, Hd1, sd, rel1, rs1, p1⟩
  | false => exact iteF (p1 w1 H1 (Ext.refl _ _) rel1 _ rfl)
theorem t_or (ha : PT X x (tDT G W ft)) (hb : PW X (.BoolOp .Or (y :: r) pos) (tDT G W fu)) : PW X (.BoolOp .Or (x :: y :: r) pos) (tDT G W fun s H => (ft s H).bind fun k H1 => if k then .ok true H1 else fu s H1) := PW.mono (pw_or ha hb) fun s H Q h => by
  obtain ⟨w, Hd, sd, rel, rs, p⟩ := h
  refine seq rel rs p fun x Hd1 w1 H1 v e1 rel1 rs1 r1 p1 => ?_
  cases (show v = x from r1)
  cases x with
  | true => exact iteT (p1 w1 H1 (Ext.refl _ _) rel1 _ rfl)
  | false => exact iteF ⟨w1, Hd1, sd, rel1, rs1, p1⟩
theorem t_cmp (ok : Okx X G W) (o : CmpOp) (hm : notSet b = true) (ha : PE X a (tD G W fa)) (hb : PE X b (tD G W fb)) :
    PT X (.Compare a [o] [b] pos) (tDT G W fun s H => (fa s H).bind fun x H1 => (fb s H1).bind fun y H2 => Rs.ofO (cmpD o (viewD H2 x) (viewD H2 y)) H2) := PT.mono (pt_cmpR (op_cmp ok.K (by have := ok.un; omega) o) ha hb (nomark_of hm)) fun s H Q h => by
  obtain ⟨w, Hd, sd, rel, rs, p⟩ := h
  refine seq rel rs p fun x Hd1 w1 H1 v e1 rel1 rs1 r1 p1 => ?_
  refine seq rel1 rs1 p1 fun y Hd2 w2 H2 u e2 rel2 rs2 r2 p2 => ?_
  obtain ⟨d, hd, q⟩ := ofO_post p2
  exact ⟨w2, _, _, d, repW_view rel2 (r1.ext e2), repW_view rel2 r2, hd, d, rfl, q w2 H2 (Ext.refl _ _) rel2 _ rfl⟩
theorem t_cmpF (ok : Okx X G W) (o : CmpOp) (hm : notSet b = true) (ha : PE X a (tD G W fa)) (hb : PE X b (tD G W fb)) :
    PT X (.Compare a [o] [b] pos) (tDT G W fun s H => (fa s H).bind fun x H1 => (fb s H1).bind fun y H2 => Rs.ofO (cmpG H2 o x y) H2) := PT.mono (pt_cmpR (op_cmpG ok.K (by have := ok.un; omega) o) ha hb (nomark_of hm)) fun s H Q h => by
  obtain ⟨w, Hd, sd, rel, rs, p⟩ := h
  refine seq rel rs p fun x Hd1 w1 H1 v e1 rel1 rs1 r1 p1 => ?_
  refine seq rel1 rs1 p1 fun y Hd2 w2 H2 u e2 rel2 rs2 r2 p2 => ?_
  obtain ⟨d, hd, q⟩ := ofO_post p2
  exact ⟨w2, Hd2, _, _, d, rel2, r1.ext e2, r2, hd, d, rfl, q w2 H2 (Ext.refl _ _) rel2 _ rfl⟩
theorem t_cmp2 {c : Expr} (ok : Okx X G W) (o p : CmpOp) (hm : notSet c = true) (ha : PE X a (tD G W fa)) (hb : PE X b (tD G W fb)) (hc : PE X c (tD G W fc)) :
    PT X (.Compare a [o, p] [b, c] pos) (tDT G W fun s H => (fa s H).bind fun x H1 => (fb s H1).bind fun y H2 => match cmpD o (viewD H2 x) (viewD H2 y) with
      | some true => (fc s H2).bind fun z H3 => Rs.ofO (cmpD p (viewD H3 y) (viewD H3 z)) H3
      | some false => .ok false H2
      | none => .no) := PT.mono (pt_chain (op_cmp ok.K (by have := ok.un; omega) o) (op_cmp ok.K (by have := ok.un; omega) p) ha hb hc (last2 hm)) fun s H Q h => by
  obtain ⟨w, Hd, sd, rel, rs, q⟩ := h
  refine seq rel rs q fun x Hd1 w1 H1 v e1 rel1 rs1 r1 p1 => ?_
  refine seq rel1 rs1 p1 fun y Hd2 w2 H2 u e2 rel2 rs2 r2 p2 => ?_
  cases e : cmpD o (viewD Hd2 x) (viewD Hd2 y) with
  | none => rw [e] at p2; exact p2.elim
  | some k =>
    rw [e] at p2
    refine ⟨w2, _, _, k, repW_view rel2 (r1.ext e2), repW_view rel2 r2, e, k, rfl, ?_⟩
    cases k with
    | false => exact iteF ⟨false, rfl, p2 w2 H2 (Ext.refl _ _) rel2 _ rfl⟩
    | true =>
      refine iteT ?_
      refine seq rel2 rs2 p2 fun z Hd3 w3 H3 t e3 rel3 rs3 r3 p3 => ?_
      obtain ⟨d, hd, q⟩ := ofO_post p3
      exact ⟨w3, _, _, d, repW_view rel3 (r2.ext e3), repW_view rel3 r3, hd, d, rfl, q w3 H3 (Ext.refl _ _) rel3 _ rfl⟩
def plainIx : Expr → Bool
  | .Slice _ _ _ _ => false
  | _ => true
theorem plainIx_ok {e : Expr} (h : plainIx e = true) : PlainIx e := by
  intro o i
  cases e <;> first | rfl | (simp [plainIx] at h; done)
theorem d_ix (ok : Okx X G W) (hp : plainIx b = true) (ha : PE X a (tD G W fa)) (hb : PE X b (tD G W fb)) :
    PE X (.Subscript a b pos) (tD G W fun s H => (fa s H).bind fun x H1 => (fb s H1).bind fun y H2 => Rs.ofO (ixD (viewD H2 x) y) H2) := PE.mono (pe_ix (ix_all ok.K) ha hb (plainIx_ok hp)) fun s H Q h => by
  obtain ⟨w, Hd, sd, rel, rs, p⟩ := h
  refine seq rel rs p fun x Hd1 w1 H1 v e1 rel1 rs1 r1 p1 => ?_
  refine seq rel1 rs1 p1 fun y Hd2 w2 H2 u e2 rel2 rs2 r2 p2 => ?_
  obtain ⟨d, hd, q⟩ := ofO_post p2
  exact ⟨w2, Hd2, _, _, d, rel2, repW_view rel2 (r1.ext e2), r2, hd, q⟩
theorem o_no : PO X none (tDO G W fun _ H => .ok none H) := ⟨fun pins s σ H Q I h => po_none.run pins s σ H Q I (by
  obtain ⟨w, Hd, sd, rel, rs, p⟩ := h
  exact p w H (Ext.refl _ _) rel _ rfl)⟩
theorem o_yes (ha : PE X a (tD G W fa)) : PO X (some a) (tDO G W fun s H => (fa s H).bind fun d H1 => match d with | .int i => .ok (some i) H1 | _ => .no) := ⟨fun pins s σ H Q I h => (po_some ha).run pins s σ H Q I (by
  obtain ⟨w, Hd, sd, rel, rs, p⟩ := h
  refine seq rel rs p fun x Hd1 w1 H1 v e1 rel1 rs1 r1 p1 => ?_
  cases x <;> first
    | (cases r1; exact ⟨_, rfl, p1 w1 H1 (Ext.refl _ _) rel1 _ rfl⟩)
    | exact p1.elim)⟩
theorem d_sl {lo hi : Option Expr} {fl fh : Sd → HH → Rs (Option Int)} {p2 : Pos} (ok : Okx X G W) (ha : PE X a (tD G W fa)) (hl : PO X lo (tDO G W fl)) (hh : PO X hi (tDO G W fh)) :
    PE X (.Subscript a (.Slice lo hi none p2) pos) (tD G W fun s H => (fa s H).bind fun x H1 => (fl s H1).bind fun l H2 => (fh s H2).bind fun h H3 => Rs.ofO (slD (viewD H3 x) l h) H3) := PE.mono (pe_slice (sl_all ok.K) ha hl hh) fun s H Q h => by
  obtain ⟨w, Hd, sd, rel, rs, p⟩ := h
  refine seq rel rs p fun x Hd1 w1 H1 v e1 rel1 rs1 r1 p1 => ?_
  refine seq rel1 rs1 p1 fun l Hd2 w2 H2 u e2 rel2 rs2 r2 p2 => ?_
  refine seq rel2 rs2 p2 fun h Hd3 w3 H3 t e3 rel3 rs3 r3 p3 => ?_
  obtain ⟨d, hd, q⟩ := ofO_post p3
  cases (show u = l from r2)
  cases (show t = h from r3)
  exact ⟨w3, Hd3, _, d, rel3, repW_view rel3 ((r1.ext e2).ext e3), hd, q⟩
theorem rev_signs (z : Str) : (Builtin.Str.strSliceIndices none none (-1) z.length).filterMap (z.cps[·]?) = z.cps.toList.reverse := by
  have e1 : Builtin.Str.strSliceIndices none none (-1) z.length = sliceRange ((z.length : Int) - 1) (-1) (-1) := rfl
  rw [e1, PySem.W.krv_sliceRange, PySem.W.krv_range, List.filterMap_reverse]
  exact congrArg List.reverse (PySem.W.krv_all z.cps)
def tRevS (te : TE) : TE := fun σ H Q => te σ H fun x H1 => ∃ z : Str, x = .str z ∧ z.length ≤ sizeLine ∧ Q (.str ⟨z.cps.toList.reverse.toArray⟩) H1
theorem pe_revS {e : Expr} {te : TE} {kd : Nat} {q1 q2 q3 q4 : Pos} (he : PE X e te) : PE X (.Subscript e (.Slice none none (some (.UnaryOp .USub (.Constant (.int 1) kd q1) q2)) q3) q4) (tRevS te) := by
  constructor
  intro pins sA σ H Q inv h
  apply Subscript_
  refine thn (he.run pins sA σ H _ inv h) ?_
  rintro v sB ⟨x, HB, invB, rx, z, ez, hz, q⟩
  subst ez
  obtain ⟨tk, rfl⟩ := rx
  have minus : PO X (some (.UnaryOp .USub (.Constant (.int 1) kd q1) q2)) (tPart (tUn (rU fun i => .int (-i)) (tC (.int 1)))) := po_some (pe_un un_neg pe_int)
  apply wpAny_Slice
  refine thn (po_none.run pins sB σ HB (fun o G => o = none ∧ G = HB) invB ⟨rfl, rfl⟩) ?_
  rintro va sC ⟨oa, HC, invC, pa, ea, eC⟩
  subst ea eC
  refine thn (po_none.run pins sC σ HC (fun o G => o = none ∧ G = HC) invC ⟨rfl, rfl⟩) ?_
  rintro vb sD ⟨ob, HD, invD, pb, eb, eD⟩
  subst eb eD
  refine thn (minus.run pins sD σ HD (fun o G => o = some (-1) ∧ G = HD) invD ⟨1, rfl, -1, rfl, rfl, rfl⟩) ?_
  rintro vc sE ⟨oc, HE, invE, pc, ec, eE⟩
  subst ec eE
  have invF : Inv X pins σ HE { sE with heap := sE.heap.push { cls := .type "slice", data := .fields #[va, vb, vc] } } := invE.kept (t' := sE.toks) fun _ _ y => Heap.get?_push_of_some _ y
  refine tail_any (ops := [.ref sE.heap.objs.size, .str z tk]) (typeIs_str _ z tk) F.slot_str_getitem.lookup ?_ (by with_unfolding_all rfl)
  obtain ⟨la, rfl, ha⟩ := IsPart.raw pa
  obtain ⟨lb, rfl, hb⟩ := IsPart.raw pb
  obtain ⟨lc, rfl, hc⟩ := IsPart.raw pc
  obtain ⟨ho, h1, h2, h3⟩ := Heap.IsSliceOf.new sE.heap (partValue la) (partValue lb) (partValue lc)
  refine wpAny_getItem_str_slice (l := la) (u := lb) (st := lc) ⟨ho, h1, h2, h3⟩ (by rw [hc]; rfl) ?_
  have em : sliceMade z tk la lb lc = .str ⟨z.cps.toList.reverse.toArray⟩ := by
    unfold sliceMade slicePicked
    rw [ha, hb, hc]
    show (if ((-1 : Int) == 1 && _) = true then _ else Made.str ⟨((Builtin.Str.strSliceIndices none none (-1) z.length).filterMap (z.cps[·]?)).toArray⟩) = _
    rw [rev_signs]
    rfl
  rw [em]
  refine ⟨?_, .str _, HE, invF.tok _, ⟨_, rfl⟩, q⟩
  show z.cps.toList.reverse.toArray.size ≤ _
  rw [List.size_toArray, List.length_reverse, Array.length_toList]
  exact hz
def isStrD : D → Bool
  | .str _ => true
  | _ => false
def isStrR : Rs D → Bool
  | .ok x H => isStrD (viewD H x)
  | _ => false
theorem d_rev {k : Nat} {p1 p2 p3 : Pos} (ok : Okx X G W) (ha : PE X a (tD G W fa)) : PE X (.Subscript a (.Slice none none (some (.UnaryOp .USub (.Constant (.int 1) k p1) p2)) p3) pos)
    (tD G W fun s H => (fa s H).bind fun x H1 => match viewD H1 x with | .lv xs => .ok (.lv xs.reverse) H1 | .fz xs => .ok (.lv xs.reverse) H1 | .str xs => if xs.length ≤ lim then .ok (.str xs.reverse) H1 else .no | _ => .no) := by
  have both : PE X (.Subscript a (.Slice none none (some (.UnaryOp .USub (.Constant (.int 1) k p1) p2)) p3) pos) (fun σ H Q => tRevL X.K (tD G W fa) σ H Q ∨ tRevS (tD G W fa) σ H Q) :=
    ⟨fun pins s σ H Q inv h => h.elim ((pe_revL ha).run pins s σ H Q inv) ((pe_revS ha).run pins s σ H Q inv)⟩
  refine PE.mono both fun s H Q h => ?_
  obtain ⟨w, Hd, sd, rel, rs, p⟩ := h
  cases hs : isStrR (fa sd Hd) with
  | false =>
    left
    refine ⟨w, Hd, sd, rel, rs, ?_⟩
    dsimp only at p
    generalize fa sd Hd = r at p hs ⊢
    cases r with
    | no => exact p
    | ex e H1 => exact p
    | ok x Hd1 =>
      intro w1 H1 e1 rel1 v r1
      have p1 := Post.step p e1
      have rw1 := repW_view rel1 r1
      have hs : isStrD (viewD Hd1 x) = _ := hs
      dsimp only [Rs.bind] at p1
      generalize viewD Hd1 x = y at p1 rw1 hs
      cases y with
      | lv xs =>
        obtain ⟨q, vs, rfl, h1, h2⟩ := rw1
        exact ⟨q, vs, rfl, SqL.of h1, Ret.lv (fun w' H' e r v rv => p1 w' H' e r v rv) rel1 h2.reverse⟩
      | fz xs =>
        have rw1 : RepV G w1 H1 (.fz xs) v := rw1
        cases rw1 with
        | fz t h2 => exact ⟨_, _, rfl, ok.K ▸ t.sq, Ret.lv (fun w' H' e r v rv => p1 w' H' e r v rv) rel1 h2.reverse⟩
      | str xs => cases hs
      | _ => exact p1.elim
  | true =>
    right
    refine ⟨w, Hd, sd, rel, rs, ?_⟩
    dsimp only at p
    generalize fa sd Hd = r at p hs ⊢
    cases r with
    | no => cases hs
    | ex e H1 => cases hs
    | ok x Hd1 =>
      intro w1 H1 e1 rel1 v r1
      have p1 := Post.step p e1
      have rw1 := repW_view rel1 r1
      have hs : isStrD (viewD Hd1 x) = _ := hs
      dsimp only [Rs.bind] at p1
      generalize viewD Hd1 x = y at p1 rw1 hs
      cases y with
      | str xs =>
        have rw1 : RepV G w1 H1 (.str xs) v := rw1
        cases rw1
        dsimp only at p1
        split at p1
        · rename_i hl
          refine ⟨_, rfl, by rw [PySem.sizeLine_eq, str_len]; exact hl, ?_⟩
          have := p1 w1 H1 (Ext.refl _ _) rel1 _ (.str _)
          simpa using this
        · exact p1.elim
      | _ => cases hs
theorem bi_boot (b : BI) : bootBuiltins (biN b) = some (biV b) := by cases b <;> decide +kernel
theorem bi_names (b : BI) : biN b ≠ "__name__" ∧ (biN b == ("__debug__" : Str)) = false := by cases b <;> decide +kernel
theorem d_bi {p : Pos} (ok : Okx X G W) (b : BI) (hq : coolBI b = true → X.calm = true) (hg : Gl X (biN b)) (hm : X.mg (biN b) = none) (hs : (e :: es).all notStar = true) (ha : PA X (e :: es) (tDA G W fs)) :
    PE X (.Call (.Name (biN b) p) (e :: es) [] pos) (tD G W fun s H => (fs s H).bind fun ds H1 => Rs.ofO (biD b (ds.map (viewD H1))) H1) := by
  have hs' := hs
  rw [List.all_cons, Bool.and_eq_true] at hs'
  have hc := bi_call ok.K b hq ok.gd ok.un
  have core : PE X (.Call (.Name (biN b) p) (e :: es) [] pos) (tCB (rBi G b) (tDA G W fs)) := by
    have hv := bi_boot b
    have hn := bi_names b
    cases b <;> first
      | exact pe_callB hc hg hm hv ha hn.1 hn.2 (star_cons hs'.1) (star_plain hs'.2)
      | exact pe_callTy hc hg hm hv ha hn.1 hn.2 (star_cons hs'.1) (star_plain hs'.2)
  refine PE.mono core fun s H Q h => ?_
  obtain ⟨w, Hd, sd, rel, rs, p⟩ := h
  refine seq rel rs p fun xs Hd1 w1 H1 vs e1 rel1 rs1 r1 p1 => ?_
  obtain ⟨d, hd, q⟩ := ofO_post p1
  exact ⟨w1, Hd1, _, d, rel1, repWs_view rel1 r1, hd, q⟩
end
end DI
namespace DI
open PySem PySem.Spec PyProof.Rows L2

theorem permL_pair {A B : Type} {F : A → B → Prop} {xs : List A} {ys : List B} (h : Paired F xs ys) : ∀ {p : List Nat} {l : List A}, permL xs p = some l → ∃ m, permL ys p = some m ∧ Paired F l m
  | [], _, e => by cases e; exact ⟨[], rfl, .nil⟩
  | k :: r, l, e => by
    unfold permL at e ⊢
    cases h1 : xs[k]? with
    | none => rw [h1] at e; cases e
    | some d =>
      cases h2 : permL xs r with
      | none => rw [h1, h2] at e; cases e
      | some l' =>
        rw [h1, h2] at e
        cases e
        obtain ⟨m, e2, q⟩ := permL_pair h h2
        have get : ∀ {xs : List A} {ys : List B} {k : Nat}, Paired F xs ys → xs[k]? = some d → ∃ y, ys[k]? = some y ∧ F d y := by
          intro xs ys k h
          induction h generalizing k with
          | nil => intro e; simp at e
          | cons r _ ih =>
            intro e
            cases k with
            | zero => simp at e; subst e; exact ⟨_, rfl, r⟩
            | succ k => simpa using ih (k := k) (by simpa using e)
        obtain ⟨y, e1, q1⟩ := get h h1
        rw [e1, e2]
        exact ⟨_, rfl, .cons q1 q⟩
section
variable {G : Gr} {w w' : Vw} {H H' : Hp}
theorem RepVs.paired : ∀ {ds : List D} {vs : List V}, RepVs G w H ds vs → Paired (RepV G w H) ds vs
  | _, _, .nil => .nil
  | _, _, .cons h r => .cons h r.paired
theorem RepVs.of_paired : ∀ {ds : List D} {vs : List V}, Paired (RepV G w H) ds vs → RepVs G w H ds vs
  | _, _, .nil => .nil
  | _, _, .cons h r => .cons h (RepVs.of_paired r)
theorem RepVs.perm {ds : List D} {vs : List V} (h : RepVs G w H ds vs) {p : List Nat} {l : List D} (e : permL ds p = some l) : ∃ m, permL vs p = some m ∧ RepVs G w H l m := by
  obtain ⟨m, a, b⟩ := permL_pair h.paired e
  exact ⟨m, a, RepVs.of_paired b⟩
end
/-- a def by its name's promise: what the evaluator says of it -/
def FnG (P : Program) (w : World) (K : PySem.W.Frag) (mg : Str → Option Value) (base : Heap) (G : Gr) (k : Nat) (f : Addr) (fd : FuncData) (ps : List Str) (F : List D → HH → Rs D) : Prop :=
  ∀ (A : Around) (outer : List Env) (s : Shared) (H : Hp) (args : Args) (us : List Value) (vs : List V) (ds : List D) (v : Vw) (Hd : HH) (Q : VK) (E : XK), Room k A → A.guards = some [] → Env0 P w K mg base A outer s H →
    BindsTo s fd args (ps.zip us) → Vals vs us → us.length = ps.length → Rel G v Hd H → RepVs G v H ds vs → Post (RepV G) G v H (F ds Hd) E Q → codeAny (model P w) A (.call (.ref f) args) (CR (L2.CX P w) outer P w H s Q E) s
/-- how a call of that form binds: n values by place, then those of the names ks, then the defaults -/
def KBd (K : PySem.W.Frag) (fd : FuncData) (ps : List Str) (n : Nat) (ks : List Str) (p : List Nat) (dvs : List Value) : Prop :=
  ∀ (s : Shared) (us ws : List Value), K.In s.heap → us.length = n → ws.length = ks.length → ∃ zs, permL (us ++ ws ++ dvs) p = some zs ∧ zs.length = ps.length ∧ BindsTo s fd ⟨us, ks.zip ws⟩ (ps.zip zs)
section
variable {X : Cx} {G : Gr} {W : WX} {pos p : Pos} {x : Str} {f : Addr} {fd : FuncData} {ps ks : List Str} {F : List D → HH → Rs D} {k n : Nat} {e : Expr} {es : List Expr} {kw kws : List Keyword} {fs fz : Sd → HH → Rs (List D)} {pm : List Nat} {dvs : List Value} {dfl : List D} {dV : List V}
/-- what a call must know of the def -/
structure Callee (X : Cx) (G : Gr) (k : Nat) (x : Str) (f : Addr) (fd : FuncData) (ps : List Str) (F : List D → HH → Rs D) (dfl : List D) (dV : List V) (dvs : List Value) : Prop where
  fn : FnG X.prog X.w X.K X.mg X.base G k f fd ps F
  mg : X.mg x = some (.ref f)
  kp : PySem.W.keepIn X.K (.ref f) = true
  nd : (x == ("__debug__" : Str)) = false
  dv : Vals dV dvs
  dr : ∀ w H, RepVs G w H dfl dV
theorem d_knil : PK X [] (tDA G W fun _ H => .ok [] H) := ⟨fun po pins s σ H Q I h => pk_nil.run po pins s σ H Q I (by
  obtain ⟨w, Hd, sd, rel, rs, p⟩ := h
  exact p w H (Ext.refl _ _) rel [] .nil)⟩
theorem d_kcons {fa : Sd → HH → Rs D} {nm : Option Str} {kp : Pos} (he : PE X e (tD G W fa)) (hr : PK X kws (tDA G W fs)) : PK X (⟨nm, e, kp⟩ :: kws) (tDA G W fun s H => (fa s H).bind fun d H1 => (fs s H1).bind fun ds H2 => .ok (d :: ds) H2) :=
  ⟨fun po pins s σ H Q I h => (pk_cons he hr).run po pins s σ H Q I (by
    obtain ⟨w, Hd, sd, rel, rs, p⟩ := h
    refine seq rel rs p fun x Hd1 w1 H1 v e1 rel1 rs1 r1 p1 => ?_
    refine seq rel1 rs1 p1 fun xs Hd2 w2 H2 vs e2 rel2 rs2 r2 p2 => ?_
    exact p2 w2 H2 (Ext.refl _ _) rel2 _ (.cons (r1.ext e2) r2))⟩
/-- the callee runs -/
theorem run_g {pins : List (Addr × Obj)} {σ : L2.St} {H : Hp} {s : Shared} {Q : VK} {us ws : List Value} {vs zs : List V} {ds xs : List D} {w : Vw} {Hd : HH} (ok : Okx X G W) (C : Callee X G k x f fd ps F dfl dV dvs) (hr : Room k X.A) (hb : KBd X.K fd ps n ks pm dvs)
    (I : L2.Inv X pins σ H s) (r : Vals vs us) (rz : Vals zs ws) (l1 : us.length = n) (l2 : ws.length = ks.length) (rel : Rel G w Hd H) (rd : RepVs G w H ds vs) (rx : RepVs G w H xs zs)
    {l : List D} (hl : permL (ds ++ xs ++ dfl) pm = some l) (h : Post (RepV G) G w H (F l Hd) (wat W σ) Q) : wpAny (model X.prog X.w) X.A (call (.ref f) us (ks.zip ws)) (L2.EP X pins σ Q) X.xe s := by
  obtain ⟨zz, hz, hzl, hbd⟩ := hb s us ws I.kIn l1 l2
  obtain ⟨m, hm, rm⟩ := ((rd.append rx).append (C.dr w H)).perm hl
  have va : Vals (vs ++ zs ++ dV) (us ++ ws ++ dvs) := (r.append rz).append C.dv
  obtain ⟨m', hm', vm⟩ := permL_pair (F := L2.RelV) va hm
  rw [hz] at hm'
  cases hm'
  refine wpAny_call (codeAny_mono (C.fn X.A X.stack s H ⟨us, ks.zip ws⟩ zz m l w Hd Q (wat W σ) hr ok.gd I.env0 hbd vm hzl rel rm h) fun rr s' hq => ?_)
  cases rr with
  | error e => exact passAt ok.tk σ pins H s e s' I hq
  | ok fl => cases fl with
    | ret u => exact I.after hq
    | _ => exact False.elim hq
def callF (F : List D → HH → Rs D) (dfl : List D) (pm : List Nat) (ds zs : List D) (H : HH) : Rs D := match permL (ds ++ zs ++ dfl) pm with
  | some l => F l H
  | none => .no
theorem callF_post {w : Vw} {H : Hp} {Hd : HH} {E : XK} {Q : VK} {ds zs : List D} (h : Post (RepV G) G w H (callF F dfl pm ds zs Hd) E Q) : ∃ l, permL (ds ++ zs ++ dfl) pm = some l ∧ Post (RepV G) G w H (F l Hd) E Q := by
  unfold callF at h
  cases e : permL (ds ++ zs ++ dfl) pm with
  | none => rw [e] at h; exact h.elim
  | some l => rw [e] at h; exact ⟨l, rfl, h⟩
theorem kw_names {pos : Pos} {env : Env} : ∀ {kws : List Keyword}, kws.map (·.arg) = ks.map some → (backToKw pos (keywordEach kws env)).all (·.1.isSome) = true ∧ (backToKw pos (keywordEach kws env)).filterMap (·.1) = ks ∧ (backToKw pos (keywordEach kws env)).any (·.1.isNone) = false := by
  intro kws
  induction kws generalizing ks with
  | nil => intro h; cases ks with
    | nil => exact ⟨rfl, rfl, rfl⟩
    | cons => cases h
  | cons kwd kws ih =>
    intro h
    cases ks with
    | nil => cases h
    | cons k ks =>
      obtain ⟨nm, v, p⟩ := kwd
      simp only [List.map_cons, List.cons.injEq] at h
      obtain ⟨h1, h2⟩ := h
      subst h1
      obtain ⟨a, b, c⟩ := ih h2
      refine ⟨?_, ?_, ?_⟩
      · show (true && (backToKw pos (keywordEach kws env)).all (·.1.isSome)) = true
        rw [a] <;> rfl
      · show k :: (backToKw pos (keywordEach kws env)).filterMap (·.1) = k :: ks
        rw [b]
      · show (false || (backToKw pos (keywordEach kws env)).any (·.1.isNone)) = false
        rw [c] <;> rfl
theorem kw_len {zs : List V} {ws : List Value} (h : Vals zs ws) (l : zs.length = ks.length) : ws.length = ks.length := h.length.symm.trans l

/-- the values by names, then the call -/
theorem call_tail (ok : Okx X G W) (C : Callee X G k x f fd ps F dfl dV dvs) (hr : Room k X.A) (hb : KBd X.K fd ps n ks pm dvs)
    (hk : PK X kws (tDA G W fz)) (l2 : ∀ s H ds H1, fz s H = .ok ds H1 → ds.length = ks.length)
    {pins : List (Addr × Obj)} {σ : L2.St} {sd : Sd} {Q : VK} {ds : List D} {vs : List V} {us : List Value} {Hd1 : HH} {w1 : Vw} {H1 : Hp} {s1 : Shared} (hl : us.length = n) (rel1 : Rel G w1 Hd1 H1) (rs1 : RepS G w1 H1 sd σ) (r1 : RepVs G w1 H1 ds vs)
    (I1 : L2.Inv X pins σ H1 s1) (v1 : Vals vs us) (p1 : Post (RepV G) G w1 H1 ((fz sd Hd1).bind fun zs H2 => callF F dfl pm ds zs H2) (wat W σ) Q) :
    wpAny (model X.prog X.w) X.A (evalAll ((backToKw pos (keywordEach kws X.env)).map (·.2))) (fun ws s2 => X.K.In s2.heap ∧ wpAny (model X.prog X.w) X.A (call (.ref f) us (ks.zip ws)) (L2.EP X pins σ Q) X.xe s2) X.xe s1 := by
  have z : tDA G W fz σ H1 (fun zs H2 => zs.length = ks.length ∧ ∃ w2 Hd2 xs, Ext w1 w2 H1 H2 ∧ Rel G w2 Hd2 H2 ∧ RepVs G w2 H2 xs zs ∧ Post (RepV G) G w2 H2 (callF F dfl pm ds xs Hd2) (wat W σ) Q) :=
    seqQ rel1 rs1 p1 fun xs Hd2 w2 H2 zs e e2 rel2 rs2 r2 p2 => ⟨by rw [← r2.length]; exact l2 _ _ _ _ e, w2, Hd2, xs, e2, rel2, r2, p2⟩
  refine thn (hk.run pos pins s1 σ H1 _ I1 z) fun ws s2 ⟨zs, H2, I2, r2, hlz, w2, Hd2, xs, e2, rel2, rx, p2⟩ => ⟨I2.kIn, ?_⟩
  obtain ⟨l, hp, p3⟩ := callF_post p2
  exact run_g ok C hr hb I2 v1 r2 hl (kw_len r2 hlz) rel2 (r1.ext e2) rx hp p3
/-- no values by names -/
theorem call_tail0 (ok : Okx X G W) (C : Callee X G k x f fd ps F dfl dV dvs) (hr : Room k X.A) (hb : KBd X.K fd ps n [] pm dvs)
    {pins : List (Addr × Obj)} {σ : L2.St} {Q : VK} {ds : List D} {vs : List V} {us : List Value} {Hd1 : HH} {w1 : Vw} {H1 : Hp} {s1 : Shared} (hl : us.length = n) (rel1 : Rel G w1 Hd1 H1) (r1 : RepVs G w1 H1 ds vs)
    (I1 : L2.Inv X pins σ H1 s1) (v1 : Vals vs us) (p1 : Post (RepV G) G w1 H1 (callF F dfl pm ds [] Hd1) (wat W σ) Q) :
    wpAny (model X.prog X.w) X.A (call (.ref f) us) (L2.EP X pins σ Q) X.xe s1 := by
  obtain ⟨l, hp, p3⟩ := callF_post p1
  exact run_g (ks := []) (ws := []) ok C hr hb I1 v1 .nil hl rfl rel1 r1 .nil hp p3
theorem d_callG (ok : Okx X G W) (C : Callee X G k x f fd ps F dfl dV dvs) (hr : Room k X.A) (hg : Gl X x) (hb : KBd X.K fd ps n ks pm dvs) (hs : es.all notStar = true)
    (ha : PA X es (tDA G W fs)) (hk : PK X kws (tDA G W fz)) (hn : kws.map (·.arg) = ks.map some)
    (l1 : ∀ s H ds H1, fs s H = .ok ds H1 → ds.length = n) (l2 : ∀ s H ds H1, fz s H = .ok ds H1 → ds.length = ks.length)
    (e1 : es = [] → ∀ s H, fs s H = .ok [] H) (e2 : kws = [] → ∀ s H, fz s H = .ok [] H) :
    PE X (.Call (.Name x p) es kws pos) (tD G W fun s H => (fs s H).bind fun ds H1 => (fz s H1).bind fun zs H2 => callF F dfl pm ds zs H2) := by
  refine ⟨fun pins s σ H Q I h => ?_⟩
  obtain ⟨w, Hd, sd, rel, rs, q⟩ := h
  refine wpAny_Call_Name_kw (ld_glob I hg C.mg ?_ C.nd)
  obtain ⟨n1, n2, n3⟩ := kw_names (pos := pos) (env := X.env) hn
  cases es with
  | nil =>
    have q' : Post (RepV G) G w H ((fz sd Hd).bind fun zs H2 => callF F dfl pm [] zs H2) (wat W σ) Q := by
      have z : fs sd Hd = .ok [] Hd := e1 rfl sd Hd
      dsimp only at q
      rw [z] at q
      exact q
    have hn0 : n = 0 := (l1 sd Hd [] Hd (e1 rfl sd Hd)).symm
    cases kws with
    | nil =>
      have ek : ks = [] := by
        cases ks with
        | nil => rfl
        | cons => cases hn
      subst ek
      have z : fz sd Hd = .ok [] Hd := e2 rfl sd Hd
      rw [z] at q'
      exact PySem.W.callWith_K0 I.kIn C.kp (call_tail0 (us := []) (vs := []) (ds := []) ok C hr hb hn0.symm rel .nil I .nil q')
    | cons kwd kws =>
      refine PySem.W.callWith_KW0 (h₀ := X.base) I.ok.mod.kin C.kp n1 ?_ (by show (false || _) = false; rw [n3] <;> rfl)
      rw [n2]
      exact call_tail (us := []) (vs := []) (ds := []) ok C hr hb hk l2 hn0.symm rel rs .nil I .nil q'
  | cons e es =>
    have hs' := hs
    rw [List.all_cons, Bool.and_eq_true] at hs'
    have z : tDA G W fs σ H (fun vs H1 => vs.length = n ∧ ∃ w1 Hd1 ds, Rel G w1 Hd1 H1 ∧ RepS G w1 H1 sd σ ∧ RepVs G w1 H1 ds vs ∧ Post (RepV G) G w1 H1 ((fz sd Hd1).bind fun zs H2 => callF F dfl pm ds zs H2) (wat W σ) Q) :=
      seqQ rel rs q fun xs Hd2 w2 H2 zs e e2 rel2 rs2 r2 p2 => ⟨by rw [← r2.length]; exact l1 _ _ _ _ e, w2, Hd2, xs, rel2, rs2, r2, p2⟩
    cases kws with
    | nil =>
      have ek : ks = [] := by
        cases ks with
        | nil => rfl
        | cons => cases hn
      subst ek
      refine PySem.W.callWith_K (h₀ := X.base) I.ok.mod.kin C.kp (thn (ha.run pos pins s σ H _ I z) fun us s1 ⟨vs, H1, I1, r, hl, w1, Hd1, ds, rel1, rs1, r1, p1⟩ => ⟨I1.kIn, ?_⟩) (star_cons hs'.1) (star_plain hs'.2)
      have z : fz sd Hd1 = .ok [] Hd1 := e2 rfl sd Hd1
      rw [z] at p1
      exact call_tail0 ok C hr hb (r.length.symm.trans hl) rel1 r1 I1 r p1
    | cons kwd kws =>
      refine PySem.W.callWith_KW (h₀ := X.base) I.ok.mod.kin C.kp n1 (thn (ha.run pos pins s σ H _ I z) fun us s1 ⟨vs, H1, I1, r, hl, w1, Hd1, ds, rel1, rs1, r1, p1⟩ => ?_) (by
        rw [star_cons hs'.1]
        show ((false || (backTo pos (starEach es X.env)).any (·.1)) || _) = false
        rw [star_plain hs'.2, n3] <;> rfl) (star_cons hs'.1)
      rw [n2]
      exact call_tail ok C hr hb hk l2 (r.length.symm.trans hl) rel1 rs1 r1 I1 r p1
end
section
variable {G : Gr} {w w' : Vw} {H H' : Hp} {Hd Hd' : HH}
/-- nothing live: all that stands is others' -/
def Vw.nil (w : Vw) : Vw := ⟨w.mu, 0, w.L⟩
theorem nil_L {a : Addr} : w.nil.L a ↔ w.L a := ⟨fun h => h.elim (fun ⟨i, hi, _⟩ => absurd hi (Nat.not_lt_zero _)) id, fun h => .inr h⟩
theorem rel_nil (r : Rel G w Hd H) : Rel G w.nil [] H := ⟨rfl, fun i j h => absurd h (Nat.not_lt_zero _), fun i o h => by simp at h, fun a h => ⟨by
  obtain ⟨u, e⟩ := r.liveSome h
  rw [e]; simp, fun ⟨i, hi, _⟩ => absurd hi (Nat.not_lt_zero _)⟩⟩
theorem TupAt.out {a : Addr} {vs : List V} (h : TupAt G w H a vs) : TupAt G w.nil H a vs := by
  rcases h with ⟨h, r⟩ | h
  · exact .inl ⟨fun z => h (nil_L.mp z), r⟩
  · exact .inr h
theorem FzAt.out {a : Addr} {vs : List V} (h : FzAt G w H a vs) : FzAt G w.nil H a vs := by
  rcases h with ⟨h, r⟩ | h
  · exact .inl ⟨fun z => h (nil_L.mp z), r⟩
  · exact .inr h
mutual
theorem RepV.out : ∀ {d : D} {v : V}, noRef d = true → RepV G w H d v → RepV G w.nil H d v
  | _, _, _, .non => .non
  | _, _, _, .bl b => .bl b
  | _, _, _, .int i => .int i
  | _, _, _, .str x => .str x
  | _, _, n, .tup h r => by unfold noRef at n; exact .tup h.out (RepVs.out n r)
  | _, _, n, .lv h q r => by unfold noRef at n; exact .lv (fun z => h (nil_L.mp z)) q (RepVs.out n r)
  | _, _, n, .fz h r => by unfold noRef at n; exact .fz h.out (RepVs.out n r)
  | .ref _, _, n, _ => by unfold noRef at n; cases n
  | _, _, _, .cls c => .cls c
  | _, _, _, .ty n => .ty n
theorem RepVs.out : ∀ {d : List D} {v : List V}, noRefs d = true → RepVs G w H d v → RepVs G w.nil H d v
  | _, _, _, .nil => .nil
  | _, _, n, .cons h r => by
    unfold noRefs at n
    rw [Bool.and_eq_true] at n
    exact .cons (RepV.out n.1 h) (RepVs.out n.2 r)
end
/-- back: w' grew out of nothing beside w -/
structure Bk (G : Gr) (w w' : Vw) (H H' : Hp) : Prop where
  xx : ∀ a, w.L a → w'.xx a
  fresh : ∀ i, i < w'.n → ¬ w.L (w'.mu i)
theorem Bk.notL {a : Addr} (b : Bk G w w' H H') (h : ¬ w'.L a) : ¬ w.L a := fun z => h (.inr (b.xx a z))
theorem TupAt.back {a : Addr} {vs : List V} (b : Bk G w w' H H') (h : TupAt G w' H' a vs) : TupAt G w H' a vs := by
  rcases h with ⟨h, r⟩ | h
  · exact .inl ⟨b.notL h, r⟩
  · exact .inr h
theorem FzAt.back {a : Addr} {vs : List V} (b : Bk G w w' H H') (h : FzAt G w' H' a vs) : FzAt G w H' a vs := by
  rcases h with ⟨h, r⟩ | h
  · exact .inl ⟨b.notL h, r⟩
  · exact .inr h
mutual
theorem RepV.back (b : Bk G w w' H H') : ∀ {d : D} {v : V}, noRef d = true → RepV G w' H' d v → RepV G w H' d v
  | _, _, _, .non => .non
  | _, _, _, .bl b => .bl b
  | _, _, _, .int i => .int i
  | _, _, _, .str x => .str x
  | _, _, n, .tup h r => by unfold noRef at n; exact .tup (h.back b) (RepVs.back b n r)
  | _, _, n, .lv h q r => by unfold noRef at n; exact .lv (b.notL h) q (RepVs.back b n r)
  | _, _, n, .fz h r => by unfold noRef at n; exact .fz (h.back b) (RepVs.back b n r)
  | .ref _, _, n, _ => by unfold noRef at n; cases n
  | _, _, _, .cls c => .cls c
  | _, _, _, .ty n => .ty n
theorem RepVs.back (b : Bk G w w' H H') : ∀ {d : List D} {v : List V}, noRefs d = true → RepVs G w' H' d v → RepVs G w H' d v
  | _, _, _, .nil => .nil
  | _, _, n, .cons h r => by
    unfold noRefs at n
    rw [Bool.and_eq_true] at n
    exact .cons (RepV.back b n.1 h) (RepVs.back b n.2 r)
end
mutual
theorem frz_back (b : Bk G w w' H H') (rel : Rel G w' Hd' H') : ∀ (n : Nat) {d e : D} {v : V}, frzD Hd' n d = some e → RepV G w' H' d v → RepV G w H' e v ∧ noRef e = true
  | 0, _, _, _, h, _ => by simp [frzD] at h
  | n + 1, .ref r, e, v, h, rv => by
    cases rv with
    | ref hr =>
      obtain ⟨o, ho, q⟩ := rel.lt hr
      cases q with
      | lst h1 h2 =>
        simp only [frzD, ho] at h
        cases z : frzDs Hd' n _ with
        | none => rw [z] at h; cases h
        | some l =>
          rw [z] at h
          cases h
          obtain ⟨a, c⟩ := frzs_back b rel n z h2
          exact ⟨.lv (b.fresh r hr) h1 a, by unfold noRef; exact c⟩
      | dic h1 h2 => simp only [frzD, ho] at h; cases h
  | n + 1, .tup xs, e, v, h, rv => by
    cases rv with
    | tup t h2 =>
      simp only [frzD] at h
      cases z : frzDs Hd' n xs with
      | none => rw [z] at h; cases h
      | some l =>
        rw [z] at h
        cases h
        obtain ⟨a, c⟩ := frzs_back b rel n z h2
        exact ⟨.tup (t.back b) a, by unfold noRef; exact c⟩
  | n + 1, .lv xs, e, v, h, rv => by
    cases rv with
    | lv t q h2 =>
      simp only [frzD] at h
      cases z : frzDs Hd' n xs with
      | none => rw [z] at h; cases h
      | some l =>
        rw [z] at h
        cases h
        obtain ⟨a, c⟩ := frzs_back b rel n z h2
        exact ⟨.lv (b.notL t) q a, by unfold noRef; exact c⟩
  | n + 1, .non, e, v, h, rv => by cases h; exact ⟨rv.back b rfl, rfl⟩
  | n + 1, .bl _, e, v, h, rv => by cases h; exact ⟨rv.back b rfl, rfl⟩
  | n + 1, .int _, e, v, h, rv => by cases h; exact ⟨rv.back b rfl, rfl⟩
  | n + 1, .str _, e, v, h, rv => by cases h; exact ⟨rv.back b rfl, rfl⟩
  | n + 1, .fz xs, e, v, h, rv => by
    simp only [frzD] at h
    split at h
    · rename_i z; cases h; exact ⟨rv.back b z, z⟩
    · cases h
  | n + 1, .dv _ _, e, v, h, rv => by cases rv
  | n + 1, .sv _, e, v, h, rv => by cases rv
  | n + 1, .cls _, e, v, h, rv => by cases h; exact ⟨rv.back b rfl, rfl⟩
  | n + 1, .ty _, e, v, h, rv => by cases h; exact ⟨rv.back b rfl, rfl⟩
theorem frzs_back (b : Bk G w w' H H') (rel : Rel G w' Hd' H') : ∀ (n : Nat) {d e : List D} {v : List V}, frzDs Hd' n d = some e → RepVs G w' H' d v → RepVs G w H' e v ∧ noRefs e = true
  | 0, _, _, _, h, _ => by simp [frzDs] at h
  | n + 1, [], e, v, h, rv => by cases rv; simp only [frzDs] at h; cases h; exact ⟨.nil, rfl⟩
  | n + 1, d :: ds, e, v, h, rv => by
    cases rv with
    | cons r1 r2 =>
      simp only [frzDs] at h
      cases z1 : frzD Hd' n d with
      | none => rw [z1] at h; cases h
      | some a =>
        cases z2 : frzDs Hd' n ds with
        | none => rw [z1, z2] at h; cases h
        | some l =>
          rw [z1, z2] at h
          cases h
          obtain ⟨a1, c1⟩ := frz_back b rel n z1 r1
          obtain ⟨a2, c2⟩ := frzs_back b rel n z2 r2
          exact ⟨.cons a1 a2, by unfold noRefs; rw [c1, c2] <;> rfl⟩
end
/-- behind such a call the caller's live objects stand -/
theorem nil_after (r : Rel G w Hd H) (e : Ext w.nil w' H H') : Ext w w H H' ∧ Rel G w Hd H' ∧ Bk G w w' H H' := by
  have no : ∀ a, ¬ w.nil.O a := fun a ⟨i, hi, _⟩ => absurd hi (Nat.not_lt_zero _)
  have e1 : Ext w w H H' := ⟨Nat.le_refl _, fun _ _ => rfl, fun i h h' => absurd h' (by omega), fun a o _ h => e.keep a o (no a) h, e.there, fun _ h => .inl h, fun _ h => h⟩
  refine ⟨e1, ⟨r.n, r.inj, fun i o h => ?_, fun a h => ⟨e.there a (r.xx a h).1, (r.xx a h).2⟩⟩, e.xl, fun i hi z => ?_⟩
  · have q := r.obj i o h
    obtain ⟨u, hu⟩ := q.some_
    exact q.ext e1 (by rw [hu]; exact e.keep _ _ (no _) hu)
  · obtain ⟨u, hu⟩ := r.liveSome z
    have := e.fresh i (Nat.zero_le _) hi
    rw [hu] at this; cases this
end
def pcallF (F : List D → HH → Rs D) (dfl : List D) (pm : List Nat) (ds zs : List D) (H : HH) : Rs D := match permL (ds ++ zs ++ dfl) pm with
  | some l => match pcallD (fun _ => F) 0 l with
    | some (.inl d) => .ok d H
    | some (.inr e) => .ex e H
    | none => .no
  | none => .no
/-- the callee by itself keeps the promise of the pure call -/
theorem pure_post {G : Gr} {w : Vw} {H : Hp} {Hd : HH} {F : List D → HH → Rs D} {l : List D} {E : XK} {Q : VK} (rel : Rel G w Hd H)
    (h : Post (RepV G) G w H (match pcallD (fun _ => F) 0 l with | some (.inl d) => .ok d Hd | some (.inr e) => .ex e Hd | none => .no) E Q) : noRefs l = true ∧ Post (RepV G) G w.nil H (F l []) E Q := by
  unfold pcallD at h
  by_cases hn : noRefs l = true
  · rw [if_pos hn] at h
    refine ⟨hn, ?_⟩
    dsimp only at h
    generalize F l [] = r at h
    cases r with
    | no => exact h
    | ok d H1 =>
      intro w' H' e rel' v rv
      obtain ⟨e1, r1, b⟩ := nil_after rel e
      dsimp only at h
      by_cases hd : noRef d = true
      · rw [if_pos hd] at h
        exact h w H' e1 r1 v (rv.back b hd)
      · rw [if_neg hd] at h
        cases z : frzD H1 100000 d with
        | none => rw [z] at h; exact h.elim
        | some d' =>
          rw [z] at h
          exact h w H' e1 r1 v (frz_back b rel' _ z rv).1
    | ex x H1 =>
      intro w' H' e rel' c da rx
      obtain ⟨e1, r1, b⟩ := nil_after rel e
      obtain ⟨xc, fld⟩ := x
      cases fld with
      | none =>
        exact h w H' e1 r1 c da (by
          cases xc with
          | own k => exact rx
          | blt n => exact rx)
      | some d =>
        dsimp only at h
        by_cases hd : noRef d = true
        · rw [if_pos hd] at h
          refine h w H' e1 r1 c da ?_
          cases xc with
          | own k =>
            obtain ⟨a, a1, v, a2, a3, a4, a5⟩ := rx
            exact ⟨a, a1, v, a2, a3, b.notL a4, a5.back b hd⟩
          | blt n => exact rx
        · rw [if_neg hd] at h; exact h.elim
  · rw [if_neg hn] at h; exact h.elim

section
variable {X : Cx} {G : Gr} {W : WX} {pos p : Pos} {x : Str} {f : Addr} {fd : FuncData} {ps ks : List Str} {F : List D → HH → Rs D} {k n : Nat} {e : Expr} {es : List Expr} {kw kws : List Keyword} {fs fz : Sd → HH → Rs (List D)} {pm : List Nat} {dvs : List Value} {dfl : List D} {dV : List V}
theorem run_p {pins : List (Addr × Obj)} {σ : L2.St} {H : Hp} {s : Shared} {Q : VK} {us ws : List Value} {vs zs : List V} {ds xs : List D} {w : Vw} {Hd : HH} (ok : Okx X G W) (C : Callee X G k x f fd ps F dfl dV dvs) (hr : Room k X.A) (hb : KBd X.K fd ps n ks pm dvs)
    (I : L2.Inv X pins σ H s) (r : Vals vs us) (rz : Vals zs ws) (l1 : us.length = n) (l2 : ws.length = ks.length) (rel : Rel G w Hd H) (rd : RepVs G w H ds vs) (rx : RepVs G w H xs zs)
    (h : Post (RepV G) G w H (pcallF F dfl pm ds xs Hd) (wat W σ) Q) : wpAny (model X.prog X.w) X.A (call (.ref f) us (ks.zip ws)) (L2.EP X pins σ Q) X.xe s := by
  unfold pcallF at h
  cases hl : permL (ds ++ xs ++ dfl) pm with
  | none => rw [hl] at h; exact h.elim
  | some l =>
    rw [hl] at h
    obtain ⟨hn, h2⟩ := pure_post rel h
    obtain ⟨zz, hz, hzl, hbd⟩ := hb s us ws I.kIn l1 l2
    obtain ⟨m, hm, rm⟩ := ((rd.append rx).append (C.dr w H)).perm hl
    have va : Vals (vs ++ zs ++ dV) (us ++ ws ++ dvs) := (r.append rz).append C.dv
    obtain ⟨m', hm', vm⟩ := permL_pair (F := L2.RelV) va hm
    rw [hz] at hm'
    cases hm'
    refine wpAny_call (codeAny_mono (C.fn X.A X.stack s H ⟨us, ks.zip ws⟩ zz m l w.nil [] Q (wat W σ) hr ok.gd I.env0 hbd vm hzl (rel_nil rel) (rm.out hn) h2) fun rr s' hq => ?_)
    cases rr with
    | error e => exact passAt ok.tk σ pins H s e s' I hq
    | ok fl => cases fl with
      | ret u => exact I.after hq
      | _ => exact False.elim hq
theorem pcall_tail (ok : Okx X G W) (C : Callee X G k x f fd ps F dfl dV dvs) (hr : Room k X.A) (hb : KBd X.K fd ps n ks pm dvs)
    (hk : PK X kws (tDA G W fz)) (l2 : ∀ s H ds H1, fz s H = .ok ds H1 → ds.length = ks.length)
    {pins : List (Addr × Obj)} {σ : L2.St} {sd : Sd} {Q : VK} {ds : List D} {vs : List V} {us : List Value} {Hd1 : HH} {w1 : Vw} {H1 : Hp} {s1 : Shared} (hl : us.length = n) (rel1 : Rel G w1 Hd1 H1) (rs1 : RepS G w1 H1 sd σ) (r1 : RepVs G w1 H1 ds vs)
    (I1 : L2.Inv X pins σ H1 s1) (v1 : Vals vs us) (p1 : Post (RepV G) G w1 H1 ((fz sd Hd1).bind fun zs H2 => pcallF F dfl pm ds zs H2) (wat W σ) Q) :
    wpAny (model X.prog X.w) X.A (evalAll ((backToKw pos (keywordEach kws X.env)).map (·.2))) (fun ws s2 => X.K.In s2.heap ∧ wpAny (model X.prog X.w) X.A (call (.ref f) us (ks.zip ws)) (L2.EP X pins σ Q) X.xe s2) X.xe s1 := by
  have z : tDA G W fz σ H1 (fun zs H2 => zs.length = ks.length ∧ ∃ w2 Hd2 xs, Ext w1 w2 H1 H2 ∧ Rel G w2 Hd2 H2 ∧ RepVs G w2 H2 xs zs ∧ Post (RepV G) G w2 H2 (pcallF F dfl pm ds xs Hd2) (wat W σ) Q) :=
    seqQ rel1 rs1 p1 fun xs Hd2 w2 H2 zs e e2 rel2 rs2 r2 p2 => ⟨by rw [← r2.length]; exact l2 _ _ _ _ e, w2, Hd2, xs, e2, rel2, r2, p2⟩
  refine thn (hk.run pos pins s1 σ H1 _ I1 z) fun ws s2 ⟨zs, H2, I2, r2, hlz, w2, Hd2, xs, e2, rel2, rx, p2⟩ => ⟨I2.kIn, ?_⟩
  exact run_p ok C hr hb I2 v1 r2 hl (kw_len r2 hlz) rel2 (r1.ext e2) rx p2
theorem d_pcallG (ok : Okx X G W) (C : Callee X G k x f fd ps F dfl dV dvs) (hr : Room k X.A) (hg : Gl X x) (hb : KBd X.K fd ps n ks pm dvs) (hs : es.all notStar = true)
    (ha : PA X es (tDA G W fs)) (hk : PK X kws (tDA G W fz)) (hn : kws.map (·.arg) = ks.map some)
    (l1 : ∀ s H ds H1, fs s H = .ok ds H1 → ds.length = n) (l2 : ∀ s H ds H1, fz s H = .ok ds H1 → ds.length = ks.length)
    (e1 : es = [] → ∀ s H, fs s H = .ok [] H) (e2 : kws = [] → ∀ s H, fz s H = .ok [] H) :
    PE X (.Call (.Name x p) es kws pos) (tD G W fun s H => (fs s H).bind fun ds H1 => (fz s H1).bind fun zs H2 => pcallF F dfl pm ds zs H2) := by
  refine ⟨fun pins s σ H Q I h => ?_⟩
  obtain ⟨w, Hd, sd, rel, rs, q⟩ := h
  refine wpAny_Call_Name_kw (ld_glob I hg C.mg ?_ C.nd)
  obtain ⟨n1, n2, n3⟩ := kw_names (pos := pos) (env := X.env) hn
  cases es with
  | nil =>
    have q' : Post (RepV G) G w H ((fz sd Hd).bind fun zs H2 => pcallF F dfl pm [] zs H2) (wat W σ) Q := by
      have z : fs sd Hd = .ok [] Hd := e1 rfl sd Hd
      dsimp only at q
      rw [z] at q
      exact q
    have hn0 : n = 0 := (l1 sd Hd [] Hd (e1 rfl sd Hd)).symm
    cases kws with
    | nil =>
      have ek : ks = [] := by
        cases ks with
        | nil => rfl
        | cons => cases hn
      subst ek
      have z : fz sd Hd = .ok [] Hd := e2 rfl sd Hd
      rw [z] at q'
      exact PySem.W.callWith_K0 I.kIn C.kp (run_p (ks := []) (ws := []) (us := []) (vs := []) (ds := []) ok C hr hb I .nil .nil hn0.symm rfl rel .nil .nil q')
    | cons kwd kws =>
      refine PySem.W.callWith_KW0 (h₀ := X.base) I.ok.mod.kin C.kp n1 ?_ (by show (false || _) = false; rw [n3] <;> rfl)
      rw [n2]
      exact pcall_tail (us := []) (vs := []) (ds := []) ok C hr hb hk l2 hn0.symm rel rs .nil I .nil q'
  | cons e es =>
    have hs' := hs
    rw [List.all_cons, Bool.and_eq_true] at hs'
    have z : tDA G W fs σ H (fun vs H1 => vs.length = n ∧ ∃ w1 Hd1 ds, Rel G w1 Hd1 H1 ∧ RepS G w1 H1 sd σ ∧ RepVs G w1 H1 ds vs ∧ Post (RepV G) G w1 H1 ((fz sd Hd1).bind fun zs H2 => pcallF F dfl pm ds zs H2) (wat W σ) Q) :=
      seqQ rel rs q fun xs Hd2 w2 H2 zs e e2 rel2 rs2 r2 p2 => ⟨by rw [← r2.length]; exact l1 _ _ _ _ e, w2, Hd2, xs, rel2, rs2, r2, p2⟩
    cases kws with
    | nil =>
      have ek : ks = [] := by
        cases ks with
        | nil => rfl
        | cons => cases hn
      subst ek
      refine PySem.W.callWith_K (h₀ := X.base) I.ok.mod.kin C.kp (thn (ha.run pos pins s σ H _ I z) fun us s1 ⟨vs, H1, I1, r, hl, w1, Hd1, ds, rel1, rs1, r1, p1⟩ => ⟨I1.kIn, ?_⟩) (star_cons hs'.1) (star_plain hs'.2)
      have z : fz sd Hd1 = .ok [] Hd1 := e2 rfl sd Hd1
      rw [z] at p1
      exact run_p (ks := []) (ws := []) ok C hr hb I1 r .nil (r.length.symm.trans hl) rfl rel1 r1 .nil p1
    | cons kwd kws =>
      refine PySem.W.callWith_KW (h₀ := X.base) I.ok.mod.kin C.kp n1 (thn (ha.run pos pins s σ H _ I z) fun us s1 ⟨vs, H1, I1, r, hl, w1, Hd1, ds, rel1, rs1, r1, p1⟩ => ?_) (by
        rw [star_cons hs'.1]
        show ((false || (backTo pos (starEach es X.env)).any (·.1)) || _) = false
        rw [star_plain hs'.2, n3] <;> rfl) (star_cons hs'.1)
      rw [n2]
      exact pcall_tail ok C hr hb hk l2 (r.length.symm.trans hl) rel1 rs1 r1 I1 r p1
end
end DI
namespace DI
open PySem PySem.Spec PyProof.Rows L2
mutual
theorem same_eq : ∀ (a b : D), same a b = true → a = b
  | .non, b, h => by cases b <;> simp [same] at h <;> rfl
  | .bl x, b, h => by cases b <;> simp [same] at h; rw [h]
  | .int x, b, h => by cases b <;> simp [same] at h; rw [h]
  | .str x, b, h => by cases b <;> simp [same] at h; rw [h]
  | .tup xs, b, h => by cases b <;> simp only [same, Bool.false_eq_true] at h; rw [sames_eq _ _ h]
  | .lv xs, b, h => by cases b <;> simp only [same, Bool.false_eq_true] at h; rw [sames_eq _ _ h]
  | .fz xs, b, h => by cases b <;> simp only [same, Bool.false_eq_true] at h; rw [sames_eq _ _ h]
  | .dv ks vs, b, h => by
    cases b <;> simp only [same, Bool.false_eq_true, Bool.and_eq_true] at h
    rw [sames_eq _ _ h.1, sames_eq _ _ h.2]
  | .sv xs, b, h => by cases b <;> simp only [same, Bool.false_eq_true] at h; rw [sames_eq _ _ h]
  | .ref n, b, h => by cases b <;> simp [same] at h; rw [h]
  | .cls n, b, h => by cases b <;> simp [same] at h; rw [h]
  | .ty n, b, h => by cases b <;> simp [same] at h; rw [h]
theorem sames_eq : ∀ (a b : List D), sames a b = true → a = b
  | [], [], _ => rfl
  | [], _ :: _, h => by simp [sames] at h
  | _ :: _, [], h => by simp [sames] at h
  | a :: as, b :: bs, h => by
    simp only [sames, Bool.and_eq_true] at h
    rw [same_eq a b h.1, sames_eq as bs h.2]
end
mutual
theorem same_refl : ∀ a : D, same a a = true
  | .non => rfl
  | .bl x => by simp [same]
  | .int x => by simp [same]
  | .str x => by simp [same]
  | .tup xs => by simp only [same]; exact sames_refl xs
  | .lv xs => by simp only [same]; exact sames_refl xs
  | .fz xs => by simp only [same]; exact sames_refl xs
  | .dv ks vs => by simp only [same, sames_refl ks, sames_refl vs, Bool.and_self]
  | .sv xs => by simp only [same]; exact sames_refl xs
  | .ref n => by simp [same]
  | .cls n => by simp [same]
  | .ty n => by simp [same]
theorem sames_refl : ∀ a : List D, sames a a = true
  | [] => rfl
  | a :: as => by simp only [sames, same_refl a, sames_refl as, Bool.and_self]
end
theorem wipe_at (s : L2.St) (vs : List Nat) (j : Nat) : (L2.wipe s vs)[j]? = if j ∈ vs then (s[j]?).map (fun _ => none) else s[j]? := by
  induction vs with
  | nil => simp [L2.wipe]
  | cons v vs ih =>
    unfold L2.wipe
    rw [List.getElem?_set]
    by_cases h : v = j
    · subst h
      rw [if_pos rfl, if_pos List.mem_cons_self, L2.wipe_length]
      by_cases hl : v < s.length
      · rw [if_pos hl, List.getElem?_eq_getElem hl] <;> rfl
      · rw [if_neg hl, List.getElem?_eq_none (by omega)] <;> rfl
    · rw [if_neg h, ih]
      by_cases hm : j ∈ vs
      · rw [if_pos hm, if_pos (List.mem_cons_of_mem _ hm)]
      · rw [if_neg hm, if_neg (by simp only [List.mem_cons, not_or]; exact ⟨fun e => h e.symm, hm⟩)]
/-- but for the places vs the same -/
def Onl (s s' : L2.St) (vs : List Nat) : Prop := s'.length = s.length ∧ ∀ j, j ∉ vs → s'[j]? = s[j]?
theorem Onl.wipe {s s' : L2.St} {vs us : List Nat} (h : Onl s s' vs) (m : ∀ i ∈ vs, i ∈ us) : L2.wipe s' us = L2.wipe s us := by
  apply List.ext_getElem?
  intro j
  rw [wipe_at, wipe_at]
  by_cases hj : j ∈ us
  · rw [if_pos hj, if_pos hj]
    by_cases hl : j < s.length
    · rw [List.getElem?_eq_getElem hl, List.getElem?_eq_getElem (by rw [h.1]; exact hl)] <;> rfl
    · have := h.1
      rw [List.getElem?_eq_none (by omega), List.getElem?_eq_none (by omega)]
  · rw [if_neg hj, if_neg hj]
    exact h.2 j fun z => hj (m j z)
theorem wipe_idem (s : L2.St) (vs : List Nat) : L2.wipe (L2.wipe s vs) vs = L2.wipe s vs := by
  apply List.ext_getElem?
  intro j
  rw [wipe_at, wipe_at]
  by_cases hj : j ∈ vs
  · rw [if_pos hj, if_pos hj]
    cases s[j]? <;> rfl
  · rw [if_neg hj]
end DI
namespace DI
open PySem PySem.Spec PyProof.Rows L2
section
variable {prog : Program} {w : World} {A : Around} {E : Value → Shared → Prop} {s : Shared} {p : Addr} {xs : Array Value} {n j : Nat} {Q : List Value → Shared → Prop}
/-- the part of xs that the starred target takes, at j of n targets -/
def mids (l : List Value) (n j : Nat) : List Value := (l.drop j).take (l.length + 1 - n)
def lasts (l : List Value) (n j : Nat) : List Value := (l.drop j).drop (l.length + 1 - n)
theorem star_fin {it : Addr} {h1 : Heap} (hj : j < n) (hn : n ≤ xs.size + 1) (hz : xs.size ≤ sizeLine)
    (col : ∀ R : List Value → Shared → Prop, (∀ h2 tk, Heap.ExtBut s.heap.objs.size s.heap h2 → R (xs.toList.drop j) { s with heap := h2, toks := tk }) → wpAny (model prog w) A (collect (.ref it)) R E { s with heap := h1 })
    (h : ∀ h2 tk, Heap.ExtBut s.heap.objs.size s.heap h2 → Q (xs.toList.take j ++ [.ref h2.objs.size] ++ lasts xs.toList n j) { s with heap := h2.push { cls := .type "list", data := .seq (mids xs.toList n j).toArray }, toks := tk }) :
    wpAny (model prog w) A (do
      let rest ← holding (xs.toList.take j) (collect (.ref it))
      let after := n - 1 - j
      if rest.length < after then
        rule "unpack.star.too-few"
        raiseError "ValueError" s!"not enough values to unpack (expected at least {n - 1}, got {j + rest.length})"
      let mid := rest.length - after
      return xs.toList.take j ++ [← newList (rest.take mid)] ++ rest.drop mid) Q E { s with heap := h1 } := by
  refine wpAny_bind (wpAny_holding (col _ fun h2 tk he => ?_))
  have l1 : (xs.toList.drop j).length = xs.size - j := by rw [List.length_drop, Array.length_toList]
  have l2 : (xs.toList.drop j).length - (n - 1 - j) = xs.toList.length + 1 - n := by rw [l1, Array.length_toList]; omega
  dsimp only
  rw [if_neg (by rw [l1]; omega), l2]
  refine wpAny_bind (wpAny_newList (wpAny_pure (h h2 tk he)) (by
    show ((xs.toList.drop j).take (xs.toList.length + 1 - n)).length ≤ sizeLine
    rw [List.length_take, l1]; omega))
theorem star_tup (hh : A.handled = none) (ht : IsTup s.heap p xs) (hj : j < n) (hn : n ≤ xs.size + 1) (hz : xs.size ≤ sizeLine)
    (h : ∀ h2 tk, Heap.ExtBut s.heap.objs.size s.heap h2 → Q (xs.toList.take j ++ [.ref h2.objs.size] ++ lasts xs.toList n j) { s with heap := h2.push { cls := .type "list", data := .seq (mids xs.toList n j).toArray }, toks := tk }) :
    wpAny (model prog w) A (unpackItems (.ref p) n (some j)) Q E s := by
  have ne : p ≠ s.heap.objs.size := by obtain ⟨o, e, _⟩ := ht; exact Nat.ne_of_lt (Heap.lt_size e)
  unfold unpackItems
  refine wpAny_bind ?_
  unfold notIterableAtAll
  refine wpAny_bind (wpAny_specialOf ht.typeIs F.slot_tuple_iter.lookup (wpAny_pure ?_))
  simp only [Bool.false_eq_true, if_false]
  refine wpAny_bind (wpAny_holding (iter_tuple ht ?_))
  refine wpAny_bind (wpAny_holding (draw_tuple ne j 0 _ _ ⟨_, Heap.get?_push_size _ rfl, rfl, rfl⟩ (ht.push _) (by omega) fun h1 it1 sb1 => ?_))
  have t1 : IsTup h1 p xs := (ht.push _).extBut sb1.extBut ne
  rw [Nat.zero_add] at it1
  rw [List.drop_zero, if_neg (show ¬ ((xs.toList.take j).length < j) by rw [List.length_take, Array.length_toList]; omega)]
  have a1 : s.heap.objs.size < h1.objs.size := by obtain ⟨o, e, _⟩ := it1; exact Heap.lt_size e
  have a2 : p < h1.objs.size := by obtain ⟨o, e, _⟩ := t1; exact Heap.lt_size e
  refine star_fin (s := s) hj hn hz (fun R hR => ?_) h
  exact PySem.W.kun_collect (s := { s with heap := h1 }) (T := "tuple_iterator") (.inr (.inr (.inr rfl))) (Walks.tuple (A := A.in1) hh _ p ne xs) (fun i u st => st.1.typeIs) (k := j) (by omega) ⟨it1, t1⟩ a1 a2
    (fun h2 tk hk => hR h2 tk fun b o hb e => hk b o hb (sb1.extBut b o hb (Heap.get?_push_of_some _ e))) hz
theorem star_lst (hh : A.handled = none) (ht : s.heap.IsList p xs) (hj : j < n) (hn : n ≤ xs.size + 1) (hz : xs.size ≤ sizeLine)
    (h : ∀ h2 tk, Heap.ExtBut s.heap.objs.size s.heap h2 → Q (xs.toList.take j ++ [.ref h2.objs.size] ++ lasts xs.toList n j) { s with heap := h2.push { cls := .type "list", data := .seq (mids xs.toList n j).toArray }, toks := tk }) :
    wpAny (model prog w) A (unpackItems (.ref p) n (some j)) Q E s := by
  have ne : p ≠ s.heap.objs.size := by obtain ⟨o, e, _⟩ := ht; exact Nat.ne_of_lt (Heap.lt_size e)
  unfold unpackItems
  refine wpAny_bind ?_
  unfold notIterableAtAll
  refine wpAny_bind (wpAny_specialOf ht.typeIs F.slot_list_iter.lookup (wpAny_pure ?_))
  simp only [Bool.false_eq_true, if_false]
  refine wpAny_bind (wpAny_holding (wpAny_pyIter_list ht ?_))
  refine wpAny_bind (wpAny_holding (PySem.W.kun_draw ne j 0 _ _ ⟨_, Heap.get?_push_size _ rfl, rfl, rfl⟩ (ht.push _) (by omega) fun h1 it1 sb1 => ?_))
  have t1 : h1.IsList p xs := (ht.push _).extBut sb1.extBut ne
  rw [Nat.zero_add] at it1
  rw [List.drop_zero, if_neg (show ¬ ((xs.toList.take j).length < j) by rw [List.length_take, Array.length_toList]; omega)]
  have a1 : s.heap.objs.size < h1.objs.size := by obtain ⟨o, e, _⟩ := it1; exact Heap.lt_size e
  have a2 : p < h1.objs.size := by obtain ⟨o, e, _⟩ := t1; exact Heap.lt_size e
  refine star_fin (s := s) hj hn hz (fun R hR => ?_) h
  exact PySem.W.kun_collect (s := { s with heap := h1 }) (T := "list_iterator") (.inr (.inr (.inl rfl))) (Walks.list (A := A.in1) hh _ p ne xs) (fun i u st => st.1.typeIs) (k := j) (by omega) ⟨it1, t1⟩ a1 a2
    (fun h2 tk hk => hR h2 tk fun b o hb e => hk b o hb (sb1.extBut b o hb (Heap.get?_push_of_some _ e))) hz
end
/-- (a, *b, ..) = a tuple, a list -/
def gStar (K : PySem.W.Frag) (n j : Nat) (t : TGs) : TG := fun v σ H Q => ∃ a xs, v = .ref a ∧ (SqT K H a xs ∨ SqL K H a xs) ∧ n ≤ xs.length + 1 ∧
  ∀ D, H D = none → t (xs.take j ++ [.ref D] ++ (xs.drop j).drop (xs.length + 1 - n)) σ (upd H D (.lst ((xs.drop j).take (xs.length + 1 - n)))) Q
section
variable {X : Cx} {pos : Pos}
theorem vals_take {xs : List V} {us : List Value} (h : L2.Vals xs us) (k : Nat) : L2.Vals (xs.take k) (us.take k) := by
  induction h generalizing k with
  | nil => cases k <;> exact .nil
  | cons r t ih =>
    cases k with
    | zero => exact .nil
    | succ k => exact .cons r (ih k)
theorem pg_star {es : List Expr} {k : Nat} {t : TGs} {n j : Nat} (hc : X.calm = true) (h : PGs X es t) (hn : (assignEach es X.env).length = n) (hst : (assignEach es X.env).findIdx? (·.1) = some j) (hj : j < n) : PG X (.Tuple es k pos) (gStar X.K n j t) := by
  refine ⟨fun pins s σ H v u Q I r hw => ?_⟩
  obtain ⟨a, xs, rfl, hq, hl, hw⟩ := hw
  cases r
  have fin : ∀ (its : List Value), L2.Vals xs its → xs.length ≤ sizeLine → ∀ h2 tk, Heap.ExtBut s.heap.objs.size s.heap h2 → wpAny (model X.prog X.w) X.A (assignInOrder ((assignEach es X.env).map (·.2)) (its.take j ++ [.ref h2.objs.size] ++ lasts its n j))
      (fun _ s' => ∃ σ' H', L2.Inv X pins σ' H' s' ∧ Q σ' H') X.xe { s with heap := h2.push { cls := .type "list", data := .seq (mids its n j).toArray }, toks := tk } := fun its rv hz h2 tk he => by
    have e := rv.length
    have I1 : L2.Inv X pins σ H { s with heap := h2 } := I.kept (t' := s.toks) fun b o q => he b o (Nat.ne_of_lt (Heap.lt_size q)) q
    have m1 : L2.Vals ((xs.drop j).take (xs.length + 1 - n)) (mids its n j) := by unfold mids; rw [← e]; exact vals_take (rv.drop j) _
    have I2 := I1.lnew (t' := tk) m1 (by rw [List.length_take, List.length_drop]; omega)
    have v1 : L2.Vals (xs.take j ++ [V.ref h2.objs.size] ++ (xs.drop j).drop (xs.length + 1 - n)) (its.take j ++ [Value.ref h2.objs.size] ++ lasts its n j) := by
      unfold lasts
      rw [← e]
      exact ((vals_take rv j).append (.cons (show L2.RelV (V.ref _) (Value.ref _) from rfl) .nil)).append ((rv.drop j).drop _)
    exact h.run pins _ σ _ _ _ Q I2 v1 (hw _ (I1.hok.fresh (Nat.le_refl _)))
  rw [PyProof.Rows.assign_Tuple]
  refine wpAny_bind (wpAny_standAt ?_)
  unfold unpack
  rw [hn, hst]
  rcases hq with hq | hq
  · obtain ⟨its, rv, ht, hz⟩ := I.tuple hq
    exact wpAny_bind (wpAny_holding (star_tup (I.ok.hd hc) ht hj (by simpa [← rv.length] using hl) (by simpa [← rv.length] using hz) (by simpa using fin its rv hz)))
  · obtain ⟨its, rv, pl, hz⟩ := I.list hq
    exact wpAny_bind (wpAny_holding (star_lst (I.ok.hd hc) pl.isList hj (by simpa [← rv.length] using hl) (by simpa [← rv.length] using hz) (by simpa using fin its rv hz)))
theorem pgs_star {e : Expr} {es : List Expr} {t : TG} {u : TGs} {p : Pos} (h1 : PG X e t) (h2 : PGs X es u) : PGs X (.Starred e p :: es) (gCons t u) := by
  refine ⟨fun pins s σ H vs us Q I r h => ?_⟩
  obtain ⟨v, vr, rfl, h⟩ := h
  cases r with
  | cons r rr =>
    exact assignInOrder_cons (thn (h1.run pins s σ H _ _ _ I r h) fun _ s1 ⟨σ1, H1, I1, q1⟩ => h2.run pins s1 σ1 H1 _ _ Q I1 rr q1)
end
mutual
def tP (K : PySem.W.Frag) : T → TG
  | .nm i => gName i
  | .tp ts => match stIx ts with
    | none => fun v s H Q => gTup K (lenTs ts) (tPs K ts) v s H Q ∨ gLst K (lenTs ts) (tPs K ts) v s H Q
    | some j => gStar K (lenTs ts) j (tPs K ts)
def tPs (K : PySem.W.Frag) : Ts → TGs
  | .nil => gNil
  | .cons t r => gCons (tP K t) (tPs K r)
  | .st t r => gCons (tP K t) (tPs K r)
end
theorem PG.or {X : Cx} {e : Expr} {t u : TG} (h1 : PG X e t) (h2 : PG X e u) : PG X e (fun v s H Q => t v s H Q ∨ u v s H Q) :=
  ⟨fun pins s σ H v u Q I r h => h.elim (h1.run pins s σ H v u Q I r) (h2.run pins s σ H v u Q I r)⟩
theorem asTs_len : ∀ (ts : Ts) {ds : List D} {sd sd' : Sd}, stIx ts = none → asTs ts ds sd = some sd' → ds.length = lenTs ts
  | .nil, [], _, _, _, _ => rfl
  | .nil, _ :: _, _, _, _, h => by unfold asTs at h; cases h
  | .cons _ _, [], _, _, _, h => by unfold asTs at h; cases h
  | .st _ _, _, _, _, hs, _ => by cases hs
  | .cons t r, d :: ds, sd, sd', hs, h => by
    unfold asTs at h
    unfold stIx at hs
    cases z : asT t d sd with
    | none => rw [z] at h; cases h
    | some s1 =>
      rw [z] at h
      rw [List.length_cons, asTs_len r (by simpa using hs) h]
      rfl
/-- the starred one as a plain one -/
def flat : Ts → Ts
  | .nil => .nil
  | .cons t r => .cons t (flat r)
  | .st t r => .cons t (flat r)
def spr : Ts → List D → List D
  | .st _ r, xs => .lv (xs.take (xs.length - lenTs r)) :: xs.drop (xs.length - lenTs r)
  | .cons _ r, x :: xs => x :: spr r xs
  | _, xs => xs
theorem flat_no : ∀ ts : Ts, stIx (flat ts) = none
  | .nil => rfl
  | .cons _ r => by simp [flat, stIx, flat_no r]
  | .st _ r => by simp [flat, stIx, flat_no r]
theorem flat_id : ∀ ts : Ts, stIx ts = none → flat ts = ts
  | .nil, _ => rfl
  | .cons t r, h => by
    unfold stIx at h
    rw [flat, flat_id r (by simpa using h)]
  | .st _ _, h => by cases h
theorem flat_sl : ∀ ts : Ts, slTs (flat ts) = slTs ts
  | .nil => rfl
  | .cons t r => by simp only [flat, slTs, flat_sl r]
  | .st t r => by simp only [flat, slTs, flat_sl r]
theorem flat_tPs (K : PySem.W.Frag) : ∀ ts : Ts, tPs K (flat ts) = tPs K ts
  | .nil => rfl
  | .cons t r => by simp only [flat, tPs, flat_tPs K r]
  | .st t r => by simp only [flat, tPs, flat_tPs K r]
theorem as_spr : ∀ (ts : Ts) {ds : List D} {sd sd' : Sd} {j : Nat}, stIx ts = some j → asTs ts ds sd = some sd' → asTs (flat ts) (spr ts ds) sd = some sd' ∧ lenTs ts ≤ ds.length + 1 ∧ j < lenTs ts
  | .nil, _, _, _, _, hs, _ => by cases hs
  | .cons t r, [], sd, sd', j, hs, h => by unfold asTs at h; cases h
  | .cons t r, d :: ds, sd, sd', j, hs, h => by
    unfold asTs at h
    unfold stIx at hs
    cases e : stIx r with
    | none => rw [e] at hs; cases hs
    | some i =>
      rw [e] at hs
      cases hs
      cases z : asT t d sd with
      | none => rw [z] at h; cases h
      | some s1 =>
        rw [z] at h
        obtain ⟨h1, h2, h3⟩ := as_spr r e h
        refine ⟨?_, by simp only [lenTs, List.length_cons]; omega, by simp only [lenTs]; omega⟩
        simp only [flat, spr]
        unfold asTs
        rw [z]
        exact h1
  | .st t r, ds, sd, sd', j, hs, h => by
    cases hs
    unfold asTs at h
    split at h
    · rename_i hc
      refine ⟨?_, by simp only [lenTs]; omega, by simp only [lenTs]; omega⟩
      simp only [flat, spr, flat_id r hc.1]
      unfold asTs
      exact h
    · cases h
section
variable {G : Gr} {w : Vw} {H : Hp} {K : PySem.W.Frag} {Hd : HH}
/-- where the starred one's list lies -/
theorem spr_rep {p : Addr} : ∀ (ts : Ts) {ds : List D} {vs : List V} {j : Nat}, stIx ts = some j → lenTs ts ≤ ds.length + 1 → RepVs G w H ds vs → (∀ m, RepVs G w H m ((vs.drop j).take (vs.length + 1 - lenTs ts)) → RepV G w (upd H p (.lst ((vs.drop j).take (vs.length + 1 - lenTs ts)))) (.lv m) (.ref p)) →
    Ext w w H (upd H p (.lst ((vs.drop j).take (vs.length + 1 - lenTs ts)))) → RepVs G w (upd H p (.lst ((vs.drop j).take (vs.length + 1 - lenTs ts)))) (spr ts ds) (vs.take j ++ [.ref p] ++ (vs.drop j).drop (vs.length + 1 - lenTs ts))
  | .nil, _, _, _, hs, _, _, _, _ => by cases hs
  | .cons t r, [], _, j, hs, hl, h, hm, e => by
    unfold stIx at hs
    cases z : stIx r with
    | none => rw [z] at hs; cases hs
    | some i =>
      exfalso
      have : 0 < lenTs r := by cases r <;> first | (cases z; done) | (simp only [lenTs]; omega)
      simp only [lenTs, List.length_nil] at hl
      omega
  | .cons t r, d :: ds, _, j, hs, hl, .cons (v := v) (vs := vs) h1 h2, hm, e => by
    unfold stIx at hs
    cases z : stIx r with
    | none => rw [z] at hs; cases hs
    | some i =>
      rw [z] at hs
      cases hs
      simp only [lenTs, List.length_cons] at hl hm e ⊢
      have e1 : vs.length + 1 + 1 - (lenTs r + 1) = vs.length + 1 - lenTs r := by omega
      rw [e1] at hm e ⊢
      simp only [List.drop_succ_cons, List.take_succ_cons, List.cons_append] at hm e ⊢
      exact .cons (h1.ext e) (spr_rep r z (by omega) h2 hm e)
  | .st t r, ds, vs, j, hs, hl, h, hm, e => by
    cases hs
    have l := h.length
    simp only [lenTs] at hl hm e ⊢
    have e1 : vs.length + 1 - (lenTs r + 1) = ds.length - lenTs r := by omega
    rw [e1] at hm e ⊢
    simp only [List.drop_zero, List.take_zero, List.nil_append, List.singleton_append] at hm e ⊢
    exact .cons (hm _ (h.take _)) ((h.drop _).ext e)
mutual
theorem pat_ok (hK : G.K = K) (hx : G.exc = none) : ∀ (t : T) {d : D} {v : V} {sd sd' : Sd} {s : L2.St} {H : Hp} {Q : L2.St → Hp → Prop}, Rel G w Hd H → RepV G w H d v → RepS G w H sd s → asT t d sd = some sd' → (∀ H' s', Ext w w H H' → Rel G w Hd H' → RepS G w H' sd' s' → Onl s s' (slT t) → Q s' H') → tP K t v s H Q
  | .nm i, d, v, sd, sd', s, H, Q, rel, rv, rs, e, q => by
    unfold asT at e
    cases e
    unfold tP
    exact q _ _ (Ext.refl _ _) rel (rs.set hx i rv) ⟨by rw [List.length_set], fun j hj => by rw [List.getElem?_set_ne (by intro z; exact hj (by unfold slT; simp [z]))]⟩
  | .tp ts, d, v, sd, sd', s, H, Q, rel, rv, rs, e, q => by
    have go : ∀ {xs : List D} {vs : List V} {a : Addr}, RepVs G w H xs vs → asTs ts xs sd = some sd' → v = .ref a → (SqT K H a vs ∨ SqL K H a vs) → tP K (.tp ts) v s H Q := fun {xs vs a} r e hv hq => by
      unfold tP
      cases hs : stIx ts with
      | none =>
        have z := pats_ok hK hx ts (Q := Q) rel r rs (by rw [flat_id ts hs]; exact e) (fun H' s' a1 a2 a3 b => q H' s' a1 a2 a3 (by unfold slT; exact b))
        have hl : vs.length = lenTs ts := r.length.symm.trans (asTs_len ts hs e)
        rcases hq with hq | hq
        · exact .inl ⟨_, _, hv, hq, hl, z⟩
        · exact .inr ⟨_, _, hv, hq, hl, z⟩
      | some j =>
        obtain ⟨h1, h2, h3⟩ := as_spr ts hs e
        refine ⟨a, vs, hv, hq, by rw [← r.length]; exact h2, fun p hp => ?_⟩
        have e1 := ext_new rel hp (.lst ((vs.drop j).take (vs.length + 1 - lenTs ts)))
        have rr := spr_rep (p := p) ts hs h2 r (fun m hm => new_lv rel hp hm) e1
        exact pats_ok hK hx ts (Q := Q) (rel_new rel hp _) rr (rs.ext e1) h1 (fun H' s' a1 a2 a3 b => q H' s' (e1.trans a1) a2 a3 (by unfold slT; exact b))
    cases rv with
    | tup t r =>
      unfold asT at e
      exact go r e rfl (.inl (hK ▸ t.sq))
    | lv a b r =>
      unfold asT at e
      exact go r e rfl (.inr (SqL.of b))
    | _ => (unfold asT at e; cases e)
theorem pats_ok (hK : G.K = K) (hx : G.exc = none) : ∀ (t : Ts) {d : List D} {v : List V} {sd sd' : Sd} {s : L2.St} {H : Hp} {Q : L2.St → Hp → Prop}, Rel G w Hd H → RepVs G w H d v → RepS G w H sd s → asTs (flat t) d sd = some sd' → (∀ H' s', Ext w w H H' → Rel G w Hd H' → RepS G w H' sd' s' → Onl s s' (slTs t) → Q s' H') → tPs K t v s H Q
  | .nil, _, _, sd, sd', s, H, Q, rel, .nil, rs, e, q => by
    unfold flat asTs at e
    cases e
    unfold tPs
    exact ⟨rfl, q H s (Ext.refl _ _) rel rs ⟨rfl, fun _ _ => rfl⟩⟩
  | .nil, _, _, sd, sd', s, H, Q, rel, .cons _ _, rs, e, q => by unfold flat asTs at e; cases e
  | .cons t r, _, _, sd, sd', s, H, Q, rel, .nil, rs, e, q => by unfold flat asTs at e; cases e
  | .st t r, _, _, sd, sd', s, H, Q, rel, .nil, rs, e, q => by unfold flat asTs at e; cases e
  | .cons t r, d :: ds, _, sd, sd', s, H, Q, rel, .cons rv rr, rs, e, q => by
    unfold flat asTs at e
    cases z : asT t d sd with
    | none => rw [z] at e; cases e
    | some s1 =>
      rw [z] at e
      unfold tPs
      refine ⟨_, _, rfl, pat_ok hK hx t (Q := fun s' H' => tPs K r _ s' H' Q) rel rv rs z fun H1 s' a1 a2 a3 b => ?_⟩
      refine pats_ok hK hx r (Q := Q) a2 (rr.ext a1) a3 e fun H2 s2 c1 c2 c3 b2 => q H2 s2 (a1.trans c1) c2 c3 ⟨b2.1.trans b.1, fun j hj => ?_⟩
      unfold slTs at hj
      rw [List.mem_append, not_or] at hj
      exact (b2.2 j hj.2).trans (b.2 j hj.1)
  | .st t r, d :: ds, _, sd, sd', s, H, Q, rel, .cons rv rr, rs, e, q => by
    unfold flat asTs at e
    cases z : asT t d sd with
    | none => rw [z] at e; cases e
    | some s1 =>
      rw [z] at e
      unfold tPs
      refine ⟨_, _, rfl, pat_ok hK hx t (Q := fun s' H' => tPs K r _ s' H' Q) rel rv rs z fun H1 s' a1 a2 a3 b => ?_⟩
      refine pats_ok hK hx r (Q := Q) a2 (rr.ext a1) a3 e fun H2 s2 c1 c2 c3 b2 => q H2 s2 (a1.trans c1) c2 c3 ⟨b2.1.trans b.1, fun j hj => ?_⟩
      unfold slTs at hj
      rw [List.mem_append, not_or] at hj
      exact (b2.2 j hj.2).trans (b.2 j hj.1)
end
/-- a list, live or not, taken apart -/
theorem upk_ok (hK : G.K = K) (hx : G.exc = none) (ts : Ts) {xs : List D} {vs : List V} {a : Addr} {sd sd' : Sd} {s : L2.St} {H : Hp} {Q : L2.St → Hp → Prop} (rel : Rel G w Hd H) (r : RepVs G w H xs vs) (rs : RepS G w H sd s) (e : asTs ts xs sd = some sd') (hq : SqL K H a vs)
    (q : ∀ H' s', Ext w w H H' → Rel G w Hd H' → RepS G w H' sd' s' → Q s' H') : tP K (.tp ts) (.ref a) s H Q := by
  unfold tP
  cases hs : stIx ts with
  | none =>
    have z := pats_ok hK hx ts (Q := Q) rel r rs (by rw [flat_id ts hs]; exact e) (fun H' s' a1 a2 a3 _ => q H' s' a1 a2 a3)
    exact .inr ⟨_, _, rfl, hq, r.length.symm.trans (asTs_len ts hs e), z⟩
  | some j =>
    obtain ⟨h1, h2, h3⟩ := as_spr ts hs e
    refine ⟨a, vs, rfl, .inr hq, by rw [← r.length]; exact h2, fun p hp => ?_⟩
    have e1 := ext_new rel hp (.lst ((vs.drop j).take (vs.length + 1 - lenTs ts)))
    have rr := spr_rep (p := p) ts hs h2 r (fun m hm => new_lv rel hp hm) e1
    exact pats_ok hK hx ts (Q := Q) (rel_new rel hp _) rr (rs.ext e1) h1 (fun H' s' a1 a2 a3 _ => q H' s' (e1.trans a1) a2 a3)
end
end DI
namespace DI
open PySem PySem.Spec PyProof.Rows L2
/-- the signs of x, each in a new pair with its number -/
def Ites (x : Str) : It :=
  ⟨fun i _ => i < x.cps.size, fun i H v H' => ∃ T c, v = .ref T ∧ H T = none ∧ H' = upd H T (.tup [.int (i : Nat), .str ⟨#[c]⟩]) ∧ x.cps[i]? = some c, fun i _ => x.cps.size ≤ i⟩
def EsSt (x : Str) (t : Tok) (e it : Addr) (i : Nat) (h : Heap) : Prop := (∃ old, IsEnum h e it ((i : Nat) : Int) old) ∧ h.IsStrIter it (strIterType x) x t i ∧ e ≠ it ∧ i ≤ x.cps.size
theorem turn_enumS {P : Program} {w : World} {K : PySem.W.Frag} {elts : List Expr} {kk : Nat} {tpos : Pos} (x : Str) (t : Tok) (e it : Addr) :
    Turn P w K (.Tuple elts kk tpos) (Ites x) [e, it] e (EsSt x t e it) where
  mem := by simp
  obj := fun i h st b hb => by
    obtain ⟨⟨old, he⟩, ⟨o, ho, hc, hd⟩, _⟩ := st
    have e' : b = e ∨ b = it := by simpa using hb
    rcases e' with z | z
    · rw [z]; exact ⟨_, he, fun v q => nomatch q⟩
    · rw [z]; exact ⟨o, ho, fun v q => by rw [hd] at q; cases q⟩
  keep := fun i h h' st k => let ⟨⟨old, he⟩, hi, hne, hle⟩ := st; ⟨⟨old, k e (by simp) _ he⟩, let ⟨o, q, r⟩ := hi; ⟨o, k it (by simp) o q, r⟩, hne, hle⟩
  item := by
    intro X hP hw hK hc i pins s σ H E I hf st hg
    subst hP hw hK
    obtain ⟨⟨old, he⟩, hit, hne, hle⟩ := st
    have hlt : i < x.cps.size := hg
    have hel : e < s.heap.objs.size := Heap.lt_size he
    have hil : it < s.heap.objs.size := by obtain ⟨_, q, _⟩ := hit; exact Heap.lt_size q
    refine wpAny_pyNext_enum_itemD (Draws.text (A := X.A.in1) (I.ok.hd hc) it x t) he hit hlt hne (by simpa using hne) fun y h' tk hP ho hit' hT hsz hk => ?_
    obtain ⟨c, u, hcx, rfl⟩ := hP
    refine ⟨_, rfl, wpAny_letOwnedTupleGo_enum (s := { s with heap := h', toks := tk + 1 }) ho fun h'' he' sb => ?_⟩
    have hT2 : h''.get? s.heap.objs.size = some { cls := .type "tuple", data := .seq #[.int i tk, .str ⟨#[c]⟩ u] } := (sb.2 _ (Nat.ne_of_gt hel)).trans hT
    have new : ObjOk X.prog X.w (upd H s.heap.objs.size (.tup [.int (i : Nat), .str ⟨#[c]⟩])) h'' s.heap.objs.size (.tup [.int (i : Nat), .str ⟨#[c]⟩]) :=
      ⟨by show 2 ≤ sizeLine; decide, [.int i tk, .str ⟨#[c]⟩ u], .cons ⟨_, rfl⟩ (.cons ⟨u, rfl⟩ .nil), ⟨_, hT2, rfl, _, rfl⟩⟩
    have I1 : Inv X pins σ (upd H s.heap.objs.size (.tup [.int (i : Nat), .str ⟨#[c]⟩])) { s with heap := h'', toks := tk + 1 } :=
      I.turnedNew (ch := [e, it]) (fun b ob hb q => (sb.2 b (fun z => hb (by simp [z]))).trans (hk b ob (fun z => hb (by simp [z])) (fun z => hb (by simp [z])) q)) hf (Nat.le_refl _) new
    refine ⟨.ref s.heap.objs.size, _, I1, rfl, ⟨_, c, rfl, I.hok.fresh (Nat.le_refl _), rfl, hcx⟩, ⟨⟨.str ⟨#[c]⟩ u, ?_⟩, let ⟨o, q, r⟩ := hit'; ⟨o, (sb.2 it (Ne.symm hne)).trans q, r⟩, hne, hlt⟩, fun b hb => ?_⟩
    · have e1 : ((i + 1 : Nat) : Int) = (i : Int) + 1 := by omega
      rw [e1]; exact he'
    · have hb' : b < s.heap.objs.size := by
        have e' : b = e ∨ b = it := by simpa using hb
        rcases e' with z | z
        · rw [z]; exact hel
        · rw [z]; exact hil
      rw [upd_ne (Nat.ne_of_lt hb')]
      exact (hf b hb).1
  done := by
    intro X hP hw hK hc i pins s σ H E I hf st hg
    subst hP hw hK
    obtain ⟨⟨old, he⟩, hit, hne, hle⟩ := st
    have hge : x.cps.size ≤ i := hg
    have ei : i = x.cps.size := by omega
    subst ei
    obtain ⟨f0, f1, f2, f3, f4, f5⟩ := hf it (by simp)
    exact wpAny_pyNext_enum_endD (Draws.text (A := X.A.in1) (I.ok.hd hc) it x t) he hit fun h' eb => ⟨rfl, I.turned (t' := s.toks) (fun b o hb q => eb b o hb q) f0 f1 f3 f4 f5⟩
  self := fun A i s Q E st h => let ⟨⟨_, he⟩, _⟩ := st; wpAny_pyIter_enum he h
def iEnum2 (K : PySem.W.Frag) (ta : TA) : TI := fun σ H R => ta σ H fun vs H1 => (∃ a xs, vs = [.ref a] ∧ SqL K H1 a xs ∧ R (Ite K a) H1) ∨ ∃ x, vs = [.str x] ∧ R (Ites x) H1
theorem pi_enum2 {X : Cx} {e : Expr} {ta : TA} {p pos tpos : Pos} {elts : List Expr} {kk : Nat} (hg : Gl X "enumerate") (hm : X.mg "enumerate" = none) (ha : PA X [e] ta) (hs : starEach [e] X.env = [(false, eval e X.env)] := by rfl) :
    PI X (.Tuple elts kk tpos) (.Call (.Name "enumerate" p) [e] [] pos) (iEnum2 X.K ta) := by
  refine ⟨fun pins s σ H R I h => ?_⟩
  refine Call_ (ld_blt I hg hm boot_enumerate (PyProof.Rows.callWith_type1 (thn (ha.run pos pins s σ H _ I h) fun us s1 ⟨vs, H1, I1, r1, q1⟩ => ?_) hs rfl))
  have ground : ∀ b, b ∈ [s1.heap.objs.size + 1, s1.heap.objs.size] → s1.heap.objs.size ≤ b := fun b hb => by
    have e' : b = s1.heap.objs.size + 1 ∨ b = s1.heap.objs.size := by simpa using hb
    rcases e' with z | z
    · rw [z]; exact Nat.le_add_right _ _
    · rw [z]; exact Nat.le_refl _
  rcases q1 with ⟨a, xs, ex, hq, q⟩ | ⟨x, ex, q⟩
  · subst ex
    cases r1 with
    | cons r rr =>
      cases rr
      cases r
      obtain ⟨its, rv, p', hz⟩ := I1.list hq
      refine call_enumerate_list p'.isList fun h' he hit hsz hk => wpAny_pyIter_enum he ?_
      have I2 : Inv X pins σ H1 { s1 with heap := h' } := I1.kept (t' := s1.toks) hk
      exact ⟨s1.heap.objs.size + 1, [s1.heap.objs.size + 1, s1.heap.objs.size], _, _, H1, rfl, I2, turn_enum a (s1.heap.objs.size + 1) s1.heap.objs.size, ⟨⟨.none, he⟩, hit, Nat.succ_ne_self _⟩, fun b hb => I1.fpOk (ground b hb) (I1.hok.fresh (ground b hb)), q⟩
  · subst ex
    cases r1 with
    | cons r rr =>
      cases rr
      obtain ⟨t, rfl⟩ := r
      refine call_enumerate_str fun h' he hit hsz hk => wpAny_pyIter_enum he ?_
      have I2 : Inv X pins σ H1 { s1 with heap := h' } := I1.kept (t' := s1.toks) hk
      exact ⟨s1.heap.objs.size + 1, [s1.heap.objs.size + 1, s1.heap.objs.size], _, _, H1, rfl, I2, turn_enumS x t (s1.heap.objs.size + 1) s1.heap.objs.size, ⟨⟨.none, he⟩, hit, Nat.succ_ne_self _, Nat.zero_le _⟩, fun b hb => I1.fpOk (ground b hb) (I1.hok.fresh (ground b hb)), q⟩
end DI
namespace DI
open PySem PySem.Spec PyProof.Rows L2
open AutoSeq1 (wpAny_loadPart')
theorem Draws_tuple {prog : Program} {w : World} {A : Around} (hh : A.handled = none) (it l : Addr) (hne : l ≠ it) (items : Array Value) :
    Draws prog w A it [it, l] items.size (fun i v => items[i]? = some v) (fun i h => h.IsTupleIter it l i ∧ h.IsTuple l items) where
  live := fun _ _ st => let ⟨o, ho, _⟩ := st.1; ⟨o, ho⟩
  frame := fun _ _ _ st hk => ⟨st.1.at fun o e => hk it (by simp) o e, let ⟨o, ho, r⟩ := st.2; ⟨o, hk l (by simp) o ho, r⟩⟩
  item := fun i s Q E hi st hQ => by
    refine RZ.nextOf_tuple_item st.1 st.2 (x := items[i]) (by simp [hi]) fun h' hit' hs' => ?_
    exact hQ _ h' s.toks (by simp [hi]) ⟨hit', st.2.extBut hs'.extBut hne⟩ hs'
  done := fun s Q E st hE => RZ.nextOf_tuple_end hh st.1 st.2 (by simp) hE
theorem Draws_end {prog : Program} {w : World} {A : Around} (hh : A.handled = none) (it l : Addr) (items : Array Value) (n : Nat) (hn : items[n]? = none) :
    Draws prog w A it [it, l] n (fun _ _ => True) (fun i h => h.IsTupleIter it l i ∧ h.IsTuple l items ∧ i = n) where
  live := fun _ _ st => let ⟨o, ho, _⟩ := st.1; ⟨o, ho⟩
  frame := fun _ _ _ st hk => ⟨st.1.at fun o e => hk it (by simp) o e, (let ⟨o, ho, r⟩ := st.2.1; ⟨o, hk l (by simp) o ho, r⟩), st.2.2⟩
  item := fun i s Q E hi st hQ => absurd st.2.2 (by omega)
  done := fun s Q E st hE => RZ.nextOf_tuple_end hh st.1 st.2.1 hn hE
theorem meets_enumT (l : Addr) (items : Array Value) (n : Nat) (dct : Option Addr) (sl : Array (Option Value)) :
    Meets (Builtin.«enumerate.__new__» ⟨[.type "enumerate", .ref l], []⟩) (fun _ R s => s.heap.get? l = some { cls := .type "tuple", dict := dct, data := .seq items n, slots := sl } ∧
      R (.ok (.ret (.ref (s.heap.push { cls := .type "tuple_iterator", data := .fields #[.ref l, .int 0 0] }).objs.size)))
        { s with heap := (s.heap.push { cls := .type "tuple_iterator", data := .fields #[.ref l, .int 0 0] }).push { cls := .type "enumerate", data := .fields #[.none, .bool false, .ref s.heap.objs.size, rawInt 0, .none, .none] } }) :=
  .of_wp fun prog w A R s h => by
    obtain ⟨hp, g, d, tk, os⟩ := s; obtain ⟨hl, h⟩ := h
    have hsub := sub_enumerate
    have hL : Heap.IsTuple (Shared.heap ⟨hp, g, d, tk, os⟩) l items := ⟨_, hl, rfl, n, rfl⟩
    wp_walk using wpAny_loadPart' hl
    refine wpAny_stack_any fun st => wpAny_pure ?_
    split
    · rename_i c _ _ _ _ _
      cases (c == Value.type "enumerate")
      · wp_walk using wpAny_loadPart' hl, wpAny_pyIter_tuple hL
        exact ⟨_, rfl, h⟩
      · wp_walk using wpAny_loadPart' hl, wpAny_pyIter_tuple hL
        exact ⟨_, rfl, h⟩
    · wp_walk using wpAny_loadPart' hl, wpAny_pyIter_tuple hL
      exact ⟨_, rfl, h⟩
section
variable {prog : Program} {w : World} {A : Around} {E : Value → Shared → Prop} {s : Shared}
theorem call_enumT {l : Addr} {items : Array Value} {Q : Value → Shared → Prop} (hL : s.heap.IsTuple l items)
    (h : ∀ h', IsEnum h' (s.heap.objs.size + 1) s.heap.objs.size 0 .none → h'.IsTupleIter s.heap.objs.size l 0 → h'.objs.size = s.heap.objs.size + 2 →
      (∀ b o, s.heap.get? b = some o → h'.get? b = some o) → Q (.ref (s.heap.objs.size + 1)) { s with heap := h' }) :
    wpAny (model prog w) A (call (.type "enumerate") [.ref l]) Q E s := by
  obtain ⟨⟨c, dct, dt, sl⟩, hl, hc, n, hd⟩ := hL
  replace hc : c = .type "tuple" := hc
  replace hd : dt = .seq items n := hd
  subst hc hd
  refine callType_new F.called_enumerate (by decide) (F.typeCall_enumerate_1 _) (F.newCall_enumerate_1 _) (fun obj => F.args_object_init_2 obj _) F.entry_enumerate_new
    (meets_enumT l items n dct sl) ⟨hl, ?_⟩
  have hz : (s.heap.push { cls := .type "tuple_iterator", data := .fields #[.ref l, .int 0 0] }).objs.size = s.heap.objs.size + 1 := Heap.size_push ..
  show _ ∧ _
  rw [hz]
  have he : IsEnum ((s.heap.push { cls := .type "tuple_iterator", data := .fields #[.ref l, .int 0 0] }).push
      { cls := .type "enumerate", data := .fields #[.none, .bool false, .ref s.heap.objs.size, rawInt 0, .none, .none] }) (s.heap.objs.size + 1) s.heap.objs.size 0 .none := by
    have := Heap.get?_push_size (s.heap.push { cls := .type "tuple_iterator", data := .fields #[.ref l, .int 0 0] })
      (o := { cls := .type "enumerate", data := .fields #[.none, .bool false, .ref s.heap.objs.size, rawInt 0, .none, .none] }) rfl
    rw [hz] at this; exact this
  refine ⟨⟨_, he, rfl⟩, h _ he ⟨_, Heap.get?_push_of_some _ (Heap.get?_push_size _ rfl), rfl, rfl⟩ (by rw [Heap.size_push, hz]) fun b o x => Heap.get?_push_of_some _ (Heap.get?_push_of_some _ x)⟩
end
/-- the tuple at a as it stands at each turn, each item in a new pair with its number -/
def Itet (K : PySem.W.Frag) (a : Addr) : It :=
  ⟨fun i H => ∃ (xs : List V) (x : V), SqT K H a xs ∧ xs[i]? = some x, fun i H v H' => ∃ T x, v = .ref T ∧ H T = none ∧ H' = upd H T (.tup [.int (i : Nat), x]) ∧ ∀ xs, SqT K H a xs → xs[i]? = some x, fun i H => ∃ xs : List V, SqT K H a xs ∧ xs.length ≤ i⟩
theorem turn_enumT {P : Program} {w : World} {K : PySem.W.Frag} {elts : List Expr} {kk : Nat} {tpos : Pos} (a e it : Addr) :
    Turn P w K (.Tuple elts kk tpos) (Itet K a) [e, it] e (fun i h => (∃ old, IsEnum h e it ((i : Nat) : Int) old) ∧ h.IsTupleIter it a i ∧ e ≠ it ∧ a ≠ it ∧ a ≠ e) where
  mem := by simp
  obj := fun i h st b hb => by
    obtain ⟨⟨old, he⟩, ⟨o, ho, hc, hd⟩, _⟩ := st
    have e' : b = e ∨ b = it := by simpa using hb
    rcases e' with z | z
    · rw [z]; exact ⟨_, he, fun v q => nomatch q⟩
    · rw [z]; exact ⟨o, ho, fun v q => by rw [hd] at q; cases q⟩
  keep := fun i h h' st k => let ⟨⟨old, he⟩, hi, hne⟩ := st; ⟨⟨old, k e (by simp) _ he⟩, hi.at fun o q => k it (by simp) o q, hne⟩
  item := by
    intro X hP hw hK hc i pins s σ H E I hf st hg
    subst hP hw hK
    obtain ⟨⟨old, he⟩, hit, hne, hai, hae⟩ := st
    obtain ⟨xs, x, hq, hx⟩ := hg
    obtain ⟨its, rv, p, hz⟩ := I.tuple hq
    obtain ⟨u, hu, ru⟩ := rv.get hx
    have hel : e < s.heap.objs.size := Heap.lt_size he
    have hil : it < s.heap.objs.size := by obtain ⟨_, q, _⟩ := hit; exact Heap.lt_size q
    have hlt : i < its.toArray.size := by
      have := (List.getElem?_eq_some_iff.mp hu).1
      simpa using this
    refine wpAny_pyNext_enum_itemD (Draws_tuple (A := X.A.in1) (I.ok.hd hc) it a hai its.toArray) he ⟨hit, p⟩ hlt hne (by simp; exact ⟨hne, fun z => hae z.symm⟩) fun y h' tk hP ho hit' hT hsz hk => ?_
    have hy : y = u := by
      have hP : its.toArray[i]? = some y := hP
      have : its[i]? = some y := by simpa using hP
      rw [hu] at this
      exact (Option.some.inj this).symm
    subst hy
    refine ⟨_, rfl, wpAny_letOwnedTupleGo_enum (s := { s with heap := h', toks := tk + 1 }) ho fun h'' he' sb => ?_⟩
    have hT2 : h''.get? s.heap.objs.size = some { cls := .type "tuple", data := .seq #[.int i tk, y] } := (sb.2 _ (Nat.ne_of_gt hel)).trans hT
    have new : ObjOk X.prog X.w (upd H s.heap.objs.size (.tup [.int (i : Nat), x])) h'' s.heap.objs.size (.tup [.int (i : Nat), x]) :=
      ⟨by show 2 ≤ sizeLine; decide, [.int i tk, y], .cons ⟨_, rfl⟩ (.cons ru .nil), ⟨_, hT2, rfl, _, rfl⟩⟩
    have I1 : Inv X pins σ (upd H s.heap.objs.size (.tup [.int (i : Nat), x])) { s with heap := h'', toks := tk + 1 } :=
      I.turnedNew (ch := [e, it]) (fun b ob hb q => (sb.2 b (fun z => hb (by simp [z]))).trans (hk b ob (fun z => hb (by simp [z])) (fun z => hb (by simp [z])) q)) hf (Nat.le_refl _) new
    refine ⟨.ref s.heap.objs.size, _, I1, rfl, ⟨_, x, rfl, I.hok.fresh (Nat.le_refl _), rfl, fun ys hy => by rw [I.tuple_inj hy hq]; exact hx⟩, ⟨⟨y, ?_⟩, hit'.1.at fun o q => (sb.2 it (Ne.symm hne)).trans q, hne, hai, hae⟩, fun b hb => ?_⟩
    · have e1 : ((i + 1 : Nat) : Int) = (i : Int) + 1 := by omega
      rw [e1]; exact he'
    · have hb' : b < s.heap.objs.size := by
        have e' : b = e ∨ b = it := by simpa using hb
        rcases e' with z | z
        · rw [z]; exact hel
        · rw [z]; exact hil
      rw [upd_ne (Nat.ne_of_lt hb')]
      exact (hf b hb).1
  done := by
    intro X hP hw hK hc i pins s σ H E I hf st hg
    subst hP hw hK
    obtain ⟨⟨old, he⟩, hit, hne, hai, hae⟩ := st
    obtain ⟨xs, hq, hx⟩ := hg
    obtain ⟨its, rv, p, hz⟩ := I.tuple hq
    obtain ⟨f0, f1, f2, f3, f4, f5⟩ := hf it (by simp)
    have hl := rv.length
    exact wpAny_pyNext_enum_endD (Draws_end (A := X.A.in1) (I.ok.hd hc) it a its.toArray i (by simp; omega)) he ⟨hit, p, rfl⟩ fun h' eb => ⟨rfl, I.turned (t' := s.toks) (fun b o hb q => eb b o hb q) f0 f1 f3 f4 f5⟩
  self := fun A i s Q E st h => let ⟨⟨_, he⟩, _⟩ := st; wpAny_pyIter_enum he h
def iEnum3 (K : PySem.W.Frag) (ta : TA) : TI := fun σ H R => ta σ H fun vs H1 => (∃ a xs, vs = [.ref a] ∧ SqL K H1 a xs ∧ R (Ite K a) H1) ∨ (∃ x, vs = [.str x] ∧ R (Ites x) H1) ∨ ∃ a xs, vs = [.ref a] ∧ SqT K H1 a xs ∧ R (Itet K a) H1
theorem pi_enum3 {X : Cx} {e : Expr} {ta : TA} {p pos tpos : Pos} {elts : List Expr} {kk : Nat} (hg : Gl X "enumerate") (hm : X.mg "enumerate" = none) (ha : PA X [e] ta) (hs : starEach [e] X.env = [(false, eval e X.env)] := by rfl) :
    PI X (.Tuple elts kk tpos) (.Call (.Name "enumerate" p) [e] [] pos) (iEnum3 X.K ta) := by
  refine ⟨fun pins s σ H R I h => ?_⟩
  refine Call_ (ld_blt I hg hm boot_enumerate (PyProof.Rows.callWith_type1 (thn (ha.run pos pins s σ H _ I h) fun us s1 ⟨vs, H1, I1, r1, q1⟩ => ?_) hs rfl))
  have ground : ∀ b, b ∈ [s1.heap.objs.size + 1, s1.heap.objs.size] → s1.heap.objs.size ≤ b := fun b hb => by
    have e' : b = s1.heap.objs.size + 1 ∨ b = s1.heap.objs.size := by simpa using hb
    rcases e' with z | z
    · rw [z]; exact Nat.le_add_right _ _
    · rw [z]; exact Nat.le_refl _
  rcases q1 with ⟨a, xs, ex, hq, q⟩ | ⟨x, ex, q⟩ | ⟨a, xs, ex, hq, q⟩
  · subst ex
    cases r1 with
    | cons r rr =>
      cases rr
      cases r
      obtain ⟨its, rv, p', hz⟩ := I1.list hq
      refine call_enumerate_list p'.isList fun h' he hit hsz hk => wpAny_pyIter_enum he ?_
      have I2 : Inv X pins σ H1 { s1 with heap := h' } := I1.kept (t' := s1.toks) hk
      exact ⟨s1.heap.objs.size + 1, [s1.heap.objs.size + 1, s1.heap.objs.size], _, _, H1, rfl, I2, turn_enum a (s1.heap.objs.size + 1) s1.heap.objs.size, ⟨⟨.none, he⟩, hit, Nat.succ_ne_self _⟩, fun b hb => I1.fpOk (ground b hb) (I1.hok.fresh (ground b hb)), q⟩
  · subst ex
    cases r1 with
    | cons r rr =>
      cases rr
      obtain ⟨t, rfl⟩ := r
      refine call_enumerate_str fun h' he hit hsz hk => wpAny_pyIter_enum he ?_
      have I2 : Inv X pins σ H1 { s1 with heap := h' } := I1.kept (t' := s1.toks) hk
      exact ⟨s1.heap.objs.size + 1, [s1.heap.objs.size + 1, s1.heap.objs.size], _, _, H1, rfl, I2, turn_enumS x t (s1.heap.objs.size + 1) s1.heap.objs.size, ⟨⟨.none, he⟩, hit, Nat.succ_ne_self _, Nat.zero_le _⟩, fun b hb => I1.fpOk (ground b hb) (I1.hok.fresh (ground b hb)), q⟩
  · subst ex
    cases r1 with
    | cons r rr =>
      cases rr
      cases r
      obtain ⟨its, rv, p', hz⟩ := I1.tuple hq
      have hlt : a < s1.heap.objs.size := by obtain ⟨o, ho, _⟩ := p'; exact Heap.lt_size ho
      refine call_enumT p' fun h' he hit hsz hk => wpAny_pyIter_enum he ?_
      have I2 : Inv X pins σ H1 { s1 with heap := h' } := I1.kept (t' := s1.toks) hk
      exact ⟨s1.heap.objs.size + 1, [s1.heap.objs.size + 1, s1.heap.objs.size], _, _, H1, rfl, I2, turn_enumT a (s1.heap.objs.size + 1) s1.heap.objs.size, ⟨⟨.none, he⟩, hit, Nat.succ_ne_self _, Nat.ne_of_lt hlt, Nat.ne_of_lt (Nat.lt_succ_of_lt hlt)⟩, fun b hb => I1.fpOk (ground b hb) (I1.hok.fresh (ground b hb)), q⟩
end DI
namespace DI
open PySem PySem.Spec PyProof.Rows L2
section
variable {G : Gr} {w w1 w2 : Vw} {H H1 H2 : Hp} {g : Gd} {xs ys : List D} {K : PySem.W.Frag}
/-- what stays while one walks -/
def GdP (G : Gr) (w1 : Vw) (H1 : Hp) (g : Gd) : Hp → Prop := fun H2 => ∃ w2 Hd2, Ext w1 w2 H1 H2 ∧ Rel G w2 Hd2 H2 ∧ gdOk g Hd2 = true
/-- what comes at a turn -/
def YdP (G : Gr) (w1 : Vw) (H1 : Hp) (g : Gd) (xs : List D) : Nat → Hp → V → Hp → Prop := fun i H2 x H3 => ∀ w2 Hd2, Ext w1 w2 H1 H2 → Rel G w2 Hd2 H2 → gdOk g Hd2 = true →
  Ext w2 w2 H2 H3 ∧ Rel G w2 Hd2 H3 ∧ ∃ d, xs[i]? = some d ∧ RepV G w2 H3 d x
def WlkR (G : Gr) : RR (List D × Gd) It := fun w1 H1 p J => Walk J p.1.length (GdP G w1 H1 p.2) (YdP G w1 H1 p.2 p.1)
abbrev tDI (G : Gr) (W : WX) (f : Sd → HH → Rs (List D × Gd)) : TI := tX (WlkR G) G W f
/-- a list, a tuple that is read as xs while the guard holds -/
def LsP (G : Gr) (K : PySem.W.Frag) (w1 : Vw) (H1 : Hp) (g : Gd) (a : Addr) (xs : List D) : Prop := ∀ w2 Hd2 H2, Ext w1 w2 H1 H2 → Rel G w2 Hd2 H2 → gdOk g Hd2 = true → ∃ vs, SqL K H2 a vs ∧ RepVs G w2 H2 xs vs
def TpP (G : Gr) (K : PySem.W.Frag) (w1 : Vw) (H1 : Hp) (g : Gd) (a : Addr) (xs : List D) : Prop := ∀ w2 Hd2 H2, Ext w1 w2 H1 H2 → Rel G w2 Hd2 H2 → gdOk g Hd2 = true → ∃ vs, SqT K H2 a vs ∧ RepVs G w2 H2 xs vs
theorem ls_lv (h : RepV G w1 H1 (.lv xs) (.ref a)) : LsP G K w1 H1 g a xs := by
  cases h with
  | lv h1 h2 h3 => exact fun w2 Hd2 H2 e _ _ => ⟨_, SqL.of (e.keep _ _ (Vw.notO h1) h2), h3.ext e⟩
theorem ls_fz (hK : G.K = K) (h : RepV G w1 H1 (.fz xs) (.ref a)) : LsP G K w1 H1 g a xs := by
  cases h with
  | fz h1 h3 => exact fun w2 Hd2 H2 e _ _ => ⟨_, hK ▸ (h1.ext e).sq, h3.ext e⟩
theorem tp_tup (hK : G.K = K) (h : RepV G w1 H1 (.tup xs) (.ref a)) : TpP G K w1 H1 g a xs := by
  cases h with
  | tup h1 h3 => exact fun w2 Hd2 H2 e _ _ => ⟨_, hK ▸ (h1.ext e).sq, h3.ext e⟩
theorem gd_mem {g : Gd} {Hd : HH} {r : Nat} {xs : List D} (h : gdOk g Hd = true) (m : (r, xs) ∈ g) : Hd[r]? = some (.lst xs) := by
  unfold gdOk at h
  have z := List.all_eq_true.mp h _ m
  dsimp only at z
  split at z
  · rename_i ys e
    rw [e, sames_eq _ _ z]
  · cases z
theorem ls_ref {r : Nat} (hr : r < w1.n) (m : (r, xs) ∈ g) : LsP G K w1 H1 g (w1.mu r) xs := fun w2 Hd2 H2 e rel gd => by
  have z := rel.obj r _ (gd_mem gd m)
  cases z with
  | lst h1 h2 => exact ⟨_, SqL.of (by rw [← e.mu r hr]; exact h1), h2⟩
variable {a b : Addr}
theorem wk_list (h : LsP G K w1 H1 g a xs) : Walk (Itl K a) xs.length (GdP G w1 H1 g) (YdP G w1 H1 g xs) := by
  refine ⟨fun i H2 hi q => ?_, fun H2 q => ?_, fun i H2 x H3 hi q y w2 Hd2 e rel gd => ?_⟩
  · obtain ⟨w2, Hd2, e, rel, gd⟩ := q
    obtain ⟨vs, h1, h2⟩ := h w2 Hd2 H2 e rel gd
    have hl := h2.length
    exact ⟨vs, vs[i], h1, by simp [show i < vs.length by omega]⟩
  · obtain ⟨w2, Hd2, e, rel, gd⟩ := q
    obtain ⟨vs, h1, h2⟩ := h w2 Hd2 H2 e rel gd
    exact ⟨vs, h1, by rw [h2.length]; exact Nat.le_refl _⟩
  · obtain ⟨vs, h1, h2⟩ := h w2 Hd2 H2 e rel gd
    obtain ⟨e3, y⟩ := y
    subst e3
    have hx : xs[i]? = some xs[i] := List.getElem?_eq_getElem hi
    obtain ⟨v, hv, rv⟩ := h2.get hx
    rw [y vs h1] at hv
    cases hv
    exact ⟨Ext.refl _ _, rel, _, hx, rv⟩
theorem wk_tup (h : TpP G K w1 H1 g a xs) : Walk (Itt K a) xs.length (GdP G w1 H1 g) (YdP G w1 H1 g xs) := by
  refine ⟨fun i H2 hi q => ?_, fun H2 q => ?_, fun i H2 x H3 hi q y w2 Hd2 e rel gd => ?_⟩
  · obtain ⟨w2, Hd2, e, rel, gd⟩ := q
    obtain ⟨vs, h1, h2⟩ := h w2 Hd2 H2 e rel gd
    have hl := h2.length
    exact ⟨vs, vs[i], h1, by simp [show i < vs.length by omega]⟩
  · obtain ⟨w2, Hd2, e, rel, gd⟩ := q
    obtain ⟨vs, h1, h2⟩ := h w2 Hd2 H2 e rel gd
    exact ⟨vs, h1, by rw [h2.length]; exact Nat.le_refl _⟩
  · obtain ⟨vs, h1, h2⟩ := h w2 Hd2 H2 e rel gd
    obtain ⟨e3, y⟩ := y
    subst e3
    have hx : xs[i]? = some xs[i] := List.getElem?_eq_getElem hi
    obtain ⟨v, hv, rv⟩ := h2.get hx
    rw [y vs h1] at hv
    cases hv
    exact ⟨Ext.refl _ _, rel, _, hx, rv⟩
theorem wk_str {x : List Nat} : Walk (Its ⟨x.toArray⟩) (x.map fun c => D.str [c]).length (GdP G w1 H1 g) (YdP G w1 H1 g (x.map fun c => D.str [c])) := by
  refine ⟨fun i H2 hi q => ?_, fun H2 q => ?_, fun i H2 v H3 hi q y w2 Hd2 e rel gd => ?_⟩
  · rw [List.length_map] at hi
    show i < x.toArray.size
    simpa using hi
  · show x.toArray.size ≤ _
    simp
  · obtain ⟨e3, c, hc, rfl⟩ := y
    subst e3
    have hc' : x[i]? = some c := by simpa using hc
    exact ⟨Ext.refl _ _, rel, .str [c], by rw [List.getElem?_map, hc'] <;> rfl, .str [c]⟩
theorem wk_range {lo : Int} {n : Nat} : Walk (Itr lo n) ((List.range n).map fun (k : Nat) => D.int (lo + (k : Nat))).length (GdP G w1 H1 g) (YdP G w1 H1 g ((List.range n).map fun (k : Nat) => D.int (lo + (k : Nat)))) := by
  refine ⟨fun i H2 hi q => ?_, fun H2 q => ?_, fun i H2 v H3 hi q y w2 Hd2 e rel gd => ?_⟩
  · show i < n
    simpa using hi
  · show n ≤ _
    simp
  · obtain ⟨e3, rfl⟩ := y
    subst e3
    have hi : i < n := by simpa using hi
    exact ⟨Ext.refl _ _, rel, .int (lo + (i : Nat)), by rw [List.getElem?_map, List.getElem?_range hi] <;> rfl, .int _⟩
theorem wk_pair {J : It} {n : Nat} {zs : List D} (hgo : ∀ i H, i < n → GdP G w1 H1 g H → J.go i H) (hst : ∀ H, GdP G w1 H1 g H → J.stop n H) (hl : zs.length = n)
    (hy : ∀ i H2 v H3 w2 Hd2, i < n → J.yld i H2 v H3 → Ext w1 w2 H1 H2 → Rel G w2 Hd2 H2 → gdOk g Hd2 = true → ∃ T x y d e, v = .ref T ∧ H2 T = none ∧ H3 = upd H2 T (.tup [x, y]) ∧ RepV G w2 H2 d x ∧ RepV G w2 H2 e y ∧ zs[i]? = some (.tup [d, e])) :
    Walk J zs.length (GdP G w1 H1 g) (YdP G w1 H1 g zs) := by
  subst hl
  refine ⟨hgo, hst, fun i H2 v H3 hi q y w2 Hd2 e rel gd => ?_⟩
  obtain ⟨T, x, y', d, e', rfl, hT, rfl, r1, r2, hz⟩ := hy i H2 v H3 w2 Hd2 hi y e rel gd
  exact ⟨ext_new rel hT _, rel_new rel hT _, _, hz, new_tup rel hT (.cons r1 (.cons r2 .nil))⟩
theorem enumD_at {xs : List D} {i : Nat} {d : D} (h : xs[i]? = some d) : (enumD xs)[i]? = some (.tup [.int (i : Nat), d]) := by
  unfold enumD
  rw [List.getElem?_map, List.getElem?_zipIdx, h]
  simp
theorem zipD_at {xs ys : List D} {i : Nat} {d e : D} (h : xs[i]? = some d) (h2 : ys[i]? = some e) : (zipD xs ys)[i]? = some (.tup [d, e]) := by
  unfold zipD
  rw [List.getElem?_map]
  have : (xs.zip ys)[i]? = some (d, e) := List.getElem?_zip_eq_some.mpr ⟨h, h2⟩
  rw [this] <;> rfl
theorem wk_enum (h : LsP G K w1 H1 g a xs) : Walk (Ite K a) (enumD xs).length (GdP G w1 H1 g) (YdP G w1 H1 g (enumD xs)) := by
  refine wk_pair (n := xs.length) (fun i H2 hi q => ?_) (fun H2 q => ?_) (by unfold enumD; simp) fun i H2 v H3 w2 Hd2 hi y e rel gd => ?_
  · obtain ⟨w2, Hd2, e, rel, gd⟩ := q
    obtain ⟨vs, h1, h2⟩ := h w2 Hd2 H2 e rel gd
    have hl := h2.length
    exact ⟨vs, vs[i], h1, by simp [show i < vs.length by omega]⟩
  · obtain ⟨w2, Hd2, e, rel, gd⟩ := q
    obtain ⟨vs, h1, h2⟩ := h w2 Hd2 H2 e rel gd
    exact ⟨vs, h1, by rw [h2.length]; exact Nat.le_refl _⟩
  · obtain ⟨vs, h1, h2⟩ := h w2 Hd2 H2 e rel gd
    obtain ⟨T, x, rfl, hT, rfl, y⟩ := y
    have hx : xs[i]? = some xs[i] := List.getElem?_eq_getElem hi
    obtain ⟨v, hv, rv⟩ := h2.get hx
    rw [y vs h1] at hv
    cases hv
    exact ⟨T, _, _, .int (i : Nat), xs[i], rfl, hT, rfl, .int _, rv, enumD_at hx⟩
theorem wk_enumT (h : TpP G K w1 H1 g a xs) : Walk (Itet K a) (enumD xs).length (GdP G w1 H1 g) (YdP G w1 H1 g (enumD xs)) := by
  refine wk_pair (n := xs.length) (fun i H2 hi q => ?_) (fun H2 q => ?_) (by unfold enumD; simp) fun i H2 v H3 w2 Hd2 hi y e rel gd => ?_
  · obtain ⟨w2, Hd2, e, rel, gd⟩ := q
    obtain ⟨vs, h1, h2⟩ := h w2 Hd2 H2 e rel gd
    have hl := h2.length
    exact ⟨vs, vs[i], h1, by simp [show i < vs.length by omega]⟩
  · obtain ⟨w2, Hd2, e, rel, gd⟩ := q
    obtain ⟨vs, h1, h2⟩ := h w2 Hd2 H2 e rel gd
    exact ⟨vs, h1, by rw [h2.length]; exact Nat.le_refl _⟩
  · obtain ⟨vs, h1, h2⟩ := h w2 Hd2 H2 e rel gd
    obtain ⟨T, x, rfl, hT, rfl, y⟩ := y
    have hx : xs[i]? = some xs[i] := List.getElem?_eq_getElem hi
    obtain ⟨v, hv, rv⟩ := h2.get hx
    rw [y vs h1] at hv
    cases hv
    exact ⟨T, _, _, .int (i : Nat), xs[i], rfl, hT, rfl, .int _, rv, enumD_at hx⟩
theorem wk_enumS {x : List Nat} : Walk (Ites ⟨x.toArray⟩) (enumD (x.map fun c => D.str [c])).length (GdP G w1 H1 g) (YdP G w1 H1 g (enumD (x.map fun c => D.str [c]))) := by
  refine wk_pair (n := x.length) (fun i H2 hi q => ?_) (fun H2 q => ?_) (by unfold enumD; simp) fun i H2 v H3 w2 Hd2 hi y e rel gd => ?_
  · show i < x.toArray.size
    simpa using hi
  · show x.toArray.size ≤ _
    simp
  · obtain ⟨T, c, rfl, hT, rfl, hc⟩ := y
    have hc' : x[i]? = some c := by simpa using hc
    exact ⟨T, _, _, .int (i : Nat), .str [c], rfl, hT, rfl, .int _, .str [c], enumD_at (by rw [List.getElem?_map, hc'] <;> rfl)⟩
theorem wk_zip (h : LsP G K w1 H1 g a xs) (h' : LsP G K w1 H1 g b ys) : Walk (Itz K a b) (zipD xs ys).length (GdP G w1 H1 g) (YdP G w1 H1 g (zipD xs ys)) := by
  refine wk_pair (n := min xs.length ys.length) (fun i H2 hi q => ?_) (fun H2 q => ?_) (by unfold zipD; simp) fun i H2 v H3 w2 Hd2 hi y e rel gd => ?_
  · obtain ⟨w2, Hd2, e, rel, gd⟩ := q
    obtain ⟨vs, h1, h2⟩ := h w2 Hd2 H2 e rel gd
    obtain ⟨us, h1', h2'⟩ := h' w2 Hd2 H2 e rel gd
    have hl := h2.length
    have hl' := h2'.length
    exact ⟨vs, us, vs[i]'(by omega), us[i]'(by omega), h1, h1', by simp [show i < vs.length by omega], by simp [show i < us.length by omega]⟩
  · obtain ⟨w2, Hd2, e, rel, gd⟩ := q
    obtain ⟨vs, h1, h2⟩ := h w2 Hd2 H2 e rel gd
    obtain ⟨us, h1', h2'⟩ := h' w2 Hd2 H2 e rel gd
    have hl := h2.length
    have hl' := h2'.length
    exact ⟨vs, us, h1, h1', by omega⟩
  · obtain ⟨vs, h1, h2⟩ := h w2 Hd2 H2 e rel gd
    obtain ⟨us, h1', h2'⟩ := h' w2 Hd2 H2 e rel gd
    obtain ⟨T, x, z, rfl, hT, rfl, y, y'⟩ := y
    have hx : xs[i]? = some (xs[i]'(by omega)) := List.getElem?_eq_getElem (by omega)
    have hy : ys[i]? = some (ys[i]'(by omega)) := List.getElem?_eq_getElem (by omega)
    obtain ⟨v, hv, rv⟩ := h2.get hx
    obtain ⟨u, hu, ru⟩ := h2'.get hy
    rw [y vs h1] at hv
    rw [y' us h1'] at hu
    cases hv; cases hu
    exact ⟨T, _, _, _, _, rfl, hT, rfl, rv, ru, zipD_at hx hy⟩
theorem wk_zipT (h : TpP G K w1 H1 g a xs) (h' : TpP G K w1 H1 g b ys) : Walk (RZ.ItzT K a b) (zipD xs ys).length (GdP G w1 H1 g) (YdP G w1 H1 g (zipD xs ys)) := by
  refine wk_pair (n := min xs.length ys.length) (fun i H2 hi q => ?_) (fun H2 q => ?_) (by unfold zipD; simp) fun i H2 v H3 w2 Hd2 hi y e rel gd => ?_
  · obtain ⟨w2, Hd2, e, rel, gd⟩ := q
    obtain ⟨vs, h1, h2⟩ := h w2 Hd2 H2 e rel gd
    obtain ⟨us, h1', h2'⟩ := h' w2 Hd2 H2 e rel gd
    have hl := h2.length
    have hl' := h2'.length
    exact ⟨vs, us, vs[i]'(by omega), us[i]'(by omega), h1, h1', by simp [show i < vs.length by omega], by simp [show i < us.length by omega]⟩
  · obtain ⟨w2, Hd2, e, rel, gd⟩ := q
    obtain ⟨vs, h1, h2⟩ := h w2 Hd2 H2 e rel gd
    obtain ⟨us, h1', h2'⟩ := h' w2 Hd2 H2 e rel gd
    have hl := h2.length
    have hl' := h2'.length
    exact ⟨vs, us, h1, h1', by omega⟩
  · obtain ⟨vs, h1, h2⟩ := h w2 Hd2 H2 e rel gd
    obtain ⟨us, h1', h2'⟩ := h' w2 Hd2 H2 e rel gd
    obtain ⟨T, x, z, rfl, hT, rfl, y, y'⟩ := y
    have hx : xs[i]? = some (xs[i]'(by omega)) := List.getElem?_eq_getElem (by omega)
    have hy : ys[i]? = some (ys[i]'(by omega)) := List.getElem?_eq_getElem (by omega)
    obtain ⟨v, hv, rv⟩ := h2.get hx
    obtain ⟨u, hu, ru⟩ := h2'.get hy
    rw [y vs h1] at hv
    rw [y' us h1'] at hu
    cases hv; cases hu
    exact ⟨T, _, _, _, _, rfl, hT, rfl, rv, ru, zipD_at hx hy⟩
end
theorem PI.mono {X : Cx} {tg e : Expr} {t t' : TI} (h : PI X tg e t) (m : ∀ s H Q, t' s H Q → t s H Q) : PI X tg e t' := ⟨fun pins s σ H Q I q => h.run pins s σ H Q I (m _ _ _ q)⟩
theorem PI.or {X : Cx} {tg e : Expr} {t t' : TI} (h : PI X tg e t) (h' : PI X tg e t') : PI X tg e (fun s H Q => t s H Q ∨ t' s H Q) := ⟨fun pins s σ H Q I q => q.elim (h.run pins s σ H Q I) (h'.run pins s σ H Q I)⟩

/-- a list (a tuple) among the kinds of what may be walked -/
theorem items_ls {G : Gr} {K : PySem.W.Frag} {w : Vw} {Hd : HH} {H : Hp} {d : D} {v : V} {xs : List D} {g : Gd} (hK : G.K = K) (rel : Rel G w Hd H) (r : RepV G w H d v) (h : itemsD Hd d = some (xs, g)) (h1 : ∀ ys, d ≠ .tup ys) (h2 : ∀ ys, d ≠ .str ys) :
    ∃ a, v = .ref a ∧ (∃ vs, SqL K H a vs) ∧ ∀ g', (∀ p ∈ g, p ∈ g') → LsP G K w H g' a xs := by
  cases d with
  | lv ys =>
    cases h
    have r' := r
    cases r with
    | lv a b c => exact ⟨_, rfl, ⟨_, SqL.of b⟩, fun g' _ => ls_lv r'⟩
  | fz ys =>
    cases h
    have r' := r
    cases r with
    | fz a b => exact ⟨_, rfl, ⟨_, hK ▸ a.sq⟩, fun g' _ => ls_fz hK r'⟩
  | tup ys => exact absurd rfl (h1 ys)
  | str x => exact absurd rfl (h2 x)
  | ref n =>
    cases r with
    | ref hr =>
      obtain ⟨o, e, q⟩ := rel.lt hr
      simp only [itemsD, e] at h
      cases q with
      | lst h1 h2 =>
        cases h
        exact ⟨_, rfl, ⟨_, SqL.of h1⟩, fun g' m => ls_ref hr (m _ List.mem_cons_self)⟩
      | dic h1 h2 => cases h
  | _ => cases h
theorem items_tp {G : Gr} {K : PySem.W.Frag} {w : Vw} {Hd : HH} {H : Hp} {ys : List D} {v : V} {xs : List D} {g : Gd} (hK : G.K = K) (r : RepV G w H (.tup ys) v) (h : itemsD Hd (.tup ys) = some (xs, g)) :
    ∃ a, v = .ref a ∧ (∃ vs, SqT K H a vs) ∧ ∀ g', TpP G K w H g' a xs := by
  cases h
  have r' := r
  cases r with
  | tup a b => exact ⟨_, rfl, ⟨_, hK ▸ a.sq⟩, fun g' => tp_tup hK r'⟩
section
variable {X : Cx} {G : Gr} {W : WX} {pos p : Pos} {tg e e2 : Expr} {fa fb : Sd → HH → Rs D} {fs : Sd → HH → Rs (List D)}
theorem i_val (ok : Okx X G W) (ha : PE X e (tD G W fa)) : PI X tg e (tDI G W fun s H => (fa s H).bind fun d H1 => Rs.ofO (itemsD H1 d) H1) :=
  PI.mono (PI.or (pi_list ha) (PI.or (pi_tup ha) (pi_str ha))) fun s H R h => by
    obtain ⟨w, Hd, sd, rel, rs, p⟩ := h
    dsimp only at p
    cases hf : fa sd Hd with
    | no => rw [hf] at p; exact p.elim
    | ex x Hd1 =>
      rw [hf] at p
      exact Or.inl ⟨w, Hd, sd, rel, rs, by rw [hf]; exact p⟩
    | ok d Hd1 =>
      rw [hf] at p
      obtain ⟨⟨xs, g⟩, z, k1⟩ := ofO_post p
      by_cases h1 : ∃ ys, d = .tup ys
      · obtain ⟨ys, rfl⟩ := h1
        refine Or.inr (Or.inl ⟨w, Hd, sd, rel, rs, ?_⟩)
        rw [hf]
        intro w1 H1 e1 r1 v rv
        obtain ⟨a, e, hq, h⟩ := items_tp ok.K rv z
        exact ⟨a, e, hq, k1 w1 H1 e1 r1 _ (wk_tup (h g))⟩
      · by_cases h2 : ∃ ys, d = .str ys
        · obtain ⟨ys, rfl⟩ := h2
          refine Or.inr (Or.inr ⟨w, Hd, sd, rel, rs, ?_⟩)
          rw [hf]
          intro w1 H1 e1 r1 v rv
          cases rv
          cases z
          exact ⟨_, rfl, k1 w1 H1 e1 r1 _ wk_str⟩
        · refine Or.inl ⟨w, Hd, sd, rel, rs, ?_⟩
          rw [hf]
          intro w1 H1 e1 r1 v rv
          obtain ⟨a, e, hq, h⟩ := items_ls ok.K r1 rv z (fun ys e => h1 ⟨ys, e⟩) (fun ys e => h2 ⟨ys, e⟩)
          exact ⟨a, e, hq, k1 w1 H1 e1 r1 _ (wk_list (h g fun _ m => m))⟩

theorem i_range1 {a : Expr} (hg : Gl X "range") (hm : X.mg "range" = none) (hs : notStar a = true) (ha : PA X [a] (tDA G W fs)) : PI X tg (.Call (.Name "range" p) [a] [] pos) (tDI G W fun s H => (fs s H).bind fun ds H1 => Rs.ofO ((rangeD1 ds).map fun xs => (xs, [])) H1) :=
  PI.mono (pi_range1 hg hm ha (star_cons hs)) fun s H R h => by
    obtain ⟨w, Hd, sd, rel, rs, p⟩ := h
    refine seq rel rs p fun ds Hd1 w1 H1 vs e1 rel1 rs1 r1 p1 => ?_
    obtain ⟨q, z, k1⟩ := ofO_post p1
    unfold rangeD1 at z
    split at z
    · rename_i j
      split at z
      · rename_i hl
        cases z
        simp only [Bool.and_eq_true, decide_eq_true_iff] at hl
        cases r1 with
        | cons a b =>
          cases a; cases b
          refine ⟨j, rfl, hl.1, hl.2, k1 w1 H1 (Ext.refl _ _) rel1 _ ?_⟩
          have e : (fun (k : Nat) => D.int (k : Int)) = fun (k : Nat) => D.int (0 + (k : Nat)) := by funext k; rw [Int.zero_add]
          show Walk _ _ _ _
          dsimp only
          rw [e]
          exact wk_range
      · cases z
    · cases z
theorem i_range2 {a b : Expr} (hg : Gl X "range") (hm : X.mg "range" = none) (hs : notStar a = true) (hs2 : notStar b = true) (ha : PA X [a, b] (tDA G W fs)) : PI X tg (.Call (.Name "range" p) [a, b] [] pos) (tDI G W fun s H => (fs s H).bind fun ds H1 => Rs.ofO ((rangeD2 ds).map fun xs => (xs, [])) H1) :=
  PI.mono (pi_range2 hg hm ha (by rw [star_cons hs, star_cons hs2]; rfl) (star_cons hs2)) fun s H R h => by
    obtain ⟨w, Hd, sd, rel, rs, p⟩ := h
    refine seq rel rs p fun ds Hd1 w1 H1 vs e1 rel1 rs1 r1 p1 => ?_
    obtain ⟨q, z, k1⟩ := ofO_post p1
    unfold rangeD2 at z
    split at z
    · rename_i i j
      split at z
      · rename_i hl
        cases z
        simp only [Bool.and_eq_true, decide_eq_true_iff] at hl
        cases r1 with
        | cons a b =>
          cases a
          cases b with
          | cons a b =>
            cases a; cases b
            exact ⟨i, j, rfl, ⟨hl.1.1.1, hl.1.1.2, hl.1.2, hl.2⟩, k1 w1 H1 (Ext.refl _ _) rel1 _ wk_range⟩
      · cases z
    · cases z
/-- one argument -/
theorem a_one (hs : notStar e = true) (he : PE X e (tD G W fa)) : PA X [e] (tDA G W fun s H => (fa s H).bind fun d H1 => .ok [d] H1) :=
  PA.mono (d_cons hs he d_nil) fun s H Q h => by
    obtain ⟨w, Hd, sd, rel, rs, p⟩ := h
    exact ⟨w, Hd, sd, rel, rs, p⟩
theorem i_enum {elts : List Expr} {kk : Nat} {tpos : Pos} (ok : Okx X G W) (hg : Gl X "enumerate") (hm : X.mg "enumerate" = none) (hs : notStar e = true) (he : PE X e (tD G W fa)) :
    PI X (.Tuple elts kk tpos) (.Call (.Name "enumerate" p) [e] [] pos) (tDI G W fun s H => (fa s H).bind fun d H1 => Rs.ofO ((enD H1 d).map fun p => (enumD p.1, p.2)) H1) :=
  PI.mono (pi_enum3 hg hm (a_one hs he) (star_cons hs)) fun s H R h => by
    obtain ⟨w, Hd, sd, rel, rs, p⟩ := h
    refine ⟨w, Hd, sd, rel, rs, ?_⟩
    dsimp only at p ⊢
    cases hf : fa sd Hd with
    | no => rw [hf] at p; exact p.elim
    | ex x Hd1 => rw [hf] at p; exact p
    | ok d Hd1 =>
      rw [hf] at p
      obtain ⟨q, z, k1⟩ := ofO_post p
      intro w1 H1 e1 r1 vs rv
      cases rv with
      | cons ra rb =>
        cases rb
        by_cases hstr : ∃ x, d = .str x
        · obtain ⟨x, rfl⟩ := hstr
          cases z
          cases ra
          exact .inr (.inl ⟨_, rfl, k1 w1 H1 e1 r1 _ wk_enumS⟩)
        · by_cases htup : ∃ x, d = .tup x
          · obtain ⟨x, rfl⟩ := htup
            cases z
            have ra' := ra
            cases ra with
            | tup t h2 => exact .inr (.inr ⟨_, _, rfl, ok.K ▸ t.sq, k1 w1 H1 e1 r1 _ (wk_enumT (tp_tup ok.K ra'))⟩)
          have z2 : enD Hd1 d = lsD Hd1 d := by cases d <;> first | rfl | exact absurd ⟨_, rfl⟩ hstr | exact absurd ⟨_, rfl⟩ htup
          rw [z2] at z
          cases z0 : lsD Hd1 d with
          | none => rw [z0] at z; cases z
          | some q0 =>
            obtain ⟨xs, g⟩ := q0
            rw [z0] at z
            cases z
            have z1 : itemsD Hd1 d = some (xs, g) ∧ (∀ ys, d ≠ .tup ys) ∧ (∀ ys, d ≠ .str ys) := by
              cases d <;> first | exact ⟨z0, fun _ => nofun, fun _ => nofun⟩ | cases z0
            obtain ⟨a, e, ⟨vs, hq⟩, h⟩ := items_ls ok.K r1 ra z1.1 z1.2.1 z1.2.2
            subst e
            exact .inl ⟨a, vs, rfl, hq, k1 w1 H1 e1 r1 _ (wk_enum (h g fun _ m => m))⟩
theorem i_zip {elts : List Expr} {kk : Nat} {tpos : Pos} (ok : Okx X G W) (hg : Gl X "zip") (hm : X.mg "zip" = none) (hs : notStar e = true) (hs2 : notStar e2 = true) (ha : PE X e (tD G W fa)) (hb : PE X e2 (tD G W fb)) :
    PI X (.Tuple elts kk tpos) (.Call (.Name "zip" p) [e, e2] [] pos) (tDI G W fun s H => (fa s H).bind fun x H1 => (fb s H1).bind fun y H2 => Rs.ofO (zipI H2 x y) H2) :=
  PI.mono (RZ.pi_zipA hg hm (PA.mono (pa_cons ha (pa_cons hb pa_nil (star_cons hs2)) (star_cons hs)) (t' := tCons (tD G W fa) (tCons (tD G W fb) tNil)) fun _ _ _ h => h) (star_cons hs) (by rw [star_cons hs2]; rfl)) fun s H R h => by
    obtain ⟨w, Hd, sd, rel, rs, p⟩ := h
    refine seq rel rs p fun x Hd1 w1 H1 v e1 rel1 rs1 r1 p1 => ?_
    refine seq rel1 rs1 p1 fun y Hd2 w2 H2 u e2 rel2 rs2 r2 p2 => ?_
    obtain ⟨q, z, k1⟩ := ofO_post p2
    have r1 := r1.ext e2
    unfold zipI at z
    split at z
    · rename_i xs ys
      cases z
      obtain ⟨a, ea, ⟨vs, ha⟩, fa⟩ := items_tp ok.K r1 (Hd := Hd2) rfl
      obtain ⟨b, eb, ⟨us, hb⟩, fb⟩ := items_tp ok.K r2 (Hd := Hd2) rfl
      subst ea eb
      exact ⟨a, b, vs, us, rfl, Or.inr ⟨ha, hb, k1 w2 H2 (Ext.refl _ _) rel2 _ (wk_zipT (fa []) (fb []))⟩⟩
    · cases z1 : lsD Hd2 x with
      | none => rw [z1] at z; cases z
      | some q1 =>
        cases z2 : lsD Hd2 y with
        | none => rw [z1, z2] at z; cases z
        | some q2 =>
          obtain ⟨xs, g⟩ := q1
          obtain ⟨ys, g'⟩ := q2
          rw [z1, z2] at z
          cases z
          have i1 : itemsD Hd2 x = some (xs, g) ∧ (∀ ys, x ≠ .tup ys) ∧ (∀ ys, x ≠ .str ys) := by
            cases x <;> first | exact ⟨z1, fun _ => nofun, fun _ => nofun⟩ | cases z1
          have i2 : itemsD Hd2 y = some (ys, g') ∧ (∀ ys, y ≠ .tup ys) ∧ (∀ ys, y ≠ .str ys) := by
            cases y <;> first | exact ⟨z2, fun _ => nofun, fun _ => nofun⟩ | cases z2
          obtain ⟨a, ea, ⟨vs, ha⟩, fa⟩ := items_ls ok.K rel2 r1 i1.1 i1.2.1 i1.2.2
          obtain ⟨b, eb, ⟨us, hb⟩, fb⟩ := items_ls ok.K rel2 r2 i2.1 i2.2.1 i2.2.2
          subst ea eb
          exact ⟨a, b, vs, us, rfl, Or.inl ⟨ha, hb, k1 w2 H2 (Ext.refl _ _) rel2 _ (wk_zip (fa _ fun _ m => List.mem_append_left _ m) (fb _ fun _ m => List.mem_append_right _ m))⟩⟩
end
end DI
namespace DI
open PySem PySem.Spec PyProof.Rows L2
section
variable {X : Cx} {G : Gr} {W : WX} {pos p : Pos} {tg iter elt : Expr} {body : List Stmt} {fi : Sd → HH → Rs (List D × Gd)} {fb : Sd → HH → RS} {ft : Sd → HH → Rs Bool} {fe : Sd → HH → Rs D}
theorem fold_of {env : Env} (h : notSet iter = true) : ∀ x, foldedSetIterable iter env x = pure x := by
  intro x
  cases iter <;> first | rfl | (simp [notSet] at h; done)
theorem forL_gd {g : Gd} {tgf : D → Sd → Option Sd} {l : List D} {s : Sd} {Hd : HH} {w : Vw} {H : Hp} {W : WX} {Q : Ends} (h : PostS G w H (forL g tgf fb l s Hd) W Q) : gdOk g Hd = true := by
  cases hg : gdOk g Hd with
  | true => rfl
  | false =>
    have : forL g tgf fb l s Hd = .no := by cases l <;> simp [forL, hg]
    rw [this] at h
    exact h.elim
theorem drop_at {xs : List D} {i : Nat} {d : D} (h : xs[i]? = some d) : xs.drop i = d :: xs.drop (i + 1) := by
  obtain ⟨hl, rfl⟩ := List.getElem?_eq_some_iff.mp h
  exact List.drop_eq_getElem_cons hl
theorem s_for (ok : Okx X G W) (hx : G.exc = none) (hc : X.calm = true) {t : T} (hfold : notSet iter = true) (hi : PI X tg iter (tDI G W fi)) (hg : PG X tg (tP X.K t)) (hb : PSs X body (tDS G W fb)) :
    PS X (.For tg iter body [] pos) (tDS G W fun s H => (fi s H).st s fun p H1 => forL p.2 (asT t) fb p.1 s H1) := PS.mono (ps_for ok.hp hc hi hg hb (fold_of hfold)) fun D s H h => by
  obtain ⟨w, Hd, sd, rel, rs, p⟩ := h
  refine seqS rel rs p fun q Hd1 w1 H1 J e1 rel1 rs1 wk p1 => ?_
  obtain ⟨xs, g⟩ := q
  dsimp only at p1
  have wk : Walk J xs.length (GdP G w1 H1 g) (YdP G w1 H1 g xs) := wk
  refine for_it wk (fun i σ H => ∃ w2 Hd2 sd2, Ext w1 w2 H1 H ∧ Rel G w2 Hd2 H ∧ RepS G w2 H sd2 σ ∧ PostS G w2 H (forL g (asT t) fb (xs.drop i) sd2 Hd2) W D) ⟨w1, Hd1, sd, Ext.refl _ _, rel1, rs1, p1⟩ ?_ ?_ ?_
  · rintro i σ H _ ⟨w2, Hd2, sd2, e2, rel2, rs2, p2⟩
    exact ⟨w2, Hd2, e2, rel2, forL_gd p2⟩
  · rintro i x σ H H' hi ⟨w2, Hd2, sd2, e2, rel2, rs2, p2⟩ y
    have hgd := forL_gd p2
    obtain ⟨e3, rel3, d, hd, rv⟩ := y w2 Hd2 e2 rel2 hgd
    rw [drop_at hd] at p2
    have p3 := p2.step e3
    simp only [forL, hgd, if_true] at p3
    cases z : asT t d sd2 with
    | none => rw [z] at p3; exact p3.elim
    | some s1 =>
      rw [z] at p3
      dsimp only at p3
      refine pat_ok ok.K hx t rel3 rv (rs2.ext e3) z fun H4 σ2 e4 rel4 rs4 _ => ?_
      refine ⟨w2, Hd2, s1, rel4, rs4, ?_⟩
      have p3 := p3.step e4
      generalize fb s1 Hd2 = r at p3
      have e13 := (e2.trans e3).trans e4
      cases r with
      | no => exact p3
      | ex x s5 H5 => exact p3
      | go f H5 =>
        cases f with
        | nx s5 => exact fun w' H' e rel' v rv => ⟨w', H5, s5, e13.trans e, rel', rv, p3.step e⟩
        | ct s5 => exact fun w' H' e rel' v rv => ⟨w', H5, s5, e13.trans e, rel', rv, p3.step e⟩
        | bk s5 => exact p3
        | rt d => exact p3
  · rintro σ H ⟨w2, Hd2, sd2, e2, rel2, rs2, p2⟩
    have hgd := forL_gd p2
    rw [List.drop_length] at p2
    simp only [forL, hgd, if_true] at p2
    exact p2 w2 H (Ext.refl _ _) rel2 σ rs2
theorem s_whl (ok : Okx X G W) {c : Expr} {n : Nat} (hc : PT X c (tDT G W ft)) (hb : PSs X body (tDS G W fb)) : PS X (.While c body [] pos) (tDS G W fun s H => whileL ft fb n s H) :=
  PS.mono (ps_while ok.hp hc hb) fun D s H h => by
    refine ⟨fun m σ H => ∃ w Hd sd, Rel G w Hd H ∧ RepS G w H sd σ ∧ PostS G w H (whileL ft fb m sd Hd) W D, ⟨n, h⟩, ?_⟩
    rintro m σ H ⟨w, Hd, sd, rel, rs, p⟩
    cases m with
    | zero => exact p.elim
    | succ m =>
      refine ⟨w, Hd, sd, rel, rs, ?_⟩
      unfold whileL at p
      generalize ft sd Hd = r at p
      cases r with
      | no => exact p
      | ex x H1 => exact fun w' H' e rel' c da rx => p w' H' e rel' σ (rs.ext e) c da rx
      | ok b H1 =>
        intro w1 H1' e1 rel1 v rv
        cases (show v = b from rv)
        cases b with
        | false => exact iteF (p w1 H1' e1 rel1 σ (rs.ext e1))
        | true =>
          refine iteT ⟨fun σ' H' => ∃ w Hd sd, Rel G w Hd H' ∧ RepS G w H' sd σ' ∧ PostS G w H' (whileL ft fb m sd Hd) W D, fun σ' H' h => ⟨m, Nat.lt_succ_self _, h⟩, w1, H1, sd, rel1, rs.ext e1, ?_⟩
          have p := p.step e1
          dsimp only at p
          generalize fb sd H1 = r at p
          cases r with
          | no => exact p
          | ex x s5 H5 => exact p
          | go f H5 =>
            cases f with
            | nx s5 => exact fun w' H' e rel' v rv => ⟨w', H5, s5, rel', rv, p.step e⟩
            | ct s5 => exact fun w' H' e rel' v rv => ⟨w', H5, s5, rel', rv, p.step e⟩
            | bk s5 => exact p
            | rt d => exact p
end

def Vw.pl (w : Vw) (D : Addr) : Vw := ⟨w.mu, w.n, fun a => w.xx a ∨ a = D⟩
def Vw.mi (w : Vw) (D : Addr) : Vw := ⟨w.mu, w.n, fun a => w.xx a ∧ a ≠ D⟩
section
variable {G : Gr} {w w' : Vw} {H : Hp} {D : Addr} {o : HO} {Hd : HH}
theorem rd_ne {H : Hp} {a : Addr} {o : HO} (h : Rd H a o) : H a ≠ none := by
  rcases h with h | ⟨b, h⟩ <;> rw [h] <;> simp
theorem rd_updx {a : Addr} {u : HO} (h : a ≠ D) (r : Rd H a u) : Rd (upd H D o) a u := by
  rcases r with r | ⟨b, r⟩
  · exact .inl (by rw [upd_ne h]; exact r)
  · exact .inr ⟨b, by rw [upd_ne h]; exact r⟩
/-- a turn of what is held by none of the data -/
theorem TupAt.tun {a : Addr} {vs : List V} (hL : ∀ a, H a ≠ none → ¬ w.L a → ¬ w'.L a ∧ a ≠ D) (h : TupAt G w H a vs) : TupAt G w' (upd H D o) a vs := by
  rcases h with ⟨h, r⟩ | h
  · obtain ⟨h1, h2⟩ := hL a (rd_ne r) h
    exact .inl ⟨h1, rd_updx h2 r⟩
  · exact .inr h
theorem FzAt.tun {a : Addr} {vs : List V} (hL : ∀ a, H a ≠ none → ¬ w.L a → ¬ w'.L a ∧ a ≠ D) (h : FzAt G w H a vs) : FzAt G w' (upd H D o) a vs := by
  rcases h with ⟨h, r⟩ | h
  · obtain ⟨h1, h2⟩ := hL a (rd_ne r) h
    exact .inl ⟨h1, rd_updx h2 r⟩
  · exact .inr h
mutual
theorem RepV.tun (hn : w'.n = w.n) (hm : w'.mu = w.mu) (hL : ∀ a, H a ≠ none → ¬ w.L a → ¬ w'.L a ∧ a ≠ D) : ∀ {d : DI.D} {v : V}, RepV G w H d v → RepV G w' (upd H D o) d v
  | _, _, .non => .non
  | _, _, .bl b => .bl b
  | _, _, .int i => .int i
  | _, _, .str x => .str x
  | _, _, .tup h r => .tup (h.tun hL) (RepVs.tun hn hm hL r)
  | _, _, .lv h q r => by
    obtain ⟨h1, h2⟩ := hL _ (by rw [q]; simp) h
    exact .lv h1 (by rw [upd_ne h2]; exact q) (RepVs.tun hn hm hL r)
  | _, _, .fz h r => .fz (h.tun hL) (RepVs.tun hn hm hL r)
  | _, _, .ref h => by rw [← hm]; exact .ref (by rw [hn]; exact h)
  | _, _, .cls c => .cls c
  | _, _, .ty n => .ty n
theorem RepVs.tun (hn : w'.n = w.n) (hm : w'.mu = w.mu) (hL : ∀ a, H a ≠ none → ¬ w.L a → ¬ w'.L a ∧ a ≠ D) : ∀ {d : List DI.D} {v : List V}, RepVs G w H d v → RepVs G w' (upd H D o) d v
  | _, _, .nil => .nil
  | _, _, .cons h r => .cons (RepV.tun hn hm hL h) (RepVs.tun hn hm hL r)
end
theorem TupAt.sub {a : Addr} {vs : List V} (hL : ∀ a, ¬ w.L a → ¬ w'.L a) (h : TupAt G w H a vs) : TupAt G w' H a vs := by
  rcases h with ⟨h, r⟩ | h
  · exact .inl ⟨hL a h, r⟩
  · exact .inr h
theorem FzAt.sub {a : Addr} {vs : List V} (hL : ∀ a, ¬ w.L a → ¬ w'.L a) (h : FzAt G w H a vs) : FzAt G w' H a vs := by
  rcases h with ⟨h, r⟩ | h
  · exact .inl ⟨hL a h, r⟩
  · exact .inr h
mutual
theorem RepV.sub (hn : w'.n = w.n) (hm : w'.mu = w.mu) (hL : ∀ a, ¬ w.L a → ¬ w'.L a) : ∀ {d : DI.D} {v : V}, RepV G w H d v → RepV G w' H d v
  | _, _, .non => .non
  | _, _, .bl b => .bl b
  | _, _, .int i => .int i
  | _, _, .str x => .str x
  | _, _, .tup h r => .tup (h.sub hL) (RepVs.sub hn hm hL r)
  | _, _, .lv h q r => .lv (hL _ h) q (RepVs.sub hn hm hL r)
  | _, _, .fz h r => .fz (h.sub hL) (RepVs.sub hn hm hL r)
  | _, _, .ref h => by rw [← hm]; exact .ref (by rw [hn]; exact h)
  | _, _, .cls c => .cls c
  | _, _, .ty n => .ty n
theorem RepVs.sub (hn : w'.n = w.n) (hm : w'.mu = w.mu) (hL : ∀ a, ¬ w.L a → ¬ w'.L a) : ∀ {d : List DI.D} {v : List V}, RepVs G w H d v → RepVs G w' H d v
  | _, _, .nil => .nil
  | _, _, .cons h r => .cons (RepV.sub hn hm hL h) (RepVs.sub hn hm hL r)
end
theorem pl_L {a : Addr} : (w.pl D).L a ↔ w.L a ∨ a = D := by
  constructor
  · rintro (h | h | h)
    · exact .inl (.inl h)
    · exact .inl (.inr h)
    · exact .inr h
  · rintro ((h | h) | h)
    · exact .inl h
    · exact .inr (.inl h)
    · exact .inr (.inr h)
theorem pl_tun (hD : H D = none) : ∀ a, H a ≠ none → ¬ w.L a → ¬ (w.pl D).L a ∧ a ≠ D := fun a h hn => by
  have : a ≠ D := fun e => h (e ▸ hD)
  exact ⟨fun z => (pl_L.mp z).elim hn this, this⟩
theorem x_tun (hD : w.xx D) : ∀ a, H a ≠ none → ¬ w.L a → ¬ w.L a ∧ a ≠ D := fun a _ hn => ⟨hn, fun e => hn (.inr (e ▸ hD))⟩
theorem mi_sub : ∀ a, ¬ w.L a → ¬ (w.mi D).L a := fun a h z => z.elim (fun z => h (.inl z)) fun z => h (.inr z.1)
/-- Rel, where an object is turned that is none of the live ones -/
theorem Rel.tun (r : Rel G w Hd H) (hn : w'.n = w.n) (hm : w'.mu = w.mu) (hL : ∀ a, H a ≠ none → ¬ w.L a → ¬ w'.L a ∧ a ≠ D) (hD : ¬ w.O D) (hx : ∀ a, w'.xx a → w.xx a ∨ a = D) : Rel G w' Hd (upd H D o) := by
  have hO : ∀ a, w'.O a ↔ w.O a := fun a => ⟨fun ⟨i, h1, h2⟩ => ⟨i, by rw [← hn]; exact h1, by rw [← hm]; exact h2⟩, fun ⟨i, h1, h2⟩ => ⟨i, by rw [hn]; exact h1, by rw [hm]; exact h2⟩⟩
  refine ⟨hn.trans r.n, fun i j hi hj => by rw [hm]; exact r.inj i j (hn ▸ hi) (hn ▸ hj), fun i u h => ?_, fun a h => ?_⟩
  · have q := r.obj i u h
    have hl : i < w.n := by rw [r.n]; exact (List.getElem?_eq_some_iff.mp h).1
    rw [hm]
    cases q with
    | lst q1 q2 => exact .lst (by rw [upd_ne fun e => hD ⟨i, hl, e⟩]; exact q1) (q2.tun hn hm hL)
    | dic q1 q2 => exact .dic (by rw [upd_ne fun e => hD ⟨i, hl, e⟩]; exact q1) (q2.tun hn hm hL)
  · rcases hx a h with z | z
    · refine ⟨?_, fun e => (r.xx a z).2 ((hO a).mp e)⟩
      by_cases e : a = D
      · subst e; rw [upd_same]; simp
      · rw [upd_ne e]; exact (r.xx a z).1
    · subst z
      exact ⟨by rw [upd_same]; simp, fun e => hD ((hO _).mp e)⟩
/-- what others held is live from now on -/
def Vw.pr (w : Vw) (D : Addr) : Vw := ⟨fun i => if i = w.n then D else w.mu i, w.n + 1, fun a => w.xx a ∧ a ≠ D⟩
theorem pr_L (hx : w.xx D) : ∀ a, ¬ w.L a → ¬ (w.pr D).L a := fun a h z => by
  rcases z with ⟨i, hi, z⟩ | z
  · have hi : i < w.n + 1 := hi
    by_cases h2 : i < w.n
    · rw [show (w.pr D).mu i = w.mu i from add_lt h2] at z
      exact h (.inl ⟨i, h2, z⟩)
    · have : i = w.n := by omega
      subst this
      rw [show (w.pr D).mu w.n = D from add_n] at z
      subst z
      exact h (.inr hx)
  · exact h (.inr z.1)
theorem TupAt.pr {a : Addr} {vs : List V} (hx : w.xx D) (h : TupAt G w H a vs) : TupAt G (w.pr D) H a vs := by
  rcases h with ⟨h, r⟩ | h
  · exact .inl ⟨pr_L hx a h, r⟩
  · exact .inr h
theorem FzAt.pr {a : Addr} {vs : List V} (hx : w.xx D) (h : FzAt G w H a vs) : FzAt G (w.pr D) H a vs := by
  rcases h with ⟨h, r⟩ | h
  · exact .inl ⟨pr_L hx a h, r⟩
  · exact .inr h
mutual
theorem RepV.pr (hx : w.xx D) : ∀ {d : DI.D} {v : V}, RepV G w H d v → RepV G (w.pr D) H d v
  | _, _, .non => .non
  | _, _, .bl b => .bl b
  | _, _, .int i => .int i
  | _, _, .str x => .str x
  | _, _, .tup h r => .tup (h.pr hx) (RepVs.pr hx r)
  | _, _, .lv h q r => .lv (pr_L hx _ h) q (RepVs.pr hx r)
  | _, _, .fz h r => .fz (h.pr hx) (RepVs.pr hx r)
  | _, _, .ref h => by rw [← show (w.pr D).mu _ = w.mu _ from add_lt h]; exact .ref (Nat.lt_succ_of_lt h)
  | _, _, .cls c => .cls c
  | _, _, .ty n => .ty n
theorem RepVs.pr (hx : w.xx D) : ∀ {d : List DI.D} {v : List V}, RepVs G w H d v → RepVs G (w.pr D) H d v
  | _, _, .nil => .nil
  | _, _, .cons h r => .cons (RepV.pr hx h) (RepVs.pr hx r)
end
theorem Rel.pr {Hd : HH} {xs : List DI.D} {vs : List V} (r : Rel G w Hd H) (hx : w.xx D) (hD : H D = some (.lst vs)) (h : RepVs G w H xs vs) : Rel G (w.pr D) (Hd ++ [.lst xs]) H := by
  have nO := (r.xx D hx).2
  refine ⟨by rw [List.length_append]; show w.n + 1 = _; rw [r.n]; rfl, fun i j hi hj q => ?_, fun i o hi => ?_, fun a h => ⟨(r.xx a h.1).1, ?_⟩⟩
  · have hi : i < w.n + 1 := hi
    have hj : j < w.n + 1 := hj
    by_cases h1 : i < w.n
    · by_cases h2 : j < w.n
      · rw [show (w.pr D).mu i = w.mu i from add_lt h1, show (w.pr D).mu j = w.mu j from add_lt h2] at q; exact r.inj i j h1 h2 q
      · have : j = w.n := by omega
        subst this
        rw [show (w.pr D).mu i = w.mu i from add_lt h1, show (w.pr D).mu w.n = D from add_n] at q
        exact absurd ⟨i, h1, q⟩ nO
    · have : i = w.n := by omega
      subst this
      by_cases h2 : j < w.n
      · rw [show (w.pr D).mu j = w.mu j from add_lt h2, show (w.pr D).mu w.n = D from add_n] at q
        exact absurd ⟨j, h2, q.symm⟩ nO
      · omega
  · by_cases h1 : i < Hd.length
    · rw [List.getElem?_append_left h1] at hi
      rw [show (w.pr D).mu i = w.mu i from add_lt (by rw [r.n]; exact h1)]
      cases r.obj i o hi with
      | lst q1 q2 => exact .lst q1 (q2.pr hx)
      | dic q1 q2 => exact .dic q1 (q2.pr hx)
    · have hlt : i < (Hd ++ [HD.lst xs]).length := (List.getElem?_eq_some_iff.mp hi).1
      have : i = Hd.length := by rw [List.length_append] at hlt; simp at hlt; omega
      subst this
      rw [List.getElem?_append_right (Nat.le_refl _)] at hi
      simp at hi
      subst hi
      rw [← r.n, show (w.pr D).mu w.n = D from add_n]
      exact .lst hD (h.pr hx)
  · rintro ⟨i, hi, z⟩
    have hi : i < w.n + 1 := hi
    by_cases h1 : i < w.n
    · rw [show (w.pr D).mu i = w.mu i from add_lt h1] at z
      exact (r.xx a h.1).2 ⟨i, h1, z⟩
    · have : i = w.n := by omega
      subst this
      rw [show (w.pr D).mu w.n = D from add_n] at z
      exact h.2 z.symm
theorem Rel.mi (r : Rel G w Hd H) : Rel G (w.mi D) Hd H := by
  refine ⟨r.n, r.inj, fun i u h => ?_, fun a h => r.xx a h.1⟩
  have q := r.obj i u h
  cases q with
  | lst q1 q2 => exact .lst q1 (RepVs.sub (w := w) (w' := w.mi D) rfl rfl mi_sub q2)
  | dic q1 q2 => exact .dic q1 (RepVs.sub (w := w) (w' := w.mi D) rfl rfl mi_sub q2)
end

theorem PTs.mono {X : Cx} {e : List Expr} {t t' : TT} (h : PTs X e t) (m : ∀ s H Q, t' s H Q → t s H Q) : PTs X e t' := ⟨fun pins s σ H Q I q => h.run pins s σ H Q I (m _ _ _ q)⟩
abbrev W0 : WX := fun _ _ _ _ => False
section
variable {X : Cx} {G : Gr} {W : WX} {pos p : Pos} {tg iter elt : Expr} {c : Expr} {fi : Sd → HH → Rs (List D × Gd)} {ft : Sd → HH → Rs Bool} {fe : Sd → HH → Rs D}
theorem ts_no : PTs X [] (tDT G W fun _ H => .ok true H) := PTs.mono pts_nil fun s H Q h => by
  obtain ⟨w, Hd, sd, rel, rs, p⟩ := h
  exact p w H (Ext.refl _ _) rel _ rfl
theorem ts_one (h : PT X c (tDT G W ft)) : PTs X [c] (tDT G W ft) := pts_one h
def lcF (b : Bool) (fi : Sd → HH → Rs (List D × Gd)) (ft : Sd → HH → Rs Bool) (fe : Sd → HH → Rs D) (own : List Nat) (t : T) : Sd → HH → Rs D := fun s H =>
  (fi s H).bind fun p H1 => (lcL p.2 (asT t) ft fe (wipeD s own) p.1 [] H1).bind fun ds H2 => endL b ds H2
/-- the layer's reading of a comprehension holds where the evaluator's does -/
theorem lc_at {b : Bool} {own : List Nat} {t : T} (hK : G.K = X.K) (hxc : G.exc = none) (hsl : ∀ i ∈ slT t, i ∈ own) {w1 : Vw} {Hd1 : HH} {H1 : Hp} {sd : Sd} {σ : L2.St} {J : It} {xs : List D} {g : Gd} {Q : V → Hp → Prop} {W1 : XK} (rel1 : Rel G w1 Hd1 H1) (rs1 : RepS G w1 H1 sd σ)
    (wk : Walk J xs.length (GdP G w1 H1 g) (YdP G w1 H1 g xs)) (p1 : Post (RepV G) G w1 H1 ((lcL g (asT t) ft fe (wipeD sd own) xs [] Hd1).bind fun ds H2 => endL b ds H2) W1 Q) : tLc (fun _ H R => R J H) (tP X.K t) (tDT G W0 ft) (tD G W0 fe) own σ H1 Q := by
  intro D hD
  generalize hr : lcL g (asT t) ft fe (wipeD sd own) xs [] Hd1 = r at p1
  have hD1 : ¬ w1.L D := rel1.notL hD
  have gdL : ∀ {l acc Hd2}, lcL g (asT t) ft fe (wipeD sd own) l acc Hd2 = r → gdOk g Hd2 = true := fun {l acc Hd2} e => by
    cases hg : gdOk g Hd2 with
    | true => rfl
    | false =>
      have : lcL g (asT t) ft fe (wipeD sd own) l acc Hd2 = .no := by cases l <;> simp [lcL, hg]
      rw [this] at e
      subst e
      exact p1.elim
  have nor : r ≠ .no := fun e => by subst e; exact p1
  refine lc_it wk (fun i H => ∃ w2 Hd2 ds acc, w2.xx D ∧ Ext w1 w2 H1 H ∧ Rel G w2 Hd2 H ∧ H D = some (.lst acc) ∧ RepVs G w2 H ds acc ∧ lcL g (asT t) ft fe (wipeD sd own) (xs.drop i) ds Hd2 = r) ?_ ?_ ?_ ?_
  · refine ⟨w1.pl D, Hd1, [], [], .inr rfl, ?_, rel1.tun rfl rfl (pl_tun hD) (Vw.notO hD1) (fun a h => h), upd_same, .nil, hr⟩
    have e := ext_new rel1 hD (.lst [])
    exact ⟨e.le, e.mu, e.fresh, e.keep, e.there, fun a h => h.elim .inl fun z => .inr (z ▸ hD), fun a h => .inl h⟩
  · rintro i H _ ⟨w2, Hd2, ds, acc, hx, e2, rel2, hacc, rv, e⟩
    exact ⟨w2, Hd2, e2, rel2, gdL e⟩
  · rintro i x H H' hi ⟨w2, Hd2, ds, acc, hx, e2, rel2, hacc, racc, e⟩ y
    have hgd := gdL e
    obtain ⟨e3, rel3, d, hd, rv⟩ := y w2 Hd2 e2 rel2 hgd
    rw [drop_at hd] at e
    simp only [lcL, hgd, if_true] at e
    have hacc3 : H' D = some (.lst acc) := e3.keep _ _ (rel2.xx D hx).2 hacc
    cases z : asT t d (wipeD sd own) with
    | none => rw [z] at e; exact absurd e.symm nor
    | some s1 =>
      rw [z] at e
      dsimp only at e
      refine pat_ok hK hxc t rel3 rv ((rs1.ext (e2.trans e3)).wipe hxc own) z fun H4 σ2 e4 rel4 rs4 on => ⟨?_, ?_⟩
      · rw [on.wipe hsl, wipe_idem]
      · refine ⟨w2, Hd2, s1, rel4, rs4, ?_⟩
        have hacc4 : H4 D = some (.lst acc) := e4.keep _ _ (rel2.xx D hx).2 hacc3
        generalize ft s1 Hd2 = rt at e
        cases rt with
        | no => exact absurd e.symm nor
        | ex x H5 => exact absurd e.symm nor
        | ok b H5 =>
          rw [Rs.bindN_ok] at e
          intro w5 H5' e5 rel5 v rvb
          cases (show v = b from rvb)
          have hacc5 : H5' D = some (.lst acc) := e5.keep _ _ (rel2.xx D hx).2 hacc4
          have hx5 : w5.xx D := e5.xl D hx
          have racc5 := ((racc.ext e3).ext e4).ext e5
          have e15 := ((e2.trans e3).trans e4).trans e5
          cases b with
          | false => exact iteF ⟨w5, H5, ds, acc, hx5, e15, rel5, hacc5, racc5, e⟩
          | true =>
            refine iteT ⟨w5, H5, s1, rel5, rs4.ext e5, ?_⟩
            simp only [if_true] at e
            generalize fe s1 H5 = re at e
            cases re with
            | no => exact absurd e.symm nor
            | ex x H6 => exact absurd e.symm nor
            | ok d6 H6 =>
              rw [Rs.bindN_ok] at e
              intro w6 H6' e6 rel6 v6 rv6
              split at e
              · rename_i hlt
                have hx6 : w6.xx D := e6.xl D hx5
                have racc6 := racc5.ext e6
                refine ⟨acc, e6.keep _ _ (rel5.xx D hx5).2 hacc5, by rw [← racc6.length, ← lim_eq]; exact hlt, w6, H6, ds ++ [d6], acc ++ [v6], hx6, ?_, ?_, upd_same, ?_, e⟩
                · have e16 := e15.trans e6
                  refine ⟨e16.le, e16.mu, e16.fresh, fun a o h1 h2 => ?_, fun a h => ?_, e16.xx, e16.xl⟩
                  · rw [upd_ne (ne_of_none h2 hD)]
                    exact e16.keep a o h1 h2
                  · by_cases q : a = D
                    · subst q; rw [upd_same]; simp
                    · rw [upd_ne q]; exact e16.there a h
                · exact rel6.tun rfl rfl (x_tun hx6) (rel6.xx D hx6).2 fun a h => .inl h
                · exact (racc6.append (.cons rv6 .nil)).tun rfl rfl (x_tun hx6)
              · exact absurd e.symm nor
  · rintro H ⟨w2, Hd2, ds, acc, hx, e2, rel2, hacc, racc, e⟩
    have hgd := gdL e
    rw [List.drop_length] at e
    simp only [lcL, hgd, if_true] at e
    subst e
    cases b with
    | false =>
      have hD2 : ¬ (w2.mi D).L D := fun z => z.elim (rel2.xx D hx).2 fun z => z.2 rfl
      exact p1 (w2.mi D) H ⟨e2.le, e2.mu, e2.fresh, e2.keep, e2.there, fun a h => e2.xx a h.1, fun a h => ⟨e2.xl a h, fun q => hD1 (.inr (q ▸ h))⟩⟩ rel2.mi _ (.lv hD2 hacc (RepVs.sub (w := w2) (w' := w2.mi D) rfl rfl mi_sub racc))
    | true =>
      have z : RepV G (w2.pr D) H (.ref Hd2.length) (.ref D) := by
        have := RepV.ref (G := G) (w := w2.pr D) (H := H) (r := w2.n) (Nat.lt_succ_self _)
        rw [show (w2.pr D).mu w2.n = D from add_n] at this
        rw [← rel2.n]
        exact this
      refine p1 (w2.pr D) H ⟨Nat.le_trans e2.le (Nat.le_succ _), fun i h => (add_lt (Nat.lt_of_lt_of_le h e2.le)).trans (e2.mu i h), fun i h h' => ?_, e2.keep, e2.there, fun a h => e2.xx a h.1, fun a h => ⟨e2.xl a h, fun q => hD1 (.inr (q ▸ h))⟩⟩ (rel2.pr hx hacc racc) _ z
      by_cases h2 : i < w2.n
      · rw [show (w2.pr D).mu i = w2.mu i from add_lt h2]; exact e2.fresh i h h2
      · have : i = w2.n := by have : i < w2.n + 1 := h'; omega
        subst this
        rw [show (w2.pr D).mu w2.n = D from add_n]; exact hD
theorem lc_read {b : Bool} {own : List Nat} {t : T} (hK : G.K = X.K) (hxc : G.exc = none) (hsl : ∀ i ∈ slT t, i ∈ own) : ∀ s H Q, tD G W (lcF b fi ft fe own t) s H Q → tLc (tDI G W fi) (tP X.K t) (tDT G W0 ft) (tD G W0 fe) own s H Q := fun σ H Q h => by
  obtain ⟨w, Hd, sd, rel, rs, p⟩ := h
  refine seq rel rs p fun q Hd1 w1 H1 J e1 rel1 rs1 wk p1 => ?_
  obtain ⟨xs, g⟩ := q
  dsimp only at p1
  exact lc_at hK hxc hsl rel1 rs1 wk p1
end
end DI
namespace DI
open PySem PySem.Spec PyProof.Rows L2
section
variable {X : Cx} {G : Gr} {W : WX} {pos p : Pos} {tg iter elt : Expr} {e c a b : Expr} {ifs : List Expr} {fi : Sd → HH → Rs (List D × Gd)} {ft : Sd → HH → Rs Bool} {fe fa fb : Sd → HH → Rs D}
theorem takes0 {X : Cx} : Takes X W0 := fun _ _ x => by
  obtain ⟨_, _, _, _, _, _, _, _, _, _, _, _, _, _, _, _, z⟩ := x
  exact z.elim
abbrev Blk (X : Cx) (scope : Scope) (F : Cx → Prop) : Prop := ∀ (s : Shared) (H : Hp) (C : Addr) (cl : List (Str × Addr)) (fp : List Addr), F (X.blk s H scope (compEnvC scope cl C X.env) fp)
theorem okx_blk (ok : Okx X G W) (scope : Scope) : Blk X scope fun Y => Okx Y G W0 := fun s H C cl fp =>
  ⟨ok.K, ok.gd, ok.un, ok.nd, takes0, PassesOwn.never⟩
theorem d_lc {lv : Bool} {scope : Scope} {own : List (Str × Nat)} {t : T} (ok : Okx X G W) (hx : G.exc = none) (hc : X.calm = true) (hfold : notSet iter = true) (hi : PI X tg iter (tDI G W fi)) (bk : BlkOk X.N X.env.scope scope own) (hsl : ∀ i ∈ slT t, i ∈ own.map (·.2))
    (hg : Blk X scope fun Y => PG Y tg (tP X.K t)) (ht : Blk X scope fun Y => PTs Y ifs (tDT G W0 ft)) (he : Blk X scope fun Y => PE Y elt (tD G W0 fe)) :
    PE X (.ListComp elt [⟨tg, iter, ifs, 0⟩] scope pos) (tD G W (lcF lv fi ft fe (own.map (·.2)) t)) :=
  PE.mono (pe_lc hc ok.nd hi bk hg ht he (fold_of hfold)) (lc_read ok.K hx hsl)

def plainBase : Expr → Bool
  | .Call _ [] _ _ => false
  | _ => true
theorem base_ok {o : Expr} {n : Str} {env : Env} {w : Sem Value} (h : plainBase o = true) : attributeBase o n env w = w := by
  cases o with
  | Call f as ks p =>
    cases as with
    | nil => simp [plainBase] at h
    | cons a as => cases f <;> rfl
  | _ => rfl
theorem few_ok {env : Env} (h : notStar e = true) : ((backTo pos (starEach [e] env)).all (fun x => !x.1) && (backToKw pos (keywordEach [] env)).all (fun x => x.1.isSome)
      && decide ([e].length + ([] : List Keyword).length + (if ([] : List Keyword).isEmpty then 0 else 1) < 30)) = true := by
  rw [star_cons h]; rfl
def mtN : MT → Str
  | .append => "append" | .extend => "extend" | .index => "index" | .join => "join" | .isalpha => "isalpha" | .split => "split" | .count => "count"
def mtId : MT → String
  | .append => "list.append" | .extend => "list.extend" | .index => "list.index" | .join => "str.join" | .isalpha => "str.isalpha" | .split => "str.split" | .count => "list.count"
def mtTy : MT → String
  | .append => "list" | .extend => "list" | .index => "list" | .join => "str" | .isalpha => "str" | .split => "str" | .count => "list"
/-- a method with one argument, by the evaluator -/
def rMt (G : Gr) (m : MT) : V → List V → Hp → VK → Prop := fun x xs H Q => ∃ w Hd dx ds d Hd', Rel G w Hd H ∧ RepV G w H dx x ∧ RepVs G w H ds xs ∧ mtE m dx ds Hd = .ok d Hd' ∧ ∀ w' H', Ext w w' H H' → Rel G w' Hd' H' → ∀ v, RepV G w' H' d v → Q v H'
theorem countP_py {y : D} (hy : plainD y = true) : ∀ {ys : List D}, plainDs ys = true → (toPys ys).countP (fun z => PyData.eqv z (toPy y)) = ys.countP fun z => eqD z y
  | [], _ => rfl
  | z :: r, h => by
    unfold plainDs at h
    rw [Bool.and_eq_true] at h
    simp only [toPys, List.countP_cons, countP_py hy h.2, eqv_py _ _ h.1 hy]
/-- l.count(x): how many are equal -/
def rCountD (K : PySem.W.Frag) : V → List V → Hp → VK → Prop := fun x xs H Q => ∃ (a : Addr) (y : V) (d : PyData) (ds : List PyData), x = V.ref a ∧ xs = [y] ∧ Dp K H (V.ref a) (.list ds) ∧ Dp K H y d ∧
  SeqAt.shaped (.list ds) = true ∧ SeqAt.shaped d = true ∧ Q (.int ((ds.countP fun z => PyData.eqv z d : Nat) : Int)) H
theorem mt_countD {X : Cx} (hu : X.A.units + 65 < cLine) : MtR X "list.count" (rCountD X.K) := by
  intro pins s σ H x xs v us Q I rx rxs h
  obtain ⟨a, y, d, ds, rfl, rfl, hl, hy, sl, sd, q⟩ := h
  cases rx
  cases rxs with
  | cons ry rt =>
    rename_i uy ut
    cases rt
    obtain ⟨bs, r1⟩ := Dp.reads I d y uy hy ry
    have hxs : PyData.canLayAll0 ds = true := SeqAt.canLay_of_shaped sl
    have hroom : X.A.units + 1 + min (PyData.depthAll ds) d.depth < cLine := room_in_shaped sd hu
    cases hl with
    | lst hs ha =>
      obtain ⟨its, rv, ⟨⟨cls, dd, data, sls⟩, n, ho, hc, hdn, hdt⟩, hlen⟩ := I.list hs
      simp only at hc hdt
      subst hc hdt
      obtain ⟨as, h4⟩ := Dp.readsAll I ds _ its ha rv
      have hmap : its.map (SeqAt.readOf s.heap) = ds := SeqAt.readsAll_map ds its as hxs h4
      refine call_meets PySem.F.slot_list_count ⟨_, ho, rfl⟩ PySem.F.entry_list_count (PySem.F.args_list_count_2 _ _)
        (SeqAt.list_countAt a its.toArray n dd sls uy (fun u => PyData.eqv (SeqAt.readOf s.heap u) d)) ⟨ho, SeqAt.items_eqAt (vs := its.toArray) (show ReadsAll s.heap its.toArray.toList ds as from h4) r1 hxs (SeqAt.canLay_of_shaped sd) hroom, ?_⟩
      have ec : its.toArray.toList.countP (fun u => PyData.eqv (SeqAt.readOf s.heap u) d) = ds.countP fun z => PyData.eqv z d := by
        rw [← hmap, List.countP_map]; rfl
      refine ⟨.int ((ds.countP fun z => PyData.eqv z d : Nat) : Int), H, I.tok _, ⟨s.toks, ?_⟩, q⟩
      rw [ec]
theorem idx_ok (y : D) : ∀ (ys : List D) (k j : Nat), idxD y ys k = some j → ∃ (i : Nat) (z : D), j = k + i ∧ ys[i]? = some z ∧ eqD z y = true ∧ ∀ (m : Nat) (z' : D), m < i → ys[m]? = some z' → eqD z' y = false
  | [], k, j, h => by cases h
  | z :: r, k, j, h => by
    unfold idxD at h
    cases hz : eqD z y with
    | true =>
      rw [hz] at h
      cases h
      exact ⟨0, z, rfl, rfl, hz, fun m z' hm => absurd hm (Nat.not_lt_zero _)⟩
    | false =>
      rw [hz] at h
      obtain ⟨i, u, h1, h2, h3, h4⟩ := idx_ok y r (k + 1) j h
      refine ⟨i + 1, u, by omega, by simpa using h2, h3, fun m z' hm hz' => ?_⟩
      cases m with
      | zero => simp at hz'; subst hz'; exact hz
      | succ m => exact h4 m z' (by omega) (by simpa using hz')
theorem toPys_get : ∀ {ds : List D} {i : Nat} {z : D}, ds[i]? = some z → (toPys ds)[i]? = some (toPy z)
  | [], _, _, h => by simp at h
  | d :: ds, 0, z, h => by simp at h; subst h; simp [toPys]
  | d :: ds, i + 1, z, h => by simp only [toPys]; simpa using toPys_get (ds := ds) (i := i) (by simpa using h)
theorem toPys_back : ∀ {ds : List D} {i : Nat} {z : PyData}, (toPys ds)[i]? = some z → ∃ d, ds[i]? = some d ∧ z = toPy d
  | [], _, _, h => by simp [toPys] at h
  | d :: ds, 0, z, h => by simp [toPys] at h; exact ⟨d, rfl, h.symm⟩
  | d :: ds, i + 1, z, h => by
    simp only [toPys, List.getElem?_cons_succ] at h
    obtain ⟨u, h1, h2⟩ := toPys_back h
    exact ⟨u, by simpa using h1, h2⟩
theorem plains_get : ∀ {ds : List D} {i : Nat} {z : D}, plainDs ds = true → ds[i]? = some z → plainD z = true
  | [], _, _, _, h => by simp at h
  | d :: ds, 0, z, p, h => by simp at h; subst h; unfold plainDs at p; rw [Bool.and_eq_true] at p; exact p.1
  | d :: ds, i + 1, z, p, h => by unfold plainDs at p; rw [Bool.and_eq_true] at p; exact plains_get (ds := ds) (i := i) p.2 (by simpa using h)
theorem mt_lists {m : MT} {x : D} {xs : List D} {Hd Hd' : HH} {d : D} (hm : isMu m = true) (h : mtE m x xs Hd = .ok d Hd') : ∃ r ys y, x = .ref r ∧ Hd[r]? = some (.lst ys) ∧ xs = [y] ∧ muD m x xs Hd = some (d, Hd') := by
  unfold mtE at h
  rw [if_pos hm] at h
  cases q : muD m x xs Hd with
  | none => rw [q] at h; cases h
  | some p =>
    rw [q] at h
    obtain ⟨d', H'⟩ := p
    cases h
    have q' := q
    unfold muD at q
    split at q
    · rename_i r
      split at q
      · rename_i ys e
        split at q
        · exact ⟨r, ys, _, rfl, e, rfl, rfl⟩
        · exact ⟨r, ys, _, rfl, e, rfl, rfl⟩
        · cases q
      · cases q
    · cases q
theorem joinL_eq (a : List Nat) : ∀ ys : List (List Nat), TL.joinL a ys = joinL a ys
  | [] => rfl
  | [x] => rfl
  | x :: y :: r => by
    show x ++ (a ++ TL.joinL a (y :: r)) = x ++ (a ++ joinL a (y :: r))
    rw [joinL_eq a (y :: r)]
theorem mt_ok (ok : Okx X G W) (m : MT) : MtR X (mtId m) (rMt G m) := by
  intro pins s σ H x xs v us Q I rx rxs h
  obtain ⟨w, Hd, dx, ds, d, Hd', rel, hx, hxs, e, q⟩ := h
  have mu : isMu m = true → ∃ r ys y u l vs, dx = .ref r ∧ Hd[r]? = some (.lst ys) ∧ ds = [y] ∧ xs = [u] ∧ RepV G w H y u ∧ muD m dx ds Hd = some (d, Hd') ∧ x = .ref l ∧ l = w.mu r ∧ r < w.n ∧ H l = some (.lst vs) ∧ RepVs G w H ys vs := fun hm => by
    obtain ⟨r, ys, y, rfl, h1, rfl, h2⟩ := mt_lists hm e
    cases hx with
    | ref hr =>
      have z := rel.obj r _ h1
      cases z with
      | lst h3 h4 =>
        cases hxs with
        | cons ra rb =>
          cases rb
          exact ⟨r, ys, y, _, _, _, rfl, h1, rfl, rfl, ra, h2, rfl, rfl, hr, h3, h4⟩
  cases m with
  | append =>
    obtain ⟨r, ys, y, u, l, vs, rfl, h1, rfl, rfl, ry, h2, rfl, rfl, hr, h3, h4⟩ := mu rfl
    simp only [muD, h1] at h2
    split at h2
    · rename_i hl
      cases h2
      exact mt_append pins s σ H _ _ v us Q I rx rxs ⟨_, vs, u, rfl, rfl, h3, by rw [← h4.length, ← lim_eq]; exact hl, q w _ (ext_set rel hr _) (rel_set rel hr (h4.append (.cons ry .nil))) _ .non⟩
    · cases h2
  | extend =>
    obtain ⟨r, ys, y, u, l, vs, rfl, h1, rfl, rfl, ry, h2, rfl, rfl, hr, h3, h4⟩ := mu rfl
    simp only [muD, h1] at h2
    have ry' := repW_view rel ry
    split at h2
    · rename_i zs hz
      rw [hz] at ry'
      obtain ⟨b, us', rfl, h5, h6⟩ := ry'
      split at h2
      · rename_i hl
        cases h2
        exact mt_extend pins s σ H _ _ v us Q I rx rxs ⟨_, b, vs, us', rfl, rfl, h3, h5, by rw [← h4.length, ← h6.length, ← lim_eq]; exact hl, q w _ (ext_set rel hr _) (rel_set rel hr (h4.append h6)) _ .non⟩
      · cases h2
    · cases h2
  | count =>
    simp only [mtE, isMu, Bool.false_eq_true, if_false, mtD] at e
    have rx' := repW_view rel hx
    have rs' := repWs_view rel hxs
    split at e
    · rename_i ys y ex es
      rw [ex] at rx'
      rw [es] at rs'
      obtain ⟨a, vs, rfl, h1, h2⟩ := rx'
      obtain ⟨u, rfl, ru⟩ := pair1 rs'
      split at e
      · rename_i hl
        rw [Bool.and_eq_true] at hl
        obtain ⟨p1, s1⟩ := shaped_py hl.1
        obtain ⟨p2, s2⟩ := shaped_py hl.2
        cases e
        have hd := dpW_of (X := X) ok.K (d := .lv ys) p2 ⟨a, vs, rfl, h1, h2⟩
        have p2' : plainDs ys = true := by unfold plainD at p2; exact p2
        unfold toPy at hd s2
        refine mt_countD (by have := ok.un; omega) pins s σ H _ _ v us Q I rx rxs ⟨a, u, toPy y, toPys ys, rfl, rfl, hd, dpW_of ok.K p1 ru, s2, s1, ?_⟩
        rw [countP_py p1 p2']
        exact q w H (Ext.refl _ _) rel _ (.int _)
      · cases e
    · cases e
  | index =>
    simp only [mtE, isMu, Bool.false_eq_true, if_false, mtD] at e
    have rx' := repW_view rel hx
    have rs' := repWs_view rel hxs
    split at e
    · rename_i ys y ex es
      rw [ex] at rx'
      rw [es] at rs'
      obtain ⟨a, vs, rfl, h1, h2⟩ := rx'
      obtain ⟨u, rfl, ru⟩ := pair1 rs'
      split at e
      · rename_i hl
        rw [Bool.and_eq_true] at hl
        obtain ⟨p1, s1⟩ := shaped_py hl.1
        obtain ⟨p2, s2⟩ := shaped_py hl.2
        cases q0 : idxD y ys 0 with
        | none => rw [q0] at e; cases e
        | some j =>
          rw [q0] at e
          cases e
          obtain ⟨i, z, rfl, h3, h4, h5⟩ := idx_ok y ys 0 j q0
          have hd := dpW_of (X := X) ok.K (d := .lv ys) p2 ⟨a, vs, rfl, h1, h2⟩
          have p2' : plainDs ys = true := by unfold plainD at p2; exact p2
          unfold toPy at hd s2
          refine mt_indexD (by have := ok.un; omega) pins s σ H _ _ v us Q I rx rxs ⟨a, u, toPy y, toPys ys, i, toPy z, rfl, rfl, hd, dpW_of ok.K p1 ru, s2, s1, toPys_get h3, ?_, ?_, ?_⟩
          · rw [eqv_py _ _ (plains_get p2' h3) p1]; exact h4
          · intro m z' hm hz'
            obtain ⟨d', h6, rfl⟩ := toPys_back hz'
            rw [eqv_py _ _ (plains_get p2' h6) p1]
            exact h5 m d' hm h6
          · rw [show ((i : Nat) : Int) = ((0 + i : Nat) : Int) by omega]
            exact q w H (Ext.refl _ _) rel _ (.int _)
      · cases e
    · cases e
  | join =>
    simp only [mtE, isMu, Bool.false_eq_true, if_false, mtD] at e
    have rx' := repW_view rel hx
    have rs' := repWs_view rel hxs
    have fin : ∀ (sep : List Nat) (zs : List (List Nat)) (p : Addr), x = .str ⟨sep.toArray⟩ → xs = [.ref p] → (SqL X.K H p ((zs.map fun x => (⟨x.toArray⟩ : Str)).map V.str) ∨ SqT X.K H p ((zs.map fun x => (⟨x.toArray⟩ : Str)).map V.str)) →
        (zs.map (·.length)).sum + zs.length * sep.length ≤ lim → d = .str (joinL sep zs) → Hd' = Hd → wpAny (model X.prog X.w) X.A (call (.builtin (mtId .join)) (v :: us)) (L2.EP X pins σ Q) X.xe s := by
      rintro sep zs p rfl rfl hp hl rfl rfl
      refine mt_join pins s σ H _ _ v us Q I rx rxs ⟨_, p, zs.map fun x => (⟨x.toArray⟩ : Str), rfl, rfl, hp, ?_, ?_⟩
      · rw [List.map_map, List.length_map, str_len]
        have : ((fun x : Str => x.length) ∘ fun x : List Nat => (⟨x.toArray⟩ : Str)) = fun x => x.length := by funext x; exact str_len x
        rw [this]
        exact hl
      · have := SX.join_S sep zs
        have e2 : Txt.join (⟨sep.toArray⟩ : Str) (zs.map fun x => (⟨x.toArray⟩ : Str)) = ⟨(joinL sep zs).toArray⟩ := by
          rw [← joinL_eq]; exact this
        rw [e2]
        exact q w H (Ext.refl _ _) rel _ (.str _)
    split at e
    · rename_i sep ys ex es
      rw [ex] at rx'
      rw [es] at rs'
      have rx' : RepV G w H (.str sep) x := rx'
      cases rx'
      obtain ⟨u, rfl, ru⟩ := pair1 rs'
      obtain ⟨p, vs, rfl, h1, h2⟩ := ru
      cases q0 : strsOf ys with
      | none => rw [q0] at e; cases e
      | some zs =>
        rw [q0] at e
        have hv := strs_rep h2 q0
        subst hv
        dsimp only at e
        split at e
        · rename_i hl
          cases e
          exact fin sep zs p rfl rfl (.inl (SqL.of h1)) hl rfl rfl
        · cases e
    · rename_i sep ys ex es
      rw [ex] at rx'
      rw [es] at rs'
      have rx' : RepV G w H (.str sep) x := rx'
      cases rx'
      obtain ⟨u, rfl, ru⟩ := pair1 rs'
      have ru : RepV G w H (.tup ys) u := ru
      cases ru with
      | tup t h2 =>
        cases q0 : strsOf ys with
        | none => rw [q0] at e; cases e
        | some zs =>
          rw [q0] at e
          have hv := strs_rep h2 q0
          subst hv
          dsimp only at e
          split at e
          · rename_i hl
            cases e
            exact fin sep zs _ rfl rfl (.inr (ok.K ▸ t.sq)) hl rfl rfl
          · cases e
    · cases e
  | isalpha =>
    simp only [mtE, isMu, Bool.false_eq_true, if_false, mtD] at e
    have rx' := repW_view rel hx
    have rs' := repWs_view rel hxs
    split at e
    · rename_i z ex es
      rw [ex] at rx'
      rw [es] at rs'
      cases e
      have rx' : RepV G w H (.str z) x := rx'
      cases rx'
      cases rs'
      exact mt_isalpha pins s σ H _ _ v us Q I rx rxs ⟨_, rfl, rfl, trivial, q w H (Ext.refl _ _) rel _ (.bl _)⟩
    · cases e
  | split =>
    simp only [mtE, isMu, Bool.false_eq_true, if_false, mtD] at e
    have rx' := repW_view rel hx
    have rs' := repWs_view rel hxs
    split at e
    · rename_i z b ex es
      rw [ex] at rx'
      rw [es] at rs'
      split at e
      · rename_i hl
        cases e
        have rx' : RepV G w H (.str z) x := rx'
        cases rx'
        obtain ⟨u, rfl, ru⟩ := pair1 rs'
        have ru : RepV G w H (.str b) u := ru
        cases ru
        refine mt_split pins s σ H _ _ v us Q I rx rxs ⟨_, _, rfl, rfl, ?_, ?_, fun p hp => ?_⟩
        · rw [str_len]
          have : b.length ≠ 0 := fun h => hl.1 (List.length_eq_zero_iff.mp h)
          simpa using this
        · rw [str_len, ← lim_eq]; exact hl.2
        · have rv : ∀ l : List Str, RepVs G w H (l.map fun y => D.str y.cps.toList) (l.map V.str) := fun l => by
            induction l with
            | nil => exact .nil
            | cons y l ih =>
              refine .cons ?_ ih
              have z := RepV.str (G := G) (w := w) (H := H) y.cps.toList
              rw [str_back] at z
              exact z
          exact q w _ (ext_new rel hp _) (rel_new rel hp _) _ (new_lv rel hp (rv _))
      · cases e
    · cases e
end
end DI
namespace DI
open PySem PySem.Spec PyProof.Rows L2
section
variable {X : Cx} {G : Gr} {W : WX} {pos p : Pos} {tg iter elt : Expr} {e c a b o : Expr} {ft : Sd → HH → Rs Bool} {fe fa fb fo : Sd → HH → Rs D} {fs : Sd → HH → Rs (List D)}
theorem mt_rcv {m : MT} {w : Vw} {H : Hp} {Hd : HH} {d : D} {v : V} {K : PySem.W.Frag} (rel : Rel G w Hd H) (r : RepV G w H d v) (h : rcvOk m (viewD Hd d) = true) : tyV K (mtTy m) v H := by
  have r' := repW_view rel r
  cases m <;> (generalize viewD Hd d = y at r' h; cases y <;> first | (simp [rcvOk] at h; done) | skip) <;> first
    | (obtain ⟨a, vs, rfl, h1, _⟩ := r'; exact .inl ⟨rfl, vs, SqL.of h1⟩)
    | (have r' := (show RepV G w H (.str _) v from r'); cases r'; exact rfl)
theorem d_mt {apos : Pos} {n : Str} (ok : Okx X G W) (m : MT) (hn : n = mtN m) (hb : plainBase o = true) (hs : notStar e = true) (hl : (apos.endLine == pos.line) = true) (ho : PE X o (tD G W fo)) (he : PA X [e] (tDA G W fs)) :
    PE X (.Call (.Attribute o n apos) [e] [] pos) (tD G W fun s H => (fo s H).bind fun x H1 => if rcvOk m (viewD H1 x) then (fs s H1).bind fun ds H2 => mtE m x ds H2 else .no) := by
  subst hn
  have core : PE X (.Call (.Attribute o (mtN m) apos) [e] [] pos) (tBM X.K (mtTy m) (rMt G m) (tD G W fo) (tDA G W fs)) := by
    have hm := mt_ok ok m
    cases m with
    | append => exact pe_bm PySem.F.plainAttrs_list PySem.F.slot_list_append PySem.F.type_list_append hm ho he (base_ok hb) (few_ok hs) hl (star_cons hs) rfl
    | extend => exact pe_bm PySem.F.plainAttrs_list PySem.F.slot_list_extend PySem.F.type_list_extend hm ho he (base_ok hb) (few_ok hs) hl (star_cons hs) rfl
    | count => exact pe_bm PySem.F.plainAttrs_list PySem.F.slot_list_count PySem.F.type_list_count hm ho he (base_ok hb) (few_ok hs) hl (star_cons hs) rfl
    | index => exact pe_bm PySem.F.plainAttrs_list PySem.F.slot_list_index PySem.F.type_list_index hm ho he (base_ok hb) (few_ok hs) hl (star_cons hs) rfl
    | join => exact pe_bm PySem.F.plainAttrs_str PySem.F.slot_str_join PySem.F.type_str_join hm ho he (base_ok hb) (few_ok hs) hl (star_cons hs) rfl
    | split => exact pe_bm PySem.F.plainAttrs_str PySem.F.slot_str_split PySem.F.type_str_split hm ho he (base_ok hb) (few_ok hs) hl (star_cons hs) rfl
    | isalpha => exact pe_bm PySem.F.plainAttrs_str PySem.F.slot_str_isalpha PySem.F.type_str_isalpha hm ho he (base_ok hb) (few_ok hs) hl (star_cons hs) rfl
  refine PE.mono core fun s H Q h => ?_
  obtain ⟨w, Hd, sd, rel, rs, p⟩ := h
  refine seq rel rs p fun x Hd1 w1 H1 v e1 rel1 rs1 r1 p1 => ?_
  split at p1
  · rename_i hr
    refine ⟨mt_rcv rel1 r1 hr, ?_⟩
    refine seq rel1 rs1 p1 fun xs Hd2 w2 H2 vs e2 rel2 rs2 r2 p2 => ?_
    cases q : mtE m x xs Hd2 with
    | ok d Hd3 => rw [q] at p2; exact ⟨w2, Hd2, x, xs, d, Hd3, rel2, r1.ext e2, r2, q, p2⟩
    | ex y Hd3 =>
      exfalso
      unfold mtE at q
      split at q
      · split at q <;> cases q
      · cases z : mtD m (viewD Hd2 x) (xs.map (viewD Hd2)) with
        | none => rw [z] at q; cases q
        | some d => rw [z] at q; cases q
    | no => rw [q] at p2; exact p2.elim
  · exact p1.elim
/-- a method without arguments -/
theorem d_mt0 {apos : Pos} (ok : Okx X G W) (hb : plainBase o = true) (hl : (apos.endLine == pos.line) = true) (ho : PE X o (tD G W fo)) :
    PE X (.Call (.Attribute o "isalpha" apos) [] [] pos) (tD G W fun s H => (fo s H).bind fun x H1 => if rcvOk .isalpha (viewD H1 x) then mtE .isalpha x [] H1 else .no) := by
  have core : PE X (.Call (.Attribute o "isalpha" apos) [] [] pos) (tBM0 X.K (mtTy .isalpha) (rMt G .isalpha) (tD G W fo)) :=
    pe_bm0 PySem.F.plainAttrs_str PySem.F.slot_str_isalpha PySem.F.type_str_isalpha (mt_ok ok .isalpha) ho (base_ok hb) hl
  refine PE.mono core fun s H Q h => ?_
  obtain ⟨w, Hd, sd, rel, rs, p⟩ := h
  refine seq rel rs p fun x Hd1 w1 H1 v e1 rel1 rs1 r1 p1 => ?_
  split at p1
  · rename_i hr
    refine ⟨mt_rcv rel1 r1 hr, ?_⟩
    cases q : mtE .isalpha x [] Hd1 with
    | ok d Hd3 => rw [q] at p1; exact ⟨w1, Hd1, x, [], d, Hd3, rel1, r1, .nil, q, p1⟩
    | ex y Hd3 =>
      exfalso
      unfold mtE at q
      rw [if_neg (by decide)] at q
      cases z : mtD .isalpha (viewD Hd1 x) ([].map (viewD Hd1)) with
      | none => rw [z] at q; cases q
      | some d => rw [z] at q; cases q
    | no => rw [q] at p1; exact p1.elim
  · exact p1.elim
def tyList : List (String × Value) := [("int", .type "int"), ("str", .type "str"), ("bool", .type "bool"), ("tuple", .type "tuple"), ("list", .type "list"), ("dict", .type "dict")]
def kitRow (n : String) : Bool := (kitB "NoneType" n == some (n == "NoneType")) && (kitB "bool" n == some (n == "bool" || n == "int")) && (kitB "int" n == some (n == "int")) && (kitB "str" n == some (n == "str")) && (kitB "tuple" n == some (n == "tuple")) && (kitB "list" n == some (n == "list")) && (kitB "dict" n == some (n == "dict"))
theorem ty_name : ∀ n ∈ tyList, bootBuiltins (n.1 : Str) = some n.2 ∧ n.2 = .type n.1 ∧ (n.1 : Str) ≠ "__name__" ∧ ((n.1 : Str) == ("__debug__" : Str)) = false ∧ kitRow n.1 = true := by
  intro n hn
  unfold tyList at hn
  simp only [List.mem_cons, List.mem_singleton, List.not_mem_nil, or_false] at hn
  rcases hn with rfl | rfl | rfl | rfl | rfl | rfl <;> decide +kernel
def rIsD (G : Gr) (n : String) : List V → Hp → VK → Prop := fun xs H Q => ∃ x w d b, xs = [x, .ty n] ∧ RepW G w H d x ∧ tyIs n d = some b ∧ Q (.bl b) H
theorem isi_ok (ok : Okx X G W) {n : String} (hk : kitRow n = true) : CallR X (.builtin "isinstance") (rIsD G n) := by
  intro pins s σ H xs us Q I r h
  obtain ⟨x, w, d, b, rfl, rv, hb, q⟩ := h
  unfold kitRow at hk
  simp only [Bool.and_eq_true, beq_iff_eq] at hk
  obtain ⟨⟨⟨⟨⟨⟨k1, k2⟩, k3⟩, k4⟩, k5⟩, k6⟩, k7⟩ := hk
  have go : ∀ t : String, TyX X.K H x (.type t) → kitB t n = some b → wpAny (model X.prog X.w) X.A (call (.builtin "isinstance") us) (L2.EP X pins σ Q) X.xe s := fun t ty e =>
    call_isi pins s σ H _ us Q I r ⟨x, .ty n, .type t, .type n, b, rfl, .ty n, ty, kit_ty e, q⟩
  unfold tyIs at hb
  split at hb
  · have rv : RepV G w H .non x := rv
    cases rv; rw [← hb] at go; exact go _ (.base .non) k1
  · have rv : RepV G w H (.bl _) x := rv
    cases rv; rw [← hb] at go; exact go _ (.base (.bl _)) k2
  · have rv : RepV G w H (.int _) x := rv
    cases rv; rw [← hb] at go; exact go _ (.base (.int _)) k3
  · have rv : RepV G w H (.str _) x := rv
    cases rv; rw [← hb] at go; exact go _ (.base (.str _)) k4
  · have rv : RepV G w H (.tup _) x := rv
    rw [← hb] at go
    cases rv with
    | tup t _ =>
      rcases t with ⟨_, t | ⟨o, t⟩⟩ | t
      · exact go _ (.base (.tup t)) k5
      · exact go _ (.fTuple t) k5
      · obtain ⟨o, its, n, h1, h2, _⟩ := ok.K ▸ t
        exact go _ (.kTuple h1 h2) k5
  · rw [← hb] at go
    obtain ⟨a, vs, rfl, h1, _⟩ := rv
    exact go _ (.base (.lst h1)) k6
  · rw [← hb] at go
    obtain ⟨a, kvs, rfl, h1, _⟩ := rv
    exact go _ (.base (.dK h1)) k7
  · cases hb
theorem d_isi {p2 : Pos} (ok : Okx X G W) {n : String × Value} (hn : n ∈ tyList) (hg : Gl X "isinstance") (hm : X.mg "isinstance" = none) (hg2 : Gl X (n.1 : Str)) (hm2 : X.mg (n.1 : Str) = none) (hs : notStar a = true) (ha : PE X a (tD G W fa)) :
    PE X (.Call (.Name "isinstance" p) [a, .Name (n.1 : Str) p2] [] pos) (tD G W fun s H => (fa s H).bind fun x H1 => Rs.ofO ((tyIs n.1 (viewD H1 x)).map .bl) H1) := by
  obtain ⟨t1, t2, t3, t4, t5⟩ := ty_name n hn
  have hty : PE X (.Name (n.1 : Str) p2) (tC (.ty n.1)) := pe_bltn hg2 hm2 t1 (by rw [t2]; rfl) t3 t4
  have hpa : PA X [a, .Name (n.1 : Str) p2] (tCons (tD G W fa) (tCons (tC (.ty n.1)) tNil)) := pa_cons ha (pa_cons hty pa_nil (by rfl)) (star_cons hs)
  refine PE.mono (pe_callB (isi_ok ok t5) hg hm (by decide +kernel) hpa (by decide +kernel) (by decide +kernel) (star_cons hs) (by rfl)) fun s H Q h => ?_
  obtain ⟨w, Hd, sd, rel, rs, p⟩ := h
  refine seq rel rs p fun x Hd1 w1 H1 v e1 rel1 rs1 r1 p1 => ?_
  obtain ⟨d, hd, q⟩ := ofO_post p1
  cases e : tyIs n.1 (viewD Hd1 x) with
  | none => rw [e] at hd; cases hd
  | some k =>
    rw [e] at hd
    cases hd
    exact ⟨v, w1, _, k, rfl, repW_view rel1 r1, e, q w1 H1 (Ext.refl _ _) rel1 _ (.bl _)⟩
variable {st : Stmt} {rest body : List Stmt} {f g : Sd → HH → RS}
theorem s_nil : PSs X [] (tDS G W fun s H => .go (.nx s) H) := PSs.mono pss_nil fun D s H h => by
  obtain ⟨w, Hd, sd, rel, rs, p⟩ := h
  exact p w H (Ext.refl _ _) rel _ rs
theorem s_cons (h1 : PS X st (tDS G W f)) (h2 : PSs X rest (tDS G W g)) : PSs X (st :: rest) (tDS G W fun s H => match f s H with
      | .go (.nx s1) H1 => g s1 H1
      | x => x) := PSs.mono (pss_cons h1 h2) fun D s H h => by
  obtain ⟨w, Hd, sd, rel, rs, p⟩ := h
  refine ⟨w, Hd, sd, rel, rs, ?_⟩
  dsimp only at p
  generalize f sd Hd = r at p
  cases r with
  | no => exact p
  | ex x s5 H5 => exact p
  | go fl H5 =>
    cases fl with
    | nx s5 => exact fun w' H' e rel' v rv => ⟨w', H5, s5, rel', rv, p.step e⟩
    | ct s5 => exact p
    | bk s5 => exact p
    | rt d => exact p
def notComp : Expr → Bool
  | .ListComp _ _ _ _ => false
  | .SetComp _ _ _ _ => false
  | .DictComp _ _ _ _ _ => false
  | _ => true
theorem sw_none {t : Option Expr} {l : Nat} {env : Env} (h : notComp e = true) : swapsWith e t l env = pure false := by
  cases e <;> first | rfl | (simp [notComp] at h; done)
def notTup : Expr → Bool
  | .Tuple _ _ _ => false
  | .List _ _ => false
  | _ => true
def notTup1 : Expr → Bool
  | .Tuple _ _ _ => false
  | _ => true
theorem sst_none {env : Env} (h : notTup tg = true ∨ notTup1 e = true) : swappedStores [tg] e env = pure none := by
  rcases h with h | h
  · cases tg <;> first | rfl | (simp [notTup] at h; done)
  · cases tg <;> first | rfl | (cases e <;> first | rfl | (simp [notTup1] at h; done))
/-- a pattern stored -/
theorem s_asg {t : T} (ok : Okx X G W) (hx : G.exc = none) (hsw : swapsWith e (some tg) pos.line X.env = pure false) (hst : swappedStores [tg] e X.env = pure none) (hq : notStar tg = true) (he : PE X e (tD G W fe)) (hg : PG X tg (tP X.K t)) :
    PS X (.Assign [tg] e pos) (tDS G W fun s H => (fe s H).st s fun d H1 => match asT t d s with | some s2 => .go (.nx s2) H1 | none => .no) := PS.mono (ps_asg he hg hsw hst (by cases tg <;> first | rfl | (simp [notStar] at hq; done))) fun D s H h => by
  obtain ⟨w, Hd, sd, rel, rs, p⟩ := h
  refine seqS rel rs p fun x Hd1 w1 H1 v e1 rel1 rs1 r1 p1 => ?_
  cases z : asT t x sd with
  | none => rw [z] at p1; exact p1.elim
  | some s2 =>
    rw [z] at p1
    exact pat_ok ok.K hx t rel1 r1 rs1 z fun H' s' e' rel' rs' _ => p1 w1 H' e' rel' s' rs'
/-- name = e, not the suite's own name -/
theorem s_asgN {i : Nat} {y : Str} {py : Pos} (ok : Okx X G W) (hne : ∀ j a da f d, G.exc = some (j, a, da, f, d) → j ≠ i) (hi : X.N[i]? = some y) (hl : L2.Loc X.env.scope y) (hf : X.fn y = true ∨ X.env.scope.names.lookup y = some .local) (hc : notComp e = true) (he : PE X e (tD G W fe)) :
    PS X (.Assign [.Name y py] e pos) (tDS G W fun s H => (fe s H).st s fun d H1 => match asT (.nm i) d s with | some s2 => .go (.nx s2) H1 | none => .no) := PS.mono (ps_set ok.nd hi hl he (sw_none (t := some (.Name y py)) (l := pos.line) (env := X.env) hc) hf) fun D s H h => by
  obtain ⟨w, Hd, sd, rel, rs, p⟩ := h
  exact seqS rel rs p fun x Hd1 w1 H1 v e1 rel1 rs1 r1 p1 => p1 w1 H1 (Ext.refl _ _) rel1 _ (rs1.setX i hne r1)
theorem s_upk {t : T} (ok : Okx X G W) (hx : G.exc = none) (hsw : swapsWith e (some tg) pos.line X.env = pure false) (hst : swappedStores [tg] e X.env = pure none) (hq : notStar tg = true) (he : PE X e (tD G W fe)) (hg : PG X tg (tP X.K t)) :
    PS X (.Assign [tg] e pos) (tDS G W fun s H => (fe s H).st s fun d H1 => match asV H1 t d s with | some s2 => .go (.nx s2) H1 | none => .no) := PS.mono (ps_asg he hg hsw hst (by cases tg <;> first | rfl | (simp [notStar] at hq; done))) fun D s H h => by
  obtain ⟨w, Hd, sd, rel, rs, p⟩ := h
  refine seqS rel rs p fun x Hd1 w1 H1 v e1 rel1 rs1 r1 p1 => ?_
  have rw1 := repW_view rel1 r1
  cases z : asV Hd1 t x sd with
  | none => rw [z] at p1; exact p1.elim
  | some s2 =>
    rw [z] at p1
    unfold asV at z
    cases t with
    | nm i => cases z
    | tp ts =>
      dsimp only at z
      generalize viewD Hd1 x = y at z rw1
      cases y with
      | lv xs =>
        obtain ⟨q, vs, rfl, h1, h2⟩ := rw1
        exact upk_ok ok.K hx ts rel1 h2 rs1 z (SqL.of h1) fun H' s' e' rel' rs' => p1 w1 H' e' rel' s' rs'
      | _ => cases z
/-- name = [..] on one line -/
theorem s_setLc {lv : Bool} {i : Nat} {y : Str} {py lpos : Pos} {iter elt : Expr} {ifs : List Expr} {fi : Sd → HH → Rs (List D × Gd)} {scope : Scope} {own : List (Str × Nat)} {t : T} (ok : Okx X G W) (hx : G.exc = none) (hc : X.calm = true) (hy : X.N[i]? = some y) (hyl : X.env.scope.names.lookup y = some .local)
    (hsw : swapsWith (.ListComp elt [⟨tg, iter, ifs, 0⟩] scope lpos) (some (.Name y py)) pos.line X.env = pure true)
    (hfold : notSet iter = true) (hi : PI X tg iter (tDI G W fi)) (bk : BlkOk X.N X.env.scope scope own) (hsl : ∀ i ∈ slT t, i ∈ own.map (·.2))
    (hg : Blk X scope fun Y => PG Y tg (tP X.K t)) (ht : Blk X scope fun Y => PTs Y ifs (tDT G W0 ft)) (he : Blk X scope fun Y => PE Y elt (tD G W0 fe)) :
    PS X (.Assign [.Name y py] (.ListComp elt [⟨tg, iter, ifs, 0⟩] scope lpos) pos) (tDS G W fun s H => (lcF lv fi ft fe (own.map (·.2)) t s H).st s fun d H1 => match asT (.nm i) d s with | some s2 => .go (.nx s2) H1 | none => .no) :=
  PS.mono (ps_setLc hc ok.nd hy hyl hsw hi bk hg ht he (fold_of hfold)) fun D s H h => by
    obtain ⟨w, Hd, sd, rel, rs, p⟩ := h
    refine lc_read (b := lv) ok.K hx hsl s H _ ?_
    exact seqS rel rs p fun x Hd1 w1 H1 v e1 rel1 rs1 r1 p1 => p1 w1 H1 (Ext.refl _ _) rel1 _ (rs1.set hx i r1)
theorem s_sub {i : Expr} {tpos : Pos} {fx : Sd → HH → Rs D} (ok : Okx X G W) (hx : plainIx i = true) (hc : notComp e = true) (he : PE X e (tD G W fe)) (ho : PE X o (tD G W fo)) (hi : PE X i (tD G W fx)) :
    PS X (.Assign [.Subscript o i tpos] e pos) (tDS G W fun s H => (fe s H).st s fun d H1 => (fo s H1).st s fun x H2 => (fx s H2).st s fun y H3 => setE x y d s H3) :=
  PS.mono (ps_asg he (pg_sub ho hi set_list (by intro v; cases i <;> first | rfl | (simp [plainIx] at hx; done))) (sw_none (t := some (.Subscript o i tpos)) (l := pos.line) (env := X.env) hc) (by rfl) (by rfl)) fun D s H h => by
    obtain ⟨w, Hd, sd, rel, rs, p⟩ := h
    refine seqS rel rs p fun d Hd1 w1 H1 v e1 rel1 rs1 r1 p1 => ?_
    refine seqS rel1 rs1 p1 fun x Hd2 w2 H2 u e2 rel2 rs2 r2 p2 => ?_
    refine seqS rel2 rs2 p2 fun y Hd3 w3 H3 t e3 rel3 rs3 r3 p3 => ?_
    unfold setE at p3
    split at p3
    · rename_i r
      split at p3
      · rename_i xs hx
        split at p3
        · rename_i k
          split at p3
          · rename_i j hj
            have r2 := r2.ext e3
            cases r2 with
            | ref hr =>
              cases r3
              cases rel3.obj r _ hx with
              | lst h1 h2 =>
                exact ⟨_, _, k, j, rfl, rfl, h1, by rw [← h2.length]; exact hj, p3 w3 _ (ext_set rel3 hr _) (rel_set rel3 hr (h2.set ((r1.ext e2).ext e3) j)) _ (rs3.ext (ext_set rel3 hr _))⟩
          · exact p3.elim
        · exact p3.elim
      · exact p3.elim
    · exact p3.elim
theorem s_par {i j : Nat} {x y : Str} {px py pt pt2 : Pos} {kt k2 : Nat} (ok : Okx X G W) (hxc : G.exc = none) (hc : X.calm = true) (hi : X.N[i]? = some x) (hj : X.N[j]? = some y) (hij : i ≠ j) (hx : X.env.scope.names.lookup x = some .local) (hy : X.env.scope.names.lookup y = some .local)
    (hw : swappedStores [.Tuple [.Name x px, .Name y py] kt pt] (.Tuple [a, b] k2 pt2) X.env = pure (some [x, y])) (hsa : notStar a = true) (hsb : notStar b = true) (ha : PE X a (tD G W fa)) (hb : PE X b (tD G W fb)) :
    PS X (.Assign [.Tuple [.Name x px, .Name y py] kt pt] (.Tuple [a, b] k2 pt2) pos) (tDS G W fun s H => (fa s H).st s fun x H1 => (fb s H1).st s fun y H2 => .go (.nx ((s.set i (some x)).set j (some y))) H2) :=
  PS.mono (ps_par hc ok.nd hi hj hij hx hy (d_cons hsa ha (d_cons hsb hb d_nil)) hw (by rfl)) fun D s H h => by
    obtain ⟨w, Hd, sd, rel, rs, p⟩ := h
    refine ⟨w, Hd, sd, rel, rs, ?_⟩
    dsimp only at p ⊢
    generalize fa sd Hd = ra at p
    cases ra with
    | no => exact p
    | ex x H5 => exact fun w' H' e r1 c da rx => p w' H' e r1 s (rs.ext e) c da rx
    | ok d1 H1 =>
      simp only [Rs.bind_ok, Rs.st_ok] at p ⊢
      generalize fb sd H1 = rb at p
      cases rb with
      | no => exact p
      | ex x H5 => exact fun w' H' e r1 c da rx => p w' H' e r1 s (rs.ext e) c da rx
      | ok d2 H2 =>
        intro w' H' e rel' vs rvs
        cases rvs with
        | cons r1 rvs =>
          cases rvs with
          | cons r2 rvs =>
            cases rvs
            exact ⟨_, _, rfl, p w' H' e rel' _ (((rs.ext e).set hxc i r1).set hxc j r2)⟩
def ipD (G : Gr) (op : Operator) : TIp := fun x y H Q => ∃ w Hd dx dy d, Rel G w Hd H ∧ RepV G w H dx x ∧ RepV G w H dy y ∧ augD Hd op dx dy = some d ∧ Ret G w Hd H d Q
theorem ip_all (op : Operator) : PIp X op (ipD G op) := by
  intro pins s σ H x y v u Q I r1 r2 h
  obtain ⟨w, Hd, dx, dy, d, rel, h1, h2, e, q⟩ := h
  unfold augD at e
  split at e
  · cases h1; cases h2; cases e
    exact ip_add pins s σ H _ _ v u Q I r1 r2 ⟨_, _, rfl, rfl, q.here rel (.int _)⟩
  · cases h1; cases h2; cases e
    exact ip_sub pins s σ H _ _ v u Q I r1 r2 ⟨_, _, rfl, rfl, q.here rel (.int _)⟩
  · cases h1; cases h2
    split at e
    · rename_i hl
      cases e
      exact iop_add_str pins s σ H _ _ v u Q I r1 r2 ⟨_, _, rfl, rfl, by rw [str_len, str_len, ← lim_eq]; exact hl, by rw [str_app]; exact q.here rel (.str _)⟩
    · cases e
  · cases e
theorem s_aug {i : Nat} {x : Str} {op : Operator} {tpos : Pos} (ok : Okx X G W) (hxc : G.exc = none) (hi : X.N[i]? = some x) (hx : Loc X.env.scope x) (hf : X.fn x = true ∨ X.env.scope.names.lookup x = some .local) (he : PE X e (tD G W fe)) :
    PS X (.AugAssign (.Name x tpos) op e pos) (tDS G W fun s H => match s[i]? with
    | some (some x) => (fe s H).st s fun y H1 => match augD H1 op x y with
      | some z => .go (.nx (s.set i (some z))) H1
      | none => .no
    | _ => .no) := PS.mono (ps_aug ok.nd hi hx he (ip_all op) hf) fun D s H h => by
  obtain ⟨w, Hd, sd, rel, rs, p⟩ := h
  dsimp only at p
  split at p
  · rename_i d hd
    obtain ⟨v, hv, rv⟩ := rs.2 i d hd
    refine ⟨v, hv, ?_⟩
    refine seqS rel rs p fun y Hd1 w1 H1 u e1 rel1 rs1 r1 p1 => ?_
    cases z : augD Hd1 op d y with
    | none => rw [z] at p1; exact p1.elim
    | some k =>
      rw [z] at p1
      exact ⟨w1, Hd1, d, y, k, rel1, rv.ext e1, r1, z, fun w2 H2 e2 rel2 t rt => p1 w2 H2 e2 rel2 _ ((rs1.ext e2).set hxc i rt)⟩
  · exact p.elim
theorem s_ex (hc : notComp e = true) (he : PE X e (tD G W fe)) : PS X (.Expr e pos) (tDS G W fun s H => (fe s H).st s fun _ H1 => .go (.nx s) H1) := PS.mono (ps_expr he (sw_none hc)) fun D s H h => by
  obtain ⟨w, Hd, sd, rel, rs, p⟩ := h
  exact seqS rel rs p fun x Hd1 w1 H1 v e1 rel1 rs1 r1 p1 => p1 w1 H1 (Ext.refl _ _) rel1 _ rs1
theorem s_ret (he : PE X e (tD G W fe)) : PS X (.Return (some e) pos) (tDS G W fun s H => (fe s H).st s fun d H1 => .go (.rt d) H1) := PS.mono (ps_ret he) fun D s H h => by
  obtain ⟨w, Hd, sd, rel, rs, p⟩ := h
  exact seqS rel rs p fun x Hd1 w1 H1 v e1 rel1 rs1 r1 p1 => p1 w1 H1 (Ext.refl _ _) rel1 _ r1
theorem s_retN : PS X (.Return none pos) (tDS G W fun s H => .go (.rt .non) H) := PS.mono ps_retN fun D s H h => by
  obtain ⟨w, Hd, sd, rel, rs, p⟩ := h
  exact p w H (Ext.refl _ _) rel _ .non
theorem s_ite {p q : List Stmt} (hc : PT X c (tDT G W ft)) (ha : PSs X p (tDS G W f)) (hb : PSs X q (tDS G W g)) : PS X (.If c p q pos) (tDS G W fun s H => (ft s H).st s fun k H1 => if k then f s H1 else g s H1) := PS.mono (ps_if hc ha hb) fun D s H h => by
  obtain ⟨w, Hd, sd, rel, rs, p⟩ := h
  refine seqS rel rs p fun x Hd1 w1 H1 v e1 rel1 rs1 r1 p1 => ?_
  cases (show v = x from r1)
  cases x with
  | true => exact iteT ⟨w1, Hd1, sd, rel1, rs1, p1⟩
  | false => exact iteF ⟨w1, Hd1, sd, rel1, rs1, p1⟩
theorem s_brk : PS X (.Break pos) (tDS G W fun s H => .go (.bk s) H) := PS.mono ps_break fun D s H h => by
  obtain ⟨w, Hd, sd, rel, rs, p⟩ := h
  exact p w H (Ext.refl _ _) rel _ rs
theorem s_cnt : PS X (.Continue pos) (tDS G W fun s H => .go (.ct s) H) := PS.mono ps_continue fun D s H h => by
  obtain ⟨w, Hd, sd, rel, rs, p⟩ := h
  exact p w H (Ext.refl _ _) rel _ rs
theorem s_pas : PS X (.Pass pos) (tDS G W fun s H => .go (.nx s) H) := PS.mono ps_pass fun D s H h => by
  obtain ⟨w, Hd, sd, rel, rs, p⟩ := h
  exact p w H (Ext.refl _ _) rel _ rs
theorem s_doc {x : Str} {j p1 p2} : PS X (.Expr (.Constant (.str x) j p1) p2) (tDS G W fun s H => .go (.nx s) H) := PS.mono ps_doc fun D s H h => by
  obtain ⟨w, Hd, sd, rel, rs, p⟩ := h
  exact p w H (Ext.refl _ _) rel _ rs
theorem s_never : PS X st (tDS G W fun _ _ => .no) := PS.mono ps_never fun D s H h => by
  obtain ⟨w, Hd, sd, rel, rs, p⟩ := h
  exact p.elim
end
end DI
namespace DI
open PySem PySem.Spec PyProof.Rows L2

theorem eqK_key : ∀ a b : L2.Key, eqK (keyD a) (keyD b) = decide (a = b)
  | .inl i, .inl j => by simp [keyD, eqK]
  | .inr x, .inr y => by
    simp only [keyD, eqK]
    refine decide_eq_decide.mpr ⟨fun h => ?_, fun h => by cases h; rfl⟩
    cases x; cases y
    simp only [Array.toList_inj] at h
    cases h; rfl
  | .inl i, .inr y => by simp [keyD, eqK]
  | .inr x, .inl j => by simp [keyD, eqK]
theorem key_rep {G : Gr} {w : Vw} {H : Hp} {d : D} {v : V} (r : RepV G w H d v) (h : keyOk d = true) : ∃ k : L2.Key, d = keyD k ∧ v = kV k := by
  cases r <;> first | (simp [keyOk] at h; done) | skip
  · exact ⟨.inl _, rfl, rfl⟩
  · rename_i x
    exact ⟨.inr ⟨x.toArray⟩, by simp [keyD], rfl⟩
section
variable {G : Gr} {w : Vw} {H : Hp}
theorem dget_some {k : L2.Key} : ∀ {kvs : List (L2.Key × V)} {ds : List D} {d : D}, RepVs G w H ds (kvs.map fun p => p.2) → dgetL (keysD kvs) ds (keyD k) = some d → ∃ v, valV kvs k = some v ∧ RepV G w H d v
  | [], _, _, r, h => by cases r; cases h
  | p :: t, _, _, r, h => by
    cases r with
    | cons r1 r2 =>
      simp only [keysD, List.map_cons, dgetL] at h
      rw [eqK_key] at h
      by_cases e : p.1 = k
      · rw [if_pos (by simpa using e)] at h
        cases h
        exact ⟨_, valV_pos e, r1⟩
      · rw [if_neg (by simpa using e)] at h
        rw [valV_neg e]
        exact dget_some r2 h
theorem dget_none {k : L2.Key} : ∀ {kvs : List (L2.Key × V)} {ds : List D}, RepVs G w H ds (kvs.map fun p => p.2) → dgetL (keysD kvs) ds (keyD k) = none → valV kvs k = none
  | [], _, _, _ => rfl
  | p :: t, _, r, h => by
    cases r with
    | cons r1 r2 =>
      simp only [keysD, List.map_cons, dgetL] at h
      rw [eqK_key] at h
      by_cases e : p.1 = k
      · rw [if_pos (by simpa using e)] at h; cases h
      · rw [if_neg (by simpa using e)] at h
        rw [valV_neg e]
        exact dget_none r2 h
theorem dset_rep {k : L2.Key} {d : D} {v : V} (hv : RepV G w H d v) : ∀ {kvs : List (L2.Key × V)} {ds : List D}, RepVs G w H ds (kvs.map fun p => p.2) →
    RepVs G w H (dsetL (keysD kvs) ds (keyD k) d) ((kvs.map fun kv => if kv.1 = k then (kv.1, v) else kv).map fun p => p.2)
  | [], _, r => by cases r; exact .nil
  | p :: t, _, r => by
    cases r with
    | cons r1 r2 =>
      simp only [keysD, List.map_cons, dsetL]
      rw [eqK_key]
      by_cases e : p.1 = k
      · rw [if_pos (by simpa using e), if_pos e]
        exact .cons hv (dset_rep hv r2)
      · rw [if_neg (by simpa using e), if_neg e]
        exact .cons r1 (dset_rep hv r2)
theorem keys_set {k : L2.Key} {v : V} : ∀ kvs : List (L2.Key × V), keysD (kvs.map fun kv => if kv.1 = k then (kv.1, v) else kv) = keysD kvs
  | [] => rfl
  | p :: t => by
    have ih := keys_set (k := k) (v := v) t
    simp only [keysD, List.map_cons] at ih ⊢
    rw [ih]
    by_cases e : p.1 = k
    · rw [if_pos e]
    · rw [if_neg e]
theorem repVs_snoc {ds : List D} {vs : List V} {d : D} {v : V} (h : RepVs G w H ds vs) (r : RepV G w H d v) : RepVs G w H (ds ++ [d]) (vs ++ [v]) := h.append (.cons r .nil)
theorem dput_rep {k : L2.Key} {d : D} {v : V} {kvs : List (L2.Key × V)} {ds : List D} (hv : RepV G w H d v) (r : RepVs G w H ds (kvs.map fun p => p.2)) :
    (dputL (keysD kvs) ds (keyD k) d).1 = keysD (putK kvs k v) ∧ RepVs G w H (dputL (keysD kvs) ds (keyD k) d).2 ((putK kvs k v).map fun p => p.2) := by
  unfold dputL putK
  rw [valV_any]
  cases q : dgetL (keysD kvs) ds (keyD k) with
  | none =>
    rw [dget_none r q]
    simp only [Option.isSome_none]
    rw [if_neg (by decide), if_neg (by decide)]
    refine ⟨by simp [keysD], ?_⟩
    rw [List.map_append]
    exact repVs_snoc r hv
  | some d0 =>
    obtain ⟨v0, h0, _⟩ := dget_some r q
    rw [h0]
    simp only [Option.isSome_some]
    rw [if_pos trivial, if_pos trivial]
    exact ⟨(keys_set kvs).symm, dset_rep hv r⟩
end
section
variable {X : Cx} {G : Gr} {W : WX} {pos : Pos} {a b c e o : Expr} {fa fb fc fe fo : Sd → HH → Rs D}
theorem noSl_of {i : Expr} (h : plainIx i = true) : NoSl i := by
  intro o v
  cases i <;> first | rfl | (simp [plainIx] at h; done)
theorem un1 (ok : Okx X G W) : X.A.units + 1 < cLine := Nat.lt_of_le_of_lt (Nat.add_le_add_left (by decide) _) ok.un
theorem d_dnew : PE X (.Dict [] [] pos) (tD G W fun s H => .ok (.ref H.length) (H ++ [.dic [] []])) := PE.mono pe_dnewK fun s H Q h => by
  obtain ⟨w, Hd, sd, rel, rs, p⟩ := h
  intro q hq
  have z : RepV G (w.add q) (upd H q (.dK [])) (.ref Hd.length) (.ref q) := by
    have := RepV.ref (G := G) (w := w.add q) (H := upd H q (.dK [])) (r := w.n) (Nat.lt_succ_self _)
    rw [add_n] at this
    rw [← rel.n]
    exact this
  exact p _ _ (ext_add rel hq _) (rel_addO rel hq (.dic (kvs := []) upd_same .nil)) _ z
theorem d_dget (ok : Okx X G W) (hp : plainIx b = true) (ha : PE X a (tD G W fa)) (hb : PE X b (tD G W fb)) :
    PE X (.Subscript a b pos) (tD G W fun s H => (fa s H).bind fun x H1 => (fb s H1).bind fun y H2 => Rs.ofO (dgetD (viewD H2 x) y) H2) := PE.mono (pe_dget (un1 ok) ha hb (noSl_of hp)) fun s H Q h => by
  obtain ⟨w, Hd, sd, rel, rs, p⟩ := h
  refine seq rel rs p fun x Hd1 w1 H1 v e1 rel1 rs1 r1 p1 => ?_
  refine seq rel1 rs1 p1 fun y Hd2 w2 H2 u e2 rel2 rs2 r2 p2 => ?_
  obtain ⟨d, hd, q⟩ := ofO_post p2
  have rx := repW_view rel2 (r1.ext e2)
  revert hd rx
  generalize viewD Hd2 x = x'
  intro hd rx
  unfold dgetD at hd
  split at hd
  · split at hd
    · rename_i hk
      obtain ⟨k, rfl, rfl⟩ := key_rep r2 hk
      obtain ⟨ad, kvs, rfl, h1, rfl, h2⟩ := rx
      obtain ⟨vv, h3, h4⟩ := dget_some h2 hd
      exact ⟨ad, vv, rfl, h3 ▸ DGet.k h1, q w2 H2 (Ext.refl _ _) rel2 vv h4⟩
    · cases hd
  · cases hd
theorem din_of (ok : Okx X G W) (ha : PE X a (tD G W fa)) (hb : PE X b (tD G W fb)) {w : Vw} {Hd : HH} {H : Hp} {x y : DI.D} {v u : V} {k : Bool} (rel : Rel G w Hd H) (ry : RepV G w H y v) (rx : RepV G w H x u) (h : dinD (viewD Hd x) y = some k) : ∃ a o, u = .ref a ∧ DGet H a v o ∧ o.isSome = k := by
  have rx := repW_view rel rx
  revert h rx
  generalize viewD Hd x = x'
  intro h rx
  unfold dinD at h
  split at h
  · split at h
    · rename_i hk
      obtain ⟨k', rfl, rfl⟩ := key_rep ry hk
      obtain ⟨ad, kvs, rfl, h1, rfl, h2⟩ := rx
      refine ⟨ad, _, rfl, DGet.k h1, ?_⟩
      cases hq : dgetL (keysD kvs) _ (keyD k') with
      | none =>
        rw [hq] at h
        rw [dget_none h2 hq]
        exact Option.some.inj h
      | some d0 =>
        rw [hq] at h
        obtain ⟨vv, h3, h4⟩ := dget_some h2 hq
        rw [h3]
        exact Option.some.inj h
    · cases h
  · cases h
theorem d_din (ok : Okx X G W) (hm : notSet b = true) (ha : PE X a (tD G W fa)) (hb : PE X b (tD G W fb)) :
    PE X (.Compare a [.In] [b] pos) (tD G W fun s H => (fa s H).bind fun y H1 => (fb s H1).bind fun x H2 => Rs.ofO ((dinD (viewD H2 x) y).map .bl) H2) := PE.mono (pe_cmp (pc_din (un1 ok) ha hb) (nomark_of hm)) fun s H Q h => by
  obtain ⟨w, Hd, sd, rel, rs, p⟩ := h
  refine seq rel rs p fun y Hd1 w1 H1 v e1 rel1 rs1 r1 p1 => ?_
  refine seq rel1 rs1 p1 fun x Hd2 w2 H2 u e2 rel2 rs2 r2 p2 => ?_
  obtain ⟨d, hd, q⟩ := ofO_post p2
  cases e : dinD (viewD Hd2 x) y with
  | none => rw [e] at hd; cases hd
  | some k =>
    rw [e] at hd
    cases hd
    obtain ⟨ad, o, rfl, g, ho⟩ := din_of ok ha hb rel2 (r1.ext e2) r2 e
    exact ⟨ad, o, rfl, g, by rw [ho]; exact q w2 H2 (Ext.refl _ _) rel2 _ (.bl _)⟩
theorem t_din (ok : Okx X G W) (hm : notSet b = true) (ha : PE X a (tD G W fa)) (hb : PE X b (tD G W fb)) :
    PT X (.Compare a [.In] [b] pos) (tDT G W fun s H => (fa s H).bind fun y H1 => (fb s H1).bind fun x H2 => Rs.ofO (dinD (viewD H2 x) y) H2) := PT.mono (pt_cmp (pc_din (un1 ok) ha hb) (nomark_of hm)) fun s H Q h => by
  obtain ⟨w, Hd, sd, rel, rs, p⟩ := h
  refine seq rel rs p fun y Hd1 w1 H1 v e1 rel1 rs1 r1 p1 => ?_
  refine seq rel1 rs1 p1 fun x Hd2 w2 H2 u e2 rel2 rs2 r2 p2 => ?_
  obtain ⟨d, hd, q⟩ := ofO_post p2
  obtain ⟨ad, o, rfl, g, ho⟩ := din_of ok ha hb rel2 (r1.ext e2) r2 hd
  exact ⟨ad, o, rfl, g, o.isSome, rfl, q w2 H2 (Ext.refl _ _) rel2 _ ho⟩
theorem d_dget2 {apos : Pos} {n : Str} (ok : Okx X G W) (hn : n = "get") (hbs : plainBase a = true) (hs1 : notStar b = true) (hs2 : notStar c = true) (hl : (apos.endLine == pos.line) = true)
    (ha : PE X a (tD G W fa)) (hb : PE X b (tD G W fb)) (hc : PE X c (tD G W fc)) :
    PE X (.Call (.Attribute a n apos) [b, c] [] pos) (tD G W fun s H => (fa s H).bind fun x H1 => if isDv (viewD H1 x) then (fb s H1).bind fun y H2 => (fc s H2).bind fun z H3 => Rs.ofO (dget2D (viewD H3 x) y z) H3 else .no) := by
  subst hn
  have tr : backTo pos (starEach [b, c] X.env) = [(false, eval b X.env), (false, eval c X.env)] := by
    rw [star_cons hs1, star_cons hs2] <;> rfl
  have m : M2 X a "get" apos b c pos := ⟨base_ok hbs, by rw [tr] <;> rfl, hl, tr⟩
  refine PE.mono (pe_dget2 (un1 ok) ha hb hc m) fun s H Q h => ?_
  obtain ⟨w, Hd, sd, rel, rs, p⟩ := h
  refine seq rel rs p fun x Hd1 w1 H1 v e1 rel1 rs1 r1 p1 => ?_
  split at p1
  · rename_i hdv
    have rx1 := repW_view rel1 r1
    cases hvx : viewD Hd1 x <;> (rw [hvx] at hdv rx1) <;> first | (simp [isDv] at hdv; done) | skip
    obtain ⟨ad, kvs, rfl, h1, _, _⟩ := rx1
    refine ⟨ad, rfl, .inl ⟨kvs, .inl h1⟩, ?_⟩
    refine seq rel1 rs1 p1 fun y Hd2 w2 H2 u e2 rel2 rs2 r2 p2 => ?_
    refine seq rel2 rs2 p2 fun z Hd3 w3 H3 t e3 rel3 rs3 r3 p3 => ?_
    obtain ⟨d, hd, q⟩ := ofO_post p3
    have rx := repW_view rel3 ((r1.ext e2).ext e3)
    revert hd rx
    generalize viewD Hd3 x = x'
    intro hd rx
    unfold dget2D at hd
    split at hd
    · split at hd
      · rename_i hk
        obtain ⟨k, rfl, rfl⟩ := key_rep r2 hk
        obtain ⟨ad', kvs', hae, h1', rfl, h2⟩ := rx
        cases hae
        refine ⟨_, DGet.k h1', ?_⟩
        cases hq : dgetL (keysD kvs') _ (keyD k) with
        | none =>
          rw [hq] at hd
          cases hd
          rw [dget_none h2 hq]
          exact q w3 H3 (Ext.refl _ _) rel3 _ r3
        | some d0 =>
          rw [hq] at hd
          cases hd
          obtain ⟨vv, h3, h4⟩ := dget_some h2 hq
          rw [h3]
          exact q w3 H3 (Ext.refl _ _) rel3 _ h4
      · cases hd
    · cases hd
  · exact p1.elim
theorem s_dput {i : Expr} {tpos : Pos} {fx : Sd → HH → Rs D} (ok : Okx X G W) (hc : notComp e = true) (he : PE X e (tD G W fe)) (ho : PE X o (tD G W fo)) (hi : PE X i (tD G W fx)) :
    PS X (.Assign [.Subscript o i tpos] e pos) (tDS G W fun s H => (fe s H).st s fun d H1 => (fo s H1).st s fun x H2 => (fx s H2).st s fun y H3 => putE x y d s H3) :=
  PS.mono (ps_dput (un1 ok) ho hi he (sw_none hc)) fun D s H h => by
    obtain ⟨w, Hd, sd, rel, rs, p⟩ := h
    refine seqS rel rs p fun d Hd1 w1 H1 v e1 rel1 rs1 r1 p1 => ?_
    refine seqS rel1 rs1 p1 fun x Hd2 w2 H2 u e2 rel2 rs2 r2 p2 => ?_
    refine seqS rel2 rs2 p2 fun y Hd3 w3 H3 t e3 rel3 rs3 r3 p3 => ?_
    unfold putE at p3
    split at p3
    · rename_i r
      split at p3
      · rename_i ks vs hx
        split at p3
        · rename_i hk
          obtain ⟨k, rfl, rfl⟩ := key_rep r3 hk.1
          have r2 := r2.ext e3
          cases r2 with
          | ref hr =>
            have ob := rel3.obj r _ hx
            revert hk p3
            cases ob with
            | @dic ds kvs h1 h2 =>
            intro hk p3
            obtain ⟨z1, z2⟩ := dput_rep (k := k) ((r1.ext e2).ext e3) h2
            have hl : kvs.length < sizeLine := by
              have := hk.2
              rw [keysD, List.length_map, lim_eq] at this
              exact this
            refine ⟨_, _, rfl, DPut.k h1 hl, ?_⟩
            rw [z1] at p3
            exact p3 w3 _ (ext_set rel3 hr _) (rel_setO rel3 hr (.dic upd_same (z2.ext (ext_set rel3 hr _)))) _ (rs3.ext (ext_set rel3 hr _))
        · exact p3.elim
      · exact p3.elim
    · exact p3.elim
end
end DI
namespace DI
open PySem PySem.Spec PyProof.Rows L2
section
variable {X : Cx} {G : Gr} {W : WX} {pos p p2 pos2 : Pos} {a b : Expr} {fa fb : Sd → HH → Rs D}
theorem rgs_rep {G : Gr} {w : Vw} {H : Hp} (a : Int) : ∀ l : List Nat, RepVs G w H (l.map fun (k : Nat) => D.int (a + (k : Nat))) (l.map fun (k : Nat) => V.int (a + (k : Nat)))
  | [] => .nil
  | k :: r => .cons (.int _) (rgs_rep a r)
theorem d_lrg1 (hc : X.calm = true) (hg : Gl X "list") (hm : X.mg "list" = none) (hg2 : Gl X "range") (hm2 : X.mg "range" = none) (hs : notStar a = true) (ha : PE X a (tD G W fa)) :
    PE X (.Call (.Name "list" p) [.Call (.Name "range" p2) [a] [] pos2] [] pos) (tD G W fun s H => (fa s H).bind fun x H1 => Rs.ofO (lrgD [x]) H1) := PE.mono (pe_listRg hc hg hm (prg_1 hg2 hm2 ha (star_cons hs))) fun s H Q h => by
  obtain ⟨w, Hd, sd, rel, rs, p⟩ := h
  refine seq rel rs p fun x Hd1 w1 H1 v e1 rel1 rs1 r1 p1 => ?_
  obtain ⟨d, hd, q⟩ := ofO_post p1
  unfold lrgD rangeD rangeD1 at hd
  dsimp only at hd
  cases x <;> first | (simp at hd; done) | skip
  rename_i j
  have r1 : RepV G w1 H1 (.int j) v := r1
  cases r1
  dsimp only at hd
  by_cases hb : (decide (-(2 ^ 62) ≤ j) && decide (j < 2 ^ 62)) = true
  · rw [if_pos hb] at hd
    dsimp only at hd
    split at hd
    · rename_i hl
      cases hd
      simp only [Bool.and_eq_true, decide_eq_true_iff] at hb
      rw [List.length_map, List.length_range] at hl
      refine ⟨j, rfl, ⟨by omega, by omega, hb.1, hb.2, by rw [Int.sub_zero]; exact hl⟩, ?_⟩
      refine Ret.lv (fun w' H' e r v rv => q w' H' e r v rv) rel1 ?_
      have := rgs_rep (G := G) (w := w1) (H := H1) 0 (List.range j.toNat)
      unfold rgV
      rw [Int.sub_zero]
      simpa using this
    · cases hd
  · rw [if_neg hb] at hd
    cases hd
theorem d_lrg2 (hc : X.calm = true) (hg : Gl X "list") (hm : X.mg "list" = none) (hg2 : Gl X "range") (hm2 : X.mg "range" = none) (hs : notStar a = true) (hs2 : notStar b = true) (ha : PE X a (tD G W fa)) (hb : PE X b (tD G W fb)) :
    PE X (.Call (.Name "list" p) [.Call (.Name "range" p2) [a, b] [] pos2] [] pos) (tD G W fun s H => (fa s H).bind fun x H1 => (fb s H1).bind fun y H2 => Rs.ofO (lrgD [x, y]) H2) := PE.mono (pe_listRg hc hg hm (prg_2 hg2 hm2 ha hb (star_cons hs) (star_cons hs2) (by rw [star_cons hs2] <;> rfl))) fun s H Q h => by
  obtain ⟨w, Hd, sd, rel, rs, p⟩ := h
  refine seq rel rs p fun x Hd1 w1 H1 v e1 rel1 rs1 r1 p1 => ?_
  refine seq rel1 rs1 p1 fun y Hd2 w2 H2 u e2 rel2 rs2 r2 p2 => ?_
  obtain ⟨d, hd, q⟩ := ofO_post p2
  unfold lrgD rangeD rangeD2 at hd
  dsimp only at hd
  cases x <;> first | (simp at hd; done) | skip
  cases y <;> first | (simp at hd; done) | skip
  rename_i i j
  have r1 : RepV G w1 H1 (.int i) v := r1
  have r2 : RepV G w2 H2 (.int j) u := r2
  cases r1
  cases r2
  dsimp only at hd
  by_cases hb : (decide (-(2 ^ 62) ≤ i) && decide (i < 2 ^ 62) && decide (-(2 ^ 62) ≤ j) && decide (j < 2 ^ 62)) = true
  · rw [if_pos hb] at hd
    dsimp only at hd
    split at hd
    · rename_i hl
      cases hd
      simp only [Bool.and_eq_true, decide_eq_true_iff] at hb
      rw [List.length_map, List.length_range] at hl
      refine ⟨i, j, rfl, rfl, ⟨hb.1.1.1, hb.1.1.2, hb.1.2, hb.2, hl⟩, ?_⟩
      exact Ret.lv (fun w' H' e r v rv => q w' H' e r v rv) rel2 (rgs_rep i (List.range (j - i).toNat))
    · cases hd
  · rw [if_neg hb] at hd
    cases hd
end
end DI
namespace DI
open PySem PySem.Spec PyProof.Rows L2
section
variable {G : Gr} {w : Vw} {H : Hp} {D : Addr}
theorem Rel.prd {Hd : HH} {kvs : List (L2.Key × V)} {ds : List DI.D} (r : Rel G w Hd H) (hx : w.xx D) (hD : H D = some (.dK kvs)) (h : RepVs G w H ds (kvs.map fun p => p.2)) : Rel G (w.pr D) (Hd ++ [.dic (keysD kvs) ds]) H := by
  have nO := (r.xx D hx).2
  refine ⟨by rw [List.length_append]; show w.n + 1 = _; rw [r.n]; rfl, fun i j hi hj q => ?_, fun i o hi => ?_, fun a h => ⟨(r.xx a h.1).1, ?_⟩⟩
  · have hi : i < w.n + 1 := hi
    have hj : j < w.n + 1 := hj
    by_cases h1 : i < w.n
    · by_cases h2 : j < w.n
      · rw [show (w.pr D).mu i = w.mu i from add_lt h1, show (w.pr D).mu j = w.mu j from add_lt h2] at q; exact r.inj i j h1 h2 q
      · have : j = w.n := by omega
        subst this
        rw [show (w.pr D).mu i = w.mu i from add_lt h1, show (w.pr D).mu w.n = D from add_n] at q
        exact absurd ⟨i, h1, q⟩ nO
    · have : i = w.n := by omega
      subst this
      by_cases h2 : j < w.n
      · rw [show (w.pr D).mu j = w.mu j from add_lt h2, show (w.pr D).mu w.n = D from add_n] at q
        exact absurd ⟨j, h2, q.symm⟩ nO
      · omega
  · by_cases h1 : i < Hd.length
    · rw [List.getElem?_append_left h1] at hi
      rw [show (w.pr D).mu i = w.mu i from add_lt (by rw [r.n]; exact h1)]
      cases r.obj i o hi with
      | lst q1 q2 => exact .lst q1 (q2.pr hx)
      | dic q1 q2 => exact .dic q1 (q2.pr hx)
    · have hlt : i < (Hd ++ [HD.dic (keysD kvs) ds]).length := (List.getElem?_eq_some_iff.mp hi).1
      have : i = Hd.length := by rw [List.length_append] at hlt; simp at hlt; omega
      subst this
      rw [List.getElem?_append_right (Nat.le_refl _)] at hi
      simp at hi
      subst hi
      rw [← r.n, show (w.pr D).mu w.n = D from add_n]
      exact .dic hD (h.pr hx)
  · rintro ⟨i, hi, z⟩
    have hi : i < w.n + 1 := hi
    by_cases h1 : i < w.n
    · rw [show (w.pr D).mu i = w.mu i from add_lt h1] at z
      exact (r.xx a h.1).2 ⟨i, h1, z⟩
    · have : i = w.n := by omega
      subst this
      rw [show (w.pr D).mu w.n = D from add_n] at z
      exact h.2 z.symm
end
section
variable {J : It} {n : Nat} {GG : Hp → Prop} {Y : Nat → Hp → V → Hp → Prop}
theorem dc_it (wk : Walk J n GG Y) {g : TG} {tt : TT} {tk tv : TE} {vs : List Nat} {σ : L2.St} {Hs : Hp} {D : Addr} {Qd : Hp → Prop} (Pv : Nat → Hp → Prop) (p0 : Pv 0 (upd Hs D (.dK []))) (pG : ∀ i H, i ≤ n → Pv i H → GG H)
    (ps : ∀ i x H H', i < n → Pv i H → Y i H x H' → g x (wipe σ vs) H' fun s2 Ha => wipe s2 vs = wipe σ vs ∧ tt s2 Ha fun b Hb =>
      if b = true then tk s2 Hb fun y Hc => tv s2 Hc fun z He => ∃ kvs k, y = kV k ∧ He D = some (.dK kvs) ∧ kvs.length < sizeLine ∧ Pv (i + 1) (upd He D (.dK (putK kvs k z))) else Pv (i + 1) Hb) (pd : ∀ H, Pv n H → Qd H) :
    ∃ W : Nat → Nat → Hp → Prop, (∃ m, W 0 m (upd Hs D (.dK []))) ∧ ∀ i m H, W i m H →
      (J.stop i H ∧ Qd H) ∨ (J.go i H ∧ ∃ Nx : Hp → Prop, (∀ H', Nx H' → ∃ m', m' < m ∧ W (i + 1) m' H') ∧ ∀ x H', J.yld i H x H' → g x (wipe σ vs) H' fun s2 Ha => wipe s2 vs = wipe σ vs ∧ tt s2 Ha fun b Hb =>
        if b = true then tk s2 Hb fun y Hc => tv s2 Hc fun z He => ∃ kvs k, y = kV k ∧ He D = some (.dK kvs) ∧ kvs.length < sizeLine ∧ Nx (upd He D (.dK (putK kvs k z))) else Nx Hb) := by
  refine ⟨fun a b H => (b = n - a ∧ a ≤ n) ∧ Pv a H, ⟨n, ⟨by simp, Nat.zero_le _⟩, p0⟩, ?_⟩
  intro a b H hh
  obtain ⟨⟨e, hi⟩, p⟩ := hh
  have q := pG a H hi p
  rcases Nat.lt_or_ge a n with hlt | hge
  · right
    exact ⟨wk.goes a H hlt q, Pv (a + 1), fun H' p' => ⟨n - (a + 1), by omega, ⟨rfl, hlt⟩, p'⟩, fun x H' y => ps a x H H' hlt p (wk.yields a H x H' hlt q y)⟩
  · left
    have e : a = n := by omega
    subst e
    exact ⟨wk.stops H q, pd H p⟩
end
section
variable {X : Cx} {G : Gr} {W : WX} {pos p : Pos} {tg iter kx vx : Expr} {ifs : List Expr} {fi : Sd → HH → Rs (List D × Gd)} {ft : Sd → HH → Rs Bool} {fk fv : Sd → HH → Rs D}
def dcF (fi : Sd → HH → Rs (List D × Gd)) (ft : Sd → HH → Rs Bool) (fk fv : Sd → HH → Rs D) (own : List Nat) (t : T) : Sd → HH → Rs D := fun s H =>
  (fi s H).bind fun p H1 => (dcL p.2 (asT t) ft fk fv (wipeD s own) p.1 ([], []) H1).bind fun kv H2 => .ok (.ref H2.length) (H2 ++ [.dic kv.1 kv.2])
theorem dc_read {own : List Nat} {t : T} (hK : G.K = X.K) (hxc : G.exc = none) (hsl : ∀ i ∈ slT t, i ∈ own) : ∀ s H Q, tD G W (dcF fi ft fk fv own t) s H Q → tDc (tDI G W fi) (tP X.K t) (tDT G W0 ft) (tD G W0 fk) (tD G W0 fv) own s H Q := fun σ H Q h => by
  obtain ⟨w, Hd, sd, rel, rs, p⟩ := h
  refine seq rel rs p fun q Hd1 w1 H1 J e1 rel1 rs1 wk p1 => ?_
  obtain ⟨xs, g⟩ := q
  dsimp only at p1
  have wk : Walk J xs.length (GdP G w1 H1 g) (YdP G w1 H1 g xs) := wk
  intro D hD
  generalize hr : dcL g (asT t) ft fk fv (wipeD sd own) xs ([], []) Hd1 = r at p1
  have hD1 : ¬ w1.L D := rel1.notL hD
  have gdL : ∀ {l acc Hd2}, dcL g (asT t) ft fk fv (wipeD sd own) l acc Hd2 = r → gdOk g Hd2 = true := fun {l acc Hd2} e => by
    cases hg : gdOk g Hd2 with
    | true => rfl
    | false =>
      have : dcL g (asT t) ft fk fv (wipeD sd own) l acc Hd2 = .no := by cases l <;> simp [dcL, hg]
      rw [this] at e
      subst e
      exact p1.elim
  have nor : r ≠ .no := fun e => by subst e; exact p1
  refine dc_it wk (fun i H => ∃ w2 Hd2 ds kvs, w2.xx D ∧ Ext w1 w2 H1 H ∧ Rel G w2 Hd2 H ∧ H D = some (.dK kvs) ∧ RepVs G w2 H ds (kvs.map fun p => p.2) ∧ dcL g (asT t) ft fk fv (wipeD sd own) (xs.drop i) (keysD kvs, ds) Hd2 = r) ?_ ?_ ?_ ?_
  · refine ⟨w1.pl D, Hd1, [], [], .inr rfl, ?_, rel1.tun rfl rfl (pl_tun hD) (Vw.notO hD1) (fun a h => h), upd_same, .nil, hr⟩
    have e := ext_new rel1 hD (.dK [])
    exact ⟨e.le, e.mu, e.fresh, e.keep, e.there, fun a h => h.elim .inl fun z => .inr (z ▸ hD), fun a h => .inl h⟩
  · rintro i H _ ⟨w2, Hd2, ds, kvs, hx, e2, rel2, hacc, rv, e⟩
    exact ⟨w2, Hd2, e2, rel2, gdL e⟩
  · rintro i x H H' hi ⟨w2, Hd2, ds, kvs, hx, e2, rel2, hacc, racc, e⟩ y
    have hgd := gdL e
    obtain ⟨e3, rel3, d, hd, rv⟩ := y w2 Hd2 e2 rel2 hgd
    rw [drop_at hd] at e
    simp only [dcL, hgd, if_true] at e
    have hacc3 : H' D = some (.dK kvs) := e3.keep _ _ (rel2.xx D hx).2 hacc
    cases z : asT t d (wipeD sd own) with
    | none => rw [z] at e; exact absurd e.symm nor
    | some s1 =>
      rw [z] at e
      dsimp only at e
      refine pat_ok hK hxc t rel3 rv ((rs1.ext (e2.trans e3)).wipe hxc own) z fun H4 σ2 e4 rel4 rs4 on => ⟨?_, ?_⟩
      · rw [on.wipe hsl, wipe_idem]
      · refine ⟨w2, Hd2, s1, rel4, rs4, ?_⟩
        have hacc4 : H4 D = some (.dK kvs) := e4.keep _ _ (rel2.xx D hx).2 hacc3
        generalize ft s1 Hd2 = rt at e
        cases rt with
        | no => exact absurd e.symm nor
        | ex x H5 => exact absurd e.symm nor
        | ok b H5 =>
          rw [Rs.bindN_ok] at e
          intro w5 H5' e5 rel5 v rvb
          cases (show v = b from rvb)
          have hacc5 : H5' D = some (.dK kvs) := e5.keep _ _ (rel2.xx D hx).2 hacc4
          have hx5 : w5.xx D := e5.xl D hx
          have racc5 := ((racc.ext e3).ext e4).ext e5
          have e15 := ((e2.trans e3).trans e4).trans e5
          cases b with
          | false => exact iteF ⟨w5, H5, ds, kvs, hx5, e15, rel5, hacc5, racc5, e⟩
          | true =>
            refine iteT ⟨w5, H5, s1, rel5, rs4.ext e5, ?_⟩
            simp only [if_true] at e
            generalize fk s1 H5 = re at e
            cases re with
            | no => exact absurd e.symm nor
            | ex x H6 => exact absurd e.symm nor
            | ok d6 H6 =>
              rw [Rs.bindN_ok] at e
              intro w6 H6' e6 rel6 v6 rv6
              have hx6 : w6.xx D := e6.xl D hx5
              have hacc6 : H6' D = some (.dK kvs) := e6.keep _ _ (rel5.xx D hx5).2 hacc5
              have racc6 := racc5.ext e6
              refine ⟨w6, H6, s1, rel6, (rs4.ext e5).ext e6, ?_⟩
              generalize fv s1 H6 = rz at e
              cases rz with
              | no => exact absurd e.symm nor
              | ex x H7 => exact absurd e.symm nor
              | ok d7 H7 =>
                rw [Rs.bindN_ok] at e
                intro w7 H7' e7 rel7 v7 rv7
                split at e
                · rename_i hlt
                  obtain ⟨hkey, hlt⟩ := hlt
                  have hx7 : w7.xx D := e7.xl D hx6
                  have racc7 := racc6.ext e7
                  have hacc7 : H7' D = some (.dK kvs) := e7.keep _ _ (rel6.xx D hx6).2 hacc6
                  obtain ⟨k, rfl, rfl⟩ := key_rep rv6 hkey
                  obtain ⟨p1, p2⟩ := dput_rep (k := k) rv7 racc7
                  have p2 := p2.tun (o := .dK (putK kvs k v7)) rfl rfl (x_tun hx7)
                  refine ⟨kvs, k, rfl, hacc7, by rw [← lim_eq]; simpa [keysD] using hlt, w7, H7, (dputL (keysD kvs) ds (keyD k) d7).2, putK kvs k v7, hx7, ?_, ?_, upd_same, p2, by rw [← p1]; exact e⟩
                  · have e16 := (e15.trans e6).trans e7
                    refine ⟨e16.le, e16.mu, e16.fresh, fun a o h1 h2 => ?_, fun a h => ?_, e16.xx, e16.xl⟩
                    · rw [upd_ne (ne_of_none h2 hD)]
                      exact e16.keep a o h1 h2
                    · by_cases q : a = D
                      · subst q; rw [upd_same]; simp
                      · rw [upd_ne q]; exact e16.there a h
                  · exact rel7.tun rfl rfl (x_tun hx7) (rel7.xx D hx7).2 fun a h => .inl h
                · exact absurd e.symm nor
  · rintro H ⟨w2, Hd2, ds, kvs, hx, e2, rel2, hacc, racc, e⟩
    have hgd := gdL e
    rw [List.drop_length] at e
    simp only [dcL, hgd, if_true] at e
    subst e
    have z : RepV G (w2.pr D) H (.ref Hd2.length) (.ref D) := by
      have := RepV.ref (G := G) (w := w2.pr D) (H := H) (r := w2.n) (Nat.lt_succ_self _)
      rw [show (w2.pr D).mu w2.n = D from add_n] at this
      rw [← rel2.n]
      exact this
    refine p1 (w2.pr D) H ⟨Nat.le_trans e2.le (Nat.le_succ _), fun i h => (add_lt (Nat.lt_of_lt_of_le h e2.le)).trans (e2.mu i h), fun i h h' => ?_, e2.keep, e2.there, fun a h => e2.xx a h.1, fun a h => ⟨e2.xl a h, fun q => hD1 (.inr (q ▸ h))⟩⟩ (rel2.prd hx hacc racc) _ z
    by_cases h2 : i < w2.n
    · rw [show (w2.pr D).mu i = w2.mu i from add_lt h2]; exact e2.fresh i h h2
    · have : i = w2.n := by have : i < w2.n + 1 := h'; omega
      subst this
      rw [show (w2.pr D).mu w2.n = D from add_n]; exact hD
theorem d_dc {scope : Scope} {own : List (Str × Nat)} {t : T} (ok : Okx X G W) (hx : G.exc = none) (hc : X.calm = true) (hfold : notSet iter = true) (hi : PI X tg iter (tDI G W fi)) (bk : BlkOk X.N X.env.scope scope own) (hsl : ∀ i ∈ slT t, i ∈ own.map (·.2))
    (hg : Blk X scope fun Y => PG Y tg (tP X.K t)) (ht : Blk X scope fun Y => PTs Y ifs (tDT G W0 ft)) (hk : Blk X scope fun Y => PE Y kx (tD G W0 fk)) (hv : Blk X scope fun Y => PE Y vx (tD G W0 fv)) :
    PE X (.DictComp kx vx [⟨tg, iter, ifs, 0⟩] scope pos) (tD G W (dcF fi ft fk fv (own.map (·.2)) t)) :=
  PE.mono (pe_dc hc ok.nd hi bk hg ht hk hv (fold_of hfold)) (dc_read ok.K hx hsl)
theorem pr_rep {x : D} {v : V} {q : D × D} {w : Vw} {H : Hp} (hK : G.K = X.K) (r : RepV G w H x v) (h : prD x = some q) : ∃ (a : Addr) (k : L2.Key) (u : V), v = .ref a ∧ q.1 = keyD k ∧ SqT X.K H a [kV k, u] ∧ RepV G w H q.2 u := by
  unfold prD at h
  split at h
  · split at h
    · rename_i k d hk
      cases h
      cases r with
      | tup t rs =>
        cases rs with
        | cons r1 rs =>
          cases rs with
          | cons r2 rs =>
            cases rs
            obtain ⟨kk, rfl, rfl⟩ := key_rep r1 hk
            exact ⟨_, kk, _, rfl, rfl, hK ▸ t.sq, r2⟩
    · cases h
  · cases h
theorem mrg_rep {w : Vw} {H : Hp} (hK : G.K = X.K) : ∀ {ps : List D} {vs : List V} {acc : List (L2.Key × V)} {ds : List D} {kv : List D × List D}, RepVs G w H ps vs → RepVs G w H ds (acc.map fun p => p.2) → mrgL ps (keysD acc, ds) = some kv →
    ∃ (as : List Addr) (kvs : List (L2.Key × V)), vs = as.map V.ref ∧ Paired (fun p q => SqT X.K H p [kV q.1, q.2]) as kvs ∧ kv.1 = keysD (mergeK acc kvs) ∧ RepVs G w H kv.2 ((mergeK acc kvs).map fun p => p.2)
  | [], _, acc, ds, kv, .nil, rd, h => by
    unfold mrgL at h
    cases h
    exact ⟨[], [], rfl, .nil, rfl, rd⟩
  | x :: ps, _, acc, ds, kv, .cons r rs, rd, h => by
    unfold mrgL at h
    cases e : prD x with
    | none => rw [e] at h; cases h
    | some q =>
      rw [e] at h
      dsimp only at h
      obtain ⟨a, k, u, rfl, e1, sq, ru⟩ := pr_rep hK r e
      rw [e1] at h
      obtain ⟨p1, p2⟩ := dput_rep (k := k) ru rd
      have h' : mrgL ps (keysD (putK acc k u), (dputL (keysD acc) ds (keyD k) q.2).2) = some kv := by rw [← p1]; exact h
      obtain ⟨as, kvs, rfl, pr, k1, k2⟩ := mrg_rep hK rs p2 h'
      exact ⟨a :: as, (k, u) :: kvs, rfl, .cons sq pr, k1, k2⟩
theorem d_dctP {e : Expr} {es : List Expr} {fs : Sd → HH → Rs (List D)} (ok : Okx X G W) (hc : X.calm = true) (hg : Gl X "dict") (hm : X.mg "dict" = none) (hs : (e :: es).all notStar = true) (ha : PA X (e :: es) (tDA G W fs)) :
    PE X (.Call (.Name "dict" p) (e :: es) [] pos) (tD G W fun s H => (fs s H).bind fun ds H1 => match ds with
    | [x] => (match dictPD (viewD H1 x) with
      | some kv => .ok (.ref H1.length) (H1 ++ [.dic kv.1 kv.2])
      | none => .no)
    | _ => .no) := by
  have hs' := hs
  rw [List.all_cons, Bool.and_eq_true] at hs'
  have core := pe_callTy (p := p) (pos := pos) (call_dictP hc) hg hm (by decide +kernel) ha (by decide) (by decide) (star_cons hs'.1) (star_plain hs'.2)
  refine PE.mono core fun s H Q h => ?_
  obtain ⟨w, Hd, sd, rel, rs, p⟩ := h
  refine seq rel rs p fun xs Hd1 w1 H1 vs e1 rel1 rs1 r1 p1 => ?_
  match xs, r1, p1 with
  | [], _, p1 => exact p1.elim
  | _ :: _ :: _, _, p1 => exact p1.elim
  | [x], r1, p1 =>
    cases r1 with
    | cons rx rn =>
      cases rn
      rename_i v
      have rw1 := repW_view rel1 rx
      dsimp only at p1
      generalize viewD Hd1 x = y at p1 rw1
      cases hq : dictPD y with
      | none => rw [hq] at p1; exact p1.elim
      | some kv =>
        rw [hq] at p1
        dsimp only at p1
        unfold dictPD at hq
        cases y with
        | lv ps =>
          obtain ⟨a, us, rfl, h1, h2⟩ := rw1
          obtain ⟨as, kvs, rfl, pr, k1, k2⟩ := mrg_rep (acc := []) (ds := []) ok.K h2 .nil hq
          refine ⟨a, as, kvs, rfl, SqL.of h1, pr, fun q hn => ?_⟩
          have z : RepV G (w1.add q) (upd H1 q (.dK (mergeK [] kvs))) (.ref Hd1.length) (.ref q) := by
            have := RepV.ref (G := G) (w := w1.add q) (H := upd H1 q (.dK (mergeK [] kvs))) (r := w1.n) (Nat.lt_succ_self _)
            rw [add_n] at this
            rw [← rel1.n]
            exact this
          have ro : RepO G (w1.add q) (upd H1 q (.dK (mergeK [] kvs))) q (.dic kv.1 kv.2) := by
            rw [k1]
            exact .dic upd_same (k2.ext (ext_add rel1 hn _))
          exact p1 _ _ (ext_add rel1 hn _) (rel_addO rel1 hn ro) _ z
        | _ => cases hq
end
end DI
namespace DI
open PySem PySem.Spec PyProof.Rows L2
section
variable {G : Gr} {w w' : Vw} {H H' : Hp} {Hd : HH}
mutual
theorem RepV.tr (kt : ∀ x vs, TupAt G w H x vs → TupAt G w' H' x vs) (kf : ∀ x vs, FzAt G w H x vs → FzAt G w' H' x vs) (kl : ∀ x vs, ¬ w.L x → H x = some (.lst vs) → ¬ w'.L x ∧ H' x = some (.lst vs)) : ∀ {d : D} {v : V}, noRef d = true → RepV G w H d v → RepV G w' H' d v
  | _, _, _, .non => .non
  | _, _, _, .bl b => .bl b
  | _, _, _, .int i => .int i
  | _, _, _, .str x => .str x
  | _, _, n, .tup h r => by unfold noRef at n; exact .tup (kt _ _ h) (RepVs.tr kt kf kl n r)
  | _, _, n, .lv h q r => by unfold noRef at n; exact .lv (kl _ _ h q).1 (kl _ _ h q).2 (RepVs.tr kt kf kl n r)
  | _, _, n, .fz h r => by unfold noRef at n; exact .fz (kf _ _ h) (RepVs.tr kt kf kl n r)
  | .ref _, _, n, _ => by unfold noRef at n; cases n
  | _, _, _, .cls c => .cls c
  | _, _, _, .ty n => .ty n
theorem RepVs.tr (kt : ∀ x vs, TupAt G w H x vs → TupAt G w' H' x vs) (kf : ∀ x vs, FzAt G w H x vs → FzAt G w' H' x vs) (kl : ∀ x vs, ¬ w.L x → H x = some (.lst vs) → ¬ w'.L x ∧ H' x = some (.lst vs)) : ∀ {d : List D} {v : List V}, noRefs d = true → RepVs G w H d v → RepVs G w' H' d v
  | _, _, _, .nil => .nil
  | _, _, n, .cons h r => by
    unfold noRefs at n
    rw [Bool.and_eq_true] at n
    exact .cons (RepV.tr kt kf kl n.1 h) (RepVs.tr kt kf kl n.2 r)
end
/-- the view while the dict at a is locked -/
def Vw.lk (w : Vw) (a : Addr) : Vw := ⟨w.mu, 0, fun x => w.L x ∧ x ≠ a⟩
theorem lk_O {a x : Addr} : ¬ (w.lk a).O x := fun ⟨i, hi, _⟩ => absurd hi (Nat.not_lt_zero _)
theorem lk_L {a x : Addr} (h : ¬ w.L x) : ¬ (w.lk a).L x := fun z => z.elim lk_O fun z => h z.1
theorem lk_rel {a : Addr} {o : HO} (r : Rel G w Hd H) : Rel G (w.lk a) [] (upd H a o) := ⟨rfl, fun i j h => absurd h (Nat.not_lt_zero _), fun i o h => by simp at h, fun x h => ⟨by
  obtain ⟨u, e⟩ := r.liveSome h.1
  rw [upd_ne h.2, e]; simp, lk_O⟩⟩
theorem lk_in {a : Addr} {o : HO} (ha : w.L a) {d : D} {v : V} (n : noRef d = true) (h : RepV G w H d v) : RepV G (w.lk a) (upd H a o) d v := by
  have ne : ∀ x, ¬ w.L x → x ≠ a := fun x h z => h (z ▸ ha)
  refine RepV.tr (fun x vs h => ?_) (fun x vs h => ?_) (fun x vs h q => ⟨lk_L h, by rw [upd_ne (ne x h)]; exact q⟩) n h
  · rcases h with ⟨h, r⟩ | h
    · refine .inl ⟨lk_L h, ?_⟩
      unfold Rd
      rw [upd_ne (ne x h)]
      exact r
    · exact .inr h
  · rcases h with ⟨h, r⟩ | h
    · refine .inl ⟨lk_L h, ?_⟩
      unfold Rd
      rw [upd_ne (ne x h)]
      exact r
    · exact .inr h
theorem lk_ins {a : Addr} {o : HO} (ha : w.L a) : ∀ {d : List D} {v : List V}, noRefs d = true → RepVs G w H d v → RepVs G (w.lk a) (upd H a o) d v
  | _, _, _, .nil => .nil
  | _, _, n, .cons h r => by
    unfold noRefs at n
    rw [Bool.and_eq_true] at n
    exact .cons (lk_in ha n.1 h) (lk_ins ha n.2 r)
theorem lk_out {a : Addr} {od : Obj} {kvs : List (L2.Key × V)} {o : HO} (e : Ext (w.lk a) w' (upd H a o) H') (ha : H' a = some (.frz od (.dK kvs))) {d : D} {v : V} (n : noRef d = true) (h : RepV G w' H' d v) : RepV G w (upd H' a (.dK kvs)) d v := by
  have ok : ∀ x, x ≠ a → ¬ w'.L x → ¬ w.L x := fun x ne h z => h (.inr (e.xl x ⟨z, ne⟩))
  refine RepV.tr (fun x vs h => ?_) (fun x vs h => ?_) (fun x vs h q => ?_) n h
  · rcases h with ⟨h, r⟩ | h
    · have ne : x ≠ a := fun z => by
        subst z
        rcases r with r | ⟨_, r⟩ <;> (rw [ha] at r; cases r)
      refine .inl ⟨ok x ne h, ?_⟩
      unfold Rd
      rw [upd_ne ne]
      exact r
    · exact .inr h
  · rcases h with ⟨h, r⟩ | h
    · have ne : x ≠ a := fun z => by
        subst z
        rcases r with r | ⟨_, r⟩ <;> (rw [ha] at r; cases r)
      refine .inl ⟨ok x ne h, ?_⟩
      unfold Rd
      rw [upd_ne ne]
      exact r
    · exact .inr h
  · have ne : x ≠ a := fun z => by
      subst z
      rw [ha] at q; cases q
    exact ⟨ok x ne h, by rw [upd_ne ne]; exact q⟩
/-- behind it: all as it was, and what is new -/
theorem lk_after {a : Addr} {od : Obj} {kvs : List (L2.Key × V)} {o : HO} (r : Rel G w Hd H) (h0 : H a = some (.dK kvs)) (e : Ext (w.lk a) w' (upd H a o) H') : Ext w w H (upd H' a (.dK kvs)) ∧ Rel G w Hd (upd H' a (.dK kvs)) := by
  have k : ∀ x u, H x = some u → upd H' a (.dK kvs) x = some u := fun x u h => by
    by_cases z : x = a
    · subst z
      rw [upd_same, ← h0]; exact h
    · rw [upd_ne z]
      exact e.keep x u lk_O (by rw [upd_ne z]; exact h)
  have th : ∀ x, H x ≠ none → upd H' a (.dK kvs) x ≠ none := fun x h => by
    obtain ⟨u, hu⟩ := Option.ne_none_iff_exists'.mp h
    rw [k x u hu]; simp
  have e1 : Ext w w H (upd H' a (.dK kvs)) := ⟨Nat.le_refl _, fun _ _ => rfl, fun i h h' => absurd h' (by omega), fun x u _ h => k x u h, th, fun _ h => .inl h, fun _ h => h⟩
  refine ⟨e1, ⟨r.n, r.inj, fun i o h => ?_, fun x h => ⟨th x (r.xx x h).1, (r.xx x h).2⟩⟩⟩
  have q := r.obj i o h
  obtain ⟨u, hu⟩ := q.some_
  exact q.ext e1 (by rw [hu]; exact k _ _ hu)
theorem prD_at {ks vs : List D} {i : Nat} {d e : D} (h : ks[i]? = some d) (h2 : vs[i]? = some e) : (itmD ks vs)[i]? = some (.tup [d, e]) := by
  unfold itmD
  rw [List.getElem?_map]
  have : (ks.zip vs)[i]? = some (d, e) := List.getElem?_zip_eq_some.mpr ⟨h, h2⟩
  rw [this] <;> rfl
theorem keyD_rep (k : L2.Key) : RepV G w H (keyD k) (kV k) := by
  cases k with
  | inl i => exact .int i
  | inr x => exact .str x.cps.toList
theorem wk_items {a : Addr} {od : Obj} {kvs : List (L2.Key × V)} {ds : List D} {w1 : Vw} {H1 : Hp} (hO : ¬ w1.O a) (ha : H1 a = some (.frz od (.dK kvs))) (hv : RepVs G w1 H1 ds (kvs.map fun p => p.2)) :
    Walk (Iti a od kvs) (itmD (keysD kvs) ds).length (GdP G w1 H1 []) (YdP G w1 H1 [] (itmD (keysD kvs) ds)) := by
  have ln : ds.length = kvs.length := by have := hv.length; rw [List.length_map] at this; exact this
  refine wk_pair (n := kvs.length) (fun i H2 hi q => ?_) (fun H2 q => ?_) (by unfold itmD keysD; simp [ln]) fun i H2 v H3 w2 Hd2 hi y e rel gd => ?_
  · obtain ⟨w2, Hd2, e, rel, gd⟩ := q
    exact ⟨e.keep _ _ hO ha, hi⟩
  · obtain ⟨w2, Hd2, e, rel, gd⟩ := q
    exact ⟨e.keep _ _ hO ha, Nat.le_refl _⟩
  · obtain ⟨T, k, u, hk, rfl, hT, rfl⟩ := y
    obtain ⟨d, hd⟩ : ∃ d, ds[i]? = some d := ⟨ds[i]'(by omega), List.getElem?_eq_getElem (by omega)⟩
    obtain ⟨u', hu, ru⟩ := (hv.ext e).get hd
    rw [List.getElem?_map, hk] at hu
    cases hu
    exact ⟨T, _, _, keyD k, d, rfl, hT, rfl, keyD_rep k, ru, prD_at (by unfold keysD; rw [List.getElem?_map, hk] <;> rfl) hd⟩
theorem norf_rs {a : Addr} {o : HO} {sd : Sd} {s : L2.St} (hx : G.exc = none) (ha : w.L a) (r : RepS G w H sd s) : RepS G (w.lk a) (upd H a o) (norfS sd) s := by
  refine ⟨by unfold norfS; rw [List.length_map]; exact r.1, fun j e hj => ?_, .no hx⟩
  unfold norfS at hj
  rw [List.getElem?_map] at hj
  cases h : sd[j]? with
  | none => rw [h] at hj; cases hj
  | some u =>
    rw [h] at hj
    cases u with
    | none => cases hj
    | some d =>
      have hj : (if noRef d then some d else none) = some e := Option.some.inj hj
      split at hj
      · rename_i n
        cases hj
        obtain ⟨v, h1, h2⟩ := r.2 j _ h
        exact ⟨v, h1, lk_in ha n h2⟩
      · cases hj
end
section
variable {X : Cx} {G : Gr} {W : WX} {pos p apos cpos tpos : Pos} {elt : Expr} {elts ifs : List Expr} {kk : Nat} {ft : Sd → HH → Rs Bool} {fe : Sd → HH → Rs D}
theorem lci_read {own : List Nat} {t : T} {i : Nat} (hK : G.K = X.K) (hx : G.exc = none) (hsl : ∀ i ∈ slT t, i ∈ own) (σ : L2.St) (H : Hp) (Q : V → Hp → Prop) (h : tD G W (lciF (asT t) ft fe own i) σ H Q) : tLockE (tLc (iItems (tVar i)) (tP X.K t) (tDT G W0 ft) (tD G W0 fe) own) σ H Q := by
  obtain ⟨w, Hd, sd, rel, rs, p⟩ := h
  unfold lciF at p
  split at p
  · rename_i r hr
    split at p
    · rename_i ks vs hd
      split at p
      · rename_i hn
        obtain ⟨v, hv, rv⟩ := rs.2 i _ hr
        cases rv with
        | ref hl =>
          have ro := rel.obj r _ hd
          generalize hz : HD.dic ks vs = z at ro
          cases ro with
          | lst _ _ => cases hz
          | @dic ds kvs q1 q2 =>
            cases hz
            have ha : w.L (w.mu r) := .inl ⟨r, hl, rfl⟩
            refine ⟨w.mu r, .dK kvs, q1, trivial, fun od => ?_⟩
            have R0 : Rel G (w.lk (w.mu r)) [] (upd H (w.mu r) (.frz od (.dK kvs))) := lk_rel rel
            have S0 : RepS G (w.lk (w.mu r)) (upd H (w.mu r) (.frz od (.dK kvs))) (norfS sd) σ := norf_rs hx ha rs
            have V0 := lk_ins (o := .frz od (.dK kvs)) ha hn q2
            have wk := wk_items (w1 := w.lk (w.mu r)) (H1 := upd H (w.mu r) (.frz od (.dK kvs))) lk_O upd_same V0
            refine ⟨_, hv, w.mu r, od, kvs, rfl, upd_same, ?_⟩
            refine lc_at (X := X) (ft := ft) (fe := fe) (b := false) (W1 := wat W σ) (Q := fun v H' => H' (w.mu r) = some (.frz od (.dK kvs)) ∧ Q v (upd H' (w.mu r) (.dK kvs))) hK hx hsl R0 S0 wk ?_
            generalize lcL [] (asT t) ft fe (wipeD (norfS sd) own) (itmD (keysD kvs) vs) [] [] = rr at p
            cases rr with
            | no => exact p.elim
            | ex a b => exact p.elim
            | ok ds H2 =>
              rw [Rs.bindN_ok] at p
              split at p
              · rename_i n2
                intro w' H' e rel' v rv
                have k := e.keep _ _ lk_O (upd_same (H := H) (a := w.mu r) (o := .frz od (.dK kvs)))
                have n3 : noRef (.lv ds) = true := by unfold noRef; exact n2
                obtain ⟨e1, r1⟩ := lk_after (od := od) rel q1 e
                exact ⟨k, p w _ e1 r1 v (lk_out e k n3 rv)⟩
              · exact p.elim
      · exact p.elim
    · exact p.elim
  · exact p.elim
theorem d_lci {scope : Scope} {own : List (Str × Nat)} {t : T} {i : Nat} {x : Str} (ok : Okx X G W) (hx : G.exc = none) (hc : X.calm = true) (h1 : X.N[i]? = some x) (h2 : Vis X.env.scope x) (h3 : (x == ("__debug__" : Str)) = false) (h4 : (x == ("__classdict__" : Str)) = false)
    (hline : (apos.endLine == cpos.line) = true) (bk : BlkOk X.N X.env.scope scope own) (hsl : ∀ i ∈ slT t, i ∈ own.map (·.2))
    (hg : Blk X scope fun Y => PG Y (.Tuple elts kk tpos) (tP X.K t)) (ht : Blk X scope fun Y => PTs Y ifs (tDT G W0 ft)) (he : Blk X scope fun Y => PE Y elt (tD G W0 fe)) :
    PE X (.ListComp elt [⟨.Tuple elts kk tpos, .Call (.Attribute (.Name x p) "items" apos) [] [] cpos, ifs, 0⟩] scope pos) (tD G W (lciF (asT t) ft fe (own.map (·.2)) i)) :=
  PE.mono (pe_lock (pe_lc hc ok.nd (pi_items (pe_var h1 h2 h3 h4) (base_ok rfl) hline) bk hg ht he (fold_of rfl))) fun σ H Q h => lci_read ok.K hx hsl σ H Q h
theorem s_setLci {j : Nat} {y : Str} {py lpos : Pos} {scope : Scope} {own : List (Str × Nat)} {t : T} {i : Nat} {x : Str} (ok : Okx X G W) (hx : G.exc = none) (hc : X.calm = true) (hy : X.N[j]? = some y) (hyl : X.env.scope.names.lookup y = some .local)
    (hsw : swapsWith (.ListComp elt [⟨.Tuple elts kk tpos, .Call (.Attribute (.Name x p) "items" apos) [] [] cpos, ifs, 0⟩] scope lpos) (some (.Name y py)) pos.line X.env = pure true)
    (h1 : X.N[i]? = some x) (h2 : Vis X.env.scope x) (h3 : (x == ("__debug__" : Str)) = false) (h4 : (x == ("__classdict__" : Str)) = false)
    (hline : (apos.endLine == cpos.line) = true) (bk : BlkOk X.N X.env.scope scope own) (hsl : ∀ i ∈ slT t, i ∈ own.map (·.2))
    (hg : Blk X scope fun Y => PG Y (.Tuple elts kk tpos) (tP X.K t)) (ht : Blk X scope fun Y => PTs Y ifs (tDT G W0 ft)) (he : Blk X scope fun Y => PE Y elt (tD G W0 fe)) :
    PS X (.Assign [.Name y py] (.ListComp elt [⟨.Tuple elts kk tpos, .Call (.Attribute (.Name x p) "items" apos) [] [] cpos, ifs, 0⟩] scope lpos) pos) (tDS G W fun s H => (lciF (asT t) ft fe (own.map (·.2)) i s H).st s fun d H1 => match asT (.nm j) d s with | some s2 => .go (.nx s2) H1 | none => .no) :=
  PS.mono (ps_lock (ps_setLc hc ok.nd hy hyl hsw (pi_items (pe_var h1 h2 h3 h4) (base_ok rfl) hline) bk hg ht he (fold_of rfl))) fun D s H h => by
    obtain ⟨w, Hd, sd, rel, rs, p⟩ := h
    have k := lci_read (X := X) (W := W) (ft := ft) (fe := fe) (own := own.map (·.2)) (i := i) ok.K hx hsl s H (fun v H' => D.nx (s.set j (some v)) H') (seqS rel rs p fun x Hd1 w1 H1 v e1 rel1 rs1 r1 p1 => p1 w1 H1 (Ext.refl _ _) rel1 _ (rs1.set hx j r1))
    obtain ⟨d, u, a1, a2, a3⟩ := k
    exact ⟨d, u, a1, a2, fun od => a3 od⟩
end
end DI
namespace DI
open PySem PySem.Spec PyProof.Rows L2
def trE (c : Cfg) (G : Gr) (W : WX) : Es → List (TE × TE)
  | .cons a (.cons b r) => (tD G W (evE c a), tD G W (evE c b)) :: trE c G W r
  | _ => []
def evenE : Es → Bool
  | .nil => true
  | .cons _ (.cons _ r) => evenE r
  | .cons _ .nil => false
def flatP : List (V × V) → List V
  | [] => []
  | p :: r => p.1 :: p.2 :: flatP r
section
variable {X : Cx} {G : Gr} {W : WX} {pos : Pos} {c : Cfg}
theorem pairs_read {σ : L2.St} {sd : Sd} : ∀ (es : Es) {w : Vw} {Hd : HH} {H : Hp} {k : List D → HH → Rs D} {Q : V → Hp → Prop} {Qp : List (V × V) → Hp → Prop}, evenE es = true → Rel G w Hd H → RepS G w H sd σ →
    Post (RepV G) G w H ((evEs c es sd Hd).bind k) (wat W σ) Q →
    (∀ ds Hd1 w1 H1 ps, evEs c es sd Hd = .ok ds Hd1 → Ext w w1 H H1 → Rel G w1 Hd1 H1 → RepVs G w1 H1 ds (flatP ps) → Post (RepV G) G w1 H1 (k ds Hd1) (wat W σ) Q → Qp ps H1) → tPairs (trE c G W es) σ H Qp
  | .nil, w, Hd, H, k, Q, Qp, _, rel, rs, p, h => by
    rw [evEs] at p
    exact h [] Hd w H [] (by rw [evEs]) (Ext.refl _ _) rel .nil p
  | .cons a .nil, _, _, _, _, _, _, he, _, _, _, _ => by cases he
  | .cons a (.cons b r), w, Hd, H, k, Q, Qp, he, rel, rs, p, h => by
    simp only [evEs] at p
    have p : Post (RepV G) G w H ((evE c a sd Hd).bind fun d H1 => (evE c b sd H1).bind fun e H2 => (evEs c r sd H2).bind fun ds H3 => k (d :: e :: ds) H3) (wat W σ) Q := by
      revert p
      generalize evE c a sd Hd = x1
      intro p
      cases x1 with
      | no => exact p
      | ex _ _ => exact p
      | ok d H1 =>
        simp only [Rs.bind_ok] at p ⊢
        revert p
        generalize evE c b sd H1 = x2
        intro p
        cases x2 with
        | no => exact p
        | ex _ _ => exact p
        | ok e H2 =>
          simp only [Rs.bind_ok] at p ⊢
          revert p
          generalize evEs c r sd H2 = x3
          intro p
          cases x3 <;> exact p
    unfold trE tPairs
    refine seqQ rel rs p fun x Hd1 w1 H1 v q1 e1 rel1 rs1 r1 p1 => ?_
    refine seqQ rel1 rs1 p1 fun y Hd2 w2 H2 u q2 e2 rel2 rs2 r2 p2 => ?_
    refine pairs_read r (show evenE r = true from he) rel2 rs2 p2 fun ds Hd3 w3 H3 ps q3 e3 rel3 r3 p3 => ?_
    exact h _ Hd3 w3 H3 ((v, u) :: ps) (by rw [evEs, q1, Rs.bind_ok, evEs, q2, Rs.bind_ok, q3]; rfl) ((e1.trans e2).trans e3) rel3 (.cons ((r1.ext e2).ext e3) (.cons (r2.ext e3) r3)) p3
theorem lit_rep {w : Vw} {H : Hp} : ∀ {ps : List (V × V)} {ds : List D} {acc : List (L2.Key × V)} {as : List D} {kv : List D × List D}, RepVs G w H ds (flatP ps) → RepVs G w H as (acc.map fun p => p.2) → litL ds (keysD acc, as) = some kv →
    ∃ kvs : List (L2.Key × V), ps = kvs.map (fun q => (kV q.1, q.2)) ∧ kv.1 = keysD (mergeK acc kvs) ∧ RepVs G w H kv.2 ((mergeK acc kvs).map fun p => p.2)
  | [], _, acc, as, kv, r, rd, h => by
    cases r
    unfold litL at h
    cases h
    exact ⟨[], rfl, rfl, rd⟩
  | p :: ps, _, acc, as, kv, r, rd, h => by
    obtain ⟨pk, pv⟩ := p
    have r : RepVs G w H _ (pk :: pv :: flatP ps) := r
    cases r with
    | cons r1 r0 =>
      cases r0 with
      | cons r2 r3 =>
        unfold litL at h
        split at h
        · rename_i hk
          obtain ⟨k, rfl, rfl⟩ := key_rep r1 hk
          obtain ⟨p1, p2⟩ := dput_rep (k := k) r2 rd
          dsimp only at h
          rename_i dv dr
          have h' : litL dr (keysD (putK acc k pv), (dputL (keysD acc) as (keyD k) dv).2) = some kv := by rw [← p1]; exact h
          obtain ⟨kvs, rfl, k1, k2⟩ := lit_rep r3 p2 h'
          exact ⟨(k, _) :: kvs, rfl, k1, k2⟩
        · cases h
theorem flat_len : ∀ ps : List (V × V), (flatP ps).length = 2 * ps.length
  | [] => rfl
  | p :: r => by
    show (flatP r).length + 1 + 1 = 2 * (r.length + 1)
    rw [flat_len r]; omega
theorem d_disp {ks : List (Option Expr)} {vs : List Expr} {d : Es} (h : PPs X pos ks vs (trE c G W d)) (he : evenE d = true) (hall : ks.all (·.isSome) = true) (hl : ks.length = vs.length) (h0 : ks ≠ []) (h15 : ks.length ≤ 15) :
    PE X (.Dict ks vs pos) (tD G W fun s H => (evEs c d s H).bind fun ds H1 => match litD ds with
      | some kv => .ok (.ref H1.length) (H1 ++ [.dic kv.1 kv.2])
      | none => .no) := PE.mono (pe_disp h hall hl h0 h15) fun s H Q q => by
  obtain ⟨w, Hd, sd, rel, rs, p⟩ := q
  intro D hD
  have hD1 : ¬ w.L D := rel.notL hD
  have e0 : Ext w (w.pl D) H (upd H D (.dK [])) := by
    have e := ext_new rel hD (.dK [])
    exact ⟨e.le, e.mu, e.fresh, e.keep, e.there, fun a h => h.elim .inl fun z => .inr (z ▸ hD), fun a h => .inl h⟩
  have rel0 : Rel G (w.pl D) Hd (upd H D (.dK [])) := rel.tun rfl rfl (pl_tun hD) (Vw.notO hD1) (fun a h => h)
  refine pairs_read d he rel0 (rs.ext e0) (Post.step p e0) fun ds Hd1 w1 H1 ps q1 e1 rel1 r1 p1 => ?_
  have hx : w1.xx D := e1.xl D (.inr rfl)
  have hacc : H1 D = some (.dK []) := e1.keep _ _ (rel0.xx D (.inr rfl)).2 upd_same
  refine ⟨hacc, ?_⟩
  cases hq : litD ds with
  | none => rw [hq] at p1; exact p1.elim
  | some kv =>
    rw [hq] at p1
    unfold litD at hq
    split at hq
    · rename_i hlen
      obtain ⟨kvs, rfl, k1, k2⟩ := lit_rep (acc := []) (as := []) r1 .nil hq
      refine ⟨kvs, rfl, ?_, ?_⟩
      · have := r1.length
        rw [flat_len, List.length_map] at this
        omega
      · dsimp only at p
        rw [q1, Rs.bind_ok] at p
        rw [show litD ds = some kv by unfold litD; rw [if_pos hlen]; exact hq] at p
        have hx2 : (w1.xx D) := hx
        have k2' := k2.tun (o := .dK (mergeK [] kvs)) rfl rfl (x_tun hx)
        have rel2 : Rel G w1 Hd1 (upd H1 D (.dK (mergeK [] kvs))) := rel1.tun rfl rfl (x_tun hx) (rel1.xx D hx).2 fun a h => .inl h
        have z : RepV G (w1.pr D) (upd H1 D (.dK (mergeK [] kvs))) (.ref Hd1.length) (.ref D) := by
          have := RepV.ref (G := G) (w := w1.pr D) (H := upd H1 D (.dK (mergeK [] kvs))) (r := w1.n) (Nat.lt_succ_self _)
          rw [show (w1.pr D).mu w1.n = D from add_n] at this
          rw [← rel1.n]
          exact this
        have e01 := e0.trans e1
        have rp := rel2.prd hx upd_same k2'
        rw [← k1] at rp
        refine p (w1.pr D) _ ⟨Nat.le_trans e01.le (Nat.le_succ _), fun i h => (add_lt (Nat.lt_of_lt_of_le h e01.le)).trans (e01.mu i h), fun i h h' => ?_, fun a o h1 h2 => ?_, fun a h => ?_, fun a h => e01.xx a h.1, fun a h => ⟨e01.xl a h, fun q => hD1 (.inr (q ▸ h))⟩⟩ rp _ z
        · by_cases h2 : i < w1.n
          · rw [show (w1.pr D).mu i = w1.mu i from add_lt h2]; exact e01.fresh i h h2
          · have : i = w1.n := by have : i < w1.n + 1 := h'; omega
            subst this
            rw [show (w1.pr D).mu w1.n = D from add_n]; exact hD
        · rw [upd_ne (ne_of_none h2 hD)]
          exact e01.keep a o h1 h2
        · by_cases q : a = D
          · subst q; rw [upd_same]; simp
          · rw [upd_ne q]; exact e01.there a h
    · cases hq
end
end DI
namespace DI
open PySem PySem.Spec PyProof.Rows L2
/-- at a: a written dict of these keys and values -/
def KDv (K : PySem.W.Frag) (w : World) (a : Addr) (ks vs : List D) : Prop := ∃ es n, KDict K w a es n ∧ ∀ z : List Nat, match dgetL ks vs (.str z) with
  | some d => ∃ u v, PySem.W.nsIn K a ⟨z.toArray⟩ = some (some u) ∧ RelV v u ∧ ∀ G w' H, RepV G w' H d v
  | none => PySem.W.nsIn K a ⟨z.toArray⟩ = some none
theorem KDv.there {K : PySem.W.Frag} {w : World} {a : Addr} {ks vs : List D} (h : KDv K w a ks vs) {z : List Nat} {d : D} (e : dgetL ks vs (.str z) = some d) : ∃ es n u v, KDict K w a es n ∧ PySem.W.nsIn K a ⟨z.toArray⟩ = some (some u) ∧ RelV v u ∧ ∀ G w' H, RepV G w' H d v := by
  obtain ⟨es, n, h1, h2⟩ := h
  have h2 := h2 z
  rw [e] at h2
  obtain ⟨u, v, h3⟩ := h2
  exact ⟨es, n, u, v, h1, h3⟩
theorem KDv.miss {K : PySem.W.Frag} {w : World} {a : Addr} {ks vs : List D} (h : KDv K w a ks vs) {z : List Nat} (e : dgetL ks vs (.str z) = none) : ∃ es n, KDict K w a es n ∧ PySem.W.nsIn K a ⟨z.toArray⟩ = some none := by
  obtain ⟨es, n, h1, h2⟩ := h
  have h2 := h2 z
  rw [e] at h2
  exact ⟨es, n, h1, h2⟩
theorem KDv.is {K : PySem.W.Frag} {w : World} {a : Addr} {ks vs : List D} (h : KDv K w a ks vs) (z : List Nat) : ∃ es n r, KDict K w a es n ∧ PySem.W.nsIn K a ⟨z.toArray⟩ = some r ∧ r.isSome = (dgetL ks vs (.str z)).isSome := by
  cases e : dgetL ks vs (.str z) with
  | none =>
    obtain ⟨es, n, h1, h2⟩ := h.miss e
    exact ⟨es, n, _, h1, h2, rfl⟩
  | some d =>
    obtain ⟨es, n, u, v, h1, h2, _⟩ := h.there e
    exact ⟨es, n, _, h1, h2, rfl⟩
section
variable {X : Cx} {G : Gr} {W : WX} {pos : Pos} {x a b e : Expr} {fa fb : Sd → HH → Rs D} {p : Addr} {ks vs : List D}
theorem d_gget (hk : KDv X.K X.w p ks vs) (hx : PE X x (tC (.ref p))) (hp : plainIx b = true) (hb : PE X b (tD G W fb)) : PE X (.Subscript x b pos) (tD G W fun s H => (fb s H).bind fun y H1 => Rs.ofO (ggetD ks vs y) H1) :=
  PE.mono (pe_ix ix_kdict hx hb (plainIx_ok hp)) fun s H Q h => by
    obtain ⟨w, Hd, sd, rel, rs, q0⟩ := h
    show tD G W fb s H _
    refine seq rel rs q0 fun y Hd1 w1 H1 v e1 rel1 rs1 r1 p1 => ?_
    obtain ⟨d, hd, q⟩ := ofO_post p1
    unfold ggetD at hd
    split at hd
    · rename_i z
      cases r1
      obtain ⟨es, n, u, vv, h1, h2, h3, h4⟩ := hk.there hd
      exact ⟨p, _, vv, rfl, rfl, ⟨es, n, u, h1.at_, h1.lit, h2, h3⟩, q w1 H1 (Ext.refl _ _) rel1 vv (h4 _ _ _)⟩
    · cases hd
theorem op_gin (hk : KDv X.K X.w p ks vs) : OpR X (compareOp .In) (fun x y H Q => ∃ z : List Nat, x = .str ⟨z.toArray⟩ ∧ y = .ref p ∧ Q (.bl (dgetL ks vs (.str z)).isSome) H) := by
  intro pins s σ H x y v u Q I rx ry h
  obtain ⟨z, rfl, rfl, q⟩ := h
  obtain ⟨es, n, r, h1, h2, h3⟩ := hk.is z
  exact op_in_kd h1 pins s σ H _ _ v u Q I rx ry ⟨_, r, rfl, rfl, h2, by rw [h3]; exact q⟩
theorem op_gnin (hk : KDv X.K X.w p ks vs) : OpR X (compareOp .NotIn) (fun x y H Q => ∃ z : List Nat, x = .str ⟨z.toArray⟩ ∧ y = .ref p ∧ Q (.bl (!(dgetL ks vs (.str z)).isSome)) H) := by
  intro pins s σ H x y v u Q I rx ry h
  obtain ⟨z, rfl, rfl, q⟩ := h
  obtain ⟨es, n, r, h1, h2, h3⟩ := hk.is z
  exact op_notIn_kd h1 pins s σ H _ _ v u Q I rx ry ⟨_, r, rfl, rfl, h2, by rw [h3]; exact q⟩
theorem d_gin {b : Bool} (hk : KDv X.K X.w p ks vs) (hm : notSet x = true) (hx : PE X x (tC (.ref p))) (ha : PE X a (tD G W fa)) :
    PE X (.Compare a [if b then .In else .NotIn] [x] pos) (tD G W fun s H => (fa s H).bind fun y H1 => Rs.ofO ((ginD b ks vs y).map .bl) H1) ∧ PT X (.Compare a [if b then .In else .NotIn] [x] pos) (tDT G W fun s H => (fa s H).bind fun y H1 => Rs.ofO (ginD b ks vs y) H1) := by
  cases b
  · refine ⟨PE.mono (pe_cmpR (op_gnin hk) ha hx (nomark_of hm)) fun s H Q h => ?_, PT.mono (pt_cmpR (op_gnin hk) ha hx (nomark_of hm)) fun s H Q h => ?_⟩
    · obtain ⟨w, Hd, sd, rel, rs, q0⟩ := h
      refine seq rel rs q0 fun y Hd1 w1 H1 v e1 rel1 rs1 r1 p1 => ?_
      obtain ⟨d, hd, q⟩ := ofO_post p1
      unfold ginD at hd
      split at hd
      · cases r1
        cases hd
        exact ⟨_, rfl, rfl, q w1 H1 (Ext.refl _ _) rel1 _ (.bl _)⟩
      · cases hd
    · obtain ⟨w, Hd, sd, rel, rs, q0⟩ := h
      refine seq rel rs q0 fun y Hd1 w1 H1 v e1 rel1 rs1 r1 p1 => ?_
      obtain ⟨d, hd, q⟩ := ofO_post p1
      unfold ginD at hd
      split at hd
      · cases r1
        cases hd
        exact ⟨_, rfl, rfl, _, rfl, q w1 H1 (Ext.refl _ _) rel1 _ rfl⟩
      · cases hd
  · refine ⟨PE.mono (pe_cmpR (op_gin hk) ha hx (nomark_of hm)) fun s H Q h => ?_, PT.mono (pt_cmpR (op_gin hk) ha hx (nomark_of hm)) fun s H Q h => ?_⟩
    · obtain ⟨w, Hd, sd, rel, rs, q0⟩ := h
      refine seq rel rs q0 fun y Hd1 w1 H1 v e1 rel1 rs1 r1 p1 => ?_
      obtain ⟨d, hd, q⟩ := ofO_post p1
      unfold ginD at hd
      split at hd
      · cases r1
        cases hd
        exact ⟨_, rfl, rfl, q w1 H1 (Ext.refl _ _) rel1 _ (.bl _)⟩
      · cases hd
    · obtain ⟨w, Hd, sd, rel, rs, q0⟩ := h
      refine seq rel rs q0 fun y Hd1 w1 H1 v e1 rel1 rs1 r1 p1 => ?_
      obtain ⟨d, hd, q⟩ := ofO_post p1
      unfold ginD at hd
      split at hd
      · cases r1
        cases hd
        exact ⟨_, rfl, rfl, _, rfl, q w1 H1 (Ext.refl _ _) rel1 _ rfl⟩
      · cases hd
theorem pe_gget2 {apos cpos : Pos} {ta tb : TE} (hk : KDv X.K X.w p ks vs) (hx : PE X x (tC (.ref p))) (ha : PE X a ta) (hb : PE X b tb) (m : M2 X x "get" apos a b cpos) :
    PE X (.Call (.Attribute x "get" apos) [a, b] [] cpos) (fun σ H Q => ta σ H fun y H1 => tb σ H1 fun z H2 => ∃ k : List Nat, y = .str ⟨k.toArray⟩ ∧
      ((∃ es n u v, KDict X.K X.w p es n ∧ PySem.W.nsIn X.K p ⟨k.toArray⟩ = some (some u) ∧ RelV v u ∧ Q v H2) ∨ (∃ es n, KDict X.K X.w p es n ∧ PySem.W.nsIn X.K p ⟨k.toArray⟩ = some none ∧ Q z H2))) := by
  obtain ⟨es0, n0, D0, _⟩ := hk
  refine ⟨fun pins s σ H Q I h => ?_⟩
  refine wpAny_Call_method m.base m.few m.line PySem.F.plainAttrs_dict PySem.F.slot_dict_get PySem.F.type_dict_get (thn (hx.run pins s σ H (fun u H' => u = .ref p ∧ H' = H) I ⟨rfl, rfl⟩) fun u s1 ⟨x', H1, I1, rx, e1, e2⟩ => ?_)
  subst e1
  subst e2
  obtain rfl : u = Value.ref p := rx
  refine ⟨kd_type D0 I1, fun b q => ?_, ?_⟩
  · cases q
    exact ⟨_, I1.kIn _ _ D0.at_, rfl⟩
  rw [m.trees]
  refine Calls.callWith_builtin rfl (Calls.evalArgs_plain (Calls.spliced_cons (thn (ha.run pins s1 σ _ _ I1 h) fun iv s2 ⟨y, H2, I2, ry, q2⟩ =>
    Calls.spliced_cons (thn (hb.run pins s2 σ H2 _ I2 q2) fun fv s3 ⟨z, H3, I3, rz, k, ek, q3⟩ => Calls.spliced_nil ?_))))
  subst ek
  obtain ⟨t, rfl⟩ := ry
  rcases q3 with ⟨es, n, u, v, D, hn, rv, q⟩ | ⟨es, n, D, hn, q⟩
  · refine call_meetsIn PySem.F.slot_dict_get (kd_type D I3) PySem.F.entry_dict_get (PySem.F.args_dict_get_3 _ _ _) (meets_dict_get_default (strKind X.prog X.w) p (strKind_is X.prog X.w _ t) D.low fv) ⟨_, PySem.W.mapOf_K (prog := X.prog) I3.kIn D.at_ D.lit, ?_⟩
    rw [PySem.W.find_K D.at_ hn]
    exact ⟨v, H3, I3.tok _, rv, q⟩
  · refine call_meetsIn PySem.F.slot_dict_get (kd_type D I3) PySem.F.entry_dict_get (PySem.F.args_dict_get_3 _ _ _) (meets_dict_get_default (strKind X.prog X.w) p (strKind_is X.prog X.w _ t) D.low fv) ⟨_, PySem.W.mapOf_K (prog := X.prog) I3.kIn D.at_ D.lit, ?_⟩
    rw [PySem.W.find_K D.at_ hn]
    exact ⟨z, H3, I3.tok _, rz, q⟩
theorem d_gget2 {apos : Pos} {n : Str} (hk : KDv X.K X.w p ks vs) (hn : n = "get") (hbs : plainBase x = true) (hs1 : notStar a = true) (hs2 : notStar b = true) (hl : (apos.endLine == pos.line) = true)
    (hx : PE X x (tC (.ref p))) (ha : PE X a (tD G W fa)) (hb : PE X b (tD G W fb)) :
    PE X (.Call (.Attribute x n apos) [a, b] [] pos) (tD G W fun s H => (fa s H).bind fun y H1 => (fb s H1).bind fun z H2 => Rs.ofO (gget2D ks vs y z) H2) := by
  subst hn
  have tr : backTo pos (starEach [a, b] X.env) = [(false, eval a X.env), (false, eval b X.env)] := by
    rw [star_cons hs1, star_cons hs2] <;> rfl
  have m : M2 X x "get" apos a b pos := ⟨base_ok hbs, by rw [tr] <;> rfl, hl, tr⟩
  refine PE.mono (pe_gget2 hk hx ha hb m) fun s H Q h => ?_
  obtain ⟨w, Hd, sd, rel, rs, q0⟩ := h
  refine seq rel rs q0 fun y Hd1 w1 H1 v e1 rel1 rs1 r1 p1 => ?_
  refine seq rel1 rs1 p1 fun z Hd2 w2 H2 u e2 rel2 rs2 r2 p2 => ?_
  obtain ⟨d, hd, q⟩ := ofO_post p2
  unfold gget2D at hd
  split at hd
  · rename_i k
    cases r1
    cases hd
    refine ⟨k, rfl, ?_⟩
    cases e : dgetL ks vs (.str k) with
    | none =>
      obtain ⟨es, n, h1, h2⟩ := hk.miss e
      rw [e] at q
      exact .inr ⟨es, n, h1, h2, q w2 H2 (Ext.refl _ _) rel2 _ r2⟩
    | some d =>
      obtain ⟨es, n, u', v', h1, h2, h3, h4⟩ := hk.there e
      rw [e] at q
      exact .inl ⟨es, n, u', v', h1, h2, h3, q w2 H2 (Ext.refl _ _) rel2 _ (h4 _ _ _)⟩
  · cases hd
end
end DI
namespace DI
open PySem PySem.Spec PyProof.Rows L2
theorem repl_markS (c : Nat) (z : List Nat) : ∀ l : List Nat, PySem.StrLaws.replL [c] z l = markS c z l
  | [] => PySem.StrLaws.replL_nil
  | d :: r => by
    by_cases h : d = c
    · rw [PySem.StrLaws.replL_hit (by simp) (by simp [h])]
      show z ++ PySem.StrLaws.replL [c] z r = _
      rw [repl_markS c z r]
      simp [markS, h]
    · rw [PySem.StrLaws.replL_miss (by simp [h]), repl_markS c z r]
      simp [markS, h]
theorem str_ext {a b : Str} (h : a.cps.toList = b.cps.toList) : a = b := by
  cases a; cases b
  simp only [Str.mk.injEq]
  exact Array.toList_inj.mp h
theorem repl_str {y z : Str} {c : Nat} (hy : y.cps.toList = [c]) (l : List Nat) : Txt.replace ⟨l.toArray⟩ y z = ⟨(markS c z.cps.toList l).toArray⟩ := by
  refine str_ext ?_
  have e : y.length = 1 := by
    show y.cps.size = 1
    rw [← Array.length_toList, hy]; rfl
  rw [PySem.StrLaws.replace_list (by omega), hy]
  show PySem.StrLaws.replL [c] z.cps.toList l = (markS c z.cps.toList l).toArray.toList
  rw [repl_markS]
/-- a def of one text, that puts signs otherwise -/
def MrkRun (P : Program) (w : World) (K : PySem.W.Frag) (mg : Str → Option Value) (base : Heap) (k : Nat) (f : Addr) (ch : List (Nat × List Nat)) : Prop :=
  ∀ (A : Around) (outer : List Env) (s : Shared) (H : Hp) (l : List Nat) (tx : Tok) (Q : VK) (E : XK), Room k A → Env0 P w K mg base A outer s H → 1 ≤ s.toks → fitsM ch l = true → Q (.str ⟨(markL ch l).toArray⟩) H →
    codeAny (model P w) A (.call (.ref f) ⟨[.str ⟨l.toArray⟩ tx], []⟩) (CR (L2.CX P w) outer P w H s Q E) s
structure MkD (X : Cx) (x : Str) (ch : List (Nat × List Nat)) : Prop where
  nd : (x == ("__debug__" : Str)) = false
  ex : ∃ l f, Room l X.A ∧ X.mg x = some (.ref f) ∧ PySem.W.keepIn X.K (.ref f) = true ∧ MrkRun X.prog X.w X.K X.mg X.base l f ch
section
variable {P : Program} {w : World} {K : PySem.W.Frag} {mg : Str → Option Value} {base : Heap} {x qual a0 : Str} {params : Arguments} {body : List Stmt} {scope : Scope} {f : Addr} {fd : FuncData} {k : Nat}
theorem mrk_run {y1 z1 y2 z2 y3 z3 : Str} {c1 c2 c3 : Nat} {j1 k1 j2 k2 j3 k3 : Nat} {p0 q1 r1 a1 b1 q2 r2 a2 b2 q3 r3 a3 b3 rp : Pos} (F : FunD K x qual params body scope [] [] f fd) (S : FnScope [a0] [a0] scope)
    (hbd : body = [.Return (some (.Call (.Attribute (.Call (.Attribute (.Call (.Attribute (.Name a0 p0) "replace" a1) [.Constant (.str y1) j1 q1, .Constant (.str z1) k1 r1] [] b1) "replace" a2) [.Constant (.str y2) j2 q2, .Constant (.str z2) k2 r2] [] b2) "replace" a3) [.Constant (.str y3) j3 q3, .Constant (.str z3) k3 r3] [] b3)) rp])
    (hb : ∀ (s : Shared) (u : Value), BindsTo s fd ⟨[u], []⟩ [(a0, u)])
    (e1 : y1.cps.toList = [c1]) (e2 : y2.cps.toList = [c2]) (e3 : y3.cps.toList = [c3]) (n1 : (y1 == z1) = false) (n2 : (y2 == z2) = false) (n3 : (y3 == z3) = false)
    (l1 : (a1.endLine == b1.line) = true) (l2 : (a2.endLine == b2.line) = true) (l3 : (a3.endLine == b3.line) = true)
    (h0 : scope.names.lookup a0 = some .local) (d0 : (a0 == ("__debug__" : Str)) = false) (d1 : (a0 == ("__classdict__" : Str)) = false) :
    MrkRun P w K mg base (k + 1) f [(c1, z1.cps.toList), (c2, z2.cps.toList), (c3, z3.cps.toList)] := by
  obtain ⟨oc, od, dV, kV, doc, pm, an, cdv, ct, osl, rfl, lk, hcd, _, _⟩ := F.ex
  intro A outer s H l tx Q E hr e0 ht hf hq
  subst hbd
  have KX : K.In s.heap := e0.mod.kin.keeps fun b o e => (e0.bs b o e).1
  have kinds : ∀ y ∈ [(a0, Value.str ⟨l.toArray⟩ tx)], scope.names.lookup y.1 = some .local ∨ (scope.names.lookup y.1 = some .cell ∧ ((cellsFrom (s.heap.objs.size + 1) scope.names []).lookup y.1).isSome = true) := by
    intro y hy
    cases List.mem_singleton.mp hy
    exact .inl h0
  refine codeAny_call_function hr.depth (KX _ _ lk) rfl S.co S.gen rfl (PySem.W.codeRec_of KX hcd) (hb s _ _ _ _ _ ?_)
  refine wpAny_mono (PySem.wpAny_toks (wpAny_newFunctionEnv_cells (Q := fun env s1 => env = envOfC qual scope s.heap.objs.size f cdv ∧ InCallC s env.locals (bindL env.kindOf [(a0, Value.str ⟨l.toArray⟩ tx)] fun _ => none) env.cells (bindC env.kindOf [(a0, Value.str ⟨l.toArray⟩ tx)] fun _ => none) s1) S.kind kinds fun env he s1 hx => ⟨he, hx⟩)) (fun env s1 q => ?_) fun _ _ z => z.2
  obtain ⟨htk, he, hx⟩ := q
  cases he
  refine ⟨Heap.NoLimit.keeps (e0.mod.nolimit.keeps fun b o e => (e0.bs b o e).1) hx.toInCall.keep, codeAny_func ?_⟩
  have I : L2.Inv (cxOf (CX P w) P w K mg base [a0] qual scope f cdv A outer s H E) [] (L2.start [a0] [.str ⟨l.toArray⟩]) H s1 := inv_start S hr.hd e0 rfl (.cons ⟨tx, rfl⟩ .nil) hx
  have pv : PE (cxOf (CX P w) P w K mg base [a0] qual scope f cdv A outer s H E) (.Name a0 p0) (tVar 0) := pe_var (X := cxOf (CX P w) P w K mg base [a0] qual scope f cdv A outer s H E) rfl (.inl h0) d0 d1
  have t1 := CwR.pet_replC (c0 := q1) (c1 := r1) (j := j1) (k := k1) (y := y1) (z := z1) (apos := a1) (pos := b1) pv n1 (by rfl) (by rfl) l1
  have t2 := CwR.pet_replT (c0 := q2) (c1 := r2) (j := j2) (k := k2) (y := y2) (z := z2) (apos := a2) (pos := b2) t1 n2 (by rfl) (by rfl) l2
  have t3 := CwR.pet_replT (c0 := q3) (c1 := r3) (j := j3) (k := k3) (y := y3) (z := z3) (apos := a3) (pos := b3) t2 n3 (by rfl) (by rfl) l3
  simp only [fitsM, Bool.and_eq_true, decide_eq_true_eq, and_true] at hf
  obtain ⟨f1, f2, f3⟩ := hf
  have ln : ∀ q : List Nat, (⟨q.toArray⟩ : Str).length = q.length := fun q => by show q.toArray.size = _; simp
  have lz : ∀ q : Str, q.length = q.cps.toList.length := fun q => Array.length_toList.symm
  have run := t3 [] s1 (L2.start [a0] [.str ⟨l.toArray⟩]) H (fun v H' => v = .str ⟨(markL [(c1, z1.cps.toList), (c2, z2.cps.toList), (c3, z3.cps.toList)] l).toArray⟩ ∧ H' = H) (Nat.le_trans ht htk) I
    ⟨.str ⟨l.toArray⟩, rfl, _, rfl, by rw [ln, lz z1]; exact f1, _, rfl, by rw [repl_str e1, ln, lz z2]; exact f2, _, rfl, by rw [repl_str e1, repl_str e2, ln, lz z3]; exact f3, by rw [repl_str e1, repl_str e2, repl_str e3]; rfl, rfl⟩
  refine wpAny_execs_cons (wpAny_Return_some (thn run fun u s2 hu => ?_))
  obtain ⟨v, H', J, rv, rfl, rfl⟩ := hu
  exact ⟨_, _, J.os, J.bare, J.base, J.hok, rv, hq⟩
end
/-- the body of such a def: its text's name, what is put for what -/
def mrkB : List Stmt → Option (Str × (Str × Str) × (Str × Str) × (Str × Str))
  | [.Return (some (.Call (.Attribute (.Call (.Attribute (.Call (.Attribute (.Name a0 _) n1 a1) [.Constant (.str y1) _ _, .Constant (.str z1) _ _] [] b1) n2 a2) [.Constant (.str y2) _ _, .Constant (.str z2) _ _] [] b2) n3 a3) [.Constant (.str y3) _ _, .Constant (.str z3) _ _] [] b3)) _] =>
    if decide (n1 = ("replace" : Str)) && (decide (n2 = ("replace" : Str)) && (decide (n3 = ("replace" : Str)) && (!(y1 == z1) && (!(y2 == z2) && (!(y3 == z3) && ((a1.endLine == b1.line) && ((a2.endLine == b2.line) && (a3.endLine == b3.line)))))))) then some (a0, (y1, z1), (y2, z2), (y3, z3)) else none
  | _ => none
theorem mrk_of {P : Program} {w : World} {K : PySem.W.Frag} {mg : Str → Option Value} {base : Heap} {x qual a0 : Str} {params : Arguments} {body : List Stmt} {scope : Scope} {f : Addr} {fd : FuncData} {k : Nat} {y1 z1 y2 z2 y3 z3 : Str} {c1 c2 c3 : Nat}
    (F : FunD K x qual params body scope [] [] f fd) (S : FnScope [a0] [a0] scope) (h : mrkB body = some (a0, (y1, z1), (y2, z2), (y3, z3))) (hb : ∀ (s : Shared) (u : Value), BindsTo s fd ⟨[u], []⟩ [(a0, u)])
    (e1 : y1.cps.toList = [c1]) (e2 : y2.cps.toList = [c2]) (e3 : y3.cps.toList = [c3]) (h0 : scope.names.lookup a0 = some .local) (d0 : (a0 == ("__debug__" : Str)) = false) (d1 : (a0 == ("__classdict__" : Str)) = false) :
    MrkRun P w K mg base (k + 1) f [(c1, z1.cps.toList), (c2, z2.cps.toList), (c3, z3.cps.toList)] := by
  unfold mrkB at h
  split at h
  · split at h
    · rename_i hc
      simp only [Bool.and_eq_true, decide_eq_true_eq, Bool.not_eq_true'] at hc
      obtain ⟨rfl, rfl, rfl, m1, m2, m3, l1, l2, l3⟩ := hc
      cases h
      exact mrk_run F S rfl hb e1 e2 e3 m1 m2 m3 l1 l2 l3 h0 d0 d1
    · cases h
  · cases h
section
variable {X : Cx} {G : Gr} {W : WX} {pos p cp p1 p2 : Pos} {x c : Str} {a : Expr} {fa : Sd → HH → Rs D} {ch : List (Nat × List Nat)} {j : Nat}
/-- "text" + f(a), f such a def -/
theorem d_mrk (ok : Okx X G W) (M : MkD X x ch) (hg : Gl X x) (hs : notStar a = true) (ha : PE X a (tD G W fa)) :
    PE X (.BinOp (.Constant (.str c) j cp) .Add (.Call (.Name x p1) [a] [] p2) pos) (tD G W fun s H => (fa s H).bind fun y H1 => Rs.ofO (mrkD c.cps.toList ch y) H1) := by
  obtain ⟨k, f, hr, hm, hk, R⟩ := M.ex
  refine ⟨fun pins s σ H Q I h => ?_⟩
  obtain ⟨w, Hd, sd, rel, rs, q⟩ := h
  refine wpAny_BinOp (Calls.Constant_str ?_)
  refine wpAny_Call_Name_kw (ld_glob (I.tok _) hg hm ?_ M.nd)
  have z : tCons (tD G W fa) tNil σ H (fun vs H1 => ∃ l w1 Hd1, vs = [.str ⟨l.toArray⟩] ∧ fitsM ch l = true ∧ c.cps.toList.length + (markL ch l).length ≤ lim ∧ Rel G w1 Hd1 H1 ∧ Ret G w1 Hd1 H1 (.str (c.cps.toList ++ markL ch l)) Q) :=
    seq rel rs q fun y Hd1 w1 H1 v e1 rel1 rs1 r1 p1 => by
      obtain ⟨d, hd, q⟩ := ofO_post p1
      unfold mrkD at hd
      split at hd
      · split at hd
        · rename_i l hc
          cases hd
          cases r1
          exact ⟨l, w1, Hd1, rfl, hc.1, hc.2, rel1, q⟩
        · cases hd
      · cases hd
  have htk : 1 ≤ s.toks + 1 := by omega
  refine PySem.W.callWith_K (h₀ := X.base) I.ok.mod.kin hk (wpAny_mono (PySem.wpAny_toks_of htk ((pa_cons ha pa_nil (star_cons hs)).run p2 pins { s with toks := s.toks + 1 } σ H _ (I.tok _) z)) (fun us s2 h2 => ?_) fun _ _ z => z.2) (star_cons hs) rfl
  obtain ⟨h2, vs, H1, I1, rv, l, w1, Hd1, rfl, hf, hl, rel1, ret⟩ := h2
  cases rv with
  | cons rv rr =>
    cases rr
    obtain ⟨tx, rfl⟩ := rv
    refine ⟨I1.kIn, wpAny_call (codeAny_mono (R X.A X.stack s2 H1 l tx (fun v H' => v = .str ⟨(markL ch l).toArray⟩ ∧ H' = H1) (wat W σ) hr I1.env0 h2 hf ⟨rfl, rfl⟩) fun rr s' hq => ?_)⟩
    cases rr with
    | error e => exact passAt ok.tk σ pins H1 s2 e s' I1 hq
    | ok fl => cases fl with
      | ret u =>
        obtain ⟨v, H', J, rv, rfl, rfl⟩ := I1.after hq
        have cc : V.str c = .str ⟨c.cps.toList.toArray⟩ := by simp
        refine bin_add ok.K pins s' σ H' (.str c) _ _ u Q J ⟨_, rfl⟩ rv ⟨w1, Hd1, .str c.cps.toList, .str (markL ch l), _, rel1, ?_, .str _, ?_, ret⟩
        · rw [cc]; exact .str _
        · show (if c.cps.toList.length + (markL ch l).length ≤ lim then some (D.str (c.cps.toList ++ markL ch l)) else none) = _
          rw [if_pos hl]
      | _ => exact False.elim hq
end
end DI
namespace DI
open PySem PySem.Spec PyProof.Rows L2

def oexB (K : PySem.W.Frag) (C : Addr) : Bool := match K.lookup C with
  | some ⟨.type "type", _, .cls cd, sl⟩ => (match cd.mro, sl.toList with
    | .ref C' :: bm, [_, _, _, _, some (.builtin n), _] => C' == C && (n == "ValueError.__new__" && (!cd.hasDel && (cd.hasDict && PySem.HandSPX.refsVE bm)))
    | _, _ => false)
  | _ => false
theorem oexB_ok {K : PySem.W.Frag} {C : Addr} (q : oexB K C = true) : ∃ nm q N bs bm sn sub ab col dd k0 k1 k2 k3 k5, K.lookup C = some (excClassObj nm q C N bs bm true sn sub ab col dd k0 k1 k2 k3 k5 "ValueError.__new__") ∧ PySem.HandSPX.refsVE bm = true := by
  unfold oexB at q
  split at q
  · rename_i dd cd sl ho
    split at q
    · rename_i C' bm k0 k1 k2 k3 n k5 hm hs
      simp only [Bool.and_eq_true, beq_iff_eq, Bool.not_eq_true'] at q
      obtain ⟨rfl, rfl, hdel, hdict, ht⟩ := q
      obtain ⟨nm, bs, mro, ns, qn, hd, sn, sub, ab, col, del⟩ := cd
      dsimp only at hm hdel hdict
      subst hm hdel hdict
      obtain ⟨l⟩ := sl
      simp only at hs
      subst hs
      exact ⟨nm, qn, ns, bs, bm, sn, sub, ab, col, dd, k0, k1, k2, k3, k5, ho, ht⟩
    · cases q
  · cases q
def inB (K : PySem.W.Frag) (B : Addr) : Bool := match PySem.W.findCls K (.ref B) (.type "type") "__init__" with
  | some (.val v) => decide (v = .builtin "ValueError.__init__")
  | _ => false
theorem inB_ok {K : PySem.W.Frag} {B : Addr} (h : inB K B = true) : PySem.W.findCls K (.ref B) (.type "type") "__init__" = some (.val (.builtin "ValueError.__init__")) := by
  unfold inB at h
  split at h
  · rename_i v e
    rw [e, of_decide_eq_true h]
  · cases h
/-- the class C keeps the field f; its __init__ calls B's -/
structure ExF (K : PySem.W.Frag) (C B : Addr) (f : Str) : Prop where
  T : OexC K C
  xf : XfC K C
  nof : PySem.W.findIn K (.ref C) f = some none
  ini : PySem.W.findIn K (.ref C) "__init__" = some (some (.ref (He.ma K C "__init__")))
  inT : PySem.W.typeIn K (.ref (He.ma K C "__init__")) = some (.type "function")
  ha : PySem.W.findIn K (.ref C) "__class__" = some (some (.builtin "object.__class__"))
  hn : PySem.W.specialIn K (.builtin "object.__class__") "__get__" = some (some (.builtin "getset_descriptor.__get__"))
  ht : PySem.W.takesIn K (.builtin "object.__class__") = some true
  hm : PySem.W.mroIn K C (.type "object") = some true
  self : PySem.W.exmOne K (.ref C) (.ref C) = some true
  hg : PySem.W.specialIn K (.ref B) "__getattribute__" = some (some (.builtin "type.__getattribute__"))
  rd : PySem.W.readsIn K B (.type "type") = true
  bI : PySem.W.findCls K (.ref B) (.type "type") "__init__" = some (.val (.builtin "ValueError.__init__"))
def exfB (K : PySem.W.Frag) (C B : Addr) (f : Str) : Bool :=
  oexB K C && (He.eqO (PySem.W.findIn K (.ref C) "__setattr__") (some (some (.builtin "object.__setattr__"))) && (decide (PySem.W.subIn K (.ref C) (.type "BaseException") = some true) && (decide (PySem.W.typeIn K (.ref C) = some (.type "type")) && (PySem.W.keepIn K (.ref C) &&
  (xfB K C && (He.eqO (PySem.W.findIn K (.ref C) f) (some none) && (He.eqO (PySem.W.findIn K (.ref C) "__init__") (some (some (.ref (He.ma K C "__init__")))) && (decide (PySem.W.typeIn K (.ref (He.ma K C "__init__")) = some (.type "function")) &&
  (He.eqO (PySem.W.findIn K (.ref C) "__class__") (some (some (.builtin "object.__class__"))) && (He.eqO (PySem.W.specialIn K (.builtin "object.__class__") "__get__") (some (some (.builtin "getset_descriptor.__get__"))) && (decide (PySem.W.takesIn K (.builtin "object.__class__") = some true) &&
  (decide (PySem.W.mroIn K C (.type "object") = some true) && (decide (PySem.W.exmOne K (.ref C) (.ref C) = some true) && (He.eqO (PySem.W.specialIn K (.ref B) "__getattribute__") (some (some (.builtin "type.__getattribute__"))) && (PySem.W.readsIn K B (.type "type") && inB K B)))))))))))))))
theorem exfB_ok {K : PySem.W.Frag} {C B : Addr} {f : Str} (h : exfB K C B f = true) : ExF K C B f := by
  unfold exfB at h
  simp only [Bool.and_eq_true, decide_eq_true_eq] at h
  obtain ⟨h1, h2, h3, h4, h5, h6, h7, h8, h9, h10, h11, h12, h13, h14, h15, h16, h17⟩ := h
  exact ⟨⟨oexB_ok h1, He.eqO_ok h2, h3, h4, h5⟩, xfB_ok h6, He.eqO_ok h7, He.eqO_ok h8, h9, He.eqO_ok h10, He.eqO_ok h11, h12, h13, h14, He.eqO_ok h15, h16, inB_ok h17⟩

section
variable {X : Cx} {pos p1 p2 : Pos} {e : Expr} {es : List Expr} {ta : TA}
/-- B.__init__(self, ..), B a class of the text that has ValueError's -/
theorem pe_binit {x : Str} {B : Addr} {pl : Sem Bool} (hg : Gl X x) (hm : X.mg x = some (.ref B)) (hd : (x == ("__debug__" : Str)) = false)
    (h1 : PySem.W.specialIn X.K (.ref B) "__getattribute__" = some (some (.builtin "type.__getattribute__"))) (h2 : PySem.W.readsIn X.K B (.type "type") = true) (h3 : PySem.W.findCls X.K (.ref B) (.type "type") "__init__" = some (.val (.builtin "ValueError.__init__")))
    (hc : eval (.Call (.Attribute (.Name x p1) "__init__" p2) (e :: es) [] pos) X.env = (do
      let ov ← eval (.Name x p1) X.env
      standAt p2.atName
      let (f, first) ← holding [ov] (getMethod ov "__init__" pl)
      callWith pos f first (backTo pos (starEach (e :: es) X.env)) (backToKw pos (keywordEach [] X.env))))
    (ha : PA X (e :: es) ta) (hs : notStar e = true) (hp : (backTo pos (starEach es X.env)).any (·.1) = false) :
    PE X (.Call (.Attribute (.Name x p1) "__init__" p2) (e :: es) [] pos) (tVeI X.K ta) := by
  refine ⟨fun pins s σ H Q I h => ?_⟩
  refine PySem.W.methodCall_KW (ld_glob I hg hm ?_ hd) hc
  refine PySem.W.method_cls I.kIn h1 (PySem.W.cls_value I.kIn h2 h3 (by decide +kernel) ?_)
  show wpAny _ _ (callWith pos (Value.builtin "ValueError.__init__") [] (backTo pos (starEach (e :: es) X.env)) []) _ _ _
  refine PyProof.Rows.callWith_method1 (thn (ha.run pos pins _ σ H _ (I.tok _) h) fun us s1 ⟨vs, H1, I1, r1, a, C, ws, ev, hl, T, ea, q⟩ => ?_) (star_cons hs) hp
  subst ev
  cases r1 with
  | @cons _ u0 _ ur ra rw' =>
    obtain rfl : u0 = Value.ref a := ra
    exact oinit_ok T I1 ea (by rw [← Paired.length rw', sizeLine_eq]; omega) fun s' J => ⟨.non, H1, J, rfl, q⟩
end
theorem init_eval {x n1 n2 : Str} {q1 q2 q3 q4 q5 : Pos} {env : Env} (hl : (q2.endLine == q5.line) = true) : eval (.Call (.Attribute (.Name x q1) "__init__" q2) [.Name n1 q3, .Name n2 q4] [] q5) env = (do
      let ov ← eval (.Name x q1) env
      standAt q2.atName
      let (f, first) ← holding [ov] (getMethod ov "__init__" (do return (← importBound (.Name x q1) env).getD true))
      callWith q5 f first (backTo q5 (starEach [.Name n1 q3, .Name n2 q4] env)) (backToKw q5 (keywordEach [] env))) := by
  have hpos : methodCallPos true (.Name x q1) env q2 q5 = pure q5 := by unfold methodCallPos; simp [hl]
  have hform : methodCallForm ([Expr.Name n1 q3, Expr.Name n2 q4].length + ([] : List Keyword).length) (backTo q5 (starEach [.Name n1 q3, .Name n2 q4] env)) (backToKw q5 (keywordEach [] env)) = true := rfl
  have hb : attributeBase (.Name x q1) "__init__" env (eval (.Name x q1) env) = eval (.Name x q1) env := rfl
  rw [arm_eval_Call, hb]
  unfold methodCall
  rw [hform, hpos]
  rfl
/-- what such an __init__ does -/
def spI (C : Addr) (f : Str) : Sp := fun vs H Q _ => ∃ a y, vs = [.ref a, y] ∧ H a = some (exo a C none) ∧ ∀ dx, H dx = none → dx ≠ a → Q .non (upd (upd H dx (exd dx [(f, y)])) a (exo a C (some dx)))
/-- the form of such an __init__: B, self, the field, the value's name -/
def iniForm : List Stmt → Option (Str × Str × Str × Str)
  | [.Expr (.Call (.Attribute (.Name x _) i ap) [.Name n1 _, .Name n2 _] [] cp) _, .Assign [.Attribute (.Name n3 _) f _] (.Name n4 _) _] => if i = "__init__" ∧ n1 = n3 ∧ n2 = n4 ∧ (ap.endLine == cp.line) = true then some (x, n1, f, n2) else none
  | _ => none
section
variable {P : Program} {w : World} {K : PySem.W.Frag} {mg : Str → Option Value} {base : Heap} {x qual n1 n2 f b : Str} {params : Arguments} {body : List Stmt} {scope : Scope} {fI C B : Addr} {fd : FuncData} {k : Nat}
theorem init_ok (E : ExF K C B f) (F : FunD K x qual params body scope [] [] fI fd) (S : FnScope [n1, n2] [n1, n2] scope) (hb : iniForm body = some (b, n1, f, n2)) (hmg : mg b = some (.ref B)) (hgl : scope.names.lookup b = some .globalImplicit) (hdb : (b == ("__debug__" : Str)) = false)
    (hl1 : scope.names.lookup n1 = some .local) (hl2 : scope.names.lookup n2 = some .local) (d1 : (n1 == ("__debug__" : Str)) = false ∧ (n1 == ("__classdict__" : Str)) = false) (d2 : (n2 == ("__debug__" : Str)) = false ∧ (n2 == ("__classdict__" : Str)) = false) : FnOk P w K mg base (L2.CX P w) (k + 1) fI fd [n1, n2] (spI C f) := by
  unfold iniForm at hb
  split at hb
  · rename_i x' _ i _ m1 _ m2 _ _ _ m3 _ f' _ m4 _ _
    split at hb
    · rename_i hc
      obtain ⟨rfl, rfl, rfl, hline⟩ := hc
      cases hb
      refine F.ok S (fun vs H Q E h => by obtain ⟨a, y, rfl, _⟩ := h; rfl) fun cdv A outer s H vs Q E0 hr hsp => ?_
      obtain ⟨a, y, rfl, ha, hq⟩ := hsp
      refine ⟨_, pss_cons (ps_expr (pe_binit (X := cxOf (L2.CX P w) P w K mg base [n1, n2] qual scope fI cdv A outer s H E0) hgl hmg hdb E.hg E.rd E.bI (init_eval hline)
        (pa_cons (pe_var (i := 0) rfl (by unfold Vis; show scope.names.lookup n1 = _ ∨ _; rw [hl1]; exact .inl rfl) d1.1 d1.2) (pa_cons (pe_var (i := 1) rfl (by unfold Vis; show scope.names.lookup n2 = _ ∨ _; rw [hl2]; exact .inl rfl) d2.1 d2.2) pa_nil (by rfl)) (by rfl)) (by rfl) (by rfl)) (by rfl))
        (pss_cons (ps_ost (pe_var (i := 0) rfl (by unfold Vis; show scope.names.lookup n1 = _ ∨ _; rw [hl1]; exact .inl rfl) d1.1 d1.2) (pe_var (i := 1) rfl (by unfold Vis; show scope.names.lookup n2 = _ ∨ _; rw [hl2]; exact .inl rfl) d2.1 d2.2) (by rfl)) pss_nil), ?_⟩
      refine ⟨.ref a, rfl, y, rfl, ?_⟩
      refine ⟨a, C, [y], rfl, by show 1 ≤ 1000; omega, E.T, ha, ?_⟩
      refine ⟨y, rfl, .ref a, rfl, a, C, rfl, E.T, E.nof, .inl ⟨ha, fun dx h1 h2 => hq dx h1 h2⟩⟩
    · cases hb
  · cases hb
end
end DI
namespace DI
open PySem PySem.Spec PyProof.Rows L2
/-- what a frame knows of the class that x names, its number k, its field f -/
structure ExK (X : Cx) (G : Gr) (x : Str) (k : Nat) (f : Str) : Prop where
  mg : X.mg x = some (.ref (G.ca k))
  nd : (x == ("__debug__" : Str)) = false
  xf : G.xf k = f
  F : ∃ B, ExF X.K (G.ca k) B f
  ini : ∃ l fd ps, FnOk X.prog X.w X.K X.mg X.base (L2.CX X.prog X.w) l (He.ma X.K (G.ca k) "__init__") fd ps (spI (G.ca k) f) ∧ Room (l + 1) X.A ∧ Binds X.K fd ps []
theorem mk_heap {H : Hp} {a dx C : Addr} {f : Str} {y : V} (ha : H a = none) (hd : dx ≠ a) :
    upd (del (upd (upd (upd H a (exo a C none)) dx (exd dx [(f, y)])) a (exo a C (some dx))) a) dx (.xd [(f, y)]) = upd H dx (.xd [(f, y)]) := by
  funext b
  by_cases h1 : b = dx
  · subst h1; rw [upd_same, upd_same]
  · rw [upd_ne h1, upd_ne h1]
    by_cases h2 : b = a
    · subst h2; rw [del_same, ha]
    · rw [del_ne h2, upd_ne h2, upd_ne h1, upd_ne h2]
section
variable {X : Cx} {G : Gr} {W : WX} {pos p p2 : Pos} {e : Expr} {fe : Sd → HH → Rs D} {x f : Str} {k : Nat}
theorem s_raise (ok : Okx X G W) (hc : X.calm = true) (E : ExK X G x k f) (hg : Gl X x) (hs : notStar e = true) (he : PE X e (tD G W fe)) :
    PS X (.Raise (some (.Call (.Name x p) [e] [] p2)) none pos) (tDS G W fun s H => (fe s H).st s fun d H1 => .ex ⟨.own k, some d⟩ s H1) := by
  obtain ⟨B, F⟩ := E.F
  obtain ⟨l, fd, ps, h1, h2, h3⟩ := E.ini
  refine PS.mono (ps_raise hc ok.tk (pmk_oex F.T F.ini F.inT h1 h2 h3 .nil (passes_call ok.tk fun _ _ _ _ z => z.elim) hg E.mg (pa_cons he pa_nil (star_cons hs)) E.nd (star_cons hs) (by rfl))) fun D s H h => ?_
  obtain ⟨w, Hd, sd, rel, rs, p⟩ := h
  refine seqS rel rs p fun d Hd1 w1 H1 v e1 rel1 rs1 r1 p1 => ⟨by show 1 ≤ 1000; omega, fun a ha => ⟨a, v, rfl, upd_same, fun dx n1 n2 => ?_⟩⟩
  rw [upd_ne n2] at n1
  refine ⟨rfl, dx, [(f, v)], upd_same, by rw [upd_ne n2, upd_same], n1, ?_⟩
  rw [mk_heap ha n2]
  refine p1 w1 _ (ext_new rel1 n1 _) (rel_new rel1 n1 _) _ (rs1.ext (ext_new rel1 n1 _)) _ _ ?_
  exact ⟨rfl, dx, v, rfl, by rw [E.xf, upd_same], rel1.notL n1, r1.ext (ext_new rel1 n1 _)⟩
end
section
variable {G G' : Gr} {w : Vw} {H : Hp} {sd : Sd} {s : L2.St} {i : Nat} {a dd : Addr} {f : Str} {d : D} {v : V}
theorem RepS.enter (hx : G.exc = none) (r : RepS G w H sd s) (hi : i < sd.length) (h1 : H dd = some (.xd [(f, v)])) (h2 : ¬ w.L dd) (h3 : RepV G w H d v) :
    RepS { G with exc := some (i, a, dd, f, d) } w H (sd.set i none) (s.set i (some (.ref a))) := by
  refine ⟨by rw [List.length_set, List.length_set]; exact r.1, fun j e hj => ?_, fun i' a' da' f' d' h => ?_⟩
  · by_cases hij : i = j
    · subst hij
      rw [List.getElem?_set_self hi] at hj; cases hj
    · rw [List.getElem?_set_ne hij] at hj ⊢
      obtain ⟨u, h4, h5⟩ := r.2 j e hj
      exact ⟨u, h4, RepV.gr (G := G) (G' := { G with exc := some (i, a, dd, f, d) }) rfl rfl h5⟩
  · cases h
    exact ⟨List.getElem?_set_self (by rw [← r.1]; exact hi), v, h1, h2, RepV.gr (G := G) (G' := { G with exc := some (i, a, dd, f, d) }) rfl rfl h3⟩
theorem RepS.leave (hx : G.exc = none) (hK : G.K = G'.K) (hc : G.ca = G'.ca) (r : RepS G' w H sd s) : RepS G w H (sd.set i none) (s.set i none) := by
  refine ⟨by rw [List.length_set, List.length_set]; exact r.1, fun j e hj => ?_, .no hx⟩
  by_cases hij : i = j
  · subst hij
    by_cases hi : i < sd.length
    · rw [List.getElem?_set_self hi] at hj; cases hj
    · rw [List.getElem?_eq_none (by rw [List.length_set]; omega)] at hj; cases hj
  · rw [List.getElem?_set_ne hij] at hj ⊢
    obtain ⟨u, h4, h5⟩ := r.2 j e hj
    exact ⟨u, h4, h5.gr hK hc⟩
end
section
variable {X : Cx} {G : Gr} {W : WX} {pos pos' np : Pos} {x n f : Str} {k i : Nat} {body suite : List Stmt} {b₀ : Stmt} {fb : Sd → HH → RS} {fh : D → Sd → HH → RS}
theorem s_try (ok : Okx X G W) (hx : G.exc = none) (hst : X.stack = X.env :: X.outer) (hf : X.env.frame = some X.env.locals) (hi : X.N[i]? = some n) (hln : X.env.kindOf n = some .local) (E : ExK X G x k f) (hg : Gl X x)
    (hb : ∀ (W' : WX) (pn : List (Addr × Obj)) (xe : Value → Shared → Prop), Takes (X.tr pn xe) W' → PassesOwn (model X.prog X.w) X.A X.env xe → PSs (X.tr pn xe) body (tDS G W' fb))
    (hsu : ∀ (a : Addr) (oe : Obj) (dd : Addr) (pn : List (Addr × Obj)) (fd : D), Zc (.ref (G.ca k)) (some dd) oe → (∃ vs, oe.data = .fields vs) → PSs (X.suite a ((a, oe) :: pn)) (b₀ :: suite) (tDS { G with exc := some (i, a, dd, f, fd) } W0 (fh fd))) :
    PS X (.Try body [.ExceptHandler (some (.Name x np)) (some n) (b₀ :: suite) pos'] [] [] pos) (tDS G W fun s H => tryL k i fh (fb s H)) := by
  obtain ⟨B, F⟩ := E.F
  refine PS.mono (ps_try_as (tb := fun W' => tDS G W' fb) (ts := fun a cls da En σ H => cls = .ref (G.ca k) ∧ ∃ (dd : Addr) (fd : D), da = some dd ∧ tDS { G with exc := some (i, a, dd, f, fd) } W0 (fh fd) En σ H)
    hst hf ok.nd hi hln (c := .ref (G.ca k)) ⟨hg, E.nd, .inl E.mg⟩ ok.tk hb (fun a oe cls da pn hz hfl => ⟨fun pins s σ H Q I h => ?_⟩)) fun En s H h => ?_
  · obtain ⟨rfl, dd, fd, rfl, h⟩ := h
    exact (hsu a oe dd pn fd hz hfl).run pins s σ H Q I h
  · obtain ⟨w, Hd, sd, rel, rs, p⟩ := h
    refine ⟨w, Hd, sd, rel, rs, ?_⟩
    dsimp only at p
    generalize fb sd Hd = r at p
    cases r with
    | no => exact p
    | go fl H1 => cases fl <;> exact p
    | ex e s1 H1 =>
      intro w' H' e1 rel1 v rs1 c da rx
      replace p : PostS G w H (tryH k i fh e s1 H1) W En := p
      unfold tryH at p
      split at p
      · rename_i k' d hcl hfl
        split at p
        · rename_i hk
          obtain ⟨rfl, hil⟩ := hk
          unfold RepX at rx
          rw [hcl, hfl] at rx
          obtain ⟨rfl, dd, u, rfl, h1, h2, h3⟩ := rx
          rw [E.xf] at h1
          refine ⟨true, F.self, fun _ a ha => ⟨rfl, dd, d, rfl, w', H1, s1.set i none, Rel.gr (G := G) (G' := { G with exc := some (i, a, dd, f, d) }) rfl rfl rel1, RepS.enter hx rs1 hil h1 h2 h3, ?_⟩, fun z => by cases z⟩
          generalize fh d (s1.set i none) H1 = r at p
          cases r with
          | no => exact p.elim
          | ex _ _ _ => exact p.elim
          | go fl H2 =>
            cases fl with
            | nx s2 => exact fun w2 Hp2 e2 rel2 v2 rs2 => p w2 Hp2 (e1.trans e2) (Rel.gr (G := { G with exc := some (i, a, dd, f, d) }) (G' := G) rfl rfl rel2) _ (RepS.leave (G := G) (G' := { G with exc := some (i, a, dd, f, d) }) hx rfl rfl rs2)
            | bk s2 => exact fun w2 Hp2 e2 rel2 v2 rs2 => p w2 Hp2 (e1.trans e2) (Rel.gr (G := { G with exc := some (i, a, dd, f, d) }) (G' := G) rfl rfl rel2) _ (RepS.leave (G := G) (G' := { G with exc := some (i, a, dd, f, d) }) hx rfl rfl rs2)
            | ct s2 => exact fun w2 Hp2 e2 rel2 v2 rs2 => p w2 Hp2 (e1.trans e2) (Rel.gr (G := { G with exc := some (i, a, dd, f, d) }) (G' := G) rfl rfl rel2) _ (RepS.leave (G := G) (G' := { G with exc := some (i, a, dd, f, d) }) hx rfl rfl rs2)
            | rt d2 => exact fun w2 Hp2 e2 rel2 v2 rv2 => p w2 Hp2 (e1.trans e2) (Rel.gr (G := { G with exc := some (i, a, dd, f, d) }) (G' := G) rfl rfl rel2) _ (RepV.gr (G := { G with exc := some (i, a, dd, f, d) }) (G' := G) rfl rfl rv2)
        · exact p.elim
      · exact p.elim
end
section
variable {X : Cx} {G : Gr} {pos p p1 p2 p3 : Pos} {n f : Str} {i : Nat} {a dd C : Addr} {oe : Obj} {pn : List (Addr × Obj)} {fd : D}
theorem d_xf {B : Addr} (F : ExF X.K C B f) (hx : G.exc = some (i, a, dd, f, fd)) (hz : Zc (.ref C) (some dd) oe) (hfl : ∃ vs, oe.data = .fields vs) (hi : X.N[i]? = some n) (hv : Vis X.env.scope n) (hd : (n == ("__debug__" : Str)) = false) (hd2 : (n == ("__classdict__" : Str)) = false) :
    PE (X.suite a ((a, oe) :: pn)) (.Attribute (.Name n p) f pos) (tD G W0 fun _ H => .ok fd H) :=
  PE.mono (pe_xf F.xf F.nof hz hfl (pe_var (X := X.suite a ((a, oe) :: pn)) hi hv hd hd2) (by rfl)) fun s H Q h => by
    obtain ⟨w, Hd, sd, rel, rs, q⟩ := h
    obtain ⟨h0, v, h1, h2, h3⟩ := rs.xc _ _ _ _ _ hx
    exact ⟨_, h0, rfl, rfl, dd, _, v, rfl, h1, by simp [List.lookup], q w H (Ext.refl _ _) rel v h3⟩
/-- isinstance(e, c), e the exception that the suite holds -/
def rIsX (K : PySem.W.Frag) (C a dd : Addr) : List V → Hp → VK → Prop := fun xs H Q => ∃ (c : V) (cv : Value) (b : Bool) (fs : List (Str × V)), xs = [.ref a, c] ∧ H dd = some (.xd fs) ∧ (∀ u, RelV c u → u = cv) ∧ PySem.W.kitOne K (.ref C) cv = some b ∧ Q (.bl b) H
theorem call_isX {B : Addr} (F : ExF X.K C B f) (hz : Zc (.ref C) (some dd) oe) (hfl : ∃ vs, oe.data = .fields vs) : CallR (X.suite a ((a, oe) :: pn)) (.builtin "isinstance") (rIsX X.K C a dd) := by
  intro pins s σ H xs us Q I r h
  obtain ⟨c, cv, b, fs, rfl, hdd, hcv, e, q⟩ := h
  cases r with
  | cons rx rr =>
    cases rr with
    | cons rt rr =>
      cases rr
      cases rx
      have ec := hcv _ rt
      subst ec
      obtain ⟨hget, _⟩ := I.pin (a, oe) (List.mem_append.mpr (.inl List.mem_cons_self))
      obtain ⟨vs, hv⟩ := hfl
      have hob : ObjOk X.prog X.w H s.heap dd (.xd fs) := I.hok dd _ hdd
      obtain ⟨mA, hns, _⟩ := hob
      obtain ⟨od, ho, _⟩ := lookIn_ns hns
      have J : PySem.W.InstAt s.heap a oe C (some od) := ⟨hget, hz.1, by unfold PySem.W.notCls; rw [hv] <;> rfl, by rw [hz.2]; exact ho⟩
      have hcl : (PySem.W.clsIn X.K C).isSome = true := by
        obtain ⟨_, _, _, _, _, _, _, _, _, _, _, _, _, _, _, hK, _⟩ := F.T.cls
        unfold PySem.W.clsIn
        rw [hK]; rfl
      exact PySem.W.kia_one (PySem.W.kitx_exc hcl F.xf.ga F.xf.gg F.xf.exC F.ha F.hn F.ht F.hm) I.kIn J e (fun z => nomatch z) fun tk => ⟨.bl b, H, I.kept (t' := tk) fun _ _ z => z, rfl, q⟩
/-- isinstance(e, (c1, c2)), e the exception that the suite holds -/
def rIsXT (K : PySem.W.Frag) (C a dd : Addr) : List V → Hp → VK → Prop := fun xs H Q => ∃ (tp : Addr) (cs : List V) (cv : List Value) (b : Bool) (fs : List (Str × V)), xs = [.ref a, .ref tp] ∧ H tp = some (.tup cs) ∧ H dd = some (.xd fs) ∧ (∀ us, Vals cs us → us = cv) ∧ PySem.W.kitAny K (.ref C) cv = some b ∧ Q (.bl b) H
theorem call_isXT {B : Addr} (F : ExF X.K C B f) (hz : Zc (.ref C) (some dd) oe) (hfl : ∃ vs, oe.data = .fields vs) : CallR (X.suite a ((a, oe) :: pn)) (.builtin "isinstance") (rIsXT X.K C a dd) := by
  intro pins s σ H xs us Q I r h
  obtain ⟨tp, cs, cv, b, fs, rfl, htp, hdd, hcv, e, q⟩ := h
  cases r with
  | cons rx rr =>
    cases rr with
    | cons rt rr =>
      cases rr
      cases rx
      rename_i u2
      cases (show u2 = Value.ref tp from rt)
      obtain ⟨hget, _⟩ := I.pin (a, oe) (List.mem_append.mpr (.inl List.mem_cons_self))
      obtain ⟨vs, hv⟩ := hfl
      have hob : ObjOk X.prog X.w H s.heap dd (.xd fs) := I.hok dd _ hdd
      obtain ⟨mA, hns, _⟩ := hob
      obtain ⟨od, ho, _⟩ := lookIn_ns hns
      have J : PySem.W.InstAt s.heap a oe C (some od) := ⟨hget, hz.1, by unfold PySem.W.notCls; rw [hv] <;> rfl, by rw [hz.2]; exact ho⟩
      have hcl : (PySem.W.clsIn X.K C).isSome = true := by
        obtain ⟨_, _, _, _, _, _, _, _, _, _, _, _, _, _, _, hK, _⟩ := F.T.cls
        unfold PySem.W.clsIn
        rw [hK]; rfl
      obtain ⟨_, its, rv, o, h1, h2, n, h3⟩ := (show ObjOk X.prog X.w H s.heap tp (.tup cs) from I.hok tp _ htp)
      have e3 := hcv _ rv
      subst e3
      obtain ⟨oc, od', dt, sl⟩ := o
      simp only at h2 h3
      subst h2 h3
      exact PySem.W.kia_tup (PySem.W.kitx_exc hcl F.xf.ga F.xf.gg F.xf.exC F.ha F.hn F.ht F.hm) I.kIn J h1 e (fun z => nomatch z) fun tk => ⟨.bl b, H, I.kept (t' := tk) fun _ _ z => z, rfl, q⟩
/-- what is known of isinstance(e, y), e of the class C -/
def IsK (K : PySem.W.Frag) (mg : Str → Option Value) (C : Addr) (y : Str) (b : Bool) : Prop := (y == ("__debug__" : Str)) = false ∧ ((∃ A, mg y = some (.ref A) ∧ PySem.W.kitOne K (.ref C) (.ref A) = some b) ∨ ∃ t, mg y = none ∧ bootBuiltins y = some (.type t) ∧ y ≠ "__name__" ∧ PySem.W.kitOne K (.ref C) (.type t) = some b)
theorem d_xis {B : Addr} {y : Str} {b : Bool} (F : ExF X.K C B f) (hx : G.exc = some (i, a, dd, f, fd)) (hz : Zc (.ref C) (some dd) oe) (hfl : ∃ vs, oe.data = .fields vs) (hi : X.N[i]? = some n) (hv : Vis X.env.scope n) (hd : (n == ("__debug__" : Str)) = false) (hd2 : (n == ("__classdict__" : Str)) = false)
    (hg : Gl X "isinstance") (hm : X.mg "isinstance" = none) (hgy : Gl X y) (K : IsK X.K X.mg C y b) :
    PE (X.suite a ((a, oe) :: pn)) (.Call (.Name "isinstance" p1) [.Name n p2, .Name y p3] [] pos) (tD G W0 fun _ H => .ok (.bl b) H) := by
  have go : ∀ (c : V) (cv : Value), PE (X.suite a ((a, oe) :: pn)) (.Name y p3) (tC c) → (∀ u, RelV c u → u = cv) → PySem.W.kitOne X.K (.ref C) cv = some b →
      PE (X.suite a ((a, oe) :: pn)) (.Call (.Name "isinstance" p1) [.Name n p2, .Name y p3] [] pos) (tD G W0 fun _ H => .ok (.bl b) H) := fun c cv h1 h2 h3 => by
    refine PE.mono (pe_callB (X := X.suite a ((a, oe) :: pn)) (call_isX F hz hfl) hg hm (by decide +kernel) (pa_cons (pe_var (X := X.suite a ((a, oe) :: pn)) hi hv hd hd2) (pa_cons h1 pa_nil (by rfl)) (by rfl)) (by decide +kernel) (by decide +kernel) (by rfl) (by rfl)) fun s H Q h => ?_
    obtain ⟨w, Hd, sd, rel, rs, q⟩ := h
    obtain ⟨h0, v, h4, h5, h6⟩ := rs.xc _ _ _ _ _ hx
    exact ⟨_, h0, c, cv, b, _, rfl, h4, h2, h3, q w H (Ext.refl _ _) rel _ (.bl b)⟩
  obtain ⟨hd3, K⟩ := K
  rcases K with ⟨A, h1, h2⟩ | ⟨t, h1, h2, h3, h4⟩
  · exact go (.ref A) (.ref A) (pe_glob hgy h1 rfl hd3) (fun u hu => hu) h2
  · exact go (.ty t) (.type t) (pe_bltn hgy h1 h2 rfl h3 hd3) (fun u hu => hu) h4
/-- a name of a class, as it is evaluated -/
theorem isK_pe {y : Str} {b : Bool} (hgy : Gl X y) (K : IsK X.K X.mg C y b) : ∃ (c : V) (cv : Value), PE (X.suite a ((a, oe) :: pn)) (.Name y p3) (tC c) ∧ (∀ u, RelV c u → u = cv) ∧ PySem.W.kitOne X.K (.ref C) cv = some b := by
  obtain ⟨hd3, K⟩ := K
  rcases K with ⟨A, h1, h2⟩ | ⟨t, h1, h2, h3, h4⟩
  · exact ⟨.ref A, .ref A, pe_glob hgy h1 rfl hd3, fun u hu => hu, h2⟩
  · exact ⟨.ty t, .type t, pe_bltn hgy h1 h2 rfl h3 hd3, fun u hu => hu, h4⟩
theorem kitAny2 {K : PySem.W.Frag} {t c1 c2 : Value} {b1 b2 : Bool} (h1 : PySem.W.kitOne K t c1 = some b1) (h2 : PySem.W.kitOne K t c2 = some b2) : PySem.W.kitAny K t [c1, c2] = some (b1 || b2) := by
  refine kitAny_cons h1 (fun e => ?_) (fun e => by rw [e]; rfl)
  rw [e, Bool.false_or]
  refine kitAny_cons h2 (fun e => ?_) (fun e => e)
  rw [e]; rfl
theorem d_xis2 {B : Addr} {y z : Str} {b1 b2 : Bool} {kt : Nat} {p4 p5 : Pos} (F : ExF X.K C B f) (hx : G.exc = some (i, a, dd, f, fd)) (hz : Zc (.ref C) (some dd) oe) (hfl : ∃ vs, oe.data = .fields vs) (hi : X.N[i]? = some n) (hv : Vis X.env.scope n) (hd : (n == ("__debug__" : Str)) = false) (hd2 : (n == ("__classdict__" : Str)) = false)
    (hg : Gl X "isinstance") (hm : X.mg "isinstance" = none) (hgy : Gl X y) (K1 : IsK X.K X.mg C y b1) (hgz : Gl X z) (K2 : IsK X.K X.mg C z b2) :
    PE (X.suite a ((a, oe) :: pn)) (.Call (.Name "isinstance" p1) [.Name n p2, .Tuple [.Name y p3, .Name z p4] kt p5] [] pos) (tD G W0 fun _ H => .ok (.bl (b1 || b2)) H) := by
  obtain ⟨c1, v1, h1, h2, h3⟩ := isK_pe (a := a) (oe := oe) (pn := pn) (p3 := p3) hgy K1
  obtain ⟨c2, v2, g1, g2, g3⟩ := isK_pe (a := a) (oe := oe) (pn := pn) (p3 := p4) hgz K2
  have ht : PE (X.suite a ((a, oe) :: pn)) (.Tuple [.Name y p3, .Name z p4] kt p5) (tTup (tCons (tC c1) (tCons (tC c2) tNil))) := pe_tup (pa_cons h1 (pa_cons g1 pa_nil (by rfl)) (by rfl))
  refine PE.mono (pe_callB (X := X.suite a ((a, oe) :: pn)) (call_isXT F hz hfl) hg hm (by decide +kernel) (pa_cons (pe_var (X := X.suite a ((a, oe) :: pn)) hi hv hd hd2) (pa_cons ht pa_nil (by rfl)) (by rfl)) (by decide +kernel) (by decide +kernel) (by rfl) (by rfl)) fun s H Q h => ?_
  obtain ⟨w, Hd, sd, rel, rs, q⟩ := h
  obtain ⟨h0, v, h4, h5, h6⟩ := rs.xc _ _ _ _ _ hx
  refine ⟨_, h0, by rw [PySem.sizeLine_eq]; show (2 : Nat) ≤ _; omega, fun q2 hp => ⟨q2, [c1, c2], [v1, v2], b1 || b2, _, rfl, upd_same, (upd_ne (ne_of_none h4 hp)).trans h4, fun us hu => ?_, kitAny2 h3 g3, q w _ (ext_new rel hp _) (rel_new rel hp _) _ (.bl _)⟩⟩
  cases hu with
  | cons r1 rr => cases rr with
    | cons r2 rr => cases rr; rw [h2 _ r1, g2 _ r2]
end
end DI
namespace DI
open PySem PySem.Spec PyProof.Rows L2

structure Ck where
  N : List Str
  sc : Scope
  top : Bool
  /-- not within an except suite -/
  calm : Bool
  /-- the name of the suite's exception, its class's number, its field's name, the field -/
  exc : Option (Str × Nat × Str × D)
def mkCk (N : List Str) (sc : Scope) : Ck := ⟨N, sc, true, true, none⟩
structure Tb where
  fns : List Str
  forms : List (Nat × Nat × List Str × List Nat)
  cons : List Str
  blts : List Str
  live : List (Nat × Nat)
  imp : List (Nat × Nat)
  /-- by their ends: subscripts of dicts, comparisons that look into what is live (in: of a dict) -/
  dix : List (Nat × Nat) := []
  cpf : List (Nat × Nat) := []
  /-- dicts of the module: name, place among the constants -/
  gds : List (Str × Nat) := []
  /-- defs that put signs of a text otherwise -/
  mks : List (Str × List (Nat × List Nat)) := []
  /-- own exception classes that keep a field: name, number, field -/
  exs : List (Str × Nat × Str) := []
  /-- what isinstance says of such an exception: the class's number, the asked class, the answer -/
  xis : List (Nat × Str × Bool) := []
def lkN (k : Ck) (x : Str) : Option NameKind := k.sc.names.lookup x
def visB (k : Ck) (x : Str) : Bool := match lkN k x with
  | some .local => true | some .cell => true | some .free => true | _ => false
def glB (k : Ck) (x : Str) : Bool := match lkN k x with
  | some .globalImplicit => true | _ => false
def stB (k : Ck) (x : Str) : Bool := match lkN k x with
  | some .local => true | some .cell => k.top | _ => false
def ixS (x : Str) : List Str → Nat → Option Nat
  | [], _ => none
  | y :: r, i => if x == y then some i else ixS x r (i + 1)
/-- the place of a name, checked -/
def ixN' (l : List Str) (x : Str) : Option Nat := match ixS x l 0 with
  | some i => if l[i]? = some x then some i else none
  | none => none
theorem ixN'_ok {l : List Str} {x : Str} {i : Nat} (h : ixN' l x = some i) : l[i]? = some x := by
  unfold ixN' at h
  split at h
  · split at h
    · rename_i e; cases h; exact e
    · cases h
  · cases h
def dbg (x : Str) : Bool := x == ("__debug__" : Str) || x == ("__classdict__" : Str)

structure Sx (T : Tb) (c : Cfg) (G : Gr) (k : Ck) (X : Cx) (W : WX) : Prop where
  ok : Okx X G W
  hN : X.N = k.N
  hs : X.env.scope = k.sc
  kd : k.sc.kind = .function
  fn : k.top = true → ∀ x, X.fn x = true
  blt : ∀ x ∈ T.blts, X.mg x = none
  con : ∀ (g : Nat) (x : Str), T.cons[g]? = some x → (x == ("__debug__" : Str)) = false ∧ ∃ d v u, c.consts[g]? = some d ∧ X.mg x = some u ∧ RelV v u ∧ ∀ w H, RepV G w H d v
  calm : k.calm = true → X.calm = true
  gx : k.calm = true → G.exc = none
  def_ : k.calm = true → ∀ (f : Nat) (x : Str), T.fns[f]? = some x → ∃ l a fd ps dV dvs, Room l X.A ∧ Callee X G l x a fd ps (c.call f) (c.dfl f) dV dvs ∧ ∀ n ks pm, (f, n, ks, pm) ∈ T.forms → KBd X.K fd ps n ks pm dvs
  fr : k.top = true → X.stack = X.env :: X.outer ∧ X.env.frame = some X.env.locals
  exk : k.calm = true → ∀ (x : Str) (n : Nat) (f : Str), (x, n, f) ∈ T.exs → ExK X G x n f
  iso : ∀ (n : Nat) (y : Str) (b : Bool), (n, y, b) ∈ T.xis → IsK X.K X.mg (G.ca n) y b
  xn : k.calm = true → k.exc = none
  gd : ∀ (x : Str) (g : Nat), (x, g) ∈ T.gds → (x == ("__debug__" : Str)) = false ∧ ∃ p ks vs, c.consts[g]? = some (.dv ks vs) ∧ X.mg x = some (.ref p) ∧ KDv X.K X.w p ks vs
  mrk : k.calm = true → ∀ (x : Str) (ch : List (Nat × List Nat)), (x, ch) ∈ T.mks → MkD X x ch
  xc : ∀ (n : Str) (kx : Nat) (f : Str) (d : D), k.exc = some (n, kx, f, d) → (∀ p p', PE X (.Attribute (.Name n p) f p') (tD G W fun _ H => .ok d H)) ∧
    ∀ (y : Str) (b : Bool), (kx, y, b) ∈ T.xis → glB k "isinstance" = true → ("isinstance" : Str) ∈ T.blts → glB k y = true → (∀ p1 p2 p3 p4, PE X (.Call (.Name "isinstance" p1) [.Name n p2, .Name y p3] [] p4) (tD G W fun _ H => .ok (.bl b) H)) ∧
      ∀ (z : Str) (b2 : Bool), (kx, z, b2) ∈ T.xis → glB k z = true → ∀ p1 p2 p3 p4 p5 m p6, PE X (.Call (.Name "isinstance" p1) [.Name n p2, .Tuple [.Name y p3, .Name z p4] m p5] [] p6) (tD G W fun _ H => .ok (.bl (b || b2)) H)
  xs : ∀ (n : Str) (kx : Nat) (f : Str) (d : D), k.exc = some (n, kx, f, d) → ∃ i a dd f' d', G.exc = some (i, a, dd, f', d') ∧ X.N[i]? = some n

section
variable {T : Tb} {c : Cfg} {G : Gr} {k : Ck} {X : Cx} {W : WX} {pos : Pos}
theorem Sx.lk (S : Sx T c G k X W) (x : Str) : X.env.scope.names.lookup x = lkN k x := by rw [S.hs]; rfl
theorem Sx.vis (S : Sx T c G k X W) {x : Str} (h : visB k x = true) : Vis X.env.scope x := by
  unfold visB at h
  unfold Vis
  rw [S.lk]
  split at h <;> first | (rename_i e; rw [e]; simp; done) | cases h
theorem Sx.gl (S : Sx T c G k X W) {x : Str} (h : glB k x = true) : Gl X x := by
  unfold glB at h
  show X.env.scope.names.lookup x = _
  rw [S.lk]
  split at h <;> first | assumption | cases h
theorem Sx.st (S : Sx T c G k X W) {x : Str} (h : stB k x = true) : L2.Loc X.env.scope x ∧ (X.fn x = true ∨ X.env.scope.names.lookup x = some .local) := by
  unfold stB at h
  unfold L2.Loc
  rw [S.lk]
  split at h
  · rename_i e; rw [e]; exact ⟨.inl rfl, .inr rfl⟩
  · rename_i e; rw [e]; exact ⟨.inr rfl, .inl (S.fn h x)⟩
  · cases h
theorem Sx.ix (S : Sx T c G k X W) {x : Str} {i : Nat} (h : ixN' k.N x = some i) : X.N[i]? = some x := by rw [S.hN]; exact ixN'_ok h

/-- the lower level's compilers -/
structure Rc where
  e : Ck → Expr → Option E
  t : Ck → Expr → Option E
structure Snd (T : Tb) (c : Cfg) (G : Gr) (r : Rc) : Prop where
  e : ∀ {k X W e d}, Sx T c G k X W → r.e k e = some d → PE X e (tD G W (evE c d))
  t : ∀ {k X W e d}, Sx T c G k X W → r.t k e = some d → PT X e (tDT G W (evT c d))

theorem eE {e : Expr} {f g : Sd → HH → Rs D} (h : PE X e (tD G W g)) (q : ∀ s H, f s H = g s H) : PE X e (tD G W f) := by
  have : f = g := by funext s H; exact q s H
  subst this; exact h
theorem eA {e : List Expr} {f g : Sd → HH → Rs (List D)} (h : PA X e (tDA G W g)) (q : ∀ s H, f s H = g s H) : PA X e (tDA G W f) := by
  have : f = g := by funext s H; exact q s H
  subst this; exact h
theorem eK {e : List Keyword} {f g : Sd → HH → Rs (List D)} (h : PK X e (tDA G W g)) (q : ∀ s H, f s H = g s H) : PK X e (tDA G W f) := by
  have : f = g := by funext s H; exact q s H
  subst this; exact h
theorem eT {e : Expr} {f g : Sd → HH → Rs Bool} (h : PT X e (tDT G W g)) (q : ∀ s H, f s H = g s H) : PT X e (tDT G W f) := by
  have : f = g := by funext s H; exact q s H
  subst this; exact h
theorem eW {e : Expr} {f g : Sd → HH → Rs Bool} (h : PW X e (tDT G W g)) (q : ∀ s H, f s H = g s H) : PW X e (tDT G W f) := by
  have : f = g := by funext s H; exact q s H
  subst this; exact h

def cConst : Const → Option E
  | .none => some (.cst .non)
  | .bool b => some (.cst (.bl b))
  | .int i => some (.cst (.int i))
  | .str s => some (.cst (.str s.cps.toList))
  | _ => none
theorem cConst_ok (S : Sx T c G k X W) {v : Const} {j : Nat} {d : E} (h : cConst v = some d) : PE X (.Constant v j pos) (tD G W (evE c d)) := by
  cases v <;> first
    | (cases h; exact eE (d_cst pe_non fun w H => .non) fun s H => by unfold evE; rfl)
    | (cases h; exact eE (d_cst pe_bl fun w H => .bl _) fun s H => by unfold evE; rfl)
    | (cases h; exact eE (d_cst pe_int fun w H => .int _) fun s H => by unfold evE; rfl)
    | (cases h
       rename_i x
       refine eE (d_cst (d := .str x.cps.toList) pe_str fun w H => ?_) fun s H => by unfold evE; rfl
       have := RepV.str (G := G) (w := w) (H := H) x.cps.toList
       simpa using this)
    | cases h
def cName (T : Tb) (k : Ck) (x : Str) : Option E :=
  if dbg x then none
  else if visB k x then (ixN' k.N x).map .loc
  else if glB k x then (ixN' T.cons x).map .glb
  else none
theorem cName_ok (S : Sx T c G k X W) {x : Str} {d : E} (h : cName T k x = some d) : PE X (.Name x pos) (tD G W (evE c d)) := by
  unfold cName at h
  split at h
  · cases h
  · rename_i hd
    unfold dbg at hd
    rw [Bool.not_eq_true, Bool.or_eq_false_iff] at hd
    split at h
    · rename_i hv
      cases e : ixN' k.N x with
      | none => rw [e] at h; cases h
      | some i =>
        rw [e] at h
        cases h
        exact eE (d_loc (S.ix e) (S.vis hv) hd.1 hd.2) fun s H => by unfold evE; rfl
    · split at h
      · rename_i hg
        cases e : ixN' T.cons x with
        | none => rw [e] at h; cases h
        | some i =>
          rw [e] at h
          cases h
          obtain ⟨h1, d, v, u, h2, h3, h4, h5⟩ := S.con i x (ixN'_ok e)
          exact eE (d_cst (pe_glob (S.gl hg) h3 h4 h1) h5) fun s H => by unfold evE; rw [h2]
      · cases h
def cList (f : Expr → Option E) : List Expr → Option Es
  | [] => some .nil
  | e :: r => if notStar e then match f e, cList f r with
    | some d, some ds => some (.cons d ds)
    | _, _ => none else none
def lenE : Es → Nat
  | .nil => 0
  | .cons _ r => lenE r + 1
theorem evEs_len (c : Cfg) : ∀ (es : Es) {s : Sd} {H H1 : HH} {ds : List D}, evEs c es s H = .ok ds H1 → ds.length = lenE es
  | .nil, _, _, _, _, h => by unfold evEs at h; cases h; rfl
  | .cons e r, s, H, H1, ds, h => by
    unfold evEs at h
    cases h1 : evE c e s H with
    | no => rw [h1] at h; cases h
    | ex x H2 => rw [h1] at h; cases h
    | ok d H2 =>
      rw [h1] at h
      simp only [Rs.bind_ok] at h
      cases h2 : evEs c r s H2 with
      | no => rw [h2] at h; cases h
      | ex x H2 => rw [h2] at h; cases h
      | ok d H2 =>
        rw [h2] at h
        cases h
        rw [List.length_cons, evEs_len c r h2]
        rfl
theorem cList_len {f : Expr → Option E} : ∀ {es : List Expr} {ds : Es}, cList f es = some ds → lenE ds = es.length ∧ es.all notStar = true
  | [], _, h => by cases h; exact ⟨rfl, rfl⟩
  | e :: r, _, h => by
    unfold cList at h
    split at h
    · rename_i hs
      cases h1 : f e with
      | none => rw [h1] at h; cases h
      | some d =>
        cases h2 : cList f r with
        | none => rw [h1, h2] at h; cases h
        | some ds =>
          rw [h1, h2] at h
          cases h
          obtain ⟨a, b⟩ := cList_len h2
          exact ⟨by show lenE ds + 1 = _; rw [a]; rfl, by rw [List.all_cons, hs, b]; rfl⟩
    · cases h
theorem cList_ok {r : Rc} (Z : Snd T c G r) (S : Sx T c G k X W) : ∀ {es : List Expr} {ds : Es}, cList (r.e k) es = some ds → PA X es (tDA G W (evEs c ds))
  | [], _, h => by cases h; exact eA d_nil fun s H => by unfold evEs; rfl
  | e :: es, _, h => by
    unfold cList at h
    split at h
    · rename_i hs
      cases h1 : r.e k e with
      | none => rw [h1] at h; cases h
      | some d =>
        cases h2 : cList (r.e k) es with
        | none => rw [h1, h2] at h; cases h
        | some ds =>
          rw [h1, h2] at h
          cases h
          exact eA (d_cons hs (Z.e S h1) (cList_ok Z S h2)) fun s H => by rw [evEs]
    · cases h
def cKw (f : Expr → Option E) : List Keyword → Option Es
  | [] => some .nil
  | ⟨_, e, _⟩ :: r => match f e, cKw f r with
    | some d, some ds => some (.cons d ds)
    | _, _ => none
theorem cKw_len {f : Expr → Option E} : ∀ {es : List Keyword} {ds : Es}, cKw f es = some ds → lenE ds = es.length
  | [], _, h => by cases h; rfl
  | ⟨a, e, p⟩ :: r, _, h => by
    unfold cKw at h
    cases h1 : f e with
    | none => rw [h1] at h; cases h
    | some d =>
      cases h2 : cKw f r with
      | none => rw [h1, h2] at h; cases h
      | some ds =>
        rw [h1, h2] at h
        cases h
        show lenE ds + 1 = _
        rw [cKw_len h2]; rfl
theorem cKw_ok {r : Rc} (Z : Snd T c G r) (S : Sx T c G k X W) : ∀ {es : List Keyword} {ds : Es}, cKw (r.e k) es = some ds → PK X es (tDA G W (evEs c ds))
  | [], _, h => by cases h; exact eK d_knil fun s H => by unfold evEs; rfl
  | ⟨a, e, p⟩ :: es, _, h => by
    unfold cKw at h
    cases h1 : r.e k e with
    | none => rw [h1] at h; cases h
    | some d =>
      cases h2 : cKw (r.e k) es with
      | none => rw [h1, h2] at h; cases h
      | some ds =>
        rw [h1, h2] at h
        cases h
        exact eK (d_kcons (Z.e S h1) (cKw_ok Z S h2)) fun s H => by rw [evEs]
def cBool (o : BoolOp) (f : Expr → Option E) : List Expr → Option E
  | [] => none
  | [x] => f x
  | x :: y :: r => match f x, cBool o f (y :: r) with
    | some a, some b => some (match o with | .And => .and a b | .Or => .or a b)
    | _, _ => none
theorem cBool_e {r : Rc} (Z : Snd T c G r) (S : Sx T c G k X W) {o : BoolOp} : ∀ {es : List Expr} {d : E}, cBool o (r.e k) es = some d → PE X (.BoolOp o es pos) (tD G W (evE c d))
  | [], _, h => by cases h
  | [x], d, h => d_one (Z.e S h)
  | x :: y :: l, d, h => by
    unfold cBool at h
    cases h1 : r.e k x with
    | none => rw [h1] at h; cases h
    | some a =>
      cases h2 : cBool o (r.e k) (y :: l) with
      | none => rw [h1, h2] at h; cases h
      | some b =>
        rw [h1, h2] at h
        cases o with
        | And => cases h; exact eE (d_and S.ok (Z.e S h1) (cBool_e Z S h2)) fun s H => by rw [evE] <;> rfl
        | Or => cases h; exact eE (d_or S.ok (Z.e S h1) (cBool_e Z S h2)) fun s H => by rw [evE] <;> rfl
theorem cBool_t {r : Rc} (Z : Snd T c G r) (S : Sx T c G k X W) {o : BoolOp} : ∀ {es : List Expr} {d : E}, cBool o (r.t k) es = some d → PW X (.BoolOp o es pos) (tDT G W (evT c d))
  | [], _, h => by cases h
  | [x], d, h => t_one (Z.t S h)
  | x :: y :: l, d, h => by
    unfold cBool at h
    cases h1 : r.t k x with
    | none => rw [h1] at h; cases h
    | some a =>
      cases h2 : cBool o (r.t k) (y :: l) with
      | none => rw [h1, h2] at h; cases h
      | some b =>
        rw [h1, h2] at h
        cases o with
        | And => cases h; exact eW (t_and (Z.t S h1) (cBool_t Z S h2)) fun s H => by rw [evT]
        | Or => cases h; exact eW (t_or (Z.t S h1) (cBool_t Z S h2)) fun s H => by rw [evT]
end
end DI
namespace DI
open PySem PySem.Spec PyProof.Rows L2
section
variable {T : Tb} {c : Cfg} {G : Gr} {k : Ck} {X : Cx} {W : WX} {pos p : Pos} {r : Rc}
def cCmp (lv : Bool) (f : Expr → Option E) (a : Expr) : List CmpOp → List Expr → Option E
  | [o], [b] => if notSet b then match f a, f b with
    | some x, some y => if lv then (if o = .In then some (.din x y) else some (.cmpF o x y)) else some (.cmp o x y)
    | _, _ => none else none
  | [o, p], [b, d] => if notSet d then match f a, f b, f d with
    | some x, some y, some z => some (.cmp2 o p x y z)
    | _, _, _ => none else none
  | _, _ => none
theorem cCmp_ok (Z : Snd T c G r) (S : Sx T c G k X W) {a : Expr} {os : List CmpOp} {es : List Expr} {lv : Bool} {d : E} (h : cCmp lv (r.e k) a os es = some d) : PE X (.Compare a os es pos) (tD G W (evE c d)) ∧ PT X (.Compare a os es pos) (tDT G W (evT c d)) := by
  unfold cCmp at h
  split at h
  · rename_i o b
    split at h
    · rename_i hs
      cases h1 : r.e k a with
      | none => rw [h1] at h; cases h
      | some x =>
        cases h2 : r.e k b with
        | none => rw [h1, h2] at h; cases h
        | some y =>
          rw [h1, h2] at h
          dsimp only at h
          split at h
          · split at h
            · rename_i ho
              subst ho
              cases h
              exact ⟨eE (d_din S.ok hs (Z.e S h1) (Z.e S h2)) fun s H => by rw [evE], eT (t_din S.ok hs (Z.e S h1) (Z.e S h2)) fun s H => by rw [evT]⟩
            cases h
            exact ⟨eE (d_cmpF S.ok o hs (Z.e S h1) (Z.e S h2)) fun s H => by rw [evE], eT (t_cmpF S.ok o hs (Z.e S h1) (Z.e S h2)) fun s H => by rw [evT]⟩
          cases h
          exact ⟨eE (d_cmp S.ok o hs (Z.e S h1) (Z.e S h2)) fun s H => by rw [evE], eT (t_cmp S.ok o hs (Z.e S h1) (Z.e S h2)) fun s H => by rw [evT]⟩
    · cases h
  · rename_i o p b e
    split at h
    · rename_i hs
      cases h1 : r.e k a with
      | none => rw [h1] at h; cases h
      | some x =>
        cases h2 : r.e k b with
        | none => rw [h1, h2] at h; cases h
        | some y =>
          cases h3 : r.e k e with
          | none => rw [h1, h2, h3] at h; cases h
          | some z =>
            rw [h1, h2, h3] at h
            cases h
            exact ⟨eE (d_cmp2 S.ok o p hs (Z.e S h1) (Z.e S h2) (Z.e S h3)) fun s H => by rw [evE] <;> rfl, eT (t_cmp2 S.ok o p hs (Z.e S h1) (Z.e S h2) (Z.e S h3)) fun s H => by rw [evT] <;> rfl⟩
    · cases h
  · cases h
def cOpt (f : Expr → Option E) : Option Expr → Option OE
  | none => some .no
  | some e => (f e).map .yes
theorem cOpt_ok (Z : Snd T c G r) (S : Sx T c G k X W) {o : Option Expr} {d : OE} (h : cOpt (r.e k) o = some d) : PO X o (tDO G W (evO c d)) := by
  cases o with
  | none =>
    cases h
    have e : evO c .no = fun _ H => .ok none H := by funext s H; rw [evO]
    rw [e]; exact o_no
  | some e =>
    unfold cOpt at h
    dsimp only at h
    cases h1 : r.e k e with
    | none => rw [h1] at h; cases h
    | some x =>
      rw [h1] at h
      cases h
      have e : evO c (.yes x) = fun s H => (evE c x s H).bind fun d H1 => match d with | .int i => .ok (some i) H1 | _ => .no := by funext s H; rw [evO] <;> rfl
      rw [e]; exact o_yes (Z.e S h1)
def isRev : Option Expr → Option Expr → Option Expr → Bool
  | none, none, some (.UnaryOp .USub (.Constant (.int 1) _ _) _) => true
  | _, _, _ => false
def cSub (f : Expr → Option E) (a b : Expr) : Option E := match b with
  | .Slice lo hi none _ => match f a, cOpt f lo, cOpt f hi with
    | some x, some l, some h => some (.sl x l h)
    | _, _, _ => none
  | .Slice lo hi st _ => if isRev lo hi st then (f a).map .rev else none
  | b => if plainIx b then match f a, f b with
    | some x, some y => some (.ix x y)
    | _, _ => none else none
theorem cSub_ok (Z : Snd T c G r) (S : Sx T c G k X W) {a b : Expr} {d : E} (h : cSub (r.e k) a b = some d) : PE X (.Subscript a b pos) (tD G W (evE c d)) := by
  unfold cSub at h
  split at h
  · rename_i lo hi p2
    cases h1 : r.e k a with
    | none => rw [h1] at h; cases h
    | some x =>
      cases h2 : cOpt (r.e k) lo with
      | none => rw [h1, h2] at h; cases h
      | some y =>
        cases h3 : cOpt (r.e k) hi with
        | none => rw [h1, h2, h3] at h; cases h
        | some z =>
          rw [h1, h2, h3] at h
          cases h
          exact eE (d_sl S.ok (Z.e S h1) (cOpt_ok Z S h2) (cOpt_ok Z S h3)) fun s H => by rw [evE]
  · rename_i lo hi st p2 _
    split at h
    · rename_i hr
      unfold isRev at hr
      split at hr
      · cases h1 : r.e k a with
        | none => rw [h1] at h; cases h
        | some x =>
          rw [h1] at h
          cases h
          exact eE (d_rev S.ok (Z.e S h1)) fun s H => by rw [evE] <;> rfl
      · cases hr
    · cases h
  · split at h
    · rename_i hp
      cases h1 : r.e k a with
      | none => rw [h1] at h; cases h
      | some x =>
        cases h2 : r.e k b with
        | none => rw [h1, h2] at h; cases h
        | some y =>
          rw [h1, h2] at h
          cases h
          exact eE (d_ix S.ok hp (Z.e S h1) (Z.e S h2)) fun s H => by rw [evE]
    · cases h
def biOf (x : Str) : List BI → Option BI
  | [] => none
  | b :: r => if x = biN b then some b else biOf x r
theorem biOf_ok {x : Str} : ∀ {l : List BI} {b : BI}, biOf x l = some b → x = biN b
  | [], _, h => by cases h
  | b :: r, _, h => by
    unfold biOf at h
    split at h
    · rename_i e; cases h; exact e
    · exact biOf_ok h
def biAll : List BI := [.len, .sum, .int, .str, .repr, .abs, .max, .min, .tuple, .list, .all, .any, .sorted]
def tyOf (x : Str) : List (String × Value) → Option (String × Value)
  | [] => none
  | b :: r => if x = (b.1 : Str) then some b else tyOf x r
theorem tyOf_ok {x : Str} : ∀ {l : List (String × Value)} {b : String × Value}, tyOf x l = some b → x = (b.1 : Str) ∧ b ∈ l
  | [], _, h => by cases h
  | b :: r, _, h => by
    unfold tyOf at h
    split at h
    · rename_i e; cases h; exact ⟨e, List.mem_cons_self⟩
    · exact ⟨(tyOf_ok h).1, List.mem_cons_of_mem _ (tyOf_ok h).2⟩
def cIsi (T : Tb) (k : Ck) (f : Expr → Option E) : List Expr → Option E
  | [a, .Name x _] => match tyOf x tyList with
    | some n => if notStar a && glB k "isinstance" && glB k x && decide (("isinstance" : Str) ∈ T.blts) && decide (x ∈ T.blts) then (f a).map (.isi · n.1) else none
    | none => none
  | _ => none
theorem cIsi_ok (Z : Snd T c G r) (S : Sx T c G k X W) {es : List Expr} {d : E} (h : cIsi T k (r.e k) es = some d) : PE X (.Call (.Name "isinstance" p) es [] pos) (tD G W (evE c d)) := by
  unfold cIsi at h
  split at h
  · rename_i a x p2
    cases h1 : tyOf x tyList with
    | none => rw [h1] at h; cases h
    | some n =>
      rw [h1] at h
      dsimp only at h
      split at h
      · rename_i hc
        simp only [Bool.and_eq_true, decide_eq_true_eq] at hc
        obtain ⟨e, hn⟩ := tyOf_ok h1
        subst e
        cases h2 : r.e k a with
        | none => rw [h2] at h; cases h
        | some y =>
          rw [h2] at h
          cases h
          exact eE (d_isi S.ok hn (S.gl hc.1.1.1.2) (S.blt _ hc.1.2) (S.gl hc.1.1.2) (S.blt _ hc.2) hc.1.1.1.1 (Z.e S h2)) fun s H => by rw [evE]
      · cases h
  · cases h
def xisOf (n : Nat) (y : Str) : List (Nat × Str × Bool) → Option Bool
  | [] => none
  | (m, z, b) :: r => if n = m ∧ y = z then some b else xisOf n y r
theorem xisOf_ok {n : Nat} {y : Str} : ∀ {l : List (Nat × Str × Bool)} {b : Bool}, xisOf n y l = some b → (n, y, b) ∈ l
  | [], _, h => by cases h
  | (m, z, b') :: r, b, h => by
    unfold xisOf at h
    split at h
    · rename_i e
      obtain ⟨rfl, rfl⟩ := e
      cases h
      exact List.mem_cons_self
    · exact List.mem_cons_of_mem _ (xisOf_ok h)
/-- isinstance(e, y), e the exception of the suite -/
def cIsX (T : Tb) (k : Ck) : List Expr → Option E
  | [.Name n _, .Name y _] => match k.exc with
    | some (n', kx, _, _) => if n = n' ∧ glB k "isinstance" = true ∧ glB k y = true ∧ ("isinstance" : Str) ∈ T.blts then (xisOf kx y T.xis).map fun b => .cst (.bl b) else none
    | none => none
  | [.Name n _, .Tuple [.Name y _, .Name z _] _ _] => match k.exc with
    | some (n', kx, _, _) => if n = n' ∧ glB k "isinstance" = true ∧ glB k y = true ∧ glB k z = true ∧ ("isinstance" : Str) ∈ T.blts then (xisOf kx y T.xis).bind fun b => (xisOf kx z T.xis).map fun b2 => .cst (.bl (b || b2)) else none
    | none => none
  | _ => none
theorem cIsX_ok (S : Sx T c G k X W) {es : List Expr} {d : E} (h : cIsX T k es = some d) : PE X (.Call (.Name "isinstance" p) es [] pos) (tD G W (evE c d)) := by
  unfold cIsX at h
  split at h
  · rename_i n _ y _
    split at h
    · rename_i n' kx f fd hk
      split at h
      · rename_i hc
        obtain ⟨rfl, h1, h2, h3⟩ := hc
        cases h4 : xisOf kx y T.xis with
        | none => rw [h4] at h; cases h
        | some b =>
          rw [h4] at h
          cases h
          exact eE (((S.xc _ _ _ _ hk).2 y b (xisOf_ok h4) h1 h3 h2).1 _ _ _ _) fun s H => by rw [evE]
      · cases h
    · cases h
  · rename_i n _ y _ z _ _ _
    split at h
    · rename_i n' kx f fd hk
      split at h
      · rename_i hc
        obtain ⟨rfl, h1, h2, h2', h3⟩ := hc
        cases h4 : xisOf kx y T.xis with
        | none => rw [h4] at h; cases h
        | some b =>
          rw [h4] at h
          cases h5 : xisOf kx z T.xis with
          | none => rw [h5] at h; cases h
          | some b2 =>
            rw [h5] at h
            cases h
            exact eE (((S.xc _ _ _ _ hk).2 y b (xisOf_ok h4) h1 h3 h2).2 z b2 (xisOf_ok h5) h2' _ _ _ _ _ _ _) fun s H => by rw [evE]
      · cases h
    · cases h
  · cases h
/-- e.f, e the exception of the suite -/
def cAttr (k : Ck) (n f : Str) : Option E := match k.exc with
  | some (n', _, f', d) => if n = n' ∧ f = f' then some (.cst d) else none
  | none => none
theorem cAttr_ok (S : Sx T c G k X W) {n f : Str} {d : E} (h : cAttr k n f = some d) : PE X (.Attribute (.Name n p) f pos) (tD G W (evE c d)) := by
  unfold cAttr at h
  split at h
  · rename_i n' kx f' fd hk
    split at h
    · rename_i hc
      obtain ⟨rfl, rfl⟩ := hc
      cases h
      exact eE ((S.xc _ _ _ _ hk).1 _ _) fun s H => by rw [evE]
    · cases h
  · cases h
def kwNs : List Keyword → Option (List Str)
  | [] => some []
  | ⟨some n, _, _⟩ :: r => (kwNs r).map (n :: ·)
  | ⟨none, _, _⟩ :: _ => none
theorem kwNs_ok : ∀ {kws : List Keyword} {ks : List Str}, kwNs kws = some ks → kws.map (·.arg) = ks.map some
  | [], _, h => by cases h; rfl
  | ⟨some n, e, p⟩ :: r, ks, h => by
    unfold kwNs at h
    cases q : kwNs r with
    | none => rw [q] at h; cases h
    | some l =>
      rw [q] at h
      cases h
      rw [List.map_cons, List.map_cons, kwNs_ok q]
  | ⟨none, _, _⟩ :: _, _, h => by cases h
def frm (f n : Nat) (ks : List Str) : List (Nat × Nat × List Str × List Nat) → Option (List Nat)
  | [] => none
  | (f', n', ks', pm) :: r => if f = f' ∧ n = n' ∧ ks = ks' then some pm else frm f n ks r
theorem frm_ok {f n : Nat} {ks : List Str} : ∀ {l : List (Nat × Nat × List Str × List Nat)} {pm : List Nat}, frm f n ks l = some pm → (f, n, ks, pm) ∈ l
  | [], _, h => by cases h
  | (f', n', ks', pm') :: r, pm, h => by
    unfold frm at h
    split at h
    · rename_i e
      obtain ⟨rfl, rfl, rfl⟩ := e
      cases h
      exact List.mem_cons_self
    · exact List.mem_cons_of_mem _ (frm_ok h)
/-- a def of the text, by its number -/
def cDef (T : Tb) (k : Ck) (f : Expr → Option E) (i : Nat) (es : List Expr) (kws : List Keyword) (imp : Bool) : Option E := if k.calm then match cList f es, cKw f kws, kwNs kws with
  | some ds, some zs, some ks => match frm i es.length ks T.forms with
    | some pm => some (if imp then .call i ds zs pm else .pcall i ds zs pm)
    | none => none
  | _, _, _ => none else none
theorem cDef_ok (Z : Snd T c G r) (S : Sx T c G k X W) {x : Str} {i : Nat} {es : List Expr} {kws : List Keyword} {imp : Bool} {d : E} (hg : glB k x = true) (hi : T.fns[i]? = some x) (h : cDef T k (r.e k) i es kws imp = some d) : PE X (.Call (.Name x p) es kws pos) (tD G W (evE c d)) := by
  unfold cDef at h
  split at h
  case isFalse => cases h
  rename_i hcm
  cases h1 : cList (r.e k) es with
  | none => rw [h1] at h; cases h
  | some ds =>
    cases h2 : cKw (r.e k) kws with
    | none => rw [h1, h2] at h; cases h
    | some zs =>
      cases h3 : kwNs kws with
      | none => rw [h1, h2, h3] at h; cases h
      | some ks =>
        rw [h1, h2, h3] at h
        dsimp only at h
        cases h4 : frm i es.length ks T.forms with
        | none => rw [h4] at h; cases h
        | some pm =>
          rw [h4] at h
          obtain ⟨l, a, fd, ps, dV, dvs, hr, C, hb⟩ := S.def_ hcm i x hi
          have hb := hb _ _ _ (frm_ok h4)
          have hk := kwNs_ok h3
          have kl : ks.length = kws.length := by
            have := congrArg List.length hk
            simpa using this.symm
          obtain ⟨n1, n2⟩ := cList_len h1
          have l1 : ∀ s H ds' H1, evEs c ds s H = .ok ds' H1 → ds'.length = es.length := fun s H ds' H1 e => (evEs_len c ds e).trans n1
          have l2 : ∀ s H ds' H1, evEs c zs s H = .ok ds' H1 → ds'.length = ks.length := fun s H ds' H1 e => (evEs_len c zs e).trans ((cKw_len h2).trans kl.symm)
          have e1 : es = [] → ∀ s H, evEs c ds s H = .ok [] H := fun e s H => by subst e; cases h1; unfold evEs; rfl
          have e2 : kws = [] → ∀ s H, evEs c zs s H = .ok [] H := fun e s H => by subst e; cases h2; unfold evEs; rfl
          cases imp with
          | true =>
            cases (show some (E.call i ds zs pm) = some d from h)
            exact eE (d_callG S.ok C hr (S.gl hg) hb n2 (cList_ok Z S h1) (cKw_ok Z S h2) hk l1 l2 e1 e2) fun s H => by rw [evE] <;> rfl
          | false =>
            cases (show some (E.pcall i ds zs pm) = some d from h)
            exact eE (d_pcallG S.ok C hr (S.gl hg) hb n2 (cList_ok Z S h1) (cKw_ok Z S h2) hk l1 l2 e1 e2) fun s H => by rw [evE] <;> rfl
def cCall (T : Tb) (k : Ck) (f : Expr → Option E) (x : Str) (es : List Expr) (kws : List Keyword) (pos : Pos) : Option E :=
  if glB k x then match ixN' T.fns x with
    | some i => cDef T k f i es kws (decide ((pos.line, pos.col) ∈ T.imp))
    | none => match kws with
      | [] => if x = ("isinstance" : Str) then (match cIsX T k es with | some d => some d | none => cIsi T k f es) else match biOf x biAll with
        | some b => if decide (x ∈ T.blts) && (!coolBI b || k.calm) then match es with
          | [] => none
          | e :: es => (cList f (e :: es)).map (.bi b) else none
        | none => none
      | _ => none
  else none
theorem cCall_ok (Z : Snd T c G r) (S : Sx T c G k X W) {x : Str} {es : List Expr} {kws : List Keyword} {d : E} (h : cCall T k (r.e k) x es kws pos = some d) : PE X (.Call (.Name x p) es kws pos) (tD G W (evE c d)) := by
  unfold cCall at h
  split at h
  · rename_i hg
    split at h
    · rename_i i hi
      exact cDef_ok Z S hg (ixN'_ok hi) h
    · split at h
      · split at h
        · rename_i e
          subst e
          split at h
          · rename_i d' hd'
            cases h
            exact cIsX_ok S hd'
          · exact cIsi_ok Z S h
        · split at h
          · rename_i b hb
            have e := biOf_ok hb
            subst e
            split at h
            · rename_i hm
              rw [Bool.and_eq_true, decide_eq_true_eq, Bool.or_eq_true, Bool.not_eq_true'] at hm
              split at h
              · cases h
              · rename_i e es
                cases h1 : cList (r.e k) (e :: es) with
                | none => rw [h1] at h; cases h
                | some ds =>
                  rw [h1] at h
                  cases h
                  exact eE (d_bi S.ok b (fun hq => hm.2.elim (fun z => absurd (hq.symm.trans z) (by decide)) S.calm) (S.gl hg) (S.blt _ hm.1) (cList_len h1).2 (cList_ok Z S h1)) fun s H => by rw [evE]
            · cases h
          · cases h
      · cases h
  · cases h
def mtOf (x : Str) : List MT → Option MT
  | [] => none
  | b :: r => if x = mtN b then some b else mtOf x r
theorem mtOf_ok {x : Str} : ∀ {l : List MT} {b : MT}, mtOf x l = some b → x = mtN b
  | [], _, h => by cases h
  | b :: r, _, h => by
    unfold mtOf at h
    split at h
    · rename_i e; cases h; exact e
    · exact mtOf_ok h
def cMeth (f : Expr → Option E) (o : Expr) (nm : Str) (ap pos : Pos) (e : Expr) : Option E := match mtOf nm [.append, .extend, .index, .join, .split, .count] with
  | some m => if plainBase o && notStar e && (ap.endLine == pos.line) then match f o, cList f [e] with
    | some x, some ds => some (.mt m x ds)
    | _, _ => none else none
  | none => none
theorem cMeth_ok (Z : Snd T c G r) (S : Sx T c G k X W) {o e : Expr} {nm : Str} {ap : Pos} {d : E} (h : cMeth (r.e k) o nm ap pos e = some d) : PE X (.Call (.Attribute o nm ap) [e] [] pos) (tD G W (evE c d)) := by
  unfold cMeth at h
  split at h
  · rename_i m hm
    split at h
    · rename_i hc
      simp only [Bool.and_eq_true] at hc
      cases h1 : r.e k o with
      | none => rw [h1] at h; cases h
      | some x =>
        cases h2 : cList (r.e k) [e] with
        | none => rw [h1, h2] at h; cases h
        | some ds =>
          rw [h1, h2] at h
          cases h
          exact eE (d_mt S.ok m (mtOf_ok hm) hc.1.1 hc.1.2 hc.2 (Z.e S h1) (cList_ok Z S h2)) fun s H => by rw [evE]
    · cases h
  · cases h
def cMeth0 (f : Expr → Option E) (o : Expr) (nm : Str) (ap pos : Pos) : Option E := if nm = ("isalpha" : Str) then if plainBase o && (ap.endLine == pos.line) then match f o with
    | some x => some (.mt .isalpha x .nil)
    | none => none else none else none
theorem cMeth0_ok (Z : Snd T c G r) (S : Sx T c G k X W) {o : Expr} {nm : Str} {ap : Pos} {d : E} (h : cMeth0 (r.e k) o nm ap pos = some d) : PE X (.Call (.Attribute o nm ap) [] [] pos) (tD G W (evE c d)) := by
  unfold cMeth0 at h
  split at h
  · rename_i hn
    subst hn
    split at h
    · rename_i hc
      simp only [Bool.and_eq_true] at hc
      cases h1 : r.e k o with
      | none => rw [h1] at h; cases h
      | some x =>
        rw [h1] at h
        cases h
        exact eE (d_mt0 S.ok hc.1 hc.2 (Z.e S h1)) fun s H => by rw [evE]; simp only [evEs, Rs.bind_ok]
    · cases h
  · cases h
def cSubD (f : Expr → Option E) (a b : Expr) : Option E := if plainIx b then match f a, f b with
    | some x, some y => some (.dget x y)
    | _, _ => none else none
theorem cSubD_ok (Z : Snd T c G r) (S : Sx T c G k X W) {a b : Expr} {d : E} (h : cSubD (r.e k) a b = some d) : PE X (.Subscript a b pos) (tD G W (evE c d)) := by
  unfold cSubD at h
  split at h
  · rename_i hp
    cases h1 : r.e k a with
    | none => rw [h1] at h; cases h
    | some x =>
      cases h2 : r.e k b with
      | none => rw [h1, h2] at h; cases h
      | some y =>
        rw [h1, h2] at h
        cases h
        exact eE (d_dget S.ok hp (Z.e S h1) (Z.e S h2)) fun s H => by rw [evE]
  · cases h
def cMeth2 (f : Expr → Option E) (o : Expr) (nm : Str) (ap pos : Pos) (a b : Expr) : Option E := if nm = ("get" : Str) then if plainBase o && notStar a && notStar b && (ap.endLine == pos.line) then match f o, f a, f b with
    | some x, some y, some z => some (.dget2 x y z)
    | _, _, _ => none else none else none
theorem cMeth2_ok (Z : Snd T c G r) (S : Sx T c G k X W) {o a b : Expr} {nm : Str} {ap : Pos} {d : E} (h : cMeth2 (r.e k) o nm ap pos a b = some d) : PE X (.Call (.Attribute o nm ap) [a, b] [] pos) (tD G W (evE c d)) := by
  unfold cMeth2 at h
  split at h
  · rename_i hn
    split at h
    · rename_i hc
      simp only [Bool.and_eq_true] at hc
      cases h1 : r.e k o with
      | none => rw [h1] at h; cases h
      | some x =>
        cases h2 : r.e k a with
        | none => rw [h1, h2] at h; cases h
        | some y =>
          cases h3 : r.e k b with
          | none => rw [h1, h2, h3] at h; cases h
          | some z =>
            rw [h1, h2, h3] at h
            cases h
            exact eE (d_dget2 S.ok hn hc.1.1.1 hc.1.1.2 hc.1.2 hc.2 (Z.e S h1) (Z.e S h2) (Z.e S h3)) fun s H => by rw [evE]
    · cases h
  · cases h
theorem asg_cons {e : Expr} {es : List Expr} {env : Env} (h : notStar e = true) : assignEach (e :: es) env = (false, assign e env) :: assignEach es env := by
  cases e <;> first | rfl | (simp [notStar] at h; done)
def cPats (f : Expr → Option DI.T) : List Expr → Option Ts
  | [] => some .nil
  | .Starred e _ :: r => match f e, cPats f r with
    | some d, some ds => some (.st d ds)
    | _, _ => none
  | e :: r => if notStar e then match f e, cPats f r with
    | some d, some ds => some (.cons d ds)
    | _, _ => none else none
def cPat : Nat → Ck → Expr → Option DI.T
  | 0, _, _ => none
  | n + 1, k, e => match e with
    | .Name x _ => if stB k x then (ixN' k.N x).map .nm else none
    | .Tuple es _ _ => if k.calm then (cPats (cPat n k) es).map .tp else none
    | _ => none
theorem cPats_cases {f : Expr → Option DI.T} {e : Expr} {es : List Expr} {ts : Ts} (h : cPats f (e :: es) = some ts) : (∃ e' p d ds, e = .Starred e' p ∧ f e' = some d ∧ cPats f es = some ds ∧ ts = .st d ds) ∨ (notStar e = true ∧ ∃ d ds, f e = some d ∧ cPats f es = some ds ∧ ts = .cons d ds) := by
  unfold cPats at h
  split at h
  · rename_i heq; cases heq
  · rename_i e' p r heq
    cases heq
    cases h1 : f e' with
    | none => rw [h1] at h; cases h
    | some d =>
      cases h2 : cPats f es with
      | none => rw [h1, h2] at h; cases h
      | some ds => rw [h1, h2] at h; cases h; exact .inl ⟨_, _, _, _, rfl, h1, rfl, rfl⟩
  · rename_i e0 r0 _ heq
    cases heq
    split at h
    · rename_i hs
      cases h1 : f e with
      | none => rw [h1] at h; cases h
      | some d =>
        cases h2 : cPats f es with
        | none => rw [h1, h2] at h; cases h
        | some ds => rw [h1, h2] at h; cases h; exact .inr ⟨hs, _, _, rfl, rfl, rfl⟩
    · cases h
theorem cPats_env {f : Expr → Option DI.T} {env : Env} : ∀ {es : List Expr} {ts : Ts}, cPats f es = some ts → (assignEach es env).length = lenTs ts ∧ (assignEach es env).findIdx? (·.1) = stIx ts
  | [], _, h => by cases h; exact ⟨rfl, rfl⟩
  | e :: es, _, h => by
    rcases cPats_cases h with ⟨e', p, d, ds, rfl, h1, h2, rfl⟩ | ⟨hs, d, ds, h1, h2, rfl⟩
    · obtain ⟨a, b⟩ := cPats_env (env := env) h2
      refine ⟨by show _ + 1 = lenTs ds + 1; rw [a], ?_⟩
      show ((true, _) :: assignEach es env).findIdx? (·.1) = some 0
      rw [List.findIdx?_cons] <;> rfl
    · obtain ⟨a, b⟩ := cPats_env (env := env) h2
      rw [asg_cons hs]
      refine ⟨by show _ + 1 = lenTs ds + 1; rw [a], ?_⟩
      rw [List.findIdx?_cons]
      simp [b, stIx]
theorem cPats_ok {f : Expr → Option DI.T} (hf : ∀ {e d}, f e = some d → PG X e (tP X.K d)) : ∀ {es : List Expr} {ts : Ts}, cPats f es = some ts → PGs X es (tPs X.K ts)
  | [], _, h => by cases h; unfold tPs; exact pgs_nil
  | e :: es, _, h => by
    rcases cPats_cases h with ⟨e', p, d, ds, rfl, h1, h2, rfl⟩ | ⟨hs, d, ds, h1, h2, rfl⟩
    · unfold tPs
      exact pgs_star (hf h1) (cPats_ok hf h2)
    · unfold tPs
      exact pgs_cons (hf h1) (cPats_ok hf h2) (by rw [asg_cons hs]; rfl)
theorem stIx_lt : ∀ {ts : Ts} {j : Nat}, stIx ts = some j → j < lenTs ts
  | .nil, _, h => by cases h
  | .cons t r, j, h => by
    unfold stIx at h
    cases e : stIx r with
    | none => rw [e] at h; cases h
    | some i => rw [e] at h; cases h; have := stIx_lt e; simp only [lenTs]; omega
  | .st t r, j, h => by cases h; simp only [lenTs]; omega
theorem cPat_ok (S : Sx T c G k X W) : ∀ {n : Nat} {e : Expr} {d : DI.T}, cPat n k e = some d → PG X e (tP X.K d)
  | 0, _, _, h => by cases h
  | n + 1, e, d, h => by
    unfold cPat at h
    split at h
    · rename_i x p
      split at h
      · rename_i hs
        cases h1 : ixN' k.N x with
        | none => rw [h1] at h; cases h
        | some i =>
          rw [h1] at h
          cases h
          obtain ⟨a, b⟩ := S.st hs
          unfold tP
          exact pg_name S.ok.nd (S.ix h1) a b
      · cases h
    · rename_i es kk p
      split at h
      case isFalse => cases h
      rename_i hcm
      have hcm := S.calm hcm
      cases h1 : cPats (cPat n k) es with
      | none => rw [h1] at h; cases h
      | some ts =>
        rw [h1] at h
        cases h
        unfold tP
        obtain ⟨a, b⟩ := cPats_env (env := X.env) h1
        have z := cPats_ok (X := X) (fun h => cPat_ok S h) h1
        cases e : stIx ts with
        | none => rw [e] at b; exact PG.or (pg_tup hcm z a b) (pg_lst hcm z a b)
        | some j => rw [e] at b; exact pg_star hcm z a b (stIx_lt e)
    · cases h
end
end DI
namespace DI
open PySem PySem.Spec PyProof.Rows L2
section
variable {T : Tb} {c : Cfg} {G : Gr} {k : Ck} {X : Cx} {W : WX} {pos p : Pos} {r : Rc}
theorem eI {tg e : Expr} {f g : Sd → HH → Rs (List D × Gd)} (h : PI X tg e (tDI G W g)) (q : ∀ s H, f s H = g s H) : PI X tg e (tDI G W f) := by
  have : f = g := by funext s H; exact q s H
  subst this; exact h
def isTup : Expr → Bool
  | .Tuple _ _ _ => true
  | _ => false
def blB (T : Tb) (k : Ck) (x : Str) : Bool := glB k x && decide (x ∈ T.blts)
def cIt (T : Tb) (k : Ck) (f : Expr → Option E) (tg : Expr) : Expr → Option I
  | .Call (.Name x p) es [] pos =>
    if x = ("range" : Str) then if blB T k x then match es with
      | [a] => (cList f [a]).map .range
      | [a, b] => (cList f [a, b]).map .range
      | _ => none else none
    else if x = ("enumerate" : Str) then if blB T k x && isTup tg then match es with
      | [a] => if notStar a then (f a).map .enum else none
      | _ => none else none
    else if x = ("zip" : Str) then if blB T k x && isTup tg then match es with
      | [a, b] => if notStar a && notStar b then match f a, f b with
        | some x, some y => some (.zip x y)
        | _, _ => none else none
      | _ => none else none
    else (f (.Call (.Name x p) es [] pos)).map .val
  | e => (f e).map .val
theorem blB_ok (S : Sx T c G k X W) {x : Str} (h : blB T k x = true) : Gl X x ∧ X.mg x = none := by
  unfold blB at h
  rw [Bool.and_eq_true, decide_eq_true_eq] at h
  exact ⟨S.gl h.1, S.blt _ h.2⟩
theorem val_ok (Z : Snd T c G r) (S : Sx T c G k X W) {tg e : Expr} {i : I} (h : (r.e k e).map .val = some i) : PI X tg e (tDI G W (evI c i)) := by
  cases h1 : r.e k e with
  | none => rw [h1] at h; cases h
  | some d =>
    rw [h1] at h
    cases h
    exact eI (i_val S.ok (Z.e S h1)) fun s H => by rw [evI]
theorem list_of_len : ∀ {n : Nat} {ds : List D}, ds.length = n → (n = 1 → ∃ x, ds = [x]) ∧ (n = 2 → ∃ x y, ds = [x, y])
  | _, [], h => ⟨fun e => by subst e; simp at h, fun e => by subst e; simp at h⟩
  | _, [x], h => ⟨fun _ => ⟨x, rfl⟩, fun e => by subst e; simp at h⟩
  | _, [x, y], h => ⟨fun e => by subst e; simp at h, fun _ => ⟨x, y, rfl⟩⟩
  | _, x :: y :: z :: r, h => ⟨fun e => by subst e; simp at h, fun e => by subst e; simp at h⟩
theorem cIt_ok (Z : Snd T c G r) (S : Sx T c G k X W) {tg e : Expr} {i : I} (h : cIt T k (r.e k) tg e = some i) : PI X tg e (tDI G W (evI c i)) := by
  unfold cIt at h
  split at h
  · rename_i x p es pos
    split at h
    · rename_i hx
      subst hx
      split at h
      · rename_i hb
        obtain ⟨hg, hm⟩ := blB_ok S hb
        split at h
        · rename_i a
          cases h1 : cList (r.e k) [a] with
          | none => rw [h1] at h; cases h
          | some ds =>
            rw [h1] at h
            cases h
            obtain ⟨l1, l2⟩ := cList_len h1
            rw [List.all_cons, Bool.and_eq_true] at l2
            refine eI (i_range1 hg hm l2.1 (cList_ok Z S h1)) fun s H => ?_
            rw [evI]
            cases q : evEs c ds s H with
            | no => rfl
            | ex _ _ => rfl
            | ok xs H1 =>
              obtain ⟨x, rfl⟩ := (list_of_len ((evEs_len c ds q).trans l1)).1 rfl
              rfl
        · rename_i a b
          cases h1 : cList (r.e k) [a, b] with
          | none => rw [h1] at h; cases h
          | some ds =>
            rw [h1] at h
            cases h
            obtain ⟨l1, l2⟩ := cList_len h1
            rw [List.all_cons, List.all_cons, Bool.and_eq_true, Bool.and_eq_true] at l2
            refine eI (i_range2 hg hm l2.1 l2.2.1 (cList_ok Z S h1)) fun s H => ?_
            rw [evI]
            cases q : evEs c ds s H with
            | no => rfl
            | ex _ _ => rfl
            | ok xs H1 =>
              obtain ⟨x, y, rfl⟩ := (list_of_len ((evEs_len c ds q).trans l1)).2 rfl
              rfl
        · cases h
      · cases h
    · split at h
      · rename_i hx
        subst hx
        split at h
        · rename_i hb
          rw [Bool.and_eq_true] at hb
          obtain ⟨hg, hm⟩ := blB_ok S hb.1
          obtain ⟨elts, kk, tpos, rfl⟩ : ∃ a b c, tg = .Tuple a b c := by
            cases tg <;> first | exact ⟨_, _, _, rfl⟩ | (have := hb.2; simp [isTup] at this; done)
          split at h
          · rename_i a
            split at h
            · rename_i hs
              cases h1 : r.e k a with
              | none => rw [h1] at h; cases h
              | some d =>
                rw [h1] at h
                cases h
                exact eI (i_enum S.ok hg hm hs (Z.e S h1)) fun s H => by rw [evI]
            · cases h
          · cases h
        · cases h
      · split at h
        · rename_i hx
          subst hx
          split at h
          · rename_i hb
            rw [Bool.and_eq_true] at hb
            obtain ⟨hg, hm⟩ := blB_ok S hb.1
            obtain ⟨elts, kk, tpos, rfl⟩ : ∃ a b c, tg = .Tuple a b c := by
              cases tg <;> first | exact ⟨_, _, _, rfl⟩ | (have := hb.2; simp [isTup] at this; done)
            split at h
            · rename_i a b
              split at h
              · rename_i hs
                rw [Bool.and_eq_true] at hs
                cases h1 : r.e k a with
                | none => rw [h1] at h; cases h
                | some d =>
                  cases h2 : r.e k b with
                  | none => rw [h1, h2] at h; cases h
                  | some d2 =>
                    rw [h1, h2] at h
                    cases h
                    exact eI (i_zip S.ok hg hm hs.1 hs.2 (Z.e S h1) (Z.e S h2)) fun s H => by rw [evI]
              · cases h
            · cases h
          · cases h
        · exact val_ok Z S h
  · exact val_ok Z S h
def ownOf (N : List Str) (scope : Scope) : List (Str × Nat) := scope.names.filterMap fun y => match y.2 with
  | .local => (ixN' N y.1).map fun i => (y.1, i)
  | .cell => (ixN' N y.1).map fun i => (y.1, i)
  | _ => none
def inCk (k : Ck) (scope : Scope) : Ck := ⟨k.N, relS scope k.sc, false, k.calm, none⟩
def cIfs (f : Expr → Option E) : List Expr → Option OE
  | [] => some .no
  | [x] => (f x).map .yes
  | _ => none
structure LcP where
  lv : Bool
  own : List Nat
  t : DI.T
  i : I
  g : OE
  e : E
def cComp (T : Tb) (r : Rc) (k : Ck) (lv : Bool) (elt : Expr) (scope : Scope) : List Comprehension → Option LcP
  | [⟨tg, iter, ifs, a⟩] => if decide (a = 0) && k.calm && notSet iter && blkC k.N k.sc scope (ownOf k.N scope) then
      match cPat 4 (inCk k scope) tg, cIt T k (r.e k) tg iter, cIfs (r.t (inCk k scope)) ifs, r.e (inCk k scope) elt with
      | some t, some i, some g, some e => if (slT t).all fun j => decide (j ∈ (ownOf k.N scope).map (·.2)) then some ⟨lv, (ownOf k.N scope).map (·.2), t, i, g, e⟩ else none
      | _, _, _, _ => none
    else none
  | _ => none
theorem Sx.blk (S : Sx T c G k X W) {scope : Scope} (hk : scope.kind = .function) : Blk X scope fun Y => Sx T c G (inCk k scope) Y W0 := fun s H C cl fp =>
  ⟨okx_blk S.ok scope s H C cl fp, S.hN, by show relS scope X.env.scope = relS scope k.sc; rw [S.hs], hk, fun h => absurd h (by simp [inCk]), S.blt, S.con, fun h => S.calm h, S.gx, fun hcm f x h => let ⟨l, a, fd, ps, dV, dvs, hr, C, hb⟩ := S.def_ hcm f x h; ⟨l, a, fd, ps, dV, dvs, hr, ⟨C.fn, C.mg, C.kp, C.nd, C.dv, C.dr⟩, hb⟩, fun h => absurd h (by simp [inCk]),
    fun hcm x n f m => let E := S.exk hcm x n f m; ⟨E.mg, E.nd, E.xf, E.F, E.ini⟩, fun n y b m => S.iso n y b m, fun _ => rfl, fun x g h => S.gd x g h, fun hcm x ch h => ⟨(S.mrk hcm x ch h).nd, let ⟨l, f, h1, h2, h3, h4⟩ := (S.mrk hcm x ch h).ex; ⟨l, f, h1, h2, h3, h4⟩⟩, fun n kx f d h => (by cases h), fun n kx f d h => by cases h⟩
theorem cIfs_ok (Z : Snd T c G r) (S : Sx T c G k X W) {es : List Expr} {d : OE} (h : cIfs (r.t k) es = some d) : PTs X es (tDT G W (evOT c d)) := by
  unfold cIfs at h
  split at h
  · cases h
    have e : evOT c .no = fun _ H => .ok true H := by funext s H; rw [evOT]
    rw [e]; exact ts_no
  · rename_i x
    cases h1 : r.t k x with
    | none => rw [h1] at h; cases h
    | some y =>
      rw [h1] at h
      cases h
      have e : evOT c (.yes y) = fun s H => evT c y s H := by funext s H; rw [evOT]
      rw [e]; exact ts_one (Z.t S h1)
  · cases h
/-- what the rules of comprehensions ask -/
structure LcOk (T : Tb) (c : Cfg) (G : Gr) (k : Ck) (X : Cx) (W : WX) (elt tg iter : Expr) (ifs : List Expr) (scope : Scope) (L : LcP) : Prop where
  own : L.own = (ownOf k.N scope).map (·.2)
  calm : X.calm = true
  gx : G.exc = none
  fold : notSet iter = true
  hi : PI X tg iter (tDI G W (evI c L.i))
  bk : BlkOk X.N X.env.scope scope (ownOf k.N scope)
  sl : ∀ i ∈ slT L.t, i ∈ (ownOf k.N scope).map (·.2)
  hg : Blk X scope fun Y => PG Y tg (tP X.K L.t)
  ht : Blk X scope fun Y => PTs Y ifs (tDT G W0 (evOT c L.g))
  he : Blk X scope fun Y => PE Y elt (tD G W0 (evE c L.e))
theorem cComp_ok (Z : Snd T c G r) (S : Sx T c G k X W) {elt : Expr} {scope : Scope} {gs : List Comprehension} {lv : Bool} {L : LcP} (h : cComp T r k lv elt scope gs = some L) : ∃ tg iter ifs, gs = [⟨tg, iter, ifs, 0⟩] ∧ LcOk T c G k X W elt tg iter ifs scope L := by
  unfold cComp at h
  split at h
  · rename_i tg iter ifs a
    split at h
    · rename_i hc
      simp only [Bool.and_eq_true, decide_eq_true_eq] at hc
      obtain ⟨⟨⟨rfl, hcm⟩, hf⟩, hb⟩ := hc
      cases h1 : cPat 4 (inCk k scope) tg with
      | none => rw [h1] at h; cases h
      | some t =>
        cases h2 : cIt T k (r.e k) tg iter with
        | none => rw [h1, h2] at h; cases h
        | some i =>
          cases h3 : cIfs (r.t (inCk k scope)) ifs with
          | none => rw [h1, h2, h3] at h; cases h
          | some g =>
            cases h4 : r.e (inCk k scope) elt with
            | none => rw [h1, h2, h3, h4] at h; cases h
            | some e =>
              rw [h1, h2, h3, h4] at h
              dsimp only at h
              split at h
              · rename_i hsl
                cases h
                have bk := blkOk_by hb
                have SB := S.blk (scope := scope) bk.kind
                refine ⟨tg, iter, ifs, rfl, rfl, S.calm hcm, S.gx hcm, hf, cIt_ok Z S h2, by rw [S.hN, S.hs]; exact bk, fun i hi => ?_, fun s H C cl fp => cPat_ok (SB s H C cl fp) h1, fun s H C cl fp => cIfs_ok Z (SB s H C cl fp) h3, fun s H C cl fp => Z.e (SB s H C cl fp) h4⟩
                exact of_decide_eq_true (List.all_eq_true.mp hsl i hi)
              · cases h
    · cases h
  · cases h
def LcP.E (L : LcP) : DI.E := if L.lv then .lcR L.own L.t L.i L.g L.e else .lc L.own L.t L.i L.g L.e
theorem lcE (c : Cfg) (L : LcP) : ∀ s H, evE c L.E s H = lcF L.lv (evI c L.i) (evOT c L.g) (evE c L.e) L.own L.t s H := fun s H => by
  obtain ⟨lv, own, t, i, g, e⟩ := L
  cases lv
  · show evE c (.lc own t i g e) s H = _
    rw [evE] <;> rfl
  · show evE c (.lcR own t i g e) s H = _
    rw [evE] <;> rfl
theorem lc_pe (S : Sx T c G k X W) {elt tg iter : Expr} {ifs : List Expr} {scope : Scope} {L : LcP} (h : LcOk T c G k X W elt tg iter ifs scope L) : PE X (.ListComp elt [⟨tg, iter, ifs, 0⟩] scope pos) (tD G W (evE c L.E)) :=
  eE (d_lc S.ok h.gx h.calm h.fold h.hi h.bk h.sl h.hg h.ht h.he) fun s H => by rw [lcE, h.own]
/-- a comprehension over the items of a live dict -/
def cLci (T : Tb) (r : Rc) (k : Ck) (elt : Expr) (scope : Scope) : List Comprehension → Option E
  | [⟨.Tuple elts kk tpos, .Call (.Attribute (.Name x p) y apos) [] [] cpos, ifs, a⟩] => if decide (y = ("items" : Str)) && ((apos.endLine == cpos.line) && (!dbg x && visB k x)) then (match ixN' k.N x, cComp T r k false elt scope [⟨.Tuple elts kk tpos, .Name x p, ifs, a⟩] with
    | some i, some L => some (.lci L.own L.t i L.g L.e)
    | _, _ => none) else none
  | _ => none
structure LciOk (T : Tb) (c : Cfg) (G : Gr) (k : Ck) (X : Cx) (W : WX) (elt : Expr) (scope : Scope) (elts : List Expr) (kk : Nat) (tpos : Pos) (x : Str) (apos cpos : Pos) (ifs : List Expr) (i : Nat) (L : LcP) : Prop where
  own : L.own = (ownOf k.N scope).map (·.2)
  calm : X.calm = true
  gx : G.exc = none
  ix : X.N[i]? = some x
  vis : Vis X.env.scope x
  d1 : (x == ("__debug__" : Str)) = false
  d2 : (x == ("__classdict__" : Str)) = false
  hl : (apos.endLine == cpos.line) = true
  bk : BlkOk X.N X.env.scope scope (ownOf k.N scope)
  sl : ∀ i ∈ slT L.t, i ∈ (ownOf k.N scope).map (·.2)
  hg : Blk X scope fun Y => PG Y (.Tuple elts kk tpos) (tP X.K L.t)
  ht : Blk X scope fun Y => PTs Y ifs (tDT G W0 (evOT c L.g))
  he : Blk X scope fun Y => PE Y elt (tD G W0 (evE c L.e))
theorem cLci_inv (Z : Snd T c G r) (S : Sx T c G k X W) {elt : Expr} {scope : Scope} {gs : List Comprehension} {d : E} (h : cLci T r k elt scope gs = some d) :
    ∃ elts kk tpos x p apos cpos ifs i L, gs = [⟨.Tuple elts kk tpos, .Call (.Attribute (.Name x p) "items" apos) [] [] cpos, ifs, 0⟩] ∧ d = .lci L.own L.t i L.g L.e ∧ LciOk T c G k X W elt scope elts kk tpos x apos cpos ifs i L := by
  unfold cLci at h
  split at h
  · rename_i elts kk tpos x p y apos cpos ifs a
    split at h
    · rename_i hc
      simp only [Bool.and_eq_true, decide_eq_true_eq, Bool.not_eq_true'] at hc
      obtain ⟨rfl, hl, hd, hv⟩ := hc
      unfold dbg at hd
      rw [Bool.or_eq_false_iff] at hd
      cases e : ixN' k.N x with
      | none => rw [e] at h; cases h
      | some i =>
        cases h1 : cComp T r k false elt scope [⟨.Tuple elts kk tpos, .Name x p, ifs, a⟩] with
        | none => rw [e, h1] at h; cases h
        | some L =>
          rw [e, h1] at h
          cases h
          obtain ⟨tg, iter, ifs', hgs, hl'⟩ := cComp_ok Z S h1
          cases hgs
          exact ⟨elts, kk, tpos, x, p, apos, cpos, ifs, i, L, rfl, rfl, hl'.own, hl'.calm, hl'.gx, S.ix e, S.vis hv, hd.1, hd.2, hl, hl'.bk, hl'.sl, hl'.hg, hl'.ht, hl'.he⟩
    · cases h
  · cases h
theorem cLci_ok (Z : Snd T c G r) (S : Sx T c G k X W) {elt : Expr} {scope : Scope} {gs : List Comprehension} {d : E} (h : cLci T r k elt scope gs = some d) : PE X (.ListComp elt gs scope pos) (tD G W (evE c d)) := by
  obtain ⟨elts, kk, tpos, x, p, apos, cpos, ifs, i, L, rfl, rfl, q⟩ := cLci_inv Z S h
  exact eE (d_lci S.ok q.gx q.calm q.ix q.vis q.d1 q.d2 q.hl q.bk q.sl q.hg q.ht q.he) fun s H => by rw [evE, q.own]
/-- dict(pairs) -/
def cDct (T : Tb) (k : Ck) (f : Expr → Option E) (x : Str) (es : List Expr) (kws : List Keyword) : Option E := match es, kws with
  | e :: es, [] => if decide (x = ("dict" : Str)) && (glB k x && (decide (x ∈ T.blts) && k.calm)) then (cList f (e :: es)).map .dctP else none
  | _, _ => none
theorem cDct_ok (Z : Snd T c G r) (S : Sx T c G k X W) {x : Str} {p : Pos} {es : List Expr} {kws : List Keyword} {d : E} (h : cDct T k (r.e k) x es kws = some d) : PE X (.Call (.Name x p) es kws pos) (tD G W (evE c d)) := by
  unfold cDct at h
  split at h
  · split at h
    · rename_i e es hc
      simp only [Bool.and_eq_true, decide_eq_true_eq] at hc
      obtain ⟨rfl, h1, h2, h3⟩ := hc
      cases q : cList (r.e k) (e :: es) with
      | none => rw [q] at h; cases h
      | some ds =>
        rw [q] at h
        cases h
        exact eE (d_dctP S.ok (S.calm h3) (S.gl h1) (S.blt _ h2) (cList_len q).2 (cList_ok Z S q)) fun s H => by rw [evE] <;> rfl
    · cases h
  · cases h
def cDC (T : Tb) (r : Rc) (k : Ck) (kx vx : Expr) (scope : Scope) (gs : List Comprehension) : Option E := match cComp T r k false kx scope gs, r.e (inCk k scope) vx with
  | some L, some v => some (.dc L.own L.t L.i L.g L.e v)
  | _, _ => none
theorem cDC_ok (Z : Snd T c G r) (S : Sx T c G k X W) {kx vx : Expr} {scope : Scope} {gs : List Comprehension} {d : E} (h : cDC T r k kx vx scope gs = some d) : PE X (.DictComp kx vx gs scope pos) (tD G W (evE c d)) := by
  unfold cDC at h
  cases h1 : cComp T r k false kx scope gs with
  | none => rw [h1] at h; cases h
  | some L =>
    cases h2 : r.e (inCk k scope) vx with
    | none => rw [h1, h2] at h; cases h
    | some v =>
      rw [h1, h2] at h
      cases h
      obtain ⟨tg, iter, ifs, rfl, hl⟩ := cComp_ok Z S h1
      have SB := S.blk (scope := scope) hl.bk.kind
      exact eE (d_dc S.ok hl.gx hl.calm hl.fold hl.hi hl.bk hl.sl hl.hg hl.ht hl.he fun s H C cl fp => Z.e (SB s H C cl fp) h2) fun s H => by
        rw [evE, hl.own] <;> rfl
/-- a dict of the module -/
def gdOf (x : Str) : List (Str × Nat) → Option Nat
  | [] => none
  | (y, g) :: r => if x = y then some g else gdOf x r
theorem gdOf_ok {x : Str} : ∀ {l : List (Str × Nat)} {g : Nat}, gdOf x l = some g → (x, g) ∈ l
  | [], _, h => by cases h
  | (y, g') :: r, g, h => by
    unfold gdOf at h
    split at h
    · rename_i e
      subst e
      cases h
      exact List.mem_cons_self
    · exact List.mem_cons_of_mem _ (gdOf_ok h)
def cGd (T : Tb) (k : Ck) : Expr → Option Nat
  | .Name x _ => if glB k x then gdOf x T.gds else none
  | _ => none
theorem cGd_ok (S : Sx T c G k X W) {e : Expr} {g : Nat} (h : cGd T k e = some g) : notSet e = true ∧ plainBase e = true ∧ ∃ p ks vs, gdat c.consts[g]? = (ks, vs) ∧ KDv X.K X.w p ks vs ∧ PE X e (tC (.ref p)) := by
  unfold cGd at h
  split at h
  · split at h
    · rename_i x px hg
      obtain ⟨h1, p, ks, vs, h2, h3, h4⟩ := S.gd x g (gdOf_ok h)
      exact ⟨rfl, rfl, p, ks, vs, by rw [h2]; rfl, h4, pe_glob (S.gl hg) h3 rfl h1⟩
    · cases h
  · cases h
def cGget (T : Tb) (k : Ck) (f : Expr → Option E) (a b : Expr) : Option E := match cGd T k a with
  | some g => if plainIx b then (f b).map (.gget g) else none
  | none => none
theorem cGget_ok (Z : Snd T c G r) (S : Sx T c G k X W) {a b : Expr} {d : E} (h : cGget T k (r.e k) a b = some d) : PE X (.Subscript a b pos) (tD G W (evE c d)) := by
  unfold cGget at h
  cases q : cGd T k a with
  | none => rw [q] at h; cases h
  | some g =>
    rw [q] at h
    dsimp only at h
    split at h
    · rename_i hp
      cases q2 : r.e k b with
      | none => rw [q2] at h; cases h
      | some y =>
        rw [q2] at h
        cases h
        obtain ⟨_, _, p, ks, vs, e, h4, hx⟩ := cGd_ok S q
        exact eE (d_gget h4 hx hp (Z.e S q2)) fun s H => by rw [evE, e]
    · cases h
def cGin (T : Tb) (k : Ck) (f : Expr → Option E) (a : Expr) : List CmpOp → List Expr → Option E
  | [.In], [x] => match cGd T k x, f a with
    | some g, some y => some (.gin true g y)
    | _, _ => none
  | [.NotIn], [x] => match cGd T k x, f a with
    | some g, some y => some (.gin false g y)
    | _, _ => none
  | _, _ => none
theorem cGin_ok (Z : Snd T c G r) (S : Sx T c G k X W) {a : Expr} {os : List CmpOp} {es : List Expr} {d : E} (h : cGin T k (r.e k) a os es = some d) : PE X (.Compare a os es pos) (tD G W (evE c d)) ∧ PT X (.Compare a os es pos) (tDT G W (evT c d)) := by
  unfold cGin at h
  split at h
  · rename_i x
    cases q : cGd T k x with
    | none => rw [q] at h; cases h
    | some g =>
      cases q2 : r.e k a with
      | none => rw [q, q2] at h; cases h
      | some y =>
        rw [q, q2] at h
        cases h
        obtain ⟨hm, _, p, ks, vs, e, h4, hx⟩ := cGd_ok S q
        obtain ⟨r1, r2⟩ := d_gin (b := true) (pos := pos) h4 hm hx (Z.e S q2)
        exact ⟨eE r1 fun s H => by rw [evE, e], eT r2 fun s H => by rw [evT, e]⟩
  · rename_i x
    cases q : cGd T k x with
    | none => rw [q] at h; cases h
    | some g =>
      cases q2 : r.e k a with
      | none => rw [q, q2] at h; cases h
      | some y =>
        rw [q, q2] at h
        cases h
        obtain ⟨hm, _, p, ks, vs, e, h4, hx⟩ := cGd_ok S q
        obtain ⟨r1, r2⟩ := d_gin (b := false) (pos := pos) h4 hm hx (Z.e S q2)
        exact ⟨eE r1 fun s H => by rw [evE, e], eT r2 fun s H => by rw [evT, e]⟩
  · cases h
def cGg2 (T : Tb) (k : Ck) (f : Expr → Option E) (o : Expr) (nm : Str) (ap p : Pos) (a b : Expr) : Option E := match cGd T k o with
  | some g => if decide (nm = ("get" : Str)) && (notStar a && (notStar b && (ap.endLine == p.line))) then (match f a, f b with
    | some x, some y => some (.gget2 g x y)
    | _, _ => none) else none
  | none => none
theorem cGg2_ok (Z : Snd T c G r) (S : Sx T c G k X W) {o a b : Expr} {nm : Str} {ap p : Pos} {d : E} (h : cGg2 T k (r.e k) o nm ap p a b = some d) : PE X (.Call (.Attribute o nm ap) [a, b] [] p) (tD G W (evE c d)) := by
  unfold cGg2 at h
  cases q : cGd T k o with
  | none => rw [q] at h; cases h
  | some g =>
    rw [q] at h
    dsimp only at h
    split at h
    · rename_i hc
      simp only [Bool.and_eq_true, decide_eq_true_eq] at hc
      obtain ⟨h1, h2, h3, h5⟩ := hc
      cases q2 : r.e k a with
      | none => rw [q2] at h; cases h
      | some x =>
        cases q3 : r.e k b with
        | none => rw [q2, q3] at h; cases h
        | some y =>
          rw [q2, q3] at h
          cases h
          obtain ⟨_, hb, p', ks, vs, e, h4, hx⟩ := cGd_ok S q
          exact eE (d_gget2 h4 h1 hb h2 h3 h5 hx (Z.e S q2) (Z.e S q3)) fun s H => by rw [evE, e]
    · cases h
/-- a display of a dict -/
def cLit (f : Expr → Option E) : List (Option Expr) → List Expr → Option Es
  | [], [] => some .nil
  | some k :: ks, v :: vs => match f k, f v, cLit f ks vs with
    | some a, some b, some r => some (.cons a (.cons b r))
    | _, _, _ => none
  | _, _ => none
theorem cLit_ok (Z : Snd T c G r) (S : Sx T c G k X W) : ∀ {ks : List (Option Expr)} {vs : List Expr} {ds : Es}, cLit (r.e k) ks vs = some ds → PPs X pos ks vs (trE c G W ds) ∧ evenE ds = true ∧ ks.all (·.isSome) = true ∧ ks.length = vs.length
  | [], [], _, h => by
    unfold cLit at h
    cases h
    exact ⟨pps_nil, rfl, rfl, rfl⟩
  | some a :: ks, v :: vs, _, h => by
    unfold cLit at h
    cases h1 : r.e k a with
    | none => rw [h1] at h; cases h
    | some x =>
      cases h2 : r.e k v with
      | none => rw [h1, h2] at h; cases h
      | some y =>
        cases h3 : cLit (r.e k) ks vs with
        | none => rw [h1, h2, h3] at h; cases h
        | some z =>
          rw [h1, h2, h3] at h
          cases h
          obtain ⟨q1, q0, q2, q3⟩ := cLit_ok Z S h3
          exact ⟨pps_cons (Z.e S h1) (Z.e S h2) q1, q0, by rw [List.all_cons, q2]; rfl, congrArg (· + 1) q3⟩
  | none :: _, _, _, h => by unfold cLit at h; cases h
  | some _ :: _, [], _, h => by unfold cLit at h; cases h
  | [], _ :: _, _, h => by unfold cLit at h; cases h
/-- list(range(..)) -/
def cLrg (T : Tb) (k : Ck) (f : Expr → Option E) (x : Str) (es : List Expr) (kws : List Keyword) : Option E := match es, kws with
  | [.Call (.Name y _) es2 [] _], [] => if decide (x = ("list" : Str)) && (decide (y = ("range" : Str)) && (glB k x && (glB k y && (decide (x ∈ T.blts) && (decide (y ∈ T.blts) && k.calm))))) then match es2 with
    | [a] => if notStar a then (f a).map .lrg1 else none
    | [a, b] => if notStar a && notStar b then (match f a, f b with
      | some u, some v => some (.lrg2 u v)
      | _, _ => none) else none
    | _ => none else none
  | _, _ => none
theorem cLrg_ok (Z : Snd T c G r) (S : Sx T c G k X W) {x : Str} {p : Pos} {es : List Expr} {kws : List Keyword} {d : E} (h : cLrg T k (r.e k) x es kws = some d) : PE X (.Call (.Name x p) es kws pos) (tD G W (evE c d)) := by
  unfold cLrg at h
  split at h
  · split at h
    · rename_i y p2 es2 pos2 hc
      simp only [Bool.and_eq_true, decide_eq_true_eq] at hc
      obtain ⟨rfl, rfl, h1, h2, h3, h4, h5⟩ := hc
      split at h
      · rename_i a
        split at h
        · rename_i hs
          cases q : r.e k a with
          | none => rw [q] at h; cases h
          | some u =>
            rw [q] at h
            cases h
            exact eE (d_lrg1 (S.calm h5) (S.gl h1) (S.blt _ h3) (S.gl h2) (S.blt _ h4) hs (Z.e S q)) fun s H => by rw [evE]
        · cases h
      · rename_i a b
        split at h
        · rename_i hs
          rw [Bool.and_eq_true] at hs
          cases q : r.e k a with
          | none => rw [q] at h; cases h
          | some u =>
            cases q2 : r.e k b with
            | none => rw [q, q2] at h; cases h
            | some v =>
              rw [q, q2] at h
              cases h
              exact eE (d_lrg2 (S.calm h5) (S.gl h1) (S.blt _ h3) (S.gl h2) (S.blt _ h4) hs.1 hs.2 (Z.e S q) (Z.e S q2)) fun s H => by rw [evE]
        · cases h
      · cases h
    · cases h
  · cases h
def mkOf (x : Str) : List (Str × List (Nat × List Nat)) → Option (List (Nat × List Nat))
  | [] => none
  | (y, ch) :: r => if x = y then some ch else mkOf x r
theorem mkOf_ok {x : Str} : ∀ {l : List (Str × List (Nat × List Nat))} {ch : List (Nat × List Nat)}, mkOf x l = some ch → (x, ch) ∈ l
  | [], _, h => by cases h
  | (y, ch') :: r, ch, h => by
    unfold mkOf at h
    split at h
    · rename_i e
      subst e
      cases h
      exact List.mem_cons_self
    · exact List.mem_cons_of_mem _ (mkOf_ok h)
/-- "text" + f(a), f a def that puts signs otherwise -/
def cMrk (T : Tb) (k : Ck) (f : Expr → Option E) (a : Expr) (o : Operator) (b : Expr) : Option E := match a, o, b with
  | .Constant (.str c) _ _, .Add, .Call (.Name x _) [e] [] _ => if glB k x && (k.calm && notStar e) then (match mkOf x T.mks, f e with
    | some ch, some y => some (.mrk c.cps.toList ch y)
    | _, _ => none) else none
  | _, _, _ => none
theorem cMrk_ok (Z : Snd T c G r) (S : Sx T c G k X W) {a b : Expr} {o : Operator} {d : E} (h : cMrk T k (r.e k) a o b = some d) : PE X (.BinOp a o b pos) (tD G W (evE c d)) := by
  unfold cMrk at h
  split at h
  · rename_i cc _ _ x _ e _
    split at h
    · rename_i hc
      rw [Bool.and_eq_true, Bool.and_eq_true] at hc
      cases q : mkOf x T.mks with
      | none => rw [q] at h; cases h
      | some ch =>
        cases q2 : r.e k e with
        | none => rw [q, q2] at h; cases h
        | some y =>
          rw [q, q2] at h
          cases h
          exact eE (d_mrk S.ok (S.mrk hc.2.1 x ch (mkOf_ok q)) (S.gl hc.1) hc.2.2 (Z.e S q2)) fun s H => by rw [evE]
    · cases h
  · cases h
def stepE (T : Tb) (r : Rc) (k : Ck) : Expr → Option E
  | .Constant v _ _ => cConst v
  | .Name x _ => cName T k x
  | .Tuple es _ _ => (cList (r.e k) es).map .tup
  | .List es p => (cList (r.e k) es).map (if decide ((p.line, p.col) ∈ T.live) then .lstR else .lst)
  | .BinOp a o b p => match cMrk T k (r.e k) a o b with
   | some d => some d
   | none => match r.e k a, r.e k b with
    | some x, some y => if decide ((p.line, p.col) ∈ T.live) && (o == .Add) then some (.binR x y) else some (.bin o x y)
    | _, _ => none
  | .UnaryOp .USub a _ => (r.e k a).map .neg
  | .UnaryOp .Not a _ => (r.e k a).map .no
  | .Compare a os es p => match cGin T k (r.e k) a os es with
    | some d => some d
    | none => cCmp (decide ((p.endLine, p.endCol) ∈ T.cpf)) (r.e k) a os es
  | .BoolOp o es _ => cBool o (r.e k) es
  | .IfExp t a b _ => match r.t k t, r.e k a, r.e k b with
    | some x, some y, some z => some (.ite x y z)
    | _, _, _ => none
  | .Subscript a b p => match cGget T k (r.e k) a b with
    | some d => some d
    | none => if decide ((p.endLine, p.endCol) ∈ T.dix) then cSubD (r.e k) a b else cSub (r.e k) a b
  | .Dict [] [] _ => some .dnew
  | .Dict (k0 :: ks) vs _ => if ks.length < 15 then (cLit (r.e k) (k0 :: ks) vs).map .dlit else none
  | .Attribute (.Name n _) f _ => cAttr k n f
  | .Call (.Attribute o nm ap) [a, b] [] p => match cGg2 T k (r.e k) o nm ap p a b with
    | some d => some d
    | none => cMeth2 (r.e k) o nm ap p a b
  | .Call (.Name x _) es kws p => match cLrg T k (r.e k) x es kws with
    | some d => some d
    | none => match cDct T k (r.e k) x es kws with
      | some d => some d
      | none => cCall T k (r.e k) x es kws p
  | .DictComp kx vx gs scope _ => cDC T r k kx vx scope gs
  | .Call (.Attribute o nm ap) [e] [] p => cMeth (r.e k) o nm ap p e
  | .Call (.Attribute o nm ap) [] [] p => cMeth0 (r.e k) o nm ap p
  | .ListComp elt gs scope p => match cLci T r k elt scope gs with
    | some d => some d
    | none => (cComp T r k (decide ((p.line, p.col) ∈ T.live)) elt scope gs).map LcP.E
  | _ => none
def valE : E → Bool
  | .no _ => false | .and _ _ => false | .or _ _ => false | .cmp _ _ _ => false | .cmpF _ _ _ => false | .din _ _ => false | .gin _ _ _ => false | .cmp2 _ _ _ _ _ => false
  | _ => true
theorem valE_ok {d : E} (h : valE d = true) : ∀ s H, evT c d s H = (evE c d s H).bind fun x H1 => Rs.ofO (truD (viewD H1 x)) H1 := by
  intro s H
  cases d <;> first | (rw [evT]; all_goals (intros; contradiction)) | (simp [valE] at h; done)
def stepT (T : Tb) (r : Rc) (k : Ck) (e : Expr) : Option E := match e with
  | .UnaryOp .Not a _ => (r.t k a).map .no
  | .BoolOp o es _ => cBool o (r.t k) es
  | .Compare a os es p => match cGin T k (r.e k) a os es with
    | some d => some d
    | none => cCmp (decide ((p.endLine, p.endCol) ∈ T.cpf)) (r.e k) a os es
  | e => if valTest e then match r.e k e with
    | some d => if valE d then some d else none
    | none => none else none
def rc (T : Tb) : Nat → Rc
  | 0 => ⟨fun _ _ => none, fun _ _ => none⟩
  | n + 1 => ⟨stepE T (rc T n), stepT T (rc T n)⟩
theorem stepE_ok (Z : Snd T c G r) (S : Sx T c G k X W) {e : Expr} {d : E} (h : stepE T r k e = some d) : PE X e (tD G W (evE c d)) := by
  unfold stepE at h
  split at h
  · exact cConst_ok S h
  · exact cName_ok S h
  · cases h1 : cList (r.e k) _ with
    | none => rw [h1] at h; cases h
    | some ds => rw [h1] at h; cases h; exact eE (d_tup (cList_ok Z S h1)) fun s H => by rw [evE]
  · cases h1 : cList (r.e k) _ with
    | none => rw [h1] at h; cases h
    | some ds =>
      rw [h1] at h
      split at h
      · cases h; exact eE (d_lstR (cList_ok Z S h1)) fun s H => by rw [evE]
      · cases h; exact eE (d_lst (cList_ok Z S h1)) fun s H => by rw [evE]
  · rename_i a o b p
    split at h
    · rename_i d' hd'
      cases h
      exact cMrk_ok Z S hd'
    · cases h1 : r.e k a with
      | none => rw [h1] at h; cases h
      | some x =>
        cases h2 : r.e k b with
        | none => rw [h1, h2] at h; cases h
        | some y =>
          rw [h1, h2] at h
          dsimp only at h
          split at h
          · rename_i hc
            rw [Bool.and_eq_true] at hc
            have ho : o = .Add := by have := hc.2; cases o <;> first | rfl | cases this
            subst ho
            cases h; exact eE (d_binR (Z.e S h1) (Z.e S h2)) fun s H => by rw [evE]
          · cases h; exact eE (d_bin S.ok o (Z.e S h1) (Z.e S h2)) fun s H => by rw [evE]
  · rename_i a p
    cases h1 : r.e k a with
    | none => rw [h1] at h; cases h
    | some x => rw [h1] at h; cases h; exact eE (d_neg (Z.e S h1)) fun s H => by rw [evE] <;> rfl
  · rename_i a p
    cases h1 : r.e k a with
    | none => rw [h1] at h; cases h
    | some x => rw [h1] at h; cases h; exact eE (d_no S.ok (Z.e S h1)) fun s H => by rw [evE]
  · split at h
    · rename_i d' hd'
      cases h
      exact (cGin_ok Z S hd').1
    · exact (cCmp_ok Z S h).1
  · exact cBool_e Z S h
  · rename_i t a b p
    cases h1 : r.t k t with
    | none => rw [h1] at h; cases h
    | some x =>
      cases h2 : r.e k a with
      | none => rw [h1, h2] at h; cases h
      | some y =>
        cases h3 : r.e k b with
        | none => rw [h1, h2, h3] at h; cases h
        | some z => rw [h1, h2, h3] at h; cases h; exact eE (d_ite (Z.t S h1) (Z.e S h2) (Z.e S h3)) fun s H => by rw [evE]
  · split at h
    · rename_i d' hd'
      cases h
      exact cGget_ok Z S hd'
    · split at h
      · exact cSubD_ok Z S h
      · exact cSub_ok Z S h
  · cases h; exact eE d_dnew fun s H => by rw [evE]
  · split at h
    · rename_i hl
      cases h1 : cLit (r.e k) _ _ with
      | none => rw [h1] at h; cases h
      | some ds =>
        rw [h1] at h
        cases h
        obtain ⟨q1, q0, q2, q3⟩ := cLit_ok Z S h1
        exact eE (d_disp (d := ds) q1 q0 q2 q3 (by simp) (by rw [List.length_cons]; omega)) fun s H => by rw [evE] <;> rfl
    · cases h
  · exact cAttr_ok S h
  · split at h
    · rename_i d' hd'
      cases h
      exact cGg2_ok Z S hd'
    · exact cMeth2_ok Z S h
  · split at h
    · rename_i d' hd'
      cases h
      exact cLrg_ok Z S hd'
    · split at h
      · rename_i d' hd'
        cases h
        exact cDct_ok Z S hd'
      · exact cCall_ok Z S h
  · exact cDC_ok Z S h
  · exact cMeth_ok Z S h
  · exact cMeth0_ok Z S h
  · split at h
    · rename_i d' hd'
      cases h
      exact cLci_ok Z S hd'
    · cases h1 : cComp T r k _ _ _ _ with
      | none => rw [h1] at h; cases h
      | some L =>
        rw [h1] at h
        cases h
        obtain ⟨tg, iter, ifs, rfl, hl⟩ := cComp_ok Z S h1
        exact lc_pe S hl
  · cases h
theorem stepT_ok (Z : Snd T c G r) (S : Sx T c G k X W) {e : Expr} {d : E} (h : stepT T r k e = some d) : PT X e (tDT G W (evT c d)) := by
  unfold stepT at h
  split at h
  · rename_i a p
    cases h1 : r.t k a with
    | none => rw [h1] at h; cases h
    | some x => rw [h1] at h; cases h; exact eT (t_no (Z.t S h1)) fun s H => by rw [evT]
  · exact (cBool_t Z S h).pt
  · split at h
    · rename_i d' hd'
      cases h
      exact (cGin_ok Z S hd').2
    · exact (cCmp_ok Z S h).2
  · split at h
    · rename_i hv
      cases h1 : r.e k e with
      | none => rw [h1] at h; cases h
      | some x =>
        rw [h1] at h
        dsimp only at h
        split at h
        · rename_i hx
          cases h
          exact eT (t_val S.ok hv (Z.e S h1)) (valE_ok hx)
        · cases h
    · cases h
theorem snd (T : Tb) (c : Cfg) (G : Gr) : ∀ n, Snd T c G (rc T n)
  | 0 => ⟨fun _ h => (by cases h), fun _ h => (by cases h)⟩
  | n + 1 => ⟨fun S h => stepE_ok (snd T c G n) S h, fun S h => stepT_ok (snd T c G n) S h⟩
end
end DI
namespace DI
open PySem PySem.Spec PyProof.Rows L2
section
variable {T : Tb} {c : Cfg} {G : Gr} {k : Ck} {X : Cx} {W : WX} {pos p : Pos} {r : Rc}
theorem eS {st : Stmt} {f g : Sd → HH → RS} (h : PS X st (tDS G W g)) (q : ∀ s H, f s H = g s H) : PS X st (tDS G W f) := by
  have : f = g := by funext s H; exact q s H
  subst this; exact h
theorem eSs {st : List Stmt} {f g : Sd → HH → RS} (h : PSs X st (tDS G W g)) (q : ∀ s H, f s H = g s H) : PSs X st (tDS G W f) := by
  have : f = g := by funext s H; exact q s H
  subst this; exact h
def locN (k : Ck) (x : Str) : Bool := match lkN k x with
  | some .local => true
  | _ => false
theorem locN_ok (S : Sx T c G k X W) {x : Str} (h : locN k x = true) : X.env.scope.names.lookup x = some .local := by
  rw [S.lk]
  unfold locN at h
  split at h <;> first | assumption | cases h
/-- name = [..] on one line -/
def swpLc (k : Ck) (y : Str) (py : Pos) (scope : Scope) (lp : Pos) : Bool := (py.line == lp.line) && locN k y && !(scope.names.any fun (n, k) => n == y && (k == .local || k == .cell))
theorem swpLc_ok (S : Sx T c G k X W) {y : Str} {py lp : Pos} {scope : Scope} {elt : Expr} {gs : List Comprehension} {l : Nat} (h : swpLc k y py scope lp = true) : swapsWith (.ListComp elt gs scope lp) (some (.Name y py)) l X.env = pure true := by
  unfold swpLc at h
  rw [Bool.and_eq_true, Bool.and_eq_true, Bool.not_eq_true'] at h
  exact sw_true (by rw [S.hs]; exact S.kd) (locN_ok S h.1.2) h.1.1 h.2
theorem swNo {y : Str} {py lp : Pos} {scope : Scope} {elt : Expr} {gs : List Comprehension} {l : Nat} {env : Env} (h : (py.line == lp.line) = false) : swapsWith (.ListComp elt gs scope lp) (some (.Name y py)) l env = pure false := by
  unfold swapsWith
  simp only [Expr.pos, h]
  simp
theorem swNo2 (S : Sx T c G k X W) {y : Str} {py lp : Pos} {scope : Scope} {elt : Expr} {gs : List Comprehension} {l : Nat} (h : py.line = lp.line → locN k y = false) : swapsWith (.ListComp elt gs scope lp) (some (.Name y py)) l X.env = pure false := by
  by_cases e : py.line = lp.line
  · have h1 : (X.env.kindOf y == some .local) = false := by
      refine Bool.eq_false_iff.mpr fun z => ?_
      have z := eq_of_beq z
      have z2 : lkN k y = some .local := (S.lk y).symm.trans z
      have h := h e
      unfold locN at h
      rw [z2] at h
      cases h
    unfold swapsWith
    simp only [h1]
    simp
  · exact swNo (by simpa using e)
theorem swNo2D (S : Sx T c G k X W) {y : Str} {py lp : Pos} {scope : Scope} {kx vx : Expr} {gs : List Comprehension} {l : Nat} (h : locN k y = false) : swapsWith (.DictComp kx vx gs scope lp) (some (.Name y py)) l X.env = pure false := by
  have h1 : (X.env.kindOf y == some .local) = false := by
    refine Bool.eq_false_iff.mpr fun z => ?_
    have z := eq_of_beq z
    have z2 : lkN k y = some .local := (S.lk y).symm.trans z
    unfold locN at h
    rw [z2] at h
    cases h
  unfold swapsWith
  simp only [h1]
  simp
/-- a, b = x, y -/
def swpB (k : Ck) (x y : Str) (px py : Pos) (a b : Expr) : Bool := notStar a && notStar b && locN k x && locN k y && (py.line == px.line) && !(x == y) && !([a, b].all (foldedForSure 8)) && !([a, b].all (constantsAlone 8))
theorem star_no : ∀ (e : Expr), (match e with | .Starred .. => true | _ => false) = true → notStar e = false := by
  intro e h
  cases e <;> first | rfl | cases h
theorem swpB_ok (S : Sx T c G k X W) {x y : Str} {px py pt pt2 : Pos} {kt k2 : Nat} {a b : Expr} (h : swpB k x y px py a b = true) : swappedStores [.Tuple [.Name x px, .Name y py] kt pt] (.Tuple [a, b] k2 pt2) X.env = pure (some [x, y]) := by
  unfold swpB at h
  simp only [Bool.and_eq_true, Bool.not_eq_true'] at h
  obtain ⟨⟨⟨⟨⟨⟨⟨h1, h2⟩, h3⟩, h4⟩, h5⟩, h6⟩, h7⟩, h8⟩ := h
  have k1 : X.env.kindOf x = some .local := locN_ok S h3
  have k2 : X.env.kindOf y = some .local := locN_ok S h4
  have hb : X.env.blockKind = .function := by unfold Env.blockKind; rw [S.hs, S.kd]; rfl
  have e6 : (y == x) = false := by
    rw [beq_eq_false_iff_ne] at h6 ⊢
    exact fun e => h6 e.symm
  unfold swappedStores
  simp only [hb, k1, k2, List.any_cons, List.any_nil, List.filterMap_cons, List.filterMap_nil, List.head?_cons, Option.map_some, Option.getD_some, Expr.pos, h5, h7, h8, List.length_cons, List.length_nil]
  simp [List.eraseDups_cons, e6, h6]
  intro hh
  rcases hh with hh | hh
  · rw [star_no a hh] at h1; cases h1
  · rw [star_no b hh] at h2; cases h2
structure Rs' where
  s : Ck → Stmt → Option S
def cStmts (f : Stmt → Option S) : List Stmt → Option Ss
  | [] => some .nil
  | st :: l => match f st, cStmts f l with
    | some a, some b => some (.cons a b)
    | _, _ => none
def cAsg (T : Tb) (r : Rc) (k : Ck) (tg e : Expr) : Option S := match tg with
  | .Subscript o i sp => if plainIx i && notComp e then match r.e k o, r.e k i, r.e k e with
    | some x, some y, some z => if decide ((sp.endLine, sp.endCol) ∈ T.dix) then some (.dput x y z) else some (.sub x y z)
    | _, _, _ => none else none
  | .Name y py => match e with
    | .ListComp elt gs scope lp => if swpLc k y py scope lp then match ixN' k.N y, cLci T r k elt scope gs with
        | some i, some d => some (.asg (.nm i) d)
        | _, _ => match ixN' k.N y, cComp T r k (decide ((lp.line, lp.col) ∈ T.live)) elt scope gs with
          | some i, some L => some (.asg (.nm i) L.E)
          | _, _ => none
      else if py.line == lp.line && locN k y then none else match cPat 4 k (.Name y py), r.e k e with
        | some t, some d => some (.asg t d)
        | _, _ => none
    | .DictComp kx vx gs scope lp => if locN k y then none else match cPat 4 k (.Name y py), r.e k (.DictComp kx vx gs scope lp) with
        | some t, some d => some (.asg t d)
        | _, _ => none
    | e => if notComp e then match cPat 4 k (.Name y py), r.e k e with
        | some t, some d => some (.asg t d)
        | _, _ => none else none
  | .Tuple ts kt pt => match ts, e with
    | [.Name x px, .Name y py], .Tuple [a, b] _ _ => if swpB k x y px py a b && k.calm then match ixN' k.N x, ixN' k.N y, r.e k a, r.e k b with
        | some i, some j, some u, some v => if i = j then none else some (.par i j u v)
        | _, _, _, _ => none else none
    | ts, e => if notTup1 e && notComp e then (if decide ((pt.line, pt.col) ∈ T.live) then match cPat 4 k (.Tuple ts kt pt), r.e k e with
        | some t, some d => some (.upk t d)
        | _, _ => none else match cPat 4 k (.Tuple ts kt pt), r.e k e with
        | some t, some d => some (.asg t d)
        | _, _ => none) else none
  | _ => none
theorem plain_asg (Z : Snd T c G r) (S : Sx T c G k X W) (hxc : G.exc = none) {tg e : Expr} {s : DI.S} (hsw : swapsWith e (some tg) pos.line X.env = pure false) (hst : swappedStores [tg] e X.env = pure none) (hq : notStar tg = true)
    (h : (match cPat 4 k tg, r.e k e with | some t, some d => some (.asg t d) | _, _ => none) = some s) : PS X (.Assign [tg] e pos) (tDS G W (evS c s)) := by
  cases h1 : cPat 4 k tg with
  | none => rw [h1] at h; cases h
  | some t =>
    cases h2 : r.e k e with
    | none => rw [h1, h2] at h; cases h
    | some d =>
      rw [h1, h2] at h
      cases h
      exact eS (s_asg S.ok hxc hsw hst hq (Z.e S h2) (cPat_ok S h1)) fun s H => by rw [evS] <;> rfl
theorem plain_upk (Z : Snd T c G r) (S : Sx T c G k X W) (hxc : G.exc = none) {tg e : Expr} {s : DI.S} (hsw : swapsWith e (some tg) pos.line X.env = pure false) (hst : swappedStores [tg] e X.env = pure none) (hq : notStar tg = true)
    (h : (match cPat 4 k tg, r.e k e with | some t, some d => some (.upk t d) | _, _ => none) = some s) : PS X (.Assign [tg] e pos) (tDS G W (evS c s)) := by
  cases h1 : cPat 4 k tg with
  | none => rw [h1] at h; cases h
  | some t =>
    cases h2 : r.e k e with
    | none => rw [h1, h2] at h; cases h
    | some d =>
      rw [h1, h2] at h
      cases h
      exact eS (s_upk S.ok hxc hsw hst hq (Z.e S h2) (cPat_ok S h1)) fun s H => by rw [evS] <;> rfl
/-- name = e within an except suite -/
def cAsgX (r : Rc) (k : Ck) (tg e : Expr) : Option S := match tg, k.exc with
  | .Name y _, some (n, _, _, _) => if notComp e && (stB k y && decide (y ≠ n)) then match ixN' k.N y, r.e k e with
    | some i, some d => some (.asg (.nm i) d)
    | _, _ => none else none
  | _, _ => none
theorem cAsgX_ok (Z : Snd T c G r) (S : Sx T c G k X W) {tg e : Expr} {s : DI.S} (h : cAsgX r k tg e = some s) : PS X (.Assign [tg] e pos) (tDS G W (evS c s)) := by
  unfold cAsgX at h
  split at h
  · rename_i y py n kx f fd hk
    split at h
    · rename_i hc
      rw [Bool.and_eq_true, Bool.and_eq_true] at hc
      cases h1 : ixN' k.N y with
      | none => rw [h1] at h; cases h
      | some i =>
        cases h2 : r.e k e with
        | none => rw [h1, h2] at h; cases h
        | some d =>
          rw [h1, h2] at h
          cases h
          have hi : X.N[i]? = some y := by rw [S.hN]; exact ixN'_ok h1
          refine eS (s_asgN S.ok (fun j a da f' d' he => ?_) hi (S.st hc.2.1).1 (S.st hc.2.1).2 hc.1 (Z.e S h2)) fun s H => by rw [evS] <;> rfl
          obtain ⟨i2, a2, dd2, f2, d2, q1, q2⟩ := S.xs _ _ _ _ hk
          rw [q1] at he
          cases he
          rintro rfl
          rw [hi] at q2
          cases q2
          exact of_decide_eq_true hc.2.2 rfl
    · cases h
  · cases h
theorem cAsg_ok (Z : Snd T c G r) (S : Sx T c G k X W) (hcm : k.calm = true) {tg e : Expr} {s : DI.S} (h : cAsg T r k tg e = some s) : PS X (.Assign [tg] e pos) (tDS G W (evS c s)) := by
  unfold cAsg at h
  split at h
  · rename_i o i p
    split at h
    · rename_i hc
      rw [Bool.and_eq_true] at hc
      cases h1 : r.e k o with
      | none => rw [h1] at h; cases h
      | some x =>
        cases h2 : r.e k i with
        | none => rw [h1, h2] at h; cases h
        | some y =>
          cases h3 : r.e k e with
          | none => rw [h1, h2, h3] at h; cases h
          | some z =>
            rw [h1, h2, h3] at h
            dsimp only at h
            split at h
            · cases h
              exact eS (s_dput S.ok hc.2 (Z.e S h3) (Z.e S h1) (Z.e S h2)) fun s H => by rw [evS]
            cases h
            exact eS (s_sub S.ok hc.1 hc.2 (Z.e S h3) (Z.e S h1) (Z.e S h2)) fun s H => by rw [evS]
    · cases h
  · rename_i y py
    split at h
    · rename_i elt gs scope lp
      split at h
      · rename_i hsw
        cases h1 : ixN' k.N y with
        | none => rw [h1] at h; cases h
        | some i =>
          have hy : locN k y = true := by
            unfold swpLc at hsw
            rw [Bool.and_eq_true, Bool.and_eq_true] at hsw
            exact hsw.1.2
          cases h0 : cLci T r k elt scope gs with
          | some d =>
            rw [h1, h0] at h
            cases h
            obtain ⟨elts, kk, tpos, x, p, apos, cpos, ifs, i2, L, rfl, rfl, q⟩ := cLci_inv Z S h0
            refine eS (s_setLci S.ok q.gx q.calm (S.ix h1) (locN_ok S hy) (swpLc_ok S hsw) q.ix q.vis q.d1 q.d2 q.hl q.bk q.sl q.hg q.ht q.he) fun s H => ?_
            rw [evS, evE, q.own] <;> rfl
          | none =>
            cases h2 : cComp T r k (decide ((lp.line, lp.col) ∈ T.live)) elt scope gs with
            | none => rw [h1, h0, h2] at h; cases h
            | some L =>
              rw [h1, h0, h2] at h
              cases h
              obtain ⟨tg, iter, ifs, rfl, hl⟩ := cComp_ok Z S h2
              refine eS (s_setLc (lv := L.lv) S.ok hl.gx hl.calm (S.ix h1) (locN_ok S hy) (swpLc_ok S hsw) hl.fold hl.hi hl.bk hl.sl hl.hg hl.ht hl.he) fun s H => ?_
              rw [evS, lcE, hl.own] <;> rfl
      · split at h
        · cases h
        · rename_i hl
          exact plain_asg Z S (S.gx hcm) (swNo2 S (by simpa using hl)) (by rfl) rfl h
    · split at h
      · cases h
      · rename_i hl
        exact plain_asg Z S (S.gx hcm) (swNo2D S (by simpa using hl)) (by rfl) rfl h
    · split at h
      · rename_i hc
        exact plain_asg Z S (S.gx hcm) (sw_none hc) (by rfl) rfl h
      · cases h
  · rename_i ts kt pt
    split at h
    · rename_i x px y py a b k2 pt2
      split at h
      · rename_i hsw
        rw [Bool.and_eq_true] at hsw
        obtain ⟨hsw, hsw2⟩ := hsw
        have hsw' := hsw
        unfold swpB at hsw'
        simp only [Bool.and_eq_true, Bool.not_eq_true'] at hsw'
        cases h1 : ixN' k.N x with
        | none => rw [h1] at h; cases h
        | some i =>
          cases h2 : ixN' k.N y with
          | none => rw [h1, h2] at h; cases h
          | some j =>
            cases h3 : r.e k a with
            | none => rw [h1, h2, h3] at h; cases h
            | some u =>
              cases h4 : r.e k b with
              | none => rw [h1, h2, h3, h4] at h; cases h
              | some v =>
                rw [h1, h2, h3, h4] at h
                dsimp only at h
                split at h
                · cases h
                · rename_i hij
                  cases h
                  exact eS (s_par S.ok (S.gx hsw2) (S.calm hsw2) (S.ix h1) (S.ix h2) hij (locN_ok S hsw'.1.1.1.1.1.2) (locN_ok S hsw'.1.1.1.1.2) (swpB_ok S hsw) hsw'.1.1.1.1.1.1.1 hsw'.1.1.1.1.1.1.2 (Z.e S h3) (Z.e S h4)) fun s H => by rw [evS]
      · cases h
    · split at h
      · rename_i hc
        rw [Bool.and_eq_true] at hc
        split at h
        · exact plain_upk Z S (S.gx hcm) (sw_none hc.2) (sst_none (.inr hc.1)) rfl h
        · exact plain_asg Z S (S.gx hcm) (sw_none hc.2) (sst_none (.inr hc.1)) rfl h
      · cases h
  · cases h
def isDoc : Expr → Bool
  | .Constant (.str _) _ _ => true
  | _ => false
def exsOf (x : Str) : List (Str × Nat × Str) → Option (Nat × Str)
  | [] => none
  | (y, n, f) :: r => if x = y then some (n, f) else exsOf x r
theorem exsOf_ok {x : Str} : ∀ {l : List (Str × Nat × Str)} {n : Nat} {f : Str}, exsOf x l = some (n, f) → (x, n, f) ∈ l
  | [], _, _, h => by cases h
  | (y, n', f') :: r, n, f, h => by
    unfold exsOf at h
    split at h
    · rename_i e
      subst e
      cases h
      exact List.mem_cons_self
    · exact List.mem_cons_of_mem _ (exsOf_ok h)
/-- raise C(e) -/
def cRaise (T : Tb) (r : Rc) (k : Ck) : Option Expr → Option Expr → Option S
  | some (.Call (.Name x _) [e] [] _), none => if k.calm && glB k x && notStar e then match exsOf x T.exs, r.e k e with
      | some (n, _), some d => some (.rz n d)
      | _, _ => some .never
    else some .never
  | _, _ => some .never
theorem cRaise_ok (Z : Snd T c G r) (S : Sx T c G k X W) {a b : Option Expr} {s : DI.S} (h : cRaise T r k a b = some s) : PS X (.Raise a b pos) (tDS G W (evS c s)) := by
  have nv : some DI.S.never = some s → PS X (.Raise a b pos) (tDS G W (evS c s)) := fun h => by cases h; exact eS s_never fun s H => by rw [evS]
  unfold cRaise at h
  split at h
  · rename_i x p e p2
    split at h
    · rename_i hc
      simp only [Bool.and_eq_true] at hc
      split at h
      · rename_i n f d h1 h2
        cases h
        exact eS (s_raise S.ok (S.calm hc.1.1) (S.exk hc.1.1 _ _ _ (exsOf_ok h1)) (S.gl hc.1.2) hc.2 (Z.e S h2)) fun s H => by rw [evS]
      · exact nv h
    · exact nv h
  · exact nv h
def Ck.hot (k : Ck) (n : Str) (kx : Nat) (f : Str) (d : D) : Ck := { k with calm := false, exc := some (n, kx, f, d) }
def cS (T : Tb) (r : Rc) : Nat → Ck → Stmt → Option S
  | 0, _, _ => none
  | n + 1, k, st => match st with
    | .Assign [tg] e _ => if k.calm then cAsg T r k tg e else cAsgX r k tg e
    | .AugAssign (.Name x _) o e _ => if stB k x && k.calm then match ixN' k.N x, r.e k e with
      | some i, some d => some (.aug i o d)
      | _, _ => none else none
    | .Expr e _ => if isDoc e then some .pas else if notComp e then (r.e k e).map .ex else none
    | .Return (some e) _ => (r.e k e).map .ret
    | .Return none _ => some .retN
    | .If t a b _ => match r.t k t, cStmts (cS T r n k) a, cStmts (cS T r n k) b with
      | some x, some y, some z => some (.ite x y z)
      | _, _, _ => none
    | .While t b [] _ => match r.t k t, cStmts (cS T r n k) b with
      | some x, some y => some (.whl x y)
      | _, _ => none
    | .For tg it b [] _ => if notSet it && k.calm then match cPat 4 k tg, cIt T k (r.e k) tg it, cStmts (cS T r n k) b with
      | some x, some y, some z => some (.forr x y z)
      | _, _, _ => none else none
    | .Break _ => some .brk
    | .Continue _ => some .cnt
    | .Pass _ => some .pas
    | .Raise a b _ => cRaise T r k a b
    | .Try body [.ExceptHandler (some (.Name x _)) (some y) (b0 :: suite) _] [] [] _ =>
      if k.top && k.calm && locN k y && glB k x && !dbg y then match exsOf x T.exs, ixN' k.N y, cStmts (cS T r n k) body with
        | some (kx, f), some i, some b => some (.tryy b kx i fun d => (cStmts (cS T r n (k.hot y kx f d)) (b0 :: suite)).getD (.cons .never .nil))
        | _, _, _ => none
      else none
    | _ => none
theorem cStmts_ok {f : Stmt → Option S} (hf : ∀ {st s}, f st = some s → PS X st (tDS G W (evS c s))) : ∀ {l : List Stmt} {ss : Ss}, cStmts f l = some ss → PSs X l (tDS G W (evSs c ss))
  | [], _, h => by cases h; exact eSs s_nil fun s H => by rw [evSs]
  | st :: l, _, h => by
    unfold cStmts at h
    cases h1 : f st with
    | none => rw [h1] at h; cases h
    | some a =>
      cases h2 : cStmts f l with
      | none => rw [h1, h2] at h; cases h
      | some b =>
        rw [h1, h2] at h
        cases h
        exact eSs (s_cons (hf h1) (cStmts_ok hf h2)) fun s H => by rw [evSs] <;> rfl
/-- a try's body -/
theorem Sx.tr (S : Sx T c G k X W) (hcm : k.calm = true) {pn : List (Addr × Obj)} {xe : Value → Shared → Prop} {W' : WX} (tk : Takes (X.tr pn xe) W') (hp : PassesOwn (model X.prog X.w) X.A X.env xe) : Sx T c G k (X.tr pn xe) W' where
  ok := ⟨S.ok.K, S.ok.gd, S.ok.un, S.ok.nd, tk, hp⟩
  hN := S.hN
  hs := S.hs
  kd := S.kd
  fn := S.fn
  blt := S.blt
  con := S.con
  calm := S.calm
  gx := S.gx
  def_ := fun hcm f x h => let ⟨l, a, fd, ps, dV, dvs, hr, C, hb⟩ := S.def_ hcm f x h; ⟨l, a, fd, ps, dV, dvs, hr, ⟨C.fn, C.mg, C.kp, C.nd, C.dv, C.dr⟩, hb⟩
  fr := S.fr
  exk := fun hcm x n f m => let E := S.exk hcm x n f m; ⟨E.mg, E.nd, E.xf, E.F, E.ini⟩
  iso := fun n y b m => S.iso n y b m
  gd := fun x g h => S.gd x g h
  mrk := fun hcm x ch h => ⟨(S.mrk hcm x ch h).nd, let ⟨l, f, h1, h2, h3, h4⟩ := (S.mrk hcm x ch h).ex; ⟨l, f, h1, h2, h3, h4⟩⟩
  xn := S.xn
  xc := fun n kx f d h => by rw [S.xn hcm] at h; cases h
  xs := fun n kx f d h => by rw [S.xn hcm] at h; cases h
/-- an except suite -/
theorem Sx.hot (S : Sx T c G k X W) {y f : Str} {kx i : Nat} {a dd : Addr} {oe : Obj} {pn : List (Addr × Obj)} {fd : D} {B : Addr} (F : ExF X.K (G.ca kx) B f) (hz : Zc (.ref (G.ca kx)) (some dd) oe) (hfl : ∃ vs, oe.data = .fields vs)
    (hi : X.N[i]? = some y) (hv : Vis X.env.scope y) (hd : (y == ("__debug__" : Str)) = false) (hd2 : (y == ("__classdict__" : Str)) = false) :
    Sx T c { G with exc := some (i, a, dd, f, fd) } (k.hot y kx f fd) (X.suite a ((a, oe) :: pn)) W0 where
  ok := ⟨S.ok.K, S.ok.gd, S.ok.un, S.ok.nd, takes0, PassesOwn.never⟩
  hN := S.hN
  hs := S.hs
  kd := S.kd
  fn := S.fn
  blt := S.blt
  con := fun g x h => let ⟨h1, d, v, u, h2, h3, h4, h5⟩ := S.con g x h; ⟨h1, d, v, u, h2, h3, h4, fun w H => RepV.gr (G := G) (G' := { G with exc := some (i, a, dd, f, fd) }) rfl rfl (h5 w H)⟩
  calm := fun h => by cases h
  gx := fun h => by cases h
  def_ := fun h => by cases h
  fr := S.fr
  exk := fun h => by cases h
  iso := fun n y b m => S.iso n y b m
  gd := fun x g h => S.gd x g h
  mrk := fun h => by cases h
  xn := fun h => by cases h
  xs := fun n k' f' d' h => by cases h; exact ⟨_, _, _, _, _, rfl, hi⟩
  xc := fun n k' f' d' h => by
    cases h
    refine ⟨fun p p' => d_xf F rfl hz hfl hi hv hd hd2, fun z b m h1 h2 h3 => ⟨fun p1 p2 p3 p4 => d_xis F rfl hz hfl hi hv hd hd2 (S.gl h1) (S.blt _ h2) (S.gl h3) (S.iso _ _ _ m), fun z2 b2 m2 h4 p1 p2 p3 p4 p5 kt p6 => d_xis2 F rfl hz hfl hi hv hd hd2 (S.gl h1) (S.blt _ h2) (S.gl h3) (S.iso _ _ _ m) (S.gl h4) (S.iso _ _ _ m2)⟩⟩
theorem cS_ok (Z : ∀ G, Snd T c G r) : ∀ {n : Nat} {k : Ck} {X : Cx} {G : Gr} {W : WX} {st : Stmt} {s : DI.S}, Sx T c G k X W → cS T r n k st = some s → PS X st (tDS G W (evS c s))
  | 0, _, _, _, _, _, _, _, h => by cases h
  | n + 1, k, X, G, W, st, s, S, h => by
    have IH : ∀ {k : Ck} {X : Cx} {G : Gr} {W : WX} {l : List Stmt} {ss : Ss}, Sx T c G k X W → cStmts (cS T r n k) l = some ss → PSs X l (tDS G W (evSs c ss)) := fun S h => cStmts_ok (fun h => cS_ok Z S h) h
    have Z := Z
    unfold cS at h
    split at h
    · split at h
      · rename_i hcm
        exact cAsg_ok (Z G) S hcm h
      · exact cAsgX_ok (Z G) S h
    · rename_i x p o e p2
      split at h
      · rename_i hs
        rw [Bool.and_eq_true] at hs
        obtain ⟨hs, hcm⟩ := hs
        cases h1 : ixN' k.N x with
        | none => rw [h1] at h; cases h
        | some i =>
          cases h2 : r.e k e with
          | none => rw [h1, h2] at h; cases h
          | some d =>
            rw [h1, h2] at h
            cases h
            exact eS (s_aug S.ok (S.gx hcm) (S.ix h1) (S.st hs).1 (S.st hs).2 ((Z G).e S h2)) fun s H => by rw [evS] <;> rfl
      · cases h
    · rename_i e p
      split at h
      · rename_i hd
        cases h
        unfold isDoc at hd
        split at hd
        · exact eS s_doc fun s H => by rw [evS]
        · cases hd
      · split at h
        · rename_i hc
          cases h1 : r.e k e with
          | none => rw [h1] at h; cases h
          | some d => rw [h1] at h; cases h; exact eS (s_ex hc ((Z G).e S h1)) fun s H => by rw [evS]
        · cases h
    · rename_i e p
      cases h1 : r.e k e with
      | none => rw [h1] at h; cases h
      | some d => rw [h1] at h; cases h; exact eS (s_ret ((Z G).e S h1)) fun s H => by rw [evS]
    · cases h; exact eS s_retN fun s H => by rw [evS]
    · rename_i t a b p
      cases h1 : r.t k t with
      | none => rw [h1] at h; cases h
      | some x =>
        cases h2 : cStmts (cS T r n k) a with
        | none => rw [h1, h2] at h; cases h
        | some y =>
          cases h3 : cStmts (cS T r n k) b with
          | none => rw [h1, h2, h3] at h; cases h
          | some z => rw [h1, h2, h3] at h; cases h; exact eS (s_ite ((Z G).t S h1) (IH S h2) (IH S h3)) fun s H => by rw [evS]
    · rename_i t b p
      cases h1 : r.t k t with
      | none => rw [h1] at h; cases h
      | some x =>
        cases h2 : cStmts (cS T r n k) b with
        | none => rw [h1, h2] at h; cases h
        | some y => rw [h1, h2] at h; cases h; exact eS (s_whl S.ok ((Z G).t S h1) (IH S h2)) fun s H => by rw [evS]
    · rename_i tg it b p
      split at h
      · rename_i hf
        rw [Bool.and_eq_true] at hf
        cases h1 : cPat 4 k tg with
        | none => rw [h1] at h; cases h
        | some x =>
          cases h2 : cIt T k (r.e k) tg it with
          | none => rw [h1, h2] at h; cases h
          | some y =>
            cases h3 : cStmts (cS T r n k) b with
            | none => rw [h1, h2, h3] at h; cases h
            | some z => rw [h1, h2, h3] at h; cases h; exact eS (s_for S.ok (S.gx hf.2) (S.calm hf.2) hf.1 (cIt_ok (Z G) S h2) (cPat_ok S h1) (IH S h3)) fun s H => by rw [evS]
      · cases h
    · cases h; exact eS s_brk fun s H => by rw [evS]
    · cases h; exact eS s_cnt fun s H => by rw [evS]
    · cases h; exact eS s_pas fun s H => by rw [evS]
    · exact cRaise_ok (Z G) S h
    · rename_i body x np y b0 suite p1 p2
      split at h
      · rename_i hc
        simp only [Bool.and_eq_true, Bool.not_eq_true'] at hc
        obtain ⟨⟨⟨⟨hct, hcm⟩, hcl⟩, hcg⟩, hcd⟩ := hc
        unfold dbg at hcd
        rw [Bool.or_eq_false_iff] at hcd
        split at h
        · rename_i kx f i b h1 h2 h3
          cases h
          have E := S.exk hcm _ _ _ (exsOf_ok h1)
          obtain ⟨B, F⟩ := E.F
          have hl := locN_ok S hcl
          refine eS (s_try (fb := evSs c b) (fh := fun d => evSs c ((cStmts (cS T r n (k.hot y kx f d)) (b0 :: suite)).getD (.cons .never .nil))) S.ok (S.gx hcm) (S.fr hct).1 (S.fr hct).2 (S.ix h2) hl E (S.gl hcg) (fun W' pn xe tk hp => IH (S.tr hcm tk hp) h3) fun a oe dd pn fd hz hfl => ?_) fun s H => by rw [evS]
          cases h4 : cStmts (cS T r n (k.hot y kx f fd)) (b0 :: suite) with
          | none =>
            refine PSs.mono (t := fun _ _ _ => False) ⟨fun pins s σ H Q I z => z.elim⟩ fun D s H z => ?_
            obtain ⟨w, Hd, sd, rel, rs, q⟩ := z
            simp only [Option.getD_none, evSs, evS] at q
            exact q
          | some ss =>
            have hv : Vis X.env.scope y := by unfold Vis; rw [hl]; exact .inl rfl
            have q := IH (S.hot (a := a) (pn := pn) (fd := fd) F hz hfl (S.ix h2) hv hcd.1 hcd.2) h4
            exact q
        · cases h
      · cases h
    · cases h
/-- a def's body -/
def cBody (T : Tb) (n : Nat) (k : Ck) (b : List Stmt) : Option Ss := cStmts (cS T (rc T n) n k) b
theorem cBody_ok (S : Sx T c G k X W) {n : Nat} {b : List Stmt} {ss : Ss} (h : cBody T n k b = some ss) : PSs X b (tDS G W (evSs c ss)) := cStmts_ok (fun h => cS_ok (fun G => snd T c G n) S h) h
end
end DI
namespace DI
open PySem PySem.Spec PyProof.Rows L2
theorem startS {G : Gr} {v : Vw} {H : Hp} {ds : List D} {vs : List V} {N : List Str} {f : Fd} (hn : f.names.length = N.length) (hx : G.exc = none) (r : RepVs G v H ds vs) : RepS G v H (startD f ds) (L2.start N vs) := by
  unfold startD L2.start
  have hl := r.length
  refine ⟨by simp only [List.length_append, List.length_map, List.length_replicate, hn, hl], fun i d h => ?_, .no hx⟩
  by_cases hi : i < ds.length
  · rw [List.getElem?_append_left (by simpa using hi), List.getElem?_map] at h
    cases e : ds[i]? with
    | none => rw [e] at h; cases h
    | some d' =>
      rw [e] at h
      cases h
      obtain ⟨u, h1, h2⟩ := r.get e
      exact ⟨u, by rw [List.getElem?_append_left (by simpa [← hl] using hi), List.getElem?_map, h1] <;> rfl, h2⟩
  · rw [List.getElem?_append_right (by simpa using hi), List.getElem?_replicate] at h
    split at h <;> cases h
/-- the static facts of a module, by its global names -/
structure Md (T : Tb) (consts : List D) (dfl : Nat → List D) (G : Gr) (K : PySem.W.Frag) (mg : Str → Option Value) (w : World) : Prop where
  K : G.K = K
  blt : ∀ x ∈ T.blts, mg x = none
  exc : G.exc = none
  exk : ∀ (x : Str) (n : Nat) (f : Str), (x, n, f) ∈ T.exs → mg x = some (.ref (G.ca n)) ∧ (x == ("__debug__" : Str)) = false ∧ G.xf n = f ∧ ∃ B, ExF G.K (G.ca n) B f
  iso : ∀ (n : Nat) (y : Str) (b : Bool), (n, y, b) ∈ T.xis → IsK G.K mg (G.ca n) y b
  con : ∀ (g : Nat) (x : Str), T.cons[g]? = some x → (x == ("__debug__" : Str)) = false ∧ ∃ d v u, consts[g]? = some d ∧ mg x = some u ∧ RelV v u ∧ ∀ w H, RepV G w H d v
  gd : ∀ (x : Str) (g : Nat), (x, g) ∈ T.gds → (x == ("__debug__" : Str)) = false ∧ ∃ p ks vs, consts[g]? = some (.dv ks vs) ∧ mg x = some (.ref p) ∧ KDv G.K w p ks vs
/-- a def of the module as a callee, at all levels -/
structure De (T : Tb) (K : PySem.W.Frag) (mg : Str → Option Value) (G : Gr) (i : Nat) (x : Str) (dfl : List D) (a : Addr) (fd : FuncData) (ps : List Str) : Prop where
  mg : mg x = some (.ref a)
  kp : PySem.W.keepIn K (.ref a) = true
  nd : (x == ("__debug__" : Str)) = false
  dv : ∃ (dV : List V) (dvs : List Value), Vals dV dvs ∧ (∀ w H, RepVs G w H dfl dV) ∧ ∀ n ks pm, (i, n, ks, pm) ∈ T.forms → KBd K fd ps n ks pm dvs
section
variable {P : Program} {w : World} {K : PySem.W.Frag} {mg : Str → Option Value} {base : Heap} {G : Gr} {T : Tb} {x qual : Str} {params : Arguments} {body : List Stmt} {scope : Scope} {dvs : List V} {kws : List (Str × V)} {f : Addr} {fd : FuncData} {N ps : List Str} {k n : Nat} {ss : Ss} {cfg : Cfg} {fD : Fd}
theorem fn_g (F : FunD K x qual params body scope dvs kws f fd) (S : FnScope N ps scope) (hc : cBody T n (mkCk N scope) body = some ss) (hb : fD.body = ss) (hn : fD.names.length = N.length) (hp : fD.params.length = ps.length)
    (M : Md T cfg.consts cfg.dfl G K mg w)
    (HX : ∀ (y : Str) (m : Nat) (g : Str), (y, m, g) ∈ T.exs → ∃ l fd ps, FnOk P w K mg base (L2.CX P w) l (He.ma K (G.ca m) "__init__") fd ps (spI (G.ca m) g) ∧ l + 1 ≤ k ∧ Binds K fd ps [])
    (HM : ∀ (x : Str) (ch : List (Nat × List Nat)), (x, ch) ∈ T.mks → (x == ("__debug__" : Str)) = false ∧ ∃ l f, l ≤ k ∧ mg x = some (.ref f) ∧ PySem.W.keepIn K (.ref f) = true ∧ MrkRun P w K mg base l f ch)
    (HD : ∀ (i : Nat) (y : Str), T.fns[i]? = some y → ∃ a fd ps, De T K mg G i y (cfg.dfl i) a fd ps ∧ FnG P w K mg base G k a fd ps (cfg.call i)) :
    FnG P w K mg base G (k + 1) f fd ps (runB fD cfg) := by
  obtain ⟨oc, od, dV, kV, doc, pm, an, cdv, ct, osl, rfl, lk, hcd, _, _⟩ := F.ex
  intro A outer s H args us vs ds v Hd Q E hr hg e0 hbt rv hl rel rd hq
  have lv : vs.length = ps.length := rv.length.trans hl
  have KX : K.In s.heap := e0.mod.kin.keeps fun b o e => (e0.bs b o e).1
  have kinds : ∀ y ∈ ps.zip us, scope.names.lookup y.1 = some .local ∨ (scope.names.lookup y.1 = some .cell ∧ ((cellsFrom (s.heap.objs.size + 1) scope.names []).lookup y.1).isSome = true) := by
    rintro ⟨n, u⟩ hy
    rcases S.par n (List.of_mem_zip hy).1 with q | q
    · exact .inl q
    · exact .inr ⟨q, PySem.W.cellsFrom_some _ _ _ (.inl q)⟩
  refine codeAny_call_function hr.depth (KX _ _ lk) rfl S.co S.gen rfl (PySem.W.codeRec_of KX hcd) (hbt _ _ _ _ ?_)
  refine wpAny_newFunctionEnv_cells S.kind kinds fun env he s1 hx => ?_
  cases he
  refine ⟨Heap.NoLimit.keeps (e0.mod.nolimit.keeps fun b o e => (e0.bs b o e).1) hx.toInCall.keep, codeAny_func ?_⟩
  have I : L2.Inv (cxOf (CX P w) P w K mg base N qual scope f cdv A outer s H E) [] (L2.start N vs) H s1 := inv_start S hr.hd e0 lv rv hx
  have hr' : Room k (A.deeper (envOfC qual scope s.heap.objs.size f cdv)) := hr.deeper _
  have SX : Sx T cfg G (mkCk N scope) (cxOf (CX P w) P w K mg base N qual scope f cdv A outer s H E) (fun c d _ H => E c d H) :=
    ⟨⟨M.K, hg, by have := hr'.un; show (A.deeper _).units + 66 < _; omega, S.nd, takes_of rfl rfl rfl rfl, passes_of rfl⟩, rfl, rfl, S.kind, fun _ _ => rfl, M.blt, M.con, fun _ => rfl, fun _ => M.exc, fun _ i y hy => by
      obtain ⟨a, fd', ps', D1, D2⟩ := HD i y hy
      obtain ⟨dV', dvs', h1, h2, h3⟩ := D1.dv
      exact ⟨k, a, fd', ps', dV', dvs', hr', ⟨D2, D1.mg, D1.kp, D1.nd, h1, h2⟩, h3⟩, fun _ => ⟨rfl, rfl⟩, fun _ y m g hm => by
      obtain ⟨h1, h2, h3, h4⟩ := M.exk y m g hm
      obtain ⟨l, fd', ps', q1, q2, q3⟩ := HX y m g hm
      exact ⟨h1, h2, h3, M.K ▸ h4, l, fd', ps', q1, hr'.mono q2, q3⟩, fun m y b hm => M.K ▸ M.iso m y b hm, fun _ => rfl, fun x g h => M.K ▸ M.gd x g h, fun _ x ch h => by
      obtain ⟨h1, l, f', h2, h3, h4, h5⟩ := HM x ch h
      exact ⟨h1, l, f', hr'.mono h2, h3, h4, h5⟩, fun _ _ _ _ h => (by cases h), fun _ _ _ _ h => by cases h⟩
  have run := cBody_ok SX hc
  have start : tDS G (fun c d _ H => E c d H) (evSs cfg ss) { nx := fun _ H' => Q .non H', rt := Q } (L2.start N vs) H := by
    refine ⟨v, Hd, startD fD ds, rel, startS hn M.exc rd, ?_⟩
    unfold runB at hq
    rw [if_pos (by rw [rd.length, lv, hp]), hb] at hq
    generalize evSs cfg ss (startD fD ds) Hd = r at hq
    cases r with
    | no => exact hq
    | ex e s H => exact fun w' H' e' r' _ _ c da rx => hq w' H' e' r' c da rx
    | go fl H =>
      cases fl with
      | nx s => exact fun w' H' e' r' _ _ => hq w' H' e' r' _ .non
      | rt d => exact hq
      | bk s => exact hq.elim
      | ct s => exact hq.elim
  refine wpAny_mono (run.run [] s1 _ H _ I start) (fun fl s' hs => ?_) fun _ _ h => h
  have close : ∀ {σ : L2.St} {H' : Hp} {v : V} {u : Value}, L2.Inv (cxOf (CX P w) P w K mg base N qual scope f cdv A outer s H E) [] σ H' s' → L2.RelV v u → Q v H' → CE outer P w H s Q u s' := fun J rv q => ⟨_, _, J.os, J.bare, J.base, J.hok, rv, q⟩
  cases fl with
  | next => obtain ⟨σ, H', J, q⟩ := hs; exact close (v := V.non) (u := Value.none) J rfl q
  | ret u => obtain ⟨v, σ, H', J, rv, q⟩ := hs; exact close J rv q
  | brk => obtain ⟨_, _, _, q⟩ := hs; exact q.elim
  | cont => obtain ⟨_, _, _, q⟩ := hs; exact q.elim
/-- no defaults: a form of call -/
theorem kb_no {ks : List Str} {pm : List Nat} (F : FunD K x qual params body scope [] kws f fd)
    (h : ∀ (kV doc pmv : Value) (an : Option Addr) (cdv ct : Value) (us ws : List Value), us.length = n → ws.length = ks.length → ∃ zs, permL (us ++ ws ++ []) pm = some zs ∧ zs.length = ps.length ∧ bindArgs (PySem.W.fnOf x qual params body scope .none kV doc pmv an cdv ct) ⟨us, ks.zip ws⟩ = pure (ps.zip zs)) :
    KBd K fd ps n ks pm [] := by
  obtain ⟨oc, od, dV, kV, doc, pmv, an, cdv, ct, osl, rfl, lk, hcd, hD, hK⟩ := F.ex
  intro s us ws _ l1 l2
  rcases hD with ⟨_, rfl⟩ | ⟨e, _⟩
  · obtain ⟨zs, h1, h2, h3⟩ := h kV doc pmv an cdv ct us ws l1 l2
    exact ⟨zs, h1, h2, .of_eq h3⟩
  · exact absurd rfl e
/-- keyword-only defaults: one list of their values for all forms of call -/
theorem kb_kws (F : FunD K x qual params body scope [] kws f fd) (hk : kws ≠ []) : ∃ dvs : List Value, dvs.length = kws.length ∧ L2.Vals (kws.map (·.2)) dvs ∧ ∀ (n : Nat) (ks : List Str) (pm : List Nat),
    (∀ (D : Addr) (doc pmv : Value) (an : Option Addr) (cdv ct : Value) (us ws : List Value), us.length = n → ws.length = ks.length → ∃ zs l, permL (us ++ ws ++ dvs) pm = some zs ∧ zs.length = ps.length ∧ (∀ q ∈ l, q ∈ (kws.map (·.1)).zip dvs) ∧
      KwChain D l (bindArgs (PySem.W.fnOf x qual params body scope .none (.ref D) doc pmv an cdv ct) ⟨us, ks.zip ws⟩) (ps.zip zs)) → KBd K fd ps n ks pm dvs := by
  obtain ⟨oc, od, dV, kV, doc, pmv, an, cdv, ct, osl, rfl, lk, hcd, hD, hK⟩ := F.ex
  rcases hD with ⟨_, rfl⟩ | ⟨e, _⟩
  · rcases hK with e | ⟨D, rfl, hq⟩
    · exact absurd e hk
    · obtain ⟨us, h1, h2, h3⟩ := kwd_vals hq
      refine ⟨us, h1, h2, fun n ks pm h s vs ws X l1 l2 => ?_⟩
      obtain ⟨zs, l, p1, p2, p3, p4⟩ := h D doc pmv an cdv ct vs ws l1 l2
      exact ⟨zs, p1, p2, BindsTo.of_looks fun M => KwChain.looks X (fun q hm => h3 q (p3 q hm)) p4⟩
  · exact absurd rfl e
end
end DI
namespace DI
open PySem PySem.Spec PyProof.Rows L2
theorem ktup_of {K : PySem.W.Frag} {x : Str} {vs : List He.Dv} (h : He.tupB K x vs = true) : KTup K (He.ga K x) (vs.map (He.Dv.v K)) := by
  unfold He.tupB at h
  cases q : K.lookup (He.ga K x) with
  | none =>
    rw [q] at h
    cases h
  | some o =>
    obtain ⟨oc, od, dt, osl⟩ := o
    rw [q] at h
    cases oc with
    | type c =>
      cases dt with
      | seq its n =>
        obtain ⟨h1, h2⟩ := He.ba (show (decide (c = "tuple") && (decide (its.size ≤ sizeLine) && He.relAll (vs.map (He.Dv.v K)) its.toList)) = true from h)
        obtain ⟨h3, h4⟩ := He.ba h2
        exact ⟨_, its, n, q, congrArg Value.type (of_decide_eq_true h1), rfl, of_decide_eq_true h3, He.relAll_ok h4⟩
      | _ => cases h
    | _ => cases dt <;> cases h
def dvD : He.Dv → D
  | .str x => .str x.cps.toList
  | .int i => .int i
  | .bl b => .bl b
  | _ => .non
def dvOk : He.Dv → Bool
  | .str _ => true | .int _ => true | .bl _ => true | .non => true
  | _ => false
theorem dvD_rep {K : PySem.W.Frag} {G : Gr} {w : Vw} {H : Hp} {x : He.Dv} (h : dvOk x = true) : RepV G w H (dvD x) (x.v K) := by
  cases x <;> first | (cases h; done) | skip
  · exact .non
  · exact .bl _
  · exact .int _
  · rename_i y
    have := RepV.str (G := G) (w := w) (H := H) y.cps.toList
    simpa [dvD, He.Dv.v] using this
abbrev Tbd : Type := Str × List (Str × He.Dv)
def tbdK (t : Tbd) : List D := t.2.map fun q => .str q.1.cps.toList
def tbdV (t : Tbd) : List D := t.2.map fun q => dvD q.2
theorem kdv_of {K : PySem.W.Frag} {w : World} {a : Addr} {kvs : List (Str × He.Dv)} (h1 : He.dicW K a = some (He.keysIn w.params (kvs.map (·.1)))) (h2 : He.valsB K a kvs = true) (h3 : (kvs.all fun q => dvOk q.2) = true) :
    KDv K w a (kvs.map fun q => .str q.1.cps.toList) (kvs.map fun q => dvD q.2) := by
  obtain ⟨es, n, KD⟩ := He.dicW_ok h1
  have hks : es.toList.map He.keyOf = He.keysIn w.params (kvs.map (·.1)) := by
    unfold He.dicW at h1
    rw [KD.at_] at h1
    dsimp only at h1
    split at h1
    · exact Option.some.inj h1
    · cases h1
  refine ⟨es, n, KD, fun z => ?_⟩
  have key : ∀ l : List (Str × He.Dv), (∀ q ∈ l, q ∈ kvs) → (∀ d, dgetL (l.map fun q => DI.D.str q.1.cps.toList) (l.map fun q => dvD q.2) (.str z) = some d → ∃ q ∈ kvs, q.1 = (⟨z.toArray⟩ : Str) ∧ d = dvD q.2) ∧
      (dgetL (l.map fun q => DI.D.str q.1.cps.toList) (l.map fun q => dvD q.2) (.str z) = none → ∀ q ∈ l, q.1 ≠ (⟨z.toArray⟩ : Str)) := by
    intro l
    induction l with
    | nil => exact fun _ => ⟨fun d h => (by cases h), fun _ q hq => (by cases hq)⟩
    | cons q l ih =>
      intro hl
      obtain ⟨i1, i2⟩ := ih fun q' hq' => hl q' (List.mem_cons_of_mem _ hq')
      simp only [List.map_cons, dgetL, eqK]
      by_cases e : q.1.cps.toList = z
      · simp only [e, decide_true, if_true]
        refine ⟨fun d h => ⟨q, hl q List.mem_cons_self, ?_, (Option.some.inj h).symm⟩, fun h => by cases h⟩
        obtain ⟨⟨x⟩, v⟩ := q
        subst e
        simp
      · simp only [e, decide_false, Bool.false_eq_true, if_false]
        refine ⟨i1, fun h q' hq' => ?_⟩
        rcases List.mem_cons.mp hq' with rfl | hq'
        · intro c
          exact e (by rw [c])
        · exact i2 h q' hq'
  obtain ⟨k1, k2⟩ := key kvs fun q hq => hq
  cases e : dgetL (kvs.map fun q => DI.D.str q.1.cps.toList) (kvs.map fun q => dvD q.2) (.str z) with
  | some d =>
    obtain ⟨q, hq, e1, rfl⟩ := k1 d e
    obtain ⟨u, hu, ru⟩ := He.valsB_ok h2 hq
    exact ⟨u, q.2.v K, e1 ▸ hu, ru, fun G w' H => dvD_rep (List.all_eq_true.mp h3 q hq)⟩
  | none =>
    have hno := k2 e
    have ks : ∀ e ∈ es.toList, ∃ q ∈ kvs, ∃ t, e.key = .str q.1 t := by
      intro e he
      have m : He.keyOf e ∈ es.toList.map He.keyOf := List.mem_map_of_mem he
      rw [hks] at m
      unfold He.keysIn at m
      obtain ⟨k', hk', e2⟩ := List.mem_map.mp m
      obtain ⟨q, hq, rfl⟩ := List.mem_map.mp hk'
      unfold He.keyOf at e2
      split at e2
      · rename_i x t hx
        have e3 : q.1 = x := congrArg Prod.fst (Option.some.inj e2)
        exact ⟨q, hq, t, by rw [hx, e3]⟩
      · cases e2
    show PySem.W.nsIn K a ⟨z.toArray⟩ = some none
    unfold PySem.W.nsIn
    rw [KD.at_]
    dsimp only
    have f1 : es.toList.find? (fun e => e.key.isStr ⟨z.toArray⟩) = none := by
      rw [List.find?_eq_none]
      intro e he hs
      obtain ⟨q, hq, t, hk⟩ := ks e he
      rw [hk] at hs
      exact hno q hq (by simpa [Value.isStr] using hs)
    have f2 : es.toList.any (fun e => e.refKey) = false := by
      rw [List.any_eq_false]
      intro e he
      obtain ⟨q, hq, t, hk⟩ := ks e he
      simp [DictEntry.refKey, hk]
    rw [f1]
    dsimp only
    rw [f2]
    rfl
abbrev AlX : Type := (He.AlD × Bool) × List (Option (List (Option (Str × Int))))
def obsX (fa : List He.Fa) (fn : List He.DefD) (tb : List (Str × List He.Dv)) (ex : PySem.W.Frag → List Bool) (ds : List Tbd) (K : PySem.W.Frag) : AlX := ((He.obsD fa fn K, (tb.all fun t => He.tupB K t.1 t.2) && ((ex K).all id && ds.all fun t => He.valsB K (He.ga K t.1) t.2)), ds.map fun t => He.dicW K (He.ga K t.1))
def valX (fn : List He.DefD) (ds : List Tbd) (w : World) : AlX := ((He.valD fn, true), ds.map fun t => some (He.keysIn w.params (t.2.map (·.1))))
def SaysX (fa : List He.Fa) (fn : List He.DefD) (tb : List (Str × List He.Dv)) (ex : PySem.W.Frag → List Bool) (ds : List Tbd) (w : World) (K : PySem.W.Frag) : Prop := obsX fa fn tb ex ds K = valX fn ds w
def obsXG (n : Nat) (fa : List He.Fa) (fn : List He.DefD) (tb : List (Str × List He.Dv)) (ex : PySem.W.Frag → List Bool) (ds : List Tbd) (g : Addr → Option Obj) : AlX := obsX fa fn tb ex ds (He.frG g (cStatics :: He.asD g n))
def hookX (n : Nat) (fa : List He.Fa) (fn : List He.DefD) (tb : List (Str × List He.Dv)) (ex : PySem.W.Frag → List Bool) (ds : List Tbd) : PySem.W.Hook where
  α := AlX
  obs := fun s => obsXG n fa fn tb ex ds s.heap.get?
  val := fun w => valX fn ds w
  says := fun w h => ∃ K : PySem.W.Frag, K.In h ∧ SaysX fa fn tb ex ds w K
  of := fun _ _ e => ⟨_, He.frG_in, e⟩
  keeps := fun _ _ _ ⟨K, hK, c⟩ k => ⟨K, PySem.W.Frag.In.keeps hK k, c⟩
theorem obsXG_eq {n : Nat} {fa : List He.Fa} {fn : List He.DefD} {tb : List (Str × List He.Dv)} {ex : PySem.W.Frag → List Bool} {ds : List Tbd} {g : Addr → Option Obj} {s : Shared} (h : ∀ a, g a = s.heap.get? a) : obsXG n fa fn tb ex ds g = (hookX n fa fn tb ex ds).obs s := by
  have e : g = s.heap.get? := funext h
  rw [e] <;> rfl
section
variable {fa : List He.Fa} {fn : List He.DefD} {tb : List (Str × List He.Dv)} {ex : PySem.W.Frag → List Bool} {ds : List Tbd} {w : World} {K : PySem.W.Frag}
theorem SaysX.d (c : SaysX fa fn tb ex ds w K) : He.SaysD fa fn K := congrArg (fun z : AlX => z.1.1) c
theorem SaysX.b (c : SaysX fa fn tb ex ds w K) : ((tb.all fun t => He.tupB K t.1 t.2) && ((ex K).all id && ds.all fun t => He.valsB K (He.ga K t.1) t.2)) = true := congrArg (fun z : AlX => z.1.2) c
theorem SaysX.tup (c : SaysX fa fn tb ex ds w K) (i : Nat) {x : Str} {vs : List He.Dv} (h : tb[i]? = some (x, vs) := by rfl) : KTup K (He.ga K x) (vs.map (He.Dv.v K)) :=
  ktup_of (List.all_eq_true.mp (He.ba c.b).1 (x, vs) (List.mem_of_getElem? h))
theorem SaysX.exb (c : SaysX fa fn tb ex ds w K) (i : Nat) {b : Bool} (h : (ex K)[i]? = some b := by rfl) : b = true :=
  List.all_eq_true.mp (He.ba (He.ba c.b).2).1 b (List.mem_of_getElem? h)
theorem SaysX.dic (c : SaysX fa fn tb ex ds w K) (i : Nat) {t : Tbd} (h : ds[i]? = some t := by rfl) (hok : (t.2.all fun q => dvOk q.2) = true := by decide) : KDv K w (He.ga K t.1) (tbdK t) (tbdV t) := by
  have e : ds.map (fun t => He.dicW K (He.ga K t.1)) = ds.map fun t => some (He.keysIn w.params (t.2.map (·.1))) := congrArg (fun z : AlX => z.2) c
  have e2 : (ds.map fun t => He.dicW K (He.ga K t.1))[i]? = (ds.map fun t => some (He.keysIn w.params (t.2.map (·.1))))[i]? := by rw [e]
  rw [List.getElem?_map, List.getElem?_map, h] at e2
  exact kdv_of (Option.some.inj e2) (List.all_eq_true.mp (He.ba (He.ba c.b).2).2 t (List.mem_of_getElem? h)) hok
end
/-- what isinstance says of an exception of the class at C: none: y is a class of the text, t: the builtin one -/
def isKB (K : PySem.W.Frag) (C : Addr) (y : Str) (b : Bool) : Option String → Bool
  | none => decide (PySem.W.kitOne K (.ref C) (.ref (He.ga K y)) = some b)
  | some t => decide (PySem.W.kitOne K (.ref C) (.type t) = some b)
theorem isK_own {K : PySem.W.Frag} {mg : Str → Option Value} {C : Addr} {y : Str} {b : Bool} (h : isKB K C y b none = true) (hm : mg y = some (.ref (He.ga K y))) (hd : (y == ("__debug__" : Str)) = false) : IsK K mg C y b := ⟨hd, .inl ⟨_, hm, of_decide_eq_true h⟩⟩
theorem isK_blt {K : PySem.W.Frag} {mg : Str → Option Value} {C : Addr} {y : Str} {b : Bool} {t : String} (h : isKB K C y b (some t) = true) (hm : mg y = none) (hb : bootBuiltins y = some (.type t)) (hn : y ≠ "__name__") (hd : (y == ("__debug__" : Str)) = false) : IsK K mg C y b := ⟨hd, .inr ⟨t, hm, hb, hn, of_decide_eq_true h⟩⟩
/-- nothing live -/
def vw0 : Vw := ⟨fun _ => 0, 0, fun _ => False⟩
theorem no0 (a : Addr) : ¬ vw0.L a := fun z => z.elim (fun ⟨_, h, _⟩ => absurd h (Nat.not_lt_zero _)) fun h => h
theorem rel0 (G : Gr) (H : Hp) : Rel G vw0 [] H := ⟨rfl, fun _ _ h => absurd h (Nat.not_lt_zero _), fun _ _ h => by simp at h, fun _ h => h.elim⟩
theorem repInts (G : Gr) (v : Vw) (H : Hp) : ∀ ns : List Int, RepVs G v H (ns.map D.int) (ns.map V.int)
  | [] => .nil
  | n :: r => .cons (.int n) (repInts G v H r)
abbrev Told (s : Shared) : Result → Shared → Prop := fun r s' => r = .ok (.ret (.bool true)) ∧ OldK s.heap s'.heap ∧ s'.os = s.os ∧ AllBare s'.gens
section
variable {P : Program} {w : World} {K : PySem.W.Frag} {mg mb : Str → Option Value} {G : Gr} {k : Nat} {f a : Addr} {fd : FuncData} {x : Str} {F : List D → HH → Rs D} {s : Shared} {its : List Value} {ns : List Int}
/-- what the module's frame asks -/
structure Stand (K : PySem.W.Frag) (mg mb : Str → Option Value) (s : Shared) : Prop where
  kin : K.In s.heap
  ns : s.heap.Ns mainGlobals mg
  bn : s.heap.Ns builtinsNs mb
  bb : ∀ x : Str, x ≠ "__name__" → mb x = bootBuiltins x
  lim : s.heap.NoLimit
  gens : s.gens = #[]
/-- the law's call over a heap that tells the script alone -/
theorem over (St : Stand K mg mb s) (hG : G.K = K) {H : Hp} (ob : s.heap.get? a = some { cls := .type "list", data := .seq its.toArray }) (only : ∀ b u, H b = some u → b = a ∧ u = .frz { cls := .type "list", data := .seq its.toArray } (.lst (ns.map V.int)))
    (sq : SqL K H a (ns.map V.int)) (hok : HOk P w H s.heap) (hk : H a ≠ none → K.lookup a = none) (hr : Room k callerA) (ok : ∀ base : Heap, K.In base → base.Ns mainGlobals mg → FnG P w K mg base G k f fd [x] F)
    (bind : ∀ u : Value, BindsTo s fd ⟨[u], []⟩ [(x, u)]) (val : ∃ Hd, F [.fz (ns.map D.int)] [] = .ok (.bl true) Hd) : codeAny (model P w) callerA (.call (.ref f) ⟨[.ref a], []⟩) (Told s) s := by
  have free : ∀ {b : Addr} {o : Obj}, s.heap.get? b = some o → (∀ arr m, o.data ≠ .seq arr m) → H b = none := by
    intro b o e hd
    cases q : H b with
    | none => rfl
    | some u =>
      obtain ⟨rfl, _⟩ := only b u q
      rw [ob] at e
      cases e
      exact absurd rfl (hd _ _)
  have ns' : ∀ {b : Addr} {m : Str → Option Value}, s.heap.Ns b m → (hidT s.heap H).Ns b m := by
    rintro b m ⟨o, es, ep, e, d, r⟩
    exact ⟨o, es, ep, hidT_get e (free e fun _ _ z => by rw [d] at z; cases z), d, r⟩
  have kin : K.In (hidT s.heap H) := by
    intro b o e
    refine hidT_get (St.kin b o e) ?_
    cases q : H b with
    | none => rfl
    | some u =>
      obtain ⟨rfl, _⟩ := only b u q
      have z := hk (by rw [q]; simp)
      rw [z] at e
      cases e
  have md : Mod K mg (hidT s.heap H) := by
    obtain ⟨mc, c1, c2⟩ := St.lim
    exact ⟨kin, ns' St.ns, ⟨mb, ns' St.bn, St.bb⟩, ⟨mc, ns' c1, c2⟩⟩
  have e0 : Env0 P w K mg (hidT s.heap H) callerA [] s H :=
    ⟨rfl, md, fun b o e => of_hidT e, by rw [hidT_size]; exact Nat.le_refl _, trivial, fun b hb => (List.not_mem_nil hb).elim, hok, .of_eq St.gens⟩
  obtain ⟨Hd, hv⟩ := val
  have fz : FzAt G vw0 H a (ns.map V.int) := by
    rcases sq with z | z
    · exact .inl ⟨no0 a, z⟩
    · exact .inr (hG ▸ z)
  refine codeAny_mono (ok _ kin (ns' St.ns) callerA [] s H ⟨[.ref a], []⟩ [.ref a] [.ref a] [.fz (ns.map D.int)] vw0 [] (fun v _ => v = .bl true) (fun _ _ _ => False) hr rfl e0 (bind _) (.cons rfl .nil) rfl (rel0 G H) (.cons (.fz fz (repInts G _ _ ns)) .nil) ?_) ?_
  · rw [hv]
    intro w' H' _ _ v rv
    cases rv
    rfl
  · intro r s' hq
    cases r with
    | error e =>
      obtain ⟨_, _, _, _, _, _, _, _, _, _, _, _, z⟩ := hq
      exact z.elim
    | ok fl =>
      cases fl with
      | ret u =>
        obtain ⟨v, H', os, bare, un, hok', rv, rfl⟩ := hq
        cases (show u = Value.bool true from rv)
        refine ⟨rfl, .of_keep fun b o e => ?_, os, bare⟩
        cases q : H b with
        | none => exact un.keep b o e q (fun z => List.not_mem_nil z) (fun z => List.not_mem_nil z)
        | some u =>
          obtain ⟨_, rfl⟩ := only b u q
          have z2 := un.frzs b _ _ q
          have e1 := (hok b _ q).1
          have e2 := (hok' b _ z2).1
          rw [e1] at e
          rw [e2, e]
      | next => exact hq.elim
      | brk => exact hq.elim
      | cont => exact hq.elim
theorem call_g (St : Stand K mg mb s) (hG : G.K = K) (ob : s.heap.get? a = some { cls := .type "list", data := .seq its.toArray }) (hi : IntsAre its ns) (hl : ns.length ≤ sizeLine) (hr : Room k callerA)
    (ok : ∀ base : Heap, K.In base → base.Ns mainGlobals mg → FnG P w K mg base G k f fd [x] F) (bind : ∀ u : Value, BindsTo s fd ⟨[u], []⟩ [(x, u)]) (val : ∃ Hd, F [.fz (ns.map D.int)] [] = .ok (.bl true) Hd) :
    codeAny (model P w) callerA (.call (.ref f) ⟨[.ref a], []⟩) (Told s) s := by
  have rv : L2.Vals (ns.map V.int) its := vals_ints hi
  cases hk : K.lookup a with
  | some o =>
    have e := St.kin a o hk
    rw [ob] at e
    cases e
    refine over (H := fun _ => none) St hG ob (fun b u z => nomatch (show (none : Option HO) = some u from z)) (.inr ⟨_, its.toArray, _, hk, rfl, rfl, rfl, by rw [List.size_toArray, hi.length]; exact hl, by simpa using rv⟩) (fun b u z => nomatch (show (none : Option HO) = some u from z)) (fun z => absurd rfl z) hr ok bind val
  | none =>
    let Hs : Hp := fun b => if b = a then some (.frz { cls := .type "list", data := .seq its.toArray } (.lst (ns.map V.int))) else none
    have at_ : ∀ b u, Hs b = some u → b = a ∧ u = .frz { cls := .type "list", data := .seq its.toArray } (.lst (ns.map V.int)) := by
      intro b u z
      by_cases hb : b = a
      · exact ⟨hb, (Option.some.inj ((if_pos hb).symm.trans z)).symm⟩
      · cases (if_neg hb).symm.trans z
    refine over (H := Hs) St hG ob at_ (.inl (.inr ⟨_, if_pos rfl⟩)) (fun b u z => ?_) (fun _ => hk) hr ok bind val
    obtain ⟨rfl, rfl⟩ := at_ b u z
    exact ⟨ob, by rw [List.length_map]; exact hl, its, _, rv, ob⟩
end
/-- the goal behind a head, by the core's run of the law -/
theorem walk_g {l : PySem.W.OpenLaw} {n k : Nat} {q : Program} {loose : List Str} {XP : (Str → Option Value) → Heap → Prop} {YP : World → Heap → Prop} {d : DefRec} {x : Str} (hn : l.most = some n) (hn2 : n ≤ sizeLine) (hdf : d.params.defaults = []) (hr : Room k callerA)
    (W : ∀ (w : World) (mg : Str → Option Value) (f : Addr) (h : Heap), YP w h → h.Ns mainGlobals mg → mg d.name = some (.ref f) → ∃ (K : PySem.W.Frag) (fd : FuncData) (G : Gr) (F : List D → HH → Rs D), K.In h ∧ G.K = K ∧
      (∀ (s : Shared) (u : Value), BindsTo s fd ⟨[u], []⟩ [(x, u)]) ∧ (∀ ns : List Int, ns.length ≤ n → ∃ Hd, F [.fz (ns.map D.int)] [] = .ok (.bl true) Hd) ∧ ∀ base : Heap, K.In base → base.Ns mainGlobals mg → FnG l.prog w K mg base G k f fd [x] F) :
    PySem.W.WalkO q loose XP YP l.row.toRowW d [] (fun f vs => PySem.call f vs) := by
  refine Att.attach_call hn hdf ?_
  intro w s₀ s mg mb f o pm cd doc a its ns Gd Y _ _ _ hmg ob hi hl hg
  obtain ⟨K, fd, G, F, kin, hG, hb, hv, ok⟩ := W w mg f _ Y Gd.T.g hmg
  exact call_g ⟨kin, Gd.T.g, Gd.T.b, Gd.T.builtins, Gd.T.nolimit, hg⟩ hG ob hi (Nat.le_trans hl hn2) hr ok (hb s) (hv ns hl)
end DI
namespace DI
open PySem

def Rs.wp {A : Type} (r : Rs A) (Q : A → HH → Prop) : Prop := match r with
  | .ok a H => Q a H
  | _ => False
@[simp] theorem wp_ok {A : Type} (a : A) (H : HH) (Q : A → HH → Prop) : (Rs.ok a H).wp Q = Q a H := rfl
@[simp] theorem wp_ex {A : Type} (e : XV) (H : HH) (Q : A → HH → Prop) : (Rs.ex e H : Rs A).wp Q = False := rfl
@[simp] theorem wp_no {A : Type} (Q : A → HH → Prop) : (Rs.no : Rs A).wp Q = False := rfl
@[simp] theorem wp_bind {A B : Type} (r : Rs A) (f : A → HH → Rs B) (Q : B → HH → Prop) : (r.bind f).wp Q = r.wp fun a H => (f a H).wp Q := by cases r <;> rfl
@[simp] theorem wp_bindN {A B : Type} (r : Rs A) (f : A → HH → Rs B) (Q : B → HH → Prop) : (r.bindN f).wp Q = r.wp fun a H => (f a H).wp Q := by cases r <;> rfl
@[simp] theorem wp_ofO {A : Type} (o : Option A) (H : HH) (Q : A → HH → Prop) : (Rs.ofO o H).wp Q = ∃ a, o = some a ∧ Q a H := by
  cases o with
  | none => simp [Rs.ofO, Rs.wp]
  | some a => simp [Rs.ofO, Rs.wp]
theorem wp_mono {A : Type} {r : Rs A} {Q Q' : A → HH → Prop} (h : r.wp Q) (m : ∀ a H, Q a H → Q' a H) : r.wp Q' := by
  cases r with
  | ok a H => exact m a H h
  | _ => exact h
theorem wp_elim {A : Type} {r : Rs A} {Q : A → HH → Prop} (h : r.wp Q) : ∃ a H, r = .ok a H ∧ Q a H := by
  cases r with
  | ok a H => exact ⟨a, H, rfl, h⟩
  | _ => exact h.elim
def RS.wp (r : RS) (Q : Fl → HH → Prop) : Prop := match r with
  | .go f H => Q f H
  | _ => False
@[simp] theorem swp_go (f : Fl) (H : HH) (Q : Fl → HH → Prop) : (RS.go f H).wp Q = Q f H := rfl
@[simp] theorem swp_ex (e : XV) (s : Sd) (H : HH) (Q : Fl → HH → Prop) : (RS.ex e s H).wp Q = False := rfl
@[simp] theorem swp_no (Q : Fl → HH → Prop) : (RS.no).wp Q = False := rfl
@[simp] theorem swp_st {A : Type} (r : Rs A) (s : Sd) (f : A → HH → RS) (Q : Fl → HH → Prop) : (r.st s f).wp Q = r.wp fun a H => (f a H).wp Q := by cases r <;> rfl
theorem swp_mono {r : RS} {Q Q' : Fl → HH → Prop} (h : r.wp Q) (m : ∀ a H, Q a H → Q' a H) : r.wp Q' := by
  cases r with
  | go a H => exact m a H h
  | _ => exact h
/-- the rest of a suite -/
def nxt (c : Cfg) (r : Ss) (Q : Fl → HH → Prop) : Fl → HH → Prop := fun f H => match f with
  | .nx s => (evSs c r s H).wp Q
  | f => Q f H
@[simp] theorem nxt_nx (c : Cfg) (r : Ss) (Q : Fl → HH → Prop) (s : Sd) (H : HH) : nxt c r Q (.nx s) H = (evSs c r s H).wp Q := rfl
@[simp] theorem nxt_rt (c : Cfg) (r : Ss) (Q : Fl → HH → Prop) (d : D) (H : HH) : nxt c r Q (.rt d) H = Q (.rt d) H := rfl
@[simp] theorem nxt_bk (c : Cfg) (r : Ss) (Q : Fl → HH → Prop) (s : Sd) (H : HH) : nxt c r Q (.bk s) H = Q (.bk s) H := rfl
@[simp] theorem nxt_ct (c : Cfg) (r : Ss) (Q : Fl → HH → Prop) (s : Sd) (H : HH) : nxt c r Q (.ct s) H = Q (.ct s) H := rfl
@[simp] theorem ss_nil (c : Cfg) (s : Sd) (H : HH) (Q : Fl → HH → Prop) : (evSs c .nil s H).wp Q = Q (.nx s) H := by rw [evSs]; rfl
@[simp] theorem ss_cons (c : Cfg) (a : S) (r : Ss) (s : Sd) (H : HH) (Q : Fl → HH → Prop) : (evSs c (.cons a r) s H).wp Q = (evS c a s H).wp (nxt c r Q) := by
  rw [evSs]
  cases evS c a s H with
  | go f H1 => cases f <;> rfl
  | ex e s H => rfl
  | no => rfl
/-- how a body goes on in a loop -/
def lop (I : Sd → HH → Prop) (Q : Fl → HH → Prop) : Fl → HH → Prop := fun f H => match f with
  | .nx s => I s H
  | .ct s => I s H
  | .bk s => Q (.nx s) H
  | .rt d => Q (.rt d) H
@[simp] theorem lop_nx (I : Sd → HH → Prop) (Q : Fl → HH → Prop) (s : Sd) (H : HH) : lop I Q (.nx s) H = I s H := rfl
@[simp] theorem lop_ct (I : Sd → HH → Prop) (Q : Fl → HH → Prop) (s : Sd) (H : HH) : lop I Q (.ct s) H = I s H := rfl
@[simp] theorem lop_bk (I : Sd → HH → Prop) (Q : Fl → HH → Prop) (s : Sd) (H : HH) : lop I Q (.bk s) H = Q (.nx s) H := rfl
@[simp] theorem lop_rt (I : Sd → HH → Prop) (Q : Fl → HH → Prop) (d : D) (H : HH) : lop I Q (.rt d) H = Q (.rt d) H := rfl
theorem for_wp {g : Gd} {tg : D → Sd → Option Sd} {body : Sd → HH → RS} {Q : Fl → HH → Prop} (I : List D → Sd → HH → Prop)
    (step : ∀ x r s H, I (x :: r) s H → gdOk g H = true ∧ ∃ s1, tg x s = some s1 ∧ (body s1 H).wp (lop (I r) Q)) (done : ∀ s H, I [] s H → gdOk g H = true ∧ Q (.nx s) H) :
    ∀ (xs : List D) (s : Sd) (H : HH), I xs s H → (forL g tg body xs s H).wp Q
  | [], s, H, h => by
    obtain ⟨h1, h2⟩ := done s H h
    simp only [forL, h1, if_true, swp_go]
    exact h2
  | x :: xs, s, H, h => by
    obtain ⟨h1, s1, h2, h3⟩ := step x xs s H h
    simp only [forL, h1, if_true, h2]
    generalize body s1 H = r at h3
    cases r with
    | go f H1 =>
      cases f with
      | nx s2 => exact for_wp I step done xs s2 H1 h3
      | ct s2 => exact for_wp I step done xs s2 H1 h3
      | bk s2 => exact h3
      | rt d => exact h3
    | ex e s2 H1 => exact h3
    | no => exact h3
theorem while_wp {test : Sd → HH → Rs Bool} {body : Sd → HH → RS} {Q : Fl → HH → Prop} (I : Nat → Sd → HH → Prop)
    (step : ∀ n s H, I n s H → (test s H).wp fun b H1 => if b = true then ∃ m, n = m + 1 ∧ (body s H1).wp (lop (I m) Q) else Q (.nx s) H1) :
    ∀ (fuel n : Nat) (s : Sd) (H : HH), n < fuel → I n s H → (whileL test body fuel s H).wp Q
  | 0, n, s, H, hl, _ => absurd hl (Nat.not_lt_zero _)
  | fuel + 1, n, s, H, hl, h => by
    have z := step n s H h
    unfold whileL
    generalize test s H = r at z
    cases r with
    | no => exact z
    | ex e H1 => exact z
    | ok b H1 =>
      cases b with
      | false => simpa using z
      | true =>
        simp only [wp_ok, if_true] at z
        obtain ⟨m, rfl, z⟩ := z
        dsimp only
        generalize body s H1 = r at z
        cases r with
        | go f H2 =>
          cases f with
          | nx s2 => exact while_wp I step fuel m s2 H2 (by omega) z
          | ct s2 => exact while_wp I step fuel m s2 H2 (by omega) z
          | bk s2 => exact z
          | rt d => exact z
        | ex e s2 H2 => exact z
        | no => exact z
theorem lc_wp {g : Gd} {tg : D → Sd → Option Sd} {test : Sd → HH → Rs Bool} {elt : Sd → HH → Rs D} {s : Sd} {Q : List D → HH → Prop} (I : List D → List D → HH → Prop)
    (step : ∀ x r acc H, I (x :: r) acc H → gdOk g H = true ∧ ∃ s1, tg x s = some s1 ∧ (test s1 H).wp fun b H2 => if b = true then (elt s1 H2).wp fun d H3 => acc.length < lim ∧ I r (acc ++ [d]) H3 else I r acc H2) (done : ∀ acc H, I [] acc H → gdOk g H = true ∧ Q acc H) :
    ∀ (xs acc : List D) (H : HH), I xs acc H → (lcL g tg test elt s xs acc H).wp Q
  | [], acc, H, h => by
    obtain ⟨h1, h2⟩ := done acc H h
    simp only [lcL, h1, if_true, wp_ok]
    exact h2
  | x :: xs, acc, H, h => by
    obtain ⟨h1, s1, h2, h3⟩ := step x xs acc H h
    simp only [lcL, h1, if_true, h2, wp_bindN]
    refine wp_mono h3 fun b H2 z => ?_
    cases b with
    | false => simp only [Bool.false_eq_true, if_false] at z ⊢; exact lc_wp I step done xs acc H2 z
    | true =>
      simp only [if_true, wp_bindN] at z ⊢
      refine wp_mono z fun d H3 ⟨q1, q2⟩ => ?_
      rw [if_pos q1]
      exact lc_wp I step done xs (acc ++ [d]) H3 q2
/-- a comprehension that maps and leaves the heap -/
theorem lc_map {tg : D → Sd → Option Sd} {elt : Sd → HH → Rs D} {s : Sd} {H : HH} {g : Gd} (f : D → D) (hg : gdOk g H = true) : ∀ (xs acc : List D), (∀ x ∈ xs, ∃ s1, tg x s = some s1 ∧ elt s1 H = .ok (f x) H) → acc.length + xs.length ≤ lim →
    lcL g tg (fun _ H => .ok true H) elt s xs acc H = .ok (acc ++ xs.map f) H
  | [], acc, _, _ => by simp [lcL, hg]
  | x :: xs, acc, h, hl => by
    obtain ⟨s1, h1, h2⟩ := h x List.mem_cons_self
    rw [List.length_cons] at hl
    simp only [lcL, hg, if_true, h1, Rs.bindN_ok, h2, if_pos (show acc.length < lim by omega)]
    rw [lc_map f hg xs (acc ++ [f x]) (fun y hy => h y (List.mem_cons_of_mem _ hy)) (by rw [List.length_append]; simp; omega)]
    simp
theorem pcall_wp {c : Cfg} {f : Nat} {kw : List Nat} {ds zs l : List D} {H : HH} {Q : D → HH → Prop} (h1 : permL (ds ++ zs ++ c.dfl f) kw = some l) (h2 : noRefs l = true)
    (h3 : (c.call f l []).wp fun d H1 => ∃ e, (if noRef d = true then some d else frzD H1 100000 d) = some e ∧ Q e H) : (pcallE c f kw ds zs H).wp Q := by
  unfold pcallE
  rw [h1]
  dsimp only
  unfold pcallD
  rw [if_pos h2]
  generalize c.call f l [] = r at h3
  cases r with
  | no => exact h3
  | ex e H1 => exact False.elim h3
  | ok d H1 =>
    obtain ⟨e, h4, h5⟩ := h3
    dsimp only
    by_cases hd : noRef d = true
    · rw [if_pos hd] at h4 ⊢
      cases h4
      exact h5
    · rw [if_neg hd] at h4 ⊢
      rw [h4]
      exact h5
theorem call_wp {c : Cfg} {f : Nat} {kw : List Nat} {ds zs l : List D} {H : HH} {Q : D → HH → Prop} (h1 : permL (ds ++ zs ++ c.dfl f) kw = some l) (h3 : (c.call f l H).wp Q) : (callD c f kw ds zs H).wp Q := by
  unfold callD
  rw [h1]
  exact h3
theorem run_wp {f : Fd} {c : Cfg} {ds : List D} {H : HH} {Q : D → HH → Prop} (hl : ds.length = f.params.length) (h : (evSs c f.body (startD f ds) H).wp fun fl H1 => match fl with
    | .nx _ => Q .non H1
    | .rt d => Q d H1
    | _ => False) : (runB f c ds H).wp Q := by
  unfold runB
  rw [if_pos hl]
  generalize evSs c f.body (startD f ds) H = r at h
  cases r with
  | go fl H1 => cases fl <;> exact h
  | ex e s H1 => exact h
  | no => exact h
mutual
def wt : D → Nat
  | .int i => i.natAbs.log2 + 3
  | .str x => 10 * x.length + 2
  | .tup xs => wts xs + 3
  | .lv xs => wts xs + 3
  | _ => 6
def wts : List D → Nat
  | [] => 0
  | x :: xs => wt x + 2 + wts xs
end
theorem textFrom_le : ∀ (ts : List Str) (k : Nat) (acc : Str), (textFrom k acc ts).length ≤ acc.length + piled ts
  | [], k, acc => by show acc.length ≤ _; omega
  | t :: r, k, acc => by
    have h := textFrom_le r (k + 1) (acc ++ (if k > 0 then ", " else "" : String) ++ t)
    have e : (acc ++ (if k > 0 then ", " else "" : String) ++ t).length ≤ acc.length + 2 + t.length := by
      rw [strLen_append, strLen_append]
      have : (((if k > 0 then ", " else "" : String)) : Str).length ≤ 2 := by
        split
        · decide
        · decide
      omega
    show (textFrom (k + 1) _ r).length ≤ _
    rw [piled_cons]
    omega
theorem listText_le (ts : List Str) : (listText ts).length ≤ piled ts + 3 := by
  have h := textFrom_le ts 0 "["
  unfold listText
  rw [strLen_append]
  have e1 : (("[" : String) : Str).length = 1 := rfl
  have e2 : (("]" : String) : Str).length = 1 := rfl
  rw [e1] at h
  rw [e2]
  omega
theorem tupleText_le (ts : List Str) : (tupleText ts).length ≤ piled ts + 3 := by
  unfold tupleText
  rw [strLen_append, strLen_append]
  have e1 : (("(" : String) : Str).length = 1 := rfl
  have e2 : (((if ts.length == 1 then ",)" else ")" : String)) : Str).length ≤ 2 := by split <;> decide
  have e3 : (Str.join ", " ts).length ≤ piled ts := by
    cases ts with
    | nil => decide
    | cons t r =>
      have := join_length_add (t :: r) (by simp)
      omega
  rw [e1]
  omega
mutual
theorem shown_wt : ∀ d : D, plainD d = true → okS d = true → (toPy d).showable = true → (toPy d).shown.length ≤ wt d
  | .non, _, _, _ => by simp only [toPy, PyData.shown, wt]; decide
  | .bl b, _, _, _ => by cases b <;> (simp only [toPy, PyData.shown, wt]; decide)
  | .int i, _, _, h => by
    simp only [toPy, PyData.shown, wt]
    have := int_text_length_le (a := i) (k := i.natAbs.log2 + 1) (by omega) (by omega)
    have e : (Str.ofString (toString i)).length = (toString i).length := by
      rw [Str.ofString_eq_toList]
      show (List.map Char.toNat (toString i).toList).toArray.size = _
      simp [String.length_toList]
    show (Str.ofString (toString i)).length ≤ _
    omega
  | .str x, _, o, _ => by
    simp only [toPy, PyData.shown, wt]
    unfold okS at o
    have := StrLaws.reprText_len (⟨x.toArray⟩ : Str) (fun c hc => by
      have z := List.all_eq_true.mp o c (by simpa using hc)
      have z : c < 0x110000 := by simpa using z
      omega)
    have e : (⟨x.toArray⟩ : Str).length = x.length := str_len x
    omega
  | .tup xs, p, o, s => by
    unfold plainD at p; unfold okS at o
    simp only [toPy, PyData.showable] at s
    simp only [toPy, PyData.shown, wt]
    exact Nat.le_trans (tupleText_le _) (Nat.add_le_add_right (showns_wt xs p o s) 3)
  | .lv xs, p, o, s => by
    unfold plainD at p; unfold okS at o
    simp only [toPy, PyData.showable] at s
    simp only [toPy, PyData.shown, wt]
    exact Nat.le_trans (listText_le _) (Nat.add_le_add_right (showns_wt xs p o s) 3)
  | .fz xs, p, _, _ => by unfold plainD at p; cases p
  | .dv _ _, p, _, _ => by unfold plainD at p; cases p
  | .sv _, p, _, _ => by unfold plainD at p; cases p
  | .ref _, p, _, _ => by unfold plainD at p; cases p
  | .cls _, p, _, _ => by unfold plainD at p; cases p
  | .ty _, p, _, _ => by unfold plainD at p; cases p
theorem showns_wt : ∀ ds : List D, plainDs ds = true → okSs ds = true → PyData.showableAll (toPys ds) = true → piled (PyData.shownAll (toPys ds)) ≤ wts ds
  | [], _, _, _ => by simp only [toPys, PyData.shownAll, wts]; exact Nat.le_refl _
  | d :: ds, p, o, s => by
    unfold plainDs at p; unfold okSs at o
    rw [Bool.and_eq_true] at p o
    simp only [toPys, PyData.showableAll, Bool.and_eq_true] at s
    have h1 := shown_wt d p.1 o.1 s.1
    have h2 := showns_wt ds p.2 o.2 s.2
    simp only [toPys, PyData.shownAll, wts, piled_cons]
    omega
end
end DI
namespace DI
open PySem
/-- an option's value, then on -/
def ow {A : Type} (o : Option A) (Q : A → HH → Prop) (H : HH) : Prop := match o with
  | some a => Q a H
  | none => False
@[simp] theorem ow_some {A : Type} (a : A) (Q : A → HH → Prop) (H : HH) : ow (some a) Q H = Q a H := rfl
@[simp] theorem ow_none {A : Type} (Q : A → HH → Prop) (H : HH) : ow (none : Option A) Q H = False := rfl
theorem ow_if {A : Type} {p : Prop} [Decidable p] {a : A} {Q : A → HH → Prop} {H : HH} (h : p) (q : Q a H) : ow (if p then some a else none) Q H := by rw [if_pos h]; exact q
theorem wp_ow {A : Type} (o : Option A) (H : HH) (Q : A → HH → Prop) : (Rs.ofO o H).wp Q = ow o Q H := by cases o <;> rfl
theorem wp_owm {A B : Type} (f : A → B) (o : Option A) (H : HH) (Q : B → HH → Prop) : (Rs.ofO (o.map f) H).wp Q = ow o (fun a H => Q (f a) H) H := by cases o <;> rfl
/-- .. f of it -/
def km {A B : Type} (f : A → B) (Q : B → HH → Prop) : A → HH → Prop := fun a H => Q (f a) H
@[simp] theorem km_ {A B : Type} (f : A → B) (Q : B → HH → Prop) (a : A) (H : HH) : km f Q a H = Q (f a) H := rfl
/-- a premise, then on -/
def pw {A : Type} (p : Prop) (Q : A → HH → Prop) (a : A) (H : HH) : Prop := p ∧ Q a H
@[simp] theorem pw_ {A : Type} (p : Prop) (Q : A → HH → Prop) (a : A) (H : HH) : pw p Q a H = (p ∧ Q a H) := rfl
section
variable {c : Cfg} {s : Sd} {H : HH} {Q : D → HH → Prop} {B : Bool → HH → Prop} {L : List D → HH → Prop} {O : Option Int → HH → Prop} {F : Fl → HH → Prop} {J : List D × Gd → HH → Prop}
@[simp] theorem v_non : viewD H .non = .non := rfl
@[simp] theorem v_bl (b : Bool) : viewD H (.bl b) = .bl b := rfl
@[simp] theorem v_int (i : Int) : viewD H (.int i) = .int i := rfl
@[simp] theorem v_str (x : List Nat) : viewD H (.str x) = .str x := rfl
@[simp] theorem v_tup (x : List D) : viewD H (.tup x) = .tup x := rfl
@[simp] theorem v_lv (x : List D) : viewD H (.lv x) = .lv x := rfl
@[simp] theorem v_fz (x : List D) : viewD H (.fz x) = .fz x := rfl
theorem v_ref {r : Nat} {xs : List D} (h : H[r]? = some (.lst xs)) : viewD H (.ref r) = .lv xs := by simp only [viewD, h]
@[simp] theorem w_loc (i : Nat) : (evE c (.loc i) s H).wp Q = ow (s[i]?.bind id) Q H := by
  rw [evE]
  cases h : s[i]? with
  | none => rfl
  | some o => cases o <;> rfl
@[simp] theorem w_cst (d : D) : (evE c (.cst d) s H).wp Q = Q d H := by rw [evE]; rfl
@[simp] theorem w_glb (g : Nat) : (evE c (.glb g) s H).wp Q = ow c.consts[g]? Q H := by
  rw [evE]
  cases h : c.consts[g]? <;> rfl
def k_tup (Q : D → HH → Prop) : List D → HH → Prop := fun ds H => ds.length ≤ lim ∧ Q (.tup ds) H
@[simp] theorem k_tup_ (Q : D → HH → Prop) (ds : List D) (H : HH) : k_tup Q ds H = (ds.length ≤ lim ∧ Q (.tup ds) H) := rfl
@[simp] theorem w_tup (es : Es) : (evE c (.tup es) s H).wp Q = (evEs c es s H).wp (k_tup Q) := by
  rw [evE, wp_bind]; congr 1; funext ds H1; by_cases h : ds.length ≤ lim <;> simp [h]
def k_lst (Q : D → HH → Prop) : List D → HH → Prop := fun ds H => ds.length ≤ lim ∧ Q (.lv ds) H
@[simp] theorem k_lst_ (Q : D → HH → Prop) (ds : List D) (H : HH) : k_lst Q ds H = (ds.length ≤ lim ∧ Q (.lv ds) H) := rfl
@[simp] theorem w_lst (es : Es) : (evE c (.lst es) s H).wp Q = (evEs c es s H).wp (k_lst Q) := by
  rw [evE, wp_bind]; congr 1; funext ds H1; by_cases h : ds.length ≤ lim <;> simp [h]
def k_binR2 (x : D) (Q : D → HH → Prop) : D → HH → Prop := fun y H => (addR (viewD H x) (viewD H y) H).wp Q
@[simp] theorem k_binR2_ (x : D) (Q : D → HH → Prop) (y : D) (H : HH) : k_binR2 x Q y H = (addR (viewD H x) (viewD H y) H).wp Q := rfl
def k_binR1 (c : Cfg) (s : Sd) (b : E) (Q : D → HH → Prop) : D → HH → Prop := fun x H => (evE c b s H).wp (k_binR2 x Q)
@[simp] theorem k_binR1_ (c : Cfg) (s : Sd) (b : E) (Q : D → HH → Prop) (x : D) (H : HH) : k_binR1 c s b Q x H = ((evE c b s H).wp (k_binR2 x Q)) := rfl
@[simp] theorem w_binR (a b : E) : (evE c (.binR a b) s H).wp Q = (evE c a s H).wp (k_binR1 c s b Q) := by
  rw [evE]; simp only [wp_bind]; congr 1
@[simp] theorem addR_lv (xs ys : List D) (H : HH) (Q : D → HH → Prop) : (addR (.lv xs) (.lv ys) H).wp Q = (xs.length + ys.length ≤ lim ∧ Q (.ref H.length) (H ++ [.lst (xs ++ ys)])) := by
  unfold addR
  dsimp only
  split
  · rename_i h; simp [h]
  · rename_i h; simp [h, Rs.wp]
def k_lstR (Q : D → HH → Prop) : List D → HH → Prop := fun ds H => ds.length ≤ lim ∧ Q (.ref H.length) (H ++ [.lst ds])
@[simp] theorem k_lstR_ (Q : D → HH → Prop) (ds : List D) (H : HH) : k_lstR Q ds H = (ds.length ≤ lim ∧ Q (.ref H.length) (H ++ [.lst ds])) := rfl
@[simp] theorem w_lstR (es : Es) : (evE c (.lstR es) s H).wp Q = (evEs c es s H).wp (k_lstR Q) := by
  rw [evE, wp_bind]; congr 1; funext ds H1; by_cases h : ds.length ≤ lim <;> simp [h]
def k_bin2 (o : Operator) (x : D) (Q : D → HH → Prop) : D → HH → Prop := fun y H => ow (binD o (viewD H x) (viewD H y)) Q H
@[simp] theorem k_bin2_ (o : Operator) (x : D) (Q : D → HH → Prop) (y : D) (H : HH) : k_bin2 o x Q y H = (ow (binD o (viewD H x) (viewD H y)) Q H) := rfl
def k_bin1 (c : Cfg) (s : Sd) (o : Operator) (b : E) (Q : D → HH → Prop) : D → HH → Prop := fun x H => (evE c b s H).wp (k_bin2 o x Q)
@[simp] theorem k_bin1_ (c : Cfg) (s : Sd) (o : Operator) (b : E) (Q : D → HH → Prop) (x : D) (H : HH) : k_bin1 c s o b Q x H = ((evE c b s H).wp (k_bin2 o x Q)) := rfl
@[simp] theorem w_bin (o : Operator) (a b : E) : (evE c (.bin o a b) s H).wp Q = (evE c a s H).wp (k_bin1 c s o b Q) := by
  rw [evE]; simp only [wp_bind, wp_ow]; rfl
def k_neg (Q : D → HH → Prop) : D → HH → Prop := fun x H => match x with | .int i => Q (.int (-i)) H | _ => False
@[simp] theorem k_neg_ (Q : D → HH → Prop) (i : Int) (H : HH) : k_neg Q (.int i) H = Q (.int (-i)) H := rfl
@[simp] theorem w_neg (a : E) : (evE c (.neg a) s H).wp Q = (evE c a s H).wp (k_neg Q) := by
  rw [evE, wp_bind]; congr 1; funext x H1; cases x <;> rfl
def nB (b : Bool) : D := .bl (!b)
@[simp] theorem nB_ (b : Bool) : nB b = .bl (!b) := rfl
def k_no (Q : D → HH → Prop) : D → HH → Prop := fun x H => ow (truD (viewD H x)) (km nB Q) H
@[simp] theorem k_no_ (Q : D → HH → Prop) (x : D) (H : HH) : k_no Q x H = (ow (truD (viewD H x)) (km nB Q) H) := rfl
@[simp] theorem w_no (a : E) : (evE c (.no a) s H).wp Q = (evE c a s H).wp (k_no Q) := by
  rw [evE]; simp only [wp_bind, wp_owm]; rfl
def k_cmp2 (o : CmpOp) (x : D) (B : Bool → HH → Prop) : D → HH → Prop := fun y H => ow (cmpD o (viewD H x) (viewD H y)) B H
@[simp] theorem k_cmp2_ (o : CmpOp) (x : D) (B : Bool → HH → Prop) (y : D) (H : HH) : k_cmp2 o x B y H = (ow (cmpD o (viewD H x) (viewD H y)) B H) := rfl
def k_cmp1 (c : Cfg) (s : Sd) (o : CmpOp) (b : E) (B : Bool → HH → Prop) : D → HH → Prop := fun x H => (evE c b s H).wp (k_cmp2 o x B)
@[simp] theorem k_cmp1_ (c : Cfg) (s : Sd) (o : CmpOp) (b : E) (B : Bool → HH → Prop) (x : D) (H : HH) : k_cmp1 c s o b B x H = ((evE c b s H).wp (k_cmp2 o x B)) := rfl
@[simp] theorem w_cmp (o : CmpOp) (a b : E) : (evE c (.cmp o a b) s H).wp Q = (evE c a s H).wp (k_cmp1 c s o b (km .bl Q)) := by
  rw [evE]; simp only [wp_bind, wp_owm]; rfl
@[simp] theorem t_wcmp (o : CmpOp) (a b : E) : (evT c (.cmp o a b) s H).wp B = (evE c a s H).wp (k_cmp1 c s o b B) := by
  rw [evT]; simp only [wp_bind, wp_ow]; rfl
def k_cmpF2 (o : CmpOp) (x : D) (B : Bool → HH → Prop) : D → HH → Prop := fun y H => ow (cmpG H o x y) B H
@[simp] theorem k_cmpF2_ (o : CmpOp) (x : D) (B : Bool → HH → Prop) (y : D) (H : HH) : k_cmpF2 o x B y H = (ow (cmpG H o x y) B H) := rfl
def k_cmpF1 (c : Cfg) (s : Sd) (o : CmpOp) (b : E) (B : Bool → HH → Prop) : D → HH → Prop := fun x H => (evE c b s H).wp (k_cmpF2 o x B)
@[simp] theorem k_cmpF1_ (c : Cfg) (s : Sd) (o : CmpOp) (b : E) (B : Bool → HH → Prop) (x : D) (H : HH) : k_cmpF1 c s o b B x H = ((evE c b s H).wp (k_cmpF2 o x B)) := rfl
@[simp] theorem w_cmpF (o : CmpOp) (a b : E) : (evE c (.cmpF o a b) s H).wp Q = (evE c a s H).wp (k_cmpF1 c s o b (km .bl Q)) := by
  rw [evE]; simp only [wp_bind, wp_owm]; rfl
@[simp] theorem t_wcmpF (o : CmpOp) (a b : E) : (evT c (.cmpF o a b) s H).wp B = (evE c a s H).wp (k_cmpF1 c s o b B) := by
  rw [evT]; simp only [wp_bind, wp_ow]; rfl
def k_ch3 (c : Cfg) (s : Sd) (p : CmpOp) (d : E) (y : D) (B : Bool → HH → Prop) : Bool → HH → Prop := fun k H => if k = true then (evE c d s H).wp (k_cmp2 p y B) else B false H
@[simp] theorem k_ch3_ (c : Cfg) (s : Sd) (p : CmpOp) (d : E) (y : D) (B : Bool → HH → Prop) (k : Bool) (H : HH) : k_ch3 c s p d y B k H = (if k = true then (evE c d s H).wp (k_cmp2 p y B) else B false H) := rfl
def k_ch2 (c : Cfg) (s : Sd) (o : CmpOp) (p : CmpOp) (d : E) (x : D) (B : Bool → HH → Prop) : D → HH → Prop := fun y H => ow (cmpD o (viewD H x) (viewD H y)) (k_ch3 c s p d y B) H
@[simp] theorem k_ch2_ (c : Cfg) (s : Sd) (o : CmpOp) (p : CmpOp) (d : E) (x : D) (B : Bool → HH → Prop) (y : D) (H : HH) : k_ch2 c s o p d x B y H = (ow (cmpD o (viewD H x) (viewD H y)) (k_ch3 c s p d y B) H) := rfl
def k_ch1 (c : Cfg) (s : Sd) (o : CmpOp) (p : CmpOp) (b : E) (d : E) (B : Bool → HH → Prop) : D → HH → Prop := fun x H => (evE c b s H).wp (k_ch2 c s o p d x B)
@[simp] theorem k_ch1_ (c : Cfg) (s : Sd) (o : CmpOp) (p : CmpOp) (b : E) (d : E) (B : Bool → HH → Prop) (x : D) (H : HH) : k_ch1 c s o p b d B x H = ((evE c b s H).wp (k_ch2 c s o p d x B)) := rfl
@[simp] theorem w_cmp2 (o p : CmpOp) (a b d : E) : (evE c (.cmp2 o p a b d) s H).wp Q = (evE c a s H).wp (k_ch1 c s o p b d (km .bl Q)) := by
  rw [evE]; simp only [wp_bind]; congr 1; funext x H1; rw [k_ch1_]; congr 1; funext y H2; rw [k_ch2_]
  cases cmpD o (viewD H2 x) (viewD H2 y) with
  | none => rfl
  | some k =>
    cases k with
    | false => rfl
    | true => simp only [wp_bind, wp_owm, ow_some, k_ch3_, if_true]; rfl
@[simp] theorem t_wcmp2 (o p : CmpOp) (a b d : E) : (evT c (.cmp2 o p a b d) s H).wp B = (evE c a s H).wp (k_ch1 c s o p b d B) := by
  rw [evT]; simp only [wp_bind]; congr 1; funext x H1; rw [k_ch1_]; congr 1; funext y H2; rw [k_ch2_]
  cases cmpD o (viewD H2 x) (viewD H2 y) with
  | none => rfl
  | some k =>
    cases k with
    | false => rfl
    | true => simp only [wp_bind, wp_ow, ow_some, k_ch3_, if_true]; rfl
theorem wp_ite {A : Type} (k : Prop) [Decidable k] (r r0 : Rs A) (P : A → HH → Prop) : (if k then r else r0).wp P = if k then r.wp P else r0.wp P := by split <;> rfl
def k_and2 (c : Cfg) (s : Sd) (b : E) (x : D) (Q : D → HH → Prop) : Bool → HH → Prop := fun k H => if k = true then (evE c b s H).wp Q else Q x H
@[simp] theorem k_and2_ (c : Cfg) (s : Sd) (b : E) (x : D) (Q : D → HH → Prop) (k : Bool) (H : HH) : k_and2 c s b x Q k H = (if k = true then (evE c b s H).wp Q else Q x H) := rfl
def k_and1 (c : Cfg) (s : Sd) (b : E) (Q : D → HH → Prop) : D → HH → Prop := fun x H => ow (truD (viewD H x)) (k_and2 c s b x Q) H
@[simp] theorem k_and1_ (c : Cfg) (s : Sd) (b : E) (Q : D → HH → Prop) (x : D) (H : HH) : k_and1 c s b Q x H = (ow (truD (viewD H x)) (k_and2 c s b x Q) H) := rfl
def k_or2 (c : Cfg) (s : Sd) (b : E) (x : D) (Q : D → HH → Prop) : Bool → HH → Prop := fun k H => if k = true then Q x H else (evE c b s H).wp Q
@[simp] theorem k_or2_ (c : Cfg) (s : Sd) (b : E) (x : D) (Q : D → HH → Prop) (k : Bool) (H : HH) : k_or2 c s b x Q k H = (if k = true then Q x H else (evE c b s H).wp Q) := rfl
def k_or1 (c : Cfg) (s : Sd) (b : E) (Q : D → HH → Prop) : D → HH → Prop := fun x H => ow (truD (viewD H x)) (k_or2 c s b x Q) H
@[simp] theorem k_or1_ (c : Cfg) (s : Sd) (b : E) (Q : D → HH → Prop) (x : D) (H : HH) : k_or1 c s b Q x H = (ow (truD (viewD H x)) (k_or2 c s b x Q) H) := rfl
@[simp] theorem w_and (a b : E) : (evE c (.and a b) s H).wp Q = (evE c a s H).wp (k_and1 c s b Q) := by
  rw [evE]; simp only [wp_bind]; congr 1; funext x H1; rw [k_and1_]
  cases truD (viewD H1 x) with
  | none => rfl
  | some k => cases k <;> rfl
@[simp] theorem w_or (a b : E) : (evE c (.or a b) s H).wp Q = (evE c a s H).wp (k_or1 c s b Q) := by
  rw [evE]; simp only [wp_bind]; congr 1; funext x H1; rw [k_or1_]
  cases truD (viewD H1 x) with
  | none => rfl
  | some k => cases k <;> rfl
def k_ite (c : Cfg) (s : Sd) (a : E) (b : E) (Q : D → HH → Prop) : Bool → HH → Prop := fun k H => if k = true then (evE c a s H).wp Q else (evE c b s H).wp Q
@[simp] theorem k_ite_ (c : Cfg) (s : Sd) (a : E) (b : E) (Q : D → HH → Prop) (k : Bool) (H : HH) : k_ite c s a b Q k H = (if k = true then (evE c a s H).wp Q else (evE c b s H).wp Q) := rfl
@[simp] theorem w_ite (t a b : E) : (evE c (.ite t a b) s H).wp Q = (evT c t s H).wp (k_ite c s a b Q) := by
  rw [evE]; simp only [wp_bind, wp_ite]; rfl
def k_ix2 (x : D) (Q : D → HH → Prop) : D → HH → Prop := fun y H => ow (ixD (viewD H x) y) Q H
@[simp] theorem k_ix2_ (x : D) (Q : D → HH → Prop) (y : D) (H : HH) : k_ix2 x Q y H = (ow (ixD (viewD H x) y) Q H) := rfl
def k_ix1 (c : Cfg) (s : Sd) (b : E) (Q : D → HH → Prop) : D → HH → Prop := fun x H => (evE c b s H).wp (k_ix2 x Q)
@[simp] theorem k_ix1_ (c : Cfg) (s : Sd) (b : E) (Q : D → HH → Prop) (x : D) (H : HH) : k_ix1 c s b Q x H = ((evE c b s H).wp (k_ix2 x Q)) := rfl
@[simp] theorem w_ix (a b : E) : (evE c (.ix a b) s H).wp Q = (evE c a s H).wp (k_ix1 c s b Q) := by
  rw [evE]; simp only [wp_bind, wp_ow]; rfl
def k_sl3 (x : D) (l : Option Int) (Q : D → HH → Prop) : Option Int → HH → Prop := fun h H => ow (slD (viewD H x) l h) Q H
@[simp] theorem k_sl3_ (x : D) (l : Option Int) (Q : D → HH → Prop) (h : Option Int) (H : HH) : k_sl3 x l Q h H = (ow (slD (viewD H x) l h) Q H) := rfl
def k_sl2 (c : Cfg) (s : Sd) (x : D) (hi : OE) (Q : D → HH → Prop) : Option Int → HH → Prop := fun l H => (evO c hi s H).wp (k_sl3 x l Q)
@[simp] theorem k_sl2_ (c : Cfg) (s : Sd) (x : D) (hi : OE) (Q : D → HH → Prop) (l : Option Int) (H : HH) : k_sl2 c s x hi Q l H = ((evO c hi s H).wp (k_sl3 x l Q)) := rfl
def k_sl1 (c : Cfg) (s : Sd) (lo : OE) (hi : OE) (Q : D → HH → Prop) : D → HH → Prop := fun x H => (evO c lo s H).wp (k_sl2 c s x hi Q)
@[simp] theorem k_sl1_ (c : Cfg) (s : Sd) (lo : OE) (hi : OE) (Q : D → HH → Prop) (x : D) (H : HH) : k_sl1 c s lo hi Q x H = ((evO c lo s H).wp (k_sl2 c s x hi Q)) := rfl
@[simp] theorem w_sl (a : E) (lo hi : OE) : (evE c (.sl a lo hi) s H).wp Q = (evE c a s H).wp (k_sl1 c s lo hi Q) := by
  rw [evE]; simp only [wp_bind, wp_ow]; rfl
def revD : D → Option D
  | .lv xs => some (.lv xs.reverse)
  | .fz xs => some (.lv xs.reverse)
  | .str xs => if xs.length ≤ lim then some (.str xs.reverse) else none
  | _ => none
@[simp] theorem rev_lv (xs : List D) : revD (.lv xs) = some (.lv xs.reverse) := rfl
def k_rev (Q : D → HH → Prop) : D → HH → Prop := fun x H => ow (revD (viewD H x)) Q H
@[simp] theorem k_rev_ (Q : D → HH → Prop) (x : D) (H : HH) : k_rev Q x H = (ow (revD (viewD H x)) Q H) := rfl
@[simp] theorem w_rev (a : E) : (evE c (.rev a) s H).wp Q = (evE c a s H).wp (k_rev Q) := by
  rw [evE, wp_bind]; congr 1; funext x H1; rw [k_rev_]; cases viewD H1 x <;> first | rfl | (simp only [revD]; split <;> rfl)
def k_call2 (c : Cfg) (f : Nat) (kw : List Nat) (ds : List D) (Q : D → HH → Prop) : List D → HH → Prop := fun zs H => (callD c f kw ds zs H).wp Q
@[simp] theorem k_call2_ (c : Cfg) (f : Nat) (kw : List Nat) (ds : List D) (Q : D → HH → Prop) (zs : List D) (H : HH) : k_call2 c f kw ds Q zs H = ((callD c f kw ds zs H).wp Q) := rfl
def k_call1 (c : Cfg) (s : Sd) (f : Nat) (kw : List Nat) (ks : Es) (Q : D → HH → Prop) : List D → HH → Prop := fun ds H => (evEs c ks s H).wp (k_call2 c f kw ds Q)
@[simp] theorem k_call1_ (c : Cfg) (s : Sd) (f : Nat) (kw : List Nat) (ks : Es) (Q : D → HH → Prop) (ds : List D) (H : HH) : k_call1 c s f kw ks Q ds H = ((evEs c ks s H).wp (k_call2 c f kw ds Q)) := rfl
@[simp] theorem w_call (f : Nat) (es ks : Es) (kw : List Nat) : (evE c (.call f es ks kw) s H).wp Q = (evEs c es s H).wp (k_call1 c s f kw ks Q) := by
  rw [evE]; simp only [wp_bind]; rfl
def k_pcall2 (c : Cfg) (f : Nat) (kw : List Nat) (ds : List D) (Q : D → HH → Prop) : List D → HH → Prop := fun zs H => (pcallE c f kw ds zs H).wp Q
@[simp] theorem k_pcall2_ (c : Cfg) (f : Nat) (kw : List Nat) (ds : List D) (Q : D → HH → Prop) (zs : List D) (H : HH) : k_pcall2 c f kw ds Q zs H = ((pcallE c f kw ds zs H).wp Q) := rfl
def k_pcall1 (c : Cfg) (s : Sd) (f : Nat) (kw : List Nat) (ks : Es) (Q : D → HH → Prop) : List D → HH → Prop := fun ds H => (evEs c ks s H).wp (k_pcall2 c f kw ds Q)
@[simp] theorem k_pcall1_ (c : Cfg) (s : Sd) (f : Nat) (kw : List Nat) (ks : Es) (Q : D → HH → Prop) (ds : List D) (H : HH) : k_pcall1 c s f kw ks Q ds H = ((evEs c ks s H).wp (k_pcall2 c f kw ds Q)) := rfl
@[simp] theorem w_pcall (f : Nat) (es ks : Es) (kw : List Nat) : (evE c (.pcall f es ks kw) s H).wp Q = (evEs c es s H).wp (k_pcall1 c s f kw ks Q) := by
  rw [evE]; simp only [wp_bind]; rfl
def k_bi (b : BI) (Q : D → HH → Prop) : List D → HH → Prop := fun ds H => ow (biD b (ds.map (viewD H))) Q H
@[simp] theorem k_bi_ (b : BI) (Q : D → HH → Prop) (ds : List D) (H : HH) : k_bi b Q ds H = (ow (biD b (ds.map (viewD H))) Q H) := rfl
@[simp] theorem w_bi (b : BI) (es : Es) : (evE c (.bi b es) s H).wp Q = (evEs c es s H).wp (k_bi b Q) := by
  rw [evE]; simp only [wp_bind, wp_ow]; rfl
def k_mt2 (m : MT) (x : D) (Q : D → HH → Prop) : List D → HH → Prop := fun ds H => (mtE m x ds H).wp Q
@[simp] theorem k_mt2_ (m : MT) (x : D) (Q : D → HH → Prop) (ds : List D) (H : HH) : k_mt2 m x Q ds H = ((mtE m x ds H).wp Q) := rfl
def k_mt1 (c : Cfg) (s : Sd) (m : MT) (es : Es) (Q : D → HH → Prop) : D → HH → Prop := fun x H => rcvOk m (viewD H x) = true ∧ (evEs c es s H).wp (k_mt2 m x Q)
@[simp] theorem k_mt1_ (c : Cfg) (s : Sd) (m : MT) (es : Es) (Q : D → HH → Prop) (x : D) (H : HH) : k_mt1 c s m es Q x H = (rcvOk m (viewD H x) = true ∧ (evEs c es s H).wp (k_mt2 m x Q)) := rfl
@[simp] theorem w_mt (m : MT) (o : E) (es : Es) : (evE c (.mt m o es) s H).wp Q = (evE c o s H).wp (k_mt1 c s m es Q) := by
  rw [evE]; simp only [wp_bind]; congr 1; funext x H1; rw [k_mt1_]
  cases rcvOk m (viewD H1 x) with
  | true => simp; rfl
  | false => simp
def k_isi (n : String) (Q : D → HH → Prop) : D → HH → Prop := fun x H => ow (tyIs n (viewD H x)) (km .bl Q) H
@[simp] theorem k_isi_ (n : String) (Q : D → HH → Prop) (x : D) (H : HH) : k_isi n Q x H = (ow (tyIs n (viewD H x)) (km .bl Q) H) := rfl
@[simp] theorem w_isi (a : E) (n : String) : (evE c (.isi a n) s H).wp Q = (evE c a s H).wp (k_isi n Q) := by
  rw [evE]; simp only [wp_bind, wp_owm]; rfl
def k_lc (c : Cfg) (s : Sd) (own : List Nat) (t : T) (g : OE) (e : E) (Q : D → HH → Prop) : List D × Gd → HH → Prop := fun p H => (lcL p.2 (asT t) (evOT c g) (evE c e) (wipeD s own) p.1 [] H).wp (km .lv Q)
@[simp] theorem k_lc_ (c : Cfg) (s : Sd) (own : List Nat) (t : T) (g : OE) (e : E) (Q : D → HH → Prop) (p : List D × Gd) (H : HH) : k_lc c s own t g e Q p H = ((lcL p.2 (asT t) (evOT c g) (evE c e) (wipeD s own) p.1 [] H).wp (km .lv Q)) := rfl
@[simp] theorem w_lc (own : List Nat) (t : T) (i : I) (g : OE) (e : E) : (evE c (.lc own t i g e) s H).wp Q = (evI c i s H).wp (k_lc c s own t g e Q) := by
  rw [evE]; simp only [wp_bind, wp_ok]; rfl
def k_ref (Q : D → HH → Prop) : List D → HH → Prop := fun ds H => Q (.ref H.length) (H ++ [.lst ds])
@[simp] theorem k_ref_ (Q : D → HH → Prop) (ds : List D) (H : HH) : k_ref Q ds H = Q (.ref H.length) (H ++ [.lst ds]) := rfl
def k_lcR (c : Cfg) (s : Sd) (own : List Nat) (t : T) (g : OE) (e : E) (Q : D → HH → Prop) : List D × Gd → HH → Prop := fun p H => (lcL p.2 (asT t) (evOT c g) (evE c e) (wipeD s own) p.1 [] H).wp (k_ref Q)
@[simp] theorem k_lcR_ (c : Cfg) (s : Sd) (own : List Nat) (t : T) (g : OE) (e : E) (Q : D → HH → Prop) (p : List D × Gd) (H : HH) : k_lcR c s own t g e Q p H = ((lcL p.2 (asT t) (evOT c g) (evE c e) (wipeD s own) p.1 [] H).wp (k_ref Q)) := rfl
@[simp] theorem w_lcR (own : List Nat) (t : T) (i : I) (g : OE) (e : E) : (evE c (.lcR own t i g e) s H).wp Q = (evI c i s H).wp (k_lcR c s own t g e Q) := by
  rw [evE]; simp only [wp_bind]; rfl
def k_cons2 (d : D) (L : List D → HH → Prop) : List D → HH → Prop := fun ds H => L (d :: ds) H
@[simp] theorem k_cons2_ (d : D) (L : List D → HH → Prop) (ds : List D) (H : HH) : k_cons2 d L ds H = (L (d :: ds) H) := rfl
def k_cons1 (c : Cfg) (s : Sd) (r : Es) (L : List D → HH → Prop) : D → HH → Prop := fun d H => (evEs c r s H).wp (k_cons2 d L)
@[simp] theorem k_cons1_ (c : Cfg) (s : Sd) (r : Es) (L : List D → HH → Prop) (d : D) (H : HH) : k_cons1 c s r L d H = ((evEs c r s H).wp (k_cons2 d L)) := rfl
@[simp] theorem w_nil : (evEs c .nil s H).wp L = L [] H := by rw [evEs]; rfl
@[simp] theorem w_cons (e : E) (r : Es) : (evEs c (.cons e r) s H).wp L = (evE c e s H).wp (k_cons1 c s r L) := by
  rw [evEs]; simp only [wp_bind, wp_ok]; rfl
def k_o (O : Option Int → HH → Prop) : D → HH → Prop := fun x H => match x with | .int i => O (some i) H | _ => False
@[simp] theorem k_o_ (O : Option Int → HH → Prop) (i : Int) (H : HH) : k_o O (.int i) H = O (some i) H := rfl
@[simp] theorem o_wno : (evO c .no s H).wp O = O none H := by rw [evO]; rfl
@[simp] theorem o_wyes (e : E) : (evO c (.yes e) s H).wp O = (evE c e s H).wp (k_o O) := by
  rw [evO, wp_bind]; congr 1; funext x H1; cases x <;> rfl
@[simp] theorem ot_no : (evOT c .no s H).wp B = B true H := by rw [evOT]; rfl
@[simp] theorem ot_yes (e : E) : (evOT c (.yes e) s H).wp B = (evT c e s H).wp B := by rw [evOT]
def k_tno (B : Bool → HH → Prop) : Bool → HH → Prop := fun k H => B (!k) H
@[simp] theorem k_tno_ (B : Bool → HH → Prop) (k : Bool) (H : HH) : k_tno B k H = (B (!k) H) := rfl
@[simp] theorem t_wno (a : E) : (evT c (.no a) s H).wp B = (evT c a s H).wp (k_tno B) := by rw [evT]; simp only [wp_bind, wp_ok]; rfl
def k_tand (c : Cfg) (s : Sd) (b : E) (B : Bool → HH → Prop) : Bool → HH → Prop := fun k H => if k = true then (evT c b s H).wp B else B false H
@[simp] theorem k_tand_ (c : Cfg) (s : Sd) (b : E) (B : Bool → HH → Prop) (k : Bool) (H : HH) : k_tand c s b B k H = (if k = true then (evT c b s H).wp B else B false H) := rfl
@[simp] theorem t_wand (a b : E) : (evT c (.and a b) s H).wp B = (evT c a s H).wp (k_tand c s b B) := by
  rw [evT]; simp only [wp_bind, wp_ite, wp_ok]; rfl
def k_tor (c : Cfg) (s : Sd) (b : E) (B : Bool → HH → Prop) : Bool → HH → Prop := fun k H => if k = true then B true H else (evT c b s H).wp B
@[simp] theorem k_tor_ (c : Cfg) (s : Sd) (b : E) (B : Bool → HH → Prop) (k : Bool) (H : HH) : k_tor c s b B k H = (if k = true then B true H else (evT c b s H).wp B) := rfl
@[simp] theorem t_wor (a b : E) : (evT c (.or a b) s H).wp B = (evT c a s H).wp (k_tor c s b B) := by
  rw [evT]; simp only [wp_bind, wp_ite, wp_ok]; rfl
def k_tv (B : Bool → HH → Prop) : D → HH → Prop := fun x H => ow (truD (viewD H x)) B H
@[simp] theorem k_tv_ (B : Bool → HH → Prop) (x : D) (H : HH) : k_tv B x H = (ow (truD (viewD H x)) B H) := rfl
/-- any other test is its value's truth -/
theorem t_wval {d : E} (h : valE d = true) : (evT c d s H).wp B = (evE c d s H).wp (k_tv B) := by
  rw [valE_ok h]; simp only [wp_bind, wp_ow]; rfl
@[simp] theorem t_wloc (i : Nat) : (evT c (.loc i) s H).wp B = (evE c (.loc i) s H).wp (k_tv B) := t_wval rfl
@[simp] theorem t_wix (a b : E) : (evT c (.ix a b) s H).wp B = (evE c (.ix a b) s H).wp (k_tv B) := t_wval rfl
@[simp] theorem t_wsl (a : E) (l h : OE) : (evT c (.sl a l h) s H).wp B = (evE c (.sl a l h) s H).wp (k_tv B) := t_wval rfl
@[simp] theorem t_wcall (f : Nat) (es ks : Es) (kw : List Nat) : (evT c (.call f es ks kw) s H).wp B = (evE c (.call f es ks kw) s H).wp (k_tv B) := t_wval rfl
@[simp] theorem t_wpcall (f : Nat) (es ks : Es) (kw : List Nat) : (evT c (.pcall f es ks kw) s H).wp B = (evE c (.pcall f es ks kw) s H).wp (k_tv B) := t_wval rfl
@[simp] theorem t_wbi (b : BI) (es : Es) : (evT c (.bi b es) s H).wp B = (evE c (.bi b es) s H).wp (k_tv B) := t_wval rfl
@[simp] theorem t_wmt (m : MT) (o : E) (es : Es) : (evT c (.mt m o es) s H).wp B = (evE c (.mt m o es) s H).wp (k_tv B) := t_wval rfl
@[simp] theorem t_wisi (a : E) (n : String) : (evT c (.isi a n) s H).wp B = (evE c (.isi a n) s H).wp (k_tv B) := t_wval rfl
@[simp] theorem t_wbin (o : Operator) (a b : E) : (evT c (.bin o a b) s H).wp B = (evE c (.bin o a b) s H).wp (k_tv B) := t_wval rfl
@[simp] theorem t_wcst (d : D) : (evT c (.cst d) s H).wp B = (evE c (.cst d) s H).wp (k_tv B) := t_wval rfl
@[simp] theorem t_wglb (g : Nat) : (evT c (.glb g) s H).wp B = (evE c (.glb g) s H).wp (k_tv B) := t_wval rfl
@[simp] theorem t_wlst (es : Es) : (evT c (.lst es) s H).wp B = (evE c (.lst es) s H).wp (k_tv B) := t_wval rfl
@[simp] theorem t_wlc (own : List Nat) (t : T) (i : I) (g : OE) (e : E) : (evT c (.lc own t i g e) s H).wp B = (evE c (.lc own t i g e) s H).wp (k_tv B) := t_wval rfl
def k_ival (J : List D × Gd → HH → Prop) : D → HH → Prop := fun x H => ow (itemsD H x) J H
@[simp] theorem k_ival_ (J : List D × Gd → HH → Prop) (x : D) (H : HH) : k_ival J x H = (ow (itemsD H x) J H) := rfl
@[simp] theorem i_wval (e : E) : (evI c (.val e) s H).wp J = (evE c e s H).wp (k_ival J) := by rw [evI]; simp only [wp_bind, wp_ow]; rfl
def mkR (xs : List D) : List D × Gd := (xs, [])
@[simp] theorem mkR_ (xs : List D) : mkR xs = (xs, []) := rfl
def k_irng (J : List D × Gd → HH → Prop) : List D → HH → Prop := fun ds H => ow (rangeD ds) (km mkR J) H
@[simp] theorem k_irng_ (J : List D × Gd → HH → Prop) (ds : List D) (H : HH) : k_irng J ds H = (ow (rangeD ds) (km mkR J) H) := rfl
@[simp] theorem i_wrange (es : Es) : (evI c (.range es) s H).wp J = (evEs c es s H).wp (k_irng J) := by rw [evI]; simp only [wp_bind, wp_owm]; rfl
def mkE (p : List D × Gd) : List D × Gd := (enumD p.1, p.2)
@[simp] theorem mkE_ (p : List D × Gd) : mkE p = (enumD p.1, p.2) := rfl
def k_ienum (J : List D × Gd → HH → Prop) : D → HH → Prop := fun x H => ow (enD H x) (km mkE J) H
@[simp] theorem k_ienum_ (J : List D × Gd → HH → Prop) (x : D) (H : HH) : k_ienum J x H = (ow (enD H x) (km mkE J) H) := rfl
@[simp] theorem i_wenum (e : E) : (evI c (.enum e) s H).wp J = (evE c e s H).wp (k_ienum J) := by rw [evI]; simp only [wp_bind, wp_owm]; rfl
def k_izip2 (x : D) (J : List D × Gd → HH → Prop) : D → HH → Prop := fun y H => ow (zipI H x y) J H
@[simp] theorem k_izip2_ (x : D) (J : List D × Gd → HH → Prop) (y : D) (H : HH) : k_izip2 x J y H = (ow (zipI H x y) J H) := rfl
def k_izip1 (c : Cfg) (s : Sd) (b : E) (J : List D × Gd → HH → Prop) : D → HH → Prop := fun x H => (evE c b s H).wp (k_izip2 x J)
@[simp] theorem k_izip1_ (c : Cfg) (s : Sd) (b : E) (J : List D × Gd → HH → Prop) (x : D) (H : HH) : k_izip1 c s b J x H = ((evE c b s H).wp (k_izip2 x J)) := rfl
@[simp] theorem i_wzip (a b : E) : (evI c (.zip a b) s H).wp J = (evE c a s H).wp (k_izip1 c s b J) := by rw [evI]; simp only [wp_bind, wp_ow]; rfl
def oS (o : Option Sd) (F : Fl → HH → Prop) (H : HH) : Prop := match o with | some s => F (.nx s) H | none => False
@[simp] theorem oS_some (s : Sd) (F : Fl → HH → Prop) (H : HH) : oS (some s) F H = F (.nx s) H := rfl
def k_asg (s : Sd) (t : T) (F : Fl → HH → Prop) : D → HH → Prop := fun d H => oS (asT t d s) F H
@[simp] theorem k_asg_ (s : Sd) (t : T) (F : Fl → HH → Prop) (d : D) (H : HH) : k_asg s t F d H = (oS (asT t d s) F H) := rfl
@[simp] theorem z_asg (t : T) (e : E) : (evS c (.asg t e) s H).wp F = (evE c e s H).wp (k_asg s t F) := by
  rw [evS, swp_st]; congr 1; funext d H1; rw [k_asg_]; cases asT t d s <;> rfl
def k_sub3 (s : Sd) (d : D) (x : D) (F : Fl → HH → Prop) : D → HH → Prop := fun y H => (setE x y d s H).wp F
@[simp] theorem k_sub3_ (s : Sd) (d : D) (x : D) (F : Fl → HH → Prop) (y : D) (H : HH) : k_sub3 s d x F y H = ((setE x y d s H).wp F) := rfl
def k_sub2 (c : Cfg) (s : Sd) (i : E) (d : D) (F : Fl → HH → Prop) : D → HH → Prop := fun x H => (evE c i s H).wp (k_sub3 s d x F)
@[simp] theorem k_sub2_ (c : Cfg) (s : Sd) (i : E) (d : D) (F : Fl → HH → Prop) (x : D) (H : HH) : k_sub2 c s i d F x H = ((evE c i s H).wp (k_sub3 s d x F)) := rfl
def k_sub1 (c : Cfg) (s : Sd) (o : E) (i : E) (F : Fl → HH → Prop) : D → HH → Prop := fun d H => (evE c o s H).wp (k_sub2 c s i d F)
@[simp] theorem k_sub1_ (c : Cfg) (s : Sd) (o : E) (i : E) (F : Fl → HH → Prop) (d : D) (H : HH) : k_sub1 c s o i F d H = ((evE c o s H).wp (k_sub2 c s i d F)) := rfl
@[simp] theorem z_sub (o i e : E) : (evS c (.sub o i e) s H).wp F = (evE c e s H).wp (k_sub1 c s o i F) := by rw [evS]; simp only [swp_st]; rfl
def k_par2 (s : Sd) (i : Nat) (j : Nat) (x : D) (F : Fl → HH → Prop) : D → HH → Prop := fun y H => F (.nx ((s.set i (some x)).set j (some y))) H
@[simp] theorem k_par2_ (s : Sd) (i : Nat) (j : Nat) (x : D) (F : Fl → HH → Prop) (y : D) (H : HH) : k_par2 s i j x F y H = (F (.nx ((s.set i (some x)).set j (some y))) H) := rfl
def k_par1 (c : Cfg) (s : Sd) (i : Nat) (j : Nat) (b : E) (F : Fl → HH → Prop) : D → HH → Prop := fun x H => (evE c b s H).wp (k_par2 s i j x F)
@[simp] theorem k_par1_ (c : Cfg) (s : Sd) (i : Nat) (j : Nat) (b : E) (F : Fl → HH → Prop) (x : D) (H : HH) : k_par1 c s i j b F x H = ((evE c b s H).wp (k_par2 s i j x F)) := rfl
@[simp] theorem z_par (i j : Nat) (a b : E) : (evS c (.par i j a b) s H).wp F = (evE c a s H).wp (k_par1 c s i j b F) := by rw [evS]; simp only [swp_st, swp_go]; rfl
def k_aug3 (s : Sd) (i : Nat) (F : Fl → HH → Prop) : D → HH → Prop := fun z H => F (.nx (s.set i (some z))) H
@[simp] theorem k_aug3_ (s : Sd) (i : Nat) (F : Fl → HH → Prop) (z : D) (H : HH) : k_aug3 s i F z H = (F (.nx (s.set i (some z))) H) := rfl
def k_aug2 (s : Sd) (i : Nat) (o : Operator) (x : D) (F : Fl → HH → Prop) : D → HH → Prop := fun y H => ow (augD H o x y) (k_aug3 s i F) H
@[simp] theorem k_aug2_ (s : Sd) (i : Nat) (o : Operator) (x : D) (F : Fl → HH → Prop) (y : D) (H : HH) : k_aug2 s i o x F y H = (ow (augD H o x y) (k_aug3 s i F) H) := rfl
def k_aug1 (c : Cfg) (s : Sd) (i : Nat) (o : Operator) (e : E) (F : Fl → HH → Prop) : D → HH → Prop := fun x H => (evE c e s H).wp (k_aug2 s i o x F)
@[simp] theorem k_aug1_ (c : Cfg) (s : Sd) (i : Nat) (o : Operator) (e : E) (F : Fl → HH → Prop) (x : D) (H : HH) : k_aug1 c s i o e F x H = ((evE c e s H).wp (k_aug2 s i o x F)) := rfl
@[simp] theorem z_aug (i : Nat) (o : Operator) (e : E) : (evS c (.aug i o e) s H).wp F = ow (s[i]?.bind id) (k_aug1 c s i o e F) H := by
  rw [evS]
  cases s[i]? with
  | none => rfl
  | some q =>
    cases q with
    | none => rfl
    | some x =>
      dsimp only
      rw [swp_st]
      show _ = (evE c e s H).wp (k_aug2 s i o x F)
      congr 1; funext y H1; rw [k_aug2_]
      cases augD H1 o x y <;> rfl
def k_ex (s : Sd) (F : Fl → HH → Prop) : D → HH → Prop := fun _d H => F (.nx s) H
@[simp] theorem k_ex_ (s : Sd) (F : Fl → HH → Prop) (_d : D) (H : HH) : k_ex s F _d H = (F (.nx s) H) := rfl
@[simp] theorem z_ex (e : E) : (evS c (.ex e) s H).wp F = (evE c e s H).wp (k_ex s F) := by rw [evS]; simp only [swp_st, swp_go]; rfl
def k_ret (F : Fl → HH → Prop) : D → HH → Prop := fun d H => F (.rt d) H
@[simp] theorem k_ret_ (F : Fl → HH → Prop) (d : D) (H : HH) : k_ret F d H = (F (.rt d) H) := rfl
@[simp] theorem z_ret (e : E) : (evS c (.ret e) s H).wp F = (evE c e s H).wp (k_ret F) := by rw [evS]; simp only [swp_st, swp_go]; rfl
@[simp] theorem z_retN : (evS c .retN s H).wp F = F (.rt .non) H := by rw [evS]; rfl
theorem swp_ite (k : Prop) [Decidable k] (r r0 : RS) : (if k then r else r0).wp F = if k then r.wp F else r0.wp F := by split <;> rfl
def k_if (c : Cfg) (s : Sd) (a : Ss) (b : Ss) (F : Fl → HH → Prop) : Bool → HH → Prop := fun k H => if k = true then (evSs c a s H).wp F else (evSs c b s H).wp F
@[simp] theorem k_if_ (c : Cfg) (s : Sd) (a : Ss) (b : Ss) (F : Fl → HH → Prop) (k : Bool) (H : HH) : k_if c s a b F k H = (if k = true then (evSs c a s H).wp F else (evSs c b s H).wp F) := rfl
@[simp] theorem z_ite (t : E) (a b : Ss) : (evS c (.ite t a b) s H).wp F = (evT c t s H).wp (k_if c s a b F) := by rw [evS]; simp only [swp_st, swp_ite]; rfl
@[simp] theorem z_whl (t : E) (b : Ss) : (evS c (.whl t b) s H).wp F = (whileL (evT c t) (evSs c b) c.fuel s H).wp F := by rw [evS]
def k_for (c : Cfg) (s : Sd) (t : T) (b : Ss) (F : Fl → HH → Prop) : List D × Gd → HH → Prop := fun p H => (forL p.2 (asT t) (evSs c b) p.1 s H).wp F
@[simp] theorem k_for_ (c : Cfg) (s : Sd) (t : T) (b : Ss) (F : Fl → HH → Prop) (p : List D × Gd) (H : HH) : k_for c s t b F p H = ((forL p.2 (asT t) (evSs c b) p.1 s H).wp F) := rfl
@[simp] theorem z_forr (t : T) (i : I) (b : Ss) : (evS c (.forr t i b) s H).wp F = (evI c i s H).wp (k_for c s t b F) := by rw [evS]; simp only [swp_st]; rfl
@[simp] theorem z_brk : (evS c .brk s H).wp F = F (.bk s) H := by rw [evS]; rfl
@[simp] theorem z_cnt : (evS c .cnt s H).wp F = F (.ct s) H := by rw [evS]; rfl
@[simp] theorem z_pas : (evS c .pas s H).wp F = F (.nx s) H := by rw [evS]; rfl
/-- a def's end -/
def kRun (Q : D → HH → Prop) : Fl → HH → Prop := fun fl H => match fl with
  | .nx _ => Q .non H
  | .rt d => Q d H
  | _ => False
@[simp] theorem kRun_nx (Q : D → HH → Prop) (s : Sd) (H : HH) : kRun Q (.nx s) H = Q .non H := rfl
@[simp] theorem kRun_rt (Q : D → HH → Prop) (d : D) (H : HH) : kRun Q (.rt d) H = Q d H := rfl
theorem run_k {f : Fd} {ds : List D} (hl : ds.length = f.params.length) (h : (evSs c f.body (startD f ds) H).wp (kRun Q)) : (runB f c ds H).wp Q := run_wp hl (swp_mono h fun fl H h => by cases fl <;> exact h)
@[simp] theorem a_nm (i : Nat) (d : D) : asT (.nm i) d s = some (s.set i (some d)) := by rw [asT]
@[simp] theorem a_tp (ts : Ts) (xs : List D) : asT (.tp ts) (.tup xs) s = asTs ts xs s := by rw [asT]
@[simp] theorem a_tpl (ts : Ts) (xs : List D) : asT (.tp ts) (.lv xs) s = asTs ts xs s := by rw [asT]
@[simp] theorem a_nil : asTs .nil [] s = some s := by rw [asTs]
@[simp] theorem a_cons (t : T) (r : Ts) (x : D) (xs : List D) : asTs (.cons t r) (x :: xs) s = (asT t x s).bind (asTs r xs) := by
  rw [asTs]; cases asT t x s <;> rfl
@[simp] theorem a_st (t : T) (r : Ts) (xs : List D) (h : stIx r = none) : asTs (.st t r) xs s = if lenTs r ≤ xs.length then (asT t (.lv (xs.take (xs.length - lenTs r))) s).bind (asTs r (xs.drop (xs.length - lenTs r))) else none := by
  rw [asTs]
  simp only [h, true_and]
  split
  · cases asT t (.lv (xs.take (xs.length - lenTs r))) s <;> rfl
  · rfl
@[simp] theorem a_st0 (t : T) (xs : List D) : asTs (.st t .nil) xs s = asT t (.lv xs) s := by
  rw [asTs]
  simp only [stIx, lenTs, Nat.sub_zero, List.take_length, List.drop_length, Nat.zero_le, and_self, if_true]
  cases asT t (.lv xs) s with
  | none => rfl
  | some s1 => simp
@[simp] theorem wipe_nil : wipeD s [] = s := rfl
@[simp] theorem wipe_cons (v : Nat) (vs : List Nat) : wipeD s (v :: vs) = (wipeD s vs).set v none := rfl
@[simp] theorem b_add (i j : Int) : binD .Add (.int i) (.int j) = some (.int (i + j)) := rfl
@[simp] theorem b_sub (i j : Int) : binD .Sub (.int i) (.int j) = some (.int (i - j)) := rfl
@[simp] theorem b_cat (a b : List D) : binD .Add (.lv a) (.lv b) = if a.length + b.length ≤ lim then some (.lv (a ++ b)) else none := rfl
@[simp] theorem b_catT (a b : List D) : binD .Add (.tup a) (.tup b) = if a.length + b.length ≤ lim then some (.tup (a ++ b)) else none := rfl
theorem b_repS (a : List Nat) {j : Int} (h : smallI (4 * j) = true) (h2 : a.length * j.toNat ≤ lim) : binD .Mult (.str a) (.int j) = some (.str (List.replicate j.toNat a).flatten) := by
  show (if smallI (4 * j) && decide (a.length * j.toNat ≤ lim) then _ else _) = _
  rw [if_pos (by simp [h, h2])]
@[simp] theorem b_catS (a b : List Nat) : binD .Add (.str a) (.str b) = if a.length + b.length ≤ lim then some (.str (a ++ b)) else none := rfl
theorem b_mul {i j : Int} (h : smallI i = true ∨ smallI j = true) : binD .Mult (.int i) (.int j) = some (.int (i * j)) := by
  show (if smallI i || smallI j then _ else _) = _
  rw [if_pos (by simpa using h)]
theorem b_mod {i j : Int} (h : 0 < j) : binD .Mod (.int i) (.int j) = some (.int (i % j)) := if_pos h
theorem b_div {i j : Int} (h : 0 < j) (h2 : j < 1073741824) : binD .FloorDiv (.int i) (.int j) = some (.int (i / j)) := by
  show (if decide (0 < j) && decide (j < 1073741824) then _ else _) = _
  rw [if_pos (by simp [h, h2])]
theorem small_of {i : Int} (h : -(2 ^ 64) < i) (h2 : i < 2 ^ 64) : smallI i = true := by unfold smallI; simp only [decide_eq_true_eq]; exact ⟨h, h2⟩
@[simp] theorem c_lt (i j : Int) : cmpD .Lt (.int i) (.int j) = some (decide (i < j)) := rfl
@[simp] theorem c_le (i j : Int) : cmpD .LtE (.int i) (.int j) = some (decide (i ≤ j)) := rfl
@[simp] theorem c_gt (i j : Int) : cmpD .Gt (.int i) (.int j) = some (decide (j < i)) := rfl
@[simp] theorem c_ge (i j : Int) : cmpD .GtE (.int i) (.int j) = some (decide (j ≤ i)) := rfl
@[simp] theorem c_eqI (i j : Int) : cmpD .Eq (.int i) (.int j) = some (i == j) := by simp [cmpD, eqN, eqO, eqOk, plainD, okS, depthD, eqD]
@[simp] theorem c_neI (i j : Int) : cmpD .NotEq (.int i) (.int j) = some (!(i == j)) := by simp [cmpD, eqO, eqOk, plainD, okS, depthD, eqD]
@[simp] theorem c_eqS (i j : List Nat) : cmpD .Eq (.str i) (.str j) = some (i == j) := rfl
@[simp] theorem c_neS (i j : List Nat) : cmpD .NotEq (.str i) (.str j) = some (!(i == j)) := rfl
theorem e_lv0 (xs : List D) : eqD (.lv xs) (.lv []) = xs.isEmpty := by rw [eqD]; cases xs <;> (unfold eqDs; rfl)
theorem c_eq {x y : D} (h : eqOk x = true) (h2 : eqOk y = true) : cmpD .Eq x y = some (eqD x y) := by
  simp only [cmpD]
  unfold eqN
  split
  · rename_i xs
    rw [e_lv0]
  unfold eqO
  split
  · simp only [eqD]
  · simp [h, h2]
theorem c_ne {x y : D} (h : eqOk x = true) (h2 : eqOk y = true) : cmpD .NotEq x y = some (!eqD x y) := by
  simp only [cmpD]
  unfold eqO
  split
  · simp only [eqD]; rfl
  · simp [h, h2]
@[simp] theorem c_isN (x : D) : cmpD .Is x .non = some (match x with | .non => true | _ => false) := rfl
@[simp] theorem c_notN (x : D) : cmpD .IsNot x .non = some (match x with | .non => false | _ => true) := rfl
@[simp] theorem c_isB (a b : Bool) : cmpD .Is (.bl a) (.bl b) = some (decide (a = b)) := rfl
@[simp] theorem c_notB (a b : Bool) : cmpD .IsNot (.bl a) (.bl b) = some (!decide (a = b)) := rfl
@[simp] theorem c_nin (x y : D) : cmpD .NotIn x y = (inD x y).map (!·) := rfl
@[simp] theorem c_in (x y : D) : cmpD .In x y = inD x y := rfl
@[simp] theorem tr_bl (b : Bool) : truD (.bl b) = some b := rfl
@[simp] theorem tr_non : truD .non = some false := rfl
@[simp] theorem tr_int (i : Int) : truD (.int i) = some (i != 0) := rfl
@[simp] theorem tr_lv (xs : List D) : truD (.lv xs) = some (!xs.isEmpty) := rfl
@[simp] theorem tr_tup (xs : List D) : truD (.tup xs) = some (!xs.isEmpty) := rfl
@[simp] theorem x_lv (xs : List D) (i : Int) : ixD (.lv xs) (.int i) = L2.atI xs i := rfl
@[simp] theorem x_fz (xs : List D) (i : Int) : ixD (.fz xs) (.int i) = L2.atI xs i := rfl
@[simp] theorem x_tup (xs : List D) (i : Int) : ixD (.tup xs) (.int i) = L2.atI xs i := rfl
theorem at_nat {A : Type} {xs : List A} {i : Int} {n : Nat} (h : i = (n : Int)) (hl : n < xs.length) : L2.atI xs i = xs[n]? := by
  subst h
  unfold L2.atI L2.ixN
  rw [if_pos (by omega), if_pos (by omega)]
  simp
@[simp] theorem at_0 {A : Type} (x : A) (xs : List A) : L2.atI (x :: xs) 0 = some x := (at_nat (xs := x :: xs) (n := 0) rfl (by simp)).trans rfl
@[simp] theorem at_1 {A : Type} (x y : A) (xs : List A) : L2.atI (x :: y :: xs) 1 = some y := (at_nat (xs := x :: y :: xs) (n := 1) rfl (by simp)).trans rfl
@[simp] theorem at_2 {A : Type} (x y z : A) (xs : List A) : L2.atI (x :: y :: z :: xs) 2 = some z := (at_nat (xs := x :: y :: z :: xs) (n := 2) rfl (by simp)).trans rfl
theorem at_last {A : Type} (xs : List A) (y : A) : L2.atI (xs ++ [y]) (-1) = some y := by
  unfold L2.atI L2.ixN
  rw [if_neg (by omega), List.length_append, List.length_singleton, if_pos (by omega)]
  have e : (-1 + ((xs.length + 1 : Nat) : Int)).toNat = xs.length := by omega
  show (some _).bind _ = _
  rw [e]
  simp
theorem get_set {r : Nat} {o x : HD} (h : H[r]? = some o) : (H.set r x)[r]? = some x := by
  rw [List.getElem?_set_self (List.getElem?_eq_some_iff.mp h).1]
theorem set_ok {r : Nat} {xs : List D} {k : Int} {j : Nat} {d : D} (h : H[r]? = some (.lst xs)) (hj : L2.ixN xs.length k = some j) : setE (.ref r) (.int k) d s H = .go (.nx s) (H.set r (.lst (xs.set j d))) := by
  unfold setE
  simp only [h, hj]
theorem app_ok {r : Nat} {xs : List D} {d : D} (h : H[r]? = some (.lst xs)) (hl : xs.length < lim) : mtE .append (.ref r) [d] H = .ok .non (H.set r (.lst (xs ++ [d]))) := by
  simp [mtE, isMu, muD, h, hl]
theorem items_ref {r : Nat} {xs : List D} (h : H[r]? = some (.lst xs)) : itemsD H (.ref r) = some (xs, [(r, xs)]) := by simp [itemsD, h]
@[simp] theorem items_lv (xs : List D) : itemsD H (.lv xs) = some (xs, []) := rfl
@[simp] theorem items_fz (xs : List D) : itemsD H (.fz xs) = some (xs, []) := rfl
@[simp] theorem items_tup (xs : List D) : itemsD H (.tup xs) = some (xs, []) := rfl
@[simp] theorem gd_nil : gdOk [] H = true := rfl
theorem gd_one {r : Nat} {xs : List D} (h : H[r]? = some (.lst xs)) : gdOk [(r, xs)] H = true := by simp [gdOk, h, sames_refl]
theorem range1 {j : Int} (h : -(2 ^ 62) ≤ j) (h2 : j < 2 ^ 62) : rangeD [.int j] = some ((List.range j.toNat).map fun (k : Nat) => D.int k) := by
  show (if decide _ && decide _ then _ else _) = _
  rw [if_pos (by rw [Bool.and_eq_true, decide_eq_true_eq, decide_eq_true_eq]; exact ⟨h, h2⟩)]
theorem range2 {i j : Int} (h : -(2 ^ 62) ≤ i) (h2 : i < 2 ^ 62) (h3 : -(2 ^ 62) ≤ j) (h4 : j < 2 ^ 62) : rangeD [.int i, .int j] = some ((List.range (j - i).toNat).map fun (k : Nat) => D.int (i + (k : Nat))) := by
  show (if decide _ && decide _ && decide _ && decide _ then _ else _) = _
  rw [if_pos (by simp only [Bool.and_eq_true, decide_eq_true_eq]; exact ⟨⟨⟨h, h2⟩, h3⟩, h4⟩)]
theorem sm_mod {x n : Int} (h : 0 < n) (h2 : n < 2 ^ 64) : smallI (x % n) = true := small_of (by have := Int.emod_nonneg x (show n ≠ 0 by omega); omega) (by have := Int.emod_lt_of_pos x h; omega)
theorem cut_to {A : Type} (xs : List A) {i : Int} (h : 0 ≤ i) : cutD xs none (some i) = xs.take i.toNat := by
  obtain ⟨n, rfl⟩ := Int.eq_ofNat_of_zero_le h
  unfold cutD
  show (xs.drop 0).take (HT.sIx xs.length xs.length (some (n : Int)) - 0) = _
  rw [HT.sIx_nat, List.drop_zero, Nat.sub_zero, Int.toNat_natCast, List.take_eq_take_iff]
  omega
@[simp] theorem e_tup (xs ys : List D) : eqD (.tup xs) (.tup ys) = eqDs xs ys := by rw [eqD]
@[simp] theorem e_lv (xs ys : List D) : eqD (.lv xs) (.lv ys) = eqDs xs ys := by rw [eqD]
@[simp] theorem e_str (x y : List Nat) : eqD (.str x) (.str y) = (x == y) := by rw [eqD]
@[simp] theorem e_int (x y : Int) : eqD (.int x) (.int y) = (x == y) := by rw [eqD]
@[simp] theorem e_bl (x y : Bool) : eqD (.bl x) (.bl y) = (x == y) := by rw [eqD]
@[simp] theorem e_nil : eqDs [] [] = true := by rw [eqDs]
@[simp] theorem e_cons (x y : D) (xs ys : List D) : eqDs (x :: xs) (y :: ys) = (eqD x y && eqDs xs ys) := by rw [eqDs]
theorem ints_map : ∀ ns : List Int, intsOf (ns.map D.int) = some ns
  | [] => rfl
  | n :: r => by simp [intsOf, ints_map r]
end
end DI
namespace DI
open PySem
section
variable {c : Cfg} {s : Sd} {H : HH} {Q : D → HH → Prop} {B : Bool → HH → Prop} {F : Fl → HH → Prop}
theorem v_dic {r : Nat} {ks vs : List D} (h : H[r]? = some (.dic ks vs)) : viewD H (.ref r) = .dv ks vs := by simp only [viewD, h]
@[simp] theorem v_dv (ks vs : List D) : viewD H (.dv ks vs) = .dv ks vs := rfl
@[simp] theorem w_dnew : (evE c .dnew s H).wp Q = Q (.ref H.length) (H ++ [.dic [] []]) := by rw [evE]; rfl
def k_dg2 (x : D) (Q : D → HH → Prop) : D → HH → Prop := fun y H => ow (dgetD (viewD H x) y) Q H
@[simp] theorem k_dg2_ (x : D) (Q : D → HH → Prop) (y : D) (H : HH) : k_dg2 x Q y H = ow (dgetD (viewD H x) y) Q H := rfl
def k_dg1 (c : Cfg) (s : Sd) (b : E) (Q : D → HH → Prop) : D → HH → Prop := fun x H => (evE c b s H).wp (k_dg2 x Q)
@[simp] theorem k_dg1_ (c : Cfg) (s : Sd) (b : E) (Q : D → HH → Prop) (x : D) (H : HH) : k_dg1 c s b Q x H = (evE c b s H).wp (k_dg2 x Q) := rfl
@[simp] theorem w_dget (a b : E) : (evE c (.dget a b) s H).wp Q = (evE c a s H).wp (k_dg1 c s b Q) := by rw [evE]; simp only [wp_bind, wp_ow]; rfl
def k_dh3 (x y : D) (Q : D → HH → Prop) : D → HH → Prop := fun z H => ow (dget2D (viewD H x) y z) Q H
@[simp] theorem k_dh3_ (x y : D) (Q : D → HH → Prop) (z : D) (H : HH) : k_dh3 x y Q z H = ow (dget2D (viewD H x) y z) Q H := rfl
def k_dh2 (c : Cfg) (s : Sd) (d : E) (x : D) (Q : D → HH → Prop) : D → HH → Prop := fun y H => (evE c d s H).wp (k_dh3 x y Q)
@[simp] theorem k_dh2_ (c : Cfg) (s : Sd) (d : E) (x : D) (Q : D → HH → Prop) (y : D) (H : HH) : k_dh2 c s d x Q y H = (evE c d s H).wp (k_dh3 x y Q) := rfl
def k_dh1 (c : Cfg) (s : Sd) (b d : E) (Q : D → HH → Prop) : D → HH → Prop := fun x H => isDv (viewD H x) = true ∧ (evE c b s H).wp (k_dh2 c s d x Q)
@[simp] theorem k_dh1_ (c : Cfg) (s : Sd) (b d : E) (Q : D → HH → Prop) (x : D) (H : HH) : k_dh1 c s b d Q x H = (isDv (viewD H x) = true ∧ (evE c b s H).wp (k_dh2 c s d x Q)) := rfl
@[simp] theorem w_dget2 (a b d : E) : (evE c (.dget2 a b d) s H).wp Q = (evE c a s H).wp (k_dh1 c s b d Q) := by
  rw [evE]
  simp only [wp_bind]
  congr 1
  funext x H1
  show _ = (isDv (viewD H1 x) = true ∧ _)
  by_cases h : isDv (viewD H1 x) = true
  · rw [if_pos h]
    simp only [wp_bind, wp_ow, h, true_and]
    rfl
  · rw [if_neg h]
    simp [h]
@[simp] theorem isDv_ (ks vs : List D) : isDv (.dv ks vs) = true := rfl
@[simp] theorem keyOk_int (i : Int) : keyOk (.int i) = true := rfl
@[simp] theorem keyOk_str (x : List Nat) : keyOk (.str x) = true := rfl
@[simp] theorem dget_int (ks vs : List D) (i : Int) : dgetD (.dv ks vs) (.int i) = dgetL ks vs (.int i) := rfl
@[simp] theorem dget_str (ks vs : List D) (x : List Nat) : dgetD (.dv ks vs) (.str x) = dgetL ks vs (.str x) := rfl
@[simp] theorem dget2_int (ks vs : List D) (i : Int) (z : D) : dget2D (.dv ks vs) (.int i) z = some ((dgetL ks vs (.int i)).getD z) := rfl
@[simp] theorem dget2_str (ks vs : List D) (x : List Nat) (z : D) : dget2D (.dv ks vs) (.str x) z = some ((dgetL ks vs (.str x)).getD z) := rfl
def k_dp3 (s : Sd) (d x : D) (F : Fl → HH → Prop) : D → HH → Prop := fun y H => (putE x y d s H).wp F
@[simp] theorem k_dp3_ (s : Sd) (d x : D) (F : Fl → HH → Prop) (y : D) (H : HH) : k_dp3 s d x F y H = (putE x y d s H).wp F := rfl
def k_dp2 (c : Cfg) (s : Sd) (i : E) (d : D) (F : Fl → HH → Prop) : D → HH → Prop := fun x H => (evE c i s H).wp (k_dp3 s d x F)
@[simp] theorem k_dp2_ (c : Cfg) (s : Sd) (i : E) (d : D) (F : Fl → HH → Prop) (x : D) (H : HH) : k_dp2 c s i d F x H = (evE c i s H).wp (k_dp3 s d x F) := rfl
def k_dp1 (c : Cfg) (s : Sd) (o i : E) (F : Fl → HH → Prop) : D → HH → Prop := fun d H => (evE c o s H).wp (k_dp2 c s i d F)
@[simp] theorem k_dp1_ (c : Cfg) (s : Sd) (o i : E) (F : Fl → HH → Prop) (d : D) (H : HH) : k_dp1 c s o i F d H = (evE c o s H).wp (k_dp2 c s i d F) := rfl
@[simp] theorem z_dput (o i e : E) : (evS c (.dput o i e) s H).wp F = (evE c e s H).wp (k_dp1 c s o i F) := by rw [evS]; simp only [swp_st]; rfl
theorem put_wp {r : Nat} {ks vs : List D} {y d : D} (h : H[r]? = some (.dic ks vs)) (hk : keyOk y = true) (hl : ks.length < lim) (q : F (.nx s) (H.set r (.dic (dputL ks vs y d).1 (dputL ks vs y d).2))) : (putE (.ref r) y d s H).wp F := by
  unfold putE
  simp only [h]
  rw [if_pos ⟨hk, hl⟩]
  exact q
def k_lr1 (Q : D → HH → Prop) : D → HH → Prop := fun x H => ow (lrgD [x]) Q H
@[simp] theorem k_lr1_ (Q : D → HH → Prop) (x : D) (H : HH) : k_lr1 Q x H = ow (lrgD [x]) Q H := rfl
@[simp] theorem w_lrg1 (a : E) : (evE c (.lrg1 a) s H).wp Q = (evE c a s H).wp (k_lr1 Q) := by rw [evE]; simp only [wp_bind, wp_ow]; rfl
def k_lr3 (x : D) (Q : D → HH → Prop) : D → HH → Prop := fun y H => ow (lrgD [x, y]) Q H
@[simp] theorem k_lr3_ (x : D) (Q : D → HH → Prop) (y : D) (H : HH) : k_lr3 x Q y H = ow (lrgD [x, y]) Q H := rfl
def k_lr2 (c : Cfg) (s : Sd) (b : E) (Q : D → HH → Prop) : D → HH → Prop := fun x H => (evE c b s H).wp (k_lr3 x Q)
@[simp] theorem k_lr2_ (c : Cfg) (s : Sd) (b : E) (Q : D → HH → Prop) (x : D) (H : HH) : k_lr2 c s b Q x H = (evE c b s H).wp (k_lr3 x Q) := rfl
@[simp] theorem w_lrg2 (a b : E) : (evE c (.lrg2 a b) s H).wp Q = (evE c a s H).wp (k_lr2 c s b Q) := by rw [evE]; simp only [wp_bind, wp_ow]; rfl
theorem lrg_one {j : Int} (h : 0 ≤ j) (h2 : j ≤ 16777216) : lrgD [.int j] = some (.lv ((List.range j.toNat).map fun (k : Nat) => D.int (k : Nat))) := by
  unfold lrgD
  rw [range1 (by omega) (by omega)]
  exact if_pos (by rw [List.length_map, List.length_range]; show _ ≤ 16777216; omega)
theorem lrg_two {i j : Int} (h : 0 ≤ i) (h1 : i ≤ 16777216) (h2 : 0 ≤ j) (h3 : j ≤ 16777216) : lrgD [.int i, .int j] = some (.lv ((List.range (j - i).toNat).map fun (k : Nat) => D.int (i + (k : Nat)))) := by
  unfold lrgD
  rw [range2 (by omega) (by omega) (by omega) (by omega)]
  exact if_pos (by rw [List.length_map, List.length_range]; show _ ≤ 16777216; omega)
def k_upk (s : Sd) (t : T) (F : Fl → HH → Prop) : D → HH → Prop := fun d H => oS (asV H t d s) F H
@[simp] theorem k_upk_ (s : Sd) (t : T) (F : Fl → HH → Prop) (d : D) (H : HH) : k_upk s t F d H = (oS (asV H t d s) F H) := rfl
@[simp] theorem z_upk (t : T) (e : E) : (evS c (.upk t e) s H).wp F = (evE c e s H).wp (k_upk s t F) := by
  rw [evS, swp_st]; congr 1; funext d H1; rw [k_upk_]; cases asV H1 t d s <;> rfl
theorem as_v {H : HH} {ts : Ts} {d : D} {xs : List D} (h : viewD H d = .lv xs) : asV H (.tp ts) d s = asTs ts xs s := by unfold asV; simp only [h]
def k_dic (Q : D → HH → Prop) : List D × List D → HH → Prop := fun kv H => Q (.ref H.length) (H ++ [.dic kv.1 kv.2])
@[simp] theorem k_dic_ (Q : D → HH → Prop) (kv : List D × List D) (H : HH) : k_dic Q kv H = Q (.ref H.length) (H ++ [.dic kv.1 kv.2]) := rfl
def k_dc (c : Cfg) (s : Sd) (own : List Nat) (t : T) (g : OE) (ek ev : E) (Q : D → HH → Prop) : List D × Gd → HH → Prop := fun p H => (dcL p.2 (asT t) (evOT c g) (evE c ek) (evE c ev) (wipeD s own) p.1 ([], []) H).wp (k_dic Q)
@[simp] theorem k_dc_ (c : Cfg) (s : Sd) (own : List Nat) (t : T) (g : OE) (ek ev : E) (Q : D → HH → Prop) (p : List D × Gd) (H : HH) : k_dc c s own t g ek ev Q p H = ((dcL p.2 (asT t) (evOT c g) (evE c ek) (evE c ev) (wipeD s own) p.1 ([], []) H).wp (k_dic Q)) := rfl
@[simp] theorem w_dc (own : List Nat) (t : T) (i : I) (g : OE) (ek ev : E) : (evE c (.dc own t i g ek ev) s H).wp Q = (evI c i s H).wp (k_dc c s own t g ek ev Q) := by
  rw [evE]; simp only [wp_bind]; rfl
def k_dctP (Q : D → HH → Prop) : List D → HH → Prop := fun ds H => match ds with
  | [x] => ow (dictPD (viewD H x)) (k_dic Q) H
  | _ => False
@[simp] theorem k_dctP_ (Q : D → HH → Prop) (x : D) (H : HH) : k_dctP Q [x] H = ow (dictPD (viewD H x)) (k_dic Q) H := rfl
@[simp] theorem w_dctP (es : Es) : (evE c (.dctP es) s H).wp Q = (evEs c es s H).wp (k_dctP Q) := by
  rw [evE, wp_bind]; congr 1; funext ds H1
  match ds with
  | [] => rfl
  | _ :: _ :: _ => rfl
  | [x] =>
    show _ = ow (dictPD (viewD H1 x)) (k_dic Q) H1
    cases h : dictPD (viewD H1 x) <;> simp [h]
def k_dlit (Q : D → HH → Prop) : List D → HH → Prop := fun ds H => ow (litD ds) (k_dic Q) H
@[simp] theorem k_dlit_ (Q : D → HH → Prop) (ds : List D) (H : HH) : k_dlit Q ds H = ow (litD ds) (k_dic Q) H := rfl
@[simp] theorem w_dlit (es : Es) : (evE c (.dlit es) s H).wp Q = (evEs c es s H).wp (k_dlit Q) := by
  rw [evE, wp_bind]; congr 1; funext ds H1
  show _ = ow (litD ds) (k_dic Q) H1
  cases h : litD ds <;> simp [h]
theorem lit1 {a : List Nat} {x : D} : litD [.str a, x] = some ([.str a], [x]) := rfl
theorem lit2 {a b : List Nat} {x y : D} (h : a ≠ b) : litD [.str a, x, .str b, y] = some ([.str a, .str b], [x, y]) := by
  simp [litD, litL, dputL, dgetL, eqK, keyOk, h]
def k_mrk (x : List Nat) (ch : List (Nat × List Nat)) (Q : D → HH → Prop) : D → HH → Prop := fun y H => ow (mrkD x ch y) Q H
@[simp] theorem k_mrk_ (x : List Nat) (ch : List (Nat × List Nat)) (Q : D → HH → Prop) (y : D) (H : HH) : k_mrk x ch Q y H = ow (mrkD x ch y) Q H := rfl
@[simp] theorem w_mrk (x : List Nat) (ch : List (Nat × List Nat)) (e : E) : (evE c (.mrk x ch e) s H).wp Q = (evE c e s H).wp (k_mrk x ch Q) := by rw [evE]; simp only [wp_bind, wp_ow]; rfl
def k_gget (c : Cfg) (g : Nat) (Q : D → HH → Prop) : D → HH → Prop := fun y H => ow (ggetD (gdat c.consts[g]?).1 (gdat c.consts[g]?).2 y) Q H
@[simp] theorem k_gget_ (c : Cfg) (g : Nat) (Q : D → HH → Prop) (y : D) (H : HH) : k_gget c g Q y H = ow (ggetD (gdat c.consts[g]?).1 (gdat c.consts[g]?).2 y) Q H := rfl
@[simp] theorem w_gget (g : Nat) (b : E) : (evE c (.gget g b) s H).wp Q = (evE c b s H).wp (k_gget c g Q) := by rw [evE]; simp only [wp_bind, wp_ow]; rfl
def k_gin (c : Cfg) (k : Bool) (g : Nat) (B : Bool → HH → Prop) : D → HH → Prop := fun y H => ow (ginD k (gdat c.consts[g]?).1 (gdat c.consts[g]?).2 y) B H
@[simp] theorem k_gin_ (c : Cfg) (k : Bool) (g : Nat) (B : Bool → HH → Prop) (y : D) (H : HH) : k_gin c k g B y H = ow (ginD k (gdat c.consts[g]?).1 (gdat c.consts[g]?).2 y) B H := rfl
@[simp] theorem w_gin (k : Bool) (g : Nat) (a : E) : (evE c (.gin k g a) s H).wp Q = (evE c a s H).wp (k_gin c k g (km .bl Q)) := by rw [evE]; simp only [wp_bind, wp_owm]; rfl
@[simp] theorem t_wgin (k : Bool) (g : Nat) (a : E) : (evT c (.gin k g a) s H).wp B = (evE c a s H).wp (k_gin c k g B) := by rw [evT]; simp only [wp_bind, wp_ow]; rfl
def k_gg3 (c : Cfg) (g : Nat) (y : D) (Q : D → HH → Prop) : D → HH → Prop := fun z H => ow (gget2D (gdat c.consts[g]?).1 (gdat c.consts[g]?).2 y z) Q H
@[simp] theorem k_gg3_ (c : Cfg) (g : Nat) (y : D) (Q : D → HH → Prop) (z : D) (H : HH) : k_gg3 c g y Q z H = ow (gget2D (gdat c.consts[g]?).1 (gdat c.consts[g]?).2 y z) Q H := rfl
def k_gg2 (c : Cfg) (s : Sd) (g : Nat) (b : E) (Q : D → HH → Prop) : D → HH → Prop := fun y H => (evE c b s H).wp (k_gg3 c g y Q)
@[simp] theorem k_gg2_ (c : Cfg) (s : Sd) (g : Nat) (b : E) (Q : D → HH → Prop) (y : D) (H : HH) : k_gg2 c s g b Q y H = (evE c b s H).wp (k_gg3 c g y Q) := rfl
@[simp] theorem w_gget2 (g : Nat) (a b : E) : (evE c (.gget2 g a b) s H).wp Q = (evE c a s H).wp (k_gg2 c s g b Q) := by rw [evE]; simp only [wp_bind, wp_ow]; rfl
@[simp] theorem gdat_dv (ks vs : List D) : gdat (some (.dv ks vs)) = (ks, vs) := rfl
def k_din2 (y : D) (B : Bool → HH → Prop) : D → HH → Prop := fun x H => ow (dinD (viewD H x) y) B H
@[simp] theorem k_din2_ (y : D) (B : Bool → HH → Prop) (x : D) (H : HH) : k_din2 y B x H = ow (dinD (viewD H x) y) B H := rfl
def k_din1 (c : Cfg) (s : Sd) (b : E) (B : Bool → HH → Prop) : D → HH → Prop := fun y H => (evE c b s H).wp (k_din2 y B)
@[simp] theorem k_din1_ (c : Cfg) (s : Sd) (b : E) (B : Bool → HH → Prop) (y : D) (H : HH) : k_din1 c s b B y H = ((evE c b s H).wp (k_din2 y B)) := rfl
@[simp] theorem w_din (a b : E) : (evE c (.din a b) s H).wp Q = (evE c a s H).wp (k_din1 c s b (km .bl Q)) := by
  rw [evE]; simp only [wp_bind, wp_owm]; rfl
@[simp] theorem t_wdin (a b : E) : (evT c (.din a b) s H).wp B = (evE c a s H).wp (k_din1 c s b B) := by
  rw [evT]; simp only [wp_bind, wp_ow]; rfl
@[simp] theorem din_int (ks vs : List D) (i : Int) : dinD (.dv ks vs) (.int i) = some (dgetL ks vs (.int i)).isSome := rfl
def k_lci (H : HH) (Q : D → HH → Prop) : List D → HH → Prop := fun ds _ => noRefs ds = true ∧ Q (.lv ds) H
theorem lci_wp {own : List Nat} {t : T} {i : Nat} {g : OE} {e : E} {r : Nat} {ks vs : List D} (hs : s[i]? = some (some (.ref r))) (hd : H[r]? = some (.dic ks vs)) (hn : noRefs vs = true)
    (q : (lcL [] (asT t) (evOT c g) (evE c e) (wipeD (norfS s) own) (itmD ks vs) [] []).wp (k_lci H Q)) : (evE c (.lci own t i g e) s H).wp Q := by
  rw [evE]
  unfold lciF
  rw [hs]
  dsimp only
  rw [hd]
  dsimp only
  rw [if_pos hn, wp_bindN]
  refine wp_mono q fun ds H2 h => ?_
  obtain ⟨h1, h2⟩ := h
  rw [if_pos h1]
  exact h2
theorem dc_wp {g : Gd} {tg : D → Sd → Option Sd} {test : Sd → HH → Rs Bool} {ek ev : Sd → HH → Rs D} {s : Sd} {Q : List D × List D → HH → Prop} (I : List D → List D × List D → HH → Prop)
    (step : ∀ x r acc H, I (x :: r) acc H → gdOk g H = true ∧ ∃ s1, tg x s = some s1 ∧ (test s1 H).wp fun b H2 => if b = true then (ek s1 H2).wp fun y H3 => (ev s1 H3).wp fun z H4 => (keyOk y = true ∧ acc.1.length < lim) ∧ I r (dputL acc.1 acc.2 y z) H4 else I r acc H2) (done : ∀ acc H, I [] acc H → gdOk g H = true ∧ Q acc H) :
    ∀ (xs : List D) (acc : List D × List D) (H : HH), I xs acc H → (dcL g tg test ek ev s xs acc H).wp Q
  | [], acc, H, h => by
    obtain ⟨h1, h2⟩ := done acc H h
    simp only [dcL, h1, if_true, wp_ok]
    exact h2
  | x :: xs, acc, H, h => by
    obtain ⟨h1, s1, h2, h3⟩ := step x xs acc H h
    simp only [dcL, h1, if_true, h2, wp_bindN]
    refine wp_mono h3 fun b H2 z => ?_
    cases b with
    | false => simp only [Bool.false_eq_true, if_false] at z ⊢; exact dc_wp I step done xs acc H2 z
    | true =>
      simp only [if_true, wp_bindN] at z ⊢
      refine wp_mono z fun y H3 z => ?_
      refine wp_mono z fun d H4 ⟨q1, q2⟩ => ?_
      rw [if_pos q1]
      exact dc_wp I step done xs _ H4 q2
/-- what a run makes sure of, an exception too -/
def Rs.wpx {A : Type} (r : Rs A) (Q : A → HH → Prop) (X : XV → HH → Prop) : Prop := match r with
  | .ok a H => Q a H
  | .ex e H => X e H
  | .no => False
def RS.wpx (r : RS) (F : Fl → HH → Prop) (X : XV → Sd → HH → Prop) : Prop := match r with
  | .go f H => F f H
  | .ex e s H => X e s H
  | .no => False
theorem wpx_of {A : Type} {r : Rs A} {Q : A → HH → Prop} {X : XV → HH → Prop} (h : r.wp Q) : r.wpx Q X := by cases r <;> first | exact h | exact h.elim
theorem swpx_of {r : RS} {F : Fl → HH → Prop} {X : XV → Sd → HH → Prop} (h : r.wp F) : r.wpx F X := by cases r <;> first | exact h | exact h.elim
theorem wpx_bind {A B : Type} {r : Rs A} {f : A → HH → Rs B} {Q : B → HH → Prop} {X : XV → HH → Prop} (h : r.wpx (fun a H => (f a H).wpx Q X) X) : (r.bind f).wpx Q X := by cases r <;> exact h
theorem swpx_st {A : Type} {r : Rs A} {f : A → HH → RS} {F : Fl → HH → Prop} {X : XV → Sd → HH → Prop} (h : r.wpx (fun a H => (f a H).wpx F X) (fun e H => X e s H)) : (r.st s f).wpx F X := by cases r <;> exact h
theorem swpx_cons {a : S} {r : Ss} {X : XV → Sd → HH → Prop} (h : (evS c a s H).wpx (fun f H1 => match f with | .nx s1 => (evSs c r s1 H1).wpx F X | f => F f H1) X) : (evSs c (.cons a r) s H).wpx F X := by
  rw [evSs]
  cases q : evS c a s H with
  | go f H1 => rw [q] at h; cases f <;> exact h
  | ex e s H => rw [q] at h; exact h
  | no => rw [q] at h; exact h
theorem swpx_ex {e : E} {X : XV → Sd → HH → Prop} (h : (evE c e s H).wpx (fun _ H1 => F (.nx s) H1) (fun x H1 => X x s H1)) : (evS c (.ex e) s H).wpx F X := by rw [evS]; exact swpx_st h
theorem swpx_ret {e : E} {X : XV → Sd → HH → Prop} (h : (evE c e s H).wpx (fun d H1 => F (.rt d) H1) (fun x H1 => X x s H1)) : (evS c (.ret e) s H).wpx F X := by rw [evS]; exact swpx_st h
theorem swpx_asg {t : T} {e : E} {X : XV → Sd → HH → Prop} (h : (evE c e s H).wpx (fun d H1 => oS (asT t d s) F H1) (fun x H1 => X x s H1)) : (evS c (.asg t e) s H).wpx F X := by
  rw [evS]
  refine swpx_st ?_
  revert h
  generalize evE c e s H = r
  intro h
  cases r with
  | ok d H1 =>
    have h : oS (asT t d s) F H1 := h
    show RS.wpx (match asT t d s with | some s2 => .go (.nx s2) H1 | none => .no) F X
    cases q : asT t d s with
    | none => rw [q] at h; exact h.elim
    | some s2 => rw [q] at h; exact h
  | ex x H1 => exact h
  | no => exact h
theorem swpx_rz {k : Nat} {e : E} {X : XV → Sd → HH → Prop} (h : (evE c e s H).wp (fun d H1 => X ⟨.own k, some d⟩ s H1)) : (evS c (.rz k e) s H).wpx F X := by
  rw [evS]
  exact swpx_st (wpx_of h)
theorem swpx_ite {t : E} {a b : Ss} {X : XV → Sd → HH → Prop} (h : (evT c t s H).wp (fun k H1 => if k then (evSs c a s H1).wpx F X else (evSs c b s H1).wpx F X)) : (evS c (.ite t a b) s H).wpx F X := by
  rw [evS]
  refine swpx_st (wpx_of (wp_mono h fun k H1 z => ?_))
  cases k <;> exact z
theorem swp_try {b : Ss} {k i : Nat} {h : D → Ss} (q : (evSs c b s H).wpx F (fun e s1 H1 => (tryH k i (fun d => evSs c (h d)) e s1 H1).wp F)) : (evS c (.tryy b k i h) s H).wp F := by
  rw [evS]
  cases z : evSs c b s H with
  | go f H1 => rw [z] at q; exact q
  | ex e s1 H1 => rw [z] at q; exact q
  | no => rw [z] at q; exact q
/-- how a suite ends -/
def kUn (i : Nat) (F : Fl → HH → Prop) : Fl → HH → Prop := fun f H => match f with
  | .nx s => F (.nx (s.set i none)) H
  | .bk s => F (.bk (s.set i none)) H
  | .ct s => F (.ct (s.set i none)) H
  | .rt d => F (.rt d) H
theorem tryH_wp {k i : Nat} {fh : D → Sd → HH → RS} {d : D} (hi : i < s.length) (h : (fh d (s.set i none) H).wp (kUn i F)) : (tryH k i fh ⟨.own k, some d⟩ s H).wp F := by
  unfold tryH
  dsimp only
  rw [if_pos ⟨rfl, hi⟩]
  revert h
  generalize fh d (s.set i none) H = r
  intro h
  cases r with
  | go f H1 => cases f <;> exact h
  | ex _ _ _ => exact h
  | no => exact h
/-- a call that may raise -/
theorem pcallE_wpx {f : Nat} {kw : List Nat} {ds zs l : List D} {X : XV → HH → Prop} (h1 : permL (ds ++ zs ++ c.dfl f) kw = some l) (h2 : noRefs l = true)
    (h3 : (c.call f l []).wpx (fun d _ => noRef d = true ∧ Q d H) (fun e _ => (∀ d, e.fld = some d → noRef d = true) ∧ X e H)) : (pcallE c f kw ds zs H).wpx Q X := by
  unfold pcallE pcallD
  simp only [h1]
  rw [if_pos h2]
  cases q : c.call f l [] with
  | ok d H1 =>
    rw [q] at h3
    simp only [h3.1, if_true]
    exact h3.2
  | ex e H1 =>
    rw [q] at h3
    obtain ⟨h4, h5⟩ := h3
    dsimp only
    cases z : e.fld with
    | none => exact h5
    | some d => simp only [h4 d z, if_true]; exact h5
  | no => rw [q] at h3; exact h3.elim
theorem w_pcallx {f : Nat} {es ks : Es} {kw : List Nat} {X : XV → HH → Prop} (h : (evEs c es s H).wp fun ds H1 => (evEs c ks s H1).wp fun zs H2 => (pcallE c f kw ds zs H2).wpx Q X) : (evE c (.pcall f es ks kw) s H).wpx Q X := by
  rw [evE]
  exact wpx_bind (wpx_of (wp_mono h fun ds H1 z => wpx_bind (wpx_of z)))
theorem wpx_lst {es : Es} {X : XV → HH → Prop} (h : (evEs c es s H).wpx (fun ds H1 => ds.length ≤ lim ∧ Q (.lv ds) H1) X) : (evE c (.lst es) s H).wpx Q X := by
  rw [evE]
  refine wpx_bind ?_
  revert h
  generalize evEs c es s H = r
  intro h
  cases r with
  | ok ds H1 =>
    have h : ds.length ≤ lim ∧ Q (.lv ds) H1 := h
    show Rs.wpx (if ds.length ≤ lim then _ else _) Q X
    rw [if_pos h.1]
    exact h.2
  | ex x H1 => exact h
  | no => exact h
theorem wpx_tup {es : Es} {X : XV → HH → Prop} (h : (evEs c es s H).wpx (fun ds H1 => ds.length ≤ lim ∧ Q (.tup ds) H1) X) : (evE c (.tup es) s H).wpx Q X := by
  rw [evE]
  refine wpx_bind ?_
  revert h
  generalize evEs c es s H = r
  intro h
  cases r with
  | ok ds H1 =>
    have h : ds.length ≤ lim ∧ Q (.tup ds) H1 := h
    show Rs.wpx (if ds.length ≤ lim then _ else _) Q X
    rw [if_pos h.1]
    exact h.2
  | ex x H1 => exact h
  | no => exact h
theorem wpx_cons {e : E} {r : Es} {L : List D → HH → Prop} {X : XV → HH → Prop} (h : (evE c e s H).wpx (fun d H1 => (evEs c r s H1).wpx (fun ds H2 => L (d :: ds) H2) X) X) : (evEs c (.cons e r) s H).wpx L X := by
  rw [evEs]
  refine wpx_bind ?_
  revert h
  generalize evE c e s H = q
  intro h
  cases q with
  | ok d H1 => exact wpx_bind h
  | ex x H1 => exact h
  | no => exact h
theorem wpx_nil {L : List D → HH → Prop} {X : XV → HH → Prop} (h : L [] H) : (evEs c .nil s H).wpx L X := by rw [evEs]; exact h
/-- a def's run, an exception too -/
theorem run_wpx {f : Fd} {ds : List D} {X : XV → HH → Prop} (hl : ds.length = f.params.length) (h : (evSs c f.body (startD f ds) H).wpx (fun fl H1 => match fl with
    | .nx _ => Q .non H1
    | .rt d => Q d H1
    | _ => False) fun e _ H1 => X e H1) : (runB f c ds H).wpx Q X := by
  unfold runB
  rw [if_pos hl]
  cases q : evSs c f.body (startD f ds) H with
  | go fl H1 => rw [q] at h; cases fl <;> exact h
  | ex e s H1 => rw [q] at h; exact h
  | no => rw [q] at h; exact h
end
end DI
namespace DI
open PySem
mutual
def ht : D → Nat
  | .tup xs => hts xs + 1
  | .lv xs => hts xs + 1
  | _ => 0
def hts : List D → Nat
  | [] => 0
  | x :: xs => max (ht x) (hts xs) + 1
end
mutual
theorem frz_self (H : HH) : ∀ (d : D) (n : Nat), noRef d = true → ht d < n → frzD H n d = some d
  | _, 0, _, h => absurd h (Nat.not_lt_zero _)
  | .tup xs, n + 1, r, h => by
    unfold noRef at r; unfold ht at h
    simp only [frzD, frzs_self H xs n r (by omega), Option.map_some]
  | .lv xs, n + 1, r, h => by
    unfold noRef at r; unfold ht at h
    simp only [frzD, frzs_self H xs n r (by omega), Option.map_some]
  | .ref _, n + 1, r, _ => by unfold noRef at r; cases r
  | .non, n + 1, _, _ => rfl
  | .bl _, n + 1, _, _ => rfl
  | .int _, n + 1, _, _ => rfl
  | .str _, n + 1, _, _ => rfl
  | .fz xs, n + 1, r, _ => by simp only [frzD, r, if_true]
  | .dv _ _, n + 1, r, _ => by simp only [frzD, r, if_true]
  | .sv _, n + 1, r, _ => by simp only [frzD, r, if_true]
  | .cls _, n + 1, _, _ => rfl
  | .ty _, n + 1, _, _ => rfl
theorem frzs_self (H : HH) : ∀ (ds : List D) (n : Nat), noRefs ds = true → hts ds < n → frzDs H n ds = some ds
  | _, 0, _, h => absurd h (Nat.not_lt_zero _)
  | [], n + 1, _, _ => rfl
  | d :: ds, n + 1, r, h => by
    unfold noRefs at r
    rw [Bool.and_eq_true] at r
    unfold hts at h
    simp only [frzDs, frz_self H d n r.1 (by omega), frzs_self H ds n r.2 (by omega)]
end
theorem frz_ref {H : HH} {r n : Nat} {xs : List D} (h : H[r]? = some (.lst xs)) (hr : noRefs xs = true) (hl : hts xs < n) : frzD H (n + 1) (.ref r) = some (.lv xs) := by
  simp only [frzD, h, frzs_self H xs n hr hl, Option.map_some]
def Pool (r : Nat) (H : HH) : Prop := ∃ a b : Int, H[r]? = some (.lst [.int a, .int b]) ∧ 0 ≤ a ∧ 0 ≤ b
/-- the pool at r goes on, all else stays -/
structure Go (r : Nat) (H H' : HH) : Prop where
  pool : Pool r H'
  len : H.length ≤ H'.length
  keep : ∀ j, j < H.length → j ≠ r → H'[j]? = H[j]?
theorem Go.refl {r : Nat} {H : HH} (h : Pool r H) : Go r H H := ⟨h, Nat.le_refl _, fun _ _ _ => rfl⟩
theorem Go.trans {r : Nat} {H H1 H2 : HH} (a : Go r H H1) (b : Go r H1 H2) : Go r H H2 := ⟨b.pool, Nat.le_trans a.len b.len, fun j h n => (b.keep j (Nat.lt_of_lt_of_le h a.len) n).trans (a.keep j h n)⟩
theorem Go.add {r : Nat} {H : HH} (h : Pool r H) (L : List HD) : Go r H (H ++ L) := by
  obtain ⟨a, b, h1, h2⟩ := h
  have hl := (List.getElem?_eq_some_iff.mp h1).1
  exact ⟨⟨a, b, by rw [List.getElem?_append_left hl]; exact h1, h2⟩, by simp, fun j hj _ => List.getElem?_append_left hj⟩
theorem Pool.lt {r : Nat} {H : HH} (h : Pool r H) : r < H.length := by
  obtain ⟨a, b, h1, _⟩ := h
  exact (List.getElem?_eq_some_iff.mp h1).1
theorem Go.set {r : Nat} {H : HH} {o : HD} {a b : Int} (h : H[r]? = some o) (ha : 0 ≤ a) (hb : 0 ≤ b) : Go r H (H.set r (.lst [.int a, .int b])) :=
  ⟨⟨a, b, get_set h, ha, hb⟩, by simp, fun j _ n => List.getElem?_set_ne (Ne.symm n)⟩
/-- another live object turned -/
theorem Pool.other {r j : Nat} {H : HH} {o : HD} (h : Pool r H) (n : j ≠ r) : Pool r (H.set j o) := by
  obtain ⟨a, b, h1, h2⟩ := h
  exact ⟨a, b, by rw [List.getElem?_set_ne n]; exact h1, h2⟩
def takeFd : Fd := ⟨"_law_take", ["_law_pool_here", "_law_many"], ["_law_pool_here", "_law_many", "_law_found"], [], (.cons (.ite (.cmp .Gt (.ix (.loc 0) (.cst (.int (0)))) (.cst (.int (0)))) (.cons (.asg (.nm 2) (.bin .Mod (.ix (.loc 0) (.cst (.int (0)))) (.loc 1))) (.cons (.sub (.loc 0) (.cst (.int (0))) (.bin .FloorDiv (.ix (.loc 0) (.cst (.int (0)))) (.loc 1))) (.cons (.ret (.loc 2)) .nil))) .nil) (.cons (.sub (.loc 0) (.cst (.int (1))) (.bin .Mod (.bin .Add (.bin .Mult (.ix (.loc 0) (.cst (.int (1)))) (.cst (.int (48271)))) (.cst (.int (11)))) (.cst (.int (2147483647))))) (.cons (.ret (.bin .Mod (.bin .FloorDiv (.bin .Mod (.bin .Mult (.ix (.loc 0) (.cst (.int (1)))) (.ix (.loc 0) (.cst (.int (1))))) (.cst (.int (2147483629)))) (.cst (.int (16)))) (.loc 1))) .nil)))⟩
def poolFd : Fd := ⟨"_law_pool", ["_law_script", "_law_k"], ["_law_script", "_law_k", "_law_cell", "_law_size", "_law_mixed"], [], (.cons (.asg (.nm 2) (.bin .Add (.bin .Mult (.cst (.int (7))) (.bi .sum (.cons (.sl (.loc 0) .no (.yes (.cst (.int (63))))) .nil))) (.loc 1))) (.cons (.ite (.cmp .Lt (.loc 1) (.bi .len (.cons (.loc 0) .nil))) (.cons (.asg (.nm 2) (.ix (.loc 0) (.loc 1))) .nil) .nil) (.cons (.asg (.nm 3) (.bi .abs (.cons (.loc 2) .nil))) (.cons (.asg (.nm 4) (.bin .Mod (.bin .Mult (.bin .Add (.bin .Add (.bin .Add (.bin .Mod (.loc 3) (.cst (.int (2147483629)))) (.bin .Mult (.bin .Mult (.cst (.int (7919))) (.loc 1)) (.loc 1))) (.bin .Mult (.cst (.int (31))) (.loc 1))) (.cst (.int (17)))) (.cst (.int (48271)))) (.cst (.int (2147483647))))) (.cons (.ret (.lstR (.cons (.bin .Mult (.loc 3) (.bi .int (.cons (.cmp .GtE (.loc 3) (.bin .Pow (.cst (.int (10))) (.cst (.int (18))))) .nil))) (.cons (.bin .Mod (.bin .Mult (.loc 4) (.loc 4)) (.cst (.int (2147483629)))) .nil)))) .nil)))))⟩
def oneFd (t : Nat) : Fd := ⟨"_law_one", ["_law_pool_here", "_law_some"], ["_law_pool_here", "_law_some"], [], (.cons (.ret (.ix (.loc 1) (.call t (.cons (.loc 0) (.cons (.bi .len (.cons (.loc 1) .nil)) .nil)) .nil [0, 1]))) .nil)⟩
section
variable {c : Cfg} {H : HH} {r : Nat} {Q : D → HH → Prop}
theorem sm_01 (p : Prop) [Decidable p] : smallI (if p then 1 else 0) = true := by split <;> decide
theorem nn01 (p : Prop) [Decidable p] : (0 : Int) ≤ (if p then 1 else 0) := by split <;> decide
theorem take_wp {m : Int} (h : Pool r H) (hm : 0 < m) (hm2 : m < 1073741824) (q : ∀ t H', 0 ≤ t → t < m → Go r H H' → Q (.int t) H') : (runB takeFd c [.ref r, .int m] H).wp Q := by
  obtain ⟨a, b, h, ha, hb⟩ := h
  refine run_k rfl ?_
  have s0 : ∀ d s, setE (.ref r) (.int 0) d s H = .go (.nx s) (H.set r (.lst [d, .int b])) := fun d s => set_ok (k := 0) (j := 0) h rfl
  have s1 : ∀ d s, setE (.ref r) (.int 1) d s H = .go (.nx s) (H.set r (.lst [.int a, d])) := fun d s => set_ok (k := 1) (j := 1) h rfl
  have v1 : ∀ x y, viewD (H.set r (.lst [x, y])) (.ref r) = .lv [x, y] := fun x y => v_ref (get_set h)
  have hm0 : m ≠ 0 := by omega
  by_cases ca : 0 < a
  · simp (decide := true) [takeFd, startD, v_ref h, v1, s0, s1, b_mod, b_div, b_mul, hm, hm2, ca]
    exact q _ _ (Int.emod_nonneg _ (by omega)) (Int.emod_lt_of_pos _ hm) (.set h (Int.ediv_nonneg ha (by omega)) hb)
  · simp (decide := true) [takeFd, startD, v_ref h, v1, s0, s1, b_mod, b_div, b_mul, sm_mod, hm, hm2, ca]
    exact q _ _ (Int.emod_nonneg _ (by omega)) (Int.emod_lt_of_pos _ hm) (.set h ha (Int.emod_nonneg _ (by omega)))
theorem pool_wp {ns : List Int} {i : Int} (hi : 0 ≤ i) (hi2 : i < 100) (hl : ns.length ≤ 63) (q : ∀ a b, 0 ≤ a → 0 ≤ b → Q (.ref H.length) (H ++ [.lst [.int a, .int b]])) : (runB poolFd c [.fz (ns.map D.int), .int i] H).wp Q := by
  refine run_k rfl ?_
  have e1 : intsOf (cutD (ns.map D.int) none (some 63)) = some ns := by
    rw [cut_to _ (by decide), List.take_of_length_le (by simpa using hl), ints_map]
  have si : smallI i = true := small_of (by omega) (by omega)
  have hp : binD .Pow (.int 10) (.int 18) = some (.int (10 ^ 18)) := by rfl
  have ab : ∀ z : Int, 0 ≤ (if z < 0 then -z else z) := fun z => by split <;> omega
  by_cases cn : i < (ns.length : Int)
  · have e2 : L2.atI (ns.map D.int) i = some (.int ns[i.toNat]!) := by
      obtain ⟨n, rfl⟩ := Int.eq_ofNat_of_zero_le hi
      rw [at_nat (n := n) rfl (by simp; omega)]
      have : n < ns.length := by omega
      simp [this]
    generalize ns[i.toNat]! = z at e2
    simp (decide := true) [poolFd, startD, b_mod, b_div, b_mul, slD, biD, sumD, lenD, intD, absD, e1, e2, cn, si, hp, sm_mod, sm_01]
    exact q _ _ (Int.mul_nonneg (ab z) (nn01 _)) (Int.emod_nonneg _ (by decide))
  · simp (decide := true) [poolFd, startD, b_mod, b_div, b_mul, slD, biD, sumD, lenD, intD, absD, e1, cn, si, hp, sm_mod, sm_01]
    exact q _ _ (Int.mul_nonneg (ab _) (nn01 _)) (Int.emod_nonneg _ (by decide))
theorem one_wp {t : Nat} {xs : List D} {c' : Cfg} (hc : ∀ ds H, c.call t ds H = runB takeFd c' ds H) (hd : c.dfl t = []) (h : Pool r H) (hx : xs ≠ []) (hl : xs.length < 1073741824) (q : ∀ x H', x ∈ xs → Go r H H' → Q x H') : (runB (oneFd t) c [.ref r, .lv xs] H).wp Q := by
  refine run_k rfl ?_
  have h0 : 0 < xs.length := List.length_pos_iff.mpr hx
  simp [oneFd, startD, biD, lenD]
  refine call_wp (l := [.ref r, .int xs.length]) (by rw [hd]; rfl) ?_
  rw [hc]
  refine take_wp h (by omega) (by omega) fun t H' h1 h2 g => ?_
  obtain ⟨n, rfl⟩ := Int.eq_ofNat_of_zero_le h1
  have e : L2.atI xs (n : Int) = some (xs[n]'(by omega)) := by
    rw [at_nat (n := n) rfl (by omega), List.getElem?_eq_getElem (by omega)]
  simp [e]
  exact q _ _ (List.getElem_mem _) g
end
end DI
namespace DI
open PySem
abbrev cfP (P : Prg) (k : Nat) : Cfg := ⟨callN P k, fun g => match (P.fns[g]? : Option Fd) with | some h => h.dfl | none => [], P.consts, P.fuel⟩
theorem stepP {P : Prg} {i : Nat} {fd : Fd} (h : P.fns[i]? = some fd) (k : Nat) (dl : List D) (H : HH) : callN P (k + 1) i dl H = runB fd (cfP P k) dl H := by
  show (match P.fns[i]? with | some fd => _ | none => _) = _
  rw [h] <;> rfl
theorem dflP {P : Prg} {i : Nat} {fd : Fd} (h : P.fns[i]? = some fd) (k : Nat) : (cfP P k).dfl i = fd.dfl := by
  show (match P.fns[i]? with | some h => h.dfl | none => []) = _
  rw [h] <;> rfl
theorem callC {P : Prg} {i k : Nat} {fd : Fd} (h : P.fns[i]? = some fd) {dl zs l : List D} {kw : List Nat} {H : HH} {Q : D → HH → Prop} (hp : permL (dl ++ zs ++ fd.dfl) kw = some l) (q : (runB fd (cfP P k) l H).wp Q) : (callD (cfP P (k + 1)) i kw dl zs H).wp Q := by
  refine call_wp (l := l) (by rw [dflP h]; exact hp) ?_
  show (callN P (k + 1) i l H).wp Q
  rw [stepP h]
  exact q
/-- a pure call whose answer is frozen already -/
theorem pureC {P : Prg} {i k : Nat} {fd : Fd} (h : P.fns[i]? = some fd) {dl zs l : List D} {kw : List Nat} {H : HH} {Q : D → HH → Prop} (hp : permL (dl ++ zs ++ fd.dfl) kw = some l) (hr : noRefs l = true) (q : (runB fd (cfP P k) l []).wp fun d _ => noRef d = true ∧ Q d H) : (pcallE (cfP P (k + 1)) i kw dl zs H).wp Q := by
  refine pcall_wp (l := l) (by rw [dflP h]; exact hp) hr ?_
  show (callN P (k + 1) i l []).wp _
  rw [stepP h]
  exact wp_mono q fun d H1 ⟨h1, h2⟩ => ⟨d, by rw [if_pos h1], h2⟩
theorem takeP {P : Prg} {i k r : Nat} (hi : P.fns[i]? = some takeFd) {H : HH} {m : Int} {Q : D → HH → Prop} (h : Pool r H) (hm : 0 < m) (hm2 : m < 1073741824) (q : ∀ t H', 0 ≤ t → t < m → Go r H H' → Q (.int t) H') : (callD (cfP P (k + 1)) i [0, 1] [.ref r, .int m] [] H).wp Q :=
  callC hi (l := [.ref r, .int m]) rfl (take_wp h hm hm2 q)
theorem oneP {P : Prg} {i t k r : Nat} (hi : P.fns[i]? = some (oneFd t)) (ht : P.fns[t]? = some takeFd) {H : HH} {xs : List D} {Q : D → HH → Prop} (h : Pool r H) (hx : xs ≠ []) (hl : xs.length < 1073741824) (q : ∀ x H', x ∈ xs → Go r H H' → Q x H') : (callD (cfP P (k + 2)) i [0, 1] [.ref r, .lv xs] [] H).wp Q :=
  callC hi (l := [.ref r, .lv xs]) rfl (one_wp (c' := cfP P k) (fun dl H => stepP ht k dl H) (dflP ht _) h hx hl q)
theorem poolP {P : Prg} {i k : Nat} (hi : P.fns[i]? = some poolFd) {H : HH} {ns : List Int} {j : Int} {Q : D → HH → Prop} (h0 : 0 ≤ j) (h1 : j < 100) (hl : ns.length ≤ 63) (q : ∀ a b, 0 ≤ a → 0 ≤ b → Q (.ref H.length) (H ++ [.lst [.int a, .int b]])) : (callD (cfP P (k + 1)) i [0, 1] [.fz (ns.map D.int), .int j] [] H).wp Q :=
  callC hi (l := [.fz (ns.map D.int), .int j]) rfl (pool_wp h0 h1 hl q)
/-- formulas -/
inductive Fm where
  | atom (p a : List Nat)
  | imp (x y : Fm)
  deriving DecidableEq
def Fm.d : Fm → D
  | .atom p a => .tup [.str [97, 116, 111, 109], .str p, .str a]
  | .imp x y => .tup [.str [116, 104, 101, 110], x.d, y.d]
def Fm.dep : Fm → Nat
  | .atom _ _ => 0
  | .imp x y => max x.dep y.dep + 1
def okT (x : List Nat) : Bool := x.all (· < 0x110000) && decide (x.length ≤ 8)
def Fm.good : Fm → Bool
  | .atom p a => okT p && okT a
  | .imp x y => x.good && y.good
theorem d_noRef : ∀ f : Fm, noRef f.d = true
  | .atom _ _ => by simp [Fm.d, noRef, noRefs]
  | .imp x y => by simp [Fm.d, noRef, noRefs, d_noRef x, d_noRef y]
theorem d_plain : ∀ f : Fm, plainD f.d = true
  | .atom _ _ => by simp [Fm.d, plainD, plainDs]
  | .imp x y => by simp [Fm.d, plainD, plainDs, d_plain x, d_plain y]
theorem d_okS : ∀ f : Fm, f.good = true → okS f.d = true
  | .atom p a, h => by
    simp only [Fm.good, okT, Bool.and_eq_true] at h
    simp only [Fm.d, okS, okSs, h.1.1, h.2.1]
    rfl
  | .imp x y, h => by
    simp only [Fm.good, Bool.and_eq_true] at h
    simp only [Fm.d, okS, okSs, d_okS x h.1, d_okS y h.2]
    rfl
theorem d_depth : ∀ f : Fm, depthD f.d = f.dep + 1
  | .atom p a => by simp [Fm.d, depthD, depthDs, Fm.dep]
  | .imp x y => by simp only [Fm.d, depthD, depthDs, d_depth x, d_depth y, Fm.dep]; omega
theorem d_eqOk (f : Fm) (h : f.good = true) (hd : f.dep ≤ 60) : eqOk f.d = true := by
  unfold eqOk
  rw [d_plain, d_okS f h, d_depth]
  simp; omega
theorem d_eq : ∀ f g : Fm, eqD f.d g.d = decide (f = g)
  | .atom p a, .atom q b => by
    simp only [Fm.d, e_tup, e_cons, e_nil, e_str, Bool.and_true, Fm.atom.injEq]
    rw [Bool.eq_iff_iff]; simp
  | .atom p a, .imp x y => by
    simp only [Fm.d, e_tup, e_cons, e_str]
    rw [decide_eq_false (by nofun)]; rfl
  | .imp x y, .atom p a => by
    simp only [Fm.d, e_tup, e_cons, e_str]
    rw [decide_eq_false (by nofun)]; rfl
  | .imp x y, .imp u v => by
    simp only [Fm.d, e_tup, e_cons, e_nil, e_str, Bool.and_true, d_eq x u, d_eq y v, Fm.imp.injEq]
    rw [Bool.eq_iff_iff]; simp
theorem d_show : ∀ f : Fm, (toPy f.d).showable = true
  | .atom p a => by simp [Fm.d, toPy, toPys, PyData.showable, PyData.showableAll]
  | .imp x y => by simp [Fm.d, toPy, toPys, PyData.showable, PyData.showableAll, d_show x, d_show y]
theorem d_wt : ∀ f : Fm, f.good = true → wt f.d + 60 ≤ 400 * 2 ^ f.dep
  | .atom p a, h => by
    simp only [Fm.good, okT, Bool.and_eq_true, decide_eq_true_eq] at h
    simp only [Fm.d, wt, wts, Fm.dep, List.length_cons, List.length_nil]
    omega
  | .imp x y, h => by
    simp only [Fm.good, Bool.and_eq_true] at h
    have h1 := d_wt x h.1
    have h2 := d_wt y h.2
    simp only [Fm.d, wt, wts, Fm.dep, List.length_cons, List.length_nil]
    have p1 : 2 ^ x.dep ≤ 2 ^ max x.dep y.dep := Nat.pow_le_pow_right (by decide) (Nat.le_max_left _ _)
    have p2 : 2 ^ y.dep ≤ 2 ^ max x.dep y.dep := Nat.pow_le_pow_right (by decide) (Nat.le_max_right _ _)
    rw [Nat.pow_succ]
    omega
theorem d_ht : ∀ f : Fm, ht f.d ≤ 4 * f.dep + 4
  | .atom p a => by simp [Fm.d, ht, hts, Fm.dep]
  | .imp x y => by
    have := d_ht x; have := d_ht y
    simp only [Fm.d, ht, hts, Fm.dep]; omega
abbrev ds (l : List Fm) : List D := l.map Fm.d
def allG (n : Nat) (l : List Fm) : Prop := ∀ f ∈ l, f.good = true ∧ f.dep ≤ n
theorem ds_noRef : ∀ l : List Fm, noRefs (ds l) = true
  | [] => rfl
  | f :: l => by simp only [ds, List.map_cons, noRefs, d_noRef, Bool.true_and]; exact ds_noRef l
theorem ds_plain : ∀ l : List Fm, plainDs (ds l) = true
  | [] => rfl
  | f :: l => by simp only [ds, List.map_cons, plainDs, d_plain, Bool.true_and]; exact ds_plain l
theorem ds_okS : ∀ {l : List Fm} {n : Nat}, allG n l → okSs (ds l) = true
  | [], _, _ => rfl
  | f :: l, n, h => by
    simp only [ds, List.map_cons, okSs, d_okS f (h f List.mem_cons_self).1, Bool.true_and]
    exact ds_okS (n := n) fun g hg => h g (List.mem_cons_of_mem _ hg)
theorem ds_depth : ∀ {l : List Fm} {n : Nat}, allG n l → depthDs (ds l) ≤ n + 1
  | [], _, _ => by simp [depthDs]
  | f :: l, n, h => by
    have h1 := ds_depth (l := l) (n := n) fun g hg => h g (List.mem_cons_of_mem _ hg)
    have h2 := (h f List.mem_cons_self).2
    simp only [ds, List.map_cons, depthDs, d_depth] at h1 ⊢
    omega
theorem ds_wt : ∀ {l : List Fm} {n : Nat}, allG n l → wts (ds l) ≤ l.length * (400 * 2 ^ n)
  | [], _, _ => by simp [wts]
  | f :: l, n, h => by
    have h1 := ds_wt (l := l) (n := n) fun g hg => h g (List.mem_cons_of_mem _ hg)
    have h2 := h f List.mem_cons_self
    have h3 := d_wt f h2.1
    have p1 : 2 ^ f.dep ≤ 2 ^ n := Nat.pow_le_pow_right (by decide) h2.2
    simp only [ds, List.map_cons, wts, List.length_cons, Nat.add_mul] at h1 ⊢
    omega
theorem ds_ht : ∀ {l : List Fm} {n : Nat}, allG n l → hts (ds l) ≤ l.length + 4 * n + 4
  | [], _, _ => by simp [hts]
  | f :: l, n, h => by
    have h1 := ds_ht (l := l) (n := n) fun g hg => h g (List.mem_cons_of_mem _ hg)
    have h2 := h f List.mem_cons_self
    have h3 := d_ht f
    simp only [ds, List.map_cons, hts, List.length_cons] at h1 ⊢
    omega
theorem ds_eqOk {l : List Fm} {n : Nat} (h : allG n l) (hn : n ≤ 60) : eqOk (.lv (ds l)) = true := by
  have := ds_depth h
  unfold eqOk
  simp only [plainD, okS, depthD, ds_plain, ds_okS h, Bool.true_and, decide_eq_true_eq]
  exact decide_eq_true (show depthDs (ds l) + 1 ≤ 64 by omega)
theorem ds_eq : ∀ l m : List Fm, eqDs (ds l) (ds m) = decide (l = m)
  | [], [] => rfl
  | [], _ :: _ => rfl
  | _ :: _, [] => rfl
  | f :: l, g :: m => by
    simp only [ds, List.map_cons, e_cons, d_eq]
    rw [show eqDs (l.map Fm.d) (m.map Fm.d) = decide (l = m) from ds_eq l m]
    rw [Bool.eq_iff_iff]; simp
theorem ds_showOk {l : List Fm} {n : Nat} (h : allG n l) (hn : n ≤ 10) (hl : l.length ≤ 20) : showOk (.lv (ds l)) = true := by
  have h1 := ds_depth h
  have sh : ∀ l : List Fm, PyData.showableAll (toPys (ds l)) = true := fun l => by
    induction l with
    | nil => simp [toPys, PyData.showableAll]
    | cons f l ih => simp only [ds, List.map_cons, toPys, PyData.showableAll, d_show, Bool.true_and]; exact ih
  have s1 : (toPy (.lv (ds l))).showable = true := by simp only [toPy, PyData.showable]; exact sh l
  have h2 := shown_wt (.lv (ds l)) (by unfold plainD; exact ds_plain l) (by unfold okS; exact ds_okS h) s1
  have h3 := ds_wt h
  have h4 : l.length * (400 * 2 ^ n) ≤ 20 * (400 * 2 ^ 10) := Nat.mul_le_mul hl (Nat.mul_le_mul_left _ (Nat.pow_le_pow_right (by decide) hn))
  unfold wt at h2
  unfold showOk
  simp only [plainD, depthD, ds_plain, s1, Bool.true_and, Bool.and_eq_true, decide_eq_true_eq]
  refine ⟨decide_eq_true (show depthDs (ds l) + 1 ≤ 64 by omega), ?_⟩
  show _ ≤ 16777216
  omega
theorem mem_any (g : Fm) : ∀ l : List Fm, ((ds l).any fun z => eqD z g.d) = decide (g ∈ l)
  | [] => rfl
  | f :: l => by
    simp only [ds, List.map_cons, List.any_cons, d_eq]
    rw [show ((l.map Fm.d).any fun z => eqD z g.d) = decide (g ∈ l) from mem_any g l, Bool.eq_iff_iff]
    simp only [Bool.or_eq_true, decide_eq_true_eq, List.mem_cons]
    exact ⟨fun h => h.elim (fun e => .inl e.symm) .inr, fun h => h.elim (fun e => .inl e.symm) .inr⟩
theorem lc_mapA {A : Type} {c : Cfg} {tg : D → Sd → Option Sd} {elt : Sd → HH → Rs D} {s : Sd} {H : HH} {Q : List D → HH → Prop} (u v : A → D) : ∀ (xs : List A) (acc : List D), (∀ x ∈ xs, ∃ s1, tg (u x) s = some s1 ∧ ∀ P : D → HH → Prop, P (v x) H → (elt s1 H).wp P) → acc.length + xs.length ≤ lim →
    Q (acc ++ xs.map v) H → (lcL [] tg (evOT c .no) elt s (xs.map u) acc H).wp Q
  | [], acc, _, _, q => by simp only [List.map_nil, lcL, gd_nil, if_true, wp_ok]; simpa using q
  | x :: xs, acc, h, hl, q => by
    obtain ⟨s1, h1, h2⟩ := h x List.mem_cons_self
    rw [List.length_cons] at hl
    simp only [List.map_cons, lcL, gd_nil, if_true, h1, wp_bindN, ot_no]
    refine h2 _ ?_
    rw [if_pos (show acc.length < lim by omega)]
    exact lc_mapA u v xs (acc ++ [v x]) (fun y hy => h y (List.mem_cons_of_mem _ hy)) (by rw [List.length_append]; simp; omega) (by simpa using q)
theorem vfm (f : Fm) (H : HH) : viewD H f.d = f.d := by cases f <;> rfl
def strEs : List (List Nat) → Es
  | [] => .nil
  | x :: r => .cons (.cst (.str x)) (strEs r)
@[simp] theorem w_strEs {c : Cfg} {s : Sd} {H : HH} : ∀ (xs : List (List Nat)) {L : List D → HH → Prop}, (evEs c (strEs xs) s H).wp L = L (xs.map D.str) H
  | [], L => by simp [strEs]
  | x :: r, L => by simp [strEs, w_strEs r]
def madeFd (t o m : Nat) (ps qs : List (List Nat)) : Fd := ⟨"_law_made", ["_law_pool_here", "_law_deep"], ["_law_pool_here", "_law_deep"], [],
  (.cons (.ite (.or (.cmp .Eq (.loc 1) (.cst (.int (0)))) (.cmp .Eq (.call t (.cons (.loc 0) (.cons (.cst (.int (4))) .nil)) .nil [0, 1]) (.cst (.int (0))))) (.cons (.ret (.tup (.cons (.cst (.str [97, 116, 111, 109])) (.cons (.call o (.cons (.loc 0) (.cons (.lst (strEs ps)) .nil)) .nil [0, 1]) (.cons (.call o (.cons (.loc 0) (.cons (.lst (strEs qs)) .nil)) .nil [0, 1]) .nil))))) .nil) .nil) (.cons (.ret (.tup (.cons (.cst (.str [116, 104, 101, 110])) (.cons (.call m (.cons (.loc 0) (.cons (.bin .Sub (.loc 1) (.cst (.int (1)))) .nil)) .nil [0, 1]) (.cons (.call m (.cons (.loc 0) (.cons (.bin .Sub (.loc 1) (.cst (.int (1)))) .nil)) .nil [0, 1]) .nil))))) .nil))⟩
theorem madeP {P : Prg} {t o m r : Nat} {ps qs : List (List Nat)} (ht : P.fns[t]? = some takeFd) (ho : P.fns[o]? = some (oneFd t)) (hm : P.fns[m]? = some (madeFd t o m ps qs))
    (p0 : ps ≠ []) (q0 : qs ≠ []) (pl : ps.length ≤ 100) (ql : qs.length ≤ 100) (pok : ∀ p ∈ ps, okT p = true) (qok : ∀ p ∈ qs, okT p = true) :
    ∀ (n k : Nat) (H : HH) (Q : D → HH → Prop), n + 3 ≤ k → Pool r H → (∀ (f : Fm) H', f.good = true → f.dep ≤ n → Go r H H' → Q f.d H') → (callD (cfP P k) m [0, 1] [.ref r, .int n] [] H).wp Q
  | n, 0, _, _, hk, _, _ => absurd hk (by omega)
  | n, k + 1, H, Q, hk, hp, q => by
    refine callC hm (l := [.ref r, .int n]) rfl ?_
    obtain ⟨j, rfl⟩ : ∃ j, k = j + 2 := ⟨k - 2, by omega⟩
    refine run_k rfl ?_
    have at_ : ∀ H1, Go r H H1 → ∀ F : Fl → HH → Prop, (∀ (f : Fm) H', f.good = true → f.dep ≤ n → Go r H H' → F (.rt f.d) H') → (evSs (cfP P (j + 2)) (.cons (.ret (.tup (.cons (.cst (.str [97, 116, 111, 109])) (.cons (.call o (.cons (.loc 0) (.cons (.lst (strEs ps)) .nil)) .nil [0, 1]) (.cons (.call o (.cons (.loc 0) (.cons (.lst (strEs qs)) .nil)) .nil [0, 1]) .nil))))) .nil) [some (.ref r), some (.int n)] H1).wp F := fun H1 g1 F hF => by
      simp
      refine ⟨by show ps.length ≤ 16777216; omega, oneP ho ht g1.pool (by simpa using p0) (by simp; omega) fun x H2 hx g2 => ?_⟩
      simp
      refine ⟨by show qs.length ≤ 16777216; omega, oneP ho ht g2.pool (by simpa using q0) (by simp; omega) fun y H3 hy g3 => ?_⟩
      simp
      obtain ⟨p, hp, rfl⟩ := List.mem_map.mp hx
      obtain ⟨a, ha, rfl⟩ := List.mem_map.mp hy
      exact ⟨by decide, hF (.atom p a) H3 (by simp [Fm.good, pok p hp, qok a ha]) (Nat.zero_le _) ((g1.trans g2).trans g3)⟩
    simp [madeFd, startD]
    cases n with
    | zero =>
      simp
      have := at_ H (.refl hp) (nxt (cfP P (j + 2)) (.cons (.ret (.tup (.cons (.cst (.str [116, 104, 101, 110])) (.cons (.call m (.cons (.loc 0) (.cons (.bin .Sub (.loc 1) (.cst (.int (1)))) .nil)) .nil [0, 1]) (.cons (.call m (.cons (.loc 0) (.cons (.bin .Sub (.loc 1) (.cst (.int (1)))) .nil)) .nil [0, 1]) .nil))))) .nil) (kRun Q)) (fun f H' a b c => by simpa using q f H' a b c)
      simpa using this
    | succ n =>
      have n0 : ¬ ((n : Int) + 1 = 0) := by omega
      simp [n0]
      refine takeP ht hp (by decide) (by decide) fun x H1 t1 t2 g1 => ?_
      by_cases hx : x = 0
      · subst hx
        simp
        have := at_ H1 g1 (nxt (cfP P (j + 2)) (.cons (.ret (.tup (.cons (.cst (.str [116, 104, 101, 110])) (.cons (.call m (.cons (.loc 0) (.cons (.bin .Sub (.loc 1) (.cst (.int (1)))) .nil)) .nil [0, 1]) (.cons (.call m (.cons (.loc 0) (.cons (.bin .Sub (.loc 1) (.cst (.int (1)))) .nil)) .nil [0, 1]) .nil))))) .nil) (kRun Q)) (fun f H' a b c => by simpa using q f H' a b c)
        simpa using this
      · simp [hx]
        refine madeP ht ho hm p0 q0 pl ql pok qok n (j + 2) H1 _ (by omega) g1.pool fun u H2 hu du g2 => ?_
        simp
        refine madeP ht ho hm p0 q0 pl ql pok qok n (j + 2) H2 _ (by omega) g2.pool fun v H3 hv dv g3 => ?_
        simp
        exact ⟨by decide, q (.imp u v) H3 (by simp [Fm.good, hu, hv]) (by simp only [Fm.dep]; omega) ((g1.trans g2).trans g3)⟩
end DI
namespace DI
open PySem
/-- all stays, more may come -/
structure Kp (H0 H : HH) : Prop where
  len : H0.length ≤ H.length
  same : ∀ j, j < H0.length → H[j]? = H0[j]?
theorem Kp.refl (H : HH) : Kp H H := ⟨Nat.le_refl _, fun _ _ => rfl⟩
theorem Kp.trans {A B C : HH} (a : Kp A B) (b : Kp B C) : Kp A C := ⟨Nat.le_trans a.len b.len, fun j h => (b.same j (Nat.lt_of_lt_of_le h a.len)).trans (a.same j h)⟩
theorem Kp.add {A B : HH} (a : Kp A B) (L : List HD) : Kp A (B ++ L) := ⟨by rw [List.length_append]; have := a.len; omega, fun j h => by rw [List.getElem?_append_left (Nat.lt_of_lt_of_le h a.len)]; exact a.same j h⟩
theorem Kp.set {A B : HH} (a : Kp A B) {j : Nat} (h : A.length ≤ j) (o : HD) : Kp A (B.set j o) := ⟨by rw [List.length_set]; exact a.len, fun i hi => by rw [List.getElem?_set_ne (by omega)]; exact a.same i hi⟩
theorem Kp.get {A B : HH} (a : Kp A B) {j : Nat} {o : HD} (h : A[j]? = some o) : B[j]? = some o := by rw [a.same j (List.getElem?_eq_some_iff.mp h).1]; exact h
theorem get_add {H : HH} {j : Nat} {o : HD} (h : H[j]? = some o) (L : List HD) : (H ++ L)[j]? = some o := by
  rw [List.getElem?_append_left (List.getElem?_eq_some_iff.mp h).1]; exact h
theorem get_new (H : HH) (o : HD) : (H ++ [o])[H.length]? = some o := by simp
theorem Pool.kp {r : Nat} {H H' : HH} (h : Pool r H) (k : Kp H H') : Pool r H' := by
  obtain ⟨a, b, h1, h2⟩ := h
  exact ⟨a, b, k.get h1, h2⟩
theorem Go.kp {r : Nat} {H H1 H2 : HH} (g : Go r H H1) (k : Kp H1 H2) : Go r H H2 := ⟨g.pool.kp k, Nat.le_trans g.len k.len, fun j h n => (k.same j (Nat.lt_of_lt_of_le h g.len)).trans (g.keep j h n)⟩
theorem lc_mapG {A : Type} {c : Cfg} {g : Gd} {tg : D → Sd → Option Sd} {elt : Sd → HH → Rs D} {s : Sd} {H : HH} {Q : List D → HH → Prop} (u v : A → D) (hg : gdOk g H = true) : ∀ (xs : List A) (acc : List D), (∀ x ∈ xs, ∃ s1, tg (u x) s = some s1 ∧ ∀ P : D → HH → Prop, P (v x) H → (elt s1 H).wp P) → acc.length + xs.length ≤ lim →
    Q (acc ++ xs.map v) H → (lcL g tg (evOT c .no) elt s (xs.map u) acc H).wp Q
  | [], acc, _, _, q => by simp only [List.map_nil, lcL, hg, if_true, wp_ok]; simpa using q
  | x :: xs, acc, h, hl, q => by
    obtain ⟨s1, h1, h2⟩ := h x List.mem_cons_self
    rw [List.length_cons] at hl
    simp only [List.map_cons, lcL, hg, if_true, h1, wp_bindN, ot_no]
    refine h2 _ ?_
    rw [if_pos (show acc.length < lim by omega)]
    exact lc_mapG u v hg xs (acc ++ [v x]) (fun y hy => h y (List.mem_cons_of_mem _ hy)) (by rw [List.length_append]; simp; omega) (by simpa using q)
theorem lc_filG {A : Type} {g : Gd} {tg : D → Sd → Option Sd} {test : Sd → HH → Rs Bool} {elt : Sd → HH → Rs D} {s : Sd} {H : HH} {Q : List D → HH → Prop} (u v : A → D) (p : A → Bool) (hg : gdOk g H = true) : ∀ (xs : List A) (acc : List D), (∀ x ∈ xs, ∃ s1, tg (u x) s = some s1 ∧ (∀ P : Bool → HH → Prop, P (p x) H → (test s1 H).wp P) ∧ ∀ P : D → HH → Prop, P (v x) H → (elt s1 H).wp P) → acc.length + xs.length ≤ lim →
    Q (acc ++ (xs.filter p).map v) H → (lcL g tg test elt s (xs.map u) acc H).wp Q
  | [], acc, _, _, q => by simp only [List.map_nil, lcL, hg, if_true, wp_ok]; simpa using q
  | x :: xs, acc, h, hl, q => by
    obtain ⟨s1, h1, h2, h3⟩ := h x List.mem_cons_self
    rw [List.length_cons] at hl
    simp only [List.map_cons, lcL, hg, if_true, h1, wp_bindN]
    refine h2 _ ?_
    cases hp : p x with
    | true =>
      simp only [if_true, wp_bindN]
      refine h3 _ ?_
      rw [if_pos (show acc.length < lim by omega)]
      exact lc_filG u v p hg xs (acc ++ [v x]) (fun y hy => h y (List.mem_cons_of_mem _ hy)) (by rw [List.length_append]; simp; omega) (by simpa [hp] using q)
    | false =>
      simp only [Bool.false_eq_true, if_false]
      exact lc_filG u v p hg xs acc (fun y hy => h y (List.mem_cons_of_mem _ hy)) (by omega) (by simpa [hp] using q)
theorem cut_last {A : Type} (xs : List A) : cutD xs (some (-1)) none = xs.drop (xs.length - 1) := by
  unfold cutD
  have e : HT.sIx xs.length 0 (some (-1)) = xs.length - 1 := by
    show (if (-1 : Int) < 0 then (-1 + (xs.length : Int)).toNat else min (-1 : Int).toNat xs.length) = _
    rw [if_pos (by decide)]; omega
  rw [e, HT.sIx_none]
  exact List.take_of_length_le (by simp)
theorem last_drop {A : Type} (xs : List A) : xs.drop (xs.length - 1) = xs.getLast?.toList := by
  rcases List.eq_nil_or_concat xs with rfl | ⟨L, y, h⟩
  · rfl
  · rw [List.concat_eq_append] at h
    subst h
    simp
theorem cut_from {A : Type} (xs : List A) {i : Int} {j : Nat} (h : i = (j : Nat)) (hj : j ≤ xs.length) : cutD xs (some i) none = xs.drop j := by
  subst h
  unfold cutD
  rw [HT.sIx_nat, HT.sIx_none, Nat.min_eq_left hj]
  exact List.take_of_length_le (by simp)
def cOk (x : List Nat) : Bool := x.all (· < 0x110000)
theorem strs_pl : ∀ ws : List (List Nat), plainDs (ws.map D.str) = true ∧ depthDs (ws.map D.str) ≤ 0
  | [] => ⟨rfl, by simp [depthDs]⟩
  | w :: ws => by
    obtain ⟨a, b⟩ := strs_pl ws
    exact ⟨by simp [plainDs, plainD, a], by simp only [List.map_cons, depthDs, depthD]; omega⟩
theorem strs_okS : ∀ {ws : List (List Nat)}, (∀ w ∈ ws, cOk w = true) → okSs (ws.map D.str) = true
  | [], _ => rfl
  | w :: ws, h => by
    have h1 : w.all (· < 0x110000) = true := h w List.mem_cons_self
    simp only [List.map_cons, okSs, okS, h1, Bool.true_and]
    exact strs_okS fun v hv => h v (List.mem_cons_of_mem _ hv)
theorem strs_ok {ws : List (List Nat)} (h : ∀ w ∈ ws, cOk w = true) : eqOk (.lv (ws.map D.str)) = true := by
  obtain ⟨a, b⟩ := strs_pl ws
  unfold eqOk
  simp only [plainD, okS, depthD, a, strs_okS h, Bool.true_and]
  exact decide_eq_true (by omega)
theorem strs_okT {ws : List (List Nat)} (h : ∀ w ∈ ws, cOk w = true) : eqOk (.tup (ws.map D.str)) = true := by
  obtain ⟨a, b⟩ := strs_pl ws
  unfold eqOk
  simp only [plainD, okS, depthD, a, strs_okS h, Bool.true_and]
  exact decide_eq_true (by omega)
theorem str_ok1 {w : List Nat} (h : cOk w = true) : eqOk (.str w) = true := by
  have h1 : w.all (· < 0x110000) = true := h
  simp [eqOk, plainD, okS, depthD, h1]
theorem eqs_strs : ∀ a b : List (List Nat), eqDs (a.map D.str) (b.map D.str) = decide (a = b)
  | [], [] => rfl
  | [], _ :: _ => rfl
  | _ :: _, [] => rfl
  | x :: a, y :: b => by
    simp only [List.map_cons, e_cons, e_str, eqs_strs a b, List.cons.injEq]
    rw [Bool.eq_iff_iff]; simp
theorem any_strs (w : List Nat) : ∀ l : List (List Nat), ((l.map D.str).any fun z => eqD z (.str w)) = decide (w ∈ l)
  | [] => rfl
  | x :: l => by
    simp only [List.map_cons, List.any_cons, e_str, any_strs w l]
    rw [Bool.eq_iff_iff]
    simp only [Bool.or_eq_true, decide_eq_true_eq, List.mem_cons, beq_iff_eq]
    exact ⟨fun h => h.elim (fun e => .inl e.symm) .inr, fun h => h.elim (fun e => .inl e.symm) .inr⟩
theorem in_strs {w : List Nat} {l : List (List Nat)} (h : cOk w = true) (hl : ∀ x ∈ l, cOk x = true) : inD (.str w) (.lv (l.map D.str)) = some (decide (w ∈ l)) := by
  show (if eqOk (.str w) && eqOk (.lv (l.map D.str)) then _ else _) = _
  rw [if_pos (by rw [str_ok1 h, strs_ok hl]; rfl), any_strs]
theorem flat_strs : ∀ l : List (List Nat), (l.map D.str).all flatD = true
  | [] => rfl
  | x :: l => by simp only [List.map_cons, List.all_cons, flat_strs l]; rfl
theorem in_strsT (w : List Nat) (l : List (List Nat)) : inD (.str w) (.tup (l.map D.str)) = some (decide (w ∈ l)) := by
  show (if flatD (.str w) && (l.map D.str).all flatD then _ else _) = _
  rw [if_pos (by rw [flat_strs]; rfl), any_strs]
theorem hts_strs : ∀ l : List (List Nat), hts (l.map D.str) ≤ l.length
  | [] => by simp [hts]
  | x :: l => by have := hts_strs l; simp only [List.map_cons, hts, DI.ht, List.length_cons]; omega
theorem nr_strs : ∀ l : List (List Nat), noRefs (l.map D.str) = true
  | [] => rfl
  | x :: l => by simp only [List.map_cons, noRefs, noRef, nr_strs l, Bool.and_self]
theorem shows_strs : ∀ l : List (List Nat), PyData.showableAll (toPys (l.map D.str)) = true
  | [] => by simp [toPys, PyData.showableAll]
  | x :: l => by simp only [List.map_cons, toPys, toPy, PyData.showableAll, PyData.showable, shows_strs l, Bool.and_self]
theorem wts_strs {n : Nat} : ∀ {l : List (List Nat)}, (∀ w ∈ l, w.length ≤ n) → wts (l.map D.str) ≤ l.length * (10 * n + 4)
  | [], _ => by simp [wts]
  | x :: l, h => by
    have h1 := wts_strs (l := l) fun y hy => h y (List.mem_cons_of_mem _ hy)
    have h2 := h x List.mem_cons_self
    simp only [List.map_cons, wts, wt, List.length_cons, Nat.add_mul]
    omega
theorem show_strs {l : List (List Nat)} (h : ∀ w ∈ l, w.length ≤ 100 ∧ cOk w = true) (hl : l.length ≤ 1000) : showOk (.lv (l.map D.str)) = true := by
  obtain ⟨a, b⟩ := strs_pl l
  have s1 : (toPy (.lv (l.map D.str))).showable = true := by simp only [toPy, PyData.showable]; exact shows_strs l
  have h2 := shown_wt (.lv (l.map D.str)) (by unfold plainD; exact a) (by unfold okS; exact strs_okS fun w hw => (h w hw).2) s1
  have h3 := wts_strs (n := 100) fun w hw => (h w hw).1
  unfold wt at h2
  unfold showOk
  simp only [plainD, depthD, a, s1, Bool.true_and, Bool.and_eq_true, decide_eq_true_eq]
  refine ⟨decide_eq_true (show depthDs (l.map D.str) + 1 ≤ 64 by omega), ?_⟩
  have : l.length * (10 * 100 + 4) ≤ 1000 * (10 * 100 + 4) := Nat.mul_le_mul_right _ hl
  show _ ≤ 16777216
  omega
theorem len_tup (l : List D) : biD .len [.tup l] = some (.int (l.length : Nat)) := rfl
theorem len_lv (l : List D) : biD .len [.lv l] = some (.int (l.length : Nat)) := rfl
theorem len_str {x : List Nat} (h : x.length ≤ 16777216) : biD .len [.str x] = some (.int (x.length : Nat)) := by
  show (if x.length ≤ lim then some (D.int (x.length : Nat)) else none) = _
  rw [if_pos h]
theorem joinL_app (s : List Nat) : ∀ a b : List (List Nat), a ≠ [] → b ≠ [] → joinL s (a ++ b) = joinL s a ++ s ++ joinL s b
  | [], _, h, _ => absurd rfl h
  | [x], [], _, h => absurd rfl h
  | [x], y :: b, _, _ => by simp [joinL]
  | x :: y :: a, b, _, h => by
    have := joinL_app s (y :: a) b (by simp) h
    show x ++ (s ++ joinL s (y :: (a ++ b))) = _
    have e : y :: (a ++ b) = (y :: a) ++ b := rfl
    rw [e, this]
    simp [joinL]
theorem join_inj (c : Nat) : ∀ a b : List (List Nat), a ≠ [] → b ≠ [] → (∀ x ∈ a, c ∉ x) → (∀ x ∈ b, c ∉ x) → joinL [c] a = joinL [c] b → a = b := by
  have tw : ∀ (x : List Nat) (r : List Nat), c ∉ x → (x ++ c :: r).takeWhile (· != c) = x ∧ (x ++ c :: r).dropWhile (· != c) = c :: r := by
    intro x
    induction x with
    | nil => intro r _; simp
    | cons y x ih =>
      intro r h
      have hy : y ≠ c := fun e => h (by simp [e])
      obtain ⟨h1, h2⟩ := ih r fun e => h (List.mem_cons_of_mem _ e)
      simp [hy, h1, h2]
  have tn : ∀ x : List Nat, c ∉ x → x.takeWhile (· != c) = x ∧ x.dropWhile (· != c) = [] := by
    intro x
    induction x with
    | nil => intro _; simp
    | cons y x ih =>
      intro h
      have hy : y ≠ c := fun e => h (by simp [e])
      obtain ⟨h1, h2⟩ := ih fun e => h (List.mem_cons_of_mem _ e)
      simp [hy, h1, h2]
  intro a
  induction a with
  | nil => intro b h; exact absurd rfl h
  | cons x a ih =>
    intro b _ hb ha hb2 e
    cases b with
    | nil => exact absurd rfl hb
    | cons y b =>
      have hx := ha x List.mem_cons_self
      have hy := hb2 y List.mem_cons_self
      cases a with
      | nil =>
        cases b with
        | nil => simp [joinL] at e; rw [e]
        | cons z b =>
          simp [joinL] at e
          exact absurd (by rw [e]; simp) hx
      | cons u a =>
        cases b with
        | nil =>
          simp [joinL] at e
          exact absurd (by rw [← e]; simp) hy
        | cons z b =>
          have e : x ++ c :: joinL [c] (u :: a) = y ++ c :: joinL [c] (z :: b) := by simpa [joinL] using e
          have h1 := (tw x (joinL [c] (u :: a)) hx)
          have h2 := (tw y (joinL [c] (z :: b)) hy)
          rw [e] at h1
          have exy : y = x := h2.1.symm.trans h1.1
          have er : joinL [c] (u :: a) = joinL [c] (z :: b) := by
            have := h1.2.symm.trans h2.2
            exact (List.cons.inj this).2
          rw [exy, ih (z :: b) (by simp) (by simp) (fun v hv => ha v (List.mem_cons_of_mem _ hv)) (fun v hv => hb2 v (List.mem_cons_of_mem _ hv)) er]
theorem split_ne (x y : Str) : Txt.split x y ≠ [] := by
  unfold Txt.split
  split
  · simp
  · split
    · simp
    · rw [StrLaws.partsBetween_eq]
      obtain ⟨p, r, e⟩ := StrLaws.partsFrom_ne x y.length 0 (Builtin.Str.occurrences x y 0 x.length (x.length + 1))
      rw [e]
      simp
theorem split_join {c : Nat} {ws : List (List Nat)} (h0 : ws ≠ []) (h : ∀ w ∈ ws, c ∉ w) : (Txt.split ⟨(joinL [c] ws).toArray⟩ ⟨[c].toArray⟩).map (fun y => y.cps.toList) = ws := by
  have h1 := StrLaws.join_split ⟨(joinL [c] ws).toArray⟩ ⟨#[c]⟩
  have h2 := StrLaws.split_free ⟨(joinL [c] ws).toArray⟩ c
  have h3 := split_ne ⟨(joinL [c] ws).toArray⟩ ⟨#[c]⟩
  show (Txt.split ⟨(joinL [c] ws).toArray⟩ ⟨#[c]⟩).map (fun y => y.cps.toList) = ws
  generalize Txt.split ⟨(joinL [c] ws).toArray⟩ ⟨#[c]⟩ = S at h1 h2 h3 ⊢
  have e : S = (S.map fun y => y.cps.toList).map fun x => (⟨x.toArray⟩ : Str) := by
    rw [List.map_map]
    have : ((fun x : List Nat => (⟨x.toArray⟩ : Str)) ∘ fun y : Str => y.cps.toList) = id := by funext y; exact str_back y
    rw [this, List.map_id]
  have h4 := SX.join_S [c] (S.map fun y => y.cps.toList)
  have e2 : (S.map fun y => y.cps.toList).map SX.S = S := e.symm
  rw [e2] at h4
  have h5 : Txt.join (⟨#[c]⟩ : Str) S = Str.join ⟨#[c]⟩ S := TL.join_eq _ _
  have h6 : (⟨(joinL [c] (S.map fun y => y.cps.toList)).toArray⟩ : Str) = ⟨(joinL [c] ws).toArray⟩ := by
    rw [← h1, ← h5]
    rw [← joinL_eq]
    exact h4.symm
  have h7 : joinL [c] (S.map fun y => y.cps.toList) = joinL [c] ws := by
    have := congrArg (fun z : Str => z.cps.toList) h6
    simpa using this
  refine join_inj c _ _ (by simpa using h3) h0 (fun x hx => ?_) h h7
  obtain ⟨y, hy, rfl⟩ := List.mem_map.mp hx
  exact h2 y hy
end DI
namespace K65
open PySem PySem.Spec PyProof.Rows L2 DI
def top (i : Nat) : Stmt := PySem.Challenge.pw_pagesofproofs_k65_changes_written.main.body.getD i (.Pass ⟨0, 0, 0, 0⟩)
def T : Tb where
  fns := ["is_number", "is_part", "is_change", "marked", "unmarked", "show_part", "show_change", "read_part", "read_change", "_law_pool", "_law_take", "_law_one", "_law_part_line", "_law_drawn", "_law_unmarked", "_law_part", "_law_due", "_law_said", "_law_bent", "law"]
  forms := [(0, 2, [], [0, 1]), (1, 1, [], [0]), (3, 1, [], [0]), (5, 1, [], [0]), (4, 1, [], [0]), (2, 1, [], [0]), (7, 1, [], [0]), (10, 2, [], [0, 1]), (11, 2, [], [0, 1]), (14, 1, [], [0]), (15, 1, [], [0]), (8, 1, [], [0]), (9, 2, [], [0, 1]), (13, 1, [], [0]), (17, 1, [], [0]), (18, 2, [], [0, 1]), (12, 1, [], [0]), (6, 1, [], [0]), (16, 1, [], [0])]
  cons := ["WORDS", "FIGURES", "MOST_FIGURES"]
  blts := ["ValueError", "abs", "all", "any", "bool", "enumerate", "int", "isinstance", "len", "list", "max", "min", "range", "repr", "str", "sum", "tuple", "zip"]
  live := [(86, 11), (103, 17)]
  imp := [(95, 21), (104, 27), (105, 30), (105, 105), (106, 25), (106, 64), (106, 109), (141, 24), (146, 14), (147, 16), (148, 15), (155, 11), (160, 25), (161, 19), (168, 24)]
  exs := [("NoForm", 0, "at"), ("NoText", 1, "part"), ("NoRow", 2, "row")]
  xis := [(1, "NoForm", false), (1, "NoRow", false), (1, "PageError", true), (1, "ValueError", true)]
  dix := [(101, 56), (117, 84), (129, 52)]
  gds := [("MARKS", 3), ("READ", 4), ("COUNTS", 5)]
  mks := [("_law_marked", [(126, [126, 126]), (32, [126, 98]), (10, [126, 110])])]
  cpf := []
def N0 : List Str := ["thing", "least"]
def N1 : List Str := ["thing"]
def N2 : List Str := ["thing", "words", "word", "what", "part", "one", "other"]
def N3 : List Str := ["text", "sign"]
def N4 : List Str := ["text", "found", "is_marked", "sign"]
def N5 : List Str := ["part", "word", "what"]
def N6 : List Str := ["change", "part"]
def N7 : List Str := ["text", "figures", "found", "sign"]
def N8 : List Str := ["text", "parts", "number", "part"]
def N9 : List Str := ["_law_script", "_law_k", "_law_cell", "_law_size", "_law_mixed"]
def N10 : List Str := ["_law_pool_here", "_law_many", "_law_found"]
def N11 : List Str := ["_law_pool_here", "_law_some"]
def N12 : List Str := ["_law_part_here"]
def N13 : List Str := ["_law_pool_here", "_law_found", "_law_turn", "_law_words", "_law_part_here", "_law_last", "_law_again"]
def N14 : List Str := ["_law_words", "_law_found", "_law_left"]
def N15 : List Str := ["_law_line", "_law_rest", "_law_words", "_law_one_here"]
def N16 : List Str := ["_law_line", "_law_parts", "_law_kinds", "_law_one_here", "_law_later", "_law_part_here"]
def N17 : List Str := ["_law_thing", "e", "_law_good"]
def N18 : List Str := ["_law_pool_here", "_law_line", "_law_at", "_law_sign", "_law_way"]
def N19 : List Str := ["_law_script", "_law_thing", "_law_k", "_law_pool_here", "_law_own", "_law_line", "_law_turn", "_law_part_here"]
def consts : List D := [.tup [.str [107, 101, 101, 112], .str [100, 114, 111, 112], .str [112, 117, 116]], .str [48, 49, 50, 51, 52, 53, 54, 55, 56, 57], .int (30), .dv [.str [32], .str [10], .str [126]] [.str [126, 98], .str [126, 110], .str [126, 126]], .dv [.str [98], .str [110], .str [126]] [.str [32], .str [10], .str [126]], .dv [.str [61], .str [45]] [.str [107, 101, 101, 112], .str [100, 114, 111, 112]]]
def b0 : Ss := (.cons (.ret (.and (.isi (.loc 0) "int") (.and (.no (.isi (.loc 0) "bool")) (.cmp .GtE (.loc 0) (.loc 1))))) .nil)
def b1 : Ss := (.cons (.ite (.or (.no (.isi (.loc 0) "tuple")) (.or (.cmp .NotEq (.bi .len (.cons (.loc 0) .nil)) (.cst (.int (2)))) (.or (.no (.isi (.ix (.loc 0) (.cst (.int (0)))) "str")) (.cmp .NotIn (.ix (.loc 0) (.cst (.int (0)))) (.glb 0))))) (.cons (.ret (.cst (.bl false))) .nil) .nil) (.cons (.ite (.cmp .Eq (.ix (.loc 0) (.cst (.int (0)))) (.cst (.str [112, 117, 116]))) (.cons (.ret (.and (.isi (.ix (.loc 0) (.cst (.int (1)))) "str") (.cmp .NotEq (.ix (.loc 0) (.cst (.int (1)))) (.cst (.str []))))) .nil) .nil) (.cons (.ret (.pcall 0 (.cons (.ix (.loc 0) (.cst (.int (1)))) (.cons (.cst (.int (1))) .nil)) .nil [0, 1])) .nil)))
def b2 : Ss := (.cons (.ite (.or (.no (.isi (.loc 0) "tuple")) (.no (.bi .all (.cons (.lc [4] (.nm 4) (.val (.loc 0)) .no (.pcall 1 (.cons (.loc 4) .nil) .nil [0])) .nil)))) (.cons (.ret (.cst (.bl false))) .nil) .nil) (.cons (.asg (.nm 1) (.lc [2, 3] (.tp (.cons (.nm 2) (.cons (.nm 3) .nil))) (.val (.loc 0)) .no (.loc 2))) (.cons (.ret (.no (.bi .any (.cons (.lc [5, 6] (.tp (.cons (.nm 5) (.cons (.nm 6) .nil))) (.zip (.loc 1) (.sl (.loc 1) (.yes (.cst (.int (1)))) .no)) .no (.or (.cmp .Eq (.loc 5) (.loc 6)) (.cmp .Eq (.tup (.cons (.loc 5) (.cons (.loc 6) .nil))) (.tup (.cons (.cst (.str [100, 114, 111, 112])) (.cons (.cst (.str [112, 117, 116])) .nil)))))) .nil)))) .nil)))
def b3 : Ss := (.cons (.ret (.mt .join (.cst (.str [])) (.cons (.lc [1] (.nm 1) (.val (.loc 0)) .no (.gget2 3 (.loc 1) (.loc 1))) .nil))) .nil)
def b4 : Ss := (.cons (.asg (.nm 1) (.cst (.str []))) (.cons (.asg (.nm 2) (.cst (.bl false))) (.cons (.forr (.nm 3) (.val (.loc 0)) (.cons (.ite (.or (.and (.loc 2) (.gin false 4 (.loc 3))) (.cmp .In (.loc 3) (.cst (.str [32, 10])))) (.cons (.ret (.cst .non)) .nil) .nil) (.cons (.ite (.or (.loc 2) (.cmp .NotEq (.loc 3) (.cst (.str [126])))) (.cons (.aug 1 .Add (.ite (.loc 2) (.gget 4 (.loc 3)) (.loc 3))) .nil) .nil) (.cons (.asg (.nm 2) (.and (.cmp .Eq (.loc 3) (.cst (.str [126]))) (.no (.loc 2)))) .nil)))) (.cons (.ret (.ite (.loc 2) (.cst .non) (.loc 1))) .nil))))
def b5 : Ss := (.cons (.asg (.tp (.cons (.nm 1) (.cons (.nm 2) .nil))) (.loc 0)) (.cons (.ite (.cmp .Eq (.loc 1) (.cst (.str [112, 117, 116]))) (.cons (.ret (.bin .Add (.cst (.str [43])) (.pcall 3 (.cons (.loc 2) .nil) .nil [0]))) .nil) .nil) (.cons (.ret (.bin .Add (.ite (.cmp .Eq (.loc 1) (.cst (.str [107, 101, 101, 112]))) (.cst (.str [61])) (.cst (.str [45]))) (.bi .str (.cons (.loc 2) .nil)))) .nil)))
def b6 : Ss := (.cons (.ret (.mt .join (.cst (.str [32])) (.cons (.lc [1] (.nm 1) (.val (.loc 0)) .no (.pcall 5 (.cons (.loc 1) .nil) .nil [0])) .nil))) .nil)
def b7 : Ss := (.cons (.ite (.cmp .Eq (.sl (.loc 0) .no (.yes (.cst (.int (1))))) (.cst (.str [43]))) (.cons (.asg (.nm 2) (.pcall 4 (.cons (.sl (.loc 0) (.yes (.cst (.int (1)))) .no) .nil) .nil [0])) (.cons (.ret (.ite (.loc 2) (.tup (.cons (.cst (.str [112, 117, 116])) (.cons (.loc 2) .nil))) (.cst .non))) .nil)) .nil) (.cons (.asg (.nm 1) (.sl (.loc 0) (.yes (.cst (.int (1)))) .no)) (.cons (.ite (.or (.gin false 5 (.sl (.loc 0) .no (.yes (.cst (.int (1)))))) (.or (.no (.cmp2 .LtE .LtE (.cst (.int (1))) (.bi .len (.cons (.loc 1) .nil)) (.glb 2))) (.cmp .Eq (.ix (.loc 1) (.cst (.int (0)))) (.cst (.str [48]))))) (.cons (.ret (.cst .non)) .nil) .nil) (.cons (.ite (.bi .any (.cons (.lc [3] (.nm 3) (.val (.loc 1)) .no (.cmp .NotIn (.loc 3) (.glb 1))) .nil)) (.cons (.ret (.cst .non)) .nil) .nil) (.cons (.ret (.tup (.cons (.gget 5 (.ix (.loc 0) (.cst (.int (0))))) (.cons (.bi .int (.cons (.loc 1) .nil)) .nil)))) .nil)))))
def b8 : Ss := (.cons (.ite (.no (.isi (.loc 0) "str")) (.cons (.rz 1 (.cst (.int (0)))) .nil) .nil) (.cons (.asg (.nm 1) (.ite (.cmp .NotEq (.loc 0) (.cst (.str []))) (.lc [3] (.nm 3) (.val (.mt .split (.loc 0) (.cons (.cst (.str [32])) .nil))) .no (.pcall 7 (.cons (.loc 3) .nil) .nil [0])) (.lst .nil))) (.cons (.forr (.tp (.cons (.nm 2) (.cons (.nm 3) .nil))) (.enum (.loc 1)) (.cons (.ite (.cmp .Is (.loc 3) (.cst .non)) (.cons (.rz 1 (.loc 2)) .nil) .nil) .nil)) (.cons (.ite (.no (.pcall 2 (.cons (.bi .tuple (.cons (.loc 1) .nil)) .nil) .nil [0])) (.cons (.rz 1 (.cst .non)) .nil) .nil) (.cons (.ret (.bi .tuple (.cons (.loc 1) .nil))) .nil)))))
def b9 : Ss := (.cons (.asg (.nm 2) (.bin .Add (.bin .Mult (.cst (.int (7))) (.bi .sum (.cons (.sl (.loc 0) .no (.yes (.cst (.int (63))))) .nil))) (.loc 1))) (.cons (.ite (.cmp .Lt (.loc 1) (.bi .len (.cons (.loc 0) .nil))) (.cons (.asg (.nm 2) (.ix (.loc 0) (.loc 1))) .nil) .nil) (.cons (.asg (.nm 3) (.bi .abs (.cons (.loc 2) .nil))) (.cons (.asg (.nm 4) (.bin .Mod (.bin .Mult (.bin .Add (.bin .Add (.bin .Add (.bin .Mod (.loc 3) (.cst (.int (2147483629)))) (.bin .Mult (.bin .Mult (.cst (.int (7919))) (.loc 1)) (.loc 1))) (.bin .Mult (.cst (.int (31))) (.loc 1))) (.cst (.int (17)))) (.cst (.int (48271)))) (.cst (.int (2147483647))))) (.cons (.ret (.lstR (.cons (.bin .Mult (.loc 3) (.bi .int (.cons (.cmp .GtE (.loc 3) (.bin .Pow (.cst (.int (10))) (.cst (.int (18))))) .nil))) (.cons (.bin .Mod (.bin .Mult (.loc 4) (.loc 4)) (.cst (.int (2147483629)))) .nil)))) .nil)))))
def b10 : Ss := (.cons (.ite (.cmp .Gt (.ix (.loc 0) (.cst (.int (0)))) (.cst (.int (0)))) (.cons (.asg (.nm 2) (.bin .Mod (.ix (.loc 0) (.cst (.int (0)))) (.loc 1))) (.cons (.sub (.loc 0) (.cst (.int (0))) (.bin .FloorDiv (.ix (.loc 0) (.cst (.int (0)))) (.loc 1))) (.cons (.ret (.loc 2)) .nil))) .nil) (.cons (.sub (.loc 0) (.cst (.int (1))) (.bin .Mod (.bin .Add (.bin .Mult (.ix (.loc 0) (.cst (.int (1)))) (.cst (.int (48271)))) (.cst (.int (11)))) (.cst (.int (2147483647))))) (.cons (.ret (.bin .Mod (.bin .FloorDiv (.bin .Mod (.bin .Mult (.ix (.loc 0) (.cst (.int (1)))) (.ix (.loc 0) (.cst (.int (1))))) (.cst (.int (2147483629)))) (.cst (.int (16)))) (.loc 1))) .nil)))
def b11 : Ss := (.cons (.ret (.ix (.loc 1) (.call 10 (.cons (.loc 0) (.cons (.bi .len (.cons (.loc 1) .nil)) .nil)) .nil [0, 1]))) .nil)
def b12 : Ss := (.cons (.ite (.cmp .Eq (.ix (.loc 0) (.cst (.int (0)))) (.cst (.str [112, 117, 116]))) (.cons (.ret (.mrk [43] [(126, [126, 126]), (32, [126, 98]), (10, [126, 110])] (.ix (.loc 0) (.cst (.int (1)))))) .nil) .nil) (.cons (.ret (.bin .Add (.dget (.dlit (.cons (.cst (.str [107, 101, 101, 112])) (.cons (.cst (.str [61])) (.cons (.cst (.str [100, 114, 111, 112])) (.cons (.cst (.str [45])) .nil))))) (.ix (.loc 0) (.cst (.int (0))))) (.bi .str (.cons (.ix (.loc 0) (.cst (.int (1)))) .nil)))) .nil))
def b13 : Ss := (.cons (.asg (.nm 1) (.lstR .nil)) (.cons (.forr (.nm 2) (.range (.cons (.call 10 (.cons (.loc 0) (.cons (.cst (.int (13))) .nil)) .nil [0, 1]) .nil)) (.cons (.asg (.nm 3) (.mt .join (.cst (.str [])) (.cons (.lc [6] (.nm 6) (.range (.cons (.bin .Add (.cst (.int (1))) (.call 10 (.cons (.loc 0) (.cons (.cst (.int (6))) .nil)) .nil [0, 1])) .nil)) .no (.call 11 (.cons (.loc 0) (.cons (.bi .list (.cons (.cst (.str [32, 10, 126, 98, 110, 43, 61, 45, 48, 97, 46])) .nil)) .nil)) .nil [0, 1])) .nil))) (.cons (.asg (.nm 4) (.call 11 (.cons (.loc 0) (.cons (.lst (.cons (.tup (.cons (.cst (.str [107, 101, 101, 112])) (.cons (.bin .Add (.cst (.int (1))) (.call 10 (.cons (.loc 0) (.cons (.cst (.int (40))) .nil)) .nil [0, 1])) .nil))) (.cons (.tup (.cons (.cst (.str [100, 114, 111, 112])) (.cons (.bin .Add (.cst (.int (1))) (.call 10 (.cons (.loc 0) (.cons (.cst (.int (9))) .nil)) .nil [0, 1])) .nil))) (.cons (.tup (.cons (.cst (.str [112, 117, 116])) (.cons (.loc 3) .nil))) .nil)))) .nil)) .nil [0, 1])) (.cons (.asg (.nm 5) (.ix (.ix (.bin .Add (.lst (.cons (.tup (.cons (.cst (.str [110, 111, 110, 101])) (.cons (.cst (.int (0))) .nil))) .nil)) (.loc 1)) (.neg (.cst (.int (1))))) (.cst (.int (0))))) (.cons (.ite (.and (.cmp .NotEq (.ix (.loc 4) (.cst (.int (0)))) (.loc 5)) (.cmp .NotEq (.tup (.cons (.loc 5) (.cons (.ix (.loc 4) (.cst (.int (0)))) .nil))) (.tup (.cons (.cst (.str [100, 114, 111, 112])) (.cons (.cst (.str [112, 117, 116])) .nil))))) (.cons (.ex (.mt .append (.loc 1) (.cons (.loc 4) .nil))) .nil) .nil) .nil))))) (.cons (.ret (.bi .tuple (.cons (.loc 1) .nil))) .nil)))
def b14 : Ss := (.cons (.asg (.nm 1) (.cst (.str []))) (.cons (.asg (.nm 2) (.loc 0)) (.cons (.whl (.cmp .NotEq (.loc 2) (.cst (.str []))) (.cons (.ite (.or (.cmp .In (.ix (.loc 2) (.cst (.int (0)))) (.cst (.str [32, 10]))) (.and (.cmp .Eq (.ix (.loc 2) (.cst (.int (0)))) (.cst (.str [126]))) (.cmp .NotIn (.sl (.loc 2) (.yes (.cst (.int (1)))) (.yes (.cst (.int (2))))) (.tup (.cons (.cst (.str [98])) (.cons (.cst (.str [110])) (.cons (.cst (.str [126])) .nil))))))) (.cons (.ret (.cst .non)) .nil) .nil) (.cons (.asg (.nm 1) (.bin .Add (.loc 1) (.ite (.cmp .Eq (.ix (.loc 2) (.cst (.int (0)))) (.cst (.str [126]))) (.dget (.dlit (.cons (.cst (.str [126, 98])) (.cons (.cst (.str [32])) (.cons (.cst (.str [126, 110])) (.cons (.cst (.str [10])) (.cons (.cst (.str [126, 126])) (.cons (.cst (.str [126])) .nil))))))) (.sl (.loc 2) .no (.yes (.cst (.int (2)))))) (.ix (.loc 2) (.cst (.int (0))))))) (.cons (.asg (.nm 2) (.sl (.loc 2) (.yes (.bin .Add (.cst (.int (1))) (.bi .int (.cons (.cmp .Eq (.ix (.loc 2) (.cst (.int (0)))) (.cst (.str [126]))) .nil)))) .no)) .nil)))) (.cons (.ret (.loc 1)) .nil))))
def b15 : Ss := (.cons (.ite (.cmp .Eq (.sl (.loc 0) .no (.yes (.cst (.int (1))))) (.cst (.str [43]))) (.cons (.asg (.nm 2) (.pcall 14 (.cons (.sl (.loc 0) (.yes (.cst (.int (1)))) .no) .nil) .nil [0])) (.cons (.ret (.ite (.cmp .NotIn (.loc 2) (.tup (.cons (.cst .non) (.cons (.cst (.str [])) .nil)))) (.tup (.cons (.cst (.str [112, 117, 116])) (.cons (.loc 2) .nil))) (.cst .non))) .nil)) .nil) (.cons (.asg (.nm 1) (.sl (.loc 0) (.yes (.cst (.int (1)))) .no)) (.cons (.ite (.or (.cmp .NotIn (.sl (.loc 0) .no (.yes (.cst (.int (1))))) (.tup (.cons (.cst (.str [61])) (.cons (.cst (.str [45])) .nil)))) (.or (.no (.cmp2 .LtE .LtE (.cst (.int (1))) (.bi .len (.cons (.loc 1) .nil)) (.cst (.int (30))))) (.cmp .Eq (.ix (.loc 1) (.cst (.int (0)))) (.cst (.str [48]))))) (.cons (.ret (.cst .non)) .nil) .nil) (.cons (.ite (.cmp .NotEq (.lc [3] (.nm 3) (.val (.loc 1)) (.yes (.cmp .NotIn (.loc 3) (.cst (.str [48, 49, 50, 51, 52, 53, 54, 55, 56, 57])))) (.loc 3)) (.lst .nil)) (.cons (.ret (.cst .non)) .nil) .nil) (.cons (.ret (.tup (.cons (.dget (.dlit (.cons (.cst (.str [61])) (.cons (.cst (.str [107, 101, 101, 112])) (.cons (.cst (.str [45])) (.cons (.cst (.str [100, 114, 111, 112])) .nil))))) (.ix (.loc 0) (.cst (.int (0))))) (.cons (.bi .int (.cons (.loc 1) .nil)) .nil)))) .nil)))))
def b16 : Ss := (.cons (.asg (.nm 1) (.ite (.cmp .NotEq (.loc 0) (.cst (.str []))) (.lc [3] (.nm 3) (.val (.mt .split (.loc 0) (.cons (.cst (.str [32])) .nil))) .no (.pcall 15 (.cons (.loc 3) .nil) .nil [0])) (.lst .nil))) (.cons (.ite (.cmp .In (.cst .non) (.loc 1)) (.cons (.ret (.lst (.cons (.cst (.str [110, 111])) (.cons (.mt .index (.loc 1) (.cons (.cst .non) .nil)) .nil)))) .nil) .nil) (.cons (.asg (.nm 2) (.lc [5] (.nm 5) (.val (.loc 1)) .no (.ix (.loc 5) (.cst (.int (0)))))) (.cons (.forr (.tp (.cons (.nm 3) (.cons (.nm 4) .nil))) (.zip (.loc 2) (.sl (.loc 2) (.yes (.cst (.int (1)))) .no)) (.cons (.ite (.or (.cmp .Eq (.loc 3) (.loc 4)) (.cmp .Eq (.tup (.cons (.loc 3) (.cons (.loc 4) .nil))) (.tup (.cons (.cst (.str [100, 114, 111, 112])) (.cons (.cst (.str [112, 117, 116])) .nil))))) (.cons (.ret (.lst (.cons (.cst (.str [110, 111])) (.cons (.cst .non) .nil)))) .nil) .nil) .nil)) (.cons (.ret (.lst (.cons (.cst (.str [114, 101, 97, 100])) (.cons (.bi .tuple (.cons (.loc 1) .nil)) .nil)))) .nil)))))
def b17 : Ss := (.cons (.tryy (.cons (.ret (.lst (.cons (.cst (.str [114, 101, 97, 100])) (.cons (.call 8 (.cons (.loc 0) .nil) .nil [0]) .nil)))) .nil) 1 1 fun d => (.cons (.asg (.nm 2) (.and (.cst (.bl true)) (.and (.cst (.bl true)) (.no (.cst (.bl false)))))) (.cons (.ret (.ite (.loc 2) (.lst (.cons (.cst (.str [110, 111])) (.cons (.cst d) .nil))) (.lst (.cons (.cst (.str [111, 100, 100])) (.cons (.cst .non) .nil))))) .nil))) .nil)
def b18 : Ss := (.cons (.asg (.nm 2) (.call 10 (.cons (.loc 0) (.cons (.bin .Add (.bi .len (.cons (.loc 1) .nil)) (.cst (.int (1)))) .nil)) .nil [0, 1])) (.cons (.asg (.nm 3) (.call 11 (.cons (.loc 0) (.cons (.bin .Add (.bi .list (.cons (.cst (.str [43, 61, 45, 126, 32, 98, 110, 48, 49, 57, 97, 46])) .nil)) (.lst (.cons (.cst (.str [10])) (.cons (.cst (.str [32, 32])) .nil)))) .nil)) .nil [0, 1])) (.cons (.asg (.nm 4) (.call 10 (.cons (.loc 0) (.cons (.cst (.int (4))) .nil)) .nil [0, 1])) (.cons (.ite (.and (.cmp .Eq (.loc 4) (.cst (.int (3)))) (.cmp .Lt (.bi .len (.cons (.loc 1) .nil)) (.cst (.int (400))))) (.cons (.ret (.bin .Add (.bin .Add (.loc 1) (.cst (.str [32]))) (.loc 1))) .nil) .nil) (.cons (.asg (.nm 4) (.bin .Mod (.loc 4) (.cst (.int (3))))) (.cons (.ret (.bin .Add (.bin .Add (.sl (.loc 1) .no (.yes (.loc 2))) (.ix (.lst (.cons (.loc 3) (.cons (.cst (.str [])) (.cons (.loc 3) .nil)))) (.loc 4))) (.sl (.loc 1) (.yes (.bin .Add (.loc 2) (.bi .int (.cons (.cmp .Gt (.loc 4) (.cst (.int (0)))) .nil)))) .no))) .nil))))))
def b19 : Ss := (.cons (.forr (.nm 1) (.val (.lst (.cons (.cst .non) (.cons (.cst (.int (5))) (.cons (.lst (.cons (.cst (.str [61, 49])) .nil)) (.cons (.tup (.cons (.cst (.str [61, 49])) .nil)) (.cons (.cst (.bl true)) (.cons .dnew (.cons (.bin .Add (.cst (.str [61])) (.bin .Mult (.cst (.str [49])) (.cst (.int (31))))) (.cons (.cst (.str [61, 48])) .nil)))))))))) (.cons (.ite (.cmp .NotEq (.call 17 (.cons (.loc 1) .nil) .nil [0]) (.lst (.cons (.cst (.str [110, 111])) (.cons (.cst (.int (0))) .nil)))) (.cons (.ret (.cst (.bl false))) .nil) .nil) .nil)) (.cons (.ite (.cmp .NotEq (.pcall 8 (.cons (.bin .Add (.cst (.str [45])) (.bin .Mult (.cst (.str [57])) (.cst (.int (30))))) .nil) .nil [0]) (.tup (.cons (.tup (.cons (.cst (.str [100, 114, 111, 112])) (.cons (.bin .Sub (.bin .Pow (.cst (.int (10))) (.cst (.int (30)))) (.cst (.int (1)))) .nil))) .nil))) (.cons (.ret (.cst (.bl false))) .nil) .nil) (.cons (.forr (.nm 2) (.range (.cons (.bi .max (.cons (.cst (.int (1))) (.cons (.bi .min (.cons (.bi .len (.cons (.loc 0) .nil)) (.cons (.cst (.int (15))) .nil))) .nil))) .nil)) (.cons (.asg (.nm 3) (.call 9 (.cons (.loc 0) (.cons (.loc 2) .nil)) .nil [0, 1])) (.cons (.asg (.nm 4) (.call 13 (.cons (.loc 3) .nil) .nil [0])) (.cons (.asg (.nm 5) (.mt .join (.cst (.str [32])) (.cons (.lc [7] (.nm 7) (.val (.loc 4)) .no (.pcall 12 (.cons (.loc 7) .nil) .nil [0])) .nil))) (.cons (.ite (.or (.cmp .NotEq (.pcall 6 (.cons (.loc 4) .nil) .nil [0]) (.loc 5)) (.cmp .NotEq (.bi .repr (.cons (.pcall 8 (.cons (.loc 5) .nil) .nil [0]) .nil)) (.bi .repr (.cons (.loc 4) .nil)))) (.cons (.ret (.cst (.bl false))) .nil) .nil) (.cons (.forr (.nm 6) (.range (.cons (.cst (.int (8))) .nil)) (.cons (.ite (.cmp .NotEq (.bi .repr (.cons (.pcall 17 (.cons (.loc 5) .nil) .nil [0]) .nil)) (.bi .repr (.cons (.pcall 16 (.cons (.loc 5) .nil) .nil [0]) .nil))) (.cons (.ret (.cst (.bl false))) .nil) .nil) (.cons (.asg (.nm 5) (.call 18 (.cons (.loc 3) (.cons (.loc 5) .nil)) .nil [0, 1])) .nil))) .nil)))))) (.cons (.ret (.cst (.bl true))) .nil))))
theorem c0 : cBody T 30 (mkCk N0 (defScope (top 7))) (defBody (top 7)) = some b0 := by kernel_rfl
theorem c1 : cBody T 30 (mkCk N1 (defScope (top 8))) (defBody (top 8)) = some b1 := by kernel_rfl
theorem c2 : cBody T 30 (mkCk N2 (defScope (top 9))) (defBody (top 9)) = some b2 := by kernel_rfl
theorem c3 : cBody T 30 (mkCk N3 (defScope (top 16))) (defBody (top 16)) = some b3 := by kernel_rfl
theorem c4 : cBody T 30 (mkCk N4 (defScope (top 17))) (defBody (top 17)) = some b4 := by kernel_rfl
theorem c5 : cBody T 30 (mkCk N5 (defScope (top 18))) (defBody (top 18)) = some b5 := by kernel_rfl
theorem c6 : cBody T 30 (mkCk N6 (defScope (top 19))) (defBody (top 19)) = some b6 := by kernel_rfl
theorem c7 : cBody T 30 (mkCk N7 (defScope (top 20))) (defBody (top 20)) = some b7 := by kernel_rfl
theorem c8 : cBody T 30 (mkCk N8 (defScope (top 21))) (defBody (top 21)) = some b8 := by kernel_rfl
theorem c9 : cBody T 30 (mkCk N9 (defScope (top 23))) (defBody (top 23)) = some b9 := by kernel_rfl
theorem c10 : cBody T 30 (mkCk N10 (defScope (top 24))) (defBody (top 24)) = some b10 := by kernel_rfl
theorem c11 : cBody T 30 (mkCk N11 (defScope (top 25))) (defBody (top 25)) = some b11 := by kernel_rfl
theorem c12 : cBody T 30 (mkCk N12 (defScope (top 27))) (defBody (top 27)) = some b12 := by kernel_rfl
theorem c13 : cBody T 30 (mkCk N13 (defScope (top 28))) (defBody (top 28)) = some b13 := by kernel_rfl
theorem c14 : cBody T 30 (mkCk N14 (defScope (top 29))) (defBody (top 29)) = some b14 := by kernel_rfl
theorem c15 : cBody T 30 (mkCk N15 (defScope (top 30))) (defBody (top 30)) = some b15 := by kernel_rfl
theorem c16 : cBody T 30 (mkCk N16 (defScope (top 31))) (defBody (top 31)) = some b16 := by kernel_rfl
theorem c17 : cBody T 30 (mkCk N17 (defScope (top 32))) (defBody (top 32)) = some b17 := by kernel_rfl
theorem c18 : cBody T 30 (mkCk N18 (defScope (top 33))) (defBody (top 33)) = some b18 := by kernel_rfl
theorem c19 : cBody T 30 (mkCk N19 (defScope (top 34))) (defBody (top 34)) = some b19 := by kernel_rfl
theorem s0 : FnScope N0 ["thing", "least"] (defScope (top 7)) := ⟨rfl, rfl, rfl, by decide +kernel, rfl, by decide +kernel, by decide +kernel⟩
theorem s1 : FnScope N1 ["thing"] (defScope (top 8)) := ⟨rfl, rfl, rfl, by decide +kernel, rfl, by decide +kernel, by decide +kernel⟩
theorem s2 : FnScope N2 ["thing"] (defScope (top 9)) := ⟨rfl, rfl, rfl, by decide +kernel, rfl, by decide +kernel, by decide +kernel⟩
theorem s3 : FnScope N3 ["text"] (defScope (top 16)) := ⟨rfl, rfl, rfl, by decide +kernel, rfl, by decide +kernel, by decide +kernel⟩
theorem s4 : FnScope N4 ["text"] (defScope (top 17)) := ⟨rfl, rfl, rfl, by decide +kernel, rfl, by decide +kernel, by decide +kernel⟩
theorem s5 : FnScope N5 ["part"] (defScope (top 18)) := ⟨rfl, rfl, rfl, by decide +kernel, rfl, by decide +kernel, by decide +kernel⟩
theorem s6 : FnScope N6 ["change"] (defScope (top 19)) := ⟨rfl, rfl, rfl, by decide +kernel, rfl, by decide +kernel, by decide +kernel⟩
theorem s7 : FnScope N7 ["text"] (defScope (top 20)) := ⟨rfl, rfl, rfl, by decide +kernel, rfl, by decide +kernel, by decide +kernel⟩
theorem s8 : FnScope N8 ["text"] (defScope (top 21)) := ⟨rfl, rfl, rfl, by decide +kernel, rfl, by decide +kernel, by decide +kernel⟩
theorem s9 : FnScope N9 ["_law_script", "_law_k"] (defScope (top 23)) := ⟨rfl, rfl, rfl, by decide +kernel, rfl, by decide +kernel, by decide +kernel⟩
theorem s10 : FnScope N10 ["_law_pool_here", "_law_many"] (defScope (top 24)) := ⟨rfl, rfl, rfl, by decide +kernel, rfl, by decide +kernel, by decide +kernel⟩
theorem s11 : FnScope N11 ["_law_pool_here", "_law_some"] (defScope (top 25)) := ⟨rfl, rfl, rfl, by decide +kernel, rfl, by decide +kernel, by decide +kernel⟩
theorem s12 : FnScope N12 ["_law_part_here"] (defScope (top 27)) := ⟨rfl, rfl, rfl, by decide +kernel, rfl, by decide +kernel, by decide +kernel⟩
theorem s13 : FnScope N13 ["_law_pool_here"] (defScope (top 28)) := ⟨rfl, rfl, rfl, by decide +kernel, rfl, by decide +kernel, by decide +kernel⟩
theorem s14 : FnScope N14 ["_law_words"] (defScope (top 29)) := ⟨rfl, rfl, rfl, by decide +kernel, rfl, by decide +kernel, by decide +kernel⟩
theorem s15 : FnScope N15 ["_law_line"] (defScope (top 30)) := ⟨rfl, rfl, rfl, by decide +kernel, rfl, by decide +kernel, by decide +kernel⟩
theorem s16 : FnScope N16 ["_law_line"] (defScope (top 31)) := ⟨rfl, rfl, rfl, by decide +kernel, rfl, by decide +kernel, by decide +kernel⟩
theorem s17 : FnScope N17 ["_law_thing"] (defScope (top 32)) := ⟨rfl, rfl, rfl, by decide +kernel, rfl, by decide +kernel, by decide +kernel⟩
theorem s18 : FnScope N18 ["_law_pool_here", "_law_line"] (defScope (top 33)) := ⟨rfl, rfl, rfl, by decide +kernel, rfl, by decide +kernel, by decide +kernel⟩
theorem s19 : FnScope N19 ["_law_script"] (defScope (top 34)) := ⟨rfl, rfl, rfl, by decide +kernel, rfl, by decide +kernel, by decide +kernel⟩
def f0 : Fd := ⟨"is_number", ["thing", "least"], N0, [], b0⟩
def d0 : He.DefD := ⟨("is_number", none), "is_number", "is_number", defArgs (top 7), defBody (top 7), defScope (top 7), [], []⟩
def f1 : Fd := ⟨"is_part", ["thing"], N1, [], b1⟩
def d1 : He.DefD := ⟨("is_part", none), "is_part", "is_part", defArgs (top 8), defBody (top 8), defScope (top 8), [], []⟩
def f2 : Fd := ⟨"is_change", ["thing"], N2, [], b2⟩
def d2 : He.DefD := ⟨("is_change", none), "is_change", "is_change", defArgs (top 9), defBody (top 9), defScope (top 9), [], []⟩
def f3 : Fd := ⟨"marked", ["text"], N3, [], b3⟩
def d3 : He.DefD := ⟨("marked", none), "marked", "marked", defArgs (top 16), defBody (top 16), defScope (top 16), [], []⟩
def f4 : Fd := ⟨"unmarked", ["text"], N4, [], b4⟩
def d4 : He.DefD := ⟨("unmarked", none), "unmarked", "unmarked", defArgs (top 17), defBody (top 17), defScope (top 17), [], []⟩
def f5 : Fd := ⟨"show_part", ["part"], N5, [], b5⟩
def d5 : He.DefD := ⟨("show_part", none), "show_part", "show_part", defArgs (top 18), defBody (top 18), defScope (top 18), [], []⟩
def f6 : Fd := ⟨"show_change", ["change"], N6, [], b6⟩
def d6 : He.DefD := ⟨("show_change", none), "show_change", "show_change", defArgs (top 19), defBody (top 19), defScope (top 19), [], []⟩
def f7 : Fd := ⟨"read_part", ["text"], N7, [], b7⟩
def d7 : He.DefD := ⟨("read_part", none), "read_part", "read_part", defArgs (top 20), defBody (top 20), defScope (top 20), [], []⟩
def f8 : Fd := ⟨"read_change", ["text"], N8, [], b8⟩
def d8 : He.DefD := ⟨("read_change", none), "read_change", "read_change", defArgs (top 21), defBody (top 21), defScope (top 21), [], []⟩
def f9 : Fd := ⟨"_law_pool", ["_law_script", "_law_k"], N9, [], b9⟩
def d9 : He.DefD := ⟨("_law_pool", none), "_law_pool", "_law_pool", defArgs (top 23), defBody (top 23), defScope (top 23), [], []⟩
def f10 : Fd := ⟨"_law_take", ["_law_pool_here", "_law_many"], N10, [], b10⟩
def d10 : He.DefD := ⟨("_law_take", none), "_law_take", "_law_take", defArgs (top 24), defBody (top 24), defScope (top 24), [], []⟩
def f11 : Fd := ⟨"_law_one", ["_law_pool_here", "_law_some"], N11, [], b11⟩
def d11 : He.DefD := ⟨("_law_one", none), "_law_one", "_law_one", defArgs (top 25), defBody (top 25), defScope (top 25), [], []⟩
def f12 : Fd := ⟨"_law_part_line", ["_law_part_here"], N12, [], b12⟩
def d12 : He.DefD := ⟨("_law_part_line", none), "_law_part_line", "_law_part_line", defArgs (top 27), defBody (top 27), defScope (top 27), [], []⟩
def f13 : Fd := ⟨"_law_drawn", ["_law_pool_here"], N13, [], b13⟩
def d13 : He.DefD := ⟨("_law_drawn", none), "_law_drawn", "_law_drawn", defArgs (top 28), defBody (top 28), defScope (top 28), [], []⟩
def f14 : Fd := ⟨"_law_unmarked", ["_law_words"], N14, [], b14⟩
def d14 : He.DefD := ⟨("_law_unmarked", none), "_law_unmarked", "_law_unmarked", defArgs (top 29), defBody (top 29), defScope (top 29), [], []⟩
def f15 : Fd := ⟨"_law_part", ["_law_line"], N15, [], b15⟩
def d15 : He.DefD := ⟨("_law_part", none), "_law_part", "_law_part", defArgs (top 30), defBody (top 30), defScope (top 30), [], []⟩
def f16 : Fd := ⟨"_law_due", ["_law_line"], N16, [], b16⟩
def d16 : He.DefD := ⟨("_law_due", none), "_law_due", "_law_due", defArgs (top 31), defBody (top 31), defScope (top 31), [], []⟩
def f17 : Fd := ⟨"_law_said", ["_law_thing"], N17, [], b17⟩
def d17 : He.DefD := ⟨("_law_said", none), "_law_said", "_law_said", defArgs (top 32), defBody (top 32), defScope (top 32), [], []⟩
def f18 : Fd := ⟨"_law_bent", ["_law_pool_here", "_law_line"], N18, [], b18⟩
def d18 : He.DefD := ⟨("_law_bent", none), "_law_bent", "_law_bent", defArgs (top 33), defBody (top 33), defScope (top 33), [], []⟩
def f19 : Fd := ⟨"law", ["_law_script"], N19, [], b19⟩
def d19 : He.DefD := ⟨("law", none), "law", "law", defArgs (top 34), defBody (top 34), defScope (top 34), [], []⟩
def Pg : Prg := ⟨[f0, f1, f2, f3, f4, f5, f6, f7, f8, f9, f10, f11, f12, f13, f14, f15, f16, f17, f18, f19], consts, 1000000⟩
def e0 : He.DefD := ⟨("NoForm", some "__init__"), "__init__", "NoForm.__init__", defArgs (inClass (top 2) 0), defBody (inClass (top 2) 0), defScope (inClass (top 2) 0), [], []⟩
theorem es0 : FnScope ["self", "at"] ["self", "at"] (defScope (inClass (top 2) 0)) := ⟨rfl, rfl, rfl, by decide +kernel, rfl, by decide +kernel, by decide +kernel⟩
def e1 : He.DefD := ⟨("NoText", some "__init__"), "__init__", "NoText.__init__", defArgs (inClass (top 3) 0), defBody (inClass (top 3) 0), defScope (inClass (top 3) 0), [], []⟩
theorem es1 : FnScope ["self", "part"] ["self", "part"] (defScope (inClass (top 3) 0)) := ⟨rfl, rfl, rfl, by decide +kernel, rfl, by decide +kernel, by decide +kernel⟩
def e2 : He.DefD := ⟨("NoRow", some "__init__"), "__init__", "NoRow.__init__", defArgs (inClass (top 4) 0), defBody (inClass (top 4) 0), defScope (inClass (top 4) 0), [], []⟩
theorem es2 : FnScope ["self", "row"] ["self", "row"] (defScope (inClass (top 4) 0)) := ⟨rfl, rfl, rfl, by decide +kernel, rfl, by decide +kernel, by decide +kernel⟩
def m0 : He.DefD := ⟨("_law_marked", none), "_law_marked", "_law_marked", defArgs (top 26), defBody (top 26), defScope (top 26), [], []⟩
theorem ms0 : FnScope ["_law_words"] ["_law_words"] (defScope (top 26)) := ⟨rfl, rfl, rfl, by decide +kernel, rfl, by decide +kernel, by decide +kernel⟩
def fn : List He.DefD := [d0, d1, d2, d3, d4, d5, d6, d7, d8, d9, d10, d11, d12, d13, d14, d15, d16, d17, d18, d19, e0, e1, e2, m0]
def tb : List (Str × List He.Dv) := [("WORDS", [.str "keep", .str "drop", .str "put"])]
def fa : List He.Fa := [.glo "is_number", .glo "is_part", .glo "is_change", .glo "marked", .glo "unmarked", .glo "show_part", .glo "show_change", .glo "read_part", .glo "read_change", .glo "_law_pool", .glo "_law_take", .glo "_law_one", .glo "_law_part_line", .glo "_law_drawn", .glo "_law_unmarked", .glo "_law_part", .glo "_law_due", .glo "_law_said", .glo "_law_bent", .glo "law", .free "ValueError", .free "abs", .free "all", .free "any", .free "bool", .free "enumerate", .free "int", .free "isinstance", .free "len", .free "list", .free "max", .free "min", .free "range", .free "repr", .free "str", .free "sum", .free "tuple", .free "zip", .glo "WORDS", .str "FIGURES" "0123456789", .int "MOST_FIGURES" (30), .glo "NoForm", .glo "NoText", .glo "NoRow", .glo "PageError", .glo "_law_marked", .glo "MARKS", .glo "READ", .glo "COUNTS"]
def exL (K : PySem.W.Frag) : List Bool := [exfB K (He.ga K "NoForm") (He.ga K "PageError") "at", exfB K (He.ga K "NoText") (He.ga K "PageError") "part", exfB K (He.ga K "NoRow") (He.ga K "PageError") "row", isKB K (He.ga K "NoText") "NoForm" false none, isKB K (He.ga K "NoText") "NoRow" false none, isKB K (He.ga K "NoText") "PageError" true none, isKB K (He.ga K "NoText") "ValueError" true (some "ValueError")]
def ds : List Tbd := [("MARKS", [(" ", .str "~b"), ("\n", .str "~n"), ("~", .str "~~")]), ("READ", [("b", .str " "), ("n", .str "\n"), ("~", .str "~")]), ("COUNTS", [("=", .str "keep"), ("-", .str "drop")])]
abbrev R : PySem.W.OpenRow := PySem.W.OpenLaw.row PySem.Challenge.rw_pagesofproofs_k65_changes_written
abbrev hk : PySem.W.Hook := hookX 4 fa fn tb exL ds
def ob (s : PySem.W.SharedT) : AlX := obsXG 4 fa fn tb exL ds (HandSHeadRun.getT s)
theorem ob_eq (s : PySem.W.SharedT) : ob s = hk.obs s.abs := obsXG_eq (HandSHeadRun.getT_eq s)
def loose : List PySem.Str := ["is_number", "is_part", "is_change", "marked", "unmarked", "show_part", "show_change", "read_part", "read_change", "_law_pool", "_law_take", "_law_one", "_law_part_line", "_law_drawn", "_law_unmarked", "_law_part", "_law_due", "_law_said", "_law_bent", "_law_marked", "WORDS", "FIGURES", "MOST_FIGURES", "PageError", "NoForm", "NoText", "NoRow", "MARKS", "READ", "COUNTS"]
theorem runF (w : World) : HandSHeadRun.RunEq R (PySem.W.view R.prog [34]) hk ob 2500 loose (w.withFollow "special-get-raises" false) := by
  intro os
  kernel_rfl
theorem runT (w : World) : HandSHeadRun.RunEq R (PySem.W.view R.prog [34]) hk ob 2500 loose (w.withFollow "special-get-raises" true) := by
  intro os
  kernel_rfl
theorem run (w : World) : HandSHeadRun.RunEq R (PySem.W.view R.prog [34]) hk ob 2500 loose w := PySem.W.byRow2 "special-get-raises" (P := fun w => HandSHeadRun.RunEq R (PySem.W.view R.prog [34]) hk ob 2500 loose w) runF runT w
section
variable {P : Program} {w : World} {K : PySem.W.Frag} {h : Heap} {mg : Str → Option Value} {base : Heap}
def gr (K : PySem.W.Frag) : Gr := ⟨K, fun i => match i with | 0 => He.ga K "NoForm" | 1 => He.ga K "NoText" | 2 => He.ga K "NoRow" | _ => 0, fun i => match i with | 0 => "at" | 1 => "part" | 2 => "row" | _ => "", none⟩
theorem md (X : K.In h) (Y : h.Ns mainGlobals mg) (c : SaysX fa fn tb exL ds w K) : Md T Pg.consts (fun _ => []) (gr K) K mg w := by
  refine ⟨rfl, fun x hx => ?_, rfl, fun x n f hm => ?_, fun n y b hm => ?_, fun g x hg => ?_, fun x g hm => ?_⟩
  · simp only [T, List.mem_cons, List.not_mem_nil, or_false] at hx
    rcases hx with rfl | rfl | rfl | rfl | rfl | rfl | rfl | rfl | rfl | rfl | rfl | rfl | rfl | rfl | rfl | rfl | rfl | rfl
    · exact He.free_ok X Y (c.d.fact 20 (f := .free "ValueError") rfl)
    · exact He.free_ok X Y (c.d.fact 21 (f := .free "abs") rfl)
    · exact He.free_ok X Y (c.d.fact 22 (f := .free "all") rfl)
    · exact He.free_ok X Y (c.d.fact 23 (f := .free "any") rfl)
    · exact He.free_ok X Y (c.d.fact 24 (f := .free "bool") rfl)
    · exact He.free_ok X Y (c.d.fact 25 (f := .free "enumerate") rfl)
    · exact He.free_ok X Y (c.d.fact 26 (f := .free "int") rfl)
    · exact He.free_ok X Y (c.d.fact 27 (f := .free "isinstance") rfl)
    · exact He.free_ok X Y (c.d.fact 28 (f := .free "len") rfl)
    · exact He.free_ok X Y (c.d.fact 29 (f := .free "list") rfl)
    · exact He.free_ok X Y (c.d.fact 30 (f := .free "max") rfl)
    · exact He.free_ok X Y (c.d.fact 31 (f := .free "min") rfl)
    · exact He.free_ok X Y (c.d.fact 32 (f := .free "range") rfl)
    · exact He.free_ok X Y (c.d.fact 33 (f := .free "repr") rfl)
    · exact He.free_ok X Y (c.d.fact 34 (f := .free "str") rfl)
    · exact He.free_ok X Y (c.d.fact 35 (f := .free "sum") rfl)
    · exact He.free_ok X Y (c.d.fact 36 (f := .free "tuple") rfl)
    · exact He.free_ok X Y (c.d.fact 37 (f := .free "zip") rfl)
  · simp only [T, List.mem_cons, Prod.mk.injEq, List.not_mem_nil, or_false] at hm
    rcases hm with ⟨rfl, rfl, rfl⟩ | ⟨rfl, rfl, rfl⟩ | ⟨rfl, rfl, rfl⟩
    · exact ⟨He.glo_ok X Y (c.d.fact 41 (f := .glo "NoForm") rfl), by decide +kernel, rfl, He.ga K "PageError", exfB_ok (c.exb 0 rfl)⟩
    · exact ⟨He.glo_ok X Y (c.d.fact 42 (f := .glo "NoText") rfl), by decide +kernel, rfl, He.ga K "PageError", exfB_ok (c.exb 1 rfl)⟩
    · exact ⟨He.glo_ok X Y (c.d.fact 43 (f := .glo "NoRow") rfl), by decide +kernel, rfl, He.ga K "PageError", exfB_ok (c.exb 2 rfl)⟩
  · simp only [T, List.mem_cons, Prod.mk.injEq, List.not_mem_nil, or_false] at hm
    rcases hm with ⟨rfl, rfl, rfl⟩ | ⟨rfl, rfl, rfl⟩ | ⟨rfl, rfl, rfl⟩ | ⟨rfl, rfl, rfl⟩
    · exact isK_own (c.exb 3 rfl) (He.glo_ok X Y (c.d.fact 41 (f := .glo "NoForm") rfl)) (by decide +kernel)
    · exact isK_own (c.exb 4 rfl) (He.glo_ok X Y (c.d.fact 43 (f := .glo "NoRow") rfl)) (by decide +kernel)
    · exact isK_own (c.exb 5 rfl) (He.glo_ok X Y (c.d.fact 44 (f := .glo "PageError") rfl)) (by decide +kernel)
    · exact isK_blt (c.exb 6 rfl) (He.free_ok X Y (c.d.fact 20 (f := .free "ValueError") rfl)) (by decide +kernel) (by decide +kernel) (by decide +kernel)
  · match g, hg with
    | 0, hg =>
      cases hg
      exact ⟨by decide +kernel, .tup [.str [107, 101, 101, 112], .str [100, 114, 111, 112], .str [112, 117, 116]], .ref (He.ga K "WORDS"), _, rfl, He.glo_ok X Y (c.d.fact 38 (f := .glo "WORDS") rfl), rfl, fun w H => .tup (.inr (c.tup 0 (x := "WORDS") (vs := [.str "keep", .str "drop", .str "put"]) rfl)) (.cons (.str _) (.cons (.str _) (.cons (.str _) .nil)))⟩
    | 1, hg =>
      cases hg
      obtain ⟨t, e⟩ := He.str_ok X Y (c.d.fact 39 (f := .str "FIGURES" "0123456789") rfl)
      exact ⟨by decide +kernel, .str [48, 49, 50, 51, 52, 53, 54, 55, 56, 57], .str "0123456789", _, rfl, e, ⟨t, rfl⟩, fun w H => .str _⟩
    | 2, hg =>
      cases hg
      obtain ⟨t, e⟩ := He.int_ok X Y (c.d.fact 40 (f := .int "MOST_FIGURES" (30)) rfl)
      exact ⟨by decide +kernel, .int (30), .int (30), _, rfl, e, ⟨t, rfl⟩, fun w H => .int _⟩
    | g + 3, hg => cases hg
  · simp only [T, List.mem_cons, Prod.mk.injEq, List.not_mem_nil, or_false] at hm
    rcases hm with ⟨rfl, rfl⟩ | ⟨rfl, rfl⟩ | ⟨rfl, rfl⟩
    · exact ⟨by decide +kernel, He.ga K "MARKS", _, _, rfl, He.glo_ok X Y (c.d.fact 46 (f := .glo "MARKS") rfl), c.dic 0 rfl⟩
    · exact ⟨by decide +kernel, He.ga K "READ", _, _, rfl, He.glo_ok X Y (c.d.fact 47 (f := .glo "READ") rfl), c.dic 1 rfl⟩
    · exact ⟨by decide +kernel, He.ga K "COUNTS", _, _, rfl, He.glo_ok X Y (c.d.fact 48 (f := .glo "COUNTS") rfl), c.dic 2 rfl⟩
theorem de0 (X : K.In h) (Y : h.Ns mainGlobals mg) (c : He.SaysD fa fn K) {fd : FuncData} (F : FunD K d0.name d0.qual d0.params d0.body d0.scope (d0.dvs K) (d0.kws K) (He.fAd K d0.at_) fd) : De T K mg (gr K) 0 "is_number" [] (He.fAd K d0.at_) fd ["thing", "least"] := by
  refine ⟨He.glo_ok X Y (c.fact 0 (f := .glo "is_number") rfl), F.kp, by decide +kernel, [], [], .nil, fun _ _ => .nil, fun n ks pm hm => ?_⟩
  simp only [T, List.mem_cons, Prod.mk.injEq, List.not_mem_nil, or_false] at hm
  rcases hm with ⟨h1, rfl, rfl, rfl⟩ | ⟨h1, rfl, rfl, rfl⟩ | ⟨h1, rfl, rfl, rfl⟩ | ⟨h1, rfl, rfl, rfl⟩ | ⟨h1, rfl, rfl, rfl⟩ | ⟨h1, rfl, rfl, rfl⟩ | ⟨h1, rfl, rfl, rfl⟩ | ⟨h1, rfl, rfl, rfl⟩ | ⟨h1, rfl, rfl, rfl⟩ | ⟨h1, rfl, rfl, rfl⟩ | ⟨h1, rfl, rfl, rfl⟩ | ⟨h1, rfl, rfl, rfl⟩ | ⟨h1, rfl, rfl, rfl⟩ | ⟨h1, rfl, rfl, rfl⟩ | ⟨h1, rfl, rfl, rfl⟩ | ⟨h1, rfl, rfl, rfl⟩ | ⟨h1, rfl, rfl, rfl⟩ | ⟨h1, rfl, rfl, rfl⟩ | ⟨h1, rfl, rfl, rfl⟩
  · exact kb_no F fun _ _ _ _ _ _ us ws l1 l2 => match us, ws, l1, l2 with | [u0, u1], [], _, _ => ⟨_, rfl, rfl, rfl⟩
  · exact absurd h1 (by decide)
  · exact absurd h1 (by decide)
  · exact absurd h1 (by decide)
  · exact absurd h1 (by decide)
  · exact absurd h1 (by decide)
  · exact absurd h1 (by decide)
  · exact absurd h1 (by decide)
  · exact absurd h1 (by decide)
  · exact absurd h1 (by decide)
  · exact absurd h1 (by decide)
  · exact absurd h1 (by decide)
  · exact absurd h1 (by decide)
  · exact absurd h1 (by decide)
  · exact absurd h1 (by decide)
  · exact absurd h1 (by decide)
  · exact absurd h1 (by decide)
  · exact absurd h1 (by decide)
  · exact absurd h1 (by decide)
theorem de1 (X : K.In h) (Y : h.Ns mainGlobals mg) (c : He.SaysD fa fn K) {fd : FuncData} (F : FunD K d1.name d1.qual d1.params d1.body d1.scope (d1.dvs K) (d1.kws K) (He.fAd K d1.at_) fd) : De T K mg (gr K) 1 "is_part" [] (He.fAd K d1.at_) fd ["thing"] := by
  refine ⟨He.glo_ok X Y (c.fact 1 (f := .glo "is_part") rfl), F.kp, by decide +kernel, [], [], .nil, fun _ _ => .nil, fun n ks pm hm => ?_⟩
  simp only [T, List.mem_cons, Prod.mk.injEq, List.not_mem_nil, or_false] at hm
  rcases hm with ⟨h1, rfl, rfl, rfl⟩ | ⟨h1, rfl, rfl, rfl⟩ | ⟨h1, rfl, rfl, rfl⟩ | ⟨h1, rfl, rfl, rfl⟩ | ⟨h1, rfl, rfl, rfl⟩ | ⟨h1, rfl, rfl, rfl⟩ | ⟨h1, rfl, rfl, rfl⟩ | ⟨h1, rfl, rfl, rfl⟩ | ⟨h1, rfl, rfl, rfl⟩ | ⟨h1, rfl, rfl, rfl⟩ | ⟨h1, rfl, rfl, rfl⟩ | ⟨h1, rfl, rfl, rfl⟩ | ⟨h1, rfl, rfl, rfl⟩ | ⟨h1, rfl, rfl, rfl⟩ | ⟨h1, rfl, rfl, rfl⟩ | ⟨h1, rfl, rfl, rfl⟩ | ⟨h1, rfl, rfl, rfl⟩ | ⟨h1, rfl, rfl, rfl⟩ | ⟨h1, rfl, rfl, rfl⟩
  · exact absurd h1 (by decide)
  · exact kb_no F fun _ _ _ _ _ _ us ws l1 l2 => match us, ws, l1, l2 with | [u0], [], _, _ => ⟨_, rfl, rfl, rfl⟩
  · exact absurd h1 (by decide)
  · exact absurd h1 (by decide)
  · exact absurd h1 (by decide)
  · exact absurd h1 (by decide)
  · exact absurd h1 (by decide)
  · exact absurd h1 (by decide)
  · exact absurd h1 (by decide)
  · exact absurd h1 (by decide)
  · exact absurd h1 (by decide)
  · exact absurd h1 (by decide)
  · exact absurd h1 (by decide)
  · exact absurd h1 (by decide)
  · exact absurd h1 (by decide)
  · exact absurd h1 (by decide)
  · exact absurd h1 (by decide)
  · exact absurd h1 (by decide)
  · exact absurd h1 (by decide)
theorem de2 (X : K.In h) (Y : h.Ns mainGlobals mg) (c : He.SaysD fa fn K) {fd : FuncData} (F : FunD K d2.name d2.qual d2.params d2.body d2.scope (d2.dvs K) (d2.kws K) (He.fAd K d2.at_) fd) : De T K mg (gr K) 2 "is_change" [] (He.fAd K d2.at_) fd ["thing"] := by
  refine ⟨He.glo_ok X Y (c.fact 2 (f := .glo "is_change") rfl), F.kp, by decide +kernel, [], [], .nil, fun _ _ => .nil, fun n ks pm hm => ?_⟩
  simp only [T, List.mem_cons, Prod.mk.injEq, List.not_mem_nil, or_false] at hm
  rcases hm with ⟨h1, rfl, rfl, rfl⟩ | ⟨h1, rfl, rfl, rfl⟩ | ⟨h1, rfl, rfl, rfl⟩ | ⟨h1, rfl, rfl, rfl⟩ | ⟨h1, rfl, rfl, rfl⟩ | ⟨h1, rfl, rfl, rfl⟩ | ⟨h1, rfl, rfl, rfl⟩ | ⟨h1, rfl, rfl, rfl⟩ | ⟨h1, rfl, rfl, rfl⟩ | ⟨h1, rfl, rfl, rfl⟩ | ⟨h1, rfl, rfl, rfl⟩ | ⟨h1, rfl, rfl, rfl⟩ | ⟨h1, rfl, rfl, rfl⟩ | ⟨h1, rfl, rfl, rfl⟩ | ⟨h1, rfl, rfl, rfl⟩ | ⟨h1, rfl, rfl, rfl⟩ | ⟨h1, rfl, rfl, rfl⟩ | ⟨h1, rfl, rfl, rfl⟩ | ⟨h1, rfl, rfl, rfl⟩
  · exact absurd h1 (by decide)
  · exact absurd h1 (by decide)
  · exact absurd h1 (by decide)
  · exact absurd h1 (by decide)
  · exact absurd h1 (by decide)
  · exact kb_no F fun _ _ _ _ _ _ us ws l1 l2 => match us, ws, l1, l2 with | [u0], [], _, _ => ⟨_, rfl, rfl, rfl⟩
  · exact absurd h1 (by decide)
  · exact absurd h1 (by decide)
  · exact absurd h1 (by decide)
  · exact absurd h1 (by decide)
  · exact absurd h1 (by decide)
  · exact absurd h1 (by decide)
  · exact absurd h1 (by decide)
  · exact absurd h1 (by decide)
  · exact absurd h1 (by decide)
  · exact absurd h1 (by decide)
  · exact absurd h1 (by decide)
  · exact absurd h1 (by decide)
  · exact absurd h1 (by decide)
theorem de3 (X : K.In h) (Y : h.Ns mainGlobals mg) (c : He.SaysD fa fn K) {fd : FuncData} (F : FunD K d3.name d3.qual d3.params d3.body d3.scope (d3.dvs K) (d3.kws K) (He.fAd K d3.at_) fd) : De T K mg (gr K) 3 "marked" [] (He.fAd K d3.at_) fd ["text"] := by
  refine ⟨He.glo_ok X Y (c.fact 3 (f := .glo "marked") rfl), F.kp, by decide +kernel, [], [], .nil, fun _ _ => .nil, fun n ks pm hm => ?_⟩
  simp only [T, List.mem_cons, Prod.mk.injEq, List.not_mem_nil, or_false] at hm
  rcases hm with ⟨h1, rfl, rfl, rfl⟩ | ⟨h1, rfl, rfl, rfl⟩ | ⟨h1, rfl, rfl, rfl⟩ | ⟨h1, rfl, rfl, rfl⟩ | ⟨h1, rfl, rfl, rfl⟩ | ⟨h1, rfl, rfl, rfl⟩ | ⟨h1, rfl, rfl, rfl⟩ | ⟨h1, rfl, rfl, rfl⟩ | ⟨h1, rfl, rfl, rfl⟩ | ⟨h1, rfl, rfl, rfl⟩ | ⟨h1, rfl, rfl, rfl⟩ | ⟨h1, rfl, rfl, rfl⟩ | ⟨h1, rfl, rfl, rfl⟩ | ⟨h1, rfl, rfl, rfl⟩ | ⟨h1, rfl, rfl, rfl⟩ | ⟨h1, rfl, rfl, rfl⟩ | ⟨h1, rfl, rfl, rfl⟩ | ⟨h1, rfl, rfl, rfl⟩ | ⟨h1, rfl, rfl, rfl⟩
  · exact absurd h1 (by decide)
  · exact absurd h1 (by decide)
  · exact kb_no F fun _ _ _ _ _ _ us ws l1 l2 => match us, ws, l1, l2 with | [u0], [], _, _ => ⟨_, rfl, rfl, rfl⟩
  · exact absurd h1 (by decide)
  · exact absurd h1 (by decide)
  · exact absurd h1 (by decide)
  · exact absurd h1 (by decide)
  · exact absurd h1 (by decide)
  · exact absurd h1 (by decide)
  · exact absurd h1 (by decide)
  · exact absurd h1 (by decide)
  · exact absurd h1 (by decide)
  · exact absurd h1 (by decide)
  · exact absurd h1 (by decide)
  · exact absurd h1 (by decide)
  · exact absurd h1 (by decide)
  · exact absurd h1 (by decide)
  · exact absurd h1 (by decide)
  · exact absurd h1 (by decide)
theorem de4 (X : K.In h) (Y : h.Ns mainGlobals mg) (c : He.SaysD fa fn K) {fd : FuncData} (F : FunD K d4.name d4.qual d4.params d4.body d4.scope (d4.dvs K) (d4.kws K) (He.fAd K d4.at_) fd) : De T K mg (gr K) 4 "unmarked" [] (He.fAd K d4.at_) fd ["text"] := by
  refine ⟨He.glo_ok X Y (c.fact 4 (f := .glo "unmarked") rfl), F.kp, by decide +kernel, [], [], .nil, fun _ _ => .nil, fun n ks pm hm => ?_⟩
  simp only [T, List.mem_cons, Prod.mk.injEq, List.not_mem_nil, or_false] at hm
  rcases hm with ⟨h1, rfl, rfl, rfl⟩ | ⟨h1, rfl, rfl, rfl⟩ | ⟨h1, rfl, rfl, rfl⟩ | ⟨h1, rfl, rfl, rfl⟩ | ⟨h1, rfl, rfl, rfl⟩ | ⟨h1, rfl, rfl, rfl⟩ | ⟨h1, rfl, rfl, rfl⟩ | ⟨h1, rfl, rfl, rfl⟩ | ⟨h1, rfl, rfl, rfl⟩ | ⟨h1, rfl, rfl, rfl⟩ | ⟨h1, rfl, rfl, rfl⟩ | ⟨h1, rfl, rfl, rfl⟩ | ⟨h1, rfl, rfl, rfl⟩ | ⟨h1, rfl, rfl, rfl⟩ | ⟨h1, rfl, rfl, rfl⟩ | ⟨h1, rfl, rfl, rfl⟩ | ⟨h1, rfl, rfl, rfl⟩ | ⟨h1, rfl, rfl, rfl⟩ | ⟨h1, rfl, rfl, rfl⟩
  · exact absurd h1 (by decide)
  · exact absurd h1 (by decide)
  · exact absurd h1 (by decide)
  · exact absurd h1 (by decide)
  · exact kb_no F fun _ _ _ _ _ _ us ws l1 l2 => match us, ws, l1, l2 with | [u0], [], _, _ => ⟨_, rfl, rfl, rfl⟩
  · exact absurd h1 (by decide)
  · exact absurd h1 (by decide)
  · exact absurd h1 (by decide)
  · exact absurd h1 (by decide)
  · exact absurd h1 (by decide)
  · exact absurd h1 (by decide)
  · exact absurd h1 (by decide)
  · exact absurd h1 (by decide)
  · exact absurd h1 (by decide)
  · exact absurd h1 (by decide)
  · exact absurd h1 (by decide)
  · exact absurd h1 (by decide)
  · exact absurd h1 (by decide)
  · exact absurd h1 (by decide)
theorem de5 (X : K.In h) (Y : h.Ns mainGlobals mg) (c : He.SaysD fa fn K) {fd : FuncData} (F : FunD K d5.name d5.qual d5.params d5.body d5.scope (d5.dvs K) (d5.kws K) (He.fAd K d5.at_) fd) : De T K mg (gr K) 5 "show_part" [] (He.fAd K d5.at_) fd ["part"] := by
  refine ⟨He.glo_ok X Y (c.fact 5 (f := .glo "show_part") rfl), F.kp, by decide +kernel, [], [], .nil, fun _ _ => .nil, fun n ks pm hm => ?_⟩
  simp only [T, List.mem_cons, Prod.mk.injEq, List.not_mem_nil, or_false] at hm
  rcases hm with ⟨h1, rfl, rfl, rfl⟩ | ⟨h1, rfl, rfl, rfl⟩ | ⟨h1, rfl, rfl, rfl⟩ | ⟨h1, rfl, rfl, rfl⟩ | ⟨h1, rfl, rfl, rfl⟩ | ⟨h1, rfl, rfl, rfl⟩ | ⟨h1, rfl, rfl, rfl⟩ | ⟨h1, rfl, rfl, rfl⟩ | ⟨h1, rfl, rfl, rfl⟩ | ⟨h1, rfl, rfl, rfl⟩ | ⟨h1, rfl, rfl, rfl⟩ | ⟨h1, rfl, rfl, rfl⟩ | ⟨h1, rfl, rfl, rfl⟩ | ⟨h1, rfl, rfl, rfl⟩ | ⟨h1, rfl, rfl, rfl⟩ | ⟨h1, rfl, rfl, rfl⟩ | ⟨h1, rfl, rfl, rfl⟩ | ⟨h1, rfl, rfl, rfl⟩ | ⟨h1, rfl, rfl, rfl⟩
  · exact absurd h1 (by decide)
  · exact absurd h1 (by decide)
  · exact absurd h1 (by decide)
  · exact kb_no F fun _ _ _ _ _ _ us ws l1 l2 => match us, ws, l1, l2 with | [u0], [], _, _ => ⟨_, rfl, rfl, rfl⟩
  · exact absurd h1 (by decide)
  · exact absurd h1 (by decide)
  · exact absurd h1 (by decide)
  · exact absurd h1 (by decide)
  · exact absurd h1 (by decide)
  · exact absurd h1 (by decide)
  · exact absurd h1 (by decide)
  · exact absurd h1 (by decide)
  · exact absurd h1 (by decide)
  · exact absurd h1 (by decide)
  · exact absurd h1 (by decide)
  · exact absurd h1 (by decide)
  · exact absurd h1 (by decide)
  · exact absurd h1 (by decide)
  · exact absurd h1 (by decide)
theorem de6 (X : K.In h) (Y : h.Ns mainGlobals mg) (c : He.SaysD fa fn K) {fd : FuncData} (F : FunD K d6.name d6.qual d6.params d6.body d6.scope (d6.dvs K) (d6.kws K) (He.fAd K d6.at_) fd) : De T K mg (gr K) 6 "show_change" [] (He.fAd K d6.at_) fd ["change"] := by
  refine ⟨He.glo_ok X Y (c.fact 6 (f := .glo "show_change") rfl), F.kp, by decide +kernel, [], [], .nil, fun _ _ => .nil, fun n ks pm hm => ?_⟩
  simp only [T, List.mem_cons, Prod.mk.injEq, List.not_mem_nil, or_false] at hm
  rcases hm with ⟨h1, rfl, rfl, rfl⟩ | ⟨h1, rfl, rfl, rfl⟩ | ⟨h1, rfl, rfl, rfl⟩ | ⟨h1, rfl, rfl, rfl⟩ | ⟨h1, rfl, rfl, rfl⟩ | ⟨h1, rfl, rfl, rfl⟩ | ⟨h1, rfl, rfl, rfl⟩ | ⟨h1, rfl, rfl, rfl⟩ | ⟨h1, rfl, rfl, rfl⟩ | ⟨h1, rfl, rfl, rfl⟩ | ⟨h1, rfl, rfl, rfl⟩ | ⟨h1, rfl, rfl, rfl⟩ | ⟨h1, rfl, rfl, rfl⟩ | ⟨h1, rfl, rfl, rfl⟩ | ⟨h1, rfl, rfl, rfl⟩ | ⟨h1, rfl, rfl, rfl⟩ | ⟨h1, rfl, rfl, rfl⟩ | ⟨h1, rfl, rfl, rfl⟩ | ⟨h1, rfl, rfl, rfl⟩
  · exact absurd h1 (by decide)
  · exact absurd h1 (by decide)
  · exact absurd h1 (by decide)
  · exact absurd h1 (by decide)
  · exact absurd h1 (by decide)
  · exact absurd h1 (by decide)
  · exact absurd h1 (by decide)
  · exact absurd h1 (by decide)
  · exact absurd h1 (by decide)
  · exact absurd h1 (by decide)
  · exact absurd h1 (by decide)
  · exact absurd h1 (by decide)
  · exact absurd h1 (by decide)
  · exact absurd h1 (by decide)
  · exact absurd h1 (by decide)
  · exact absurd h1 (by decide)
  · exact absurd h1 (by decide)
  · exact kb_no F fun _ _ _ _ _ _ us ws l1 l2 => match us, ws, l1, l2 with | [u0], [], _, _ => ⟨_, rfl, rfl, rfl⟩
  · exact absurd h1 (by decide)
theorem de7 (X : K.In h) (Y : h.Ns mainGlobals mg) (c : He.SaysD fa fn K) {fd : FuncData} (F : FunD K d7.name d7.qual d7.params d7.body d7.scope (d7.dvs K) (d7.kws K) (He.fAd K d7.at_) fd) : De T K mg (gr K) 7 "read_part" [] (He.fAd K d7.at_) fd ["text"] := by
  refine ⟨He.glo_ok X Y (c.fact 7 (f := .glo "read_part") rfl), F.kp, by decide +kernel, [], [], .nil, fun _ _ => .nil, fun n ks pm hm => ?_⟩
  simp only [T, List.mem_cons, Prod.mk.injEq, List.not_mem_nil, or_false] at hm
  rcases hm with ⟨h1, rfl, rfl, rfl⟩ | ⟨h1, rfl, rfl, rfl⟩ | ⟨h1, rfl, rfl, rfl⟩ | ⟨h1, rfl, rfl, rfl⟩ | ⟨h1, rfl, rfl, rfl⟩ | ⟨h1, rfl, rfl, rfl⟩ | ⟨h1, rfl, rfl, rfl⟩ | ⟨h1, rfl, rfl, rfl⟩ | ⟨h1, rfl, rfl, rfl⟩ | ⟨h1, rfl, rfl, rfl⟩ | ⟨h1, rfl, rfl, rfl⟩ | ⟨h1, rfl, rfl, rfl⟩ | ⟨h1, rfl, rfl, rfl⟩ | ⟨h1, rfl, rfl, rfl⟩ | ⟨h1, rfl, rfl, rfl⟩ | ⟨h1, rfl, rfl, rfl⟩ | ⟨h1, rfl, rfl, rfl⟩ | ⟨h1, rfl, rfl, rfl⟩ | ⟨h1, rfl, rfl, rfl⟩
  · exact absurd h1 (by decide)
  · exact absurd h1 (by decide)
  · exact absurd h1 (by decide)
  · exact absurd h1 (by decide)
  · exact absurd h1 (by decide)
  · exact absurd h1 (by decide)
  · exact kb_no F fun _ _ _ _ _ _ us ws l1 l2 => match us, ws, l1, l2 with | [u0], [], _, _ => ⟨_, rfl, rfl, rfl⟩
  · exact absurd h1 (by decide)
  · exact absurd h1 (by decide)
  · exact absurd h1 (by decide)
  · exact absurd h1 (by decide)
  · exact absurd h1 (by decide)
  · exact absurd h1 (by decide)
  · exact absurd h1 (by decide)
  · exact absurd h1 (by decide)
  · exact absurd h1 (by decide)
  · exact absurd h1 (by decide)
  · exact absurd h1 (by decide)
  · exact absurd h1 (by decide)
theorem de8 (X : K.In h) (Y : h.Ns mainGlobals mg) (c : He.SaysD fa fn K) {fd : FuncData} (F : FunD K d8.name d8.qual d8.params d8.body d8.scope (d8.dvs K) (d8.kws K) (He.fAd K d8.at_) fd) : De T K mg (gr K) 8 "read_change" [] (He.fAd K d8.at_) fd ["text"] := by
  refine ⟨He.glo_ok X Y (c.fact 8 (f := .glo "read_change") rfl), F.kp, by decide +kernel, [], [], .nil, fun _ _ => .nil, fun n ks pm hm => ?_⟩
  simp only [T, List.mem_cons, Prod.mk.injEq, List.not_mem_nil, or_false] at hm
  rcases hm with ⟨h1, rfl, rfl, rfl⟩ | ⟨h1, rfl, rfl, rfl⟩ | ⟨h1, rfl, rfl, rfl⟩ | ⟨h1, rfl, rfl, rfl⟩ | ⟨h1, rfl, rfl, rfl⟩ | ⟨h1, rfl, rfl, rfl⟩ | ⟨h1, rfl, rfl, rfl⟩ | ⟨h1, rfl, rfl, rfl⟩ | ⟨h1, rfl, rfl, rfl⟩ | ⟨h1, rfl, rfl, rfl⟩ | ⟨h1, rfl, rfl, rfl⟩ | ⟨h1, rfl, rfl, rfl⟩ | ⟨h1, rfl, rfl, rfl⟩ | ⟨h1, rfl, rfl, rfl⟩ | ⟨h1, rfl, rfl, rfl⟩ | ⟨h1, rfl, rfl, rfl⟩ | ⟨h1, rfl, rfl, rfl⟩ | ⟨h1, rfl, rfl, rfl⟩ | ⟨h1, rfl, rfl, rfl⟩
  · exact absurd h1 (by decide)
  · exact absurd h1 (by decide)
  · exact absurd h1 (by decide)
  · exact absurd h1 (by decide)
  · exact absurd h1 (by decide)
  · exact absurd h1 (by decide)
  · exact absurd h1 (by decide)
  · exact absurd h1 (by decide)
  · exact absurd h1 (by decide)
  · exact absurd h1 (by decide)
  · exact absurd h1 (by decide)
  · exact kb_no F fun _ _ _ _ _ _ us ws l1 l2 => match us, ws, l1, l2 with | [u0], [], _, _ => ⟨_, rfl, rfl, rfl⟩
  · exact absurd h1 (by decide)
  · exact absurd h1 (by decide)
  · exact absurd h1 (by decide)
  · exact absurd h1 (by decide)
  · exact absurd h1 (by decide)
  · exact absurd h1 (by decide)
  · exact absurd h1 (by decide)
theorem de9 (X : K.In h) (Y : h.Ns mainGlobals mg) (c : He.SaysD fa fn K) {fd : FuncData} (F : FunD K d9.name d9.qual d9.params d9.body d9.scope (d9.dvs K) (d9.kws K) (He.fAd K d9.at_) fd) : De T K mg (gr K) 9 "_law_pool" [] (He.fAd K d9.at_) fd ["_law_script", "_law_k"] := by
  refine ⟨He.glo_ok X Y (c.fact 9 (f := .glo "_law_pool") rfl), F.kp, by decide +kernel, [], [], .nil, fun _ _ => .nil, fun n ks pm hm => ?_⟩
  simp only [T, List.mem_cons, Prod.mk.injEq, List.not_mem_nil, or_false] at hm
  rcases hm with ⟨h1, rfl, rfl, rfl⟩ | ⟨h1, rfl, rfl, rfl⟩ | ⟨h1, rfl, rfl, rfl⟩ | ⟨h1, rfl, rfl, rfl⟩ | ⟨h1, rfl, rfl, rfl⟩ | ⟨h1, rfl, rfl, rfl⟩ | ⟨h1, rfl, rfl, rfl⟩ | ⟨h1, rfl, rfl, rfl⟩ | ⟨h1, rfl, rfl, rfl⟩ | ⟨h1, rfl, rfl, rfl⟩ | ⟨h1, rfl, rfl, rfl⟩ | ⟨h1, rfl, rfl, rfl⟩ | ⟨h1, rfl, rfl, rfl⟩ | ⟨h1, rfl, rfl, rfl⟩ | ⟨h1, rfl, rfl, rfl⟩ | ⟨h1, rfl, rfl, rfl⟩ | ⟨h1, rfl, rfl, rfl⟩ | ⟨h1, rfl, rfl, rfl⟩ | ⟨h1, rfl, rfl, rfl⟩
  · exact absurd h1 (by decide)
  · exact absurd h1 (by decide)
  · exact absurd h1 (by decide)
  · exact absurd h1 (by decide)
  · exact absurd h1 (by decide)
  · exact absurd h1 (by decide)
  · exact absurd h1 (by decide)
  · exact absurd h1 (by decide)
  · exact absurd h1 (by decide)
  · exact absurd h1 (by decide)
  · exact absurd h1 (by decide)
  · exact absurd h1 (by decide)
  · exact kb_no F fun _ _ _ _ _ _ us ws l1 l2 => match us, ws, l1, l2 with | [u0, u1], [], _, _ => ⟨_, rfl, rfl, rfl⟩
  · exact absurd h1 (by decide)
  · exact absurd h1 (by decide)
  · exact absurd h1 (by decide)
  · exact absurd h1 (by decide)
  · exact absurd h1 (by decide)
  · exact absurd h1 (by decide)
theorem de10 (X : K.In h) (Y : h.Ns mainGlobals mg) (c : He.SaysD fa fn K) {fd : FuncData} (F : FunD K d10.name d10.qual d10.params d10.body d10.scope (d10.dvs K) (d10.kws K) (He.fAd K d10.at_) fd) : De T K mg (gr K) 10 "_law_take" [] (He.fAd K d10.at_) fd ["_law_pool_here", "_law_many"] := by
  refine ⟨He.glo_ok X Y (c.fact 10 (f := .glo "_law_take") rfl), F.kp, by decide +kernel, [], [], .nil, fun _ _ => .nil, fun n ks pm hm => ?_⟩
  simp only [T, List.mem_cons, Prod.mk.injEq, List.not_mem_nil, or_false] at hm
  rcases hm with ⟨h1, rfl, rfl, rfl⟩ | ⟨h1, rfl, rfl, rfl⟩ | ⟨h1, rfl, rfl, rfl⟩ | ⟨h1, rfl, rfl, rfl⟩ | ⟨h1, rfl, rfl, rfl⟩ | ⟨h1, rfl, rfl, rfl⟩ | ⟨h1, rfl, rfl, rfl⟩ | ⟨h1, rfl, rfl, rfl⟩ | ⟨h1, rfl, rfl, rfl⟩ | ⟨h1, rfl, rfl, rfl⟩ | ⟨h1, rfl, rfl, rfl⟩ | ⟨h1, rfl, rfl, rfl⟩ | ⟨h1, rfl, rfl, rfl⟩ | ⟨h1, rfl, rfl, rfl⟩ | ⟨h1, rfl, rfl, rfl⟩ | ⟨h1, rfl, rfl, rfl⟩ | ⟨h1, rfl, rfl, rfl⟩ | ⟨h1, rfl, rfl, rfl⟩ | ⟨h1, rfl, rfl, rfl⟩
  · exact absurd h1 (by decide)
  · exact absurd h1 (by decide)
  · exact absurd h1 (by decide)
  · exact absurd h1 (by decide)
  · exact absurd h1 (by decide)
  · exact absurd h1 (by decide)
  · exact absurd h1 (by decide)
  · exact kb_no F fun _ _ _ _ _ _ us ws l1 l2 => match us, ws, l1, l2 with | [u0, u1], [], _, _ => ⟨_, rfl, rfl, rfl⟩
  · exact absurd h1 (by decide)
  · exact absurd h1 (by decide)
  · exact absurd h1 (by decide)
  · exact absurd h1 (by decide)
  · exact absurd h1 (by decide)
  · exact absurd h1 (by decide)
  · exact absurd h1 (by decide)
  · exact absurd h1 (by decide)
  · exact absurd h1 (by decide)
  · exact absurd h1 (by decide)
  · exact absurd h1 (by decide)
theorem de11 (X : K.In h) (Y : h.Ns mainGlobals mg) (c : He.SaysD fa fn K) {fd : FuncData} (F : FunD K d11.name d11.qual d11.params d11.body d11.scope (d11.dvs K) (d11.kws K) (He.fAd K d11.at_) fd) : De T K mg (gr K) 11 "_law_one" [] (He.fAd K d11.at_) fd ["_law_pool_here", "_law_some"] := by
  refine ⟨He.glo_ok X Y (c.fact 11 (f := .glo "_law_one") rfl), F.kp, by decide +kernel, [], [], .nil, fun _ _ => .nil, fun n ks pm hm => ?_⟩
  simp only [T, List.mem_cons, Prod.mk.injEq, List.not_mem_nil, or_false] at hm
  rcases hm with ⟨h1, rfl, rfl, rfl⟩ | ⟨h1, rfl, rfl, rfl⟩ | ⟨h1, rfl, rfl, rfl⟩ | ⟨h1, rfl, rfl, rfl⟩ | ⟨h1, rfl, rfl, rfl⟩ | ⟨h1, rfl, rfl, rfl⟩ | ⟨h1, rfl, rfl, rfl⟩ | ⟨h1, rfl, rfl, rfl⟩ | ⟨h1, rfl, rfl, rfl⟩ | ⟨h1, rfl, rfl, rfl⟩ | ⟨h1, rfl, rfl, rfl⟩ | ⟨h1, rfl, rfl, rfl⟩ | ⟨h1, rfl, rfl, rfl⟩ | ⟨h1, rfl, rfl, rfl⟩ | ⟨h1, rfl, rfl, rfl⟩ | ⟨h1, rfl, rfl, rfl⟩ | ⟨h1, rfl, rfl, rfl⟩ | ⟨h1, rfl, rfl, rfl⟩ | ⟨h1, rfl, rfl, rfl⟩
  · exact absurd h1 (by decide)
  · exact absurd h1 (by decide)
  · exact absurd h1 (by decide)
  · exact absurd h1 (by decide)
  · exact absurd h1 (by decide)
  · exact absurd h1 (by decide)
  · exact absurd h1 (by decide)
  · exact absurd h1 (by decide)
  · exact kb_no F fun _ _ _ _ _ _ us ws l1 l2 => match us, ws, l1, l2 with | [u0, u1], [], _, _ => ⟨_, rfl, rfl, rfl⟩
  · exact absurd h1 (by decide)
  · exact absurd h1 (by decide)
  · exact absurd h1 (by decide)
  · exact absurd h1 (by decide)
  · exact absurd h1 (by decide)
  · exact absurd h1 (by decide)
  · exact absurd h1 (by decide)
  · exact absurd h1 (by decide)
  · exact absurd h1 (by decide)
  · exact absurd h1 (by decide)
theorem de12 (X : K.In h) (Y : h.Ns mainGlobals mg) (c : He.SaysD fa fn K) {fd : FuncData} (F : FunD K d12.name d12.qual d12.params d12.body d12.scope (d12.dvs K) (d12.kws K) (He.fAd K d12.at_) fd) : De T K mg (gr K) 12 "_law_part_line" [] (He.fAd K d12.at_) fd ["_law_part_here"] := by
  refine ⟨He.glo_ok X Y (c.fact 12 (f := .glo "_law_part_line") rfl), F.kp, by decide +kernel, [], [], .nil, fun _ _ => .nil, fun n ks pm hm => ?_⟩
  simp only [T, List.mem_cons, Prod.mk.injEq, List.not_mem_nil, or_false] at hm
  rcases hm with ⟨h1, rfl, rfl, rfl⟩ | ⟨h1, rfl, rfl, rfl⟩ | ⟨h1, rfl, rfl, rfl⟩ | ⟨h1, rfl, rfl, rfl⟩ | ⟨h1, rfl, rfl, rfl⟩ | ⟨h1, rfl, rfl, rfl⟩ | ⟨h1, rfl, rfl, rfl⟩ | ⟨h1, rfl, rfl, rfl⟩ | ⟨h1, rfl, rfl, rfl⟩ | ⟨h1, rfl, rfl, rfl⟩ | ⟨h1, rfl, rfl, rfl⟩ | ⟨h1, rfl, rfl, rfl⟩ | ⟨h1, rfl, rfl, rfl⟩ | ⟨h1, rfl, rfl, rfl⟩ | ⟨h1, rfl, rfl, rfl⟩ | ⟨h1, rfl, rfl, rfl⟩ | ⟨h1, rfl, rfl, rfl⟩ | ⟨h1, rfl, rfl, rfl⟩ | ⟨h1, rfl, rfl, rfl⟩
  · exact absurd h1 (by decide)
  · exact absurd h1 (by decide)
  · exact absurd h1 (by decide)
  · exact absurd h1 (by decide)
  · exact absurd h1 (by decide)
  · exact absurd h1 (by decide)
  · exact absurd h1 (by decide)
  · exact absurd h1 (by decide)
  · exact absurd h1 (by decide)
  · exact absurd h1 (by decide)
  · exact absurd h1 (by decide)
  · exact absurd h1 (by decide)
  · exact absurd h1 (by decide)
  · exact absurd h1 (by decide)
  · exact absurd h1 (by decide)
  · exact absurd h1 (by decide)
  · exact kb_no F fun _ _ _ _ _ _ us ws l1 l2 => match us, ws, l1, l2 with | [u0], [], _, _ => ⟨_, rfl, rfl, rfl⟩
  · exact absurd h1 (by decide)
  · exact absurd h1 (by decide)
theorem de13 (X : K.In h) (Y : h.Ns mainGlobals mg) (c : He.SaysD fa fn K) {fd : FuncData} (F : FunD K d13.name d13.qual d13.params d13.body d13.scope (d13.dvs K) (d13.kws K) (He.fAd K d13.at_) fd) : De T K mg (gr K) 13 "_law_drawn" [] (He.fAd K d13.at_) fd ["_law_pool_here"] := by
  refine ⟨He.glo_ok X Y (c.fact 13 (f := .glo "_law_drawn") rfl), F.kp, by decide +kernel, [], [], .nil, fun _ _ => .nil, fun n ks pm hm => ?_⟩
  simp only [T, List.mem_cons, Prod.mk.injEq, List.not_mem_nil, or_false] at hm
  rcases hm with ⟨h1, rfl, rfl, rfl⟩ | ⟨h1, rfl, rfl, rfl⟩ | ⟨h1, rfl, rfl, rfl⟩ | ⟨h1, rfl, rfl, rfl⟩ | ⟨h1, rfl, rfl, rfl⟩ | ⟨h1, rfl, rfl, rfl⟩ | ⟨h1, rfl, rfl, rfl⟩ | ⟨h1, rfl, rfl, rfl⟩ | ⟨h1, rfl, rfl, rfl⟩ | ⟨h1, rfl, rfl, rfl⟩ | ⟨h1, rfl, rfl, rfl⟩ | ⟨h1, rfl, rfl, rfl⟩ | ⟨h1, rfl, rfl, rfl⟩ | ⟨h1, rfl, rfl, rfl⟩ | ⟨h1, rfl, rfl, rfl⟩ | ⟨h1, rfl, rfl, rfl⟩ | ⟨h1, rfl, rfl, rfl⟩ | ⟨h1, rfl, rfl, rfl⟩ | ⟨h1, rfl, rfl, rfl⟩
  · exact absurd h1 (by decide)
  · exact absurd h1 (by decide)
  · exact absurd h1 (by decide)
  · exact absurd h1 (by decide)
  · exact absurd h1 (by decide)
  · exact absurd h1 (by decide)
  · exact absurd h1 (by decide)
  · exact absurd h1 (by decide)
  · exact absurd h1 (by decide)
  · exact absurd h1 (by decide)
  · exact absurd h1 (by decide)
  · exact absurd h1 (by decide)
  · exact absurd h1 (by decide)
  · exact kb_no F fun _ _ _ _ _ _ us ws l1 l2 => match us, ws, l1, l2 with | [u0], [], _, _ => ⟨_, rfl, rfl, rfl⟩
  · exact absurd h1 (by decide)
  · exact absurd h1 (by decide)
  · exact absurd h1 (by decide)
  · exact absurd h1 (by decide)
  · exact absurd h1 (by decide)
theorem de14 (X : K.In h) (Y : h.Ns mainGlobals mg) (c : He.SaysD fa fn K) {fd : FuncData} (F : FunD K d14.name d14.qual d14.params d14.body d14.scope (d14.dvs K) (d14.kws K) (He.fAd K d14.at_) fd) : De T K mg (gr K) 14 "_law_unmarked" [] (He.fAd K d14.at_) fd ["_law_words"] := by
  refine ⟨He.glo_ok X Y (c.fact 14 (f := .glo "_law_unmarked") rfl), F.kp, by decide +kernel, [], [], .nil, fun _ _ => .nil, fun n ks pm hm => ?_⟩
  simp only [T, List.mem_cons, Prod.mk.injEq, List.not_mem_nil, or_false] at hm
  rcases hm with ⟨h1, rfl, rfl, rfl⟩ | ⟨h1, rfl, rfl, rfl⟩ | ⟨h1, rfl, rfl, rfl⟩ | ⟨h1, rfl, rfl, rfl⟩ | ⟨h1, rfl, rfl, rfl⟩ | ⟨h1, rfl, rfl, rfl⟩ | ⟨h1, rfl, rfl, rfl⟩ | ⟨h1, rfl, rfl, rfl⟩ | ⟨h1, rfl, rfl, rfl⟩ | ⟨h1, rfl, rfl, rfl⟩ | ⟨h1, rfl, rfl, rfl⟩ | ⟨h1, rfl, rfl, rfl⟩ | ⟨h1, rfl, rfl, rfl⟩ | ⟨h1, rfl, rfl, rfl⟩ | ⟨h1, rfl, rfl, rfl⟩ | ⟨h1, rfl, rfl, rfl⟩ | ⟨h1, rfl, rfl, rfl⟩ | ⟨h1, rfl, rfl, rfl⟩ | ⟨h1, rfl, rfl, rfl⟩
  · exact absurd h1 (by decide)
  · exact absurd h1 (by decide)
  · exact absurd h1 (by decide)
  · exact absurd h1 (by decide)
  · exact absurd h1 (by decide)
  · exact absurd h1 (by decide)
  · exact absurd h1 (by decide)
  · exact absurd h1 (by decide)
  · exact absurd h1 (by decide)
  · exact kb_no F fun _ _ _ _ _ _ us ws l1 l2 => match us, ws, l1, l2 with | [u0], [], _, _ => ⟨_, rfl, rfl, rfl⟩
  · exact absurd h1 (by decide)
  · exact absurd h1 (by decide)
  · exact absurd h1 (by decide)
  · exact absurd h1 (by decide)
  · exact absurd h1 (by decide)
  · exact absurd h1 (by decide)
  · exact absurd h1 (by decide)
  · exact absurd h1 (by decide)
  · exact absurd h1 (by decide)
theorem de15 (X : K.In h) (Y : h.Ns mainGlobals mg) (c : He.SaysD fa fn K) {fd : FuncData} (F : FunD K d15.name d15.qual d15.params d15.body d15.scope (d15.dvs K) (d15.kws K) (He.fAd K d15.at_) fd) : De T K mg (gr K) 15 "_law_part" [] (He.fAd K d15.at_) fd ["_law_line"] := by
  refine ⟨He.glo_ok X Y (c.fact 15 (f := .glo "_law_part") rfl), F.kp, by decide +kernel, [], [], .nil, fun _ _ => .nil, fun n ks pm hm => ?_⟩
  simp only [T, List.mem_cons, Prod.mk.injEq, List.not_mem_nil, or_false] at hm
  rcases hm with ⟨h1, rfl, rfl, rfl⟩ | ⟨h1, rfl, rfl, rfl⟩ | ⟨h1, rfl, rfl, rfl⟩ | ⟨h1, rfl, rfl, rfl⟩ | ⟨h1, rfl, rfl, rfl⟩ | ⟨h1, rfl, rfl, rfl⟩ | ⟨h1, rfl, rfl, rfl⟩ | ⟨h1, rfl, rfl, rfl⟩ | ⟨h1, rfl, rfl, rfl⟩ | ⟨h1, rfl, rfl, rfl⟩ | ⟨h1, rfl, rfl, rfl⟩ | ⟨h1, rfl, rfl, rfl⟩ | ⟨h1, rfl, rfl, rfl⟩ | ⟨h1, rfl, rfl, rfl⟩ | ⟨h1, rfl, rfl, rfl⟩ | ⟨h1, rfl, rfl, rfl⟩ | ⟨h1, rfl, rfl, rfl⟩ | ⟨h1, rfl, rfl, rfl⟩ | ⟨h1, rfl, rfl, rfl⟩
  · exact absurd h1 (by decide)
  · exact absurd h1 (by decide)
  · exact absurd h1 (by decide)
  · exact absurd h1 (by decide)
  · exact absurd h1 (by decide)
  · exact absurd h1 (by decide)
  · exact absurd h1 (by decide)
  · exact absurd h1 (by decide)
  · exact absurd h1 (by decide)
  · exact absurd h1 (by decide)
  · exact kb_no F fun _ _ _ _ _ _ us ws l1 l2 => match us, ws, l1, l2 with | [u0], [], _, _ => ⟨_, rfl, rfl, rfl⟩
  · exact absurd h1 (by decide)
  · exact absurd h1 (by decide)
  · exact absurd h1 (by decide)
  · exact absurd h1 (by decide)
  · exact absurd h1 (by decide)
  · exact absurd h1 (by decide)
  · exact absurd h1 (by decide)
  · exact absurd h1 (by decide)
theorem de16 (X : K.In h) (Y : h.Ns mainGlobals mg) (c : He.SaysD fa fn K) {fd : FuncData} (F : FunD K d16.name d16.qual d16.params d16.body d16.scope (d16.dvs K) (d16.kws K) (He.fAd K d16.at_) fd) : De T K mg (gr K) 16 "_law_due" [] (He.fAd K d16.at_) fd ["_law_line"] := by
  refine ⟨He.glo_ok X Y (c.fact 16 (f := .glo "_law_due") rfl), F.kp, by decide +kernel, [], [], .nil, fun _ _ => .nil, fun n ks pm hm => ?_⟩
  simp only [T, List.mem_cons, Prod.mk.injEq, List.not_mem_nil, or_false] at hm
  rcases hm with ⟨h1, rfl, rfl, rfl⟩ | ⟨h1, rfl, rfl, rfl⟩ | ⟨h1, rfl, rfl, rfl⟩ | ⟨h1, rfl, rfl, rfl⟩ | ⟨h1, rfl, rfl, rfl⟩ | ⟨h1, rfl, rfl, rfl⟩ | ⟨h1, rfl, rfl, rfl⟩ | ⟨h1, rfl, rfl, rfl⟩ | ⟨h1, rfl, rfl, rfl⟩ | ⟨h1, rfl, rfl, rfl⟩ | ⟨h1, rfl, rfl, rfl⟩ | ⟨h1, rfl, rfl, rfl⟩ | ⟨h1, rfl, rfl, rfl⟩ | ⟨h1, rfl, rfl, rfl⟩ | ⟨h1, rfl, rfl, rfl⟩ | ⟨h1, rfl, rfl, rfl⟩ | ⟨h1, rfl, rfl, rfl⟩ | ⟨h1, rfl, rfl, rfl⟩ | ⟨h1, rfl, rfl, rfl⟩
  · exact absurd h1 (by decide)
  · exact absurd h1 (by decide)
  · exact absurd h1 (by decide)
  · exact absurd h1 (by decide)
  · exact absurd h1 (by decide)
  · exact absurd h1 (by decide)
  · exact absurd h1 (by decide)
  · exact absurd h1 (by decide)
  · exact absurd h1 (by decide)
  · exact absurd h1 (by decide)
  · exact absurd h1 (by decide)
  · exact absurd h1 (by decide)
  · exact absurd h1 (by decide)
  · exact absurd h1 (by decide)
  · exact absurd h1 (by decide)
  · exact absurd h1 (by decide)
  · exact absurd h1 (by decide)
  · exact absurd h1 (by decide)
  · exact kb_no F fun _ _ _ _ _ _ us ws l1 l2 => match us, ws, l1, l2 with | [u0], [], _, _ => ⟨_, rfl, rfl, rfl⟩
theorem de17 (X : K.In h) (Y : h.Ns mainGlobals mg) (c : He.SaysD fa fn K) {fd : FuncData} (F : FunD K d17.name d17.qual d17.params d17.body d17.scope (d17.dvs K) (d17.kws K) (He.fAd K d17.at_) fd) : De T K mg (gr K) 17 "_law_said" [] (He.fAd K d17.at_) fd ["_law_thing"] := by
  refine ⟨He.glo_ok X Y (c.fact 17 (f := .glo "_law_said") rfl), F.kp, by decide +kernel, [], [], .nil, fun _ _ => .nil, fun n ks pm hm => ?_⟩
  simp only [T, List.mem_cons, Prod.mk.injEq, List.not_mem_nil, or_false] at hm
  rcases hm with ⟨h1, rfl, rfl, rfl⟩ | ⟨h1, rfl, rfl, rfl⟩ | ⟨h1, rfl, rfl, rfl⟩ | ⟨h1, rfl, rfl, rfl⟩ | ⟨h1, rfl, rfl, rfl⟩ | ⟨h1, rfl, rfl, rfl⟩ | ⟨h1, rfl, rfl, rfl⟩ | ⟨h1, rfl, rfl, rfl⟩ | ⟨h1, rfl, rfl, rfl⟩ | ⟨h1, rfl, rfl, rfl⟩ | ⟨h1, rfl, rfl, rfl⟩ | ⟨h1, rfl, rfl, rfl⟩ | ⟨h1, rfl, rfl, rfl⟩ | ⟨h1, rfl, rfl, rfl⟩ | ⟨h1, rfl, rfl, rfl⟩ | ⟨h1, rfl, rfl, rfl⟩ | ⟨h1, rfl, rfl, rfl⟩ | ⟨h1, rfl, rfl, rfl⟩ | ⟨h1, rfl, rfl, rfl⟩
  · exact absurd h1 (by decide)
  · exact absurd h1 (by decide)
  · exact absurd h1 (by decide)
  · exact absurd h1 (by decide)
  · exact absurd h1 (by decide)
  · exact absurd h1 (by decide)
  · exact absurd h1 (by decide)
  · exact absurd h1 (by decide)
  · exact absurd h1 (by decide)
  · exact absurd h1 (by decide)
  · exact absurd h1 (by decide)
  · exact absurd h1 (by decide)
  · exact absurd h1 (by decide)
  · exact absurd h1 (by decide)
  · exact kb_no F fun _ _ _ _ _ _ us ws l1 l2 => match us, ws, l1, l2 with | [u0], [], _, _ => ⟨_, rfl, rfl, rfl⟩
  · exact absurd h1 (by decide)
  · exact absurd h1 (by decide)
  · exact absurd h1 (by decide)
  · exact absurd h1 (by decide)
theorem de18 (X : K.In h) (Y : h.Ns mainGlobals mg) (c : He.SaysD fa fn K) {fd : FuncData} (F : FunD K d18.name d18.qual d18.params d18.body d18.scope (d18.dvs K) (d18.kws K) (He.fAd K d18.at_) fd) : De T K mg (gr K) 18 "_law_bent" [] (He.fAd K d18.at_) fd ["_law_pool_here", "_law_line"] := by
  refine ⟨He.glo_ok X Y (c.fact 18 (f := .glo "_law_bent") rfl), F.kp, by decide +kernel, [], [], .nil, fun _ _ => .nil, fun n ks pm hm => ?_⟩
  simp only [T, List.mem_cons, Prod.mk.injEq, List.not_mem_nil, or_false] at hm
  rcases hm with ⟨h1, rfl, rfl, rfl⟩ | ⟨h1, rfl, rfl, rfl⟩ | ⟨h1, rfl, rfl, rfl⟩ | ⟨h1, rfl, rfl, rfl⟩ | ⟨h1, rfl, rfl, rfl⟩ | ⟨h1, rfl, rfl, rfl⟩ | ⟨h1, rfl, rfl, rfl⟩ | ⟨h1, rfl, rfl, rfl⟩ | ⟨h1, rfl, rfl, rfl⟩ | ⟨h1, rfl, rfl, rfl⟩ | ⟨h1, rfl, rfl, rfl⟩ | ⟨h1, rfl, rfl, rfl⟩ | ⟨h1, rfl, rfl, rfl⟩ | ⟨h1, rfl, rfl, rfl⟩ | ⟨h1, rfl, rfl, rfl⟩ | ⟨h1, rfl, rfl, rfl⟩ | ⟨h1, rfl, rfl, rfl⟩ | ⟨h1, rfl, rfl, rfl⟩ | ⟨h1, rfl, rfl, rfl⟩
  · exact absurd h1 (by decide)
  · exact absurd h1 (by decide)
  · exact absurd h1 (by decide)
  · exact absurd h1 (by decide)
  · exact absurd h1 (by decide)
  · exact absurd h1 (by decide)
  · exact absurd h1 (by decide)
  · exact absurd h1 (by decide)
  · exact absurd h1 (by decide)
  · exact absurd h1 (by decide)
  · exact absurd h1 (by decide)
  · exact absurd h1 (by decide)
  · exact absurd h1 (by decide)
  · exact absurd h1 (by decide)
  · exact absurd h1 (by decide)
  · exact kb_no F fun _ _ _ _ _ _ us ws l1 l2 => match us, ws, l1, l2 with | [u0, u1], [], _, _ => ⟨_, rfl, rfl, rfl⟩
  · exact absurd h1 (by decide)
  · exact absurd h1 (by decide)
  · exact absurd h1 (by decide)
theorem de19 (X : K.In h) (Y : h.Ns mainGlobals mg) (c : He.SaysD fa fn K) {fd : FuncData} (F : FunD K d19.name d19.qual d19.params d19.body d19.scope (d19.dvs K) (d19.kws K) (He.fAd K d19.at_) fd) : De T K mg (gr K) 19 "law" [] (He.fAd K d19.at_) fd ["_law_script"] := by
  refine ⟨He.glo_ok X Y (c.fact 19 (f := .glo "law") rfl), F.kp, by decide +kernel, [], [], .nil, fun _ _ => .nil, fun n ks pm hm => ?_⟩
  simp only [T, List.mem_cons, Prod.mk.injEq, List.not_mem_nil, or_false] at hm
  rcases hm with ⟨h1, rfl, rfl, rfl⟩ | ⟨h1, rfl, rfl, rfl⟩ | ⟨h1, rfl, rfl, rfl⟩ | ⟨h1, rfl, rfl, rfl⟩ | ⟨h1, rfl, rfl, rfl⟩ | ⟨h1, rfl, rfl, rfl⟩ | ⟨h1, rfl, rfl, rfl⟩ | ⟨h1, rfl, rfl, rfl⟩ | ⟨h1, rfl, rfl, rfl⟩ | ⟨h1, rfl, rfl, rfl⟩ | ⟨h1, rfl, rfl, rfl⟩ | ⟨h1, rfl, rfl, rfl⟩ | ⟨h1, rfl, rfl, rfl⟩ | ⟨h1, rfl, rfl, rfl⟩ | ⟨h1, rfl, rfl, rfl⟩ | ⟨h1, rfl, rfl, rfl⟩ | ⟨h1, rfl, rfl, rfl⟩ | ⟨h1, rfl, rfl, rfl⟩ | ⟨h1, rfl, rfl, rfl⟩
  · exact absurd h1 (by decide)
  · exact absurd h1 (by decide)
  · exact absurd h1 (by decide)
  · exact absurd h1 (by decide)
  · exact absurd h1 (by decide)
  · exact absurd h1 (by decide)
  · exact absurd h1 (by decide)
  · exact absurd h1 (by decide)
  · exact absurd h1 (by decide)
  · exact absurd h1 (by decide)
  · exact absurd h1 (by decide)
  · exact absurd h1 (by decide)
  · exact absurd h1 (by decide)
  · exact absurd h1 (by decide)
  · exact absurd h1 (by decide)
  · exact absurd h1 (by decide)
  · exact absurd h1 (by decide)
  · exact absurd h1 (by decide)
  · exact absurd h1 (by decide)
theorem hx (X : K.In h) (Y : h.Ns mainGlobals mg) (c : SaysX fa fn tb exL ds w K) (k : Nat) : ∀ (y : Str) (m : Nat) (g : Str), (y, m, g) ∈ T.exs → ∃ l fd ps, FnOk P w K mg base (L2.CX P w) l (He.ma K ((gr K).ca m) "__init__") fd ps (spI ((gr K).ca m) g) ∧ l + 1 ≤ k + 2 ∧ Binds K fd ps [] := by
  intro y m g hm
  simp only [T, List.mem_cons, Prod.mk.injEq, List.not_mem_nil, or_false] at hm
  rcases hm with ⟨rfl, rfl, rfl⟩ | ⟨rfl, rfl, rfl⟩ | ⟨rfl, rfl, rfl⟩
  · obtain ⟨fd, F⟩ := c.d.def_ 20 (d := e0) rfl
    exact ⟨0 + 1, fd, _, init_ok (exfB_ok (c.exb 0 rfl)) F es0 (by kernel_rfl) (He.glo_ok X Y (c.d.fact 44 (f := .glo "PageError") rfl)) (by decide +kernel) (by decide +kernel) (by decide +kernel) (by decide +kernel) (by decide +kernel) (by decide +kernel), by omega, FunD.bindsN F fun _ _ _ _ _ _ us hl => match us, hl with | [_, _], _ => rfl⟩
  · obtain ⟨fd, F⟩ := c.d.def_ 21 (d := e1) rfl
    exact ⟨0 + 1, fd, _, init_ok (exfB_ok (c.exb 1 rfl)) F es1 (by kernel_rfl) (He.glo_ok X Y (c.d.fact 44 (f := .glo "PageError") rfl)) (by decide +kernel) (by decide +kernel) (by decide +kernel) (by decide +kernel) (by decide +kernel) (by decide +kernel), by omega, FunD.bindsN F fun _ _ _ _ _ _ us hl => match us, hl with | [_, _], _ => rfl⟩
  · obtain ⟨fd, F⟩ := c.d.def_ 22 (d := e2) rfl
    exact ⟨0 + 1, fd, _, init_ok (exfB_ok (c.exb 2 rfl)) F es2 (by kernel_rfl) (He.glo_ok X Y (c.d.fact 44 (f := .glo "PageError") rfl)) (by decide +kernel) (by decide +kernel) (by decide +kernel) (by decide +kernel) (by decide +kernel) (by decide +kernel), by omega, FunD.bindsN F fun _ _ _ _ _ _ us hl => match us, hl with | [_, _], _ => rfl⟩
theorem hmk (X : K.In h) (Y : h.Ns mainGlobals mg) (c : SaysX fa fn tb exL ds w K) (k : Nat) : ∀ (x : Str) (ch : List (Nat × List Nat)), (x, ch) ∈ T.mks → (x == ("__debug__" : Str)) = false ∧ ∃ l f, l ≤ k + 2 ∧ mg x = some (.ref f) ∧ PySem.W.keepIn K (.ref f) = true ∧ MrkRun P w K mg base l f ch := by
  intro x ch hm
  simp only [T, List.mem_cons, Prod.mk.injEq, List.not_mem_nil, or_false] at hm
  rcases hm with ⟨rfl, rfl⟩
  · obtain ⟨fd, F⟩ := c.d.def_ 23 (d := m0) rfl
    exact ⟨by decide +kernel, 0 + 1, _, by omega, He.glo_ok X Y (c.d.fact 45 (f := .glo "_law_marked") rfl), F.kp, mrk_of (a0 := "_law_words") (y1 := "~") (z1 := "~~") (y2 := " ") (z2 := "~b") (y3 := "\n") (z3 := "~n") F ms0 (by kernel_rfl) (fun s u => FunD.bindsA (ps := ["_law_words"]) F (fun _ _ _ _ _ _ us hl => match us, hl with | [_], _ => rfl) s [u] rfl) rfl rfl rfl (by kernel_rfl) (by decide +kernel) (by decide +kernel)⟩
def dflOf (i : Nat) : List D := match (Pg.fns[i]? : Option Fd) with | some h => h.dfl | none => []
theorem all (X : K.In h) (Y : h.Ns mainGlobals mg) (c : SaysX fa fn tb exL ds w K) : ∀ (k i : Nat) (y : Str), T.fns[i]? = some y → ∃ a fd ps, De T K mg (gr K) i y (dflOf i) a fd ps ∧ FnG P w K mg base (gr K) (k + 2) a fd ps (callN Pg k i)
  | 0, i, y, hi => by
    match i, hi with
    | 0, hi => cases hi; obtain ⟨fd, F⟩ := c.d.def_ 0 (d := d0) rfl; exact ⟨_, fd, _, de0 X Y c.d F, fun _ _ _ _ _ _ _ _ _ _ _ _ _ _ _ _ _ _ _ _ h => h.elim⟩
    | 1, hi => cases hi; obtain ⟨fd, F⟩ := c.d.def_ 1 (d := d1) rfl; exact ⟨_, fd, _, de1 X Y c.d F, fun _ _ _ _ _ _ _ _ _ _ _ _ _ _ _ _ _ _ _ _ h => h.elim⟩
    | 2, hi => cases hi; obtain ⟨fd, F⟩ := c.d.def_ 2 (d := d2) rfl; exact ⟨_, fd, _, de2 X Y c.d F, fun _ _ _ _ _ _ _ _ _ _ _ _ _ _ _ _ _ _ _ _ h => h.elim⟩
    | 3, hi => cases hi; obtain ⟨fd, F⟩ := c.d.def_ 3 (d := d3) rfl; exact ⟨_, fd, _, de3 X Y c.d F, fun _ _ _ _ _ _ _ _ _ _ _ _ _ _ _ _ _ _ _ _ h => h.elim⟩
    | 4, hi => cases hi; obtain ⟨fd, F⟩ := c.d.def_ 4 (d := d4) rfl; exact ⟨_, fd, _, de4 X Y c.d F, fun _ _ _ _ _ _ _ _ _ _ _ _ _ _ _ _ _ _ _ _ h => h.elim⟩
    | 5, hi => cases hi; obtain ⟨fd, F⟩ := c.d.def_ 5 (d := d5) rfl; exact ⟨_, fd, _, de5 X Y c.d F, fun _ _ _ _ _ _ _ _ _ _ _ _ _ _ _ _ _ _ _ _ h => h.elim⟩
    | 6, hi => cases hi; obtain ⟨fd, F⟩ := c.d.def_ 6 (d := d6) rfl; exact ⟨_, fd, _, de6 X Y c.d F, fun _ _ _ _ _ _ _ _ _ _ _ _ _ _ _ _ _ _ _ _ h => h.elim⟩
    | 7, hi => cases hi; obtain ⟨fd, F⟩ := c.d.def_ 7 (d := d7) rfl; exact ⟨_, fd, _, de7 X Y c.d F, fun _ _ _ _ _ _ _ _ _ _ _ _ _ _ _ _ _ _ _ _ h => h.elim⟩
    | 8, hi => cases hi; obtain ⟨fd, F⟩ := c.d.def_ 8 (d := d8) rfl; exact ⟨_, fd, _, de8 X Y c.d F, fun _ _ _ _ _ _ _ _ _ _ _ _ _ _ _ _ _ _ _ _ h => h.elim⟩
    | 9, hi => cases hi; obtain ⟨fd, F⟩ := c.d.def_ 9 (d := d9) rfl; exact ⟨_, fd, _, de9 X Y c.d F, fun _ _ _ _ _ _ _ _ _ _ _ _ _ _ _ _ _ _ _ _ h => h.elim⟩
    | 10, hi => cases hi; obtain ⟨fd, F⟩ := c.d.def_ 10 (d := d10) rfl; exact ⟨_, fd, _, de10 X Y c.d F, fun _ _ _ _ _ _ _ _ _ _ _ _ _ _ _ _ _ _ _ _ h => h.elim⟩
    | 11, hi => cases hi; obtain ⟨fd, F⟩ := c.d.def_ 11 (d := d11) rfl; exact ⟨_, fd, _, de11 X Y c.d F, fun _ _ _ _ _ _ _ _ _ _ _ _ _ _ _ _ _ _ _ _ h => h.elim⟩
    | 12, hi => cases hi; obtain ⟨fd, F⟩ := c.d.def_ 12 (d := d12) rfl; exact ⟨_, fd, _, de12 X Y c.d F, fun _ _ _ _ _ _ _ _ _ _ _ _ _ _ _ _ _ _ _ _ h => h.elim⟩
    | 13, hi => cases hi; obtain ⟨fd, F⟩ := c.d.def_ 13 (d := d13) rfl; exact ⟨_, fd, _, de13 X Y c.d F, fun _ _ _ _ _ _ _ _ _ _ _ _ _ _ _ _ _ _ _ _ h => h.elim⟩
    | 14, hi => cases hi; obtain ⟨fd, F⟩ := c.d.def_ 14 (d := d14) rfl; exact ⟨_, fd, _, de14 X Y c.d F, fun _ _ _ _ _ _ _ _ _ _ _ _ _ _ _ _ _ _ _ _ h => h.elim⟩
    | 15, hi => cases hi; obtain ⟨fd, F⟩ := c.d.def_ 15 (d := d15) rfl; exact ⟨_, fd, _, de15 X Y c.d F, fun _ _ _ _ _ _ _ _ _ _ _ _ _ _ _ _ _ _ _ _ h => h.elim⟩
    | 16, hi => cases hi; obtain ⟨fd, F⟩ := c.d.def_ 16 (d := d16) rfl; exact ⟨_, fd, _, de16 X Y c.d F, fun _ _ _ _ _ _ _ _ _ _ _ _ _ _ _ _ _ _ _ _ h => h.elim⟩
    | 17, hi => cases hi; obtain ⟨fd, F⟩ := c.d.def_ 17 (d := d17) rfl; exact ⟨_, fd, _, de17 X Y c.d F, fun _ _ _ _ _ _ _ _ _ _ _ _ _ _ _ _ _ _ _ _ h => h.elim⟩
    | 18, hi => cases hi; obtain ⟨fd, F⟩ := c.d.def_ 18 (d := d18) rfl; exact ⟨_, fd, _, de18 X Y c.d F, fun _ _ _ _ _ _ _ _ _ _ _ _ _ _ _ _ _ _ _ _ h => h.elim⟩
    | 19, hi => cases hi; obtain ⟨fd, F⟩ := c.d.def_ 19 (d := d19) rfl; exact ⟨_, fd, _, de19 X Y c.d F, fun _ _ _ _ _ _ _ _ _ _ _ _ _ _ _ _ _ _ _ _ h => h.elim⟩
    | i + 20, hi => cases hi
  | k + 1, i, y, hi => by
    have M := md X Y c
    have IH := all X Y c k
    match i, hi with
    | 0, hi =>
      cases hi
      obtain ⟨fd, F⟩ := c.d.def_ 0 (d := d0) rfl
      refine ⟨_, fd, _, de0 X Y c.d F, fn_g (fD := f0) F s0 c0 rfl rfl rfl ⟨M.K, M.blt, M.exc, M.exk, M.iso, M.con, M.gd⟩ (hx X Y c k) (hmk X Y c k) fun i y hy => ?_⟩
      obtain ⟨a, fd, ps, h1, h2⟩ := IH i y hy
      exact ⟨a, fd, ps, h1, h2⟩
    | 1, hi =>
      cases hi
      obtain ⟨fd, F⟩ := c.d.def_ 1 (d := d1) rfl
      refine ⟨_, fd, _, de1 X Y c.d F, fn_g (fD := f1) F s1 c1 rfl rfl rfl ⟨M.K, M.blt, M.exc, M.exk, M.iso, M.con, M.gd⟩ (hx X Y c k) (hmk X Y c k) fun i y hy => ?_⟩
      obtain ⟨a, fd, ps, h1, h2⟩ := IH i y hy
      exact ⟨a, fd, ps, h1, h2⟩
    | 2, hi =>
      cases hi
      obtain ⟨fd, F⟩ := c.d.def_ 2 (d := d2) rfl
      refine ⟨_, fd, _, de2 X Y c.d F, fn_g (fD := f2) F s2 c2 rfl rfl rfl ⟨M.K, M.blt, M.exc, M.exk, M.iso, M.con, M.gd⟩ (hx X Y c k) (hmk X Y c k) fun i y hy => ?_⟩
      obtain ⟨a, fd, ps, h1, h2⟩ := IH i y hy
      exact ⟨a, fd, ps, h1, h2⟩
    | 3, hi =>
      cases hi
      obtain ⟨fd, F⟩ := c.d.def_ 3 (d := d3) rfl
      refine ⟨_, fd, _, de3 X Y c.d F, fn_g (fD := f3) F s3 c3 rfl rfl rfl ⟨M.K, M.blt, M.exc, M.exk, M.iso, M.con, M.gd⟩ (hx X Y c k) (hmk X Y c k) fun i y hy => ?_⟩
      obtain ⟨a, fd, ps, h1, h2⟩ := IH i y hy
      exact ⟨a, fd, ps, h1, h2⟩
    | 4, hi =>
      cases hi
      obtain ⟨fd, F⟩ := c.d.def_ 4 (d := d4) rfl
      refine ⟨_, fd, _, de4 X Y c.d F, fn_g (fD := f4) F s4 c4 rfl rfl rfl ⟨M.K, M.blt, M.exc, M.exk, M.iso, M.con, M.gd⟩ (hx X Y c k) (hmk X Y c k) fun i y hy => ?_⟩
      obtain ⟨a, fd, ps, h1, h2⟩ := IH i y hy
      exact ⟨a, fd, ps, h1, h2⟩
    | 5, hi =>
      cases hi
      obtain ⟨fd, F⟩ := c.d.def_ 5 (d := d5) rfl
      refine ⟨_, fd, _, de5 X Y c.d F, fn_g (fD := f5) F s5 c5 rfl rfl rfl ⟨M.K, M.blt, M.exc, M.exk, M.iso, M.con, M.gd⟩ (hx X Y c k) (hmk X Y c k) fun i y hy => ?_⟩
      obtain ⟨a, fd, ps, h1, h2⟩ := IH i y hy
      exact ⟨a, fd, ps, h1, h2⟩
    | 6, hi =>
      cases hi
      obtain ⟨fd, F⟩ := c.d.def_ 6 (d := d6) rfl
      refine ⟨_, fd, _, de6 X Y c.d F, fn_g (fD := f6) F s6 c6 rfl rfl rfl ⟨M.K, M.blt, M.exc, M.exk, M.iso, M.con, M.gd⟩ (hx X Y c k) (hmk X Y c k) fun i y hy => ?_⟩
      obtain ⟨a, fd, ps, h1, h2⟩ := IH i y hy
      exact ⟨a, fd, ps, h1, h2⟩
    | 7, hi =>
      cases hi
      obtain ⟨fd, F⟩ := c.d.def_ 7 (d := d7) rfl
      refine ⟨_, fd, _, de7 X Y c.d F, fn_g (fD := f7) F s7 c7 rfl rfl rfl ⟨M.K, M.blt, M.exc, M.exk, M.iso, M.con, M.gd⟩ (hx X Y c k) (hmk X Y c k) fun i y hy => ?_⟩
      obtain ⟨a, fd, ps, h1, h2⟩ := IH i y hy
      exact ⟨a, fd, ps, h1, h2⟩
    | 8, hi =>
      cases hi
      obtain ⟨fd, F⟩ := c.d.def_ 8 (d := d8) rfl
      refine ⟨_, fd, _, de8 X Y c.d F, fn_g (fD := f8) F s8 c8 rfl rfl rfl ⟨M.K, M.blt, M.exc, M.exk, M.iso, M.con, M.gd⟩ (hx X Y c k) (hmk X Y c k) fun i y hy => ?_⟩
      obtain ⟨a, fd, ps, h1, h2⟩ := IH i y hy
      exact ⟨a, fd, ps, h1, h2⟩
    | 9, hi =>
      cases hi
      obtain ⟨fd, F⟩ := c.d.def_ 9 (d := d9) rfl
      refine ⟨_, fd, _, de9 X Y c.d F, fn_g (fD := f9) F s9 c9 rfl rfl rfl ⟨M.K, M.blt, M.exc, M.exk, M.iso, M.con, M.gd⟩ (hx X Y c k) (hmk X Y c k) fun i y hy => ?_⟩
      obtain ⟨a, fd, ps, h1, h2⟩ := IH i y hy
      exact ⟨a, fd, ps, h1, h2⟩
    | 10, hi =>
      cases hi
      obtain ⟨fd, F⟩ := c.d.def_ 10 (d := d10) rfl
      refine ⟨_, fd, _, de10 X Y c.d F, fn_g (fD := f10) F s10 c10 rfl rfl rfl ⟨M.K, M.blt, M.exc, M.exk, M.iso, M.con, M.gd⟩ (hx X Y c k) (hmk X Y c k) fun i y hy => ?_⟩
      obtain ⟨a, fd, ps, h1, h2⟩ := IH i y hy
      exact ⟨a, fd, ps, h1, h2⟩
    | 11, hi =>
      cases hi
      obtain ⟨fd, F⟩ := c.d.def_ 11 (d := d11) rfl
      refine ⟨_, fd, _, de11 X Y c.d F, fn_g (fD := f11) F s11 c11 rfl rfl rfl ⟨M.K, M.blt, M.exc, M.exk, M.iso, M.con, M.gd⟩ (hx X Y c k) (hmk X Y c k) fun i y hy => ?_⟩
      obtain ⟨a, fd, ps, h1, h2⟩ := IH i y hy
      exact ⟨a, fd, ps, h1, h2⟩
    | 12, hi =>
      cases hi
      obtain ⟨fd, F⟩ := c.d.def_ 12 (d := d12) rfl
      refine ⟨_, fd, _, de12 X Y c.d F, fn_g (fD := f12) F s12 c12 rfl rfl rfl ⟨M.K, M.blt, M.exc, M.exk, M.iso, M.con, M.gd⟩ (hx X Y c k) (hmk X Y c k) fun i y hy => ?_⟩
      obtain ⟨a, fd, ps, h1, h2⟩ := IH i y hy
      exact ⟨a, fd, ps, h1, h2⟩
    | 13, hi =>
      cases hi
      obtain ⟨fd, F⟩ := c.d.def_ 13 (d := d13) rfl
      refine ⟨_, fd, _, de13 X Y c.d F, fn_g (fD := f13) F s13 c13 rfl rfl rfl ⟨M.K, M.blt, M.exc, M.exk, M.iso, M.con, M.gd⟩ (hx X Y c k) (hmk X Y c k) fun i y hy => ?_⟩
      obtain ⟨a, fd, ps, h1, h2⟩ := IH i y hy
      exact ⟨a, fd, ps, h1, h2⟩
    | 14, hi =>
      cases hi
      obtain ⟨fd, F⟩ := c.d.def_ 14 (d := d14) rfl
      refine ⟨_, fd, _, de14 X Y c.d F, fn_g (fD := f14) F s14 c14 rfl rfl rfl ⟨M.K, M.blt, M.exc, M.exk, M.iso, M.con, M.gd⟩ (hx X Y c k) (hmk X Y c k) fun i y hy => ?_⟩
      obtain ⟨a, fd, ps, h1, h2⟩ := IH i y hy
      exact ⟨a, fd, ps, h1, h2⟩
    | 15, hi =>
      cases hi
      obtain ⟨fd, F⟩ := c.d.def_ 15 (d := d15) rfl
      refine ⟨_, fd, _, de15 X Y c.d F, fn_g (fD := f15) F s15 c15 rfl rfl rfl ⟨M.K, M.blt, M.exc, M.exk, M.iso, M.con, M.gd⟩ (hx X Y c k) (hmk X Y c k) fun i y hy => ?_⟩
      obtain ⟨a, fd, ps, h1, h2⟩ := IH i y hy
      exact ⟨a, fd, ps, h1, h2⟩
    | 16, hi =>
      cases hi
      obtain ⟨fd, F⟩ := c.d.def_ 16 (d := d16) rfl
      refine ⟨_, fd, _, de16 X Y c.d F, fn_g (fD := f16) F s16 c16 rfl rfl rfl ⟨M.K, M.blt, M.exc, M.exk, M.iso, M.con, M.gd⟩ (hx X Y c k) (hmk X Y c k) fun i y hy => ?_⟩
      obtain ⟨a, fd, ps, h1, h2⟩ := IH i y hy
      exact ⟨a, fd, ps, h1, h2⟩
    | 17, hi =>
      cases hi
      obtain ⟨fd, F⟩ := c.d.def_ 17 (d := d17) rfl
      refine ⟨_, fd, _, de17 X Y c.d F, fn_g (fD := f17) F s17 c17 rfl rfl rfl ⟨M.K, M.blt, M.exc, M.exk, M.iso, M.con, M.gd⟩ (hx X Y c k) (hmk X Y c k) fun i y hy => ?_⟩
      obtain ⟨a, fd, ps, h1, h2⟩ := IH i y hy
      exact ⟨a, fd, ps, h1, h2⟩
    | 18, hi =>
      cases hi
      obtain ⟨fd, F⟩ := c.d.def_ 18 (d := d18) rfl
      refine ⟨_, fd, _, de18 X Y c.d F, fn_g (fD := f18) F s18 c18 rfl rfl rfl ⟨M.K, M.blt, M.exc, M.exk, M.iso, M.con, M.gd⟩ (hx X Y c k) (hmk X Y c k) fun i y hy => ?_⟩
      obtain ⟨a, fd, ps, h1, h2⟩ := IH i y hy
      exact ⟨a, fd, ps, h1, h2⟩
    | 19, hi =>
      cases hi
      obtain ⟨fd, F⟩ := c.d.def_ 19 (d := d19) rfl
      refine ⟨_, fd, _, de19 X Y c.d F, fn_g (fD := f19) F s19 c19 rfl rfl rfl ⟨M.K, M.blt, M.exc, M.exk, M.iso, M.con, M.gd⟩ (hx X Y c k) (hmk X Y c k) fun i y hy => ?_⟩
      obtain ⟨a, fd, ps, h1, h2⟩ := IH i y hy
      exact ⟨a, fd, ps, h1, h2⟩
    | i + 20, hi => cases hi
end
end K65
namespace K65
open PySem DI
abbrev W := List Nat
/-- what a marked sign stands for -/
def rd (c : Nat) : Option Nat := if c = 98 then some 32 else if c = 110 then some 10 else if c = 126 then some 126 else none
/-- the text that was marked so; true: behind a tilde -/
def V : Bool → W → Option W
  | b, [] => if b then none else some []
  | b, c :: r => if b then (rd c).bind fun x => (V false r).map (x :: ·) else if c = 32 ∨ c = 10 then none else if c = 126 then V true r else (V false r).map (c :: ·)
def oD : Option W → D
  | none => .non
  | some w => .str w
def ch1 (c : Nat) : D := .str [c]
theorem con4 : gdat Pg.consts[4]? = ([.str [98], .str [110], .str [126]], [.str [32], .str [10], .str [126]]) := rfl
theorem gin4 (c : Nat) : ginD false [.str [98], .str [110], .str [126]] [.str [32], .str [10], .str [126]] (.str [c]) = some (rd c).isNone := by
  unfold rd
  by_cases h1 : c = 98
  · subst h1; rfl
  · by_cases h2 : c = 110
    · subst h2; rfl
    · by_cases h3 : c = 126
      · subst h3; rfl
      · simp [ginD, dgetL, eqK, h1, h2, h3, Ne.symm h1, Ne.symm h2, Ne.symm h3]
theorem gg4 {c x : Nat} (h : rd c = some x) : ggetD [.str [98], .str [110], .str [126]] [.str [32], .str [10], .str [126]] (.str [c]) = some (.str [x]) := by
  unfold rd at h
  split at h
  · rename_i e; subst e; cases h; rfl
  · split at h
    · rename_i e; subst e; cases h; rfl
    · split at h
      · rename_i e; subst e; cases h; rfl
      · cases h
theorem in_bl (c : Nat) : inD (.str [c]) (.str [32, 10]) = some (decide (c = 32 ∨ c = 10)) := by
  show some (decide (c ∈ [32, 10])) = _
  simp
/-- the loop of unmarked -/
def UI (N : Nat) (w : W) (x0 : Option D) (xs : List D) (s : Sd) (_ : HH) : Prop := ∃ (b : Bool) (l f : W) (x3 : Option D), xs = l.map ch1 ∧ s = [x0, some (.str f), some (.bl b), x3] ∧ V false w = (V b l).map (f ++ ·) ∧ f.length + l.length ≤ N
theorem rd_ne {c : Nat} (h : c = 32 ∨ c = 10) : rd c = none := by rcases h with rfl | rfl <;> rfl
theorem augS (f x : W) (H : HH) (h : f.length + x.length ≤ 16777216) : augD H .Add (.str f) (.str x) = some (.str (f ++ x)) := by
  show (if f.length + x.length ≤ lim then _ else _) = _
  rw [if_pos h]
theorem unmP {w : W} {k : Nat} {H : HH} {Q : D → HH → Prop} (hl : w.length ≤ 10000) (q : Q (oD (V false w)) H) : (pcallE (cfP Pg (k + 1)) 4 [0] [.str w] [] H).wp Q := by
  refine pureC (P := Pg) (fd := f4) rfl (l := [.str w]) rfl rfl ?_
  refine run_k rfl ?_
  simp [f4, b4, startD, N4]
  rw [show itemsD [] (.str w) = some (w.map ch1, []) from rfl]
  simp
  refine for_wp (I := UI 10000 w (some (.str w))) ?_ ?_ _ _ _ ⟨false, w, [], _, rfl, rfl, by simp, by simpa using hl⟩
  · rintro x xs s H1 ⟨b, l, f, x3, e1, rfl, hv, hn⟩
    cases l with
    | nil => cases e1
    | cons c l =>
      obtain ⟨rfl, rfl⟩ := List.cons.inj e1
      clear e1
      refine ⟨rfl, _, rfl, ?_⟩
      simp at hn
      cases b with
      | true =>
        cases hr : rd c with
        | none =>
          have v0 : V false w = none := by rw [hv]; simp [V, hr]
          rw [v0] at q
          simp [ch1, con4, gin4, hr]
          exact ⟨rfl, q⟩
        | some x =>
          have nb : ¬ (c = 32 ∨ c = 10) := fun h => by rw [rd_ne h] at hr; cases hr
          simp [ch1, con4, gin4, hr, in_bl, nb, gg4 hr]
          rw [augS f [x] H1 (by simp; omega)]
          simp
          by_cases hx : c = 126
          · simp [hx]
            subst hx
            refine ⟨false, l, f ++ [x], _, rfl, rfl, ?_, by simp; omega⟩
            rw [hv]; simp [V, hr, Option.map_map, Function.comp_def]
          · simp [hx]
            rw [show (c == 126) = false by simp [hx]]
            refine ⟨false, l, f ++ [x], _, rfl, rfl, ?_, by simp; omega⟩
            rw [hv]; simp [V, hr, Option.map_map, Function.comp_def]
      | false =>
        by_cases hb : c = 32 ∨ c = 10
        · simp [ch1, in_bl, hb]
          have v0 : V false w = none := by rw [hv]; simp [V, hb]
          rw [v0] at q
          exact ⟨rfl, q⟩
        · simp [ch1, in_bl, hb]
          by_cases hx : c = 126
          · simp only [if_pos hx]
            refine ⟨true, l, f, _, rfl, rfl, ?_, by omega⟩
            rw [hv]; simp [V, hb, hx]
          · simp only [if_neg hx]
            rw [augS f [c] H1 (by simp; omega)]
            simp [hx]
            rw [show (c == 126) = false by simp [hx]]
            refine ⟨false, l, f ++ [c], _, rfl, rfl, ?_, by simp; omega⟩
            rw [hv]; simp [V, hb, hx, Option.map_map, Function.comp_def]
  · rintro s H1 ⟨b, l, f, x3, e1, rfl, hv, hn⟩
    cases l with
    | cons c l => cases e1
    | nil =>
      refine ⟨rfl, ?_⟩
      cases b with
      | true =>
        have v0 : V false w = none := by rw [hv]; simp [V]
        rw [v0] at q
        simp
        exact ⟨rfl, q⟩
      | false =>
        have v0 : V false w = some f := by rw [hv]; simp [V]
        rw [v0] at q
        simp
        exact ⟨rfl, q⟩
theorem cut1n (l : W) (c : Nat) : cutD (c :: l) (some 1) none = l := by
  have h : HT.sIx (c :: l).length 0 (some 1) = 1 := (HT.sIx_nat _ _ 1).trans (by simp)
  have h2 : HT.sIx (c :: l).length (c :: l).length none = (c :: l).length := rfl
  unfold cutD
  rw [h, h2]
  simp
theorem cut12 (l : W) (c : Nat) : cutD (c :: l) (some 1) (some 2) = l.take 1 := by
  have h : HT.sIx (c :: l).length 0 (some 1) = 1 := (HT.sIx_nat _ _ 1).trans (by simp)
  unfold cutD
  rw [h]
  cases l with
  | nil => rfl
  | cons e r =>
    have h2 : HT.sIx (c :: e :: r).length (c :: e :: r).length (some 2) = 2 := (HT.sIx_nat _ _ 2).trans (by simp)
    rw [h2]; rfl
theorem cut02 (r : W) (c e : Nat) : cutD (c :: e :: r) none (some 2) = [c, e] := by
  have h2 : HT.sIx (c :: e :: r).length (c :: e :: r).length (some 2) = 2 := (HT.sIx_nat _ _ 2).trans (by simp)
  have h : HT.sIx (c :: e :: r).length 0 none = 0 := rfl
  unfold cutD
  rw [h, h2]; rfl
theorem cut2n (r : W) (c e : Nat) : cutD (c :: e :: r) (some 2) none = r := by
  have h : HT.sIx (c :: e :: r).length 0 (some 2) = 2 := (HT.sIx_nat _ _ 2).trans (by simp)
  have h2 : HT.sIx (c :: e :: r).length (c :: e :: r).length none = (c :: e :: r).length := rfl
  unfold cutD
  rw [h, h2]
  simp
theorem in_rd (e : Nat) : inD (.str [e]) (.tup [.str [98], .str [110], .str [126]]) = some (rd e).isSome := by
  unfold rd
  by_cases h1 : e = 98
  · subst h1; rfl
  · by_cases h2 : e = 110
    · subst h2; rfl
    · by_cases h3 : e = 126
      · subst h3; rfl
      · simp [inD, flatD, eqD, toPy, h1, h2, h3, Ne.symm h1, Ne.symm h2, Ne.symm h3]
        done
theorem ix0 {c : Nat} {r : W} (h : (c :: r).length ≤ 10000) : ixD (.str (c :: r)) (.int 0) = some (.str [c]) := by
  show (if (c :: r).length ≤ 16777216 then (L2.atI (c :: r) 0).map fun c => D.str [c] else none) = _
  rw [if_pos (by omega), at_nat (i := 0) (n := 0) rfl (by simp)]
  rfl
theorem slS {x : W} (lo hi : Option Int) (h : x.length ≤ 10000) : slD (.str x) lo hi = some (.str (cutD x lo hi)) := by
  show (if x.length ≤ 16777216 then _ else _) = _
  rw [if_pos (by omega)]
theorem lit6 : litD [.str [126, 98], .str [32], .str [126, 110], .str [10], .str [126, 126], .str [126]] = some ([.str [126, 98], .str [126, 110], .str [126, 126]], [.str [32], .str [10], .str [126]]) := by rfl
theorem dg6 {e x : Nat} (h : rd e = some x) : dgetD (.dv [.str [126, 98], .str [126, 110], .str [126, 126]] [.str [32], .str [10], .str [126]]) (.str [126, e]) = some (.str [x]) := by
  unfold rd at h
  split at h
  · rename_i e; subst e; cases h; rfl
  · split at h
    · rename_i e; subst e; cases h; rfl
    · split at h
      · rename_i e; subst e; cases h; rfl
      · cases h
theorem in_nil3 : inD (.str []) (.tup [.str [98], .str [110], .str [126]]) = some false := rfl
theorem biT : biD .int [.bl true] = some (.int 1) := rfl
def WI (N : Nat) (w : W) (x0 : Option D) (n : Nat) (s : Sd) (_ : HH) : Prop := ∃ (l f : W), l.length ≤ n ∧ s = [x0, some (.str f), some (.str l)] ∧ V false w = (V false l).map (f ++ ·) ∧ f.length + l.length ≤ N
theorem lunP {w : W} {k : Nat} {H : HH} {Q : D → HH → Prop} (hl : w.length ≤ 10000) (q : Q (oD (V false w)) H) : (pcallE (cfP Pg (k + 1)) 14 [0] [.str w] [] H).wp Q := by
  refine pureC (P := Pg) (fd := f14) rfl (l := [.str w]) rfl rfl ?_
  refine run_k rfl ?_
  simp [f14, b14, startD, N14]
  refine while_wp (I := WI 10000 w (some (.str w))) ?_ _ w.length _ _ (by show _ < 1000000; omega) ⟨w, [], Nat.le_refl _, rfl, by simp, by simpa using hl⟩
  rintro n s H1 ⟨l, f, hle, rfl, hv, hn⟩
  cases l with
  | nil =>
    simp [V] at hv
    rw [hv] at q
    simp
    exact ⟨rfl, q⟩
  | cons c l =>
    obtain ⟨m, rfl⟩ : ∃ m, n = m + 1 := ⟨n - 1, by simp at hle; omega⟩
    simp at hle
    simp
    have hn : f.length + (l.length + 1) ≤ 10000 := by simpa using hn
    have i0 := ix0 (c := c) (r := l) (by simp; omega)
    have s12 := slS (x := c :: l) (some 1) (some 2) (by simp; omega)
    rw [cut12] at s12
    simp [i0, in_bl, s12]
    by_cases hb : c = 32 ∨ c = 10
    · have v0 : V false w = none := by rw [hv]; simp [V, hb]
      rw [v0] at q
      simp only [if_pos hb]
      exact ⟨rfl, q⟩
    · simp only [if_neg hb]
      by_cases hx : c = 126
      · subst hx
        cases l with
        | nil =>
          have v0 : V false w = none := by rw [hv]; simp [V]
          rw [v0] at q
          simp [in_nil3]
          exact ⟨by decide, rfl, q⟩
        | cons e r =>
          cases hr : rd e with
          | none =>
            have v0 : V false w = none := by rw [hv]; simp [V, hr]
            rw [v0] at q
            simp [in_rd, hr]
            exact ⟨by decide, rfl, q⟩
          | some x =>
            have s02 := slS (x := 126 :: e :: r) none (some 2) (by simp at hn ⊢; omega)
            rw [cut02] at s02
            have s2n := slS (x := 126 :: e :: r) (some 2) none (by simp at hn ⊢; omega)
            rw [cut2n] at s2n
            have i02 := ix0 (c := 126) (r := e :: r) (by simp at hn ⊢; omega)
            simp [in_rd, hr, lit6]
            refine ⟨by decide, ?_⟩
            simp [i02, lit6, viewD, s02, dg6 hr]
            refine ow_if (by show _ ≤ 16777216; omega) ?_
            simp [i02, biT, s2n]
            refine ⟨r, f ++ [x], by simp at hle; omega, rfl, ?_, by simp at hn ⊢; omega⟩
            rw [hv]; simp [V, hr, Option.map_map, Function.comp_def]
      · have s1n := slS (x := c :: l) (some 1) none (by simp; omega)
        rw [cut1n] at s1n
        simp [hx, i0]
        refine ow_if (by show _ ≤ 16777216; omega) ?_
        have bf : biD .int [.bl (c == 126)] = some (.int 0) := by simp [biD, intD, hx]
        simp [i0, bf, s1n]
        refine ⟨l, f ++ [c], hle, rfl, ?_, by simp; omega⟩
        rw [hv]; simp [V, hb, hx, Option.map_map, Function.comp_def]
end K65
namespace K65
open PySem DI
inductive Pt where
  | kp (n : Nat)
  | dr (n : Nat)
  | pu (w : W)
def cK : W := [107, 101, 101, 112]
def cD : W := [100, 114, 111, 112]
def cP : W := [112, 117, 116]
def Pt.wd : Pt → W
  | .kp _ => cK
  | .dr _ => cD
  | .pu _ => cP
def Pt.val : Pt → D
  | .kp n => .int (n : Nat)
  | .dr n => .int (n : Nat)
  | .pu w => .str w
def Pt.d (p : Pt) : D := .tup [.str p.wd, p.val]
def dig (c : Nat) : Bool := decide (48 ≤ c ∧ c ≤ 57)
def numOk (r : W) : Bool := decide (1 ≤ r.length) && (decide (r.length ≤ 30) && (decide (r.head? ≠ some 48) && r.all dig))
def RP : W → Option Pt
  | [] => none
  | c :: r => if c = 43 then (V false r).bind fun w => if w = [] then none else some (.pu w)
    else if (c = 61 ∨ c = 45) ∧ numOk r = true then some (if c = 61 then .kp (figD r) else .dr (figD r)) else none
def pD : Option Pt → D
  | none => .non
  | some p => p.d
theorem con5 : gdat Pg.consts[5]? = ([.str [61], .str [45]], [.str cK, .str cD]) := rfl
theorem con1 : Pg.consts[1]? = some (.str [48, 49, 50, 51, 52, 53, 54, 55, 56, 57]) := rfl
theorem con2 : Pg.consts[2]? = some (.int 30) := rfl
theorem cut01 (c : Nat) (r : W) : cutD (c :: r) none (some 1) = [c] := by
  have h2 : HT.sIx (c :: r).length (c :: r).length (some 1) = 1 := (HT.sIx_nat _ _ 1).trans (by simp)
  have h : HT.sIx (c :: r).length 0 none = 0 := rfl
  unfold cutD
  rw [h, h2]; rfl
theorem gin5 (c : Nat) : ginD false [.str [61], .str [45]] [.str cK, .str cD] (.str [c]) = some (decide ¬(c = 61 ∨ c = 45)) := by
  by_cases h1 : c = 61
  · subst h1; rfl
  · by_cases h2 : c = 45
    · subst h2; rfl
    · simp [ginD, dgetL, eqK, h1, h2, Ne.symm h1, Ne.symm h2]
theorem gg61 : ggetD [.str [61], .str [45]] [.str cK, .str cD] (.str [61]) = some (.str cK) := rfl
theorem gg45 : ggetD [.str [61], .str [45]] [.str cK, .str cD] (.str [45]) = some (.str cD) := rfl
theorem dig_in (c : Nat) : inD (.str [c]) (.str [48, 49, 50, 51, 52, 53, 54, 55, 56, 57]) = some (dig c) := by
  show some (decide (c ∈ [48, 49, 50, 51, 52, 53, 54, 55, 56, 57])) = _
  unfold dig
  congr 1
  simp only [List.mem_cons, List.not_mem_nil, or_false, decide_eq_decide]
  omega
theorem blsm {A : Type} (p : A → Bool) : ∀ l : List A, blsOf (l.map fun c => D.bl (p c)) = some (l.map p)
  | [] => rfl
  | c :: l => by simp only [List.map_cons, blsOf, blsm p l]; rfl
theorem intS {r : W} (h : numOk r = true) : biD .int [.str r] = some (.int (figD r : Nat)) := by
  unfold numOk at h
  simp only [Bool.and_eq_true, decide_eq_true_eq] at h
  obtain ⟨h1, h2, h3, h4⟩ := h
  show (if r ≠ [] ∧ (r.all fun c => decide (48 ≤ c ∧ c ≤ 57)) = true ∧ r.length ≤ 640 then some (D.int (figD r : Nat)) else none) = _
  rw [if_pos ⟨by rintro rfl; simp at h1, h4, by omega⟩]
theorem nrP (o : Option Pt) : noRef (pD o) = true := by
  cases o with
  | none => rfl
  | some p => cases p <;> rfl
theorem gin5n : ginD false [.str [61], .str [45]] [.str cK, .str cD] (.str []) = some true := rfl
theorem RP43 (r : W) : RP (43 :: r) = (V false r).bind fun w => if w = [] then none else some (.pu w) := rfl
theorem RPno {c : Nat} {r : W} (h1 : c ≠ 43) (h : ¬ ((c = 61 ∨ c = 45) ∧ numOk r = true)) : RP (c :: r) = none := by
  simp only [RP, if_neg h1, if_neg h]
theorem sl00 : slD (.str []) none (some 1) = some (.str []) := rfl
theorem sl10 : slD (.str []) (some 1) none = some (.str []) := rfl
theorem tr0 : truD (.str []) = some false := rfl
theorem tr1 {a : Nat} {x : W} (h : (a :: x).length ≤ 10000) : truD (.str (a :: x)) = some true := by
  show (if (a :: x).length ≤ 16777216 then _ else _) = _
  rw [if_pos (by omega)]; rfl
theorem V_len : ∀ (l : W) (b : Bool) (x : W), V b l = some x → x.length ≤ l.length
  | [], b, x, h => by cases b <;> simp [V] at h; subst h; simp
  | c :: l, b, x, h => by
    unfold V at h
    cases b with
    | true =>
      simp only [if_true] at h
      cases hr : rd c with
      | none => rw [hr] at h; cases h
      | some y =>
        rw [hr] at h
        cases hv : V false l with
        | none => rw [hv] at h; cases h
        | some z =>
          rw [hv] at h
          cases h
          have := V_len l false z hv
          simpa using this
    | false =>
      simp only [Bool.false_eq_true, if_false] at h
      split at h
      · cases h
      · split at h
        · have := V_len l true x h
          simp; omega
        · cases hv : V false l with
          | none => rw [hv] at h; cases h
          | some z =>
            rw [hv] at h
            cases h
            have := V_len l false z hv
            simpa using this
theorem vpd (o : Option Pt) (H : HH) : viewD H (pD o) = pD o := by
  cases o with
  | none => rfl
  | some p => cases p <;> rfl
theorem partP {w : W} {k : Nat} {H : HH} {Q : D → HH → Prop} (hl : w.length ≤ 10000) (q : Q (pD (RP w)) H) : (pcallE (cfP Pg (k + 2)) 7 [0] [.str w] [] H).wp Q := by
  refine pureC (P := Pg) (fd := f7) rfl (l := [.str w]) rfl rfl ?_
  refine run_k rfl ?_
  cases w with
  | nil =>
    simp [f7, b7, startD, N7, sl00, sl10, con5, gin5n]
    exact ⟨rfl, q⟩
  | cons c r =>
    have hr : r.length ≤ 9999 := by simpa using hl
    have s01 := slS (x := c :: r) none (some 1) hl
    rw [cut01] at s01
    have s1n := slS (x := c :: r) (some 1) none hl
    rw [cut1n] at s1n
    simp [f7, b7, startD, N7, s01]
    by_cases h43 : c = 43
    · simp only [if_pos h43]
      simp [s1n]
      refine unmP (by omega) ?_
      subst h43
      rw [RP43] at q
      cases hv : V false r with
      | none =>
        rw [hv] at q
        simp [oD, hv]
        exact ⟨rfl, q⟩
      | some x =>
        rw [hv] at q
        cases x with
        | nil =>
          simp [oD, hv, tr0]
          exact ⟨rfl, q⟩
        | cons a x =>
          have := V_len _ _ _ hv
          simp [oD, hv, tr1 (show (a :: x).length ≤ 10000 by omega)]
          exact ⟨by decide, rfl, q⟩
    · simp only [if_neg h43]
      have ln := len_str (x := r) (show r.length ≤ 16777216 by omega)
      simp [s1n, s01, con5, gin5]
      by_cases h5 : c = 61 ∨ c = 45
      · rw [if_neg (by intro h; rcases h5 with h5 | h5; exact h.1 h5; exact h.2 h5)]
        simp [ln, con2]
        cases r with
        | nil =>
          rw [RPno h43 (fun h => by simp [numOk] at h)] at q
          exact ⟨rfl, q⟩
        | cons a t =>
          rw [if_pos (by simp; omega)]
          by_cases h30 : 30 < (((a :: t).length : Nat) : Int)
          · rw [RPno h43 (fun h => by
              have h2 := h.2
              unfold numOk at h2
              simp only [Bool.and_eq_true, decide_eq_true_eq] at h2
              have := h2.2.1
              omega)] at q
            rw [if_pos h30]
            exact ⟨rfl, q⟩
          · rw [if_neg h30]
            have h30' : (a :: t).length ≤ 30 := by omega
            simp [ix0 (c := a) (r := t) (by omega)]
            by_cases h48 : a = 48
            · rw [RPno h43 (fun h => by have h2 := h.2; simp [numOk, h48] at h2)] at q
              rw [if_pos h48]
              exact ⟨rfl, q⟩
            · rw [if_neg h48]
              rw [show itemsD [] (.str (a :: t)) = some ((a :: t).map ch1, []) from rfl]
              refine lc_mapG ch1 (fun c => .bl (!dig c)) rfl (a :: t) [] (fun c hc => ⟨_, rfl, fun P hP => ?_⟩) (by show 0 + (a :: t).length ≤ 16777216; omega) ?_
              · simp [ch1, con1, dig_in]
                exact hP
              · have e : biD .any [.lv ([] ++ (a :: t).map fun c => D.bl (!dig c))] = some (.bl (!(a :: t).all dig)) := by
                  show ((blsOf _).map fun bs => D.bl (bs.any id)) = _
                  rw [List.nil_append, blsm]
                  simp [List.any_map, List.all_eq_not_any_not]
                generalize [] ++ (a :: t).map (fun c => D.bl (!dig c)) = L at e ⊢
                cases hd : (a :: t).all dig with
                | false =>
                  rw [hd] at e
                  rw [RPno h43 (fun h => by
                    have h2 := h.2
                    unfold numOk at h2
                    simp only [Bool.and_eq_true] at h2
                    rw [hd] at h2
                    exact absurd h2.2.2.2 (by decide))] at q
                  simp [e]
                  exact ⟨rfl, q⟩
                | true =>
                  rw [hd] at e
                  have hn : numOk (a :: t) = true := by
                    unfold numOk
                    simp only [Bool.and_eq_true, decide_eq_true_eq]
                    exact ⟨by simp, h30', by simp [h48], hd⟩
                  have iS := intS hn
                  have i0 := ix0 (c := c) (r := a :: t) hl
                  simp [e, i0, con5]
                  have hRP : RP (c :: a :: t) = some (if c = 61 then .kp (figD (a :: t)) else .dr (figD (a :: t))) := by
                    simp only [RP, if_neg h43, if_pos (show (c = 61 ∨ c = 45) ∧ numOk (a :: t) = true from ⟨h5, hn⟩)]
                  rw [hRP] at q
                  rcases h5 with rfl | rfl
                  · simp [gg61, iS]
                    exact ⟨by decide, rfl, q⟩
                  · simp [gg45, iS]
                    exact ⟨by decide, rfl, q⟩
      · rw [RPno h43 (fun h => h5 h.1)] at q
        rw [if_pos ⟨fun h => h5 (.inl h), fun h => h5 (.inr h)⟩]
        exact ⟨rfl, q⟩
end K65
namespace K65
open PySem DI
theorem in_em (c : Nat) : inD (.str [c]) (.tup [.str [61], .str [45]]) = some (decide (c = 61 ∨ c = 45)) := by
  by_cases h1 : c = 61
  · subst h1; rfl
  · by_cases h2 : c = 45
    · subst h2; rfl
    · simp [inD, flatD, eqD, toPy, h1, h2, Ne.symm h1, Ne.symm h2]
theorem in_em0 : inD (.str []) (.tup [.str [61], .str [45]]) = some false := rfl
theorem in_ne0 : inD .non (.tup [.non, .str []]) = some true := rfl
theorem in_ne1 : inD (.str []) (.tup [.non, .str []]) = some true := rfl
theorem in_ne2 (a : Nat) (x : W) : inD (.str (a :: x)) (.tup [.non, .str []]) = some false := rfl
theorem lit2 : litD [.str [61], .str [107, 101, 101, 112], .str [45], .str [100, 114, 111, 112]] = some ([.str [61], .str [45]], [.str cK, .str cD]) := rfl
theorem dg61 : dgetL [.str [61], .str [45]] [.str cK, .str cD] (.str [61]) = some (.str cK) := rfl
theorem dg45 : dgetL [.str [61], .str [45]] [.str cK, .str cD] (.str [45]) = some (.str cD) := rfl
theorem ne_nil0 : cmpD .NotEq (.lv []) (.lv []) = some false := rfl
theorem ne_strs {ws : List W} (h : ∀ w ∈ ws, cOk w = true) (hn : ws ≠ []) : cmpD .NotEq (.lv (ws.map D.str)) (.lv []) = some true := by
  have h1 := strs_ok h
  have h2 : eqOk (.lv []) = true := by decide
  show ((if eqOk _ && eqOk _ then some (eqD _ _) else none).map (!·)) = _
  rw [h1, h2]
  cases ws with
  | nil => exact absurd rfl hn
  | cons w r => rfl
theorem lpartP {w : W} {k : Nat} {H : HH} {Q : D → HH → Prop} (hc : cOk w = true) (hl : w.length ≤ 10000) (q : Q (pD (RP w)) H) : (pcallE (cfP Pg (k + 2)) 15 [0] [.str w] [] H).wp Q := by
  refine pureC (P := Pg) (fd := f15) rfl (l := [.str w]) rfl rfl ?_
  refine run_k rfl ?_
  cases w with
  | nil =>
    simp [f15, b15, startD, N15, sl00, sl10, in_em0]
    exact ⟨by decide, rfl, q⟩
  | cons c r =>
    have hr : r.length ≤ 9999 := by simpa using hl
    have s01 := slS (x := c :: r) none (some 1) hl
    rw [cut01] at s01
    have s1n := slS (x := c :: r) (some 1) none hl
    rw [cut1n] at s1n
    simp [f15, b15, startD, N15, s01]
    by_cases h43 : c = 43
    · simp only [if_pos h43]
      simp [s1n]
      refine lunP (by omega) ?_
      subst h43
      rw [RP43] at q
      cases hv : V false r with
      | none =>
        rw [hv] at q
        simp [oD, hv, in_ne0]
        exact ⟨by decide, rfl, q⟩
      | some x =>
        rw [hv] at q
        cases x with
        | nil =>
          simp [oD, hv, in_ne1]
          exact ⟨by decide, rfl, q⟩
        | cons a x =>
          simp [oD, hv, in_ne2]
          exact ⟨by decide, rfl, q⟩
    · simp only [if_neg h43]
      have ln := len_str (x := r) (show r.length ≤ 16777216 by omega)
      simp [s1n, s01, in_em]
      refine ⟨by decide, ?_⟩
      by_cases h5 : c = 61 ∨ c = 45
      · rw [if_neg (by intro h; rcases h5 with h5 | h5; exact h.1 h5; exact h.2 h5)]
        simp [ln]
        cases r with
        | nil =>
          rw [RPno h43 (fun h => by simp [numOk] at h)] at q
          exact ⟨rfl, q⟩
        | cons a t =>
          rw [if_pos (by simp; omega)]
          by_cases h30 : 30 < (((a :: t).length : Nat) : Int)
          · rw [RPno h43 (fun h => by
              have h2 := h.2
              unfold numOk at h2
              simp only [Bool.and_eq_true, decide_eq_true_eq] at h2
              have := h2.2.1
              omega)] at q
            rw [if_pos h30]
            exact ⟨rfl, q⟩
          · rw [if_neg h30]
            have h30' : (a :: t).length ≤ 30 := by omega
            simp [ix0 (c := a) (r := t) (by omega)]
            by_cases h48 : a = 48
            · rw [RPno h43 (fun h => by have h2 := h.2; simp [numOk, h48] at h2)] at q
              rw [if_pos h48]
              exact ⟨rfl, q⟩
            · rw [if_neg h48]
              rw [show itemsD [] (.str (a :: t)) = some ((a :: t).map ch1, []) from rfl]
              simp
              refine lc_filG ch1 ch1 (fun c => !dig c) rfl (a :: t) [] (fun c hc => ⟨_, rfl, fun P hP => ?_, fun P hP => ?_⟩) (by show 0 + (a :: t).length ≤ 16777216; omega) ?_
              · simp [ch1, dig_in]
                exact hP
              · simp
                exact hP
              · rw [List.nil_append]
                cases hd : (a :: t).all dig with
                | false =>
                  rw [RPno h43 (fun h => by
                    have h2 := h.2
                    unfold numOk at h2
                    simp only [Bool.and_eq_true] at h2
                    rw [hd] at h2
                    exact absurd h2.2.2.2 (by decide))] at q
                  have e : cmpD .NotEq (.lv (((a :: t).filter fun c => !dig c).map ch1)) (.lv []) = some true := by
                    have e2 : ((a :: t).filter fun c => !dig c).map ch1 = (((a :: t).filter fun c => !dig c).map fun c => [c]).map D.str := by rw [List.map_map]; rfl
                    rw [e2]
                    refine ne_strs (fun w hw => ?_) (fun h => ?_)
                    · obtain ⟨x, hx, rfl⟩ := List.mem_map.mp hw
                      have h1 := (List.mem_filter.mp hx).1
                      have h2 := List.all_eq_true.mp hc x (List.mem_cons_of_mem _ h1)
                      simpa [cOk] using h2
                    · have h3 := List.map_eq_nil_iff.mp h
                      rw [List.filter_eq_nil_iff] at h3
                      have h4 : (a :: t).all dig = true := List.all_eq_true.mpr fun x hx => by simpa using h3 x hx
                      rw [hd] at h4; cases h4
                  generalize ((a :: t).filter fun c => !dig c).map ch1 = L at e ⊢
                  simp [e]
                  exact ⟨rfl, q⟩
                | true =>
                  have e : (a :: t).filter (fun c => !dig c) = [] := by
                    rw [List.filter_eq_nil_iff]
                    intro x hx
                    have := List.all_eq_true.mp hd x hx
                    simp [this]
                  have hn : numOk (a :: t) = true := by
                    unfold numOk
                    simp only [Bool.and_eq_true, decide_eq_true_eq]
                    exact ⟨by simp, h30', by simp [h48], hd⟩
                  have iS := intS hn
                  have i0 := ix0 (c := c) (r := a :: t) hl
                  rw [e]
                  simp [ne_nil0, lit2]
                  have hRP : RP (c :: a :: t) = some (if c = 61 then .kp (figD (a :: t)) else .dr (figD (a :: t))) := by
                    simp only [RP, if_neg h43, if_pos (show (c = 61 ∨ c = 45) ∧ numOk (a :: t) = true from ⟨h5, hn⟩)]
                  rw [hRP] at q
                  rcases h5 with rfl | rfl
                  · simp [viewD, i0, dg61, iS]
                    exact ⟨by decide, rfl, q⟩
                  · simp [viewD, i0, dg45, iS]
                    exact ⟨by decide, rfl, q⟩
      · rw [RPno h43 (fun h => h5 h.1)] at q
        rw [if_pos ⟨fun h => h5 (.inl h), fun h => h5 (.inr h)⟩]
        exact ⟨rfl, q⟩
end K65
namespace K65
open PySem DI
def Pt.isP : Pt → Bool
  | .pu _ => true
  | _ => false
def Pt.isR : Pt → Bool
  | .dr _ => true
  | _ => false
def Pt.ok : Pt → Prop
  | .kp n => 1 ≤ n
  | .dr n => 1 ≤ n
  | .pu w => w ≠ []
def ptsD (ps : List Pt) : List D := ps.map Pt.d
theorem pt_nr (p : Pt) : noRef p.d = true := by cases p <;> simp [Pt.d, Pt.val, noRef, noRefs]
theorem pts_nr : ∀ ps : List Pt, noRefs (ptsD ps) = true
  | [] => rfl
  | p :: r => by
    show (noRef p.d && noRefs (ptsD r)) = true
    rw [pt_nr, pts_nr r]; rfl
theorem asPt {i j : Nat} {s : Sd} (p : Pt) : asT (.tp (.cons (.nm i) (.cons (.nm j) .nil))) p.d s = some ((s.set i (some (.str p.wd))).set j (some p.val)) := by
  simp [Pt.d]
def bad2 (x y : Pt) : Bool := decide (x.wd = y.wd) || (x.isR && y.isP)
def adj (ps : List Pt) : Bool := !(ps.zip ps.tail).any fun z => bad2 z.1 z.2
def words3 : List W := [cK, cD, cP]
theorem con0 : Pg.consts[0]? = some (.tup (words3.map D.str)) := rfl
theorem inK : [107, 101, 101, 112] ∈ words3 := by decide
theorem inD' : [100, 114, 111, 112] ∈ words3 := by decide
theorem inP : [112, 117, 116] ∈ words3 := by decide
theorem numP {k : Nat} {H : HH} {n : Nat} {Q : D → HH → Prop} (q : Q (.bl (decide (1 ≤ n))) H) : (pcallE (cfP Pg (k + 1)) 0 [0, 1] [.int (n : Nat), .int 1] [] H).wp Q := by
  refine pureC (P := Pg) (fd := f0) rfl (l := [.int (n : Nat), .int 1]) rfl rfl ?_
  refine run_k rfl ?_
  have e : decide ((1 : Int) ≤ (n : Nat)) = decide (1 ≤ n) := decide_eq_decide.mpr (by omega)
  simp [f0, b0, startD, N0, tyIs, e]
  exact ⟨by simp [noRef], q⟩
theorem isPartP {k : Nat} {H : HH} {p : Pt} {Q : D → HH → Prop} (ho : p.ok) (q : Q (.bl true) H) : (pcallE (cfP Pg (k + 2)) 1 [0] [p.d] [] H).wp Q := by
  refine pureC (P := Pg) (fd := f1) rfl (l := [p.d]) rfl (by simp [noRefs, pt_nr]) ?_
  refine run_k rfl ?_
  cases p with
  | kp n =>
    have ho : 1 ≤ n := ho
    simp [f1, b1, startD, N1, tyIs, Pt.d, Pt.wd, Pt.val, con0, in_strsT, len_tup, cK, inK]
    refine numP ?_
    simp [ho]
    exact ⟨by simp [noRef], q⟩
  | dr n =>
    have ho : 1 ≤ n := ho
    simp [f1, b1, startD, N1, tyIs, Pt.d, Pt.wd, Pt.val, con0, in_strsT, len_tup, cD, inD']
    refine numP ?_
    simp [ho]
    exact ⟨by simp [noRef], q⟩
  | pu w =>
    have h : w.isEmpty = false := by have : w ≠ [] := ho; cases w with | nil => exact absurd rfl this | cons _ _ => rfl
    simp [f1, b1, startD, N1, tyIs, Pt.d, Pt.wd, Pt.val, con0, in_strsT, len_tup, cP, inP, h]
    exact ⟨by simp [noRef], q⟩
def pairD (z : Pt × Pt) : D := .tup [.str z.1.wd, .str z.2.wd]
theorem asPr {i j : Nat} {s : Sd} (z : Pt × Pt) : asT (.tp (.cons (.nm i) (.cons (.nm j) .nil))) (pairD z) s = some ((s.set i (some (.str z.1.wd))).set j (some (.str z.2.wd))) := by
  simp [pairD]
theorem zipW (a b : List Pt) : zipD (a.map fun p => D.str p.wd) (b.map fun p => D.str p.wd) = (a.zip b).map pairD := by
  unfold zipD
  rw [List.zip_map, List.map_map]
  rfl
theorem any_bls (l : List (Pt × Pt)) : anyD (.lv (l.map fun z => D.bl (bad2 z.1 z.2))) = some (.bl (l.any fun z => bad2 z.1 z.2)) := by
  show (blsOf _).map _ = _
  rw [blsm]
  simp [List.any_map]
theorem cut1 (l : List D) (h : 1 ≤ l.length ∨ l = []) : cutD l (some 1) none = l.drop 1 := by
  rcases h with h | rfl
  · exact cut_from l (j := 1) rfl h
  · rfl
theorem eqPair (x y : Pt) : cmpD .Eq (.tup [.str x.wd, .str y.wd]) (.tup [.str [100, 114, 111, 112], .str [112, 117, 116]]) = some (x.isR && y.isP) := by
  cases x <;> cases y <;> rfl
theorem slW (ps : List Pt) : slD (.lv (ps.map fun p => D.str p.wd)) (some 1) none = some (.lv (ps.tail.map fun p => D.str p.wd)) := by
  show some (D.lv (cutD _ (some 1) none)) = _
  rw [cut1 _ (by cases ps <;> simp), List.drop_one, ← List.map_tail]
theorem zpW (ps : List Pt) (H : HH) : zipI H (.lv (ps.map fun p => D.str p.wd)) (.lv (ps.tail.map fun p => D.str p.wd)) = some ((ps.zip ps.tail).map pairD, []) := by
  show some (zipD _ _, [] ++ []) = _
  rw [zipW]; rfl
theorem changeP {k : Nat} {H : HH} {ps : List Pt} {Q : D → HH → Prop} (ho : ∀ p ∈ ps, p.ok) (hl : ps.length ≤ 10000) (q : Q (.bl (adj ps)) H) : (pcallE (cfP Pg (k + 3)) 2 [0] [.tup (ptsD ps)] [] H).wp Q := by
  refine pureC (P := Pg) (fd := f2) rfl (l := [.tup (ptsD ps)]) rfl (by simp only [noRefs, noRef, pts_nr]; rfl) ?_
  refine run_k rfl ?_
  simp [f2, b2, startD, N2, tyIs]
  refine lc_mapG Pt.d (fun _ => .bl true) rfl ps [] (fun p hp => ⟨_, a_nm 4 p.d, fun P h => ?_⟩) (by show 0 + ps.length ≤ 16777216; omega) ?_
  · simp
    exact isPartP (ho p hp) h
  · rw [List.nil_append]
    have al : biD .all [.lv (ps.map fun _ => D.bl true)] = some (.bl true) := by
      show ((blsOf _).map fun bs => D.bl (bs.all id)) = _
      rw [blsm (fun _ => true)]
      simp
    generalize (ps.map fun _ => D.bl true) = L at al ⊢
    simp [al]
    refine lc_mapG Pt.d (fun p => .str p.wd) rfl ps [] (fun p he => ⟨_, asPt p, fun P h => ?_⟩) (by show 0 + ps.length ≤ 16777216; omega) ?_
    · simpa using h
    · rw [List.nil_append]
      have sl := slW ps
      have zp := zpW ps
      generalize (ps.map fun p => D.str p.wd) = W at sl zp ⊢
      generalize (ps.tail.map fun p => D.str p.wd) = W1 at sl zp ⊢
      simp [sl, zp]
      refine lc_mapG pairD (fun z => .bl (bad2 z.1 z.2)) rfl (ps.zip ps.tail) [] (fun z he => ⟨_, asPr z, fun P h => ?_⟩) (by show 0 + _ ≤ 16777216; rw [List.length_zip]; omega) ?_
      · simp
        by_cases e : z.1.wd = z.2.wd
        · have h1 : bad2 z.1 z.2 = true := by simp [bad2, e]
          rw [h1] at h
          simpa [e] using h
        · have h1 : bad2 z.1 z.2 = (z.1.isR && z.2.isP) := by simp [bad2, e]
          rw [h1] at h
          simp [e, eqPair]
          exact ⟨by decide, h⟩
      · rw [List.nil_append]
        have an := any_bls (ps.zip ps.tail)
        generalize ((ps.zip ps.tail).map fun z => D.bl (bad2 z.1 z.2)) = L at an ⊢
        simp [biD, an]
        exact ⟨by simp [noRef], q⟩
theorem figD_pos {r : W} (h : numOk r = true) : 1 ≤ figD r := by
  unfold numOk at h
  simp only [Bool.and_eq_true, decide_eq_true_eq] at h
  obtain ⟨h1, h2, h3, h4⟩ := h
  cases r with
  | nil => simp at h1
  | cons a t =>
    have ha : 49 ≤ a := by
      have := List.all_eq_true.mp h4 a List.mem_cons_self
      unfold dig at this
      simp at this h3
      omega
    have mono : ∀ (l : W) (x : Nat), 1 ≤ x → 1 ≤ l.foldl (fun a c => a * 10 + (c - 48)) x := fun l => by
      induction l with
      | nil => intro x h; exact h
      | cons c l ih => intro x h; exact ih _ (by show 1 ≤ x * 10 + (c - 48); omega)
    exact mono t _ (by show 1 ≤ 0 * 10 + (a - 48); omega)
theorem RP_ok {w : W} {p : Pt} (h : RP w = some p) : p.ok := by
  cases w with
  | nil => cases h
  | cons c r =>
    by_cases h43 : c = 43
    · subst h43
      rw [RP43] at h
      cases hv : V false r with
      | none => rw [hv] at h; cases h
      | some x =>
        rw [hv] at h
        change (if x = [] then none else some (Pt.pu x)) = some p at h
        split at h
        · cases h
        · rename_i hx; cases h; exact hx
    · simp only [RP, if_neg h43] at h
      split at h
      · rename_i hc
        have := figD_pos hc.2
        cases h
        split
        · exact this
        · exact this
      · cases h
end K65
namespace K65
open PySem DI
def sp : W → List W
  | [] => [[]]
  | c :: r => if c = 32 then [] :: sp r else match sp r with
    | p :: ps => (c :: p) :: ps
    | [] => [[c]]
theorem sp_ne : ∀ l : W, sp l ≠ []
  | [] => by simp [sp]
  | c :: r => by
    unfold sp
    split
    · simp
    · split <;> simp
theorem sp_join : ∀ l : W, joinL [32] (sp l) = l
  | [] => rfl
  | c :: r => by
    have ih := sp_join r
    have hn := sp_ne r
    unfold sp
    cases h : sp r with
    | nil => exact absurd h hn
    | cons p ps =>
      rw [h] at ih
      split
      · rename_i hc
        subst hc
        show [] ++ ([32] ++ joinL [32] (p :: ps)) = _
        rw [ih]; rfl
      · cases ps with
        | nil => simpa [joinL] using ih
        | cons z zs => simpa [joinL] using ih
theorem sp_mem : ∀ (l w : W), w ∈ sp l → (∀ c ∈ w, c ∈ l ∧ c ≠ 32) ∧ w.length ≤ l.length
  | [], w, h => by
    simp [sp] at h
    subst h
    simp
  | c :: r, w, h => by
    have ih := sp_mem r
    have hn := sp_ne r
    unfold sp at h
    cases e : sp r with
    | nil => exact absurd e hn
    | cons p ps =>
      rw [e] at h ih
      split at h
      · rcases List.mem_cons.mp h with rfl | h
        · simp
        · obtain ⟨h1, h2⟩ := ih w h
          exact ⟨fun x hx => ⟨List.mem_cons_of_mem _ (h1 x hx).1, (h1 x hx).2⟩, by simp; omega⟩
      · rename_i hc
        rcases List.mem_cons.mp h with rfl | h
        · obtain ⟨h1, h2⟩ := ih p List.mem_cons_self
          refine ⟨fun x hx => ?_, by simp; omega⟩
          rcases List.mem_cons.mp hx with rfl | hx
          · exact ⟨List.mem_cons_self, hc⟩
          · exact ⟨List.mem_cons_of_mem _ (h1 x hx).1, (h1 x hx).2⟩
        · obtain ⟨h1, h2⟩ := ih w (List.mem_cons_of_mem _ h)
          exact ⟨fun x hx => ⟨List.mem_cons_of_mem _ (h1 x hx).1, (h1 x hx).2⟩, by simp; omega⟩
theorem sp_len : ∀ l : W, (sp l).length ≤ l.length + 1
  | [] => by simp [sp]
  | c :: r => by
    have ih := sp_len r
    unfold sp
    cases e : sp r with
    | nil => exact absurd e (sp_ne r)
    | cons p ps =>
      rw [e] at ih
      split <;> simp at ih ⊢ <;> omega
theorem mt_split {l : W} (hl : l.length ≤ 10000) : mtD .split (.str l) [.str [32]] = some (.lv ((sp l).map D.str)) := by
  show (if ([32] : List Nat) ≠ [] ∧ l.length + 2 ≤ lim then some (D.lv ((Txt.split ⟨l.toArray⟩ ⟨[32].toArray⟩).map fun y => D.str y.cps.toList)) else none) = _
  rw [if_pos ⟨by decide, by show _ ≤ 16777216; omega⟩]
  have := split_join (c := 32) (sp_ne l) fun w hw h => ((sp_mem l w hw).1 32 h).2 rfl
  rw [sp_join] at this
  have e2 : ((Txt.split ⟨l.toArray⟩ ⟨[32].toArray⟩).map fun y => D.str y.cps.toList) = ((Txt.split ⟨l.toArray⟩ ⟨[32].toArray⟩).map fun y => y.cps.toList).map D.str := by rw [List.map_map]; rfl
  rw [e2, this]
/-- the parts that are written -/
def os (l : W) : List (Option Pt) := if l = [] then [] else (sp l).map RP
def fN : List (Option Pt) → Option Nat
  | [] => none
  | none :: _ => some 0
  | some _ :: r => (fN r).map (· + 1)
def ps (l : W) : List Pt := (os l).filterMap id
inductive An where
  | rd (ps : List Pt)
  | no (d : D)
def an (l : W) : An := match fN (os l) with
  | some i => .no (.int (i : Nat))
  | none => if adj (ps l) = true then .rd (ps l) else .no .non
def noT : W := [110, 111]
def reT : W := [114, 101, 97, 100]
def An.d : An → D
  | .rd ps => .lv [.str reT, .tup (ptsD ps)]
  | .no d => .lv [.str noT, d]
theorem os_all {os : List (Option Pt)} (h : fN os = none) : os = (os.filterMap id).map some := by
  induction os with
  | nil => rfl
  | cons o r ih =>
    cases o with
    | none => cases h
    | some p =>
      have h2 : fN r = none := by
        unfold fN at h
        cases e : fN r with
        | none => rfl
        | some i => rw [e] at h; cases h
      have := ih h2
      simp only [List.filterMap_cons, id, List.map_cons]
      rw [← this]
theorem os_len (l : W) : (os l).length ≤ l.length + 1 := by
  unfold os
  split
  · simp
  · have := sp_len l
    simpa using this
theorem ps_ok {l : W} : ∀ p ∈ ps l, p.ok := fun p hp => by
  obtain ⟨o, ho, e⟩ := List.mem_filterMap.mp hp
  cases e
  unfold os at ho
  split at ho
  · cases ho
  · obtain ⟨w, hw, e⟩ := List.mem_map.mp ho
    exact RP_ok e
theorem ps_len (l : W) : (ps l).length ≤ l.length + 1 := Nat.le_trans (List.length_filterMap_le _ _) (os_len l)
theorem for_wpx {g : Gd} {tg : D → Sd → Option Sd} {body : Sd → HH → RS} {Q : Fl → HH → Prop} {X : XV → Sd → HH → Prop} (I : List D → Sd → HH → Prop)
    (step : ∀ x r s H, I (x :: r) s H → gdOk g H = true ∧ ∃ s1, tg x s = some s1 ∧ (body s1 H).wpx (lop (I r) Q) X) (done : ∀ s H, I [] s H → gdOk g H = true ∧ Q (.nx s) H) :
    ∀ (xs : List D) (s : Sd) (H : HH), I xs s H → (forL g tg body xs s H).wpx Q X
  | [], s, H, h => by
    obtain ⟨h1, h2⟩ := done s H h
    simp only [forL, h1, if_true]
    exact h2
  | x :: xs, s, H, h => by
    obtain ⟨h1, s1, h2, h3⟩ := step x xs s H h
    simp only [forL, h1, if_true, h2]
    generalize body s1 H = r at h3
    cases r with
    | go f H1 =>
      cases f with
      | nx s2 => exact for_wpx I step done xs s2 H1 h3
      | ct s2 => exact for_wpx I step done xs s2 H1 h3
      | bk s2 => exact h3
      | rt d => exact h3
    | ex e s2 H1 => exact h3
    | no => exact h3
end K65
namespace K65
open PySem DI
theorem swpx_nil {c : Cfg} {s : Sd} {H : HH} {F : Fl → HH → Prop} {X : XV → Sd → HH → Prop} (h : F (.nx s) H) : (evSs c .nil s H).wpx F X := by rw [evSs]; exact h
theorem swpx_for {c : Cfg} {s : Sd} {H : HH} {t : DI.T} {i : I} {b : Ss} {F : Fl → HH → Prop} {X : XV → Sd → HH → Prop} (h : (evI c i s H).wp fun p H1 => (forL p.2 (asT t) (evSs c b) p.1 s H1).wpx F X) : (evS c (.forr t i b) s H).wpx F X := by
  rw [evS]
  exact swpx_st (wpx_of h)
def osD (os : List (Option Pt)) : List D := os.map pD
theorem osD_nr (os : List (Option Pt)) : noRefs (osD os) = true := by
  induction os with
  | nil => rfl
  | cons o r ih =>
    show (noRef (pD o) && noRefs (osD r)) = true
    rw [nrP, ih]; rfl
theorem osD_ps {l : W} (h : fN (os l) = none) : osD (os l) = ptsD (ps l) := by
  unfold osD ps
  rw [os_all h]
  simp [ptsD, pD]
theorem os_nil : os [] = [] := rfl
theorem os_cons {l : W} (h : l ≠ []) : os l = (sp l).map RP := by unfold os; rw [if_neg h]
/-- the list of the parts -/
theorem listP {f : Nat → Nat} {k : Nat} {s : Sd} {H : HH} {l : W} {P : List D → HH → Prop} {tg : D → Sd → Option Sd} {elt : Sd → HH → Rs D} (hl : l.length ≤ 9000) (h0 : l ≠ [])
    (he : ∀ w : W, w.length ≤ 10000 → (∀ c ∈ w, c ∈ l) → ∃ s1, tg (.str w) s = some s1 ∧ ∀ R : D → HH → Prop, R (pD (RP w)) H → (elt s1 H).wp R) (q : P (osD (os l)) H) :
    (lcL [] tg (evOT (cfP Pg k) .no) elt s ((sp l).map D.str) [] H).wp P := by
  have hs := sp_len l
  refine lc_mapG D.str (fun w => pD (RP w)) rfl (sp l) [] (fun w hw => ?_) (by show 0 + (sp l).length ≤ 16777216; omega) ?_
  · obtain ⟨h1, h2⟩ := sp_mem l w hw
    exact he w (by omega) fun c hc => (h1 c hc).1
  · rw [List.nil_append]
    have : osD (os l) = (sp l).map fun w => pD (RP w) := by
      rw [os_cons h0]; unfold osD; rw [List.map_map]; rfl
    rw [← this]
    exact q
theorem en_pairs (os : List (Option Pt)) : enumD (osD os) = (os.zipIdx 0).map (fun z => D.tup [.int (z.2 : Nat), pD z.1]) := by
  unfold enumD osD
  rw [List.zipIdx_map, List.map_map]
  rfl
theorem is_none (o : Option Pt) : cmpD .Is (pD o) .non = some o.isNone := by
  cases o with
  | none => rfl
  | some p => cases p <;> rfl
def rest8 : Ss := match b8 with
  | .cons _ (.cons _ r) => r
  | _ => .nil
/-- the walk that looks for the first that is none -/
def FI (H0 : HH) (A : List (Option Pt)) (x0 x1 : Option D) (xs : List D) (s : Sd) (H : HH) : Prop := H = H0 ∧ ∃ (n : Nat) (r : List (Option Pt)) (x2 x3 : Option D), xs = (r.zipIdx n).map (fun z => D.tup [.int (z.2 : Nat), pD z.1]) ∧ fN A = (fN r).map (· + n) ∧ s = [x0, x1, x2, x3]
theorem asEn {i j : Nat} {s : Sd} (a b : D) : asT (.tp (.cons (.nm i) (.cons (.nm j) .nil))) (.tup [a, b]) s = some ((s.set i (some a)).set j (some b)) := by simp
theorem readR {l : W} {k : Nat} {H0 : HH} {Q : D → HH → Prop} {X : XV → HH → Prop} (hl : l.length ≤ 9000) (q1 : ∀ ps, an l = .rd ps → Q (.tup (ptsD ps)) H0) (q2 : ∀ d, an l = .no d → X ⟨.own 1, some d⟩ H0) :
    (runB f8 (cfP Pg (k + 3)) [.str l] H0).wpx Q X := by
  refine run_wpx rfl ?_
  simp only [f8, b8, startD, N8]
  refine swpx_cons (swpx_ite ?_)
  simp [tyIs]
  refine swpx_nil ?_
  have main : ∀ s1 : Sd, s1 = [some (.str l), some (.lv (osD (os l))), none, none] → (evSs (cfP Pg (k + 3)) rest8 s1 H0).wpx (fun fl H1 => match fl with | .nx _ => Q .non H1 | .rt d => Q d H1 | _ => False) fun e _ H1 => X e H1 := by
    rintro s1 rfl
    simp only [rest8, b8]
    refine swpx_cons (swpx_for ?_)
    simp
    rw [show enD H0 (.lv (osD (os l))) = some (osD (os l), []) from rfl]
    simp
    rw [en_pairs]
    refine for_wpx (I := FI H0 (os l) (some (.str l)) (some (.lv (osD (os l))))) ?_ ?_ _ _ _ ⟨rfl, 0, os l, _, _, rfl, by simp, rfl⟩
    · rintro x xs s H ⟨hH, n, r, x2, x3, e, hA, rfl⟩
      subst hH
      cases r with
      | nil => cases e
      | cons o r =>
        obtain ⟨rfl, rfl⟩ := List.cons.inj e
        refine ⟨rfl, _, asEn _ _, ?_⟩
        refine swpx_cons (swpx_ite ?_)
        simp [is_none]
        cases o with
        | none =>
          refine swpx_cons (swpx_rz ?_)
          simp
          refine q2 _ ?_
          have : fN (os l) = some n := by rw [hA]; simp [fN]
          unfold an; rw [this]
        | some p =>
          have vp : viewD H (pD (some p)) = pD (some p) := vpd _ _
          have ip := is_none (some p)
          rw [if_neg (by rw [vp]; simp [pD, Pt.d])]
          refine swpx_nil ?_
          refine swpx_nil ?_
          refine ⟨rfl, n + 1, r, _, _, rfl, ?_, rfl⟩
          rw [hA]
          simp only [fN, Option.map_map]
          congr 1
          funext z
          simp only [Function.comp]; omega
    · rintro s H ⟨hH, n, r, x2, x3, e, hA, rfl⟩
      subst hH
      cases r with
      | cons o r => cases e
      | nil =>
        refine ⟨rfl, ?_⟩
        have hN : fN (os l) = none := hA
        have hp := ps_len l
        have ad : an l = if adj (ps l) = true then .rd (ps l) else .no .non := by unfold an; rw [hN]
        rw [osD_ps hN]
        have tu : biD .tuple [.lv (ptsD (ps l))] = some (.tup (ptsD (ps l))) := rfl
        refine swpx_cons (swpx_ite ?_)
        simp [tu]
        refine changeP ps_ok (by omega) ?_
        by_cases ha : adj (ps l) = true
        · rw [if_pos ha] at ad
          simp [ha]
          refine swpx_nil ?_
          refine swpx_cons (swpx_ret (wpx_of ?_))
          simp [tu]
          exact q1 _ ad
        · rw [if_neg ha] at ad
          simp [ha]
          refine swpx_cons (swpx_rz ?_)
          simp
          exact q2 _ ad
  refine swpx_cons (swpx_asg (wpx_of ?_))
  by_cases h0 : l = []
  · subst h0
    simp
    exact main _ rfl
  · have e3 : ∀ H, mtE .split (.str l) [.str [32]] H = .ok (.lv ((sp l).map D.str)) H := fun H => by
      show Rs.ofO (mtD .split (.str l) [.str [32]]) H = _
      rw [mt_split (by omega)]; rfl
    simp [h0]
    refine ⟨rfl, ?_⟩
    simp [e3]
    refine listP (f := id) (k := k + 3) hl h0 (fun w hw _ => ⟨_, a_nm 3 _, fun R hR => ?_⟩) ?_
    · simp
      exact partP hw hR
    · simp
      exact main _ rfl
end K65
namespace K65
open PySem DI
theorem w_callx {c : Cfg} {s : Sd} {H : HH} {f : Nat} {es ks : Es} {kw : List Nat} {Q : D → HH → Prop} {X : XV → HH → Prop} (h : (evEs c es s H).wp fun ds H1 => (evEs c ks s H1).wp fun zs H2 => (callD c f kw ds zs H2).wpx Q X) : (evE c (.call f es ks kw) s H).wpx Q X := by
  rw [evE]
  exact wpx_bind (wpx_of (wp_mono h fun ds H1 z => wpx_bind (wpx_of z)))
theorem call8 {k : Nat} {d : D} {H : HH} {Q : D → HH → Prop} {X : XV → HH → Prop} (h : (runB f8 (cfP Pg k) [d] H).wpx Q X) : (callD (cfP Pg (k + 1)) 8 [0] [d] [] H).wpx Q X := by
  show (callN Pg (k + 1) 8 [d] H).wpx Q X
  rw [stepP (P := Pg) (fd := f8) rfl k]
  exact h
theorem nr_pts (ps : List Pt) : noRef (.tup (ptsD ps)) = true := by simp only [noRef, pts_nr]
def An.nr' : An → Prop
  | .rd _ => True
  | .no d => d = .non ∨ ∃ i : Nat, d = .int (i : Nat)
theorem an_nr (l : W) : (an l).nr' := by
  unfold an
  cases fN (os l) with
  | some i => exact .inr ⟨i, rfl⟩
  | none =>
    dsimp only
    split
    · trivial
    · exact .inl rfl
theorem And_nr {a : An} (h : a.nr') : noRef a.d = true := by
  cases a with
  | rd ps => simp [An.d, noRef, noRefs, pts_nr]
  | no d =>
    rcases h with rfl | ⟨i, rfl⟩ <;> simp [An.d, noRef, noRefs]
theorem saidR {l : W} {k : Nat} {H : HH} {Q : D → HH → Prop} (hl : l.length ≤ 9000) (q : Q (an l).d H) : (runB f17 (cfP Pg (k + 4)) [.str l] H).wp Q := by
  refine run_k rfl ?_
  simp only [f17, b17, startD, N17, ss_cons]
  refine swp_try ?_
  refine swpx_cons (swpx_ret (wpx_lst (wpx_cons (wpx_of ?_))))
  simp
  refine wpx_cons (w_callx ?_)
  simp
  refine call8 (readR hl (fun ps e => ?_) fun d e => ?_)
  · refine wpx_nil ?_
    refine ⟨by decide, ?_⟩
    rw [e] at q
    exact q
  · refine tryH_wp (by simp) ?_
    rw [e] at q
    simp [kUn]
    exact ⟨by decide, q⟩
theorem saidP {l : W} {k : Nat} {H : HH} {Q : D → HH → Prop} (hl : l.length ≤ 9000) (q : Q (an l).d H) : (pcallE (cfP Pg (k + 5)) 17 [0] [.str l] [] H).wp Q := by
  refine pureC (P := Pg) (fd := f17) rfl (l := [.str l]) rfl rfl ?_
  exact saidR hl ⟨And_nr (an_nr l), q⟩
theorem saidC {l : W} {k : Nat} {H : HH} {Q : D → HH → Prop} (hl : l.length ≤ 9000) (q : Q (an l).d H) : (callD (cfP Pg (k + 5)) 17 [0] [.str l] [] H).wp Q := by
  refine callC (P := Pg) (fd := f17) rfl (l := [.str l]) rfl ?_
  exact saidR hl q
theorem saidN {d : D} {k : Nat} {H : HH} {Q : D → HH → Prop} (hd : tyIs "str" (viewD H d) = some false) (q : Q (.lv [.str noT, .int 0]) H) : (callD (cfP Pg (k + 5)) 17 [0] [d] [] H).wp Q := by
  refine callC (P := Pg) (fd := f17) rfl (l := [d]) rfl ?_
  refine run_k rfl ?_
  simp only [f17, b17, startD, N17, ss_cons]
  refine swp_try ?_
  refine swpx_cons (swpx_ret (wpx_lst (wpx_cons (wpx_of ?_))))
  simp
  refine wpx_cons (w_callx ?_)
  simp
  refine call8 ?_
  refine run_wpx rfl ?_
  simp only [f8, b8, startD, N8]
  refine swpx_cons (swpx_ite ?_)
  simp [hd]
  refine swpx_cons (swpx_rz ?_)
  simp
  refine tryH_wp (by simp) ?_
  simp [kUn]
  exact ⟨by decide, q⟩
end K65
namespace K65
open PySem DI
def okO : Option Pt → Prop
  | some (.pu w) => cOk w = true
  | _ => True
theorem V_ok : ∀ (l : W) (b : Bool) (x : W), V b l = some x → cOk l = true → cOk x = true
  | [], b, x, h, _ => by cases b <;> simp [V] at h; subst h; rfl
  | c :: l, b, x, h, hc => by
    have hc2 : c < 0x110000 ∧ cOk l = true := by
      unfold cOk at hc ⊢
      rw [List.all_cons, Bool.and_eq_true] at hc
      exact ⟨by simpa using hc.1, hc.2⟩
    unfold V at h
    cases b with
    | true =>
      simp only [if_true] at h
      cases hr : rd c with
      | none => rw [hr] at h; cases h
      | some y =>
        rw [hr] at h
        cases hv : V false l with
        | none => rw [hv] at h; cases h
        | some z =>
          rw [hv] at h
          cases h
          have h1 := V_ok l false z hv hc2.2
          have h2 : y < 0x110000 := by
            unfold rd at hr
            split at hr
            · cases hr; decide
            · split at hr
              · cases hr; decide
              · split at hr
                · cases hr; decide
                · cases hr
          unfold cOk at h1 ⊢
          rw [List.all_cons, h1]
          simpa using h2
    | false =>
      simp only [Bool.false_eq_true, if_false] at h
      split at h
      · cases h
      · split at h
        · exact V_ok l true x h hc2.2
        · cases hv : V false l with
          | none => rw [hv] at h; cases h
          | some z =>
            rw [hv] at h
            cases h
            have h1 := V_ok l false z hv hc2.2
            unfold cOk at h1 ⊢
            rw [List.all_cons, h1]
            simpa using hc2.1
theorem RP_okO {w : W} (hc : cOk w = true) : okO (RP w) := by
  cases w with
  | nil => trivial
  | cons c r =>
    have hc2 : cOk r = true := by
      unfold cOk at hc ⊢
      rw [List.all_cons, Bool.and_eq_true] at hc
      exact hc.2
    by_cases h43 : c = 43
    · subst h43
      rw [RP43]
      cases hv : V false r with
      | none => trivial
      | some x =>
        show okO (if x = [] then none else some (Pt.pu x))
        split
        · trivial
        · exact V_ok r false x hv hc2
    · simp only [RP, if_neg h43]
      split
      · split <;> trivial
      · trivial
theorem os_ok {l : W} (hc : cOk l = true) : ∀ o ∈ os l, okO o := fun o ho => by
  unfold os at ho
  split at ho
  · cases ho
  · obtain ⟨w, hw, rfl⟩ := List.mem_map.mp ho
    refine RP_okO ?_
    unfold cOk at hc ⊢
    exact List.all_eq_true.mpr fun c h => List.all_eq_true.mp hc c ((sp_mem l w hw).1 c h).1
theorem osD_ok : ∀ {os : List (Option Pt)}, (∀ o ∈ os, okO o) → plainDs (osD os) = true ∧ okSs (osD os) = true ∧ depthDs (osD os) ≤ 1
  | [], _ => ⟨rfl, rfl, by simp [osD, depthDs]⟩
  | o :: r, h => by
    obtain ⟨a, b, c⟩ := osD_ok (os := r) fun o ho => h o (List.mem_cons_of_mem _ ho)
    have ho := h o List.mem_cons_self
    unfold osD at a b c ⊢
    rw [List.map_cons]
    cases o with
    | none => exact ⟨by simp [plainDs, plainD, pD, a], by simp [okSs, okS, pD, b], by simp only [depthDs, pD, depthD]; omega⟩
    | some p =>
      cases p with
      | kp n => exact ⟨by simp [plainDs, plainD, pD, Pt.d, Pt.val, a], by simp [okSs, okS, pD, Pt.d, Pt.val, Pt.wd, cK, b], by simp only [depthDs, pD, Pt.d, Pt.val, depthD]; omega⟩
      | dr n => exact ⟨by simp [plainDs, plainD, pD, Pt.d, Pt.val, a], by simp [okSs, okS, pD, Pt.d, Pt.val, Pt.wd, cD, b], by simp only [depthDs, pD, Pt.d, Pt.val, depthD]; omega⟩
      | pu w =>
        have hw : okS (.str w) = true := ho
        refine ⟨by simp [plainDs, plainD, pD, Pt.d, Pt.val, a], ?_, by simp only [depthDs, pD, Pt.d, Pt.val, depthD]; omega⟩
        have e1 : okS (.str cP) = true := rfl
        simp only [okSs, pD, Pt.d, Pt.val, Pt.wd, okS] at b ⊢
        have hw2 : w.all (· < 0x110000) = true := hw
        rw [b]
        simp only [Bool.and_true]
        rw [hw2]; rfl
theorem lv_ok {os : List (Option Pt)} (h : ∀ o ∈ os, okO o) : eqOk (.lv (osD os)) = true := by
  obtain ⟨a, b, c⟩ := osD_ok h
  unfold eqOk
  have d : depthD (.lv (osD os)) ≤ 64 := by simp only [depthD]; omega
  simp only [plainD, okS, a, b, d, decide_true, Bool.and_self]
theorem non_ok : eqOk .non = true := rfl
theorem eq_non (o : Option Pt) : eqD (pD o) .non = o.isNone := by
  cases o with
  | none => simp [pD, eqD]
  | some p => cases p <;> simp [pD, Pt.d, eqD]
theorem any_non : ∀ os : List (Option Pt), (osD os).any (fun z => eqD z .non) = (fN os).isSome
  | [] => rfl
  | o :: r => by
    have ih := any_non r
    unfold osD at ih ⊢
    rw [List.map_cons, List.any_cons, eq_non, ih]
    cases o with
    | none => rfl
    | some p => simp [fN]
theorem idx_non : ∀ (os : List (Option Pt)) (k : Nat), idxD .non (osD os) k = (fN os).map (· + k)
  | [], _ => rfl
  | o :: r, k => by
    have ih := idx_non r (k + 1)
    unfold osD at ih ⊢
    rw [List.map_cons]
    unfold idxD
    rw [eq_non, ih]
    cases o with
    | none => simp [fN]
    | some p =>
      simp only [Option.isNone_some, Bool.false_eq_true, if_false, fN, Option.map_map]
      congr 1
      funext z
      simp only [Function.comp]; omega
theorem in_non {os : List (Option Pt)} (h : ∀ o ∈ os, okO o) : inD .non (.lv (osD os)) = some (fN os).isSome := by
  show (if eqOk .non && eqOk (.lv (osD os)) then some ((osD os).any fun z => eqD z .non) else none) = _
  rw [lv_ok h, non_ok, any_non]; rfl
theorem ix_non {os : List (Option Pt)} {i : Nat} (h : ∀ o ∈ os, okO o) (hi : fN os = some i) : mtD .index (.lv (osD os)) [.non] = some (.int (i : Nat)) := by
  show (if eqOk .non && eqOk (.lv (osD os)) then (idxD .non (osD os) 0).map fun k => D.int k else none) = _
  rw [lv_ok h, non_ok, idx_non, hi]; rfl
end K65
namespace K65
open PySem DI
def rest16 : Ss := match b16 with
  | .cons _ r => r
  | _ => .nil
/-- the walk over the pairs -/
def PI (H0 : HH) (A : Bool) (x0 x1 x2 x5 : Option D) (xs : List D) (s : Sd) (H : HH) : Prop := H = H0 ∧ ∃ (r : List (Pt × Pt)) (x3 x4 : Option D), xs = r.map pairD ∧ A = !(r.any fun z => bad2 z.1 z.2) ∧ s = [x0, x1, x2, x3, x4, x5]
theorem dueM {l : W} {k : Nat} {H : HH} {Q : D → HH → Prop} (hc : cOk l = true) (hl : l.length ≤ 9000) (q : Q (an l).d H) :
    (evSs (cfP Pg (k + 2)) rest16 [some (.str l), some (.lv (osD (os l))), none, none, none, none] []).wp (kRun fun d _ => noRef d = true ∧ Q d H) := by
  simp only [rest16, b16]
  have hin := in_non (os_ok hc)
  simp [hin]
  cases hN : fN (os l) with
  | some i =>
    have ad : an l = .no (.int (i : Nat)) := by unfold an; rw [hN]
    rw [ad] at q
    have ix := ix_non (os_ok hc) hN
    have e3 : ∀ H, mtE .index (.lv (osD (os l))) [.non] H = .ok (.int (i : Nat)) H := fun H => by
      show Rs.ofO (mtD .index (.lv (osD (os l))) [.non]) H = _
      rw [ix]; rfl
    simp
    refine ⟨rfl, ?_⟩
    simp [e3]
    exact ⟨by decide, by simp [noRef, noRefs], q⟩
  | none =>
    have ad : an l = if adj (ps l) = true then .rd (ps l) else .no .non := by unfold an; rw [hN]
    have hp := ps_len l
    rw [osD_ps hN]
    simp
    refine lc_mapG Pt.d (fun p => .str p.wd) rfl (ps l) [] (fun p he => ⟨_, a_nm 5 p.d, fun P h => ?_⟩) (by show 0 + (ps l).length ≤ 16777216; omega) ?_
    · simp [Pt.d]
      exact h
    · rw [List.nil_append]
      have sl := slW (ps l)
      have zp := zpW (ps l)
      have tu : biD .tuple [.lv (ptsD (ps l))] = some (.tup (ptsD (ps l))) := rfl
      generalize ((ps l).map fun p => D.str p.wd) = W at sl zp ⊢
      generalize ((ps l).tail.map fun p => D.str p.wd) = W1 at sl zp ⊢
      simp [sl, zp]
      refine for_wp (I := PI [] (adj (ps l)) (some (.str l)) (some (.lv (ptsD (ps l)))) (some (.lv W)) none) ?_ ?_ _ _ _ ⟨rfl, (ps l).zip (ps l).tail, _, _, rfl, rfl, rfl⟩
      · rintro x xs s H1 ⟨hH, r, x3, x4, e, hA, rfl⟩
        subst hH
        cases r with
        | nil => cases e
        | cons z r =>
          obtain ⟨rfl, rfl⟩ := List.cons.inj e
          refine ⟨rfl, _, asPr z, ?_⟩
          simp
          have badA : bad2 z.1 z.2 = true → Q (An.no .non).d H := fun hb => by
            have : adj (ps l) = false := by rw [hA]; simp [hb]
            rw [if_neg (by rw [this]; simp)] at ad
            rw [ad] at q
            exact q
          by_cases e : z.1.wd = z.2.wd
          · rw [if_pos e]
            exact ⟨by decide, rfl, badA (by simp [bad2, e])⟩
          · rw [if_neg e]
            refine ⟨by decide, ?_⟩
            simp [eqPair]
            cases hb : (z.1.isR && z.2.isP) with
            | true =>
              have h1 : bad2 z.1 z.2 = true := by simp only [bad2, hb, Bool.or_true]
              rw [Bool.and_eq_true] at hb
              simp [hb]
              exact ⟨by decide, rfl, badA h1⟩
            | false =>
              have h1 : bad2 z.1 z.2 = false := by simp [bad2, e, hb]
              rw [if_neg (by rw [← Bool.and_eq_true, hb]; simp)]
              refine ⟨rfl, r, _, _, rfl, ?_, rfl⟩
              rw [hA]; simp [h1]
      · rintro s H1 ⟨hH, r, x3, x4, e, hA, rfl⟩
        subst hH
        cases r with
        | cons o r => cases e
        | nil =>
          refine ⟨rfl, ?_⟩
          have hA : adj (ps l) = true := hA
          rw [if_pos hA] at ad
          rw [ad] at q
          simp [tu]
          exact ⟨by decide, by simp [noRef, noRefs, pts_nr], q⟩
theorem dueP {l : W} {k : Nat} {H : HH} {Q : D → HH → Prop} (hc : cOk l = true) (hl : l.length ≤ 9000) (q : Q (an l).d H) : (pcallE (cfP Pg (k + 3)) 16 [0] [.str l] [] H).wp Q := by
  refine pureC (P := Pg) (fd := f16) rfl (l := [.str l]) rfl rfl ?_
  refine run_k rfl ?_
  simp [f16, b16, startD, N16]
  have main := dueM (k := k) (Q := Q) hc hl q
  simp only [rest16, b16] at main
  by_cases h0 : l = []
  · subst h0
    simpa [os_nil, osD] using main
  · have e3 : ∀ H, mtE .split (.str l) [.str [32]] H = .ok (.lv ((sp l).map D.str)) H := fun H => by
      show Rs.ofO (mtD .split (.str l) [.str [32]]) H = _
      rw [mt_split (by omega)]; rfl
    simp [h0]
    refine ⟨rfl, ?_⟩
    simp [e3]
    refine listP (f := id) (k := k + 2) hl h0 (fun w hw hm => ⟨_, a_nm 3 _, fun R hR => ?_⟩) ?_
    · simp
      refine lpartP ?_ hw hR
      unfold cOk at hc ⊢
      exact List.all_eq_true.mpr fun c h => List.all_eq_true.mp hc c (hm c h)
    · simpa using main
end K65
namespace K65
open PySem DI
def mk1 (c : Nat) : W := if c = 32 then [126, 98] else if c = 10 then [126, 110] else if c = 126 then [126, 126] else [c]
def mkd (w : W) : W := w.flatMap mk1
def pl : Pt → W
  | .kp n => 61 :: numT (n : Nat)
  | .dr n => 45 :: numT (n : Nat)
  | .pu w => 43 :: mkd w
/-- the parts that the law draws -/
def own : Pt → Prop
  | .kp n => 1 ≤ n ∧ n ≤ 40
  | .dr n => 1 ≤ n ∧ n ≤ 9
  | .pu w => w ≠ [] ∧ w.length ≤ 6 ∧ cOk w = true
theorem num_ok : ∀ n < 41, 1 ≤ n → numOk (numT (n : Nat)) = true ∧ figD (numT (n : Nat)) = n ∧ (numT (n : Nat)).length ≤ 2 ∧ (∀ c ∈ numT (n : Nat), c ≠ 32 ∧ c < 0x110000) := by decide +kernel
theorem mk_len (w : W) : (mkd w).length ≤ 2 * w.length := by
  induction w with
  | nil => simp [mkd]
  | cons c r ih =>
    have : (mk1 c).length ≤ 2 := by unfold mk1; split; simp; split; simp; split <;> simp
    unfold mkd at ih ⊢
    rw [List.flatMap_cons, List.length_append, List.length_cons]
    omega
theorem mk_mem {w : W} {c : Nat} (h : c ∈ mkd w) : c ≠ 32 ∧ (c ∈ w ∨ c = 126 ∨ c = 98 ∨ c = 110) := by
  unfold mkd at h
  obtain ⟨x, hx, hc⟩ := List.mem_flatMap.mp h
  unfold mk1 at hc
  split at hc
  · simp at hc; omega
  · split at hc
    · simp at hc; omega
    · split at hc
      · simp at hc; omega
      · simp at hc; subst hc; exact ⟨by assumption, .inl hx⟩
theorem V_mk : ∀ w : W, V false (mkd w) = some w
  | [] => rfl
  | c :: r => by
    have ih := V_mk r
    unfold mkd at ih ⊢
    rw [List.flatMap_cons]
    unfold mk1
    by_cases h1 : c = 32
    · subst h1; simp [V, rd]; exact ih
    · by_cases h2 : c = 10
      · subst h2; simp [V, rd]; exact ih
      · by_cases h3 : c = 126
        · subst h3; simp [V, rd]; exact ih
        · simp [V, h1, h2, h3]; exact ih
theorem RP_pl {p : Pt} (h : own p) : RP (pl p) = some p := by
  cases p with
  | kp n =>
    obtain ⟨a, b, _⟩ := num_ok n (by have := h.2; omega) h.1
    simp [RP, pl, a, b]
  | dr n =>
    obtain ⟨a, b, _⟩ := num_ok n (by have := h.2; omega) h.1
    simp [RP, pl, a, b]
  | pu w =>
    show RP (43 :: mkd w) = _
    rw [RP43, V_mk]
    show (if w = [] then none else some (Pt.pu w)) = _
    rw [if_neg h.1]
theorem pl_ne {p : Pt} (h : own p) : 32 ∉ pl p := by
  intro hm
  cases p with
  | kp n =>
    rcases List.mem_cons.mp hm with hm | hm
    · cases hm
    · exact ((num_ok n (by have := h.2; omega) h.1).2.2.2 32 hm).1 rfl
  | dr n =>
    rcases List.mem_cons.mp hm with hm | hm
    · cases hm
    · exact ((num_ok n (by have := h.2; omega) h.1).2.2.2 32 hm).1 rfl
  | pu w =>
    rcases List.mem_cons.mp hm with hm | hm
    · cases hm
    · exact (mk_mem hm).1 rfl
theorem pl_ok {p : Pt} (h : own p) : cOk (pl p) = true ∧ (pl p).length ≤ 13 := by
  cases p with
  | kp n =>
    obtain ⟨_, _, c, d⟩ := num_ok n (by have := h.2; omega) h.1
    refine ⟨List.all_eq_true.mpr fun x hx => ?_, by simp [pl]; omega⟩
    rcases List.mem_cons.mp hx with rfl | hx
    · decide
    · simpa using (d x hx).2
  | dr n =>
    obtain ⟨_, _, c, d⟩ := num_ok n (by have := h.2; omega) h.1
    refine ⟨List.all_eq_true.mpr fun x hx => ?_, by simp [pl]; omega⟩
    rcases List.mem_cons.mp hx with rfl | hx
    · decide
    · simpa using (d x hx).2
  | pu w =>
    have := mk_len w
    have hw := h.2.1
    refine ⟨List.all_eq_true.mpr fun x hx => ?_, by simp [pl]; omega⟩
    rcases List.mem_cons.mp hx with rfl | hx
    · decide
    · rcases (mk_mem hx).2 with h1 | rfl | rfl | rfl
      · have h2 := h.2.2
        unfold cOk at h2
        exact List.all_eq_true.mp h2 x h1
      · decide
      · decide
      · decide
def line (l : List Pt) : W := joinL [32] (l.map pl)
theorem line_ne {p : Pt} {l : List Pt} : line (p :: l) ≠ [] := by
  unfold line
  cases l with
  | nil => cases p <;> simp [joinL, pl]
  | cons q r => cases p <;> simp [joinL, pl]
theorem sp_line {l : List Pt} (h0 : l ≠ []) (h : ∀ p ∈ l, own p) : sp (line l) = l.map pl := by
  refine join_inj 32 _ _ (sp_ne _) (by simpa using h0) (fun w hw hm => ((sp_mem _ w hw).1 32 hm).2 rfl) (fun w hw => ?_) (sp_join _)
  obtain ⟨p, hp, rfl⟩ := List.mem_map.mp hw
  exact pl_ne (h p hp)
theorem fN_some : ∀ l : List Pt, fN (l.map some) = none
  | [] => rfl
  | p :: l => by simp [fN, fN_some l]
theorem os_line {l : List Pt} (h : ∀ p ∈ l, own p) : os (line l) = l.map some := by
  cases l with
  | nil => rfl
  | cons p r =>
    rw [os_cons line_ne, sp_line (by simp) h, List.map_map]
    exact List.map_congr_left fun q hq => RP_pl (h q hq)
theorem an_line {l : List Pt} (h : ∀ p ∈ l, own p) (ha : adj l = true) : an (line l) = .rd l := by
  have e : ps (line l) = l := by unfold ps; rw [os_line h]; simp [List.filterMap_map, Function.comp_def]
  unfold an
  rw [os_line h, fN_some, e]
  simp [ha]
theorem line_ok : ∀ {l : List Pt}, (∀ p ∈ l, own p) → cOk (line l) = true ∧ (line l).length ≤ 14 * l.length
  | [], _ => ⟨rfl, by simp [line, joinL]⟩
  | [p], h => by
    obtain ⟨a, b⟩ := pl_ok (h p List.mem_cons_self)
    exact ⟨a, by simp only [line, List.map_cons, List.map_nil, joinL, List.length_cons, List.length_nil]; omega⟩
  | p :: q :: r, h => by
    obtain ⟨a, b⟩ := pl_ok (h p List.mem_cons_self)
    obtain ⟨c, d⟩ := line_ok (l := q :: r) fun x hx => h x (List.mem_cons_of_mem _ hx)
    have e : line (p :: q :: r) = pl p ++ ([32] ++ line (q :: r)) := rfl
    rw [e]
    refine ⟨?_, by simp at d ⊢; omega⟩
    unfold cOk at a c ⊢
    rw [List.all_append, List.all_append, a, c]; rfl
end K65
namespace K65
open PySem DI
theorem con3 : gdat Pg.consts[3]? = ([.str [32], .str [10], .str [126]], [.str [126, 98], .str [126, 110], .str [126, 126]]) := rfl
theorem gg3 (c : Nat) : gget2D [.str [32], .str [10], .str [126]] [.str [126, 98], .str [126, 110], .str [126, 126]] (.str [c]) (.str [c]) = some (.str (mk1 c)) := by
  unfold mk1
  by_cases h1 : c = 32
  · subst h1; rfl
  · by_cases h2 : c = 10
    · subst h2; rfl
    · by_cases h3 : c = 126
      · subst h3; rfl
      · simp [gget2D, dgetL, eqK, h1, h2, h3, Ne.symm h1, Ne.symm h2, Ne.symm h3]
theorem strs_of : ∀ l : List (List Nat), strsOf (l.map D.str) = some l
  | [] => rfl
  | w :: l => by simp only [List.map_cons, strsOf, strs_of l]; rfl
theorem joinE : ∀ l : List (List Nat), joinL [] l = l.flatten
  | [] => rfl
  | [x] => by simp [joinL]
  | x :: y :: r => by simp [joinL, joinE (y :: r)]
theorem join_nil {l : List (List Nat)} (h : (l.map List.length).sum ≤ 16777216) : mtD .join (.str []) [.lv (l.map D.str)] = some (.str l.flatten) := by
  show (match strsOf (l.map D.str) with | some (zs : List W) => if (zs.map List.length).sum + zs.length * ([] : W).length ≤ lim then some (D.str (joinL [] zs)) else none | none => none) = _
  rw [strs_of]
  show (if (l.map List.length).sum + l.length * 0 ≤ 16777216 then some (D.str (joinL [] l)) else none) = _
  rw [if_pos (by omega), joinE]
theorem join_sp {l : List (List Nat)} (h : (l.map List.length).sum + l.length ≤ 16777216) : mtD .join (.str [32]) [.lv (l.map D.str)] = some (.str (joinL [32] l)) := by
  show (match strsOf (l.map D.str) with | some (zs : List W) => if (zs.map List.length).sum + zs.length * ([32] : W).length ≤ lim then some (D.str (joinL [32] zs)) else none | none => none) = _
  rw [strs_of]
  show (if (l.map List.length).sum + l.length * 1 ≤ 16777216 then some (D.str (joinL [32] l)) else none) = _
  rw [if_pos (by omega)]
theorem sum_le {n : Nat} : ∀ {l : List (List Nat)}, (∀ w ∈ l, w.length ≤ n) → (l.map List.length).sum ≤ l.length * n
  | [], _ => by simp
  | w :: l, h => by
    have h1 := h w List.mem_cons_self
    have h2 := sum_le (l := l) fun x hx => h x (List.mem_cons_of_mem _ hx)
    simp [Nat.add_mul]; omega
theorem markedP {w : W} {k : Nat} {H : HH} {Q : D → HH → Prop} (hl : w.length ≤ 100) (q : Q (.str (mkd w)) H) : (pcallE (cfP Pg (k + 1)) 3 [0] [.str w] [] H).wp Q := by
  refine pureC (P := Pg) (fd := f3) rfl (l := [.str w]) rfl rfl ?_
  refine run_k rfl ?_
  simp [f3, b3, startD, N3]
  refine ⟨rfl, ?_⟩
  rw [show itemsD [] (.str w) = some (w.map ch1, []) from rfl]
  simp
  refine lc_mapG ch1 (fun c => .str (mk1 c)) rfl w [] (fun c hc => ⟨_, a_nm 1 _, fun P hP => ?_⟩) (by show 0 + w.length ≤ 16777216; omega) ?_
  · simp [ch1, con3, gg3]
    exact hP
  · rw [List.nil_append]
    have e : w.map (fun c => D.str (mk1 c)) = (w.map mk1).map D.str := by rw [List.map_map]; rfl
    have hs : ((w.map mk1).map List.length).sum ≤ (w.map mk1).length * 2 := sum_le fun x hx => by
      obtain ⟨c, _, rfl⟩ := List.mem_map.mp hx
      unfold mk1; split; simp; split; simp; split <;> simp
    rw [List.length_map] at hs
    have j := join_nil (l := w.map mk1) (by omega)
    rw [← e] at j
    have e3 : ∀ H, mtE .join (.str []) [.lv (w.map fun c => D.str (mk1 c))] H = .ok (.str (mkd w)) H := fun H => by
      show Rs.ofO (mtD .join (.str []) [.lv (w.map fun c => D.str (mk1 c))]) H = _
      rw [j]; rfl
    simp [e3]
    exact ⟨rfl, q⟩
theorem strI {n : Nat} (h : n ≤ 100) : biD .str [.int (n : Nat)] = some (.str (numT (n : Nat))) := by
  show (if ((n : Int)).natAbs.log2 < 1920 then some (D.str (numT (n : Nat))) else none) = _
  rw [if_pos ?_]
  show n.log2 < 1920
  by_cases h0 : n = 0
  · subst h0; decide
  · rw [Nat.log2_lt h0]
    exact Nat.lt_of_le_of_lt h (Nat.lt_of_lt_of_le (by decide : 100 < 2 ^ 7) (Nat.pow_le_pow_right (by decide) (by decide)))
theorem vown (p : Pt) (H : HH) : viewD H p.d = p.d := rfl
theorem showP {p : Pt} {k : Nat} {H : HH} {Q : D → HH → Prop} (h : own p) (q : Q (.str (pl p)) H) : (pcallE (cfP Pg (k + 2)) 5 [0] [p.d] [] H).wp Q := by
  refine pureC (P := Pg) (fd := f5) rfl (l := [p.d]) rfl (by simp [noRefs, pt_nr]) ?_
  refine run_k rfl ?_
  have hp := pl_ok h
  cases p with
  | kp n =>
    have st := strI (n := n) (by have := h.2; omega)
    obtain ⟨_, _, c, d⟩ := num_ok n (by have := h.2; omega) h.1
    simp [f5, b5, startD, N5, Pt.d, Pt.wd, Pt.val, cK, st]
    refine ow_if (by show _ ≤ 16777216; omega) ?_
    simp
    exact ⟨rfl, q⟩
  | dr n =>
    have st := strI (n := n) (by have := h.2; omega)
    obtain ⟨_, _, c, d⟩ := num_ok n (by have := h.2; omega) h.1
    simp [f5, b5, startD, N5, Pt.d, Pt.wd, Pt.val, cD, st]
    refine ow_if (by show _ ≤ 16777216; omega) ?_
    simp
    exact ⟨rfl, q⟩
  | pu w =>
    have hw := h.2.1
    have := mk_len w
    simp [f5, b5, startD, N5, Pt.d, Pt.wd, Pt.val, cP]
    refine markedP (by omega) ?_
    simp
    refine ow_if (by show _ ≤ 16777216; omega) ?_
    simp
    exact ⟨rfl, q⟩
theorem markS_len (c : Nat) (z : W) (hz : z.length ≤ 2) : ∀ l : W, (markS c z l).length ≤ 2 * l.length
  | [] => by simp [markS]
  | d :: r => by
    have ih := markS_len c z hz r
    unfold markS at ih ⊢
    rw [List.flatMap_cons, List.length_append, List.length_cons]
    split
    · omega
    · simp only [List.length_cons, List.length_nil]; omega
theorem mrk_eq (w : W) : markL [(126, [126, 126]), (32, [126, 98]), (10, [126, 110])] w = mkd w := by
  induction w with
  | nil => rfl
  | cons c r ih =>
    unfold mkd at ih ⊢
    rw [List.flatMap_cons, ← ih]
    unfold mk1
    simp only [markL, markS]
    by_cases h1 : c = 32
    · subst h1; simp
    · by_cases h2 : c = 10
      · subst h2; simp
      · by_cases h3 : c = 126
        · subst h3; simp
        · simp [h1, h2, h3]
theorem litK : litD [.str [107, 101, 101, 112], .str [61], .str [100, 114, 111, 112], .str [45]] = some ([.str [107, 101, 101, 112], .str [100, 114, 111, 112]], [.str [61], .str [45]]) := rfl
theorem dgK : dgetL [.str [107, 101, 101, 112], .str [100, 114, 111, 112]] [.str [61], .str [45]] (.str [107, 101, 101, 112]) = some (.str [61]) := rfl
theorem dgD : dgetL [.str [107, 101, 101, 112], .str [100, 114, 111, 112]] [.str [61], .str [45]] (.str [100, 114, 111, 112]) = some (.str [45]) := rfl
theorem lineP {p : Pt} {k : Nat} {H : HH} {Q : D → HH → Prop} (h : own p) (q : Q (.str (pl p)) H) : (pcallE (cfP Pg (k + 1)) 12 [0] [p.d] [] H).wp Q := by
  refine pureC (P := Pg) (fd := f12) rfl (l := [p.d]) rfl (by simp [noRefs, pt_nr]) ?_
  refine run_k rfl ?_
  cases p with
  | kp n =>
    have st := strI (n := n) (by have := h.2; omega)
    obtain ⟨_, _, c, d⟩ := num_ok n (by have := h.2; omega) h.1
    simp [f12, b12, startD, N12, Pt.d, Pt.wd, Pt.val, cK, litK]
    simp [viewD, dgK, st]
    refine ow_if (by show _ ≤ 16777216; omega) ?_
    simp
    exact ⟨rfl, q⟩
  | dr n =>
    have st := strI (n := n) (by have := h.2; omega)
    obtain ⟨_, _, c, d⟩ := num_ok n (by have := h.2; omega) h.1
    simp [f12, b12, startD, N12, Pt.d, Pt.wd, Pt.val, cD, litK]
    simp [viewD, dgD, st]
    refine ow_if (by show _ ≤ 16777216; omega) ?_
    simp
    exact ⟨rfl, q⟩
  | pu w =>
    have hw := h.2.1
    have hk := mk_len w
    have mr : mrkD [43] [(126, [126, 126]), (32, [126, 98]), (10, [126, 110])] (.str w) = some (.str (43 :: mkd w)) := by
      show (if fitsM _ w = true ∧ ([43] : W).length + (markL _ w).length ≤ lim then some (D.str ([43] ++ markL _ w)) else none) = _
      rw [mrk_eq]
      have hf : fitsM [(126, [126, 126]), (32, [126, 98]), (10, [126, 110])] w = true := by
        have h1 := markS_len 126 [126, 126] (by decide) w
        have h2 := markS_len 32 [126, 98] (by decide) (markS 126 [126, 126] w)
        simp only [fitsM, Bool.and_eq_true, decide_eq_true_eq, and_true, List.length_cons, List.length_nil]
        omega
      rw [if_pos ⟨hf, by show 1 + (mkd w).length ≤ 16777216; omega⟩]
      rfl
    simp [f12, b12, startD, N12, Pt.d, Pt.wd, Pt.val, cP, mr]
    exact ⟨rfl, q⟩
theorem join_own {l : List Pt} (h : ∀ p ∈ l, own p) (hl : l.length ≤ 20) : mtD .join (.str [32]) [.lv (l.map fun p => D.str (pl p))] = some (.str (line l)) := by
  have hs : ((l.map pl).map List.length).sum ≤ (l.map pl).length * 13 := sum_le fun x hx => by
    obtain ⟨p, hp, rfl⟩ := List.mem_map.mp hx
    exact (pl_ok (h p hp)).2
  rw [List.length_map] at hs
  have j := join_sp (l := l.map pl) (by rw [List.length_map]; omega)
  rw [List.map_map] at j
  exact j
theorem showC {l : List Pt} {k : Nat} {H : HH} {Q : D → HH → Prop} (h : ∀ p ∈ l, own p) (hl : l.length ≤ 20) (q : Q (.str (line l)) H) : (pcallE (cfP Pg (k + 3)) 6 [0] [.tup (ptsD l)] [] H).wp Q := by
  refine pureC (P := Pg) (fd := f6) rfl (l := [.tup (ptsD l)]) rfl (by simp only [noRefs, noRef, pts_nr]; rfl) ?_
  refine run_k rfl ?_
  simp [f6, b6, startD, N6]
  refine ⟨rfl, ?_⟩
  refine lc_mapG Pt.d (fun p => .str (pl p)) rfl l [] (fun p hp => ⟨_, a_nm 1 _, fun P hP => ?_⟩) (by show 0 + l.length ≤ 16777216; omega) ?_
  · simp
    exact showP (h p hp) hP
  · rw [List.nil_append]
    have j := join_own h hl
    have e3 : ∀ H, mtE .join (.str [32]) [.lv (l.map fun p => D.str (pl p))] H = .ok (.str (line l)) H := fun H => by
      show Rs.ofO (mtD .join (.str [32]) [.lv (l.map fun p => D.str (pl p))]) H = _
      rw [j]; rfl
    simp [e3]
    exact ⟨rfl, q⟩
end K65
namespace K65
open PySem DI
theorem takeK {k r : Nat} {H : HH} {m : Int} {Q : D → HH → Prop} (h : Pool r H) (hm : 0 < m) (hm2 : m < 1073741824) (q : ∀ t H', 0 ≤ t → t < m → Go r H H' → Q (.int t) H') : (callD (cfP Pg (k + 1)) 10 [0, 1] [.ref r, .int m] [] H).wp Q :=
  takeP (P := Pg) rfl h hm hm2 q
theorem oneK {k r : Nat} {H : HH} {xs : List D} {Q : D → HH → Prop} (h : Pool r H) (hx : xs ≠ []) (hl : xs.length < 1073741824) (q : ∀ x H', x ∈ xs → Go r H H' → Q x H') : (callD (cfP Pg (k + 2)) 11 [0, 1] [.ref r, .lv xs] [] H).wp Q :=
  oneP (P := Pg) (t := 10) rfl rfl h hx hl q
theorem cut_f {A : Type} (xs : List A) (j : Nat) : cutD xs (some (j : Nat)) none = xs.drop j := by
  by_cases h : j ≤ xs.length
  · exact cut_from xs rfl h
  · have h1 : HT.sIx xs.length 0 (some (j : Int)) = xs.length := by rw [HT.sIx_nat]; omega
    have h2 : HT.sIx xs.length xs.length none = xs.length := rfl
    unfold cutD
    rw [h1, h2]
    simp
    omega
theorem cut_t {A : Type} (xs : List A) (j : Nat) (h : j ≤ xs.length) : cutD xs none (some (j : Nat)) = xs.take j := by
  rw [cut_to _ (by omega), Int.toNat_natCast]
def LO (l : W) : Prop := cOk l = true
theorem lo_sub {l m : W} (h : cOk l = true) (hs : ∀ c ∈ m, c ∈ l) : cOk m = true := by
  unfold cOk at h ⊢
  exact List.all_eq_true.mpr fun c hc => List.all_eq_true.mp h c (hs c hc)
theorem lo_app {l m : W} (h : cOk l = true) (h2 : cOk m = true) : cOk (l ++ m) = true := by
  unfold cOk at h h2 ⊢
  rw [List.all_append, h, h2]; rfl
def signs : List W := [[43], [61], [45], [126], [32], [98], [110], [48], [49], [57], [97], [46], [10], [32, 32]]
theorem signs_ok : ∀ w ∈ signs, cOk w = true ∧ w.length ≤ 2 := by decide
theorem listS : biD .list [.str [43, 61, 45, 126, 32, 98, 110, 48, 49, 57, 97, 46]] = some (.lv ([[43], [61], [45], [126], [32], [98], [110], [48], [49], [57], [97], [46]].map D.str)) := rfl
def rest18 : Ss := match b18 with
  | .cons _ (.cons _ (.cons _ (.cons _ (.cons _ r)))) => r
  | _ => .nil
theorem biF : biD .int [.bl false] = some (.int 0) := rfl
theorem md0 : binD .Mod (.int 0) (.int 3) = some (.int 0) := rfl
theorem md1 : binD .Mod (.int 1) (.int 3) = some (.int 1) := rfl
theorem md2 : binD .Mod (.int 2) (.int 3) = some (.int 2) := rfl
theorem md3 : binD .Mod (.int 3) (.int 3) = some (.int 0) := rfl
theorem i0 (a b c : D) : L2.atI [a, b, c] 0 = some a := rfl
theorem i1 (a b c : D) : L2.atI [a, b, c] 1 = some b := rfl
theorem i2 (a b c : D) : L2.atI [a, b, c] 2 = some c := rfl
theorem bentP {r k : Nat} {l : W} {H : HH} {Q : D → HH → Prop} (hc : cOk l = true) (hl : l.length ≤ 8000) (hp : Pool r H) (q : ∀ (m : W) H', cOk m = true → m.length ≤ max 800 (l.length + 2) → Go r H H' → Q (.str m) H') :
    (callD (cfP Pg (k + 3)) 18 [0, 1] [.ref r, .str l] [] H).wp Q := by
  refine callC (P := Pg) (fd := f18) rfl (l := [.ref r, .str l]) rfl ?_
  refine run_k rfl ?_
  have ln := len_str (x := l) (show l.length ≤ 16777216 by omega)
  simp [f18, b18, startD, N18, ln]
  refine takeK (m := (l.length : Int) + 1) hp (by omega) (by omega) fun x H1 t1 t2 g1 => ?_
  obtain ⟨n, rfl⟩ := Int.eq_ofNat_of_zero_le t1
  have hn : n ≤ l.length := by omega
  simp [listS]
  refine ⟨by decide, ?_⟩
  refine ow_if (by decide) ?_
  simp
  refine oneK g1.pool (by simp) (by simp) fun y H2 hy g2 => ?_
  have : ∃ a, y = .str a ∧ a ∈ signs := by
    simp only [List.mem_cons, List.not_mem_nil, or_false] at hy
    rcases hy with rfl | rfl | rfl | rfl | rfl | rfl | rfl | rfl | rfl | rfl | rfl | rfl | rfl | rfl <;> exact ⟨_, rfl, by decide⟩
  obtain ⟨a, rfl, ha⟩ := this
  obtain ⟨ha1, ha2⟩ := signs_ok a ha
  simp
  refine takeK (m := 4) g2.pool (by decide) (by decide) fun z H3 z1 z2 g3 => ?_
  have g := (g1.trans g2).trans g3
  have st := slS (x := l) none (some ((n : Nat) : Int)) (by omega)
  rw [cut_t l n hn] at st
  have sd0 := slS (x := l) (some ((n : Nat) : Int)) none (by omega)
  rw [cut_f l n] at sd0
  have sd1 := slS (x := l) (some (((n + 1 : Nat)) : Int)) none (by omega)
  rw [cut_f l (n + 1)] at sd1
  have e1 : ((n + 1 : Nat) : Int) = (n : Int) + 1 := by omega
  rw [e1] at sd1
  have tl := List.length_take_le n l
  have tl2 : (l.take n).length = n := by rw [List.length_take]; omega
  have dl := List.length_drop (i := n) (l := l)
  have dl1 := List.length_drop (i := n + 1) (l := l)
  have ct : cOk (l.take n) = true := lo_sub hc fun c h => List.mem_of_mem_take h
  have cd : cOk (l.drop n) = true := lo_sub hc fun c h => List.mem_of_mem_drop h
  have cd1 : cOk (l.drop (n + 1)) = true := lo_sub hc fun c h => List.mem_of_mem_drop h
  generalize l.take n = T at *
  generalize l.drop n = D0 at *
  generalize l.drop (n + 1) = D1 at *
  have fin : ∀ w : Int, w = 0 ∨ w = 1 ∨ w = 2 → (evSs (cfP Pg (k + 2)) rest18 [some (.ref r), some (.str l), some (.int (n : Nat)), some (.str a), some (.int w)] H3).wp (kRun Q) := by
    intro w hw
    simp only [rest18, b18]
    rcases hw with rfl | rfl | rfl
    · simp [st, i0]
      refine ⟨by decide, ow_if (by show _ ≤ 16777216; omega) ?_⟩
      simp [biF, sd0]
      refine ow_if (by show _ ≤ 16777216; omega) ?_
      simp
      refine q _ _ (lo_app ct (lo_app ha1 cd)) ?_ g
      simp only [List.length_append]; omega
    · simp [st, i1]
      refine ⟨by decide, ow_if (by show _ ≤ 16777216; omega) ?_⟩
      simp [biT, sd1]
      refine ow_if (by show _ ≤ 16777216; omega) ?_
      simp
      refine q _ _ (lo_app ct cd1) ?_ g
      simp only [List.length_append]; omega
    · simp [st, i2]
      refine ⟨by decide, ow_if (by show _ ≤ 16777216; omega) ?_⟩
      simp [biT, sd1]
      refine ow_if (by show _ ≤ 16777216; omega) ?_
      simp
      refine q _ _ (lo_app ct (lo_app ha1 cd1)) ?_ g
      simp only [List.length_append]; omega
  simp only [rest18, b18] at fin
  have hz : z = 0 ∨ z = 1 ∨ z = 2 ∨ z = 3 := by omega
  rcases hz with rfl | rfl | rfl | rfl
  · simp [md0]
    simpa using fin 0 (by simp)
  · simp [md1]
    simpa using fin 1 (by simp)
  · simp [md2]
    simpa using fin 2 (by simp)
  · simp [ln]
    by_cases h4 : (l.length : Int) < 400
    · rw [if_pos h4]
      refine ow_if (by show _ ≤ 16777216; omega) ?_
      simp
      refine ow_if (by show _ ≤ 16777216; omega) ?_
      simp
      have h32 : cOk (32 :: l) = true := lo_app (l := [32]) (by decide) hc
      refine q _ _ (lo_app hc h32) ?_ g
      simp only [List.length_append, List.length_cons]; omega
    · rw [if_neg h4]
      simp [md3]
      simpa using fin 0 (by simp)
end K65
namespace K65
open PySem DI
def lk (l : List Pt) : W := match l.getLast? with
  | none => [110, 111, 110, 101]
  | some z => z.wd
theorem adj_snoc : ∀ (l : List Pt) (p : Pt), adj (l ++ [p]) = (adj l && match l.getLast? with | none => true | some z => !bad2 z p)
  | [], p => by simp [adj]
  | [x], p => by simp [adj]
  | x :: y :: r, p => by
    have ih := adj_snoc (y :: r) p
    have e1 : adj (x :: y :: r ++ [p]) = (!bad2 x y && adj (y :: r ++ [p])) := by simp [adj]
    have e2 : adj (x :: y :: r) = (!bad2 x y && adj (y :: r)) := by simp [adj]
    rw [e1, ih, e2, Bool.and_assoc]
    simp
def AL : List W := [[32], [10], [126], [98], [110], [43], [61], [45], [48], [97], [46]]
theorem listA : biD .list [.str [32, 10, 126, 98, 110, 43, 61, 45, 48, 97, 46]] = some (.lv (AL.map D.str)) := rfl
/-- the words under way -/
theorem al1 : ∀ z ∈ AL.map D.str, ∃ c, z = ch1 c ∧ c < 0x110000 := by
  intro z hz
  obtain ⟨a, ha, rfl⟩ := List.mem_map.mp hz
  simp only [AL, List.mem_cons, List.not_mem_nil, or_false] at ha
  rcases ha with rfl | rfl | rfl | rfl | rfl | rfl | rfl | rfl | rfl | rfl | rfl <;> exact ⟨_, rfl, by decide⟩
theorem flat1 : ∀ w : W, (w.map fun c => [c]).flatten = w
  | [] => rfl
  | c :: r => by simp [flat1 r]
theorem join_ch {w : W} (h : w.length ≤ 100) : mtD .join (.str []) [.lv (w.map ch1)] = some (.str w) := by
  have hs : ((w.map fun c => [c]).map List.length).sum ≤ (w.map fun c => [c]).length * 1 := sum_le fun x hx => by
    obtain ⟨c, _, rfl⟩ := List.mem_map.mp hx
    simp
  rw [List.length_map] at hs
  have j := join_nil (l := w.map fun c => [c]) (by omega)
  rw [List.map_map, flat1] at j
  exact j
def WW (r q0 : Nat) (F : HD) (xs acc : List D) (H : HH) : Prop := Pool r H ∧ H[q0]? = some F ∧ ∃ w : W, acc = w.map ch1 ∧ w.length + xs.length ≤ 6 ∧ (1 ≤ w.length + xs.length) ∧ cOk w = true
def FI2 (r q0 : Nat) (xs : List D) (s : Sd) (H : HH) : Prop := Pool r H ∧ ∃ (l : List Pt) (x2 x3 x4 x5 x6 : Option D), H[q0]? = some (.lst (ptsD l)) ∧ (∀ p ∈ l, own p) ∧ adj l = true ∧ l.length + xs.length ≤ 12 ∧ s = [some (.ref r), some (.ref q0), x2, x3, x4, x5, x6]
theorem last_k (l : List Pt) : ∃ v, L2.atI (D.tup [D.str [110, 111, 110, 101], D.int 0] :: ptsD l) (-1) = some (.tup [.str (lk l), v]) := by
  unfold lk
  cases h : l.getLast? with
  | none =>
    have : l = [] := by simpa using h
    subst this
    exact ⟨.int 0, at_last [] _⟩
  | some z =>
    obtain ⟨r, rfl⟩ : ∃ r, l = r ++ [z] := List.getLast?_eq_some_iff.mp h
    refine ⟨z.val, ?_⟩
    have := at_last (D.tup [D.str [110, 111, 110, 101], D.int 0] :: ptsD r) z.d
    unfold ptsD at this ⊢
    rw [List.map_append]
    exact this
theorem nePair (l : List Pt) (p : Pt) : cmpD .NotEq (.tup [.str (lk l), .str p.wd]) (.tup [.str [100, 114, 111, 112], .str [112, 117, 116]]) = some (!(decide (lk l = cD) && decide (p.wd = cP))) := by
  unfold lk
  cases l.getLast? with
  | none => cases p <;> rfl
  | some z => cases z <;> cases p <;> rfl
theorem wd_ne (l : List Pt) (p : Pt) : (match l.getLast? with | none => true | some z => !bad2 z p) = (!decide (lk l = p.wd) && !(decide (lk l = cD) && decide (p.wd = cP))) := by
  unfold lk
  cases l.getLast? with
  | none => cases p <;> rfl
  | some z => cases z <;> cases p <;> rfl
theorem drawnP {r k : Nat} {H : HH} {Q : D → HH → Prop} (hp : Pool r H) (q : ∀ (l : List Pt) H', (∀ p ∈ l, own p) → adj l = true → l.length ≤ 12 → Pool r H' → Q (.tup (ptsD l)) H') : (callD (cfP Pg (k + 4)) 13 [0] [.ref r] [] H).wp Q := by
  refine callC (P := Pg) (fd := f13) rfl (l := [.ref r]) rfl ?_
  refine run_k rfl ?_
  simp [f13, b13, startD, N13]
  have hlt := hp.lt
  have hp1 : Pool r (H ++ [.lst []]) := (Go.add hp [.lst []]).pool
  have hq1 : (H ++ [.lst []])[H.length]? = some (.lst (ptsD [])) := by simp [ptsD]
  generalize hq0 : H.length = q0 at *
  have hne : q0 ≠ r := by omega
  generalize H ++ [.lst []] = H1 at hp1 hq1 ⊢
  have keep : ∀ {H1 H2 : HH} {F : HD}, Go r H1 H2 → H1[q0]? = some F → H2[q0]? = some F := fun g h => by
    rw [g.keep q0 (List.getElem?_eq_some_iff.mp h).1 hne]; exact h
  refine takeK (m := 13) hp1 (by decide) (by decide) fun t H2 t0 t1 g => ?_
  simp
  rw [range1 (by omega) (by omega)]
  simp
  refine for_wp (I := FI2 r q0) ?_ ?_ _ _ _ ⟨g.pool, [], _, _, _, _, _, keep g hq1, by simp, rfl, by simp; omega, rfl⟩
  · rintro x xs s H3 ⟨hp, l, x2, x3, x4, x5, x6, hq, ho, ha, hl, rfl⟩
    simp only [List.length_cons] at hl
    refine ⟨rfl, _, a_nm 2 x, ?_⟩
    simp
    refine ⟨rfl, ?_⟩
    refine takeK (m := 6) hp (by decide) (by decide) fun n H4 n0 n1 g1 => ?_
    simp
    rw [range1 (by omega) (by omega)]
    simp
    refine lc_wp (I := WW r q0 (.lst (ptsD l))) ?_ ?_ _ _ _ ⟨g1.pool, keep g1 hq, [], rfl, by simp; omega, by simp; omega, rfl⟩
    · rintro y ys acc H5 ⟨hp5, hq5, w, rfl, hw, hw1, hc⟩
      refine ⟨rfl, _, a_nm 6 y, ?_⟩
      simp
      simp [listA]
      refine oneK hp5 (by decide) (by decide) fun z H6 hz g6 => ?_
      obtain ⟨c, rfl, hcc⟩ := al1 z hz
      simp only [List.length_cons] at hw hw1
      refine ⟨by show _ < 16777216; omega, g6.pool, keep g6 hq5, w ++ [c], by simp, by simp; omega, by simp; omega, lo_app hc ?_⟩
      unfold cOk; simpa using hcc
    · rintro acc H5 ⟨hp5, hq5, w, rfl, hw, hw1, hc⟩
      refine ⟨rfl, ?_⟩
      have e3 : ∀ H, mtE .join (.str []) [.lv (w.map ch1)] H = .ok (.str w) H := fun H => by
        show Rs.ofO (mtD .join (.str []) [.lv (w.map ch1)]) H = _
        rw [join_ch (by simp at hw; omega)]; rfl
      simp at hw hw1
      simp [e3]
      refine takeK (m := 40) hp5 (by decide) (by decide) fun n40 H6 a0 a1 g6 => ?_
      simp
      refine ⟨by decide, takeK (m := 9) g6.pool (by decide) (by decide) fun n9 H7 b0 b1 g7 => ?_⟩
      obtain ⟨n40, rfl⟩ := Int.eq_ofNat_of_zero_le a0
      obtain ⟨n9, rfl⟩ := Int.eq_ofNat_of_zero_le b0
      simp
      refine ⟨by decide, by decide, ?_⟩
      refine oneK g7.pool (by simp) (by simp) fun z H8 hz g8 => ?_
      have : ∃ p : Pt, z = p.d ∧ own p := by
        simp only [List.mem_cons, List.not_mem_nil, or_false] at hz
        rcases hz with rfl | rfl | rfl
        · exact ⟨.kp (1 + n40), by simp [Pt.d, Pt.val, Pt.wd, cK], by constructor <;> omega⟩
        · exact ⟨.dr (1 + n9), by simp [Pt.d, Pt.val, Pt.wd, cD], by constructor <;> omega⟩
        · exact ⟨.pu w, rfl, by rintro rfl; simp at hw1, hw, hc⟩
      obtain ⟨p, rfl, hown⟩ := this
      have hq8 := keep g8 (keep g7 (keep g6 hq5))
      have hv : viewD H8 (.ref q0) = .lv (ptsD l) := by simp [viewD, hq8]
      simp [vown]
      simp [hv]
      have ll : (ptsD l).length = l.length := by simp [ptsD]
      refine ⟨by decide, by decide, ow_if (by show _ ≤ 16777216; omega) ?_⟩
      obtain ⟨v, la⟩ := last_k l
      have px : ixD (viewD H8 p.d) (.int 0) = some (.str p.wd) := rfl
      simp [la, px]
      have hn : (match l.getLast? with | none => true | some z => !bad2 z p) = (!decide (lk l = p.wd) && !(decide (lk l = cD) && decide (p.wd = cP))) := wd_ne l p
      by_cases h1 : p.wd = lk l
      · rw [if_pos h1]
        exact ⟨g8.pool, l, _, _, _, _, _, hq8, ho, ha, by omega, rfl⟩
      · rw [if_neg h1]
        refine ⟨by decide, ?_⟩
        simp [nePair]
        cases hb : (decide (lk l = cD) && decide (p.wd = cP)) with
        | true =>
          have hb2 : lk l = cD ∧ p.wd = cP := by simpa using hb
          rw [if_neg (by rintro (h | h); exact h hb2.1; exact h hb2.2)]
          exact ⟨g8.pool, l, _, _, _, _, _, hq8, ho, ha, by omega, rfl⟩
        | false =>
          have hb2 : lk l = cD → ¬ p.wd = cP := by simpa using hb
          rw [if_pos (by by_cases e : lk l = cD; exact .inr (hb2 e); exact .inl e)]
          have ap := app_ok (d := p.d) hq8 (by show _ < 16777216; omega)
          refine ⟨by rw [hv]; rfl, ?_⟩
          simp [ap]
          have hp8 : Pool r (H8.set q0 (.lst (ptsD l ++ [p.d]))) := by
            obtain ⟨a, b, z1, z2, z3⟩ := g8.pool
            exact ⟨a, b, by rw [List.getElem?_set_ne hne]; exact z1, z2, z3⟩
          refine ⟨hp8, l ++ [p], _, _, _, _, _, by rw [get_set hq8]; simp [ptsD], ?_, ?_, by simp; omega, rfl⟩
          · intro p2 hp2
            rcases List.mem_append.mp hp2 with h | h
            · exact ho p2 h
            · cases List.mem_singleton.mp h; exact hown
          · rw [adj_snoc, hn, ha, hb]
            have : decide (lk l = p.wd) = false := decide_eq_false fun e => h1 e.symm
            rw [this]; rfl
  · rintro s H3 ⟨hp, l, x2, x3, x4, x5, x6, hq, ho, ha, hl, rfl⟩
    refine ⟨rfl, ?_⟩
    have hv : viewD H3 (.ref q0) = .lv (ptsD l) := by simp [viewD, hq]
    have tu : biD .tuple [.lv (ptsD l)] = some (.tup (ptsD l)) := rfl
    simp
    simp [hv, tu]
    exact q l H3 ho ha (by simpa using hl) hp
end K65
namespace K65
open PySem DI
def rok : Pt → Prop
  | .kp n => n < 10 ^ 30
  | .dr n => n < 10 ^ 30
  | .pu w => w.length ≤ 1000 ∧ cOk w = true
theorem figD_lt {r : W} (h : r.all dig = true) : figD r < 10 ^ r.length := by
  have g : ∀ (l : W) (x : Nat), l.all dig = true → l.foldl (fun a c => a * 10 + (c - 48)) x < (x + 1) * 10 ^ l.length := fun l => by
    induction l with
    | nil => intro x _; simp
    | cons c l ih =>
      intro x h
      rw [List.all_cons, Bool.and_eq_true] at h
      have hc : c ≤ 57 := by have := h.1; unfold dig at this; simp at this; omega
      have h2 := ih (x * 10 + (c - 48)) h.2
      refine Nat.lt_of_lt_of_le h2 ?_
      rw [List.length_cons, Nat.pow_succ]
      have : x * 10 + (c - 48) + 1 ≤ (x + 1) * 10 := by omega
      calc (x * 10 + (c - 48) + 1) * 10 ^ l.length ≤ ((x + 1) * 10) * 10 ^ l.length := Nat.mul_le_mul_right _ this
        _ = (x + 1) * (10 ^ l.length * 10) := by rw [Nat.mul_assoc, Nat.mul_comm 10]
  have := g r 0 h
  simpa [figD] using this
theorem RP_rok {w : W} {p : Pt} (h : RP w = some p) (hc : cOk w = true) (hl : w.length ≤ 1000) : rok p := by
  cases w with
  | nil => cases h
  | cons c r =>
    have hc2 : cOk r = true := by
      unfold cOk at hc ⊢
      rw [List.all_cons, Bool.and_eq_true] at hc
      exact hc.2
    simp at hl
    by_cases h43 : c = 43
    · subst h43
      rw [RP43] at h
      cases hv : V false r with
      | none => rw [hv] at h; cases h
      | some x =>
        rw [hv] at h
        change (if x = [] then none else some (Pt.pu x)) = some p at h
        split at h
        · cases h
        · cases h
          have := V_len r false x hv
          exact ⟨by omega, V_ok r false x hv hc2⟩
    · simp only [RP, if_neg h43] at h
      split at h
      · rename_i hcn
        have hn := hcn.2
        unfold numOk at hn
        simp only [Bool.and_eq_true, decide_eq_true_eq] at hn
        have h1 := figD_lt hn.2.2.2
        have h2 : figD r < 10 ^ 30 := Nat.lt_of_lt_of_le h1 (Nat.pow_le_pow_right (by decide) hn.2.1)
        cases h
        split
        · exact h2
        · exact h2
      · cases h
theorem ps_rok {l : W} (hc : cOk l = true) (hl : l.length ≤ 1000) : ∀ p ∈ ps l, rok p := fun p hp => by
  obtain ⟨o, ho, e⟩ := List.mem_filterMap.mp hp
  cases e
  unfold os at ho
  split at ho
  · cases ho
  · obtain ⟨w, hw, e⟩ := List.mem_map.mp ho
    obtain ⟨h1, h2⟩ := sp_mem l w hw
    exact RP_rok e (lo_sub hc fun c h => (h1 c h).1) (by omega)
theorem log30 {n : Nat} (h : n < 10 ^ 30) : n.log2 ≤ 100 := by
  rcases Nat.eq_zero_or_pos n with rfl | p
  · decide
  · have h1 := (Nat.log2_lt (k := 101) (Nat.pos_iff_ne_zero.mp p)).mpr (Nat.lt_of_lt_of_le h (by decide))
    omega
theorem pt_data {p : Pt} (h : rok p) : plainD p.d = true ∧ okS p.d = true ∧ depthD p.d ≤ 1 ∧ (toPy p.d).showable = true ∧ wt p.d ≤ 10100 := by
  cases p with
  | kp n =>
    have := log30 (n := n) h
    exact ⟨rfl, rfl, by simp [Pt.d, Pt.val, depthD, depthDs], by simp [Pt.d, Pt.wd, Pt.val, toPy, toPys, PyData.showable, PyData.showableAll]; omega, by simp [Pt.d, Pt.wd, Pt.val, wt, wts, cK]; omega⟩
  | dr n =>
    have := log30 (n := n) h
    exact ⟨rfl, rfl, by simp [Pt.d, Pt.val, depthD, depthDs], by simp [Pt.d, Pt.wd, Pt.val, toPy, toPys, PyData.showable, PyData.showableAll]; omega, by simp [Pt.d, Pt.wd, Pt.val, wt, wts, cD]; omega⟩
  | pu w =>
    have h1 : w.all (· < 0x110000) = true := h.2
    have := h.1
    exact ⟨rfl, by simp [Pt.d, Pt.wd, Pt.val, okS, okSs, cP, h1], by simp [Pt.d, Pt.val, depthD, depthDs], by simp [Pt.d, Pt.wd, Pt.val, toPy, toPys, PyData.showable, PyData.showableAll], by simp [Pt.d, Pt.wd, Pt.val, wt, wts, cP]; omega⟩
theorem pts_data : ∀ {ps : List Pt}, (∀ p ∈ ps, rok p) → plainDs (ptsD ps) = true ∧ okSs (ptsD ps) = true ∧ depthDs (ptsD ps) ≤ 1 ∧ PyData.showableAll (toPys (ptsD ps)) = true ∧ wts (ptsD ps) ≤ ps.length * 10102
  | [], _ => ⟨rfl, rfl, by simp [ptsD, depthDs], rfl, by simp [ptsD, wts]⟩
  | e :: r, h => by
    obtain ⟨a, b, c, d, f⟩ := pts_data (ps := r) fun x hx => h x (List.mem_cons_of_mem _ hx)
    obtain ⟨a1, b1, c1, d1, f1⟩ := pt_data (h e List.mem_cons_self)
    refine ⟨?_, ?_, ?_, ?_, ?_⟩
    · show (plainD e.d && plainDs (ptsD r)) = true
      rw [a1, a]; rfl
    · show (okS e.d && okSs (ptsD r)) = true
      rw [b1, b]; rfl
    · show max (depthD e.d) (depthDs (ptsD r)) ≤ 1
      omega
    · show ((toPy e.d).showable && PyData.showableAll (toPys (ptsD r))) = true
      rw [d1, d]; rfl
    · show wt e.d + 2 + wts (ptsD r) ≤ (r.length + 1) * 10102
      omega
theorem show_of {d : D} (p : plainD d = true) (o : okS d = true) (dp : depthD d ≤ 64) (s : (toPy d).showable = true) (w : wt d ≤ 16777216) : showOk d = true := by
  have h := shown_wt d p o s
  unfold showOk
  simp only [p, s, Bool.true_and, Bool.and_eq_true, decide_eq_true_eq]
  exact ⟨dp, by show _ ≤ 16777216; omega⟩
theorem reprB {d : D} (h : showOk d = true) : biD .repr [d] = some (.str (showD d)) := by
  show (if showOk d then _ else _) = _
  rw [if_pos h]
theorem tup_show {ps : List Pt} (h : ∀ p ∈ ps, rok p) (hl : ps.length ≤ 1000) : showOk (.tup (ptsD ps)) = true := by
  obtain ⟨a, b, c, d, f⟩ := pts_data h
  exact show_of (by unfold plainD; exact a) (by unfold okS; exact b) (by show depthDs _ + 1 ≤ 64; omega) (by simp only [toPy, PyData.showable]; exact d) (by unfold wt; omega)
theorem fN_le : ∀ {os : List (Option Pt)} {i : Nat}, fN os = some i → i < os.length
  | [], i, h => by cases h
  | none :: r, i, h => by cases h; simp
  | some p :: r, i, h => by
    cases e : fN r with
    | none => simp [fN, e] at h
    | some j =>
      have := fN_le e
      simp [fN, e] at h
      simp; omega
theorem an_show {l : W} (hc : cOk l = true) (hl : l.length ≤ 900) : showOk (an l).d = true := by
  have hn := an_nr l
  cases h : an l with
  | rd qs =>
    have e : qs = ps l := by
      unfold an at h
      cases hf : fN (os l) with
      | some i => rw [hf] at h; cases h
      | none =>
        rw [hf] at h
        change (if adj (ps l) = true then An.rd (ps l) else .no .non) = An.rd qs at h
        split at h
        · cases h; rfl
        · cases h
    have hp := ps_len l
    obtain ⟨a, b, c, d, f⟩ := pts_data (ps_rok hc (by omega))
    subst e
    refine show_of ?_ ?_ ?_ ?_ ?_
    · simp only [An.d, plainD, plainDs, a, Bool.and_self]
    · simp only [An.d, okS, okSs, b]; rfl
    · simp only [An.d, depthD, depthDs]; omega
    · simp only [An.d, toPy, toPys, PyData.showable, PyData.showableAll, d, Bool.and_self]
    · simp only [An.d, wt, wts, reT, List.length_cons, List.length_nil]; omega
  | no d =>
    rw [h] at hn
    have key : plainD (An.no d).d = true ∧ okS (An.no d).d = true ∧ depthD (An.no d).d ≤ 64 ∧ (toPy (An.no d).d).showable = true ∧ wt (An.no d).d ≤ 16777216 := by
      rcases hn with rfl | ⟨i, rfl⟩
      · exact ⟨rfl, rfl, by simp [An.d, depthD, depthDs], rfl, by simp [An.d, wt, wts, noT]⟩
      · have hi : i ≤ 1000 := by
          unfold an at h
          cases hf : fN (os l) with
          | some j =>
            rw [hf] at h
            have e : i = j := by
              have h : An.no (D.int (j : Nat)) = An.no (D.int (i : Nat)) := h
              injection h with h
              injection h with h
              omega
            have := fN_le hf
            have := os_len l
            omega
          | none =>
            rw [hf] at h
            change (if adj (ps l) = true then An.rd (ps l) else .no .non) = An.no (D.int (i : Nat)) at h
            split at h
            · cases h
            · cases h
        have hlog : (Nat.log2 i) ≤ i := Nat.log2_le_self i
        exact ⟨rfl, rfl, by simp [An.d, depthD, depthDs], by simp [An.d, toPy, toPys, PyData.showable, PyData.showableAll]; omega, by simp [An.d, wt, wts, noT]; omega⟩
    obtain ⟨a, b, c, d, e⟩ := key
    exact show_of a b c d e
end K65
namespace K65
open PySem DI
theorem wp_of_wpx {A : Type} {r : Rs A} {Q : A → HH → Prop} (h : r.wpx Q fun _ _ => False) : r.wp Q := by cases r <;> exact h
theorem readP {l : W} {qs : List Pt} {k : Nat} {H : HH} {Q : D → HH → Prop} (hl : l.length ≤ 9000) (e : an l = .rd qs) (q : Q (.tup (ptsD qs)) H) : (pcallE (cfP Pg (k + 4)) 8 [0] [.str l] [] H).wp Q := by
  refine pureC (P := Pg) (fd := f8) rfl (l := [.str l]) rfl rfl ?_
  refine wp_of_wpx (readR hl (fun ps h => ?_) fun d h => ?_)
  · rw [e] at h
    cases h
    exact ⟨nr_pts _, q⟩
  · rw [e] at h; cases h
theorem van {l : W} (H : HH) : viewD H (an l).d = (an l).d := by cases an l <;> rfl
def Gd0 (H : HH) (x : D) : Prop := tyIs "str" (viewD H x) = some false ∨ ∃ l, x = .str l ∧ l.length ≤ 100 ∧ an l = .no (.int 0)
theorem ne0 : cmpD .NotEq (.lv [.str noT, .int 0]) (.lv [.str [110, 111], .int 0]) = some false := by rfl
def AI (H0 : HH) (x0 : Option D) (xs : List D) (s : Sd) (H : HH) : Prop := H = H0 ∧ (∀ x ∈ xs, Gd0 H0 x) ∧ ∃ x1, s = [x0, x1, none, none, none, none, none, none]
def L31 : W := 61 :: List.replicate 31 49
theorem an31 : an L31 = .no (.int 0) := by rfl
theorem an30 : an (45 :: List.replicate 30 57) = .rd [.dr 999999999999999999999999999999] := by rfl
theorem an0 : an [61, 48] = .no (.int 0) := by rfl
def TI (r : Nat) (x0 x1 x2 x4 x7 : Option D) (xs : List D) (s : Sd) (H : HH) : Prop := ∃ (l : W) (x6 : Option D), cOk l = true ∧ l.length + 2 * xs.length ≤ 850 ∧ xs.length ≤ 8 ∧ Pool r H ∧ s = [x0, x1, x2, some (.ref r), x4, some (.str l), x6, x7]
def LI (x0 x1 : Option D) (xs : List D) (s : Sd) (_ : HH) : Prop := (∀ x ∈ xs, ∃ i : Int, x = .int i ∧ 0 ≤ i ∧ i < 15) ∧ ∃ x2 x3 x4 x5 x6 x7, s = [x0, x1, x2, x3, x4, x5, x6, x7]
theorem own_rok {p : Pt} (h : own p) : rok p := by
  cases p with
  | kp n => exact Nat.lt_of_le_of_lt h.2 (by decide)
  | dr n => exact Nat.lt_of_le_of_lt h.2 (by decide)
  | pu w => exact ⟨by have := h.2.1; omega, h.2.2⟩
theorem mu31 : binD .Mult (.str [49]) (.int 31) = some (.str (List.replicate 31 49)) := by rfl
theorem ad31 : binD .Add (.str [61]) (.str (List.replicate 31 49)) = some (.str L31) := by rfl
theorem mu30 : binD .Mult (.str [57]) (.int 30) = some (.str (List.replicate 30 57)) := by rfl
theorem ad30 : binD .Add (.str [45]) (.str (List.replicate 30 57)) = some (.str (45 :: List.replicate 30 57)) := by rfl
theorem pw30 : binD .Pow (.int 10) (.int 30) = some (.int (10 ^ 30)) := by rfl
theorem ne30 : cmpD .NotEq (.tup (ptsD [.dr 999999999999999999999999999999])) (.tup [.tup [.str [100, 114, 111, 112], .int 999999999999999999999999999999]]) = some false := by rfl
theorem value : ∀ ns : List Int, ns.length ≤ 63 → ∃ Hd, callN Pg 100 19 [.fz (ns.map D.int)] [] = .ok (.bl true) Hd := by
  intro ns hl
  suffices h : (callN Pg 100 19 [.fz (ns.map D.int)] []).wp fun d _ => d = .bl true by
    obtain ⟨a, H, h1, h2⟩ := wp_elim h
    exact ⟨H, by rw [h1, h2]⟩
  rw [stepP (P := Pg) (fd := f19) rfl 99]
  refine run_k rfl ?_
  simp [f19, b19, startD, N19]
  refine ⟨by decide, ?_⟩
  rw [mu31]
  simp only [ow_some, k_bin2_, v_str, v_int]
  rw [ad31]
  simp
  refine ⟨by decide, ?_⟩
  generalize hH : ([HD.dic [] []] : HH) = H0
  refine for_wp (I := AI H0 (some (.fz (ns.map D.int)))) ?_ ?_ _ _ _ ⟨rfl, ?_, _, rfl⟩
  · rintro x xs s H ⟨hE, hx, x1, rfl⟩
    subst hE
    refine ⟨rfl, _, a_nm 1 x, ?_⟩
    have hx0 := hx x List.mem_cons_self
    have nxt : AI H (some (.fz (ns.map D.int))) xs [some (.fz (ns.map D.int)), some x, none, none, none, none, none, none] H := ⟨rfl, fun y hy => hx y (List.mem_cons_of_mem _ hy), _, rfl⟩
    simp
    rcases hx0 with h | ⟨l, rfl, h1, h2⟩
    · refine saidN (k := 94) h ?_
      simp [ne0]
      exact ⟨by decide, nxt⟩
    · refine saidC (k := 94) (by omega) ?_
      rw [h2]
      simp [An.d, ne0]
      exact ⟨by decide, nxt⟩
  · rintro s H ⟨hE, hx, x1, rfl⟩
    subst hE
    refine ⟨rfl, ?_⟩
    simp
    rw [mu30]
    simp only [ow_some, k_bin2_, v_str, v_int]
    rw [ad30]
    simp
    refine readP (k := 95) (by simp) an30 ?_
    simp
    rw [pw30]
    simp only [ow_some]
    simp
    simp [ne30, biD, lenD, minD, maxD]
    refine ⟨by decide, by decide, ?_⟩
    rw [range1 (by split <;> split <;> omega) (by split <;> split <;> omega)]
    simp
    refine for_wp (I := LI (some (.fz (ns.map D.int))) x1) ?_ ?_ _ _ _ ⟨fun x hx => ?_, _, _, _, _, _, _, rfl⟩
    rotate_left 2
    · simp only [List.mem_map, List.mem_range] at hx
      obtain ⟨i, hi, rfl⟩ := hx
      exact ⟨i, rfl, by omega, by split at hi <;> split at hi <;> omega⟩
    · rintro x xs s H ⟨hx, x2, x3, x4, x5, x6, x7, rfl⟩
      obtain ⟨i, rfl, i0, i1⟩ := hx x List.mem_cons_self
      have hx := fun y hy => hx y (List.mem_cons_of_mem _ hy)
      refine ⟨rfl, _, a_nm 2 _, ?_⟩
      simp
      refine poolP (P := Pg) rfl i0 (by omega) hl fun a b ha hb => ?_
      have hp : Pool H.length (H ++ [.lst [.int a, .int b]]) := ⟨a, b, by simp, ha, hb⟩
      generalize H.length = r at hp ⊢
      generalize H ++ [.lst [.int a, .int b]] = H1 at hp ⊢
      simp
      refine drawnP (k := 95) hp fun l H2 ho hA hl2 hp2 => ?_
      simp
      refine ⟨rfl, ?_⟩
      refine lc_mapG Pt.d (fun p => .str (pl p)) rfl l [] (fun p hpm => ⟨_, a_nm 7 _, fun P hP => ?_⟩) (by show 0 + l.length ≤ 16777216; omega) ?_
      · simp
        exact lineP (k := 98) (ho p hpm) hP
      · rw [List.nil_append]
        have j := join_own ho (by omega)
        have e3 : ∀ H, mtE .join (.str [32]) [.lv (l.map fun p => D.str (pl p))] H = .ok (.str (line l)) H := fun H => by
          show Rs.ofO (mtD .join (.str [32]) [.lv (l.map fun p => D.str (pl p))]) H = _
          rw [j]; rfl
        simp [e3]
        refine showC (k := 96) ho (by omega) ?_
        simp
        obtain ⟨lo1, lo2⟩ := line_ok ho
        have aL := an_line ho hA
        refine readP (k := 95) (by omega) aL ?_
        have rpo : ∀ p ∈ l, rok p := fun p hpm => own_rok (ho p hpm)
        have rp := reprB (tup_show rpo (by omega))
        simp [rp]
        rw [show rangeD [.int 8] = some ((List.range 8).map fun (k : Nat) => D.int k) from rfl]
        simp
        refine for_wp (I := TI r (some (.fz (ns.map D.int))) x1 (some (.int i)) (some (.tup (ptsD l))) x7) ?_ ?_ _ _ _ ⟨line l, _, lo1, by simp; omega, by simp, hp2, rfl⟩
        · rintro y ys s H3 ⟨m, x6, hc, hm, hy8, hp3, rfl⟩
          simp only [List.length_cons] at hm hy8
          refine ⟨rfl, _, a_nm 6 _, ?_⟩
          have rp := reprB (an_show hc (by omega))
          have va := fun H => van (l := m) H
          simp
          refine saidP (k := 94) (by omega) ?_
          simp [va, rp]
          refine dueP (k := 96) hc (by omega) ?_
          simp [va, rp]
          refine bentP (k := 96) hc (by omega) hp3 fun m2 H4 hc2 hl2 g => ?_
          simp
          exact ⟨m2, _, hc2, by omega, by omega, g.pool, rfl⟩
        · rintro s H3 ⟨m, x6, hc, hm, hy8, hp3, rfl⟩
          refine ⟨rfl, ?_⟩
          simp
          exact ⟨hx, _, _, _, _, _, _, rfl⟩
    · rintro s H ⟨hx, x2, x3, x4, x5, x6, x7, rfl⟩
      refine ⟨rfl, ?_⟩
      simp
  · intro x hx
    subst hH
    simp only [List.mem_cons, List.not_mem_nil, or_false] at hx
    rcases hx with rfl | rfl | rfl | rfl | rfl | rfl | rfl | rfl
    · exact .inl rfl
    · exact .inl rfl
    · exact .inl rfl
    · exact .inl rfl
    · exact .inl rfl
    · exact .inl rfl
    · exact .inr ⟨_, rfl, by decide, an31⟩
    · exact .inr ⟨_, rfl, by decide, an0⟩
end K65
namespace K65
open PySem PySem.Spec PyProof.Rows L2 DI
theorem reach (v : ∀ ns : List Int, ns.length ≤ 63 → ∃ Hd, callN Pg 100 19 [.fz (ns.map D.int)] [] = .ok (.bl true) Hd) {w : World} {mg : Str → Option Value} {f : Addr} {h : Heap} (Y : hk.says w h) (G : h.Ns mainGlobals mg) (hmg : mg ("law" : Str) = some (.ref f)) :
    ∃ (K : PySem.W.Frag) (fd : FuncData) (G : Gr) (F : List D → HH → Rs D), K.In h ∧ G.K = K ∧ (∀ (s : Shared) (u : Value), BindsTo s fd ⟨[u], []⟩ [("_law_script", u)]) ∧ (∀ ns : List Int, ns.length ≤ 63 → ∃ Hd, F [.fz (ns.map D.int)] [] = .ok (.bl true) Hd) ∧
      ∀ base : Heap, K.In base → base.Ns mainGlobals mg → FnG (PySem.Challenge.rw_pagesofproofs_k65_changes_written).prog w K mg base G 102 f fd ["_law_script"] F := by
  obtain ⟨K, X, c⟩ := Y
  obtain ⟨fd, F⟩ := c.d.def_ 19 (d := d19) rfl
  have e := hmg.symm.trans (He.glo_ok X G (c.d.fact 19 (f := .glo "law") rfl))
  cases e
  have bd := FunD.bindsA (ps := ["_law_script"]) F fun _ _ _ _ _ _ us hl => match us, hl with | [_], _ => rfl
  refine ⟨K, fd, gr K, callN Pg 100 19, X, rfl, fun s u => bd s [u] rfl, v, fun base Xb Yb => ?_⟩
  have M := md X G c
  have IH := all (P := (PySem.Challenge.rw_pagesofproofs_k65_changes_written).prog) (w := w) (base := base) X G c 99
  refine fn_g (fD := f19) (cfg := ⟨callN Pg 99, fun g => match (Pg.fns[g]? : Option Fd) with | some h => h.dfl | none => [], Pg.consts, Pg.fuel⟩) F s19 c19 rfl rfl rfl ⟨M.K, M.blt, M.exc, M.exk, M.iso, M.con, M.gd⟩ (hx X G c 99) (hmk X G c 99) fun i y hy => ?_
  obtain ⟨a, fd, ps, h1, h2⟩ := IH i y hy
  exact ⟨a, fd, ps, h1, h2⟩
end K65
open PySem PySem.W PySem.Calls PyProof.Rows
theorem PySem.Challenge.cw_pagesofproofs_k65_changes_written_holds : PySem.Challenge.rw_pagesofproofs_k65_changes_written.Holds := by
  w_on; o_law
  refine HandSHeadRun.head_any (r := OpenLaw.row PySem.Challenge.rw_pagesofproofs_k65_changes_written) (q := view (OpenLaw.row PySem.Challenge.rw_pagesofproofs_k65_changes_written).prog [34]) (H := K65.hk) (ob := K65.ob) (M := 2500) (loose := K65.loose) (d := HandSHeadRun.topDef (OpenLaw.row PySem.Challenge.rw_pagesofproofs_k65_changes_written).prog 34) (kwd := []) K65.ob_eq
    (by kernel_rfl) (fun s => by kernel_rfl) K65.run (by kernel_rfl) (by kernel_rfl) (by kernel_rfl) (by rfl) (by first | assumption | decide +kernel) (by decide +kernel) ⟨rfl, rfl, rfl, rfl, rfl, by decide +kernel⟩ ?hw ?hc
  case hw => w_witness2
  case hc =>
    refine DI.walk_g (l := PySem.Challenge.rw_pagesofproofs_k65_changes_written) (n := 63) (k := 102) (x := "_law_script") rfl (by decide) (by kernel_rfl) ⟨rfl, by decide, by decide⟩ fun w mg f h Y G hm0 => ?_
    have hm : mg ("law" : PySem.Str) = some (.ref f) := by
      rw [← show (HandSHeadRun.topDef (OpenLaw.row PySem.Challenge.rw_pagesofproofs_k65_changes_written).prog 34).name = ("law" : PySem.Str) by kernel_rfl]
      exact hm0
    exact K65.reach K65.value Y G hm
