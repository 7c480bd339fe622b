import PyProof.Rows.All
import KE.SortData
import KE.DataMinMax
import PyProof.Rows.RowBridgeK
import Wide.All
import OpenK.AllK
import Wide.FinOn
import HandS.ForMost
import HandS.ForExc
import HandS.Wide
import HandS.Flow
import HandS.Style
import HandS.Deep
import HandS.TupAny
import HandS.TupMul
import HandS.SortRule
import HandS.NoneIn
import HandS.Sort
import HandS.TupLe
import HandS.Gcd
import HandS.IsInst
import HandS.Conv
import HandS.Zip
import HandS.TryMany
import HandS.RaiseMore
import HandS.SortInts
import HandS.TupSets
import KE.GoesEnum
import HandS.SetFor
import HandS.Strs
import HandS.ExcIs
import PySem.Challenge.RW_tubedrooms_k56_main_twins_and_classes_of
set_option Elab.async false
set_option linter.all false
set_option maxRecDepth 100000
set_option autoImplicit false
/-! A small language of expressions and statements over data, and what they do. -/
namespace TD
open PySem PySem.Spec PyProof.Rows L2

/-- what a slot holds: data that nobody changes, or a list that this slot alone has -/
inductive W where
  | v (d : PyData)
  | own (ds : List PyData)
  | scr (ds : List PyData)
def W.val : W → PyData
  | .v d => d
  | .own ds => .list ds
  | .scr ds => .list ds
abbrev En := List (Option W)

/-- targets -/
inductive T where
  | n (i : Nat)
  | t (ts : T)
  | nil
  | cons (a b : T)

inductive Ty where
  | int | bool | str | list | tuple
  deriving DecidableEq

/-- built-in functions of data -/
inductive Bi where
  | len | abs | min2 | max2 | minL | maxL | sum | all | any | int1 | tupleOf | listOf | gcd | sorted
  deriving DecidableEq

/-- what only a loop walks -/
inductive Ik where
  | range1 | range2 | range3 | enum | zip
  deriving DecidableEq

inductive E where
  | var (i : Nat) | mv (i : Nat)
  | int (i : Int) | str (x : Str) | bl (b : Bool) | non
  | glb (j : Nat)
  | bin (o : Operator) (a b : E)
  | neg (a : E)
  | cmp (o : CmpOp) (a b : E)
  | chn (o p : CmpOp) (a b c : E)
  | and (a b : E) | or (a b : E) | one (a : E) | not (a : E)
  | orT (a b : E)
  | ite (c a b : E)
  | tup (es : E) | lst (es : E)
  | ix (a i : E) | ixV (v : Nat) (i : E) | lenV (v : Nat)
  | sl (a l h : E) | slV (v : Nat) (l h : E) | rev (a : E)
  | call (f : Nat) (es : E) | callB (f i : Nat) (es : E)
  | bi (b : Bi) (es : E)
  | isi (a : E) (ts : List Ty)
  | it (k : Ik) (es : E)
  | comp (vs : List Nat) (t : T) (src c e : E)
  | comp2 (vs : List Nat) (t : T) (src c : E) (vs1 : List Nat) (t1 : T) (src1 c1 e : E)
  | lend (a : E)
  | lrg (tup : Bool) (es : E)
  | popV (v : Nat) (i : E)
  | callK1 (f : Nat) (a : E) | callK2 (f : Nat) (a b : E)
  | srt (a : E) | lset (a : E)
  | nil | cons (a es : E)

inductive Rs (α : Type) where
  | ok (a : α) (e : En)
  | exc (c : Nat) (p : Option PyData) (e : En)
  | stuck
def Rs.bind {α β : Type} (r : Rs α) (f : α → En → Rs β) : Rs β := match r with
  | .ok a e => f a e
  | .exc c p e => .exc c p e
  | .stuck => .stuck
/-- an answer, or none -/
def Rs.of {α : Type} (o : Option α) (e : En) : Rs α := match o with
  | some a => .ok a e
  | none => .stuck

/-- a call's end: what comes back, and the first argument behind it -/
inductive FR where
  | ok (w : W) (b : Option W)
  | exc (c : Nat) (p : Option PyData) (b : Option W)
  | stuck
abbrev CF := Nat → List W → FR

/-! ### operations on data -/
def mulOk (i j : Int) : Bool := decide (j.natAbs < 2 ^ 64) || decide (i.natAbs < 2 ^ 64) || decide (i.natAbs.log2 + j.natAbs.log2 < 1000000)
def opB (o : Operator) (x y : PyData) : Option W := match o, x, y with
  | .Add, .int i, .int j => some (.v (.int (i + j)))
  | .Add, .str a, .str b => if a.length + b.length ≤ sizeLine then some (.v (.str (a ++ b))) else none
  | .Add, .list a, .list b => if a.length + b.length ≤ sizeLine then some (.own (a ++ b)) else none
  | .Add, .tuple a, .tuple b => if a.length + b.length ≤ sizeLine then some (.v (.tuple (a ++ b))) else none
  | .Sub, .int i, .int j => some (.v (.int (i - j)))
  | .Sub, .bool a, .bool b => some (.v (.int (b2i a - b2i b)))
  | .Mult, .int i, .int j => if mulOk i j = true then some (.v (.int (i * j))) else none
  | .Mult, .list a, .int k => if -(2 ^ 63) ≤ k ∧ k < 2 ^ 63 ∧ a.length * k.toNat ≤ sizeLine then some (.own (List.replicate k.toNat a).flatten) else none
  | .Mult, .tuple a, .int k => if a ≠ [] ∧ -1000 ≤ k ∧ k ≤ 1000 ∧ a.length ≤ 1000 then some (.v (.tuple (List.replicate k.toNat a).flatten)) else none
  | .FloorDiv, .int i, .int j => if 0 < j ∧ j.natAbs.log2 < 9000 then some (.v (.int (i / j))) else if j ≠ 0 ∧ j.natAbs < 1073741824 then some (.v (.int (i.fdiv j))) else none
  | .Mod, .int i, .int j => if 0 < j then some (.v (.int (i % j))) else if j ≠ 0 then some (.v (.int (i.fmod j))) else none
  | .Pow, .int i, .int j => if 0 ≤ j ∧ j ≤ 1000000 ∧ i.natAbs < 2 ^ 64 then some (.v (.int (i ^ j.toNat))) else none
  | _, _, _ => none
def opEq (x y : PyData) : Option Bool := match x, y with
  | .int i, .int j => some (decide (i = j))
  | x, y => if SeqAt.shaped x = true ∧ SeqAt.shaped y = true then some (PyData.eqv x y) else none
def flatD : PyData → Bool
  | .none => true
  | .bool _ => true
  | .int _ => true
  | .str _ => true
  | _ => false
def opIn (x y : PyData) : Option Bool := match y with
  | .list ds => if SeqAt.shaped x = true ∧ SeqAt.shaped (.list ds) = true then some (ds.any fun z => PyData.eqv z x) else none
  | .tuple ds => if flatD x = true ∧ ds.all flatD = true then some (ds.any fun z => PyData.eqv z x) else if SeqAt.shaped x = true ∧ SeqAt.shaped (.tuple ds) = true then some (ds.any fun z => PyData.eqv z x) else none
  | .str z => match x with
    | .str a => match a.cps.toList with
      | [c] => some (decide (c ∈ z.cps.toList))
      | _ => none
    | _ => none
  | _ => none
def opC (o : CmpOp) (x y : PyData) : Option Bool := match o with
  | .Eq => opEq x y
  | .NotEq => (opEq x y).map (!·)
  | .Lt => match x, y with
    | .int i, .int j => some (decide (i < j))
    | _, _ => none
  | .LtE => match x, y with
    | .int i, .int j => some (decide (i ≤ j))
    | _, _ => none
  | .Gt => match x, y with
    | .int i, .int j => some (decide (j < i))
    | _, _ => none
  | .GtE => match x, y with
    | .int i, .int j => some (decide (j ≤ i))
    | _, _ => none
  | .In => opIn x y
  | .NotIn => (opIn x y).map (!·)
  | .Is => match y with
    | .none => some (match x with | .none => true | _ => false)
    | _ => none
  | .IsNot => match y with
    | .none => some (match x with | .none => false | _ => true)
    | _ => none
def opIx (x y : PyData) : Option PyData := match x, y with
  | .list ds, .int i => atI ds i
  | .tuple ds, .int i => atI ds i
  | .str z, .int i => if z.length ≤ sizeLine then (atI z.cps.toList i).map fun c => .str ⟨#[c]⟩ else none
  | _, _ => none
def cutD (xs : List PyData) (lo hi : Option Int) : List PyData := (xs.drop (HT.sIx xs.length 0 lo)).take (HT.sIx xs.length xs.length hi - HT.sIx xs.length 0 lo)
def isNon : E → Bool
  | .non => true
  | _ => false
/-- an end of a slice: nothing, or a number -/
def part (e : E) (d : PyData) : Option (Option Int) := if isNon e = true then some none else match d with
  | .int i => some (some i)
  | _ => none
def opSl (x : PyData) (l h : Option Int) : Option W := match x with
  | .list ds => some (.own (cutD ds l h))
  | .tuple ds => some (.v (.tuple (cutD ds l h)))
  | _ => none
def opRev (x : PyData) : Option W := match x with
  | .list ds => some (.own ds.reverse)
  | .tuple ds => some (.v (.tuple ds.reverse))
  | _ => none
def truth : PyData → Option Bool
  | .none => some false
  | .bool b => some b
  | .int i => some (i != 0)
  | .list ds => some (!ds.isEmpty)
  | .tuple ds => some (!ds.isEmpty)
  | _ => none
def isTy : PyData → Ty → Bool
  | .bool _, .bool => true
  | .bool _, .int => true
  | .int _, .int => true
  | .str _, .str => true
  | .list _, .list => true
  | .tuple _, .tuple => true
  | _, _ => false
def intsOf : List PyData → Option (List Int)
  | [] => some []
  | .int i :: r => (intsOf r).map (i :: ·)
  | _ :: _ => none
def boolsOf : List PyData → Option (List Bool)
  | [] => some []
  | .bool b :: r => (boolsOf r).map (b :: ·)
  | _ :: _ => none
/-- the least, the greatest of ints -/
def leastI : Int → List Int → Int
  | a, [] => a
  | a, b :: r => leastI (if b < a then b else a) r
def mostI : Int → List Int → Int
  | a, [] => a
  | a, b :: r => mostI (if a < b then b else a) r
def insI (a : Int) : List Int → List Int
  | [] => [a]
  | b :: r => if a ≤ b then a :: b :: r else b :: insI a r
def sortI : List Int → List Int
  | [] => []
  | a :: r => insI a (sortI r)
/-- pairs of small numbers, put in order, each once -/
def pairsOf : List PyData → Option (List (Int × Int))
  | [] => some []
  | .tuple [.int a, .int b] :: r => (pairsOf r).map ((a, b) :: ·)
  | _ :: _ => none
def pdD (p : Int × Int) : PyData := .tuple [.int p.1, .int p.2]
/-- pairs in order -/
def ltX (p q : Int × Int) : Bool := decide (p.1 < q.1) || (decide (p.1 = q.1) && decide (p.2 < q.2))
def insX (a : Int × Int) : List (Int × Int) → List (Int × Int)
  | [] => [a]
  | b :: r => if ltX b a = true then b :: insX a r else a :: b :: r
def sortX : List (Int × Int) → List (Int × Int)
  | [] => []
  | a :: r => insX a (sortX r)
def seqOf : PyData → Option (List PyData)
  | .list ds => some ds
  | .tuple ds => some ds
  | _ => none
/-! ### sorted and min of any data -/
def insD (a : PyData) : List PyData → List PyData
  | [] => [a]
  | b :: r => if PySem.W.dataLt b a = true then b :: insD a r else a :: b :: r
def srtD : List PyData → List PyData
  | [] => []
  | a :: r => insD a (srtD r)
def notTup : PyData → Bool
  | .none => false
  | .tuple _ => false
  | _ => true
def fullTup : PyData → Bool
  | .tuple (_ :: _) => true
  | _ => false
def alkB (xs : List PyData) : Bool := xs.all fun x => xs.all fun y => PySem.W.alike x y
def srtB (xs : List PyData) : Bool := alkB xs && xs.all SeqAt.shaped && (xs.all fullTup || xs.all notTup)
def minB (xs : List PyData) : Bool := alkB xs && SeqAt.shaped (.tuple xs) && xs.all fun x => match x with
  | .none => false
  | _ => true
def srtW (xs : List PyData) : Option W := match pairsOf xs with
  | some ps => some (.own ((sortX ps).map pdD))
  | none => if srtB xs = true then some (.own (srtD xs)) else none
def mnW : List PyData → Option W
  | x :: r => if minB (x :: r) = true then some (.v (PySem.W.minD x r)) else none
  | [] => none
def opBi (b : Bi) (ds : List PyData) : Option W := match b, ds with
  | .len, [.list xs] => some (.v (.int xs.length))
  | .len, [.tuple xs] => some (.v (.int xs.length))
  | .len, [.str z] => if z.length ≤ sizeLine then some (.v (.int z.length)) else none
  | .abs, [.int i] => some (.v (.int (if i < 0 then -i else i)))
  | .min2, [.int i, .int j] => some (.v (.int (if j < i then j else i)))
  | .max2, [.int i, .int j] => some (.v (.int (if j > i then j else i)))
  | .sum, [.list xs] => (intsOf xs).map fun ns => .v (.int ns.sum)
  | .sum, [.tuple xs] => (intsOf xs).map fun ns => .v (.int ns.sum)
  | .minL, [.list xs] => match intsOf xs with
    | some (a :: r) => some (.v (.int (leastI a r)))
    | _ => mnW xs
  | .minL, [.tuple xs] => match intsOf xs with
    | some (a :: r) => some (.v (.int (leastI a r)))
    | _ => mnW xs
  | .maxL, [.list xs] => match intsOf xs with
    | some (a :: r) => some (.v (.int (mostI a r)))
    | _ => none
  | .maxL, [.tuple xs] => match intsOf xs with
    | some (a :: r) => some (.v (.int (mostI a r)))
    | _ => none
  | .all, [.list xs] => (boolsOf xs).map fun bs => .v (.bool (bs.all id))
  | .any, [.list xs] => (boolsOf xs).map fun bs => .v (.bool (bs.any id))
  | .int1, [.int i] => some (.v (.int i))
  | .int1, [.bool b] => some (.v (.int (if b then 1 else 0)))
  | .tupleOf, [.list xs] => some (.v (.tuple xs))
  | .tupleOf, [.tuple xs] => some (.v (.tuple xs))
  | .listOf, [.list xs] => some (.own xs)
  | .listOf, [.tuple xs] => some (.own xs)
  | .gcd, [.int i, .int j] => some (.v (.int ((Nat.gcd i.natAbs j.natAbs : Nat) : Int)))
  | .sorted, [.list xs] => match intsOf xs with
    | some ns => some (.own ((sortI ns).map PyData.int))
    | none => srtW xs
  | .sorted, [.tuple xs] => if srtB xs = true then some (.own (srtD xs)) else none
  | _, _ => none
/-- a op= b -/
def opA (o : Operator) (x y : PyData) : Option PyData := match o with
  | .Add => match x, y with
    | .int i, .int j => some (.int (i + j))
    | .str a, .str b => if a.length + b.length ≤ sizeLine then some (.str (a ++ b)) else none
    | _, _ => none
  | .Sub => match x, y with
    | .int i, .int j => some (.int (i - j))
    | _, _ => none
  | _ => none
def lenD : PyData → Option Int
  | .list ds => some ds.length
  | .tuple ds => some ds.length
  | _ => none
def enumD : Nat → List PyData → List PyData
  | _, [] => []
  | k, d :: r => .tuple [.int k, d] :: enumD (k + 1) r
def zipD : List PyData → List PyData → List PyData
  | a :: r, b :: s => .tuple [a, b] :: zipD r s
  | _, _ => []
def rangeD (lo : Int) : Nat → List PyData
  | 0 => []
  | n + 1 => .int lo :: rangeD (lo + 1) n
def inRg (i : Int) : Bool := decide (-(2 ^ 62) ≤ i) && decide (i < 2 ^ 62)
def opR1 : List PyData → Option W
  | [.int j] => if inRg j = true then some (.own (rangeD 0 j.toNat)) else none
  | _ => none
def opR2 : List PyData → Option W
  | [.int i, .int j] => if inRg i = true ∧ inRg j = true then some (.own (rangeD i (j - i).toNat)) else none
  | _ => none
def opEn : List PyData → Option W
  | [.list xs] => some (.own (enumD 0 xs))
  | [.tuple xs] => some (.own (enumD 0 xs))
  | _ => none
def opZp : List PyData → Option W
  | [.list xs, .list ys] => some (.own (zipD xs ys))
  | [.tuple xs, .tuple ys] => some (.own (zipD xs ys))
  | _ => none
def opIt (k : Ik) (ds : List PyData) : Option W := match k with
  | .range1 => opR1 ds
  | .range2 => opR2 ds
  | .range3 => none
  | .enum => opEn ds
  | .zip => opZp ds

/-! ### slots -/
/-- a store; bw: slot 0 is a caller's own, and is not stored to -/
def stI (bw : Bool) (i : Nat) (w : W) (e : En) : Option En := if bw = true ∧ i = 0 then none else if i < e.length then some (e.set i (some w)) else none
def asT (bw : Bool) : T → PyData → En → Option En
  | .n i, d, e => stI bw i (.v d) e
  | .t ts, .tuple ds, e => asT bw ts (.tuple ds) e
  | .t ts, .list ds, e => asT bw ts (.tuple ds) e
  | .nil, .tuple [], e => some e
  | .cons a b, .tuple (d :: ds), e => (asT bw a d e).bind fun e1 => asT bw b (.tuple ds) e1
  | _, _, _ => none
/-- a list taken apart as a tuple -/
def unl : PyData → PyData
  | .list ds => .tuple ds
  | d => d
def wipeE (e : En) : List Nat → En
  | [] => e
  | i :: vs => (wipeE e vs).set i none
/-- slots vs of e, the others of e' -/
def backE (e e' : En) : List Nat → En
  | [] => e'
  | i :: vs => match e[i]? with
    | some o => (backE e e' vs).set i o
    | none => backE e e' vs
def loopC (f : PyData → En → Rs (Option PyData)) : List PyData → En → Rs (List PyData)
  | [], e => .ok [] e
  | d :: ds, e => match f d e with
    | .ok o e1 => match loopC f ds e1 with
      | .ok r e2 => .ok (match o with | some x => x :: r | none => r) e2
      | r => r
    | _ => .stuck

def loopF (f : PyData → En → Rs (List PyData)) : List PyData → En → Rs (List PyData)
  | [], e => .ok [] e
  | d :: ds, e => match f d e with
    | .ok o e1 => match loopF f ds e1 with
      | .ok r e2 => .ok (o ++ r) e2
      | r => r
    | _ => .stuck

/-- frozen stays frozen -/
def bOk : W → W → Bool
  | .v _, .v _ => true
  | .own _, .own _ => true
  | .own _, .v _ => true
  | .scr _, .scr _ => true
  | _, _ => false
def rgB (i j : Int) : Bool := inRg i && inRg j && decide ((j - i).toNat ≤ 16777216)
def rgW (tup : Bool) (i j : Int) : W := if tup = true then .v (.tuple (rangeD i (j - i).toNat)) else .own (rangeD i (j - i).toNat)
def opLr (tup : Bool) : List PyData → Option W
  | [.int j] => if rgB 0 j = true then some (rgW tup 0 j) else none
  | [.int i, .int j] => if rgB i j = true then some (rgW tup i j) else none
  | _ => none
/-- numbers, texts, truths: what holds no list -/
def flat1 : PyData → Bool
  | .none => true
  | .bool _ => true
  | .int _ => true
  | .str _ => true
  | _ => false
def W.frz : W → W
  | .own ds => .v (.list ds)
  | w => w
def frzE (e : En) : En := e.map (Option.map W.frz)
def inB (p : Int × Int) : Bool := decide (0 ≤ p.1) && decide (p.1 < 64) && (decide (0 ≤ p.2) && decide (p.2 < 64))
def codeP (p : Int × Int) : Int := p.1 * 64 + p.2
def insP (x : Int × Int) : List (Int × Int) → List (Int × Int)
  | [] => [x]
  | y :: r => if codeP x < codeP y then x :: y :: r else if codeP x = codeP y then y :: r else y :: insP x r
def sortP : List (Int × Int) → List (Int × Int)
  | [] => []
  | x :: r => insP x (sortP r)
def insS (a : Int) : List Int → List Int
  | [] => [a]
  | b :: r => if a < b then a :: b :: r else if a = b then b :: r else b :: insS a r
def sortS : List Int → List Int
  | [] => []
  | a :: r => insS a (sortS r)
def opSrt : PyData → Option W
  | .list ds => match pairsOf ds with
    | some ps => if ps.length < 64 ∧ ps.all inB = true then some (.own ((sortP ps).map pdD)) else none
    | none => match intsOf ds with
      | some ns => if ns.length ≤ 3000 ∧ (sortS ns).length < 64 then some (.own ((sortS ns).map PyData.int)) else none
      | none => none
  | _ => none
/-- len(set(..)) -/
def opLset : PyData → Option W
  | .list ds => match pairsOf ds with
    | some ps => if ps.length < 64 ∧ ps.all inB = true then some (.v (.int (sortP ps).length)) else none
    | none => match intsOf ds with
      | some ns => if ns.length ≤ 3000 then some (.v (.int (sortS ns).length)) else none
      | none => none
  | _ => none
/-! ### what an expression is worth -/
def ev (cs : List PyData) (cf : CF) : E → En → Rs W
  | .var i, e => match e[i]? with
    | some (some (.v d)) => .ok (.v d) e
    | some (some (.own ds)) => .ok (.v (.list ds)) (e.set i (some (.v (.list ds))))
    | _ => .stuck
  | .mv i, e => match e[i]? with
    | some (some (.v d)) => .ok (.v d) e
    | some (some (.own ds)) => .ok (.own ds) (e.set i none)
    | _ => .stuck
  | .int i, e => .ok (.v (.int i)) e
  | .str x, e => .ok (.v (.str x)) e
  | .bl b, e => .ok (.v (.bool b)) e
  | .non, e => .ok (.v .none) e
  | .glb j, e => .of (cs[j]?.map .v) e
  | .bin o a b, e => (ev cs cf a e).bind fun x e1 => (ev cs cf b e1).bind fun y e2 => .of (opB o x.val y.val) e2
  | .neg a, e => (ev cs cf a e).bind fun x e1 => match x.val with
    | .int i => .ok (.v (.int (-i))) e1
    | _ => .stuck
  | .cmp o a b, e => (ev cs cf a e).bind fun x e1 => (ev cs cf b e1).bind fun y e2 => .of ((opC o x.val y.val).map fun k => .v (.bool k)) e2
  | .chn o p a b c, e => (ev cs cf a e).bind fun x e1 => (ev cs cf b e1).bind fun y e2 => match opC o x.val y.val with
    | some true => (ev cs cf c e2).bind fun z e3 => .of ((opC p y.val z.val).map fun k => .v (.bool k)) e3
    | some false => .ok (.v (.bool false)) e2
    | none => .stuck
  | .and a b, e => (ev cs cf a e).bind fun x e1 => match x.val with
    | .bool true => ev cs cf b e1
    | .bool false => .ok (.v (.bool false)) e1
    | _ => .stuck
  | .or a b, e => (ev cs cf a e).bind fun x e1 => match x.val with
    | .bool true => .ok (.v (.bool true)) e1
    | .bool false => ev cs cf b e1
    | _ => .stuck
  | .one a, e => ev cs cf a e
  | .not a, e => (ev cs cf a e).bind fun x e1 => match x.val with
    | .bool k => .ok (.v (.bool (!k))) e1
    | _ => .stuck
  | .orT a b, e => (ev cs cf a e).bind fun x e1 => match truth x.val with
    | some true => .ok x e1
    | some false => ev cs cf b e1
    | none => .stuck
  | .ite c a b, e => (ev cs cf c e).bind fun x e1 => match x.val with
    | .bool true => ev cs cf a e1
    | .bool false => ev cs cf b e1
    | _ => .stuck
  | .nil, e => .ok (.own []) e
  | .cons a es, e => (ev cs cf a e).bind fun x e1 => (ev cs cf es e1).bind fun y e2 => match y with
    | .own ds => .ok (.own (x.val :: ds)) e2
    | _ => .stuck
  | .tup es, e => (ev cs cf es e).bind fun x e1 => match x with
    | .own ds => if ds.length ≤ sizeLine then .ok (.v (.tuple ds)) e1 else .stuck
    | _ => .stuck
  | .lst es, e => (ev cs cf es e).bind fun x e1 => match x with
    | .own ds => if ds.length ≤ sizeLine then .ok (.own ds) e1 else .stuck
    | _ => .stuck
  | .ix a i, e => (ev cs cf a e).bind fun x e1 => (ev cs cf i e1).bind fun y e2 => .of ((opIx x.val y.val).map .v) e2
  | .ixV v i, e => match e[v]? with
    | some (some _) => (ev cs cf i e).bind fun y e2 => match e2[v]? with
      | some (some (.v d)) => .of ((opIx d y.val).map .v) e2
      | some (some (.own ds)) => .of ((opIx (.list ds) y.val).map .v) e2
      | _ => .stuck
    | _ => .stuck
  | .lenV v, e => match e[v]? with
    | some (some (.v d)) => .of ((lenD d).map fun n => .v (.int n)) e
    | some (some (.own ds)) => .ok (.v (.int ds.length)) e
    | _ => .stuck
  | .sl a l h, e => (ev cs cf a e).bind fun x e1 => (ev cs cf l e1).bind fun y e2 => match part l y.val with
    | some lo => (ev cs cf h e2).bind fun z e3 => match part h z.val with
      | some hi => .of (opSl x.val lo hi) e3
      | none => .stuck
    | none => .stuck
  | .slV v l h, e => match e[v]? with
    | some (some (.scr ds)) => (ev cs cf l e).bind fun y e2 => match part l y.val with
      | some lo => (ev cs cf h e2).bind fun z e3 => match part h z.val with
        | some hi => .ok (.own (cutD ds lo hi)) e3
        | none => .stuck
      | none => .stuck
    | _ => .stuck
  | .rev a, e => (ev cs cf a e).bind fun x e1 => .of (opRev x.val) e1
  | .call f es, e => (ev cs cf es e).bind fun x e1 => match x with
    | .own ds => match cf f (ds.map .v) with
      | .ok w _ => .ok w e1
      | .exc c p _ => .exc c p e1
      | .stuck => .stuck
    | _ => .stuck
  | .callB f i es, e => match e[i]? with
    | some (some _) => (ev cs cf es e).bind fun x e1 => match x, e1[i]? with
      | .own ds, some (some w0) => match cf f (w0 :: ds.map .v) with
        | .ok w (some b) => if bOk w0 b = true then .ok w (e1.set i (some b)) else .stuck
        | .exc c p (some b) => if bOk w0 b = true then .exc c p (e1.set i (some b)) else .stuck
        | _ => .stuck
      | _, _ => .stuck
    | _ => .stuck
  | .bi b es, e => (ev cs cf es e).bind fun x e1 => match x with
    | .own ds => .of (opBi b ds) e1
    | _ => .stuck
  | .isi a ts, e => (ev cs cf a e).bind fun x e1 => .ok (.v (.bool (ts.any (isTy x.val)))) e1
  | .it k es, e => (ev cs cf es e).bind fun x e1 => match x with
    | .own ds => .of (opIt k ds) e1
    | _ => .stuck
  | .callK1 f a, e => (ev cs cf a e).bind fun x e1 => match cf f [.v x.val] with
    | .ok w _ => .ok w e1
    | .exc c p _ => .exc c p e1
    | .stuck => .stuck
  | .callK2 f a b, e => (ev cs cf a e).bind fun x e1 => (ev cs cf b e1).bind fun y e2 => match cf f [.v x.val, .v y.val] with
    | .ok w _ => .ok w e2
    | .exc c p _ => .exc c p e2
    | .stuck => .stuck
  | .srt a, e => (ev cs cf a e).bind fun x e1 => .of (opSrt x.val) e1
  | .lset a, e => (ev cs cf a e).bind fun x e1 => .of (opLset x.val) e1
  | .lrg tup es, e => (ev cs cf es e).bind fun x e1 => match x with
    | .own ds => .of (opLr tup ds) e1
    | _ => .stuck
  | .popV v i, e => match e[v]? with
    | some (some (.own _)) => (ev cs cf i e).bind fun y e1 => match e1[v]?, y.val with
      | some (some (.own ds)), .int k => match (if inRg k = true then ixN ds.length k else none) with
        | some j => match ds[j]? with
          | some d => .ok (.v d) (e1.set v (some (.own (ds.eraseIdx j))))
          | none => .stuck
        | none => .stuck
      | _, _ => .stuck
    | _ => .stuck
  | .lend a, e => match ev cs cf a (frzE e) with
    | .ok w _ => if flat1 w.val = true then .ok (.v w.val) e else .stuck
    | .exc c none _ => .exc c none e
    | _ => .stuck
  | .comp vs t src c el, e => (ev cs cf src e).bind fun x e1 => match seqOf x.val with
    | some ds => match loopC (fun d e2 => match asT false t d e2 with
        | some e3 => (ev cs cf c e3).bind fun k e4 => match k.val with
          | .bool true => (ev cs cf el e4).bind fun y e5 => .ok (some y.val) (wipeE e5 vs)
          | .bool false => .ok none (wipeE e4 vs)
          | _ => .stuck
        | none => .stuck) ds (wipeE e1 vs) with
      | .ok r e2 => if r.length ≤ sizeLine then .ok (.own r) (backE e1 e2 vs) else .stuck
      | _ => .stuck
    | none => .stuck
  | .comp2 vs t src c vs1 t1 src1 c1 el, e => (ev cs cf src e).bind fun x e1 => match seqOf x.val with
    | some ds => match loopF (fun d e2 => match asT false t d e2 with
        | some e3 => (ev cs cf c e3).bind fun k e4 => match k.val with
          | .bool true => (ev cs cf src1 e4).bind fun y e5 => match seqOf y.val with
            | some ds1 => match loopC (fun d1 e6 => match asT false t1 d1 e6 with
                | some e7 => (ev cs cf c1 e7).bind fun k1 e8 => match k1.val with
                  | .bool true => (ev cs cf el e8).bind fun z e9 => .ok (some z.val) (wipeE e9 vs1)
                  | .bool false => .ok none (wipeE e8 vs1)
                  | _ => .stuck
                | none => .stuck) ds1 (wipeE e5 vs1) with
              | .ok r e6 => .ok r (wipeE e6 vs)
              | _ => .stuck
            | none => .stuck
          | .bool false => .ok [] (wipeE e4 vs)
          | _ => .stuck
        | none => .stuck) ds (wipeE e1 vs) with
      | .ok r e2 => if r.length ≤ sizeLine then .ok (.own r) (backE e1 e2 vs) else .stuck
      | _ => .stuck
    | none => .stuck

/-! ### statements -/
inductive S where
  | pass | nil | cons (a b : S)
  | exp (e : E)
  | asg (i : Nat) (e : E) (keep : Bool)
  | asgT (t : T) (e : E)
  | aug (i : Nat) (o : Operator) (e : E)
  | setI (i : Nat) (x e : E)
  | app (i : Nat) (e : E) | ext (i : Nat) (e : E)
  | ret (e : E) | retN
  | ite (c : E) (a b : S)
  | whl (c : E) (a : S)
  | for_ (t : T) (src : E) (a : S)
  | brk | cont
  | rs (c : Nat) (e : E)
  | tr (n : Nat) (body : S) (hs : S)
  | hd (c : Nat) (suite rest : S)
  | hdA (c i t : Nat) (z : Str) (rest : S)
  | par2 (i j : Nat) (es : E) | par3 (i j k : Nat) (es : E)
  | pk2 (i j : Nat) (ka kb : Bool) (a b : E) | pk3 (i j k : Nat) (ka kb kc : Bool) (a b c : E)

inductive Fl where
  | nx (e : En) | ret (w : W) (e : En) | bk (e : En) | ct (e : En)
  | exc (c : Nat) (p : Option PyData) (e : En)
  | stuck
def Rs.fl {α : Type} (r : Rs α) (f : α → En → Fl) : Fl := match r with
  | .ok a e => f a e
  | .exc c p e => .exc c p e
  | .stuck => .stuck
def Fl.ofE : Option En → Fl
  | some e => .nx e
  | none => .stuck
/-- except .. as slot i: slot t = [z, isinstance(slot i, ValueError)] -/
def clE (bw : Bool) (i t : Nat) (z : Str) : Option PyData → En → Fl
  | none, e => if i < e.length then .ofE (stI bw t (.own [.str z, .bool true]) (e.set i none)) else .stuck
  | some _, _ => .stuck
def Fl.seq (r : Fl) (f : En → Fl) : Fl := match r with
  | .nx e => f e
  | r => r
def whlL (c : En → Rs W) (b : En → Fl) : Nat → En → Fl
  | 0, _ => .stuck
  | n + 1, e => (c e).fl fun x e1 => match x.val with
    | .bool true => match b e1 with
      | .nx e2 => whlL c b n e2
      | .ct e2 => whlL c b n e2
      | .bk e2 => .nx e2
      | r => r
    | .bool false => .nx e1
    | _ => .stuck
def forL (f : PyData → En → Fl) : List PyData → En → Fl
  | [], e => .nx e
  | d :: ds, e => match f d e with
    | .nx e2 => forL f ds e2
    | .ct e2 => forL f ds e2
    | .bk e2 => .nx e2
    | r => r
def most : Nat := 1000000000
def W.keep (k : Bool) (w : W) : W := if k then w else .v w.val
def excFl : Fl → Bool
  | .exc .. => true
  | _ => false
mutual
def ex (cs : List PyData) (cf : CF) (bw : Bool) : S → En → Fl
  | .pass, e => .nx e
  | .nil, e => .nx e
  | .cons a b, e => (ex cs cf bw a e).seq fun e1 => ex cs cf bw b e1
  | .exp a, e => (ev cs cf a e).fl fun _ e1 => .nx e1
  | .asg i a k, e => (ev cs cf a e).fl fun w e1 => .ofE (stI bw i (w.keep k) e1)
  | .asgT t a, e => (ev cs cf a e).fl fun w e1 => .ofE (asT bw t (unl w.val) e1)
  | .par2 i j es, e => (ev cs cf es e).fl fun w e1 => match w with
    | .own [a, b] => .ofE ((stI bw i (.v a) e1).bind fun e2 => stI bw j (.v b) e2)
    | _ => .stuck
  | .par3 i j k es, e => (ev cs cf es e).fl fun w e1 => match w with
    | .own [a, b, c] => .ofE (((stI bw i (.v a) e1).bind fun e2 => stI bw j (.v b) e2).bind fun e3 => stI bw k (.v c) e3)
    | _ => .stuck
  | .pk2 i j ka kb a b, e => (ev cs cf a e).fl fun w1 e1 => (ev cs cf b e1).fl fun w2 e2 => .ofE ((stI bw i (w1.keep ka) e2).bind fun e3 => stI bw j (w2.keep kb) e3)
  | .pk3 i j k ka kb kc a b c, e => (ev cs cf a e).fl fun w1 e1 => (ev cs cf b e1).fl fun w2 e2 => (ev cs cf c e2).fl fun w3 e3 => .ofE (((stI bw i (w1.keep ka) e3).bind fun e4 => stI bw j (w2.keep kb) e4).bind fun e5 => stI bw k (w3.keep kc) e5)
  | .aug i o a, e => match e[i]? with
    | some (some (.v d)) => (ev cs cf a e).fl fun y e1 => match opA o d y.val with
      | some z => .ofE (stI bw i (.v z) e1)
      | none => .stuck
    | _ => .stuck
  | .setI i x a, e => (ev cs cf a e).fl fun w e1 => match e1[i]? with
    | some (some _) => (ev cs cf x e1).fl fun y e2 => match e2[i]?, y.val with
      | some (some (.own ds)), .int k => match ixN ds.length k with
        | some j => .nx (e2.set i (some (.own (ds.set j w.val))))
        | none => .stuck
      | _, _ => .stuck
    | _ => .stuck
  | .app i a, e => match e[i]? with
    | some (some (.own _)) => (ev cs cf a e).fl fun w e1 => match e1[i]? with
      | some (some (.own ds)) => if ds.length < sizeLine then .nx (e1.set i (some (.own (ds ++ [w.val])))) else .stuck
      | _ => .stuck
    | _ => .stuck
  | .ext i a, e => match e[i]? with
    | some (some (.own _)) => (ev cs cf a e).fl fun w e1 => match e1[i]?, w.val with
      | some (some (.own ds)), .list xs => if ds.length + xs.length ≤ sizeLine then .nx (e1.set i (some (.own (ds ++ xs)))) else .stuck
      | _, _ => .stuck
    | _ => .stuck
  | .ret a, e => (ev cs cf a e).fl fun w e1 => .ret w e1
  | .retN, e => .ret (.v .none) e
  | .ite c a b, e => (ev cs cf c e).fl fun x e1 => match x.val with
    | .bool true => ex cs cf bw a e1
    | .bool false => ex cs cf bw b e1
    | _ => .stuck
  | .whl c a, e => whlL (fun e1 => ev cs cf c e1) (fun e1 => ex cs cf bw a e1) most e
  | .for_ t src a, e => (ev cs cf src e).fl fun x e1 => match seqOf x.val with
    | some ds => forL (fun d e2 => match asT bw t d e2 with
        | some e3 => ex cs cf bw a e3
        | none => .stuck) ds e1
    | none => .stuck
  | .brk, e => .bk e
  | .cont, e => .ct e
  | .rs c a, e => (ev cs cf a e).fl fun x e1 => match x with
    | .own [] => .exc c none e1
    | .own [d] => .exc c (some d) e1
    | _ => .stuck
  | .tr n b hs, e => match ex cs cf bw b e with
    | .exc c p e1 => if c < n then exH cs cf bw hs c p e1 else .stuck
    | r => r
  | .hd _ _ _, _ => .stuck
  | .hdA _ _ _ _ _, _ => .stuck
/-- the clauses, one after another -/
def exH (cs : List PyData) (cf : CF) (bw : Bool) : S → Nat → Option PyData → En → Fl
  | .hd d su rest, c, p, e => if d = c then ex cs cf bw su e else exH cs cf bw rest c p e
  | .hdA d i t z rest, c, p, e => if d = c then (clE bw i t z p e) else exH cs cf bw rest c p e
  | .nil, c, p, e => .exc c p e
  | _, _, _, _ => .stuck
end

structure Fn where
  np : Nat
  ns : Nat
  bw : Bool
  body : S
def finF (bw : Bool) : Fl → FR
  | .nx e => .ok (.v .none) (if bw then (e[0]?).join else none)
  | .ret w e => .ok w (if bw then (e[0]?).join else none)
  | .exc c p e => .exc c p (if bw then (e[0]?).join else none)
  | _ => .stuck
def isV : W → Bool
  | .v _ => true
  | _ => false
def evF (cs : List PyData) (tab : List Fn) : Nat → CF
  | 0, _, _ => .stuck
  | k + 1, f, ws => match tab[f]? with
    | none => .stuck
    | some F => if ws.length = F.np ∧ F.np ≤ F.ns ∧ (F.bw || ws.all isV) = true ∧ (ws.drop 1).all isV = true then finF F.bw (ex cs (evF cs tab k) F.bw F.body (ws.map some ++ List.replicate (F.ns - F.np) none)) else .stuck
end TD

namespace TD
open PySem PySem.Spec PyProof.Rows L2
abbrev SS := L2.St

/-! ### data in the heap: lists only at addresses that nobody changes -/
section
variable (K : PySem.W.Frag) (Fz : Addr → Prop) (H : Hp)
mutual
inductive VR : PyData → V → Prop
  | non : VR .none .non
  | bl (b : Bool) : VR (.bool b) (.bl b)
  | int (i : Int) : VR (.int i) (.int i)
  | str (x : Str) : VR (.str x) (.str x)
  | lst {a : Addr} {xs : List V} {ds : List PyData} : Rd H a (.lst xs) → Fz a → VRs ds xs → VR (.list ds) (.ref a)
  | tup {a : Addr} {xs : List V} {ds : List PyData} : SqT K H a xs → VRs ds xs → VR (.tuple ds) (.ref a)
inductive VRs : List PyData → List V → Prop
  | nil : VRs [] []
  | cons {d : PyData} {ds : List PyData} {x : V} {xs : List V} : VR d x → VRs ds xs → VRs (d :: ds) (x :: xs)
end
end

/-- what a part of a run may do: O are the slots' own lists, Fz what nobody changes -/
structure Stp (Fz : Addr → Prop) (O : Addr → Prop) (H : Hp) (Fz' : Addr → Prop) (H' : Hp) : Prop where
  fz : ∀ a, Fz a → Fz' a
  keep : ∀ a o, H a = some o → ¬ O a → H' a = some o
  nfz : ∀ a, Fz' a → Fz a ∨ H a = none ∨ O a
  trk : ∀ a, H' a = none → H a = none

def Ow (e : En) (σ : SS) (a : Addr) : Prop := ∃ (i : Nat) (ds : List PyData), e[i]? = some (some (W.own ds)) ∧ σ[i]? = some (some (V.ref a))

/-- the script, or what stands like it: read alone -/
def Sr (K : PySem.W.Frag) (H : Hp) (a : Addr) (xs : List V) : Prop := (∃ o, H a = some (.frz o (.lst xs))) ∨
  ∃ (o : Obj) (its : Array Value) (n : Nat), K.lookup a = some o ∧ o.cls = .type "list" ∧ o.dict = none ∧ o.data = .seq its n ∧ its.size ≤ sizeLine ∧ Vals xs its.toList
structure Er (K : PySem.W.Frag) (Fz : Addr → Prop) (H : Hp) (e : En) (σ : SS) : Prop where
  len : e.length = σ.length
  vs : ∀ (i : Nat) (d : PyData), e[i]? = some (some (W.v d)) → ∃ x, σ[i]? = some (some x) ∧ VR K Fz H d x
  os : ∀ (i : Nat) (ds : List PyData), e[i]? = some (some (W.own ds)) → ∃ a xs, σ[i]? = some (some (V.ref a)) ∧ H a = some (.lst xs) ∧ ¬ Fz a ∧ VRs K Fz H ds xs
  ss : ∀ (i : Nat) (ds : List PyData), e[i]? = some (some (W.scr ds)) → ∃ a xs, σ[i]? = some (some (V.ref a)) ∧ Sr K H a xs ∧ VRs K Fz H ds xs
  ap : ∀ (i j : Nat) (ds es : List PyData) (a : Addr), e[i]? = some (some (W.own ds)) → e[j]? = some (some (W.own es)) → σ[i]? = some (some (V.ref a)) → σ[j]? = some (some (V.ref a)) → i = j
  ft : ∀ a, Fz a → H a ≠ none

section
variable {K : PySem.W.Frag} {Fz Fz' Fz1 Fz2 O O1 : Addr → Prop} {H H' H1 H2 : Hp}
/-- the lists O can be written, and none is frozen -/
def Ol (Fz O : Addr → Prop) (H : Hp) : Prop := ∀ a, O a → ¬ Fz a ∧ ∃ xs, H a = some (.lst xs)
theorem Er.ol {e : En} {σ : SS} (R : Er K Fz H e σ) : Ol Fz (Ow e σ) H := fun a ⟨i, ds, h1, h2⟩ => by
  obtain ⟨b, xs, h3, h4, h5, _⟩ := R.os i ds h1
  rw [h2] at h3
  cases h3
  exact ⟨h5, xs, h4⟩
theorem sqL_mono (hk : ∀ a o, H a = some o → ¬ O a → H' a = some o) (o : Ol Fz O H) {a : Addr} {xs : List V} (h : Rd H a (.lst xs)) (hf : Fz a) : Rd H' a (.lst xs) := by
  have hn : ¬ O a := fun q => (o a q).1 hf
  rcases h with h | ⟨ob, h⟩
  · exact .inl (hk _ _ h hn)
  · exact .inr ⟨ob, hk _ _ h hn⟩
theorem sqT_mono (hk : ∀ a o, H a = some o → ¬ O a → H' a = some o) (o : Ol Fz O H) {a : Addr} {xs : List V} (h : SqT K H a xs) : SqT K H' a xs := by
  rcases h with (h | ⟨ob, h⟩) | h
  · refine .inl (.inl (hk _ _ h fun q => ?_))
    obtain ⟨_, ys, e⟩ := o a q
    rw [h] at e
    cases e
  · refine .inl (.inr ⟨ob, hk _ _ h fun q => ?_⟩)
    obtain ⟨_, ys, e⟩ := o a q
    rw [h] at e
    cases e
  · exact .inr h
theorem sr_mono (hk : ∀ a o, H a = some o → ¬ O a → H' a = some o) (o : Ol Fz O H) {a : Addr} {xs : List V} (h : Sr K H a xs) : Sr K H' a xs := by
  rcases h with ⟨ob, h⟩ | h
  · refine .inl ⟨ob, hk _ _ h fun q => ?_⟩
    obtain ⟨_, ys, e⟩ := o a q
    rw [h] at e
    cases e
  · exact .inr h
theorem Sr.sq {a : Addr} {xs : List V} (h : Sr K H a xs) : SqL K H a xs := by
  rcases h with h | h
  · exact .inl (.inr h)
  · exact .inr h
mutual
theorem VR.mono' (hz : ∀ a, Fz a → Fz' a) (hk : ∀ a o, H a = some o → ¬ O a → H' a = some o) (o : Ol Fz O H) : ∀ (d : PyData) (x : V), VR K Fz H d x → VR K Fz' H' d x
  | .none, _, h => by cases h; exact .non
  | .bool _, _, h => by cases h; exact .bl _
  | .int _, _, h => by cases h; exact .int _
  | .str _, _, h => by cases h; exact .str _
  | .list ds, _, h => by
    cases h with
    | lst h1 h2 h3 => exact .lst (sqL_mono hk o h1 h2) (hz _ h2) (VRs.mono' hz hk o ds _ h3)
  | .tuple ds, _, h => by
    cases h with
    | tup h1 h3 => exact .tup (sqT_mono hk o h1) (VRs.mono' hz hk o ds _ h3)
  | .dict _, _, h => by cases h
theorem VRs.mono' (hz : ∀ a, Fz a → Fz' a) (hk : ∀ a o, H a = some o → ¬ O a → H' a = some o) (o : Ol Fz O H) : ∀ (ds : List PyData) (xs : List V), VRs K Fz H ds xs → VRs K Fz' H' ds xs
  | [], _, h => by cases h; exact .nil
  | d :: ds, _, h => by
    cases h with
    | cons h1 h2 => exact .cons (VR.mono' hz hk o d _ h1) (VRs.mono' hz hk o ds _ h2)
end
theorem VR.mono (s : Stp Fz O H Fz' H') (o : Ol Fz O H) {d : PyData} {x : V} (h : VR K Fz H d x) : VR K Fz' H' d x := VR.mono' s.fz s.keep o d x h
theorem VRs.mono (s : Stp Fz O H Fz' H') (o : Ol Fz O H) {ds : List PyData} {xs : List V} (h : VRs K Fz H ds xs) : VRs K Fz' H' ds xs := VRs.mono' s.fz s.keep o ds xs h
mutual
theorem VR.dp : ∀ (d : PyData) (x : V), VR K Fz H d x → Dp K H x d
  | .none, _, h => by cases h; exact .non
  | .bool _, _, h => by cases h; exact .bl _
  | .int _, _, h => by cases h; exact .int _
  | .str _, _, h => by cases h; exact .str _
  | .list ds, _, h => by
    cases h with
    | lst h1 h2 h3 => exact .lst (.inl h1) (VRs.dp ds _ h3)
  | .tuple ds, _, h => by
    cases h with
    | tup h1 h3 => exact .tup h1 (VRs.dp ds _ h3)
  | .dict _, _, h => by cases h
theorem VRs.dp : ∀ (ds : List PyData) (xs : List V), VRs K Fz H ds xs → DpAll K H xs ds
  | [], _, h => by cases h; exact .nil
  | d :: ds, _, h => by
    cases h with
    | cons h1 h2 => exact .cons (VR.dp d _ h1) (VRs.dp ds _ h2)
end
theorem VRs.length : ∀ {ds : List PyData} {xs : List V}, VRs K Fz H ds xs → ds.length = xs.length
  | [], _, h => by cases h; rfl
  | d :: ds, _, h => by
    cases h with
    | cons h1 h2 => rw [List.length_cons, List.length_cons, VRs.length h2]
theorem VRs.get : ∀ {ds : List PyData} {xs : List V} {i : Nat} {d : PyData}, VRs K Fz H ds xs → ds[i]? = some d → ∃ x, xs[i]? = some x ∧ VR K Fz H d x
  | [], _, _, _, _, e => by simp at e
  | c :: ds, _, 0, d, h, e => by
    cases h with
    | cons h1 h2 =>
      have e' : c = d := Option.some.inj e
      subst e'
      exact ⟨_, rfl, h1⟩
  | c :: ds, _, i + 1, d, h, e => by
    cases h with
    | cons h1 h2 =>
      obtain ⟨x, q, r⟩ := VRs.get h2 (i := i) e
      exact ⟨x, q, r⟩
theorem VRs.append : ∀ {ds es : List PyData} {xs ys : List V}, VRs K Fz H ds xs → VRs K Fz H es ys → VRs K Fz H (ds ++ es) (xs ++ ys)
  | [], _, _, _, h, g => by cases h; exact g
  | d :: ds, _, _, _, h, g => by
    cases h with
    | cons h1 h2 => exact .cons h1 (VRs.append h2 g)
theorem VRs.take : ∀ {ds : List PyData} {xs : List V} (n : Nat), VRs K Fz H ds xs → VRs K Fz H (ds.take n) (xs.take n)
  | _, _, 0, _ => .nil
  | [], _, n + 1, h => by cases h; exact .nil
  | d :: ds, _, n + 1, h => by
    cases h with
    | cons h1 h2 => exact .cons h1 (VRs.take n h2)
theorem VRs.drop : ∀ {ds : List PyData} {xs : List V} (n : Nat), VRs K Fz H ds xs → VRs K Fz H (ds.drop n) (xs.drop n)
  | _, _, 0, h => h
  | [], _, n + 1, h => by cases h; exact .nil
  | d :: ds, _, n + 1, h => by
    cases h with
    | cons h1 h2 => exact VRs.drop n h2
theorem VRs.set : ∀ {ds : List PyData} {xs : List V} (i : Nat) {d : PyData} {x : V}, VRs K Fz H ds xs → VR K Fz H d x → VRs K Fz H (ds.set i d) (xs.set i x)
  | [], _, _, _, _, h, _ => by cases h; exact .nil
  | _ :: _, _, 0, _, _, h, g => by
    cases h with
    | cons h1 h2 => exact .cons g h2
  | _ :: _, _, i + 1, _, _, h, g => by
    cases h with
    | cons h1 h2 => exact .cons h1 (VRs.set i h2 g)
theorem VRs.reverse {ds : List PyData} {xs : List V} (h : VRs K Fz H ds xs) : VRs K Fz H ds.reverse xs.reverse := by
  induction ds generalizing xs with
  | nil => cases h; exact .nil
  | cons d ds ih =>
    cases h with
    | cons h1 h2 =>
      rw [List.reverse_cons, List.reverse_cons]
      exact (ih h2).append (.cons h1 .nil)
theorem VRs.rep {ds : List PyData} {xs : List V} (h : VRs K Fz H ds xs) : ∀ n : Nat, VRs K Fz H (List.replicate n ds).flatten (List.replicate n xs).flatten
  | 0 => .nil
  | n + 1 => by
    rw [List.replicate_succ, List.replicate_succ, List.flatten_cons, List.flatten_cons]
    exact h.append (VRs.rep h n)
theorem VRs.ints : ∀ {ds : List PyData} {xs : List V} {ns : List Int}, VRs K Fz H ds xs → intsOf ds = some ns → xs = ns.map V.int
  | [], _, ns, h, e => by
    cases h
    cases e
    rfl
  | .int i :: ds, _, ns, h, e => by
    cases h with
    | cons h1 h2 =>
      cases h1
      unfold intsOf at e
      cases q : intsOf ds with
      | none => rw [q] at e; cases e
      | some r =>
        rw [q] at e
        have e' : i :: r = ns := Option.some.inj e
        subst e'
        rw [List.map_cons, VRs.ints h2 q]
  | .none :: _, _, _, _, e => by simp [intsOf] at e
  | .bool _ :: _, _, _, _, e => by simp [intsOf] at e
  | .str _ :: _, _, _, _, e => by simp [intsOf] at e
  | .list _ :: _, _, _, _, e => by simp [intsOf] at e
  | .tuple _ :: _, _, _, _, e => by simp [intsOf] at e
  | .dict _ :: _, _, _, _, e => by simp [intsOf] at e
theorem VRs.bools : ∀ {ds : List PyData} {xs : List V} {ns : List Bool}, VRs K Fz H ds xs → boolsOf ds = some ns → xs = ns.map V.bl
  | [], _, ns, h, e => by
    cases h
    cases e
    rfl
  | .bool i :: ds, _, ns, h, e => by
    cases h with
    | cons h1 h2 =>
      cases h1
      unfold boolsOf at e
      cases q : boolsOf ds with
      | none => rw [q] at e; cases e
      | some r =>
        rw [q] at e
        have e' : i :: r = ns := Option.some.inj e
        subst e'
        rw [List.map_cons, VRs.bools h2 q]
  | .none :: _, _, _, _, e => by simp [boolsOf] at e
  | .int _ :: _, _, _, _, e => by simp [boolsOf] at e
  | .str _ :: _, _, _, _, e => by simp [boolsOf] at e
  | .list _ :: _, _, _, _, e => by simp [boolsOf] at e
  | .tuple _ :: _, _, _, _, e => by simp [boolsOf] at e
  | .dict _ :: _, _, _, _, e => by simp [boolsOf] at e
theorem VRs.of_ints : ∀ ns : List Int, VRs K Fz H (ns.map PyData.int) (ns.map V.int)
  | [] => .nil
  | i :: r => .cons (.int i) (VRs.of_ints r)

theorem Stp.refl : Stp Fz O H Fz H := ⟨fun _ h => h, fun _ _ h _ => h, fun _ h => .inl h, fun _ h => h⟩
theorem Stp.trans (s : Stp Fz O H Fz1 H1) (t : Stp Fz1 O1 H1 Fz2 H2) (h : ∀ a, O1 a → O a ∨ H a = none) : Stp Fz O H Fz2 H2 where
  fz a q := t.fz a (s.fz a q)
  keep a o q n := t.keep a o (s.keep a o q n) fun z => by
    rcases h a z with z | z
    · exact n z
    · rw [q] at z; cases z
  nfz a q := by
    rcases t.nfz a q with z | z | z
    · exact s.nfz a z
    · exact .inr (.inl (s.trk a z))
    · rcases h a z with z | z
      · exact .inr (.inr z)
      · exact .inr (.inl z)
  trk a q := s.trk a (t.trk a q)
/-- something new is laid -/
theorem Stp.new {p : Addr} {o : HO} (h : H p = none) : Stp Fz O H Fz (upd H p o) where
  fz _ q := q
  keep a u q _ := by rw [upd_ne (ne_of_none q h)]; exact q
  nfz _ q := .inl q
  trk a q := by
    by_cases e : a = p
    · rw [e]; exact h
    · rw [upd_ne e] at q; exact q
/-- .. and frozen -/
theorem Stp.newFz {p : Addr} {o : HO} (h : H p = none) : Stp Fz O H (fun a => Fz a ∨ a = p) (upd H p o) where
  fz _ q := .inl q
  keep a u q _ := by rw [upd_ne (ne_of_none q h)]; exact q
  nfz a q := by
    rcases q with q | q
    · exact .inl q
    · rw [q]; exact .inr (.inl h)
  trk a q := by
    by_cases e : a = p
    · rw [e]; exact h
    · rw [upd_ne e] at q; exact q
end

/-! ### from one state to the next, the slots' values as they stand -/
structure Nx (K : PySem.W.Frag) (σ : SS) (Fz : Addr → Prop) (H : Hp) (e : En) (Fz' : Addr → Prop) (H' : Hp) (e' : En) : Prop where
  stp : Stp Fz (Ow e σ) H Fz' H'
  er : Er K Fz' H' e' σ
  own : ∀ a, Ow e' σ a → Ow e σ a
/-- what an expression hands back -/
def Wr (K : PySem.W.Frag) (σ : SS) (H0 : Hp) (e0 : En) (Fz : Addr → Prop) (H : Hp) (e : En) : W → V → Prop
  | .v d, x => VR K Fz H d x
  | .own ds, x => ∃ a xs, x = V.ref a ∧ H a = some (.lst xs) ∧ ¬ Fz a ∧ ¬ Ow e σ a ∧ (H0 a = none ∨ Ow e0 σ a) ∧ VRs K Fz H ds xs
  | .scr _, _ => False
section
variable {K : PySem.W.Frag} {σ : SS} {Fz Fz' Fz1 Fz2 : Addr → Prop} {H H' H1 H2 : Hp} {e e1 e2 : En}
theorem Nx.refl (R : Er K Fz H e σ) : Nx K σ Fz H e Fz H e := ⟨.refl, R, fun _ h => h⟩
theorem Nx.trans (s : Nx K σ Fz H e Fz1 H1 e1) (t : Nx K σ Fz1 H1 e1 Fz2 H2 e2) : Nx K σ Fz H e Fz2 H2 e2 :=
  ⟨s.stp.trans t.stp fun a h => .inl (s.own a h), t.er, fun a h => s.own a (t.own a h)⟩
theorem Nx.vr (R : Er K Fz H e σ) (s : Nx K σ Fz H e Fz1 H1 e1) {d : PyData} {x : V} (h : VR K Fz H d x) : VR K Fz1 H1 d x := h.mono s.stp R.ol
theorem Nx.vrs (R : Er K Fz H e σ) (s : Nx K σ Fz H e Fz1 H1 e1) {d : List PyData} {x : List V} (h : VRs K Fz H d x) : VRs K Fz1 H1 d x := h.mono s.stp R.ol
theorem Wr.shift (s : Nx K σ Fz H e Fz1 H1 e1) {w : W} {x : V} (h : Wr K σ H1 e1 Fz2 H2 e2 w x) : Wr K σ H e Fz2 H2 e2 w x := by
  cases w with
  | v d => exact h
  | own ds =>
    obtain ⟨a, xs, h1, h2, h3, h4, h5, h6⟩ := h
    refine ⟨a, xs, h1, h2, h3, h4, ?_, h6⟩
    rcases h5 with h5 | h5
    · exact .inl (s.stp.trk a h5)
    · exact .inr (s.own a h5)
  | scr ds => exact h
/-- the same slots, the heap grown or more frozen -/
theorem Er.grow (R : Er K Fz H e σ) (s : Stp Fz (Ow e σ) H Fz1 H1) (hO : ∀ a, Ow e σ a → H1 a = H a ∧ ¬ Fz1 a) (hF : ∀ a, Fz1 a → H1 a ≠ none) : Er K Fz1 H1 e σ where
  len := R.len
  vs i d h := by
    obtain ⟨x, q, r⟩ := R.vs i d h
    exact ⟨x, q, r.mono s R.ol⟩
  os i ds h := by
    obtain ⟨a, xs, q, r, n, z⟩ := R.os i ds h
    have ho := hO a ⟨i, ds, h, q⟩
    exact ⟨a, xs, q, by rw [ho.1]; exact r, ho.2, z.mono s R.ol⟩
  ss i ds h := by
    obtain ⟨a, xs, q, r, z⟩ := R.ss i ds h
    exact ⟨a, xs, q, sr_mono s.keep R.ol r, z.mono s R.ol⟩
  ap := R.ap
  ft := hF
theorem Nx.grow (R : Er K Fz H e σ) (s : Stp Fz (Ow e σ) H Fz1 H1) (hO : ∀ a, Ow e σ a → H1 a = H a ∧ ¬ Fz1 a) (hF : ∀ a, Fz1 a → H1 a ≠ none) : Nx K σ Fz H e Fz1 H1 e := ⟨s, R.grow s hO hF, fun _ h => h⟩
theorem Ow.trk (R : Er K Fz H e σ) {a : Addr} (h : Ow e σ a) : ∃ xs, H a = some (.lst xs) := (R.ol a h).2
theorem Nx.new (R : Er K Fz H e σ) {p : Addr} {o : HO} (h : H p = none) : Nx K σ Fz H e Fz (upd H p o) e := by
  refine Nx.grow R (.new h) (fun a ha => ?_) fun a ha z => R.ft a ha ((Stp.new (Fz := Fz) (O := Ow e σ) h).trk a z)
  obtain ⟨xs, q⟩ := ha.trk R
  exact ⟨upd_ne (ne_of_none q h), (R.ol a ha).1⟩
/-- a value is handed on as data: a list is frozen -/
theorem Wr.freeze (s : Nx K σ Fz H e Fz1 H1 e1) {w : W} {x : V} (h : Wr K σ H e Fz1 H1 e1 w x) : ∃ Fz2, Nx K σ Fz H e Fz2 H1 e1 ∧ VR K Fz2 H1 w.val x := by
  cases w with
  | v d => exact ⟨Fz1, s, h⟩
  | own ds =>
    obtain ⟨a, xs, rfl, h2, h3, h4, h5, h6⟩ := h
    have R := s.er
    have hz : ∀ b, Fz1 b → Fz1 b ∨ b = a := fun _ q => .inl q
    have hk : ∀ b o, H1 b = some o → ¬ Ow e1 σ b → H1 b = some o := fun _ _ q _ => q
    refine ⟨fun b => Fz1 b ∨ b = a, ⟨⟨fun b q => .inl (s.stp.fz b q), s.stp.keep, fun b q => ?_, s.stp.trk⟩, ⟨R.len, fun i d q => ?_, fun i es q => ?_, fun i es q => ?_, R.ap, fun b q => ?_⟩, s.own⟩, .lst (.inl h2) (.inr rfl) (VRs.mono' hz hk R.ol _ _ h6)⟩
    · rcases q with q | q
      · exact s.stp.nfz b q
      · rw [q]; exact .inr h5
    · obtain ⟨y, q1, q2⟩ := R.vs i d q
      exact ⟨y, q1, VR.mono' hz hk R.ol _ _ q2⟩
    · obtain ⟨b, ys, q1, q2, q3, q4⟩ := R.os i es q
      refine ⟨b, ys, q1, q2, fun z => ?_, VRs.mono' hz hk R.ol _ _ q4⟩
      rcases z with z | z
      · exact q3 z
      · exact h4 (z ▸ ⟨i, es, q, q1⟩)
    · obtain ⟨b, ys, q1, q2, q4⟩ := R.ss i es q
      exact ⟨b, ys, q1, q2, VRs.mono' hz hk R.ol _ _ q4⟩
    · rcases q with q | q
      · exact R.ft b q
      · rw [q, h2]; exact fun z => nomatch z
  | scr ds => exact h.elim
end
end TD

namespace TD
open PySem PySem.Spec PyProof.Rows L2

/-! ### which text an expression stands for -/
structure Gm where
  fnm : List Str
  cst : List Str
  cls : List Str
  gcd : Bool
  kw : List (Str × List Str)
  isv : Bool
def visB (sc : Scope) (x : Str) : Bool := match sc.names.lookup x with
  | some .local => true
  | some .cell => true
  | some .free => true
  | _ => false
def locB (sc : Scope) (x : Str) : Bool := match sc.names.lookup x with
  | some .local => true
  | some .cell => true
  | _ => false
def glB (sc : Scope) (x : Str) : Bool := match sc.names.lookup x with
  | some .globalImplicit => true
  | _ => false
def nmB (x : Str) : Bool := !(x == ("__debug__" : Str)) && !(x == ("__classdict__" : Str)) && !(x == ("__name__" : Str))
def vrB (N : List Str) (sc : Scope) (i : Nat) (x : Str) : Bool := decide (N[i]? = some x) && visB sc x && nmB x
def notSet : Expr → Bool
  | .Set .. => false
  | _ => true
def notSl : Expr → Bool
  | .Slice .. => false
  | _ => true
def notStar : Expr → Bool
  | .Starred .. => false
  | _ => true
def biB (G : Gm) (b : Bi) (x : Str) : Bool := match b with
  | .len => decide (x = "len")
  | .abs => decide (x = "abs")
  | .min2 => decide (x = "min")
  | .max2 => decide (x = "max")
  | .minL => decide (x = "min")
  | .maxL => decide (x = "max")
  | .sum => decide (x = "sum")
  | .all => decide (x = "all")
  | .any => decide (x = "any")
  | .int1 => decide (x = "int")
  | .tupleOf => decide (x = "tuple")
  | .listOf => decide (x = "list")
  | .gcd => G.gcd && decide (x = "gcd")
  | .sorted => decide (x = "sorted")
def tyS : Ty → Str
  | .int => "int"
  | .bool => "bool"
  | .str => "str"
  | .list => "list"
  | .tuple => "tuple"
def chkTy1 (sc : Scope) (t : Ty) : Expr → Bool
  | .Name x _ => decide (x = tyS t) && glB sc x
  | _ => false
def chkTyL (sc : Scope) : List Ty → List Expr → Bool
  | [], [] => true
  | t :: ts, x :: xs => chkTy1 sc t x && chkTyL sc ts xs
  | _, _ => false
def chkTy (sc : Scope) (ts : List Ty) (x : Expr) : Bool := match ts, x with
  | [t], .Name y p => chkTy1 sc t (.Name y p)
  | ts, .Tuple xs _ _ => decide (ts.length ≤ 8) && chkTyL sc ts xs
  | _, _ => false
mutual
def chkT (N : List Str) (sc : Scope) (fn : Str → Bool) : T → Expr → Bool
  | .n i, .Name x _ => decide (N[i]? = some x) && locB sc x && (fn x || decide (sc.names.lookup x = some .local))
  | .t ts, .Tuple es _ _ => chkTs N sc fn ts es
  | _, _ => false
def chkTs (N : List Str) (sc : Scope) (fn : Str → Bool) : T → List Expr → Bool
  | .nil, [] => true
  | .cons a b, x :: xs => chkT N sc fn a x && chkTs N sc fn b xs
  | _, _ => false
end
def slotsT : T → List Nat
  | .n i => [i]
  | .t ts => slotsT ts
  | .nil => []
  | .cons a b => slotsT a ++ slotsT b
def ownL (N : List Str) (vs : List Nat) : List (Str × Nat) := vs.map fun i => (N.getD i "", i)
def fnS (scope : Scope) (x : Str) : Bool := scope.names.lookup x == some .cell
/-- what may stand as a test -/
def tstB : E → Bool
  | .orT _ _ => false
  | .ite _ _ _ => false
  | .and a b => tstB a && tstB b
  | .or a b => tstB a && tstB b
  | .one a => tstB a
  | .not a => tstB a
  | .lend a => tstB a
  | _ => true
/-- what may be read with the slots' own lists lent -/
def lendB : Expr → Bool
  | .Call _ _ _ _ => true
  | .Compare _ _ _ _ => true
  | _ => false
mutual
def chkE (G : Gm) (N : List Str) : E → Scope → Expr → Bool
  | .var i, sc, .Name x _ => vrB N sc i x
  | .mv i, sc, .Name x _ => vrB N sc i x
  | .int i, _, .Constant (.int j) _ _ => decide (i = j)
  | .str z, _, .Constant (.str y) _ _ => decide (z = y)
  | .bl b, _, .Constant (.bool c) _ _ => decide (b = c)
  | .non, _, .Constant .none _ _ => true
  | .glb j, sc, .Name x _ => decide (G.cst[j]? = some x) && glB sc x && nmB x
  | .bin o a b, sc, .BinOp x p y _ => decide (o = p) && chkE G N a sc x && chkE G N b sc y
  | .neg a, sc, .UnaryOp .USub x _ => chkE G N a sc x
  | .cmp o a b, sc, .Compare x [p] [y] _ => decide (o = p) && notSet y && chkE G N a sc x && chkE G N b sc y
  | .chn o p a b c, sc, .Compare x [q, r] [y, z] _ => decide (o = q) && decide (p = r) && notSet y && notSet z && chkE G N a sc x && chkE G N b sc y && chkE G N c sc z
  | .and a b, sc, .BoolOp .And (x :: y :: r) p => chkE G N a sc x && chkE G N b sc (.BoolOp .And (y :: r) p)
  | .or a b, sc, .BoolOp .Or (x :: y :: r) p => chkE G N a sc x && chkE G N b sc (.BoolOp .Or (y :: r) p)
  | .one a, sc, .BoolOp _ [x] _ => chkE G N a sc x
  | .not a, sc, .UnaryOp .Not x _ => chkE G N a sc x
  | .orT a b, sc, .BoolOp .Or (x :: y :: r) p => chkE G N a sc x && chkE G N b sc (.BoolOp .Or (y :: r) p)
  | .ite c a b, sc, .IfExp t x y _ => tstB c && chkE G N c sc t && chkE G N a sc x && chkE G N b sc y
  | .tup es, sc, .Tuple xs _ _ => chkA G N es sc xs
  | .lst es, sc, .List xs _ => chkA G N es sc xs
  | .ix a i, sc, .Subscript x y _ => notSl y && chkE G N a sc x && chkE G N i sc y
  | .ixV v i, sc, .Subscript (.Name x _) y _ => notSl y && vrB N sc v x && chkE G N i sc y
  | .lenV v, sc, .Call (.Name l _) [.Name x _] [] _ => decide (l = "len") && glB sc l && vrB N sc v x
  | .sl a l h, sc, .Subscript x (.Slice lo hi none _) _ => chkE G N a sc x && (match lo with | none => isNon l | some y => !isNon l && chkE G N l sc y) && (match hi with | none => isNon h | some y => !isNon h && chkE G N h sc y)
  | .slV v l h, sc, .Subscript (.Name x _) (.Slice lo hi none _) _ => vrB N sc v x && (match lo with | none => isNon l | some y => !isNon l && chkE G N l sc y) && (match hi with | none => isNon h | some y => !isNon h && chkE G N h sc y)
  | .rev a, sc, .Subscript x (.Slice none none (some (.UnaryOp .USub (.Constant (.int j) _ _) _)) _) _ => decide (j = 1) && chkE G N a sc x
  | .call f es, sc, .Call (.Name x _) xs [] _ => decide (G.fnm[f]? = some x) && glB sc x && nmB x && chkA G N es sc xs
  | .callB f i es, sc, .Call (.Name x _) (.Name y _ :: xs) [] _ => decide (G.fnm[f]? = some x) && glB sc x && nmB x && vrB N sc i y && chkA G N es sc xs
  | .bi b es, sc, .Call (.Name x _) (y :: xs) [] _ => biB G b x && glB sc x && chkA G N es sc (y :: xs)
  | .isi a ts, sc, .Call (.Name l _) [x, c] [] _ => decide (l = "isinstance") && glB sc l && chkE G N a sc x && chkTy sc ts c
  | .lrg tup es, sc, .Call (.Name l _) [.Call (.Name x _) ys [] _] [] _ => decide (l = if tup then "tuple" else "list") && glB sc l && decide (x = "range") && glB sc x && (ys.length == 1 || ys.length == 2) && chkA G N es sc ys
  | .popV v i, sc, .Call (.Attribute (.Name x _) m ap) [y] [] cp => decide (m = "pop") && (ap.endLine == cp.line) && vrB N sc v x && chkE G N i sc y
  | .lend a, sc, x => lendB x && chkE G N a sc x
  | .callK1 f a, sc, .Call (.Name x _) [] [⟨some n, y, _⟩] _ => decide (G.fnm[f]? = some x) && glB sc x && nmB x && decide ((x, [n]) ∈ G.kw) && chkE G N a sc y
  | .callK2 f a b, sc, .Call (.Name x _) [] [⟨some n, y, _⟩, ⟨some m, z, _⟩] _ => decide (G.fnm[f]? = some x) && glB sc x && nmB x && decide ((x, [n, m]) ∈ G.kw) && chkE G N a sc y && chkE G N b sc z
  | .srt a, sc, .Call (.Name l _) [.Call (.Name s _) [y] [] _] [] _ => decide (l = "sorted") && glB sc l && decide (s = "set") && glB sc s && chkE G N a sc y
  | .lset a, sc, .Call (.Name l _) [.Call (.Name s _) [y] [] _] [] _ => decide (l = "len") && glB sc l && decide (s = "set") && glB sc s && chkE G N a sc y
  | .comp vs t src c el, sc, .ListComp elt gens scope _ => match gens with
    | [⟨tg, iter, ifs, asy⟩] => decide (asy = 0) && blkC N sc scope (ownL N vs) && (slotsT t).all (fun i => vs.contains i) && chkT N (relS scope sc) (fnS scope) t tg &&
      chkI G N src sc tg iter && chkC G N c (relS scope sc) ifs && chkE G N el (relS scope sc) elt
    | _ => false
  | .comp2 vs t src c vs1 t1 src1 c1 el, sc, .ListComp elt gens scope _ => match gens with
    | [⟨tg, iter, ifs, asy⟩, ⟨tg1, iter1, ifs1, asy1⟩] => decide (asy = 0) && decide (asy1 = 0) && blkC N sc scope (ownL N vs) && (slotsT t).all (fun i => vs.contains i) && chkT N (relS scope sc) (fnS scope) t tg &&
      chkI G N src sc tg iter && chkC G N c (relS scope sc) ifs && (vs1.all (fun i => vs.contains i) && (slotsT t1).all (fun i => vs1.contains i) && chkT N (relS scope sc) (fnS scope) t1 tg1 &&
      chkI G N src1 (relS scope sc) tg1 iter1 && chkC G N c1 (relS scope sc) ifs1 && chkE G N el (relS scope sc) elt)
    | _ => false
  | _, _, _ => false
def chkA (G : Gm) (N : List Str) : E → Scope → List Expr → Bool
  | .nil, _, [] => true
  | .cons a es, sc, x :: xs => chkE G N a sc x && chkA G N es sc xs
  | _, _, _ => false
def chkC (G : Gm) (N : List Str) : E → Scope → List Expr → Bool
  | .one a, sc, [x] => tstB a && chkE G N a sc x
  | .bl b, _, [] => b
  | _, _, _ => false
def chkI (G : Gm) (N : List Str) : E → Scope → Expr → Expr → Bool
  | .it .range1 es, sc, _, .Call (.Name x _) [y] [] _ => decide (x = "range") && glB sc x && chkA G N es sc [y]
  | .it .range2 es, sc, _, .Call (.Name x _) [y, z] [] _ => decide (x = "range") && glB sc x && chkA G N es sc [y, z]
  | .it .enum es, sc, .Tuple _ _ _, .Call (.Name x _) [y] [] _ => decide (x = "enumerate") && glB sc x && chkA G N es sc [y]
  | .it .zip es, sc, .Tuple _ _ _, .Call (.Name x _) [y, z] [] _ => decide (x = "zip") && glB sc x && chkA G N es sc [y, z]
  | .one a, sc, _, x => notSet x && chkE G N a sc x
  | _, _, _, _ => false
end
end TD

namespace TD
open PySem PySem.Spec PyProof.Rows L2

/-! ### what a piece of text does, by its end -/
def JE (X : Cx) (x : Expr) : TE := fun σ H Q => ∀ (pins : List (Addr × Obj)) (s : Shared), Inv X pins σ H s → wpAny (model X.prog X.w) X.A (eval x X.env) (EP X pins σ Q) X.xe s
def JT (X : Cx) (x : Expr) : TT := fun σ H Q => ∀ (pins : List (Addr × Obj)) (s : Shared), Inv X pins σ H s → wpAny (model X.prog X.w) X.A (isTrue x X.env (eval x X.env)) (TP X pins σ Q) X.xe s
def JW (X : Cx) (x : Expr) : TT := fun σ H Q => ∀ (whole : Sem Value) (pins : List (Addr × Obj)) (s : Shared), Inv X pins σ H s → wpAny (model X.prog X.w) X.A (isTrue x X.env whole) (TP X pins σ Q) X.xe s
def JA (X : Cx) (xs : List Expr) : TA := fun σ H Q => ∀ (pos : Pos) (pins : List (Addr × Obj)) (s : Shared), Inv X pins σ H s → wpAny (model X.prog X.w) X.A (spliced (backTo pos (starEach xs X.env))) (AP X pins σ Q) X.xe s
section
variable {X : Cx} {x : Expr} {xs : List Expr} {σ : SS} {H : Hp}
theorem JE.pe (X : Cx) (x : Expr) : PE X x (JE X x) := ⟨fun pins s _ _ _ I h => h pins s I⟩
theorem JE.of {t : TE} (h : PE X x t) {Q : VK} (q : t σ H Q) : JE X x σ H Q := fun pins s I => h.run pins s σ H Q I q
theorem JT.pt (X : Cx) (x : Expr) : PT X x (JT X x) := ⟨fun pins s _ _ _ I h => h pins s I⟩
theorem JT.of {t : TT} (h : PT X x t) {Q : Bool → Hp → Prop} (q : t σ H Q) : JT X x σ H Q := fun pins s I => h.run pins s σ H Q I q
theorem JA.pa (X : Cx) (xs : List Expr) : PA X xs (JA X xs) := ⟨fun pos pins s _ _ _ I h => h pos pins s I⟩
theorem JA.of {t : TA} (h : PA X xs t) {Q : List V → Hp → Prop} (q : t σ H Q) : JA X xs σ H Q := fun pos pins s I => h.run pos pins s σ H Q I q
end

/-- an exception's payload at its own dict -/
def Xr (K : PySem.W.Frag) (Fz : Addr → Prop) (H : Hp) : Option PyData → Option Addr → Prop
  | none, d => d = none
  | some q, d => ∃ a f v, d = some a ∧ H a = some (.xd [(f, v)]) ∧ VR K Fz H q v
def Sat (K : PySem.W.Frag) (σ : SS) (cl : Nat → Value) (Wx : WX) (Fz : Addr → Prop) (H : Hp) (e : En) (r : Rs W) (Q : VK) : Prop := match r with
  | .ok w e1 => ∀ Fz1 H1 x, Nx K σ Fz H e Fz1 H1 e1 → Wr K σ H e Fz1 H1 e1 w x → Q x H1
  | .exc c p e1 => ∀ Fz1 H1 d, Nx K σ Fz H e Fz1 H1 e1 → Xr K Fz1 H1 p d → Wx (cl c) d σ H1
  | .stuck => False
def SatA (K : PySem.W.Frag) (σ : SS) (cl : Nat → Value) (Wx : WX) (Fz : Addr → Prop) (H : Hp) (e : En) (r : Rs W) (Q : List V → Hp → Prop) : Prop := match r with
  | .ok (.own ds) e1 => ∀ Fz1 H1 xs, Nx K σ Fz H e Fz1 H1 e1 → VRs K Fz1 H1 ds xs → Q xs H1
  | .ok (.v _) _ => False
  | .ok (.scr _) _ => False
  | .exc c p e1 => ∀ Fz1 H1 d, Nx K σ Fz H e Fz1 H1 e1 → Xr K Fz1 H1 p d → Wx (cl c) d σ H1
  | .stuck => False
section
variable {K : PySem.W.Frag} {σ : SS} {cl : Nat → Value} {Wx : WX} {Fz Fz1 : Addr → Prop} {H H1 : Hp} {e e1 : En}
theorem Sat.shift {r : Rs W} {Q : VK} (s : Nx K σ Fz H e Fz1 H1 e1) (h : Sat K σ cl Wx Fz H e r Q) : Sat K σ cl Wx Fz1 H1 e1 r Q := by
  cases r with
  | ok w e2 => exact fun Fz2 H2 x t q => h Fz2 H2 x (s.trans t) (q.shift s)
  | exc c p e2 => exact fun Fz2 H2 d t q => h Fz2 H2 d (s.trans t) q
  | stuck => exact h
theorem SatA.shift {r : Rs W} {Q : List V → Hp → Prop} (s : Nx K σ Fz H e Fz1 H1 e1) (h : SatA K σ cl Wx Fz H e r Q) : SatA K σ cl Wx Fz1 H1 e1 r Q := by
  cases r with
  | ok w e2 =>
    cases w with
    | own ds => exact fun Fz2 H2 x t q => h Fz2 H2 x (s.trans t) q
    | v d => exact h
    | scr d => exact h
  | exc c p e2 => exact fun Fz2 H2 d t q => h Fz2 H2 d (s.trans t) q
  | stuck => exact h
/-- one after the other; the first's value handed on as data -/
theorem Sat.bindV {r : Rs W} {f : W → En → Rs W} {Q Q1 : VK} (h : Sat K σ cl Wx Fz H e (r.bind f) Q)
    (k : ∀ (w : W) (e1 : En) (Fz1 : Addr → Prop) (H1 : Hp) (x : V), Nx K σ Fz H e Fz1 H1 e1 → VR K Fz1 H1 w.val x → Sat K σ cl Wx Fz1 H1 e1 (f w e1) Q → Q1 x H1) : Sat K σ cl Wx Fz H e r Q1 := by
  cases r with
  | ok w e1 =>
    intro Fz1 H1 x s q
    obtain ⟨Fz2, s2, v⟩ := q.freeze s
    exact k w e1 Fz2 H1 x s2 v (Sat.shift s2 h)
  | exc c p e1 => exact h
  | stuck => exact h
theorem Sat.bindA {r : Rs W} {f : W → En → Rs W} {Q : VK} {Q1 : List V → Hp → Prop} (h : Sat K σ cl Wx Fz H e (r.bind f) Q) (hv : ∀ w e1, (∀ ds, w ≠ W.own ds) → f w e1 = .stuck)
    (k : ∀ (ds : List PyData) (e1 : En) (Fz1 : Addr → Prop) (H1 : Hp) (xs : List V), Nx K σ Fz H e Fz1 H1 e1 → VRs K Fz1 H1 ds xs → Sat K σ cl Wx Fz1 H1 e1 (f (.own ds) e1) Q → Q1 xs H1) : SatA K σ cl Wx Fz H e r Q1 := by
  cases r with
  | ok w e1 =>
    cases w with
    | own ds => exact fun Fz1 H1 xs s q => k ds e1 Fz1 H1 xs s q (Sat.shift s h)
    | v d =>
      have h' : Sat K σ cl Wx Fz H e (f (.v d) e1) Q := h
      rw [hv _ _ (by intro ds z; cases z)] at h'
      exact h'
    | scr d =>
      have h' : Sat K σ cl Wx Fz H e (f (.scr d) e1) Q := h
      rw [hv _ _ (by intro ds z; cases z)] at h'
      exact h'
  | exc c p e1 => exact h
  | stuck => exact h
theorem SatA.bindV {r : Rs W} {f : W → En → Rs W} {Q : List V → Hp → Prop} {Q1 : VK} (h : SatA K σ cl Wx Fz H e (r.bind f) Q)
    (k : ∀ (w : W) (e1 : En) (Fz1 : Addr → Prop) (H1 : Hp) (x : V), Nx K σ Fz H e Fz1 H1 e1 → VR K Fz1 H1 w.val x → SatA K σ cl Wx Fz1 H1 e1 (f w e1) Q → Q1 x H1) : Sat K σ cl Wx Fz H e r Q1 := by
  cases r with
  | ok w e1 =>
    intro Fz1 H1 x s q
    obtain ⟨Fz2, s2, v⟩ := q.freeze s
    exact k w e1 Fz2 H1 x s2 v (SatA.shift s2 h)
  | exc c p e1 => exact h
  | stuck => exact h
theorem SatA.bindA {r : Rs W} {f : W → En → Rs W} {Q Q1 : List V → Hp → Prop} (h : SatA K σ cl Wx Fz H e (r.bind f) Q) (hv : ∀ w e1, (∀ ds, w ≠ W.own ds) → f w e1 = .stuck)
    (k : ∀ (ds : List PyData) (e1 : En) (Fz1 : Addr → Prop) (H1 : Hp) (xs : List V), Nx K σ Fz H e Fz1 H1 e1 → VRs K Fz1 H1 ds xs → SatA K σ cl Wx Fz1 H1 e1 (f (.own ds) e1) Q → Q1 xs H1) : SatA K σ cl Wx Fz H e r Q1 := by
  cases r with
  | ok w e1 =>
    cases w with
    | own ds => exact fun Fz1 H1 xs s q => k ds e1 Fz1 H1 xs s q (SatA.shift s h)
    | v d =>
      have h' : SatA K σ cl Wx Fz H e (f (.v d) e1) Q := h
      rw [hv _ _ (by intro ds z; cases z)] at h'
      exact h'
    | scr d =>
      have h' : SatA K σ cl Wx Fz H e (f (.scr d) e1) Q := h
      rw [hv _ _ (by intro ds z; cases z)] at h'
      exact h'
  | exc c p e1 => exact h
  | stuck => exact h
/-- an answer that is data, at the state that stands -/
theorem Sat.okv {d : PyData} {Q : VK} (R : Er K Fz H e σ) (h : Sat K σ cl Wx Fz H e (.ok (.v d) e) Q) {x : V} (q : VR K Fz H d x) : Q x H := h Fz H x (.refl R) q
/-- a new object as the answer -/
theorem Sat.okt {ds : List PyData} {Q : VK} (R : Er K Fz H e σ) (h : Sat K σ cl Wx Fz H e (.ok (.v (.tuple ds)) e) Q) {xs : List V} (q : VRs K Fz H ds xs) {p : Addr} (hp : H p = none) : Q (.ref p) (upd H p (.tup xs)) := by
  have s : Nx K σ Fz H e Fz (upd H p (.tup xs)) e := Nx.new R hp
  exact h Fz _ _ s (.tup (.inl (.inl upd_same)) (s.vrs R q))
theorem Sat.okl {ds : List PyData} {Q : VK} (R : Er K Fz H e σ) (h : Sat K σ cl Wx Fz H e (.ok (.own ds) e) Q) {xs : List V} (q : VRs K Fz H ds xs) {p : Addr} (hp : H p = none) : Q (.ref p) (upd H p (.lst xs)) := by
  have hO : ¬ Ow e σ p := fun z => by
    obtain ⟨ys, z⟩ := z.trk R
    rw [hp] at z
    cases z
  have hF : ¬ Fz p := fun z => R.ft p z hp
  have s : Nx K σ Fz H e Fz (upd H p (.lst xs)) e := Nx.new R hp
  exact h Fz _ _ s ⟨p, xs, rfl, upd_same, hF, hO, .inl hp, s.vrs R q⟩
end
end TD

namespace TD
open PySem PySem.Spec PyProof.Rows L2

def bltN : List Str := ["len", "abs", "min", "max", "sum", "all", "any", "int", "bool", "str", "tuple", "list", "sorted", "isinstance", "range", "enumerate", "zip", "set"]
/-- what the module's names hold -/
structure Fa (P : Program) (w : World) (K : PySem.W.Frag) (mg : Str → Option Value) (G : Gm) (cs : List PyData) : Prop where
  blt : ∀ x ∈ bltN, mg x = none
  gcd : G.gcd = true → mg "gcd" = some (.builtin "math.gcd")
  cst : ∀ (j : Nat) (x : Str) (d : PyData), G.cst[j]? = some x → cs[j]? = some d → ∃ u v, mg x = some u ∧ RelV v u ∧ ∀ Fz H, VR K Fz H d v
structure Cok (P : Program) (w : World) (K : PySem.W.Frag) (mg : Str → Option Value) (base : Heap) (X : Cx) (N : List Str) (sc : Scope) (k : Nat) (Wx : WX) : Prop where
  prog : X.prog = P
  w : X.w = w
  K : X.K = K
  mg : X.mg = mg
  base : X.base = base
  N : X.N = N
  sc : X.env.scope = sc
  nd : X.N.Nodup
  room : Room k X.A
  calm : X.calm = true
  tk : Takes X Wx
/-- the first argument behind a call -/
def Br (K : PySem.W.Frag) (Fz : Addr → Prop) (H : Hp) : Option W → List V → Prop
  | none, _ => True
  | some (.v d), vs => ∃ x0 r, vs = x0 :: r ∧ VR K Fz H d x0
  | some (.own ds), vs => ∃ a r xs, vs = V.ref a :: r ∧ H a = some (.lst xs) ∧ ¬ Fz a ∧ VRs K Fz H ds xs
  | some (.scr ds), vs => ∃ a r xs, vs = V.ref a :: r ∧ Sr K H a xs ∧ VRs K Fz H ds xs
def bEn : Option W → En
  | none => []
  | some w => [some w]
def spF (K : PySem.W.Frag) (cl : Nat → Value) (cf : CF) (f n : Nat) : Sp := fun vs H Q E => vs.length = n ∧ ∃ (Fz : Addr → Prop) (ws : List W), Er K Fz H (ws.map some) (vs.map some) ∧ match cf f ws with
  | .ok w b => ∀ Fz1 H1 x, Stp Fz (Ow (ws.map some) (vs.map some)) H Fz1 H1 → (∀ a, Fz1 a → H1 a ≠ none) → Br K Fz1 H1 b vs → Wr K (vs.map some) H (ws.map some) Fz1 H1 (bEn b) w x → Q x H1
  | .exc c p b => ∀ Fz1 H1 d, Stp Fz (Ow (ws.map some) (vs.map some)) H Fz1 H1 → (∀ a, Fz1 a → H1 a ≠ none) → Br K Fz1 H1 b vs → Xr K Fz1 H1 p d → E (cl c) d H1
  | .stuck => False
/-- a call with all parameters as keywords, in their order -/
def KwB (K : PySem.W.Frag) (fd : FuncData) (ps : List Str) : Prop := ∀ (s : Shared) (us : List Value), K.In s.heap → us.length = ps.length → BindsTo s fd ⟨[], ps.zip us⟩ (ps.zip us)
/-- the defs keep their promises, at level k -/
def CfOk (P : Program) (w : World) (K : PySem.W.Frag) (mg : Str → Option Value) (base : Heap) (fnm : List Str) (kw : List (Str × List Str)) (cl : Nat → Value) (k : Nat) (cf : CF) : Prop :=
  ∀ (f : Nat) (x : Str), fnm[f]? = some x → ∃ fa fd ps, mg x = some (.ref fa) ∧ PySem.W.keepIn K (.ref fa) = true ∧ Binds K fd ps [] ∧ FnOk P w K mg base (L2.CX P w) k fa fd ps (spF K cl cf f ps.length) ∧ (∀ ws, cf f ws ≠ .stuck → ws.length = ps.length) ∧ ∀ ns, (x, ns) ∈ kw → ns = ps ∧ KwB K fd ps

section
variable {X : Cx} {N : List Str} {sc : Scope}
theorem vis_of {x : Str} (h : visB sc x = true) : Vis sc x := by
  unfold visB at h
  split at h <;> first | exact .inl (by assumption) | exact .inr (.inl (by assumption)) | exact .inr (.inr (by assumption)) | cases h
theorem gl_of {x : Str} (hs : X.env.scope = sc) (h : glB sc x = true) : Gl X x := by
  unfold glB at h
  split at h
  · show X.env.scope.names.lookup x = _
    rw [hs]
    assumption
  · cases h
theorem nm_of {x : Str} (h : nmB x = true) : (x == ("__debug__" : Str)) = false ∧ (x == ("__classdict__" : Str)) = false ∧ x ≠ "__name__" := by
  unfold nmB at h
  simp only [Bool.and_eq_true, Bool.not_eq_true'] at h
  exact ⟨h.1.1, h.1.2, fun e => by rw [e] at h; exact absurd h.2 (by decide +kernel)⟩
theorem star_of {x : Expr} {xs : List Expr} {env : Env} (h : notStar x = true) : starEach (x :: xs) env = (false, eval x env) :: starEach xs env := by
  cases x <;> first | rfl | cases h
theorem stars_of {xs : List Expr} {env : Env} {pos : Pos} (h : xs.all notStar = true) : (backTo pos (starEach xs env)).any (·.1) = false := by
  induction xs with
  | nil => rfl
  | cons x xs ih =>
    rw [List.all_cons, Bool.and_eq_true] at h
    rw [star_of h.1]
    exact ih h.2
end

section
variable {G : Gm} {N : List Str}
theorem chkE_star {e : E} {sc : Scope} {x : Expr} (h : chkE G N e sc x = true) : notStar x = true := by
  cases x <;> first | rfl | (cases e <;> exact (Bool.false_ne_true h).elim)
theorem chkA_star : ∀ {e : E} {sc : Scope} {xs : List Expr}, chkA G N e sc xs = true → xs.all notStar = true
  | .nil, sc, [], _ => rfl
  | .cons a es, sc, x :: xs, h => by
    have h' : (chkE G N a sc x && chkA G N es sc xs) = true := h
    rw [Bool.and_eq_true] at h'
    rw [List.all_cons, Bool.and_eq_true]
    exact ⟨chkE_star h'.1, chkA_star h'.2⟩
theorem chk_bin {o : Operator} {a b : E} {sc : Scope} {x : Expr} (h : chkE G N (.bin o a b) sc x = true) : ∃ y z pos, x = .BinOp y o z pos ∧ chkE G N a sc y = true ∧ chkE G N b sc z = true := by
  cases x <;> first | exact (Bool.false_ne_true h).elim | skip
  rename_i y p z pos
  have h' : (decide (o = p) && chkE G N a sc y && chkE G N b sc z) = true := h
  simp only [Bool.and_eq_true, decide_eq_true_eq] at h'
  obtain ⟨⟨rfl, h1⟩, h2⟩ := h'
  exact ⟨y, z, pos, rfl, h1, h2⟩
end
end TD

set_option maxHeartbeats 1000000
namespace TD
open PySem PySem.Spec PyProof.Rows L2
theorem tuple_mul0W (l : Addr) (items : Array Value) (n : Nat) (dd : Option Addr) (sl : Array (Option Value)) (x : Int) (u : Tok) (c0 : (decide (x < -(2 ^ 63)) || decide (x ≥ 2 ^ 63)) = false) (c1 : (items.isEmpty || x == 1) = false) (c2 : (decide (x ≤ 0) || items.isEmpty) = true) :
    Meets (Builtin.«tuple.__mul__» ⟨[.ref l, .int x u], []⟩) (fun _ R s => s.heap.get? l = some { cls := .type "tuple", dict := dd, data := .seq items n, slots := sl } ∧
      R (.ok (.ret (Value.ref s.heap.objs.size))) { s with heap := s.heap.push { cls := Value.type "tuple", data := Data.seq #[] }, toks := s.toks }) :=
  .of_wp fun prog w A R s h => by
    obtain ⟨hp, g, d, tk, os⟩ := s
    obtain ⟨hl, h⟩ := h
    have f1 := AutoSeq1.idx_int
    wp_walk using wpAny_loadPart' hl
    repeat (first
      | (refine wpAny_ite_false (decide_eq_false (by rw [c0]; exact Bool.false_ne_true)) ?_; wp_walk using wpAny_loadPart' hl)
      | (refine wpAny_ite_false (decide_eq_false (by rw [c1]; exact Bool.false_ne_true)) ?_; wp_walk using wpAny_loadPart' hl)
      | (refine wpAny_ite_true (decide_eq_true c2) ?_; wp_walk using wpAny_loadPart' hl))
    exact ⟨_, rfl, h⟩
theorem tuple_mul1W (l : Addr) (items : Array Value) (n : Nat) (dd : Option Addr) (sl : Array (Option Value)) (u : Tok) :
    Meets (Builtin.«tuple.__mul__» ⟨[.ref l, .int 1 u], []⟩) (fun _ R s => s.heap.get? l = some { cls := .type "tuple", dict := dd, data := .seq items n, slots := sl } ∧
      R (.ok (.ret (Value.ref l))) s) :=
  .of_wp fun prog w A R s h => by
    obtain ⟨hp, g, d, tk, os⟩ := s
    obtain ⟨hl, h⟩ := h
    have f1 := AutoSeq1.idx_int
    have c1 : (items.isEmpty || (1 : Int) == 1) = true := by simp
    wp_walk using wpAny_loadPart' hl
    repeat (first
      | (refine wpAny_ite_false (decide_eq_false (by decide)) ?_; wp_walk using wpAny_loadPart' hl)
      | (refine wpAny_ite_true (decide_eq_true c1) ?_; wp_walk using wpAny_loadPart' hl))
    first | exact ⟨_, rfl, h⟩ | trace_state

def rRepT0 (K : PySem.W.Frag) : R2 := fun x y H Q => ∃ l k xs, x = .ref l ∧ y = .int k ∧ SqT K H l xs ∧ xs ≠ [] ∧ -1000 ≤ k ∧ k ≤ 0 ∧ ∀ p, H p = none → Q (.ref p) (upd H p (.tup []))
def rRepT1 (K : PySem.W.Frag) : R2 := fun x y H Q => ∃ l xs, x = .ref l ∧ y = .int 1 ∧ SqT K H l xs ∧ Q (.ref l) H
section
variable {X : Cx}
theorem op_repT0 : OpR X (binaryOp .Mult) (rRepT0 X.K) := by
  intro pins s σ H x y v u Q I rx ry h
  obtain ⟨l, k, xs, rfl, rfl, hT, hne, h1, h2, q⟩ := h
  cases rx
  obtain ⟨t, rfl⟩ := ry
  obtain ⟨its, r, ⟨⟨cls, dd, data, sl⟩, ho, hc, n, hd⟩, hs⟩ := I.tuple hT
  simp only at hc hd
  subst hc hd
  have hle : its.length = xs.length := r.length.symm
  have hn : its ≠ [] := fun e => hne (by
    rw [e] at hle
    exact List.eq_nil_of_length_eq_zero hle.symm)
  have hi : its.toArray.isEmpty = false := by
    cases its with
    | nil => exact absurd rfl hn
    | cons a b => rfl
  have c0 : (decide (k < -(2 ^ 63)) || decide (k ≥ 2 ^ 63)) = false := by
    rw [decide_eq_false (by omega), decide_eq_false (by omega)] <;> rfl
  have c1 : (its.toArray.isEmpty || k == 1) = false := by
    rw [hi, Bool.false_or]
    exact beq_eq_false_iff_ne.mpr (by omega)
  have c2 : (decide (k ≤ 0) || its.toArray.isEmpty) = true := by
    rw [decide_eq_true h2]; rfl
  refine wpAny_binaryOp_repeat_ref (T := "tuple") (U := "int") (by decide) ⟨_, ho, rfl⟩ (fun s' => typeIs_int s' k t) noFill_tuple_mul F.fills_int_mul F.slot_int_rmul repeat_tuple F.slot_int_index.lookup
    (call_meets F.slot_int_rmul (typeIs_int s k t) F.entry_int_rmul (F.args_int_rmul_2 _ _) (int_rmul_tuple k t l its.toArray n dd sl)
      ⟨ho, rfl, ⟨_, ho, rfl⟩, call_meets F.slot_tuple_mul ⟨_, ho, rfl⟩ F.entry_tuple_mul (F.args_tuple_mul_2 _ _) (tuple_mul0W l its.toArray n dd sl k t c0 c1 c2) ⟨ho, ?_⟩⟩)
  refine ⟨.ref s.heap.objs.size, _, I.laid (t' := s.toks) (o := .tup []) (fun b ob q => Heap.get?_push_of_some _ q) (Nat.le_refl _) ?_, rfl, q _ (I.hok.fresh (Nat.le_refl _))⟩
  exact ⟨Nat.zero_le _, _, .nil, IsTup.new _ _⟩
theorem op_repT1 : OpR X (binaryOp .Mult) (rRepT1 X.K) := by
  intro pins s σ H x y v u Q I rx ry h
  obtain ⟨l, xs, rfl, rfl, hT, q⟩ := h
  cases rx
  obtain ⟨t, rfl⟩ := ry
  obtain ⟨its, r, ⟨⟨cls, dd, data, sl⟩, ho, hc, n, hd⟩, hs⟩ := I.tuple hT
  simp only at hc hd
  subst hc hd
  refine wpAny_binaryOp_repeat_ref (T := "tuple") (U := "int") (by decide) ⟨_, ho, rfl⟩ (fun s' => typeIs_int s' 1 t) noFill_tuple_mul F.fills_int_mul F.slot_int_rmul repeat_tuple F.slot_int_index.lookup
    (call_meets F.slot_int_rmul (typeIs_int s 1 t) F.entry_int_rmul (F.args_int_rmul_2 _ _) (int_rmul_tuple 1 t l its.toArray n dd sl)
      ⟨ho, rfl, ⟨_, ho, rfl⟩, call_meets F.slot_tuple_mul ⟨_, ho, rfl⟩ F.entry_tuple_mul (F.args_tuple_mul_2 _ _) (tuple_mul1W l its.toArray n dd sl t) ⟨ho, ?_⟩⟩)
  exact ⟨.ref l, H, I, rfl, q⟩
def rSortedPT (K : PySem.W.Frag) : List V → Hp → VK → Prop := fun vs H Q => ∃ (a : Addr) (xs : List V) (k : V → Int × Int), vs = [V.ref a] ∧ SqL K H a xs ∧ (∀ x ∈ xs, ∃ t, x = V.ref t ∧ SqT K H t [.int (k x).1, .int (k x).2]) ∧
  ∀ ys p, SrtO.Srtd (ltP k) ys → SrtO.Stb (ltP k) ys xs → H p = none → Q (.ref p) (upd H p (.lst ys))
theorem cr_sortedPT : CallR X (.builtin "sorted") (rSortedPT X.K) := by
  intro pins s σ H vs us Q I r h
  obtain ⟨a, xs, k, rfl, hs, hx, q⟩ := h
  obtain ⟨its, rv, hl, hz⟩ := I.list hs
  obtain ⟨u, rfl, ru⟩ := vals1 r
  obtain rfl : u = Value.ref a := ru
  obtain ⟨e1, e2⟩ := refs_back rv fun x m => by
    obtain ⟨t, e, _⟩ := hx x m
    exact ⟨t, e⟩
  refine SrtO.sorted_pairsO (k := fun u => k (backV u)) hl.isList (by rw [← rv.length]; exact hz) (fun v hv => ?_) fun h' d out h1 h2 kp hd hn => ?_
  · obtain ⟨t, rfl⟩ := e2 v hv
    have hm : V.ref t ∈ xs := by rw [e1]; exact List.mem_map.mpr ⟨_, hv, rfl⟩
    obtain ⟨t', e, ht⟩ := hx _ hm
    cases e
    obtain ⟨its2, r2, ⟨o, ho, hc, n, hd⟩, _⟩ := I.tuple ht
    obtain ⟨u1, u2, rfl, ri, rj⟩ := vals2 r2
    obtain ⟨t1, rfl⟩ := ri
    obtain ⟨t2, rfl⟩ := rj
    exact ⟨t, o, t1, t2, n, rfl, ho, hc, hd⟩
  · have h3 : ∀ u ∈ out, ∃ a, u = Value.ref a := fun u hu => e2 u (h2.perm.mem_iff.mp hu)
    obtain ⟨n, hn⟩ := hn
    have hb : SrtO.Stb (ltP k) (out.map backV) xs := by
      rw [e1]
      exact SrtO.Stb.map (ltP_swo k) backV h2
    refine ⟨.ref d, upd H d (.lst (out.map backV)), I.laid (t' := s.toks) kp hd ⟨?_, out, n, vals_back h3, hn⟩, rfl, q _ d (SrtO.srtd_map h1) hb (I.hok.fresh hd)⟩
    rw [hb.len]
    exact hz
end
/-! pairs in order, in plain Lean -/
theorem insX_perm (a : Int × Int) : ∀ r, (insX a r).Perm (a :: r)
  | [] => .refl _
  | b :: r => by
    unfold insX
    split
    · exact ((insX_perm a r).cons b).trans (.swap a b r)
    · exact .refl _
theorem sortX_perm : ∀ r : List (Int × Int), (sortX r).Perm r
  | [] => .refl _
  | a :: r => (insX_perm a (sortX r)).trans ((sortX_perm r).cons a)
def leX (p q : Int × Int) : Prop := p.1 < q.1 ∨ (p.1 = q.1 ∧ p.2 ≤ q.2)
theorem ltX_iff (p q : Int × Int) : ltX p q = true ↔ p.1 < q.1 ∨ (p.1 = q.1 ∧ p.2 < q.2) := by
  unfold ltX
  simp
theorem insX_sorted (a : Int × Int) : ∀ r : List (Int × Int), r.Pairwise leX → (insX a r).Pairwise leX
  | [], _ => List.pairwise_singleton _ _
  | b :: r, h => by
    unfold insX
    split
    · rename_i c
      rw [ltX_iff] at c
      refine List.pairwise_cons.mpr ⟨fun y hy => ?_, insX_sorted a r (List.pairwise_cons.mp h).2⟩
      rcases List.mem_cons.mp ((insX_perm a r).mem_iff.mp hy) with rfl | hy
      · unfold leX; omega
      · exact (List.pairwise_cons.mp h).1 y hy
    · rename_i c
      rw [ltX_iff] at c
      have hab : leX a b := by unfold leX; omega
      refine List.pairwise_cons.mpr ⟨fun y hy => ?_, h⟩
      rcases List.mem_cons.mp hy with rfl | hy
      · exact hab
      · have := (List.pairwise_cons.mp h).1 y hy
        unfold leX at *
        omega
theorem sortX_sorted : ∀ r : List (Int × Int), (sortX r).Pairwise leX
  | [] => List.Pairwise.nil
  | a :: r => insX_sorted a _ (sortX_sorted r)
theorem leX_anti {a b : Int × Int} (h : leX a b) (h' : leX b a) : a = b := by
  unfold leX at *
  exact Prod.ext (by omega) (by omega)
theorem sortX_one {xs ys : List (Int × Int)} (p : xs.Perm ys) (h1 : xs.Pairwise leX) (h2 : ys.Pairwise leX) : xs = ys :=
  p.eq_of_pairwise (fun a b _ _ h h' => leX_anti h h') h1 h2

/-! ### the operators, by data -/
/-- an answer w at a state -/
def Ans (K : PySem.W.Frag) (w : W) (H : Hp) (Fz : Addr → Prop) (Q : VK) : Prop := ∃ (e : En) (σ : SS) (cl : Nat → Value) (Wx : WX), Er K Fz H e σ ∧ Sat K σ cl Wx Fz H e (.ok w e) Q
section
variable {K : PySem.W.Frag} {H : Hp} {Fz : Addr → Prop} {Q : VK}
theorem Ans.v {d : PyData} (h : Ans K (.v d) H Fz Q) {x : V} (q : VR K Fz H d x) : Q x H := let ⟨_, _, _, _, R, s⟩ := h; s.okv R q
theorem Ans.t {ds : List PyData} (h : Ans K (.v (.tuple ds)) H Fz Q) {xs : List V} (q : VRs K Fz H ds xs) {p : Addr} (hp : H p = none) : Q (.ref p) (upd H p (.tup xs)) := let ⟨_, _, _, _, R, s⟩ := h; s.okt R q hp
theorem Ans.l {ds : List PyData} (h : Ans K (.own ds) H Fz Q) {xs : List V} (q : VRs K Fz H ds xs) {p : Addr} (hp : H p = none) : Q (.ref p) (upd H p (.lst xs)) := let ⟨_, _, _, _, R, s⟩ := h; s.okl R q hp
end
def rBin (K : PySem.W.Frag) (o : Operator) : R2 := fun x y H Q => ∃ Fz d1 d2 w, VR K Fz H d1 x ∧ VR K Fz H d2 y ∧ opB o d1 d2 = some w ∧ Ans K w H Fz Q
theorem ite_some {α : Type} {c : Prop} [Decidable c] {a b : α} (h : (if c then some a else none) = some b) : c ∧ a = b := by
  by_cases q : c
  · rw [if_pos q] at h
    exact ⟨q, Option.some.inj h⟩
  · rw [if_neg q] at h
    cases h
section
variable {X : Cx} {pins : List (Addr × Obj)} {σ : SS} {H : Hp} {s : Shared}
/-- list + list, whoever reads them -/
def rCatR (K : PySem.W.Frag) : R2 := fun x y H Q => ∃ l b xs zs, x = .ref l ∧ y = .ref b ∧ Rd H l (.lst xs) ∧ Rd H b (.lst zs) ∧ xs.length + zs.length ≤ sizeLine ∧ ∀ p, H p = none → Q (.ref p) (upd H p (.lst (xs ++ zs)))
theorem lstRd {l : Addr} {xs : List V} (I : Inv X pins σ H s) (h : Rd H l (.lst xs)) : ∃ (its : List Value) (n : Nat), Vals xs its ∧ xs.length = its.length ∧ s.heap.get? l = some { cls := .type "list", data := .seq its.toArray n } := by
  obtain ⟨z, its, n, r, e⟩ := h.ok I.hok
  exact ⟨its, n, r, r.length, e⟩
theorem op_catR : OpR X (binaryOp .Add) (rCatR X.K) := by
  intro pins s σ H x y v u Q I rx ry h
  obtain ⟨l, b, xs, zs, rfl, rfl, hH, hB, hz, q⟩ := h
  cases rx
  cases ry
  obtain ⟨its, n, r, hl, e⟩ := lstRd I hH
  obtain ⟨its2, n2, r2, hl2, e2⟩ := lstRd I hB
  refine PySem.P.add_list e e2 ?_ (by rw [List.size_toArray, List.size_toArray]; omega)
  have ea : its.toArray ++ its2.toArray = (its ++ its2).toArray := by simp
  rw [ea]
  exact ⟨.ref _, _, I.lnew (t' := s.toks) (r.append r2) (by rw [List.length_append]; omega), rfl, q _ I.fresh⟩
def rRepR : R2 := fun x y H Q => ∃ l k xs, x = .ref l ∧ y = .int k ∧ Rd H l (.lst xs) ∧ -(2 ^ 63) ≤ k ∧ k < 2 ^ 63 ∧ xs.length * k.toNat ≤ sizeLine ∧
  ∀ p, H p = none → Q (.ref p) (upd H p (.lst (List.replicate k.toNat xs).flatten))
theorem op_repR : OpR X (binaryOp .Mult) rRepR := by
  intro pins s σ H x y v u Q I rx ry h
  obtain ⟨l, k, xs, rfl, rfl, hH, h1, h2, hz, q⟩ := h
  cases rx
  obtain ⟨t, rfl⟩ := ry
  obtain ⟨its, n, r, hl, e⟩ := lstRd I hH
  have hlen : its.toArray.size * k.toNat ≤ sizeLine := by rw [List.size_toArray, ← hl]; exact hz
  have hcap : ¬ its.toArray.size * k.toNat > (2 ^ 63 - 1) / 8 := by
    have : (sizeLine : Nat) ≤ (2 ^ 63 - 1) / 8 := by decide
    omega
  have hfit : ¬ (!Builtin.List.listFitsIndex k) = true := by
    rw [fitsIndex_both h1 h2]
    exact Bool.false_ne_true
  have hlong : ¬ Builtin.List.listTooLong (its.toArray.size * k.toNat) = true := by
    rw [notLongL hlen]
    exact Bool.false_ne_true
  have hnew : List.foldl (fun x1 x2 => x1 ++ x2) #[] (List.replicate (if its.toArray.isEmpty = true then 0 else k.toNat) its.toArray) = (List.replicate k.toNat its).flatten.toArray := by
    have f0 : ∀ m : Nat, List.foldl (fun x1 x2 => x1 ++ x2) #[] (List.replicate m its.toArray) = (List.replicate m its).flatten.toArray := fun m => by
      have := foldl_rep its m []
      rw [List.nil_append] at this
      exact this
    rw [f0]
    cases its with
    | nil => simp
    | cons a r' => rw [if_neg (by simp)]
  refine wpAny_binaryOp_repeat_ref (T := "list") (U := "int") (by decide) ⟨_, e, rfl⟩ (fun s' => typeIs_int s' k t) noFill_list_mul F.fills_int_mul F.slot_int_rmul repeat_list F.slot_int_index.lookup
    (call_meets F.slot_int_rmul (typeIs_int s k t) F.entry_int_rmul (F.args_int_rmul_2 _ _) (int___rmul___int_list k t l its.toArray n)
      ⟨e, rfl, ⟨_, e, rfl⟩, call_meets F.slot_list_mul ⟨_, e, rfl⟩ F.entry_list_mul (F.args_list_mul_2 _ _) (AutoListH.list___mul___list_int_3 l its.toArray n k t hfit hcap hlong) ⟨e, ?_⟩⟩)
  rw [hnew]
  exact ⟨.ref _, _, I.lnew (t' := s.toks) (r.rep k.toNat) (by rw [PyProof.Rows.lm_len_rep_flat, Nat.mul_comm]; exact hz), rfl, q _ I.fresh⟩
theorem op_binD (o : Operator) : OpR X (binaryOp o) (rBin X.K o) := by
  intro pins s σ H x y v u Q I rx ry h
  obtain ⟨Fz, d1, d2, w, h1, h2, he, A⟩ := h
  unfold opB at he
  split at he
  · -- int + int
    cases h1; cases h2; cases he
    exact op_add pins s σ H _ _ v u Q I rx ry ⟨_, _, rfl, rfl, A.v (.int _)⟩
  · -- str + str
    cases h1; cases h2
    obtain ⟨c, rfl⟩ := ite_some he
    exact op_add_str pins s σ H _ _ v u Q I rx ry ⟨_, _, rfl, rfl, c, A.v (.str _)⟩
  · -- list + list
    obtain ⟨c, rfl⟩ := ite_some he
    cases h1 with
    | lst a1 a2 a3 =>
      cases h2 with
      | lst b1 b2 b3 =>
        have l1 := a3.length
        have l2 := b3.length
        exact op_catR pins s σ H _ _ v u Q I rx ry ⟨_, _, _, _, rfl, rfl, a1, b1, by omega, fun p hp => A.l (a3.append b3) hp⟩
  · -- tuple + tuple
    obtain ⟨c, rfl⟩ := ite_some he
    cases h1 with
    | tup a1 a3 =>
      cases h2 with
      | tup b1 b3 =>
        have l1 := a3.length
        have l2 := b3.length
        refine op_catA pins s σ H _ _ v u Q I rx ry ⟨_, _, _, _, rfl, rfl, a1, b1, by omega, fun e => ?_, fun e1 e2 => ?_, fun _ _ p hp => A.t (a3.append b3) hp⟩
        · subst e
          cases a3
          exact A.v (.tup b1 b3)
        · subst e2
          cases b3
          rw [List.append_nil] at A
          exact A.v (.tup a1 a3)
  · cases h1; cases h2; cases he
    exact op_sub pins s σ H _ _ v u Q I rx ry ⟨_, _, rfl, rfl, A.v (.int _)⟩
  · -- bool - bool
    cases h1; cases h2; cases he
    cases rx
    cases ry
    exact sub_bool ⟨.int (b2i _ - b2i _), H, I.tok _, ⟨_, rfl⟩, A.v (.int _)⟩
  · -- int * int
    cases h1; cases h2
    obtain ⟨c, rfl⟩ := ite_some he
    unfold mulOk at c
    rw [Bool.or_eq_true, Bool.or_eq_true, decide_eq_true_eq, decide_eq_true_eq, decide_eq_true_eq] at c
    rcases c with (c | c) | c
    · exact op_mul pins s σ H _ _ v u Q I rx ry ⟨_, _, rfl, rfl, .inr ⟨by omega, by omega⟩, A.v (.int _)⟩
    · exact op_mul pins s σ H _ _ v u Q I rx ry ⟨_, _, rfl, rfl, .inl ⟨by omega, by omega⟩, A.v (.int _)⟩
    · exact op_mulW pins s σ H _ _ v u Q I rx ry ⟨_, _, rfl, rfl, c, A.v (.int _)⟩
  · -- list * int
    obtain ⟨⟨c1, c2, c3⟩, rfl⟩ := ite_some he
    cases h2
    cases h1 with
    | lst a1 a2 a3 =>
      have l1 := a3.length
      exact op_repR pins s σ H _ _ v u Q I rx ry ⟨_, _, _, rfl, rfl, a1, c1, c2, by rw [← l1]; exact c3, fun p hp => A.l (a3.rep _) hp⟩
  · -- tuple * int
    obtain ⟨⟨c1, c2, c3, c4⟩, rfl⟩ := ite_some he
    cases h2
    cases h1 with
    | tup a1 a3 =>
      have l1 := a3.length
      rename_i kk aa zs
      have nz : zs ≠ [] := fun e => by
        subst e
        cases a3
        exact c1 rfl
      by_cases k2 : 2 ≤ kk
      · exact op_repT pins s σ H _ _ v u Q I rx ry ⟨_, _, _, rfl, rfl, a1, nz, k2, c3, by omega, fun p hp => A.t (a3.rep _) hp⟩
      · by_cases k1 : kk = 1
        · subst k1
          refine op_repT1 pins s σ H _ _ v u Q I rx ry ⟨_, _, rfl, rfl, a1, A.v (.tup a1 ?_)⟩
          have e : ∀ L : List PyData, (List.replicate (1 : Int).toNat L).flatten = L := fun L => by
            show (List.replicate 1 L).flatten = L
            simp
          rw [e]
          exact a3
        · refine op_repT0 pins s σ H _ _ v u Q I rx ry ⟨_, _, _, rfl, rfl, a1, nz, c2, by omega, fun p hp => A.t ?_ hp⟩
          have e : kk.toNat = 0 := by omega
          rw [e]
          exact .nil
  · -- //
    cases h1; cases h2
    split at he
    · rename_i c
      cases he
      exact op_fdivW pins s σ H _ _ v u Q I rx ry ⟨_, _, rfl, rfl, c, A.v (.int _)⟩
    · obtain ⟨c, rfl⟩ := ite_some he
      exact op_fdivN pins s σ H _ _ v u Q I rx ry ⟨_, _, rfl, rfl, c, A.v (.int _)⟩
  · -- %
    cases h1; cases h2
    split at he
    · rename_i c
      cases he
      exact op_mod pins s σ H _ _ v u Q I rx ry ⟨_, _, rfl, rfl, c, A.v (.int _)⟩
    · obtain ⟨c, rfl⟩ := ite_some he
      exact op_modN pins s σ H _ _ v u Q I rx ry ⟨_, _, rfl, rfl, c, A.v (.int _)⟩
  · -- **
    cases h1; cases h2
    obtain ⟨c, rfl⟩ := ite_some he
    exact op_pow pins s σ H _ _ v u Q I rx ry ⟨_, _, rfl, rfl, c, A.v (.int _)⟩
  · cases he

/-! ### comparisons -/
def rCmp (K : PySem.W.Frag) (o : CmpOp) : R2 := fun x y H Q => ∃ Fz d1 d2 k, VR K Fz H d1 x ∧ VR K Fz H d2 y ∧ opC o d1 d2 = some k ∧ Q (.bl k) H
theorem VRs.flat {K : PySem.W.Frag} {Fz : Addr → Prop} {H : Hp} : ∀ {ds : List PyData} {xs : List V}, VRs K Fz H ds xs → ds.all flatD = true → xs.all flatV = true
  | [], _, h, _ => by cases h; rfl
  | d :: ds, _, h, f => by
    cases h with
    | cons h1 h2 =>
      rw [List.all_cons, Bool.and_eq_true] at f
      rw [List.all_cons, Bool.and_eq_true]
      refine ⟨?_, VRs.flat h2 f.2⟩
      cases h1 <;> first | rfl | exact absurd f.1 (by simp [flatD])
theorem eqV_eqv {K : PySem.W.Frag} {Fz : Addr → Prop} {H : Hp} {d e : PyData} {x y : V} (hd : VR K Fz H d x) (he : VR K Fz H e y) (fd : flatD d = true) (fe : flatD e = true) : eqV x y = PyData.eqv d e := by
  cases hd <;> first | (cases fd; done) | (cases he <;> first | (cases fe; done) | rfl | simp [eqV, PyData.eqv])
theorem inV_any {K : PySem.W.Frag} {Fz : Addr → Prop} {H : Hp} {d : PyData} {x : V} (hd : VR K Fz H d x) (fd : flatD d = true) : ∀ {ds : List PyData} {xs : List V}, VRs K Fz H ds xs → ds.all flatD = true → inV x xs = ds.any fun z => PyData.eqv z d
  | [], _, h, _ => by cases h; rfl
  | e :: ds, _, h, f => by
    cases h with
    | cons h1 h2 =>
      rw [List.all_cons, Bool.and_eq_true] at f
      show (eqV _ x || inV x _) = (PyData.eqv e d || ds.any fun z => PyData.eqv z d)
      rw [inV_any hd fd h2 f.2, eqV_eqv h1 hd f.1 fd]
theorem opEq_ints {i j : Int} {k : Bool} (h : opEq (.int i) (.int j) = some k) : decide (i = j) = k := Option.some.inj h
theorem str1 {a : Str} {c : Nat} (h : a.cps.toList = [c]) : a = ⟨#[c]⟩ := by
  obtain ⟨l⟩ := a
  obtain ⟨l⟩ := l
  have h' : l = [c] := h
  rw [h']
theorem op_eqX (hu : X.A.units + 64 < cLine) : OpR X (compareOp .Eq) (rCmp X.K .Eq) := by
  intro pins s σ H x y v u Q I rx ry h
  obtain ⟨Fz, d1, d2, k, h1, h2, he, q⟩ := h
  have he : opEq d1 d2 = some k := he
  unfold opEq at he
  split at he
  · cases h1; cases h2; cases he
    refine op_eq pins s σ H _ _ v u Q I rx ry ⟨rfl, ?_⟩
    rename_i i j
    have e : decide (V.int i = V.int j) = decide (i = j) := by simp
    rw [e]
    exact q
  · obtain ⟨⟨s1, s2⟩, rfl⟩ := ite_some he
    exact op_eqD hu pins s σ H _ _ v u Q I rx ry ⟨_, _, h1.dp, h2.dp, s1, s2, q⟩
theorem op_neX (hu : X.A.units + 64 < cLine) : OpR X (compareOp .NotEq) (rCmp X.K .NotEq) := by
  intro pins s σ H x y v u Q I rx ry h
  obtain ⟨Fz, d1, d2, k, h1, h2, he, q⟩ := h
  have he : (opEq d1 d2).map (!·) = some k := he
  unfold opEq at he
  split at he
  · cases h1; cases h2; cases he
    refine op_ne pins s σ H _ _ v u Q I rx ry ⟨rfl, ?_⟩
    rename_i i j
    have e : decide (V.int i = V.int j) = decide (i = j) := by simp
    rw [e]
    exact q
  · by_cases c : SeqAt.shaped d1 = true ∧ SeqAt.shaped d2 = true
    · rw [if_pos c] at he
      cases he
      exact op_neD hu pins s σ H _ _ v u Q I rx ry ⟨_, _, h1.dp, h2.dp, c.1, c.2, q⟩
    · rw [if_neg c] at he
      cases he
def rInT (K : PySem.W.Frag) : R2 := fun x y H Q => ∃ d ds, Dp K H x d ∧ Dp K H y (.tuple ds) ∧ SeqAt.shaped d = true ∧ SeqAt.shaped (.tuple ds) = true ∧ Q (.bl (ds.any fun z => PyData.eqv z d)) H
def rNotInT (K : PySem.W.Frag) : R2 := fun x y H Q => ∃ d ds, Dp K H x d ∧ Dp K H y (.tuple ds) ∧ SeqAt.shaped d = true ∧ SeqAt.shaped (.tuple ds) = true ∧ Q (.bl (!ds.any fun z => PyData.eqv z d)) H
theorem op_inT (hu : X.A.units + 65 < cLine) : OpR X (compareOp .In) (rInT X.K) := by
  intro pins s σ H x y v u Q I rx ry h
  obtain ⟨d, ds, hd, he, sd, se, q⟩ := h
  obtain ⟨as, r1⟩ := Dp.reads I d x v hd rx
  obtain ⟨bs, r2⟩ := Dp.reads I (.tuple ds) y u he ry
  exact SeqAt.in_tuple_reads r2 r1 (SeqAt.canLay_of_shaped se) (SeqAt.canLay_of_shaped sd) (room_in_shaped sd hu) ⟨.bl _, H, I, rfl, q⟩
theorem op_notInT (hu : X.A.units + 65 < cLine) : OpR X (compareOp .NotIn) (rNotInT X.K) := by
  intro pins s σ H x y v u Q I rx ry h
  obtain ⟨d, ds, hd, he, sd, se, q⟩ := h
  obtain ⟨as, r1⟩ := Dp.reads I d x v hd rx
  obtain ⟨bs, r2⟩ := Dp.reads I (.tuple ds) y u he ry
  exact SeqAt.notIn_tuple_reads r2 r1 (SeqAt.canLay_of_shaped se) (SeqAt.canLay_of_shaped sd) (room_in_shaped sd hu) ⟨.bl _, H, I, rfl, q⟩
theorem op_inX (hu : X.A.units + 65 < cLine) : OpR X (compareOp .In) (rCmp X.K .In) := by
  intro pins s σ H x y v u Q I rx ry h
  obtain ⟨Fz, d1, d2, k, h1, h2, he, q⟩ := h
  have he : opIn d1 d2 = some k := he
  unfold opIn at he
  split at he
  · obtain ⟨⟨s1, s2⟩, rfl⟩ := ite_some he
    exact op_inD hu pins s σ H _ _ v u Q I rx ry ⟨_, _, h1.dp, h2.dp, s1, s2, q⟩
  · rename_i ds2 _
    by_cases c : flatD d1 = true ∧ ds2.all flatD = true
    case neg =>
      rw [if_neg c] at he
      obtain ⟨⟨s1, s2⟩, rfl⟩ := ite_some he
      exact op_inT hu pins s σ H _ _ v u Q I rx ry ⟨_, _, h1.dp, h2.dp, s1, s2, q⟩
    rw [if_pos c] at he
    obtain ⟨s1, s2⟩ := c
    cases he
    cases h2 with
    | tup b1 b3 =>
      refine op_in_seq pins s σ H _ _ v u Q I rx ry ⟨_, _, rfl, .inr b1, ?_, b3.flat s2, ?_⟩
      · cases h1 <;> first | rfl | exact absurd s1 (by simp [flatD])
      · rw [if_neg Bool.false_ne_true, inV_any h1 s1 b3 s2]
        exact q
  · split at he
    · split at he
      · rename_i c hc
        cases he
        cases h1; cases h2
        exact op_in_sign pins s σ H _ _ v u Q I rx ry ⟨c, _, by rw [str1 hc], rfl, q⟩
      · cases he
    · cases he
  · cases he
theorem op_notInX (hu : X.A.units + 65 < cLine) : OpR X (compareOp .NotIn) (rCmp X.K .NotIn) := by
  intro pins s σ H x y v u Q I rx ry h
  obtain ⟨Fz, d1, d2, k, h1, h2, he, q⟩ := h
  have he : (opIn d1 d2).map (!·) = some k := he
  cases hi : opIn d1 d2 with
  | none => rw [hi] at he; cases he
  | some b =>
    rw [hi] at he
    cases he
    unfold opIn at hi
    split at hi
    · obtain ⟨⟨s1, s2⟩, rfl⟩ := ite_some hi
      exact op_notInD hu pins s σ H _ _ v u Q I rx ry ⟨_, _, h1.dp, h2.dp, s1, s2, q⟩
    · rename_i ds2
      by_cases c : flatD d1 = true ∧ ds2.all flatD = true
      case neg =>
        rw [if_neg c] at hi
        obtain ⟨⟨s1, s2⟩, rfl⟩ := ite_some hi
        exact op_notInT hu pins s σ H _ _ v u Q I rx ry ⟨_, _, h1.dp, h2.dp, s1, s2, q⟩
      rw [if_pos c] at hi
      obtain ⟨s1, s2⟩ := c
      cases hi
      cases h2 with
      | tup b1 b3 =>
        refine op_notIn_seq pins s σ H _ _ v u Q I rx ry ⟨_, _, rfl, .inr b1, ?_, b3.flat s2, ?_⟩
        · cases h1 <;> first | rfl | exact absurd s1 (by simp [flatD])
        · rw [if_pos rfl, inV_any h1 s1 b3 s2]
          exact q
    · split at hi
      · split at hi
        · rename_i c hc
          cases hi
          cases h1; cases h2
          exact op_notIn_sign pins s σ H _ _ v u Q I rx ry ⟨c, _, by rw [str1 hc], rfl, q⟩
        · cases hi
      · cases hi
    · cases hi
theorem op_cmpD (hu : X.A.units + 65 < cLine) (o : CmpOp) : OpR X (compareOp o) (rCmp X.K o) := by
  cases o with
  | Eq => exact op_eqX (by omega)
  | NotEq => exact op_neX (by omega)
  | In => exact op_inX hu
  | NotIn => exact op_notInX hu
  | Lt =>
    intro pins s σ H x y v u Q I rx ry h
    obtain ⟨Fz, d1, d2, k, h1, h2, he, q⟩ := h
    simp only [opC] at he
    split at he
    · cases h1; cases h2; cases he
      exact op_lt pins s σ H _ _ v u Q I rx ry ⟨_, _, rfl, rfl, q⟩
    · cases he
  | LtE =>
    intro pins s σ H x y v u Q I rx ry h
    obtain ⟨Fz, d1, d2, k, h1, h2, he, q⟩ := h
    simp only [opC] at he
    split at he
    · cases h1; cases h2; cases he
      exact op_le pins s σ H _ _ v u Q I rx ry ⟨_, _, rfl, rfl, q⟩
    · cases he
  | Gt =>
    intro pins s σ H x y v u Q I rx ry h
    obtain ⟨Fz, d1, d2, k, h1, h2, he, q⟩ := h
    simp only [opC] at he
    split at he
    · cases h1; cases h2; cases he
      exact op_gt pins s σ H _ _ v u Q I rx ry ⟨_, _, rfl, rfl, q⟩
    · cases he
  | GtE =>
    intro pins s σ H x y v u Q I rx ry h
    obtain ⟨Fz, d1, d2, k, h1, h2, he, q⟩ := h
    simp only [opC] at he
    split at he
    · cases h1; cases h2; cases he
      exact op_ge pins s σ H _ _ v u Q I rx ry ⟨_, _, rfl, rfl, q⟩
    · cases he
  | Is =>
    intro pins s σ H x y v u Q I rx ry h
    obtain ⟨Fz, d1, d2, k, h1, h2, he, q⟩ := h
    simp only [opC] at he
    split at he
    · cases he
      cases h2
      refine op_isN pins s σ H _ _ v u Q I rx ry ⟨rfl, ?_⟩
      cases h1 <;> exact q
    · cases he
  | IsNot =>
    intro pins s σ H x y v u Q I rx ry h
    obtain ⟨Fz, d1, d2, k, h1, h2, he, q⟩ := h
    simp only [opC] at he
    split at he
    · cases he
      cases h2
      refine op_notN pins s σ H _ _ v u Q I rx ry ⟨rfl, ?_⟩
      cases h1 <;> exact q
    · cases he

/-! ### subscripts, slices -/
def rIxD (K : PySem.W.Frag) : R2 := fun x y H Q => ∃ Fz d1 d2 d, VR K Fz H d1 x ∧ VR K Fz H d2 y ∧ opIx d1 d2 = some d ∧ ∀ z, VR K Fz H d z → Q z H
theorem atI_get {α : Type} {xs : List α} {i : Int} {v : α} (h : atI xs i = some v) : ∃ j, ixN xs.length i = some j ∧ xs[j]? = some v := by
  unfold atI at h
  cases e : ixN xs.length i with
  | none => rw [e] at h; cases h
  | some j => rw [e] at h; exact ⟨j, rfl, h⟩
theorem VRs.at {K : PySem.W.Frag} {Fz : Addr → Prop} {H : Hp} {ds : List PyData} {xs : List V} {i : Int} {d : PyData} (h : VRs K Fz H ds xs) (e : atI ds i = some d) : ∃ z, atI xs i = some z ∧ VR K Fz H d z := by
  obtain ⟨j, h1, h2⟩ := atI_get e
  obtain ⟨z, q, r⟩ := h.get h2
  refine ⟨z, ?_, r⟩
  unfold atI
  rw [← h.length, h1]
  exact q
theorem ix_D : IxR X (rIxD X.K) := by
  have hh := IxR.or (X := X) (IxR.or ix_list ix_tup) ix_str
  intro value slice pins s σ H x y v u Q I rx ry h hs
  obtain ⟨Fz, d1, d2, d, h1, h2, he, q⟩ := h
  refine hh value slice pins s σ H x y v u Q I rx ry ?_ hs
  unfold opIx at he
  split at he
  · cases h2
    cases h1 with
    | lst a1 a2 a3 =>
      obtain ⟨z, e1, e2⟩ := a3.at he
      exact .inl (.inl ⟨_, _, _, z, rfl, rfl, .inl a1, e1, q z e2⟩)
  · cases h2
    cases h1 with
    | tup a1 a3 =>
      obtain ⟨z, e1, e2⟩ := a3.at he
      exact .inl (.inr ⟨_, _, _, z, rfl, rfl, a1, e1, q z e2⟩)
  · cases h2; cases h1
    rename_i z i
    by_cases hz : z.length ≤ sizeLine
    · rw [if_pos hz] at he
      cases ec : atI z.cps.toList i with
      | none => rw [ec] at he; cases he
      | some c =>
        rw [ec] at he
        cases he
        exact .inr ⟨z, i, c, rfl, rfl, hz, ec, q _ (.str _)⟩
    · rw [if_neg hz] at he
      cases he
  · cases he
def rSlD (K : PySem.W.Frag) : V → Option Int → Option Int → Hp → VK → Prop := fun x lo hi H Q => ∃ Fz d w, VR K Fz H d x ∧ opSl d lo hi = some w ∧ Ans K w H Fz Q
theorem cutV_cutD {K : PySem.W.Frag} {Fz : Addr → Prop} {H : Hp} {ds : List PyData} {xs : List V} (h : VRs K Fz H ds xs) (lo hi : Option Int) : VRs K Fz H (cutD ds lo hi) (cutV xs lo hi) := by
  unfold cutD cutV
  rw [h.length]
  exact (h.drop _).take _
theorem sl_D : SlR X (rSlD X.K) := by
  have hh := SlR.or (X := X) sl_list sl_tupA
  intro pins s σ H x v vl vu lo hi sl Q I rx hs pl pu h
  obtain ⟨Fz, d, w, h1, he, A⟩ := h
  refine hh pins s σ H x v vl vu lo hi sl Q I rx hs pl pu ?_
  unfold opSl at he
  split at he
  · cases he
    cases h1 with
    | lst a1 a2 a3 => exact .inl ⟨_, _, rfl, .inl a1, fun p hp => A.l (cutV_cutD a3 lo hi) hp⟩
  · cases he
    cases h1 with
    | tup a1 a3 =>
      rename_i ds a xs
      refine .inr ⟨_, _, rfl, a1, fun c => ?_, fun c p hp => A.t (cutV_cutD a3 lo hi) hp⟩
      have e : cutD ds lo hi = ds := by
        have l1 := a3.length
        unfold cutD
        rw [l1, c.1, c.2, List.drop_zero, Nat.sub_zero, ← l1, List.take_length]
      rw [e] at A
      exact A.v (.tup a1 a3)
  · cases he
end
end TD

set_option maxHeartbeats 1000000
namespace TD
open PySem PySem.Spec PyProof.Rows L2
theorem insD_at {a : PyData} {l2 : List PyData} (h2 : ∀ b ∈ l2, PySem.W.dataLt b a = false) : ∀ {l1 : List PyData}, (∀ b ∈ l1, PySem.W.dataLt b a = true) → insD a (l1 ++ l2) = l1 ++ a :: l2
  | [], _ => by
    cases l2 with
    | nil => rfl
    | cons b r =>
      show (if PySem.W.dataLt b a = true then b :: insD a r else a :: b :: r) = _
      rw [h2 b List.mem_cons_self, if_neg Bool.false_ne_true]; rfl
  | b :: r, h1 => by
    show (if PySem.W.dataLt b a = true then b :: insD a (r ++ l2) else a :: b :: (r ++ l2)) = _
    rw [if_pos (h1 b List.mem_cons_self), insD_at h2 fun c hc => h1 c (List.mem_cons_of_mem _ hc)]; rfl
theorem srtD_eq : ∀ xs : List PyData, srtD xs = xs.mergeSort (PySem.W.dataLe false fun d => d)
  | [] => by simp [srtD]
  | a :: r => by
    have T := PySem.W.sortLe_total (PyProof.Rows.listOrd PyProof.Rows.itemOrd) false fun d : PyData => PySem.W.keyToks d
    have tot : ∀ a b : PyData, (PySem.W.dataLe false (fun d => d) a b || PySem.W.dataLe false (fun d => d) b a) = true := fun a b => by
      rw [Bool.or_eq_true]; exact T.total a b
    obtain ⟨l1, l2, h1, h2, h3⟩ := List.mergeSort_cons (le := PySem.W.dataLe false fun d : PyData => d) T.trans tot a r
    show insD a (srtD r) = _
    rw [srtD_eq r, h2, h1]
    refine insD_at (fun b hb => ?_) fun b hb => ?_
    · have s := List.pairwise_mergeSort (le := PySem.W.dataLe false fun d : PyData => d) T.trans tot (a :: r)
      rw [h1] at s
      have := (List.pairwise_cons.mp (List.pairwise_append.mp s).2.1).1 b hb
      have : (!PySem.W.dataLt b a) = true := this
      rw [Bool.not_eq_true'] at this
      exact this
    · have := h3 b hb
      have : (!!PySem.W.dataLt b a) = true := this
      rw [Bool.not_not] at this
      exact this
section
variable {prog : Program} {w : World} {A : Around} {E : Value → Shared → Prop} {s : Shared}
open PySem.Calls in
theorem collect_tup {l : Addr} {vs : List Value} {Q : List Value → Shared → Prop} (hl : s.heap.IsTuple l vs.toArray)
    (h : Q vs { s with heap := (s.heap.push (seqObj "list" #[] 0)).update s.heap.objs.size (Obj.mapSeq (· ++ vs.toArray)) }) (hsz : vs.length ≤ sizeLine) :
    wpAny (model prog w) A (collect (.ref l)) Q E s := by
  obtain ⟨o, ho, hc, n, hd⟩ := id hl
  unfold collect
  refine wpAny_bind (wpAny_runValue (codeAny_builtin entry_proto_collect' ?_))
  show wpAny _ _ (do again (.builtin "list.__iadd__" ⟨[← newList [], .ref l], []⟩)) _ _ s
  refine wpAny_bind (wpAny_newList (wpAny_pure ⟨Code.quiet_builtin _ (by decide +kernel), codeAny_builtin entry_list_iadd' ?_⟩))
  show wpAny _ _ (Builtin.List.listExtendWith (.ref s.heap.objs.size) (.ref l) (.ref s.heap.objs.size)) _ _ { s with heap := s.heap.push (seqObj "list" #[] 0) }
  unfold Builtin.List.listExtendWith
  have ho' : (s.heap.push (seqObj "list" #[] 0)).get? l = some o := Heap.get?_push_of_some _ ho
  refine wpAny_bind (wpAny_typeOf (T := "tuple") ⟨o, ho', hc⟩ ?_)
  have ht : (Value.type "tuple" == Value.type "tuple") = true := by rfl
  rw [if_pos (by rw [ht]; simp)]
  refine wpAny_bind (listItems_at ho' hd ?_)
  refine wpAny_bind (listItems_at (xs := #[]) (n := 0) (Heap.get?_push_size _ rfl) rfl ?_)
  rw [if_neg (by simp)]
  refine wpAny_bind (listUpdate_at (xs := #[]) (n := 0) (Heap.get?_push_size _ rfl) rfl ?_ (Nat.zero_le _) (by show (#[] ++ vs.toArray).size ≤ sizeLine + 1; simp only [Array.size_append, List.size_toArray, List.length_nil]; omega))
  refine wpAny_pure ?_
  show wpAny (model prog w) A (do
      let o ← load s.heap.objs.size
      match o.data with
      | .seq xs _ => pure xs.toList
      | _ => unsupported "internal:collect") Q E { s with heap := (s.heap.push (seqObj "list" #[] 0)).update s.heap.objs.size (Obj.mapSeq (· ++ vs.toArray)) }
  refine wpAny_bind (wpAny_load (get?_update_seq (Heap.get?_push_size _ rfl) _) ?_)
  show wpAny _ _ (pure ((#[] : Array Value) ++ vs.toArray).toList) Q E _
  rw [show ((#[] : Array Value) ++ vs.toArray).toList = vs by simp]
  exact wpAny_pure h
open PySem.Calls in
theorem sorted_tup_vals {κ : PyProof.Rows.KeyKind} {l : Addr} {vs : List Value} {Q : Value → Shared → Prop} (hl : s.heap.IsTuple l vs.toArray) (S : PySem.W.SortsAt prog w A.in1.in1 { s with heap := PySem.W.sortingHeap (PySem.W.copyHeap s.heap vs) (s.heap.objs.size + 1) vs } κ vs) (hL : vs.length ≤ sizeLine)
    (h : Q (.ref (s.heap.objs.size + 1)) { s with heap := sortedAll s.heap vs (PySem.W.sortVals κ false vs vs).toArray }) : wpAny (model prog w) A (call (.builtin "sorted") [.ref l]) Q E s := by
  refine call_function_entry_kw kind_sorted plain_sorted entry_sorted (PyProof.Rows.args_sorted1 _) ?_
  unfold Builtin.«sorted»
  refine wpAny_bind (m := checkCount "sorted" 1 1 _) (wpAny_pure ?_)
  refine wpAny_bind (collect_tup hl ?_ hL)
  refine wpAny_bind (wpAny_newList ?_ hL)
  have hsz : ((s.heap.push (seqObj "list" #[] 0)).update s.heap.objs.size (Obj.mapSeq (· ++ vs.toArray))).objs.size = s.heap.objs.size + 1 := by
    rw [Heap.size_update, size_push']
  show wpAny _ _ _ _ _ { s with heap := PySem.W.copyHeap s.heap vs }
  rw [hsz]
  refine wpAny_bind (wpAny_holding (wpAny_call_entry_kw slot_list_sort ⟨_, PySem.W.copyHeap_at s.heap vs, rfl⟩ entry_list_sort ?body (PyProof.Rows.args_list_sort _)))
  case body =>
    show wpAny (model prog w) A.in1.in1 (Builtin.«list.sort» ⟨[.ref (s.heap.objs.size + 1)], []⟩) _ _ _
    refine wpAny_mono (PySem.W.list_sort_vals (P := fun f s' => f = .done (.ret .none) ∧ Q (.ref (s.heap.objs.size + 1)) s') (E := fun _ _ => False) (s := { s with heap := PySem.W.copyHeap s.heap vs }) (PySem.W.copyHeap_at s.heap vs) S hL ⟨rfl, h⟩) (fun f s' hf => ?_) fun _ _ e => e.elim
    obtain ⟨rfl, hq⟩ := hf
    exact ⟨_, rfl, wpAny_pure ⟨_, rfl, hq⟩⟩
theorem sorted_tup_data {β : Type} {vs : List Value} {bs : List β} {enc : β → PyData} {R : Value → β → Prop} {l : Addr} {Q : Value → Shared → Prop} (hl : s.heap.IsTuple l vs.toArray) (e : PySem.W.EachIs R vs bs) (er : PySem.W.EachIs (fun v b => ∃ as, Reads s.heap v (enc b) as) vs bs) (hal : PySem.W.AllAlike (bs.map enc)) (hk : PySem.W.Sortable (bs.map enc)) (hL : bs.length ≤ sizeLine)
    (hu : ∀ b, b ∈ bs → A.units + 2 + (enc b).depth < cLine) (h : ∀ out, out.length = bs.length → PySem.W.EachIs R out (bs.mergeSort (PySem.W.dataLe false enc)) → Q (.ref (s.heap.objs.size + 1)) { s with heap := sortedAll s.heap vs (List.toArray out) }) :
    wpAny (model prog w) A (call (.builtin "sorted") [.ref l]) Q E s := by
  have er' : PySem.W.EachIs (fun v b => ∃ as, Reads (PySem.W.sortingHeap (PySem.W.copyHeap s.heap vs) (s.heap.objs.size + 1) vs) v (enc b) as) vs bs := er.mono fun _ _ ⟨as, r⟩ => ⟨as, PyProof.Rows.Reads.keeps (fun _ _ => PySem.W.sorting_copy_old) r⟩
  exact sorted_tup_vals hl (PySem.W.SortsAt.data (s := { s with heap := PySem.W.sortingHeap (PySem.W.copyHeap s.heap vs) (s.heap.objs.size + 1) vs }) (PySem.W.each_map (R := fun v d => ∃ as, Reads (PySem.W.sortingHeap (PySem.W.copyHeap s.heap vs) (s.heap.objs.size + 1) vs) v d as) enc er') hal hk (PySem.W.bound_map hu)) (by rw [e.length]; exact hL)
    (h _ (by rw [PySem.W.sortVals_length false rfl]; exact e.length) (PySem.W.sortVals_data false e er' hal))
end
/-! ### as calls -/
theorem each_zip {K : PySem.W.Frag} {Fz : Addr → Prop} {H : Hp} : ∀ {xs : List PyData} {ys : List V} {us : List Value}, VRs K Fz H xs ys → Vals ys us → PySem.W.EachIs (fun (v : Value) (b : PyData × V) => RelV b.2 v ∧ VR K Fz H b.1 b.2) us (xs.zip ys)
  | [], _, _, h, r => by
    cases h
    cases r
    exact .nil
  | d :: ds, _, _, h, r => by
    cases h with
    | cons h1 h2 =>
      cases r with
      | cons r1 r2 => exact .cons ⟨r1, h1⟩ (each_zip h2 r2)
theorem each_back {K : PySem.W.Frag} {Fz : Addr → Prop} {H : Hp} : ∀ {us : List Value} {bs : List (PyData × V)}, PySem.W.EachIs (fun (v : Value) (b : PyData × V) => RelV b.2 v ∧ VR K Fz H b.1 b.2) us bs → VRs K Fz H (bs.map Prod.fst) (bs.map Prod.snd) ∧ Vals (bs.map Prod.snd) us
  | _, _, .nil => ⟨.nil, .nil⟩
  | _, _, .cons h t => ⟨.cons h.2 (each_back t).1, .cons h.1 (each_back t).2⟩
theorem zip_fst {K : PySem.W.Frag} {Fz : Addr → Prop} {H : Hp} : ∀ {xs : List PyData} {ys : List V}, VRs K Fz H xs ys → (xs.zip ys).map Prod.fst = xs
  | [], _, _ => by simp
  | d :: ds, _, h => by
    cases h with
    | cons h1 h2 => rw [List.zip_cons_cons, List.map_cons, zip_fst h2]
theorem alk_all {xs : List PyData} (h : alkB xs = true) : PySem.W.AllAlike xs := fun d hd d' hd' => List.all_eq_true.mp (List.all_eq_true.mp h d hd) d' hd'
theorem srt_kind {xs : List PyData} (h : (xs.all fullTup || xs.all notTup) = true) : PySem.W.Sortable xs := by
  rw [Bool.or_eq_true] at h
  rcases h with h | h
  · refine .inl fun d hd => ?_
    have := List.all_eq_true.mp h d hd
    cases d with
    | tuple l =>
      cases l with
      | nil => exact (Bool.false_ne_true this).elim
      | cons x r => exact ⟨x, r, rfl⟩
    | _ => exact (Bool.false_ne_true this).elim
  · refine .inr fun d hd => ?_
    have := List.all_eq_true.mp h d hd
    cases d <;> first | exact (Bool.false_ne_true this).elim | exact ⟨(by intro z; cases z), (by intro _ z; cases z)⟩
section
variable {X : Cx}
theorem call_srtD (hu : X.A.units + 66 < cLine) {pins : List (Addr × Obj)} {s : Shared} {σ : SS} {H : Hp} {us : List Value} {a : Addr} {Fz : Addr → Prop} {xs : List PyData} {ys : List V} {Q : VK} (I : Inv X pins σ H s) (r : Vals [V.ref a] us)
    (ha : Rd H a (.lst ys) ∨ SqT X.K H a ys) (hv : VRs X.K Fz H xs ys) (hb : srtB xs = true) (A : Ans X.K (.own (srtD xs)) H Fz Q) : wpAny (model X.prog X.w) X.A (call (.builtin "sorted") us) (fun v s1 => ∃ x H1, Inv X pins σ H1 s1 ∧ RelV x v ∧ Q x H1) X.xe s := by
  unfold srtB at hb
  rw [Bool.and_eq_true, Bool.and_eq_true] at hb
  obtain ⟨⟨b1, b2⟩, b3⟩ := hb
  rw [Vals.ref1 r]
  have fin : ∀ (its : List Value), Vals ys its → ys.length ≤ sizeLine → ∀ out : List Value, out.length = (xs.zip ys).length → PySem.W.EachIs (fun (v : Value) (b : PyData × V) => RelV b.2 v ∧ VR X.K Fz H b.1 b.2) out ((xs.zip ys).mergeSort (PySem.W.dataLe false Prod.fst)) → ∃ x H1, Inv X pins σ H1 { s with heap := sortedAll s.heap its (List.toArray out) } ∧ RelV x (.ref (s.heap.objs.size + 1)) ∧ Q x H1 := by
    intro its rv hz out hl he
    obtain ⟨g1, g2⟩ := each_back he
    have em : ((xs.zip ys).mergeSort (PySem.W.dataLe false Prod.fst)).map Prod.fst = srtD xs := by
      have e0 := List.map_mergeSort (r := PySem.W.dataLe false (Prod.fst : PyData × V → PyData)) (s := PySem.W.dataLe false fun d : PyData => d) (f := Prod.fst) (l := xs.zip ys) (fun _ _ _ _ => rfl)
      rw [srtD_eq, e0, zip_fst hv]
    rw [em] at g1
    obtain ⟨ep, he'⟩ := PyProof.Rows.sortedAll_at s.heap its out.toArray
    have hlen : (((xs.zip ys).mergeSort (PySem.W.dataLe false Prod.fst)).map Prod.snd).length ≤ sizeLine := by
      rw [g2.length, hl, List.length_zip]
      exact Nat.le_trans (Nat.min_le_right _ _) hz
    exact ⟨.ref _, upd H (s.heap.objs.size + 1) (.lst (((xs.zip ys).mergeSort (PySem.W.dataLe false Prod.fst)).map Prod.snd)), I.laid (t' := s.toks) (fun _ _ => PyProof.Rows.sortedAll_old) (Nat.le_succ _) ⟨hlen, out, ep, g2, he'⟩, rfl, A.l g1 (I.hok.fresh (Nat.le_succ _))⟩
  have hal : PySem.W.AllAlike ((xs.zip ys).map Prod.fst) := by rw [zip_fst hv]; exact alk_all b1
  have hk : PySem.W.Sortable ((xs.zip ys).map Prod.fst) := by rw [zip_fst hv]; exact srt_kind b3
  have hd : ∀ b ∈ xs.zip ys, X.A.units + 2 + b.1.depth < cLine := fun b hb => by
    have hm : b.1 ∈ xs := (List.of_mem_zip (a := b.1) (b := b.2) hb).1
    have := SeqAt.depth_of_shaped (List.all_eq_true.mp b2 b.1 hm)
    omega
  have er : ∀ {its : List Value}, PySem.W.EachIs (fun (v : Value) (b : PyData × V) => RelV b.2 v ∧ VR X.K Fz H b.1 b.2) its (xs.zip ys) → PySem.W.EachIs (fun v b => ∃ as, Reads s.heap v b.1 as) its (xs.zip ys) := fun e => e.mono fun v b ⟨q1, q2⟩ => Dp.reads I b.1 b.2 v q2.dp q1
  rcases ha with ha | ha
  · obtain ⟨its, rv, hl, hz⟩ := I.list (.inl ha)
    have e := each_zip hv rv
    exact PySem.W.sorted_data hl.isList e (er e) hal hk (by rw [List.length_zip]; exact Nat.le_trans (Nat.min_le_right _ _) hz) hd (fun out h1 h2 => fin its rv hz out h1 h2)
  · obtain ⟨its, rv, ht, hz⟩ := I.tuple ha
    have e := each_zip hv rv
    exact sorted_tup_data ht e (er e) hal hk (by rw [List.length_zip]; exact Nat.le_trans (Nat.min_le_right _ _) hz) hd (fun out h1 h2 => fin its rv hz out h1 h2)
theorem vals_ix : ∀ {ys : List V} {us : List Value} {i : Nat} {u : Value}, Vals ys us → us[i]? = some u → ∃ y, ys[i]? = some y ∧ RelV y u
  | _, _, 0, u, .cons h t, e => by
    cases e
    exact ⟨_, rfl, h⟩
  | _, _, i + 1, u, .cons h t, e => vals_ix (i := i) t e
theorem vrs_ix {K : PySem.W.Frag} {Fz : Addr → Prop} {H : Hp} : ∀ {xs : List PyData} {ys : List V} {i : Nat} {y : V}, VRs K Fz H xs ys → ys[i]? = some y → ∃ d, xs[i]? = some d ∧ VR K Fz H d y
  | _, _, 0, y, .cons h t, e => by
    cases e
    exact ⟨_, rfl, h⟩
  | _, _, i + 1, y, .cons h t, e => vrs_ix (i := i) t e
theorem call_minD (hc : X.calm = true) (hu : X.A.units + 66 < cLine) {pins : List (Addr × Obj)} {s : Shared} {σ : SS} {H : Hp} {us : List Value} {a : Addr} {Fz : Addr → Prop} {x : PyData} {xs : List PyData} {ys : List V} {Q : VK} (I : Inv X pins σ H s) (r : Vals [V.ref a] us)
    (ha : Rd H a (.lst ys) ∨ SqT X.K H a ys) (hv : VRs X.K Fz H (x :: xs) ys) (hb : minB (x :: xs) = true) (A : Ans X.K (.v (PySem.W.minD x xs)) H Fz Q) : wpAny (model X.prog X.w) X.A (call (.builtin "min") us) (fun v s1 => ∃ x H1, Inv X pins σ H1 s1 ∧ RelV x v ∧ Q x H1) X.xe s := by
  unfold minB at hb
  rw [Bool.and_eq_true, Bool.and_eq_true] at hb
  obtain ⟨⟨b1, b2⟩, b3⟩ := hb
  rw [Vals.ref1 r]
  have hal : PySem.W.AlikeAll (x :: xs) := ⟨alk_all b1, fun d hd => by
    have := List.all_eq_true.mp b3 d hd
    intro z
    subst z
    exact (Bool.false_ne_true this).elim⟩
  have hd : X.A.units + 1 + PyData.depthAll (x :: xs) < cLine := by
    have h1 := SeqAt.depth_of_shaped b2
    have h2 : PyData.depth (.tuple (x :: xs)) = PyData.depthAll (x :: xs) + 1 := by simp [PyData.depth]
    omega
  have fin : ∀ (its : List Value), Vals ys its → ∀ (i : Nat) (v : Value) (h' : Heap) (tk : Nat) (bs : List Addr), its.toArray[i]? = some v → Reads h' v (PySem.W.minD x xs) bs → (∀ b o, s.heap.get? b = some o → h'.get? b = some o) → ∃ x H1, Inv X pins σ H1 { s with heap := h', toks := tk } ∧ RelV x v ∧ Q x H1 := by
    intro its rv i v h' tk bs e1 e2 e3
    rw [List.getElem?_toArray] at e1
    obtain ⟨y, g1, g2⟩ := vals_ix rv e1
    obtain ⟨d, g3, g4⟩ := vrs_ix hv g1
    obtain ⟨as, g5⟩ := Dp.reads I d y v g4.dp g2
    have g6 := (PyProof.Rows.reads_det (fun b o q _ => e3 b o q) g5 e2).1
    rw [← g6] at g4
    exact ⟨y, H, I.kept e3, g2, A.v g4⟩
  rcases ha with ha | ha
  · obtain ⟨its, rv, hl, hz⟩ := I.list (.inl ha)
    obtain ⟨as, hr⟩ := Dp.readsAll I (x :: xs) ys its hv.dp rv
    exact PySem.W.min_list_data (I.ok.hd hc) hl.isList hr hal hd (fun i v h' tk bs e1 e2 e3 => fin its rv i v h' tk bs e1 e2 e3)
  · obtain ⟨its, rv, ht, hz⟩ := I.tuple ha
    obtain ⟨as, hr⟩ := Dp.readsAll I (x :: xs) ys its hv.dp rv
    exact PySem.W.min_tuple_data (I.ok.hd hc) ht hr hal hd (fun i v h' tk bs e1 e2 e3 => fin its rv i v h' tk bs e1 e2 e3)
end
section
variable {prog : Program} {w : World} {A : Around} {E : Value → Shared → Prop} {s : Shared} {l : Addr} {xs : Array (Int × Tok)}
theorem iter_intTup {Q : Value → Shared → Prop} (hl : s.heap.IsTuple l (intItems xs))
    (h : ∀ s₂ : Shared, s₂ = { s with heap := s.heap.push { cls := .type "tuple_iterator", data := .fields #[.ref l, .int 0 0] } } →
      (s₂.heap.IsTupleIter s.heap.objs.size l 0 ∧ s₂.heap.IsTuple l (intItems xs)) → (∀ b ∈ [s.heap.objs.size, l], b < s₂.heap.objs.size) → l ≠ s.heap.objs.size → Q (.ref s.heap.objs.size) s₂) :
    wpAny (model prog w) A (pyIter (.ref l)) Q E s := by
  have hlt : l < s.heap.objs.size := by obtain ⟨_, e, _⟩ := hl; exact Heap.lt_size e
  refine wpAny_pyIter_tuple hl (h _ rfl ⟨⟨_, Heap.get?_push_size _ rfl, rfl, rfl⟩, hl.at fun o e => Heap.get?_push_of_some _ e⟩ (fun b hb => ?_) (Nat.ne_of_lt hlt))
  show b < (s.heap.push _).objs.size
  rw [Heap.size_push]
  rcases List.mem_cons.mp hb with rfl | hb
  · exact Nat.lt_succ_self _
  · rcases List.mem_cons.mp hb with rfl | hb
    · exact Nat.lt_succ_of_lt hlt
    · cases hb
theorem old_keptT {h' : Heap} (hk : ∀ b o, b ∉ [s.heap.objs.size] → (s.heap.push { cls := .type "tuple_iterator", data := .fields #[.ref l, .int 0 0] }).get? b = some o → h'.get? b = some o) :
    ∀ b o, s.heap.get? b = some o → h'.get? b = some o := fun b o e => by
  refine hk b o (fun hm => ?_) (Heap.get?_push_of_some _ e)
  rcases List.mem_cons.mp hm with e1 | hm
  · exact absurd (e1 ▸ Heap.lt_size e) (Nat.lt_irrefl _)
  · cases hm
theorem min_intTup {Q : Value → Shared → Prop} (hh : A.handled = none) (hl : s.heap.IsTuple l (intItems xs)) (hne : 0 < xs.size)
    (h : ∀ v h' tk, (intItems xs)[argBest (fun i j => decide (numAt xs i < numAt xs j)) (xs.size - 1)]? = some v → (∀ b o, s.heap.get? b = some o → h'.get? b = some o) → Q v { s with heap := h', toks := tk }) :
    wpAny (model prog w) A (call (.builtin "min") [.ref l]) Q E s := by
  refine call_min_walk (iter_intTup hl fun s₂ e st hfp hlI => ?_)
  subst e
  refine ⟨_, _, _, _, _, _, _, rfl, Walks.tuple (A := A.in1) hh _ l hlI (intItems xs), st, hfp, by simpa [intItems] using hne, CmpOf.ints_lt (numAt xs) (fun _ _ => intItems_at), fun v h' tk hP hk => ?_⟩
  exact h v h' tk (by simpa [intItems] using hP) (old_keptT hk)
theorem max_intTup {Q : Value → Shared → Prop} (hh : A.handled = none) (hl : s.heap.IsTuple l (intItems xs)) (hne : 0 < xs.size)
    (h : ∀ v h' tk, (intItems xs)[argBest (fun i j => decide (numAt xs i > numAt xs j)) (xs.size - 1)]? = some v → (∀ b o, s.heap.get? b = some o → h'.get? b = some o) → Q v { s with heap := h', toks := tk }) :
    wpAny (model prog w) A (call (.builtin "max") [.ref l]) Q E s := by
  refine call_max_walk (iter_intTup hl fun s₂ e st hfp hlI => ?_)
  subst e
  refine ⟨_, _, _, _, _, _, _, rfl, Walks.tuple (A := A.in1) hh _ l hlI (intItems xs), st, hfp, by simpa [intItems] using hne, CmpOf.ints_gt (numAt xs) (fun _ _ => intItems_at), fun v h' tk hP hk => ?_⟩
  exact h v h' tk (by simpa [intItems] using hP) (old_keptT hk)
theorem sum_intTup {Q : Value → Shared → Prop} (hh : A.handled = none) (hl : s.heap.IsTuple l (intItems xs)) (h : ∀ h' tk t', (∀ b o, s.heap.get? b = some o → h'.get? b = some o) → Q (.int (preSum (numAt xs) xs.size) t') { s with heap := h', toks := tk }) : wpAny (model prog w) A (call (.builtin "sum") [.ref l]) Q E s := by
  refine call_sum_walkG (iter_intTup hl fun s₂ e st hfp hlI => ?_)
  subst e
  refine ⟨_, _, _, _, _, _, numAt xs, rfl, Walks.tuple (A := A.in1) hh _ l hlI (intItems xs), st, hfp, fun _ _ g => intItems_at g, fun h' tk t' hk => ?_⟩
  have q := h h' tk t' (old_keptT hk)
  simpa [intItems] using q
variable {its : List Value} {ns : List Int} {Q : Value → Shared → Prop}
theorem sum_rawT (hh : A.handled = none) (hl : s.heap.IsTuple l its.toArray) (hi : IntsAre its ns)
    (h : ∀ h' tk t', (∀ b o, s.heap.get? b = some o → h'.get? b = some o) → Q (.int ns.sum t') { s with heap := h', toks := tk }) : wpAny (model prog w) A (call (.builtin "sum") [.ref l]) Q E s := by
  obtain ⟨xs, e⟩ := hi.allInts.items
  have hn : numsOf (intItems xs).toList = ns := by rw [← e]; exact hi.numsOf
  rw [nums_intItems] at hn
  rw [e] at hl
  refine sum_intTup hh hl fun h' tk t' hk => ?_
  have q := h h' tk t' hk
  rw [← hn] at q
  rw [preSum_eq, List.take_of_length_le (by simp)]
  exact q
theorem max_rawT (hh : A.handled = none) (hl : s.heap.IsTuple l its.toArray) (hi : IntsAre its ns) (hne : 0 < ns.length)
    (h : ∀ h' tk M t', (∀ b o, s.heap.get? b = some o → h'.get? b = some o) → M ∈ ns → (∀ a, a ∈ ns → a ≤ M) → Q (.int M t') { s with heap := h', toks := tk }) : wpAny (model prog w) A (call (.builtin "max") [.ref l]) Q E s := by
  obtain ⟨xs, e⟩ := hi.allInts.items
  have hn : numsOf (intItems xs).toList = ns := by rw [← e]; exact hi.numsOf
  rw [nums_intItems] at hn
  subst hn
  rw [e] at hl
  have hsz : 0 < xs.size := by simpa using hne
  refine max_intTup hh hl hsz fun v h' tk hv hk => ?_
  obtain ⟨t, rfl⟩ := intItems_at hv
  obtain ⟨h1, h2⟩ := argBest_gt (numAt xs) (xs.size - 1)
  refine h h' tk _ t hk ?_ fun a ha => ?_
  · rw [numAt_eq]; exact PySem.getD_mem (by rw [List.length_map, Array.length_toList]; omega)
  · obtain ⟨j, hj, rfl⟩ := mem_getD ha
    rw [List.length_map, Array.length_toList] at hj
    rw [← numAt_eq]; exact h2 j (by omega)
theorem min_rawT (hh : A.handled = none) (hl : s.heap.IsTuple l its.toArray) (hi : IntsAre its ns) (hne : 0 < ns.length)
    (h : ∀ h' tk M t', (∀ b o, s.heap.get? b = some o → h'.get? b = some o) → M ∈ ns → (∀ a, a ∈ ns → M ≤ a) → Q (.int M t') { s with heap := h', toks := tk }) : wpAny (model prog w) A (call (.builtin "min") [.ref l]) Q E s := by
  obtain ⟨xs, e⟩ := hi.allInts.items
  have hn : numsOf (intItems xs).toList = ns := by rw [← e]; exact hi.numsOf
  rw [nums_intItems] at hn
  subst hn
  rw [e] at hl
  have hsz : 0 < xs.size := by simpa using hne
  refine min_intTup hh hl hsz fun v h' tk hv hk => ?_
  obtain ⟨t, rfl⟩ := intItems_at hv
  obtain ⟨h1, h2⟩ := argBest_lt (numAt xs) (xs.size - 1)
  refine h h' tk _ t hk ?_ fun a ha => ?_
  · rw [numAt_eq]; exact PySem.getD_mem (by rw [List.length_map, Array.length_toList]; omega)
  · obtain ⟨j, hj, rfl⟩ := mem_getD ha
    rw [List.length_map, Array.length_toList] at hj
    rw [← numAt_eq]; exact h2 j (by omega)
end
section
variable {X : Cx}
def rMaxT (K : PySem.W.Frag) : List V → Hp → VK → Prop := fun vs H Q => ∃ (a : Addr) (ns : List Int), vs = [V.ref a] ∧ SqT K H a (ns.map V.int) ∧ 0 < ns.length ∧ ∀ m, m ∈ ns → (∀ y, y ∈ ns → y ≤ m) → Q (.int m) H
def rMinT (K : PySem.W.Frag) : List V → Hp → VK → Prop := fun vs H Q => ∃ (a : Addr) (ns : List Int), vs = [V.ref a] ∧ SqT K H a (ns.map V.int) ∧ 0 < ns.length ∧ ∀ m, m ∈ ns → (∀ y, y ∈ ns → m ≤ y) → Q (.int m) H
def rSumT (K : PySem.W.Frag) : List V → Hp → VK → Prop := fun vs H Q => ∃ (a : Addr) (ns : List Int), vs = [V.ref a] ∧ SqT K H a (ns.map V.int) ∧ Q (.int ns.sum) H
theorem cr_sumT (hc : X.calm = true) : CallR X (.builtin "sum") (rSumT X.K) := by
  rintro pins s σ H vs us Q I r ⟨a, ns, rfl, hs, q⟩
  obtain ⟨its, rv, hl, _⟩ := I.tuple hs
  rw [Vals.ref1 r]
  exact sum_rawT (I.ok.hd hc) (show s.heap.IsTuple a its.toArray from hl) rv.ints fun h' tk t' hk => ⟨.int _, H, I.kept hk, ⟨_, rfl⟩, q⟩
theorem cr_maxT (hc : X.calm = true) : CallR X (.builtin "max") (rMaxT X.K) := by
  intro pins s σ H vs us Q I r h
  obtain ⟨a, ns, rfl, hs, hne, q⟩ := h
  obtain ⟨its, rv, hl, _⟩ := I.tuple hs
  rw [Vals.ref1 r]
  exact max_rawT (I.ok.hd hc) (show s.heap.IsTuple a its.toArray from hl) rv.ints hne fun h' tk m t' hk h1 h2 => ⟨.int _, H, I.kept hk, ⟨_, rfl⟩, q m h1 h2⟩
theorem cr_minT (hc : X.calm = true) : CallR X (.builtin "min") (rMinT X.K) := by
  intro pins s σ H vs us Q I r h
  obtain ⟨a, ns, rfl, hs, hne, q⟩ := h
  obtain ⟨its, rv, hl, _⟩ := I.tuple hs
  rw [Vals.ref1 r]
  exact min_rawT (I.ok.hd hc) (show s.heap.IsTuple a its.toArray from hl) rv.ints hne fun h' tk m t' hk h1 h2 => ⟨.int _, H, I.kept hk, ⟨_, rfl⟩, q m h1 h2⟩
end

/-! ### built-in functions, by data -/
theorem leastI_spec : ∀ (a : Int) (r : List Int), leastI a r ∈ a :: r ∧ ∀ y ∈ a :: r, leastI a r ≤ y
  | a, [] => ⟨List.mem_cons_self, fun y hy => by simp at hy; subst hy; exact Int.le_refl _⟩
  | a, b :: r => by
    obtain ⟨h1, h2⟩ := leastI_spec (if b < a then b else a) r
    have e : leastI a (b :: r) = leastI (if b < a then b else a) r := rfl
    rw [e]
    have hm : leastI (if b < a then b else a) r ≤ (if b < a then b else a) := h2 _ List.mem_cons_self
    refine ⟨?_, fun y hy => ?_⟩
    · rcases List.mem_cons.mp h1 with q | q
      · by_cases c : b < a
        · rw [if_pos c] at q ⊢
          rw [q]
          exact List.mem_cons_of_mem _ List.mem_cons_self
        · rw [if_neg c] at q ⊢
          rw [q]
          exact List.mem_cons_self
      · exact List.mem_cons_of_mem _ (List.mem_cons_of_mem _ q)
    · rcases List.mem_cons.mp hy with rfl | hy
      · refine Int.le_trans hm ?_
        split <;> omega
      · rcases List.mem_cons.mp hy with rfl | hy
        · refine Int.le_trans hm ?_
          split <;> omega
        · exact h2 y (List.mem_cons_of_mem _ hy)
theorem mostI_spec : ∀ (a : Int) (r : List Int), mostI a r ∈ a :: r ∧ ∀ y ∈ a :: r, y ≤ mostI a r
  | a, [] => ⟨List.mem_cons_self, fun y hy => by simp at hy; subst hy; exact Int.le_refl _⟩
  | a, b :: r => by
    obtain ⟨h1, h2⟩ := mostI_spec (if a < b then b else a) r
    have e : mostI a (b :: r) = mostI (if a < b then b else a) r := rfl
    rw [e]
    have hm : (if a < b then b else a) ≤ mostI (if a < b then b else a) r := h2 _ List.mem_cons_self
    refine ⟨?_, fun y hy => ?_⟩
    · rcases List.mem_cons.mp h1 with q | q
      · by_cases c : a < b
        · rw [if_pos c] at q ⊢
          rw [q]
          exact List.mem_cons_of_mem _ List.mem_cons_self
        · rw [if_neg c] at q ⊢
          rw [q]
          exact List.mem_cons_self
      · exact List.mem_cons_of_mem _ (List.mem_cons_of_mem _ q)
    · rcases List.mem_cons.mp hy with rfl | hy
      · refine Int.le_trans ?_ hm
        split <;> omega
      · rcases List.mem_cons.mp hy with rfl | hy
        · refine Int.le_trans ?_ hm
          split <;> omega
        · exact h2 y (List.mem_cons_of_mem _ hy)
theorem insI_perm (a : Int) : ∀ r : List Int, (insI a r).Perm (a :: r)
  | [] => .refl _
  | b :: r => by
    unfold insI
    split
    · exact .refl _
    · exact ((insI_perm a r).cons b).trans (.swap a b r)
theorem sortI_perm : ∀ r : List Int, (sortI r).Perm r
  | [] => .refl _
  | a :: r => (insI_perm a (sortI r)).trans ((sortI_perm r).cons a)
theorem insI_sorted (a : Int) : ∀ r : List Int, r.Pairwise (· ≤ ·) → (insI a r).Pairwise (· ≤ ·)
  | [], _ => List.pairwise_singleton _ _
  | b :: r, h => by
    unfold insI
    split
    · rename_i c
      refine List.pairwise_cons.mpr ⟨fun y hy => ?_, h⟩
      rcases List.mem_cons.mp hy with rfl | hy
      · exact c
      · exact Int.le_trans c ((List.pairwise_cons.mp h).1 y hy)
    · rename_i c
      refine List.pairwise_cons.mpr ⟨fun y hy => ?_, insI_sorted a r (List.pairwise_cons.mp h).2⟩
      rcases List.mem_cons.mp ((insI_perm a r).mem_iff.mp hy) with rfl | hy
      · omega
      · exact (List.pairwise_cons.mp h).1 y hy
theorem sortI_sorted : ∀ r : List Int, (sortI r).Pairwise (· ≤ ·)
  | [] => List.Pairwise.nil
  | a :: r => insI_sorted a _ (sortI_sorted r)
theorem sorted_one {xs ys : List Int} (p : xs.Perm ys) (h1 : xs.Pairwise (· ≤ ·)) (h2 : ys.Pairwise (· ≤ ·)) : xs = ys :=
  p.eq_of_pairwise (fun a b _ _ h h' => Int.le_antisymm h h') h1 h2

theorem key_vrs {K : PySem.W.Frag} {Fz : Addr → Prop} {H : Hp} {f : V → PyData} : ∀ {ys : List V}, (∀ y ∈ ys, VR K Fz H (f y) y) → VRs K Fz H (ys.map f) ys
  | [], _ => .nil
  | y :: ys, h => .cons (h y List.mem_cons_self) (key_vrs fun z hz => h z (List.mem_cons_of_mem _ hz))
open Classical in
noncomputable def keyP (K : PySem.W.Frag) (H : Hp) (x : V) : Int × Int := if q : ∃ p : Int × Int, ∃ t, x = V.ref t ∧ SqT K H t [.int p.1, .int p.2] then q.choose else (0, 0)
theorem keyP_eq {X : Cx} {pins : List (Addr × Obj)} {σ : SS} {H : Hp} {s : Shared} (I : Inv X pins σ H s) {t : Addr} {a b : Int} (h : SqT X.K H t [.int a, .int b]) : keyP X.K H (V.ref t) = (a, b) := by
  have q : ∃ p : Int × Int, ∃ t', V.ref t = V.ref t' ∧ SqT X.K H t' [.int p.1, .int p.2] := ⟨(a, b), t, rfl, h⟩
  have e : keyP X.K H (V.ref t) = q.choose := dif_pos q
  obtain ⟨t', e1, e2⟩ := q.choose_spec
  rw [e]
  have e3 : t = t' := V.ref.inj e1
  rw [← e3] at e2
  have := I.tuple_inj e2 h
  injection this with u1 u2
  injection u2 with u3 u4
  exact Prod.ext (V.int.inj u1) (V.int.inj u3)
theorem pairs_key {X : Cx} {pins : List (Addr × Obj)} {σ : SS} {H : Hp} {s : Shared} (I : Inv X pins σ H s) {Fz : Addr → Prop} : ∀ {ds : List PyData} {xs : List V} {ps : List (Int × Int)}, pairsOf ds = some ps → VRs X.K Fz H ds xs →
    (∀ x ∈ xs, ∃ t, x = V.ref t ∧ SqT X.K H t [.int (keyP X.K H x).1, .int (keyP X.K H x).2]) ∧ xs.map (keyP X.K H) = ps
  | [], _, ps, e, h => by
    cases h
    cases e
    exact ⟨fun x hx => (by cases hx), rfl⟩
  | .tuple [.int a, .int b] :: r, _, ps, e, h => by
    cases h with
    | cons h1 h2 =>
      have e' : (pairsOf r).map ((a, b) :: ·) = some ps := e
      cases q : pairsOf r with
      | none => rw [q] at e'; cases e'
      | some qs =>
        rw [q] at e'
        cases e'
        obtain ⟨k1, k2⟩ := pairs_key I q h2
        cases h1 with
        | tup g1 g2 =>
          cases g2 with
          | cons u1 u2 =>
            cases u2 with
            | cons u3 u4 =>
              cases u4
              cases u1
              cases u3
              have e := keyP_eq I g1
              refine ⟨fun x hx => ?_, by rw [List.map_cons, k2, e]⟩
              rw [List.mem_cons] at hx
              rcases hx with rfl | hx
              · exact ⟨_, rfl, by rw [e]; exact g1⟩
              · exact k1 x hx
def rBi (K : PySem.W.Frag) (b : Bi) : List V → Hp → VK → Prop := fun xs H Q => ∃ Fz ds w, VRs K Fz H ds xs ∧ opBi b ds = some w ∧ Ans K w H Fz Q
/-- how a built-in is called -/
def biFn : Bi → String ⊕ String
  | .len => .inl "len"
  | .abs => .inl "abs"
  | .min2 => .inl "min"
  | .max2 => .inl "max"
  | .minL => .inl "min"
  | .maxL => .inl "max"
  | .sum => .inl "sum"
  | .all => .inl "all"
  | .any => .inl "any"
  | .int1 => .inr "int"
  | .tupleOf => .inr "tuple"
  | .listOf => .inr "list"
  | .gcd => .inl "math.gcd"
  | .sorted => .inl "sorted"
def biVal (b : Bi) : Value := match biFn b with
  | .inl s => .builtin s
  | .inr s => .type s
section
variable {X : Cx}
theorem call_bi (hc : X.calm = true) (hu : X.A.units + 66 < cLine) (b : Bi) : CallR X (biVal b) (rBi X.K b) := by
  intro pins s σ H xs us Q I r h
  obtain ⟨Fz, ds, w, hv, he, A⟩ := h
  unfold opBi at he
  split at he
  · -- len of a list
    cases he
    cases hv with
    | cons h1 h2 =>
      cases h2
      cases h1 with
      | lst a1 a2 a3 =>
        refine call_len_seq pins s σ H _ us Q I r ⟨_, _, rfl, .inl (.inl a1), ?_⟩
        rw [← a3.length]
        exact A.v (.int _)
  · cases he
    cases hv with
    | cons h1 h2 =>
      cases h2
      cases h1 with
      | tup a1 a3 =>
        refine call_len_seq pins s σ H _ us Q I r ⟨_, _, rfl, .inr a1, ?_⟩
        rw [← a3.length]
        exact A.v (.int _)
  · obtain ⟨c, rfl⟩ := ite_some he
    cases hv with
    | cons h1 h2 =>
      cases h2
      cases h1
      exact call_len_str pins s σ H _ us Q I r ⟨_, rfl, c, A.v (.int _)⟩
  · cases he
    cases hv with
    | cons h1 h2 =>
      cases h2
      cases h1
      exact call_abs pins s σ H _ us Q I r ⟨_, rfl, A.v (.int _)⟩
  · cases he
    cases hv with
    | cons h1 h2 =>
      cases h2 with
      | cons h2 h3 =>
        cases h3
        cases h1
        cases h2
        exact call_min2 hc pins s σ H _ us Q I r ⟨_, _, rfl, A.v (.int _)⟩
  · cases he
    cases hv with
    | cons h1 h2 =>
      cases h2 with
      | cons h2 h3 =>
        cases h3
        cases h1
        cases h2
        exact call_max2 hc pins s σ H _ us Q I r ⟨_, _, rfl, A.v (.int _)⟩
  · -- sum
    rename_i xs'
    cases q : intsOf xs' with
    | none => rw [q] at he; cases he
    | some ns =>
      rw [q] at he
      cases he
      cases hv with
      | cons h1 h2 =>
        cases h2
        cases h1 with
        | lst a1 a2 a3 =>
          have e := a3.ints q
          subst e
          exact cr_sum hc pins s σ H _ us Q I r ⟨_, _, rfl, .inl a1, A.v (.int _)⟩
  · -- sum of a tuple
    rename_i xs'
    cases q : intsOf xs' with
    | none => rw [q] at he; cases he
    | some ns =>
      rw [q] at he
      cases he
      cases hv with
      | cons h1 h2 =>
        cases h2
        cases h1 with
        | tup a1 a3 =>
          have e := a3.ints q
          subst e
          exact cr_sumT hc pins s σ H _ us Q I r ⟨_, _, rfl, a1, A.v (.int _)⟩
  · -- min
    split at he
    · rename_i a r' q
      cases he
      cases hv with
      | cons h1 h2 =>
        cases h2
        cases h1 with
        | lst a1 a2 a3 =>
          have e := a3.ints q
          subst e
          refine cr_min hc pins s σ H _ us Q I r ⟨_, _, rfl, .inl a1, by simp, fun m hm hl => ?_⟩
          obtain ⟨z1, z2⟩ := leastI_spec a r'
          have e : m = leastI a r' := Int.le_antisymm (hl _ z1) (z2 _ hm)
          rw [e]
          exact A.v (.int _)
    · rename_i hno
      have he : mnW _ = some w := he
      unfold mnW at he
      split at he
      · obtain ⟨c, rfl⟩ := ite_some he
        cases hv with
        | cons h1 h2 =>
          cases h2
          cases h1 with
          | lst a1 a2 a3 => exact call_minD hc hu I r (.inl a1) a3 c A
      · cases he
  · -- min of a tuple
    split at he
    · rename_i a r' q
      cases he
      cases hv with
      | cons h1 h2 =>
        cases h2
        cases h1 with
        | tup a1 a3 =>
          have e := a3.ints q
          subst e
          refine cr_minT hc pins s σ H _ us Q I r ⟨_, _, rfl, a1, by simp, fun m hm hl => ?_⟩
          obtain ⟨z1, z2⟩ := leastI_spec a r'
          have e : m = leastI a r' := Int.le_antisymm (hl _ z1) (z2 _ hm)
          rw [e]
          exact A.v (.int _)
    · rename_i hno
      have he : mnW _ = some w := he
      unfold mnW at he
      split at he
      · obtain ⟨c, rfl⟩ := ite_some he
        cases hv with
        | cons h1 h2 =>
          cases h2
          cases h1 with
          | tup a1 a3 => exact call_minD hc hu I r (.inr a1) a3 c A
      · cases he
  · -- max
    split at he
    · rename_i a r' q
      cases he
      cases hv with
      | cons h1 h2 =>
        cases h2
        cases h1 with
        | lst a1 a2 a3 =>
          have e := a3.ints q
          subst e
          refine cr_max hc pins s σ H _ us Q I r ⟨_, _, rfl, .inl a1, by simp, fun m hm hl => ?_⟩
          obtain ⟨z1, z2⟩ := mostI_spec a r'
          have e : m = mostI a r' := Int.le_antisymm (z2 _ hm) (hl _ z1)
          rw [e]
          exact A.v (.int _)
    · cases he
  · -- max of a tuple
    split at he
    · rename_i a r' q
      cases he
      cases hv with
      | cons h1 h2 =>
        cases h2
        cases h1 with
        | tup a1 a3 =>
          have e := a3.ints q
          subst e
          refine cr_maxT hc pins s σ H _ us Q I r ⟨_, _, rfl, a1, by simp, fun m hm hl => ?_⟩
          obtain ⟨z1, z2⟩ := mostI_spec a r'
          have e : m = mostI a r' := Int.le_antisymm (z2 _ hm) (hl _ z1)
          rw [e]
          exact A.v (.int _)
    · cases he
  · -- all
    rename_i xs'
    cases q : boolsOf xs' with
    | none => rw [q] at he; cases he
    | some ns =>
      rw [q] at he
      cases he
      cases hv with
      | cons h1 h2 =>
        cases h2
        cases h1 with
        | lst a1 a2 a3 =>
          have e := a3.bools q
          subst e
          exact cr_all hc pins s σ H _ us Q I r ⟨_, _, rfl, .inl a1, A.v (.bl _)⟩
  · -- any
    rename_i xs'
    cases q : boolsOf xs' with
    | none => rw [q] at he; cases he
    | some ns =>
      rw [q] at he
      cases he
      cases hv with
      | cons h1 h2 =>
        cases h2
        cases h1 with
        | lst a1 a2 a3 =>
          have e := a3.bools q
          subst e
          exact cr_any hc pins s σ H _ us Q I r ⟨_, _, rfl, .inl a1, A.v (.bl _)⟩
  · -- int
    cases he
    cases hv with
    | cons h1 h2 =>
      cases h2
      cases h1
      exact call_int1 pins s σ H _ us Q I r (.inl ⟨_, rfl, A.v (.int _)⟩)
  · cases he
    cases hv with
    | cons h1 h2 =>
      cases h2
      cases h1
      exact call_int1 pins s σ H _ us Q I r (.inr ⟨_, rfl, A.v (.int _)⟩)
  · -- tuple
    cases he
    cases hv with
    | cons h1 h2 =>
      cases h2
      cases h1 with
      | lst a1 a2 a3 => exact call_tuple_of pins s σ H _ us Q I r ⟨_, _, rfl, .inl ⟨.inl a1, fun l hl => A.t a3 hl⟩⟩
  · cases he
    cases hv with
    | cons h1 h2 =>
      cases h2
      cases h1 with
      | tup a1 a3 => exact call_tuple_of pins s σ H _ us Q I r ⟨_, _, rfl, .inr ⟨a1, A.v (.tup a1 a3)⟩⟩
  · -- list
    cases he
    cases hv with
    | cons h1 h2 =>
      cases h2
      cases h1 with
      | lst a1 a2 a3 => exact call_list_of pins s σ H _ us Q I r ⟨_, _, rfl, .inl (.inl a1), fun l hl => A.l a3 hl⟩
  · cases he
    cases hv with
    | cons h1 h2 =>
      cases h2
      cases h1 with
      | tup a1 a3 => exact call_list_of pins s σ H _ us Q I r ⟨_, _, rfl, .inr a1, fun l hl => A.l a3 hl⟩
  · -- gcd
    cases he
    cases hv with
    | cons h1 h2 =>
      cases h2 with
      | cons h2 h3 =>
        cases h3
        cases h1
        cases h2
        exact cr_gcd pins s σ H _ us Q I r ⟨_, _, rfl, A.v (.int _)⟩
  · -- sorted
    rename_i xs'
    cases q : intsOf xs' with
    | none =>
      rw [q] at he
      have he : (match pairsOf xs' with
        | some ps => some (W.own ((sortX ps).map pdD))
        | none => if srtB xs' = true then some (W.own (srtD xs')) else none) = some w := he
      cases qp : pairsOf xs' with
      | none =>
        rw [qp] at he
        obtain ⟨c, rfl⟩ := ite_some he
        cases hv with
        | cons h1 h2 =>
          cases h2
          cases h1 with
          | lst a1 a2 a3 => exact call_srtD hu I r (.inl a1) a3 c A
      | some ps =>
        rw [qp] at he
        cases he
        cases hv with
        | cons h1 h2 =>
          cases h2
          cases h1 with
          | lst a1 a2 a3 =>
            obtain ⟨g1, g2⟩ := pairs_key I qp a3
            have A : Ans X.K (.own ((sortX ps).map pdD)) H Fz Q := A
            refine cr_sortedPT pins s σ H _ us Q I r ⟨_, _, keyP X.K H, rfl, .inl a1, fun x hx => ?_, fun ys p hs hb hn => ?_⟩
            · obtain ⟨t, e1, e2⟩ := g1 x hx
              exact ⟨t, e1, e2⟩
            · have hp := hb.perm
              have e : ys.map (keyP X.K H) = sortX ps := by
                refine sortX_one ?_ ?_ (sortX_sorted ps)
                · have := hp.map (keyP X.K H)
                  rw [g2] at this
                  exact this.trans (sortX_perm ps).symm
                · rw [List.pairwise_map]
                  refine List.Pairwise.imp ?_ hs
                  intro x y hxy
                  have := SrtO.lexB_no.mp hxy
                  unfold leX
                  omega
              rw [← e, List.map_map] at A
              refine A.l (key_vrs fun y hy => ?_) hn
              obtain ⟨t, e1, e2⟩ := g1 y (hp.mem_iff.mp hy)
              rw [e1] at e2 ⊢
              exact .tup e2 (.cons (.int _) (.cons (.int _) .nil))
    | some ns =>
      rw [q] at he
      cases he
      cases hv with
      | cons h1 h2 =>
        cases h2
        cases h1 with
        | lst a1 a2 a3 =>
          have e := a3.ints q
          subst e
          refine cr_sortedI pins s σ H _ us Q I r ⟨_, _, rfl, .inl a1, fun ns' p hp hs hn => ?_⟩
          have e : ns' = sortI ns := sorted_one (hp.trans (sortI_perm ns).symm) hs (sortI_sorted ns)
          subst e
          exact A.l (VRs.of_ints _) hn
  · -- sorted of a tuple
    obtain ⟨c, rfl⟩ := ite_some he
    cases hv with
    | cons h1 h2 =>
      cases h2
      cases h1 with
      | tup a1 a3 => exact call_srtD hu I r (.inr a1) a3 c A
  · cases he

/-! ### isinstance -/
inductive Kd where
  | non | bool | int | str | list | tuple | dict
def kdOf : PyData → Kd
  | .none => .non
  | .bool _ => .bool
  | .int _ => .int
  | .str _ => .str
  | .list _ => .list
  | .tuple _ => .tuple
  | .dict _ => .dict
def kdN : Kd → String
  | .non => "NoneType"
  | .bool => "bool"
  | .int => "int"
  | .str => "str"
  | .list => "list"
  | .tuple => "tuple"
  | .dict => "dict"
def tyN : Ty → String
  | .int => "int"
  | .bool => "bool"
  | .str => "str"
  | .list => "list"
  | .tuple => "tuple"
def isTyK : Kd → Ty → Bool
  | .bool, .bool => true
  | .bool, .int => true
  | .int, .int => true
  | .str, .str => true
  | .list, .list => true
  | .tuple, .tuple => true
  | _, _ => false
theorem isTy_K (d : PyData) (t : Ty) : isTy d t = isTyK (kdOf d) t := by cases d <;> cases t <;> rfl
theorem kit_K : ∀ (k : Kd) (t : Ty), kitB (kdN k) (tyN t) = some (isTyK k t) := by
  intro k t
  cases k <;> cases t <;> decide +kernel
theorem kit_D (K : PySem.W.Frag) (d : PyData) (t : Ty) : PySem.W.kitOne K (.type (kdN (kdOf d))) (.type (tyN t)) = some (isTy d t) := by
  rw [isTy_K]
  exact kit_ty (kit_K _ _)
theorem kit_any (K : PySem.W.Frag) (d : PyData) : ∀ ts : List Ty, PySem.W.kitAny K (.type (kdN (kdOf d))) (ts.map fun t => .type (tyN t)) = some (ts.any (isTy d))
  | [] => rfl
  | t :: ts => by
    rw [List.any_cons]
    refine kitAny_cons (kit_D K d t) (fun e => ?_) (fun e => by rw [e]; rfl)
    rw [e, Bool.false_or]
    exact kit_any K d ts
theorem ty_D {K : PySem.W.Frag} {Fz : Addr → Prop} {H : Hp} {d : PyData} {x : V} (h : VR K Fz H d x) : TyX K H x (.type (kdN (kdOf d))) := by
  cases h with
  | non => exact .base .non
  | bl b => exact .base (.bl b)
  | int i => exact .base (.int i)
  | str z => exact .base (.str z)
  | lst a1 a2 a3 =>
    rcases a1 with a1 | ⟨o, a1⟩
    · exact .base (.lst a1)
    · exact .base (.frz a1)
  | tup a1 a3 =>
    rcases a1 with (a1 | ⟨o, a1⟩) | ⟨o, its, n, h1, h2, _⟩
    · exact .base (.tup a1)
    · exact .fTuple a1
    · exact .kTuple h1 h2
end
end TD

set_option maxHeartbeats 1000000
namespace TD
open PySem PySem.Spec PyProof.Rows L2

/-! ### slots changed -/
def SlR (K : PySem.W.Frag) (Fz : Addr → Prop) (H : Hp) (en : En) (σ : SS) (σ' : SS) (i : Nat) : Option W → Prop
  | none => True
  | some (.v d) => ∃ x, σ'[i]? = some (some x) ∧ VR K Fz H d x
  | some (.own ds) => ∃ a xs, σ'[i]? = some (some (V.ref a)) ∧ H a = some (.lst xs) ∧ ¬ Fz a ∧ VRs K Fz H ds xs ∧ ∀ (j : Nat) (es : List PyData), j ≠ i → en[j]? = some (some (W.own es)) → σ[j]? ≠ some (some (V.ref a))
  | some (.scr ds) => ∃ a xs, σ'[i]? = some (some (V.ref a)) ∧ Sr K H a xs ∧ VRs K Fz H ds xs
section
variable {K : PySem.W.Frag} {Fz : Addr → Prop} {H : Hp} {en : En} {σ σ' : SS} {i : Nat}
theorem set_cases {α : Type} {l : List α} {i j : Nat} {a b : α} (h : (l.set i a)[j]? = some b) : (j = i ∧ b = a) ∨ (j ≠ i ∧ l[j]? = some b) := by
  rw [List.getElem?_set] at h
  split at h
  · rename_i e
    subst e
    split at h
    · exact .inl ⟨rfl, (Option.some.inj h).symm⟩
    · cases h
  · rename_i e
    exact .inr ⟨fun z => e z.symm, h⟩
theorem Er.upd {o : Option W} (R : Er K Fz H en σ) (hl : σ'.length = σ.length) (hσ : ∀ j, j ≠ i → σ'[j]? = σ[j]?) (ho : SlR K Fz H en σ σ' i o) : Er K Fz H (en.set i o) σ' where
  len := by rw [List.length_set, R.len, hl]
  vs j d h := by
    rcases set_cases h with ⟨rfl, e⟩ | ⟨n, e⟩
    · subst e
      exact ho
    · rw [hσ j n]
      exact R.vs j d e
  os j ds h := by
    rcases set_cases h with ⟨rfl, e⟩ | ⟨n, e⟩
    · subst e
      obtain ⟨a, xs, h1, h2, h3, h4, _⟩ := ho
      exact ⟨a, xs, h1, h2, h3, h4⟩
    · rw [hσ j n]
      exact R.os j ds e
  ss j ds h := by
    rcases set_cases h with ⟨rfl, e⟩ | ⟨n, e⟩
    · subst e
      exact ho
    · rw [hσ j n]
      exact R.ss j ds e
  ap j l ds es a h1 h2 h3 h4 := by
    rcases set_cases h1 with ⟨e, q⟩ | ⟨n, q⟩
    · rcases set_cases h2 with ⟨e', q'⟩ | ⟨n', q'⟩
      · rw [e, e']
      · subst q e
        obtain ⟨a', xs, g1, g2, g3, g4, g5⟩ := ho
        rw [g1] at h3
        cases h3
        rw [hσ l n'] at h4
        exact absurd h4 (g5 l es n' q')
    · rcases set_cases h2 with ⟨e', q'⟩ | ⟨n', q'⟩
      · subst q' e'
        obtain ⟨a', xs, g1, g2, g3, g4, g5⟩ := ho
        rw [g1] at h4
        cases h4
        rw [hσ j n] at h3
        exact absurd h3 (g5 j ds n q)
      · rw [hσ j n] at h3
        rw [hσ l n'] at h4
        exact R.ap j l ds es a q q' h3 h4
  ft := R.ft
/-- a slot's own list is frozen -/
theorem Nx.frz {ds : List PyData} (R : Er K Fz H en σ) (hi : en[i]? = some (some (W.own ds))) : ∃ a Fz1, σ[i]? = some (some (V.ref a)) ∧ Nx K σ Fz H en Fz1 H (en.set i (some (.v (.list ds)))) ∧ VR K Fz1 H (.list ds) (.ref a) := by
  obtain ⟨a, xs, h1, h2, h3, h4⟩ := R.os i ds hi
  have hz : ∀ b, Fz b → Fz b ∨ b = a := fun _ q => .inl q
  have hk : ∀ b o, H b = some o → ¬ Ow en σ b → H b = some o := fun _ _ q _ => q
  have v : VR K (fun b => Fz b ∨ b = a) H (.list ds) (.ref a) := .lst (.inl h2) (.inr rfl) (VRs.mono' hz hk R.ol _ _ h4)
  refine ⟨a, fun b => Fz b ∨ b = a, h1, ⟨⟨fun b q => .inl q, fun _ _ q _ => q, fun b q => ?_, fun _ q => q⟩, ⟨by rw [List.length_set]; exact R.len, fun j d h => ?_, fun j es h => ?_, fun j es h => ?_, fun j l es fs b g1 g2 g3 g4 => ?_, fun b q => ?_⟩, fun b ⟨j, es, g1, g2⟩ => ?_⟩, v⟩
  · rcases q with q | q
    · exact .inl q
    · exact .inr (.inr ⟨i, ds, hi, q ▸ h1⟩)
  · rcases set_cases h with ⟨rfl, e⟩ | ⟨n, e⟩
    · cases e
      exact ⟨_, h1, v⟩
    · obtain ⟨x, q1, q2⟩ := R.vs j d e
      exact ⟨x, q1, VR.mono' hz hk R.ol _ _ q2⟩
  · rcases set_cases h with ⟨rfl, e⟩ | ⟨n, e⟩
    · cases e
    · obtain ⟨b, ys, q1, q2, q3, q4⟩ := R.os j es e
      refine ⟨b, ys, q1, q2, fun z => ?_, VRs.mono' hz hk R.ol _ _ q4⟩
      rcases z with z | z
      · exact q3 z
      · subst z
        exact n (R.ap j i es ds b e hi q1 h1)
  · rcases set_cases h with ⟨rfl, e⟩ | ⟨n, e⟩
    · cases e
    · obtain ⟨b, ys, q1, q2, q4⟩ := R.ss j es e
      exact ⟨b, ys, q1, q2, VRs.mono' hz hk R.ol _ _ q4⟩
  · rcases set_cases g1 with ⟨_, e⟩ | ⟨n, e⟩
    · cases e
    · rcases set_cases g2 with ⟨_, e'⟩ | ⟨n', e'⟩
      · cases e'
      · exact R.ap j l es fs b e e' g3 g4
  · rcases q with q | q
    · exact R.ft b q
    · rw [q, h2]; exact fun z => nomatch z
  · rcases set_cases g1 with ⟨_, e⟩ | ⟨n, e⟩
    · cases e
    · exact ⟨j, es, e, g2⟩
/-- a slot's list is taken out of it -/
theorem Nx.out {ds : List PyData} (R : Er K Fz H en σ) (hi : en[i]? = some (some (W.own ds))) : ∃ a, σ[i]? = some (some (V.ref a)) ∧ Nx K σ Fz H en Fz H (en.set i none) ∧ Wr K σ H en Fz H (en.set i none) (.own ds) (.ref a) := by
  obtain ⟨a, xs, h1, h2, h3, h4⟩ := R.os i ds hi
  have R1 : Er K Fz H (en.set i none) σ := R.upd rfl (fun _ _ => rfl) trivial
  refine ⟨a, h1, ⟨.refl, R1, fun b ⟨j, es, g1, g2⟩ => ?_⟩, a, xs, rfl, h2, h3, fun ⟨j, es, g1, g2⟩ => ?_, .inr ⟨i, ds, hi, h1⟩, h4⟩
  · rcases set_cases g1 with ⟨_, e⟩ | ⟨n, e⟩
    · cases e
    · exact ⟨j, es, e, g2⟩
  · rcases set_cases g1 with ⟨_, e⟩ | ⟨n, e⟩
    · cases e
    · exact n (R.ap j i es ds a e hi g2 h1)
end

/-! ### what is to be shown of an expression -/
structure Dt where
  P : Program
  w : World
  K : PySem.W.Frag
  mg : Str → Option Value
  base : Heap
  G : Gm
  cs : List PyData
  cl : Nat → Value
  k : Nat
  cf : CF
structure Dt.Ok (D : Dt) : Prop where
  fa : Fa D.P D.w D.K D.mg D.G D.cs
  cf : CfOk D.P D.w D.K D.mg D.base D.G.fnm D.G.kw D.cl D.k D.cf
abbrev Dt.C (D : Dt) (X : Cx) (N : List Str) (sc : Scope) (Wx : WX) : Prop := Cok D.P D.w D.K D.mg D.base X N sc D.k Wx
def SE (D : Dt) (e : E) : Prop := ∀ (X : Cx) (N : List Str) (sc : Scope) (Wx : WX), D.C X N sc Wx → ∀ x, chkE D.G N e sc x = true → ∀ (σ : SS) (Fz : Addr → Prop) (H : Hp) (en : En) (Q : VK), Er D.K Fz H en σ →
  Sat D.K σ D.cl Wx Fz H en (ev D.cs D.cf e en) Q → JE X x σ H Q
def SA (D : Dt) (e : E) : Prop := ∀ (X : Cx) (N : List Str) (sc : Scope) (Wx : WX), D.C X N sc Wx → ∀ xs, chkA D.G N e sc xs = true → ∀ (σ : SS) (Fz : Addr → Prop) (H : Hp) (en : En) (Q : List V → Hp → Prop), Er D.K Fz H en σ →
  SatA D.K σ D.cl Wx Fz H en (ev D.cs D.cf e en) Q → JA X xs σ H Q
def ST (D : Dt) (e : E) : Prop := ∀ (X : Cx) (N : List Str) (sc : Scope) (Wx : WX), D.C X N sc Wx → tstB e = true → ∀ x, chkE D.G N e sc x = true → ∀ (σ : SS) (Fz : Addr → Prop) (H : Hp) (en : En) (Q : Bool → Hp → Prop), Er D.K Fz H en σ →
  Sat D.K σ D.cl Wx Fz H en (ev D.cs D.cf e en) (fun v H1 => ∃ b, v = .bl b ∧ Q b H1) → JT X x σ H Q
section
variable {D : Dt} {X : Cx} {N : List Str} {sc : Scope} {Wx : WX} {σ : SS} {Fz : Addr → Prop} {H : Hp} {en : En}
theorem Dt.opB (C : D.C X N sc Wx) (o : Operator) : OpR X (binaryOp o) (rBin D.K o) := by
  have h := op_binD (X := X) o
  rw [C.K] at h
  exact h
theorem Dt.units (C : D.C X N sc Wx) : X.A.units + 65 < cLine := by have := C.room.un; omega
theorem Dt.opC (C : D.C X N sc Wx) (o : CmpOp) : OpR X (compareOp o) (rCmp D.K o) := by
  have h := op_cmpD (X := X) (Dt.units C) o
  rw [C.K] at h
  exact h
theorem Dt.ix (C : D.C X N sc Wx) : IxR X (rIxD D.K) := by
  have h := ix_D (X := X)
  rw [C.K] at h
  exact h
theorem Dt.sl (C : D.C X N sc Wx) : L2.SlR X (rSlD D.K) := by
  have h := sl_D (X := X)
  rw [C.K] at h
  exact h
theorem Dt.bi (C : D.C X N sc Wx) (b : Bi) : CallR X (biVal b) (rBi D.K b) := by
  have h := call_bi (X := X) C.calm (by have := C.room.un; omega) b
  rw [C.K] at h
  exact h
theorem Dt.blt (O : D.Ok) (C : D.C X N sc Wx) {x : Str} (h : x ∈ bltN) : X.mg x = none := by
  rw [C.mg]
  exact O.fa.blt x h
theorem vr_of {i : Nat} {x : Str} (h : vrB N sc i x = true) : N[i]? = some x ∧ visB sc x = true ∧ nmB x = true := by
  unfold vrB at h
  simp only [Bool.and_eq_true, decide_eq_true_eq] at h
  exact ⟨h.1.1, h.1.2, h.2⟩
theorem pe_slot (C : D.C X N sc Wx) {i : Nat} {x : Str} {pos : Pos} (h : vrB N sc i x = true) : PE X (.Name x pos) (tVar i) := by
  obtain ⟨h1, h2, h3⟩ := vr_of h
  obtain ⟨n1, n2, _⟩ := nm_of h3
  refine pe_var (by rw [C.N]; exact h1) ?_ n1 n2
  rw [C.sc]
  exact vis_of h2

/-! ### one construct after another -/
theorem se_var {i : Nat} : SE D (.var i) := by
  intro X N sc Wx C x hx σ Fz H en Q R h
  cases x <;> first | exact (Bool.false_ne_true hx).elim | skip
  refine JE.of (pe_slot C hx) ?_
  simp only [ev] at h
  split at h
  · rename_i d hd
    obtain ⟨y, h1, h2⟩ := R.vs i d hd
    exact ⟨y, h1, h.okv R h2⟩
  · rename_i ds hd
    obtain ⟨a, Fz1, h1, s, v⟩ := Nx.frz R hd
    exact ⟨_, h1, h Fz1 H _ s v⟩
  · exact h.elim
theorem se_mv {i : Nat} : SE D (.mv i) := by
  intro X N sc Wx C x hx σ Fz H en Q R h
  cases x <;> first | exact (Bool.false_ne_true hx).elim | skip
  refine JE.of (pe_slot C hx) ?_
  simp only [ev] at h
  split at h
  · rename_i d hd
    obtain ⟨y, h1, h2⟩ := R.vs i d hd
    exact ⟨y, h1, h.okv R h2⟩
  · rename_i ds hd
    obtain ⟨a, h1, s, v⟩ := Nx.out R hd
    exact ⟨_, h1, h Fz H _ s v⟩
  · exact h.elim
theorem se_int {i : Int} : SE D (.int i) := by
  intro X N sc Wx C x hx σ Fz H en Q R h
  cases x <;> first | exact (Bool.false_ne_true hx).elim | skip
  rename_i c _ _
  cases c <;> first | exact (Bool.false_ne_true hx).elim | skip
  rename_i j
  have e : i = j := of_decide_eq_true hx
  subst e
  exact JE.of pe_int (h.okv R (.int i))
theorem se_str {z : Str} : SE D (.str z) := by
  intro X N sc Wx C x hx σ Fz H en Q R h
  cases x <;> first | exact (Bool.false_ne_true hx).elim | skip
  rename_i c _ _
  cases c <;> first | exact (Bool.false_ne_true hx).elim | skip
  rename_i j
  have e : z = j := of_decide_eq_true hx
  subst e
  exact JE.of pe_str (h.okv R (.str z))
theorem se_bl {b : Bool} : SE D (.bl b) := by
  intro X N sc Wx C x hx σ Fz H en Q R h
  cases x <;> first | exact (Bool.false_ne_true hx).elim | skip
  rename_i c _ _
  cases c <;> first | exact (Bool.false_ne_true hx).elim | skip
  rename_i j
  have e : b = j := of_decide_eq_true hx
  subst e
  exact JE.of pe_bl (h.okv R (.bl b))
theorem se_non : SE D .non := by
  intro X N sc Wx C x hx σ Fz H en Q R h
  cases x <;> first | exact (Bool.false_ne_true hx).elim | skip
  rename_i c _ _
  cases c <;> first | exact (Bool.false_ne_true hx).elim | skip
  exact JE.of pe_non (h.okv R .non)
theorem se_glb (O : D.Ok) {j : Nat} : SE D (.glb j) := by
  intro X N sc Wx C x hx σ Fz H en Q R h
  cases x <;> first | exact (Bool.false_ne_true hx).elim | skip
  rename_i x pos
  have hx' : (decide (D.G.cst[j]? = some x) && glB sc x && nmB x) = true := hx
  simp only [Bool.and_eq_true, decide_eq_true_eq] at hx'
  obtain ⟨⟨h1, h2⟩, h3⟩ := hx'
  simp only [ev] at h
  cases hd : D.cs[j]? with
  | none => rw [hd] at h; exact h.elim
  | some d =>
    rw [hd] at h
    obtain ⟨u, v, g1, g2, g3⟩ := O.fa.cst j x d h1 hd
    exact JE.of (pe_glob (v := v) (gl_of C.sc h2) (by rw [C.mg]; exact g1) g2 (nm_of h3).1) (h.okv R (g3 Fz H))
theorem Sat.of {K : PySem.W.Frag} {σ : SS} {cl : Nat → Value} {Wx : WX} {Fz : Addr → Prop} {H : Hp} {e : En} {o : Option W} {Q : VK} (h : Sat K σ cl Wx Fz H e (.of o e) Q) : ∃ w, o = some w ∧ Sat K σ cl Wx Fz H e (.ok w e) Q := by
  cases o with
  | none => exact h.elim
  | some w => exact ⟨w, rfl, h⟩
theorem Sat.ans {K : PySem.W.Frag} {σ : SS} {cl : Nat → Value} {Wx : WX} {Fz : Addr → Prop} {H : Hp} {e : En} {w : W} {Q : VK} (R : Er K Fz H e σ) (h : Sat K σ cl Wx Fz H e (.ok w e) Q) : Ans K w H Fz Q := ⟨e, σ, cl, Wx, R, h⟩
theorem se_bin {o : Operator} {a b : E} (ha : SE D a) (hb : SE D b) : SE D (.bin o a b) := by
  intro X N sc Wx C x hx σ Fz H en Q R h
  obtain ⟨y, z, pos, rfl, h1, h2⟩ := chk_bin hx
  simp only [ev] at h
  refine JE.of (pe_op (Dt.opB C o) (JE.pe X y) (JE.pe X z)) ?_
  refine ha X N sc Wx C y h1 σ Fz H en _ R (h.bindV fun w e1 Fz1 H1 v s r h => ?_)
  refine hb X N sc Wx C z h2 σ Fz1 H1 e1 _ s.er (h.bindV fun w2 e2 Fz2 H2 v2 s2 r2 h => ?_)
  obtain ⟨wr, he, h⟩ := h.of
  exact ⟨Fz2, _, _, wr, s2.vr s.er r, r2, he, h.ans s2.er⟩
theorem se_neg {a : E} (ha : SE D a) : SE D (.neg a) := by
  intro X N sc Wx C x hx σ Fz H en Q R h
  cases x <;> first | exact (Bool.false_ne_true hx).elim | skip
  rename_i op y pos
  cases op <;> first | exact (Bool.false_ne_true hx).elim | skip
  simp only [ev] at h
  refine JE.of (pe_un un_neg (JE.pe X y)) ?_
  refine ha X N sc Wx C y hx σ Fz H en _ R (h.bindV fun w e1 Fz1 H1 v s r h => ?_)
  generalize w.val = d at h r
  cases r with
  | int i => exact ⟨i, rfl, h.okv s.er (.int _)⟩
  | _ => exact h.elim
theorem chk_cmp {G : Gm} {o : CmpOp} {a b : E} {x : Expr} (h : chkE G N (.cmp o a b) sc x = true) : ∃ y z pos, x = .Compare y [o] [z] pos ∧ notSet z = true ∧ chkE G N a sc y = true ∧ chkE G N b sc z = true := by
  cases x <;> first | exact (Bool.false_ne_true h).elim | skip
  rename_i y os zs pos
  match os, zs, h with
  | [p], [z], h =>
    have h' : (decide (o = p) && notSet z && chkE G N a sc y && chkE G N b sc z) = true := h
    simp only [Bool.and_eq_true, decide_eq_true_eq] at h'
    obtain ⟨⟨⟨rfl, h0⟩, h1⟩, h2⟩ := h'
    exact ⟨y, z, pos, rfl, h0, h1, h2⟩
  | [], _, h => exact (Bool.false_ne_true h).elim
  | _ :: _ :: _, _, h => exact (Bool.false_ne_true h).elim
  | [_], [], h => exact (Bool.false_ne_true h).elim
  | [_], _ :: _ :: _, h => exact (Bool.false_ne_true h).elim
theorem marks_of {o : CmpOp} {z : Expr} (h : notSet z = true) : behindInMarks o z = false := by
  cases z <;> first | rfl | cases h
theorem sat_cmp {o : CmpOp} {a b : E} {y z : Expr} {Q : VK} (C : D.C X N sc Wx) (R : Er D.K Fz H en σ) (ha : SE D a) (hb : SE D b) (h1 : chkE D.G N a sc y = true) (h2 : chkE D.G N b sc z = true)
    (h : Sat D.K σ D.cl Wx Fz H en (ev D.cs D.cf (.cmp o a b) en) Q) : tOp (rCmp D.K o) (JE X y) (JE X z) σ H Q := by
  simp only [ev] at h
  refine ha X N sc Wx C y h1 σ Fz H en _ R (h.bindV fun w e1 Fz1 H1 v s r h => ?_)
  refine hb X N sc Wx C z h2 σ Fz1 H1 e1 _ s.er (h.bindV fun w2 e2 Fz2 H2 v2 s2 r2 h => ?_)
  obtain ⟨wr, he, h⟩ := h.of
  cases hc : opC o w.val w2.val with
  | none => rw [hc] at he; cases he
  | some k =>
    rw [hc] at he
    cases he
    exact ⟨Fz2, _, _, k, s2.vr s.er r, r2, hc, h.okv s2.er (.bl k)⟩
theorem se_cmp {o : CmpOp} {a b : E} (ha : SE D a) (hb : SE D b) : SE D (.cmp o a b) := by
  intro X N sc Wx C x hx σ Fz H en Q R h
  obtain ⟨y, z, pos, rfl, h0, h1, h2⟩ := chk_cmp hx
  exact JE.of (pe_cmpR (Dt.opC C o) (JE.pe X y) (JE.pe X z) (marks_of h0)) (sat_cmp C R ha hb h1 h2 h)
theorem st_cmp {o : CmpOp} {a b : E} (ha : SE D a) (hb : SE D b) : ST D (.cmp o a b) := by
  intro X N sc Wx C _ x hx σ Fz H en Q R h
  obtain ⟨y, z, pos, rfl, h0, h1, h2⟩ := chk_cmp hx
  exact JT.of (pt_cmpR (Dt.opC C o) (JE.pe X y) (JE.pe X z) (marks_of h0)) (sat_cmp C R ha hb h1 h2 h)
end
end TD

set_option maxHeartbeats 1000000
namespace TD
open PySem PySem.Spec PyProof.Rows L2
section
variable {D : Dt} {X : Cx} {N : List Str} {sc : Scope} {Wx : WX} {σ : SS} {Fz : Addr → Prop} {H : Hp} {en : En}
/-! ### chains -/
theorem chk_chn {G : Gm} {o p : CmpOp} {a b c : E} {x : Expr} (h : chkE G N (.chn o p a b c) sc x = true) : ∃ y z u pos, x = .Compare y [o, p] [z, u] pos ∧ notSet z = true ∧ notSet u = true ∧ chkE G N a sc y = true ∧ chkE G N b sc z = true ∧ chkE G N c sc u = true := by
  cases x <;> first | exact (Bool.false_ne_true h).elim | skip
  rename_i y os zs pos
  match os, zs, h with
  | [q, r], [z, u], h =>
    have h' : (decide (o = q) && decide (p = r) && notSet z && notSet u && chkE G N a sc y && chkE G N b sc z && chkE G N c sc u) = true := h
    simp only [Bool.and_eq_true, decide_eq_true_eq] at h'
    obtain ⟨⟨⟨⟨⟨⟨rfl, rfl⟩, h0⟩, h0'⟩, h1⟩, h2⟩, h3⟩ := h'
    exact ⟨y, z, u, pos, rfl, h0, h0', h1, h2, h3⟩
  | [], _, h => exact (Bool.false_ne_true h).elim
  | [_], _, h => exact (Bool.false_ne_true h).elim
  | _ :: _ :: _ :: _, _, h => exact (Bool.false_ne_true h).elim
  | [_, _], [], h => exact (Bool.false_ne_true h).elim
  | [_, _], [_], h => exact (Bool.false_ne_true h).elim
  | [_, _], _ :: _ :: _ :: _, h => exact (Bool.false_ne_true h).elim
theorem lmarks_of {o p : CmpOp} {z u : Expr} (h : notSet u = true) : lastMarks [o, p] [z, u] = false := by
  cases u <;> first | (simp [lastMarks, behindInMarks]; done) | cases h
theorem sat_chn {o p : CmpOp} {a b c : E} {y z u : Expr} {Q : VK} (C : D.C X N sc Wx) (R : Er D.K Fz H en σ) (ha : SE D a) (hb : SE D b) (hc : SE D c) (h1 : chkE D.G N a sc y = true) (h2 : chkE D.G N b sc z = true) (h3 : chkE D.G N c sc u = true)
    (h : Sat D.K σ D.cl Wx Fz H en (ev D.cs D.cf (.chn o p a b c) en) Q) : tChain (rCmp D.K o) (rCmp D.K p) (JE X y) (JE X z) (JE X u) σ H Q := by
  simp only [ev] at h
  refine ha X N sc Wx C y h1 σ Fz H en _ R (h.bindV fun w e1 Fz1 H1 v s r h => ?_)
  refine hb X N sc Wx C z h2 σ Fz1 H1 e1 _ s.er (h.bindV fun w2 e2 Fz2 H2 v2 s2 r2 h => ?_)
  split at h
  · rename_i he
    refine ⟨Fz2, _, _, true, s2.vr s.er r, r2, he, true, rfl, ?_⟩
    rw [if_pos rfl]
    refine hc X N sc Wx C u h3 σ Fz2 H2 e2 _ s2.er (h.bindV fun w3 e3 Fz3 H3 v3 s3 r3 h => ?_)
    obtain ⟨wr, he', h⟩ := h.of
    cases hc' : opC p w2.val w3.val with
    | none => rw [hc'] at he'; cases he'
    | some k =>
      rw [hc'] at he'
      cases he'
      exact ⟨Fz3, _, _, k, s3.vr s2.er r2, r3, hc', h.okv s3.er (.bl k)⟩
  · rename_i he
    refine ⟨Fz2, _, _, false, s2.vr s.er r, r2, he, false, rfl, ?_⟩
    rw [if_neg Bool.false_ne_true]
    exact h.okv s2.er (.bl false)
  · exact h.elim
theorem se_chn {o p : CmpOp} {a b c : E} (ha : SE D a) (hb : SE D b) (hc : SE D c) : SE D (.chn o p a b c) := by
  intro X N sc Wx C x hx σ Fz H en Q R h
  obtain ⟨y, z, u, pos, rfl, h0, h0', h1, h2, h3⟩ := chk_chn hx
  exact JE.of (pe_chain (Dt.opC C o) (Dt.opC C p) (JE.pe X y) (JE.pe X z) (JE.pe X u) (lmarks_of h0')) (sat_chn C R ha hb hc h1 h2 h3 h)
theorem st_chn {o p : CmpOp} {a b c : E} (ha : SE D a) (hb : SE D b) (hc : SE D c) : ST D (.chn o p a b c) := by
  intro X N sc Wx C _ x hx σ Fz H en Q R h
  obtain ⟨y, z, u, pos, rfl, h0, h0', h1, h2, h3⟩ := chk_chn hx
  exact JT.of (pt_chain (Dt.opC C o) (Dt.opC C p) (JE.pe X y) (JE.pe X z) (JE.pe X u) (lmarks_of h0')) (sat_chn C R ha hb hc h1 h2 h3 h)

/-! ### and, or, not -/
theorem chk_and {G : Gm} {a b : E} {x : Expr} (h : chkE G N (.and a b) sc x = true) : ∃ y z r p, x = .BoolOp .And (y :: z :: r) p ∧ chkE G N a sc y = true ∧ chkE G N b sc (.BoolOp .And (z :: r) p) = true := by
  cases x <;> first | exact (Bool.false_ne_true h).elim | skip
  rename_i op xs pos
  match op, xs, h with
  | .And, y :: z :: r, h =>
    have h' : (chkE G N a sc y && chkE G N b sc (.BoolOp .And (z :: r) pos)) = true := h
    rw [Bool.and_eq_true] at h'
    exact ⟨y, z, r, pos, rfl, h'.1, h'.2⟩
  | .And, [], h => exact (Bool.false_ne_true h).elim
  | .And, [_], h => exact (Bool.false_ne_true h).elim
  | .Or, _, h => exact (Bool.false_ne_true h).elim
theorem chk_or {G : Gm} {a b : E} {x : Expr} (h : chkE G N (.or a b) sc x = true) : ∃ y z r p, x = .BoolOp .Or (y :: z :: r) p ∧ chkE G N a sc y = true ∧ chkE G N b sc (.BoolOp .Or (z :: r) p) = true := by
  cases x <;> first | exact (Bool.false_ne_true h).elim | skip
  rename_i op xs pos
  match op, xs, h with
  | .Or, y :: z :: r, h =>
    have h' : (chkE G N a sc y && chkE G N b sc (.BoolOp .Or (z :: r) pos)) = true := h
    rw [Bool.and_eq_true] at h'
    exact ⟨y, z, r, pos, rfl, h'.1, h'.2⟩
  | .Or, [], h => exact (Bool.false_ne_true h).elim
  | .Or, [_], h => exact (Bool.false_ne_true h).elim
  | .And, _, h => exact (Bool.false_ne_true h).elim
theorem chk_orT {G : Gm} {a b : E} {x : Expr} (h : chkE G N (.orT a b) sc x = true) : ∃ y z r p, x = .BoolOp .Or (y :: z :: r) p ∧ chkE G N a sc y = true ∧ chkE G N b sc (.BoolOp .Or (z :: r) p) = true := by
  cases x <;> first | exact (Bool.false_ne_true h).elim | skip
  rename_i op xs pos
  match op, xs, h with
  | .Or, y :: z :: r, h =>
    have h' : (chkE G N a sc y && chkE G N b sc (.BoolOp .Or (z :: r) pos)) = true := h
    rw [Bool.and_eq_true] at h'
    exact ⟨y, z, r, pos, rfl, h'.1, h'.2⟩
  | .Or, [], h => exact (Bool.false_ne_true h).elim
  | .Or, [_], h => exact (Bool.false_ne_true h).elim
  | .And, _, h => exact (Bool.false_ne_true h).elim
theorem chk_one {G : Gm} {a : E} {x : Expr} (h : chkE G N (.one a) sc x = true) : ∃ op y p, x = .BoolOp op [y] p ∧ chkE G N a sc y = true := by
  cases x <;> first | exact (Bool.false_ne_true h).elim | skip
  rename_i op xs pos
  match xs, h with
  | [y], h => exact ⟨op, y, pos, rfl, h⟩
  | [], h => exact (Bool.false_ne_true h).elim
  | _ :: _ :: _, h => exact (Bool.false_ne_true h).elim
theorem se_and {a b : E} (ha : SE D a) (hb : SE D b) : SE D (.and a b) := by
  intro X N sc Wx C x hx σ Fz H en Q R h
  obtain ⟨y, z, r, p, rfl, h1, h2⟩ := chk_and hx
  simp only [ev] at h
  refine JE.of (pe_and (JE.pe X y) (JE.pe X _)) ?_
  refine ha X N sc Wx C y h1 σ Fz H en _ R (h.bindV fun w e1 Fz1 H1 v s r h => ?_)
  generalize w.val = d at h r
  cases r with
  | bl k =>
    refine ⟨k, rfl, ?_⟩
    cases k with
    | true =>
      rw [if_pos rfl]
      exact hb X N sc Wx C _ h2 σ Fz1 H1 e1 _ s.er h
    | false =>
      rw [if_neg Bool.false_ne_true]
      exact h.okv s.er (.bl false)
  | _ => exact h.elim
theorem se_or {a b : E} (ha : SE D a) (hb : SE D b) : SE D (.or a b) := by
  intro X N sc Wx C x hx σ Fz H en Q R h
  obtain ⟨y, z, r, p, rfl, h1, h2⟩ := chk_or hx
  simp only [ev] at h
  refine JE.of (pe_or (JE.pe X y) (JE.pe X _)) ?_
  refine ha X N sc Wx C y h1 σ Fz H en _ R (h.bindV fun w e1 Fz1 H1 v s r h => ?_)
  generalize w.val = d at h r
  cases r with
  | bl k =>
    refine ⟨k, rfl, ?_⟩
    cases k with
    | true =>
      rw [if_pos rfl]
      exact h.okv s.er (.bl true)
    | false =>
      rw [if_neg Bool.false_ne_true]
      exact hb X N sc Wx C _ h2 σ Fz1 H1 e1 _ s.er h
  | _ => exact h.elim
theorem se_one {a : E} (ha : SE D a) : SE D (.one a) := by
  intro X N sc Wx C x hx σ Fz H en Q R h
  obtain ⟨op, y, p, rfl, h1⟩ := chk_one hx
  exact JE.of (pe_one (JE.pe X y)) (ha X N sc Wx C y h1 σ Fz H en _ R h)
theorem se_not {a : E} (ha : SE D a) : SE D (.not a) := by
  intro X N sc Wx C x hx σ Fz H en Q R h
  cases x <;> first | exact (Bool.false_ne_true hx).elim | skip
  rename_i op y pos
  cases op <;> first | exact (Bool.false_ne_true hx).elim | skip
  simp only [ev] at h
  refine JE.of (pe_not (JE.pe X y)) ?_
  refine ha X N sc Wx C y hx σ Fz H en _ R (h.bindV fun w e1 Fz1 H1 v s r h => ?_)
  generalize w.val = d at h r
  cases r with
  | bl k => exact ⟨k, rfl, h.okv s.er (.bl _)⟩
  | _ => exact h.elim
/-- what and, or are as tests: for any whole -/
def SW (D : Dt) (e : E) : Prop := ∀ (X : Cx) (N : List Str) (sc : Scope) (Wx : WX), D.C X N sc Wx → tstB e = true → ∀ op xs p, chkE D.G N e sc (.BoolOp op xs p) = true → ∀ (σ : SS) (Fz : Addr → Prop) (H : Hp) (en : En) (Q : Bool → Hp → Prop), Er D.K Fz H en σ →
  Sat D.K σ D.cl Wx Fz H en (ev D.cs D.cf e en) (fun v H1 => ∃ b, v = .bl b ∧ Q b H1) → JW X (.BoolOp op xs p) σ H Q
theorem JW.pw (X : Cx) (x : Expr) : PW X x (JW X x) := ⟨fun wh pins s _ _ _ I h => h wh pins s I⟩
theorem JW.of {x : Expr} {t : TT} (h : PW X x t) {Q : Bool → Hp → Prop} (q : t σ H Q) : JW X x σ H Q := fun wh pins s I => h.run wh pins s σ H Q I q
theorem sw_one {a : E} (ha : ST D a) : SW D (.one a) := by
  intro X N sc Wx C ht op xs p hx σ Fz H en Q R h
  obtain ⟨op', y, p', e, h1⟩ := chk_one hx
  cases e
  cases op with
  | And => exact JW.of (pw_and1 (JT.pt X y)) (ha X N sc Wx C ht y h1 σ Fz H en _ R h)
  | Or => exact JW.of (pw_or1 (JT.pt X y)) (ha X N sc Wx C ht y h1 σ Fz H en _ R h)
theorem Sat.bl {K : PySem.W.Frag} {cl : Nat → Value} {r : Rs W} {f : W → En → Rs W} {Q : VK} {Q1 : Bool → Hp → Prop} (h : Sat K σ cl Wx Fz H en (r.bind f) Q) (hf : ∀ w e1, (∀ b, w.val ≠ .bool b) → f w e1 = .stuck)
    (k : ∀ (b : Bool) (w : W) (e1 : En) (Fz1 : Addr → Prop) (H1 : Hp), w.val = .bool b → Nx K σ Fz H en Fz1 H1 e1 → Sat K σ cl Wx Fz1 H1 e1 (f w e1) Q → Q1 b H1) :
    Sat K σ cl Wx Fz H en r (fun v H1 => ∃ b, v = .bl b ∧ Q1 b H1) := by
  refine h.bindV fun w e1 Fz1 H1 v s r h => ?_
  by_cases hw : ∃ b, w.val = .bool b
  · obtain ⟨b, hb⟩ := hw
    rw [hb] at r
    cases r
    exact ⟨b, rfl, k b w e1 Fz1 H1 hb s h⟩
  · rw [hf w e1 fun b q => hw ⟨b, q⟩] at h
    exact h.elim
theorem sw_and {a b : E} (ha : ST D a) (hb : SW D b) : SW D (.and a b) := by
  intro X N sc Wx C ht op xs p hx σ Fz H en Q R h
  have ht : (tstB a && tstB b) = true := ht
  rw [Bool.and_eq_true] at ht
  obtain ⟨y, z, r, p', e, h1, h2⟩ := chk_and hx
  cases e
  simp only [ev] at h
  refine JW.of (pw_and (JT.pt X y) (JW.pw X _)) ?_
  refine ha X N sc Wx C ht.1 y h1 σ Fz H en _ R (h.bl (fun w e1 hw => ?_) fun k w e1 Fz1 H1 hk s h => ?_)
  · split
    · rename_i q; exact absurd q (hw _)
    · rename_i q; exact absurd q (hw _)
    · rfl
  · rw [hk] at h
    cases k with
    | true =>
      rw [if_pos rfl]
      exact hb X N sc Wx C ht.2 _ _ _ h2 σ Fz1 H1 e1 _ s.er h
    | false =>
      rw [if_neg Bool.false_ne_true]
      obtain ⟨b', e, q⟩ := h.okv s.er (.bl false)
      cases e
      exact q
theorem sw_or {a b : E} (ha : ST D a) (hb : SW D b) : SW D (.or a b) := by
  intro X N sc Wx C ht op xs p hx σ Fz H en Q R h
  have ht : (tstB a && tstB b) = true := ht
  rw [Bool.and_eq_true] at ht
  obtain ⟨y, z, r, p', e, h1, h2⟩ := chk_or hx
  cases e
  simp only [ev] at h
  refine JW.of (pw_or (JT.pt X y) (JW.pw X _)) ?_
  refine ha X N sc Wx C ht.1 y h1 σ Fz H en _ R (h.bl (fun w e1 hw => ?_) fun k w e1 Fz1 H1 hk s h => ?_)
  · split
    · rename_i q; exact absurd q (hw _)
    · rename_i q; exact absurd q (hw _)
    · rfl
  · rw [hk] at h
    cases k with
    | true =>
      rw [if_pos rfl]
      obtain ⟨b', e, q⟩ := h.okv s.er (.bl true)
      cases e
      exact q
    | false =>
      rw [if_neg Bool.false_ne_true]
      exact hb X N sc Wx C ht.2 _ _ _ h2 σ Fz1 H1 e1 _ s.er h
theorem st_of_sw {e : E} (hx : ∀ (G : Gm) (N : List Str) (sc : Scope) (x : Expr), chkE G N e sc x = true → ∃ op xs p, x = .BoolOp op xs p) (h : SW D e) : ST D e := by
  intro X N sc Wx C ht x h1 σ Fz H en Q R hs
  obtain ⟨op, xs, p, rfl⟩ := hx _ _ _ _ h1
  exact JT.of (JW.pw X _).pt (h X N sc Wx C ht op xs p h1 σ Fz H en Q R hs)
theorem st_not {a : E} (ha : ST D a) : ST D (.not a) := by
  intro X N sc Wx C ht x hx σ Fz H en Q R h
  cases x <;> first | exact (Bool.false_ne_true hx).elim | skip
  rename_i op y pos
  cases op <;> first | exact (Bool.false_ne_true hx).elim | skip
  simp only [ev] at h
  refine JT.of (pt_not (JT.pt X y)) ?_
  refine ha X N sc Wx C ht y hx σ Fz H en _ R (h.bl (fun w e1 hw => ?_) fun k w e1 Fz1 H1 hk s h => ?_)
  · split
    · rename_i q; exact absurd q (hw _)
    · rfl
  · rw [hk] at h
    obtain ⟨b', e, q⟩ := h.okv s.er (.bl _)
    cases e
    exact q
theorem se_orT {a b : E} (ha : SE D a) (hb : SE D b) : SE D (.orT a b) := by
  intro X N sc Wx C x hx σ Fz H en Q R h
  obtain ⟨y, z, r, p, rfl, h1, h2⟩ := chk_orT hx
  simp only [ev] at h
  have hor := pe_orT (pos := p) (JE.pe X y) (JE.pe X (.BoolOp .Or (z :: r) p))
  rw [C.K] at hor
  refine JE.of hor ?_
  refine ha X N sc Wx C y h1 σ Fz H en _ R ?_
  -- the first value itself, or the second
  revert h
  cases hr : ev D.cs D.cf a en with
  | stuck => exact fun h => h
  | exc c q e1 => exact fun h => h
  | ok w e1 =>
    intro h Fz1 H1 v s q
    have h : Sat D.K σ D.cl Wx Fz H en (match truth w.val with
      | some true => .ok w e1
      | some false => ev D.cs D.cf b e1
      | none => .stuck) Q := h
    have ht : ∀ k, truth w.val = some k → TruV D.K v H1 k := fun k hk => by
      cases w with
      | scr ds => exact q.elim
      | own ds =>
        obtain ⟨a, xs, rfl, g2, _, _, _, g6⟩ := q
        have e : k = !xs.isEmpty := by
          have e1 : truth (.list ds) = some (!ds.isEmpty) := rfl
          rw [show (W.own ds).val = .list ds from rfl, e1] at hk
          cases hk
          cases ds with
          | nil => cases g6; rfl
          | cons d ds => cases g6; rfl
        exact .inl ⟨xs, .inl (.inl g2), e⟩
      | v d =>
        have q : VR D.K Fz1 H1 d v := q
        have hk : truth d = some k := hk
        cases q with
        | non => cases hk; rfl
        | bl b => cases hk; rfl
        | int i => cases hk; rfl
        | str z => cases hk
        | lst a1 a2 a3 =>
          refine .inl ⟨_, .inl a1, ?_⟩
          cases a3 <;> (cases hk; rfl)
        | tup a1 a3 =>
          refine .inr (.inl ⟨_, a1, ?_⟩)
          cases a3 <;> (cases hk; rfl)
    split at h
    · rename_i e
      refine ⟨true, ht _ e, ?_⟩
      rw [if_pos rfl]
      exact h Fz1 H1 v s q
    · rename_i e
      refine ⟨false, ht _ e, ?_⟩
      rw [if_neg Bool.false_ne_true]
      exact hb X N sc Wx C _ h2 σ Fz1 H1 e1 _ s.er (h.shift s)
    · exact h.elim
theorem se_ite {c a b : E} (hc : ST D c) (ha : SE D a) (hb : SE D b) : SE D (.ite c a b) := by
  intro X N sc Wx C x hx σ Fz H en Q R h
  cases x <;> first | exact (Bool.false_ne_true hx).elim | skip
  rename_i t y z pos
  have h' : (tstB c && chkE D.G N c sc t && chkE D.G N a sc y && chkE D.G N b sc z) = true := hx
  simp only [Bool.and_eq_true] at h'
  obtain ⟨⟨⟨h0, h1⟩, h2⟩, h3⟩ := h'
  simp only [ev] at h
  refine JE.of (pe_ifExp (JT.pt X t) (JE.pe X y) (JE.pe X z)) ?_
  refine hc X N sc Wx C h0 t h1 σ Fz H en _ R (h.bl (fun w e1 hw => ?_) fun k w e1 Fz1 H1 hk s h => ?_)
  · split
    · rename_i q; exact absurd q (hw _)
    · rename_i q; exact absurd q (hw _)
    · rfl
  · rw [hk] at h
    cases k with
    | true =>
      rw [if_pos rfl]
      exact ha X N sc Wx C y h2 σ Fz1 H1 e1 _ s.er h
    | false =>
      rw [if_neg Bool.false_ne_true]
      exact hb X N sc Wx C z h3 σ Fz1 H1 e1 _ s.er h

/-! ### lists of expressions, displays -/
theorem sa_nil : SA D .nil := by
  intro X N sc Wx C xs hx σ Fz H en Q R h
  cases xs with
  | nil => exact JA.of pa_nil (h Fz H [] (.refl R) .nil)
  | cons x xs => exact (Bool.false_ne_true hx).elim
theorem sa_cons {a es : E} (ha : SE D a) (hs : SA D es) : SA D (.cons a es) := by
  intro X N sc Wx C xs hx σ Fz H en Q R h
  cases xs with
  | nil => exact (Bool.false_ne_true hx).elim
  | cons x xs =>
    have h' : (chkE D.G N a sc x && chkA D.G N es sc xs) = true := hx
    rw [Bool.and_eq_true] at h'
    obtain ⟨h1, h2⟩ := h'
    simp only [ev] at h
    refine JA.of (pa_cons (JE.pe X x) (JA.pa X xs) (star_of (chkE_star h1))) ?_
    refine ha X N sc Wx C x h1 σ Fz H en _ R (h.bindV fun w e1 Fz1 H1 v s r h => ?_)
    refine hs X N sc Wx C xs h2 σ Fz1 H1 e1 _ s.er (h.bindA (fun w e1 hw => by cases w <;> first | rfl | exact absurd rfl (hw _)) fun ds e2 Fz2 H2 ys s2 r2 h => ?_)
    exact h Fz2 H2 _ (.refl s2.er) (.cons (s2.vr s.er r) r2)
theorem se_tup {es : E} (hs : SA D es) : SE D (.tup es) := by
  intro X N sc Wx C x hx σ Fz H en Q R h
  cases x <;> first | exact (Bool.false_ne_true hx).elim | skip
  rename_i xs kk pos
  simp only [ev] at h
  refine JE.of (pe_tup (JA.pa X xs)) ?_
  refine hs X N sc Wx C xs hx σ Fz H en _ R (h.bindA (fun w e1 hw => by cases w <;> first | rfl | exact absurd rfl (hw _)) fun ds e1 Fz1 H1 ys s r h => ?_)
  simp only at h
  by_cases hz : ds.length ≤ sizeLine
  · rw [if_pos hz] at h
    exact ⟨by rw [← r.length]; exact hz, fun p hp => h.okt s.er r hp⟩
  · rw [if_neg hz] at h
    exact h.elim
theorem se_lst {es : E} (hs : SA D es) : SE D (.lst es) := by
  intro X N sc Wx C x hx σ Fz H en Q R h
  cases x <;> first | exact (Bool.false_ne_true hx).elim | skip
  rename_i xs pos
  simp only [ev] at h
  refine JE.of (pe_lst (JA.pa X xs)) ?_
  refine hs X N sc Wx C xs hx σ Fz H en _ R (h.bindA (fun w e1 hw => by cases w <;> first | rfl | exact absurd rfl (hw _)) fun ds e1 Fz1 H1 ys s r h => ?_)
  simp only at h
  by_cases hz : ds.length ≤ sizeLine
  · rw [if_pos hz] at h
    exact ⟨by rw [← r.length]; exact hz, fun p hp => h.okl s.er r hp⟩
  · rw [if_neg hz] at h
    exact h.elim
end
end TD

set_option maxHeartbeats 1000000
namespace TD
open PySem PySem.Spec PyProof.Rows L2
section
variable {D : Dt} {X : Cx} {N : List Str} {sc : Scope} {Wx : WX} {σ : SS} {Fz : Addr → Prop} {H : Hp} {en : En}
theorem plain_of {y : Expr} (h : notSl y = true) : PlainIx y := by
  intro o i
  cases y <;> first | rfl | cases h
theorem se_ix {a i : E} (ha : SE D a) (hi : SE D i) : SE D (.ix a i) := by
  intro X N sc Wx C x hx σ Fz H en Q R h
  cases x <;> first | exact (Bool.false_ne_true hx).elim | skip
  rename_i y z pos
  have h' : (notSl z && chkE D.G N a sc y && chkE D.G N i sc z) = true := hx
  simp only [Bool.and_eq_true] at h'
  obtain ⟨⟨h0, h1⟩, h2⟩ := h'
  simp only [ev] at h
  refine JE.of (pe_ix (Dt.ix C) (JE.pe X y) (JE.pe X z) (plain_of h0)) ?_
  refine ha X N sc Wx C y h1 σ Fz H en _ R (h.bindV fun w e1 Fz1 H1 v s r h => ?_)
  refine hi X N sc Wx C z h2 σ Fz1 H1 e1 _ s.er (h.bindV fun w2 e2 Fz2 H2 v2 s2 r2 h => ?_)
  obtain ⟨wr, he, g⟩ := h.of
  cases hc : opIx w.val w2.val with
  | none => rw [hc] at he; cases he
  | some d =>
    rw [hc] at he
    cases he
    exact ⟨Fz2, _, _, d, s2.vr s.er r, r2, hc, fun z hz => g.okv s2.er hz⟩
/-- a subscript of a slot's own list -/
def rIxO (K : PySem.W.Frag) : R2 := fun x y H Q => ∃ a xs Fz ds i d, x = V.ref a ∧ y = V.int i ∧ H a = some (.lst xs) ∧ VRs K Fz H ds xs ∧ atI ds i = some d ∧ ∀ z, VR K Fz H d z → Q z H
theorem ix_O : IxR X (rIxO X.K) := by
  intro value slice pins s σ H x y v u Q I rx ry h hs
  obtain ⟨a, xs, Fz, ds, i, d, rfl, rfl, h1, h2, h3, q⟩ := h
  obtain ⟨z, e1, e2⟩ := h2.at h3
  exact ix_list value slice pins s σ H _ _ v u Q I rx ry ⟨_, _, _, z, rfl, rfl, .inl (.inl h1), e1, q z e2⟩ hs
theorem slot_some {w0 : W} {v : Nat} (R : Er D.K Fz H en σ) (hw0 : en[v]? = some (some w0)) : ∃ x0, σ[v]? = some (some x0) := by
  cases w0 with
  | v d => obtain ⟨x, g, _⟩ := R.vs v d hw0; exact ⟨x, g⟩
  | own ds => obtain ⟨a, xs, g, _⟩ := R.os v ds hw0; exact ⟨_, g⟩
  | scr ds => obtain ⟨a, xs, g, _⟩ := R.ss v ds hw0; exact ⟨_, g⟩
theorem se_ixV {v : Nat} {i : E} (hi : SE D i) : SE D (.ixV v i) := by
  intro X N sc Wx C x hx σ Fz H en Q R h
  cases x <;> first | exact (Bool.false_ne_true hx).elim | skip
  rename_i y z pos
  cases y <;> first | exact (Bool.false_ne_true hx).elim | skip
  rename_i y p2
  have h' : (notSl z && vrB N sc v y && chkE D.G N i sc z) = true := hx
  simp only [Bool.and_eq_true] at h'
  obtain ⟨⟨h0, h1⟩, h2⟩ := h'
  simp only [ev] at h
  have hr := IxR.or (X := X) ix_D ix_O
  rw [C.K] at hr
  refine JE.of (pe_ix hr (pe_slot C h1) (JE.pe X z) (plain_of h0)) ?_
  split at h
  · rename_i w0 hw0
    obtain ⟨x0, hx0⟩ := slot_some R hw0
    refine ⟨x0, hx0, hi X N sc Wx C z h2 σ Fz H en _ R (h.bindV fun w2 e2 Fz2 H2 v2 s2 r2 h => ?_)⟩
    split at h
    · rename_i d0 hw
      obtain ⟨wr, he, g⟩ := h.of
      cases hc : opIx d0 w2.val with
      | none => rw [hc] at he; cases he
      | some d =>
        rw [hc] at he
        cases he
        obtain ⟨x, g1, g2⟩ := s2.er.vs v d0 hw
        rw [hx0] at g1
        cases g1
        exact .inl ⟨Fz2, _, _, d, g2, r2, hc, fun z hz => g.okv s2.er hz⟩
    · rename_i ds hw
      obtain ⟨wr, he, g⟩ := h.of
      cases hc : opIx (.list ds) w2.val with
      | none => rw [hc] at he; cases he
      | some d =>
        rw [hc] at he
        cases he
        obtain ⟨a, xs, g1, g2, g3, g4⟩ := s2.er.os v ds hw
        rw [hx0] at g1
        cases g1
        generalize w2.val = d2 at hc r2
        cases r2 with
        | int i => exact .inr ⟨a, xs, Fz2, ds, i, d, rfl, rfl, g2, g4, hc, fun z hz => g.okv s2.er hz⟩
        | _ => cases hc
    · exact h.elim
  · exact h.elim
theorem se_lenV {v : Nat} (O : D.Ok) : SE D (.lenV v) := by
  intro X N sc Wx C x hx σ Fz H en Q R h
  cases x <;> first | exact (Bool.false_ne_true hx).elim | skip
  rename_i fe xs kws pos
  match fe, xs, kws, hx with
  | .Name l p, [.Name y p2], [], hx =>
    have h' : (decide (l = "len") && glB sc l && vrB N sc v y) = true := hx
    simp only [Bool.and_eq_true, decide_eq_true_eq] at h'
    obtain ⟨⟨rfl, h1⟩, h2⟩ := h'
    simp only [ev] at h
    refine JE.of (pe_callB (call_len_seq (X := X)) (gl_of C.sc h1) (Dt.blt O C (by decide)) boot_len (pa_cons (pe_slot C h2) pa_nil) (by decide) (by decide)) ?_
    rw [C.K]
    split at h
    · rename_i d hd
      obtain ⟨wr, he, g⟩ := h.of
      obtain ⟨x, g1, g2⟩ := R.vs v d hd
      refine ⟨_, g1, ?_⟩
      cases g2 with
      | lst a1 a2 a3 =>
        cases he
        refine ⟨_, _, rfl, .inl (.inl a1), ?_⟩
        rw [← a3.length]
        exact g.okv R (.int _)
      | tup a1 a3 =>
        cases he
        refine ⟨_, _, rfl, .inr a1, ?_⟩
        rw [← a3.length]
        exact g.okv R (.int _)
      | _ => cases he
    · rename_i ds hd
      obtain ⟨a, xs, g1, g2, g3, g4⟩ := R.os v ds hd
      refine ⟨_, g1, _, xs, rfl, .inl (.inl (.inl g2)), ?_⟩
      rw [← g4.length]
      exact h.okv R (.int _)
    · exact h.elim
  | .Name _ _, [], _, hx => exact (Bool.false_ne_true hx).elim
def chkO (G : Gm) (N : List Str) (l : E) (sc : Scope) (o : Option Expr) : Bool := match o with
  | none => isNon l
  | some y => !isNon l && chkE G N l sc y
theorem chkO_none {G : Gm} {l : E} (h : chkO G N l sc none = true) : l = .non := by
  cases l <;> first | rfl | exact (Bool.false_ne_true h).elim
theorem chkO_some {G : Gm} {l : E} {y : Expr} (h : chkO G N l sc (some y) = true) : isNon l = false ∧ chkE G N l sc y = true := by
  have h' : (!isNon l && chkE G N l sc y) = true := h
  rw [Bool.and_eq_true, Bool.not_eq_true'] at h'
  exact h'
/-- a slice's end -/
theorem sat_part {l : E} {o : Option Expr} (hl : SE D l) (C : D.C X N sc Wx) (hc : chkO D.G N l sc o = true) :
    ∃ t, PO X o t ∧ ∀ (σ : SS) (Fz : Addr → Prop) (H : Hp) (en : En) (f : W → En → Rs W) (Q : VK) (Q1 : Option Int → Hp → Prop), Er D.K Fz H en σ → Sat D.K σ D.cl Wx Fz H en ((ev D.cs D.cf l en).bind f) Q →
      (∀ (p : Option Int) (w : W) (e1 : En) (Fz1 : Addr → Prop) (H1 : Hp), Nx D.K σ Fz H en Fz1 H1 e1 → (part l w.val = some p ∨ ∀ p, part l w.val ≠ some p) → Sat D.K σ D.cl Wx Fz1 H1 e1 (f w e1) Q → (part l w.val = some p) → Q1 p H1) →
      (∀ w e1, part l w.val = none → f w e1 = .stuck) → t σ H Q1 := by
  cases o with
  | none =>
    have e := chkO_none hc
    subst e
    refine ⟨_, po_none, fun σ Fz H en f Q Q1 R h k _ => ?_⟩
    exact k none (.v .none) en Fz H (.refl R) (.inl rfl) h rfl
  | some y =>
    obtain ⟨h1, h2⟩ := chkO_some hc
    refine ⟨_, po_some (JE.pe X y), fun σ Fz H en f Q Q1 R h k ks => ?_⟩
    refine hl X N sc Wx C y h2 σ Fz H en _ R (h.bindV fun w e1 Fz1 H1 v s r h => ?_)
    cases hp : part l w.val with
    | none => rw [ks w e1 hp] at h; exact h.elim
    | some p =>
      have hp' := hp
      unfold part at hp'
      rw [h1, if_neg Bool.false_ne_true] at hp'
      generalize hw : w.val = d at hp' r
      cases r with
      | int i =>
        cases hp'
        exact ⟨i, rfl, k (some i) w e1 Fz1 H1 s (.inl hp) h hp⟩
      | _ => cases hp'
theorem se_sl {a l u : E} (ha : SE D a) (hl : SE D l) (hu : SE D u) : SE D (.sl a l u) := by
  intro X N sc Wx C x hx σ Fz H en Q R h
  cases x <;> first | exact (Bool.false_ne_true hx).elim | skip
  rename_i y z pos
  cases z <;> first | exact (Bool.false_ne_true hx).elim | skip
  rename_i lo hi st p2
  cases st with
  | some _ => exact (Bool.false_ne_true hx).elim
  | none =>
    have h' : (chkE D.G N a sc y && chkO D.G N l sc lo && chkO D.G N u sc hi) = true := hx
    simp only [Bool.and_eq_true] at h'
    obtain ⟨⟨h1, h2⟩, h3⟩ := h'
    simp only [ev] at h
    obtain ⟨tl, p1, k1⟩ := sat_part hl C h2
    obtain ⟨tu, p2', k2⟩ := sat_part hu C h3
    refine JE.of (pe_slice (Dt.sl C) (JE.pe X y) p1 p2') ?_
    refine ha X N sc Wx C y h1 σ Fz H en _ R (h.bindV fun w e1 Fz1 H1 v s r h => ?_)
    -- the two ends; a fault in the first shows at the end
    refine k1 σ Fz1 H1 e1 _ Q _ s.er h (fun p w1 e2 Fz2 H2 s2 _ h hp => ?_) ?_
    · simp only [hp] at h
      refine k2 σ Fz2 H2 e2 _ Q _ s2.er h (fun q w2 e3 Fz3 H3 s3 _ h hq => ?_) ?_
      · simp only [hq] at h
        obtain ⟨wr, he, g⟩ := h.of
        exact ⟨Fz3, _, wr, s3.vr s2.er (s2.vr s.er r), he, g.ans s3.er⟩
      · intro w e hn
        simp only [hn]
    · intro w e hn
      simp only [hn]
/-- a slice of the script -/
theorem se_slV {v : Nat} {l u : E} (hl : SE D l) (hu : SE D u) : SE D (.slV v l u) := by
  intro X N sc Wx C x hx σ Fz H en Q R h
  cases x <;> first | exact (Bool.false_ne_true hx).elim | skip
  rename_i y z pos
  cases y <;> first | exact (Bool.false_ne_true hx).elim | skip
  rename_i y py
  cases z <;> first | exact (Bool.false_ne_true hx).elim | skip
  rename_i lo hi st p2
  cases st with
  | some _ => exact (Bool.false_ne_true hx).elim
  | none =>
    have h' : (vrB N sc v y && chkO D.G N l sc lo && chkO D.G N u sc hi) = true := hx
    simp only [Bool.and_eq_true] at h'
    obtain ⟨⟨h1, h2⟩, h3⟩ := h'
    simp only [ev] at h
    obtain ⟨tl, p1, k1⟩ := sat_part hl C h2
    obtain ⟨tu, p2', k2⟩ := sat_part hu C h3
    have hs := sl_list (X := X)
    rw [C.K] at hs
    refine JE.of (pe_slice hs (pe_slot C h1) p1 p2') ?_
    split at h
    · rename_i ds hd
      obtain ⟨a, xs, g1, g2, g3⟩ := R.ss v ds hd
      refine ⟨_, g1, ?_⟩
      refine k1 σ Fz H en _ Q _ R h (fun p w1 e2 Fz2 H2 s2 _ h hp => ?_) ?_
      · simp only [hp] at h
        refine k2 σ Fz2 H2 e2 _ Q _ s2.er h (fun q w2 e3 Fz3 H3 s3 _ h hq => ?_) ?_
        · simp only [hq] at h
          have n := s2.trans s3
          refine ⟨a, xs, rfl, (sr_mono n.stp.keep R.ol g2).sq, fun p hp => ?_⟩
          exact h.okl s3.er (cutV_cutD (n.vrs R g3) _ _) hp
        · intro w e hn
          simp only [hn]
      · intro w e hn
        simp only [hn]
    · exact h.elim
end
end TD

set_option maxHeartbeats 4000000
namespace TD
open PySem PySem.Spec PyProof.Rows L2
/-! a set made of a list of numbers -/
/-- a new set, nothing in it -/
def emptyO (w : World) : Obj := { cls := .type "set", dict := none, data := .set #[] 0 (.fresh 0 0 (!w.params.followText "set-order")) }
section
variable {P : Program} {w : World} {A : Around} {E : Value → Shared → Prop} {s : Shared}
theorem setL_init {l : Addr} {its : Array Value} (ns : List Int) {R : Shared → Prop} (hh : A.handled = none) (hl : s.heap.IsList l its) (hi : IntsAre its.toList ns) (hb : ns.length + 1 < scanBound)
    (h : ∀ (h' : Heap) (tk c : Nat), SetR w h' s.heap.objs.size (fun j => decide (j ∈ ns)) c → c ≤ ns.length → (∀ b o, s.heap.get? b = some o → h'.get? b = some o) → R { s with heap := h', toks := tk }) :
    wpAny (model P w) A (Builtin.«set.__init__» ⟨[.ref s.heap.objs.size, .ref l], []⟩) (fun f s' => f = .done (.ret .none) ∧ R s') E { s with heap := s.heap.push (emptyO w) } := by
  have len : its.size = ns.length := by
    have := IntsAre.length hi
    rwa [Array.length_toList] at this
  have hS : (s.heap.push (emptyO w)).get? s.heap.objs.size = some (emptyO w) := Heap.get?_push_size _ rfl
  have hT : Shared.TypeIs { s with heap := s.heap.push (emptyO w) } (.ref s.heap.objs.size) "set" := ⟨_, hS, rfl⟩
  obtain ⟨⟨c0, d0, v0, sl0⟩, g0, hc0, nl, hd0⟩ := hl
  simp only at hc0 hd0
  subst hc0 hd0
  have g1 : (s.heap.push (emptyO w)).get? l = some { cls := .type "list", dict := d0, data := .seq its nl, slots := sl0 } := Heap.get?_push_of_some _ g0
  have f1 := PySem.F.sub_list_set
  have f2 := PySem.F.sub_list_frozenset
  have f3 : (Value.type "list" == Value.type "dict") = false := by decide
  have lst : (s.heap.push (emptyO w)).IsList l its := ⟨_, g1, rfl, nl, rfl⟩
  unfold Builtin.«set.__init__» noKeywords Builtin.Frozenset.updateFrom
  generalize hPI : pyIter = PI
  wp_walk
  subst hPI
  refine wpAny_pyIter_list lst (wpAny_bind (wpAny_runValue ?_))
  have l0 : l < s.heap.objs.size := Heap.lt_size g0
  have hI : (s.heap.push (emptyO w)).objs.size = s.heap.objs.size + 1 := Heap.size_push ..
  have nI : l ≠ (s.heap.push (emptyO w)).objs.size := by rw [hI]; exact Nat.ne_of_lt (Nat.lt_succ_of_lt l0)
  have at_ : ∀ (i : Nat) (v : Value), its[i]? = some v → ∃ k t, ns[i]? = some k ∧ v = .int k t := fun i v hv => by
    have hlt : i < ns.length := by rw [← len]; exact (Array.getElem?_eq_some_iff.mp hv).1
    obtain ⟨t, e⟩ := IntsAre.int_at hi i v (by rw [Array.getElem?_toList]; exact hv)
    exact ⟨ns[i], t, List.getElem?_eq_getElem hlt, by rw [e, List.getD_eq_getElem?_getD, List.getElem?_eq_getElem hlt]; rfl⟩
  have free : s.heap.objs.size ∉ [(s.heap.push (emptyO w)).objs.size, l] := by
    rw [hI]
    simp only [List.mem_cons, List.not_mem_nil, or_false, not_or]
    exact ⟨Nat.ne_of_lt (Nat.lt_succ_self _), Nat.ne_of_gt l0⟩
  refine set_update_ints ((Walks.list (by simp [hh]) _ l nI its).toS) s.heap.objs.size free ns len hb at_ (its.size - 0) 0 _ (by omega) (Nat.zero_le _) ⟨⟨_, Heap.get?_push_size _ rfl, rfl, rfl⟩, lst.push _⟩ ⟨0, Nat.le_refl 0, setR_new_at (Heap.get?_push_of_some _ hS)⟩ fun s' c hm hc hR => ?_
  obtain ⟨h', g', d', tk', os'⟩ := s'
  have e1 : g' = s.gens := hm.gens
  have e2 : d' = s.drawn := hm.drawn
  have e3 : os' = s.os := hm.os
  subst e1 e2 e3
  refine wpAny_pure ?_
  refine wpAny_pure ⟨rfl, h h' tk' c hR (by omega) fun b o e => ?_⟩
  have hb0 := Heap.lt_size e
  refine hm.heap b o ?_ (Heap.get?_push_of_some _ (Heap.get?_push_of_some _ e))
  rw [hI]
  simp only [List.mem_cons, List.not_mem_nil, or_false, not_or]
  exact ⟨Nat.ne_of_lt hb0, Nat.ne_of_lt (Nat.lt_succ_of_lt hb0)⟩
theorem setL_call {l : Addr} {its : Array Value} (ns : List Int) {Q : Value → Shared → Prop} (hh : A.handled = none) (hl : s.heap.IsList l its) (hi : IntsAre its.toList ns) (hb : ns.length + 1 < scanBound)
    (h : ∀ (h' : Heap) (tk c : Nat), SetR w h' s.heap.objs.size (fun j => decide (j ∈ ns)) c → c ≤ ns.length → (∀ b o, s.heap.get? b = some o → h'.get? b = some o) → Q (.ref s.heap.objs.size) { s with heap := h', toks := tk }) :
    wpAny (model P w) A (call (.type "set") [.ref l]) Q E s := by
  obtain ⟨c0, tl, hmro⟩ := F.called_set.mro
  have k1 := F.called_set.made
  have k2 := F.called_set.sub
  have k3 := F.called_set.notType
  have k4 := F.called_set.canCreate
  have k5 := F.typeCall_set_1 (.ref l)
  refine wpAny_call (codeAny_of_tree (wpAny_pure ⟨Code.quiet_builtin _ (by decide +kernel), codeAny_builtin F.entry_type_call ?_⟩))
  rw [Around.under_plain (weight_type_call_type "set" [.ref l] []) rfl]
  repeat (any_goals (first | assumption | wp_step))
  refine codeAny_mono (code_set_led1 (.ref l) (E := E) (Q₁ := fun v s1 => v = .ref s.heap.objs.size ∧ s1 = { s with heap := s.heap.push (emptyO w) }) ⟨rfl, rfl⟩) fun r s1 hr => ?_
  cases r with
  | error e => exact hr
  | ok f =>
    cases f <;> first | exact hr.elim | skip
    obtain ⟨rfl, rfl⟩ := hr
    have hS : (s.heap.push (emptyO w)).get? s.heap.objs.size = some (emptyO w) := Heap.get?_push_size _ rfl
    have hT : Shared.TypeIs { s with heap := s.heap.push (emptyO w) } (.ref s.heap.objs.size) "set" := ⟨_, hS, rfl⟩
    have k6 := F.called_set.init.lookup
    have k7 := F.called_set.init.bind (.ref s.heap.objs.size)
    repeat (any_goals (first | assumption | wp_step))
    refine codeAny_mono (codeAny_call_builtin (R := wants (fun v s2 => v = .none ∧ ∃ h' tk c, s2 = { s with heap := h', toks := tk } ∧ SetR w h' s.heap.objs.size (fun j => decide (j ∈ ns)) c ∧ c ≤ ns.length ∧ ∀ b o, s.heap.get? b = some o → h'.get? b = some o) E) F.called_set.init.plain F.entry_set_init (check_set_init_1 hT ?_)) fun r2 s2 hr2 => ?_
    · refine wpAny_mono (setL_init ns (R := fun s2 => ∃ h' tk c, s2 = { s with heap := h', toks := tk } ∧ SetR w h' s.heap.objs.size (fun j => decide (j ∈ ns)) c ∧ c ≤ ns.length ∧ ∀ b o, s.heap.get? b = some o → h'.get? b = some o) (by simp [hh]) hl hi hb fun h' tk c a1 a2 a3 => ⟨h', tk, c, rfl, a1, a2, a3⟩) ?_ fun _ _ e => e
      rintro f s' ⟨rfl, g⟩
      exact ⟨rfl, g⟩
    · cases r2 with
      | error e => exact hr2
      | ok f2 =>
        cases f2 <;> first | exact hr2.elim | skip
        obtain ⟨rfl, h', tk, c, rfl, a1, a2, a3⟩ := hr2
        repeat (any_goals (first | assumption | wp_step))
        exact h _ _ _ a1 a2 a3
end
/-! numbers in order, each once -/
theorem mem_insS {y a : Int} : ∀ {L : List Int}, y ∈ insS a L ↔ y = a ∨ y ∈ L
  | [] => by unfold insS; rw [List.mem_singleton]; simp
  | b :: r => by
    unfold insS
    split
    · rw [List.mem_cons]
    · split
      · rename_i e
        rw [e, List.mem_cons]
        constructor
        · exact fun h => .inr h
        · rintro (h | h)
          · exact .inl h
          · exact h
      · rw [List.mem_cons, mem_insS, List.mem_cons]
        constructor
        · rintro (h | h | h)
          · exact .inr (.inl h)
          · exact .inl h
          · exact .inr (.inr h)
        · rintro (h | h | h)
          · exact .inr (.inl h)
          · exact .inl h
          · exact .inr (.inr h)
theorem mem_sortS {y : Int} : ∀ {L : List Int}, y ∈ sortS L ↔ y ∈ L
  | [] => Iff.rfl
  | a :: r => by
    unfold sortS
    rw [mem_insS, mem_sortS, List.mem_cons]
theorem insS_pw {a : Int} : ∀ {L : List Int}, L.Pairwise (· < ·) → (insS a L).Pairwise (· < ·)
  | [], _ => by unfold insS; simp
  | b :: r, h => by
    have h' := List.pairwise_cons.mp h
    unfold insS
    split
    · rename_i c
      refine List.pairwise_cons.mpr ⟨fun z hz => ?_, h⟩
      rw [List.mem_cons] at hz
      rcases hz with rfl | hz
      · exact c
      · exact Int.lt_trans c (h'.1 z hz)
    · split
      · exact h
      · refine List.pairwise_cons.mpr ⟨fun z hz => ?_, insS_pw h'.2⟩
        rw [mem_insS] at hz
        rcases hz with rfl | hz
        · omega
        · exact h'.1 z hz
theorem sortS_pw : ∀ L : List Int, (sortS L).Pairwise (· < ·)
  | [] => .nil
  | _ :: r => insS_pw (sortS_pw r)
theorem lt_nodup {L : List Int} (h : L.Pairwise (· < ·)) : L.Nodup := h.imp fun {a b} hab => Int.ne_of_lt hab
theorem lt_uniq : ∀ {L M : List Int}, L.Pairwise (· < ·) → M.Pairwise (· < ·) → (∀ z, z ∈ L ↔ z ∈ M) → L = M
  | [], [], _, _, _ => rfl
  | [], y :: M, _, _, h => by have := (h y).mpr List.mem_cons_self; cases this
  | x :: L, [], _, _, h => by have := (h x).mp List.mem_cons_self; cases this
  | x :: L, y :: M, h1, h2, h => by
    rw [List.pairwise_cons] at h1 h2
    have e : x = y := by
      have a := (h x).mp List.mem_cons_self
      have b := (h y).mpr List.mem_cons_self
      rw [List.mem_cons] at a b
      rcases a with a | a
      · exact a
      · rcases b with b | b
        · exact b.symm
        · have p := h1.1 y b
          have q := h2.1 x a
          omega
    subst e
    rw [lt_uniq h1.2 h2.2 (fun z => ?_)]
    have := h z
    rw [List.mem_cons, List.mem_cons] at this
    constructor
    · intro hz
      rcases this.mp (.inr hz) with rfl | q
      · have := h1.1 z hz; omega
      · exact q
    · intro hz
      rcases this.mpr (.inr hz) with rfl | q
      · have := h2.1 z hz; omega
      · exact q
theorem len_of_mem {α : Type} {L M : List α} (h1 : L.Nodup) (h2 : M.Nodup) (h : ∀ z, z ∈ L ↔ z ∈ M) : L.length = M.length := ((List.perm_ext_iff_of_nodup h1 h2).mpr h).length_eq
/-- how many a set of numbers has -/
theorem setR_len {w : World} {h : Heap} {a : Addr} {ns : List Int} {c : Nat} (R : SetR w h a (fun j => decide (j ∈ ns)) c) : c = (sortS ns).length := by
  obtain ⟨o, es, ep, t, ho, hx, hd, g, nd, hm, hb, hf, hn, _⟩ := R
  have e := len_of_mem nd (lt_nodup (sortS_pw ns)) fun z => by rw [← hm z, decide_eq_true_eq, mem_sortS]
  rw [List.length_map, Array.length_toList, hn] at e
  exact e
section
variable {X : Cx}
/-- set(xs), xs a list of numbers -/
def rSetOfI (K : PySem.W.Frag) (w : World) : List V → Hp → VK → Prop := fun xs H Q => ∃ (l : Addr) (ns : List Int), xs = [V.ref l] ∧ SqL K H l (ns.map V.int) ∧ ns.length ≤ 3000 ∧
  ∀ a, H a = none → Q (.ref a) (upd H a (SetO w a (fun j => decide (j ∈ ns)) (sortS ns).length))
theorem cr_setOfI (hc : X.calm = true) : CallR X (.type "set") (rSetOfI X.K X.w) := by
  rintro pins s σ H xs us Q I r ⟨l, ns, rfl, hl, hn, q⟩
  rw [Vals.ref1 r]
  obtain ⟨its, rv, pl, _⟩ := I.list hl
  refine setL_call ns (I.ok.hd hc) pl.isList (by simpa using rv.ints) (by unfold scanBound; omega) fun h' tk c R _ k => ?_
  have e := setR_len R
  rw [e] at R
  have J := I.laid (t' := tk) k (Nat.le_refl _) (setO_new R)
  exact ⟨.ref s.heap.objs.size, _, J, rfl, q _ (I.hok.fresh (Nat.le_refl _))⟩
def rSetAny (K : PySem.W.Frag) (P : Program) (w : World) : List V → Hp → VK → Prop := fun xs H Q => rSetOfT K P w xs H Q ∨ rSetOfI K w xs H Q
theorem cr_setAny (hc : X.calm = true) (hu : X.A.units + 64 < cLine) : CallR X (.type "set") (rSetAny X.K X.prog X.w) := fun pins s σ H xs us Q I r h => h.elim (fun h => cr_setOfT hc hu pins s σ H xs us Q I r h) (fun h => cr_setOfI hc pins s σ H xs us Q I r h)
def rSortAny (K : PySem.W.Frag) (P : Program) (w : World) : List V → Hp → VK → Prop := fun xs H Q => rSortedT K P w xs H Q ∨ rSortedSet w xs H Q
theorem cr_sortAny (hc : X.calm = true) : CallR X (.builtin "sorted") (rSortAny X.K X.prog X.w) := fun pins s σ H xs us Q I r h => h.elim (fun h => cr_sortedT hc pins s σ H xs us Q I r h) (fun h => cr_sortedSet hc pins s σ H xs us Q I r h)
/-- len of a set -/
def rLenSet (K : PySem.W.Frag) (P : Program) (w : World) : List V → Hp → VK → Prop := fun xs H Q => (∃ (a : Addr) (L : List (Addr × List Int)), xs = [V.ref a] ∧ H a = some (SetTO P w a L) ∧ (∀ p ∈ L, SqT K H p.1 (p.2.map V.int)) ∧ ((L.map (·.2)).Nodup → Q (.int L.length) H)) ∨
  ∃ (a : Addr) (S : Int → Bool) (n : Nat), xs = [V.ref a] ∧ H a = some (SetO w a S n) ∧ Q (.int n) H
theorem cr_lenSet : CallR X (.builtin "len") (rLenSet X.K X.prog X.w) := by
  intro pins s σ H xs us Q I r h
  rcases h with ⟨a, L, rfl, ha, hk, q⟩ | ⟨a, S, n, rfl, ha, q⟩
  · rw [Vals.ref1 r]
    have R0 : SetT0 X.prog X.w s.heap a L := (I.hok a _ ha).1
    obtain ⟨es, ep, t, R⟩ := R0.full fun p hp => I.isT (hk p hp)
    have hf := R.fits
    have e : es.size = L.length := by
      have := congrArg List.length R.rows
      rw [Array.length_toList] at this
      rw [this]
      unfold rowsOf
      rw [List.length_map]
    obtain ⟨o, ho, hx, hd⟩ := R.ob
    have hfew := R.few
    exact call_len_set ho hx hd hf (by omega) ⟨.int L.length, H, I.tok _, ⟨_, by rw [e]⟩, q R.nd⟩
  · rw [Vals.ref1 r]
    obtain ⟨o, es, ep, t, ho, hx, hd, _, _, _, hb, hf, hn, _⟩ := (setO_get I ha)
    have hb' : es.size < 4096 := hb
    exact call_len_set ho hx hd hf (by omega) ⟨.int n, H, I.tok _, ⟨_, by rw [hn]⟩, q⟩
end
end TD

set_option maxHeartbeats 1000000
namespace TD
open PySem PySem.Spec PyProof.Rows L2
section
variable {prog : Program} {w : World} {A : Around} {E : Value → Shared → Prop} {s : Shared}
theorem rv_adjust (n : Nat) : Builtin.Slice.sliceAdjust none none (-1) (n : Int) = ((n : Int) - 1, -1) := by
  unfold Builtin.Slice.sliceAdjust
  rfl
theorem rv_places (n : Nat) : Builtin.Slice.slicePlaces ((n : Int) - 1) (-1) (-1) = n := by
  unfold Builtin.Slice.slicePlaces
  have h1 : ¬ ((-1 : Int) > 0) := by omega
  simp only [h1, if_false]
  have e : ((n : Int) - 1 - -1 - 1) / - -1 = (n : Int) - 1 := by
    rw [Int.neg_neg, Int.ediv_one]; omega
  rw [e]
  split <;> omega
theorem fm_congr {α β : Type} {f g : α → Option β} : ∀ {L : List α}, (∀ a ∈ L, f a = g a) → L.filterMap f = L.filterMap g
  | [], _ => rfl
  | a :: L, h => by
    rw [List.filterMap_cons, List.filterMap_cons, h a List.mem_cons_self, fm_congr (fun b hb => h b (List.mem_cons_of_mem _ hb))]
theorem rv_pick (xs : Array Value) : ((List.range xs.size).filterMap fun (m : Nat) => xs[(((xs.size : Int) - 1) + (m : Int) * (-1)).toNat]?).toArray = xs.toList.reverse.toArray := by
  congr 1
  obtain ⟨l⟩ := xs
  have e : ∀ m ∈ List.range (Array.mk l).size, (Array.mk l)[(((Array.mk l).size : Int) - 1 + (m : Int) * (-1)).toNat]? = l.reverse[m]? := by
    intro m hm
    have hm : m < l.length := List.mem_range.mp hm
    rw [List.getElem?_reverse hm, List.getElem?_toArray]
    congr 1
    have : (Array.mk l).size = l.length := rfl
    omega
  rw [fm_congr e]
  show ((List.range l.length).filterMap fun m => l.reverse[m]?) = l.reverse
  have : ∀ l : List Value, (List.range l.length).filterMap (fun m => l[m]?) = l := by
    intro l
    induction l with
    | nil => rfl
    | cons a r ih =>
      rw [List.length_cons, List.range_succ_eq_map, List.filterMap_cons]
      show a :: _ = _
      rw [List.filterMap_map]
      congr 1
  have h2 := this l.reverse
  rw [List.length_reverse] at h2
  exact h2
theorem rv_applied {sl : Addr} {vs : Value} {n : Nat} {Q : Int × Int × Nat → Shared → Prop} (hs : s.heap.IsSliceOf sl .none .none vs) (ps : IsPart vs (some (-1)))
    (h : Q ((n : Int) - 1, -1, n) s) : wpAny (model prog w) A (Builtin.Slice.sliceApplied (.ref sl) (pure (n : Int))) Q E s := by
  obtain ⟨os, hos, hcs, hds⟩ := id hs
  unfold Builtin.Slice.sliceApplied Builtin.Slice.sliceFields
  refine wpAny_bind (wpAny_bind (wpAny_field hos hds (x := .none) rfl (wpAny_bind (wpAny_field hos hds (x := .none) rfl (wpAny_bind (wpAny_field hos hds (x := vs) rfl (wpAny_pure ?_)))))))
  refine wpAny_bind (HT.slicePart_ ps ?_)
  show wpAny _ _ (if ((-1 : Int) == 0) = true then _ else _) _ _ s
  rw [if_neg (by decide)]
  refine wpAny_bind (HT.slicePart_ .none (wpAny_bind (HT.slicePart_ .none (wpAny_bind (wpAny_pure ?_)))))
  show wpAny _ _ (match Builtin.Slice.sliceAdjust none none (-1) (n : Int) with | (lo, hi) => pure (lo, (-1 : Int), Builtin.Slice.slicePlaces lo hi (-1))) _ _ s
  rw [rv_adjust n]
  show wpAny _ _ (pure ((n : Int) - 1, (-1 : Int), Builtin.Slice.slicePlaces ((n : Int) - 1) (-1) (-1))) _ _ s
  rw [rv_places]
  exact wpAny_pure h
theorem rv_tuple {t sl : Addr} {items : Array Value} {vs : Value} {Q : Value → Shared → Prop} (ht : IsTup s.heap t items) (hs : s.heap.IsSliceOf sl .none .none vs) (ps : IsPart vs (some (-1)))
    (h : Q (.ref s.heap.objs.size) { s with heap := s.heap.push { cls := .type "tuple", data := .seq items.toList.reverse.toArray } })
    (hsz : items.size ≤ sizeLine) : wpAny (model prog w) A (getItem (.ref t) (.ref sl)) Q E s := by
  have htake : sizeOk (.seq items.toList.reverse.toArray) := by
    show items.toList.reverse.toArray.size ≤ sizeLine
    rw [List.size_toArray, List.length_reverse, Array.length_toList]
    exact hsz
  obtain ⟨os, hos, hcs, hds⟩ := id hs
  have hTs : s.TypeIs (.ref sl) "slice" := ⟨os, hos, hcs⟩
  unfold getItem
  try with_reducible refine wpAny_holding ?_
  first | refine wpAny_bind (wpAny_pure ?_) | skip
  refine wpAny_bind (wpAny_sequenceKey ht.typeIs (by decide) ?_)
  refine wpAny_bind (wpAny_callSpecial?_slot (name := Str.ofString "__getitem__") ht.typeIs PyProof.Rows.slot_tuple_getitem
    (wpAny_call_entry PyProof.Rows.slot_tuple_getitem ht.typeIs entry_tuple_getitem ?_ (args_tuple_getitem _ _)))
  show wpAny _ _ (Builtin.Tuple.tupleItemsOf (.ref t) >>= _) _ _ s
  refine wpAny_bind (tupleItemsOf_ ht ?_)
  refine wpAny_bind (wpAny_typeOf hTs ?_)
  rw [if_pos (by decide)]
  refine wpAny_bind (rv_applied hs ps ?_)
  have hno : ¬ ((((items.size : Int) - 1) == 0 && (-1 : Int) == 1 && items.size == items.size) = true) := by
    intro q
    rw [Bool.and_eq_true, Bool.and_eq_true] at q
    exact absurd q.1.2 (by decide)
  show wpAny _ _ (if (((items.size : Int) - 1) == 0 && (-1 : Int) == 1 && items.size == items.size) = true then _ else _) _ _ s
  rw [if_neg hno, rv_pick]
  first
    | exact wpAny_bind (m := Builtin.Tuple.tupleExact _) (wpAny_newObj_type (wpAny_pure ⟨_, rfl, wpAny_pure h⟩) htake)
    | exact wpAny_bind (m := Builtin.Tuple.tupleExact _) (wpAny_newObj_type (wpAny_bind (wpAny_pure (wpAny_pure ⟨_, rfl, wpAny_pure h⟩))) htake)
    | exact wpAny_bind (wpAny_bind (m := Builtin.Tuple.tupleExact _) (wpAny_newObj_type (wpAny_pure (wpAny_pure ⟨_, rfl, wpAny_pure h⟩)) htake))
    | exact wpAny_bind (wpAny_bind (m := Builtin.Tuple.tupleExact _) (wpAny_newObj_type (wpAny_pure ⟨_, rfl, wpAny_pure h⟩) htake))
end
section
variable {X : Cx}
/-- x[::-1] of a list or a tuple -/
def tRevX (K : PySem.W.Frag) (te : TE) : TE := fun σ H Q => te σ H fun x H1 => (∃ a xs, x = .ref a ∧ SqL K H1 a xs ∧ ∀ p, H1 p = none → Q (.ref p) (upd H1 p (.lst xs.reverse))) ∨
  (∃ a xs, x = .ref a ∧ SqT K H1 a xs ∧ ∀ p, H1 p = none → Q (.ref p) (upd H1 p (.tup xs.reverse)))
theorem pe_revX {e : Expr} {te : TE} {k : Nat} {p1 p2 p3 pos : Pos} (he : PE X e te) : PE X (.Subscript e (.Slice none none (some (.UnaryOp .USub (.Constant (.int 1) k p1) p2)) p3) pos) (tRevX X.K te) := by
  refine ⟨fun pins s σ H Q I h => ?_⟩
  refine Subscript_ (thn (he.run pins s σ H _ I h) fun v s1 ⟨x, H1, I1, r1, q1⟩ => ?_)
  have hst : PO X (some (.UnaryOp .USub (.Constant (.int 1) k p1) p2)) (tPart (tUn (rU fun i => .int (-i)) (tC (.int 1)))) := po_some (pe_un un_neg pe_int)
  refine wpAny_Slice (thn (po_none.run pins s1 σ H1 (fun o H2 => o = none ∧ H2 = H1) I1 ⟨rfl, rfl⟩) fun vl s2 ⟨l, H2, I2, pl, el, e2⟩ => ?_)
  subst el e2
  refine thn (po_none.run pins s2 σ H2 (fun o H3 => o = none ∧ H3 = H2) I2 ⟨rfl, rfl⟩) fun vu s3 ⟨u, H3, I3, pu, eu, e3⟩ => ?_
  subst eu e3
  refine thn (hst.run pins s3 σ H3 (fun o H4 => o = some (-1) ∧ H4 = H3) I3 ⟨1, rfl, -1, rfl, rfl, rfl⟩) fun vs s4 ⟨o, H4, I4, ps, eo, e4⟩ => ?_
  subst eo e4
  have I5 : Inv X pins σ H4 { s4 with heap := s4.heap.push { cls := .type "slice", data := .fields #[vl, vu, vs] } } := I4.kept (t' := s4.toks) fun b ob q => Heap.get?_push_of_some _ q
  cases pl
  cases pu
  show wpAny (model X.prog X.w) X.A (subscriptTail e (.Slice none none (some (.UnaryOp .USub (.Constant (.int 1) k p1) p2)) p3) v (.ref s4.heap.objs.size)) (EP X pins σ Q) X.xe { s4 with heap := s4.heap.push { cls := .type "slice", data := .fields #[.none, .none, vs] } }
  rcases q1 with ⟨a, xs, ex, hx, q⟩ | ⟨a, xs, ex, hx, q⟩
  · subst ex
    cases r1
    obtain ⟨its, r, ht, hz⟩ := I5.list hx
    have hlen := r.length
    refine tail_any (ops := [.ref a, .ref s4.heap.objs.size]) ht.isList.typeIs (PySem.slot_list_getitem.lookup) ?_ (by with_unfolding_all rfl)
    refine wpAny_getItem_list_slice ht.isList (Heap.IsSliceOf.new _ .none .none vs) .none .none ps (by decide) ?_ (by rw [List.size_toArray]; omega)
    rw [PySem.W.krv_pick]
    refine ⟨.ref _, _, I5.laid (t' := s4.toks) (o := .lst xs.reverse) (fun b ob q => Heap.get?_push_of_some _ q) (Nat.le_refl _) ?_, rfl, q _ (I5.hok.fresh (Nat.le_refl _))⟩
    exact ⟨by rw [List.length_reverse]; exact hz, _, 0, r.reverse, Heap.get?_push_size _ rfl⟩
  · subst ex
    cases r1
    obtain ⟨its, r, ht, hz⟩ := I5.tuple hx
    have hlen := r.length
    refine tail_any (ops := [.ref a, .ref s4.heap.objs.size]) ht.typeIs (PyProof.Rows.slot_tuple_getitem.lookup) ?_ (by with_unfolding_all rfl)
    refine rv_tuple ht (Heap.IsSliceOf.new _ .none .none vs) ps ?_ (by rw [List.size_toArray]; omega)
    refine ⟨.ref _, _, I5.laid (t' := s4.toks) (o := .tup xs.reverse) (fun b ob q => Heap.get?_push_of_some _ q) (Nat.le_refl _) ?_, rfl, q _ (I5.hok.fresh (Nat.le_refl _))⟩
    exact ⟨by rw [List.length_reverse]; exact hz, _, r.reverse, IsTup.new _ _⟩
end
section
variable {D : Dt} {X : Cx} {N : List Str} {sc : Scope} {Wx : WX} {σ : SS} {Fz : Addr → Prop} {H : Hp} {en : En}
theorem se_rev {a : E} (ha : SE D a) : SE D (.rev a) := by
  intro X N sc Wx C x hx σ Fz H en Q R h
  cases x <;> first | exact (Bool.false_ne_true hx).elim | skip
  rename_i y z pos
  cases z <;> first | exact (Bool.false_ne_true hx).elim | skip
  rename_i lo hi st p2
  match lo, hi, st, hx with
  | none, none, some (.UnaryOp .USub (.Constant (.int j) k p3) p4), hx =>
    have h' : (decide (j = 1) && chkE D.G N a sc y) = true := hx
    simp only [Bool.and_eq_true, decide_eq_true_eq] at h'
    obtain ⟨rfl, h1⟩ := h'
    simp only [ev] at h
    have hp := pe_revX (X := X) (k := k) (p1 := p3) (p2 := p4) (p3 := p2) (pos := pos) (JE.pe X y)
    rw [C.K] at hp
    refine JE.of hp ?_
    refine ha X N sc Wx C y h1 σ Fz H en _ R (h.bindV fun w e1 Fz1 H1 v s r h => ?_)
    obtain ⟨wr, he, g⟩ := h.of
    generalize w.val = d at he r
    cases r with
    | lst a1 a2 a3 =>
      cases he
      exact .inl ⟨_, _, rfl, .inl a1, fun p hp => g.okl s.er a3.reverse hp⟩
    | tup a1 a3 =>
      cases he
      exact .inr ⟨_, _, rfl, a1, fun p hp => g.okt s.er a3.reverse hp⟩
    | _ => cases he
  | none, none, none, hx => exact (Bool.false_ne_true hx).elim
  | some _, _, _, hx => exact (Bool.false_ne_true hx).elim
  | none, some _, _, hx => exact (Bool.false_ne_true hx).elim

/-! ### calls of the built-ins -/
theorem biB_fn {G : Gm} {b : Bi} {x : Str} (h : biB G b x = true) : (b = .gcd ∧ G.gcd = true ∧ x = "gcd") ∨ (x ∈ bltN ∧ bootBuiltins x = some (biVal b) ∧ x ≠ "__name__" ∧ (x == ("__debug__" : Str)) = false) := by
  cases b
  case gcd =>
    have h' : (G.gcd && decide (x = "gcd")) = true := h
    rw [Bool.and_eq_true, decide_eq_true_eq] at h'
    exact .inl ⟨rfl, h'.1, h'.2⟩
  all_goals (have e := of_decide_eq_true h; subst e; exact .inr ⟨by decide +kernel, by decide +kernel, by decide +kernel, by decide +kernel⟩)
theorem se_bi {b : Bi} {es : E} (O : D.Ok) (hs : SA D es) : SE D (.bi b es) := by
  intro X N sc Wx C x hx σ Fz H en Q R h
  cases x <;> first | exact (Bool.false_ne_true hx).elim | skip
  rename_i fe xs kws pos
  match fe, xs, kws, hx with
  | .Name x p, y :: ys, [], hx =>
    have h' : (biB D.G b x && glB sc x && chkA D.G N es sc (y :: ys)) = true := hx
    simp only [Bool.and_eq_true] at h'
    obtain ⟨⟨h1, h2⟩, h3⟩ := h'
    have hst := chkA_star h3
    rw [List.all_cons, Bool.and_eq_true] at hst
    simp only [ev] at h
    have q : tCB (rBi D.K b) (JA X (y :: ys)) σ H Q := by
      refine hs X N sc Wx C _ h3 σ Fz H en _ R (h.bindA (fun w e1 hw => by cases w <;> first | rfl | exact absurd rfl (hw _)) fun ds e1 Fz1 H1 zs s r h => ?_)
      obtain ⟨wr, he, g⟩ := h.of
      exact ⟨Fz1, ds, wr, r, he, g.ans s.er⟩
    rcases biB_fn h1 with ⟨rfl, g1, rfl⟩ | ⟨g1, g2, g3, g4⟩
    · have hm : X.mg "gcd" = some (.builtin "math.gcd") := by rw [C.mg]; exact O.fa.gcd g1
      exact JE.of (pe_callBfun (Dt.bi C .gcd) (gl_of C.sc h2) hm (JA.pa X _) (by decide +kernel) (star_of hst.1) (stars_of hst.2)) q
    · have hb := Dt.bi C b
      unfold biVal at hb g2
      split at hb
      · rename_i f hf
        rw [hf] at g2
        exact JE.of (pe_callB hb (gl_of C.sc h2) (Dt.blt O C g1) g2 (JA.pa X _) g3 g4 (star_of hst.1) (stars_of hst.2)) q
      · rename_i f hf
        rw [hf] at g2
        exact JE.of (pe_callTy hb (gl_of C.sc h2) (Dt.blt O C g1) g2 (JA.pa X _) g3 g4 (star_of hst.1) (stars_of hst.2)) q
  | .Name _ _, [], _, hx => exact (Bool.false_ne_true hx).elim

/-! ### isinstance -/
theorem ty_boot (t : Ty) : tyS t ∈ bltN ∧ bootBuiltins (tyS t) = some (.type (tyN t)) ∧ tyS t ≠ "__name__" ∧ (tyS t == ("__debug__" : Str)) = false := by
  cases t <;> exact ⟨by decide +kernel, by decide +kernel, by decide +kernel, by decide +kernel⟩
theorem pe_ty (O : D.Ok) (C : D.C X N sc Wx) {t : Ty} {x : Expr} (h : chkTy1 sc t x = true) : PE X x (tC (.ty (tyN t))) := by
  cases x <;> first | exact (Bool.false_ne_true h).elim | skip
  rename_i y pos
  have h' : (decide (y = tyS t) && glB sc y) = true := h
  simp only [Bool.and_eq_true, decide_eq_true_eq] at h'
  obtain ⟨rfl, h2⟩ := h'
  obtain ⟨g1, g2, g3, g4⟩ := ty_boot t
  exact pe_bltn (v := .ty (tyN t)) (gl_of C.sc h2) (Dt.blt O C g1) g2 rfl g3 g4
theorem chkTy1_star {t : Ty} {x : Expr} (h : chkTy1 sc t x = true) : notStar x = true := by
  cases x <;> first | rfl | exact (Bool.false_ne_true h).elim
theorem pa_ty (O : D.Ok) (C : D.C X N sc Wx) : ∀ {ts : List Ty} {xs : List Expr}, chkTyL sc ts xs = true → ∃ t, PA X xs t ∧ ∀ (σ : SS) (H : Hp) (Q : List V → Hp → Prop), Q (ts.map fun t => V.ty (tyN t)) H → t σ H Q
  | [], [], _ => ⟨_, pa_nil, fun _ _ _ q => q⟩
  | t :: ts, x :: xs, h => by
    have h' : (chkTy1 sc t x && chkTyL sc ts xs) = true := h
    rw [Bool.and_eq_true] at h'
    obtain ⟨u, hu, ku⟩ := pa_ty O C h'.2
    exact ⟨_, pa_cons (pe_ty O C h'.1) hu (star_of (chkTy1_star h'.1)), fun σ H Q q => ku σ H _ q⟩
  | [], _ :: _, h => (Bool.false_ne_true h).elim
  | _ :: _, [], h => (Bool.false_ne_true h).elim
theorem cls_paired : ∀ ts : List Ty, Paired ClsV (ts.map fun t => V.ty (tyN t)) (ts.map fun t => Value.type (tyN t))
  | [] => .nil
  | t :: ts => .cons (.ty _) (cls_paired ts)
theorem chkTy_inv {ts : List Ty} {c : Expr} (h : chkTy sc ts c = true) : (∃ t z pz, ts = [t] ∧ c = .Name z pz ∧ chkTy1 sc t (.Name z pz) = true) ∨ (∃ zs kk pz, c = .Tuple zs kk pz ∧ ts.length ≤ 8 ∧ chkTyL sc ts zs = true) := by
  unfold chkTy at h
  split at h
  · exact .inl ⟨_, _, _, rfl, rfl, h⟩
  · rw [Bool.and_eq_true, decide_eq_true_eq] at h
    exact .inr ⟨_, _, _, rfl, h.1, h.2⟩
  · exact (Bool.false_ne_true h).elim
theorem se_isi {a : E} {ts : List Ty} (O : D.Ok) (ha : SE D a) : SE D (.isi a ts) := by
  intro X N sc Wx C x hx σ Fz H en Q R h
  cases x <;> first | exact (Bool.false_ne_true hx).elim | skip
  rename_i fe xs kws pos
  match fe, xs, kws, hx with
  | .Name l p, [y, c], [], hx =>
    have h' : (decide (l = "isinstance") && glB sc l && chkE D.G N a sc y && chkTy sc ts c) = true := hx
    simp only [Bool.and_eq_true, decide_eq_true_eq] at h'
    obtain ⟨⟨⟨rfl, h1⟩, h2⟩, h3⟩ := h'
    simp only [ev] at h
    have hm : X.mg "isinstance" = none := Dt.blt O C (by decide +kernel)
    have hb : bootBuiltins "isinstance" = some (.builtin "isinstance") := by decide +kernel
    have sy := star_of (env := X.env) (xs := [c]) (chkE_star h2)
    rcases chkTy_inv h3 with ⟨t, z, pz, rfl, rfl, g3⟩ | ⟨zs, kk, pz, rfl, g3⟩
    · -- one class
      have hc := pe_ty O C g3
      refine JE.of (pe_callB (call_isi (X := X)) (gl_of C.sc h1) hm hb (pa_cons (JE.pe X y) (pa_cons hc pa_nil rfl) sy) (by decide +kernel) (by decide +kernel) sy rfl) ?_
      rw [C.K]
      refine ha X N sc Wx C y h2 σ Fz H en _ R (h.bindV fun w e1 Fz1 H1 v s r h => ?_)
      have q := h.okv s.er (.bl _)
      rw [show ([t].any fun t => isTy w.val t) = isTy w.val t from by simp] at q
      exact ⟨v, _, _, _, _, rfl, .ty _, ty_D r, kit_D D.K w.val t, q⟩
    · -- a tuple of classes
      obtain ⟨u, hu, ku⟩ := pa_ty O C g3.2
      refine JE.of (pe_callB (call_isiT (X := X)) (gl_of C.sc h1) hm hb (pa_cons (JE.pe X y) (pa_cons (pe_tup hu) pa_nil rfl) sy) (by decide +kernel) (by decide +kernel) sy rfl) ?_
      rw [C.K]
      refine ha X N sc Wx C y h2 σ Fz H en _ R (h.bindV fun w e1 Fz1 H1 v s r h => ?_)
      refine ku σ H1 _ ⟨?_, fun T hT => ?_⟩
      · rw [List.length_map]
        exact Nat.le_trans g3.1 (by decide)
      · have s2 : Nx D.K σ Fz1 H1 e1 Fz1 (upd H1 T (.tup (ts.map fun t => V.ty (tyN t)))) e1 := Nx.new s.er hT
        exact ⟨v, T, _, _, _, _, rfl, upd_same, cls_paired ts, ty_D (s2.vr s.er r), kit_any D.K w.val ts, (h.shift s2).okv s2.er (.bl _)⟩
  | .Name _ _, [], _, hx => exact (Bool.false_ne_true hx).elim

/-! ### calls of the text's own defs -/
theorem Dt.fn (O : D.Ok) (C : D.C X N sc Wx) {f : Nat} {x : Str} (h : D.G.fnm[f]? = some x) : ∃ fa fd ps, X.mg x = some (.ref fa) ∧ PySem.W.keepIn X.K (.ref fa) = true ∧ Binds X.K fd ps [] ∧
    FnOk X.prog X.w X.K X.mg X.base (L2.CX X.prog X.w) D.k fa fd ps (spF D.K D.cl D.cf f ps.length) ∧ (∀ ws, D.cf f ws ≠ .stuck → ws.length = ps.length) ∧ ∀ ns, (x, ns) ∈ D.G.kw → ns = ps ∧ KwB X.K fd ps := by
  rw [C.prog, C.w, C.K, C.mg, C.base]
  exact O.cf f x h
/-- f() -/
theorem pe_call0F {X : Cx} {CX : CXT} {k : Nat} {f : Addr} {fd : FuncData} {ps : List Str} {sp : Sp} {E : SS → XK} {x : Str} {p pos : Pos} (F : FnOk X.prog X.w X.K X.mg X.base CX k f fd ps sp) (hr : Room k X.A) (hg : Gl X x) (hm : X.mg x = some (.ref f)) (hk : PySem.W.keepIn X.K (.ref f) = true) (hb : Binds X.K fd ps []) (hx : ∀ σ, PassesAt CX X σ (E σ))
    (hdb : (x == ("__debug__" : Str)) = false) : PE X (.Call (.Name x p) [] [] pos) (tCallS sp E tNil) := by
  refine ⟨fun pins s σ H Q I h => ?_⟩
  refine wpAny_Call_Name_kw (ld_glob I hg hm ?_ hdb)
  exact PySem.W.callWith_K0 I.kIn hk (run_fnS (us := []) F hr hb (hx σ) I .nil h)
theorem er_args {K : PySem.W.Frag} {ds : List PyData} {xs : List V} (R : Er K Fz H en σ) (h : VRs K Fz H ds xs) : Er K Fz H ((ds.map W.v).map some) (xs.map some) where
  len := by simp [h.length]
  vs i d q := by
    rw [List.getElem?_map, List.getElem?_map] at q
    cases hd : ds[i]? with
    | none => rw [hd] at q; cases q
    | some d' =>
      rw [hd] at q
      cases q
      obtain ⟨x, g1, g2⟩ := h.get hd
      exact ⟨x, by rw [List.getElem?_map, g1]; rfl, g2⟩
  os i es q := by
    rw [List.getElem?_map, List.getElem?_map] at q
    cases hd : ds[i]? with
    | none => rw [hd] at q; cases q
    | some d' => rw [hd] at q; cases q
  ss i es q := by
    rw [List.getElem?_map, List.getElem?_map] at q
    cases hd : ds[i]? with
    | none => rw [hd] at q; cases q
    | some d' => rw [hd] at q; cases q
  ap i j es fs a q := by
    rw [List.getElem?_map, List.getElem?_map] at q
    cases hd : ds[i]? with
    | none => rw [hd] at q; cases q
    | some d' => rw [hd] at q; cases q
  ft := R.ft
theorem ow_args {ds : List PyData} {τ : SS} {a : Addr} : ¬ Ow ((ds.map W.v).map some) τ a := fun ⟨i, es, q, _⟩ => by
  rw [List.getElem?_map, List.getElem?_map] at q
  cases hd : ds[i]? with
  | none => rw [hd] at q; cases q
  | some d' => rw [hd] at q; cases q
/-- behind a call that had nothing of ours -/
theorem nx_call {K : PySem.W.Frag} {Fz1 : Addr → Prop} {H1 : Hp} {O : Addr → Prop} (R : Er K Fz H en σ) (hO : ∀ a, ¬ O a) (s : Stp Fz O H Fz1 H1) (ft : ∀ a, Fz1 a → H1 a ≠ none) : Nx K σ Fz H en Fz1 H1 en := by
  refine Nx.grow R ⟨s.fz, fun a o q _ => s.keep a o q (hO a), fun a q => ?_, s.trk⟩ (fun a ha => ?_) ft
  · rcases s.nfz a q with z | z | z
    · exact .inl z
    · exact .inr (.inl z)
    · exact absurd z (hO a)
  · obtain ⟨n, xs, q⟩ := R.ol a ha
    refine ⟨by rw [s.keep a _ q (hO a), q], fun z => ?_⟩
    rcases s.nfz a z with z | z | z
    · exact n z
    · rw [q] at z; cases z
    · exact hO a z
theorem sp_call {f n : Nat} {ds : List PyData} {e1 : En} {Fz1 : Addr → Prop} {H1 : Hp} {zs : List V} {Q : VK} (R1 : Er D.K Fz1 H1 e1 σ) (r : VRs D.K Fz1 H1 ds zs) (g5 : ∀ ws, D.cf f ws ≠ .stuck → ws.length = n) (h : Sat D.K σ D.cl Wx Fz1 H1 e1 (match D.cf f (ds.map W.v) with
        | .ok w _ => .ok w e1
        | .exc c p _ => .exc c p e1
        | .stuck => .stuck) Q) : spF D.K D.cl D.cf f n zs H1 Q (L2.WE Wx σ) := by
  have hl : zs.length = n := by
    have := g5 (ds.map W.v) (fun e => by rw [e] at h; exact h)
    rw [← this, List.length_map, r.length]
  refine ⟨hl, Fz1, ds.map W.v, er_args R1 r, ?_⟩
  cases hr : D.cf f (ds.map W.v) with
  | stuck => rw [hr] at h; exact h
  | ok w b =>
    rw [hr] at h
    intro Fz2 H2 x st ft _ wr
    have n := nx_call R1 (fun a => ow_args) st ft
    refine h Fz2 H2 x n ?_
    cases w with
    | v d => exact wr
    | scr d => exact wr
    | own es =>
      obtain ⟨a, xs, q1, q2, q3, q4, q5, q6⟩ := wr
      have q5 : H1 a = none := by
        rcases q5 with q5 | q5
        · exact q5
        · exact absurd q5 ow_args
      refine ⟨a, xs, q1, q2, q3, fun z => ?_, .inl q5, q6⟩
      obtain ⟨ys, z⟩ := z.trk R1
      rw [q5] at z
      cases z
  | exc c p b =>
    rw [hr] at h
    intro Fz2 H2 d st ft _ xr
    exact h Fz2 H2 d (nx_call R1 (fun a => ow_args) st ft) xr
/-- f(x = .., y = ..) -/
theorem run_fnkS {X : Cx} {CX : CXT} {k : Nat} {f : Addr} {fd : FuncData} {ps : List Str} {sp : Sp} {E : SS → XK} {pins : List (Addr × Obj)} {σ : SS} {H : Hp} {s : Shared} {Q : VK} {us : List Value} {vs : List V} (F : FnOk X.prog X.w X.K X.mg X.base CX k f fd ps sp) (hr : Room k X.A) (hb : KwB X.K fd ps) (hx : PassesAt CX X σ (E σ))
    (I : Inv X pins σ H s) (r : Vals vs us) (h : sp vs H Q (E σ)) : wpAny (model X.prog X.w) X.A (call (.ref f) [] (ps.zip us)) (EP X pins σ Q) X.xe s := by
  have hl : us.length = ps.length := by rw [← r.length]; exact F.len _ _ _ _ h
  refine wpAny_call (codeAny_mono (F.run X.A X.stack s H ⟨[], ps.zip us⟩ us vs Q (E σ) hr I.env0 (hb s us I.kIn hl) r h) fun r s' hq => ?_)
  cases r with
  | error e => exact hx pins H s e s' I hq
  | ok fl =>
    cases fl with
    | ret u => exact I.after hq
    | next => exact False.elim hq
    | brk => exact False.elim hq
    | cont => exact False.elim hq
theorem pe_callK0 {X : Cx} {CX : CXT} {k : Nat} {f : Addr} {fd : FuncData} {ps : List Str} {sp : Sp} {E : SS → XK} {x : Str} {p pos : Pos} {kws : List Keyword} {tk : TA} (F : FnOk X.prog X.w X.K X.mg X.base CX k f fd ps sp) (hr : Room k X.A) (hg : Gl X x) (hm : X.mg x = some (.ref f)) (hk : PySem.W.keepIn X.K (.ref f) = true) (hb : KwB X.K fd ps) (hx : ∀ σ, PassesAt CX X σ (E σ))
    (hkw : PK X kws tk) (hdb : (x == ("__debug__" : Str)) = false) (hall : (backToKw pos (keywordEach kws X.env)).all (·.1.isSome) = true) (hks : (backToKw pos (keywordEach kws X.env)).filterMap (·.1) = ps)
    (hpl : ((backTo pos (starEach [] X.env)).any (·.1) || (backToKw pos (keywordEach kws X.env)).any (·.1.isNone)) = false) :
    PE X (.Call (.Name x p) [] kws pos) (tCallS sp E tk) := by
  refine ⟨fun pins s σ H Q I h => ?_⟩
  refine wpAny_Call_Name_kw (ld_glob I hg hm ?_ hdb)
  refine PySem.W.callWith_KW0 (h₀ := X.base) I.ok.mod.kin hk hall (thn (hkw.run pos pins s σ H _ I h) fun us s1 ⟨vs, H1, I1, r, q⟩ => ⟨I1.kIn, ?_⟩) hpl
  rw [hks]
  exact run_fnkS F hr hb (hx σ) I1 r q
theorem se_callK1 {f : Nat} {a : E} (O : D.Ok) (ha : SE D a) : SE D (.callK1 f a) := by
  intro X N sc Wx C x hx σ Fz H en Q R h
  cases x <;> first | exact (Bool.false_ne_true hx).elim | skip
  rename_i fe xs kws pos
  match fe, xs, kws, hx with
  | .Name x p, [], [⟨some n, y, kp⟩], hx =>
    have h' : (decide (D.G.fnm[f]? = some x) && glB sc x && nmB x && decide ((x, [n]) ∈ D.G.kw) && chkE D.G N a sc y) = true := hx
    simp only [Bool.and_eq_true, decide_eq_true_eq] at h'
    obtain ⟨⟨⟨⟨h1, h2⟩, h3⟩, h4⟩, h5⟩ := h'
    obtain ⟨fa, fd, ps, g1, g2, g3, g4, g5, g6⟩ := Dt.fn O C h1
    obtain ⟨rfl, gk⟩ := g6 _ h4
    simp only [ev] at h
    refine JE.of (pe_callK0 g4 C.room (gl_of C.sc h2) g1 g2 gk (passAt C.tk) (pk_cons (JE.pe X y) pk_nil) (nm_of h3).1 rfl rfl rfl) ?_
    refine ha X N sc Wx C y h5 σ Fz H en _ R (h.bindV fun w e1 Fz1 H1 v s r h => ?_)
    exact sp_call (ds := [w.val]) s.er (.cons r .nil) g5 h
theorem se_callK2 {f : Nat} {a b : E} (O : D.Ok) (ha : SE D a) (hb : SE D b) : SE D (.callK2 f a b) := by
  intro X N sc Wx C x hx σ Fz H en Q R h
  cases x <;> first | exact (Bool.false_ne_true hx).elim | skip
  rename_i fe xs kws pos
  match fe, xs, kws, hx with
  | .Name x p, [], [⟨some n, y, kp⟩, ⟨some m, z, kq⟩], hx =>
    have h' : (decide (D.G.fnm[f]? = some x) && glB sc x && nmB x && decide ((x, [n, m]) ∈ D.G.kw) && chkE D.G N a sc y && chkE D.G N b sc z) = true := hx
    simp only [Bool.and_eq_true, decide_eq_true_eq] at h'
    obtain ⟨⟨⟨⟨⟨h1, h2⟩, h3⟩, h4⟩, h5⟩, h6⟩ := h'
    obtain ⟨fa, fd, ps, g1, g2, g3, g4, g5, g6⟩ := Dt.fn O C h1
    obtain ⟨rfl, gk⟩ := g6 _ h4
    simp only [ev] at h
    refine JE.of (pe_callK0 g4 C.room (gl_of C.sc h2) g1 g2 gk (passAt C.tk) (pk_cons (JE.pe X y) (pk_cons (JE.pe X z) pk_nil)) (nm_of h3).1 rfl rfl rfl) ?_
    refine ha X N sc Wx C y h5 σ Fz H en _ R (h.bindV fun w e1 Fz1 H1 v s r h => ?_)
    refine hb X N sc Wx C z h6 σ Fz1 H1 e1 _ s.er (h.bindV fun w2 e2 Fz2 H2 v2 s2 r2 h => ?_)
    exact sp_call (ds := [w.val, w2.val]) s2.er (.cons (s2.vr s.er r) (.cons r2 .nil)) g5 h
/-! ### sorted(set(pairs)) -/
theorem mem_insP {x y : Int × Int} (hb : ∀ z : Int × Int, codeP x = codeP z → inB x = true → inB z = true → x = z) (hx : inB x = true) : ∀ {L : List (Int × Int)}, (∀ z ∈ L, inB z = true) → (y ∈ insP x L ↔ y = x ∨ y ∈ L)
  | [], _ => by unfold insP; simp
  | z :: r, h => by
    unfold insP
    by_cases h1 : codeP x < codeP z
    · rw [if_pos h1, List.mem_cons]
    · rw [if_neg h1]
      by_cases h2 : codeP x = codeP z
      · rw [if_pos h2]
        have e := hb z h2 hx (h z List.mem_cons_self)
        subst e
        constructor
        · exact .inr
        · rintro (rfl | q)
          · exact List.mem_cons_self
          · exact q
      · rw [if_neg h2, List.mem_cons, mem_insP hb hx (fun w hw => h w (List.mem_cons_of_mem _ hw)), List.mem_cons]
        constructor
        · rintro (q | q | q)
          · exact .inr (.inl q)
          · exact .inl q
          · exact .inr (.inr q)
        · rintro (q | q | q)
          · exact .inr (.inl q)
          · exact .inl q
          · exact .inr (.inr q)
theorem code_inj {x z : Int × Int} (h : codeP x = codeP z) (hx : inB x = true) (hz : inB z = true) : x = z := by
  unfold inB at hx hz
  unfold codeP at h
  simp only [Bool.and_eq_true, decide_eq_true_eq] at hx hz
  have e1 : x.1 = z.1 := by omega
  have e2 : x.2 = z.2 := by omega
  exact Prod.ext e1 e2
theorem mem_sortP {y : Int × Int} : ∀ {L : List (Int × Int)}, (∀ z ∈ L, inB z = true) → (y ∈ sortP L ↔ y ∈ L)
  | [], _ => Iff.rfl
  | x :: r, h => by
    have hr : ∀ z ∈ r, inB z = true := fun z hz => h z (List.mem_cons_of_mem _ hz)
    unfold sortP
    rw [mem_insP (fun z e h1 h2 => code_inj e h1 h2) (h x List.mem_cons_self) (fun z hz => hr z ((mem_sortP hr).mp hz)), mem_sortP hr, List.mem_cons]
theorem insP_pw {x : Int × Int} : ∀ {L : List (Int × Int)}, L.Pairwise (fun a b => codeP a < codeP b) → (insP x L).Pairwise (fun a b => codeP a < codeP b) ∧ ∀ c : Int, c < codeP x → (∀ z ∈ L, c < codeP z) → ∀ z ∈ insP x L, c < codeP z
  | [], _ => ⟨by unfold insP; simp, fun c hc _ z hz => by unfold insP at hz; rw [List.mem_singleton] at hz; rw [hz]; exact hc⟩
  | w :: r, h => by
    rw [List.pairwise_cons] at h
    unfold insP
    by_cases h1 : codeP x < codeP w
    · rw [if_pos h1]
      refine ⟨List.pairwise_cons.mpr ⟨fun z hz => ?_, List.pairwise_cons.mpr h⟩, fun c hc hL z hz => ?_⟩
      · rw [List.mem_cons] at hz
        rcases hz with rfl | hz
        · exact h1
        · exact Int.lt_trans h1 (h.1 z hz)
      · rw [List.mem_cons] at hz
        rcases hz with rfl | hz
        · exact hc
        · exact hL z hz
    · rw [if_neg h1]
      by_cases h2 : codeP x = codeP w
      · rw [if_pos h2]
        exact ⟨List.pairwise_cons.mpr h, fun c hc hL z hz => hL z hz⟩
      · rw [if_neg h2]
        obtain ⟨i1, i2⟩ := insP_pw (x := x) h.2
        refine ⟨List.pairwise_cons.mpr ⟨i2 _ (by omega) h.1, i1⟩, fun c hc hL z hz => ?_⟩
        rw [List.mem_cons] at hz
        rcases hz with rfl | hz
        · exact hL _ List.mem_cons_self
        · exact i2 c hc (fun z hz => hL z (List.mem_cons_of_mem _ hz)) z hz
theorem sortP_pw : ∀ L : List (Int × Int), (sortP L).Pairwise (fun a b => codeP a < codeP b)
  | [] => .nil
  | x :: r => (insP_pw (sortP_pw r)).1
theorem pw_uniq : ∀ {L M : List (Int × Int)}, L.Pairwise (fun a b => codeP a < codeP b) → M.Pairwise (fun a b => codeP a < codeP b) → (∀ z, z ∈ L ↔ z ∈ M) → L = M
  | [], [], _, _, _ => rfl
  | [], y :: M, _, _, h => by have := (h y).mpr List.mem_cons_self; cases this
  | x :: L, [], _, _, h => by have := (h x).mp List.mem_cons_self; cases this
  | x :: L, y :: M, h1, h2, h => by
    rw [List.pairwise_cons] at h1 h2
    have e : x = y := by
      have a := (h x).mp List.mem_cons_self
      have b := (h y).mpr List.mem_cons_self
      rw [List.mem_cons] at a b
      rcases a with a | a
      · exact a
      · rcases b with b | b
        · exact b.symm
        · have p := h1.1 y b
          have q := h2.1 x a
          omega
    subst e
    rw [pw_uniq h1.2 h2.2 (fun z => ?_)]
    have := h z
    rw [List.mem_cons, List.mem_cons] at this
    constructor
    · intro hz
      rcases this.mp (.inr hz) with rfl | q
      · have := h1.1 z hz; omega
      · exact q
    · intro hz
      rcases this.mpr (.inr hz) with rfl | q
      · have := h2.1 z hz; omega
      · exact q
/-- the pairs' addresses -/
theorem pairs_vals {K : PySem.W.Frag} {Fz : Addr → Prop} {H : Hp} : ∀ {ds : List PyData} {xs : List V} {ps : List (Int × Int)}, pairsOf ds = some ps → VRs K Fz H ds xs → ∃ ks : List (Addr × List Int), xs = ks.map (fun p => V.ref p.1) ∧ (∀ p ∈ ks, SqT K H p.1 (p.2.map V.int)) ∧ ks.map (·.2) = ps.map (fun p => [p.1, p.2])
  | [], _, ps, e, h => by
    cases h
    cases e
    exact ⟨[], rfl, fun p hp => (by cases hp), rfl⟩
  | .tuple [.int a, .int b] :: r, _, ps, e, h => by
    cases h with
    | cons h1 h2 =>
      have e' : (pairsOf r).map ((a, b) :: ·) = some ps := e
      cases q : pairsOf r with
      | none => rw [q] at e'; cases e'
      | some qs =>
        rw [q] at e'
        cases e'
        obtain ⟨ks, k1, k2, k3⟩ := pairs_vals q h2
        cases h1 with
        | tup g1 g2 =>
          rename_i t zs
          cases g2 with
          | cons u1 u2 =>
            cases u2 with
            | cons u3 u4 =>
              cases u4
              cases u1
              cases u3
              refine ⟨(t, [a, b]) :: ks, by rw [k1]; rfl, fun p hp => ?_, by rw [List.map_cons, k3]; rfl⟩
              rw [List.mem_cons] at hp
              rcases hp with rfl | hp
              · exact g1
              · exact k2 p hp
theorem vrs_pairs {K : PySem.W.Frag} {Fz : Addr → Prop} {H : Hp} : ∀ {L : List (Addr × List Int)} {ps : List (Int × Int)}, L.map (·.2) = ps.map (fun p => [p.1, p.2]) → (∀ p ∈ L, SqT K H p.1 (p.2.map V.int)) → VRs K Fz H (ps.map pdD) (L.map fun q => V.ref q.1)
  | [], [], _, _ => .nil
  | [], _ :: _, h, _ => by cases h
  | _ :: _, [], h, _ => by cases h
  | q :: L, p :: ps, h, hs => by
    rw [List.map_cons, List.map_cons, List.cons.injEq] at h
    have h1 := hs q List.mem_cons_self
    rw [h.1] at h1
    exact .cons (.tup h1 (.cons (.int _) (.cons (.int _) .nil))) (vrs_pairs h.2 fun p hp => hs p (List.mem_cons_of_mem _ hp))
theorem code64 (p : Int × Int) : TS.code 64 [p.1, p.2] = codeP p := code_pair p.1 p.2
theorem as_pairs : ∀ (L : List (Addr × List Int)) (ps : List (Int × Int)), (∀ q ∈ L, q.2 ∈ ps.map (fun p => [p.1, p.2])) → ∃ qs : List (Int × Int), L.map (·.2) = qs.map (fun p => [p.1, p.2])
  | [], _, _ => ⟨[], rfl⟩
  | q :: L, ps, h => by
    obtain ⟨qs, e⟩ := as_pairs L ps (fun q hq => h q (List.mem_cons_of_mem _ hq))
    have := h q List.mem_cons_self
    rw [List.mem_map] at this
    obtain ⟨p, _, e2⟩ := this
    exact ⟨p :: qs, by rw [List.map_cons, List.map_cons, e, ← e2]⟩
theorem two_inj {p q : Int × Int} (h : ([p.1, p.2] : List Int) = [q.1, q.2]) : p = q := by
  cases p; cases q
  cases h
  rfl
theorem vrs_ints {K : PySem.W.Frag} {Fz : Addr → Prop} {H : Hp} : ∀ ns : List Int, VRs K Fz H (ns.map PyData.int) (ns.map V.int)
  | [] => .nil
  | n :: r => .cons (.int n) (vrs_ints r)
theorem se_srt {a : E} (O : D.Ok) (ha : SE D a) : SE D (.srt a) := by
  intro X N sc Wx C x hx σ Fz H en Q R h
  cases x <;> first | exact (Bool.false_ne_true hx).elim | skip
  rename_i fe xs kws pos
  match fe, xs, kws, hx with
  | .Name l p, [.Call (.Name st p2) [y] [] p3], [], hx =>
    have h' : (decide (l = "sorted") && glB sc l && decide (st = "set") && glB sc st && chkE D.G N a sc y) = true := hx
    simp only [Bool.and_eq_true, decide_eq_true_eq] at h'
    obtain ⟨⟨⟨⟨rfl, h2⟩, rfl⟩, h4⟩, h5⟩ := h'
    simp only [ev] at h
    have sy : starEach [y] X.env = (false, eval y X.env) :: starEach [] X.env := star_of (chkE_star h5)
    have hu : X.A.units + 64 < cLine := by have := Dt.units C; omega
    have inner : PE X (.Call (.Name "set" p2) [y] [] p3) (tCB (rSetAny X.K X.prog X.w) (tCons (JE X y) tNil)) :=
      pe_callTy (cr_setAny C.calm hu) (gl_of C.sc h4) (Dt.blt O C (by decide +kernel)) (by decide +kernel) (pa_cons (JE.pe X y) pa_nil sy) (by decide +kernel) (by decide +kernel) sy rfl
    refine JE.of (pe_callB (cr_sortAny C.calm) (gl_of C.sc h2) (Dt.blt O C (by decide +kernel)) (by decide +kernel) (pa_cons inner pa_nil rfl) (by decide +kernel) (by decide +kernel) rfl rfl) ?_
    rw [C.K]
    refine ha X N sc Wx C y h5 σ Fz H en _ R (h.bindV fun w e1 Fz1 H1 v s r h => ?_)
    obtain ⟨wr, he, g⟩ := h.of
    generalize w.val = d at he r
    cases r with
    | lst a1 a2 a3 =>
      rename_i ad vs ds
      have he' : (match pairsOf ds with
        | some ps => if ps.length < 64 ∧ ps.all inB = true then some (W.own ((sortP ps).map pdD)) else none
        | none => match intsOf ds with
          | some ns => if ns.length ≤ 3000 ∧ (sortS ns).length < 64 then some (W.own ((sortS ns).map PyData.int)) else none
          | none => none) = some wr := he
      cases hp : pairsOf ds with
      | none =>
        rw [hp] at he'
        cases hn : intsOf ds with
        | none => rw [hn] at he'; cases he'
        | some ns =>
          rw [hn] at he'
          obtain ⟨⟨c1, c2⟩, e⟩ := ite_some he'
          have e3 := a3.ints hn
          subst e3
          refine .inr ⟨ad, ns, rfl, .inl a1, c1, fun q hq => ?_⟩
          have s2 : Nx D.K σ Fz1 H1 e1 Fz1 (upd H1 q (SetO X.w q (fun j => decide (j ∈ ns)) (sortS ns).length)) e1 := Nx.new s.er hq
          refine .inr ⟨q, _, _, rfl, upd_same, c2, fun ms pp hpw hmem _ hpn => ?_⟩
          have es : ms = sortS ns := lt_uniq hpw (sortS_pw ns) fun z => by rw [hmem z, mem_sortS, decide_eq_true_eq]
          subst es
          cases e
          exact (g.shift s2).okl s2.er (vrs_ints _) hpn
      | some ps =>
        rw [hp] at he'
        obtain ⟨⟨c1, c2⟩, e⟩ := ite_some he'
        rw [List.all_eq_true] at c2
        obtain ⟨ks, k1, k2, k3⟩ := pairs_vals hp a3
        have kl : ks.length = ps.length := by
          have := congrArg List.length k3
          rw [List.length_map, List.length_map] at this
          exact this
        refine .inl ⟨ad, ks, rfl, .inl (by rw [← k1]; exact a1), k2, by rw [kl]; exact c1, fun q L hq hL1 hL2 => ?_⟩
        have s2 : Nx D.K σ Fz1 H1 e1 Fz1 (upd H1 q (SetTO X.prog X.w q L)) e1 := Nx.new s.er hq
        have hkL : ∀ p ∈ L, p.2 ∈ ps.map (fun p => [p.1, p.2]) := fun p hp => by
          rw [← k3]
          exact List.mem_map.mpr ⟨p, hL1 p hp, rfl⟩
        have hsq : ∀ p ∈ L, SqT D.K (upd H1 q (SetTO X.prog X.w q L)) p.1 (p.2.map V.int) := fun p hp => sqT_mono s2.stp.keep s.er.ol (k2 p (hL1 p hp))
        refine .inl ⟨q, L, 2, 64, rfl, upd_same, hsq, by decide, fun p hp => ?_, fun L' pp hperm hnd hlen hpw hpn => ?_⟩
        · have := hkL p hp
          rw [List.mem_map] at this
          obtain ⟨z, hz, e2⟩ := this
          rw [← e2]
          have hb := c2 z hz
          unfold inB at hb
          simp only [Bool.and_eq_true, decide_eq_true_eq] at hb
          refine ⟨rfl, fun m hm => ?_⟩
          rw [List.mem_cons, List.mem_cons] at hm
          rcases hm with rfl | rfl | hm
          · exact ⟨hb.1.1, hb.1.2⟩
          · exact ⟨hb.2.1, hb.2.2⟩
          · cases hm
        · obtain ⟨qs, eqs⟩ := as_pairs L' ps (fun z hz => hkL z (hperm.mem_iff.mp hz))
          have mq : ∀ z, z ∈ qs ↔ z ∈ ps := fun z => by
            constructor
            · intro hz
              have : [z.1, z.2] ∈ L'.map (·.2) := by rw [eqs]; exact List.mem_map.mpr ⟨z, hz, rfl⟩
              rw [List.mem_map] at this
              obtain ⟨b, hb, e2⟩ := this
              have := hkL b (hperm.mem_iff.mp hb)
              rw [e2, List.mem_map] at this
              obtain ⟨z', hz', e3⟩ := this
              rw [← two_inj e3]; exact hz'
            · intro hz
              have : [z.1, z.2] ∈ ks.map (·.2) := by rw [k3]; exact List.mem_map.mpr ⟨z, hz, rfl⟩
              rw [List.mem_map] at this
              obtain ⟨b, hb, e2⟩ := this
              have := hL2 b hb
              rw [e2, List.mem_map] at this
              obtain ⟨b', hb', e3⟩ := this
              have : [z.1, z.2] ∈ L'.map (·.2) := List.mem_map.mpr ⟨b', hperm.mem_iff.mpr hb', e3⟩
              rw [eqs, List.mem_map] at this
              obtain ⟨z', hz', e4⟩ := this
              rw [← two_inj e4]; exact hz'
          have nd : qs.Nodup := by
            rw [eqs] at hnd
            exact nodup_of_map hnd
          have pw0 : qs.Pairwise (fun a b => codeP a ≤ codeP b) := by
            have h1 : (L'.map (·.2)).Pairwise (fun q r => TS.code 64 q ≤ TS.code 64 r) := List.pairwise_map.mpr hpw
            rw [eqs] at h1
            have h2 := List.pairwise_map.mp h1
            refine h2.imp fun {a b} hab => ?_
            rw [code64, code64] at hab
            exact hab
          have pw : qs.Pairwise (fun a b => codeP a < codeP b) := by
            have h3 : qs.Pairwise (fun a b => a ≠ b) := nd
            have h4 := List.pairwise_and_iff.mpr ⟨pw0, h3⟩
            refine List.Pairwise.imp_of_mem (fun {a b} ha hb hab => ?_) h4
            rcases Int.lt_or_eq_of_le hab.1 with z | z
            · exact z
            · exact absurd (code_inj z (c2 a ((mq a).mp ha)) (c2 b ((mq b).mp hb))) hab.2
          have es : qs = sortP ps := pw_uniq pw (sortP_pw ps) (fun z => by rw [mem_sortP c2]; exact mq z)
          rw [es] at eqs
          have hs' : ∀ z ∈ L', SqT D.K (upd H1 q (SetTO X.prog X.w q L)) z.1 (z.2.map V.int) := fun z hz => hsq z (hperm.mem_iff.mp hz)
          cases e
          exact (g.shift s2).okl s2.er (vrs_pairs eqs hs') hpn
    | _ => cases he
theorem se_lset {a : E} (O : D.Ok) (ha : SE D a) : SE D (.lset a) := by
  intro X N sc Wx C x hx σ Fz H en Q R h
  cases x <;> first | exact (Bool.false_ne_true hx).elim | skip
  rename_i fe xs kws pos
  match fe, xs, kws, hx with
  | .Name l p, [.Call (.Name st p2) [y] [] p3], [], hx =>
    have h' : (decide (l = "len") && glB sc l && decide (st = "set") && glB sc st && chkE D.G N a sc y) = true := hx
    simp only [Bool.and_eq_true, decide_eq_true_eq] at h'
    obtain ⟨⟨⟨⟨rfl, h2⟩, rfl⟩, h4⟩, h5⟩ := h'
    simp only [ev] at h
    have sy : starEach [y] X.env = (false, eval y X.env) :: starEach [] X.env := star_of (chkE_star h5)
    have hu : X.A.units + 64 < cLine := by have := Dt.units C; omega
    have inner : PE X (.Call (.Name "set" p2) [y] [] p3) (tCB (rSetAny X.K X.prog X.w) (tCons (JE X y) tNil)) :=
      pe_callTy (cr_setAny C.calm hu) (gl_of C.sc h4) (Dt.blt O C (by decide +kernel)) (by decide +kernel) (pa_cons (JE.pe X y) pa_nil sy) (by decide +kernel) (by decide +kernel) sy rfl
    refine JE.of (pe_callB cr_lenSet (gl_of C.sc h2) (Dt.blt O C (by decide +kernel)) (by decide +kernel) (pa_cons inner pa_nil rfl) (by decide +kernel) (by decide +kernel) rfl rfl) ?_
    rw [C.K]
    refine ha X N sc Wx C y h5 σ Fz H en _ R (h.bindV fun w e1 Fz1 H1 v s r h => ?_)
    obtain ⟨wr, he, g⟩ := h.of
    generalize w.val = d at he r
    cases r with
    | lst a1 a2 a3 =>
      rename_i ad vs ds
      have he' : (match pairsOf ds with
        | some ps => if ps.length < 64 ∧ ps.all inB = true then some (W.v (.int (sortP ps).length)) else none
        | none => match intsOf ds with
          | some ns => if ns.length ≤ 3000 then some (W.v (.int (sortS ns).length)) else none
          | none => none) = some wr := he
      cases hp : pairsOf ds with
      | none =>
        rw [hp] at he'
        cases hn : intsOf ds with
        | none => rw [hn] at he'; cases he'
        | some ns =>
          rw [hn] at he'
          obtain ⟨c1, e⟩ := ite_some he'
          have e3 := a3.ints hn
          subst e3
          refine .inr ⟨ad, ns, rfl, .inl a1, c1, fun q hq => ?_⟩
          have s2 : Nx D.K σ Fz1 H1 e1 Fz1 (upd H1 q (SetO X.w q (fun j => decide (j ∈ ns)) (sortS ns).length)) e1 := Nx.new s.er hq
          refine .inr ⟨q, _, _, rfl, upd_same, ?_⟩
          cases e
          exact (g.shift s2).okv s2.er (.int _)
      | some ps =>
        rw [hp] at he'
        obtain ⟨⟨c1, c2⟩, e⟩ := ite_some he'
        rw [List.all_eq_true] at c2
        obtain ⟨ks, k1, k2, k3⟩ := pairs_vals hp a3
        have kl : ks.length = ps.length := by
          have := congrArg List.length k3
          rw [List.length_map, List.length_map] at this
          exact this
        refine .inl ⟨ad, ks, rfl, .inl (by rw [← k1]; exact a1), k2, by rw [kl]; exact c1, fun q L hq hL1 hL2 => ?_⟩
        have s2 : Nx D.K σ Fz1 H1 e1 Fz1 (upd H1 q (SetTO X.prog X.w q L)) e1 := Nx.new s.er hq
        have hkL : ∀ p ∈ L, p.2 ∈ ps.map (fun p => [p.1, p.2]) := fun p hp => by
          rw [← k3]
          exact List.mem_map.mpr ⟨p, hL1 p hp, rfl⟩
        have hsq : ∀ p ∈ L, SqT D.K (upd H1 q (SetTO X.prog X.w q L)) p.1 (p.2.map V.int) := fun p hp => sqT_mono s2.stp.keep s.er.ol (k2 p (hL1 p hp))
        refine .inl ⟨q, L, rfl, upd_same, hsq, fun hnd => ?_⟩
        have el : L.length = (sortP ps).length := by
          have pn : (sortP ps).Nodup := (sortP_pw ps).imp fun {a b} hab e => by rw [e] at hab; exact absurd hab (Int.lt_irrefl _)
          have pm : ((sortP ps).map fun p => [p.1, p.2]).Nodup := List.pairwise_map.mpr (pn.imp fun h e => h (two_inj e))
          have := len_of_mem hnd pm fun z => by
            rw [List.mem_map, List.mem_map]
            constructor
            · rintro ⟨p, hp, rfl⟩
              obtain ⟨w, hw, e⟩ := List.mem_map.mp (hkL p hp)
              exact ⟨w, (mem_sortP c2).mpr hw, e⟩
            · rintro ⟨w, hw, rfl⟩
              have h1 : [w.1, w.2] ∈ ks.map (·.2) := by rw [k3]; exact List.mem_map.mpr ⟨w, (mem_sortP c2).mp hw, rfl⟩
              obtain ⟨p, hp, e⟩ := List.mem_map.mp h1
              obtain ⟨p', hp', e'⟩ := List.mem_map.mp (hL2 p hp)
              exact ⟨p', hp', by rw [e', e]⟩
          rw [List.length_map, List.length_map] at this
          exact this
        cases e
        rw [el]
        exact (g.shift s2).okv s2.er (.int _)
    | _ => cases he
theorem se_call {f : Nat} {es : E} (O : D.Ok) (hs : SA D es) : SE D (.call f es) := by
  intro X N sc Wx C x hx σ Fz H en Q R h
  cases x <;> first | exact (Bool.false_ne_true hx).elim | skip
  rename_i fe xs kws pos
  match fe, kws, hx with
  | .Name x p, [], hx =>
    have h' : (decide (D.G.fnm[f]? = some x) && glB sc x && nmB x && chkA D.G N es sc xs) = true := hx
    simp only [Bool.and_eq_true, decide_eq_true_eq] at h'
    obtain ⟨⟨⟨h1, h2⟩, h3⟩, h4⟩ := h'
    obtain ⟨fa, fd, ps, g1, g2, g3, g4, g5, g6⟩ := Dt.fn O C h1
    simp only [ev] at h
    have key : ∀ (ds : List PyData) (e1 : En) (Fz1 : Addr → Prop) (H1 : Hp) (zs : List V), Nx D.K σ Fz H en Fz1 H1 e1 → VRs D.K Fz1 H1 ds zs → Sat D.K σ D.cl Wx Fz1 H1 e1 (match D.cf f (ds.map W.v) with
        | .ok w _ => .ok w e1
        | .exc c p _ => .exc c p e1
        | .stuck => .stuck) Q → spF D.K D.cl D.cf f ps.length zs H1 Q (L2.WE Wx σ) := by
      intro ds e1 Fz1 H1 zs s r h
      have hl : zs.length = ps.length := by
        have := g5 (ds.map W.v) (fun e => by rw [e] at h; exact h)
        rw [← this, List.length_map, r.length]
      refine ⟨hl, Fz1, ds.map W.v, er_args s.er r, ?_⟩
      cases hr : D.cf f (ds.map W.v) with
      | stuck => rw [hr] at h; exact h
      | ok w b =>
        rw [hr] at h
        intro Fz2 H2 x st ft _ wr
        have n := nx_call s.er (fun a => ow_args) st ft
        refine h Fz2 H2 x n ?_
        cases w with
        | v d => exact wr
        | scr d => exact wr
        | own es =>
          obtain ⟨a, xs, q1, q2, q3, q4, q5, q6⟩ := wr
          have q5 : H1 a = none := by
            rcases q5 with q5 | q5
            · exact q5
            · exact absurd q5 ow_args
          refine ⟨a, xs, q1, q2, q3, fun z => ?_, .inl q5, q6⟩
          obtain ⟨ys, z⟩ := z.trk s.er
          rw [q5] at z
          cases z
      | exc c p b =>
        rw [hr] at h
        intro Fz2 H2 d st ft _ xr
        exact h Fz2 H2 d (nx_call s.er (fun a => ow_args) st ft) xr
    have hst := chkA_star h4
    cases xs with
    | nil =>
      cases es <;> first | exact (Bool.false_ne_true h4).elim | skip
      exact JE.of (pe_call0F g4 C.room (gl_of C.sc h2) g1 g2 g3 (passAt C.tk) (nm_of h3).1) (key [] en Fz H [] (.refl R) .nil h)
    | cons y ys =>
      rw [List.all_cons, Bool.and_eq_true] at hst
      refine JE.of (pe_callS g4 C.room (gl_of C.sc h2) g1 g2 g3 (passAt C.tk) (JA.pa X _) (nm_of h3).1 (star_of hst.1) (stars_of hst.2)) ?_
      exact hs X N sc Wx C _ h4 σ Fz H en _ R (h.bindA (fun w e1 hw => by cases w <;> first | rfl | exact absurd rfl (hw _)) fun ds e1 Fz1 H1 zs s r h => key ds e1 Fz1 H1 zs s r h)
theorem ow_cons {w0 : W} {x0 : V} {ds : List PyData} {xs : List V} {a : Addr} (h : Ow ((w0 :: ds.map W.v).map some) ((x0 :: xs).map some) a) : (∃ es, w0 = .own es) ∧ x0 = .ref a := by
  obtain ⟨j, es, q1, q2⟩ := h
  cases j with
  | zero =>
    have q1' : w0 = .own es := by simpa using q1
    have q2' : x0 = .ref a := by simpa using q2
    exact ⟨⟨es, q1'⟩, q2'⟩
  | succ j =>
    have q1' : ((ds.map W.v).map some)[j]? = some (some (W.own es)) := q1
    rw [List.getElem?_map, List.getElem?_map] at q1'
    cases hd : ds[j]? with
    | none => rw [hd] at q1'; cases q1'
    | some d' => rw [hd] at q1'; cases q1'
/-- the arguments, the first one a slot's -/
theorem er_argsB {K : PySem.W.Frag} {i : Nat} {w0 : W} {x0 : V} {ds : List PyData} {xs : List V} (R : Er K Fz H en σ) (hw : en[i]? = some (some w0)) (hx : σ[i]? = some (some x0)) (h : VRs K Fz H ds xs) : Er K Fz H ((w0 :: ds.map W.v).map some) ((x0 :: xs).map some) where
  len := by simp [h.length]
  vs j d q := by
    cases j with
    | zero =>
      have q1 : w0 = .v d := by simpa using q
      subst q1
      obtain ⟨y, g1, g2⟩ := R.vs i d hw
      rw [hx] at g1
      cases g1
      exact ⟨x0, rfl, g2⟩
    | succ j =>
      obtain ⟨y, g⟩ := (er_args R h).vs j d q
      exact ⟨y, g⟩
  os j es q := by
    cases j with
    | zero =>
      have q1 : w0 = .own es := by simpa using q
      subst q1
      obtain ⟨a, ys, g1, g2, g3, g4⟩ := R.os i es hw
      rw [hx] at g1
      cases g1
      exact ⟨a, ys, rfl, g2, g3, g4⟩
    | succ j => exact (er_args R h).os j es q
  ss j es q := by
    cases j with
    | zero =>
      have q1 : w0 = .scr es := by simpa using q
      subst q1
      obtain ⟨a, ys, g1, g2, g4⟩ := R.ss i es hw
      rw [hx] at g1
      cases g1
      exact ⟨a, ys, rfl, g2, g4⟩
    | succ j => exact (er_args R h).ss j es q
  ap j l es fs a q1 q2 q3 q4 := by
    cases j with
    | zero =>
      cases l with
      | zero => rfl
      | succ l => exact absurd ⟨l, fs, q2, q4⟩ (ow_args (ds := ds) (τ := xs.map some) (a := a))
    | succ j => exact absurd ⟨j, es, q1, q3⟩ (ow_args (ds := ds) (τ := xs.map some) (a := a))
  ft := R.ft
theorem nx_callB {K : PySem.W.Frag} {i : Nat} {w0 b : W} {x0 : V} {ds : List PyData} {xs : List V} {Fz1 : Addr → Prop} {H1 : Hp} (R : Er K Fz H en σ) (hw : en[i]? = some (some w0)) (hx : σ[i]? = some (some x0)) (h : VRs K Fz H ds xs)
    (st : Stp Fz (Ow ((w0 :: ds.map W.v).map some) ((x0 :: xs).map some)) H Fz1 H1) (ft : ∀ a, Fz1 a → H1 a ≠ none) (br : Br K Fz1 H1 (some b) (x0 :: xs)) (ok : bOk w0 b = true) :
    Nx K σ Fz H en Fz1 H1 (en.set i (some b)) := by
  have ol := (er_argsB R hw hx h).ol
  have own0 : ∀ a, Ow ((w0 :: ds.map W.v).map some) ((x0 :: xs).map some) a → Ow en σ a := fun a q => by
    obtain ⟨⟨es, e1⟩, e2⟩ := ow_cons q
    exact ⟨i, es, by rw [← e1]; exact hw, by rw [← e2]; exact hx⟩
  have bown : ∀ es, b = .own es → ∃ fs, w0 = .own fs := fun es e => by
    subst e
    cases w0 with
    | v d => cases ok
    | scr d => cases ok
    | own fs => exact ⟨fs, rfl⟩
  refine ⟨⟨st.fz, fun a o q n => st.keep a o q fun z => n (own0 a z), fun a q => ?_, st.trk⟩, ⟨by rw [List.length_set]; exact R.len, fun j d q => ?_, fun j es q => ?_, fun j es q => ?_, fun j l es fs a q1 q2 q3 q4 => ?_, ft⟩, fun a ⟨j, es, q1, q2⟩ => ?_⟩
  · rcases st.nfz a q with z | z | z
    · exact .inl z
    · exact .inr (.inl z)
    · exact .inr (.inr (own0 a z))
  · rcases set_cases q with ⟨rfl, e⟩ | ⟨n, e⟩
    · cases e
      obtain ⟨y, r, g1, g2⟩ := br
      cases g1
      exact ⟨x0, hx, g2⟩
    · obtain ⟨y, g1, g2⟩ := R.vs j d e
      exact ⟨y, g1, g2.mono st ol⟩
  · rcases set_cases q with ⟨rfl, e⟩ | ⟨n, e⟩
    · cases e
      obtain ⟨a, r, ys, g1, g2, g3, g4⟩ := br
      cases g1
      exact ⟨a, ys, hx, g2, g3, g4⟩
    · obtain ⟨a, ys, g1, g2, g3, g4⟩ := R.os j es e
      have nO : ¬ Ow ((w0 :: ds.map W.v).map some) ((x0 :: xs).map some) a := fun z => by
        obtain ⟨⟨fs, e1⟩, e2⟩ := ow_cons z
        exact n (R.ap j i es fs a e (by rw [← e1]; exact hw) g1 (by rw [← e2]; exact hx))
      refine ⟨a, ys, g1, st.keep a _ g2 nO, fun z => ?_, g4.mono st ol⟩
      rcases st.nfz a z with z | z | z
      · exact g3 z
      · rw [g2] at z; cases z
      · exact nO z
  · rcases set_cases q with ⟨rfl, e⟩ | ⟨n, e⟩
    · cases e
      obtain ⟨a, r, ys, g1, g2, g4⟩ := br
      cases g1
      exact ⟨a, ys, hx, g2, g4⟩
    · obtain ⟨a, ys, g1, g2, g4⟩ := R.ss j es e
      exact ⟨a, ys, g1, sr_mono st.keep ol g2, g4.mono st ol⟩
  · rcases set_cases q1 with ⟨e1, q⟩ | ⟨n1, q⟩
    · rcases set_cases q2 with ⟨e2, q'⟩ | ⟨n2, q'⟩
      · rw [e1, e2]
      · cases q
        obtain ⟨gs, e⟩ := bown es rfl
        subst e e1
        exact R.ap j l gs fs a hw q' q3 q4
    · rcases set_cases q2 with ⟨e2, q'⟩ | ⟨n2, q'⟩
      · cases q'
        obtain ⟨gs, e⟩ := bown fs rfl
        subst e e2
        exact R.ap j l es gs a q hw q3 q4
      · exact R.ap j l es fs a q q' q3 q4
  · rcases set_cases q1 with ⟨rfl, e⟩ | ⟨n, e⟩
    · cases e
      obtain ⟨fs, e⟩ := bown es rfl
      subst e
      exact ⟨j, fs, hw, q2⟩
    · exact ⟨j, es, e, q2⟩
theorem se_callB {f i : Nat} {es : E} (O : D.Ok) (hs : SA D es) : SE D (.callB f i es) := by
  intro X N sc Wx C x hx σ Fz H en Q R h
  cases x <;> first | exact (Bool.false_ne_true hx).elim | skip
  rename_i fe xs kws pos
  match fe, xs, kws, hx with
  | .Name x p, .Name y p2 :: xs, [], hx =>
    have h' : (decide (D.G.fnm[f]? = some x) && glB sc x && nmB x && vrB N sc i y && chkA D.G N es sc xs) = true := hx
    simp only [Bool.and_eq_true, decide_eq_true_eq] at h'
    obtain ⟨⟨⟨⟨h1, h2⟩, h3⟩, h0⟩, h4⟩ := h'
    obtain ⟨fa, fd, ps, g1, g2, g3, g4, g5, g6⟩ := Dt.fn O C h1
    simp only [ev] at h
    refine JE.of (pe_callS g4 C.room (gl_of C.sc h2) g1 g2 g3 (passAt C.tk) (pa_cons (pe_slot C h0) (JA.pa X xs) rfl) (nm_of h3).1 rfl (stars_of (chkA_star h4))) ?_
    split at h
    · rename_i w00 hw00
      obtain ⟨x0, hx0⟩ := slot_some R hw00
      refine ⟨x0, hx0, hs X N sc Wx C _ h4 σ Fz H en _ R (h.bindA (fun w e1 hw => by cases w <;> first | rfl | exact absurd rfl (hw _)) fun ds e1 Fz1 H1 zs s r h => ?_)⟩
      skip
      cases hw0 : e1[i]? with
      | none => rw [hw0] at h; exact h.elim
      | some ow0 =>
        cases ow0 with
        | none => rw [hw0] at h; exact h.elim
        | some w0 =>
          rw [hw0] at h
          simp only at h
          have hl : (x0 :: zs).length = ps.length := by
            have := g5 (w0 :: ds.map W.v) (fun e => by rw [e] at h; exact h)
            rw [← this, List.length_cons, List.length_cons, List.length_map, r.length]
          refine ⟨hl, Fz1, w0 :: ds.map W.v, er_argsB s.er hw0 hx0 r, ?_⟩
          cases hr : D.cf f (w0 :: ds.map W.v) with
          | stuck => rw [hr] at h; exact h
          | ok w ob =>
            rw [hr] at h
            cases ob with
            | none => exact h.elim
            | some b =>
              simp only at h
              by_cases ok : bOk w0 b = true
              · rw [if_pos ok] at h
                intro Fz2 H2 x st ft br wr
                have n := nx_callB s.er hw0 hx0 r st ft br ok
                refine h Fz2 H2 x n ?_
                cases w with
                | v d => exact wr
                | scr d => exact wr
                | own es =>
                  obtain ⟨a, xs, q1, q2, q3, q4, q5, q6⟩ := wr
                  have q7 : ∀ a, Ow ((w0 :: ds.map W.v).map some) ((x0 :: zs).map some) a → ∃ es, e1[i]? = some (some (W.own es)) ∧ σ[i]? = some (some (V.ref a)) := fun a q => by
                    obtain ⟨⟨es, e1⟩, e2⟩ := ow_cons q
                    exact ⟨es, by rw [← e1]; exact hw0, by rw [← e2]; exact hx0⟩
                  refine ⟨a, xs, q1, q2, q3, fun ⟨j, fs, z1, z2⟩ => ?_, ?_, q6⟩
                  · rcases set_cases z1 with ⟨rfl, e⟩ | ⟨nj, e⟩
                    · cases e
                      rw [hx0] at z2
                      cases z2
                      exact q4 ⟨0, fs, rfl, rfl⟩
                    · obtain ⟨a', ys, k1, k2, _⟩ := s.er.os j fs e
                      rw [z2] at k1
                      cases k1
                      rcases q5 with q5 | q5
                      · rw [q5] at k2; cases k2
                      · obtain ⟨gs, k3, k4⟩ := q7 a q5
                        exact nj (s.er.ap j i fs gs a e k3 z2 k4)
                  · rcases q5 with q5 | q5
                    · exact .inl q5
                    · obtain ⟨gs, k3, k4⟩ := q7 a q5
                      exact .inr ⟨i, gs, k3, k4⟩
              · rw [if_neg ok] at h
                exact h.elim
          | exc c p ob =>
            rw [hr] at h
            cases ob with
            | none => exact h.elim
            | some b =>
              simp only at h
              by_cases ok : bOk w0 b = true
              · rw [if_pos ok] at h
                intro Fz2 H2 d st ft br xr
                exact h Fz2 H2 d (nx_callB s.er hw0 hx0 r st ft br ok) xr
              · rw [if_neg ok] at h
                exact h.elim
    · exact h.elim
  | .Name _ _, [], _, hx => exact (Bool.false_ne_true hx).elim
end
end TD

set_option maxHeartbeats 1000000
namespace TD
open PySem PySem.Spec PyProof.Rows L2

/-! ### targets -/
def JG (X : Cx) (tg : Expr) : TG := fun v σ H Q => ∀ (pins : List (Addr × Obj)) (s : Shared) (u : Value), Inv X pins σ H s → RelV v u → wpAny (model X.prog X.w) X.A (assign tg X.env u) (fun _ s' => ∃ σ' H', Inv X pins σ' H' s' ∧ Q σ' H') X.xe s
theorem JG.pg (X : Cx) (tg : Expr) : PG X tg (JG X tg) := ⟨fun pins s _ _ _ u _ I r h => h pins s u I r⟩
theorem JG.of {X : Cx} {tg : Expr} {t : TG} {v : V} {σ : SS} {H : Hp} {Q : SS → Hp → Prop} (h : PG X tg t) (q : t v σ H Q) : JG X tg v σ H Q := fun pins s u I r => h.run pins s σ H v u Q I r q
/-- behind a store -/
structure Ot (K : PySem.W.Frag) (Fz : Addr → Prop) (H : Hp) (bw : Bool) (sl : List Nat) (en en' : En) (σ σ' : SS) : Prop where
  er : Er K Fz H en' σ'
  len : σ'.length = σ.length
  out : ∀ j, j ∉ sl → σ'[j]? = σ[j]?
  own : ∀ a, Ow en' σ' a → Ow en σ a
  bw : bw = true → σ'[0]? = σ[0]?
theorem chkT_star {N : List Str} {sc : Scope} {fn : Str → Bool} {t : T} {x : Expr} (h : chkT N sc fn t x = true) : notStar x = true := by
  cases x <;> first | rfl | (cases t <;> exact (Bool.false_ne_true h).elim)
theorem assignEach_cons {x : Expr} {xs : List Expr} {env : Env} (h : notStar x = true) : assignEach (x :: xs) env = (false, assign x env) :: assignEach xs env := by
  cases x <;> first | rfl | cases h
theorem assignEach_len {N : List Str} {sc : Scope} {fn : Str → Bool} {env : Env} : ∀ {t : T} {xs : List Expr}, chkTs N sc fn t xs = true → (assignEach xs env).length = xs.length ∧ (assignEach xs env).findIdx? (·.1) = none
  | .nil, [], _ => ⟨rfl, rfl⟩
  | .cons a b, x :: xs, h => by
    have h' : (chkT N sc fn a x && chkTs N sc fn b xs) = true := h
    rw [Bool.and_eq_true] at h'
    obtain ⟨h1, h2⟩ := assignEach_len (env := env) h'.2
    rw [assignEach_cons (chkT_star h'.1)]
    refine ⟨by rw [List.length_cons, List.length_cons, h1], ?_⟩
    rw [List.findIdx?_cons, if_neg (by simp), h2]
    rfl
theorem asT_len {N : List Str} {sc : Scope} {fn : Str → Bool} {bw : Bool} : ∀ {t : T} {xs : List Expr} {ds : List PyData} {en en' : En}, chkTs N sc fn t xs = true → asT bw t (.tuple ds) en = some en' → ds.length = xs.length
  | .nil, [], [], _, _, _, _ => rfl
  | .nil, [], _ :: _, _, _, _, h => by cases h
  | .nil, _ :: _, _, _, _, h, _ => (Bool.false_ne_true h).elim
  | .cons _ _, [], _, _, _, h, _ => (Bool.false_ne_true h).elim
  | .cons a b, x :: xs, [], _, _, _, h => by cases h
  | .cons a b, x :: xs, d :: ds, en, en', h, ha => by
    have h' : (chkT N sc fn a x && chkTs N sc fn b xs) = true := h
    rw [Bool.and_eq_true] at h'
    have ha' : (asT bw a d en).bind (fun e1 => asT bw b (.tuple ds) e1) = some en' := ha
    cases h1 : asT bw a d en with
    | none => rw [h1] at ha'; cases ha'
    | some e1 =>
      rw [h1] at ha'
      rw [List.length_cons, List.length_cons, asT_len h'.2 ha']
  | .n _, _, _, _, _, h, _ => (Bool.false_ne_true h).elim
  | .t _, _, _, _, _, h, _ => (Bool.false_ne_true h).elim
def JGs (X : Cx) (ts : List Expr) : TGs := fun vs σ H Q => ∀ (pins : List (Addr × Obj)) (s : Shared) (us : List Value), Inv X pins σ H s → Vals vs us → wpAny (model X.prog X.w) X.A (assignInOrder ((assignEach ts X.env).map (·.2)) us) (fun _ s' => ∃ σ' H', Inv X pins σ' H' s' ∧ Q σ' H') X.xe s
theorem JGs.pgs (X : Cx) (ts : List Expr) : PGs X ts (JGs X ts) := ⟨fun pins s _ _ _ us _ I r h => h pins s us I r⟩
section
variable {D : Dt} {X : Cx} {N : List Str} {sc : Scope} {Wx : WX}
theorem stI_inv {bw : Bool} {i : Nat} {w : W} {en en' : En} (h : stI bw i w en = some en') : (bw = true → i ≠ 0) ∧ i < en.length ∧ en' = en.set i (some w) := by
  unfold stI at h
  by_cases c : bw = true ∧ i = 0
  · rw [if_pos c] at h; cases h
  · rw [if_neg c] at h
    by_cases l : i < en.length
    · rw [if_pos l] at h
      exact ⟨fun b z => c ⟨b, z⟩, l, (Option.some.inj h).symm⟩
    · rw [if_neg l] at h; cases h
theorem locB_of {x : Str} (h : locB sc x = true) : Loc sc x := by
  unfold locB at h
  split at h <;> first | exact .inl (by assumption) | exact .inr (by assumption) | cases h
/-- a name's store -/
theorem ot_set {K : PySem.W.Frag} {Fz : Addr → Prop} {H : Hp} {bw : Bool} {i : Nat} {d : PyData} {v : V} {en en' : En} {σ : SS} (R : Er K Fz H en σ) (r : VR K Fz H d v) (h : stI bw i (.v d) en = some en') : Ot K Fz H bw [i] en en' σ (σ.set i (some v)) := by
  obtain ⟨h1, h2, rfl⟩ := stI_inv h
  have hi : (σ.set i (some v))[i]? = some (some v) := by
    rw [List.getElem?_set_self]
    rw [← R.len]; exact h2
  have ho : ∀ j, j ≠ i → (σ.set i (some v))[j]? = σ[j]? := fun j n => List.getElem?_set_ne (Ne.symm n)
  refine ⟨R.upd (List.length_set ..) ho ⟨v, hi, r⟩, List.length_set .., fun j n => ho j fun e => n (by rw [e]; exact List.mem_cons_self), fun a ⟨j, es, q1, q2⟩ => ?_, fun b => ho 0 fun e => h1 b e.symm⟩
  rcases set_cases q1 with ⟨_, e⟩ | ⟨n, e⟩
  · cases e
  · rw [ho j n] at q2
    exact ⟨j, es, e, q2⟩
mutual
theorem sg {fn : Str → Bool} (C : D.C X N sc Wx) (hf : ∀ x, fn x = true → X.fn x = true) {bw : Bool} : ∀ (t : T) (tg : Expr), chkT N sc fn t tg = true → ∀ (d : PyData) (v : V) (σ : SS) (Fz : Addr → Prop) (H : Hp) (en en' : En) (Q : SS → Hp → Prop), Er D.K Fz H en σ → VR D.K Fz H d v →
    asT bw t d en = some en' → (∀ σ', Ot D.K Fz H bw (slotsT t) en en' σ σ' → Q σ' H) → JG X tg v σ H Q
  | .n i, tg, h, d, v, σ, Fz, H, en, en', Q, R, r, ha, q => by
    cases tg <;> first | exact (Bool.false_ne_true h).elim | skip
    rename_i x pos
    have h' : (decide (N[i]? = some x) && locB sc x && (fn x || decide (sc.names.lookup x = some .local))) = true := h
    simp only [Bool.and_eq_true, decide_eq_true_eq, Bool.or_eq_true] at h'
    obtain ⟨⟨h1, h2⟩, h3⟩ := h'
    have hl : Loc X.env.scope x := by rw [C.sc]; exact locB_of h2
    have hx : X.fn x = true ∨ X.env.scope.names.lookup x = some .local := by
      rw [C.sc]
      rcases h3 with h3 | h3
      · exact .inl (hf x h3)
      · exact .inr h3
    exact JG.of (pg_name C.nd (by rw [C.N]; exact h1) hl hx) (q _ (ot_set R r ha))
  | .t ts, tg, h, d, v, σ, Fz, H, en, en', Q, R, r, ha, q => by
    cases tg <;> first | exact (Bool.false_ne_true h).elim | skip
    rename_i es kk pos
    obtain ⟨l1, l2⟩ := assignEach_len (env := X.env) (show chkTs N sc fn ts es = true from h)
    cases r with
    | tup a1 a3 =>
      rename_i ds xs
      have hg := pg_tup (k := kk) (pos := pos) C.calm (JGs.pgs X es) l1 l2
      rw [C.K] at hg
      have hl := asT_len (show chkTs N sc fn ts es = true from h) ha
      exact JG.of hg ⟨_, _, rfl, a1, by rw [← a3.length]; exact hl, sgs C hf (bw := bw) ts es h _ _ σ Fz H en en' Q R a3 ha q⟩
    | lst a1 a2 a3 =>
      rename_i xs ds
      have ha : asT bw ts (.tuple ds) en = some en' := ha
      have hg := pg_unl (k := kk) (pos := pos) C.calm (JGs.pgs X es) l1 l2
      rw [C.K] at hg
      have hl := asT_len (show chkTs N sc fn ts es = true from h) ha
      exact JG.of hg ⟨_, _, rfl, .inl a1, by rw [← a3.length]; exact hl, sgs C hf (bw := bw) ts es h _ _ σ Fz H en en' Q R a3 ha q⟩
    | _ => cases ha
  | .nil, tg, h, _, _, _, _, _, _, _, _, _, _, _, _ => by
    cases tg <;> exact (Bool.false_ne_true h).elim
  | .cons _ _, tg, h, _, _, _, _, _, _, _, _, _, _, _, _ => by
    cases tg <;> exact (Bool.false_ne_true h).elim
theorem sgs {fn : Str → Bool} (C : D.C X N sc Wx) (hf : ∀ x, fn x = true → X.fn x = true) {bw : Bool} : ∀ (t : T) (ts : List Expr), chkTs N sc fn t ts = true →
    ∀ (ds : List PyData) (vs : List V) (σ : SS) (Fz : Addr → Prop) (H : Hp) (en en' : En) (Q : SS → Hp → Prop), Er D.K Fz H en σ → VRs D.K Fz H ds vs → asT bw t (.tuple ds) en = some en' → (∀ σ', Ot D.K Fz H bw (slotsT t) en en' σ σ' → Q σ' H) → JGs X ts vs σ H Q
  | .nil, [], h => by
    intro ds vs σ Fz H en en' Q R r ha q
    cases ds with
    | cons d ds => cases ha
    | nil =>
      cases r
      have e : en = en' := Option.some.inj ha
      subst e
      intro pins s us I rv
      cases rv
      exact assignInOrder_nil ⟨σ, H, I, q σ ⟨R, rfl, fun _ _ => rfl, fun _ z => z, fun _ => rfl⟩⟩
  | .cons a b, x :: xs, h => by
    have h' : (chkT N sc fn a x && chkTs N sc fn b xs) = true := h
    rw [Bool.and_eq_true] at h'
    intro ds vs σ Fz H en en' Q R r ha q
    cases ds with
    | nil => cases ha
    | cons d ds =>
      cases r with
      | cons r1 r2 =>
        rename_i v vs
        have ha' : (asT bw a d en).bind (fun e1 => asT bw b (.tuple ds) e1) = some en' := ha
        cases h1 : asT bw a d en with
        | none => rw [h1] at ha'; cases ha'
        | some e1 =>
          rw [h1] at ha'
          have ha2 : asT bw b (.tuple ds) e1 = some en' := ha'
          intro pins s us I rv
          cases rv with
          | cons rv1 rv2 =>
            rw [assignEach_cons (chkT_star h'.1)]
            have step := sg C hf (bw := bw) a x h'.1 d v σ Fz H en e1 (fun σ1 H1 => JGs X xs vs σ1 H1 Q) R r1 h1 (fun σ1 O1 => ?_)
            · exact assignInOrder_cons (thn (step pins s _ I rv1) fun _ s1 ⟨σ1, H1, I1, q1⟩ => q1 pins s1 _ I1 rv2)
            · refine sgs C hf (bw := bw) b xs h'.2 ds vs σ1 Fz H e1 en' Q O1.er r2 ha2 fun σ2 O2 => q σ2 ⟨O2.er, O2.len.trans O1.len, fun j n => ?_, fun a z => O1.own a (O2.own a z), fun z => (O2.bw z).trans (O1.bw z)⟩
              have hs : slotsT (.cons a b) = slotsT a ++ slotsT b := rfl
              rw [hs, List.mem_append, not_or] at n
              exact (O2.out j n.2).trans (O1.out j n.1)
  | .nil, _ :: _, h => (Bool.false_ne_true h).elim
  | .cons _ _, [], h => (Bool.false_ne_true h).elim
  | .n _, _, h => (Bool.false_ne_true h).elim
  | .t _, _, h => (Bool.false_ne_true h).elim
end
end
end TD

set_option maxHeartbeats 1000000
namespace TD
open PySem PySem.Spec PyProof.Rows L2
theorem meets_enum1 {v : Value} {o : Obj} {H : Heap → Prop} (B : Begins v o H) :
    Meets (Builtin.«enumerate.__new__» ⟨[.type "enumerate", v], []⟩) (fun _ R s => H s.heap ∧
      R (.ok (.ret (.ref (s.heap.push o).objs.size))) { s with heap := (s.heap.push o).push { cls := .type "enumerate", data := .fields #[.none, .bool false, .ref s.heap.objs.size, rawInt 0, .none, .none] } }) :=
  .of_wp fun prog w A R s h => by
    obtain ⟨hp, g, d, tk, os⟩ := s; obtain ⟨h1, h⟩ := h
    have hsub := sub_enumerate
    have q1 : ∀ {A' : Around} {E : Value → Shared → Prop} {Q : Value → Shared → Prop}, Q (.ref hp.objs.size) ⟨hp.push o, g, d, tk, os⟩ → wpAny (model prog w) A' (pyIter v) Q E ⟨hp, g, d, tk, os⟩ :=
      fun q => B.iter prog w _ _ ⟨hp, g, d, tk, os⟩ _ h1 q
    wp_walk using q1
    refine wpAny_stack_any fun st => wpAny_pure ?_
    split
    · rename_i c _ _ _ _ _
      cases (c == Value.type "enumerate")
      · wp_walk using q1
        exact ⟨_, rfl, h⟩
      · wp_walk using q1
        exact ⟨_, rfl, h⟩
    · wp_walk using q1
      exact ⟨_, rfl, h⟩
section
variable {prog : Program} {w : World} {A : Around} {E : Value → Shared → Prop} {s : Shared}
theorem call_enumT {t : Addr} {items : Array Value} {Q : Value → Shared → Prop} (hT : s.heap.IsTuple t items)
    (h : ∀ h', IsEnum h' (s.heap.objs.size + 1) s.heap.objs.size 0 .none → h'.IsTupleIter s.heap.objs.size t 0 → h'.objs.size = s.heap.objs.size + 2 →
      (∀ b o, s.heap.get? b = some o → h'.get? b = some o) → Q (.ref (s.heap.objs.size + 1)) { s with heap := h' }) :
    wpAny (model prog w) A (call (.type "enumerate") [.ref t]) Q E s := by
  have B := begins_tuple t items
  refine callType_new F.called_enumerate (by decide) (F.typeCall_enumerate_1 _) (F.newCall_enumerate_1 _) (fun obj => F.args_object_init_2 obj _) F.entry_enumerate_new
    (meets_enum1 B) ⟨hT, ?_⟩
  have hz : (s.heap.push { cls := .type "tuple_iterator", data := .fields #[.ref t, .int 0 0] }).objs.size = s.heap.objs.size + 1 := Heap.size_push ..
  show _ ∧ _
  rw [hz]
  have he : IsEnum ((s.heap.push { cls := .type "tuple_iterator", data := .fields #[.ref t, .int 0 0] }).push
      { cls := .type "enumerate", data := .fields #[.none, .bool false, .ref s.heap.objs.size, rawInt 0, .none, .none] }) (s.heap.objs.size + 1) s.heap.objs.size 0 .none := by
    have := Heap.get?_push_size (s.heap.push { cls := .type "tuple_iterator", data := .fields #[.ref t, .int 0 0] })
      (o := { cls := .type "enumerate", data := .fields #[.none, .bool false, .ref s.heap.objs.size, rawInt 0, .none, .none] }) rfl
    rw [hz] at this; exact this
  refine ⟨⟨_, he, rfl⟩, h _ he ⟨_, Heap.get?_push_of_some _ (Heap.get?_push_size _ rfl), rfl, rfl⟩ (by rw [Heap.size_push, hz]) fun b o x => Heap.get?_push_of_some _ (Heap.get?_push_of_some _ x)⟩
theorem enumT_end {e it t : Addr} {items : Array Value} {i : Nat} {c : Int} {old : Value} {Q : Option Value → Shared → Prop} (hh : A.handled = none)
    (he : IsEnum s.heap e it c old) (hit : s.heap.IsTupleIter it t i) (ht : s.heap.IsTuple t items) (hx : items[i]? = none)
    (hQ : ∀ h', Heap.ExtBut it s.heap h' → Q none { s with heap := h' }) : wpAny (model prog w) A (pyNext (.ref e)) Q E s := by
  have hT : s.TypeIs (.ref e) "enumerate" := ⟨_, he, rfl⟩
  unfold pyNext
  refine wpAny_bind (wpAny_attempt (wpAny_callSpecial?_slot (name := Str.ofString "__next__") hT F.slot_enumerate_next
    (wpAny_call_entry F.slot_enumerate_next hT F.entry_enumerate_next ?_ (F.args_enumerate_next_1 _))))
  show wpAny _ _ (field (.ref e) 2 >>= _) _ _ _
  refine wpAny_bind (wpAny_field he rfl (x := .ref it) rfl ?_)
  refine wpAny_bind (RZ.nextOf_tuple_end (show A.in1.handled = none from hh) hit ht hx fun h' x he' hx' => ?_)
  obtain ⟨o, ho, hc⟩ := hx'
  refine wpAny_bind (wpAny_isInstance (T := "StopIteration") (b := true) ⟨o, ho, hc⟩ isSubtype_stop ?_)
  exact wpAny_pure (hQ _ he')
end
/-- the tuple at a, each item in a new pair -/
def IteT (K : PySem.W.Frag) (a : Addr) : It :=
  ⟨fun i H => ∃ (xs : List V) (x : V), SqT K H a xs ∧ xs[i]? = some x, fun i H v H' => ∃ T x, v = .ref T ∧ H T = none ∧ H' = upd H T (.tup [.int (i : Nat), x]) ∧ ∀ xs, SqT K H a xs → xs[i]? = some x, fun i H => ∃ xs : List V, SqT K H a xs ∧ xs.length ≤ i⟩
theorem turn_enumT {P : Program} {w : World} {K : PySem.W.Frag} {elts : List Expr} {kk : Nat} {tpos : Pos} (a e it : Addr) :
    Turn P w K (.Tuple elts kk tpos) (IteT K a) [e, it] e (fun i h => (∃ old, IsEnum h e it ((i : Nat) : Int) old) ∧ h.IsTupleIter it a i ∧ e ≠ it ∧ a ≠ it ∧ e ≠ a) where
  mem := by simp
  obj := fun i h st b hb => by
    obtain ⟨⟨old, he⟩, ⟨o, ho, hc, hd⟩, _⟩ := st
    have e' : b = e ∨ b = it := by simpa using hb
    rcases e' with z | z
    · rw [z]; exact ⟨_, he, fun v q => nomatch q⟩
    · rw [z]; exact ⟨o, ho, fun v q => by rw [hd] at q; cases q⟩
  keep := fun i h h' st k => let ⟨⟨old, he⟩, hi, hne⟩ := st; ⟨⟨old, k e (by simp) _ he⟩, hi.at fun o q => k it (by simp) o q, hne⟩
  item := by
    intro X hP hw hK hc i pins s σ H E I hf st hg
    subst hP hw hK
    obtain ⟨⟨old, he⟩, hit, hne, hai, hea⟩ := st
    obtain ⟨xs, x, hq, hx⟩ := hg
    obtain ⟨its, rv, p, hz⟩ := I.tuple hq
    obtain ⟨u, hu, ru⟩ := rv.get hx
    have hel : e < s.heap.objs.size := Heap.lt_size he
    have hil : it < s.heap.objs.size := by obtain ⟨_, q, _⟩ := hit; exact Heap.lt_size q
    have hp : s.heap.IsTuple a its.toArray := p
    have hlt : i < its.toArray.size := by
      have := (List.getElem?_eq_some_iff.mp hu).1
      rw [List.size_toArray]; exact this
    have D : Draws X.prog X.w X.A.in1 it [it, a] its.toArray.size (fun i v => its.toArray[i]? = some v) (fun i h => h.IsTupleIter it a i ∧ h.IsTuple a its.toArray) := Draws.tuple (show X.A.in1.handled = none from I.ok.hd hc) it a hai its.toArray
    refine wpAny_pyNext_enum_itemD D he ⟨hit, hp⟩ hlt hne (by simp [hne, hea]) fun x' h' tk hx' ho hst' hT hsz hk => ?_
    have hxu : x' = u := by
      have h1 : its.toArray[i]? = some x' := hx'
      have h2 : its.toArray[i]? = some u := by simpa using hu
      rw [h1] at h2; exact Option.some.inj h2
    subst hxu
    obtain ⟨hit', hp'⟩ := hst'
    refine ⟨_, rfl, wpAny_letOwnedTupleGo_enum (s := { s with heap := h', toks := tk + 1 }) ho fun h'' he' sb => ?_⟩
    have hT2 : h''.get? s.heap.objs.size = some { cls := .type "tuple", data := .seq #[.int i tk, x'] } := (sb.2 _ (Nat.ne_of_gt hel)).trans hT
    have new : ObjOk X.prog X.w (upd H s.heap.objs.size (.tup [.int (i : Nat), x])) h'' s.heap.objs.size (.tup [.int (i : Nat), x]) :=
      ⟨by show 2 ≤ sizeLine; decide, [.int i tk, x'], .cons ⟨_, rfl⟩ (.cons ru .nil), ⟨_, hT2, rfl, _, rfl⟩⟩
    have I1 : Inv X pins σ (upd H s.heap.objs.size (.tup [.int (i : Nat), x])) { s with heap := h'', toks := tk + 1 } :=
      I.turnedNew (ch := [e, it]) (fun b ob hb q => (sb.2 b (fun z => hb (by simp [z]))).trans (hk b ob (fun z => hb (by simp [z])) (fun z => hb (by simp [z])) q)) hf (Nat.le_refl _) new
    refine ⟨.ref s.heap.objs.size, _, I1, rfl, ⟨_, x, rfl, I.hok.fresh (Nat.le_refl _), rfl, fun ys hy => by rw [I.tuple_inj hy hq]; exact hx⟩, ⟨⟨x', ?_⟩, hit'.at fun o q => (sb.2 it (Ne.symm hne)).trans q, hne, hai, hea⟩, fun b hb => ?_⟩
    · have e1 : ((i + 1 : Nat) : Int) = (i : Int) + 1 := by omega
      rw [e1]; exact he'
    · have hb' : b < s.heap.objs.size := by
        have e' : b = e ∨ b = it := by simpa using hb
        rcases e' with z | z
        · rw [z]; exact hel
        · rw [z]; exact hil
      rw [upd_ne (Nat.ne_of_lt hb')]
      exact (hf b hb).1
  done := by
    intro X hP hw hK hc i pins s σ H E I hf st hg
    subst hP hw hK
    obtain ⟨⟨old, he⟩, hit, hne, hai, hea⟩ := st
    obtain ⟨xs, hq, hx⟩ := hg
    obtain ⟨its, rv, p, hz⟩ := I.tuple hq
    obtain ⟨f0, f1, f2, f3, f4, f5⟩ := hf it (by simp)
    have hl := rv.length
    exact enumT_end (I.ok.hd hc) he hit (show s.heap.IsTuple a its.toArray from p) (by simp; omega) fun h' eb => ⟨rfl, I.turned (t' := s.toks) (fun b o hb q => eb b o hb q) f0 f1 f3 f4 f5⟩
  self := fun A i s Q E st h => let ⟨⟨_, he⟩, _⟩ := st; wpAny_pyIter_enum he h
/-- enumerate of a list or a tuple -/
def iEnumX (K : PySem.W.Frag) (ta : TA) : TI := fun σ H R => ta σ H fun vs H1 => ∃ a xs, vs = [.ref a] ∧ ((SqL K H1 a xs ∧ R (Ite K a) H1) ∨ (SqT K H1 a xs ∧ R (IteT K a) H1))
theorem pi_enumX {X : Cx} {e : Expr} {ta : TA} {p pos tpos : Pos} {elts : List Expr} {kk : Nat} (hg : Gl X "enumerate") (hm : X.mg "enumerate" = none) (ha : PA X [e] ta) (hs : starEach [e] X.env = [(false, eval e X.env)] := by rfl) :
    PI X (.Tuple elts kk tpos) (.Call (.Name "enumerate" p) [e] [] pos) (iEnumX X.K ta) := by
  refine ⟨fun pins s σ H R I h => ?_⟩
  refine Call_ (ld_blt I hg hm boot_enumerate (PyProof.Rows.callWith_type1 (thn (ha.run pos pins s σ H _ I h) fun us s1 ⟨vs, H1, I1, r1, q1⟩ => ?_) hs rfl))
  obtain ⟨a, xs, ex, q1⟩ := q1
  subst ex
  cases r1 with
  | cons r rr =>
    cases rr
    cases r
    have fr : ∀ b ∈ [s1.heap.objs.size + 1, s1.heap.objs.size], FpOk X pins H1 b := fun b hb => by
      have e' : b = s1.heap.objs.size + 1 ∨ b = s1.heap.objs.size := by simpa using hb
      have hle : s1.heap.objs.size ≤ b := by
        rcases e' with z | z
        · rw [z]; exact Nat.le_add_right _ _
        · rw [z]; exact Nat.le_refl _
      exact I1.fpOk hle (I1.hok.fresh hle)
    rcases q1 with ⟨hq, q⟩ | ⟨hq, q⟩
    · obtain ⟨its, rv, p', hz⟩ := I1.list hq
      refine call_enumerate_list p'.isList fun h' he hit hsz hk => wpAny_pyIter_enum he ?_
      have I2 : Inv X pins σ H1 { s1 with heap := h' } := I1.kept (t' := s1.toks) hk
      exact ⟨s1.heap.objs.size + 1, [s1.heap.objs.size + 1, s1.heap.objs.size], _, _, H1, rfl, I2, turn_enum a (s1.heap.objs.size + 1) s1.heap.objs.size, ⟨⟨.none, he⟩, hit, Nat.succ_ne_self _⟩, fr, q⟩
    · obtain ⟨its, rv, p', hz⟩ := I1.tuple hq
      have hp : s1.heap.IsTuple a its.toArray := p'
      have hlt : a < s1.heap.objs.size := by obtain ⟨_, q, _⟩ := hp; exact Heap.lt_size q
      refine call_enumT hp fun h' he hit hsz hk => wpAny_pyIter_enum he ?_
      have I2 : Inv X pins σ H1 { s1 with heap := h' } := I1.kept (t' := s1.toks) hk
      exact ⟨s1.heap.objs.size + 1, [s1.heap.objs.size + 1, s1.heap.objs.size], _, _, H1, rfl, I2, turn_enumT a (s1.heap.objs.size + 1) s1.heap.objs.size, ⟨⟨.none, he⟩, hit, Nat.succ_ne_self _, Nat.ne_of_lt hlt, Nat.ne_of_gt (Nat.lt_succ_of_lt hlt)⟩, fr, q⟩

/-! ### what a loop walks -/
/-- J hands out ds, in whatever state in which what was data is data -/
def ItOk (K : PySem.W.Frag) (Fz0 : Addr → Prop) (H0 : Hp) (J : It) (ds : List PyData) : Prop := ∀ (Fz : Addr → Prop) (H : Hp), (∀ d v, VR K Fz0 H0 d v → VR K Fz H d v) → ∀ (i : Nat),
  (i < ds.length → J.go i H ∧ ∀ x H', J.yld i H x H' → ∀ e σ, Er K Fz H e σ → ∃ d, ds[i]? = some d ∧ Nx K σ Fz H e Fz H' e ∧ VR K Fz H' d x) ∧ (ds.length ≤ i → J.stop i H)
def JI (X : Cx) (tg x : Expr) : TI := fun σ H R => ∀ (pins : List (Addr × Obj)) (s : Shared), Inv X pins σ H s → wpAny (model X.prog X.w) X.A (eval x X.env) (fun v s1 => wpAny (model X.prog X.w) X.A (pyIter v) (PIE X pins σ tg R) X.xe s1) X.xe s
theorem JI.pi (X : Cx) (tg x : Expr) : PI X tg x (JI X tg x) := ⟨fun pins s _ _ _ I h => h pins s I⟩
theorem JI.of {X : Cx} {tg x : Expr} {t : TI} {σ : SS} {H : Hp} {R : It → Hp → Prop} (h : PI X tg x t) (q : t σ H R) : JI X tg x σ H R := fun pins s I => h.run pins s σ H R I q
section
variable {K : PySem.W.Frag} {Fz : Addr → Prop} {H : Hp}
theorem itok_list {a : Addr} {xs : List V} {ds : List PyData} (h1 : Rd H a (.lst xs)) (h2 : Fz a) (h3 : VRs K Fz H ds xs) : ItOk K Fz H (Itl K a) ds := by
  intro Fz1 H1 mo i
  have h := mo _ _ (.lst h1 h2 h3)
  cases h with
  | lst a1 a2 a3 =>
    rename_i ys
    refine ⟨fun hi => ?_, fun hi => ⟨ys, .inl a1, by rw [← a3.length]; exact hi⟩⟩
    obtain ⟨d, hd⟩ : ∃ d, ds[i]? = some d := ⟨_, List.getElem?_eq_getElem hi⟩
    obtain ⟨x, g1, g2⟩ := a3.get hd
    refine ⟨⟨ys, x, .inl a1, g1⟩, fun z H' hy e σ R => ?_⟩
    obtain ⟨rfl, hy⟩ := hy
    have e1 := hy ys (.inl a1)
    rw [g1] at e1
    cases e1
    exact ⟨d, hd, .refl R, g2⟩
theorem itok_tup {a : Addr} {xs : List V} {ds : List PyData} (h1 : SqT K H a xs) (h3 : VRs K Fz H ds xs) : ItOk K Fz H (Itt K a) ds := by
  intro Fz1 H1 mo i
  have h := mo _ _ (.tup h1 h3)
  cases h with
  | tup a1 a3 =>
    rename_i ys
    refine ⟨fun hi => ?_, fun hi => ⟨ys, a1, by rw [← a3.length]; exact hi⟩⟩
    obtain ⟨d, hd⟩ : ∃ d, ds[i]? = some d := ⟨_, List.getElem?_eq_getElem hi⟩
    obtain ⟨x, g1, g2⟩ := a3.get hd
    refine ⟨⟨ys, x, a1, g1⟩, fun z H' hy e σ R => ?_⟩
    obtain ⟨rfl, hy⟩ := hy
    have e1 := hy ys a1
    rw [g1] at e1
    cases e1
    exact ⟨d, hd, .refl R, g2⟩
theorem rangeD_len (lo : Int) : ∀ n, (rangeD lo n).length = n := by
  intro n
  induction n generalizing lo with
  | zero => rfl
  | succ n ih => show (rangeD (lo + 1) n).length + 1 = n + 1; rw [ih]
theorem rangeD_get (lo : Int) : ∀ (n i : Nat), i < n → (rangeD lo n)[i]? = some (.int (lo + i)) := by
  intro n
  induction n generalizing lo with
  | zero => intro i h; omega
  | succ n ih =>
    intro i h
    cases i with
    | zero => show some (PyData.int lo) = _; simp
    | succ i =>
      show (rangeD (lo + 1) n)[i]? = _
      rw [ih (lo + 1) i (by omega)]
      congr 2
      omega
theorem itok_range {lo : Int} {n : Nat} : ItOk K Fz H (Itr lo n) (rangeD lo n) := by
  intro Fz1 H1 mo i
  refine ⟨fun hi => ?_, fun hi => ?_⟩
  · rw [rangeD_len] at hi
    refine ⟨hi, fun z H' hy e σ R => ?_⟩
    obtain ⟨rfl, rfl⟩ := hy
    exact ⟨_, rangeD_get lo n i hi, .refl R, .int _⟩
  · rw [rangeD_len] at hi
    exact hi
theorem enumD_len : ∀ (k : Nat) (ds : List PyData), (enumD k ds).length = ds.length
  | _, [] => rfl
  | k, d :: ds => by show (enumD (k + 1) ds).length + 1 = ds.length + 1; rw [enumD_len]
theorem enumD_get : ∀ (k : Nat) (ds : List PyData) (i : Nat) (d : PyData), ds[i]? = some d → (enumD k ds)[i]? = some (.tuple [.int ((k + i : Nat) : Int), d])
  | _, [], i, _, h => by simp at h
  | k, c :: ds, 0, d, h => by
    have e : c = d := Option.some.inj h
    subst e
    rfl
  | k, c :: ds, i + 1, d, h => by
    show (enumD (k + 1) ds)[i]? = _
    rw [enumD_get (k + 1) ds i d h, show k + 1 + i = k + (i + 1) by omega]
theorem itok_enum {a : Addr} {xs : List V} {ds : List PyData} (h1 : Rd H a (.lst xs)) (h2 : Fz a) (h3 : VRs K Fz H ds xs) : ItOk K Fz H (Ite K a) (enumD 0 ds) := by
  intro Fz1 H1 mo i
  have h := mo _ _ (.lst h1 h2 h3)
  cases h with
  | lst a1 a2 a3 =>
    rename_i ys
    refine ⟨fun hi => ?_, fun hi => ⟨ys, .inl a1, by rw [← a3.length, ← enumD_len 0]; exact hi⟩⟩
    rw [enumD_len] at hi
    obtain ⟨d, hd⟩ : ∃ d, ds[i]? = some d := ⟨_, List.getElem?_eq_getElem hi⟩
    obtain ⟨x, g1, g2⟩ := a3.get hd
    refine ⟨⟨ys, x, .inl a1, g1⟩, fun z H' hy e σ R => ?_⟩
    obtain ⟨T, y, rfl, hT, rfl, hy⟩ := hy
    have e1 := hy ys (.inl a1)
    rw [g1] at e1
    cases e1
    have s : Nx K σ Fz1 H1 e Fz1 (upd H1 T (.tup [.int (i : Nat), x])) e := Nx.new R hT
    refine ⟨_, enumD_get 0 ds i d hd, s, .tup (.inl (.inl upd_same)) (.cons ?_ (.cons (s.vr R g2) .nil))⟩
    rw [Nat.zero_add]
    exact .int _
theorem itok_enumT {a : Addr} {xs : List V} {ds : List PyData} (h1 : SqT K H a xs) (h3 : VRs K Fz H ds xs) : ItOk K Fz H (IteT K a) (enumD 0 ds) := by
  intro Fz1 H1 mo i
  have h := mo _ _ (.tup h1 h3)
  cases h with
  | tup a1 a3 =>
    rename_i ys
    refine ⟨fun hi => ?_, fun hi => ⟨ys, a1, by rw [← a3.length, ← enumD_len 0]; exact hi⟩⟩
    rw [enumD_len] at hi
    obtain ⟨d, hd⟩ : ∃ d, ds[i]? = some d := ⟨_, List.getElem?_eq_getElem hi⟩
    obtain ⟨x, g1, g2⟩ := a3.get hd
    refine ⟨⟨ys, x, a1, g1⟩, fun z H' hy e σ R => ?_⟩
    obtain ⟨T, y, rfl, hT, rfl, hy⟩ := hy
    have e1 := hy ys a1
    rw [g1] at e1
    cases e1
    have s : Nx K σ Fz1 H1 e Fz1 (upd H1 T (.tup [.int (i : Nat), x])) e := Nx.new R hT
    refine ⟨_, enumD_get 0 ds i d hd, s, .tup (.inl (.inl upd_same)) (.cons ?_ (.cons (s.vr R g2) .nil))⟩
    rw [Nat.zero_add]
    exact .int _
theorem zipD_get : ∀ (ds es : List PyData) (i : Nat) (d e : PyData), ds[i]? = some d → es[i]? = some e → (zipD ds es)[i]? = some (.tuple [d, e])
  | [], _, i, _, _, h, _ => by simp at h
  | _ :: _, [], i, _, _, _, h => by simp at h
  | c :: ds, c' :: es, 0, d, e, h, h' => by
    have e1 : c = d := Option.some.inj h
    have e2 : c' = e := Option.some.inj h'
    subst e1 e2
    rfl
  | c :: ds, c' :: es, i + 1, d, e, h, h' => by
    show (zipD ds es)[i]? = _
    exact zipD_get ds es i d e h h'
theorem zipD_len : ∀ ds es : List PyData, (zipD ds es).length = min ds.length es.length
  | [], _ => by simp [zipD]
  | _ :: _, [] => by simp [zipD]
  | c :: ds, c' :: es => by
    show (zipD ds es).length + 1 = min (ds.length + 1) (es.length + 1)
    rw [zipD_len]
    omega
theorem itok_zip {a b : Addr} {xs ys : List V} {ds es : List PyData} (h1 : Rd H a (.lst xs)) (h2 : Fz a) (h3 : VRs K Fz H ds xs) (k1 : Rd H b (.lst ys)) (k2 : Fz b) (k3 : VRs K Fz H es ys) : ItOk K Fz H (Itz K a b) (zipD ds es) := by
  intro Fz1 H1 mo i
  have h := mo _ _ (.lst h1 h2 h3)
  have k := mo _ _ (.lst k1 k2 k3)
  cases h with
  | lst a1 a2 a3 =>
    cases k with
    | lst b1 b2 b3 =>
      rename_i xs' ys'
      have l1 := a3.length
      have l2 := b3.length
      rw [zipD_len]
      refine ⟨fun hi => ?_, fun hi => ⟨_, _, .inl a1, .inl b1, by omega⟩⟩
      obtain ⟨d, hd⟩ : ∃ d, ds[i]? = some d := ⟨_, List.getElem?_eq_getElem (by omega)⟩
      obtain ⟨f, hf⟩ : ∃ d, es[i]? = some d := ⟨_, List.getElem?_eq_getElem (by omega)⟩
      obtain ⟨x, g1, g2⟩ := a3.get hd
      obtain ⟨y, g3, g4⟩ := b3.get hf
      refine ⟨⟨_, _, x, y, .inl a1, .inl b1, g1, g3⟩, fun z H' hy e σ R => ?_⟩
      obtain ⟨T, x', y', rfl, hT, rfl, hx, hy⟩ := hy
      have e1 := hx _ (.inl a1)
      rw [g1] at e1
      cases e1
      have e2 := hy _ (.inl b1)
      rw [g3] at e2
      cases e2
      have s : Nx K σ Fz1 H1 e Fz1 (upd H1 T (.tup [x, y])) e := Nx.new R hT
      exact ⟨_, zipD_get ds es i d f hd hf, s, .tup (.inl (.inl upd_same)) (.cons (s.vr R g2) (.cons (s.vr R g4) .nil))⟩
theorem itok_zipT {a b : Addr} {xs ys : List V} {ds es : List PyData} (h1 : SqT K H a xs) (h3 : VRs K Fz H ds xs) (k1 : SqT K H b ys) (k3 : VRs K Fz H es ys) : ItOk K Fz H (RZ.ItzT K a b) (zipD ds es) := by
  intro Fz1 H1 mo i
  have h := mo _ _ (.tup h1 h3)
  have k := mo _ _ (.tup k1 k3)
  cases h with
  | tup a1 a3 =>
    cases k with
    | tup b1 b3 =>
      have l1 := a3.length
      have l2 := b3.length
      rw [zipD_len]
      refine ⟨fun hi => ?_, fun hi => ⟨_, _, a1, b1, by omega⟩⟩
      obtain ⟨d, hd⟩ : ∃ d, ds[i]? = some d := ⟨_, List.getElem?_eq_getElem (by omega)⟩
      obtain ⟨f, hf⟩ : ∃ d, es[i]? = some d := ⟨_, List.getElem?_eq_getElem (by omega)⟩
      obtain ⟨x, g1, g2⟩ := a3.get hd
      obtain ⟨y, g3, g4⟩ := b3.get hf
      refine ⟨⟨_, _, x, y, a1, b1, g1, g3⟩, fun z H' hy e σ R => ?_⟩
      obtain ⟨T, x', y', rfl, hT, rfl, hx, hy⟩ := hy
      have e1 := hx _ a1
      rw [g1] at e1
      cases e1
      have e2 := hy _ b1
      rw [g3] at e2
      cases e2
      have s : Nx K σ Fz1 H1 e Fz1 (upd H1 T (.tup [x, y])) e := Nx.new R hT
      exact ⟨_, zipD_get ds es i d f hd hf, s, .tup (.inl (.inl upd_same)) (.cons (s.vr R g2) (.cons (s.vr R g4) .nil))⟩
end
/-- a list or a tuple, walked -/
def iSeq (K : PySem.W.Frag) (tl : TE) : TI := fun σ H R => tl σ H fun x H1 => ∃ a, x = V.ref a ∧ (((∃ xs, SqL K H1 a xs) ∧ R (Itl K a) H1) ∨ ((∃ xs, SqT K H1 a xs) ∧ R (Itt K a) H1))
theorem pi_seq {X : Cx} {tg l : Expr} {tl : TE} (hl : PE X l tl) : PI X tg l (iSeq X.K tl) := by
  refine ⟨fun pins s σ H R I h => ?_⟩
  refine thn (hl.run pins s σ H _ I h) fun v s1 ⟨x, H1, I1, r1, q1⟩ => ?_
  obtain ⟨a, e, ⟨⟨xs, hq⟩, q⟩ | ⟨⟨xs, hq⟩, q⟩⟩ := q1
  · subst e
    cases r1
    obtain ⟨its, rv, p, hz⟩ := I1.list hq
    refine wpAny_pyIter_list p.isList ?_
    refine ⟨s1.heap.objs.size, [s1.heap.objs.size], _, _, H1, rfl, I1.kept (t' := s1.toks) fun b o e => Heap.get?_push_of_some _ e, turn_list a _, ⟨_, Heap.get?_push_size _ rfl, rfl, rfl⟩, fun b hb => ?_, q⟩
    have e : b = s1.heap.objs.size := by simpa using hb
    subst e
    exact I1.fpOk (Nat.le_refl _) (I1.hok.fresh (Nat.le_refl _))
  · subst e
    cases r1
    obtain ⟨its, rv, p, hz⟩ := I1.tuple hq
    refine wpAny_pyIter_tuple (show s1.heap.IsTuple a its.toArray from p) ?_
    refine ⟨s1.heap.objs.size, [s1.heap.objs.size], _, _, H1, rfl, I1.kept (t' := s1.toks) fun b o e => Heap.get?_push_of_some _ e, turn_tuple a _, ⟨_, Heap.get?_push_size _ rfl, rfl, rfl⟩, fun b hb => ?_, q⟩
    have e : b = s1.heap.objs.size := by simpa using hb
    subst e
    exact I1.fpOk (Nat.le_refl _) (I1.hok.fresh (Nat.le_refl _))

def SatI (K : PySem.W.Frag) (σ : SS) (cl : Nat → Value) (Wx : WX) (Fz : Addr → Prop) (H : Hp) (e : En) (r : Rs W) (R : It → Hp → Prop) : Prop := match r with
  | .ok w e1 => ∃ ds, seqOf w.val = some ds ∧ ∀ Fz1 H1 J, Nx K σ Fz H e Fz1 H1 e1 → ItOk K Fz1 H1 J ds → R J H1
  | .exc c p e1 => ∀ Fz1 H1 d, Nx K σ Fz H e Fz1 H1 e1 → Xr K Fz1 H1 p d → Wx (cl c) d σ H1
  | .stuck => False
def SI (D : Dt) (e : E) : Prop := ∀ (X : Cx) (N : List Str) (sc : Scope) (Wx : WX), D.C X N sc Wx → ∀ tg x, chkI D.G N e sc tg x = true → ∀ (σ : SS) (Fz : Addr → Prop) (H : Hp) (en : En) (R' : It → Hp → Prop), Er D.K Fz H en σ →
  SatI D.K σ D.cl Wx Fz H en (ev D.cs D.cf e en) R' → JI X tg x σ H R'
section
variable {D : Dt} {X : Cx} {N : List Str} {sc : Scope} {Wx : WX} {σ : SS} {Fz : Addr → Prop} {H : Hp} {en : En}
theorem si_one {a : E} (ha : SE D a) : SI D (.one a) := by
  intro X N sc Wx C tg x hx σ Fz H en R' R h
  have h' : (notSet x && chkE D.G N a sc x) = true := by
    cases tg <;> exact hx
  rw [Bool.and_eq_true] at h'
  have hp := pi_seq (tg := tg) (JE.pe X x)
  rw [C.K] at hp
  refine JI.of hp ?_
  refine ha X N sc Wx C x h'.2 σ Fz H en _ R ?_
  have h : SatI D.K σ D.cl Wx Fz H en (ev D.cs D.cf a en) R' := h
  cases hr : ev D.cs D.cf a en with
  | stuck => rw [hr] at h; exact h
  | exc c p e1 => rw [hr] at h; exact h
  | ok w e1 =>
    rw [hr] at h
    obtain ⟨ds, hd, h⟩ := h
    intro Fz1 H1 v s q
    obtain ⟨Fz2, s2, r⟩ := q.freeze s
    generalize w.val = d at hd r
    cases r with
    | lst a1 a2 a3 =>
      cases hd
      exact ⟨_, rfl, .inl ⟨⟨_, .inl a1⟩, h Fz2 H1 _ s2 (itok_list a1 a2 a3)⟩⟩
    | tup a1 a3 =>
      cases hd
      exact ⟨_, rfl, .inr ⟨⟨_, a1⟩, h Fz2 H1 _ s2 (itok_tup a1 a3)⟩⟩
    | _ => cases hd
/-- the arguments of range, enumerate, zip -/
theorem SatI.args {k : Ik} {r : Rs W} {Q1 : List V → Hp → Prop} {R' : It → Hp → Prop} {cl : Nat → Value} {K : PySem.W.Frag} (h : SatI K σ cl Wx Fz H en (r.bind fun x e1 => match x with
    | .own ds => .of (opIt k ds) e1
    | _ => .stuck) R')
    (q : ∀ (ds zs : List PyData) (w : W) (Fz1 : Addr → Prop) (H1 : Hp) (xs : List V), VRs K Fz1 H1 ds xs → opIt k ds = some w → seqOf w.val = some zs → (∀ J, ItOk K Fz1 H1 J zs → R' J H1) → Q1 xs H1) : SatA K σ cl Wx Fz H en r Q1 := by
  cases r with
  | stuck => exact h
  | exc c p e1 => exact h
  | ok w e1 =>
    cases w with
    | v d => exact h
    | scr d => exact h
    | own ds =>
      intro Fz1 H1 xs s r
      have h : SatI K σ cl Wx Fz H en (.of (opIt k ds) e1) R' := h
      cases ho : opIt k ds with
      | none => rw [ho] at h; exact h.elim
      | some w =>
        rw [ho] at h
        obtain ⟨zs, hz, h⟩ := h
        exact q ds zs w Fz1 H1 xs r ho hz fun J j => h Fz1 H1 J s j
theorem si_it {k : Ik} {es : E} (O : D.Ok) (hs : SA D es) : SI D (.it k es) := by
  intro X N sc Wx C tg x hx σ Fz H en R' R h
  simp only [ev] at h
  cases k with
  | range3 => cases tg <;> exact (Bool.false_ne_true hx).elim
  | range1 =>
    cases x <;> first | (cases tg <;> exact (Bool.false_ne_true hx).elim) | skip
    rename_i fe xs kws pos
    match fe, xs, kws, hx with
    | .Name x p, [y], [], hx =>
      have h' : (decide (x = "range") && glB sc x && chkA D.G N es sc [y]) = true := by cases tg <;> exact hx
      simp only [Bool.and_eq_true, decide_eq_true_eq] at h'
      obtain ⟨⟨rfl, h1⟩, h2⟩ := h'
      have hst := chkA_star h2
      rw [List.all_cons, Bool.and_eq_true] at hst
      refine JI.of (pi_range1 (gl_of C.sc h1) (Dt.blt O C (by decide +kernel)) (JA.pa X _) (star_of hst.1)) ?_
      refine hs X N sc Wx C _ h2 σ Fz H en _ R (h.args fun ds zs w Fz1 H1 xs r ho hz k => ?_)
      have ho : opR1 ds = some w := ho
      unfold opR1 at ho
      split at ho
      · obtain ⟨c, rfl⟩ := ite_some ho
        cases hz
        cases r with
        | cons r1 r2 =>
          cases r2
          cases r1
          unfold inRg at c
          rw [Bool.and_eq_true, decide_eq_true_eq, decide_eq_true_eq] at c
          exact ⟨_, rfl, c.1, c.2, k _ itok_range⟩
      · cases ho
    | .Name _ _, [], _, hx => cases tg <;> exact (Bool.false_ne_true hx).elim
  | range2 =>
    cases x <;> first | (cases tg <;> exact (Bool.false_ne_true hx).elim) | skip
    rename_i fe xs kws pos
    match fe, xs, kws, hx with
    | .Name x p, [y, z], [], hx =>
      have h' : (decide (x = "range") && glB sc x && chkA D.G N es sc [y, z]) = true := by cases tg <;> exact hx
      simp only [Bool.and_eq_true, decide_eq_true_eq] at h'
      obtain ⟨⟨rfl, h1⟩, h2⟩ := h'
      have hst := chkA_star h2
      rw [List.all_cons, Bool.and_eq_true, List.all_cons, Bool.and_eq_true] at hst
      have s2 : starEach [z] X.env = [(false, eval z X.env)] := star_of hst.2.1
      refine JI.of (pi_range2 (gl_of C.sc h1) (Dt.blt O C (by decide +kernel)) (JA.pa X _) (by rw [star_of hst.1, s2]) s2) ?_
      refine hs X N sc Wx C _ h2 σ Fz H en _ R (h.args fun ds zs w Fz1 H1 xs r ho hz k => ?_)
      have ho : opR2 ds = some w := ho
      unfold opR2 at ho
      split at ho
      · obtain ⟨⟨c, c'⟩, rfl⟩ := ite_some ho
        cases hz
        cases r with
        | cons r1 r2 =>
          cases r2 with
          | cons r2 r3 =>
            cases r3
            cases r1
            cases r2
            unfold inRg at c c'
            rw [Bool.and_eq_true, decide_eq_true_eq, decide_eq_true_eq] at c c'
            exact ⟨_, _, rfl, ⟨c.1, c.2, c'.1, c'.2⟩, k _ itok_range⟩
      · cases ho
    | .Name _ _, [], _, hx => cases tg <;> exact (Bool.false_ne_true hx).elim
  | enum =>
    cases x <;> first | (cases tg <;> exact (Bool.false_ne_true hx).elim) | skip
    cases tg <;> first | exact (Bool.false_ne_true hx).elim | skip
    rename_i fe xs kws pos elts kk tpos
    match fe, xs, kws, hx with
    | .Name x p, [y], [], hx =>
      have h' : (decide (x = "enumerate") && glB sc x && chkA D.G N es sc [y]) = true := hx
      simp only [Bool.and_eq_true, decide_eq_true_eq] at h'
      obtain ⟨⟨rfl, h1⟩, h2⟩ := h'
      have hst := chkA_star h2
      rw [List.all_cons, Bool.and_eq_true] at hst
      have hp := pi_enumX (p := p) (pos := pos) (tpos := tpos) (elts := elts) (kk := kk) (gl_of C.sc h1) (Dt.blt O C (by decide +kernel)) (JA.pa X [y]) (star_of hst.1)
      rw [C.K] at hp
      refine JI.of hp ?_
      refine hs X N sc Wx C _ h2 σ Fz H en _ R (h.args fun ds zs w Fz1 H1 xs r ho hz k => ?_)
      have ho : opEn ds = some w := ho
      unfold opEn at ho
      split at ho
      · cases ho
        cases hz
        cases r with
        | cons r1 r2 =>
          cases r2
          cases r1 with
          | lst a1 a2 a3 => exact ⟨_, _, rfl, .inl ⟨.inl a1, k _ (itok_enum a1 a2 a3)⟩⟩
      · cases ho
        cases hz
        cases r with
        | cons r1 r2 =>
          cases r2
          cases r1 with
          | tup a1 a3 => exact ⟨_, _, rfl, .inr ⟨a1, k _ (itok_enumT a1 a3)⟩⟩
      · cases ho
    | .Name _ _, [], _, hx => exact (Bool.false_ne_true hx).elim
  | zip =>
    cases x <;> first | (cases tg <;> exact (Bool.false_ne_true hx).elim) | skip
    cases tg <;> first | exact (Bool.false_ne_true hx).elim | skip
    rename_i fe xs kws pos elts kk tpos
    match fe, xs, kws, hx with
    | .Name x p, [y, z], [], hx =>
      have h' : (decide (x = "zip") && glB sc x && chkA D.G N es sc [y, z]) = true := hx
      simp only [Bool.and_eq_true, decide_eq_true_eq] at h'
      obtain ⟨⟨rfl, h1⟩, h2⟩ := h'
      have hst := chkA_star h2
      rw [List.all_cons, Bool.and_eq_true] at hst
      have hp := RZ.pi_zipA (p := p) (pos := pos) (tpos := tpos) (elts := elts) (kk := kk) (gl_of C.sc h1) (Dt.blt O C (by decide +kernel)) (JA.pa X [y, z]) (star_of hst.1) (stars_of hst.2)
      rw [C.K] at hp
      refine JI.of hp ?_
      refine hs X N sc Wx C _ h2 σ Fz H en _ R (h.args fun ds zs w Fz1 H1 xs r ho hz k => ?_)
      have ho : opZp ds = some w := ho
      unfold opZp at ho
      split at ho
      · cases ho
        cases hz
        cases r with
        | cons r1 r2 =>
          cases r2 with
          | cons r2 r3 =>
            cases r3
            cases r1 with
            | lst a1 a2 a3 =>
              cases r2 with
              | lst b1 b2 b3 => exact ⟨_, _, _, _, rfl, .inl ⟨.inl a1, .inl b1, k _ (itok_zip a1 a2 a3 b1 b2 b3)⟩⟩
      · cases ho
        cases hz
        cases r with
        | cons r1 r2 =>
          cases r2 with
          | cons r2 r3 =>
            cases r3
            cases r1 with
            | tup a1 a3 =>
              cases r2 with
              | tup b1 b3 => exact ⟨_, _, _, _, rfl, .inr ⟨a1, b1, k _ (itok_zipT a1 a3 b1 b3)⟩⟩
      · cases ho
    | .Name _ _, [], _, hx => exact (Bool.false_ne_true hx).elim
theorem chkI_set {G : Gm} {e : E} {tg x : Expr} (h : chkI G N e sc tg x = true) : notSet x = true := by
  cases x <;> first | rfl | skip
  cases e <;> first | (cases tg <;> exact (Bool.false_ne_true h).elim) | skip
  all_goals (rename_i k es; cases k <;> cases tg <;> exact (Bool.false_ne_true h).elim)
theorem folded_of {x : Expr} {env : Env} (h : notSet x = true) : ∀ y, foldedSetIterable x env y = pure y := by
  intro y
  cases x <;> first | rfl | cases h
end
end TD

set_option maxHeartbeats 1000000
namespace TD
open PySem PySem.Spec PyProof.Rows L2

/-! ### slots wiped and put back -/
theorem wipeE_length (e : En) : ∀ vs : List Nat, (wipeE e vs).length = e.length
  | [] => rfl
  | i :: vs => by show ((wipeE e vs).set i none).length = _; rw [List.length_set, wipeE_length e vs]
theorem wipeE_in {e : En} {j : Nat} {w : W} : ∀ {vs : List Nat}, (wipeE e vs)[j]? = some (some w) → j ∉ vs ∧ e[j]? = some (some w)
  | [], h => ⟨by simp, h⟩
  | i :: vs, h => by
    have h : ((wipeE e vs).set i none)[j]? = some (some w) := h
    rcases set_cases h with ⟨_, q⟩ | ⟨n, q⟩
    · cases q
    · obtain ⟨h1, h2⟩ := wipeE_in q
      exact ⟨by rw [List.mem_cons, not_or]; exact ⟨n, h1⟩, h2⟩
theorem wipe_notin {σ : SS} {j : Nat} : ∀ {vs : List Nat}, j ∉ vs → (wipe σ vs)[j]? = σ[j]?
  | [], _ => rfl
  | i :: vs, h => by
    rw [List.mem_cons, not_or] at h
    show ((wipe σ vs).set i none)[j]? = _
    rw [List.getElem?_set_ne (Ne.symm h.1), wipe_notin h.2]
theorem wipe_get {σ : SS} {j : Nat} : ∀ {vs : List Nat}, j ∈ vs → (wipe σ vs)[j]? = if j < σ.length then some none else none
  | [], h => by cases h
  | i :: vs, h => by
    show ((wipe σ vs).set i none)[j]? = _
    by_cases e : j = i
    · subst e
      rw [List.getElem?_set, if_pos rfl, wipe_length]
    · rw [List.getElem?_set_ne (Ne.symm e)]
      rcases List.mem_cons.mp h with h | h
      · exact absurd h e
      · exact wipe_get h
theorem wipe_congr {σ τ : SS} {vs : List Nat} (hl : τ.length = σ.length) (h : ∀ j, j ∉ vs → τ[j]? = (wipe σ vs)[j]?) : wipe τ vs = wipe σ vs := by
  apply List.ext_getElem?
  intro j
  by_cases hj : j ∈ vs
  · rw [wipe_get hj, wipe_get hj, hl]
  · rw [wipe_notin hj, h j hj]
theorem backE_length (e e' : En) : ∀ vs : List Nat, (backE e e' vs).length = e'.length
  | [] => rfl
  | i :: vs => by
    unfold backE
    split
    · rw [List.length_set, backE_length e e' vs]
    · exact backE_length e e' vs
theorem backE_get {e e' : En} (hl : e'.length = e.length) {j : Nat} : ∀ vs : List Nat, (backE e e' vs)[j]? = if j ∈ vs then e[j]? else e'[j]?
  | [] => by simp [backE]
  | i :: vs => by
    unfold backE
    have ih := backE_get hl (j := j) vs
    split
    · rename_i o ho
      by_cases hj : j = i
      · subst hj
        have hlt : j < e.length := (List.getElem?_eq_some_iff.mp ho).1
        rw [List.getElem?_set, if_pos rfl, if_pos (by rw [backE_length, hl]; exact hlt), if_pos List.mem_cons_self, ho]
      · rw [List.getElem?_set_ne (Ne.symm hj), ih]
        simp [hj]
    · rename_i ho
      rw [ih]
      by_cases hj : j = i
      · subst hj
        rw [if_pos List.mem_cons_self, ho]
        have hlt : e.length ≤ j := List.getElem?_eq_none_iff.mp ho
        split
        · rfl
        · exact List.getElem?_eq_none_iff.mpr (by rw [hl]; exact hlt)
      · simp [hj]
section
variable {K : PySem.W.Frag} {Fz Fz1 : Addr → Prop} {H H1 : Hp} {en e1 e2 : En} {σ τ : SS} {vs : List Nat}
theorem Er.wipe (R : Er K Fz H en σ) : ∀ vs : List Nat, Er K Fz H (wipeE en vs) (L2.wipe σ vs)
  | [] => R
  | i :: vs => (R.wipe vs).upd (List.length_set ..) (fun j n => List.getElem?_set_ne (Ne.symm n)) trivial
theorem ow_wipe {a : Addr} (h : Ow (wipeE en vs) (L2.wipe σ vs) a) : ∃ i ds, i ∉ vs ∧ en[i]? = some (some (W.own ds)) ∧ σ[i]? = some (some (V.ref a)) := by
  obtain ⟨i, ds, h1, h2⟩ := h
  obtain ⟨g1, g2⟩ := wipeE_in h1
  rw [wipe_notin g1] at h2
  exact ⟨i, ds, g1, g2, h2⟩
/-- behind a comprehension: its own names as they were -/
theorem nx_back (R : Er K Fz H e1 σ) (s : Nx K (L2.wipe σ vs) Fz H (wipeE e1 vs) Fz1 H1 e2) : Nx K σ Fz H e1 Fz1 H1 (backE e1 e2 vs) := by
  have Rw := R.wipe vs
  have hl : e2.length = e1.length := by rw [s.er.len, ← Rw.len, wipeE_length]
  have g : ∀ j, (backE e1 e2 vs)[j]? = if j ∈ vs then e1[j]? else e2[j]? := fun j => backE_get hl vs
  have w1 : ∀ a, Ow (wipeE e1 vs) (L2.wipe σ vs) a → Ow e1 σ a := fun a h => by
    obtain ⟨i, ds, _, g2, g3⟩ := ow_wipe h
    exact ⟨i, ds, g2, g3⟩
  have o2 : ∀ j ds a, j ∉ vs → e2[j]? = some (some (W.own ds)) → σ[j]? = some (some (V.ref a)) → ∃ i es, i ∉ vs ∧ e1[i]? = some (some (W.own es)) ∧ σ[i]? = some (some (V.ref a)) := fun j ds a hj q1 q2 =>
    ow_wipe (s.own a ⟨j, ds, q1, by rw [wipe_notin hj]; exact q2⟩)
  have nO : ∀ i es a, i ∈ vs → e1[i]? = some (some (W.own es)) → σ[i]? = some (some (V.ref a)) → ¬ Ow (wipeE e1 vs) (L2.wipe σ vs) a := fun i es a hi q1 q2 z => by
    obtain ⟨j, fs, g1, g2, g3⟩ := ow_wipe z
    exact g1 (R.ap j i fs es a g2 q1 g3 q2 ▸ hi)
  refine ⟨⟨s.stp.fz, fun a o q n => s.stp.keep a o q fun z => n (w1 a z), fun a q => ?_, s.stp.trk⟩, ⟨?_, fun j d q => ?_, fun j ds q => ?_, fun j ds q => ?_, fun j l ds es a q1 q2 q3 q4 => ?_, s.er.ft⟩, fun a ⟨j, ds, q1, q2⟩ => ?_⟩
  · rcases s.stp.nfz a q with z | z | z
    · exact .inl z
    · exact .inr (.inl z)
    · exact .inr (.inr (w1 a z))
  · rw [backE_length, hl, R.len]
  · rw [g] at q
    split at q
    · obtain ⟨x, g1, g2⟩ := R.vs j d q
      exact ⟨x, g1, g2.mono s.stp Rw.ol⟩
    · rename_i hj
      obtain ⟨x, g1, g2⟩ := s.er.vs j d q
      rw [wipe_notin hj] at g1
      exact ⟨x, g1, g2⟩
  · rw [g] at q
    split at q
    · rename_i hj
      obtain ⟨a, xs, g1, g2, g3, g4⟩ := R.os j ds q
      have n := nO j ds a hj q g1
      refine ⟨a, xs, g1, s.stp.keep a _ g2 n, fun z => ?_, g4.mono s.stp Rw.ol⟩
      rcases s.stp.nfz a z with z | z | z
      · exact g3 z
      · rw [g2] at z; cases z
      · exact n z
    · rename_i hj
      obtain ⟨a, xs, g1, g2, g3, g4⟩ := s.er.os j ds q
      rw [wipe_notin hj] at g1
      exact ⟨a, xs, g1, g2, g3, g4⟩
  · rw [g] at q
    split at q
    · obtain ⟨a, xs, g1, g2, g4⟩ := R.ss j ds q
      exact ⟨a, xs, g1, sr_mono s.stp.keep Rw.ol g2, g4.mono s.stp Rw.ol⟩
    · rename_i hj
      obtain ⟨a, xs, g1, g2, g4⟩ := s.er.ss j ds q
      rw [wipe_notin hj] at g1
      exact ⟨a, xs, g1, g2, g4⟩
  · rw [g] at q1 q2
    split at q1
    · rename_i hj
      split at q2
      · exact R.ap j l ds es a q1 q2 q3 q4
      · rename_i hl'
        obtain ⟨i, fs, k1, k2, k3⟩ := o2 l es a hl' q2 q4
        exact absurd (R.ap i j fs ds a k2 q1 k3 q3) fun e => k1 (e ▸ hj)
    · rename_i hj
      split at q2
      · rename_i hl'
        obtain ⟨i, fs, k1, k2, k3⟩ := o2 j ds a hj q1 q3
        exact absurd (R.ap i l fs es a k2 q2 k3 q4) fun e => k1 (e ▸ hl')
      · rename_i hl'
        exact s.er.ap j l ds es a q1 q2 (by rw [wipe_notin hj]; exact q3) (by rw [wipe_notin hl']; exact q4)
  · rw [g] at q1
    split at q1
    · exact ⟨j, ds, q1, q2⟩
    · rename_i hj
      obtain ⟨i, es, _, k2, k3⟩ := o2 j ds a hj q1 q2
      exact ⟨i, es, k2, k3⟩
/-- a list that is nobody's yet is changed -/
theorem vr_bump {p : Addr} {xs : List V} {o : HO} (hp : H p = some (.lst xs)) (hf : ¬ Fz p) {d : PyData} {x : V} (h : VR K Fz H d x) : VR K Fz (upd H p o) d x :=
  VR.mono' (O := fun a => a = p) (fun _ q => q) (fun a u q n => by rw [upd_ne n]; exact q) (fun a q => by rw [q]; exact ⟨hf, xs, hp⟩) d x h
theorem vrs_bump {p : Addr} {xs : List V} {o : HO} (hp : H p = some (.lst xs)) (hf : ¬ Fz p) {ds : List PyData} {ys : List V} (h : VRs K Fz H ds ys) : VRs K Fz (upd H p o) ds ys :=
  VRs.mono' (O := fun a => a = p) (fun _ q => q) (fun a u q n => by rw [upd_ne n]; exact q) (fun a q => by rw [q]; exact ⟨hf, xs, hp⟩) ds ys h
theorem nx_bump {p : Addr} {xs : List V} {o : HO} (s : Nx K σ Fz H en Fz1 H1 e1) (h0 : H p = none) (hp : H1 p = some (.lst xs)) (hf : ¬ Fz1 p) (ho : ¬ Ow e1 σ p) : Nx K σ Fz H en Fz1 (upd H1 p o) e1 := by
  refine ⟨⟨s.stp.fz, fun a u q n => by rw [upd_ne (ne_of_none q h0)]; exact s.stp.keep a u q n, s.stp.nfz, fun a q => ?_⟩, ⟨s.er.len, fun i d q => ?_, fun i ds q => ?_, fun i ds q => ?_, s.er.ap, fun a q => ?_⟩, s.own⟩
  · by_cases e : a = p
    · rw [e]; exact h0
    · rw [upd_ne e] at q
      exact s.stp.trk a q
  · obtain ⟨x, g1, g2⟩ := s.er.vs i d q
    exact ⟨x, g1, vr_bump hp hf g2⟩
  · obtain ⟨a, ys, g1, g2, g3, g4⟩ := s.er.os i ds q
    have ne : a ≠ p := fun e => ho (e ▸ ⟨i, ds, q, g1⟩)
    exact ⟨a, ys, g1, by rw [upd_ne ne]; exact g2, g3, vrs_bump hp hf g4⟩
  · obtain ⟨a, ys, g1, g2, g4⟩ := s.er.ss i ds q
    refine ⟨a, ys, g1, ?_, vrs_bump hp hf g4⟩
    exact sr_mono (O := fun a => a = p) (Fz := Fz1) (fun a u q n => by rw [upd_ne n]; exact q) (fun a q => by rw [q]; exact ⟨hf, xs, hp⟩) g2
  · by_cases e : a = p
    · rw [e, upd_same]; exact fun z => nomatch z
    · rw [upd_ne e]; exact s.er.ft a q
end

/-! ### a comprehension -/
def JC (X : Cx) (ifs : List Expr) : TT := fun σ H Q => ∀ (pins : List (Addr × Obj)) (s : Shared), Inv X pins σ H s →
    wpAny (model X.prog X.w) X.A (forIn ifs true fun c r => if r = true then do let ok ← isTrue c X.env (eval c X.env); pure (ForInStep.yield ok) else pure (ForInStep.yield r)) (TP X pins σ Q) X.xe s
theorem JC.pts (X : Cx) (ifs : List Expr) : PTs X ifs (JC X ifs) := ⟨fun pins s _ _ _ I h => h pins s I⟩
theorem JC.of {X : Cx} {ifs : List Expr} {t : TT} {σ : SS} {H : Hp} {Q : Bool → Hp → Prop} (h : PTs X ifs t) (q : t σ H Q) : JC X ifs σ H Q := fun pins s I => h.run pins s σ H Q I q
def SC (D : Dt) (e : E) : Prop := ∀ (X : Cx) (N : List Str) (sc : Scope) (Wx : WX), D.C X N sc Wx → ∀ ifs, chkC D.G N e sc ifs = true → ∀ (σ : SS) (Fz : Addr → Prop) (H : Hp) (en : En) (Q : Bool → Hp → Prop), Er D.K Fz H en σ →
  Sat D.K σ D.cl Wx Fz H en (ev D.cs D.cf e en) (fun v H1 => ∃ b, v = .bl b ∧ Q b H1) → JC X ifs σ H Q
section
variable {D : Dt}
theorem sc_one {a : E} (ha : ST D a) : SC D (.one a) := by
  intro X N sc Wx C ifs hx σ Fz H en Q R h
  match ifs, hx with
  | [x], hx =>
    have hx' : (tstB a && chkE D.G N a sc x) = true := hx
    rw [Bool.and_eq_true] at hx'
    exact JC.of (pts_one (JT.pt X x)) (ha X N sc Wx C hx'.1 x hx'.2 σ Fz H en Q R h)
  | [], hx => exact (Bool.false_ne_true hx).elim
  | _ :: _ :: _, hx => exact (Bool.false_ne_true hx).elim
theorem sc_bl {b : Bool} : SC D (.bl b) := by
  intro X N sc Wx C ifs hx σ Fz H en Q R h
  match ifs, hx with
  | [], hx =>
    have e : b = true := hx
    subst e
    obtain ⟨k, e, q⟩ := h.okv R (.bl true)
    cases e
    exact JC.of pts_nil q
  | _ :: _, hx => exact (Bool.false_ne_true hx).elim
/-- the blocks of a comprehension -/
theorem Dt.blk {X : Cx} {N : List Str} {sc scope : Scope} {Wx : WX} (C : D.C X N sc Wx) (s : Shared) (H : Hp) (Cc : Addr) (cl : List (Str × Addr)) (fp : List Addr) :
    D.C (X.blk s H scope (compEnvC scope cl Cc X.env) fp) N (relS scope sc) (fun _ _ _ _ => False) where
  prog := C.prog
  w := C.w
  K := C.K
  mg := C.mg
  base := C.base
  N := C.N
  sc := by rw [← C.sc]; rfl
  nd := C.nd
  room := C.room
  calm := C.calm
  tk := takes0
theorem loopC_cons {f : PyData → En → Rs (Option PyData)} {d : PyData} {ds : List PyData} {e e2 : En} {r : List PyData} (h : loopC f (d :: ds) e = .ok r e2) :
    ∃ o e1 r', f d e = .ok o e1 ∧ loopC f ds e1 = .ok r' e2 ∧ r = (match o with | some x => x :: r' | none => r') := by
  have h : (match f d e with
    | .ok o e1 => match loopC f ds e1 with
      | .ok r e2 => Rs.ok (match o with | some x => x :: r | none => r) e2
      | r => r
    | _ => .stuck) = .ok r e2 := h
  cases hf : f d e with
  | stuck => rw [hf] at h; cases h
  | exc c p e1 => rw [hf] at h; cases h
  | ok o e1 =>
    rw [hf] at h
    simp only at h
    cases hl : loopC f ds e1 with
    | stuck => rw [hl] at h; cases h
    | exc c p e1 => rw [hl] at h; cases h
    | ok r' e3 =>
      rw [hl] at h
      cases h
      exact ⟨o, e1, r', rfl, hl, rfl⟩
theorem drop_cons {α : Type} {l : List α} {i : Nat} {a : α} (h : l[i]? = some a) : l.drop i = a :: l.drop (i + 1) := by
  obtain ⟨hi, e⟩ := List.getElem?_eq_some_iff.mp h
  rw [← e]
  exact List.drop_eq_getElem_cons hi
end
end TD

set_option maxHeartbeats 1000000
namespace TD
open PySem PySem.Spec PyProof.Rows L2
/-- one turn of a comprehension -/
def fC (cs : List PyData) (cf : CF) (vs : List Nat) (t : T) (c el : E) : PyData → En → Rs (Option PyData) := fun d e2 => match asT false t d e2 with
  | some e3 => (ev cs cf c e3).bind fun k e4 => match k.val with
    | .bool true => (ev cs cf el e4).bind fun y e5 => .ok (some y.val) (wipeE e5 vs)
    | .bool false => .ok none (wipeE e4 vs)
    | _ => .stuck
  | none => .stuck
theorem ev_comp (cs : List PyData) (cf : CF) (vs : List Nat) (t : T) (src c el : E) (e : En) : ev cs cf (.comp vs t src c el) e = (ev cs cf src e).bind fun x e1 => match seqOf x.val with
    | some ds => match loopC (fC cs cf vs t c el) ds (wipeE e1 vs) with
      | .ok r e2 => if r.length ≤ sizeLine then .ok (.own r) (backE e1 e2 vs) else .stuck
      | _ => .stuck
    | none => .stuck := rfl
section
variable {D : Dt}
/-- a turn: what it leaves -/
theorem turn_comp {vs : List Nat} {t : T} {c el : E} (hc : SC D c) (hel : SE D el) {X : Cx} {N : List Str} {sc scope : Scope} {Wx : WX} (C : D.C X N sc Wx) {tg elt : Expr} {ifs : List Expr}
    (k1 : (slotsT t).all (fun i => vs.contains i) = true) (k2 : chkT N (relS scope sc) (fnS scope) t tg = true) (k3 : chkC D.G N c (relS scope sc) ifs = true) (k4 : chkE D.G N el (relS scope sc) elt = true)
    {σ : SS} {Fz1 Fz : Addr → Prop} {H1 H : Hp} {ew e e3 : En} {d : PyData} {v : V} {o : Option PyData} {p : Addr} {acc : List V} {rs : List PyData} {Nn : Hp → Prop}
    (s : Nx D.K (wipe σ vs) Fz1 H1 ew Fz H e) (R1 : Er D.K Fz1 H1 ew (wipe σ vs)) (r : VR D.K Fz H d v) (hf : fC D.cs D.cf vs t c el d e = .ok o e3) (h0 : H1 p = none) (hp : H p = some (.lst acc)) (hfz : ¬ Fz p) (hrs : VRs D.K Fz H rs acc)
    (hsz : o.isSome = true → rs.length < sizeLine)
    (q : ∀ (Fz' : Addr → Prop) (H' : Hp) (acc' : List V) (rs' : List PyData), Nx D.K (wipe σ vs) Fz1 H1 ew Fz' H' e3 → H' p = some (.lst acc') → ¬ Fz' p → VRs D.K Fz' H' rs' acc' → rs' = rs ++ o.toList → Nn H') :
    ∀ (s : Shared) (H0 : Hp) (Cc : Addr) (cl : List (Str × Addr)) (fp : List Addr), JG (X.blk s H0 scope (compEnvC scope cl Cc X.env) fp) tg v (wipe σ vs) H fun σ2 H2 => wipe σ2 vs = wipe σ vs ∧
      ∀ (s : Shared) (H0 : Hp) (Cc : Addr) (cl : List (Str × Addr)) (fp : List Addr), JC (X.blk s H0 scope (compEnvC scope cl Cc X.env) fp) ifs σ2 H2 fun b H3 =>
        if b = true then ∀ (s : Shared) (H0 : Hp) (Cc : Addr) (cl : List (Str × Addr)) (fp : List Addr), JE (X.blk s H0 scope (compEnvC scope cl Cc X.env) fp) elt σ2 H3 fun y H4 => ∃ acc, H4 p = some (.lst acc) ∧ acc.length < sizeLine ∧ Nn (upd H4 p (.lst (acc ++ [y]))) else Nn H3 := by
  intro sh H0 Cc cl fp
  have hp1 : ∀ (a : Addr), Ow e (wipe σ vs) a → a ≠ p := fun a z w => by
    subst w
    obtain ⟨xs, z⟩ := (s.own a z).trk R1
    rw [h0] at z
    cases z
  unfold fC at hf
  cases ha : asT false t d e with
  | none => rw [ha] at hf; cases hf
  | some e' =>
    rw [ha] at hf
    simp only at hf
    refine sg (Dt.blk C sh H0 Cc cl fp) (fun x hx => hx) t tg k2 d v (wipe σ vs) Fz H e e' _ s.er r ha fun σ' O => ⟨?_, fun sh H0 Cc cl fp => ?_⟩
    · refine wipe_congr (O.len.trans (wipe_length σ vs)) fun j hj => O.out j fun hm => hj ?_
      have := List.all_eq_true.mp k1 j hm
      simpa using this
    have hw : wipe σ' vs = wipe σ vs := wipe_congr (O.len.trans (wipe_length σ vs)) fun j hj => O.out j fun hm => hj (by
      have := List.all_eq_true.mp k1 j hm
      simpa using this)
    have np : ∀ {Fz2 : Addr → Prop} {H2 : Hp} {e2 : En}, Nx D.K σ' Fz H e' Fz2 H2 e2 → H2 p = some (.lst acc) ∧ ¬ Fz2 p ∧ VRs D.K Fz2 H2 rs acc ∧ Nx D.K (wipe σ vs) Fz1 H1 ew Fz2 H2 (wipeE e2 vs) := by
      intro Fz2 H2 e2 s2
      have no : ¬ Ow e' σ' p := fun z => hp1 p (O.own p z) rfl
      refine ⟨s2.stp.keep p _ hp no, fun z => ?_, hrs.mono s2.stp O.er.ol, s.stp.trans s2.stp (fun a z => .inl (s.own a (O.own a z))), ?_, fun a z => ?_⟩
      · rcases s2.stp.nfz p z with z | z | z
        · exact hfz z
        · rw [hp] at z; cases z
        · exact no z
      · rw [← hw]
        exact s2.er.wipe vs
      · rw [← hw] at z
        obtain ⟨i, ds, g1, g2, g3⟩ := ow_wipe z
        exact s.own a (O.own a (s2.own a ⟨i, ds, g2, g3⟩))
    cases hcv : ev D.cs D.cf c e' with
    | stuck => rw [hcv] at hf; cases hf
    | exc c' p' e4 => rw [hcv] at hf; cases hf
    | ok k e4 =>
      rw [hcv] at hf
      have hf : (match k.val with
        | .bool true => (ev D.cs D.cf el e4).bind fun y e5 => Rs.ok (some y.val) (wipeE e5 vs)
        | .bool false => .ok none (wipeE e4 vs)
        | _ => .stuck) = .ok o e3 := hf
      refine hc _ N _ _ (Dt.blk C sh H0 Cc cl fp) ifs k3 σ' Fz H e' _ O.er ?_
      rw [hcv]
      intro Fz2 H2 x s2 wr
      obtain ⟨Fz3, s3, vr⟩ := wr.freeze s2
      split at hf
      · rename_i hk
        rw [hk] at vr
        cases vr
        refine ⟨true, rfl, ?_⟩
        rw [if_pos rfl]
        intro sh H0 Cc cl fp
        refine hel _ N _ _ (Dt.blk C sh H0 Cc cl fp) elt k4 σ' Fz3 H2 e4 _ s3.er ?_
        cases hev : ev D.cs D.cf el e4 with
        | stuck => rw [hev] at hf; cases hf
        | exc c' p' e5 => rw [hev] at hf; cases hf
        | ok y e5 =>
          rw [hev] at hf
          have hf : Rs.ok (some y.val) (wipeE e5 vs) = .ok o e3 := hf
          cases hf
          intro Fz4 H4 z s4 wr4
          obtain ⟨Fz5, s5, vr5⟩ := wr4.freeze s4
          obtain ⟨g1, g2, g3, g4⟩ := np (s3.trans s5)
          have gl := g3.length
          have hz := hsz rfl
          refine ⟨acc, g1, by omega, ?_⟩
          have no : ¬ Ow (wipeE e5 vs) (wipe σ vs) p := fun z => by
            obtain ⟨xs, z⟩ := (g4.own p z).trk R1
            rw [h0] at z
            cases z
          exact q Fz5 _ _ _ (nx_bump g4 h0 g1 g2 no) upd_same g2 ((vrs_bump g1 g2 g3).append (.cons (vr_bump g1 g2 vr5) .nil)) rfl
      · rename_i hk
        rw [hk] at vr
        cases vr
        cases hf
        refine ⟨false, rfl, ?_⟩
        rw [if_neg Bool.false_ne_true]
        obtain ⟨g1, g2, g3, g4⟩ := np s3
        exact q Fz3 _ _ _ g4 g1 g2 g3 (List.append_nil rs).symm
      · cases hf
theorem loopC_len {f : PyData → En → Rs (Option PyData)} : ∀ {ds : List PyData} {e e2 : En} {r : List PyData}, loopC f ds e = .ok r e2 → True := fun _ => trivial
theorem chk_comp {G : Gm} {N : List Str} {sc : Scope} {vs : List Nat} {t : T} {src c el : E} {x : Expr} (h : chkE G N (.comp vs t src c el) sc x = true) :
    ∃ elt tg iter ifs scope pos, x = .ListComp elt [⟨tg, iter, ifs, 0⟩] scope pos ∧ blkC N sc scope (ownL N vs) = true ∧ (slotsT t).all (fun i => vs.contains i) = true ∧ chkT N (relS scope sc) (fnS scope) t tg = true ∧
      chkI G N src sc tg iter = true ∧ chkC G N c (relS scope sc) ifs = true ∧ chkE G N el (relS scope sc) elt = true := by
  cases x <;> first | exact (Bool.false_ne_true h).elim | skip
  rename_i elt gens scope pos
  match gens, h with
  | [], h => exact (Bool.false_ne_true h).elim
  | ⟨_, _, _, _⟩ :: _ :: _, h => exact (Bool.false_ne_true h).elim
  | [⟨tg, iter, ifs, asy⟩], h =>
    have h' : (decide (asy = 0) && blkC N sc scope (ownL N vs) && (slotsT t).all (fun i => vs.contains i) && chkT N (relS scope sc) (fnS scope) t tg &&
      chkI G N src sc tg iter && chkC G N c (relS scope sc) ifs && chkE G N el (relS scope sc) elt) = true := h
    simp only [Bool.and_eq_true, decide_eq_true_eq] at h'
    obtain ⟨⟨⟨⟨⟨⟨rfl, h1⟩, h2⟩, h3⟩, h4⟩, h5⟩, h6⟩ := h'
    exact ⟨elt, tg, iter, ifs, scope, pos, rfl, h1, h2, h3, h4, h5, h6⟩
/-- the reading of a comprehension -/
theorem lc_read {vs : List Nat} {t : T} {src c el : E} (hi : SI D src) (hc : SC D c) (hel : SE D el) {X : Cx} {N : List Str} {sc scope : Scope} {Wx : WX} (C : D.C X N sc Wx) {tg iter elt : Expr} {ifs : List Expr}
    (k1 : (slotsT t).all (fun i => vs.contains i) = true) (k2 : chkT N (relS scope sc) (fnS scope) t tg = true) (k3 : chkC D.G N c (relS scope sc) ifs = true) (k4 : chkE D.G N el (relS scope sc) elt = true) (k5 : chkI D.G N src sc tg iter = true)
    {σ : SS} {Fz : Addr → Prop} {H : Hp} {en : En} {Q : VK} (R : Er D.K Fz H en σ) (h : Sat D.K σ D.cl Wx Fz H en (ev D.cs D.cf (.comp vs t src c el) en) Q) :
    tLc (JI X tg iter) (fun v σ H Q => ∀ (s : Shared) (H0 : Hp) (Cc : Addr) (cl : List (Str × Addr)) (fp : List Addr), JG (X.blk s H0 scope (compEnvC scope cl Cc X.env) fp) tg v σ H Q)
      (fun σ H Q => ∀ (s : Shared) (H0 : Hp) (Cc : Addr) (cl : List (Str × Addr)) (fp : List Addr), JC (X.blk s H0 scope (compEnvC scope cl Cc X.env) fp) ifs σ H Q)
      (fun σ H Q => ∀ (s : Shared) (H0 : Hp) (Cc : Addr) (cl : List (Str × Addr)) (fp : List Addr), JE (X.blk s H0 scope (compEnvC scope cl Cc X.env) fp) elt σ H Q) ((ownL N vs).map (·.2)) σ H Q := by
  have hv : (ownL N vs).map (·.2) = vs := by
    unfold ownL
    rw [List.map_map]
    exact List.map_id vs
  rw [hv]
  rw [ev_comp] at h
  refine hi X N sc Wx C tg iter k5 σ Fz H en _ R ?_
  cases hs : ev D.cs D.cf src en with
  | stuck => rw [hs] at h; exact h
  | exc c' p e1 => rw [hs] at h; exact h
  | ok x e1 =>
    rw [hs] at h
    cases hd : seqOf x.val with
    | none =>
      have h : Sat D.K σ D.cl Wx Fz H en (match seqOf x.val with
        | some ds => match loopC (fC D.cs D.cf vs t c el) ds (wipeE e1 vs) with
          | .ok r e2 => if r.length ≤ sizeLine then .ok (.own r) (backE e1 e2 vs) else .stuck
          | _ => .stuck
        | none => .stuck) Q := h
      rw [hd] at h
      exact h.elim
    | some ds =>
      have h : Sat D.K σ D.cl Wx Fz H en (match seqOf x.val with
        | some ds => match loopC (fC D.cs D.cf vs t c el) ds (wipeE e1 vs) with
          | .ok r e2 => if r.length ≤ sizeLine then .ok (.own r) (backE e1 e2 vs) else .stuck
          | _ => .stuck
        | none => .stuck) Q := h
      rw [hd] at h
      refine ⟨ds, hd, fun Fz1 H1 J s j Da hDa => ?_⟩
      have h : Sat D.K σ D.cl Wx Fz1 H1 e1 (match loopC (fC D.cs D.cf vs t c el) ds (wipeE e1 vs) with
          | .ok r e2 => if r.length ≤ sizeLine then .ok (.own r) (backE e1 e2 vs) else .stuck
          | _ => .stuck) Q := Sat.shift s h
      cases hl : loopC (fC D.cs D.cf vs t c el) ds (wipeE e1 vs) with
      | stuck => rw [hl] at h; exact h.elim
      | exc c' p e2 => rw [hl] at h; exact h.elim
      | ok r e2 =>
        rw [hl] at h
        simp only at h
        by_cases hz : r.length ≤ sizeLine
        · rw [if_pos hz] at h
          have R1 := s.er
          have Rw := R1.wipe vs
          have noD : ∀ {e' : En} {Fz' : Addr → Prop} {H' : Hp}, Nx D.K (wipe σ vs) Fz1 H1 (wipeE e1 vs) Fz' H' e' → ¬ Ow e' (wipe σ vs) Da := fun n z => by
            obtain ⟨xs, z⟩ := (n.own Da z).trk Rw
            rw [hDa] at z
            cases z
          refine ⟨fun i m H' => m = ds.length - i ∧ i ≤ ds.length ∧ ∃ (Fz' : Addr → Prop) (e' : En) (acc : List V) (rs r' : List PyData), Nx D.K (wipe σ vs) Fz1 H1 (wipeE e1 vs) Fz' H' e' ∧ H' Da = some (.lst acc) ∧ ¬ Fz' Da ∧ VRs D.K Fz' H' rs acc ∧
            loopC (fC D.cs D.cf vs t c el) (ds.drop i) e' = .ok r' e2 ∧ rs ++ r' = r, ⟨ds.length, rfl, Nat.zero_le _, Fz1, wipeE e1 vs, [], [], r, Nx.new Rw hDa, upd_same, fun z => Rw.ft Da z hDa, .nil, hl, rfl⟩, ?_⟩
          rintro i m H' ⟨rfl, hi', Fz', e', acc, rs, r', n, g1, g2, g3, g4, g5⟩
          have jj := j Fz' H' (fun d v q => VR.mono n.stp Rw.ol q) i
          by_cases hlt : i < ds.length
          · refine .inr ⟨(jj.1 hlt).1, fun H'' => ∃ (Fz' : Addr → Prop) (e' : En) (acc : List V) (rs r' : List PyData), Nx D.K (wipe σ vs) Fz1 H1 (wipeE e1 vs) Fz' H'' e' ∧ H'' Da = some (.lst acc) ∧ ¬ Fz' Da ∧ VRs D.K Fz' H'' rs acc ∧
              loopC (fC D.cs D.cf vs t c el) (ds.drop (i + 1)) e' = .ok r' e2 ∧ rs ++ r' = r, fun H'' hN => ⟨ds.length - (i + 1), by omega, rfl, hlt, hN⟩, fun y H'' hy => ?_⟩
            obtain ⟨d, hd', n1, vr⟩ := (jj.1 hlt).2 y H'' hy e' (wipe σ vs) n.er
            rw [drop_cons hd'] at g4
            obtain ⟨o, e3, r'', q1, q2, q3⟩ := loopC_cons g4
            have n2 := n.trans n1
            have no := noD n
            refine turn_comp hc hel C k1 k2 k3 k4 n2 Rw vr q1 hDa (n1.stp.keep Da _ g1 no) (fun z => ?_) (n1.vrs n.er g3) (fun ho => ?_) fun Fz3 H3 acc' rs' n3 p1 p2 p3 p4 => ?_
            · rcases n1.stp.nfz Da z with z | z | z
              · exact g2 z
              · rw [g1] at z; cases z
              · exact no z
            · cases o with
              | none => cases ho
              | some x =>
                have e : r = rs ++ (x :: r'') := by rw [← g5, q3]
                rw [e, List.length_append, List.length_cons] at hz
                omega
            · refine ⟨Fz3, e3, acc', rs', r'', n3, p1, p2, p3, q2, ?_⟩
              rw [p4, ← g5, q3]
              cases o with
              | none => show (rs ++ []) ++ r'' = rs ++ r''; rw [List.append_nil]
              | some x => show (rs ++ [x]) ++ r'' = rs ++ (x :: r''); rw [List.append_assoc]; rfl
          · have ei : i = ds.length := by omega
            subst ei
            rw [List.drop_length] at g4
            have g4 : Rs.ok ([] : List PyData) e' = .ok r' e2 := g4
            cases g4
            rw [List.append_nil] at g5
            subst g5
            refine .inl ⟨jj.2 (Nat.le_refl _), h Fz' H' _ (nx_back R1 n) ⟨Da, acc, rfl, g1, g2, fun z => ?_, .inl hDa, g3⟩⟩
            have nb := nx_back R1 n
            obtain ⟨xs, z⟩ := (nb.own Da z).trk R1
            rw [hDa] at z
            cases z
        · rw [if_neg hz] at h
          exact h.elim
theorem se_comp {vs : List Nat} {t : T} {src c el : E} (hi : SI D src) (hc : SC D c) (hel : SE D el) : SE D (.comp vs t src c el) := by
  intro X N sc Wx C x hx σ Fz H en Q R h
  obtain ⟨elt, tg, iter, ifs, scope, pos, rfl, h1, h2, h3, h4, h5, h6⟩ := chk_comp hx
  refine JE.of (pe_lc (own := ownL N vs) C.calm C.nd (JI.pi X tg iter) (by rw [C.N, C.sc]; exact blkOk_by h1)
    (fun s H0 Cc cl fp => ⟨fun pins s' σ H v u Q I r q => q s H0 Cc cl fp pins s' u I r⟩) (fun s H0 Cc cl fp => ⟨fun pins s' σ H Q I q => q s H0 Cc cl fp pins s' I⟩)
    (fun s H0 Cc cl fp => ⟨fun pins s' σ H Q I q => q s H0 Cc cl fp pins s' I⟩) (folded_of (chkI_set h4))) (lc_read hi hc hel C h2 h3 h5 h6 h4 R h)
end
/-! ### comprehensions with two generators -/
theorem loopF_cons {f : PyData → En → Rs (List PyData)} {d : PyData} {ds : List PyData} {e e2 : En} {r : List PyData} (h : loopF f (d :: ds) e = .ok r e2) :
    ∃ o e1 r', f d e = .ok o e1 ∧ loopF f ds e1 = .ok r' e2 ∧ r = o ++ r' := by
  have h : (match f d e with
    | .ok o e1 => match loopF f ds e1 with
      | .ok r e2 => Rs.ok (o ++ r) e2
      | r => r
    | _ => .stuck) = .ok r e2 := h
  cases hf : f d e with
  | stuck => rw [hf] at h; cases h
  | exc c p e1 => rw [hf] at h; cases h
  | ok o e1 =>
    rw [hf] at h
    simp only at h
    cases hl : loopF f ds e1 with
    | stuck => rw [hl] at h; cases h
    | exc c p e1 => rw [hl] at h; cases h
    | ok r' e3 =>
      rw [hl] at h
      cases h
      exact ⟨o, e1, r', rfl, hl, rfl⟩
def fO (cs : List PyData) (cf : CF) (vs : List Nat) (t : T) (c : E) (vs1 : List Nat) (t1 : T) (src1 c1 el : E) : PyData → En → Rs (List PyData) := fun d e2 => match asT false t d e2 with
  | some e3 => (ev cs cf c e3).bind fun k e4 => match k.val with
    | .bool true => (ev cs cf src1 e4).bind fun y e5 => match seqOf y.val with
      | some ds1 => match loopC (fC cs cf vs1 t1 c1 el) ds1 (wipeE e5 vs1) with
        | .ok r e6 => .ok r (wipeE e6 vs)
        | _ => .stuck
      | none => .stuck
    | .bool false => .ok [] (wipeE e4 vs)
    | _ => .stuck
  | none => .stuck
theorem ev_comp2 (cs : List PyData) (cf : CF) (vs : List Nat) (t : T) (src c : E) (vs1 : List Nat) (t1 : T) (src1 c1 el : E) (e : En) : ev cs cf (.comp2 vs t src c vs1 t1 src1 c1 el) e = (ev cs cf src e).bind fun x e1 => match seqOf x.val with
    | some ds => match loopF (fO cs cf vs t c vs1 t1 src1 c1 el) ds (wipeE e1 vs) with
      | .ok r e2 => if r.length ≤ sizeLine then .ok (.own r) (backE e1 e2 vs) else .stuck
      | _ => .stuck
    | none => .stuck := rfl
theorem er_bump {K : PySem.W.Frag} {Fz1 : Addr → Prop} {H1 : Hp} {e1 : En} {σ : SS} {p : Addr} {xs : List V} {o : HO} (s : Er K Fz1 H1 e1 σ) (hp : H1 p = some (.lst xs)) (hf : ¬ Fz1 p) (ho : ¬ Ow e1 σ p) : Er K Fz1 (upd H1 p o) e1 σ := by
  refine ⟨s.len, fun i d q => ?_, fun i ds q => ?_, fun i ds q => ?_, s.ap, fun a q => ?_⟩
  · obtain ⟨x, g1, g2⟩ := s.vs i d q
    exact ⟨x, g1, vr_bump hp hf g2⟩
  · obtain ⟨a, ys, g1, g2, g3, g4⟩ := s.os i ds q
    have ne : a ≠ p := fun e => ho (e ▸ ⟨i, ds, q, g1⟩)
    exact ⟨a, ys, g1, by rw [upd_ne ne]; exact g2, g3, vrs_bump hp hf g4⟩
  · obtain ⟨a, ys, g1, g2, g4⟩ := s.ss i ds q
    refine ⟨a, ys, g1, ?_, vrs_bump hp hf g4⟩
    exact sr_mono (O := fun a => a = p) (Fz := Fz1) (fun a u q n => by rw [upd_ne n]; exact q) (fun a q => by rw [q]; exact ⟨hf, xs, hp⟩) g2
  · by_cases e : a = p
    · rw [e, upd_same]; exact fun z => nomatch z
    · rw [upd_ne e]; exact s.ft a q
/-- within the inner loop: the slots there, the outer ones, the list that grows -/
structure In2 (K : PySem.W.Frag) (σ τ : SS) (vs : List Nat) (Fz1 : Addr → Prop) (H1 : Hp) (ew : En) (p : Addr) (Fz : Addr → Prop) (H : Hp) (e : En) (acc : List V) (rs : List PyData) : Prop where
  er : Er K Fz H e τ
  nx : Nx K σ Fz1 H1 ew Fz H (wipeE e vs)
  sub : ∀ a, Ow e τ a → Ow ew σ a
  hp : H p = some (.lst acc)
  nf : ¬ Fz p
  rs : VRs K Fz H rs acc
/-- a step from within a turn -/
theorem In2.np {K : PySem.W.Frag} {σ τ σ3 : SS} {vs vs1 : List Nat} {Fz1 : Addr → Prop} {H1 : Hp} {ew : En} {p : Addr} {Fz : Addr → Prop} {H : Hp} {e e' : En} {acc : List V} {rs : List PyData}
    (I : In2 K σ τ vs Fz1 H1 ew p Fz H e acc rs) (R1 : Er K Fz1 H1 ew σ) (h0 : H1 p = none) (hw : wipe τ vs = σ) (hw3 : wipe σ3 vs1 = τ) (R : Er K Fz H e' σ3) (O : ∀ a, Ow e' σ3 a → Ow e τ a)
    {Fz2 : Addr → Prop} {H2 : Hp} {e2 : En} (s2 : Nx K σ3 Fz H e' Fz2 H2 e2) : In2 K σ τ vs Fz1 H1 ew p Fz2 H2 (wipeE e2 vs1) acc rs ∧ ∀ d v, VR K Fz H d v → VR K Fz2 H2 d v := by
  have hp1 : ∀ a, Ow ew σ a → a ≠ p := fun a z w => by
    subst w
    obtain ⟨i, ds, g1, g2⟩ := z
    obtain ⟨a', xs, q1, q2, _⟩ := R1.os i ds g1
    rw [g2] at q1
    cases q1
    rw [h0] at q2
    cases q2
  have no : ¬ Ow e' σ3 p := fun z => hp1 p (I.sub p (O p z)) rfl
  have er2 : Er K Fz2 H2 (wipeE e2 vs1) τ := hw3 ▸ s2.er.wipe vs1
  have sub2 : ∀ a, Ow (wipeE e2 vs1) τ a → Ow ew σ a := fun a z => by
    rw [← hw3] at z
    obtain ⟨i, ds, g1, g2, g3⟩ := ow_wipe z
    exact I.sub a (O a (s2.own a ⟨i, ds, g2, g3⟩))
  refine ⟨⟨er2, ⟨I.nx.stp.trans s2.stp (fun a z => .inl (I.sub a (O a z))), hw ▸ er2.wipe vs, fun a z => ?_⟩, sub2, s2.stp.keep p _ I.hp no, fun z => ?_, s2.vrs R I.rs⟩, fun d v h => s2.vr R h⟩
  · rw [← hw] at z
    obtain ⟨i, ds, g1, g2, g3⟩ := ow_wipe z
    exact sub2 a ⟨i, ds, g2, g3⟩
  · rcases s2.stp.nfz p z with z | z | z
    · exact I.nf z
    · rw [I.hp] at z; cases z
    · exact no z
section
variable {D : Dt}
/-- a turn of the inner loop -/
theorem turn_comp2 {vs vs1 : List Nat} {t : T} {c el : E} (hc : SC D c) (hel : SE D el) {X : Cx} {N : List Str} {sc scope : Scope} {Wx : WX} (C : D.C X N sc Wx) {tg elt : Expr} {ifs : List Expr}
    (k1 : (slotsT t).all (fun i => vs1.contains i) = true) (k2 : chkT N (relS scope sc) (fnS scope) t tg = true) (k3 : chkC D.G N c (relS scope sc) ifs = true) (k4 : chkE D.G N el (relS scope sc) elt = true)
    {σ τ0 : SS} {Fz1 Fz : Addr → Prop} {H1 H : Hp} {ew e e3 : En} {d : PyData} {v : V} {o : Option PyData} {p : Addr} {acc : List V} {rs : List PyData} {Nn : Hp → Prop}
    (I : In2 D.K σ (wipe τ0 vs1) vs Fz1 H1 ew p Fz H e acc rs) (R1 : Er D.K Fz1 H1 ew σ) (hw : wipe (wipe τ0 vs1) vs = σ) (r : VR D.K Fz H d v) (hf : fC D.cs D.cf vs1 t c el d e = .ok o e3) (h0 : H1 p = none)
    (hsz : o.isSome = true → rs.length < sizeLine)
    (q : ∀ (Fz' : Addr → Prop) (H' : Hp) (acc' : List V) (rs' : List PyData), In2 D.K σ (wipe τ0 vs1) vs Fz1 H1 ew p Fz' H' e3 acc' rs' → (∀ d v, VR D.K Fz H d v → VR D.K Fz' H' d v) → rs' = rs ++ o.toList → Nn H') :
    ∀ (s : Shared) (H0 : Hp) (Cc : Addr) (cl : List (Str × Addr)) (fp : List Addr), JG (X.blk s H0 scope (compEnvC scope cl Cc X.env) fp) tg v (wipe τ0 vs1) H fun σ2 H2 => wipe σ2 vs1 = wipe τ0 vs1 ∧
      ∀ (s : Shared) (H0 : Hp) (Cc : Addr) (cl : List (Str × Addr)) (fp : List Addr), JC (X.blk s H0 scope (compEnvC scope cl Cc X.env) fp) ifs σ2 H2 fun b H3 =>
        if b = true then ∀ (s : Shared) (H0 : Hp) (Cc : Addr) (cl : List (Str × Addr)) (fp : List Addr), JE (X.blk s H0 scope (compEnvC scope cl Cc X.env) fp) elt σ2 H3 fun y H4 => ∃ acc, H4 p = some (.lst acc) ∧ acc.length < sizeLine ∧ Nn (upd H4 p (.lst (acc ++ [y]))) else Nn H3 := by
  intro sh H0 Cc cl fp
  unfold fC at hf
  cases ha : asT false t d e with
  | none => rw [ha] at hf; cases hf
  | some e' =>
    rw [ha] at hf
    simp only at hf
    refine sg (Dt.blk C sh H0 Cc cl fp) (fun x hx => hx) t tg k2 d v (wipe τ0 vs1) Fz H e e' _ I.er r ha fun σ' O => ?_
    have hw3 : wipe σ' vs1 = wipe τ0 vs1 := wipe_congr (O.len.trans (wipe_length τ0 vs1)) fun j hj => O.out j fun hm => hj (by
      have := List.all_eq_true.mp k1 j hm
      simpa using this)
    refine ⟨hw3, fun sh H0 Cc cl fp => ?_⟩
    cases hcv : ev D.cs D.cf c e' with
    | stuck => rw [hcv] at hf; cases hf
    | exc c' p' e4 => rw [hcv] at hf; cases hf
    | ok k e4 =>
      rw [hcv] at hf
      have hf : (match k.val with
        | .bool true => (ev D.cs D.cf el e4).bind fun y e5 => Rs.ok (some y.val) (wipeE e5 vs1)
        | .bool false => .ok none (wipeE e4 vs1)
        | _ => .stuck) = .ok o e3 := hf
      refine hc _ N _ _ (Dt.blk C sh H0 Cc cl fp) ifs k3 σ' Fz H e' _ O.er ?_
      rw [hcv]
      intro Fz2 H2 x s2 wr
      obtain ⟨Fz3, s3, vr⟩ := wr.freeze s2
      split at hf
      · rename_i hk
        rw [hk] at vr
        cases vr
        refine ⟨true, rfl, ?_⟩
        rw [if_pos rfl]
        intro sh H0 Cc cl fp
        refine hel _ N _ _ (Dt.blk C sh H0 Cc cl fp) elt k4 σ' Fz3 H2 e4 _ s3.er ?_
        cases hev : ev D.cs D.cf el e4 with
        | stuck => rw [hev] at hf; cases hf
        | exc c' p' e5 => rw [hev] at hf; cases hf
        | ok y e5 =>
          rw [hev] at hf
          have hf : Rs.ok (some y.val) (wipeE e5 vs1) = .ok o e3 := hf
          cases hf
          intro Fz4 H4 z s4 wr4
          obtain ⟨Fz5, s5, vr5⟩ := wr4.freeze s4
          obtain ⟨g, mo⟩ := I.np R1 h0 hw hw3 O.er O.own (s3.trans s5)
          have gl := g.rs.length
          have hz := hsz rfl
          refine ⟨acc, g.hp, by omega, ?_⟩
          have hp1 : ¬ Ow ew σ p := fun ⟨i, ds, z1, z2⟩ => by
            obtain ⟨a', xs, q1, q2, _⟩ := R1.os i ds z1
            rw [z2] at q1
            cases q1
            rw [h0] at q2
            cases q2
          have no1 : ¬ Ow (wipeE e5 vs1) (wipe τ0 vs1) p := fun z => hp1 (g.sub p z)
          have no2 : ¬ Ow (wipeE (wipeE e5 vs1) vs) σ p := fun z => hp1 (g.nx.own p z)
          exact q Fz5 _ _ _ ⟨er_bump g.er g.hp g.nf no1, nx_bump g.nx h0 g.hp g.nf no2, g.sub, upd_same, g.nf, (vrs_bump g.hp g.nf g.rs).append (.cons (vr_bump g.hp g.nf vr5) .nil)⟩ (fun d v h => vr_bump g.hp g.nf (mo d v h)) rfl
      · rename_i hk
        rw [hk] at vr
        cases vr
        cases hf
        refine ⟨false, rfl, ?_⟩
        rw [if_neg Bool.false_ne_true]
        obtain ⟨g, mo⟩ := I.np R1 h0 hw hw3 O.er O.own s3
        exact q Fz3 _ _ _ g mo (List.append_nil rs).symm
      · cases hf
theorem wipe_wipe {τ : SS} {vs vs1 : List Nat} (h : ∀ j ∈ vs1, j ∈ vs) : wipe (wipe τ vs1) vs = wipe τ vs := by
  apply List.ext_getElem?
  intro j
  by_cases hj : j ∈ vs
  · rw [wipe_get hj, wipe_get hj, wipe_length]
  · rw [wipe_notin hj, wipe_notin hj, wipe_notin (fun z => hj (h j z))]
theorem wipeE_wipeE {e : En} {vs vs1 : List Nat} (h : ∀ j ∈ vs1, j ∈ vs) : wipeE (wipeE e vs1) vs = wipeE e vs := by
  have hn : ∀ (e : En) (vs : List Nat) (j : Nat), j ∉ vs → (wipeE e vs)[j]? = e[j]? := by
    intro e vs j
    induction vs with
    | nil => intro _; rfl
    | cons i vs ih =>
      intro h
      rw [List.mem_cons, not_or] at h
      show ((wipeE e vs).set i none)[j]? = _
      rw [List.getElem?_set_ne (Ne.symm h.1), ih h.2]
  have hi : ∀ (e : En) (vs : List Nat) (j : Nat), j ∈ vs → (wipeE e vs)[j]? = if j < e.length then some none else none := by
    intro e vs j
    induction vs with
    | nil => intro h; cases h
    | cons i vs ih =>
      intro h
      show ((wipeE e vs).set i none)[j]? = _
      by_cases ei : j = i
      · subst ei
        rw [List.getElem?_set, if_pos rfl, wipeE_length]
      · rw [List.getElem?_set_ne (Ne.symm ei)]
        rcases List.mem_cons.mp h with h | h
        · exact absurd h ei
        · exact ih h
  apply List.ext_getElem?
  intro j
  by_cases hj : j ∈ vs
  · rw [hi _ _ j hj, hi _ _ j hj, wipeE_length]
  · rw [hn _ _ j hj, hn _ _ j hj, hn _ _ j (fun z => hj (h j z))]
/-- a turn of the outer loop -/
theorem turn_out {vs vs1 : List Nat} {t t1 : T} {c src1 c1 el : E} (hc : SC D c) (hi1 : SI D src1) (hc1 : SC D c1) (hel : SE D el) {X : Cx} {N : List Str} {sc scope : Scope} {Wx : WX} (C : D.C X N sc Wx) {tg tg1 iter1 elt : Expr} {ifs ifs1 : List Expr}
    (k1 : (slotsT t).all (fun i => vs.contains i) = true) (k2 : chkT N (relS scope sc) (fnS scope) t tg = true) (k3 : chkC D.G N c (relS scope sc) ifs = true)
    (l0 : vs1.all (fun i => vs.contains i) = true) (l1 : (slotsT t1).all (fun i => vs1.contains i) = true) (l2 : chkT N (relS scope sc) (fnS scope) t1 tg1 = true) (l3 : chkC D.G N c1 (relS scope sc) ifs1 = true) (l4 : chkE D.G N el (relS scope sc) elt = true) (l5 : chkI D.G N src1 (relS scope sc) tg1 iter1 = true)
    {σ : SS} {Fz1 Fz : Addr → Prop} {H1 H : Hp} {ew e e3 : En} {d : PyData} {v : V} {o : List PyData} {p : Addr} {acc : List V} {rs : List PyData} {Nn : Hp → Prop}
    (s : Nx D.K (wipe σ vs) Fz1 H1 ew Fz H e) (R1 : Er D.K Fz1 H1 ew (wipe σ vs)) (r : VR D.K Fz H d v) (hf : fO D.cs D.cf vs t c vs1 t1 src1 c1 el d e = .ok o e3) (h0 : H1 p = none) (hp : H p = some (.lst acc)) (hfz : ¬ Fz p) (hrs : VRs D.K Fz H rs acc)
    (hsz : rs.length + o.length ≤ sizeLine)
    (q : ∀ (Fz' : Addr → Prop) (H' : Hp) (acc' : List V) (rs' : List PyData), Nx D.K (wipe σ vs) Fz1 H1 ew Fz' H' e3 → H' p = some (.lst acc') → ¬ Fz' p → VRs D.K Fz' H' rs' acc' → rs' = rs ++ o → Nn H') :
    ∀ (s : Shared) (H0 : Hp) (Cc : Addr) (cl : List (Str × Addr)) (fp : List Addr), JG (X.blk s H0 scope (compEnvC scope cl Cc X.env) fp) tg v (wipe σ vs) H fun σ2 H2 => wipe σ2 vs = wipe σ vs ∧
      ∀ (s : Shared) (H0 : Hp) (Cc : Addr) (cl : List (Str × Addr)) (fp : List Addr), JC (X.blk s H0 scope (compEnvC scope cl Cc X.env) fp) ifs σ2 H2 fun b H3 =>
        if b = true then ∀ (s : Shared) (H0 : Hp) (Cc : Addr) (cl : List (Str × Addr)) (fp : List Addr), JI (X.blk s H0 scope (compEnvC scope cl Cc X.env) fp) tg1 iter1 σ2 H3 fun J1 H4 => ∃ W1 : Nat → Nat → Hp → Prop, (∃ m, W1 0 m H4) ∧ ∀ j k H, W1 j k H →
          (J1.stop j H ∧ Nn H) ∨ (J1.go j H ∧ ∃ Nx1 : Hp → Prop, (∀ H', Nx1 H' → ∃ k', k' < k ∧ W1 (j + 1) k' H') ∧ ∀ x H', J1.yld j H x H' →
            ∀ (s : Shared) (H0 : Hp) (Cc : Addr) (cl : List (Str × Addr)) (fp : List Addr), JG (X.blk s H0 scope (compEnvC scope cl Cc X.env) fp) tg1 x (wipe σ2 vs1) H' fun σ3 H5 => wipe σ3 vs1 = wipe σ2 vs1 ∧
              ∀ (s : Shared) (H0 : Hp) (Cc : Addr) (cl : List (Str × Addr)) (fp : List Addr), JC (X.blk s H0 scope (compEnvC scope cl Cc X.env) fp) ifs1 σ3 H5 fun b H6 =>
                if b = true then ∀ (s : Shared) (H0 : Hp) (Cc : Addr) (cl : List (Str × Addr)) (fp : List Addr), JE (X.blk s H0 scope (compEnvC scope cl Cc X.env) fp) elt σ3 H6 fun y H7 => ∃ acc, H7 p = some (.lst acc) ∧ acc.length < sizeLine ∧ Nx1 (upd H7 p (.lst (acc ++ [y]))) else Nx1 H6)
        else Nn H3 := by
  intro sh H0 Cc cl fp
  have hsub : ∀ j ∈ vs1, j ∈ vs := fun j hj => by
    have := List.all_eq_true.mp l0 j hj
    simpa using this
  have hp1 : ∀ (a : Addr), Ow e (wipe σ vs) a → a ≠ p := fun a z w => by
    subst w
    obtain ⟨xs, z⟩ := (s.own a z).trk R1
    rw [h0] at z
    cases z
  unfold fO at hf
  cases ha : asT false t d e with
  | none => rw [ha] at hf; cases hf
  | some e' =>
    rw [ha] at hf
    simp only at hf
    refine sg (Dt.blk C sh H0 Cc cl fp) (fun x hx => hx) t tg k2 d v (wipe σ vs) Fz H e e' _ s.er r ha fun σ' O => ?_
    have hw : wipe σ' vs = wipe σ vs := wipe_congr (O.len.trans (wipe_length σ vs)) fun j hj => O.out j fun hm => hj (by
      have := List.all_eq_true.mp k1 j hm
      simpa using this)
    refine ⟨hw, fun sh H0 Cc cl fp => ?_⟩
    -- what a step from behind the store tells of the outside
    have np : ∀ {Fz2 : Addr → Prop} {H2 : Hp} {e2 : En}, Nx D.K σ' Fz H e' Fz2 H2 e2 → In2 D.K (wipe σ vs) (wipe σ' vs1) vs Fz1 H1 ew p Fz2 H2 (wipeE e2 vs1) acc rs := by
      intro Fz2 H2 e2 s2
      have no : ¬ Ow e' σ' p := fun z => hp1 p (O.own p z) rfl
      have er2 := s2.er.wipe vs1
      have ew2 : wipe (wipe σ' vs1) vs = wipe σ vs := (wipe_wipe hsub).trans hw
      have sub2 : ∀ a, Ow (wipeE e2 vs1) (wipe σ' vs1) a → Ow ew (wipe σ vs) a := fun a z => by
        obtain ⟨i, ds, g1, g2, g3⟩ := ow_wipe z
        exact s.own a (O.own a (s2.own a ⟨i, ds, g2, g3⟩))
      refine ⟨er2, ⟨s.stp.trans s2.stp (fun a z => .inl (s.own a (O.own a z))), ew2 ▸ er2.wipe vs, fun a z => ?_⟩, sub2, s2.stp.keep p _ hp no, fun z => ?_, hrs.mono s2.stp O.er.ol⟩
      · rw [← ew2] at z
        obtain ⟨i, ds, g1, g2, g3⟩ := ow_wipe z
        exact sub2 a ⟨i, ds, g2, g3⟩
      · rcases s2.stp.nfz p z with z | z | z
        · exact hfz z
        · rw [hp] at z; cases z
        · exact no z
    cases hcv : ev D.cs D.cf c e' with
    | stuck => rw [hcv] at hf; cases hf
    | exc c' p' e4 => rw [hcv] at hf; cases hf
    | ok k e4 =>
      rw [hcv] at hf
      have hf : (match k.val with
        | .bool true => (ev D.cs D.cf src1 e4).bind fun y e5 => match seqOf y.val with
          | some ds1 => match loopC (fC D.cs D.cf vs1 t1 c1 el) ds1 (wipeE e5 vs1) with
            | .ok r e6 => Rs.ok r (wipeE e6 vs)
            | _ => .stuck
          | none => .stuck
        | .bool false => .ok [] (wipeE e4 vs)
        | _ => .stuck) = .ok o e3 := hf
      refine hc _ N _ _ (Dt.blk C sh H0 Cc cl fp) ifs k3 σ' Fz H e' _ O.er ?_
      rw [hcv]
      intro Fz2 H2 x s2 wr
      obtain ⟨Fz3, s3, vr⟩ := wr.freeze s2
      split at hf
      · rename_i hk
        rw [hk] at vr
        cases vr
        refine ⟨true, rfl, ?_⟩
        rw [if_pos rfl]
        intro sh H0 Cc cl fp
        refine hi1 _ N _ _ (Dt.blk C sh H0 Cc cl fp) tg1 iter1 l5 σ' Fz3 H2 e4 _ s3.er ?_
        cases hev : ev D.cs D.cf src1 e4 with
        | stuck => rw [hev] at hf; cases hf
        | exc c' p' e5 => rw [hev] at hf; cases hf
        | ok y e5 =>
          rw [hev] at hf
          have hf : (match seqOf y.val with
            | some ds1 => match loopC (fC D.cs D.cf vs1 t1 c1 el) ds1 (wipeE e5 vs1) with
              | .ok r e6 => Rs.ok r (wipeE e6 vs)
              | _ => .stuck
            | none => .stuck) = .ok o e3 := hf
          cases hd : seqOf y.val with
          | none => rw [hd] at hf; cases hf
          | some ds1 =>
            rw [hd] at hf
            simp only at hf
            cases hl : loopC (fC D.cs D.cf vs1 t1 c1 el) ds1 (wipeE e5 vs1) with
            | stuck => rw [hl] at hf; cases hf
            | exc c' p' e6 => rw [hl] at hf; cases hf
            | ok r1 e6 =>
              rw [hl] at hf
              cases hf
              refine ⟨ds1, hd, fun Fz4 H4 J1 s4 j1 => ?_⟩
              have I0 := np (s3.trans s4)
              refine ⟨fun i m H' => m = ds1.length - i ∧ i ≤ ds1.length ∧ ∃ (Fz' : Addr → Prop) (ei : En) (acc' : List V) (rs' r' : List PyData), In2 D.K (wipe σ vs) (wipe σ' vs1) vs Fz1 H1 ew p Fz' H' ei acc' rs' ∧ (∀ d v, VR D.K Fz4 H4 d v → VR D.K Fz' H' d v) ∧
                loopC (fC D.cs D.cf vs1 t1 c1 el) (ds1.drop i) ei = .ok r' e6 ∧ rs' ++ r' = rs ++ o, ⟨ds1.length, rfl, Nat.zero_le _, Fz4, wipeE e5 vs1, acc, rs, o, I0, fun d v h => h, hl, rfl⟩, ?_⟩
              rintro i m H' ⟨rfl, hi', Fz', ei, acc', rs', r', I, mo, g4, g5⟩
              have jj := j1 Fz' H' mo i
              by_cases hlt : i < ds1.length
              · refine .inr ⟨(jj.1 hlt).1, fun H'' => ∃ (Fz' : Addr → Prop) (ei : En) (acc' : List V) (rs' r' : List PyData), In2 D.K (wipe σ vs) (wipe σ' vs1) vs Fz1 H1 ew p Fz' H'' ei acc' rs' ∧ (∀ d v, VR D.K Fz4 H4 d v → VR D.K Fz' H'' d v) ∧
                  loopC (fC D.cs D.cf vs1 t1 c1 el) (ds1.drop (i + 1)) ei = .ok r' e6 ∧ rs' ++ r' = rs ++ o, fun H'' hN => ⟨ds1.length - (i + 1), by omega, rfl, hlt, hN⟩, fun y1 H'' hy => ?_⟩
                obtain ⟨d1, hd1, n1, vr1⟩ := (jj.1 hlt).2 y1 H'' hy ei (wipe σ' vs1) I.er
                rw [drop_cons hd1] at g4
                obtain ⟨o1, e7, r'', q1, q2, q3⟩ := loopC_cons g4
                have ew2 : wipe (wipe σ' vs1) vs = wipe σ vs := (wipe_wipe hsub).trans hw
                have hww : wipe (wipe σ' vs1) vs1 = wipe σ' vs1 := wipe_wipe (fun j h => h)
                obtain ⟨I1, mo1⟩ := I.np R1 h0 ew2 hww I.er (fun a z => z) n1
                have eww : wipeE ei vs1 = ei ∨ True := .inr trivial
                have I2 : In2 D.K (wipe σ vs) (wipe σ' vs1) vs Fz1 H1 ew p Fz' H'' ei acc' rs' := by
                  have no : ¬ Ow ei (wipe σ' vs1) p := fun z => by
                    obtain ⟨i, ds, g1, g2⟩ := I.sub p z
                    obtain ⟨a', xs, q1, q2, _⟩ := R1.os i ds g1
                    rw [g2] at q1
                    cases q1
                    rw [h0] at q2
                    cases q2
                  refine ⟨n1.er, ⟨I.nx.stp.trans n1.stp (fun a z => .inl (I.sub a z)), ew2 ▸ n1.er.wipe vs, fun a z => ?_⟩, fun a z => I.sub a (n1.own a z), n1.stp.keep p _ I.hp no, fun z => ?_, n1.vrs I.er I.rs⟩
                  · rw [← ew2] at z
                    obtain ⟨i, ds, g1, g2, g3⟩ := ow_wipe z
                    exact I.sub a (n1.own a ⟨i, ds, g2, g3⟩)
                  · rcases n1.stp.nfz p z with z | z | z
                    · exact I.nf z
                    · rw [I.hp] at z; cases z
                    · exact no z
                refine turn_comp2 hc1 hel C l1 l2 l3 l4 I2 R1 ew2 vr1 q1 h0 (fun ho => ?_) fun Fz3 H3 acc3 rs3 I3 mo3 p4 => ?_
                · cases o1 with
                  | none => cases ho
                  | some x =>
                    have e : rs ++ o = rs' ++ (x :: r'') := by rw [← g5, q3]
                    have e' := congrArg List.length e
                    rw [List.length_append, List.length_append, List.length_cons] at e'
                    omega
                · refine ⟨Fz3, e7, acc3, rs3, r'', I3, fun d v h => mo3 d v (n1.vr I.er (mo d v h)), q2, ?_⟩
                  rw [p4, ← g5, q3]
                  cases o1 with
                  | none => show (rs' ++ []) ++ r'' = rs' ++ r''; rw [List.append_nil]
                  | some x => show (rs' ++ [x]) ++ r'' = rs' ++ (x :: r''); rw [List.append_assoc]; rfl
              · have ei' : i = ds1.length := by omega
                subst ei'
                rw [List.drop_length] at g4
                have g4 : Rs.ok ([] : List PyData) ei = .ok r' e6 := g4
                cases g4
                rw [List.append_nil] at g5
                exact .inl ⟨jj.2 (Nat.le_refl _), q Fz' H' acc' rs' I.nx I.hp I.nf I.rs g5⟩
      · rename_i hk
        rw [hk] at vr
        cases vr
        cases hf
        refine ⟨false, rfl, ?_⟩
        rw [if_neg Bool.false_ne_true]
        have I := np s3
        have n : Nx D.K (wipe σ vs) Fz1 H1 ew Fz3 H2 (wipeE e4 vs) := by
          have := I.nx
          rw [wipeE_wipeE hsub] at this
          exact this
        exact q Fz3 _ _ _ n I.hp I.nf I.rs (List.append_nil rs).symm
      · cases hf
theorem chk_comp2 {G : Gm} {N : List Str} {sc : Scope} {vs vs1 : List Nat} {t t1 : T} {src c src1 c1 el : E} {x : Expr} (h : chkE G N (.comp2 vs t src c vs1 t1 src1 c1 el) sc x = true) :
    ∃ elt tg iter ifs tg1 iter1 ifs1 scope pos, x = .ListComp elt [⟨tg, iter, ifs, 0⟩, ⟨tg1, iter1, ifs1, 0⟩] scope pos ∧ blkC N sc scope (ownL N vs) = true ∧ (slotsT t).all (fun i => vs.contains i) = true ∧ chkT N (relS scope sc) (fnS scope) t tg = true ∧
      chkI G N src sc tg iter = true ∧ chkC G N c (relS scope sc) ifs = true ∧ (vs1.all (fun i => vs.contains i) = true ∧ (slotsT t1).all (fun i => vs1.contains i) = true ∧ chkT N (relS scope sc) (fnS scope) t1 tg1 = true ∧
      chkI G N src1 (relS scope sc) tg1 iter1 = true ∧ chkC G N c1 (relS scope sc) ifs1 = true ∧ chkE G N el (relS scope sc) elt = true) := by
  cases x <;> first | exact (Bool.false_ne_true h).elim | skip
  rename_i elt gens scope pos
  match gens, h with
  | [], h => exact (Bool.false_ne_true h).elim
  | [⟨_, _, _, _⟩], h => exact (Bool.false_ne_true h).elim
  | ⟨_, _, _, _⟩ :: ⟨_, _, _, _⟩ :: _ :: _, h => exact (Bool.false_ne_true h).elim
  | [⟨tg, iter, ifs, asy⟩, ⟨tg1, iter1, ifs1, asy1⟩], h =>
    have h' : (decide (asy = 0) && decide (asy1 = 0) && blkC N sc scope (ownL N vs) && (slotsT t).all (fun i => vs.contains i) && chkT N (relS scope sc) (fnS scope) t tg &&
      chkI G N src sc tg iter && chkC G N c (relS scope sc) ifs && (vs1.all (fun i => vs.contains i) && (slotsT t1).all (fun i => vs1.contains i) && chkT N (relS scope sc) (fnS scope) t1 tg1 &&
      chkI G N src1 (relS scope sc) tg1 iter1 && chkC G N c1 (relS scope sc) ifs1 && chkE G N el (relS scope sc) elt)) = true := h
    simp only [Bool.and_eq_true, decide_eq_true_eq] at h'
    obtain ⟨⟨⟨⟨⟨⟨⟨rfl, rfl⟩, h1⟩, h2⟩, h3⟩, h4⟩, h5⟩, ⟨⟨⟨⟨g0, g1⟩, g2⟩, g3⟩, g4⟩, g5⟩ := h'
    exact ⟨elt, tg, iter, ifs, tg1, iter1, ifs1, scope, pos, rfl, h1, h2, h3, h4, h5, g0, g1, g2, g3, g4, g5⟩
theorem lc2_read {vs vs1 : List Nat} {t t1 : T} {src c src1 c1 el : E} (hi : SI D src) (hc : SC D c) (hi1 : SI D src1) (hc1 : SC D c1) (hel : SE D el) {X : Cx} {N : List Str} {sc scope : Scope} {Wx : WX} (C : D.C X N sc Wx) {tg iter tg1 iter1 elt : Expr} {ifs ifs1 : List Expr}
    (k1 : (slotsT t).all (fun i => vs.contains i) = true) (k2 : chkT N (relS scope sc) (fnS scope) t tg = true) (k5 : chkI D.G N src sc tg iter = true) (k3 : chkC D.G N c (relS scope sc) ifs = true)
    (l0 : vs1.all (fun i => vs.contains i) = true) (l1 : (slotsT t1).all (fun i => vs1.contains i) = true) (l2 : chkT N (relS scope sc) (fnS scope) t1 tg1 = true) (l5 : chkI D.G N src1 (relS scope sc) tg1 iter1 = true) (l3 : chkC D.G N c1 (relS scope sc) ifs1 = true) (l4 : chkE D.G N el (relS scope sc) elt = true)
    {σ : SS} {Fz : Addr → Prop} {H : Hp} {en : En} {Q : VK} (R : Er D.K Fz H en σ) (h : Sat D.K σ D.cl Wx Fz H en (ev D.cs D.cf (.comp2 vs t src c vs1 t1 src1 c1 el) en) Q) :
    tLc2 (JI X tg iter) (fun v σ H Q => ∀ (s : Shared) (H0 : Hp) (Cc : Addr) (cl : List (Str × Addr)) (fp : List Addr), JG (X.blk s H0 scope (compEnvC scope cl Cc X.env) fp) tg v σ H Q)
      (fun σ H Q => ∀ (s : Shared) (H0 : Hp) (Cc : Addr) (cl : List (Str × Addr)) (fp : List Addr), JC (X.blk s H0 scope (compEnvC scope cl Cc X.env) fp) ifs σ H Q)
      (fun σ H R => ∀ (s : Shared) (H0 : Hp) (Cc : Addr) (cl : List (Str × Addr)) (fp : List Addr), JI (X.blk s H0 scope (compEnvC scope cl Cc X.env) fp) tg1 iter1 σ H R)
      (fun v σ H Q => ∀ (s : Shared) (H0 : Hp) (Cc : Addr) (cl : List (Str × Addr)) (fp : List Addr), JG (X.blk s H0 scope (compEnvC scope cl Cc X.env) fp) tg1 v σ H Q)
      (fun σ H Q => ∀ (s : Shared) (H0 : Hp) (Cc : Addr) (cl : List (Str × Addr)) (fp : List Addr), JC (X.blk s H0 scope (compEnvC scope cl Cc X.env) fp) ifs1 σ H Q)
      (fun σ H Q => ∀ (s : Shared) (H0 : Hp) (Cc : Addr) (cl : List (Str × Addr)) (fp : List Addr), JE (X.blk s H0 scope (compEnvC scope cl Cc X.env) fp) elt σ H Q) ((ownL N vs).map (·.2)) vs1 σ H Q := by
  have hv : (ownL N vs).map (·.2) = vs := by
    unfold ownL
    rw [List.map_map]
    exact List.map_id vs
  rw [hv]
  rw [ev_comp2] at h
  refine hi X N sc Wx C tg iter k5 σ Fz H en _ R ?_
  cases hs : ev D.cs D.cf src en with
  | stuck => rw [hs] at h; exact h
  | exc c' p e1 => rw [hs] at h; exact h
  | ok x e1 =>
    rw [hs] at h
    have h : Sat D.K σ D.cl Wx Fz H en (match seqOf x.val with
      | some ds => match loopF (fO D.cs D.cf vs t c vs1 t1 src1 c1 el) ds (wipeE e1 vs) with
        | .ok r e2 => if r.length ≤ sizeLine then .ok (.own r) (backE e1 e2 vs) else .stuck
        | _ => .stuck
      | none => .stuck) Q := h
    cases hd : seqOf x.val with
    | none =>
      rw [hd] at h
      exact h.elim
    | some ds =>
      rw [hd] at h
      refine ⟨ds, hd, fun Fz1 H1 J s j Da hDa => ?_⟩
      have h : Sat D.K σ D.cl Wx Fz1 H1 e1 (match loopF (fO D.cs D.cf vs t c vs1 t1 src1 c1 el) ds (wipeE e1 vs) with
          | .ok r e2 => if r.length ≤ sizeLine then .ok (.own r) (backE e1 e2 vs) else .stuck
          | _ => .stuck) Q := Sat.shift s h
      cases hl : loopF (fO D.cs D.cf vs t c vs1 t1 src1 c1 el) ds (wipeE e1 vs) with
      | stuck => rw [hl] at h; exact h.elim
      | exc c' p e2 => rw [hl] at h; exact h.elim
      | ok r e2 =>
        rw [hl] at h
        simp only at h
        by_cases hz : r.length ≤ sizeLine
        · rw [if_pos hz] at h
          have R1 := s.er
          have Rw := R1.wipe vs
          have noD : ∀ {e' : En} {Fz' : Addr → Prop} {H' : Hp}, Nx D.K (wipe σ vs) Fz1 H1 (wipeE e1 vs) Fz' H' e' → ¬ Ow e' (wipe σ vs) Da := fun n z => by
            obtain ⟨xs, z⟩ := (n.own Da z).trk Rw
            rw [hDa] at z
            cases z
          refine ⟨fun i m H' => m = ds.length - i ∧ i ≤ ds.length ∧ ∃ (Fz' : Addr → Prop) (e' : En) (acc : List V) (rs r' : List PyData), Nx D.K (wipe σ vs) Fz1 H1 (wipeE e1 vs) Fz' H' e' ∧ H' Da = some (.lst acc) ∧ ¬ Fz' Da ∧ VRs D.K Fz' H' rs acc ∧
            loopF (fO D.cs D.cf vs t c vs1 t1 src1 c1 el) (ds.drop i) e' = .ok r' e2 ∧ rs ++ r' = r, ⟨ds.length, rfl, Nat.zero_le _, Fz1, wipeE e1 vs, [], [], r, Nx.new Rw hDa, upd_same, fun z => Rw.ft Da z hDa, .nil, hl, rfl⟩, ?_⟩
          rintro i m H' ⟨rfl, hi', Fz', e', acc, rs, r', n, g1, g2, g3, g4, g5⟩
          have jj := j Fz' H' (fun d v q => VR.mono n.stp Rw.ol q) i
          by_cases hlt : i < ds.length
          · refine .inr ⟨(jj.1 hlt).1, fun H'' => ∃ (Fz' : Addr → Prop) (e' : En) (acc : List V) (rs r' : List PyData), Nx D.K (wipe σ vs) Fz1 H1 (wipeE e1 vs) Fz' H'' e' ∧ H'' Da = some (.lst acc) ∧ ¬ Fz' Da ∧ VRs D.K Fz' H'' rs acc ∧
              loopF (fO D.cs D.cf vs t c vs1 t1 src1 c1 el) (ds.drop (i + 1)) e' = .ok r' e2 ∧ rs ++ r' = r, fun H'' hN => ⟨ds.length - (i + 1), by omega, rfl, hlt, hN⟩, fun y H'' hy => ?_⟩
            obtain ⟨d, hd', n1, vr⟩ := (jj.1 hlt).2 y H'' hy e' (wipe σ vs) n.er
            rw [drop_cons hd'] at g4
            obtain ⟨o, e3, r'', q1, q2, q3⟩ := loopF_cons g4
            have n2 := n.trans n1
            have no := noD n
            refine turn_out hc hi1 hc1 hel C k1 k2 k3 l0 l1 l2 l3 l4 l5 n2 Rw vr q1 hDa (n1.stp.keep Da _ g1 no) (fun z => ?_) (n1.vrs n.er g3) ?_ fun Fz3 H3 acc' rs' n3 p1 p2 p3 p4 => ?_
            · rcases n1.stp.nfz Da z with z | z | z
              · exact g2 z
              · rw [g1] at z; cases z
              · exact no z
            · have e := congrArg List.length g5
              rw [q3, List.length_append, List.length_append] at e
              omega
            · refine ⟨Fz3, e3, acc', rs', r'', n3, p1, p2, p3, q2, ?_⟩
              rw [p4, ← g5, q3, List.append_assoc]
          · have ei : i = ds.length := by omega
            subst ei
            rw [List.drop_length] at g4
            have g4 : Rs.ok ([] : List PyData) e' = .ok r' e2 := g4
            cases g4
            rw [List.append_nil] at g5
            subst g5
            refine .inl ⟨jj.2 (Nat.le_refl _), h Fz' H' _ (nx_back R1 n) ⟨Da, acc, rfl, g1, g2, fun z => ?_, .inl hDa, g3⟩⟩
            have nb := nx_back R1 n
            obtain ⟨xs, z⟩ := (nb.own Da z).trk R1
            rw [hDa] at z
            cases z
        · rw [if_neg hz] at h
          exact h.elim
theorem vs1_in {N : List Str} {vs vs1 : List Nat} (l0 : vs1.all (fun i => vs.contains i) = true) : ∀ i ∈ vs1, i ∈ (ownL N vs).map (·.2) := by
  have hv : (ownL N vs).map (·.2) = vs := by
    unfold ownL
    rw [List.map_map]
    exact List.map_id vs
  rw [hv]
  intro j hj
  have := List.all_eq_true.mp l0 j hj
  simpa using this
theorem se_comp2 {vs vs1 : List Nat} {t t1 : T} {src c src1 c1 el : E} (hi : SI D src) (hc : SC D c) (hi1 : SI D src1) (hc1 : SC D c1) (hel : SE D el) : SE D (.comp2 vs t src c vs1 t1 src1 c1 el) := by
  intro X N sc Wx C x hx σ Fz H en Q R h
  obtain ⟨elt, tg, iter, ifs, tg1, iter1, ifs1, scope, pos, rfl, h1, k1, k2, k5, k3, l0, l1, l2, l5, l3, l4⟩ := chk_comp2 hx
  exact JE.of (pe_lc2 (own := ownL N vs) (vs1 := vs1) C.calm C.nd (JI.pi X tg iter) (by rw [C.N, C.sc]; exact blkOk_by h1) (vs1_in l0)
    (fun s H0 Cc cl fp => ⟨fun pins s' σ H v u Q I r q => q s H0 Cc cl fp pins s' u I r⟩) (fun s H0 Cc cl fp => ⟨fun pins s' σ H Q I q => q s H0 Cc cl fp pins s' I⟩)
    (fun s H0 Cc cl fp => ⟨fun pins s' σ H R I q => q s H0 Cc cl fp pins s' I⟩)
    (fun s H0 Cc cl fp => ⟨fun pins s' σ H v u Q I r q => q s H0 Cc cl fp pins s' u I r⟩) (fun s H0 Cc cl fp => ⟨fun pins s' σ H Q I q => q s H0 Cc cl fp pins s' I⟩)
    (fun s H0 Cc cl fp => ⟨fun pins s' σ H Q I q => q s H0 Cc cl fp pins s' I⟩) (folded_of (chkI_set k5)) (fun env => folded_of (chkI_set l5))) (lc2_read hi hc hi1 hc1 hel C k1 k2 k5 k3 l0 l1 l2 l5 l3 l4 R h)
end
end TD

set_option maxHeartbeats 1000000
namespace TD
open PySem PySem.Spec PyProof.Rows L2
section
variable {D : Dt}
/-- a test by its value -/
theorem st_val {e : E} (hp : ∀ (G : Gm) (N : List Str) (sc : Scope) (x : Expr), chkE G N e sc x = true → ∀ env whole, isTrue x env whole = (do let v ← whole; standAt x.pos; holding [v] (truthy v))) (h : SE D e) : ST D e := by
  intro X N sc Wx C _ x hx σ Fz H en Q R hs
  exact JT.of (pt_val (JE.pe X x) (hp _ _ _ _ hx _)) (h X N sc Wx C x hx σ Fz H en _ R hs)
structure Al (D : Dt) (x : E) : Prop where
  e : SE D x
  a : SA D x
  t : ST D x
  w : SW D x
  c : SC D x
  i : SI D x
theorem sa_no {e : E} (h : ∀ (G : Gm) (N : List Str) (sc : Scope) xs, chkA G N e sc xs = true → False) : SA D e := fun X N sc Wx C xs hx => (h _ _ _ _ hx).elim
theorem sw_no {e : E} (h : ∀ (G : Gm) (N : List Str) (sc : Scope) op xs p, chkE G N e sc (.BoolOp op xs p) = true → False) : SW D e := fun X N sc Wx C _ op xs p hx => (h _ _ _ _ _ _ hx).elim
theorem sc_no {e : E} (h : ∀ (G : Gm) (N : List Str) (sc : Scope) xs, chkC G N e sc xs = true → False) : SC D e := fun X N sc Wx C xs hx => (h _ _ _ _ hx).elim
theorem si_no {e : E} (h : ∀ (G : Gm) (N : List Str) (sc : Scope) tg x, chkI G N e sc tg x = true → False) : SI D e := fun X N sc Wx C tg x hx => (h _ _ _ _ _ hx).elim
theorem se_no {e : E} (h : ∀ (G : Gm) (N : List Str) (sc : Scope) x, chkE G N e sc x = true → False) : SE D e := fun X N sc Wx C x hx => (h _ _ _ _ hx).elim
theorem st_no {e : E} (h : ∀ (G : Gm) (N : List Str) (sc : Scope) x, chkE G N e sc x = true → False) : ST D e := fun X N sc Wx C _ x hx => (h _ _ _ _ hx).elim
theorem st_no' {e : E} (h : tstB e = false) : ST D e := fun X N sc Wx C ht => absurd (h.symm.trans ht) Bool.false_ne_true
local macro_rules | `(tactic| walk_at "td noA") => `(tactic| (intro G N sc xs h; cases xs <;> exact (Bool.false_ne_true h).elim))
local macro_rules | `(tactic| walk_at "td noW") => `(tactic| (intro G N sc op xs p h; exact (Bool.false_ne_true h).elim))
local macro_rules | `(tactic| walk_at "td noI") => `(tactic| (intro G N sc tg x h; cases tg <;> exact (Bool.false_ne_true h).elim))
local macro_rules | `(tactic| walk_at "td noE") => `(tactic| (intro G N sc x h; cases x <;> exact (Bool.false_ne_true h).elim))
local macro_rules | `(tactic| walk_at "td plain") => `(tactic| (intro G N sc x h env whole; cases x <;> first | rfl | exact (Bool.false_ne_true h).elim))
theorem Al.plain {e : E} (he : SE D e) (h1 : ∀ (G : Gm) (N : List Str) (sc : Scope) xs, chkA G N e sc xs = true → False) (h2 : ∀ (G : Gm) (N : List Str) (sc : Scope) op xs p, chkE G N e sc (.BoolOp op xs p) = true → False)
    (h3 : ∀ (G : Gm) (N : List Str) (sc : Scope) xs, chkC G N e sc xs = true → False) (h4 : ∀ (G : Gm) (N : List Str) (sc : Scope) tg x, chkI G N e sc tg x = true → False) (ht : ST D e) : Al D e :=
  ⟨he, sa_no h1, ht, sw_no h2, sc_no h3, si_no h4⟩
theorem and_form {a b : E} (G : Gm) (N : List Str) (sc : Scope) (x : Expr) (h : chkE G N (.and a b) sc x = true) : ∃ op xs p, x = .BoolOp op xs p := by
  obtain ⟨y, z, r, p, e, _⟩ := chk_and h
  exact ⟨_, _, _, e⟩
theorem or_form {a b : E} (G : Gm) (N : List Str) (sc : Scope) (x : Expr) (h : chkE G N (.or a b) sc x = true) : ∃ op xs p, x = .BoolOp op xs p := by
  obtain ⟨y, z, r, p, e, _⟩ := chk_or h
  exact ⟨_, _, _, e⟩
theorem one_form {a : E} (G : Gm) (N : List Str) (sc : Scope) (x : Expr) (h : chkE G N (.one a) sc x = true) : ∃ op xs p, x = .BoolOp op xs p := by
  obtain ⟨op, y, p, e, _⟩ := chk_one h
  exact ⟨_, _, _, e⟩
/-! ### lists lent -/
theorem frz_get {e : En} {i : Nat} {w : W} (h : (frzE e)[i]? = some (some w)) : ∃ w0, e[i]? = some (some w0) ∧ w = w0.frz := by
  unfold frzE at h
  rw [List.getElem?_map] at h
  cases q : e[i]? with
  | none => rw [q] at h; cases h
  | some o =>
    rw [q] at h
    cases o with
    | none => cases h
    | some w0 => cases h; exact ⟨w0, rfl, rfl⟩
theorem frz_own {w : W} {ds : List PyData} (h : W.own ds = w.frz) : False := by
  cases w <;> cases h
theorem er_frz {K : PySem.W.Frag} {σ : SS} {Fz : Addr → Prop} {H : Hp} {en : En} (R : Er K Fz H en σ) : Er K (fun b => Fz b ∨ Ow en σ b) H (frzE en) σ where
  len := by unfold frzE; rw [List.length_map]; exact R.len
  vs i d h := by
    obtain ⟨w, h1, h2⟩ := frz_get h
    have hz : ∀ b, Fz b → Fz b ∨ Ow en σ b := fun _ q => .inl q
    have hk : ∀ b o, H b = some o → ¬ Ow en σ b → H b = some o := fun _ _ q _ => q
    cases w with
    | v d' =>
      cases h2
      obtain ⟨x, q, r⟩ := R.vs i _ h1
      exact ⟨x, q, VR.mono' hz hk R.ol _ _ r⟩
    | own ds =>
      cases h2
      obtain ⟨a, xs, q, g1, g2, g3⟩ := R.os i _ h1
      exact ⟨_, q, .lst (.inl g1) (.inr ⟨i, ds, h1, q⟩) (VRs.mono' hz hk R.ol _ _ g3)⟩
    | scr ds => cases h2
  os i ds h := by
    obtain ⟨w, h1, h2⟩ := frz_get h
    exact (frz_own h2).elim
  ss i ds h := by
    obtain ⟨w, h1, h2⟩ := frz_get h
    cases w with
    | v d' => cases h2
    | own ds => cases h2
    | scr ds =>
      cases h2
      obtain ⟨a, xs, q, g1, g3⟩ := R.ss i _ h1
      exact ⟨a, xs, q, g1, VRs.mono' (fun _ q => .inl q) (fun _ _ q _ => q) R.ol _ _ g3⟩
  ap i j ds es a h1 _ _ _ := by
    obtain ⟨w, _, h2⟩ := frz_get h1
    exact (frz_own h2).elim
  ft a h := by
    rcases h with h | h
    · exact R.ft a h
    · obtain ⟨xs, q⟩ := h.trk R
      rw [q]
      exact fun z => nomatch z
theorem nx_lend {K : PySem.W.Frag} {σ : SS} {Fz Fz1 : Addr → Prop} {H H1 : Hp} {en e1 : En} (R : Er K Fz H en σ) (s : Nx K σ (fun b => Fz b ∨ Ow en σ b) H (frzE en) Fz1 H1 e1) : Nx K σ Fz H en Fz H1 en := by
  have hn : ∀ a, ¬ Ow (frzE en) σ a := fun a ⟨i, ds, h, _⟩ => by
    obtain ⟨w, _, h2⟩ := frz_get h
    exact frz_own h2
  have hk : ∀ a o, H a = some o → H1 a = some o := fun a o h => s.stp.keep a o h (hn a)
  refine Nx.grow R ⟨fun _ q => q, fun a o h _ => hk a o h, fun _ q => .inl q, s.stp.trk⟩ (fun a ha => ?_) fun a ha z => R.ft a ha (s.stp.trk a z)
  obtain ⟨xs, q⟩ := ha.trk R
  exact ⟨by rw [hk a _ q, q], (R.ol a ha).1⟩
theorem sat_lend {K : PySem.W.Frag} {cl : Nat → Value} {Wx : WX} {cs : List PyData} {cf : CF} {σ : SS} {Fz : Addr → Prop} {H : Hp} {en : En} {Q : VK} {a : E} (R : Er K Fz H en σ) (h : Sat K σ cl Wx Fz H en (ev cs cf (.lend a) en) Q) :
    Sat K σ cl Wx (fun b => Fz b ∨ Ow en σ b) H (frzE en) (ev cs cf a (frzE en)) Q := by
  have h : Sat K σ cl Wx Fz H en (match ev cs cf a (frzE en) with
    | .ok w _ => if flat1 w.val = true then .ok (.v w.val) en else .stuck
    | .exc c none _ => .exc c none en
    | _ => .stuck) Q := h
  cases hr : ev cs cf a (frzE en) with
  | stuck => rw [hr] at h; exact h.elim
  | exc c p e1 =>
    rw [hr] at h
    cases p with
    | some p => exact h.elim
    | none => exact fun Fz1 H1 d s q => h Fz H1 d (nx_lend R s) q
  | ok w e1 =>
    rw [hr] at h
    have h : Sat K σ cl Wx Fz H en (if flat1 w.val = true then .ok (.v w.val) en else .stuck) Q := h
    by_cases hf : flat1 w.val = true
    · rw [if_pos hf] at h
      intro Fz1 H1 x s q
      refine h Fz H1 x (nx_lend R s) ?_
      cases w with
      | own ds => exact (Bool.false_ne_true hf).elim
      | scr ds => exact (Bool.false_ne_true hf).elim
      | v d =>
        have q : VR K Fz1 H1 d x := q
        show VR K Fz H1 d x
        cases d with
        | none => cases q; exact .non
        | bool b => cases q; exact .bl _
        | int b => cases q; exact .int _
        | str b => cases q; exact .str _
        | list _ => exact (Bool.false_ne_true hf).elim
        | tuple _ => exact (Bool.false_ne_true hf).elim
        | dict _ => exact (Bool.false_ne_true hf).elim
    · rw [if_neg hf] at h
      exact h.elim
theorem se_lend {a : E} (ha : SE D a) : SE D (.lend a) := by
  intro X N sc Wx C x hx σ Fz H en Q R h
  have h' : (lendB x && chkE D.G N a sc x) = true := hx
  rw [Bool.and_eq_true] at h'
  exact ha X N sc Wx C x h'.2 σ _ H _ Q (er_frz R) (sat_lend R h)
theorem st_lend {a : E} (ha : ST D a) : ST D (.lend a) := by
  intro X N sc Wx C ht x hx σ Fz H en Q R h
  have h' : (lendB x && chkE D.G N a sc x) = true := hx
  rw [Bool.and_eq_true] at h'
  exact ha X N sc Wx C ht x h'.2 σ _ H _ Q (er_frz R) (sat_lend R h)
/-! ### list(range(..)), tuple(range(..)) -/
theorem rgV_vrs {K : PySem.W.Frag} {Fz : Addr → Prop} {H : Hp} {i j : Int} : VRs K Fz H (rangeD i (j - i).toNat) (rgV i j) := by
  have go : ∀ (n : Nat) (i : Int), VRs K Fz H (rangeD i n) ((List.range n).map fun k => V.int (i + (k : Nat))) := by
    intro n
    induction n with
    | zero => intro i; exact .nil
    | succ n ih =>
      intro i
      rw [List.range_succ_eq_map, List.map_cons, List.map_map]
      have h := ih (i + 1)
      have e : (fun k : Nat => V.int (i + 1 + (k : Nat))) = (fun k : Nat => V.int (i + (k : Nat))) ∘ Nat.succ := by
        funext k
        show V.int _ = V.int _
        congr 1
        omega
      rw [e] at h
      have e0 : V.int (i + ((0 : Nat) : Int)) = V.int i := by congr 1; omega
      rw [e0]
      exact .cons (.int i) h
  exact go _ i
def tRgA (ta : TA) : SS → Hp → (Int → Int → Hp → Prop) → Prop := fun σ H Q => ta σ H fun xs H1 => (∃ n, xs = [.int n] ∧ Q 0 n H1) ∨ (∃ i j, xs = [.int i, .int j] ∧ Q i j H1)
theorem prg_A {X : Cx} {xs : List Expr} {ta : TA} {p pos : Pos} (hg : Gl X "range") (hm : X.mg "range" = none) (ha : PA X xs ta) (hst : xs.all notStar = true) (hl : (xs.length == 1 || xs.length == 2) = true) : PRg X (.Call (.Name "range" p) xs [] pos) (tRgA ta) := by
  intro pins s σ H Q I h
  have fin : ∀ (us : List Value) (s1 : Shared) (vs : List V) (H1 : Hp), Inv X pins σ H1 s1 → Vals vs us → ((∃ n, vs = [V.int n] ∧ Q 0 n H1) ∨ (∃ i j, vs = [V.int i, V.int j] ∧ Q i j H1)) →
      wpAny (model X.prog X.w) X.A (call (.type "range") us) (fun x s' => ∃ r a b t u v H', x = .ref r ∧ IsRange s'.heap r a b 1 t u v ∧ Inv X pins σ H' s' ∧ Q a b H') X.xe s1 := by
    intro us s1 vs H1 I1 r1 q1
    rcases q1 with ⟨n, rfl, q⟩ | ⟨i, j, rfl, q⟩
    · cases r1 with
      | cons r rr =>
        cases rr
        obtain ⟨t, rfl⟩ := r
        exact call_range_1 ⟨_, 0, n, _, _, _, H1, rfl, IsRange.new _ _ _ _ _ _ _, I1.kept fun b u e => Heap.get?_push_of_some _ e, q⟩
    · cases r1 with
      | cons r rr =>
        cases rr with
        | cons r' rr' =>
          cases rr'
          obtain ⟨t, rfl⟩ := r
          obtain ⟨t', rfl⟩ := r'
          exact call_range_2 ⟨_, i, j, _, _, _, H1, rfl, IsRange.new _ _ _ _ _ _ _, I1.kept fun b u e => Heap.get?_push_of_some _ e, q⟩
  match xs, hl, hst with
  | [a], _, hst =>
    rw [List.all_cons, Bool.and_eq_true] at hst
    have hs : starEach [a] X.env = [(false, eval a X.env)] := star_of hst.1
    exact Call_ (ld_blt I hg hm boot_range (PyProof.Rows.callWith_type1 (thn (ha.run pos pins s σ H _ I h) fun us s1 ⟨vs, H1, I1, r1, q1⟩ => fin us s1 vs H1 I1 r1 q1) hs rfl))
  | [a, b], _, hst =>
    rw [List.all_cons, Bool.and_eq_true, List.all_cons, Bool.and_eq_true] at hst
    have hs2 : starEach [b] X.env = [(false, eval b X.env)] := star_of hst.2.1
    have hs : starEach [a, b] X.env = [(false, eval a X.env), (false, eval b X.env)] := by rw [star_of hst.1, hs2]
    exact Call_ (ld_blt I hg hm boot_range (PyProof.Rows.callWith_type1 (thn (ha.run pos pins s σ H _ I h) fun us s1 ⟨vs, H1, I1, r1, q1⟩ => fin us s1 vs H1 I1 r1 q1) (by rw [hs, hs2]) (by rw [hs2]; rfl)))
theorem rgB_ok {i j : Int} (h : rgB i j = true) : RgOk i j := by
  unfold rgB inRg at h
  simp only [Bool.and_eq_true, decide_eq_true_eq] at h
  exact ⟨h.1.1.1, h.1.1.2, h.1.2.1, h.1.2.2, h.2⟩
theorem se_lrg {tup : Bool} {es : E} (O : D.Ok) (hs : SA D es) : SE D (.lrg tup es) := by
  intro X N sc Wx C x hx σ Fz H en Q R h
  cases x <;> first | exact (Bool.false_ne_true hx).elim | skip
  rename_i fe xs kws pos
  match fe, xs, kws, hx with
  | .Name l p, [.Call (.Name y p2) ys [] p3], [], hx =>
    have h' : (decide (l = if tup then "tuple" else "list") && glB sc l && decide (y = "range") && glB sc y && (ys.length == 1 || ys.length == 2) && chkA D.G N es sc ys) = true := hx
    simp only [Bool.and_eq_true, decide_eq_true_eq] at h'
    obtain ⟨⟨⟨⟨⟨h1, h2⟩, rfl⟩, h4⟩, h5⟩, h6⟩ := h'
    have hst := chkA_star h6
    have prg := prg_A (X := X) (p := p2) (pos := p3) (gl_of C.sc h4) (Dt.blt O C (by decide +kernel)) (JA.pa X ys) hst h5
    have q : tRgA (JA X ys) σ H (fun a b H1 => RgOk a b ∧ ∀ q, H1 q = none → Q (.ref q) (upd H1 q (if tup = true then .tup (rgV a b) else .lst (rgV a b)))) := by
      refine hs X N sc Wx C _ h6 σ Fz H en _ R (h.bindA (fun w e1 hw => by cases w <;> first | rfl | exact absurd rfl (hw _)) fun ds e1 Fz1 H1 zs s r h => ?_)
      obtain ⟨wr, he, g⟩ := h.of
      have fin : ∀ a b, rgB a b = true → wr = rgW tup a b → RgOk a b ∧ ∀ q, H1 q = none → Q (.ref q) (upd H1 q (if tup = true then .tup (rgV a b) else .lst (rgV a b))) := by
        intro a b hb e
        subst e
        refine ⟨rgB_ok hb, fun q hq => ?_⟩
        cases tup with
        | true => exact g.okt s.er rgV_vrs hq
        | false => exact g.okl s.er rgV_vrs hq
      unfold opLr at he
      split at he
      · obtain ⟨c, e⟩ := ite_some he
        cases r with
        | cons r1 r2 =>
          cases r2
          cases r1
          exact .inl ⟨_, rfl, fin _ _ c e.symm⟩
      · obtain ⟨c, e⟩ := ite_some he
        cases r with
        | cons r1 r2 =>
          cases r2 with
          | cons r2 r3 =>
            cases r3
            cases r1
            cases r2
            exact .inr ⟨_, _, rfl, fin _ _ c e.symm⟩
      · cases he
    cases tup with
    | true =>
      have h1 : l = "tuple" := h1
      subst h1
      exact JE.of (pe_tupRg C.calm (gl_of C.sc h2) (Dt.blt O C (by decide +kernel)) prg rfl) q
    | false =>
      have h1 : l = "list" := h1
      subst h1
      exact JE.of (pe_listRg C.calm (gl_of C.sc h2) (Dt.blt O C (by decide +kernel)) prg rfl) q
/-! ### xs.pop(i) -/
theorem VRs.erase {K : PySem.W.Frag} {Fz : Addr → Prop} {H : Hp} : ∀ {ds : List PyData} {xs : List V} (i : Nat), VRs K Fz H ds xs → VRs K Fz H (ds.eraseIdx i) (xs.eraseIdx i)
  | [], _, _, h => by cases h; exact .nil
  | _ :: _, _, 0, h => by
    cases h with
    | cons h1 h2 => exact h2
  | _ :: _, _, i + 1, h => by
    cases h with
    | cons h1 h2 => exact .cons h1 (VRs.erase i h2)
theorem nx_upd {K : PySem.W.Frag} {Fz : Addr → Prop} {H : Hp} {en : En} {σ : SS} {i : Nat} {a : Addr} {ds ds' : List PyData} {xs' : List V} (R : Er K Fz H en σ) (h1 : en[i]? = some (some (.own ds))) (h2 : σ[i]? = some (some (.ref a))) (hv : VRs K Fz H ds' xs') :
    Nx K σ Fz H en Fz (upd H a (.lst xs')) (en.set i (some (.own ds'))) := by
  have hO : Ow en σ a := ⟨i, ds, h1, h2⟩
  have hk : ∀ b o, H b = some o → ¬ Ow en σ b → upd H a (.lst xs') b = some o := fun b o q n => by
    rw [upd_ne (fun e => n (by rw [e]; exact hO))]; exact q
  have nF := (R.ol a hO).1
  have st : Stp Fz (Ow en σ) H Fz (upd H a (.lst xs')) := ⟨fun _ q => q, hk, fun _ q => .inl q, fun b q => by
    by_cases e : b = a
    · rw [e, upd_same] at q; cases q
    · rw [upd_ne e] at q; exact q⟩
  refine ⟨st, ⟨by rw [List.length_set]; exact R.len, fun j d q => ?_, fun j es q => ?_, fun j es q => ?_, fun j l es fs b q1 q2 q3 q4 => ?_, fun b q => ?_⟩, fun b ⟨j, es, q1, q2⟩ => ?_⟩
  · rcases set_cases q with ⟨_, e⟩ | ⟨n, e⟩
    · cases e
    · obtain ⟨x, g1, g2⟩ := R.vs j d e
      exact ⟨x, g1, g2.mono st R.ol⟩
  · rcases set_cases q with ⟨rfl, e⟩ | ⟨n, e⟩
    · cases e
      exact ⟨a, xs', h2, upd_same, nF, hv.mono st R.ol⟩
    · obtain ⟨b, zs, g1, g2, g3, g4⟩ := R.os j es e
      refine ⟨b, zs, g1, ?_, g3, g4.mono st R.ol⟩
      rw [upd_ne fun z => n (R.ap j i es ds a e h1 (by rw [g1, z]) h2)]
      exact g2
  · rcases set_cases q with ⟨_, e⟩ | ⟨n, e⟩
    · cases e
    · obtain ⟨b, zs, g1, g2, g4⟩ := R.ss j es e
      exact ⟨b, zs, g1, sr_mono st.keep R.ol g2, g4.mono st R.ol⟩
  · have back : ∀ {m : Nat} {fs : List PyData}, (en.set i (some (.own ds')))[m]? = some (some (W.own fs)) → ∃ gs, en[m]? = some (some (W.own gs)) := fun {m fs} q => by
      rcases set_cases q with ⟨rfl, _⟩ | ⟨_, e⟩
      · exact ⟨ds, h1⟩
      · exact ⟨fs, e⟩
    obtain ⟨g1, q1⟩ := back q1
    obtain ⟨g2, q2⟩ := back q2
    exact R.ap j l g1 g2 b q1 q2 q3 q4
  · by_cases e : b = a
    · rw [e, upd_same]; exact fun z => nomatch z
    · rw [upd_ne e]; exact R.ft b q
  · rcases set_cases q1 with ⟨rfl, _⟩ | ⟨_, e⟩
    · exact ⟨j, ds, h1, q2⟩
    · exact ⟨j, es, e, q2⟩
theorem few1 {X : Cx} {y : Expr} {cp : Pos} (h : notStar y = true) : ((backTo cp (starEach [y] X.env)).all (fun x => !x.1) && (backToKw cp (keywordEach [] X.env)).all (fun x => x.1.isSome)
      && decide (([y] : List Expr).length + ([] : List Keyword).length + (if ([] : List Keyword).isEmpty then 0 else 1) < 30)) = true := by
  rw [star_of h]
  rfl
theorem se_popV {v : Nat} {i : E} (hi : SE D i) : SE D (.popV v i) := by
  intro X N sc Wx C x hx σ Fz H en Q R h
  cases x <;> first | exact (Bool.false_ne_true hx).elim | skip
  rename_i fe xs kws cp
  match fe, xs, kws, hx with
  | .Attribute (.Name x np) m ap, [y], [], hx =>
    have h' : (decide (m = "pop") && (ap.endLine == cp.line) && vrB N sc v x && chkE D.G N i sc y) = true := hx
    simp only [Bool.and_eq_true, decide_eq_true_eq] at h'
    obtain ⟨⟨⟨rfl, h1⟩, h2⟩, h3⟩ := h'
    have hst := chkE_star h3
    have s1 : starEach [y] X.env = (false, eval y X.env) :: starEach [] X.env := star_of hst
    refine JE.of (pe_bm (PySem.F.plainAttrs_list) PySem.F.slot_list_pop PySem.F.type_list_pop mt_popAt (pe_slot C h2) (pa_cons (JE.pe X y) pa_nil s1) rfl (few1 hst) (by rw [h1]) s1 rfl) ?_
    rw [C.K]
    simp only [ev] at h
    split at h
    · rename_i ds0 hd0
      obtain ⟨a, xs0, k1, k2, k3, k4⟩ := R.os v ds0 hd0
      refine ⟨_, k1, .inl ⟨rfl, xs0, .inl (.inl k2)⟩, hi X N sc Wx C y h3 σ Fz H en _ R (h.bindV fun w e1 Fz1 H1 z s r h => ?_)⟩
      split at h
      · rename_i ds k hd hk
        cases hj' : (if inRg k = true then ixN ds.length k else none) with
        | none => rw [hj'] at h; exact h.elim
        | some j =>
          rw [hj'] at h
          simp only at h
          have hrk : inRg k = true := by
            by_cases c : inRg k = true
            · exact c
            · rw [if_neg c] at hj'; cases hj'
          rw [if_pos hrk] at hj'
          have hj := hj'
          unfold inRg at hrk
          rw [Bool.and_eq_true, decide_eq_true_eq, decide_eq_true_eq] at hrk
          obtain ⟨b, xs, g1, g2, g3, g4⟩ := s.er.os v ds hd
          rw [k1] at g1
          cases g1
          cases hdj : ds[j]? with
          | none => rw [hdj] at h; exact h.elim
          | some d =>
            rw [hdj] at h
            have h : Sat D.K σ D.cl Wx Fz1 H1 e1 (.ok (.v d) (e1.set v (some (.own (ds.eraseIdx j))))) Q := h
            rw [hk] at r
            cases r
            obtain ⟨i1, i2, i3, i4⟩ := ixN_seq hj
            obtain ⟨y', gy, vy⟩ := g4.get hdj
            have hb := (s.er.ol a ⟨v, ds, hd, k1⟩)
            have n := nx_upd s.er hd k1 (g4.erase j)
            refine ⟨a, xs, k, j, y', rfl, rfl, g2, ?_, ?_, by rw [← g4.length]; exact i1, gy, ?_⟩
            · omega
            · omega
            · exact h Fz1 _ y' n (vy.mono n.stp s.er.ol)
      · exact h.elim
    · exact h.elim
theorem all_E (O : D.Ok) : ∀ e : E, Al D e := by
  intro e
  induction e with
  | var i => exact .plain se_var (by walk_at "td noA") (by walk_at "td noW") (by walk_at "td noA") (by walk_at "td noI") (st_val (by walk_at "td plain") se_var)
  | mv i => exact .plain se_mv (by walk_at "td noA") (by walk_at "td noW") (by walk_at "td noA") (by walk_at "td noI") (st_val (by walk_at "td plain") se_mv)
  | int i => exact .plain se_int (by walk_at "td noA") (by walk_at "td noW") (by walk_at "td noA") (by walk_at "td noI") (st_val (by walk_at "td plain") se_int)
  | str i => exact .plain se_str (by walk_at "td noA") (by walk_at "td noW") (by walk_at "td noA") (by walk_at "td noI") (st_val (by walk_at "td plain") se_str)
  | bl b => exact ⟨se_bl, sa_no (by walk_at "td noA"), st_val (by walk_at "td plain") se_bl, sw_no (by walk_at "td noW"), sc_bl, si_no (by walk_at "td noI")⟩
  | non => exact .plain se_non (by walk_at "td noA") (by walk_at "td noW") (by walk_at "td noA") (by walk_at "td noI") (st_val (by walk_at "td plain") se_non)
  | glb j => exact .plain (se_glb O) (by walk_at "td noA") (by walk_at "td noW") (by walk_at "td noA") (by walk_at "td noI") (st_val (by walk_at "td plain") (se_glb O))
  | bin o a b ha hb => exact .plain (se_bin ha.e hb.e) (by walk_at "td noA") (by walk_at "td noW") (by walk_at "td noA") (by walk_at "td noI") (st_val (by walk_at "td plain") (se_bin ha.e hb.e))
  | neg a ha => exact .plain (se_neg ha.e) (by walk_at "td noA") (by walk_at "td noW") (by walk_at "td noA") (by walk_at "td noI") (st_val (by
      intro G N sc x h env whole
      cases x <;> first | exact (Bool.false_ne_true h).elim | skip
      rename_i op y p
      cases op <;> first | rfl | exact (Bool.false_ne_true h).elim) (se_neg ha.e))
  | cmp o a b ha hb => exact .plain (se_cmp ha.e hb.e) (by walk_at "td noA") (by walk_at "td noW") (by walk_at "td noA") (by walk_at "td noI") (st_cmp ha.e hb.e)
  | chn o p a b c ha hb hc => exact .plain (se_chn ha.e hb.e hc.e) (by walk_at "td noA") (by walk_at "td noW") (by walk_at "td noA") (by walk_at "td noI") (st_chn ha.e hb.e hc.e)
  | and a b ha hb => exact ⟨se_and ha.e hb.e, sa_no (by walk_at "td noA"), st_of_sw and_form (sw_and ha.t hb.w), sw_and ha.t hb.w, sc_no (by walk_at "td noA"), si_no (by walk_at "td noI")⟩
  | or a b ha hb => exact ⟨se_or ha.e hb.e, sa_no (by walk_at "td noA"), st_of_sw or_form (sw_or ha.t hb.w), sw_or ha.t hb.w, sc_no (by walk_at "td noA"), si_no (by walk_at "td noI")⟩
  | one a ha => exact ⟨se_one ha.e, sa_no (by walk_at "td noA"), st_of_sw one_form (sw_one ha.t), sw_one ha.t, sc_one ha.t, si_one ha.e⟩
  | not a ha => exact .plain (se_not ha.e) (by walk_at "td noA") (by walk_at "td noW") (by walk_at "td noA") (by walk_at "td noI") (st_not ha.t)
  | orT a b ha hb => exact ⟨se_orT ha.e hb.e, sa_no (by walk_at "td noA"), st_no' rfl, fun X N sc Wx C ht => absurd ht Bool.false_ne_true, sc_no (by walk_at "td noA"), si_no (by walk_at "td noI")⟩
  | ite c a b hc ha hb => exact .plain (se_ite hc.t ha.e hb.e) (by walk_at "td noA") (by walk_at "td noW") (by walk_at "td noA") (by walk_at "td noI") (st_no' rfl)
  | tup es hs => exact .plain (se_tup hs.a) (by walk_at "td noA") (by walk_at "td noW") (by walk_at "td noA") (by walk_at "td noI") (st_val (by walk_at "td plain") (se_tup hs.a))
  | lst es hs => exact .plain (se_lst hs.a) (by walk_at "td noA") (by walk_at "td noW") (by walk_at "td noA") (by walk_at "td noI") (st_val (by walk_at "td plain") (se_lst hs.a))
  | ix a i ha hi => exact .plain (se_ix ha.e hi.e) (by walk_at "td noA") (by walk_at "td noW") (by walk_at "td noA") (by walk_at "td noI") (st_val (by walk_at "td plain") (se_ix ha.e hi.e))
  | ixV v i hi => exact .plain (se_ixV hi.e) (by walk_at "td noA") (by walk_at "td noW") (by walk_at "td noA") (by walk_at "td noI") (st_val (by walk_at "td plain") (se_ixV hi.e))
  | lenV v => exact .plain (se_lenV O) (by walk_at "td noA") (by walk_at "td noW") (by walk_at "td noA") (by walk_at "td noI") (st_val (by walk_at "td plain") (se_lenV O))
  | sl a l h ha hl hh => exact .plain (se_sl ha.e hl.e hh.e) (by walk_at "td noA") (by walk_at "td noW") (by walk_at "td noA") (by walk_at "td noI") (st_val (by walk_at "td plain") (se_sl ha.e hl.e hh.e))
  | slV v l h hl hh => exact .plain (se_slV hl.e hh.e) (by walk_at "td noA") (by walk_at "td noW") (by walk_at "td noA") (by walk_at "td noI") (st_val (by walk_at "td plain") (se_slV hl.e hh.e))
  | rev a ha => exact .plain (se_rev ha.e) (by walk_at "td noA") (by walk_at "td noW") (by walk_at "td noA") (by walk_at "td noI") (st_val (by walk_at "td plain") (se_rev ha.e))
  | call f es hs => exact .plain (se_call O hs.a) (by walk_at "td noA") (by walk_at "td noW") (by walk_at "td noA") (by walk_at "td noI") (st_val (by walk_at "td plain") (se_call O hs.a))
  | callB f i es hs => exact .plain (se_callB O hs.a) (by walk_at "td noA") (by walk_at "td noW") (by walk_at "td noA") (by walk_at "td noI") (st_val (by walk_at "td plain") (se_callB O hs.a))
  | bi b es hs => exact .plain (se_bi O hs.a) (by walk_at "td noA") (by walk_at "td noW") (by walk_at "td noA") (by walk_at "td noI") (st_val (by walk_at "td plain") (se_bi O hs.a))
  | isi a ts ha => exact .plain (se_isi O ha.e) (by walk_at "td noA") (by walk_at "td noW") (by walk_at "td noA") (by walk_at "td noI") (st_val (by walk_at "td plain") (se_isi O ha.e))
  | it k es hs => exact ⟨se_no (by walk_at "td noE"), sa_no (by walk_at "td noA"), st_no (by walk_at "td noE"), sw_no (by walk_at "td noW"), sc_no (by walk_at "td noA"), si_it O hs.a⟩
  | comp vs t src c el hsrc hc hel => exact .plain (se_comp hsrc.i hc.c hel.e) (by walk_at "td noA") (by walk_at "td noW") (by walk_at "td noA") (by walk_at "td noI") (st_val (by walk_at "td plain") (se_comp hsrc.i hc.c hel.e))
  | comp2 vs t src c vs1 t1 src1 c1 el hsrc hc hsrc1 hc1 hel => exact .plain (se_comp2 hsrc.i hc.c hsrc1.i hc1.c hel.e) (by walk_at "td noA") (by walk_at "td noW") (by walk_at "td noA") (by walk_at "td noI") (st_val (by walk_at "td plain") (se_comp2 hsrc.i hc.c hsrc1.i hc1.c hel.e))
  | lrg t es hs => exact .plain (se_lrg O hs.a) (by walk_at "td noA") (by walk_at "td noW") (by walk_at "td noA") (by walk_at "td noI") (st_val (by walk_at "td plain") (se_lrg O hs.a))
  | popV v i hi => exact .plain (se_popV hi.e) (by walk_at "td noA") (by walk_at "td noW") (by walk_at "td noA") (by walk_at "td noI") (st_val (by walk_at "td plain") (se_popV hi.e))
  | callK1 f a ha => exact .plain (se_callK1 O ha.e) (by walk_at "td noA") (by walk_at "td noW") (by walk_at "td noA") (by walk_at "td noI") (st_val (by walk_at "td plain") (se_callK1 O ha.e))
  | callK2 f a b ha hb => exact .plain (se_callK2 O ha.e hb.e) (by walk_at "td noA") (by walk_at "td noW") (by walk_at "td noA") (by walk_at "td noI") (st_val (by walk_at "td plain") (se_callK2 O ha.e hb.e))
  | srt a ha => exact .plain (se_srt O ha.e) (by walk_at "td noA") (by walk_at "td noW") (by walk_at "td noA") (by walk_at "td noI") (st_val (by walk_at "td plain") (se_srt O ha.e))
  | lset a ha => exact .plain (se_lset O ha.e) (by walk_at "td noA") (by walk_at "td noW") (by walk_at "td noA") (by walk_at "td noI") (st_val (by walk_at "td plain") (se_lset O ha.e))
  | lend a ha => exact .plain (se_lend ha.e) (by walk_at "td noA") (by walk_at "td noW") (by walk_at "td noA") (by walk_at "td noI") (st_lend ha.t)
  | nil => exact ⟨se_no (by walk_at "td noE"), sa_nil, st_no (by walk_at "td noE"), sw_no (by walk_at "td noW"), sc_no (by walk_at "td noA"), si_no (by walk_at "td noI")⟩
  | cons a es ha hs => exact ⟨se_no (by walk_at "td noE"), sa_cons ha.e hs.a, st_no (by walk_at "td noE"), sw_no (by walk_at "td noW"), sc_no (by walk_at "td noA"), si_no (by walk_at "td noI")⟩
end
end TD

set_option maxHeartbeats 1000000
namespace TD
open PySem PySem.Spec PyProof.Rows L2

/-! ### which text a statement stands for -/
def swV (value : Expr) : Option (Scope × Nat) := match value with
  | .ListComp _ _ s p => some (s, p.line)
  | _ => none
/-- name = value: whether the store is exchanged with the comprehension's end -/
def swB (sc : Scope) (value : Expr) (t : Str) (line : Nat) : Bool := match swV value with
  | none => false
  | some (s, l) => decide (sc.names.lookup t = some .local) && (line == l) && !(s.names.any fun (n, k) => n == t && (k == .local || k == .cell))
def otherComp : Expr → Bool
  | .SetComp .. => true
  | .DictComp .. => true
  | _ => false
def isLc : Expr → Bool
  | .ListComp .. => true
  | _ => false
/-- a, b = x, y: no exchange of stores -/
def locN (sc : Scope) (line : Nat) : Expr → Option Str
  | .Name id pos => if (sc.names.lookup id == some .local && pos.line == line) = true then some id else none
  | _ => none
def plainT (sc : Scope) : List Expr → Expr → Bool
  | ts, .Tuple vs _ _ => (!(ts.length == 2 || ts.length == 3) || vs.length != ts.length) || vs.all (foldedForSure 8) || ((ts.filterMap (locN sc ((ts.head?.map (·.pos.line)).getD 0))).length != ts.length)
  | _, _ => true
def isStr1 (a b : Str) : Bool := decide (a = b)
def smpE : E → Bool
  | .int _ => true
  | .str _ => true
  | .bl _ => true
  | .non => true
  | _ => false
mutual
def chkS (G : Gm) (N : List Str) (sc : Scope) : S → Stmt → Bool
  | .pass, .Pass _ => true
  | .exp e, .Expr x _ => !isLc x && !otherComp x && chkE G N e sc x
  | .app i e, .Expr (.Call (.Attribute (.Name x _) m ap) [y] [] cp) _ => decide (m = "append") && (ap.endLine == cp.line) && vrB N sc i x && chkE G N e sc y
  | .ext i e, .Expr (.Call (.Attribute (.Name x _) m ap) [y] [] cp) _ => decide (m = "extend") && (ap.endLine == cp.line) && vrB N sc i x && chkE G N e sc y
  | .asg i e _, .Assign [.Name x p] y pos => decide (N[i]? = some x) && locB sc x && !otherComp y && chkE G N e sc y
  | .asgT t e, .Assign [.Tuple ts _ _] y _ => !isLc y && !otherComp y && plainT sc ts y && chkTs N sc (fun _ => true) t ts && chkE G N e sc y
  | .par2 i j es, .Assign [.Tuple [.Name x p, .Name y q] _ _] (.Tuple [a, b] _ _) _ => decide (N[i]? = some x) && decide (N[j]? = some y) && decide (i ≠ j) && decide (x ≠ y) && decide (sc.names.lookup x = some .local) && decide (sc.names.lookup y = some .local) &&
      (q.line == p.line) && !([a, b].all (foldedForSure 8)) && !([a, b].all (constantsAlone 8)) && chkA G N es sc [a, b]
  | .par3 i j k es, .Assign [.Tuple [.Name x p, .Name y q, .Name z r] _ _] (.Tuple [a, b, c] _ _) _ => decide (N[i]? = some x) && decide (N[j]? = some y) && decide (N[k]? = some z) && decide (i ≠ j) && decide (i ≠ k) && decide (j ≠ k) && decide (x ≠ y) && decide (x ≠ z) && decide (y ≠ z) &&
      decide (sc.names.lookup x = some .local) && decide (sc.names.lookup y = some .local) && decide (sc.names.lookup z = some .local) &&
      (q.line == p.line) && (r.line == p.line) && !([a, b, c].all (foldedForSure 8)) && !([a, b, c].all (constantsAlone 8)) && chkA G N es sc [a, b, c]
  | .pk2 i j _ _ e1 e2, .Assign [.Tuple [.Name x p, .Name y q] _ _] (.Tuple [a, b] k2 pt2) _ => (decide (N[i]? = some x) && decide (N[j]? = some y) && decide (i ≠ j) && decide (x ≠ y) && decide (sc.names.lookup x = some .local) && decide (sc.names.lookup y = some .local) &&
      (q.line == p.line) && !([a, b].all (foldedForSure 8)) && !([a, b].all (constantsAlone 8)) && (chkE G N e1 sc a && chkE G N e2 sc b)) ||
      (plainT sc [.Name x p, .Name y q] (.Tuple [a, b] k2 pt2) && chkTs N sc (fun _ => true) (.cons (.n i) (.cons (.n j) .nil)) [.Name x p, .Name y q] && (chkE G N e1 sc a && chkE G N e2 sc b))
  | .pk3 i j k _ _ _ e1 e2 e3, .Assign [.Tuple [.Name x p, .Name y q, .Name z r] _ _] (.Tuple [a, b, c] _ _) _ => decide (N[i]? = some x) && decide (N[j]? = some y) && decide (N[k]? = some z) && decide (i ≠ j) && decide (i ≠ k) && decide (j ≠ k) && decide (x ≠ y) && decide (x ≠ z) && decide (y ≠ z) &&
      decide (sc.names.lookup x = some .local) && decide (sc.names.lookup y = some .local) && decide (sc.names.lookup z = some .local) &&
      (q.line == p.line) && (r.line == p.line) && !([a, b, c].all (foldedForSure 8)) && !([a, b, c].all (constantsAlone 8)) && (chkE G N e1 sc a && chkE G N e2 sc b && chkE G N e3 sc c)
  | .aug i o e, .AugAssign (.Name x _) p y _ => decide (o = p) && decide (N[i]? = some x) && locB sc x && chkE G N e sc y
  | .setI i x e, .Assign [.Subscript (.Name n _) ix _] y _ => notSl ix && !isLc y && !otherComp y && vrB N sc i n && chkE G N x sc ix && chkE G N e sc y
  | .ret e, .Return (some y) _ => chkE G N e sc y
  | .retN, .Return none _ => true
  | .ite c a b, .If t xs ys _ => tstB c && chkE G N c sc t && chkL G N sc a xs && chkL G N sc b ys
  | .whl c a, .While t xs [] _ => tstB c && chkE G N c sc t && chkL G N sc a xs
  | .for_ t src a, .For tg it xs [] _ => chkT N sc (fun _ => true) t tg && chkI G N src sc tg it && chkL G N sc a xs
  | .brk, .Break _ => true
  | .cont, .Continue _ => true
  | .rs c .nil, .Raise (some (.Call (.Name x _) [] [] _)) none _ => decide (G.cls[c]? = some x) && glB sc x && nmB x
  | .tr n b hs, .Try body hds [] [] _ => decide (n = G.cls.length) && chkL G N sc b body && chkH G N sc hs hds && !hds.isEmpty
  | _, _ => false
def chkL (G : Gm) (N : List Str) (sc : Scope) : S → List Stmt → Bool
  | .nil, [] => true
  | .cons a b, x :: xs => chkS G N sc a x && chkL G N sc b xs
  | _, _ => false
def chkH (G : Gm) (N : List Str) (sc : Scope) : S → List ExceptHandler → Bool
  | .nil, [] => true
  | .hd c su rest, .ExceptHandler (some (.Name x _)) none (b :: suite) _ :: hs => decide (G.cls[c]? = some x) && glB sc x && nmB x && chkM G N sc su (b :: suite) && chkH G N sc rest hs
  | .hdA c i t z rest, .ExceptHandler (some (.Name x _)) (some n) [.Assign [.Name y _] (.List [.Constant (.str z2) _ _, .Call (.Name l _) [.Name m _, .Name ve _] [] _] _) _] _ :: hs => (decide (G.cls[c]? = some x) && glB sc x && nmB x && chkH G N sc rest hs) &&
      (G.isv && decide (N[i]? = some n) && decide (N[t]? = some y) && decide (i ≠ t ∧ i ≠ 0) && decide (sc.names.lookup n = some .local) && locB sc y && decide (z2 = z) && decide (l = "isinstance") && glB sc l && decide (m = n) && nmB m && decide (ve = "ValueError") && glB sc ve)
  | _, _ => false
/-- what may stand behind an except -/
def chkM (G : Gm) (N : List Str) (sc : Scope) : S → List Stmt → Bool
  | .nil, [] => true
  | .cons a b, x :: xs => chkM1 G N sc a x && chkM G N sc b xs
  | _, _ => false
def chkM1 (G : Gm) (N : List Str) (sc : Scope) : S → Stmt → Bool
  | .asg i e _, .Assign [.Name x p] y pos => smpE e && decide (N[i]? = some x) && locB sc x && !otherComp y && !isLc y && chkE G N e sc y
  | _, _ => false
end
end TD

set_option maxHeartbeats 1000000
namespace TD
open PySem PySem.Spec PyProof.Rows L2

/-! ### from one state of the frame to the next -/
structure Nf (K : PySem.W.Frag) (bw : Bool) (Fz : Addr → Prop) (H : Hp) (en : En) (σ : SS) (Fz1 : Addr → Prop) (H1 : Hp) (e1 : En) (σ1 : SS) : Prop where
  stp : Stp Fz (Ow en σ) H Fz1 H1
  er : Er K Fz1 H1 e1 σ1
  own : ∀ a, Ow e1 σ1 a → Ow en σ a ∨ H a = none
  bw : bw = true → σ1[0]? = σ[0]?
/-- what is handed back, by what was and is a slot's own -/
def Wg (K : PySem.W.Frag) (O0 : Addr → Prop) (H0 : Hp) (Fz : Addr → Prop) (H : Hp) (O : Addr → Prop) : W → V → Prop
  | .v d, x => VR K Fz H d x
  | .own ds, x => ∃ a xs, x = V.ref a ∧ H a = some (.lst xs) ∧ ¬ Fz a ∧ ¬ O a ∧ (H0 a = none ∨ O0 a) ∧ VRs K Fz H ds xs
  | .scr _, _ => False
theorem Wr.wg {K : PySem.W.Frag} {σ : SS} {H0 H : Hp} {e0 e : En} {Fz : Addr → Prop} {w : W} {x : V} (h : Wr K σ H0 e0 Fz H e w x) : Wg K (Ow e0 σ) H0 Fz H (Ow e σ) w x := by
  cases w <;> exact h
def SatF (K : PySem.W.Frag) (bw : Bool) (cl : Nat → Value) (Wx : WX) (Fz : Addr → Prop) (H : Hp) (en : En) (σ : SS) (r : Fl) (D : Ends) : Prop := match r with
  | .nx e1 => ∀ Fz1 H1 σ1, Nf K bw Fz H en σ Fz1 H1 e1 σ1 → D.nx σ1 H1
  | .bk e1 => ∀ Fz1 H1 σ1, Nf K bw Fz H en σ Fz1 H1 e1 σ1 → D.bk σ1 H1
  | .ct e1 => ∀ Fz1 H1 σ1, Nf K bw Fz H en σ Fz1 H1 e1 σ1 → D.ct σ1 H1
  | .ret w e1 => ∀ Fz1 H1 σ1 x, Nf K bw Fz H en σ Fz1 H1 e1 σ1 → Wg K (Ow en σ) H Fz1 H1 (Ow e1 σ1) w x → D.rt x H1
  | .exc c p e1 => ∀ Fz1 H1 σ1 d, Nf K bw Fz H en σ Fz1 H1 e1 σ1 → Xr K Fz1 H1 p d → Wx (cl c) d σ1 H1
  | .stuck => False
section
variable {K : PySem.W.Frag} {bw : Bool} {cl : Nat → Value} {Wx : WX} {Fz Fz1 Fz2 : Addr → Prop} {H H1 H2 : Hp} {en e1 e2 : En} {σ σ1 σ2 : SS} {D : Ends}
theorem Nf.refl (R : Er K Fz H en σ) : Nf K bw Fz H en σ Fz H en σ := ⟨.refl, R, fun _ h => .inl h, fun _ => rfl⟩
theorem Nf.trans (s : Nf K bw Fz H en σ Fz1 H1 e1 σ1) (t : Nf K bw Fz1 H1 e1 σ1 Fz2 H2 e2 σ2) : Nf K bw Fz H en σ Fz2 H2 e2 σ2 :=
  ⟨s.stp.trans t.stp s.own, t.er, fun a h => by
    rcases t.own a h with h | h
    · exact s.own a h
    · exact .inr (s.stp.trk a h), fun b => (t.bw b).trans (s.bw b)⟩
theorem Nx.nf (s : Nx K σ Fz H en Fz1 H1 e1) : Nf K bw Fz H en σ Fz1 H1 e1 σ := ⟨s.stp, s.er, fun a h => .inl (s.own a h), fun _ => rfl⟩
theorem Ot.nf {sl : List Nat} (o : Ot K Fz H bw sl en e1 σ σ1) : Nf K bw Fz H en σ Fz H e1 σ1 := ⟨.refl, o.er, fun a h => .inl (o.own a h), o.bw⟩
theorem Wg.shift {O : Addr → Prop} {w : W} {x : V} (s : Nf K bw Fz H en σ Fz1 H1 e1 σ1) (h : Wg K (Ow e1 σ1) H1 Fz2 H2 O w x) : Wg K (Ow en σ) H Fz2 H2 O w x := by
  cases w with
  | v d => exact h
  | scr d => exact h
  | own ds =>
    obtain ⟨a, xs, h1, h2, h3, h4, h5, h6⟩ := h
    refine ⟨a, xs, h1, h2, h3, h4, ?_, h6⟩
    rcases h5 with h5 | h5
    · exact .inl (s.stp.trk a h5)
    · rcases s.own a h5 with h5 | h5
      · exact .inr h5
      · exact .inl h5
theorem SatF.shift {r : Fl} (s : Nf K bw Fz H en σ Fz1 H1 e1 σ1) (h : SatF K bw cl Wx Fz H en σ r D) : SatF K bw cl Wx Fz1 H1 e1 σ1 r D := by
  cases r with
  | nx e => exact fun Fz2 H2 σ2 t => h Fz2 H2 σ2 (s.trans t)
  | bk e => exact fun Fz2 H2 σ2 t => h Fz2 H2 σ2 (s.trans t)
  | ct e => exact fun Fz2 H2 σ2 t => h Fz2 H2 σ2 (s.trans t)
  | ret w e => exact fun Fz2 H2 σ2 x t q => h Fz2 H2 σ2 x (s.trans t) (q.shift s)
  | exc c p e => exact fun Fz2 H2 σ2 d t q => h Fz2 H2 σ2 d (s.trans t) q
  | stuck => exact h
theorem SatF.mono {r : Fl} {D' : Ends} (h : SatF K bw cl Wx Fz H en σ r D) (h1 : ∀ σ H, D.nx σ H → D'.nx σ H) (h2 : ∀ x H, D.rt x H → D'.rt x H) (h3 : ∀ σ H, D.bk σ H → D'.bk σ H) (h4 : ∀ σ H, D.ct σ H → D'.ct σ H) : SatF K bw cl Wx Fz H en σ r D' := by
  cases r with
  | nx e => exact fun Fz2 H2 σ2 t => h1 _ _ (h Fz2 H2 σ2 t)
  | bk e => exact fun Fz2 H2 σ2 t => h3 _ _ (h Fz2 H2 σ2 t)
  | ct e => exact fun Fz2 H2 σ2 t => h4 _ _ (h Fz2 H2 σ2 t)
  | ret w e => exact fun Fz2 H2 σ2 x t q => h2 _ _ (h Fz2 H2 σ2 x t q)
  | exc c p e => exact h
  | stuck => exact h
/-- behind an expression: with the value as it comes -/
theorem SatF.fl {r : Rs W} {f : W → En → Fl} {Q : VK} (h : SatF K bw cl Wx Fz H en σ (r.fl f) D)
    (k : ∀ (w : W) (e1 : En) (Fz1 : Addr → Prop) (H1 : Hp) (x : V), Nx K σ Fz H en Fz1 H1 e1 → Wr K σ H en Fz1 H1 e1 w x → SatF K bw cl Wx Fz1 H1 e1 σ (f w e1) D → Q x H1) : Sat K σ cl Wx Fz H en r Q := by
  cases r with
  | ok w e1 => exact fun Fz1 H1 x s q => k w e1 Fz1 H1 x s q (SatF.shift s.nf h)
  | exc c p e1 => exact fun Fz1 H1 d s q => h Fz1 H1 σ d s.nf q
  | stuck => exact h
theorem SatF.flV {r : Rs W} {f : W → En → Fl} {Q : VK} (h : SatF K bw cl Wx Fz H en σ (r.fl f) D)
    (k : ∀ (w : W) (e1 : En) (Fz1 : Addr → Prop) (H1 : Hp) (x : V), Nx K σ Fz H en Fz1 H1 e1 → VR K Fz1 H1 w.val x → SatF K bw cl Wx Fz1 H1 e1 σ (f w e1) D → Q x H1) : Sat K σ cl Wx Fz H en r Q := by
  cases r with
  | ok w e1 =>
    intro Fz1 H1 x s q
    obtain ⟨Fz2, s2, v⟩ := q.freeze s
    exact k w e1 Fz2 H1 x s2 v (SatF.shift s2.nf h)
  | exc c p e1 => exact fun Fz1 H1 d s q => h Fz1 H1 σ d s.nf q
  | stuck => exact h
theorem SatF.flA {r : Rs W} {f : W → En → Fl} {Q : List V → Hp → Prop} (h : SatF K bw cl Wx Fz H en σ (r.fl f) D) (hv : ∀ w e1, (∀ ds, w ≠ W.own ds) → f w e1 = .stuck)
    (k : ∀ (ds : List PyData) (e1 : En) (Fz1 : Addr → Prop) (H1 : Hp) (xs : List V), Nx K σ Fz H en Fz1 H1 e1 → VRs K Fz1 H1 ds xs → SatF K bw cl Wx Fz1 H1 e1 σ (f (.own ds) e1) D → Q xs H1) : SatA K σ cl Wx Fz H en r Q := by
  cases r with
  | ok w e1 =>
    cases w with
    | own ds => exact fun Fz1 H1 xs s q => k ds e1 Fz1 H1 xs s q (SatF.shift s.nf h)
    | v d =>
      have h' : SatF K bw cl Wx Fz H en σ (f (.v d) e1) D := h
      rw [hv _ _ (by intro ds z; cases z)] at h'
      exact h'
    | scr d =>
      have h' : SatF K bw cl Wx Fz H en σ (f (.scr d) e1) D := h
      rw [hv _ _ (by intro ds z; cases z)] at h'
      exact h'
  | exc c p e1 => exact fun Fz1 H1 d s q => h Fz1 H1 σ d s.nf q
  | stuck => exact h
theorem SatF.bl {r : Rs W} {f : W → En → Fl} {Q1 : Bool → Hp → Prop} (h : SatF K bw cl Wx Fz H en σ (r.fl f) D) (hf : ∀ w e1, (∀ b, w.val ≠ .bool b) → f w e1 = .stuck)
    (k : ∀ (b : Bool) (w : W) (e1 : En) (Fz1 : Addr → Prop) (H1 : Hp), w.val = .bool b → Nx K σ Fz H en Fz1 H1 e1 → SatF K bw cl Wx Fz1 H1 e1 σ (f w e1) D → Q1 b H1) :
    Sat K σ cl Wx Fz H en r (fun v H1 => ∃ b, v = .bl b ∧ Q1 b H1) := by
  refine h.flV fun w e1 Fz1 H1 v s r h => ?_
  by_cases hw : ∃ b, w.val = .bool b
  · obtain ⟨b, hb⟩ := hw
    rw [hb] at r
    cases r
    exact ⟨b, rfl, k b w e1 Fz1 H1 hb s h⟩
  · rw [hf w e1 fun b q => hw ⟨b, q⟩] at h
    exact h.elim
/-- a name's store, of whatever came -/
theorem nf_store {i : Nat} {w : W} {v : V} (s : Nx K σ Fz H en Fz1 H1 e1) (q : Wr K σ H en Fz1 H1 e1 w v) (h : stI bw i w e1 = some e2) : Nf K bw Fz H en σ Fz1 H1 e2 (σ.set i (some v)) := by
  obtain ⟨h1, h2, rfl⟩ := stI_inv h
  have R := s.er
  have hi : (σ.set i (some v))[i]? = some (some v) := by
    rw [List.getElem?_set_self]
    rw [← R.len]; exact h2
  have ho : ∀ j, j ≠ i → (σ.set i (some v))[j]? = σ[j]? := fun j n => List.getElem?_set_ne (Ne.symm n)
  cases w with
  | scr d => exact q.elim
  | v d =>
    have o := ot_set R q h
    exact (Nx.nf s).trans o.nf
  | own ds =>
    obtain ⟨a, xs, rfl, q2, q3, q4, q5, q6⟩ := q
    refine ⟨s.stp, R.upd (List.length_set ..) ho ⟨a, xs, hi, q2, q3, q6, fun j es n z1 z2 => q4 ⟨j, es, z1, z2⟩⟩, fun b ⟨j, es, z1, z2⟩ => ?_, fun b => ho 0 fun e => h1 b e.symm⟩
    rcases set_cases z1 with ⟨rfl, e⟩ | ⟨n, e⟩
    · rw [hi] at z2
      cases z2
      exact q5.symm
    · rw [ho j n] at z2
      exact .inl (s.own b ⟨j, es, e, z2⟩)
end
def JS (X : Cx) (st : Stmt) : TS := fun D σ H => ∀ (pins : List (Addr × Obj)) (s : Shared), Inv X pins σ H s → wpAny (model X.prog X.w) X.A (exec st X.env) (SP X pins D) X.xe s
def JL (X : Cx) (st : List Stmt) : TS := fun D σ H => ∀ (pins : List (Addr × Obj)) (s : Shared), Inv X pins σ H s → wpAny (model X.prog X.w) X.A (execs st X.env) (SP X pins D) X.xe s
theorem JS.ps (X : Cx) (st : Stmt) : PS X st (JS X st) := ⟨fun pins s _ _ _ I h => h pins s I⟩
theorem JS.of {X : Cx} {st : Stmt} {t : TS} {σ : SS} {H : Hp} {D : Ends} (h : PS X st t) (q : t D σ H) : JS X st D σ H := fun pins s I => h.run pins s σ H D I q
theorem JL.pss (X : Cx) (st : List Stmt) : PSs X st (JL X st) := ⟨fun pins s _ _ _ I h => h pins s I⟩
theorem JL.of {X : Cx} {st : List Stmt} {t : TS} {σ : SS} {H : Hp} {D : Ends} (h : PSs X st t) (q : t D σ H) : JL X st D σ H := fun pins s I => h.run pins s σ H D I q
structure Dt.Cs (D : Dt) (X : Cx) (N : List Str) (sc : Scope) (Wx : WX) : Prop where
  c : D.C X N sc Wx
  fn : ∀ x, X.fn x = true
  own : PassesOwn (model X.prog X.w) X.A X.env X.xe
  kind : sc.kind = .function
  stk : X.stack = X.env :: X.outer
  frm : X.env.frame = some X.env.locals
/-- the exceptions' classes -/
structure Dt.Ce (D : Dt) : Prop where
  cls : ∀ (c : Nat) (x : Str), D.G.cls[c]? = some x → D.mg x = some (D.cl c) ∧ ∃ C B newId initId bm, D.cl c = .ref C ∧ PySem.W.keepIn D.K (.ref C) = true ∧ ExcBaseFacts B newId initId bm ∧ PySem.W.excIn D.K C bm newId = true ∧
    PySem.W.subIn D.K (.ref C) (.type "BaseException") = some true ∧ PySem.W.typeIn D.K (.ref C) = some (.type "type")
  exm : ∀ (c d : Nat), c < D.G.cls.length → d < D.G.cls.length → PySem.W.exmOne D.K (D.cl c) (D.cl d) = some (decide (d = c))
  isv : D.G.isv = true → D.mg "ValueError" = none ∧ ∀ (c : Nat), c < D.G.cls.length → ∃ C, D.cl c = .ref C ∧ ExcC D.K C ∧ PySem.W.kitOne D.K (.ref C) (.type "ValueError") = some true
def SSt (D : Dt) (bw : Bool) (S : S) : Prop := ∀ (X : Cx) (N : List Str) (sc : Scope) (Wx : WX), D.Cs X N sc Wx → ∀ st, chkS D.G N sc S st = true → ∀ (σ : SS) (Fz : Addr → Prop) (H : Hp) (en : En) (Dd : Ends), Er D.K Fz H en σ →
  SatF D.K bw D.cl Wx Fz H en σ (ex D.cs D.cf bw S en) Dd → JS X st Dd σ H
def SSl (D : Dt) (bw : Bool) (S : S) : Prop := ∀ (X : Cx) (N : List Str) (sc : Scope) (Wx : WX), D.Cs X N sc Wx → ∀ st, chkL D.G N sc S st = true → ∀ (σ : SS) (Fz : Addr → Prop) (H : Hp) (en : En) (Dd : Ends), Er D.K Fz H en σ →
  SatF D.K bw D.cl Wx Fz H en σ (ex D.cs D.cf bw S en) Dd → JL X st Dd σ H
section
variable {D : Dt} {bw : Bool}
theorem ss_pass : SSt D bw .pass := by
  intro X N sc Wx C st hx σ Fz H en Dd R h
  cases st <;> first | exact (Bool.false_ne_true hx).elim | skip
  exact JS.of ps_pass (h Fz H σ (.refl R))
theorem ss_brk : SSt D bw .brk := by
  intro X N sc Wx C st hx σ Fz H en Dd R h
  cases st <;> first | exact (Bool.false_ne_true hx).elim | skip
  exact JS.of ps_break (h Fz H σ (.refl R))
theorem ss_cont : SSt D bw .cont := by
  intro X N sc Wx C st hx σ Fz H en Dd R h
  cases st <;> first | exact (Bool.false_ne_true hx).elim | skip
  exact JS.of ps_continue (h Fz H σ (.refl R))
theorem sl_nil : SSl D bw .nil := by
  intro X N sc Wx C st hx σ Fz H en Dd R h
  cases st with
  | nil => exact JL.of pss_nil (h Fz H σ (.refl R))
  | cons _ _ => exact (Bool.false_ne_true hx).elim
theorem sl_cons {a b : S} (ha : SSt D bw a) (hb : SSl D bw b) : SSl D bw (.cons a b) := by
  intro X N sc Wx C st hx σ Fz H en Dd R h
  cases st with
  | nil => exact (Bool.false_ne_true hx).elim
  | cons x xs =>
    have h' : (chkS D.G N sc a x && chkL D.G N sc b xs) = true := hx
    rw [Bool.and_eq_true] at h'
    refine JL.of (pss_cons (JS.ps X x) (JL.pss X xs)) ?_
    refine ha X N sc Wx C x h'.1 σ Fz H en { Dd with nx := JL X xs Dd } R ?_
    have h : SatF D.K bw D.cl Wx Fz H en σ ((ex D.cs D.cf bw a en).seq fun e1 => ex D.cs D.cf bw b e1) Dd := h
    cases hr : ex D.cs D.cf bw a en with
    | nx e1 =>
      rw [hr] at h
      exact fun Fz1 H1 σ1 s => hb X N sc Wx C xs h'.2 σ1 Fz1 H1 e1 Dd s.er (SatF.shift s h)
    | bk e1 => rw [hr] at h; exact h
    | ct e1 => rw [hr] at h; exact h
    | ret w e1 => rw [hr] at h; exact h
    | exc c p e1 => rw [hr] at h; exact h
    | stuck => rw [hr] at h; exact h
theorem ss_exp {e : E} (O : D.Ok) : SSt D bw (.exp e) := by
  intro X N sc Wx C st hx σ Fz H en Dd R h
  cases st <;> first | exact (Bool.false_ne_true hx).elim | skip
  rename_i x pos
  have h' : (!isLc x && !otherComp x && chkE D.G N e sc x) = true := hx
  simp only [Bool.and_eq_true, Bool.not_eq_true'] at h'
  obtain ⟨⟨h1, h2⟩, h3⟩ := h'
  have hs : swapsWith x none pos.line X.env = pure false := by
    cases x <;> first | rfl | exact (Bool.false_ne_true h1.symm).elim | exact (Bool.false_ne_true h2.symm).elim
  refine JS.of (ps_expr (JE.pe X x) hs) ?_
  exact (all_E O e).e X N sc Wx C.c x h3 σ Fz H en _ R (SatF.fl h fun w e1 Fz1 H1 v s q h => h Fz1 H1 σ (.refl s.er))
theorem ss_ret {e : E} (O : D.Ok) : SSt D bw (.ret e) := by
  intro X N sc Wx C st hx σ Fz H en Dd R h
  cases st <;> first | exact (Bool.false_ne_true hx).elim | skip
  rename_i v pos
  cases v with
  | none => exact (Bool.false_ne_true hx).elim
  | some y =>
    refine JS.of (ps_ret (JE.pe X y)) ?_
    refine (all_E O e).e X N sc Wx C.c y hx σ Fz H en _ R ?_
    have h : SatF D.K bw D.cl Wx Fz H en σ ((ev D.cs D.cf e en).fl fun w e1 => .ret w e1) Dd := h
    cases hr : ev D.cs D.cf e en with
    | ok w e1 =>
      rw [hr] at h
      exact fun Fz1 H1 x s q => h Fz1 H1 σ x s.nf q.wg
    | exc c p e1 =>
      rw [hr] at h
      exact fun Fz1 H1 d s q => h Fz1 H1 σ d s.nf q
    | stuck => rw [hr] at h; exact h
theorem ss_retN : SSt D bw .retN := by
  intro X N sc Wx C st hx σ Fz H en Dd R h
  cases st <;> first | exact (Bool.false_ne_true hx).elim | skip
  rename_i v pos
  cases v with
  | some _ => exact (Bool.false_ne_true hx).elim
  | none => exact JS.of ps_retN (h Fz H σ .non (.refl R) .non)
theorem ss_ite {c : E} {a b : S} (O : D.Ok) (ha : SSl D bw a) (hb : SSl D bw b) : SSt D bw (.ite c a b) := by
  intro X N sc Wx C st hx σ Fz H en Dd R h
  cases st <;> first | exact (Bool.false_ne_true hx).elim | skip
  rename_i t xs ys pos
  have h' : (tstB c && chkE D.G N c sc t && chkL D.G N sc a xs && chkL D.G N sc b ys) = true := hx
  simp only [Bool.and_eq_true] at h'
  obtain ⟨⟨⟨h0, h1⟩, h2⟩, h3⟩ := h'
  refine JS.of (ps_if (JT.pt X t) (JL.pss X xs) (JL.pss X ys)) ?_
  simp only [ex] at h
  refine (all_E O c).t X N sc Wx C.c h0 t h1 σ Fz H en _ R (SatF.bl h (fun w e1 hw => ?_) fun k w e1 Fz1 H1 hk s h => ?_)
  · split
    · rename_i q; exact absurd q (hw _)
    · rename_i q; exact absurd q (hw _)
    · rfl
  · rw [hk] at h
    cases k with
    | true =>
      rw [if_pos rfl]
      exact ha X N sc Wx C xs h2 σ Fz1 H1 e1 Dd s.er h
    | false =>
      rw [if_neg Bool.false_ne_true]
      exact hb X N sc Wx C ys h3 σ Fz1 H1 e1 Dd s.er h
theorem Nf.vr {K : PySem.W.Frag} {Fz Fz1 : Addr → Prop} {H H1 : Hp} {en e1 : En} {σ σ1 : SS} (R : Er K Fz H en σ) (s : Nf K bw Fz H en σ Fz1 H1 e1 σ1) {d : PyData} {x : V} (h : VR K Fz H d x) : VR K Fz1 H1 d x := h.mono s.stp R.ol
theorem ss_whl {c : E} {a : S} (O : D.Ok) (ha : SSl D bw a) : SSt D bw (.whl c a) := by
  intro X N sc Wx C st hx σ Fz H en Dd R h
  cases st <;> first | exact (Bool.false_ne_true hx).elim | skip
  rename_i t xs ys pos
  cases ys with
  | cons _ _ => exact (Bool.false_ne_true hx).elim
  | nil =>
    have h' : (tstB c && chkE D.G N c sc t && chkL D.G N sc a xs) = true := hx
    simp only [Bool.and_eq_true] at h'
    obtain ⟨⟨h0, h1⟩, h2⟩ := h'
    refine JS.of (ps_while C.own (JT.pt X t) (JL.pss X xs)) ?_
    have h : SatF D.K bw D.cl Wx Fz H en σ (whlL (fun e1 => ev D.cs D.cf c e1) (fun e1 => ex D.cs D.cf bw a e1) most en) Dd := h
    refine ⟨fun m σ' H' => ∃ Fz' e', Er D.K Fz' H' e' σ' ∧ SatF D.K bw D.cl Wx Fz' H' e' σ' (whlL (fun e1 => ev D.cs D.cf c e1) (fun e1 => ex D.cs D.cf bw a e1) m e') Dd, ⟨most, Fz, en, R, h⟩, ?_⟩
    rintro m σ' H' ⟨Fz', e', R', h⟩
    cases m with
    | zero => exact h.elim
    | succ m =>
      simp only [whlL] at h
      refine (all_E O c).t X N sc Wx C.c h0 t h1 σ' Fz' H' e' _ R' (SatF.bl h (fun w e1 hw => ?_) fun k w e1 Fz1 H1 hk s h => ?_)
      · split
        · rename_i q; exact absurd q (hw _)
        · rename_i q; exact absurd q (hw _)
        · rfl
      · rw [hk] at h
        cases k with
        | false =>
          rw [if_neg Bool.false_ne_true]
          exact h Fz1 H1 σ' (.refl s.er)
        | true =>
          rw [if_pos rfl]
          refine ⟨fun σ2 H2 => ∃ Fz2 e2, Er D.K Fz2 H2 e2 σ2 ∧ SatF D.K bw D.cl Wx Fz2 H2 e2 σ2 (whlL (fun e1 => ev D.cs D.cf c e1) (fun e1 => ex D.cs D.cf bw a e1) m e2) Dd, fun σ2 H2 q => ⟨m, Nat.lt_succ_self m, q⟩, ?_⟩
          refine ha X N sc Wx C xs h2 σ' Fz1 H1 e1 _ s.er ?_
          have h : SatF D.K bw D.cl Wx Fz1 H1 e1 σ' (match ex D.cs D.cf bw a e1 with
            | .nx e2 => whlL (fun e1 => ev D.cs D.cf c e1) (fun e1 => ex D.cs D.cf bw a e1) m e2
            | .ct e2 => whlL (fun e1 => ev D.cs D.cf c e1) (fun e1 => ex D.cs D.cf bw a e1) m e2
            | .bk e2 => .nx e2
            | r => r) Dd := h
          cases hr : ex D.cs D.cf bw a e1 with
          | nx e2 => rw [hr] at h; exact fun Fz2 H2 σ2 s2 => ⟨Fz2, e2, s2.er, SatF.shift s2 h⟩
          | ct e2 => rw [hr] at h; exact fun Fz2 H2 σ2 s2 => ⟨Fz2, e2, s2.er, SatF.shift s2 h⟩
          | bk e2 => rw [hr] at h; exact h
          | ret w e2 => rw [hr] at h; exact h
          | exc c p e2 => rw [hr] at h; exact h
          | stuck => rw [hr] at h; exact h
theorem ss_for {t : T} {src : E} {a : S} (O : D.Ok) (ha : SSl D bw a) : SSt D bw (.for_ t src a) := by
  intro X N sc Wx C st hx σ Fz H en Dd R h
  cases st <;> first | exact (Bool.false_ne_true hx).elim | skip
  rename_i tg it xs ys pos
  cases ys with
  | cons _ _ => exact (Bool.false_ne_true hx).elim
  | nil =>
    have h' : (chkT N sc (fun _ => true) t tg && chkI D.G N src sc tg it && chkL D.G N sc a xs) = true := hx
    simp only [Bool.and_eq_true] at h'
    obtain ⟨⟨h1, h2⟩, h3⟩ := h'
    refine JS.of (ps_for C.own C.c.calm (JI.pi X tg it) (JG.pg X tg) (JL.pss X xs) (folded_of (chkI_set h2))) ?_
    refine (all_E O src).i X N sc Wx C.c tg it h2 σ Fz H en _ R ?_
    have h : SatF D.K bw D.cl Wx Fz H en σ ((ev D.cs D.cf src en).fl fun x e1 => match seqOf x.val with
      | some ds => forL (fun d e2 => match asT bw t d e2 with
          | some e3 => ex D.cs D.cf bw a e3
          | none => .stuck) ds e1
      | none => .stuck) Dd := h
    generalize hF : (fun (d : PyData) (e2 : En) => match asT bw t d e2 with
          | some e3 => ex D.cs D.cf bw a e3
          | none => Fl.stuck) = F at h
    cases hr : ev D.cs D.cf src en with
    | stuck => rw [hr] at h; exact h
    | exc c p e1 => rw [hr] at h; exact fun Fz1 H1 d s q => h Fz1 H1 σ d s.nf q
    | ok w e1 =>
      rw [hr] at h
      have h : SatF D.K bw D.cl Wx Fz H en σ (match seqOf w.val with
        | some ds => forL F ds e1
        | none => .stuck) Dd := h
      cases hd : seqOf w.val with
      | none => rw [hd] at h; exact h.elim
      | some ds =>
        rw [hd] at h
        refine ⟨ds, hd, fun Fz1 H1 J s j => ?_⟩
        have h : SatF D.K bw D.cl Wx Fz1 H1 e1 σ (forL F ds e1) Dd := SatF.shift s.nf h
        have R1 := s.er
        refine ⟨fun i m σ' H' => m = ds.length - i ∧ i ≤ ds.length ∧ ∃ Fz' e', Nf D.K bw Fz1 H1 e1 σ Fz' H' e' σ' ∧ SatF D.K bw D.cl Wx Fz' H' e' σ' (forL F (ds.drop i) e') Dd, ⟨ds.length, rfl, Nat.zero_le _, Fz1, e1, .refl R1, h⟩, ?_⟩
        rintro i m σ' H' ⟨rfl, hi, Fz', e', n, h⟩
        have jj := j Fz' H' (fun d v q => Nf.vr R1 n q) i
        by_cases hlt : i < ds.length
        · refine .inr ⟨(jj.1 hlt).1, fun σ2 H2 => ∃ Fz2 e2, Nf D.K bw Fz1 H1 e1 σ Fz2 H2 e2 σ2 ∧ SatF D.K bw D.cl Wx Fz2 H2 e2 σ2 (forL F (ds.drop (i + 1)) e2) Dd, fun σ2 H2 q => ⟨ds.length - (i + 1), by omega, rfl, hlt, q⟩, fun y H'' hy => ?_⟩
          obtain ⟨d, hd', n1, vr⟩ := (jj.1 hlt).2 y H'' hy e' σ' n.er
          rw [drop_cons hd'] at h
          have n2 := n.trans n1.nf
          have h : SatF D.K bw D.cl Wx Fz' H'' e' σ' (match F d e' with
            | .nx e2 => forL F (ds.drop (i + 1)) e2
            | .ct e2 => forL F (ds.drop (i + 1)) e2
            | .bk e2 => .nx e2
            | r => r) Dd := SatF.shift n1.nf h
          cases hat : asT bw t d e' with
          | none =>
            have e : F d e' = .stuck := by rw [← hF]; simp only [hat]
            rw [e] at h
            exact h.elim
          | some e3 =>
            have e : F d e' = ex D.cs D.cf bw a e3 := by rw [← hF]; simp only [hat]
            rw [e] at h
            refine sg C.c (fun x _ => C.fn x) (bw := bw) t tg h1 d y σ' Fz' H'' e' e3 _ n1.er vr hat fun σ2 o => ?_
            have n3 := n2.trans o.nf
            have h := SatF.shift o.nf h
            refine ha X N sc Wx C xs h3 σ2 Fz' H'' e3 _ o.er ?_
            cases hr : ex D.cs D.cf bw a e3 with
            | nx e4 => rw [hr] at h; exact fun Fz2 H2 σ3 s2 => ⟨Fz2, e4, n3.trans s2, SatF.shift s2 h⟩
            | ct e4 => rw [hr] at h; exact fun Fz2 H2 σ3 s2 => ⟨Fz2, e4, n3.trans s2, SatF.shift s2 h⟩
            | bk e4 => rw [hr] at h; exact h
            | ret w e4 => rw [hr] at h; exact h
            | exc c p e4 => rw [hr] at h; exact h
            | stuck => rw [hr] at h; exact h
        · have ei : i = ds.length := by omega
          subst ei
          rw [List.drop_length] at h
          exact .inl ⟨jj.2 (Nat.le_refl _), h Fz' H' σ' (.refl n.er)⟩
end
end TD

set_option maxHeartbeats 1000000
namespace TD
open PySem PySem.Spec PyProof.Rows L2
section
variable {D : Dt} {bw : Bool}
theorem sw_eq {X : Cx} {sc : Scope} {y : Expr} {x : Str} {p : Pos} {l : Nat} (hs : X.env.scope = sc) (hk : sc.kind = .function) (ho : otherComp y = false) : swapsWith y (some (.Name x p)) l X.env = pure (swB sc y x p.line) := by
  cases y <;> first | rfl | exact (Bool.false_ne_true ho.symm).elim | skip
  rename_i elt gens s q
  have hb : X.env.blockKind = .function := by unfold Env.blockKind; rw [hs, hk]; rfl
  show (pure (X.env.blockKind == .function && X.env.kindOf x == some .local && p.line == q.line && !(s.names.any fun (n, k) => n == x && (k == .local || k == .cell))) : Sem Bool) = pure (decide (sc.names.lookup x = some .local) && (p.line == q.line) && !(s.names.any fun (n, k) => n == x && (k == .local || k == .cell)))
  have hkx : X.env.kindOf x = sc.names.lookup x := by show X.env.scope.names.lookup x = _; rw [hs]
  rw [hb, hkx]
  cases hl : sc.names.lookup x with
  | none => rfl
  | some k => cases k <;> rfl
theorem ss_asg {i : Nat} {e : E} {kp : Bool} (O : D.Ok) : SSt D bw (.asg i e kp) := by
  intro X N sc Wx C st hx σ Fz H en Dd R h
  cases st <;> first | exact (Bool.false_ne_true hx).elim | skip
  rename_i ts y pos
  cases ts with
  | nil => exact (Bool.false_ne_true hx).elim
  | cons t r =>
    cases r with
    | cons _ _ => cases t <;> exact (Bool.false_ne_true hx).elim
    | nil =>
      cases t <;> first | exact (Bool.false_ne_true hx).elim | skip
      rename_i x p
      have h' : (decide (N[i]? = some x) && locB sc x && !otherComp y && chkE D.G N e sc y) = true := hx
      simp only [Bool.and_eq_true, decide_eq_true_eq, Bool.not_eq_true'] at h'
      obtain ⟨⟨⟨h1, h2⟩, h3⟩, h4⟩ := h'
      have hs := sw_eq (l := pos.line) (p := p) (x := x) C.c.sc C.kind h3
      have hl : Loc X.env.scope x := by rw [C.c.sc]; exact locB_of h2
      have hn : X.N[i]? = some x := by rw [C.c.N]; exact h1
      have fin : Sat D.K σ D.cl Wx Fz H en (ev D.cs D.cf e en) fun v H1 => gName i v σ H1 Dd.nx := by
        have h : SatF D.K bw D.cl Wx Fz H en σ ((ev D.cs D.cf e en).fl fun w e1 => .ofE (stI bw i (w.keep kp) e1)) Dd := h
        cases hr : ev D.cs D.cf e en with
        | stuck => rw [hr] at h; exact h
        | exc c q e1 => rw [hr] at h; exact fun Fz1 H1 d s q => h Fz1 H1 σ d s.nf q
        | ok w e1 =>
          rw [hr] at h
          have h2 : SatF D.K bw D.cl Wx Fz H en σ (.ofE (stI bw i (w.keep kp) e1)) Dd := h
          clear h
          intro Fz1 H1 v s q
          cases hst : stI bw i (w.keep kp) e1 with
          | none => rw [hst] at h2; exact h2.elim
          | some e2 =>
            rw [hst] at h2
            have h3 : ∀ Fz1 H1 σ1, Nf D.K bw Fz H en σ Fz1 H1 e2 σ1 → Dd.nx σ1 H1 := h2
            cases kp with
            | true => exact h3 Fz1 H1 _ (nf_store s q hst)
            | false =>
              obtain ⟨Fz2, s2, r⟩ := q.freeze s
              exact h3 Fz2 H1 _ (nf_store s2 (w := .v w.val) r hst)
      cases hb : swB sc y x p.line with
      | false =>
        rw [hb] at hs
        exact JS.of (ps_set C.c.nd hn hl (JE.pe X y) hs (.inl (C.fn x))) ((all_E O e).e X N sc Wx C.c y h4 σ Fz H en _ R fin)
      | true =>
        rw [hb] at hs
        cases y <;> first | exact (Bool.false_ne_true hb).elim | skip
        have hlo : sc.names.lookup x = some .local := by
          have hb : (decide (sc.names.lookup x = some .local) && _ && _) = true := hb
          simp only [Bool.and_eq_true, decide_eq_true_eq] at hb
          exact hb.1.1
        cases e <;> first | exact (Bool.false_ne_true h4).elim | skip
        · rename_i vs t src c el
          obtain ⟨elt, tg, iter, ifs, scope, pos', e1, k1, k2, k3, k4, k5, k6⟩ := chk_comp h4
          cases e1
          refine JS.of (ps_setLc (own := ownL N vs) C.c.calm C.c.nd hn (by rw [C.c.sc]; exact hlo) hs (JI.pi X tg iter) (by rw [C.c.N, C.c.sc]; exact blkOk_by k1)
            (fun s H0 Cc cl fp => ⟨fun pins s' σ H v u Q I r q => q s H0 Cc cl fp pins s' u I r⟩) (fun s H0 Cc cl fp => ⟨fun pins s' σ H Q I q => q s H0 Cc cl fp pins s' I⟩)
            (fun s H0 Cc cl fp => ⟨fun pins s' σ H Q I q => q s H0 Cc cl fp pins s' I⟩) (folded_of (chkI_set k4))) (lc_read (all_E O src).i (all_E O c).c (all_E O el).e C.c k2 k3 k5 k6 k4 R fin)
        · rename_i vs t src c vs1 t1 src1 c1 el
          obtain ⟨elt, tg, iter, ifs, tg1, iter1, ifs1, scope, pos', e1, k0, k1, k2, k5, k3, l0, l1, l2, l5, l3, l4⟩ := chk_comp2 h4
          cases e1
          exact JS.of (ps_setLc2 (own := ownL N vs) (vs1 := vs1) C.c.calm C.c.nd hn (by rw [C.c.sc]; exact hlo) hs (JI.pi X tg iter) (by rw [C.c.N, C.c.sc]; exact blkOk_by k0) (vs1_in l0)
            (fun s H0 Cc cl fp => ⟨fun pins s' σ H v u Q I r q => q s H0 Cc cl fp pins s' u I r⟩) (fun s H0 Cc cl fp => ⟨fun pins s' σ H Q I q => q s H0 Cc cl fp pins s' I⟩)
            (fun s H0 Cc cl fp => ⟨fun pins s' σ H R I q => q s H0 Cc cl fp pins s' I⟩)
            (fun s H0 Cc cl fp => ⟨fun pins s' σ H v u Q I r q => q s H0 Cc cl fp pins s' u I r⟩) (fun s H0 Cc cl fp => ⟨fun pins s' σ H Q I q => q s H0 Cc cl fp pins s' I⟩)
            (fun s H0 Cc cl fp => ⟨fun pins s' σ H Q I q => q s H0 Cc cl fp pins s' I⟩) (folded_of (chkI_set k5)) (fun env => folded_of (chkI_set l5))) (lc2_read (all_E O src).i (all_E O c).c (all_E O src1).i (all_E O c1).c (all_E O el).e C.c k1 k2 k5 k3 l0 l1 l2 l5 l3 l4 R fin)
theorem sw_plain {X : Cx} {y t : Expr} {l : Nat} (h1 : isLc y = false) (h2 : otherComp y = false) : swapsWith y (some t) l X.env = pure false := by
  cases y <;> first | rfl | exact (Bool.false_ne_true h1.symm).elim | exact (Bool.false_ne_true h2.symm).elim
theorem stores_plain {X : Cx} {sc : Scope} {ts : List Expr} {y : Expr} {k : Nat} {p : Pos} (hs : X.env.scope = sc) (h : plainT sc ts y = true) : swappedStores [.Tuple ts k p] y X.env = pure none := by
  subst hs
  cases y <;> first | rfl | skip
  rename_i vs k2 p2
  have h' : ((!(ts.length == 2 || ts.length == 3) || vs.length != ts.length) || vs.all (foldedForSure 8) || ((ts.filterMap (locN X.env.scope ((ts.head?.map (·.pos.line)).getD 0))).length != ts.length)) = true := h
  rw [Bool.or_eq_true, Bool.or_eq_true] at h'
  by_cases h3 : ((ts.filterMap (locN X.env.scope ((ts.head?.map (·.pos.line)).getD 0))).length != ts.length) = true
  · show (if (!(ts.length == 2 || ts.length == 3) || vs.length != ts.length || X.env.blockKind != .function) = true then pure none else if _ = true then pure none else
      if ((ts.filterMap (locN X.env.scope ((ts.head?.map (·.pos.line)).getD 0))).length != ts.length || _) = true then pure none else _ : Sem (Option (List Str))) = pure none
    rw [h3, Bool.true_or]
    split
    · rfl
    · split
      · rfl
      · rfl
  · have h' : (!(ts.length == 2 || ts.length == 3) || vs.length != ts.length) = true ∨ vs.all (foldedForSure 8) = true := by
      rcases h' with h' | h'
      · exact h'
      · exact absurd h' h3
    unfold swappedStores
    simp only []
    split
    · rfl
    · rename_i hc
      split
      · rfl
      · split
        · rfl
        · split
          · rfl
          · rename_i hf
            rcases h' with h' | h'
            · exact absurd (by rw [Bool.or_eq_true]; exact .inl h') hc
            · exact absurd h' hf
theorem ss_asgT {t : T} {e : E} (O : D.Ok) : SSt D bw (.asgT t e) := by
  intro X N sc Wx C st hx σ Fz H en Dd R h
  cases st <;> first | exact (Bool.false_ne_true hx).elim | skip
  rename_i ts y pos
  cases ts with
  | nil => exact (Bool.false_ne_true hx).elim
  | cons t0 r =>
    cases r with
    | cons _ _ => cases t0 <;> exact (Bool.false_ne_true hx).elim
    | nil =>
      cases t0 <;> first | exact (Bool.false_ne_true hx).elim | skip
      rename_i ts k p
      have h' : (!isLc y && !otherComp y && plainT sc ts y && chkTs N sc (fun _ => true) t ts && chkE D.G N e sc y) = true := hx
      simp only [Bool.and_eq_true, Bool.not_eq_true'] at h'
      obtain ⟨⟨⟨⟨h1, h2⟩, h3⟩, h4⟩, h5⟩ := h'
      have hsw : swapsWithSole [.Tuple ts k p] y pos.line X.env = pure false := by show swapsWith y (some (.Tuple ts k p)) pos.line X.env = pure false; exact sw_plain h1 h2
      refine JS.of (ps_asg (JE.pe X y) (JG.pg X (.Tuple ts k p)) hsw (stores_plain C.c.sc h3)) ?_
      refine (all_E O e).e X N sc Wx C.c y h5 σ Fz H en _ R ?_
      have h : SatF D.K bw D.cl Wx Fz H en σ ((ev D.cs D.cf e en).fl fun w e1 => .ofE (asT bw t (unl w.val) e1)) Dd := h
      refine h.flV fun w e1 Fz1 H1 v s r h => ?_
      cases hat : asT bw t (unl w.val) e1 with
      | none => rw [hat] at h; exact h.elim
      | some e2 =>
        rw [hat] at h
        generalize w.val = d at hat r
        cases r with
        | tup a1 a3 =>
          refine sg C.c (fun x _ => C.fn x) (bw := bw) (.t t) (.Tuple ts k p) h4 _ _ σ Fz1 H1 e1 e2 _ s.er (.tup a1 a3) hat fun σ' o => ?_
          exact h Fz1 H1 σ' o.nf
        | lst a1 a2 a3 =>
          refine sg C.c (fun x _ => C.fn x) (bw := bw) (.t t) (.Tuple ts k p) h4 _ _ σ Fz1 H1 e1 e2 _ s.er (.lst a1 a2 a3) hat fun σ' o => ?_
          exact h Fz1 H1 σ' o.nf
        | _ => cases t <;> first | cases hat | (cases ts <;> exact (Bool.false_ne_true h4).elim)
end
end TD

set_option maxHeartbeats 1000000
namespace TD
open PySem PySem.Spec PyProof.Rows L2
section
variable {D : Dt} {bw : Bool}
def isSt : Expr → Bool
  | .Starred .. => true
  | _ => false
def locNm (env : Env) (line : Nat) : Expr → Option Str
  | .Name id pos => if (env.kindOf id == some .local && pos.line == line) = true then some id else none
  | _ => none
theorem stores_eq {ts vs : List Expr} {k k2 : Nat} {pt pt2 : Pos} {env : Env} {names : List Str} (h0 : (ts.length = 2 ∨ ts.length = 3)) (h1 : vs.length = ts.length) (h2 : env.blockKind = .function) (h3 : vs.any isSt = false)
    (h4 : ts.filterMap (locNm env ((ts.head?.map (·.pos.line)).getD 0)) = names) (h5 : names.length = ts.length) (h6 : names.eraseDups.length = names.length) (h7 : vs.all (foldedForSure 8) = false) (h8 : vs.all (constantsAlone 8) = false) :
    swappedStores [.Tuple ts k pt] (.Tuple vs k2 pt2) env = pure (some names) := by
  show (if (!(ts.length == 2 || ts.length == 3) || vs.length != ts.length || env.blockKind != .function) = true then pure none else if vs.any isSt = true then pure none else
    if ((ts.filterMap (locNm env ((ts.head?.map (·.pos.line)).getD 0))).length != ts.length || (ts.filterMap (locNm env ((ts.head?.map (·.pos.line)).getD 0))).eraseDups.length != (ts.filterMap (locNm env ((ts.head?.map (·.pos.line)).getD 0))).length) = true then pure none else
    if vs.all (foldedForSure 8) = true then pure none else if vs.all (constantsAlone 8) = true then (do unsupported "assign.tuple-of-constant-expressions:order-of-the-stores"; pure (some (ts.filterMap (locNm env ((ts.head?.map (·.pos.line)).getD 0))))) else pure (some (ts.filterMap (locNm env ((ts.head?.map (·.pos.line)).getD 0)))) : Sem (Option (List Str))) = pure (some names)
  have c1 : (!(ts.length == 2 || ts.length == 3) || vs.length != ts.length || env.blockKind != .function) = false := by
    rw [h1, h2]
    rcases h0 with h0 | h0 <;> rw [h0] <;> rfl
  have c2 : (names.length != ts.length || names.eraseDups.length != names.length) = false := by
    rw [h6, h5]; simp
  rw [h4, c1, h3, c2, h7, h8]
  rfl
theorem any_st {xs : List Expr} (h : xs.all notStar = true) : xs.any isSt = false := by
  induction xs with
  | nil => rfl
  | cons a r ih =>
    rw [List.all_cons, Bool.and_eq_true] at h
    rw [List.any_cons, ih h.2]
    cases a <;> first | exact (Bool.false_ne_true h.1).elim | rfl
theorem par2_stores {X : Cx} {sc : Scope} {x y : Str} {p q : Pos} {a b : Expr} {k k2 : Nat} {pt pt2 : Pos} (hs : X.env.scope = sc) (hk : sc.kind = .function) (lx : sc.names.lookup x = some .local) (ly : sc.names.lookup y = some .local) (n : x ≠ y) (hl : (q.line == p.line) = true)
    (hst : [a, b].all notStar = true) (f1 : [a, b].all (foldedForSure 8) = false) (f2 : [a, b].all (constantsAlone 8) = false) :
    swappedStores [.Tuple [.Name x p, .Name y q] k pt] (.Tuple [a, b] k2 pt2) X.env = pure (some [x, y]) := by
  have kx : X.env.kindOf x = some .local := by show X.env.scope.names.lookup x = _; rw [hs]; exact lx
  have ky : X.env.kindOf y = some .local := by show X.env.scope.names.lookup y = _; rw [hs]; exact ly
  have n1 : (y == x) = false := beq_eq_false_iff_ne.mpr (Ne.symm n)
  refine stores_eq (.inl rfl) rfl (by unfold Env.blockKind; rw [hs, hk]; rfl) (any_st hst) ?_ rfl ?_ f1 f2
  · simp only [List.head?, Option.map, Option.getD, Expr.pos, List.filterMap_cons, List.filterMap_nil, locNm, kx, ky, hl, beq_self_eq_true, Bool.and_self, if_true]
  · simp only [List.eraseDups_cons, List.filter_cons, List.filter_nil, n1, Bool.not_false, if_true, List.eraseDups_nil, List.length]
theorem par3_stores {X : Cx} {sc : Scope} {x y z : Str} {p q r : Pos} {a b c : Expr} {k k2 : Nat} {pt pt2 : Pos} (hs : X.env.scope = sc) (hk : sc.kind = .function) (lx : sc.names.lookup x = some .local) (ly : sc.names.lookup y = some .local) (lz : sc.names.lookup z = some .local) (n : x ≠ y) (n' : x ≠ z) (n'' : y ≠ z) (hl : (q.line == p.line) = true) (hl' : (r.line == p.line) = true)
    (hst : [a, b, c].all notStar = true) (f1 : [a, b, c].all (foldedForSure 8) = false) (f2 : [a, b, c].all (constantsAlone 8) = false) :
    swappedStores [.Tuple [.Name x p, .Name y q, .Name z r] k pt] (.Tuple [a, b, c] k2 pt2) X.env = pure (some [x, y, z]) := by
  have kx : X.env.kindOf x = some .local := by show X.env.scope.names.lookup x = _; rw [hs]; exact lx
  have ky : X.env.kindOf y = some .local := by show X.env.scope.names.lookup y = _; rw [hs]; exact ly
  have kz : X.env.kindOf z = some .local := by show X.env.scope.names.lookup z = _; rw [hs]; exact lz
  have n1 : (y == x) = false := beq_eq_false_iff_ne.mpr (Ne.symm n)
  have n2 : (z == x) = false := beq_eq_false_iff_ne.mpr (Ne.symm n')
  have n3 : (z == y) = false := beq_eq_false_iff_ne.mpr (Ne.symm n'')
  refine stores_eq (.inr rfl) rfl (by unfold Env.blockKind; rw [hs, hk]; rfl) (any_st hst) ?_ rfl ?_ f1 f2
  · simp only [List.head?, Option.map, Option.getD, Expr.pos, List.filterMap_cons, List.filterMap_nil, locNm, kx, ky, kz, hl, hl', beq_self_eq_true, Bool.and_self, if_true]
  · simp only [List.eraseDups_cons, List.filter_cons, List.filter_nil, n1, n2, n3, Bool.not_false, if_true, List.eraseDups_nil, List.length]
theorem ss_par2 {i j : Nat} {es : E} (O : D.Ok) : SSt D bw (.par2 i j es) := by
  intro X N sc Wx C st hx σ Fz H en Dd R h
  cases st <;> first | exact (Bool.false_ne_true hx).elim | skip
  rename_i ts y pos
  match ts, y, hx with
  | [.Tuple [.Name x p, .Name y q] k pt], .Tuple [a, b] k2 pt2, hx =>
    have h' : (decide (N[i]? = some x) && decide (N[j]? = some y) && decide (i ≠ j) && decide (x ≠ y) && decide (sc.names.lookup x = some .local) && decide (sc.names.lookup y = some .local) &&
      (q.line == p.line) && !([a, b].all (foldedForSure 8)) && !([a, b].all (constantsAlone 8)) && chkA D.G N es sc [a, b]) = true := hx
    simp only [Bool.and_eq_true, decide_eq_true_eq, Bool.not_eq_true'] at h'
    obtain ⟨⟨⟨⟨⟨⟨⟨⟨⟨h1, h2⟩, h3⟩, h4⟩, h5⟩, h6⟩, h7⟩, h8⟩, h9⟩, h10⟩ := h'
    refine JS.of (ps_par C.c.calm C.c.nd (by rw [C.c.N]; exact h1) (by rw [C.c.N]; exact h2) h3 (by rw [C.c.sc]; exact h5) (by rw [C.c.sc]; exact h6) (JA.pa X [a, b])
      (par2_stores C.c.sc C.kind h5 h6 h4 h7 (chkA_star h10) h8 h9)) ?_
    have h : SatF D.K bw D.cl Wx Fz H en σ ((ev D.cs D.cf es en).fl fun w e1 => match w with
      | .own [a, b] => .ofE ((stI bw i (.v a) e1).bind fun e2 => stI bw j (.v b) e2)
      | _ => .stuck) Dd := h
    refine (all_E O es).a X N sc Wx C.c _ h10 σ Fz H en _ R (h.flA (fun w e1 hw => by cases w <;> first | rfl | exact absurd rfl (hw _)) fun ds e1 Fz1 H1 zs s r h => ?_)
    match ds, r, h with
    | [], r, h => exact h.elim
    | [d], r, h => exact h.elim
    | d1 :: d2 :: d3 :: ds, r, h => exact h.elim
    | [d1, d2], .cons r1 (.cons r2 .nil), h =>
      rename_i v1 v2
      have h : SatF D.K bw D.cl Wx Fz1 H1 e1 σ (.ofE ((stI bw i (.v d1) e1).bind fun e2 => stI bw j (.v d2) e2)) Dd := h
      cases q1 : stI bw i (.v d1) e1 with
      | none => rw [q1] at h; exact h.elim
      | some e2 =>
        rw [q1] at h
        have h : SatF D.K bw D.cl Wx Fz1 H1 e1 σ (.ofE (stI bw j (.v d2) e2)) Dd := h
        have o1 := ot_set s.er r1 q1
        cases q2 : stI bw j (.v d2) e2 with
        | none => rw [q2] at h; exact h.elim
        | some e3 =>
          rw [q2] at h
          have o2 := ot_set o1.er r2 q2
          exact ⟨_, _, rfl, h Fz1 H1 _ (o1.nf.trans o2.nf)⟩
theorem ss_par3 {i j l : Nat} {es : E} (O : D.Ok) : SSt D bw (.par3 i j l es) := by
  intro X N sc Wx C st hx σ Fz H en Dd R h
  cases st <;> first | exact (Bool.false_ne_true hx).elim | skip
  rename_i ts y pos
  match ts, y, hx with
  | [.Tuple [.Name x p, .Name y q, .Name z r0] k pt], .Tuple [a, b, c] k2 pt2, hx =>
    have h' : (decide (N[i]? = some x) && decide (N[j]? = some y) && decide (N[l]? = some z) && decide (i ≠ j) && decide (i ≠ l) && decide (j ≠ l) && decide (x ≠ y) && decide (x ≠ z) && decide (y ≠ z) &&
      decide (sc.names.lookup x = some .local) && decide (sc.names.lookup y = some .local) && decide (sc.names.lookup z = some .local) &&
      (q.line == p.line) && (r0.line == p.line) && !([a, b, c].all (foldedForSure 8)) && !([a, b, c].all (constantsAlone 8)) && chkA D.G N es sc [a, b, c]) = true := hx
    simp only [Bool.and_eq_true, decide_eq_true_eq, Bool.not_eq_true'] at h'
    obtain ⟨⟨⟨⟨⟨⟨⟨⟨⟨⟨⟨⟨⟨⟨⟨⟨h1, h2⟩, h2'⟩, h3⟩, h3'⟩, h3''⟩, h4⟩, h4'⟩, h4''⟩, h5⟩, h6⟩, h6'⟩, h7⟩, h7'⟩, h8⟩, h9⟩, h10⟩ := h'
    refine JS.of (ps_par3 C.c.calm C.c.nd (by rw [C.c.N]; exact h1) (by rw [C.c.N]; exact h2) (by rw [C.c.N]; exact h2') h3 h3' h3'' (by rw [C.c.sc]; exact h5) (by rw [C.c.sc]; exact h6) (by rw [C.c.sc]; exact h6') (JA.pa X [a, b, c])
      (par3_stores C.c.sc C.kind h5 h6 h6' h4 h4' h4'' h7 h7' (chkA_star h10) h8 h9)) ?_
    have h : SatF D.K bw D.cl Wx Fz H en σ ((ev D.cs D.cf es en).fl fun w e1 => match w with
      | .own [a, b, c] => .ofE (((stI bw i (.v a) e1).bind fun e2 => stI bw j (.v b) e2).bind fun e3 => stI bw l (.v c) e3)
      | _ => .stuck) Dd := h
    refine (all_E O es).a X N sc Wx C.c _ h10 σ Fz H en _ R (h.flA (fun w e1 hw => by cases w <;> first | rfl | exact absurd rfl (hw _)) fun ds e1 Fz1 H1 zs s r h => ?_)
    match ds, r, h with
    | [], r, h => exact h.elim
    | [d], r, h => exact h.elim
    | [d1, d2], r, h => exact h.elim
    | d1 :: d2 :: d3 :: d4 :: ds, r, h => exact h.elim
    | [d1, d2, d3], .cons r1 (.cons r2 (.cons r3 .nil)), h =>
      rename_i v1 v2 v3
      have h : SatF D.K bw D.cl Wx Fz1 H1 e1 σ (.ofE (((stI bw i (.v d1) e1).bind fun e2 => stI bw j (.v d2) e2).bind fun e3 => stI bw l (.v d3) e3)) Dd := h
      cases q1 : stI bw i (.v d1) e1 with
      | none => rw [q1] at h; exact h.elim
      | some e2 =>
        rw [q1] at h
        have h : SatF D.K bw D.cl Wx Fz1 H1 e1 σ (.ofE ((stI bw j (.v d2) e2).bind fun e3 => stI bw l (.v d3) e3)) Dd := h
        have o1 := ot_set s.er r1 q1
        cases q2 : stI bw j (.v d2) e2 with
        | none => rw [q2] at h; exact h.elim
        | some e3 =>
          rw [q2] at h
          have h : SatF D.K bw D.cl Wx Fz1 H1 e1 σ (.ofE (stI bw l (.v d3) e3)) Dd := h
          have o2 := ot_set o1.er r2 q2
          cases q3 : stI bw l (.v d3) e3 with
          | none => rw [q3] at h; exact h.elim
          | some e4 =>
            rw [q3] at h
            have o3 := ot_set o2.er r3 q3
            exact ⟨_, _, _, rfl, h Fz1 H1 _ ((o1.nf.trans o2.nf).trans o3.nf)⟩
theorem Wr.fwd {K : PySem.W.Frag} {σ : SS} {H0 H1 H2 : Hp} {e0 e1 e2 : En} {Fz1 Fz2 : Addr → Prop} {w : W} {x : V} (R : Er K Fz1 H1 e1 σ) (s : Nx K σ Fz1 H1 e1 Fz2 H2 e2) (h : Wr K σ H0 e0 Fz1 H1 e1 w x) : Wr K σ H0 e0 Fz2 H2 e2 w x := by
  cases w with
  | v d => exact s.vr R h
  | scr d => exact h
  | own ds =>
    obtain ⟨a, xs, h1, h2, h3, h4, h5, h6⟩ := h
    refine ⟨a, xs, h1, s.stp.keep a _ h2 h4, fun z => ?_, fun z => h4 (s.own a z), h5, s.vrs R h6⟩
    rcases s.stp.nfz a z with z | z | z
    · exact h3 z
    · rw [h2] at z; cases z
    · exact h4 z
/-- a value as it is kept -/
theorem Wr.kept {K : PySem.W.Frag} {σ : SS} {H H1 : Hp} {e e1 : En} {Fz Fz1 : Addr → Prop} {w : W} {x : V} (k : Bool) (s : Nx K σ Fz H e Fz1 H1 e1) (h : Wr K σ H e Fz1 H1 e1 w x) : ∃ Fz2, Nx K σ Fz H e Fz2 H1 e1 ∧ Wr K σ H e Fz2 H1 e1 (w.keep k) x := by
  cases k with
  | true => exact ⟨Fz1, s, h⟩
  | false =>
    obtain ⟨Fz2, s2, r⟩ := h.freeze s
    exact ⟨Fz2, s2, r⟩
/-- one store more -/
theorem nf_add {K : PySem.W.Frag} {bw : Bool} {Fz Fz1 : Addr → Prop} {H H1 : Hp} {en e1 e2 : En} {σ σ1 : SS} {i : Nat} {w : W} {v : V} (s : Nf K bw Fz H en σ Fz1 H1 e1 σ1) (q : Wg K (Ow en σ) H Fz1 H1 (Ow e1 σ1) w v) (h : stI bw i w e1 = some e2) :
    Nf K bw Fz H en σ Fz1 H1 e2 (σ1.set i (some v)) := by
  obtain ⟨h1, h2, rfl⟩ := stI_inv h
  have R := s.er
  have hi : (σ1.set i (some v))[i]? = some (some v) := by
    rw [List.getElem?_set_self]
    rw [← R.len]; exact h2
  have ho : ∀ j, j ≠ i → (σ1.set i (some v))[j]? = σ1[j]? := fun j n => List.getElem?_set_ne (Ne.symm n)
  cases w with
  | scr d => exact q.elim
  | v d =>
    have o := ot_set R q h
    exact s.trans o.nf
  | own ds =>
    obtain ⟨a, xs, rfl, q2, q3, q4, q5, q6⟩ := q
    refine ⟨s.stp, R.upd (List.length_set ..) ho ⟨a, xs, hi, q2, q3, q6, fun j es n z1 z2 => q4 ⟨j, es, z1, z2⟩⟩, fun b ⟨j, es, z1, z2⟩ => ?_, fun b => (ho 0 fun e => h1 b e.symm).trans (s.bw b)⟩
    rcases set_cases z1 with ⟨rfl, e⟩ | ⟨n, e⟩
    · rw [hi] at z2
      cases z2
      exact q5.symm
    · rw [ho j n] at z2
      exact s.own b ⟨j, es, e, z2⟩
/-- what a slot's store adds to the slots' own -/
theorem ow_add {K : PySem.W.Frag} {bw : Bool} {Fz1 : Addr → Prop} {H1 : Hp} {e1 e2 : En} {σ1 : SS} {i : Nat} {w : W} {v : V} (R : Er K Fz1 H1 e1 σ1) (h : stI bw i w e1 = some e2) {b : Addr} (z : Ow e2 (σ1.set i (some v)) b) : Ow e1 σ1 b ∨ ∃ ds, w = .own ds ∧ v = .ref b := by
  obtain ⟨h1, h2, rfl⟩ := stI_inv h
  have hi : (σ1.set i (some v))[i]? = some (some v) := by
    rw [List.getElem?_set_self]
    rw [← R.len]; exact h2
  have ho : ∀ j, j ≠ i → (σ1.set i (some v))[j]? = σ1[j]? := fun j n => List.getElem?_set_ne (Ne.symm n)
  obtain ⟨j, es, z1, z2⟩ := z
  rcases set_cases z1 with ⟨rfl, e⟩ | ⟨n, e⟩
  · rw [hi] at z2
    cases z2
    cases e
    exact .inr ⟨_, rfl, rfl⟩
  · rw [ho j n] at z2
    exact .inl ⟨j, es, e, z2⟩
/-- two own lists are two -/
theorem own_two {K : PySem.W.Frag} {σ : SS} {H0 H1 H2 : Hp} {e0 e1 e2 : En} {Fz1 Fz2 : Addr → Prop} {ds : List PyData} {w2 : W} {b : Addr} {x : V} (h : Wr K σ H0 e0 Fz1 H1 e1 (.own ds) x) (g : Wr K σ H1 e1 Fz2 H2 e2 w2 (.ref b)) (hw : ∃ es, w2 = .own es) : x ≠ .ref b := by
  intro e
  subst e
  obtain ⟨es, rfl⟩ := hw
  obtain ⟨a, xs, h1, h2, h3, h4, h5, h6⟩ := h
  obtain ⟨a', ys, g1, g2, g3, g4, g5, g6⟩ := g
  cases h1
  cases g1
  rcases g5 with g5 | g5
  · rw [h2] at g5; cases g5
  · exact h4 g5
theorem Wg.add {K : PySem.W.Frag} {bw : Bool} {O0 : Addr → Prop} {H0 H1 : Hp} {Fz1 : Addr → Prop} {e1 e2 : En} {σ1 : SS} {i : Nat} {w w2 : W} {v x : V} (R : Er K Fz1 H1 e1 σ1) (h : stI bw i w e1 = some e2) (g : Wg K O0 H0 Fz1 H1 (Ow e1 σ1) w2 x) (hd : ∀ ds es b, w = .own ds → w2 = .own es → x = .ref b → v ≠ .ref b) :
    Wg K O0 H0 Fz1 H1 (Ow e2 (σ1.set i (some v))) w2 x := by
  cases w2 with
  | v d => exact g
  | scr d => exact g
  | own es =>
    obtain ⟨a, xs, g1, g2, g3, g4, g5, g6⟩ := g
    refine ⟨a, xs, g1, g2, g3, fun z => ?_, g5, g6⟩
    rcases ow_add R h z with z | ⟨ds, z1, z2⟩
    · exact g4 z
    · exact hd ds es a z1 rfl g1 z2
theorem ss_pk2 {i j : Nat} {ka kb : Bool} {ea eb : E} (O : D.Ok) : SSt D bw (.pk2 i j ka kb ea eb) := by
  intro X N sc Wx C st hx σ Fz H en Dd R h
  cases st <;> first | exact (Bool.false_ne_true hx).elim | skip
  rename_i ts y pos
  match ts, y, hx with
  | [.Tuple [.Name x p, .Name y q] k pt], .Tuple [a, b] k2 pt2, hx =>
    have hx0 : ((decide (N[i]? = some x) && decide (N[j]? = some y) && decide (i ≠ j) && decide (x ≠ y) && decide (sc.names.lookup x = some .local) && decide (sc.names.lookup y = some .local) &&
      (q.line == p.line) && !([a, b].all (foldedForSure 8)) && !([a, b].all (constantsAlone 8)) && (chkE D.G N ea sc a && chkE D.G N eb sc b)) || (plainT sc [.Name x p, .Name y q] (.Tuple [a, b] k2 pt2) && chkTs N sc (fun _ => true) (.cons (.n i) (.cons (.n j) .nil)) [.Name x p, .Name y q] && (chkE D.G N ea sc a && chkE D.G N eb sc b))) = true := hx
    rcases Bool.or_eq_true _ _ |>.mp hx0 with hx1 | hx2
    · have h' : (decide (N[i]? = some x) && decide (N[j]? = some y) && decide (i ≠ j) && decide (x ≠ y) && decide (sc.names.lookup x = some .local) && decide (sc.names.lookup y = some .local) &&
        (q.line == p.line) && !([a, b].all (foldedForSure 8)) && !([a, b].all (constantsAlone 8)) && (chkE D.G N ea sc a && chkE D.G N eb sc b)) = true := hx1
      simp only [Bool.and_eq_true, decide_eq_true_eq, Bool.not_eq_true'] at h'
      obtain ⟨⟨⟨⟨⟨⟨⟨⟨⟨h1, h2⟩, h3⟩, h4⟩, h5⟩, h6⟩, h7⟩, h8⟩, h9⟩, ha, hb⟩ := h'
      have hst : [a, b].all notStar = true := by rw [List.all_cons, List.all_cons, List.all_nil, chkE_star ha, chkE_star hb]; rfl
      refine JS.of (ps_par C.c.calm C.c.nd (by rw [C.c.N]; exact h1) (by rw [C.c.N]; exact h2) h3 (by rw [C.c.sc]; exact h5) (by rw [C.c.sc]; exact h6) (pa_cons (JE.pe X a) (pa_cons (JE.pe X b) pa_nil (star_of (chkE_star hb))) (star_of (chkE_star ha)))
        (par2_stores C.c.sc C.kind h5 h6 h4 h7 hst h8 h9)) ?_
      have h : SatF D.K bw D.cl Wx Fz H en σ ((ev D.cs D.cf ea en).fl fun w1 e1 => (ev D.cs D.cf eb e1).fl fun w2 e2 => .ofE ((stI bw i (w1.keep ka) e2).bind fun e3 => stI bw j (w2.keep kb) e3)) Dd := h
      refine (all_E O ea).e X N sc Wx C.c a ha σ Fz H en _ R ?_
      cases hr : ev D.cs D.cf ea en with
      | stuck => rw [hr] at h; exact h
      | exc c q e1 => rw [hr] at h; exact fun Fz1 H1 d s q => h Fz1 H1 σ d s.nf q
      | ok w1 e1 =>
        rw [hr] at h
        have h : SatF D.K bw D.cl Wx Fz H en σ ((ev D.cs D.cf eb e1).fl fun w2 e2 => .ofE ((stI bw i (w1.keep ka) e2).bind fun e3 => stI bw j (w2.keep kb) e3)) Dd := h
        intro Fz1 H1 x1 s1 q1
        obtain ⟨Fz1, s1, q1⟩ := q1.kept ka s1
        refine (all_E O eb).e X N sc Wx C.c b hb σ Fz1 H1 e1 _ s1.er ?_
        cases hr2 : ev D.cs D.cf eb e1 with
        | stuck => rw [hr2] at h; exact h
        | exc c q e2 => rw [hr2] at h; exact fun Fz2 H2 d s q => h Fz2 H2 σ d (s1.trans s).nf q
        | ok w2 e2 =>
          rw [hr2] at h
          have h : SatF D.K bw D.cl Wx Fz H en σ (.ofE ((stI bw i (w1.keep ka) e2).bind fun e3 => stI bw j (w2.keep kb) e3)) Dd := h
          intro Fz2 H2 x2 s2 q2
          obtain ⟨Fz2, s2, q2⟩ := q2.kept kb s2
          cases z1 : stI bw i (w1.keep ka) e2 with
          | none => rw [z1] at h; exact h.elim
          | some e3 =>
            rw [z1] at h
            have h : SatF D.K bw D.cl Wx Fz H en σ (.ofE (stI bw j (w2.keep kb) e3)) Dd := h
            cases z2 : stI bw j (w2.keep kb) e3 with
            | none => rw [z2] at h; exact h.elim
            | some e4 =>
              rw [z2] at h
              have n1 := nf_add (bw := bw) (s1.trans s2).nf (q1.fwd s1.er s2).wg z1
              have g2 := Wg.add s2.er z1 (q2.shift s1).wg (fun ds es b' k1 k2 k3 => by
                subst k3
                rw [k1] at q1
                exact own_two q1 q2 ⟨es, k2⟩)
              exact ⟨_, _, rfl, h Fz2 H2 _ (nf_add n1 g2 z2)⟩
    · simp only [Bool.and_eq_true] at hx2
      obtain ⟨⟨h3, h4⟩, ha, hb⟩ := hx2
      have hst : [a, b].all notStar = true := by rw [List.all_cons, List.all_cons, List.all_nil, chkE_star ha, chkE_star hb]; rfl
      have h4' : ((decide (N[i]? = some x) && locB sc x && (true || decide (sc.names.lookup x = some .local))) && ((decide (N[j]? = some y) && locB sc y && (true || decide (sc.names.lookup y = some .local))) && true)) = true := h4
      simp only [Bool.and_eq_true, decide_eq_true_eq, Bool.true_or, and_true] at h4'
      obtain ⟨⟨n1, l1⟩, n2, l2⟩ := h4'
      refine JS.of (ps_asg (JE.pe X (.Tuple [a, b] k2 pt2)) (JG.pg X (.Tuple [.Name x p, .Name y q] k pt)) (show swapsWith (.Tuple [a, b] k2 pt2) (some (.Tuple [.Name x p, .Name y q] k pt)) pos.line X.env = pure false from sw_plain rfl rfl) (stores_plain C.c.sc h3)) ?_
      refine JE.of (pe_tup (pa_cons (JE.pe X a) (pa_cons (JE.pe X b) pa_nil (star_of (chkE_star hb))) (star_of (chkE_star ha)))) ?_
      have h : SatF D.K bw D.cl Wx Fz H en σ ((ev D.cs D.cf ea en).fl fun w1 e1 => (ev D.cs D.cf eb e1).fl fun w2 e2 => .ofE ((stI bw i (w1.keep ka) e2).bind fun e3 => stI bw j (w2.keep kb) e3)) Dd := h
      refine (all_E O ea).e X N sc Wx C.c a ha σ Fz H en _ R ?_
      cases hr : ev D.cs D.cf ea en with
      | stuck => rw [hr] at h; exact h
      | exc c q e1 => rw [hr] at h; exact fun Fz1 H1 d s q => h Fz1 H1 σ d s.nf q
      | ok w1 e1 =>
        rw [hr] at h
        have h : SatF D.K bw D.cl Wx Fz H en σ ((ev D.cs D.cf eb e1).fl fun w2 e2 => .ofE ((stI bw i (w1.keep ka) e2).bind fun e3 => stI bw j (w2.keep kb) e3)) Dd := h
        intro Fz1 H1 x1 s1 q1
        obtain ⟨Fz1, s1, q1⟩ := q1.kept ka s1
        refine (all_E O eb).e X N sc Wx C.c b hb σ Fz1 H1 e1 _ s1.er ?_
        cases hr2 : ev D.cs D.cf eb e1 with
        | stuck => rw [hr2] at h; exact h
        | exc c q e2 => rw [hr2] at h; exact fun Fz2 H2 d s q => h Fz2 H2 σ d (s1.trans s).nf q
        | ok w2 e2 =>
          rw [hr2] at h
          have h : SatF D.K bw D.cl Wx Fz H en σ (.ofE ((stI bw i (w1.keep ka) e2).bind fun e3 => stI bw j (w2.keep kb) e3)) Dd := h
          intro Fz2 H2 x2 s2 q2
          obtain ⟨Fz2, s2, q2⟩ := q2.kept kb s2
          cases z1 : stI bw i (w1.keep ka) e2 with
          | none => rw [z1] at h; exact h.elim
          | some e3 =>
            rw [z1] at h
            have h : SatF D.K bw D.cl Wx Fz H en σ (.ofE (stI bw j (w2.keep kb) e3)) Dd := h
            cases z2 : stI bw j (w2.keep kb) e3 with
            | none => rw [z2] at h; exact h.elim
            | some e4 =>
              rw [z2] at h
              refine ⟨by show 2 ≤ sizeLine; decide, fun pa hpa => ?_⟩
              have s3 : Nx D.K σ Fz2 H2 e2 Fz2 (upd H2 pa (.tup [x1, x2])) e2 := Nx.new s2.er hpa
              have m1 := nf_add (bw := bw) ((s1.trans s2).trans s3).nf ((q1.fwd s1.er s2).fwd s2.er s3).wg z1
              have g2 := Wg.add s3.er z1 ((q2.fwd s2.er s3).shift s1).wg (fun ds es b' k1 k2 k3 => by
                subst k3
                rw [k1] at q1
                exact own_two q1 q2 ⟨es, k2⟩)
              have fin := h Fz2 _ _ (nf_add m1 g2 z2)
              obtain ⟨c1, c2⟩ := assignEach_len (env := X.env) h4
              have hg := pg_tup (k := k) (pos := pt) C.c.calm (JGs.pgs X [.Name x p, .Name y q]) c1 c2
              rw [C.c.K] at hg
              refine JG.of hg ⟨pa, [x1, x2], rfl, .inl (.inl upd_same), rfl, ?_⟩
              have loc : ∀ z, locB sc z = true → Loc X.env.scope z := fun z hz => by rw [C.c.sc]; exact locB_of hz
              intro pins st us I rv
              cases rv with
              | cons rv1 rv2 =>
                cases rv2 with
                | cons rv3 rv4 =>
                  cases rv4
                  have t1 : JG X (.Name x p) x1 σ (upd H2 pa (.tup [x1, x2])) (fun σ1 H1 => JGs X [.Name y q] [x2] σ1 H1 Dd.nx) :=
                    JG.of (pg_name C.c.nd (by rw [C.c.N]; exact n1) (loc x l1) (.inl (C.fn x))) (fun pins st us I rv => by
                      cases rv with
                      | cons rv5 rv6 =>
                        cases rv6
                        have t2 : JG X (.Name y q) x2 (σ.set i (some x1)) (upd H2 pa (.tup [x1, x2])) Dd.nx := JG.of (pg_name C.c.nd (by rw [C.c.N]; exact n2) (loc y l2) (.inl (C.fn y))) fin
                        rw [assignEach_cons rfl]
                        exact assignInOrder_cons (thn (t2 pins st _ I rv5) fun _ s1 ⟨σ1, H1, I1, q1⟩ => assignInOrder_nil ⟨σ1, H1, I1, q1⟩))
                  rw [assignEach_cons rfl]
                  exact assignInOrder_cons (thn (t1 pins st _ I rv1) fun _ s1 ⟨σ1, H1, I1, q1⟩ => q1 pins s1 _ I1 (.cons rv3 .nil))
theorem ss_pk3 {i j l : Nat} {ka kb kc : Bool} {ea eb ec : E} (O : D.Ok) : SSt D bw (.pk3 i j l ka kb kc ea eb ec) := by
  intro X N sc Wx C st hx σ Fz H en Dd R h
  cases st <;> first | exact (Bool.false_ne_true hx).elim | skip
  rename_i ts y pos
  match ts, y, hx with
  | [.Tuple [.Name x p, .Name y q, .Name z r0] k pt], .Tuple [a, b, c] k2 pt2, hx =>
    have h' : (decide (N[i]? = some x) && decide (N[j]? = some y) && decide (N[l]? = some z) && decide (i ≠ j) && decide (i ≠ l) && decide (j ≠ l) && decide (x ≠ y) && decide (x ≠ z) && decide (y ≠ z) &&
      decide (sc.names.lookup x = some .local) && decide (sc.names.lookup y = some .local) && decide (sc.names.lookup z = some .local) &&
      (q.line == p.line) && (r0.line == p.line) && !([a, b, c].all (foldedForSure 8)) && !([a, b, c].all (constantsAlone 8)) && (chkE D.G N ea sc a && chkE D.G N eb sc b && chkE D.G N ec sc c)) = true := hx
    simp only [Bool.and_eq_true, decide_eq_true_eq, Bool.not_eq_true'] at h'
    obtain ⟨⟨⟨⟨⟨⟨⟨⟨⟨⟨⟨⟨⟨⟨⟨⟨h1, h2⟩, h2'⟩, h3⟩, h3'⟩, h3''⟩, h4⟩, h4'⟩, h4''⟩, h5⟩, h6⟩, h6'⟩, h7⟩, h7'⟩, h8⟩, h9⟩, ⟨ha, hb⟩, hc⟩ := h'
    have hst : [a, b, c].all notStar = true := by rw [List.all_cons, List.all_cons, List.all_cons, List.all_nil, chkE_star ha, chkE_star hb, chkE_star hc]; rfl
    refine JS.of (ps_par3 C.c.calm C.c.nd (by rw [C.c.N]; exact h1) (by rw [C.c.N]; exact h2) (by rw [C.c.N]; exact h2') h3 h3' h3'' (by rw [C.c.sc]; exact h5) (by rw [C.c.sc]; exact h6) (by rw [C.c.sc]; exact h6') (pa_cons (JE.pe X a) (pa_cons (JE.pe X b) (pa_cons (JE.pe X c) pa_nil (star_of (chkE_star hc))) (star_of (chkE_star hb))) (star_of (chkE_star ha)))
      (par3_stores C.c.sc C.kind h5 h6 h6' h4 h4' h4'' h7 h7' hst h8 h9)) ?_
    have h : SatF D.K bw D.cl Wx Fz H en σ ((ev D.cs D.cf ea en).fl fun w1 e1 => (ev D.cs D.cf eb e1).fl fun w2 e2 => (ev D.cs D.cf ec e2).fl fun w3 e3 => .ofE (((stI bw i (w1.keep ka) e3).bind fun e4 => stI bw j (w2.keep kb) e4).bind fun e5 => stI bw l (w3.keep kc) e5)) Dd := h
    refine (all_E O ea).e X N sc Wx C.c a ha σ Fz H en _ R ?_
    cases hr : ev D.cs D.cf ea en with
    | stuck => rw [hr] at h; exact h
    | exc c q e1 => rw [hr] at h; exact fun Fz1 H1 d s q => h Fz1 H1 σ d s.nf q
    | ok w1 e1 =>
      rw [hr] at h
      have h : SatF D.K bw D.cl Wx Fz H en σ ((ev D.cs D.cf eb e1).fl fun w2 e2 => (ev D.cs D.cf ec e2).fl fun w3 e3 => .ofE (((stI bw i (w1.keep ka) e3).bind fun e4 => stI bw j (w2.keep kb) e4).bind fun e5 => stI bw l (w3.keep kc) e5)) Dd := h
      intro Fz1 H1 x1 s1 q1
      obtain ⟨Fz1, s1, q1⟩ := q1.kept ka s1
      refine (all_E O eb).e X N sc Wx C.c b hb σ Fz1 H1 e1 _ s1.er ?_
      cases hr2 : ev D.cs D.cf eb e1 with
      | stuck => rw [hr2] at h; exact h
      | exc c q e2 => rw [hr2] at h; exact fun Fz2 H2 d s q => h Fz2 H2 σ d (s1.trans s).nf q
      | ok w2 e2 =>
        rw [hr2] at h
        have h : SatF D.K bw D.cl Wx Fz H en σ ((ev D.cs D.cf ec e2).fl fun w3 e3 => .ofE (((stI bw i (w1.keep ka) e3).bind fun e4 => stI bw j (w2.keep kb) e4).bind fun e5 => stI bw l (w3.keep kc) e5)) Dd := h
        intro Fz2 H2 x2 s2 q2
        obtain ⟨Fz2, s2, q2⟩ := q2.kept kb s2
        refine (all_E O ec).e X N sc Wx C.c c hc σ Fz2 H2 e2 _ s2.er ?_
        cases hr3 : ev D.cs D.cf ec e2 with
        | stuck => rw [hr3] at h; exact h
        | exc c q e2 => rw [hr3] at h; exact fun Fz3 H3 d s q => h Fz3 H3 σ d ((s1.trans s2).trans s).nf q
        | ok w3 e3 =>
          rw [hr3] at h
          have h : SatF D.K bw D.cl Wx Fz H en σ (.ofE (((stI bw i (w1.keep ka) e3).bind fun e4 => stI bw j (w2.keep kb) e4).bind fun e5 => stI bw l (w3.keep kc) e5)) Dd := h
          intro Fz3 H3 x3 s3 q3
          obtain ⟨Fz3, s3, q3⟩ := q3.kept kc s3
          cases z1 : stI bw i (w1.keep ka) e3 with
          | none => rw [z1] at h; exact h.elim
          | some e4 =>
            rw [z1] at h
            have h : SatF D.K bw D.cl Wx Fz H en σ (.ofE ((stI bw j (w2.keep kb) e4).bind fun e5 => stI bw l (w3.keep kc) e5)) Dd := h
            cases z2 : stI bw j (w2.keep kb) e4 with
            | none => rw [z2] at h; exact h.elim
            | some e5 =>
              rw [z2] at h
              have h : SatF D.K bw D.cl Wx Fz H en σ (.ofE (stI bw l (w3.keep kc) e5)) Dd := h
              cases z3 : stI bw l (w3.keep kc) e5 with
              | none => rw [z3] at h; exact h.elim
              | some e6 =>
                rw [z3] at h
                have p1 := q1.fwd s1.er s2
                have p2 := q2.fwd s2.er s3
                have n1 := nf_add (bw := bw) ((s1.trans s2).trans s3).nf (p1.fwd s2.er s3).wg z1
                have g2 := Wg.add s3.er z1 (p2.shift s1).wg (fun ds es b' k1 k2 k3 => by
                  subst k3
                  rw [k1] at q1
                  exact own_two q1 q2 ⟨es, k2⟩)
                have n2 := nf_add n1 g2 z2
                have g3 := Wg.add s3.er z1 (q3.shift (s1.trans s2)).wg (fun ds es b' k1 k2 k3 => by
                  subst k3
                  rw [k1] at p1
                  exact own_two p1 q3 ⟨es, k2⟩)
                have g3' := Wg.add n1.er z2 g3 (fun ds es b' k1 k2 k3 => by
                  subst k3
                  rw [k1] at q2
                  exact own_two q2 q3 ⟨es, k2⟩)
                exact ⟨_, _, _, rfl, h Fz3 H3 _ (nf_add n2 g3' z3)⟩
end
end TD

set_option maxHeartbeats 1000000
namespace TD
open PySem PySem.Spec PyProof.Rows L2
section
variable {D : Dt} {bw : Bool}
/-- a op= b, of values -/
def tiA (o : Operator) : TIp := fun x y H Q => ∃ d1 d2 d, opA o d1 d2 = some d ∧ (∃ K Fz, VR K Fz H d1 x ∧ VR K Fz H d2 y) ∧ ∀ v, (∀ K Fz, VR K Fz H d v) → Q v H
theorem opA_inv {o : Operator} {d1 d2 d : PyData} (h : opA o d1 d2 = some d) : (∃ i j, d1 = .int i ∧ d2 = .int j ∧ ((o = .Add ∧ d = .int (i + j)) ∨ (o = .Sub ∧ d = .int (i - j)))) ∨ (∃ a b, d1 = .str a ∧ d2 = .str b ∧ o = .Add ∧ a.length + b.length ≤ sizeLine ∧ d = .str (a ++ b)) := by
  cases o <;> try cases h
  · cases d1 <;> try cases h
    · cases d2 <;> try cases h
      exact .inl ⟨_, _, rfl, rfl, .inl ⟨rfl, rfl⟩⟩
    · cases d2 <;> try cases h
      rename_i a b
      have h : (if a.length + b.length ≤ sizeLine then some (PyData.str (a ++ b)) else none) = some d := h
      by_cases c : a.length + b.length ≤ sizeLine
      · rw [if_pos c] at h
        cases h
        exact .inr ⟨_, _, rfl, rfl, rfl, c, rfl⟩
      · rw [if_neg c] at h; cases h
  · cases d1 <;> try cases h
    cases d2 <;> try cases h
    exact .inl ⟨_, _, rfl, rfl, .inr ⟨rfl, rfl⟩⟩
theorem pip_A {X : Cx} {o : Operator} : PIp X o (tiA o) := by
  intro pins s σ H x y v u Q I rx ry h
  obtain ⟨d1, d2, d, h1, ⟨K, Fz, r1, r2⟩, q⟩ := h
  rcases opA_inv h1 with ⟨i, j, rfl, rfl, ho⟩ | ⟨a, b, rfl, rfl, rfl, hz, rfl⟩
  · cases r1
    cases r2
    rcases ho with ⟨rfl, rfl⟩ | ⟨rfl, rfl⟩
    · exact ip_add pins s σ H _ _ v u Q I rx ry ⟨i, j, rfl, rfl, q _ fun _ _ => .int _⟩
    · exact ip_sub pins s σ H _ _ v u Q I rx ry ⟨i, j, rfl, rfl, q _ fun _ _ => .int _⟩
  · cases r1
    cases r2
    exact iop_add_str pins s σ H _ _ v u Q I rx ry ⟨a, b, rfl, rfl, hz, q _ fun _ _ => .str _⟩
theorem vr_flat {K : PySem.W.Frag} {Fz : Addr → Prop} {H H' : Hp} {d : PyData} {x : V} (h : VR K Fz H d x) (hf : (∃ i, d = .int i) ∨ ∃ a, d = .str a) {Fz' : Addr → Prop} : VR K Fz' H' d x := by
  rcases hf with ⟨i, rfl⟩ | ⟨a, rfl⟩
  · cases h; exact .int _
  · cases h; exact .str _
theorem ss_aug {i : Nat} {o : Operator} {e : E} (O : D.Ok) : SSt D bw (.aug i o e) := by
  intro X N sc Wx C st hx σ Fz H en Dd R h
  cases st <;> first | exact (Bool.false_ne_true hx).elim | skip
  rename_i tg p y pos
  cases tg <;> first | exact (Bool.false_ne_true hx).elim | skip
  rename_i x p2
  have h' : (decide (o = p) && decide (N[i]? = some x) && locB sc x && chkE D.G N e sc y) = true := hx
  simp only [Bool.and_eq_true, decide_eq_true_eq] at h'
  obtain ⟨⟨⟨rfl, h1⟩, h2⟩, h3⟩ := h'
  have hl : Loc X.env.scope x := by rw [C.c.sc]; exact locB_of h2
  refine JS.of (ps_aug C.c.nd (by rw [C.c.N]; exact h1) hl (JE.pe X y) pip_A (.inl (C.fn x))) ?_
  have h : SatF D.K bw D.cl Wx Fz H en σ (match en[i]? with
    | some (some (.v d)) => (ev D.cs D.cf e en).fl fun y e1 => match opA o d y.val with
      | some z => .ofE (stI bw i (.v z) e1)
      | none => .stuck
    | _ => .stuck) Dd := h
  split at h
  · rename_i d hd
    obtain ⟨x0, g1, g2⟩ := R.vs i d hd
    refine ⟨x0, g1, (all_E O e).e X N sc Wx C.c y h3 σ Fz H en _ R (h.flV fun w e1 Fz1 H1 v s r h => ?_)⟩
    cases hc : opA o d w.val with
    | none => rw [hc] at h; exact h.elim
    | some z =>
      rw [hc] at h
      have h : SatF D.K bw D.cl Wx Fz1 H1 e1 σ (.ofE (stI bw i (.v z) e1)) Dd := h
      refine ⟨d, w.val, z, hc, ⟨D.K, Fz1, s.vr R g2, r⟩, fun v' hv => ?_⟩
      cases hst : stI bw i (.v z) e1 with
      | none => rw [hst] at h; exact h.elim
      | some e2 =>
        rw [hst] at h
        exact h Fz1 H1 _ (ot_set s.er (hv _ _) hst).nf
  · exact h.elim
/-- a slot's own list is written -/
theorem nf_upd {K : PySem.W.Frag} {Fz : Addr → Prop} {H : Hp} {en : En} {σ : SS} {i : Nat} {a : Addr} {ds ds' : List PyData} {xs' : List V} (R : Er K Fz H en σ) (h1 : en[i]? = some (some (.own ds))) (h2 : σ[i]? = some (some (.ref a))) (hv : VRs K Fz H ds' xs') :
    Nf K bw Fz H en σ Fz (upd H a (.lst xs')) (en.set i (some (.own ds'))) σ := by
  have hO : Ow en σ a := ⟨i, ds, h1, h2⟩
  have hk : ∀ b o, H b = some o → ¬ Ow en σ b → upd H a (.lst xs') b = some o := fun b o q n => by
    rw [upd_ne (fun e => n (by rw [e]; exact hO))]; exact q
  obtain ⟨ys, hH⟩ := hO.trk R
  have nF := (R.ol a hO).1
  have st : Stp Fz (Ow en σ) H Fz (upd H a (.lst xs')) := ⟨fun _ q => q, hk, fun _ q => .inl q, fun b q => by
    by_cases e : b = a
    · rw [e, upd_same] at q; cases q
    · rw [upd_ne e] at q; exact q⟩
  have hl : i < en.length := by
    rcases Nat.lt_or_ge i en.length with z | z
    · exact z
    · rw [List.getElem?_eq_none z] at h1; cases h1
  refine ⟨st, ⟨by rw [List.length_set]; exact R.len, fun j d q => ?_, fun j es q => ?_, fun j es q => ?_, fun j l es fs b q1 q2 q3 q4 => ?_, fun b q => ?_⟩, fun b ⟨j, es, q1, q2⟩ => ?_, fun _ => rfl⟩
  · rcases set_cases q with ⟨_, e⟩ | ⟨n, e⟩
    · cases e
    · obtain ⟨x, g1, g2⟩ := R.vs j d e
      exact ⟨x, g1, g2.mono st R.ol⟩
  · rcases set_cases q with ⟨rfl, e⟩ | ⟨n, e⟩
    · cases e
      exact ⟨a, xs', h2, upd_same, nF, hv.mono st R.ol⟩
    · obtain ⟨b, zs, g1, g2, g3, g4⟩ := R.os j es e
      refine ⟨b, zs, g1, ?_, g3, g4.mono st R.ol⟩
      rw [upd_ne fun z => n (R.ap j i es ds a e h1 (by rw [g1, z]) h2)]
      exact g2
  · rcases set_cases q with ⟨_, e⟩ | ⟨n, e⟩
    · cases e
    · obtain ⟨b, zs, g1, g2, g4⟩ := R.ss j es e
      exact ⟨b, zs, g1, sr_mono st.keep R.ol g2, g4.mono st R.ol⟩
  · have back : ∀ {m : Nat} {fs : List PyData}, (en.set i (some (.own ds')))[m]? = some (some (W.own fs)) → ∃ gs, en[m]? = some (some (W.own gs)) := fun {m fs} q => by
      rcases set_cases q with ⟨rfl, _⟩ | ⟨_, e⟩
      · exact ⟨ds, h1⟩
      · exact ⟨fs, e⟩
    obtain ⟨g1, q1⟩ := back q1
    obtain ⟨g2, q2⟩ := back q2
    exact R.ap j l g1 g2 b q1 q2 q3 q4
  · by_cases e : b = a
    · rw [e, upd_same]; exact fun z => nomatch z
    · rw [upd_ne e]; exact R.ft b q
  · rcases set_cases q1 with ⟨rfl, _⟩ | ⟨_, e⟩
    · exact .inl ⟨j, ds, h1, q2⟩
    · exact .inl ⟨j, es, e, q2⟩
theorem ss_setI {i : Nat} {x e : E} (O : D.Ok) : SSt D bw (.setI i x e) := by
  intro X N sc Wx C st hx σ Fz H en Dd R h
  cases st <;> first | exact (Bool.false_ne_true hx).elim | skip
  rename_i ts y pos
  match ts, hx with
  | [.Subscript (.Name n np) ix p], hx =>
    have h' : (notSl ix && !isLc y && !otherComp y && vrB N sc i n && chkE D.G N x sc ix && chkE D.G N e sc y) = true := hx
    simp only [Bool.and_eq_true, Bool.not_eq_true'] at h'
    obtain ⟨⟨⟨⟨⟨h0, h1⟩, h2⟩, h3⟩, h4⟩, h5⟩ := h'
    have hsw : swapsWithSole [.Subscript (.Name n np) ix p] y pos.line X.env = pure false := by show swapsWith y (some (.Subscript (.Name n np) ix p)) pos.line X.env = pure false; exact sw_plain h1 h2
    have hss : swappedStores [.Subscript (.Name n np) ix p] y X.env = pure none := by rfl
    refine JS.of (ps_asg (JE.pe X y) (pg_sub (pe_slot C.c h3) (JE.pe X ix) set_list (by cases ix <;> first | exact (Bool.false_ne_true h0).elim | (intro _; rfl))) hsw hss) ?_
    have h : SatF D.K bw D.cl Wx Fz H en σ ((ev D.cs D.cf e en).fl fun w e1 => match e1[i]? with
      | some (some _) => (ev D.cs D.cf x e1).fl fun y e2 => match e2[i]?, y.val with
        | some (some (.own ds)), .int k => match ixN ds.length k with
          | some j => .nx (e2.set i (some (.own (ds.set j w.val))))
          | none => .stuck
        | _, _ => .stuck
      | _ => .stuck) Dd := h
    refine (all_E O e).e X N sc Wx C.c y h5 σ Fz H en _ R (h.flV fun w e1 Fz1 H1 v s r h => ?_)
    split at h
    · rename_i w0 hw0
      obtain ⟨x0, hx0⟩ := slot_some s.er hw0
      refine ⟨x0, hx0, (all_E O x).e X N sc Wx C.c ix h4 σ Fz1 H1 e1 _ s.er (h.flV fun w2 e2 Fz2 H2 v2 s2 r2 h => ?_)⟩
      split at h
      · rename_i ds k hd hk
        cases hj : ixN ds.length k with
        | none => rw [hj] at h; exact h.elim
        | some j =>
          rw [hj] at h
          have h : SatF D.K bw D.cl Wx Fz2 H2 e2 σ (.nx (e2.set i (some (.own (ds.set j w.val))))) Dd := h
          obtain ⟨a, xs, g1, g2, g3, g4⟩ := s2.er.os i ds hd
          rw [hx0] at g1
          cases g1
          rw [hk] at r2
          cases r2
          refine ⟨a, xs, k, j, rfl, rfl, g2, by rw [← g4.length]; exact hj, ?_⟩
          exact h Fz2 _ σ (nf_upd s2.er hd hx0 (g4.set j (s2.vr s.er r)))
      · exact h.elim
    · exact h.elim
/-- xs.extend(ys), ys perhaps frozen -/
def rExtR : V → List V → Hp → VK → Prop := fun x vs H Q => ∃ l b xs zs, x = .ref l ∧ vs = [.ref b] ∧ H l = some (.lst xs) ∧ Rd H b (.lst zs) ∧ xs.length + zs.length ≤ sizeLine ∧ Q .non (upd H l (.lst (xs ++ zs)))
theorem mt_extR {X : Cx} : MtM X "list.extend" rExtR := by
  intro pins s σ H x vs v us Q I rx rv h
  obtain ⟨l, b, xs, zs, rfl, rfl, hH, hB, hz, q⟩ := h
  cases rx
  obtain ⟨u, rfl, ru⟩ := rv.one
  cases ru
  obtain ⟨z, its, n, r, hl, e⟩ := I.lstM hH
  obtain ⟨z2, its2, n2, r2, e2⟩ := hB.ok I.hok
  have hl2 := r2.length
  have hsz : its.toArray.size + its2.toArray.size ≤ sizeLine := by rw [List.size_toArray, List.size_toArray]; omega
  have hlong : ¬ (!its.toArray.isEmpty && Builtin.List.listTooLong (its.toArray.size + its2.toArray.size)) = true := by
    rw [notLongL hsz, Bool.and_false]
    exact Bool.false_ne_true
  refine call_meets F.slot_list_extend ⟨_, e, rfl⟩ F.entry_list_extend (F.args_list_extend_2 _ _)
    (AutoSeq1.list_extend_list_list_0 l its.toArray n b its2.toArray n2 hlong (by rw [List.size_toArray]; omega) (by omega)) ⟨e, e2, ?_⟩
  refine ⟨.non, _, I.lset (its' := its ++ its2) hH e (by simp) (r.append r2) ?_, rfl, q⟩
  rw [List.length_append]
  omega
theorem few_of {X : Cx} {y : Expr} {cp : Pos} (h : notStar y = true) : ((backTo cp (starEach [y] X.env)).all (fun x => !x.1) && (backToKw cp (keywordEach [] X.env)).all (fun x => x.1.isSome)
      && decide (([y] : List Expr).length + ([] : List Keyword).length + (if ([] : List Keyword).isEmpty then 0 else 1) < 30)) = true := by
  rw [star_of h]
  rfl
theorem plain1_of {X : Cx} {y : Expr} (h : notStar y = true) : starEach [y] X.env = (false, eval y X.env) :: starEach [] X.env := star_of h
theorem app_line {a b : Pos} (h : (a.endLine == b.line) = true) : (a.endLine == b.line) = true := h
theorem ss_app {i : Nat} {e : E} (O : D.Ok) : SSt D bw (.app i e) := by
  intro X N sc Wx C st hx σ Fz H en Dd R h
  cases st <;> first | exact (Bool.false_ne_true hx).elim | skip
  rename_i ex0 pos
  match ex0, hx with
  | .Call (.Attribute (.Name x np) m ap) [y] [] cp, hx =>
    have h' : (decide (m = "append") && (ap.endLine == cp.line) && vrB N sc i x && chkE D.G N e sc y) = true := hx
    simp only [Bool.and_eq_true, decide_eq_true_eq] at h'
    obtain ⟨⟨⟨rfl, h1⟩, h2⟩, h3⟩ := h'
    have hst := chkE_star h3
    refine JS.of (ps_expr (pe_bm (F.plainAttrs_list) F.slot_list_append F.type_list_append mt_append (pe_slot C.c h2) (pa_cons (JE.pe X y) pa_nil (plain1_of hst)) rfl (few_of hst) (by rw [h1]) (plain1_of hst) rfl) rfl) ?_
    rw [C.c.K]
    have h : SatF D.K bw D.cl Wx Fz H en σ (match en[i]? with
      | some (some (.own _)) => (ev D.cs D.cf e en).fl fun w e1 => match e1[i]? with
        | some (some (.own ds)) => if ds.length < sizeLine then .nx (e1.set i (some (.own (ds ++ [w.val])))) else .stuck
        | _ => .stuck
      | _ => .stuck) Dd := h
    split at h
    · rename_i ds0 hd0
      obtain ⟨a, xs0, k1, k2, k3, k4⟩ := R.os i ds0 hd0
      refine ⟨_, k1, .inl ⟨rfl, xs0, .inl (.inl k2)⟩, (all_E O e).e X N sc Wx C.c y h3 σ Fz H en _ R (h.flV fun w e1 Fz1 H1 v s r h => ?_)⟩
      split at h
      · rename_i ds hd
        by_cases hz : ds.length < sizeLine
        · rw [if_pos hz] at h
          obtain ⟨b, xs, g1, g2, g3, g4⟩ := s.er.os i ds hd
          rw [k1] at g1
          cases g1
          exact ⟨a, xs, v, rfl, rfl, g2, by rw [← g4.length]; exact hz, h Fz1 _ σ (nf_upd s.er hd k1 (g4.append (.cons r .nil)))⟩
        · rw [if_neg hz] at h; exact h.elim
      · exact h.elim
    · exact h.elim
theorem ss_ext {i : Nat} {e : E} (O : D.Ok) : SSt D bw (.ext i e) := by
  intro X N sc Wx C st hx σ Fz H en Dd R h
  cases st <;> first | exact (Bool.false_ne_true hx).elim | skip
  rename_i ex0 pos
  match ex0, hx with
  | .Call (.Attribute (.Name x np) m ap) [y] [] cp, hx =>
    have h' : (decide (m = "extend") && (ap.endLine == cp.line) && vrB N sc i x && chkE D.G N e sc y) = true := hx
    simp only [Bool.and_eq_true, decide_eq_true_eq] at h'
    obtain ⟨⟨⟨rfl, h1⟩, h2⟩, h3⟩ := h'
    have hst := chkE_star h3
    refine JS.of (ps_expr (pe_bm (F.plainAttrs_list) F.slot_list_extend F.type_list_extend mt_extR (pe_slot C.c h2) (pa_cons (JE.pe X y) pa_nil (plain1_of hst)) rfl (few_of hst) (by rw [h1]) (plain1_of hst) rfl) rfl) ?_
    rw [C.c.K]
    have h : SatF D.K bw D.cl Wx Fz H en σ (match en[i]? with
      | some (some (.own _)) => (ev D.cs D.cf e en).fl fun w e1 => match e1[i]?, w.val with
        | some (some (.own ds)), .list xs => if ds.length + xs.length ≤ sizeLine then .nx (e1.set i (some (.own (ds ++ xs)))) else .stuck
        | _, _ => .stuck
      | _ => .stuck) Dd := h
    split at h
    · rename_i ds0 hd0
      obtain ⟨a, xs0, k1, k2, k3, k4⟩ := R.os i ds0 hd0
      refine ⟨_, k1, .inl ⟨rfl, xs0, .inl (.inl k2)⟩, (all_E O e).e X N sc Wx C.c y h3 σ Fz H en _ R (h.flV fun w e1 Fz1 H1 v s r h => ?_)⟩
      split at h
      · rename_i ds es hd he
        rw [he] at r
        by_cases hz : ds.length + es.length ≤ sizeLine
        · rw [if_pos hz] at h
          obtain ⟨b, xs, g1, g2, g3, g4⟩ := s.er.os i ds hd
          rw [k1] at g1
          cases g1
          cases r with
          | lst a1 a2 a3 =>
            exact ⟨a, _, xs, _, rfl, rfl, g2, a1, by rw [← g4.length, ← a3.length]; exact hz, h Fz1 _ σ (nf_upd s.er hd k1 (g4.append a3))⟩
        · rw [if_neg hz] at h; exact h.elim
      · exact h.elim
    · exact h.elim
end
end TD

set_option maxHeartbeats 1000000
namespace TD
open PySem PySem.Spec PyProof.Rows L2
section
variable {X : Cx}
/-- X() -/
theorem pmk_own0 {C : Addr} {bmB : List Value} {B newId initId : String} {x : Str} {p pos : Pos} (F : ExcBaseFacts B newId initId bmB) (q : PySem.W.excIn X.K C bmB newId = true) (gC : X.mg x = some (.ref C)) (kC : PySem.W.keepIn X.K (.ref C) = true) (r : Raises X (.ref C)) (hg : Gl X x)
    (hdb : (x == ("__debug__" : Str)) = false) : PMk X (.Call (.Name x p) [] [] pos) (fun σ H Q => Q (.ref C) none H) := by
  intro pins s σ H Q I h
  refine wpAny_Call_Name_kw (ld_glob I hg gC ?_ hdb)
  refine PySem.W.callWith_K0 I.kIn kC ?_
  show wpAny _ _ (call (.ref C) []) _ _ _
  obtain ⟨bm, N, nm, qn, bs, hdct, sn, sub, ab, col, dd, k0, k1, k2, k3, k5, mN, hC, hN, hni, T⟩ := exc_obj I.kIn q
  refine wpAny_call_exc_subT F T hC hN hni (fun h' e hm => ?_) (by show 0 ≤ sizeLine; omega)
  exact mk_of I hm r h (I.hok.gone hm.new)
end
section
variable {D : Dt} {bw : Bool}
theorem ss_rs {c : Nat} {e : E} (O : D.Ok) (Z : D.Ce) : SSt D bw (.rs c e) := by
  intro X N sc Wx C st hx σ Fz H en Dd R h
  cases e with
  | nil =>
    cases st <;> first | exact (Bool.false_ne_true hx).elim | skip
    rename_i eo co pos
    match eo, co, hx with
    | some (.Call (.Name x p) [] [] p2), none, hx =>
      have h' : (decide (D.G.cls[c]? = some x) && glB sc x && nmB x) = true := hx
      simp only [Bool.and_eq_true, decide_eq_true_eq] at h'
      obtain ⟨⟨h1, h2⟩, h3⟩ := h'
      obtain ⟨n1, n2, n3⟩ := nm_of h3
      obtain ⟨g1, Ca, B, nid, iid, bm, g2, g3, g4, g5, g6, g7⟩ := Z.cls c x h1
      rw [g2] at g1
      refine JS.of (L2.ps_raise C.c.calm C.c.tk (pmk_own0 g4 (by rw [C.c.K]; exact g5) (by rw [C.c.mg]; exact g1) (by rw [C.c.K]; exact g3) (raises_own (by rw [C.c.K]; exact g6) (by rw [C.c.K]; exact g7)) (gl_of C.c.sc h2) n1)) ?_
      show Wx (.ref Ca) none σ H
      rw [← g2]
      exact h Fz H σ none (.refl R) rfl
  | _ => cases st <;> first | exact (Bool.false_ne_true hx).elim | (rename_i eo co pos; match eo, co, hx with | some (.Call (.Name x p) [] [] p2), none, hx => exact (Bool.false_ne_true hx).elim)
/-- a suite behind except: constants into names -/
structure Su (D : Dt) (X : Cx) (N : List Str) (sc : Scope) : Prop where
  N : X.N = N
  sc : X.env.scope = sc
  nd : X.N.Nodup
  fn : ∀ x, X.fn x = true
def SSu (D : Dt) (bw : Bool) (S : S) : Prop := ∀ (X : Cx) (N : List Str) (sc : Scope) (Wx : WX), Su D X N sc → ∀ st, chkM D.G N sc S st = true → ∀ (σ : SS) (Fz : Addr → Prop) (H : Hp) (en : En) (Dd : Ends), Er D.K Fz H en σ →
  SatF D.K bw D.cl Wx Fz H en σ (ex D.cs D.cf bw S en) Dd → JL X st Dd σ H
theorem smp_ev {e : E} {en : En} {G : Gm} {N : List Str} {sc : Scope} {y : Expr} {X : Cx} {cs : List PyData} {cf : CF} (h : smpE e = true) (hc : chkE G N e sc y = true) : ∃ d v, ev cs cf e en = .ok (.v d) en ∧ (∀ K Fz H, VR K Fz H d v) ∧ PE X y (fun σ H Q => Q v H) := by
  cases e <;> first | exact (Bool.false_ne_true h).elim | skip
  · cases y <;> first | exact (Bool.false_ne_true hc).elim | skip
    rename_i i c _ _
    cases c <;> first | exact (Bool.false_ne_true hc).elim | skip
    rename_i j
    have e : i = j := of_decide_eq_true hc
    subst e
    exact ⟨_, _, rfl, fun _ _ _ => .int _, pe_int⟩
  · cases y <;> first | exact (Bool.false_ne_true hc).elim | skip
    rename_i i c _ _
    cases c <;> first | exact (Bool.false_ne_true hc).elim | skip
    rename_i j
    have e : i = j := of_decide_eq_true hc
    subst e
    exact ⟨_, _, rfl, fun _ _ _ => .str _, pe_str⟩
  · cases y <;> first | exact (Bool.false_ne_true hc).elim | skip
    rename_i i c _ _
    cases c <;> first | exact (Bool.false_ne_true hc).elim | skip
    rename_i j
    have e : i = j := of_decide_eq_true hc
    subst e
    exact ⟨_, _, rfl, fun _ _ _ => .bl _, pe_bl⟩
  · cases y <;> first | exact (Bool.false_ne_true hc).elim | skip
    rename_i c _ _
    cases c <;> first | exact (Bool.false_ne_true hc).elim | skip
    exact ⟨_, _, rfl, fun _ _ _ => .non, pe_non⟩
theorem su_nil : SSu D bw .nil := by
  intro X N sc Wx C st hx σ Fz H en Dd R h
  cases st with
  | nil => exact JL.of pss_nil (h Fz H σ (.refl R))
  | cons _ _ => exact (Bool.false_ne_true hx).elim
theorem su_cons {a b : S} (hb : SSu D bw b) : SSu D bw (.cons a b) := by
  intro X N sc Wx C st hx σ Fz H en Dd R h
  cases st with
  | nil => exact (Bool.false_ne_true hx).elim
  | cons x xs =>
    have h' : (chkM1 D.G N sc a x && chkM D.G N sc b xs) = true := hx
    rw [Bool.and_eq_true] at h'
    obtain ⟨hx1, hx2⟩ := h'
    cases a <;> first | exact (Bool.false_ne_true hx1).elim | skip
    rename_i i e kp
    cases x <;> first | exact (Bool.false_ne_true hx1).elim | skip
    rename_i ts y pos
    match ts, hx1 with
    | [.Name x p], hx1 =>
      have h' : (smpE e && decide (N[i]? = some x) && locB sc x && !otherComp y && !isLc y && chkE D.G N e sc y) = true := hx1
      simp only [Bool.and_eq_true, decide_eq_true_eq, Bool.not_eq_true'] at h'
      obtain ⟨⟨⟨⟨⟨h1, h2⟩, h3⟩, h4⟩, h5⟩, h6⟩ := h'
      obtain ⟨d, v, q1, q2, q3⟩ := smp_ev (X := X) (en := en) (cs := D.cs) (cf := D.cf) h1 h6
      have hl : Loc X.env.scope x := by rw [C.sc]; exact locB_of h3
      refine JL.of (pss_cons (ps_set C.nd (by rw [C.N]; exact h2) hl q3 (sw_plain h5 h4) (.inl (C.fn x))) (JL.pss X xs)) ?_
      show JL X xs Dd (σ.set i (some v)) H
      have h : SatF D.K bw D.cl Wx Fz H en σ (((ev D.cs D.cf e en).fl fun w e1 => .ofE (stI bw i (w.keep kp) e1)).seq fun e1 => ex D.cs D.cf bw b e1) Dd := h
      rw [q1] at h
      have hk : W.keep kp (.v d) = .v d := by cases kp <;> rfl
      have h : SatF D.K bw D.cl Wx Fz H en σ ((Fl.ofE (stI bw i (W.keep kp (.v d)) en)).seq fun e1 => ex D.cs D.cf bw b e1) Dd := h
      rw [hk] at h
      cases hst : stI bw i (.v d) en with
      | none => rw [hst] at h; exact h.elim
      | some e2 =>
        rw [hst] at h
        have o := ot_set R (q2 D.K Fz H) hst
        exact hb X N sc Wx C xs hx2 _ Fz H e2 Dd o.er (SatF.shift o.nf h)
theorem su_none {S : S} (h : ∀ G N sc st, chkM G N sc S st = false) : SSu D bw S := by
  intro X N sc Wx C st hx
  rw [h] at hx
  cases hx
theorem all_Su : ∀ S : S, SSu D bw S
  | .nil => su_nil
  | .cons a b => su_cons (all_Su b)
  | .pass => su_none fun _ _ _ st => by cases st <;> rfl
  | .exp _ => su_none fun _ _ _ st => by cases st <;> rfl
  | .asg _ _ _ => su_none fun _ _ _ st => by cases st <;> rfl
  | .asgT _ _ => su_none fun _ _ _ st => by cases st <;> rfl
  | .aug _ _ _ => su_none fun _ _ _ st => by cases st <;> rfl
  | .setI _ _ _ => su_none fun _ _ _ st => by cases st <;> rfl
  | .app _ _ => su_none fun _ _ _ st => by cases st <;> rfl
  | .ext _ _ => su_none fun _ _ _ st => by cases st <;> rfl
  | .ret _ => su_none fun _ _ _ st => by cases st <;> rfl
  | .retN => su_none fun _ _ _ st => by cases st <;> rfl
  | .ite _ _ _ => su_none fun _ _ _ st => by cases st <;> rfl
  | .whl _ _ => su_none fun _ _ _ st => by cases st <;> rfl
  | .for_ _ _ _ => su_none fun _ _ _ st => by cases st <;> rfl
  | .brk => su_none fun _ _ _ st => by cases st <;> rfl
  | .cont => su_none fun _ _ _ st => by cases st <;> rfl
  | .rs _ _ => su_none fun _ _ _ st => by cases st <;> rfl
  | .tr _ _ _ => su_none fun _ _ _ st => by cases st <;> rfl
  | .hd _ _ _ => su_none fun _ _ _ st => by cases st <;> rfl
  | .hdA _ _ _ _ _ => su_none fun _ _ _ st => by cases st <;> rfl
  | .par2 _ _ _ => su_none fun _ _ _ st => by cases st <;> rfl
  | .par3 _ _ _ _ => su_none fun _ _ _ st => by cases st <;> rfl
  | .pk2 _ _ _ _ _ _ => su_none fun _ _ _ st => by cases st <;> rfl
  | .pk3 _ _ _ _ _ _ _ _ _ => su_none fun _ _ _ st => by cases st <;> rfl
end
/-! ### except clauses, some of them with a name -/
abbrev Cl3 : Type := Value × Option Nat × (Addr → Value → Option Addr → TS)
def offE (D : Ends) : Option Nat → Ends
  | none => D
  | some i => { nx := fun σ H => D.nx (σ.set i none) H, rt := D.rt, bk := fun σ H => D.bk (σ.set i none) H, ct := fun σ H => D.ct (σ.set i none) H }
def onS (σ : SS) (a : Addr) : Option Nat → SS
  | none => σ
  | some i => σ.set i (some (.ref a))
def wManyN (K : PySem.W.Frag) (Wout : WX) (D : Ends) : List Cl3 → WX
  | [] => Wout
  | (c, o, ts) :: r => fun cls d σ H => ∃ b, PySem.W.exmOne K cls c = some b ∧ (b = true → ∀ a, H a = none → ts a cls d (offE D o) (onS σ a o) H) ∧ (b = false → wManyN K Wout D r cls d σ H)
inductive HdsN (X : Cx) : List ExceptHandler → List Cl3 → Prop
  | nil : HdsN X [] []
  | cons {x : Str} {c : Value} {ts : Addr → Value → Option Addr → TS} {b₀ : Stmt} {suite : List Stmt} {np pos' : Pos} {hds : List ExceptHandler} {l : List Cl3} {on : Option Str} {oi : Option Nat}
      (hc : Names X x c) (ho : (on = none ∧ oi = none) ∨ ∃ n i, on = some n ∧ oi = some i ∧ X.N[i]? = some n ∧ X.env.kindOf n = some .local)
      (hsu : ∀ (a : Addr) (oe : Obj) (cls : Value) (d : Option Addr) (pn : List (Addr × Obj)), Zc cls d oe → (∃ vs, oe.data = .fields vs) → PSs (X.suite a ((a, oe) :: pn)) (b₀ :: suite) (ts a cls d)) (r : HdsN X hds l) :
      HdsN X (.ExceptHandler (some (.Name x np)) on (b₀ :: suite) pos' :: hds) ((c, oi, ts) :: l)
section
variable {X : Cx} {body : List Stmt} {h₀ : ExceptHandler} {hds : List ExceptHandler} {l : List Cl3} {pos : Pos} {tb : WX → TS} {Wout : WX}
theorem ps_try_named (hs : X.stack = X.env :: X.outer) (hf : X.env.frame = some X.env.locals) (hN : X.N.Nodup) (tk : Takes X Wout)
    (hb : ∀ (W : WX) (pn : List (Addr × Obj)) (xe : Value → Shared → Prop), Takes (X.tr pn xe) W → PassesOwn (model X.prog X.w) X.A X.env xe → PSs (X.tr pn xe) body (tb W))
    (hh : HdsN X (h₀ :: hds) l) : PS X (.Try body (h₀ :: hds) [] [] pos) (fun D σ H => tb (wManyN X.K Wout D l) D σ H) := by
  refine ⟨fun pins s σ H D I h => ?_⟩
  have ok := I.ok
  have hfr : X.A.frames = some (X.env :: X.outer) := by rw [ok.frames, hs]
  refine wpAny_Try_except ?_
  refine wpAny_mono ((hb (wManyN X.K Wout D l) (X.pn ++ pins) (fun e s₁ => wpAny (model X.prog X.w) X.A (noteFrame e X.env) (fun _ s₂ => wpAny (model X.prog X.w) X.A (setFlight e none) (fun _ s₃ =>
    wpAny (model X.prog X.w) X.A (handleBy e X.env (h₀ :: hds)) (SP X pins D) X.xe s₃) X.xe s₂) X.xe s₁) (fun u s' xx => ?_) PassesOwn.looking).run [] s σ H D (I.toTry _) h) (fun f s1 hsp => ?_) (fun e s1 he => he)
  · obtain ⟨a, B, sI, pins', σ', H', cls, d, rfl, J', nb, up, sky, na, os, ag, w⟩ := xx
    have J : Inv X pins σ' H' sI := J'.ofTry ok
    have sky' : Sky B (X.env :: X.outer) a (Zc cls d) X.env.locals s'.heap := by rw [← hs]; exact sky
    show wpAny (model X.prog X.w) X.A (noteFrame (.ref a) X.env) _ _ _
    refine Sky.land Zc.steady hfr hf sky' fun h3 fl3 up3 => ?_
    have J3 : Inv X pins σ' H' { s' with heap := h3 } := J.landed nb fl3.1 (up.trans up3) os ag
    obtain ⟨oe3, vs3, he3, hz3, hd3⟩ := fl3.there
    have notFr : ∀ {h : Heap} {o : Obj} {vs : Array Value}, h.FunFrames B (X.env :: X.outer) → h.get? a = some o → o.data = .fields vs → a ∉ frs (X.env :: X.outer) := fun {h o vs} ff e dd hm => by
      obtain ⟨_, o', e', hnf⟩ := ff.mem hm
      rw [e] at e'; cases e'
      exact hnf _ dd
    have nfr := notFr fl3.2.2.1 he3 hd3
    have nL : a ≠ X.env.locals := fun z => nfr (List.mem_filterMap.mpr ⟨X.env, List.mem_cons_self, by rw [hf, z]⟩)
    have nF : a ∉ X.fs := fun hm => by
      obtain ⟨e, he, q⟩ := List.mem_filterMap.mp hm
      exact nfr (List.mem_filterMap.mpr ⟨e, List.mem_cons_of_mem _ he, q⟩)
    have S3 := J3.suite he3 hd3 na nL nF
    have go : ∀ {hds' : List ExceptHandler} {l' : List Cl3}, HdsN X hds' l' → wManyN X.K Wout D l' cls d σ' H' →
        wpAny (model X.prog X.w) X.A (handleBy (.ref a) X.env hds') (SP X pins D) X.xe { s' with heap := h3 } := by
      intro hds' l' hk
      induction hk with
      | nil =>
        intro w
        refine wpAny_handleBy_nil ?_
        obtain ⟨k1, k2, k3, oe, vs, T, oT, ts', he, hz, hd, h1, hr⟩ := id fl3
        unfold PySem.passOn
        refine wpAny_bind (wpAny_field he hd h1 ?_)
        rw [if_neg (show ¬ ((Value.ref T == Value.none) = true) from by simp)]
        have fin : wpAny (model X.prog X.w) X.A (setFlight (.ref a) X.env.frame) (fun _ s4 => wpAny (model X.prog X.w) X.A (throw (.ref a) : Sem Flow) (SP X pins D) X.xe s4) X.xe { s' with heap := h3 } := by
          rw [hf]
          refine HandSPX.setFlight_upZ fl3 fun h4 hh4 up4 => wpAny_throw (tk _ _ ?_)
          exact ⟨a, B, sI, pins, σ', H', cls, d, rfl, J, nb, (up.trans up3).trans up4, .inr (.inr (by rw [hs]; exact hh4)), na, os, ag, w⟩
        first
          | exact wpAny_bind (wpAny_pure (wpAny_bind fin))
          | exact wpAny_bind fin
      | @cons x c ts b₀ suite np pos' hds2 l2 on oi hc ho hsu r ih =>
        intro w
        obtain ⟨b, hb1, hyes, hno⟩ := w
        refine wpAny_handleBy_cons (codeAny_handlers_test ?_) (by intro q; cases q)
        have LT : PySem.W.Looks (model X.prog X.w) h3 (typeOf (.ref a)) cls := fun A Q E s k q => wpAny_typeOf_ref (k _ _ he3) (by rw [hz3.1]; exact q)
        have LM := PySem.W.exm_one (M := model X.prog X.w) (J3.kIn) LT hb1
        have test : ∀ {Q : Value → Shared → Prop} {E : Value → Shared → Prop}, Q c { s' with heap := h3 } → wpAny (model X.prog X.w) (X.A.mark (some (.ref a))) (eval (.Name x np) X.env) Q E { s' with heap := h3 } := fun {Q E} q => by
          obtain ⟨hg, hdbg, hm | ⟨hm, hv, hnn⟩⟩ := hc
          · exact ld_glob (X := X.suite a ((a, oe3) :: (X.pn ++ pins))) S3 hg hm q hdbg
          · exact ld_blt (X := X.suite a ((a, oe3) :: (X.pn ++ pins))) S3 hg hm hv q hnn hdbg
        refine test (LM.here ?_)
        cases b with
        | true =>
          rcases ho with ⟨rfl, rfl⟩ | ⟨n, i, rfl, rfl, hi, hln⟩
          · refine codeAny_handlers_suite ?_
            refine HandSPX.lands_againZ fl3 fun h4 fl4 up4 => ?_
            have J4 : Inv X pins σ' H' { s' with heap := h4 } := J.landed nb fl4.1 ((up.trans up3).trans up4) os ag
            obtain ⟨oe4, vs4, he4, hz4, hd4⟩ := fl4.there
            have S4 := J4.suite he4 hd4 na nL nF
            refine wpAny_mono ((hsu a oe4 cls d (X.pn ++ pins) hz4 ⟨_, hd4⟩).run [] _ _ H' _ S4 (hyes rfl a na)) (fun f s6 hsp => ?_) (fun _ _ z => False.elim z)
            cases f with
            | next =>
              obtain ⟨σ6, H6, S6, q6⟩ := hsp
              exact ⟨_, _, S6.unsuite ok, q6⟩
            | brk =>
              obtain ⟨σ6, H6, S6, q6⟩ := hsp
              exact ⟨_, _, S6.unsuite ok, q6⟩
            | cont =>
              obtain ⟨σ6, H6, S6, q6⟩ := hsp
              exact ⟨_, _, S6.unsuite ok, q6⟩
            | ret u =>
              obtain ⟨v6, σ6, H6, S6, r6, q6⟩ := hsp
              exact ⟨_, _, _, S6.unsuite ok, r6, q6⟩
          · have hloc : Loc X.env.scope n := .inl hln
            refine codeAny_handlers_suite_as ?_
            refine HandSPX.lands_againZ fl3 fun h4 fl4 up4 => ?_
            have J4 : Inv X pins σ' H' { s' with heap := h4 } := J.landed nb fl4.1 ((up.trans up3).trans up4) os ag
            obtain ⟨oe4, vs4, he4, hz4, hd4⟩ := fl4.there
            have S4 := J4.suite he4 hd4 na nL nF
            refine store_ok (X := X.suite a ((a, oe4) :: (X.pn ++ pins))) (v := .ref a) S4 hN hi hloc rfl (fun s5 S5 => ?_) (.inr hln)
            refine wpAny_mono ((hsu a oe4 cls d (X.pn ++ pins) hz4 ⟨_, hd4⟩).run [] s5 _ H' _ S5 (hyes rfl a na)) (fun f s6 hsp => ?_) (fun _ _ z => False.elim z)
            have end_ : ∀ {σ6 : SS} {H6 : Hp} {Q : Shared → Prop}, Inv (X.suite a ((a, oe4) :: (X.pn ++ pins))) [] σ6 H6 s6 → (∀ s7, Inv X pins (σ6.set i none) H6 s7 → Q s7) →
                wpAny (model X.prog X.w) X.A (do bindName X.env n .none; unbindBehindTheSuite X.env n pos') (fun _ s7 => Q s7) X.xe s6 := fun {σ6 H6 Q} S6 hq => gone_ok (S6.unsuite ok) hN hi hln hq
            cases f with
            | next =>
              obtain ⟨σ6, H6, S6, q6⟩ := hsp
              exact end_ S6 fun s7 J7 => ⟨_, _, J7, q6⟩
            | brk =>
              obtain ⟨σ6, H6, S6, q6⟩ := hsp
              exact end_ S6 fun s7 J7 => ⟨_, _, J7, q6⟩
            | cont =>
              obtain ⟨σ6, H6, S6, q6⟩ := hsp
              exact end_ S6 fun s7 J7 => ⟨_, _, J7, q6⟩
            | ret u =>
              obtain ⟨v6, σ6, H6, S6, r6, q6⟩ := hsp
              exact end_ S6 fun s7 J7 => ⟨_, _, _, J7, r6, q6⟩
        | false =>
          show wpAny _ X.A (handleBy (.ref a) X.env hds2) _ _ _
          exact ih (hno rfl)
    exact go hh w
  · cases f with
    | next =>
      obtain ⟨σ', H', J', q⟩ := hsp
      exact wpAny_execs_nil ⟨σ', H', J'.ofTry ok, q⟩
    | brk =>
      obtain ⟨σ', H', J', q⟩ := hsp
      exact ⟨σ', H', J'.ofTry ok, q⟩
    | cont =>
      obtain ⟨σ', H', J', q⟩ := hsp
      exact ⟨σ', H', J'.ofTry ok, q⟩
    | ret u =>
      obtain ⟨v, σ', H', J', r, q⟩ := hsp
      exact ⟨v, σ', H', J'.ofTry ok, r, q⟩
end
/-! ### x = ['text', isinstance(n, ValueError)] in a clause's suite -/
section
variable {X : Cx} {a : Addr} {oe : Obj} {pn : List (Addr × Obj)} {D0 : Addr}
theorem pss_told {i t : Nat} {n y z : Str} {ap yp p1 p2 p3 p4 p5 p6 : Pos} {k1 : Nat} (C : ExcC X.K D0) (hz : Zc (.ref D0) none oe) (hf : ∃ vs, oe.data = .fields vs) (hN : X.N.Nodup) (fn : ∀ x, X.fn x = true)
    (hi : X.N[i]? = some n) (ht : X.N[t]? = some y) (hv : Vis X.env.scope n) (hy : Loc X.env.scope y) (hnm : nmB n = true) (hgl : Gl X "isinstance") (hgv : Gl X "ValueError") (hm : X.mg "isinstance" = none) (hmv : X.mg "ValueError" = none) (hk : PySem.W.kitOne X.K (.ref D0) (.type "ValueError") = some true)
    {σ : SS} {H : Hp} {D : Ends} (hs : σ[i]? = some (some (.ref a))) (h : ∀ p, H p = none → D.nx (σ.set t (some (.ref p))) (upd H p (.lst [.str z, .bl true]))) :
    JL (X.suite a ((a, oe) :: pn)) [.Assign [.Name y yp] (.List [.Constant (.str z) k1 p1, .Call (.Name "isinstance" p2) [.Name n p3, .Name "ValueError" p4] [] p5] p6) ap] D σ H := by
  obtain ⟨n1, n2, n3⟩ := nm_of hnm
  have hb : bootBuiltins "isinstance" = some (.builtin "isinstance") := by decide +kernel
  have hbv : bootBuiltins "ValueError" = some (.type "ValueError") := by decide +kernel
  refine JL.of (X := X.suite a ((a, oe) :: pn)) (pss_cons (ps_set (X := X.suite a ((a, oe) :: pn)) hN ht hy (pe_lst (pa_cons pe_str (pa_cons (pe_callB (call_isE C hz hf) hgl hm hb (pa_cons (pe_var hi hv n1 n2) (pa_cons (pe_bltn (v := .ty "ValueError") hgv hmv hbv rfl) pa_nil rfl) rfl) (by decide +kernel) (by decide +kernel) rfl rfl) pa_nil rfl) rfl)) (sw_plain rfl rfl) (.inl (fn y))) pss_nil) ?_
  refine ⟨_, hs, .ty "ValueError", .type "ValueError", true, rfl, fun u r => r, hk, (show 2 ≤ sizeLine by decide), fun p hp => ?_⟩
  exact h p hp
end
section
variable {D : Dt} {bw : Bool}
/-- the clauses' classes with what each does -/
def hdL (D : Dt) (X : Cx) : S → List ExceptHandler → List Cl3
  | .hd c su rest, .ExceptHandler _ _ suite _ :: hs => (D.cl c, none, fun a cls d D' σ H => ∀ (oe : Obj) (pn : List (Addr × Obj)), Zc cls d oe → (∃ vs, oe.data = .fields vs) → JL (X.suite a ((a, oe) :: pn)) suite D' σ H) :: hdL D X rest hs
  | .hdA c i t z rest, .ExceptHandler _ _ suite _ :: hs => (D.cl c, some i, fun a cls d D' σ H => ∀ (oe : Obj) (pn : List (Addr × Obj)), Zc cls d oe → (∃ vs, oe.data = .fields vs) → JL (X.suite a ((a, oe) :: pn)) suite D' σ H) :: hdL D X rest hs
  | _, _ => []
theorem hdA_inv {G : Gm} {N : List Str} {sc : Scope} {c i t : Nat} {z : Str} {rest : S} {h0 : ExceptHandler} {hs : List ExceptHandler} (h : chkH G N sc (.hdA c i t z rest) (h0 :: hs) = true) :
    ∃ x np n y yp k1 p1 p2 p3 p4 p5 p6 ap pos, h0 = .ExceptHandler (some (.Name x np)) (some n) [.Assign [.Name y yp] (.List [.Constant (.str z) k1 p1, .Call (.Name "isinstance" p2) [.Name n p3, .Name "ValueError" p4] [] p5] p6) ap] pos ∧
      ((G.cls[c]? = some x ∧ glB sc x = true ∧ nmB x = true) ∧ chkH G N sc rest hs = true) ∧ (G.isv = true ∧ N[i]? = some n ∧ N[t]? = some y ∧ (i ≠ t ∧ i ≠ 0) ∧ sc.names.lookup n = some .local ∧ locB sc y = true ∧ glB sc "isinstance" = true ∧ nmB n = true ∧ glB sc "ValueError" = true) := by
  unfold chkH at h
  split at h
  · rename_i e _; cases e
  · rename_i e _; cases e
  · rename_i e1 e2
    cases e1
    cases e2
    simp only [Bool.and_eq_true, decide_eq_true_eq] at h
    obtain ⟨⟨⟨⟨a1, a2⟩, a3⟩, a4⟩, ⟨⟨⟨⟨⟨⟨⟨⟨⟨⟨⟨⟨b1, b2⟩, b3⟩, b4⟩, b5⟩, b6⟩, rfl⟩, rfl⟩, b7⟩, rfl⟩, b8⟩, rfl⟩, b9⟩⟩ := h
    exact ⟨_, _, _, _, _, _, _, _, _, _, _, _, _, _, rfl, ⟨⟨a1, a2, a3⟩, a4⟩, b1, b2, b3, b4, b5, b6, b7, b8, b9⟩
  · exact (Bool.false_ne_true h).elim
theorem hds_ok {X : Cx} {N : List Str} {sc : Scope} {Wx : WX} (Z : D.Ce) (C : D.Cs X N sc Wx) : ∀ (hs : S) (hds : List ExceptHandler), chkH D.G N sc hs hds = true → HdsN X hds (hdL D X hs hds)
  | .nil, [], _ => .nil
  | .hd c su rest, .ExceptHandler (some (.Name x p)) none (b :: suite) pos :: hs, h => by
    have h' : (decide (D.G.cls[c]? = some x) && glB sc x && nmB x && chkM D.G N sc su (b :: suite) && chkH D.G N sc rest hs) = true := h
    simp only [Bool.and_eq_true, decide_eq_true_eq] at h'
    obtain ⟨⟨⟨⟨h1, h2⟩, h3⟩, h4⟩, h5⟩ := h'
    obtain ⟨n1, n2, n3⟩ := nm_of h3
    refine .cons ⟨gl_of C.c.sc h2, n1, .inl (by rw [C.c.mg]; exact (Z.cls c x h1).1)⟩ (.inl ⟨rfl, rfl⟩) (fun a oe cls d pn hz hd => ⟨fun pins s σ H D' I q => q oe pn hz hd pins s I⟩) (hds_ok Z C rest hs h5)
  | .hdA c i t z rest, h0 :: hs, h => by
    obtain ⟨x, np, n, y, yp, k1, p1, p2, p3, p4, p5, p6, ap, pos, rfl, ⟨⟨h1, h2, h3⟩, h5⟩, b1, b2, b3, b4, b5, b6, b7, b8, b9⟩ := hdA_inv h
    obtain ⟨n1, n2, n3⟩ := nm_of h3
    refine .cons ⟨gl_of C.c.sc h2, n1, .inl (by rw [C.c.mg]; exact (Z.cls c x h1).1)⟩ (.inr ⟨n, i, rfl, rfl, by rw [C.c.N]; exact b2, by show X.env.scope.names.lookup n = _; rw [C.c.sc]; exact b5⟩) (fun a oe cls d pn hz hd => ⟨fun pins s σ H D' I q => q oe pn hz hd pins s I⟩) (hds_ok Z C rest hs h5)
theorem er_off {K : PySem.W.Frag} {Fz : Addr → Prop} {H : Hp} {e : En} {σ : SS} (i : Nat) (R : Er K Fz H e σ) : Er K Fz H (e.set i none) (σ.set i none) := by
  have ne : ∀ {j : Nat} {w : W}, (e.set i none)[j]? = some (some w) → i ≠ j ∧ e[j]? = some (some w) := fun {j w} q => by
    by_cases z : i = j
    · subst z
      rw [List.getElem?_set] at q
      split at q
      · split at q <;> cases q
      · exact absurd rfl ‹_›
    · rw [List.getElem?_set_ne z] at q
      exact ⟨z, q⟩
  have same : ∀ {j : Nat}, i ≠ j → (σ.set i none)[j]? = σ[j]? := fun {j} q => List.getElem?_set_ne q
  refine ⟨by rw [List.length_set, List.length_set]; exact R.len, fun j d q => ?_, fun j ds q => ?_, fun j ds q => ?_, fun j k ds es a q1 q2 q3 q4 => ?_, R.ft⟩
  · rw [same (ne q).1]; exact R.vs j d (ne q).2
  · rw [same (ne q).1]; exact R.os j ds (ne q).2
  · rw [same (ne q).1]; exact R.ss j ds (ne q).2
  · rw [same (ne q1).1] at q3
    rw [same (ne q2).1] at q4
    exact R.ap j k ds es a (ne q1).2 (ne q2).2 q3 q4
theorem nf_off {K : PySem.W.Frag} {bw : Bool} {Fz : Addr → Prop} {H : Hp} {e : En} {σ : SS} (i : Nat) (R : Er K Fz H e σ) (h0 : bw = true → i ≠ 0) : Nf K bw Fz H e σ Fz H (e.set i none) (σ.set i none) := by
  refine ⟨.refl, er_off i R, fun a q => .inl ?_, fun b => ?_⟩
  · obtain ⟨j, ds, h1, h2⟩ := q
    by_cases z : i = j
    · subst z
      rw [List.getElem?_set] at h1
      split at h1
      · split at h1 <;> cases h1
      · exact absurd rfl ‹_›
    · rw [List.getElem?_set_ne z] at h1 h2
      exact ⟨j, ds, h1, h2⟩
  · rw [List.getElem?_set_ne (h0 b)]
theorem hds_wish {X : Cx} {N : List Str} {sc : Scope} {Wx : WX} (O : D.Ok) (Z : D.Ce) (C : D.Cs X N sc Wx) {c : Nat} (hc : c < D.G.cls.length) {p : Option PyData} {e1 : En} {Fz1 : Addr → Prop} {H1 : Hp} {σ1 : SS} {d : Option Addr} {Dd : Ends} (R : Er D.K Fz1 H1 e1 σ1) (hp : Xr D.K Fz1 H1 p d) :
    ∀ (hs : S) (hds : List ExceptHandler), chkH D.G N sc hs hds = true → SatF D.K bw D.cl Wx Fz1 H1 e1 σ1 (exH D.cs D.cf bw hs c p e1) Dd → wManyN X.K Wx Dd (hdL D X hs hds) (D.cl c) d σ1 H1
  | .nil, [], _, h => h Fz1 H1 σ1 d (.refl R) hp
  | .hd c' su rest, .ExceptHandler (some (.Name x p')) none (b :: suite) pos :: hs, h, q => by
    have h' : (decide (D.G.cls[c']? = some x) && glB sc x && nmB x && chkM D.G N sc su (b :: suite) && chkH D.G N sc rest hs) = true := h
    simp only [Bool.and_eq_true, decide_eq_true_eq] at h'
    obtain ⟨⟨⟨⟨h1, h2⟩, h3⟩, h4⟩, h5⟩ := h'
    have hc' : c' < D.G.cls.length := by
      rcases Nat.lt_or_ge c' D.G.cls.length with z | z
      · exact z
      · rw [List.getElem?_eq_none z] at h1; cases h1
    have q : SatF D.K bw D.cl Wx Fz1 H1 e1 σ1 (if c' = c then ex D.cs D.cf bw su e1 else exH D.cs D.cf bw rest c p e1) Dd := q
    refine ⟨decide (c' = c), by rw [C.c.K]; exact Z.exm c c' hc hc', fun hb a ha oe pn hz hd => ?_, fun hb => ?_⟩
    · rw [if_pos (of_decide_eq_true hb)] at q
      exact all_Su su (X.suite a ((a, oe) :: pn)) N sc Wx ⟨C.c.N, C.c.sc, C.c.nd, C.fn⟩ (b :: suite) h4 σ1 Fz1 H1 e1 Dd R q
    · rw [if_neg (of_decide_eq_false hb)] at q
      exact hds_wish O Z C hc R hp rest hs h5 q
  | .hdA c' i t z rest, h0 :: hs, h, q => by
    obtain ⟨x, np, n, y, yp, k1, p1, p2, p3, p4, p5, p6, ap, pos, rfl, ⟨⟨h1, h2, h3⟩, h5⟩, b1, b2, b3, b4, b5, b6, b7, b8, b9⟩ := hdA_inv h
    have hc' : c' < D.G.cls.length := by
      rcases Nat.lt_or_ge c' D.G.cls.length with z | z
      · exact z
      · rw [List.getElem?_eq_none z] at h1; cases h1
    have q : SatF D.K bw D.cl Wx Fz1 H1 e1 σ1 (if c' = c then clE bw i t z p e1 else exH D.cs D.cf bw rest c p e1) Dd := q
    refine ⟨decide (c' = c), by rw [C.c.K]; exact Z.exm c c' hc hc', fun hb a ha oe pn hz hd => ?_, fun hb => ?_⟩
    · rw [if_pos (of_decide_eq_true hb)] at q
      cases p with
      | some pd => exact q.elim
      | none =>
        have q : SatF D.K bw D.cl Wx Fz1 H1 e1 σ1 (if i < e1.length then .ofE (stI bw t (.own [.str z, .bool true]) (e1.set i none)) else .stuck) Dd := q
        have hd0 : d = none := hp
        subst hd0
        by_cases li : i < e1.length
        · rw [if_pos li] at q
          cases hst : stI bw t (.own [.str z, .bool true]) (e1.set i none) with
          | none => rw [hst] at q; exact q.elim
          | some e2 =>
            rw [hst] at q
            have q : ∀ Fz2 H2 σ2, Nf D.K bw Fz1 H1 e1 σ1 Fz2 H2 e2 σ2 → Dd.nx σ2 H2 := q
            obtain ⟨g1, g2⟩ := Z.isv b1
            obtain ⟨Ca, g3, g4, g5⟩ := g2 c hc
            rw [g3] at hz
            rw [R.len] at li
            have bl : X.mg "isinstance" = none := Dt.blt O C.c (by decide +kernel)
            refine pss_told (D0 := Ca) (i := i) (t := t) (by rw [C.c.K]; exact g4) hz hd C.c.nd C.fn (by rw [C.c.N]; exact b2) (by rw [C.c.N]; exact b3) (.inl (by rw [C.c.sc]; exact b5)) (by rw [C.c.sc]; exact locB_of b6) b8 (gl_of C.c.sc b7) (gl_of C.c.sc b9) bl (by rw [C.c.mg]; exact g1) (by rw [C.c.K]; exact g5) (by
              show (σ1.set i (some (.ref a)))[i]? = _
              rw [List.getElem?_set_self li]) fun p' hp' => ?_
            show Dd.nx ((((σ1.set i (some (.ref a))).set t (some (.ref p'))).set i none)) _
            have R0 := er_off i R
            have eσ : ((σ1.set i (some (.ref a))).set t (some (V.ref p'))).set i none = (σ1.set i none).set t (some (.ref p')) := by
              rw [List.set_comm _ _ (Ne.symm b4.1), List.set_set]
            rw [eσ]
            have s1 : Nx D.K (σ1.set i none) Fz1 H1 (e1.set i none) Fz1 (upd H1 p' (.lst [.str z, .bl true])) (e1.set i none) := Nx.new R0 hp'
            have w1 : Wr D.K (σ1.set i none) H1 (e1.set i none) Fz1 (upd H1 p' (.lst [.str z, .bl true])) (e1.set i none) (.own [.str z, .bool true]) (.ref p') := by
              refine ⟨p', _, rfl, upd_same, fun hf => (R.ft p' hf) hp', fun hw => ?_, .inl hp', .cons (.str _) (.cons (.bl _) .nil)⟩
              obtain ⟨j, ds, h1, h2⟩ := hw
              obtain ⟨b, xs, h3, h4, _, _⟩ := R0.os j ds h1
              rw [h2] at h3
              cases h3
              rw [hp'] at h4
              cases h4
            exact q _ _ _ ((nf_off i R fun _ => b4.2).trans (nf_store s1 w1 hst))
        · rw [if_neg li] at q
          exact q.elim
    · rw [if_neg (of_decide_eq_false hb)] at q
      exact hds_wish O Z C hc R hp rest hs h5 q
theorem ss_tr {n : Nat} {b hs : S} (O : D.Ok) (Z : D.Ce) (hb : SSl D bw b) : SSt D bw (.tr n b hs) := by
  intro X N sc Wx C st hx σ Fz H en Dd R h
  cases st <;> first | exact (Bool.false_ne_true hx).elim | skip
  rename_i body hds oe fe pos
  match hds, oe, fe, hx with
  | [], [], [], hx =>
    have h' : (decide (n = D.G.cls.length) && chkL D.G N sc b body && chkH D.G N sc hs [] && !([] : List ExceptHandler).isEmpty) = true := hx
    rw [Bool.and_eq_true] at h'
    exact (Bool.false_ne_true h'.2).elim
  | h0 :: hds, [], [], hx =>
    have h' : (decide (n = D.G.cls.length) && chkL D.G N sc b body && chkH D.G N sc hs (h0 :: hds) && !(h0 :: hds).isEmpty) = true := hx
    simp only [Bool.and_eq_true, decide_eq_true_eq] at h'
    obtain ⟨⟨⟨rfl, h1⟩, h2⟩, h3⟩ := h'
    have hfr : X.env.frame = some X.env.locals := C.frm
    refine JS.of (ps_try_named (tb := fun W D' σ H => ∀ (pn : List (Addr × Obj)) (xe : Value → Shared → Prop), Takes (X.tr pn xe) W → PassesOwn (model X.prog X.w) X.A X.env xe → JL (X.tr pn xe) body D' σ H) C.stk hfr C.c.nd C.c.tk
      (fun W pn xe tk po => ⟨fun pins s σ H D' I q => q pn xe tk po pins s I⟩) (hds_ok Z C hs (h0 :: hds) h2)) ?_
    intro pn xe tk po
    refine hb (X.tr pn xe) N sc _ ⟨⟨C.c.prog, C.c.w, C.c.K, C.c.mg, C.c.base, C.c.N, C.c.sc, C.c.nd, C.c.room, C.c.calm, tk⟩, C.fn, po, C.kind, C.stk, C.frm⟩ body h1 σ Fz H en Dd R ?_
    have h : SatF D.K bw D.cl Wx Fz H en σ (match ex D.cs D.cf bw b en with
      | .exc c p e1 => if c < D.G.cls.length then exH D.cs D.cf bw hs c p e1 else .stuck
      | r => r) Dd := h
    cases hr : ex D.cs D.cf bw b en with
    | nx e1 => rw [hr] at h; exact h
    | bk e1 => rw [hr] at h; exact h
    | ct e1 => rw [hr] at h; exact h
    | ret w e1 => rw [hr] at h; exact h
    | stuck => rw [hr] at h; exact h
    | exc c p e1 =>
      rw [hr] at h
      have h : SatF D.K bw D.cl Wx Fz H en σ (if c < D.G.cls.length then exH D.cs D.cf bw hs c p e1 else .stuck) Dd := h
      by_cases hc : c < D.G.cls.length
      · rw [if_pos hc] at h
        exact fun Fz1 H1 σ1 d s q => hds_wish O Z C hc s.er q hs (h0 :: hds) h2 (SatF.shift s h)
      · rw [if_neg hc] at h
        exact h.elim
theorem sl_none {S : S} (h : ∀ G N sc st, chkL G N sc S st = false) : SSl D bw S := by
  intro X N sc Wx C st hx
  rw [h] at hx
  cases hx
theorem ss_none {S : S} (h : ∀ G N sc st, chkS G N sc S st = false) : SSt D bw S := by
  intro X N sc Wx C st hx
  rw [h] at hx
  cases hx
theorem all_S (O : D.Ok) (Z : D.Ce) : ∀ S : S, SSt D bw S ∧ SSl D bw S
  | .nil => ⟨ss_none fun _ _ _ st => by cases st <;> rfl, sl_nil⟩
  | .cons a b => ⟨ss_none fun _ _ _ st => by cases st <;> rfl, sl_cons (all_S O Z a).1 (all_S O Z b).2⟩
  | .pass => ⟨ss_pass, sl_none fun _ _ _ st => by cases st <;> rfl⟩
  | .exp _ => ⟨ss_exp O, sl_none fun _ _ _ st => by cases st <;> rfl⟩
  | .asg _ _ _ => ⟨ss_asg O, sl_none fun _ _ _ st => by cases st <;> rfl⟩
  | .asgT _ _ => ⟨ss_asgT O, sl_none fun _ _ _ st => by cases st <;> rfl⟩
  | .aug _ _ _ => ⟨ss_aug O, sl_none fun _ _ _ st => by cases st <;> rfl⟩
  | .setI _ _ _ => ⟨ss_setI O, sl_none fun _ _ _ st => by cases st <;> rfl⟩
  | .app _ _ => ⟨ss_app O, sl_none fun _ _ _ st => by cases st <;> rfl⟩
  | .ext _ _ => ⟨ss_ext O, sl_none fun _ _ _ st => by cases st <;> rfl⟩
  | .ret _ => ⟨ss_ret O, sl_none fun _ _ _ st => by cases st <;> rfl⟩
  | .retN => ⟨ss_retN, sl_none fun _ _ _ st => by cases st <;> rfl⟩
  | .ite _ a b => ⟨ss_ite O (all_S O Z a).2 (all_S O Z b).2, sl_none fun _ _ _ st => by cases st <;> rfl⟩
  | .whl _ a => ⟨ss_whl O (all_S O Z a).2, sl_none fun _ _ _ st => by cases st <;> rfl⟩
  | .for_ _ _ a => ⟨ss_for O (all_S O Z a).2, sl_none fun _ _ _ st => by cases st <;> rfl⟩
  | .brk => ⟨ss_brk, sl_none fun _ _ _ st => by cases st <;> rfl⟩
  | .cont => ⟨ss_cont, sl_none fun _ _ _ st => by cases st <;> rfl⟩
  | .rs _ _ => ⟨ss_rs O Z, sl_none fun _ _ _ st => by cases st <;> rfl⟩
  | .tr _ b _ => ⟨ss_tr O Z (all_S O Z b).2, sl_none fun _ _ _ st => by cases st <;> rfl⟩
  | .hd _ _ _ => ⟨ss_none fun _ _ _ st => by cases st <;> rfl, sl_none fun _ _ _ st => by cases st <;> rfl⟩
  | .hdA _ _ _ _ _ => ⟨ss_none fun _ _ _ st => by cases st <;> rfl, sl_none fun _ _ _ st => by cases st <;> rfl⟩
  | .par2 _ _ _ => ⟨ss_par2 O, sl_none fun _ _ _ st => by cases st <;> rfl⟩
  | .par3 _ _ _ _ => ⟨ss_par3 O, sl_none fun _ _ _ st => by cases st <;> rfl⟩
  | .pk2 _ _ _ _ _ _ => ⟨ss_pk2 O, sl_none fun _ _ _ st => by cases st <;> rfl⟩
  | .pk3 _ _ _ _ _ _ _ _ _ => ⟨ss_pk3 O, sl_none fun _ _ _ st => by cases st <;> rfl⟩
end
end TD

set_option maxHeartbeats 1000000
namespace TD
open PySem PySem.Spec PyProof.Rows L2

/-! ### a def, by its tree -/
theorem pad_get {α : Type} {l : List α} {n i : Nat} {a : α} (h : (l.map some ++ List.replicate n none)[i]? = some (some a)) : (l.map some)[i]? = some (some a) := by
  rcases Nat.lt_or_ge i (l.map some).length with z | z
  · rw [List.getElem?_append_left z] at h; exact h
  · rw [List.getElem?_append_right z, List.getElem?_replicate] at h
    split at h <;> cases h
theorem get_pad {α : Type} {l : List α} {n i : Nat} {a : α} (h : (l.map some)[i]? = some (some a)) : (l.map some ++ List.replicate n none)[i]? = some (some a) := by
  rcases Nat.lt_or_ge i (l.map some).length with z | z
  · rw [List.getElem?_append_left z]; exact h
  · rw [List.getElem?_eq_none z] at h; cases h
section
variable {K : PySem.W.Frag} {Fz : Addr → Prop} {H : Hp} {ws : List W} {vs : List V} {m n : Nat}
theorem er_pad (R : Er K Fz H (ws.map some) (vs.map some)) (hm : m = n) : Er K Fz H (ws.map some ++ List.replicate m none) (vs.map some ++ List.replicate n none) where
  len := by
    have := R.len
    rw [List.length_append, List.length_append, List.length_replicate, List.length_replicate, this, hm]
  vs i d h := by
    obtain ⟨x, q, r⟩ := R.vs i d (pad_get h)
    exact ⟨x, get_pad q, r⟩
  os i ds h := by
    obtain ⟨a, xs, q, r⟩ := R.os i ds (pad_get h)
    exact ⟨a, xs, get_pad q, r⟩
  ss i ds h := by
    obtain ⟨a, xs, q, r⟩ := R.ss i ds (pad_get h)
    exact ⟨a, xs, get_pad q, r⟩
  ap i j ds es a h1 h2 h3 h4 := R.ap i j ds es a (pad_get h1) (pad_get h2) (pad_get h3) (pad_get h4)
  ft := R.ft
theorem ow_pad {a : Addr} : Ow (ws.map some ++ List.replicate m none) (vs.map some ++ List.replicate n none) a ↔ Ow (ws.map some) (vs.map some) a :=
  ⟨fun ⟨i, ds, h1, h2⟩ => ⟨i, ds, pad_get h1, pad_get h2⟩, fun ⟨i, ds, h1, h2⟩ => ⟨i, ds, get_pad h1, get_pad h2⟩⟩
theorem stp_pad {Fz1 : Addr → Prop} {H1 : Hp} (s : Stp Fz (Ow (ws.map some ++ List.replicate m none) (vs.map some ++ List.replicate n none)) H Fz1 H1) : Stp Fz (Ow (ws.map some) (vs.map some)) H Fz1 H1 :=
  ⟨s.fz, fun a o h q => s.keep a o h fun z => q (ow_pad.mp z), fun a h => (s.nfz a h).imp id (Or.imp id ow_pad.mp), s.trk⟩
/-- slot 0 behind a body that borrows it -/
theorem br_of {bw : Bool} {Fz1 : Addr → Prop} {H1 : Hp} {e1 : En} {σ1 : SS} (R : Er K Fz1 H1 e1 σ1) (h0 : bw = true → σ1[0]? = (vs.map some ++ List.replicate n none)[0]?) : Br K Fz1 H1 (if bw then (e1[0]?).join else none) vs := by
  cases bw with
  | false => exact trivial
  | true =>
    have h0 := h0 rfl
    have tip : ∀ x, σ1[0]? = some (some x) → ∃ r, vs = x :: r := fun x q => by
      rw [h0] at q
      have q := pad_get q
      cases vs with
      | nil => cases q
      | cons v r => cases q; exact ⟨r, rfl⟩
    show Br K Fz1 H1 (e1[0]?).join vs
    cases h : e1[0]? with
    | none => exact trivial
    | some o =>
      cases o with
      | none => exact trivial
      | some w =>
        cases w with
        | v d =>
          obtain ⟨x, q, r⟩ := R.vs 0 d h
          obtain ⟨r', e⟩ := tip _ q
          exact ⟨x, r', e, r⟩
        | own ds =>
          obtain ⟨a, xs, q, g1, g2, g3⟩ := R.os 0 ds h
          obtain ⟨r', e⟩ := tip _ q
          exact ⟨a, r', xs, e, g1, g2, g3⟩
        | scr ds =>
          obtain ⟨a, xs, q, g1, g3⟩ := R.ss 0 ds h
          obtain ⟨r', e⟩ := tip _ q
          exact ⟨a, r', xs, e, g1, g3⟩
theorem wr_of {bw : Bool} {Fz1 : Addr → Prop} {H1 : Hp} {e1 : En} {σ1 : SS} {w : W} {x : V} (h0 : bw = true → σ1[0]? = (vs.map some ++ List.replicate n none)[0]?)
    (q : Wg K (Ow (ws.map some ++ List.replicate m none) (vs.map some ++ List.replicate n none)) H Fz1 H1 (Ow e1 σ1) w x) : Wr K (vs.map some) H (ws.map some) Fz1 H1 (bEn (if bw then (e1[0]?).join else none)) w x := by
  cases w with
  | v d => exact q
  | scr d => exact q
  | own ds =>
    obtain ⟨a, xs, g1, g2, g3, g4, g5, g6⟩ := q
    refine ⟨a, xs, g1, g2, g3, fun ⟨i, es, z1, z2⟩ => g4 ?_, g5.imp id ow_pad.mp, g6⟩
    cases bw with
    | false => cases z1
    | true =>
      have h0 := h0 rfl
      have z1 : (bEn (e1[0]?).join)[i]? = some (some (W.own es)) := z1
      cases h : e1[0]? with
      | none => rw [h] at z1; cases z1
      | some o =>
        rw [h] at z1
        cases o with
        | none => cases z1
        | some w =>
          have z1 : [some w][i]? = some (some (W.own es)) := z1
          cases i with
          | succ i => cases z1
          | zero =>
            cases z1
            exact ⟨0, es, h, by rw [h0]; exact get_pad z2⟩
end

structure Df where
  st : Stmt
  N : List Str
  ps : List Str
  F : Fn
/-- what a def's text is checked for -/
def Df.chk (G : Gm) (d : Df) : Bool := chkL G d.N (defScope d.st) d.F.body (defBody d.st) && decide (d.F.np = d.ps.length) && decide (d.F.ns = d.N.length)
structure DfOk (K : PySem.W.Frag) (mg : Str → Option Value) (G : Gm) (x : Str) (d : Df) : Prop where
  sc : FnScope d.N d.ps (defScope d.st)
  chk : d.chk G = true
  fn : ∃ fa fd, mg x = some (.ref fa) ∧ (∃ y, Fun K y y d.st fa fd) ∧ Binds K fd d.ps [] ∧ ∀ ns, (x, ns) ∈ G.kw → ns = d.ps ∧ KwB K fd d.ps
section
variable {P : Program} {w : World} {K : PySem.W.Frag} {mg : Str → Option Value} {base : Heap} {G : Gm} {cs : List PyData} {cl : Nat → Value}
theorem len_spF {cf : CF} {f n : Nat} : ∀ vs H Q E, spF K cl cf f n vs H Q E → vs.length = n := fun _ _ _ _ h => h.1
theorem fn_step {D : Dt} (O : D.Ok) (Z : D.Ce) {d : Df} {f : Nat} {tab : List Fn} {fa : Addr} {fd : FuncData} (sc : FnScope d.N d.ps (defScope d.st)) (hc : d.chk D.G = true) (Fy : ∃ y, Fun D.K y y d.st fa fd) (ht : tab[f]? = some d.F) (hcf : D.cf = evF D.cs tab D.k) :
    FnOk D.P D.w D.K D.mg D.base (L2.CX D.P D.w) (D.k + 1) fa fd d.ps (spF D.K D.cl (evF D.cs tab (D.k + 1)) f d.ps.length) := by
  have h' : (chkL D.G d.N (defScope d.st) d.F.body (defBody d.st) && decide (d.F.np = d.ps.length) && decide (d.F.ns = d.N.length)) = true := hc
  simp only [Bool.and_eq_true, decide_eq_true_eq] at h'
  obtain ⟨⟨h1, h2⟩, h3⟩ := h'
  obtain ⟨x, F⟩ := Fy
  refine F.okX sc (fun vs H Q E h => h.1) (fun cdv A outer s H vs Q E hr h => ⟨JL _ (defBody d.st), JL.pss _ _, ?_⟩)
  obtain ⟨hl, Fz, ws, R, h⟩ := h
  have hw : ws.length = vs.length := by
    have := R.len
    rw [List.length_map, List.length_map] at this
    exact this
  have ee : evF D.cs tab (D.k + 1) f ws = if ws.length = d.F.np ∧ d.F.np ≤ d.F.ns ∧ (d.F.bw || ws.all isV) = true ∧ (ws.drop 1).all isV = true then finF d.F.bw (ex D.cs D.cf d.F.bw d.F.body (ws.map some ++ List.replicate (d.F.ns - d.F.np) none)) else .stuck := by
    rw [hcf]
    show (match tab[f]? with
      | none => FR.stuck
      | some F => _) = _
    rw [ht]
  rw [ee] at h
  by_cases hcnd : ws.length = d.F.np ∧ d.F.np ≤ d.F.ns ∧ (d.F.bw || ws.all isV) = true ∧ (ws.drop 1).all isV = true
  · rw [if_pos hcnd] at h
    have R' : Er D.K Fz H (ws.map some ++ List.replicate (d.F.ns - d.F.np) none) (start d.N vs) := er_pad R (by rw [h2, h3, hl])
    have hfr : ∀ {cdv' : Value}, (envOfC x (defScope d.st) s.heap.objs.size fa cdv').frame = some (envOfC x (defScope d.st) s.heap.objs.size fa cdv').locals := rfl
    refine (all_S (bw := d.F.bw) O Z d.F.body).2 _ d.N (defScope d.st) (fun cls d _ H => E cls d H) ⟨⟨rfl, rfl, rfl, rfl, rfl, rfl, rfl, sc.nd, hr, rfl, takes_of rfl rfl rfl rfl⟩, fun _ => rfl, passes_of rfl, sc.kind, rfl, rfl⟩ (defBody d.st) h1 (start d.N vs) Fz H _ _ R' ?_
    cases hx : ex D.cs D.cf d.F.bw d.F.body (ws.map some ++ List.replicate (d.F.ns - d.F.np) none) with
    | stuck => rw [hx] at h; exact h.elim
    | bk e => rw [hx] at h; exact h.elim
    | ct e => rw [hx] at h; exact h.elim
    | nx e1 =>
      rw [hx] at h
      exact fun Fz1 H1 σ1 n => h Fz1 H1 .non (stp_pad n.stp) n.er.ft (br_of n.er n.bw) .non
    | ret w e1 =>
      rw [hx] at h
      exact fun Fz1 H1 σ1 v n q => h Fz1 H1 v (stp_pad n.stp) n.er.ft (br_of n.er n.bw) (wr_of n.bw q)
    | exc c p e1 =>
      rw [hx] at h
      exact fun Fz1 H1 σ1 dd n q => h Fz1 H1 dd (stp_pad n.stp) n.er.ft (br_of n.er n.bw) q
  · rw [if_neg hcnd] at h
    exact h.elim
/-- every def of the table keeps its promise -/
theorem all_F (fa : Fa P w K mg G cs) (tab : List Df) (Z : ∀ k cf, Dt.Ce ⟨P, w, K, mg, base, G, cs, cl, k, cf⟩) (h : ∀ (f : Nat) (x : Str), G.fnm[f]? = some x → ∃ d, tab[f]? = some d ∧ DfOk K mg G x d) :
    ∀ k, CfOk P w K mg base G.fnm G.kw cl k (evF cs (tab.map (·.F)) k)
  | 0 => fun f x hf => by
    obtain ⟨d, h1, h2⟩ := h f x hf
    obtain ⟨fa', fd, g1, g2, g3, g4⟩ := h2.fn
    refine ⟨fa', fd, d.ps, g1, (let ⟨_, q⟩ := g2; q.kp), g3, ⟨fun vs H Q E h => h.1, fun A outer s H args us vs Q E hr he hb hv hs => ?_⟩, fun ws q => absurd rfl q, g4⟩
    obtain ⟨_, _, _, _, z⟩ := hs
    exact z.elim
  | k + 1 => fun f x hf => by
    obtain ⟨d, h1, h2⟩ := h f x hf
    obtain ⟨fa', fd, g1, g2, g3, g4⟩ := h2.fn
    have ht : (tab.map (·.F))[f]? = some d.F := by rw [List.getElem?_map, h1]; rfl
    refine ⟨fa', fd, d.ps, g1, (let ⟨_, q⟩ := g2; q.kp), g3, fn_step (D := ⟨P, w, K, mg, base, G, cs, cl, k, evF cs (tab.map (·.F)) k⟩) ⟨fa, all_F fa tab Z h k⟩ (Z k _) h2.sc h2.chk g2 ht rfl, fun ws q => ?_, g4⟩
    have hc : (chkL G d.N (defScope d.st) d.F.body (defBody d.st) && decide (d.F.np = d.ps.length) && decide (d.F.ns = d.N.length)) = true := h2.chk
    simp only [Bool.and_eq_true, decide_eq_true_eq] at hc
    have ee : evF cs (tab.map (·.F)) (k + 1) f ws = if ws.length = d.F.np ∧ d.F.np ≤ d.F.ns ∧ (d.F.bw || ws.all isV) = true ∧ (ws.drop 1).all isV = true then finF d.F.bw (ex cs (evF cs (tab.map (·.F)) k) d.F.bw d.F.body (ws.map some ++ List.replicate (d.F.ns - d.F.np) none)) else .stuck := by
      show (match (tab.map (·.F))[f]? with
        | none => FR.stuck
        | some F => _) = _
      rw [ht]
    rw [ee] at q
    by_cases hcnd : ws.length = d.F.np ∧ d.F.np ≤ d.F.ns ∧ (d.F.bw || ws.all isV) = true ∧ (ws.drop 1).all isV = true
    · rw [hcnd.1, hc.1.2]
    · rw [if_neg hcnd] at q
      exact absurd rfl q
/-- the law's own wish -/
def spL (K : PySem.W.Frag) (cl : Nat → Value) (cf : CF) (f n : Nat) (m : Nat) : Sp := fun vs H Q E => spF K cl cf f n vs H Q E
end
end TD

set_option maxHeartbeats 1000000
namespace TD
open PySem PySem.Spec PyProof.Rows L2

/-! ### the law's own end -/
theorem sr_of {K : PySem.W.Frag} {H : Hp} {a : Addr} {xs : List V} (o : Only H) (h : SqL K H a xs) : Sr K H a xs := by
  rcases h with (h | ⟨ob, h⟩) | h
  · rcases o a with z | ⟨ob, ys, z⟩
    · rw [h] at z; cases z
    · rw [h] at z; cases z
  · exact .inl ⟨ob, h⟩
  · exact .inr h
def spT (cf : CF) (f : Nat) (K : PySem.W.Frag) : Sp := fun vs H Q _ => ∃ (a : Addr) (ns : List Int), vs = [.ref a] ∧ Sr K H a (ns.map V.int) ∧ (∃ b, cf f [.scr (ns.map PyData.int)] = .ok (.v (.bool true)) b) ∧ ∀ H', Q (.bl true) H'
theorem spT_imp {K : PySem.W.Frag} {cl : Nat → Value} {cf : CF} {f : Nat} (vs : List V) (H : Hp) (Q : VK) (E : XK) (h : spT cf f K vs H Q E) : spF K cl cf f 1 vs H Q E := by
  obtain ⟨a, ns, rfl, hs, ⟨b, he⟩, q⟩ := h
  refine ⟨rfl, fun _ => False, [.scr (ns.map PyData.int)], ⟨rfl, fun i d z => ?_, fun i ds z => ?_, fun i ds z => ?_, fun i j ds es a z => ?_, fun a z => z.elim⟩, ?_⟩
  · cases i with
    | zero => cases z
    | succ i => cases z
  · cases i with
    | zero => cases z
    | succ i => cases z
  · cases i with
    | zero =>
      cases z
      exact ⟨a, _, rfl, hs, .of_ints ns⟩
    | succ i => cases z
  · cases i with
    | zero => cases z
    | succ i => cases z
  · rw [he]
    intro Fz1 H1 x _ _ _ r
    have r : VR K Fz1 H1 (.bool true) x := r
    cases r
    exact q H1
structure DfOk' (K : PySem.W.Frag) (mg : Str → Option Value) (G : Gm) (x : Str) (d : Df) : Prop where
  sc : FnScope d.N d.ps (defScope d.st)
  chk : d.chk G = true
  fn : ∃ fa fd, mg x = some (.ref fa) ∧ (∃ y, Fun K y y d.st fa fd) ∧ (∀ us : List Value, us.length = d.ps.length → bindArgs fd ⟨us, []⟩ = pure (d.ps.zip us)) ∧ ∀ ns, (x, ns) ∈ G.kw → ns = d.ps ∧ ∀ us : List Value, us.length = d.ps.length → bindArgs fd ⟨[], d.ps.zip us⟩ = pure (d.ps.zip us)
theorem DfOk'.ok {K : PySem.W.Frag} {mg : Str → Option Value} {G : Gm} {x : Str} {d : Df} (h : DfOk' K mg G x d) : DfOk K mg G x d := by
  obtain ⟨h1, h2, fa, fd, g1, g2, g3, g4⟩ := h
  exact ⟨h1, h2, fa, fd, g1, g2, .all g3, fun ns hn => ⟨(g4 ns hn).1, fun s us _ hl => .of_eq ((g4 ns hn).2 us hl)⟩⟩
/-- how a def takes keywords alone -/
def KdOk (G : Gm) (x y : Str) (d : Df) : Prop := ∀ ns, (x, ns) ∈ G.kw → ns = d.ps ∧ ∀ (kV doc pm : Value) (an : Option Addr) (cdv ct : Value) (us : List Value), us.length = d.ps.length → bindArgs (PySem.W.fnOf y y (defArgs d.st) (defBody d.st) (defScope d.st) .none kV doc pm an cdv ct) ⟨[], d.ps.zip us⟩ = pure (d.ps.zip us)
theorem kd_no {G : Gm} {x y : Str} {d : Df} (h : (G.kw.all fun p => !decide (p.1 = x)) = true) : KdOk G x y d := fun ns hn => by
  rw [List.all_eq_true] at h
  have := h _ hn
  simp at this
def AllD (K : PySem.W.Frag) (mg : Str → Option Value) (G : Gm) : List Str → List Df → Prop
  | [], [] => True
  | x :: xs, d :: ds => DfOk' K mg G x d ∧ AllD K mg G xs ds
  | _, _ => False
theorem AllD.get {K : PySem.W.Frag} {mg : Str → Option Value} {G : Gm} : ∀ {xs : List Str} {ds : List Df}, AllD K mg G xs ds → ∀ (f : Nat) (x : Str), xs[f]? = some x → ∃ d, ds[f]? = some d ∧ DfOk' K mg G x d
  | [], [], _, f, x, h => by cases f <;> cases h
  | x :: xs, d :: ds, h, 0, y, e => by cases e; exact ⟨d, rfl, h.1⟩
  | x :: xs, d :: ds, h, f + 1, y, e => by
    obtain ⟨d', h1, h2⟩ := AllD.get h.2 f y e
    exact ⟨d', h1, h2⟩
theorem df_mk {K : PySem.W.Frag} {h : Heap} {mg : Str → Option Value} {G : Gm} {x y : Str} {d : Df} {f : Addr} {oc : Value} {od an : Option Addr} {osl : Array (Option Value)} {kV doc pm cdv ct : Value} (X : K.In h) (hG : h.Ns mainGlobals mg)
    (sc : FnScope d.N d.ps (defScope d.st)) (ck : d.chk G = true) (bd : ∀ (kV doc pm : Value) (an : Option Addr) (cdv ct : Value) (us : List Value), us.length = d.ps.length → bindArgs (PySem.W.fnOf y y (defArgs d.st) (defBody d.st) (defScope d.st) .none kV doc pm an cdv ct) ⟨us, []⟩ = pure (d.ps.zip us)) (kd : KdOk G x y d)
    (a : PySem.W.nsIn K mainGlobals x = some (some (.ref f))) (l : K.lookup f = some ⟨oc, od, .func (PySem.W.fnOf y y (defArgs d.st) (defBody d.st) (defScope d.st) .none kV doc pm an cdv ct), osl⟩) (c : PySem.W.codeIn K cdv y = true) (k : PySem.W.keepIn K (.ref f) = true) : DfOk' K mg G x d :=
  ⟨sc, ck, f, _, PySem.W.mg_of X hG a, ⟨y, fun_mk l c k⟩, bd kV doc pm an cdv ct, fun ns hn => ⟨(kd ns hn).1, (kd ns hn).2 kV doc pm an cdv ct⟩⟩
theorem law_F {P : Program} {w : World} {K : PySem.W.Frag} {mg : Str → Option Value} {G : Gm} {cs : List PyData} {cl : Nat → Value} {tab : List Df} {k f : Nat} {fa : Addr} {d : Df} (hfa : mg "law" = some (.ref fa)) (F : Fa P w K mg G cs) (Z : ∀ base k cf, Dt.Ce ⟨P, w, K, mg, base, G, cs, cl, k, cf⟩) (A : AllD K mg G G.fnm tab)
    (hf : G.fnm[f]? = some "law") (hd : tab[f]? = some d) (hp : d.ps = [("script" : Str)]) :
    ∃ fd : FuncData, (∀ (s : Shared) (u : Value), BindsTo s fd ⟨[u], []⟩ [("script", u)]) ∧ ∀ base : Heap, K.In base → base.Ns mainGlobals mg → FnOk P w K mg base (L2.CX P w) (k + 1) fa fd ["script"] (spT (evF cs (tab.map (·.F)) (k + 1)) f K) := by
  obtain ⟨d', h1, h2⟩ := A.get f "law" hf
  rw [hd] at h1
  cases h1
  obtain ⟨h3, h4, fa', fd, g1, g2, g3, _⟩ := h2
  rw [hfa] at g1
  cases g1
  refine ⟨fd, fun s u => .of_eq ?_, fun base _ _ => ?_⟩
  · have q := g3 [u] (by rw [hp]; rfl)
    rw [hp] at q
    exact q
  · have ht : (tab.map (·.F))[f]? = some d.F := by rw [List.getElem?_map, hd]; rfl
    have q := fn_step (D := ⟨P, w, K, mg, base, G, cs, cl, k, evF cs (tab.map (·.F)) k⟩) ⟨F, all_F (base := base) F tab (Z base) (fun f x hf => by obtain ⟨d, e1, e2⟩ := A.get f x hf; exact ⟨d, e1, e2.ok⟩) k⟩ (Z base k _) h3 h4 g2 ht rfl
    rw [hp] at q
    exact q.imp spT_imp
theorem spT_hsp {K : PySem.W.Frag} {cf : CF} {f n : Nat} (h : ∀ ns : List Int, ns.length ≤ n → ∃ b, cf f [.scr (ns.map PyData.int)] = .ok (.v (.bool true)) b) (H : Hp) (a : Addr) (ns : List Int) (hn : ns.length ≤ n) (o : Only H) (hs : SqL K H a (ns.map V.int)) :
    spT cf f K [.ref a] H (fun v _ => v = .bl true) fun _ _ _ => False := ⟨a, ns, rfl, sr_of o hs, h ns hn, fun _ => rfl⟩
theorem cx_none {P : Program} {w : World} (H : Hp) (s : Shared) (e : Value) (s' : Shared) : L2.CX P w [] H s (fun _ _ _ => False) e s' → False := fun ⟨_, _, _, _, _, _, _, _, _, _, _, _, z⟩ => z
/-! ### what the top has written, gathered -/
section
variable {P : Program} {w : World} {K : PySem.W.Frag} {h : Heap} {mg : Str → Option Value} {G : Gm} {cs : List PyData}
theorem blt_mk (X : K.In h) (hG : h.Ns mainGlobals mg) (z0 : PySem.W.nsIn K mainGlobals "len" = some none) (z1 : PySem.W.nsIn K mainGlobals "abs" = some none) (z2 : PySem.W.nsIn K mainGlobals "min" = some none) (z3 : PySem.W.nsIn K mainGlobals "max" = some none)
    (z4 : PySem.W.nsIn K mainGlobals "sum" = some none) (z5 : PySem.W.nsIn K mainGlobals "all" = some none) (z6 : PySem.W.nsIn K mainGlobals "any" = some none) (z7 : PySem.W.nsIn K mainGlobals "int" = some none) (z8 : PySem.W.nsIn K mainGlobals "bool" = some none) (z9 : PySem.W.nsIn K mainGlobals "str" = some none)
    (z10 : PySem.W.nsIn K mainGlobals "tuple" = some none) (z11 : PySem.W.nsIn K mainGlobals "list" = some none) (z12 : PySem.W.nsIn K mainGlobals "sorted" = some none) (z13 : PySem.W.nsIn K mainGlobals "isinstance" = some none) (z14 : PySem.W.nsIn K mainGlobals "range" = some none)
    (z15 : PySem.W.nsIn K mainGlobals "enumerate" = some none) (z16 : PySem.W.nsIn K mainGlobals "zip" = some none) (z17 : PySem.W.nsIn K mainGlobals "set" = some none) : ∀ x ∈ bltN, mg x = none := by
  intro x hx
  unfold bltN at hx
  simp only [List.mem_cons, List.not_mem_nil, or_false] at hx
  rcases hx with rfl | rfl | rfl | rfl | rfl | rfl | rfl | rfl | rfl | rfl | rfl | rfl | rfl | rfl | rfl | rfl | rfl | rfl <;> exact PySem.W.mg_none_of X hG (by assumption)
def CstF (K : PySem.W.Frag) (mg : Str → Option Value) (x : Str) (d : PyData) : Prop := ∃ u v, mg x = some u ∧ RelV v u ∧ ∀ Fz H, VR K Fz H d v
def AllC (K : PySem.W.Frag) (mg : Str → Option Value) : List Str → List PyData → Prop
  | [], [] => True
  | x :: xs, d :: ds => CstF K mg x d ∧ AllC K mg xs ds
  | _, _ => False
theorem AllC.get : ∀ {xs : List Str} {ds : List PyData}, AllC K mg xs ds → ∀ (j : Nat) (x : Str) (d : PyData), xs[j]? = some x → ds[j]? = some d → CstF K mg x d
  | [], [], _, j, x, d, e, _ => by cases j <;> cases e
  | x :: xs, d :: ds, h, 0, y, c, e, e' => by cases e; cases e'; exact h.1
  | x :: xs, d :: ds, h, j + 1, y, c, e, e' => AllC.get h.2 j y c e e'
theorem cst_int {x : Str} {i : Int} {t : Tok} (X : K.In h) (hG : h.Ns mainGlobals mg) (a : PySem.W.nsIn K mainGlobals x = some (some (.int i t))) : CstF K mg x (.int i) := ⟨_, .int i, PySem.W.mg_of X hG a, ⟨t, rfl⟩, fun _ _ => .int i⟩
def intsV : List Value → Option (List Int)
  | [] => some []
  | .int i _ :: r => (intsV r).map (i :: ·)
  | _ => none
theorem intsV_vals : ∀ {us : List Value} {ns : List Int}, intsV us = some ns → Vals (ns.map V.int) us
  | [], _, e => by cases e; exact .nil
  | .int i t :: r, ns, e => by
    unfold intsV at e
    cases q : intsV r with
    | none => rw [q] at e; cases e
    | some m =>
      rw [q] at e
      cases e
      exact .cons ⟨t, rfl⟩ (intsV_vals q)
theorem cst_ints {x : Str} {p : Addr} {o : Obj} {its : Array Value} {n : Nat} {ns : List Int} (X : K.In h) (hG : h.Ns mainGlobals mg) (a : PySem.W.nsIn K mainGlobals x = some (some (.ref p))) (l : K.lookup p = some o) (hc : o.cls = .type "tuple") (hd : o.data = .seq its n) (r : intsV its.toList = some ns) (hz : its.size ≤ sizeLine) : CstF K mg x (.tuple (ns.map PyData.int)) :=
  ⟨_, .ref p, PySem.W.mg_of X hG a, rfl, fun Fz H => .tup (.inr ⟨o, its, n, l, hc, hd, hz, intsV_vals r⟩) (.of_ints ns)⟩
/-- any constant: numbers, texts, tuples of them -/
def CdOk (K : PySem.W.Frag) (u : Value) (d : PyData) : Prop := ∃ v, RelV v u ∧ ∀ Fz H, VR K Fz H d v
def CdAll (K : PySem.W.Frag) (us : List Value) (ds : List PyData) : Prop := ∃ vs, Vals vs us ∧ ∀ Fz H, VRs K Fz H ds vs
theorem cd_int {i : Int} {t : Tok} : CdOk K (.int i t) (.int i) := ⟨.int i, ⟨t, rfl⟩, fun _ _ => .int i⟩
theorem cd_str {z : Str} {t : Tok} : CdOk K (.str z t) (.str z) := ⟨.str z, ⟨t, rfl⟩, fun _ _ => .str z⟩
theorem cd_bool {b : Bool} : CdOk K (.bool b) (.bool b) := ⟨.bl b, rfl, fun _ _ => .bl b⟩
theorem cd_none : CdOk K .none .none := ⟨.non, rfl, fun _ _ => .non⟩
theorem cda_nil : CdAll K [] [] := ⟨[], .nil, fun _ _ => .nil⟩
theorem cda_cons {u : Value} {us : List Value} {d : PyData} {ds : List PyData} (h1 : CdOk K u d) (h2 : CdAll K us ds) : CdAll K (u :: us) (d :: ds) :=
  let ⟨v, r1, q1⟩ := h1
  let ⟨vs, r2, q2⟩ := h2
  ⟨v :: vs, .cons r1 r2, fun Fz H => .cons (q1 Fz H) (q2 Fz H)⟩
theorem cd_tup {p : Addr} {o : Obj} {its : Array Value} {n : Nat} {ds : List PyData} (l : K.lookup p = some o) (hc : o.cls = .type "tuple") (hd : o.data = .seq its n) (hz : its.size ≤ sizeLine) (hi : CdAll K its.toList ds) : CdOk K (.ref p) (.tuple ds) :=
  let ⟨vs, r, q⟩ := hi
  ⟨.ref p, rfl, fun Fz H => .tup (.inr ⟨o, its, n, l, hc, hd, hz, r⟩) (q Fz H)⟩
theorem cst_any {x : Str} {u : Value} {d : PyData} (X : K.In h) (hG : h.Ns mainGlobals mg) (a : PySem.W.nsIn K mainGlobals x = some (some u)) (c : CdOk K u d) : CstF K mg x d :=
  let ⟨v, r, q⟩ := c
  ⟨u, v, PySem.W.mg_of X hG a, r, q⟩
theorem fa_mk (hb : ∀ x ∈ bltN, mg x = none) (hg : G.gcd = true → mg "gcd" = some (.builtin "math.gcd")) (hc : AllC K mg G.cst cs) : Fa P w K mg G cs := ⟨hb, hg, fun j x d e1 e2 => hc.get j x d e1 e2⟩
structure ClsOk (K : PySem.W.Frag) (mg : Str → Option Value) (x : Str) (C : Addr) : Prop where
  g : mg x = some (.ref C)
  k : PySem.W.keepIn K (.ref C) = true
  q : ∃ B newId initId bm, ExcBaseFacts B newId initId bm ∧ PySem.W.excIn K C bm newId = true
  s : PySem.W.subIn K (.ref C) (.type "BaseException") = some true
  t : PySem.W.typeIn K (.ref C) = some (.type "type")
  i : PySem.W.isClsIn K C = true
theorem cls_mk {x : Str} {C : Addr} (X : K.In h) (hG : h.Ns mainGlobals mg) (a : PySem.W.nsIn K mainGlobals x = some (some (.ref C))) (k : PySem.W.keepIn K (.ref C) = true) (q : PySem.W.excIn K C [.type "ValueError", .type "Exception", .type "BaseException", .type "object"] "ValueError.__new__" = true)
    (s : PySem.W.subIn K (.ref C) (.type "BaseException") = some true) (t : PySem.W.typeIn K (.ref C) = some (.type "type")) (i : PySem.W.isClsIn K C = true) : ClsOk K mg x C := ⟨PySem.W.mg_of X hG a, k, ⟨_, _, _, _, F.excBase_ValueError, q⟩, s, t, i⟩
theorem exm_of {v : Value} {C : Addr} {b : Bool} (h1 : PySem.W.subIn K (.ref C) (.type "BaseException") = some true) (h2 : PySem.W.isClsIn K C = true) (h3 : PySem.W.typeIn K (.ref C) = some (.type "type")) (h4 : PySem.W.subIn K v (.ref C) = some b) : PySem.W.exmOne K v (.ref C) = some b := by
  have e1 : (PySem.W.subIn K (.ref C) (.type "BaseException") == some true) = true := by rw [h1] <;> rfl
  have e2 : ((PySem.W.clsIn K C).isSome && PySem.W.typeIn K (.ref C) == some (.type "type")) = true := by
    have h2' : (PySem.W.clsIn K C).isSome = true := h2
    rw [h2', h3] <;> rfl
  show (if (PySem.W.subIn K (.ref C) (.type "BaseException") == some true) = true then (if ((PySem.W.clsIn K C).isSome && PySem.W.typeIn K (.ref C) == some (.type "type")) = true then PySem.W.subIn K v (.ref C) else none) else none) = some b
  rw [if_pos e1, if_pos e2]
  exact h4
def clOf (Cs : List Addr) (c : Nat) : Value := .ref (Cs.getD c 0)
def AllK (K : PySem.W.Frag) (mg : Str → Option Value) : List Str → List Addr → Prop
  | [], [] => True
  | x :: xs, C :: Cs => ClsOk K mg x C ∧ AllK K mg xs Cs
  | _, _ => False
theorem AllK.get : ∀ {xs : List Str} {Cs : List Addr}, AllK K mg xs Cs → ∀ (c : Nat) (x : Str), xs[c]? = some x → ClsOk K mg x (Cs.getD c 0)
  | [], [], _, c, x, e => by cases c <;> cases e
  | x :: xs, C :: Cs, h, 0, y, e => by cases e; exact h.1
  | x :: xs, C :: Cs, h, c + 1, y, e => by
    have := AllK.get h.2 c y e
    rw [List.getD_cons_succ]
    exact this
theorem AllK.len : ∀ {xs : List Str} {Cs : List Addr}, AllK K mg xs Cs → xs.length = Cs.length
  | [], [], _ => rfl
  | x :: xs, C :: Cs, h => by rw [List.length_cons, List.length_cons, AllK.len h.2]
/-- of two classes, the one is not the other's -/
def AllX (K : PySem.W.Frag) (Cs : List Addr) : Prop := ∀ c d : Nat, c < Cs.length → d < Cs.length → PySem.W.subIn K (.ref (Cs.getD c 0)) (.ref (Cs.getD d 0)) = some (decide (d = c))
/-- isinstance of a caught error -/
def IsvOk (K : PySem.W.Frag) : List Addr → Prop
  | [] => True
  | C :: Cs => (ExcC K C ∧ PySem.W.kitOne K (.ref C) (.type "ValueError") = some true) ∧ IsvOk K Cs
theorem IsvOk.get : ∀ {Cs : List Addr}, IsvOk K Cs → ∀ c, c < Cs.length → ExcC K (Cs.getD c 0) ∧ PySem.W.kitOne K (.ref (Cs.getD c 0)) (.type "ValueError") = some true
  | C :: Cs, h, 0, _ => h.1
  | C :: Cs, h, c + 1, l => by
    rw [List.getD_cons_succ]
    exact IsvOk.get h.2 c (Nat.lt_of_succ_lt_succ l)
theorem isv_mk {C : Addr} (hg : PySem.W.findIn K (.ref C) "__getattribute__" = some (some (.builtin "BaseException.__getattribute__"))) (hk : PySem.W.findIn K (.ref C) "__getattr__" = some none) (hs : PySem.W.subIn K (.ref C) (.type "BaseException") = some true) (hd : PySem.W.hasDictIn K C = true)
    (ha : PySem.W.findIn K (.ref C) "__class__" = some (some (.builtin "object.__class__"))) (hn : PySem.W.specialIn K (.builtin "object.__class__") "__get__" = some (some (.builtin "getset_descriptor.__get__"))) (ht : PySem.W.takesIn K (.builtin "object.__class__") = some true) (hm : PySem.W.mroIn K C (.type "object") = some true)
    (ho : PySem.W.subIn K (.ref C) (.type "ValueError") = some true) : ExcC K C ∧ PySem.W.kitOne K (.ref C) (.type "ValueError") = some true := ⟨⟨hg, hk, hs, hd, ha, hn, ht, hm⟩, by
    show (if (Value.ref C == Value.type "ValueError") = true then some true else if PySem.W.kitMeta "ValueError" = true then PySem.W.subIn K (.ref C) (.type "ValueError") else none) = some true
    rw [if_neg (show ¬ (Value.ref C == Value.type "ValueError") = true from fun z => nomatch (beq_iff_eq.mp z)), if_pos (by decide +kernel)]
    exact ho⟩
theorem ce_mk {Cs : List Addr} (h1 : AllK K mg G.cls Cs) (h2 : AllX K Cs) (h3 : G.isv = true → mg "ValueError" = none ∧ IsvOk K Cs) (base : Heap) (k : Nat) (cf : CF) : Dt.Ce ⟨P, w, K, mg, base, G, cs, clOf Cs, k, cf⟩ where
  cls c x e := by
    have z := h1.get c x e
    obtain ⟨B, n, i, bm, f, q⟩ := z.q
    exact ⟨z.g, _, B, n, i, bm, rfl, z.k, f, q, z.s, z.t⟩
  exm c d hc hd := by
    have e : G.cls.length = Cs.length := h1.len
    have hc : c < G.cls.length := hc
    have hd : d < G.cls.length := hd
    have z := h1.get d _ (List.getElem?_eq_getElem hd)
    exact exm_of z.s z.i z.t (h2 c d (by omega) (by omega))
  isv h := by
    obtain ⟨z1, z2⟩ := h3 h
    have e : G.cls.length = Cs.length := h1.len
    exact ⟨z1, fun c hc => ⟨_, rfl, z2.get c (by have hc : c < G.cls.length := hc; omega)⟩⟩
theorem allX1 {a : Addr} (x00 : PySem.W.subIn K (.ref a) (.ref a) = some true) : AllX K [a] := by
  intro c d hc hd
  have hc : c < 1 := hc
  have hd : d < 1 := hd
  obtain rfl : c = 0 := by omega
  obtain rfl : d = 0 := by omega
  exact x00
theorem allX2 {a b : Addr} (x00 : PySem.W.subIn K (.ref a) (.ref a) = some true) (x01 : PySem.W.subIn K (.ref a) (.ref b) = some false) (x10 : PySem.W.subIn K (.ref b) (.ref a) = some false) (x11 : PySem.W.subIn K (.ref b) (.ref b) = some true) : AllX K [a, b] := by
  intro c d hc hd
  have hc : c < 2 := hc
  have hd : d < 2 := hd
  match c, d, hc, hd with
  | 0, 0, _, _ => exact x00
  | 0, 1, _, _ => exact x01
  | 1, 0, _, _ => exact x10
  | 1, 1, _, _ => exact x11
theorem allX3 {a b c : Addr} (x00 : PySem.W.subIn K (.ref a) (.ref a) = some true) (x01 : PySem.W.subIn K (.ref a) (.ref b) = some false) (x02 : PySem.W.subIn K (.ref a) (.ref c) = some false) (x10 : PySem.W.subIn K (.ref b) (.ref a) = some false) (x11 : PySem.W.subIn K (.ref b) (.ref b) = some true) (x12 : PySem.W.subIn K (.ref b) (.ref c) = some false)
    (x20 : PySem.W.subIn K (.ref c) (.ref a) = some false) (x21 : PySem.W.subIn K (.ref c) (.ref b) = some false) (x22 : PySem.W.subIn K (.ref c) (.ref c) = some true) : AllX K [a, b, c] := by
  intro i j hi hj
  have hi : i < 3 := hi
  have hj : j < 3 := hj
  match i, j, hi, hj with
  | 0, 0, _, _ => exact x00
  | 0, 1, _, _ => exact x01
  | 0, 2, _, _ => exact x02
  | 1, 0, _, _ => exact x10
  | 1, 1, _, _ => exact x11
  | 1, 2, _, _ => exact x12
  | 2, 0, _, _ => exact x20
  | 2, 1, _, _ => exact x21
  | 2, 2, _, _ => exact x22
end
end TD

set_option maxHeartbeats 1000000
namespace TD
open PySem PySem.Spec PyProof.Rows L2
/-! ### the evaluator, step by step -/
section
variable {cs : List PyData} {cf : CF} {bw : Bool} {e e1 e2 e3 e4 : En} {a b c : E} {i j v : Nat} {d d1 d2 d3 : PyData} {ds xs : List PyData} {w w1 w2 : W} {p q : Bool} {o : Operator}
theorem v_var (h : e[i]? = some (some (.v d))) : ev cs cf (.var i) e = .ok (.v d) e := by simp only [ev, h]
theorem v_varO (h : e[i]? = some (some (.own ds))) : ev cs cf (.var i) e = .ok (.v (.list ds)) (e.set i (some (.v (.list ds)))) := by simp only [ev, h]
theorem v_mv (h : e[i]? = some (some (.v d))) : ev cs cf (.mv i) e = .ok (.v d) e := by simp only [ev, h]
theorem v_mvO (h : e[i]? = some (some (.own ds))) : ev cs cf (.mv i) e = .ok (.own ds) (e.set i none) := by simp only [ev, h]
theorem v_int {n : Int} : ev cs cf (.int n) e = .ok (.v (.int n)) e := rfl
theorem v_str {z : Str} : ev cs cf (.str z) e = .ok (.v (.str z)) e := rfl
theorem v_bl : ev cs cf (.bl p) e = .ok (.v (.bool p)) e := rfl
theorem v_non : ev cs cf .non e = .ok (.v .none) e := rfl
theorem v_glb (h : cs[j]? = some d) : ev cs cf (.glb j) e = .ok (.v d) e := by simp only [ev, h]; rfl
theorem v_bin (h1 : ev cs cf a e = .ok w1 e1) (h2 : ev cs cf b e1 = .ok w2 e2) (h3 : opB o w1.val w2.val = some w) : ev cs cf (.bin o a b) e = .ok w e2 := by simp only [ev, h1, Rs.bind, h2, h3]; rfl
theorem v_neg {n : Int} (h1 : ev cs cf a e = .ok (.v (.int n)) e1) : ev cs cf (.neg a) e = .ok (.v (.int (-n))) e1 := by simp only [ev, h1, Rs.bind, W.val]
theorem v_cmp {o : CmpOp} (h1 : ev cs cf a e = .ok w1 e1) (h2 : ev cs cf b e1 = .ok w2 e2) (h3 : opC o w1.val w2.val = some p) : ev cs cf (.cmp o a b) e = .ok (.v (.bool p)) e2 := by simp only [ev, h1, Rs.bind, h2, h3]; rfl
theorem v_chn {o o' : CmpOp} (h1 : ev cs cf a e = .ok w1 e1) (h2 : ev cs cf b e1 = .ok w2 e2) (h3 : opC o w1.val w2.val = some p) (h4 : ev cs cf c e2 = .ok w e2) (h5 : opC o' w2.val w.val = some q) : ev cs cf (.chn o o' a b c) e = .ok (.v (.bool (p && q))) e2 := by
  simp only [ev, h1, Rs.bind, h2, h3]
  cases p
  · rfl
  · simp only [h4, h5]; rfl
theorem v_and (h1 : ev cs cf a e = .ok (.v (.bool p)) e1) (h2 : ev cs cf b e1 = .ok (.v (.bool q)) e1) : ev cs cf (.and a b) e = .ok (.v (.bool (p && q))) e1 := by
  simp only [ev, h1, Rs.bind, W.val]
  cases p
  · rfl
  · simp only [h2]; rfl
theorem v_andF (h1 : ev cs cf a e = .ok (.v (.bool false)) e1) : ev cs cf (.and a b) e = .ok (.v (.bool false)) e1 := by simp only [ev, h1, Rs.bind, W.val]
theorem v_andT (h1 : ev cs cf a e = .ok (.v (.bool true)) e1) (h2 : ev cs cf b e1 = .ok w e2) : ev cs cf (.and a b) e = .ok w e2 := by simp only [ev, h1, Rs.bind, W.val, h2]
theorem v_or (h1 : ev cs cf a e = .ok (.v (.bool p)) e1) (h2 : ev cs cf b e1 = .ok (.v (.bool q)) e1) : ev cs cf (.or a b) e = .ok (.v (.bool (p || q))) e1 := by
  simp only [ev, h1, Rs.bind, W.val]
  cases p
  · simp only [h2]; rfl
  · rfl
theorem v_orT (h1 : ev cs cf a e = .ok (.v (.bool true)) e1) : ev cs cf (.or a b) e = .ok (.v (.bool true)) e1 := by simp only [ev, h1, Rs.bind, W.val]
theorem v_orF (h1 : ev cs cf a e = .ok (.v (.bool false)) e1) (h2 : ev cs cf b e1 = .ok w e2) : ev cs cf (.or a b) e = .ok w e2 := by simp only [ev, h1, Rs.bind, W.val, h2]
theorem v_one (h : ev cs cf a e = .ok w e1) : ev cs cf (.one a) e = .ok w e1 := h
theorem v_not (h : ev cs cf a e = .ok (.v (.bool p)) e1) : ev cs cf (.not a) e = .ok (.v (.bool (!p))) e1 := by simp only [ev, h, Rs.bind, W.val]
theorem v_iteT (h : ev cs cf c e = .ok (.v (.bool true)) e1) (h1 : ev cs cf a e1 = .ok w e2) : ev cs cf (.ite c a b) e = .ok w e2 := by simp only [ev, h, Rs.bind, W.val, h1]
theorem v_iteF (h : ev cs cf c e = .ok (.v (.bool false)) e1) (h1 : ev cs cf b e1 = .ok w e2) : ev cs cf (.ite c a b) e = .ok w e2 := by simp only [ev, h, Rs.bind, W.val, h1]
theorem v_ite (h : ev cs cf c e = .ok (.v (.bool p)) e1) (h1 : p = true → ev cs cf a e1 = .ok w1 e2) (h2 : p = false → ev cs cf b e1 = .ok w2 e2) : ev cs cf (.ite c a b) e = .ok (if p = true then w1 else w2) e2 := by
  simp only [ev, h, Rs.bind, W.val]
  cases p
  · exact h2 rfl
  · exact h1 rfl
theorem v_nil : ev cs cf .nil e = .ok (.own []) e := rfl
theorem v_cons (h1 : ev cs cf a e = .ok w e1) (h2 : ev cs cf b e1 = .ok (.own ds) e2) : ev cs cf (.cons a b) e = .ok (.own (w.val :: ds)) e2 := by simp only [ev, h1, Rs.bind, h2]
theorem v_tup (h : ev cs cf a e = .ok (.own ds) e1) (hz : ds.length ≤ sizeLine) : ev cs cf (.tup a) e = .ok (.v (.tuple ds)) e1 := by simp only [ev, h, Rs.bind, hz, if_true]
theorem v_lst (h : ev cs cf a e = .ok (.own ds) e1) (hz : ds.length ≤ sizeLine) : ev cs cf (.lst a) e = .ok (.own ds) e1 := by simp only [ev, h, Rs.bind, hz, if_true]
theorem v_ix (h1 : ev cs cf a e = .ok w1 e1) (h2 : ev cs cf b e1 = .ok w2 e2) (h3 : opIx w1.val w2.val = some d) : ev cs cf (.ix a b) e = .ok (.v d) e2 := by simp only [ev, h1, Rs.bind, h2, h3]; rfl
theorem v_ixV (h0 : e[v]? = some (some (.v d1))) (h1 : ev cs cf a e = .ok w e) (h2 : opIx d1 w.val = some d) : ev cs cf (.ixV v a) e = .ok (.v d) e := by simp only [ev, h0, h1, Rs.bind, h2]; rfl
theorem v_ixO (h0 : e[v]? = some (some (.own ds))) (h1 : ev cs cf a e = .ok w e) (h2 : opIx (.list ds) w.val = some d) : ev cs cf (.ixV v a) e = .ok (.v d) e := by simp only [ev, h0, h1, Rs.bind, h2]; rfl
theorem v_lenV {n : Int} (h0 : e[v]? = some (some (.v d))) (h1 : lenD d = some n) : ev cs cf (.lenV v) e = .ok (.v (.int n)) e := by simp only [ev, h0, h1]; rfl
theorem v_lenO (h0 : e[v]? = some (some (.own ds))) : ev cs cf (.lenV v) e = .ok (.v (.int ds.length)) e := by simp only [ev, h0]
theorem v_call {f : Nat} {bb : Option W} (h : ev cs cf a e = .ok (.own ds) e1) (h2 : cf f (ds.map .v) = .ok w bb) : ev cs cf (.call f a) e = .ok w e1 := by simp only [ev, h, Rs.bind, h2]
theorem v_callX {f : Nat} {bb : Option W} {n : Nat} {pl : Option PyData} (h : ev cs cf a e = .ok (.own ds) e1) (h2 : cf f (ds.map .v) = .exc n pl bb) : ev cs cf (.call f a) e = .exc n pl e1 := by simp only [ev, h, Rs.bind, h2]
theorem v_callB {f : Nat} {w0 wb : W} (h0 : e[i]? = some (some w0)) (h : ev cs cf a e = .ok (.own ds) e) (h2 : cf f (w0 :: ds.map .v) = .ok w (some wb)) (h3 : bOk w0 wb = true) : ev cs cf (.callB f i a) e = .ok w (e.set i (some wb)) := by
  simp only [ev, h0, h, Rs.bind, h2, h3, if_true]
theorem v_bi {k : Bi} (h : ev cs cf a e = .ok (.own ds) e1) (h2 : opBi k ds = some w) : ev cs cf (.bi k a) e = .ok w e1 := by simp only [ev, h, Rs.bind, h2]; rfl
theorem v_isi {ts : List Ty} (h : ev cs cf a e = .ok w e1) (h2 : ts.any (isTy w.val) = p) : ev cs cf (.isi a ts) e = .ok (.v (.bool p)) e1 := by simp only [ev, h, Rs.bind, h2]
theorem v_it {k : Ik} (h : ev cs cf a e = .ok (.own ds) e1) (h2 : opIt k ds = some w) : ev cs cf (.it k a) e = .ok w e1 := by simp only [ev, h, Rs.bind, h2]; rfl
/-! statements -/
variable {S1 S2 : S} {r : Fl}
theorem x_pass : ex cs cf bw .pass e = .nx e := by simp only [ex]
theorem x_nil : ex cs cf bw .nil e = .nx e := by simp only [ex]
theorem x_cons (h1 : ex cs cf bw S1 e = .nx e1) (h2 : ex cs cf bw S2 e1 = r) : ex cs cf bw (.cons S1 S2) e = r := by simp only [ex, h1, Fl.seq, h2]
theorem x_consR (h1 : ex cs cf bw S1 e = .ret w e1) : ex cs cf bw (.cons S1 S2) e = .ret w e1 := by simp only [ex, h1, Fl.seq]
theorem x_consX {n : Nat} {pl : Option PyData} (h1 : ex cs cf bw S1 e = .exc n pl e1) : ex cs cf bw (.cons S1 S2) e = .exc n pl e1 := by simp only [ex, h1, Fl.seq]
theorem x_asgT (h1 : ev cs cf a e = .ok w e1) (h2 : stI bw i w e1 = some e2) : ex cs cf bw (.asg i a true) e = .nx e2 := by simp only [ex, h1, Rs.fl, W.keep, if_true, h2]; rfl
theorem x_asgF (h1 : ev cs cf a e = .ok w e1) (h2 : stI bw i (.v w.val) e1 = some e2) : ex cs cf bw (.asg i a false) e = .nx e2 := by
  simp only [ex, h1, Rs.fl]
  show Fl.ofE (stI bw i (.v w.val) e1) = _
  rw [h2]; rfl
theorem x_asgX {k : Bool} {n : Nat} {pl : Option PyData} (h1 : ev cs cf a e = .exc n pl e1) : ex cs cf bw (.asg i a k) e = .exc n pl e1 := by simp only [ex, h1, Rs.fl]
theorem x_tgt {t : T} (h1 : ev cs cf a e = .ok w e1) (h2 : asT bw t (unl w.val) e1 = some e2) : ex cs cf bw (.asgT t a) e = .nx e2 := by
  have : ex cs cf bw (.asgT (.t t) a) e = ex cs cf bw (.asgT (.t t) a) e := rfl
  simp only [ex, h1, Rs.fl, h2]; rfl
theorem x_par2 (h1 : ev cs cf a e = .ok (.own [d1, d2]) e1) (h2 : stI bw i (.v d1) e1 = some e2) (h3 : stI bw j (.v d2) e2 = some e3) : ex cs cf bw (.par2 i j a) e = .nx e3 := by
  simp only [ex, h1, Rs.fl, h2, Option.bind, h3]; rfl
theorem x_par3 (h1 : ev cs cf a e = .ok (.own [d1, d2, d3]) e1) (h2 : stI bw i (.v d1) e1 = some e2) (h3 : stI bw j (.v d2) e2 = some e3) (h4 : stI bw v (.v d3) e3 = some e4) : ex cs cf bw (.par3 i j v a) e = .nx e4 := by
  simp only [ex, h1, Rs.fl, h2, Option.bind, h3, h4]; rfl
theorem x_setI {k : Int} (h1 : ev cs cf a e = .ok w e1) (h2 : ev cs cf b e1 = .ok (.v (.int k)) e1) (h3 : e1[i]? = some (some (.own ds))) (h4 : ixN ds.length k = some j) : ex cs cf bw (.setI i b a) e = .nx (e1.set i (some (.own (ds.set j w.val)))) := by
  simp only [ex, h1, Rs.fl, h3, h2, W.val, h4]
theorem x_app (h0 : e[i]? = some (some (.own xs))) (h1 : ev cs cf a e = .ok w e1) (h3 : e1[i]? = some (some (.own ds))) (hz : ds.length < sizeLine) : ex cs cf bw (.app i a) e = .nx (e1.set i (some (.own (ds ++ [w.val])))) := by
  simp only [ex, h0, h1, Rs.fl, h3, hz, if_true]
theorem x_ret (h1 : ev cs cf a e = .ok w e1) : ex cs cf bw (.ret a) e = .ret w e1 := by simp only [ex, h1, Rs.fl]
theorem x_retX {n : Nat} {pl : Option PyData} (h1 : ev cs cf a e = .exc n pl e1) : ex cs cf bw (.ret a) e = .exc n pl e1 := by simp only [ex, h1, Rs.fl]
theorem x_iteT (h : ev cs cf c e = .ok (.v (.bool true)) e1) (h1 : ex cs cf bw S1 e1 = r) : ex cs cf bw (.ite c S1 S2) e = r := by simp only [ex, h, Rs.fl, W.val, h1]
theorem x_iteF (h : ev cs cf c e = .ok (.v (.bool false)) e1) (h1 : ex cs cf bw S2 e1 = r) : ex cs cf bw (.ite c S1 S2) e = r := by simp only [ex, h, Rs.fl, W.val, h1]
theorem x_rs : ex cs cf bw (.rs i .nil) e = .exc i none e := by simp only [ex, ev, Rs.fl]
theorem x_for {t : T} (h : ev cs cf a e = .ok w e1) (h1 : seqOf w.val = some ds) (h2 : forL (fun d e2 => match asT bw t d e2 with
        | some e3 => ex cs cf bw S1 e3
        | none => .stuck) ds e1 = r) : ex cs cf bw (.for_ t a S1) e = r := by simp only [ex, h, Rs.fl, h1]; exact h2
theorem x_tr {n : Nat} (h : ex cs cf bw S1 e = .nx e1) : ex cs cf bw (.tr n S1 S2) e = .nx e1 := by simp only [ex, h]
theorem x_trX {n m : Nat} {pl : Option PyData} (h : ex cs cf bw S1 e = .exc m pl e1) (hn : m < n) (h2 : exH cs cf bw S2 m pl e1 = r) : ex cs cf bw (.tr n S1 S2) e = r := by simp only [ex, h, hn, if_true, h2]
theorem x_hd {n : Nat} {pl : Option PyData} {S3 : S} (h : ex cs cf bw S1 e = r) : exH cs cf bw (.hd n S1 S3) n pl e = r := by simp only [exH, if_true, h]
theorem x_hdA {n i t : Nat} {z : Str} {S3 : S} (hl : i < e.length) (h : stI bw t (.own [.str z, .bool true]) (e.set i none) = some e1) : exH cs cf bw (.hdA n i t z S3) n none e = .nx e1 := by
  simp only [exH, if_true, clE, hl, h, Fl.ofE]
theorem x_hdAN {m n i t : Nat} {z : Str} {pl : Option PyData} {S3 : S} (hn : m ≠ n) (h : exH cs cf bw S3 n pl e = r) : exH cs cf bw (.hdA m i t z S3) n pl e = r := by simp only [exH, hn, if_false, h]
theorem x_hdN {m n : Nat} {pl : Option PyData} {S3 : S} (hn : m ≠ n) (h : exH cs cf bw S3 n pl e = r) : exH cs cf bw (.hd m S1 S3) n pl e = r := by simp only [exH, hn, if_false, h]
end
/-! ### operations of ints -/
theorem o_add (i j : Int) : opB .Add (.int i) (.int j) = some (.v (.int (i + j))) := rfl
theorem o_sub (i j : Int) : opB .Sub (.int i) (.int j) = some (.v (.int (i - j))) := rfl
theorem mul_ok {i j : Int} (h : j.natAbs < 2 ^ 64 ∨ i.natAbs < 2 ^ 64) : mulOk i j = true := by
  unfold mulOk
  rcases h with h | h
  · rw [decide_eq_true h]; rfl
  · rw [decide_eq_true h]; simp
theorem o_mul {i j : Int} (h : mulOk i j = true) : opB .Mult (.int i) (.int j) = some (.v (.int (i * j))) := by
  show (if mulOk i j = true then some (W.v (.int (i * j))) else none) = _
  rw [if_pos h]
theorem o_mulR {i j : Int} (h : j.natAbs < 2 ^ 64) : opB .Mult (.int i) (.int j) = some (.v (.int (i * j))) := o_mul (mul_ok (.inl h))
theorem o_mulL {i j : Int} (h : i.natAbs < 2 ^ 64) : opB .Mult (.int i) (.int j) = some (.v (.int (i * j))) := o_mul (mul_ok (.inr h))
theorem log_small {j : Int} (h : j.natAbs < 2 ^ 9000) : j.natAbs.log2 < 9000 := by
  rcases Nat.eq_zero_or_pos j.natAbs with z | z
  · rw [z]; decide
  · exact (Nat.log2_lt (by omega)).mpr h
theorem o_div {i j : Int} (h : 0 < j) (h' : j.natAbs.log2 < 9000) : opB .FloorDiv (.int i) (.int j) = some (.v (.int (i / j))) := by
  show (if 0 < j ∧ j.natAbs.log2 < 9000 then some (W.v (.int (i / j))) else _) = _
  rw [if_pos ⟨h, h'⟩]
theorem pow64 : 2 ^ 64 < 2 ^ 9000 := by decide +kernel
theorem o_divS {i j : Int} (h : 0 < j) (h' : j < 18446744073709551616) : opB .FloorDiv (.int i) (.int j) = some (.v (.int (i / j))) := o_div h (log_small (Nat.lt_trans (show j.natAbs < 2 ^ 64 by omega) pow64))
theorem o_mod {i j : Int} (h : 0 < j) : opB .Mod (.int i) (.int j) = some (.v (.int (i % j))) := by
  show (if 0 < j then some (W.v (.int (i % j))) else _) = _
  rw [if_pos h]
theorem c_lt (i j : Int) : opC .Lt (.int i) (.int j) = some (decide (i < j)) := rfl
theorem c_le (i j : Int) : opC .LtE (.int i) (.int j) = some (decide (i ≤ j)) := rfl
theorem c_gt (i j : Int) : opC .Gt (.int i) (.int j) = some (decide (j < i)) := rfl
theorem c_ge (i j : Int) : opC .GtE (.int i) (.int j) = some (decide (j ≤ i)) := rfl
theorem c_eq (i j : Int) : opC .Eq (.int i) (.int j) = some (decide (i = j)) := rfl
theorem c_ne (i j : Int) : opC .NotEq (.int i) (.int j) = some (!decide (i = j)) := rfl
theorem n_int (i : Int) : opBi .int1 [.int i] = some (.v (.int i)) := rfl
theorem n_bool (b : Bool) : opBi .int1 [.bool b] = some (.v (.int (if b then 1 else 0))) := rfl
theorem n_abs (i : Int) : opBi .abs [.int i] = some (.v (.int (if i < 0 then -i else i))) := rfl
theorem n_gcd (i j : Int) : opBi .gcd [.int i, .int j] = some (.v (.int ((Nat.gcd i.natAbs j.natAbs : Nat) : Int))) := rfl
theorem siz {n : Nat} (h : n ≤ 1000) : n ≤ sizeLine := Nat.le_trans h (by decide)
end TD

set_option maxHeartbeats 1000000
namespace TD
open PySem PySem.Spec PyProof.Rows L2
local macro_rules | `(tactic| walk_at "td op") => `(tactic| first | with_reducible exact o_add _ _ | with_reducible exact o_sub _ _ | exact o_mulR (by omega) | exact o_mulL (by omega) | exact o_divS (by omega) (by omega) | exact o_mod (by omega) | with_reducible exact n_int _ | with_reducible exact n_abs _ | with_reducible exact n_gcd _ _ | rfl)
local macro_rules | `(tactic| walk_at "td s") => `(tactic| (repeat' (first | with_reducible exact x_nil | (with_reducible apply x_consR; with_reducible apply x_ret) | (with_reducible apply x_cons; with_reducible apply x_asgT) | (with_reducible apply x_cons; with_reducible apply x_asgF) | (with_reducible apply x_cons; with_reducible apply x_setI) | (with_reducible apply x_cons; with_reducible apply x_tgt) | (with_reducible apply x_cons; with_reducible apply x_par2) | (with_reducible apply x_cons; with_reducible apply x_par3) | (with_reducible apply x_cons; with_reducible apply x_app) | with_reducible exact v_int | with_reducible exact v_str | with_reducible exact v_bl | with_reducible exact v_non | with_reducible exact v_nil | exact v_var rfl | exact v_mv rfl | exact v_mvO rfl | exact v_glb rfl | with_reducible apply v_bin | with_reducible apply v_neg | with_reducible apply v_cmp | with_reducible apply v_chn | with_reducible apply v_one | with_reducible apply v_not | with_reducible apply v_cons | with_reducible apply v_tup | with_reducible apply v_lst | with_reducible apply v_ix | (with_reducible apply v_ixV; rfl) | (with_reducible apply v_ixO; rfl) | (with_reducible apply v_lenV; rfl) | (with_reducible exact v_lenO (by rfl)) | with_reducible apply v_bi | with_reducible apply v_isi | walk_at "td op")))
def bTake : S := (.cons (.ite (.cmp .Gt (.ixV 0 (.int 0)) (.int 0)) (.cons (.asg 2 (.bin .Mod (.bi .int1 (.cons (.ixV 0 (.int 0)) .nil)) (.var 1)) true)
    (.cons (.setI 0 (.int 0) (.bin .FloorDiv (.ixV 0 (.int 0)) (.var 1)))
    (.cons (.ret (.mv 2))
    .nil))) .nil)
    (.cons (.setI 0 (.int 2) (.bin .Add (.ixV 0 (.int 2)) (.int 1)))
    (.cons (.asg 3 (.bin .Mod (.bi .int1 (.cons (.bin .Mult (.bin .Add (.ixV 0 (.int 1)) (.bin .Mult (.int 48271) (.ixV 0 (.int 2)))) (.bin .Add (.int 39373) (.ixV 0 (.int 2)))) .nil)) (.int 2147483647)) false)
    (.cons (.asg 4 (.bin .Add (.bin .Mod (.bi .int1 (.cons (.var 3) .nil)) (.int 40009)) (.int 7)) false)
    (.cons (.asg 5 (.bin .Mod (.bi .int1 (.cons (.bin .Mult (.bin .Add (.bin .Add (.var 3) (.ixV 0 (.int 2))) (.bin .FloorDiv (.ixV 0 (.int 1)) (.int 1000003))) (.var 4)) .nil)) (.int 2147483629)) false)
    (.cons (.ret (.bin .Mod (.bi .int1 (.cons (.bin .FloorDiv (.bin .Mod (.bi .int1 (.cons (.bin .Add (.bin .Mult (.var 5) (.int 48271)) (.var 3)) .nil)) (.int 2147483587)) (.int 64)) .nil)) (.var 1)))
    .nil))))))
theorem take_ok {cs : List PyData} {cf : CF} {a b c n : Int} (hc : 0 ≤ c) (hc' : c < 1000000) (hn : 0 < n) (hn' : n < 100000000000) :
    ∃ r a' c', finF true (ex cs cf true bTake [some (.own [.int a, .int b, .int c]), some (.v (.int n)), none, none, none, none]) = .ok (.v (.int r)) (some (.own [.int a', .int b, .int c'])) ∧ 0 ≤ r ∧ r < n ∧ c ≤ c' ∧ c' ≤ c + 1 := by
  by_cases h : 0 < a
  · refine ⟨a % n, a / n, c, ?_, Int.emod_nonneg _ (by omega), Int.emod_lt_of_pos _ hn, by omega, by omega⟩
    have hx : ex cs cf true bTake [some (.own [.int a, .int b, .int c]), some (.v (.int n)), none, none, none, none] = .ret (.v (.int (a % n))) [some (.own [.int (a / n), .int b, .int c]), some (.v (.int n)), some (.v (.int (a % n))), none, none, none] := by
      unfold bTake
      refine x_consR (x_iteT (e1 := [some (.own [.int a, .int b, .int c]), some (.v (.int n)), none, none, none, none]) ?_ ?_)
      · rw [← decide_eq_true h]
        walk_at "td s"
      · walk_at "td s"
    rw [hx]
    rfl
  · have hx : ∃ q y z u, ex cs cf true bTake [some (.own [.int a, .int b, .int c]), some (.v (.int n)), none, none, none, none] = .ret (.v (.int (q % n))) [some (.own [.int a, .int b, .int (c + 1)]), some (.v (.int n)), none, y, z, u] := by
      unfold bTake
      exact ⟨_, _, _, _, x_cons (x_iteF (e1 := [some (.own [.int a, .int b, .int c]), some (.v (.int n)), none, none, none, none]) (by rw [← decide_eq_false h]; walk_at "td s") x_nil) (by walk_at "td s")⟩
    obtain ⟨q, y, z, u, hx⟩ := hx
    refine ⟨q % n, a, c + 1, ?_, Int.emod_nonneg _ (by omega), Int.emod_lt_of_pos _ hn, by omega, by omega⟩
    rw [hx]
    rfl
def bCells : S := (.cons (.asg 2 (.orT (.bi .listOf (.cons (.slV 0 .non (.var 1)) .nil)) (.one (.lst (.cons (.int 0) .nil)))) true)
    (.cons (.for_ (.t (.cons (.n 3) (.cons (.n 4) .nil))) (.it .enum (.cons (.slV 0 (.var 1) (.int 63)) .nil)) (.cons (.asg 5 (.bin .Mod (.bi .int1 (.cons (.var 3) .nil)) (.var 1)) false)
    (.cons (.setI 2 (.var 5) (.bin .Add (.ixV 2 (.var 5)) (.bin .Mult (.var 4) (.bin .Add (.var 3) (.int 2)))))
    .nil)))
    (.cons (.ret (.mv 2))
    .nil)))
theorem at_mod1 (k x : Int) : opIx (.list [.int x]) (.int (k % 1)) = some (.int x) := by
  rw [Int.emod_one]; rfl
theorem ix_mod1 (k : Int) : ixN 1 (k % 1) = some 0 := by
  rw [Int.emod_one]; rfl
theorem cells_turn {cs : List PyData} {cf : CF} {sc : W} {x y k : Int} {z3 z4 z5 : Option W} (hk : 0 ≤ k) (hk' : k < 1000) : ∃ x' z5',
    ex cs cf true (.cons (.asg 5 (.bin .Mod (.bi .int1 (.cons (.var 3) .nil)) (.var 1)) false)
    (.cons (.setI 2 (.var 5) (.bin .Add (.ixV 2 (.var 5)) (.bin .Mult (.var 4) (.bin .Add (.var 3) (.int 2)))))
    .nil)) [some sc, some (.v (.int 1)), some (.own [.int x]), some (.v (.int k)), some (.v (.int y)), z5] = .nx [some sc, some (.v (.int 1)), some (.own [.int x']), some (.v (.int k)), some (.v (.int y)), z5'] := by
  refine ⟨x + y * (k + 2), some (.v (.int (k % 1))), ?_⟩
  have h1 : ev cs cf (.bin .Mod (.bi .int1 (.cons (.var 3) .nil)) (.var 1)) [some sc, some (.v (.int 1)), some (.own [.int x]), some (.v (.int k)), some (.v (.int y)), z5] = .ok (.v (.int (k % 1))) [some sc, some (.v (.int 1)), some (.own [.int x]), some (.v (.int k)), some (.v (.int y)), z5] := by walk_at "td s"
  have h2 : ev cs cf (.bin .Add (.ixV 2 (.var 5)) (.bin .Mult (.var 4) (.bin .Add (.var 3) (.int 2)))) [some sc, some (.v (.int 1)), some (.own [.int x]), some (.v (.int k)), some (.v (.int y)), some (.v (.int (k % 1)))] = .ok (.v (.int (x + y * (k + 2)))) [some sc, some (.v (.int 1)), some (.own [.int x]), some (.v (.int k)), some (.v (.int y)), some (.v (.int (k % 1)))] := by
    refine v_bin (v_ixO rfl (v_var rfl) (at_mod1 k x)) (v_bin (v_var rfl) (v_bin (v_var rfl) v_int (o_add _ _)) (o_mulR ?_)) (o_add _ _)
    omega
  exact x_cons (x_asgF h1 rfl) (x_cons (x_setI h2 (v_var rfl) rfl (ix_mod1 k)) x_nil)
theorem cells_loop {cs : List PyData} {cf : CF} {sc : W} : ∀ (ns : List Int) (k : Nat) (x : Int) (z3 z4 z5 : Option W), k + ns.length ≤ 1000 → ∃ x' y3 y4 y5,
    forL (fun d e2 => match asT true (.t (.cons (.n 3) (.cons (.n 4) .nil))) d e2 with
        | some e3 => ex cs cf true (.cons (.asg 5 (.bin .Mod (.bi .int1 (.cons (.var 3) .nil)) (.var 1)) false)
    (.cons (.setI 2 (.var 5) (.bin .Add (.ixV 2 (.var 5)) (.bin .Mult (.var 4) (.bin .Add (.var 3) (.int 2)))))
    .nil)) e3
        | none => .stuck) (enumD k (ns.map PyData.int)) [some sc, some (.v (.int 1)), some (.own [.int x]), z3, z4, z5] = .nx [some sc, some (.v (.int 1)), some (.own [.int x']), y3, y4, y5]
  | [], k, x, z3, z4, z5, _ => ⟨x, z3, z4, z5, rfl⟩
  | n :: ns, k, x, z3, z4, z5, h => by
    rw [List.length_cons] at h
    obtain ⟨x1, z51, h1⟩ := cells_turn (cs := cs) (cf := cf) (sc := sc) (x := x) (y := n) (k := (k : Int)) (z3 := z3) (z4 := z4) (z5 := z5) (by omega) (by omega)
    obtain ⟨x', y3, y4, y5, h2⟩ := cells_loop ns (k + 1) x1 (some (.v (.int k))) (some (.v (.int n))) z51 (by omega)
    refine ⟨x', y3, y4, y5, ?_⟩
    show forL _ (.tuple [.int k, .int n] :: enumD (k + 1) (ns.map PyData.int)) _ = _
    unfold forL
    show (match ex cs cf true _ [some sc, some (.v (.int 1)), some (.own [.int x]), some (.v (.int k)), some (.v (.int n)), z5] with
      | .nx e2 => forL _ _ e2
      | .ct e2 => forL _ _ e2
      | .bk e2 => .nx e2
      | r => r) = _
    rw [h1]
    exact h2
theorem cut_map {α β : Type} (f : α → β) (xs : List α) (p q : Nat) : ((xs.map f).drop p).take q = ((xs.drop p).take q).map f := by
  rw [← List.map_drop, ← List.map_take]
theorem cells_ok {cs : List PyData} {cf : CF} {ns : List Int} (hl : ns.length ≤ 63) : ∃ x, finF true (ex cs cf true bCells [some (.scr (ns.map PyData.int)), some (.v (.int 1)), none, none, none, none]) = .ok (.own [.int x]) (some (.scr (ns.map PyData.int))) := by
  have s1 : ∃ x, ev cs cf (.orT (.bi .listOf (.cons (.slV 0 .non (.var 1)) .nil)) (.one (.lst (.cons (.int 0) .nil)))) [some (.scr (ns.map PyData.int)), some (.v (.int 1)), none, none, none, none] = .ok (.own [.int x]) [some (.scr (ns.map PyData.int)), some (.v (.int 1)), none, none, none, none] := by
    cases ns with
    | nil => exact ⟨0, rfl⟩
    | cons n r =>
      refine ⟨n, ?_⟩
      have hc : cutD ((n :: r).map PyData.int) none (some 1) = [.int n] := by
        have e : HT.sIx ((n :: r).map PyData.int).length ((n :: r).map PyData.int).length (some 1) = 1 := by
          rw [show (1 : Int) = ((1 : Nat) : Int) from rfl, HT.sIx_nat, List.length_map, List.length_cons]
          omega
        unfold cutD
        rw [e]
        rfl
      show (Rs.of (opBi .listOf [.list (cutD ((n :: r).map PyData.int) none (some 1))]) _ : Rs W).bind _ = _
      rw [hc]
      rfl
  obtain ⟨x, s1⟩ := s1
  have s2 : ∃ ms : List Int, ms.length ≤ 63 ∧ ev cs cf (.it .enum (.cons (.slV 0 (.var 1) (.int 63)) .nil)) [some (.scr (ns.map PyData.int)), some (.v (.int 1)), some (.own [.int x]), none, none, none] = .ok (.own (enumD 0 (ms.map PyData.int))) [some (.scr (ns.map PyData.int)), some (.v (.int 1)), some (.own [.int x]), none, none, none] := by
    refine ⟨(ns.drop (HT.sIx (ns.map PyData.int).length 0 (some 1))).take (HT.sIx (ns.map PyData.int).length (ns.map PyData.int).length (some 63) - HT.sIx (ns.map PyData.int).length 0 (some 1)), ?_, ?_⟩
    · rw [List.length_take, List.length_drop]; omega
    · rw [← cut_map]
      rfl
  obtain ⟨ms, hm, s2⟩ := s2
  obtain ⟨x', y3, y4, y5, s3⟩ := cells_loop (cs := cs) (cf := cf) (sc := .scr (ns.map PyData.int)) ms 0 x none none none (by omega)
  refine ⟨x', ?_⟩
  have : ex cs cf true bCells [some (.scr (ns.map PyData.int)), some (.v (.int 1)), none, none, none, none] = .ret (.own [.int x']) [some (.scr (ns.map PyData.int)), some (.v (.int 1)), none, y3, y4, y5] := by
    unfold bCells
    exact x_cons (x_asgT s1 rfl) (x_cons (x_for s2 rfl s3) (x_consR (x_ret (v_mvO rfl))))
  rw [this]
  rfl
def bBox (c : Int) : S := (.cons (.asg 2 (.ite (.cmp .Lt (.var 1) (.lenV 0)) (.ixV 0 (.var 1)) (.int 0)) false)
    (.cons (.ret (.lst (.cons (.bin .Mult (.bi .abs (.cons (.var 2) .nil)) (.bi .int1 (.cons (.cmp .GtE (.bi .abs (.cons (.var 2) .nil)) (.bin .Pow (.int 10) (.int 18))) .nil))) (.cons (.bin .Add (.bin .Add (.bin .Mod (.bi .int1 (.cons (.var 2) .nil)) (.int 2305843009213693951)) (.bin .Mult (.int 39373) (.var 1))) (.int c)) (.cons (.int 0) .nil)))))
    .nil))
theorem pow18 : opB .Pow (.int 10) (.int 18) = some (.v (.int 1000000000000000000)) := by rfl
theorem box_ok {cs : List PyData} {cf : CF} {bw : Bool} {c x : Int} : ∃ a b w0, finF bw (ex cs cf bw (bBox c) [some (.v (.list [.int x])), some (.v (.int 0)), none]) = .ok (.own [.int a, .int b, .int 0]) w0 := by
  refine ⟨(if x < 0 then -x else x) * (if decide (1000000000000000000 ≤ (if x < 0 then -x else x)) = true then 1 else 0), x % 2305843009213693951 + 39373 * 0 + c, (if bw then some (.v (.list [.int x])) else none), ?_⟩
  have : ex cs cf bw (bBox c) [some (.v (.list [.int x])), some (.v (.int 0)), none] = .ret (.own [.int ((if x < 0 then -x else x) * (if decide (1000000000000000000 ≤ (if x < 0 then -x else x)) = true then 1 else 0)), .int (x % 2305843009213693951 + 39373 * 0 + c), .int 0]) [some (.v (.list [.int x])), some (.v (.int 0)), some (.v (.int x))] := by
    unfold bBox
    have h0 : stI bw 2 (.v (.int x)) [some (.v (.list [.int x])), some (.v (.int 0)), none] = some [some (.v (.list [.int x])), some (.v (.int 0)), some (.v (.int x))] := by
      unfold stI
      rw [if_neg (by simp)]
      rfl
    refine x_cons (x_asgF (v_iteT (v_cmp (v_var rfl) (v_lenV rfl rfl) (c_lt _ _)) (v_ixV rfl (v_var rfl) rfl)) h0) (x_consR (x_ret (v_lst (v_cons (v_bin (v_bi (v_cons (v_var rfl) v_nil) (n_abs _)) (v_bi (v_cons (v_cmp (v_bi (v_cons (v_var rfl) v_nil) (n_abs _)) (v_bin v_int v_int pow18) (c_ge _ _)) v_nil) (n_bool _)) (o_mulR ?_)) (v_cons (v_bin (v_bin (v_bin (v_bi (v_cons (v_var rfl) v_nil) (n_int _)) v_int (o_mod (by decide))) (v_bin v_int (v_var rfl) (o_mulR (by decide))) (o_add _ _)) v_int (o_add _ _)) (v_cons v_int v_nil))) (siz (show 3 ≤ 1000 by decide)))))
    generalize decide (1000000000000000000 ≤ (if x < 0 then -x else x)) = q
    cases q <;> decide
  rw [this]
  cases bw <;> rfl
/-! ### what is the same as itself -/
def bSame (i : Nat) : S := (.cons (.ite (.isi (.var 1) [.list, .tuple]) (.cons (.ite (.or (.cmp .NotEq (.isi (.var 0) [.list]) (.isi (.var 1) [.list])) (.one (.cmp .NotEq (.isi (.var 0) [.tuple]) (.isi (.var 1) [.tuple])))) (.cons (.ret (.bl false))
    .nil) .nil)
    (.cons (.ret (.and (.cmp .Eq (.lenV 0) (.lenV 1)) (.one (.bi .all (.cons (.comp [2, 3] (.t (.cons (.n 2) (.cons (.n 3) .nil))) (.it .zip (.cons (.var 0) (.cons (.var 1) .nil))) (.bl true) (.call i (.cons (.var 2) (.cons (.var 3) .nil)))) .nil)))))
    .nil)) .nil)
    (.cons (.ite (.cmp .Is (.var 1) .non) (.cons (.ret (.cmp .Is (.var 0) .non))
    .nil) .nil)
    (.cons (.ite (.isi (.var 1) [.bool, .str]) (.cons (.ret (.and (.cmp .Eq (.isi (.var 0) [.bool]) (.isi (.var 1) [.bool])) (.and (.cmp .Eq (.isi (.var 0) [.str]) (.isi (.var 1) [.str])) (.one (.cmp .Eq (.var 0) (.var 1))))))
    .nil) .nil)
    (.cons (.ret (.and (.isi (.var 0) [.int]) (.and (.not (.isi (.var 0) [.bool])) (.one (.cmp .Eq (.var 0) (.var 1))))))
    .nil))))
/-- no dict, not too long, nested less than k deep -/
def fit : Nat → PyData → Bool
  | 0, _ => false
  | k + 1, .list ds => decide (ds.length ≤ 1000) && ds.all (fit k)
  | k + 1, .tuple ds => decide (ds.length ≤ 1000) && ds.all (fit k)
  | _ + 1, .dict _ => false
  | _ + 1, .str z => SeqAt.shaped (.str z)
  | _ + 1, _ => true
def fSame (cs : List PyData) (cf : CF) (i : Nat) (d : PyData) (e2 : En) : Rs (Option PyData) := match asT false (.t (.cons (.n 2) (.cons (.n 3) .nil))) d e2 with
  | some e3 => (ev cs cf (.bl true) e3).bind fun k e4 => match k.val with
    | .bool true => (ev cs cf (.call i (.cons (.var 2) (.cons (.var 3) .nil))) e4).bind fun y e5 => .ok (some y.val) (wipeE e5 [2, 3])
    | .bool false => .ok none (wipeE e4 [2, 3])
    | _ => .stuck
  | none => .stuck
theorem same_loop {cs : List PyData} {cf : CF} {i k : Nat} {x y : W} (hc : ∀ d, fit k d = true → ∃ b, cf i [.v d, .v d] = .ok (.v (.bool true)) b) : ∀ ds : List PyData, ds.all (fit k) = true →
    loopC (fSame cs cf i) (zipD ds ds) [some x, some y, none, none] = .ok (List.replicate ds.length (.bool true)) [some x, some y, none, none]
  | [], _ => rfl
  | d :: ds, h => by
    rw [List.all_cons, Bool.and_eq_true] at h
    have h1 : fSame cs cf i (.tuple [d, d]) [some x, some y, none, none] = .ok (some (.bool true)) [some x, some y, none, none] := by
      obtain ⟨b, hb⟩ := hc d h.1
      show ((ev cs cf (.call i (.cons (.var 2) (.cons (.var 3) .nil))) [some x, some y, some (.v d), some (.v d)]).bind fun y e5 => Rs.ok (some y.val) (wipeE e5 [2, 3])) = _
      rw [v_call (v_cons (v_var rfl) (v_cons (v_var rfl) v_nil)) hb]
      rfl
    show loopC _ (.tuple [d, d] :: zipD ds ds) _ = _
    unfold loopC
    rw [h1]
    show (match loopC (fSame cs cf i) (zipD ds ds) [some x, some y, none, none] with
      | .ok r e2 => Rs.ok (PyData.bool true :: r) e2
      | r => r) = _
    rw [same_loop hc ds h.2]
    rfl
theorem bools_rep : ∀ n : Nat, boolsOf (List.replicate n (.bool true)) = some (List.replicate n true)
  | 0 => rfl
  | n + 1 => by
    rw [List.replicate_succ, List.replicate_succ]
    show (boolsOf (List.replicate n (.bool true))).map (true :: ·) = _
    rw [bools_rep n]
    rfl
theorem all_rep (n : Nat) : opBi .all [.list (List.replicate n (.bool true))] = some (.v (.bool true)) := by
  show (boolsOf (List.replicate n (.bool true))).map (fun bs => W.v (.bool (bs.all id))) = _
  rw [bools_rep]
  have : (List.replicate n true).all id = true := by simp
  show some (W.v (.bool ((List.replicate n true).all id))) = _
  rw [this]
theorem same_seq {cs : List PyData} {cf : CF} {i k : Nat} {x : PyData} {ds : List PyData} (hx : x = .list ds ∨ x = .tuple ds) (hc : ∀ d, fit k d = true → ∃ b, cf i [.v d, .v d] = .ok (.v (.bool true)) b) (hl : ds.length ≤ 1000) (ha : ds.all (fit k) = true) :
    ev cs cf (.comp [2, 3] (.t (.cons (.n 2) (.cons (.n 3) .nil))) (.it .zip (.cons (.var 0) (.cons (.var 1) .nil))) (.bl true) (.call i (.cons (.var 2) (.cons (.var 3) .nil)))) [some (.v x), some (.v x), none, none] = .ok (.own (List.replicate ds.length (.bool true))) [some (.v x), some (.v x), none, none] := by
  have hs : ev cs cf (.it .zip (.cons (.var 0) (.cons (.var 1) .nil))) [some (.v x), some (.v x), none, none] = .ok (.own (zipD ds ds)) [some (.v x), some (.v x), none, none] := by
    refine v_it (v_cons (v_var rfl) (v_cons (v_var rfl) v_nil)) ?_
    rcases hx with rfl | rfl <;> rfl
  have hl2 : (List.replicate ds.length (PyData.bool true)).length ≤ sizeLine := by rw [List.length_replicate]; exact siz hl
  rw [ev_comp, hs]
  show (match loopC (fSame cs cf i) (zipD ds ds) [some (.v x), some (.v x), none, none] with
    | .ok r e2 => if r.length ≤ sizeLine then Rs.ok (W.own r) (backE [some (.v x), some (.v x), none, none] e2 [2, 3]) else .stuck
    | _ => .stuck) = _
  rw [same_loop hc ds ha]
  show (if (List.replicate ds.length (PyData.bool true)).length ≤ sizeLine then _ else _) = _
  rw [if_pos hl2]
  rfl
theorem str_self (z : Str) (h1 : SeqAt.shaped (.str z) = true) : opC .Eq (.str z) (.str z) = some true := by
  show opEq (.str z) (.str z) = some true
  show (if SeqAt.shaped (.str z) = true ∧ SeqAt.shaped (.str z) = true then some (PyData.eqv (.str z) (.str z)) else none) = some true
  have h2 : PyData.eqv (.str z) (.str z) = true := by
    unfold PyData.eqv
    simp
  rw [if_pos ⟨h1, h1⟩, h2]
theorem bool_self (z : Bool) : opC .Eq (.bool z) (.bool z) = some true := by cases z <;> rfl
theorem same_body {cs : List PyData} {cf : CF} {i k : Nat} (hc : ∀ d, fit k d = true → ∃ b, cf i [.v d, .v d] = .ok (.v (.bool true)) b) (d : PyData) (hf : fit (k + 1) d = true) :
    finF false (ex cs cf false (bSame i) [some (.v d), some (.v d), none, none]) = .ok (.v (.bool true)) none := by
  have go : ex cs cf false (bSame i) [some (.v d), some (.v d), none, none] = .ret (.v (.bool true)) [some (.v d), some (.v d), none, none] := by
    unfold bSame
    have seq : ∀ ds : List PyData, (d = .list ds ∨ d = .tuple ds) → ds.length ≤ 1000 → ds.all (fit k) = true → ex cs cf false (bSame i) [some (.v d), some (.v d), none, none] = .ret (.v (.bool true)) [some (.v d), some (.v d), none, none] := by
      intro ds hd hl ha
      unfold bSame
      refine x_consR (x_iteT (v_isi (v_var rfl) ?_) (x_cons (x_iteF (v_orF (v_cmp (v_isi (v_var rfl) rfl) (v_isi (v_var rfl) rfl) ?_) (v_one (v_cmp (v_isi (v_var rfl) rfl) (v_isi (v_var rfl) rfl) ?_))) x_nil) (x_consR (x_ret ?_))))
      · rcases hd with rfl | rfl <;> rfl
      · rcases hd with rfl | rfl <;> rfl
      · rcases hd with rfl | rfl <;> rfl
      · refine v_andT (v_cmp (v_lenV (n := ds.length) rfl ?_) (v_lenV (n := ds.length) rfl ?_) ?_) (v_one (v_bi (v_cons (same_seq hd hc hl ha) v_nil) (all_rep _)))
        · rcases hd with rfl | rfl <;> rfl
        · rcases hd with rfl | rfl <;> rfl
        · show opC .Eq (.int _) (.int _) = _
          rw [c_eq, decide_eq_true rfl]
    cases d with
    | list ds =>
      have hf : (decide (ds.length ≤ 1000) && ds.all (fit k)) = true := hf
      rw [Bool.and_eq_true, decide_eq_true_eq] at hf
      exact seq ds (.inl rfl) hf.1 hf.2
    | tuple ds =>
      have hf : (decide (ds.length ≤ 1000) && ds.all (fit k)) = true := hf
      rw [Bool.and_eq_true, decide_eq_true_eq] at hf
      exact seq ds (.inr rfl) hf.1 hf.2
    | dict _ => exact (Bool.false_ne_true hf).elim
    | none => rfl
    | bool b =>
      refine x_cons (x_iteF (v_isi (v_var rfl) rfl) x_nil) (x_cons (x_iteF (v_cmp (v_var rfl) v_non rfl) x_nil) (x_consR (x_iteT (v_isi (v_var rfl) rfl) (x_consR (x_ret (v_andT (v_cmp (v_isi (v_var rfl) rfl) (v_isi (v_var rfl) rfl) rfl) (v_andT (v_cmp (v_isi (v_var rfl) rfl) (v_isi (v_var rfl) rfl) rfl) (v_one (v_cmp (v_var rfl) (v_var rfl) (bool_self b))))))))))
    | str z =>
      refine x_cons (x_iteF (v_isi (v_var rfl) rfl) x_nil) (x_cons (x_iteF (v_cmp (v_var rfl) v_non rfl) x_nil) (x_consR (x_iteT (v_isi (v_var rfl) rfl) (x_consR (x_ret (v_andT (v_cmp (v_isi (v_var rfl) rfl) (v_isi (v_var rfl) rfl) rfl) (v_andT (v_cmp (v_isi (v_var rfl) rfl) (v_isi (v_var rfl) rfl) rfl) (v_one (v_cmp (v_var rfl) (v_var rfl) (str_self z hf))))))))))
    | int n =>
      refine x_cons (x_iteF (v_isi (v_var rfl) rfl) x_nil) (x_cons (x_iteF (v_cmp (v_var rfl) v_non rfl) x_nil) (x_cons (x_iteF (v_isi (v_var rfl) rfl) x_nil) (x_consR (x_ret (v_andT (v_isi (v_var rfl) rfl) (v_andT (v_not (p := false) (v_isi (v_var rfl) rfl)) (v_one (v_cmp (v_var rfl) (v_var rfl) (by show opC .Eq (.int _) (.int _) = _; rw [c_eq, decide_eq_true rfl])))))))))
  rw [go]
  rfl
end TD

set_option maxHeartbeats 1000000
namespace TD
open PySem PySem.Spec PyProof.Rows L2
/-! ### while, the greatest common divisor -/
section
variable {c : En → Rs W} {b : En → Fl} {n : Nat} {e e1 e2 : En}
theorem wh_T (h : c e = .ok (.v (.bool true)) e1) (h2 : b e1 = .nx e2) : whlL c b (n + 1) e = whlL c b n e2 := by simp only [whlL, h, Rs.fl, W.val, h2]
theorem wh_F (h : c e = .ok (.v (.bool false)) e1) : whlL c b (n + 1) e = .nx e1 := by simp only [whlL, h, Rs.fl, W.val]
end
theorem x_whl {cs : List PyData} {cf : CF} {bw : Bool} {a : E} {S1 : S} {e : En} {r : Fl} (h : whlL (fun e1 => ev cs cf a e1) (fun e1 => ex cs cf bw S1 e1) most e = r) : ex cs cf bw (.whl a S1) e = r := by simp only [ex]; exact h
theorem gcd_emod (x y : Int) : Int.gcd y (x % y) = Int.gcd x y := by
  have e : y * (x / y) + x % y = x := Int.mul_ediv_add_emod x y
  apply Nat.dvd_antisymm
  · apply Int.dvd_gcd
    · have h := Int.dvd_add (Int.dvd_trans (Int.gcd_dvd_left y (x % y)) (Int.dvd_mul_right y (x / y))) (Int.gcd_dvd_right y (x % y))
      rw [e] at h
      exact h
    · exact Int.gcd_dvd_left y (x % y)
  · apply Int.dvd_gcd
    · exact Int.gcd_dvd_right x y
    · have h := Int.dvd_sub (Int.gcd_dvd_left x y) (Int.dvd_trans (Int.gcd_dvd_right x y) (Int.dvd_mul_right y (x / y)))
      have e2 : x - y * (x / y) = x % y := by omega
      rw [e2] at h
      exact h
theorem half_mod {y r : Int} (hr : 0 < r) (hy : r ≤ y) : 2 * (y % r) < y := by
  have h1 : y % r < r := Int.emod_lt_of_pos _ hr
  have h2 : r * (y / r) + y % r = y := Int.mul_ediv_add_emod y r
  have h3 : 1 ≤ y / r := by
    rw [Int.le_ediv_iff_mul_le hr]
    omega
  have h4 : r * 1 ≤ r * (y / r) := Int.mul_le_mul_of_nonneg_left h3 (Int.le_of_lt hr)
  omega
def bGcd : S := (.cons (.whl (.cmp .NotEq (.var 1) (.int 0)) (.cons (.par2 0 1 (.cons (.var 1) (.cons (.bin .Mod (.var 0) (.var 1)) .nil)))
    .nil))
    (.cons (.ret (.bi .abs (.cons (.var 0) .nil)))
    .nil))
section
variable {cs : List PyData} {cf : CF}
theorem gcd_test (x y : Int) : ev cs cf (.cmp .NotEq (.var 1) (.int 0)) [some (.v (.int x)), some (.v (.int y))] = .ok (.v (.bool (!decide (y = 0)))) [some (.v (.int x)), some (.v (.int y))] := v_cmp (v_var rfl) v_int (c_ne _ _)
theorem gcd_turn {x y : Int} (h : 0 < y) : ex cs cf false (.cons (.par2 0 1 (.cons (.var 1) (.cons (.bin .Mod (.var 0) (.var 1)) .nil))) .nil) [some (.v (.int x)), some (.v (.int y))] = .nx [some (.v (.int y)), some (.v (.int (x % y)))] :=
  x_cons (x_par2 (v_cons (v_var rfl) (v_cons (v_bin (v_var rfl) (v_var rfl) (o_mod h)) v_nil)) rfl rfl) x_nil
theorem gcd_loop : ∀ (n : Nat) (x y : Int) (m : Nat), 0 ≤ y → y < 2 ^ n → 2 * n + 1 ≤ m → ∃ x' : Int, whlL (fun e1 => ev cs cf (.cmp .NotEq (.var 1) (.int 0)) e1) (fun e1 => ex cs cf false (.cons (.par2 0 1 (.cons (.var 1) (.cons (.bin .Mod (.var 0) (.var 1)) .nil))) .nil) e1) m [some (.v (.int x)), some (.v (.int y))] = .nx [some (.v (.int x')), some (.v (.int 0))] ∧ x'.natAbs = Int.gcd x y := by
  intro n
  induction n with
  | zero =>
    intro x y m h0 h1 hm
    have e : y = 0 := by
      have : y < 1 := h1
      omega
    subst e
    obtain ⟨m, rfl⟩ : ∃ m', m = m' + 1 := ⟨m - 1, by omega⟩
    exact ⟨x, wh_F (gcd_test x 0), by rw [Int.gcd_zero]⟩
  | succ n ih =>
    intro x y m h0 h1 hm
    obtain ⟨m, rfl⟩ : ∃ m', m = m' + 2 := ⟨m - 2, by omega⟩
    by_cases hy : y = 0
    · subst hy
      exact ⟨x, wh_F (gcd_test x 0), by rw [Int.gcd_zero]⟩
    · have hy0 : 0 < y := by omega
      have t1 := gcd_test (cs := cs) (cf := cf) x y
      rw [decide_eq_false hy] at t1
      have hr0 : 0 ≤ x % y := Int.emod_nonneg _ hy
      by_cases hr : x % y = 0
      · have t2 := gcd_test (cs := cs) (cf := cf) y (x % y)
        rw [hr] at t2
        refine ⟨y, ?_, ?_⟩
        · rw [wh_T t1 (gcd_turn hy0), hr]
          exact wh_F t2
        · rw [← gcd_emod, hr, Int.gcd_zero]
      · have hr1 : 0 < x % y := by omega
        have t2 := gcd_test (cs := cs) (cf := cf) y (x % y)
        rw [decide_eq_false hr] at t2
        have hlt : x % y < y := Int.emod_lt_of_pos _ hy0
        have hh := half_mod hr1 (Int.le_of_lt hlt)
        have hp : (2 : Int) ^ (n + 1) = 2 * 2 ^ n := by rw [Int.pow_succ]; omega
        obtain ⟨x', g1, g2⟩ := ih (x % y) (y % (x % y)) m (Int.emod_nonneg _ hr) (by omega) (by omega)
        refine ⟨x', ?_, ?_⟩
        · rw [wh_T t1 (gcd_turn hy0), wh_T t2 (gcd_turn hr1)]
          exact g1
        · rw [g2, gcd_emod, gcd_emod]
theorem gcd_ok {x y : Int} {n : Nat} (h0 : 0 ≤ y) (h1 : y < 2 ^ n) (hn : n ≤ 400000000) : finF false (ex cs cf false bGcd [some (.v (.int x)), some (.v (.int y))]) = .ok (.v (.int (Int.gcd x y))) none := by
  obtain ⟨x', g1, g2⟩ := gcd_loop (cs := cs) (cf := cf) n x y most h0 h1 (by unfold most; omega)
  have e : (if x' < 0 then -x' else x') = (Int.gcd x y : Int) := by
    rw [← g2]
    split <;> omega
  have : ex cs cf false bGcd [some (.v (.int x)), some (.v (.int y))] = .ret (.v (.int (Int.gcd x y))) [some (.v (.int x')), some (.v (.int 0))] := by
    unfold bGcd
    refine x_cons (x_whl g1) (x_consR (x_ret (v_bi (v_cons (v_var rfl) v_nil) ?_)))
    rw [← e]
    exact n_abs _
  rw [this]
  rfl
end
/-! ### shares: a tuple of the numerator and the denominator -/
def can (q : Rat) : PyData := .tuple [.int q.num, .int q.den]
theorem div_num {a b : Int} (h : 0 < b) : (Rat.divInt a b).num = a / (Int.gcd a b : Int) := by
  rw [Rat.num_divInt, Int.sign_eq_one_of_pos h, Int.one_mul, Int.gcd_comm]
theorem div_den {a b : Int} (h : 0 < b) : ((Rat.divInt a b).den : Int) = b / (Int.gcd a b : Int) := by
  rw [Rat.den_divInt, if_neg (by omega), Int.gcd_comm, Int.natCast_ediv, Int.natAbs_of_nonneg (by omega)]
theorem can_eq {a b : Int} (h : 0 < b) : can (Rat.divInt a b) = .tuple [.int (a / (Int.gcd a b : Int)), .int (b / (Int.gcd a b : Int))] := by
  unfold can
  rw [div_num h, div_den h]
theorem add_div (q r : Rat) : Rat.divInt (q.num * r.den + r.num * q.den) (q.den * r.den) = q + r := by
  rw [Rat.add_def', ← Rat.divInt_ofNat]
  norm_cast
theorem sub_div (q r : Rat) : Rat.divInt (q.num * r.den - r.num * q.den) (q.den * r.den) = q - r := by
  rw [Rat.sub_def', ← Rat.divInt_ofNat]
  norm_cast
theorem mul_div (q r : Rat) : Rat.divInt (q.num * r.num) (q.den * r.den) = q * r := by
  rw [Rat.mul_def', ← Rat.divInt_ofNat]
  norm_cast
theorem gcd_pos' {a b : Int} (h : 0 < b) : 0 < (Int.gcd a b : Int) := by
  have := Int.gcd_pos_of_ne_zero_right a (show b ≠ 0 by omega)
  omega
theorem gcd_le' {a b : Int} (h : 0 < b) : (Int.gcd a b : Int) ≤ b := Int.gcd_le_right a h
end TD

set_option maxHeartbeats 1000000
namespace TD
open PySem PySem.Spec PyProof.Rows L2
section
variable {cs : List PyData} {cf : CF} {bw : Bool} {e e1 e2 e3 e4 e5 : En} {a b c src el : E} {i j v n m : Nat} {d d1 d2 d3 : PyData} {ds xs : List PyData} {w w1 w2 : W} {p q : Bool} {o : Operator} {pl : Option PyData}
theorem v_as (h : ev cs cf a e = .ok (.v (.bool p)) e1) (h2 : p = q) : ev cs cf a e = .ok (.v (.bool q)) e1 := h2 ▸ h
theorem v_asI {x y : Int} (h : ev cs cf a e = .ok (.v (.int x)) e1) (h2 : x = y) : ev cs cf a e = .ok (.v (.int y)) e1 := h2 ▸ h
theorem v_asD {x y : PyData} (h : ev cs cf a e = .ok (.v x) e1) (h2 : x = y) : ev cs cf a e = .ok (.v y) e1 := h2 ▸ h
theorem v_iteTr {r : Rs W} (h : ev cs cf c e = .ok (.v (.bool true)) e1) (h1 : ev cs cf a e1 = r) : ev cs cf (.ite c a b) e = r := by simp only [ev, h, Rs.bind, W.val, h1]
theorem v_iteFr {r : Rs W} (h : ev cs cf c e = .ok (.v (.bool false)) e1) (h1 : ev cs cf b e1 = r) : ev cs cf (.ite c a b) e = r := by simp only [ev, h, Rs.bind, W.val, h1]
theorem v_consX1 (h : ev cs cf a e = .exc n pl e1) : ev cs cf (.cons a b) e = .exc n pl e1 := by simp only [ev, h, Rs.bind]
theorem v_consX2 (h1 : ev cs cf a e = .ok w e1) (h : ev cs cf b e1 = .exc n pl e2) : ev cs cf (.cons a b) e = .exc n pl e2 := by simp only [ev, h1, h, Rs.bind]
theorem v_tupX (h : ev cs cf a e = .exc n pl e1) : ev cs cf (.tup a) e = .exc n pl e1 := by simp only [ev, h, Rs.bind]
theorem v_callXa {f : Nat} (h : ev cs cf a e = .exc n pl e1) : ev cs cf (.call f a) e = .exc n pl e1 := by simp only [ev, h, Rs.bind]
theorem v_biX {k : Bi} (h : ev cs cf a e = .exc n pl e1) : ev cs cf (.bi k a) e = .exc n pl e1 := by simp only [ev, h, Rs.bind]
theorem x_par2X (h : ev cs cf a e = .exc n pl e1) : ex cs cf bw (.par2 i j a) e = .exc n pl e1 := by simp only [ex, h, Rs.fl]
theorem x_tgtX {t : T} (h : ev cs cf a e = .exc n pl e1) : ex cs cf bw (.asgT t a) e = .exc n pl e1 := by simp only [ex, h, Rs.fl]
theorem x_iteX {S1 S2 : S} (h : ev cs cf c e = .exc n pl e1) : ex cs cf bw (.ite c S1 S2) e = .exc n pl e1 := by simp only [ex, h, Rs.fl]
theorem v_ixG (h0 : e[v]? = some (some w1)) (h1 : ev cs cf a e = .ok w e1) (h2 : e1[v]? = some (some (.v d1))) (h3 : opIx d1 w.val = some d) : ev cs cf (.ixV v a) e = .ok (.v d) e1 := by simp only [ev, h0, h1, Rs.bind, h2, h3]; rfl
theorem v_iteI (h : ev cs cf c e = .ok (.v (.bool p)) e1) (h1 : ev cs cf (if p = true then a else b) e1 = .ok w e2) : ev cs cf (.ite c a b) e = .ok w e2 := by
  simp only [ev, h, Rs.bind, W.val]
  cases p
  · exact h1
  · exact h1
theorem x_iteI {S1 S2 : S} {r : Fl} (h : ev cs cf c e = .ok (.v (.bool p)) e1) (hT : p = true → ex cs cf bw S1 e1 = r) (hF : p = false → ex cs cf bw S2 e1 = r) : ex cs cf bw (.ite c S1 S2) e = r := by
  cases p
  · exact x_iteF h (hF rfl)
  · exact x_iteT h (hT rfl)
theorem x_ext (h0 : e[i]? = some (some (.own xs))) (h1 : ev cs cf a e = .ok w e1) (h3 : e1[i]? = some (some (.own ds))) (hw : w.val = .list xs) (hz : ds.length + xs.length ≤ sizeLine) : ex cs cf bw (.ext i a) e = .nx (e1.set i (some (.own (ds ++ xs)))) := by
  simp only [ex, h0, h1, Rs.fl, h3, hw, hz, if_true]
theorem x_ext' {ys zs : List PyData} (h0 : e[i]? = some (some (.own zs))) (h1 : ev cs cf a e = .ok w e1) (h3 : e1[i]? = some (some (.own ds))) (hw : w.val = .list ys) (hz : ds.length + ys.length ≤ sizeLine) : ex cs cf bw (.ext i a) e = .nx (e1.set i (some (.own (ds ++ ys)))) := by
  simp only [ex, h0, h1, Rs.fl, h3, hw, hz, if_true]
theorem siz6 {n : Nat} (h : n ≤ 1000000) : n ≤ sizeLine := Nat.le_trans h (by decide)
theorem v_lrg {t : Bool} (h : ev cs cf a e = .ok (.own ds) e1) (h2 : opLr t ds = some w) : ev cs cf (.lrg t a) e = .ok w e1 := by simp only [ev, h, Rs.bind, h2]; rfl
/-! ### comprehensions -/
def fQ (cs : List PyData) (cf : CF) (vs : List Nat) (t : T) (c el : E) (d : PyData) (e2 : En) : Rs (Option PyData) := match asT false t d e2 with
  | some e3 => (ev cs cf c e3).bind fun k e4 => match k.val with
    | .bool true => (ev cs cf el e4).bind fun y e5 => .ok (some y.val) (wipeE e5 vs)
    | .bool false => .ok none (wipeE e4 vs)
    | _ => .stuck
  | none => .stuck
theorem fQ_T {vs : List Nat} {t : T} (h1 : asT false t d e2 = some e3) (h2 : ev cs cf c e3 = .ok (.v (.bool true)) e4) (h3 : ev cs cf el e4 = .ok w e5) (h4 : wipeE e5 vs = e) : fQ cs cf vs t c el d e2 = .ok (some w.val) e := by
  simp only [fQ, h1, h2, Rs.bind, W.val, h3, h4]
theorem fQ_F {vs : List Nat} {t : T} (h1 : asT false t d e2 = some e3) (h2 : ev cs cf c e3 = .ok (.v (.bool false)) e4) (h4 : wipeE e4 vs = e) : fQ cs cf vs t c el d e2 = .ok none e := by
  simp only [fQ, h1, h2, Rs.bind, W.val, h4]
theorem fQ_I {vs : List Nat} {t : T} (h1 : asT false t d e2 = some e3) (h2 : ev cs cf c e3 = .ok (.v (.bool p)) e4) (h3 : p = true → ev cs cf el e4 = .ok (.v d1) e4) (h4 : wipeE e4 vs = e) : fQ cs cf vs t c el d e2 = .ok (if p = true then some d1 else none) e := by
  cases p
  · exact fQ_F h1 h2 h4
  · exact fQ_T h1 h2 (h3 rfl) h4
theorem loopC_ok {f : PyData → En → Rs (Option PyData)} {g : PyData → Option PyData} {e0 : En} : ∀ ds : List PyData, (∀ d ∈ ds, f d e0 = .ok (g d) e0) → loopC f ds e0 = .ok (ds.filterMap g) e0
  | [], _ => rfl
  | d :: ds, h => by
    unfold loopC
    rw [h d (by simp)]
    show (match loopC f ds e0 with
      | .ok r e2 => Rs.ok (match g d with | some x => x :: r | none => r) e2
      | r => r) = _
    rw [loopC_ok ds (fun x hx => h x (by simp [hx])), List.filterMap_cons]
    cases g d <;> rfl
theorem v_comp {vs : List Nat} {t : T} {g : PyData → Option PyData} (h : ev cs cf src e = .ok w e1) (h1 : seqOf w.val = some ds) (hz : ds.length ≤ 1000000) (hb : ∀ d ∈ ds, fQ cs cf vs t c el d (wipeE e1 vs) = .ok (g d) (wipeE e1 vs)) :
    ev cs cf (.comp vs t src c el) e = .ok (.own (ds.filterMap g)) (backE e1 (wipeE e1 vs) vs) := by
  rw [ev_comp, h]
  show (match seqOf w.val with
    | some ds => (match loopC (fQ cs cf vs t c el) ds (wipeE e1 vs) with
      | .ok r e2 => if r.length ≤ sizeLine then Rs.ok (W.own r) (backE e1 e2 vs) else .stuck
      | _ => .stuck)
    | none => .stuck) = _
  rw [h1]
  show (match loopC (fQ cs cf vs t c el) ds (wipeE e1 vs) with
      | .ok r e2 => if r.length ≤ sizeLine then Rs.ok (W.own r) (backE e1 e2 vs) else .stuck
      | _ => .stuck) = _
  rw [loopC_ok ds hb]
  have : (ds.filterMap g).length ≤ sizeLine := siz6 (Nat.le_trans (List.length_filterMap_le g ds) hz)
  show (if (ds.filterMap g).length ≤ sizeLine then _ else _) = _
  rw [if_pos this]
theorem filterMap_ints (p : Int → Bool) (g : Int → PyData) : ∀ L : List Int, (L.map PyData.int).filterMap (fun d => match d with | .int i => if p i = true then some (g i) else none | _ => none) = (L.filter p).map g
  | [] => rfl
  | a :: L => by
    rw [List.map_cons, List.filterMap_cons, List.filter_cons, filterMap_ints p g L]
    cases h : p a
    · simp [h]
    · simp [h]
theorem v_compI {vs : List Nat} {t : T} {L : List Int} {p : Int → Bool} {g : Int → PyData} (h : ev cs cf src e = .ok w e1) (h1 : seqOf w.val = some (L.map PyData.int)) (hz : L.length ≤ 1000000) (hb : ∀ i ∈ L, fQ cs cf vs t c el (.int i) (wipeE e1 vs) = .ok (if p i = true then some (g i) else none) (wipeE e1 vs)) :
    ev cs cf (.comp vs t src c el) e = .ok (.own ((L.filter p).map g)) (backE e1 (wipeE e1 vs) vs) := by
  rw [← filterMap_ints p g L]
  refine v_comp h h1 (by rw [List.length_map]; exact hz) ?_
  intro d hd
  rw [List.mem_map] at hd
  obtain ⟨i, hi, rfl⟩ := hd
  exact hb i hi
end
/-! ### ranges -/
def rangeI (lo : Int) : Nat → List Int
  | 0 => []
  | n + 1 => lo :: rangeI (lo + 1) n
theorem rangeD_is : ∀ (n : Nat) (lo : Int), rangeD lo n = (rangeI lo n).map PyData.int
  | 0, _ => rfl
  | n + 1, lo => by
    show PyData.int lo :: rangeD (lo + 1) n = _
    rw [rangeD_is n (lo + 1)]
    rfl
theorem rangeI_len : ∀ (n : Nat) (lo : Int), (rangeI lo n).length = n
  | 0, _ => rfl
  | n + 1, lo => by
    show (rangeI (lo + 1) n).length + 1 = _
    rw [rangeI_len n (lo + 1)]
theorem mem_rangeI : ∀ (n : Nat) (lo x : Int), x ∈ rangeI lo n ↔ lo ≤ x ∧ x < lo + n
  | 0, lo, x => by
    show x ∈ ([] : List Int) ↔ _
    constructor
    · intro h; cases h
    · intro h; omega
  | n + 1, lo, x => by
    show x ∈ lo :: rangeI (lo + 1) n ↔ _
    rw [List.mem_cons, mem_rangeI n (lo + 1) x]
    omega
theorem r2_ok {i j : Int} (h1 : -1000000000000 ≤ i) (h2 : i ≤ 1000000000000) (h3 : -1000000000000 ≤ j) (h4 : j ≤ 1000000000000) : opIt .range2 [.int i, .int j] = some (.own ((rangeI i (j - i).toNat).map PyData.int)) := by
  show (if inRg i = true ∧ inRg j = true then some (W.own (rangeD i (j - i).toNat)) else none) = _
  rw [if_pos, rangeD_is]
  unfold inRg
  rw [Bool.and_eq_true, decide_eq_true_eq, decide_eq_true_eq, Bool.and_eq_true, decide_eq_true_eq, decide_eq_true_eq]
  omega
theorem r1_ok {j : Int} (h3 : -1000000000000 ≤ j) (h4 : j ≤ 1000000000000) : opIt .range1 [.int j] = some (.own ((rangeI 0 j.toNat).map PyData.int)) := by
  show (if inRg j = true then some (W.own (rangeD 0 j.toNat)) else none) = _
  rw [if_pos, rangeD_is]
  unfold inRg
  rw [Bool.and_eq_true, decide_eq_true_eq, decide_eq_true_eq]
  omega
theorem lr2_ok {i j : Int} (h1 : -1000000 ≤ i) (h2 : i ≤ 1000000) (h3 : -1000000 ≤ j) (h4 : j ≤ 1000000) : opLr false [.int i, .int j] = some (.own ((rangeI i (j - i).toNat).map PyData.int)) := by
  show (if rgB i j = true then some (W.own (rangeD i (j - i).toNat)) else none) = _
  rw [if_pos, rangeD_is]
  unfold rgB inRg
  rw [Bool.and_eq_true, Bool.and_eq_true, Bool.and_eq_true, Bool.and_eq_true, decide_eq_true_eq, decide_eq_true_eq, decide_eq_true_eq, decide_eq_true_eq, decide_eq_true_eq]
  omega
theorem atI_map {L : List Int} {k : Nat} (h : k < L.length) : ∃ x, x ∈ L ∧ opIx (.list (L.map PyData.int)) (.int k) = some (.int x) := by
  refine ⟨L[k], List.getElem_mem h, ?_⟩
  show atI (L.map PyData.int) (k : Int) = _
  have : ixN (L.map PyData.int).length (k : Int) = some k := by
    unfold ixN
    rw [List.length_map]
    simp
    omega
  unfold atI
  rw [this]
  simp [h]
end TD

set_option maxHeartbeats 1000000
namespace TD
open PySem PySem.Spec PyProof.Rows L2
local macro_rules | `(tactic| walk_at "td op") => `(tactic| first | with_reducible exact o_add _ _ | with_reducible exact o_sub _ _ | with_reducible exact c_eq _ _ | with_reducible exact c_ne _ _ | with_reducible exact c_lt _ _ | with_reducible exact c_le _ _ | with_reducible exact c_gt _ _ | with_reducible exact c_ge _ _ | (with_reducible apply o_mulR; omega) | (with_reducible apply o_mulL; omega) | (with_reducible apply o_divS <;> omega) | (with_reducible apply o_mod; omega) | with_reducible exact n_int _ | with_reducible exact n_abs _ | with_reducible exact n_gcd _ _ | (with_reducible apply siz; simp; done) | assumption | rfl)
local macro_rules | `(tactic| walk_at "td s") => `(tactic| (repeat' (first | with_reducible exact x_nil | (with_reducible apply x_consR; with_reducible apply x_ret) | (with_reducible apply x_cons; with_reducible apply x_asgT) | (with_reducible apply x_cons; with_reducible apply x_asgF) | (with_reducible apply x_cons; with_reducible apply x_setI) | (with_reducible apply x_cons; with_reducible apply x_tgt) | (with_reducible apply x_cons; with_reducible apply x_par2) | (with_reducible apply x_cons; with_reducible apply x_par3) | (with_reducible apply x_cons; with_reducible apply x_app) | with_reducible exact v_int | with_reducible exact v_str | with_reducible exact v_bl | with_reducible exact v_non | with_reducible exact v_nil | exact v_var rfl | exact v_mv rfl | exact v_mvO rfl | exact v_glb rfl | with_reducible apply v_bin | with_reducible apply v_neg | with_reducible apply v_cmp | with_reducible apply v_chn | with_reducible apply v_one | with_reducible apply v_not | with_reducible apply v_cons | with_reducible apply v_tup | with_reducible apply v_lst | with_reducible apply v_ix | (with_reducible apply v_ixV; rfl) | (with_reducible apply v_ixO; rfl) | (with_reducible apply v_lenV; rfl) | (with_reducible exact v_lenO (by rfl)) | with_reducible apply v_bi | with_reducible apply v_isi | (with_reducible apply v_call) | walk_at "td op")))
/-! ### back -/
def backF : Nat → Int → Int → Int → Int → Int
  | 0, _, _, near, _ => near
  | m + 1, one, two, near, far => if two = 0 then near else backF m two (one % two) far (near - one / two * far)
def Bk (n b : Int) : Int := backF (b.toNat + 1) (n % b) b 1 0 % b
def bBack : S := (.cons (.asg 6 (.bin .FloorDiv (.var 2) (.var 3)) false)
    (.cons (.asgT (.cons (.n 2) (.cons (.n 3) (.cons (.n 4) (.cons (.n 5) .nil)))) (.tup (.cons (.var 3) (.cons (.bin .Mod (.var 2) (.var 3)) (.cons (.var 5) (.cons (.bin .Sub (.var 4) (.bin .Mult (.var 6) (.var 5))) .nil))))))
    .nil))
def bBack2 : S := (.cons (.asg 6 (.bin .FloorDiv (.var 2) (.var 3)) false)
    (.cons (.asgT (.cons (.n 2) (.cons (.n 3) (.cons (.n 4) (.cons (.n 5) .nil)))) (.tup (.cons (.var 3) (.cons (.bin .Sub (.var 2) (.bin .Mult (.var 6) (.var 3))) (.cons (.var 5) (.cons (.bin .Sub (.var 4) (.bin .Mult (.var 6) (.var 5))) .nil))))))
    .nil))
def bBackL : S := .cons (.asgT (.cons (.n 2) (.cons (.n 3) (.cons (.n 4) (.cons (.n 5) .nil)))) (.tup (.cons (.bin .Mod (.var 0) (.var 1)) (.cons (.var 1) (.cons (.int 1) (.cons (.int 0) .nil))))))
    (.cons (.whl (.cmp .NotEq (.var 3) (.int 0)) bBack) (.cons (.ret (.bin .Mod (.var 4) (.var 1))) .nil))
def bBackP : S := .cons (.asgT (.cons (.n 2) (.cons (.n 3) (.cons (.n 4) (.cons (.n 5) .nil)))) (.tup (.cons (.bin .Mod (.var 0) (.var 1)) (.cons (.var 1) (.cons (.int 1) (.cons (.int 0) .nil))))))
    (.cons (.whl (.cmp .Gt (.var 3) (.int 0)) bBack2) (.cons (.ret (.bin .Mod (.var 4) (.var 1))) .nil))
theorem div_le {a b : Int} (h : 0 ≤ a) (hb : 0 < b) : 0 ≤ a / b ∧ a / b ≤ a := ⟨Int.ediv_nonneg h (by omega), Int.ediv_le_self _ h⟩
section
variable {cs : List PyData} {cf : CF}
theorem back_turn {x0 x1 z6 : Option W} {one two near far : Int} (h0 : 0 ≤ one) (h1 : one < 1000001) (h2 : 0 < two) (h3 : two < 1000001) : ex cs cf false bBack [x0, x1, some (.v (.int one)), some (.v (.int two)), some (.v (.int near)), some (.v (.int far)), z6] =
    .nx [x0, x1, some (.v (.int two)), some (.v (.int (one % two))), some (.v (.int far)), some (.v (.int (near - one / two * far))), some (.v (.int (one / two)))] := by
  obtain ⟨d0, d1⟩ := div_le h0 h2
  unfold bBack
  refine x_cons (x_asgF (v_bin (v_var rfl) (v_var rfl) (o_divS h2 (by omega))) rfl) (x_cons (x_tgt (v_tup (v_cons (v_var rfl) (v_cons (v_bin (v_var rfl) (v_var rfl) (o_mod h2)) (v_cons (v_var rfl) (v_cons (v_bin (v_var rfl) (v_bin (v_var rfl) (v_var rfl) (o_mulL ?_)) (o_sub _ _)) v_nil)))) (siz (show 4 ≤ 1000 by decide))) rfl) x_nil)
  omega
theorem back_turn2 {x0 x1 z6 : Option W} {one two near far : Int} (h0 : 0 ≤ one) (h1 : one < 1000001) (h2 : 0 < two) (h3 : two < 1000001) : ex cs cf false bBack2 [x0, x1, some (.v (.int one)), some (.v (.int two)), some (.v (.int near)), some (.v (.int far)), z6] =
    .nx [x0, x1, some (.v (.int two)), some (.v (.int (one % two))), some (.v (.int far)), some (.v (.int (near - one / two * far))), some (.v (.int (one / two)))] := by
  obtain ⟨d0, d1⟩ := div_le h0 h2
  have e : one % two = one - one / two * two := by
    have := Int.mul_ediv_add_emod one two
    rw [Int.mul_comm] at this
    omega
  rw [e]
  unfold bBack2
  refine x_cons (x_asgF (v_bin (v_var rfl) (v_var rfl) (o_divS h2 (by omega))) rfl) (x_cons (x_tgt (v_tup (v_cons (v_var rfl) (v_cons (v_bin (v_var rfl) (v_bin (v_var rfl) (v_var rfl) (o_mulL ?_)) (o_sub _ _)) (v_cons (v_var rfl) (v_cons (v_bin (v_var rfl) (v_bin (v_var rfl) (v_var rfl) (o_mulL ?_)) (o_sub _ _)) v_nil)))) (siz (show 4 ≤ 1000 by decide))) rfl) x_nil)
  · omega
  · omega
theorem back_loop {x0 x1 : Option W} : ∀ (N : Nat) (one two near far : Int) (z6 : Option W) (M : Nat), 0 ≤ two → two < N → two < 1000001 → 0 ≤ one → one < 1000001 → N ≤ M → ∃ y2 y3 y5 y6,
    whlL (fun e1 => ev cs cf (.cmp .NotEq (.var 3) (.int 0)) e1) (fun e1 => ex cs cf false bBack e1) M [x0, x1, some (.v (.int one)), some (.v (.int two)), some (.v (.int near)), some (.v (.int far)), z6] = .nx [x0, x1, y2, y3, some (.v (.int (backF N one two near far))), y5, y6]
  | 0, one, two, near, far, z6, M, h0, h1, _, _, _, _ => by omega
  | N + 1, one, two, near, far, z6, M, h0, h1, h1', h2, h3, hM => by
    obtain ⟨M, rfl⟩ : ∃ j, M = j + 1 := ⟨M - 1, by omega⟩
    have ht : ev cs cf (.cmp .NotEq (.var 3) (.int 0)) [x0, x1, some (.v (.int one)), some (.v (.int two)), some (.v (.int near)), some (.v (.int far)), z6] = .ok (.v (.bool (!decide (two = 0)))) [x0, x1, some (.v (.int one)), some (.v (.int two)), some (.v (.int near)), some (.v (.int far)), z6] := v_cmp (v_var rfl) v_int (c_ne _ _)
    unfold backF
    by_cases hz : two = 0
    · rw [if_pos hz]
      rw [decide_eq_true hz] at ht
      exact ⟨_, _, _, _, wh_F ht⟩
    · rw [if_neg hz]
      rw [decide_eq_false hz] at ht
      have m0 := Int.emod_nonneg one hz
      have m1 := Int.emod_lt_of_pos one (show 0 < two by omega)
      obtain ⟨y2, y3, y5, y6, g⟩ := back_loop N two (one % two) far (near - one / two * far) (some (.v (.int (one / two)))) M m0 (by omega) (by omega) (by omega) h1' (by omega)
      refine ⟨y2, y3, y5, y6, ?_⟩
      rw [wh_T ht (back_turn h2 h3 (by omega) h1')]
      exact g
theorem back_loop2 {x0 x1 : Option W} : ∀ (N : Nat) (one two near far : Int) (z6 : Option W) (M : Nat), 0 ≤ two → two < N → two < 1000001 → 0 ≤ one → one < 1000001 → N ≤ M → ∃ y2 y3 y5 y6,
    whlL (fun e1 => ev cs cf (.cmp .Gt (.var 3) (.int 0)) e1) (fun e1 => ex cs cf false bBack2 e1) M [x0, x1, some (.v (.int one)), some (.v (.int two)), some (.v (.int near)), some (.v (.int far)), z6] = .nx [x0, x1, y2, y3, some (.v (.int (backF N one two near far))), y5, y6]
  | 0, one, two, near, far, z6, M, h0, h1, _, _, _, _ => by omega
  | N + 1, one, two, near, far, z6, M, h0, h1, h1', h2, h3, hM => by
    obtain ⟨M, rfl⟩ : ∃ j, M = j + 1 := ⟨M - 1, by omega⟩
    have ht : ev cs cf (.cmp .Gt (.var 3) (.int 0)) [x0, x1, some (.v (.int one)), some (.v (.int two)), some (.v (.int near)), some (.v (.int far)), z6] = .ok (.v (.bool (decide (0 < two)))) [x0, x1, some (.v (.int one)), some (.v (.int two)), some (.v (.int near)), some (.v (.int far)), z6] := v_cmp (v_var rfl) v_int (c_gt _ _)
    unfold backF
    by_cases hz : two = 0
    · rw [if_pos hz]
      rw [decide_eq_false (by omega)] at ht
      exact ⟨_, _, _, _, wh_F ht⟩
    · rw [if_neg hz]
      rw [decide_eq_true (by omega)] at ht
      have m0 := Int.emod_nonneg one hz
      have m1 := Int.emod_lt_of_pos one (show 0 < two by omega)
      obtain ⟨y2, y3, y5, y6, g⟩ := back_loop2 N two (one % two) far (near - one / two * far) (some (.v (.int (one / two)))) M m0 (by omega) (by omega) (by omega) h1' (by omega)
      refine ⟨y2, y3, y5, y6, ?_⟩
      rw [wh_T ht (back_turn2 h2 h3 (by omega) h1')]
      exact g
theorem backL_ok {n b : Int} (h : 0 < b) (h' : b ≤ 1000000) : finF false (ex cs cf false bBackL [some (.v (.int n)), some (.v (.int b)), none, none, none, none, none]) = .ok (.v (.int (Bk n b))) none := by
  have m0 := Int.emod_nonneg n (show b ≠ 0 by omega)
  have m1 := Int.emod_lt_of_pos n h
  obtain ⟨y2, y3, y5, y6, g⟩ := back_loop (cs := cs) (cf := cf) (x0 := some (.v (.int n))) (x1 := some (.v (.int b))) (b.toNat + 1) (n % b) b 1 0 none most (by omega) (by omega) (by omega) m0 (by omega) (by unfold most; omega)
  have : ex cs cf false bBackL [some (.v (.int n)), some (.v (.int b)), none, none, none, none, none] = .ret (.v (.int (Bk n b))) [some (.v (.int n)), some (.v (.int b)), y2, y3, some (.v (.int (backF (b.toNat + 1) (n % b) b 1 0))), y5, y6] := by
    unfold bBackL
    exact x_cons (x_tgt (v_tup (v_cons (v_bin (v_var rfl) (v_var rfl) (o_mod h)) (v_cons (v_var rfl) (v_cons v_int (v_cons v_int v_nil)))) (siz (show 4 ≤ 1000 by decide))) rfl) (x_cons (x_whl g) (x_consR (x_ret (v_bin (v_var rfl) (v_var rfl) (o_mod h)))))
  rw [this]
  rfl
theorem backP_ok {n b : Int} (h : 0 < b) (h' : b ≤ 1000000) : finF false (ex cs cf false bBackP [some (.v (.int n)), some (.v (.int b)), none, none, none, none, none]) = .ok (.v (.int (Bk n b))) none := by
  have m0 := Int.emod_nonneg n (show b ≠ 0 by omega)
  have m1 := Int.emod_lt_of_pos n h
  obtain ⟨y2, y3, y5, y6, g⟩ := back_loop2 (cs := cs) (cf := cf) (x0 := some (.v (.int n))) (x1 := some (.v (.int b))) (b.toNat + 1) (n % b) b 1 0 none most (by omega) (by omega) (by omega) m0 (by omega) (by unfold most; omega)
  have : ex cs cf false bBackP [some (.v (.int n)), some (.v (.int b)), none, none, none, none, none] = .ret (.v (.int (Bk n b))) [some (.v (.int n)), some (.v (.int b)), y2, y3, some (.v (.int (backF (b.toNat + 1) (n % b) b 1 0))), y5, y6] := by
    unfold bBackP
    exact x_cons (x_tgt (v_tup (v_cons (v_bin (v_var rfl) (v_var rfl) (o_mod h)) (v_cons (v_var rfl) (v_cons v_int (v_cons v_int v_nil)))) (siz (show 4 ≤ 1000 by decide))) rfl) (x_cons (x_whl g) (x_consR (x_ret (v_bin (v_var rfl) (v_var rfl) (o_mod h)))))
  rw [this]
  rfl
end
/-- the back is a back -/
theorem backF_inv (n b : Int) : ∀ (N : Nat) (one two near far k1 k2 : Int), 0 ≤ two → two < N → 0 ≤ one → Int.gcd one two = 1 → one = near * n + k1 * b → two = far * n + k2 * b → ∃ k, 1 = backF N one two near far * n + k * b
  | 0, one, two, near, far, k1, k2, h0, h1, _, _, _, _ => by omega
  | N + 1, one, two, near, far, k1, k2, h0, h1, h2, hg, e1, e2 => by
    unfold backF
    by_cases hz : two = 0
    · rw [if_pos hz]
      rw [hz, Int.gcd_zero] at hg
      exact ⟨k1, by rw [← e1]; omega⟩
    · rw [if_neg hz]
      have m0 := Int.emod_nonneg one hz
      have m1 := Int.emod_lt_of_pos one (show 0 < two by omega)
      refine backF_inv n b N two (one % two) far (near - one / two * far) k2 (k1 - one / two * k2) m0 (by omega) h0 (by rw [gcd_emod]; exact hg) e2 ?_
      have e3 : two * (one / two) + one % two = one := Int.mul_ediv_add_emod one two
      have e4 : one % two = one - two * (one / two) := by omega
      rw [e4]
      generalize one / two = t
      rw [e1, e2]
      grind
theorem Bk_lt {n b : Int} (h : 0 < b) : 0 ≤ Bk n b ∧ Bk n b < b := ⟨Int.emod_nonneg _ (by omega), Int.emod_lt_of_pos _ h⟩
theorem Bk_inv {n b : Int} (h : 0 < b) (hg : Int.gcd n b = 1) : n * Bk n b % b = 1 % b := by
  have e3 : b * (n / b) + n % b = n := Int.mul_ediv_add_emod n b
  obtain ⟨k, hk⟩ := backF_inv n b (b.toNat + 1) (n % b) b 1 0 (-(n / b)) 1 (by omega) (by omega) (Int.emod_nonneg _ (by omega)) (by rw [Int.gcd_comm, gcd_emod]; exact hg) (by
    generalize n / b = t at *
    generalize n % b = r at *
    rw [← e3]; grind) (by omega)
  unfold Bk
  rw [Int.mul_emod, Int.emod_emod_of_dvd _ (Int.dvd_refl b), ← Int.mul_emod]
  generalize backF (b.toNat + 1) (n % b) b 1 0 = x at *
  have e4 : n * x = 1 + b * (-k) := by grind
  rw [e4, Int.add_mul_emod_self_left]
/-- it is the only one -/
theorem Bk_gcd {n b : Int} (h : 1 < b) (hg : Int.gcd n b = 1) : Int.gcd (Bk n b) b = 1 := by
  have e := Bk_inv (by omega) hg
  have e3 : b * (n * Bk n b / b) + n * Bk n b % b = n * Bk n b := Int.mul_ediv_add_emod _ b
  rw [e, Int.emod_eq_of_lt (by omega) h] at e3
  have d1 : (Int.gcd (Bk n b) b : Int) ∣ Bk n b := Int.gcd_dvd_left _ _
  have d2 : (Int.gcd (Bk n b) b : Int) ∣ b := Int.gcd_dvd_right _ _
  have d3 : (Int.gcd (Bk n b) b : Int) ∣ 1 := by
    have e5 : 1 = Bk n b * n - b * (n * Bk n b / b) := by rw [Int.mul_comm (Bk n b) n]; omega
    rw [e5]
    exact Int.dvd_sub (Int.dvd_trans d1 (Int.dvd_mul_right _ _)) (Int.dvd_trans d2 (Int.dvd_mul_right _ _))
  have := Int.eq_one_of_dvd_one (by omega) d3
  omega
/-! ### what is laid, told by fit -/
theorem fit_can : ∀ (k : Nat) (d : PyData), fit k d = true → d.canLay0 = true ∧ d.depth ≤ k
  | 0, _, h => (Bool.false_ne_true h).elim
  | k + 1, d, h => by
    have seq : ∀ ds : List PyData, ds.all (fit k) = true → PyData.canLayAll0 ds = true ∧ PyData.depthAll ds ≤ k := by
      intro ds
      induction ds with
      | nil => exact fun _ => ⟨by unfold PyData.canLayAll0; rfl, by unfold PyData.depthAll; omega⟩
      | cons x r ih =>
        intro ha
        rw [List.all_cons, Bool.and_eq_true] at ha
        obtain ⟨a1, a2⟩ := fit_can k x ha.1
        obtain ⟨b1, b2⟩ := ih ha.2
        refine ⟨?_, ?_⟩
        · unfold PyData.canLayAll0
          rw [a1, b1]; rfl
        · unfold PyData.depthAll
          omega
    cases d with
    | none => exact ⟨by unfold PyData.canLay0; rfl, by unfold PyData.depth; omega⟩
    | bool b => exact ⟨by unfold PyData.canLay0; rfl, by unfold PyData.depth; omega⟩
    | int i => exact ⟨by unfold PyData.canLay0; rfl, by unfold PyData.depth; omega⟩
    | str z => exact ⟨SeqAt.canLay_of_shaped h, by unfold PyData.depth; omega⟩
    | list ds =>
      have hf : (decide (ds.length ≤ 1000) && ds.all (fit k)) = true := h
      rw [Bool.and_eq_true] at hf
      obtain ⟨a, b⟩ := seq ds hf.2
      exact ⟨by unfold PyData.canLay0; exact a, by unfold PyData.depth; omega⟩
    | tuple ds =>
      have hf : (decide (ds.length ≤ 1000) && ds.all (fit k)) = true := h
      rw [Bool.and_eq_true] at hf
      obtain ⟨a, b⟩ := seq ds hf.2
      exact ⟨by unfold PyData.canLay0; exact a, by unfold PyData.depth; omega⟩
    | dict _ => exact (Bool.false_ne_true h).elim
theorem fit_sh {k : Nat} {d : PyData} (h : fit k d = true) (hk : k ≤ 64) : SeqAt.shaped d = true := by
  obtain ⟨a, b⟩ := fit_can k d h
  unfold SeqAt.shaped
  rw [a, decide_eq_true (Nat.le_trans b hk)]; rfl
theorem fl {k : Nat} {ds : List PyData} (h1 : decide (ds.length ≤ 1000) = true) (h2 : ds.all (fit k) = true) : fit (k + 1) (.list ds) = true := by
  show (decide (ds.length ≤ 1000) && ds.all (fit k)) = true
  rw [h1, h2]
  rfl
theorem ft {k : Nat} {ds : List PyData} (h1 : decide (ds.length ≤ 1000) = true) (h2 : ds.all (fit k) = true) : fit (k + 1) (.tuple ds) = true := by
  show (decide (ds.length ≤ 1000) && ds.all (fit k)) = true
  rw [h1, h2]
  rfl
theorem al_nil {k : Nat} : ([] : List PyData).all (fit k) = true := rfl
theorem al_cons {k : Nat} {d : PyData} {ds : List PyData} (h1 : fit k d = true) (h2 : ds.all (fit k) = true) : (d :: ds).all (fit k) = true := by
  rw [List.all_cons, h1, h2]
  rfl
theorem al_map {α : Type} {k : Nat} {f : α → PyData} {L : List α} (h : ∀ x ∈ L, fit k (f x) = true) : (L.map f).all (fit k) = true := by
  rw [List.all_eq_true]
  intro d hd
  rw [List.mem_map] at hd
  obtain ⟨x, hx, rfl⟩ := hd
  exact h x hx
theorem fit_ints {k : Nat} {L : List Int} (h : L.length ≤ 1000) : fit (k + 2) (.list (L.map PyData.int)) = true := fl (by rw [List.length_map]; exact decide_eq_true h) (al_map fun _ _ => rfl)
theorem shN {k : Nat} : fit (k + 1) (.str "none") = true := show SeqAt.shaped (.str "none") = true by decide +kernel
theorem shM {k : Nat} : fit (k + 1) (.str "many") = true := show SeqAt.shaped (.str "many") = true by decide +kernel
theorem shU {k : Nat} : fit (k + 1) (.str "unfit") = true := show SeqAt.shaped (.str "unfit") = true by decide +kernel
theorem eqv_nil (ds : List PyData) : PyData.eqv (.list ds) (.list []) = ds.isEmpty := by
  unfold PyData.eqv
  cases ds <;> (unfold PyData.eqvAll; rfl)
theorem eqv_pair (a b c d : Int) : PyData.eqv (.tuple [.int a, .int b]) (.tuple [.int c, .int d]) = (a == c && b == d) := by
  simp [PyData.eqv, PyData.eqvAll]
theorem eq_nil {k : Nat} {ds : List PyData} (h : fit k (.list ds) = true) (hk : k ≤ 64) : opC .Eq (.list ds) (.list []) = some ds.isEmpty := by
  show (if SeqAt.shaped (.list ds) = true ∧ SeqAt.shaped (.list []) = true then some (PyData.eqv (.list ds) (.list [])) else none) = _
  rw [if_pos ⟨fit_sh h hk, by decide +kernel⟩, eqv_nil]
theorem ne_nil {k : Nat} {ds : List PyData} (h : fit k (.list ds) = true) (hk : k ≤ 64) : opC .NotEq (.list ds) (.list []) = some (!ds.isEmpty) := by
  show (opC .Eq (.list ds) (.list [])).map (!·) = _
  rw [eq_nil h hk]; rfl
end TD

set_option maxHeartbeats 1000000
namespace TD
open PySem PySem.Spec PyProof.Rows L2
local macro_rules | `(tactic| walk_at "td op") => `(tactic| first | with_reducible exact o_add _ _ | with_reducible exact o_sub _ _ | with_reducible exact c_eq _ _ | with_reducible exact c_ne _ _ | with_reducible exact c_lt _ _ | with_reducible exact c_le _ _ | with_reducible exact c_gt _ _ | with_reducible exact c_ge _ _ | (with_reducible apply o_mulR; omega) | (with_reducible apply o_mulL; omega) | (with_reducible apply o_divS <;> omega) | (with_reducible apply o_mod; omega) | with_reducible exact n_int _ | with_reducible exact n_abs _ | with_reducible exact n_gcd _ _ | (with_reducible apply siz; simp; done) | assumption | rfl)
local macro_rules | `(tactic| walk_at "td s") => `(tactic| (repeat' (first | with_reducible exact x_nil | (with_reducible apply x_consR; with_reducible apply x_ret) | (with_reducible apply x_cons; with_reducible apply x_asgT) | (with_reducible apply x_cons; with_reducible apply x_asgF) | (with_reducible apply x_cons; with_reducible apply x_setI) | (with_reducible apply x_cons; with_reducible apply x_tgt) | (with_reducible apply x_cons; with_reducible apply x_par2) | (with_reducible apply x_cons; with_reducible apply x_par3) | (with_reducible apply x_cons; with_reducible apply x_app) | with_reducible exact v_int | with_reducible exact v_str | with_reducible exact v_bl | with_reducible exact v_non | with_reducible exact v_nil | exact v_var rfl | exact v_mv rfl | exact v_mvO rfl | exact v_glb rfl | with_reducible apply v_bin | with_reducible apply v_neg | with_reducible apply v_cmp | with_reducible apply v_chn | with_reducible apply v_one | with_reducible apply v_not | with_reducible apply v_cons | with_reducible apply v_tup | with_reducible apply v_lst | with_reducible apply v_ix | (with_reducible apply v_ixV; rfl) | (with_reducible apply v_ixO; rfl) | (with_reducible apply v_lenV; rfl) | (with_reducible exact v_lenO (by rfl)) | with_reducible apply v_bi | with_reducible apply v_isi | (with_reducible apply v_call) | walk_at "td op")))
def isNum : PyData → Bool
  | .int _ => true
  | _ => false
section
variable {cs : List PyData} {cf : CF}
def bNum : S := (.cons (.ret (.and (.isi (.var 0) [.int]) (.one (.not (.isi (.var 0) [.bool]))))) .nil)
theorem num_ok (d : PyData) : finF false (ex cs cf false bNum [some (.v d)]) = .ok (.v (.bool (isNum d))) none := by
  cases d <;> rfl
def bWithin (i : Nat) : S := (.cons (.ret (.and (.call i (.cons (.var 0) .nil)) (.one (.chn .LtE .LtE (.var 1) (.var 0) (.var 2))))) .nil)
theorem within_ok {i : Nat} (x a b : Int) (h : cf i [.v (.int x)] = .ok (.v (.bool true)) none) : finF false (ex cs cf false (bWithin i) [some (.v (.int x)), some (.v (.int a)), some (.v (.int b))]) = .ok (.v (.bool (decide (a ≤ x) && decide (x ≤ b)))) none := by
  have : ex cs cf false (bWithin i) [some (.v (.int x)), some (.v (.int a)), some (.v (.int b))] = .ret (.v (.bool (decide (a ≤ x) && decide (x ≤ b)))) [some (.v (.int x)), some (.v (.int a)), some (.v (.int b))] := by
    unfold bWithin
    exact x_consR (x_ret (v_andT (v_call (v_cons (v_var rfl) v_nil) h) (v_one (v_chn (v_var rfl) (v_var rfl) (c_le _ _) (v_var rfl) (c_le _ _)))))
  rw [this]
  rfl
theorem within_no {i : Nat} (d : PyData) (a b : Int) (h : cf i [.v d] = .ok (.v (.bool false)) none) : finF false (ex cs cf false (bWithin i) [some (.v d), some (.v (.int a)), some (.v (.int b))]) = .ok (.v (.bool false)) none := by
  have : ex cs cf false (bWithin i) [some (.v d), some (.v (.int a)), some (.v (.int b))] = .ret (.v (.bool false)) [some (.v d), some (.v (.int a)), some (.v (.int b))] := by
    unfold bWithin
    exact x_consR (x_ret (v_andF (v_call (v_cons (v_var rfl) v_nil) h)))
  rw [this]
  rfl
def bLong : S := (.cons (.ret (.and (.isi (.var 0) [.tuple]) (.one (.cmp .Eq (.lenV 0) (.var 1))))) .nil)
def isTup : PyData → Bool
  | .tuple _ => true
  | _ => false
theorem long_ok (ds : List PyData) (n : Int) : finF false (ex cs cf false bLong [some (.v (.tuple ds)), some (.v (.int n))]) = .ok (.v (.bool (decide ((ds.length : Int) = n)))) none := by
  have : ex cs cf false bLong [some (.v (.tuple ds)), some (.v (.int n))] = .ret (.v (.bool (decide ((ds.length : Int) = n)))) [some (.v (.tuple ds)), some (.v (.int n))] := by
    unfold bLong
    exact x_consR (x_ret (v_andT (v_isi (v_var rfl) rfl) (v_one (v_cmp (v_lenV rfl rfl) (v_var rfl) (c_eq _ _)))))
  rw [this]
  rfl
theorem long_no (d : PyData) (n : Int) (h : isTup d = false) : finF false (ex cs cf false bLong [some (.v d), some (.v (.int n))]) = .ok (.v (.bool false)) none := by
  have : ex cs cf false bLong [some (.v d), some (.v (.int n))] = .ret (.v (.bool false)) [some (.v d), some (.v (.int n))] := by
    unfold bLong
    refine x_consR (x_ret (v_andF (v_isi (v_var rfl) ?_)))
    cases d <;> first | rfl | exact (Bool.false_ne_true h.symm).elim
  rw [this]
  rfl
/-! ### tupled -/
def tupK : Nat → PyData → PyData
  | 0, d => d
  | k + 1, .list ds => .tuple (ds.map (tupK k))
  | k + 1, .tuple ds => .tuple (ds.map (tupK k))
  | _ + 1, d => d
def bTupled (i : Nat) : S := (.cons (.ret (.ite (.isi (.var 0) [.list, .tuple]) (.bi .tupleOf (.cons (.comp [1] (.n 1) (.one (.var 0)) (.bl true) (.call i (.cons (.var 1) .nil))) .nil)) (.var 0))) .nil)
theorem tupled_body {i k : Nat} (hc : ∀ d, fit k d = true → cf i [.v d] = .ok (.v (tupK k d)) none) (d : PyData) (hf : fit (k + 1) d = true) :
    finF false (ex cs cf false (bTupled i) [some (.v d), none]) = .ok (.v (tupK (k + 1) d)) none := by
  have go : ex cs cf false (bTupled i) [some (.v d), none] = .ret (.v (tupK (k + 1) d)) [some (.v d), none] := by
    have seq : ∀ ds : List PyData, (d = .list ds ∨ d = .tuple ds) → (decide (ds.length ≤ 1000) && ds.all (fit k)) = true → ex cs cf false (bTupled i) [some (.v d), none] = .ret (.v (.tuple (ds.map (tupK k)))) [some (.v d), none] := by
      intro ds hd hf
      rw [Bool.and_eq_true, decide_eq_true_eq, List.all_eq_true] at hf
      have hs : seqOf (W.v d).val = some ds := by rcases hd with rfl | rfl <;> rfl
      have hcmp := v_comp (cs := cs) (cf := cf) (src := .one (.var 0)) (c := .bl true) (el := .call i (.cons (.var 1) .nil)) (t := .n 1) (vs := [1]) (e := [some (.v d), none]) (e1 := [some (.v d), none]) (w := .v d) (ds := ds) (g := fun x => some (tupK k x)) (v_one (v_var rfl)) hs (by omega) (fun x hx => fQ_T (e3 := [some (.v d), some (.v x)]) (w := .v (tupK k x)) (e5 := [some (.v d), some (.v x)]) rfl v_bl (v_call (v_cons (v_var rfl) v_nil) (hc x (hf.2 x hx))) rfl)
      have e : ds.filterMap (fun x => some (tupK k x)) = ds.map (tupK k) := by
        rw [List.filterMap_eq_map']
      rw [e] at hcmp
      unfold bTupled
      refine x_consR (x_ret (v_iteT (v_isi (v_var rfl) ?_) (v_bi (v_cons hcmp v_nil) rfl)))
      rcases hd with rfl | rfl <;> rfl
    cases d with
    | list ds => exact seq ds (.inl rfl) hf
    | tuple ds => exact seq ds (.inr rfl) hf
    | dict _ => exact (Bool.false_ne_true hf).elim
    | none => rfl
    | bool _ => rfl
    | int _ => rfl
    | str _ => rfl
  rw [go]
  rfl
/-! ### lenses -/
def lensB (a b : Int) : Bool := (decide (0 ≤ a) && decide (a ≤ 1000000)) && (if a < 2 then decide (b = 1 - a) else (decide (1 ≤ b) && decide (b < a)) && decide ((Int.gcd a b : Int) = 1))
def bLens (l u g : Nat) : S := (.cons (.ite (.or (.not (.call l (.cons (.var 0) (.cons (.int 2) .nil)))) (.or (.not (.bi .all (.cons (.comp [1] (.n 1) (.one (.var 0)) (.bl true) (.call u (.cons (.var 1) .nil))) .nil))) (.one (.not (.chn .LtE .LtE (.int 0) (.ixV 0 (.int 0)) (.glb g)))))) (.cons (.ret (.bl false))
    .nil) .nil)
    (.cons (.ite (.cmp .Lt (.ixV 0 (.int 0)) (.int 2)) (.cons (.ret (.cmp .Eq (.ixV 0 (.int 1)) (.bin .Sub (.int 1) (.ixV 0 (.int 0)))))
    .nil) .nil)
    (.cons (.ret (.and (.chn .LtE .Lt (.int 1) (.ixV 0 (.int 1)) (.ixV 0 (.int 0))) (.one (.cmp .Eq (.bi .gcd (.cons (.ixV 0 (.int 0)) (.cons (.ixV 0 (.int 1)) .nil))) (.int 1)))))
    .nil)))
theorem n_gcd' (i j : Int) : opBi .gcd [.int i, .int j] = some (.v (.int (Int.gcd i j : Int))) := rfl
theorem ati0 (a b : PyData) : opIx (.tuple [a, b]) (.int 0) = some a := rfl
theorem ati1 (a b : PyData) : opIx (.tuple [a, b]) (.int 1) = some b := rfl
theorem atl0 (a b : PyData) : opIx (.list [a, b]) (.int 0) = some a := rfl
theorem atl1 (a b : PyData) : opIx (.list [a, b]) (.int 1) = some b := rfl
theorem lens_ok {l u g : Nat} (a b : Int) (hl : ∀ ds, cf l [.v (.tuple ds), .v (.int 2)] = .ok (.v (.bool (decide ((ds.length : Int) = 2)))) none) (hu : ∀ d, cf u [.v d] = .ok (.v (.bool (isNum d))) none) (hg : cs[g]? = some (.int 1000000)) :
    finF false (ex cs cf false (bLens l u g) [some (.v (.tuple [.int a, .int b])), none]) = .ok (.v (.bool (lensB a b))) none := by
  have hcmp := v_comp (cs := cs) (cf := cf) (src := .one (.var 0)) (c := .bl true) (el := .call u (.cons (.var 1) .nil)) (t := .n 1) (vs := [1]) (e := [some (.v (.tuple [.int a, .int b])), none]) (e1 := [some (.v (.tuple [.int a, .int b])), none]) (w := .v (.tuple [.int a, .int b])) (ds := [.int a, .int b]) (g := fun x => some (.bool (isNum x))) (v_one (v_var rfl)) rfl (by simp) (fun x hx => fQ_T (e3 := [some (.v (.tuple [.int a, .int b])), some (.v x)]) (w := .v (.bool (isNum x))) (e5 := [some (.v (.tuple [.int a, .int b])), some (.v x)]) rfl v_bl (v_call (v_cons (v_var rfl) v_nil) (hu x)) rfl)
  have h1 : ev cs cf (.not (.call l (.cons (.var 0) (.cons (.int 2) .nil)))) [some (.v (.tuple [.int a, .int b])), none] = .ok (.v (.bool false)) [some (.v (.tuple [.int a, .int b])), none] := v_not (p := true) (v_call (v_cons (v_var rfl) (v_cons v_int v_nil)) (hl _))
  have h2 : ev cs cf (.not (.bi .all (.cons (.comp [1] (.n 1) (.one (.var 0)) (.bl true) (.call u (.cons (.var 1) .nil))) .nil))) [some (.v (.tuple [.int a, .int b])), none] = .ok (.v (.bool false)) [some (.v (.tuple [.int a, .int b])), none] := v_not (p := true) (v_bi (v_cons hcmp v_nil) rfl)
  have h3 : ev cs cf (.not (.chn .LtE .LtE (.int 0) (.ixV 0 (.int 0)) (.glb g))) [some (.v (.tuple [.int a, .int b])), none] = .ok (.v (.bool (!(decide (0 ≤ a) && decide (a ≤ 1000000))))) [some (.v (.tuple [.int a, .int b])), none] := v_not (v_chn v_int (v_ixV rfl v_int (ati0 _ _)) (c_le _ _) (v_glb hg) (c_le _ _))
  have h4 : ev cs cf (.cmp .Lt (.ixV 0 (.int 0)) (.int 2)) [some (.v (.tuple [.int a, .int b])), none] = .ok (.v (.bool (decide (a < 2)))) [some (.v (.tuple [.int a, .int b])), none] := v_cmp (v_ixV rfl v_int (ati0 _ _)) v_int (c_lt _ _)
  have : ex cs cf false (bLens l u g) [some (.v (.tuple [.int a, .int b])), none] = .ret (.v (.bool (lensB a b))) [some (.v (.tuple [.int a, .int b])), none] := by
    unfold bLens lensB
    by_cases k1 : 0 ≤ a ∧ a ≤ 1000000
    · rw [decide_eq_true k1.1, decide_eq_true k1.2] at h3 ⊢
      refine x_cons (x_iteF (v_orF h1 (v_orF h2 (v_one h3))) x_nil) ?_
      by_cases k2 : a < 2
      · rw [decide_eq_true k2] at h4
        rw [if_pos k2]
        exact x_consR (x_iteT h4 (x_consR (x_ret (v_cmp (v_ixV rfl v_int (ati1 _ _)) (v_bin v_int (v_ixV rfl v_int (ati0 _ _)) (o_sub _ _)) (c_eq _ _)))))
      · rw [decide_eq_false k2] at h4
        rw [if_neg k2]
        have h5 : ev cs cf (.chn .LtE .Lt (.int 1) (.ixV 0 (.int 1)) (.ixV 0 (.int 0))) [some (.v (.tuple [.int a, .int b])), none] = .ok (.v (.bool (decide (1 ≤ b) && decide (b < a)))) [some (.v (.tuple [.int a, .int b])), none] := v_chn v_int (v_ixV rfl v_int (ati1 _ _)) (c_le _ _) (v_ixV rfl v_int (ati0 _ _)) (c_lt _ _)
        have h6 : ev cs cf (.cmp .Eq (.bi .gcd (.cons (.ixV 0 (.int 0)) (.cons (.ixV 0 (.int 1)) .nil))) (.int 1)) [some (.v (.tuple [.int a, .int b])), none] = .ok (.v (.bool (decide ((Int.gcd a b : Int) = 1)))) [some (.v (.tuple [.int a, .int b])), none] := v_cmp (v_bi (v_cons (v_ixV rfl v_int (ati0 _ _)) (v_cons (v_ixV rfl v_int (ati1 _ _)) v_nil)) (n_gcd' _ _)) v_int (c_eq _ _)
        rw [show ((true && true) : Bool) = true from rfl, Bool.true_and]
        exact x_cons (x_iteF h4 x_nil) (x_consR (x_ret (v_and h5 (v_one h6))))
    · have e : (decide (0 ≤ a) && decide (a ≤ 1000000)) = false := by
        rw [Bool.and_eq_false_iff, decide_eq_false_iff_not, decide_eq_false_iff_not]
        omega
      rw [e] at h3 ⊢
      exact x_consR (x_iteT (v_orF h1 (v_orF h2 (v_one h3))) (x_consR (x_ret v_bl)))
  rw [this]
  rfl
def bSure (t l c : Nat) : S := (.cons (.asg 1 (.call t (.cons (.var 0) .nil)) true)
    (.cons (.ite (.not (.call l (.cons (.var 1) .nil))) (.cons (.rs c .nil)
    .nil) .nil)
    (.cons (.ret (.mv 1))
    .nil)))
theorem sure_ok {t l c : Nat} {x d : PyData} (h1 : cf t [.v x] = .ok (.v d) none) (h2 : cf l [.v d] = .ok (.v (.bool true)) none) : finF false (ex cs cf false (bSure t l c) [some (.v x), none]) = .ok (.v d) none := by
  have : ex cs cf false (bSure t l c) [some (.v x), none] = .ret (.v d) [some (.v x), some (.v d)] := by
    unfold bSure
    exact x_cons (x_asgT (v_call (v_cons (v_var rfl) v_nil) h1) rfl) (x_cons (x_iteF (v_not (p := true) (v_call (v_cons (v_var rfl) v_nil) h2)) x_nil) (x_consR (x_ret (v_mv rfl))))
  rw [this]
  rfl
theorem sure_x {t l c : Nat} {x d : PyData} (h1 : cf t [.v x] = .ok (.v d) none) (h2 : cf l [.v d] = .ok (.v (.bool false)) none) : finF false (ex cs cf false (bSure t l c) [some (.v x), none]) = .exc c none none := by
  have : ex cs cf false (bSure t l c) [some (.v x), none] = .exc c none [some (.v x), some (.v d)] := by
    unfold bSure
    exact x_cons (x_asgT (v_call (v_cons (v_var rfl) v_nil) h1) rfl) (x_consX (x_iteT (v_not (p := false) (v_call (v_cons (v_var rfl) v_nil) h2)) (x_consX x_rs)))
  rw [this]
  rfl
/-! ### the law's units, and drawing -/
def unitsI (b : Int) : List Int := if 1 < b then (rangeI 1 (b - 1).toNat).filter (fun i => decide ((Int.gcd i b : Int) = 1)) else [0]
def bUnits (g : Nat) : S := (.cons (.ret (.ite (.cmp .Gt (.var 0) (.int 1)) (.comp [1] (.n 1) (.it .range2 (.cons (.int 1) (.cons (.var 0) .nil))) (.one (.cmp .Eq (.call g (.cons (.var 1) (.cons (.var 0) .nil))) (.int 1))) (.var 1)) (.lst (.cons (.int 0) .nil)))) .nil)
theorem units_ok {g : Nat} {b : Int} (hb : b ≤ 1000000) (hg : ∀ x, cf g [.v (.int x), .v (.int b)] = .ok (.v (.int (Int.gcd x b))) none) : finF false (ex cs cf false (bUnits g) [some (.v (.int b)), none]) = .ok (.own ((unitsI b).map PyData.int)) none := by
  by_cases h0 : 1 < b
  · have hc := v_compI (cs := cs) (cf := cf) (vs := [1]) (t := .n 1) (src := .it .range2 (.cons (.int 1) (.cons (.var 0) .nil))) (c := .one (.cmp .Eq (.call g (.cons (.var 1) (.cons (.var 0) .nil))) (.int 1))) (el := .var 1) (e := [some (.v (.int b)), none]) (e1 := [some (.v (.int b)), none]) (L := rangeI 1 (b - 1).toNat) (p := fun i => decide ((Int.gcd i b : Int) = 1)) (g := PyData.int)
      (v_it (v_cons v_int (v_cons (v_var rfl) v_nil)) (r2_ok (by omega) (by omega) (by omega) (by omega))) rfl (by rw [rangeI_len]; omega) (fun i _ => fQ_I (e3 := [some (.v (.int b)), some (.v (.int i))]) rfl (v_one (v_cmp (v_call (v_cons (v_var rfl) (v_cons (v_var rfl) v_nil)) (hg i)) v_int (c_eq _ _))) (fun _ => v_var rfl) rfl)
    have : ex cs cf false (bUnits g) [some (.v (.int b)), none] = .ret (.own ((unitsI b).map PyData.int)) [some (.v (.int b)), none] := by
      unfold bUnits unitsI
      rw [if_pos h0]
      exact x_consR (x_ret (v_iteT (v_as (v_cmp (v_var rfl) v_int (c_gt _ _)) (decide_eq_true h0)) hc))
    rw [this]
    rfl
  · have : ex cs cf false (bUnits g) [some (.v (.int b)), none] = .ret (.own ((unitsI b).map PyData.int)) [some (.v (.int b)), none] := by
      unfold bUnits unitsI
      rw [if_neg h0]
      exact x_consR (x_ret (v_iteF (v_as (v_cmp (v_var rfl) v_int (c_gt _ _)) (decide_eq_false h0)) (v_lst (v_cons v_int v_nil) (siz (show 1 ≤ 1000 by decide)))))
    rw [this]
    rfl
theorem mem_units {b x : Int} (h : 1 < b) : x ∈ unitsI b ↔ 1 ≤ x ∧ x < b ∧ Int.gcd x b = 1 := by
  unfold unitsI
  rw [if_pos h, List.mem_filter, mem_rangeI, decide_eq_true_eq]
  omega
theorem units_len {b : Int} (hb : b ≤ 1000000) : 0 < (unitsI b).length ∧ (unitsI b).length ≤ 1000000 := by
  by_cases h : 1 < b
  · refine ⟨List.length_pos_of_mem (a := 1) ((mem_units h).mpr ⟨by omega, h, Int.one_gcd⟩), ?_⟩
    unfold unitsI
    rw [if_pos h]
    refine Nat.le_trans (List.length_filter_le _ _) ?_
    rw [rangeI_len]
    omega
  · unfold unitsI
    rw [if_neg h]
    decide
def bOf (t : Nat) : S := (.cons (.ret (.ixV 1 (.callB t 0 (.cons (.lenV 1) .nil)))) .nil)
def TakeOk (cf : CF) (t : Nat) : Prop := ∀ a b c n : Int, 0 ≤ c → c < 1000000 → 0 < n → n < 100000000000 → ∃ r a' c', cf t [.own [.int a, .int b, .int c], .v (.int n)] = .ok (.v (.int r)) (some (.own [.int a', .int b, .int c'])) ∧ 0 ≤ r ∧ r < n ∧ c ≤ c' ∧ c' ≤ c + 1
theorem atI_nat {ds : List PyData} {k : Nat} (h : k < ds.length) : opIx (.list ds) (.int k) = some ds[k] := by
  show atI ds (k : Int) = _
  have : ixN ds.length (k : Int) = some k := by
    unfold ixN
    rw [if_pos (by omega), if_pos (by omega), Int.toNat_natCast]
  unfold atI
  rw [this]
  simp [h]
theorem of_ok {t : Nat} (hT : TakeOk cf t) {a b c : Int} {ds : List PyData} (hc : 0 ≤ c) (hc' : c < 1000000) (h0 : 0 < ds.length) (h1 : ds.length ≤ 1000000) : ∃ (d : PyData) (a' c' : Int), finF true (ex cs cf true (bOf t) [some (.own [.int a, .int b, .int c]), some (.v (.list ds))]) = .ok (.v d) (some (.own [.int a', .int b, .int c'])) ∧ d ∈ ds ∧ c ≤ c' ∧ c' ≤ c + 1 := by
  obtain ⟨r, a', c', h, r0, r1, r2, r3⟩ := hT a b c ds.length hc hc' (by omega) (by omega)
  have hr : r.toNat < ds.length := by omega
  have ix : opIx (.list ds) (.int r) = some ds[r.toNat] := by
    have := atI_nat (ds := ds) hr
    rwa [Int.toNat_of_nonneg r0] at this
  refine ⟨ds[r.toNat], a', c', ?_, List.getElem_mem hr, r2, r3⟩
  have : ex cs cf true (bOf t) [some (.own [.int a, .int b, .int c]), some (.v (.list ds))] = .ret (.v ds[r.toNat]) [some (.own [.int a', .int b, .int c']), some (.v (.list ds))] := by
    unfold bOf
    exact x_consR (x_ret (v_ixG (w1 := .v (.list ds)) (w := .v (.int r)) rfl (v_callB rfl (v_cons (v_lenV rfl rfl) v_nil) h rfl) rfl ix))
  rw [this]
  rfl
/-! ### pairs -/
def twosD (A B : List PyData) : List PyData := A.flatMap (fun a => B.map (fun b => .tuple [a, b]))
def bTwos : S := (.cons (.asg 2 (.lst .nil) true)
    (.cons (.for_ (.n 3) (.one (.var 0)) (.cons (.ext 2 (.comp [4] (.n 4) (.one (.var 1)) (.bl true) (.tup (.cons (.var 3) (.cons (.var 4) .nil)))))
    .nil))
    (.cons (.ret (.mv 2))
    .nil)))
theorem twos_loop {x : Option W} {B : List PyData} (hB : B.length ≤ 1000) : ∀ (A acc : List PyData) (z3 : Option W), acc.length + A.length * B.length ≤ 1000000 → ∃ y3,
    forL (fun d e2 => match asT false (.n 3) d e2 with
        | some e3 => ex cs cf false (.cons (.ext 2 (.comp [4] (.n 4) (.one (.var 1)) (.bl true) (.tup (.cons (.var 3) (.cons (.var 4) .nil))))) .nil) e3
        | none => .stuck) A [x, some (.v (.list B)), some (.own acc), z3, none] = .nx [x, some (.v (.list B)), some (.own (acc ++ twosD A B)), y3, none]
  | [], acc, z3, _ => ⟨z3, by
    have : acc ++ twosD [] B = acc := by unfold twosD; simp
    rw [this]; rfl⟩
  | a :: A, acc, z3, h => by
    have hl : (a :: A).length * B.length = A.length * B.length + B.length := by rw [List.length_cons, Nat.add_mul, Nat.one_mul]
    obtain ⟨y3, g⟩ := twos_loop hB A (acc ++ B.map (fun b => .tuple [a, b])) (some (.v a)) (by rw [List.length_append, List.length_map]; omega)
    refine ⟨y3, ?_⟩
    have hc := v_comp (cs := cs) (cf := cf) (vs := [4]) (t := .n 4) (src := .one (.var 1)) (c := .bl true) (el := .tup (.cons (.var 3) (.cons (.var 4) .nil))) (e := [x, some (.v (.list B)), some (.own acc), some (.v a), none]) (e1 := [x, some (.v (.list B)), some (.own acc), some (.v a), none]) (w := .v (.list B)) (ds := B) (g := fun b => some (.tuple [a, b])) (v_one (v_var rfl)) rfl (by omega)
      (fun b _ => fQ_T (w := .v (.tuple [a, b])) (e3 := [x, some (.v (.list B)), some (.own acc), some (.v a), some (.v b)]) (e5 := [x, some (.v (.list B)), some (.own acc), some (.v a), some (.v b)]) rfl v_bl (v_tup (v_cons (v_var rfl) (v_cons (v_var rfl) v_nil)) (siz (show 2 ≤ 1000 by decide))) rfl)
    have e : B.filterMap (fun b => some (PyData.tuple [a, b])) = B.map (fun b => .tuple [a, b]) := by rw [List.filterMap_eq_map']
    rw [e] at hc
    have s : ex cs cf false (.cons (.ext 2 (.comp [4] (.n 4) (.one (.var 1)) (.bl true) (.tup (.cons (.var 3) (.cons (.var 4) .nil))))) .nil) [x, some (.v (.list B)), some (.own acc), some (.v a), none] = .nx [x, some (.v (.list B)), some (.own (acc ++ B.map (fun b => .tuple [a, b]))), some (.v a), none] :=
      x_cons (x_ext' (ds := acc) (zs := acc) rfl hc rfl rfl (siz6 (by rw [List.length_map]; omega))) x_nil
    have t : twosD (a :: A) B = B.map (fun b => .tuple [a, b]) ++ twosD A B := by unfold twosD; rw [List.flatMap_cons]
    rw [t, ← List.append_assoc]
    unfold forL
    show (match ex cs cf false _ [x, some (.v (.list B)), some (.own acc), some (.v a), none] with
      | .nx e2 => forL _ _ e2
      | .ct e2 => forL _ _ e2
      | .bk e2 => .nx e2
      | r => r) = _
    rw [s]
    exact g
theorem twos_ok {A B : List PyData} (hB : B.length ≤ 1000) (hA : A.length ≤ 1000) : finF false (ex cs cf false bTwos [some (.v (.list A)), some (.v (.list B)), none, none, none]) = .ok (.own (twosD A B)) none := by
  have hm : A.length * B.length ≤ 1000 * 1000 := Nat.mul_le_mul hA hB
  obtain ⟨y3, g⟩ := twos_loop (cs := cs) (cf := cf) (x := some (.v (.list A))) hB A [] none (by simpa using hm)
  have : ex cs cf false bTwos [some (.v (.list A)), some (.v (.list B)), none, none, none] = .ret (.own (twosD A B)) [some (.v (.list A)), some (.v (.list B)), none, y3, none] := by
    unfold bTwos
    exact x_cons (x_asgT (v_lst v_nil (siz (show 0 ≤ 1000 by decide))) rfl) (x_cons (x_for (v_one (v_var rfl)) rfl g) (x_consR (x_ret (v_mvO rfl))))
  rw [this]
  rfl
end
end TD

set_option maxHeartbeats 1000000
namespace TD
open PySem PySem.Spec PyProof.Rows L2
local macro_rules | `(tactic| walk_at "td op") => `(tactic| first | with_reducible exact o_add _ _ | with_reducible exact o_sub _ _ | with_reducible exact c_eq _ _ | with_reducible exact c_ne _ _ | with_reducible exact c_lt _ _ | with_reducible exact c_le _ _ | with_reducible exact c_gt _ _ | with_reducible exact c_ge _ _ | (with_reducible apply o_mulR; omega) | (with_reducible apply o_mulL; omega) | (with_reducible apply o_divS <;> omega) | (with_reducible apply o_mod; omega) | with_reducible exact n_int _ | with_reducible exact n_abs _ | with_reducible exact n_gcd _ _ | (with_reducible apply siz; simp; done) | assumption | rfl)
local macro_rules | `(tactic| walk_at "td s") => `(tactic| (repeat' (first | with_reducible exact x_nil | (with_reducible apply x_consR; with_reducible apply x_ret) | (with_reducible apply x_cons; with_reducible apply x_asgT) | (with_reducible apply x_cons; with_reducible apply x_asgF) | (with_reducible apply x_cons; with_reducible apply x_setI) | (with_reducible apply x_cons; with_reducible apply x_tgt) | (with_reducible apply x_cons; with_reducible apply x_par2) | (with_reducible apply x_cons; with_reducible apply x_par3) | (with_reducible apply x_cons; with_reducible apply x_app) | with_reducible exact v_int | with_reducible exact v_str | with_reducible exact v_bl | with_reducible exact v_non | with_reducible exact v_nil | exact v_var rfl | exact v_mv rfl | exact v_mvO rfl | exact v_glb rfl | with_reducible apply v_bin | with_reducible apply v_neg | with_reducible apply v_cmp | with_reducible apply v_chn | with_reducible apply v_one | with_reducible apply v_not | with_reducible apply v_cons | with_reducible apply v_tup | with_reducible apply v_lst | with_reducible apply v_ix | (with_reducible apply v_ixV; rfl) | (with_reducible apply v_ixO; rfl) | (with_reducible apply v_lenV; rfl) | (with_reducible exact v_lenO (by rfl)) | with_reducible apply v_bi | with_reducible apply v_isi | (with_reducible apply v_call) | walk_at "td op")))
abbrev Tn (a b c : Int) : Option W := some (.own [.int a, .int b, .int c])
abbrev vi (i : Int) : Option W := some (.v (.int i))
abbrev vd (d : PyData) : Option W := some (.v d)
section
variable {cs : List PyData} {cf : CF} {e e1 : En} {src c el : E} {w : W}
theorem loopC_map {α : Type} {F : PyData → En → Rs (Option PyData)} {f : α → PyData} {g : α → Option PyData} {e0 : En} : ∀ L : List α, (∀ a ∈ L, F (f a) e0 = .ok (g a) e0) → loopC F (L.map f) e0 = .ok (L.filterMap g) e0
  | [], _ => rfl
  | a :: L, h => by
    rw [List.map_cons]
    unfold loopC
    rw [h a (by simp)]
    show (match loopC F (L.map f) e0 with
      | .ok r e2 => Rs.ok (match g a with | some x => x :: r | none => r) e2
      | r => r) = _
    rw [loopC_map L (fun x hx => h x (by simp [hx])), List.filterMap_cons]
    cases g a <;> rfl
theorem filterMap_if {α : Type} (p : α → Bool) (g : α → PyData) : ∀ L : List α, L.filterMap (fun a => if p a = true then some (g a) else none) = (L.filter p).map g
  | [] => rfl
  | a :: L => by
    rw [List.filterMap_cons, List.filter_cons, filterMap_if p g L]
    cases h : p a
    · simp [h]
    · simp [h]
/-- a comprehension over the data f of the list L -/
theorem v_compG {α : Type} {vs : List Nat} {t : T} {f : α → PyData} {L : List α} {p : α → Bool} {g : α → PyData} (h : ev cs cf src e = .ok w e1) (h1 : seqOf w.val = some (L.map f)) (hz : L.length ≤ 1000000) (hb : ∀ a ∈ L, fQ cs cf vs t c el (f a) (wipeE e1 vs) = .ok (if p a = true then some (g a) else none) (wipeE e1 vs)) :
    ev cs cf (.comp vs t src c el) e = .ok (.own ((L.filter p).map g)) (backE e1 (wipeE e1 vs) vs) := by
  rw [ev_comp, h]
  show (match seqOf w.val with
    | some ds => (match loopC (fQ cs cf vs t c el) ds (wipeE e1 vs) with
      | .ok r e2 => if r.length ≤ sizeLine then Rs.ok (W.own r) (backE e1 e2 vs) else .stuck
      | _ => .stuck)
    | none => .stuck) = _
  rw [h1]
  show (match loopC (fQ cs cf vs t c el) (L.map f) (wipeE e1 vs) with
      | .ok r e2 => if r.length ≤ sizeLine then Rs.ok (W.own r) (backE e1 e2 vs) else .stuck
      | _ => .stuck) = _
  rw [loopC_map (g := fun a => if p a = true then some (g a) else none) L hb, filterMap_if]
  have : ((L.filter p).map g).length ≤ sizeLine := siz6 (by rw [List.length_map]; exact Nat.le_trans (List.length_filter_le p L) hz)
  show (if ((L.filter p).map g).length ≤ sizeLine then _ else _) = _
  rw [if_pos this]
/-- the same without an if -/
theorem v_compM {α : Type} {vs : List Nat} {t : T} {f : α → PyData} {L : List α} {g : α → PyData} (h : ev cs cf src e = .ok w e1) (h1 : seqOf w.val = some (L.map f)) (hz : L.length ≤ 1000000) (hb : ∀ a ∈ L, fQ cs cf vs t c el (f a) (wipeE e1 vs) = .ok (some (g a)) (wipeE e1 vs)) :
    ev cs cf (.comp vs t src c el) e = .ok (.own (L.map g)) (backE e1 (wipeE e1 vs) vs) := by
  have := v_compG (p := fun _ => true) (g := g) h h1 hz (fun a ha => by rw [hb a ha]; rfl)
  rw [List.filter_eq_self.mpr (fun _ _ => rfl)] at this
  exact this
theorem bools_map {α : Type} (p : α → Bool) : ∀ L : List α, boolsOf (L.map (fun a => PyData.bool (p a))) = some (L.map p)
  | [] => rfl
  | a :: L => by
    show (boolsOf (L.map (fun a => PyData.bool (p a)))).map (p a :: ·) = _
    rw [bools_map p L]
    rfl
theorem n_all {α : Type} (p : α → Bool) (L : List α) : opBi .all [.list (L.map (fun a => PyData.bool (p a)))] = some (.v (.bool (L.all p))) := by
  show (boolsOf (L.map (fun a => PyData.bool (p a)))).map (fun bs => W.v (.bool (bs.all id))) = _
  rw [bools_map]
  show some (W.v (.bool ((L.map p).all id))) = _
  rw [List.all_map]
  rfl
theorem same_tower {fns : List Fn} {i : Nat} (hB : ∀ (k : Nat) (d : PyData), evF cs fns (k + 1) i [.v d, .v d] = finF false (ex cs (evF cs fns k) false (bSame i) [some (.v d), some (.v d), none, none])) : ∀ (k : Nat) (d : PyData), fit k d = true → evF cs fns k i [.v d, .v d] = .ok (.v (.bool true)) none
  | 0, d, h => (Bool.false_ne_true h).elim
  | k + 1, d, h => (hB k d).trans (same_body (k := k) (fun d hd => ⟨none, same_tower hB k d hd⟩) d h)
theorem fit_mono : ∀ (k : Nat) (d : PyData) (j : Nat), fit k d = true → fit (k + j) d = true
  | 0, d, j, h => (Bool.false_ne_true h).elim
  | k + 1, d, j, h => by
    have e : k + 1 + j = (k + j) + 1 := by omega
    rw [e]
    have seq : ∀ ds : List PyData, (decide (ds.length ≤ 1000) && ds.all (fit k)) = true → (decide (ds.length ≤ 1000) && ds.all (fit (k + j))) = true := by
      intro ds h
      rw [Bool.and_eq_true, List.all_eq_true] at h ⊢
      exact ⟨h.1, fun x hx => fit_mono k x j (h.2 x hx)⟩
    cases d with
    | list ds => exact seq ds h
    | tuple ds => exact seq ds h
    | dict _ => exact (Bool.false_ne_true h).elim
    | none => rfl
    | bool _ => rfl
    | int _ => rfl
    | str _ => exact h
theorem box_at {c x : Int} : ∃ a b, finF false (ex cs cf false (bBox c) [some (.v (.list [.int x])), some (.v (.int 0)), none]) = .ok (.own [.int a, .int b, .int 0]) none := by
  obtain ⟨a, b, w, h⟩ := box_ok (cs := cs) (cf := cf) (bw := false) (c := c) (x := x)
  have : w = none := by
    generalize ex cs cf false (bBox c) [some (.v (.list [.int x])), some (.v (.int 0)), none] = fl at h
    cases fl <;> first | (cases h; rfl) | cases h
  rw [this] at h
  exact ⟨a, b, h⟩
theorem app_ok (a b : List PyData) (h : a.length + b.length ≤ 1000) : opB .Add (.list a) (.list b) = some (.own (a ++ b)) := by
  show (if a.length + b.length ≤ sizeLine then some (W.own (a ++ b)) else none) = _
  rw [if_pos (siz h)]
/-- a list of pairs of numbers -/
def pd (x : Int × Int) : PyData := .tuple [.int x.1, .int x.2]
theorem in_pairs {L : List (Int × Int)} (a b : Int) (hl : L.length ≤ 1000) : opC .In (.tuple [.int a, .int b]) (.list (L.map pd)) = some (decide ((a, b) ∈ L)) := by
  have f : fit 4 (.list (L.map pd)) = true := fl (by rw [List.length_map]; exact decide_eq_true hl) (al_map fun _ _ => rfl)
  show (if SeqAt.shaped (.tuple [.int a, .int b]) = true ∧ SeqAt.shaped (.list (L.map pd)) = true then some ((L.map pd).any fun z => PyData.eqv z (.tuple [.int a, .int b])) else none) = _
  rw [if_pos ⟨fit_sh (k := 3) rfl (by decide), fit_sh f (by decide)⟩]
  clear f
  congr 1
  rw [List.any_map]
  induction L with
  | nil => rfl
  | cons q r ih =>
    rw [List.any_cons, ih (by rw [List.length_cons] at hl; omega)]
    obtain ⟨c, d⟩ := q
    have : ((fun z => PyData.eqv z (.tuple [.int a, .int b])) ∘ pd) (c, d) = (c == a && d == b) := eqv_pair c d a b
    rw [this]
    by_cases h : c = a ∧ d = b
    · obtain ⟨rfl, rfl⟩ := h; simp
    · have h' : ¬ ((a, b) = (c, d)) := fun z => h (by cases z; exact ⟨rfl, rfl⟩)
      have h2 : (c == a && d == b) = false := by
        rw [Bool.and_eq_false_iff, beq_eq_false_iff_ne, beq_eq_false_iff_ne]
        by_cases hc : c = a
        · exact .inr fun z => h ⟨hc, z⟩
        · exact .inl hc
      rw [h2, Bool.false_or]
      simp only [List.mem_cons, h', false_or]
theorem nin_pairs {L : List (Int × Int)} (a b : Int) (hl : L.length ≤ 1000) : opC .NotIn (.tuple [.int a, .int b]) (.list (L.map pd)) = some (!decide ((a, b) ∈ L)) := by
  show (opC .In (.tuple [.int a, .int b]) (.list (L.map pd))).map (!·) = _
  rw [in_pairs a b hl]; rfl
theorem eq_nil_map {α : Type} {k : Nat} {f : α → PyData} {L : List α} (hl : L.length ≤ 1000) (hf : ∀ x ∈ L, fit k (f x) = true) (hk : k ≤ 60) : opC .Eq (.list (L.map f)) (.list []) = some L.isEmpty := by
  rw [eq_nil (k := k + 1) (fl (by rw [List.length_map]; exact decide_eq_true hl) (al_map hf)) (by omega)]
  cases L <;> rfl
theorem ne_nil_map {α : Type} {k : Nat} {f : α → PyData} {L : List α} (hl : L.length ≤ 1000) (hf : ∀ x ∈ L, fit k (f x) = true) (hk : k ≤ 60) : opC .NotEq (.list (L.map f)) (.list []) = some (!L.isEmpty) := by
  show (opC .Eq (.list (L.map f)) (.list [])).map (!·) = _
  rw [eq_nil_map hl hf hk]; rfl
theorem eq_bools (a b : Bool) : opC .Eq (.bool a) (.bool b) = some (a == b) := by cases a <;> cases b <;> rfl
theorem ne_bools (a b : Bool) : opC .NotEq (.bool a) (.bool b) = some (!(a == b)) := by cases a <;> cases b <;> rfl
end
end TD

set_option maxHeartbeats 1000000
namespace TD
open PySem PySem.Spec PyProof.Rows L2
theorem cop_mul {a b n : Int} (h1 : Int.gcd a n = 1) (h2 : Int.gcd b n = 1) : Int.gcd (a * b) n = 1 := by
  show Nat.gcd (a * b).natAbs n.natAbs = 1
  rw [Int.natAbs_mul]
  exact Nat.Coprime.mul_left h1 h2
theorem cop_mod (a n : Int) : Int.gcd (a % n) n = Int.gcd a n := by
  rw [Int.gcd_comm, gcd_emod]
theorem cop_sgn {s n : Int} (h : s = 1 ∨ s = -1) : Int.gcd s n = 1 := by
  rcases h with rfl | rfl
  · exact Int.one_gcd
  · rw [Int.neg_gcd]; exact Int.one_gcd
theorem unit_pos {a n : Int} (h0 : 2 ≤ n) (hg : Int.gcd a n = 1) : 1 ≤ a % n := by
  have m0 := Int.emod_nonneg a (show n ≠ 0 by omega)
  rcases Int.lt_or_eq_of_le m0 with h | h
  · omega
  · have := cop_mod a n
    rw [← h, hg, Int.zero_gcd] at this
    omega
structure Un (n u : Int) : Prop where
  h1 : 1 ≤ u
  h2 : u < n
  g : Int.gcd u n = 1
theorem un_of {n u : Int} (h : 1 < n) (hm : u ∈ unitsI n) : Un n u := by
  rw [mem_units h] at hm
  exact ⟨hm.1, hm.2.1, hm.2.2⟩
theorem un_mod {n a : Int} (h0 : 2 ≤ n) (hg : Int.gcd a n = 1) : Un n (a % n) := ⟨unit_pos h0 hg, Int.emod_lt_of_pos _ (by omega), by rw [cop_mod]; exact hg⟩
theorem un_back {n u : Int} (h0 : 2 ≤ n) (hu : Un n u) : Un n (Bk u n) := by
  have g := Bk_gcd (show 1 < n by omega) hu.g
  obtain ⟨b0, b1⟩ := Bk_lt (n := u) (show 0 < n by omega)
  have e : Bk u n % n = Bk u n := Int.emod_eq_of_lt b0 b1
  rw [← e]
  exact un_mod h0 g
theorem un_lens {n u : Int} (h0 : 2 ≤ n) (h1 : n ≤ 1000000) (hu : Un n u) : lensB n u = true := by
  unfold lensB
  rw [if_neg (by omega), decide_eq_true (show 0 ≤ n by omega), decide_eq_true h1, decide_eq_true hu.h1, decide_eq_true hu.h2]
  have : Int.gcd n u = 1 := by rw [Int.gcd_comm]; exact hu.g
  rw [this]; rfl
/-- what is 1 with u is the back -/
theorem Bk_uniq {n u x : Int} (h0 : 2 ≤ n) (hu : Un n u) (h1 : 0 ≤ x) (h2 : x < n) (h : u * x % n = 1) : x = Bk u n := by
  have e1 : u * Bk u n % n = 1 := by rw [Bk_inv (by omega) hu.g]; exact Int.emod_eq_of_lt (by omega) (by omega)
  obtain ⟨b0, b1⟩ := Bk_lt (n := u) (show 0 < n by omega)
  have q1 : n * (u * Bk u n / n) + u * Bk u n % n = u * Bk u n := Int.mul_ediv_add_emod _ _
  have q2 : n * (u * x / n) + u * x % n = u * x := Int.mul_ediv_add_emod _ _
  rw [e1] at q1
  rw [h] at q2
  clear e1 h
  generalize u * Bk u n / n = k at *
  generalize u * x / n = l at *
  generalize Bk u n = B at *
  have e : x - B = n * (B * l - x * k) := by grind
  have m : (x - B) % n = 0 := by rw [e]; exact Int.mul_emod_right _ _
  have m2 : x % n = B % n := (Int.emod_eq_emod_iff_emod_sub_eq_zero).mpr m
  rw [Int.emod_eq_of_lt h1 h2, Int.emod_eq_of_lt b0 b1] at m2
  exact m2
theorem Bk_one {n u : Int} (h0 : 2 ≤ n) (hu : Un n u) : u * Bk u n % n = 1 := by rw [Bk_inv (by omega) hu.g]; exact Int.emod_eq_of_lt (by omega) (by omega)
theorem Bk_Bk {n u : Int} (h0 : 2 ≤ n) (hu : Un n u) : Bk (Bk u n) n = u := by
  refine (Bk_uniq h0 (un_back h0 hu) (by have := hu.h1; omega) hu.h2 ?_).symm
  rw [Int.mul_comm]
  exact Bk_one h0 hu
/-- the less of a unit and its back -/
def mn (u n : Int) : Int := if Bk u n < u then Bk u n else u
theorem mn_un {n u : Int} (h0 : 2 ≤ n) (hu : Un n u) : Un n (mn u n) ∧ (mn u n = u ∨ mn u n = Bk u n) ∧ mn u n ≤ u ∧ mn u n ≤ Bk u n := by
  unfold mn
  split
  · exact ⟨un_back h0 hu, .inr rfl, by omega, by omega⟩
  · exact ⟨hu, .inl rfl, by omega, by omega⟩
theorem mn_mn {n u : Int} (h0 : 2 ≤ n) (hu : Un n u) : mn (mn u n) n = mn u n := by
  obtain ⟨_, h, h1, h2⟩ := mn_un h0 hu
  rcases h with h | h
  · rw [h]; exact h
  · have e : Bk (mn u n) n = u := by rw [h]; exact Bk_Bk h0 hu
    show (if Bk (mn u n) n < mn u n then Bk (mn u n) n else mn u n) = mn u n
    rw [e, if_neg (by omega)]
theorem mn_eq {n u v : Int} (h0 : 2 ≤ n) (hu : Un n u) (hv : Un n v) : mn u n = mn v n ↔ u = v ∨ u * v % n = 1 := by
  constructor
  · intro h
    obtain ⟨_, a, _, _⟩ := mn_un h0 hu
    obtain ⟨_, b, _, _⟩ := mn_un h0 hv
    rcases a with a | a <;> rcases b with b | b
    · exact .inl (by rw [← a, h, b])
    · right
      have : u = Bk v n := by rw [← a, h, b]
      rw [this, Int.mul_comm]; exact Bk_one h0 hv
    · right
      have : v = Bk u n := by rw [← b, ← h, a]
      rw [this]; exact Bk_one h0 hu
    · left
      have : Bk u n = Bk v n := by rw [← a, h, b]
      rw [← Bk_Bk h0 hu, this, Bk_Bk h0 hv]
  · rintro (rfl | h)
    · rfl
    · have e1 : v = Bk u n := Bk_uniq h0 hu (by have := hv.h1; omega) hv.h2 h
      have e2 : Bk v n = u := by rw [e1]; exact Bk_Bk h0 hu
      unfold mn
      rw [e2, ← e1]
      split <;> split <;> omega
end TD

set_option maxHeartbeats 1000000
set_option exponentiation.threshold 20000
namespace TD
open PySem PySem.Spec PyProof.Rows L2
local macro_rules | `(tactic| walk_at "td op") => `(tactic| first | with_reducible exact o_add _ _ | with_reducible exact o_sub _ _ | with_reducible exact c_eq _ _ | with_reducible exact c_ne _ _ | with_reducible exact c_lt _ _ | with_reducible exact c_le _ _ | with_reducible exact c_gt _ _ | with_reducible exact c_ge _ _ | (with_reducible apply o_mulR; omega) | (with_reducible apply o_mulL; omega) | (with_reducible apply o_divS <;> omega) | (with_reducible apply o_mod; omega) | with_reducible exact n_int _ | with_reducible exact n_abs _ | with_reducible exact n_gcd _ _ | (with_reducible apply siz; simp; done) | assumption | rfl)
local macro_rules | `(tactic| walk_at "td s") => `(tactic| (repeat' (first | with_reducible exact x_nil | (with_reducible apply x_consR; with_reducible apply x_ret) | (with_reducible apply x_cons; with_reducible apply x_asgT) | (with_reducible apply x_cons; with_reducible apply x_asgF) | (with_reducible apply x_cons; with_reducible apply x_setI) | (with_reducible apply x_cons; with_reducible apply x_tgt) | (with_reducible apply x_cons; with_reducible apply x_par2) | (with_reducible apply x_cons; with_reducible apply x_par3) | (with_reducible apply x_cons; with_reducible apply x_app) | with_reducible exact v_int | with_reducible exact v_str | with_reducible exact v_bl | with_reducible exact v_non | with_reducible exact v_nil | exact v_var rfl | exact v_mv rfl | exact v_mvO rfl | exact v_glb rfl | with_reducible apply v_bin | with_reducible apply v_neg | with_reducible apply v_cmp | with_reducible apply v_chn | with_reducible apply v_one | with_reducible apply v_not | with_reducible apply v_cons | with_reducible apply v_tup | with_reducible apply v_lst | with_reducible apply v_ix | (with_reducible apply v_ixV; rfl) | (with_reducible apply v_ixO; rfl) | (with_reducible apply v_lenV; rfl) | (with_reducible exact v_lenO (by rfl)) | with_reducible apply v_bi | with_reducible apply v_isi | (with_reducible apply v_call) | walk_at "td op")))
theorem den_lt {q r : Rat} {m n : Nat} (h1 : q.den < 2 ^ m) (h2 : r.den < 2 ^ n) : (q.den : Int) * r.den < 2 ^ (m + n) := by
  have : q.den * r.den < 2 ^ m * 2 ^ n := Nat.mul_lt_mul'' h1 h2
  rw [← Nat.pow_add] at this
  exact_mod_cast this
theorem den_pos2 (q r : Rat) : 0 < (q.den : Int) * r.den := by
  have h1 := q.den_pos
  have h2 := r.den_pos
  exact Int.mul_pos (by omega) (by omega)
theorem lt8000 {x : Int} {m : Nat} (h : x < 2 ^ m) (hm : m ≤ 8000) : x < 2 ^ 8000 := by
  have : (2 : Int) ^ m ≤ 2 ^ 8000 := by exact_mod_cast Nat.pow_le_pow_right (by decide) hm
  omega
theorem half_prod {a b : Int} (h0 : 0 < a) (h1 : a < b) {m : Nat} (h : a * b < 2 ^ (m + 1)) : (b % a) * a < 2 ^ m := by
  have hh := half_mod h0 (Int.le_of_lt h1)
  have hp : (2 : Int) ^ (m + 1) = 2 * 2 ^ m := by rw [Int.pow_succ]; omega
  have : a * (2 * (b % a)) < a * b := Int.mul_lt_mul_of_pos_left hh h0
  have e : a * (2 * (b % a)) = 2 * ((b % a) * a) := by grind
  omega
theorem div_num_le {a b : Int} (h : 0 < b) : (Rat.divInt a b).num.natAbs ≤ a.natAbs := by
  rw [div_num h]
  exact Int.natAbs_ediv_le_natAbs _ _
theorem div_den_le {a b : Int} (h : 0 < b) : ((Rat.divInt a b).den : Int) ≤ b := by
  rw [div_den h]
  exact Int.ediv_le_self _ (by omega)
theorem one_mul' (r : Rat) : ((1 : Int) : Rat) * r = r := by
  show (1 : Rat) * r = r
  exact Rat.one_mul r
theorem neg_mul' (r : Rat) : ((-1 : Int) : Rat) * r = -r := by
  show (-1 : Rat) * r = -r
  rw [Rat.neg_mul, Rat.one_mul]
theorem sgn_bounds {s : Int} (h : s = 1 ∨ s = -1) (r : Rat) : ((s : Rat) * r).den = r.den ∧ ((s : Rat) * r).num.natAbs = r.num.natAbs := by
  rcases h with rfl | rfl
  · rw [one_mul']; exact ⟨rfl, rfl⟩
  · rw [neg_mul']
    exact ⟨Rat.neg_den r, by rw [Rat.neg_num, Int.natAbs_neg]⟩
theorem den_add_le (q r : Rat) : (q + r).den ≤ q.den * r.den := by
  rw [← add_div]
  have := div_den_le (a := q.num * r.den + r.num * q.den) (den_pos2 q r)
  exact_mod_cast this
theorem num_add_le (q r : Rat) : (q + r).num.natAbs ≤ q.num.natAbs * r.den + r.num.natAbs * q.den := by
  rw [← add_div]
  have h := div_num_le (a := q.num * r.den + r.num * q.den) (den_pos2 q r)
  have h2 := Int.natAbs_add_le (q.num * r.den) (r.num * q.den)
  rw [Int.natAbs_mul, Int.natAbs_mul, Int.natAbs_natCast, Int.natAbs_natCast] at h2
  rw [add_div] at h ⊢
  exact Nat.le_trans h h2
theorem mul_big {i j : Int} {m n : Nat} (h1 : i.natAbs < 2 ^ m) (h2 : j.natAbs < 2 ^ n) (h : m + n < 1000000) : opB .Mult (.int i) (.int j) = some (.v (.int (i * j))) := by
  refine o_mul ?_
  unfold mulOk
  have l1 : i.natAbs.log2 ≤ m := by
    rcases Nat.eq_zero_or_pos i.natAbs with z | z
    · rw [z]; simp
    · exact Nat.le_of_lt ((Nat.log2_lt (by omega)).mpr h1)
  have l2 : j.natAbs.log2 ≤ n := by
    rcases Nat.eq_zero_or_pos j.natAbs with z | z
    · rw [z]; simp
    · exact Nat.le_of_lt ((Nat.log2_lt (by omega)).mpr h2)
  rw [decide_eq_true (show i.natAbs.log2 + j.natAbs.log2 < 1000000 by omega), Bool.or_true]
/-- not too big -/
def Sm (q : Rat) : Prop := q.den < 2 ^ 2000 ∧ q.num.natAbs < 2 ^ 4000
theorem Sm_neg {q : Rat} (h : Sm q) : Sm (-q) := by
  unfold Sm
  rw [Rat.neg_den, Rat.neg_num, Int.natAbs_neg]
  exact h
def LowOk (cf : CF) (i : Nat) : Prop := ∀ a b : Int, 0 < b → b < 2 ^ 8000 → cf i [.v (.int a), .v (.int b)] = .ok (.v (can (Rat.divInt a b))) none
def AddOk (cf : CF) (i : Nat) : Prop := ∀ q r : Rat, Sm q → Sm r → cf i [.v (can q), .v (can r)] = .ok (.v (can (q + r))) none
section
variable {cs : List PyData} {cf : CF}
def bLowest : S := (.cons (.asg 2 (.bi .gcd (.cons (.var 0) (.cons (.var 1) .nil))) false)
    (.cons (.ret (.ite (.cmp .Gt (.var 1) (.int 0)) (.tup (.cons (.bin .FloorDiv (.var 0) (.var 2)) (.cons (.bin .FloorDiv (.var 1) (.var 2)) .nil))) (.tup (.cons (.bin .FloorDiv (.neg (.var 0)) (.var 2)) (.cons (.bin .FloorDiv (.neg (.var 1)) (.var 2)) .nil)))))
    .nil))
theorem gcd_log {a b : Int} (h : 0 < b) (hb : b < 2 ^ 8000) : (Int.gcd a b : Int).natAbs.log2 < 9000 := by
  have g1 : (Int.gcd a b : Int) ≤ b := gcd_le' h
  exact log_small (Nat.lt_trans (show (Int.gcd a b : Int).natAbs < 2 ^ 8000 by
    have : ((2 ^ 8000 : Nat) : Int) = 2 ^ 8000 := by norm_cast
    omega) (by decide +kernel))
theorem lowest_ok {a b : Int} (h : 0 < b) (hb : b < 2 ^ 8000) : finF false (ex cs cf false bLowest [vi a, vi b, none]) = .ok (.v (can (Rat.divInt a b))) none := by
  have g0 : 0 < (Int.gcd a b : Int) := gcd_pos' h
  have gl := gcd_log (a := a) h hb
  have : ex cs cf false bLowest [vi a, vi b, none] = .ret (.v (can (Rat.divInt a b))) [vi a, vi b, vi (Int.gcd a b)] := by
    unfold bLowest
    rw [can_eq h]
    exact x_cons (x_asgF (v_bi (v_cons (v_var rfl) (v_cons (v_var rfl) v_nil)) (n_gcd' _ _)) rfl) (x_consR (x_ret (v_iteT (v_as (v_cmp (v_var rfl) v_int (c_gt _ _)) (decide_eq_true h)) (v_tup (v_cons (v_bin (v_var rfl) (v_var rfl) (o_div g0 gl)) (v_cons (v_bin (v_var rfl) (v_var rfl) (o_div g0 gl)) v_nil)) (siz (show 2 ≤ 1000 by decide))))))
  rw [this]
  rfl
def bPlus (i : Nat) : S := (.cons (.ret (.call i (.cons (.bin .Add (.bin .Mult (.ixV 0 (.int 0)) (.ixV 1 (.int 1))) (.bin .Mult (.ixV 1 (.int 0)) (.ixV 0 (.int 1)))) (.cons (.bin .Mult (.ixV 0 (.int 1)) (.ixV 1 (.int 1))) .nil)))) .nil)
def bMinus (i : Nat) : S := (.cons (.ret (.call i (.cons (.bin .Sub (.bin .Mult (.ixV 0 (.int 0)) (.ixV 1 (.int 1))) (.bin .Mult (.ixV 1 (.int 0)) (.ixV 0 (.int 1)))) (.cons (.bin .Mult (.ixV 0 (.int 1)) (.ixV 1 (.int 1))) .nil)))) .nil)
def bTimes (i : Nat) : S := (.cons (.ret (.call i (.cons (.bin .Mult (.ixV 0 (.int 0)) (.ixV 1 (.int 0))) (.cons (.bin .Mult (.ixV 0 (.int 1)) (.ixV 1 (.int 1))) .nil)))) .nil)
theorem sm_den {q r : Rat} (hq : Sm q) (hr : Sm r) : (q.den : Int) * r.den < 2 ^ 8000 := lt8000 (den_lt hq.1 hr.1) (by omega)
theorem plus_ok {i : Nat} (hl : LowOk cf i) {q r : Rat} (hq : Sm q) (hr : Sm r) : finF false (ex cs cf false (bPlus i) [vd (can q), vd (can r)]) = .ok (.v (can (q + r))) none := by
  have hl := hl (q.num * r.den + r.num * q.den) (q.den * r.den) (den_pos2 q r) (sm_den hq hr)
  rw [add_div] at hl
  have : ex cs cf false (bPlus i) [vd (can q), vd (can r)] = .ret (.v (can (q + r))) [vd (can q), vd (can r)] := by
    unfold bPlus
    refine x_consR (x_ret (v_call (v_cons (v_bin (v_bin (v_ixV rfl v_int (ati0 _ _)) (v_ixV rfl v_int (ati1 _ _)) (mul_big hq.2 (by rw [Int.natAbs_natCast]; exact hr.1) (by decide))) (v_bin (v_ixV rfl v_int (ati0 _ _)) (v_ixV rfl v_int (ati1 _ _)) (mul_big hr.2 (by rw [Int.natAbs_natCast]; exact hq.1) (by decide))) (o_add _ _)) (v_cons (v_bin (v_ixV rfl v_int (ati1 _ _)) (v_ixV rfl v_int (ati1 _ _)) (mul_big (by rw [Int.natAbs_natCast]; exact hq.1) (by rw [Int.natAbs_natCast]; exact hr.1) (by decide))) v_nil)) hl))
  rw [this]
  rfl
theorem minus_ok {i : Nat} (hl : LowOk cf i) {q r : Rat} (hq : Sm q) (hr : Sm r) : finF false (ex cs cf false (bMinus i) [vd (can q), vd (can r)]) = .ok (.v (can (q - r))) none := by
  have hl := hl (q.num * r.den - r.num * q.den) (q.den * r.den) (den_pos2 q r) (sm_den hq hr)
  rw [sub_div] at hl
  have : ex cs cf false (bMinus i) [vd (can q), vd (can r)] = .ret (.v (can (q - r))) [vd (can q), vd (can r)] := by
    unfold bMinus
    refine x_consR (x_ret (v_call (v_cons (v_bin (v_bin (v_ixV rfl v_int (ati0 _ _)) (v_ixV rfl v_int (ati1 _ _)) (mul_big hq.2 (by rw [Int.natAbs_natCast]; exact hr.1) (by decide))) (v_bin (v_ixV rfl v_int (ati0 _ _)) (v_ixV rfl v_int (ati1 _ _)) (mul_big hr.2 (by rw [Int.natAbs_natCast]; exact hq.1) (by decide))) (o_sub _ _)) (v_cons (v_bin (v_ixV rfl v_int (ati1 _ _)) (v_ixV rfl v_int (ati1 _ _)) (mul_big (by rw [Int.natAbs_natCast]; exact hq.1) (by rw [Int.natAbs_natCast]; exact hr.1) (by decide))) v_nil)) hl))
  rw [this]
  rfl
theorem times_ok {i : Nat} (hl : LowOk cf i) {q r : Rat} (hq : Sm q) (hr : Sm r) : finF false (ex cs cf false (bTimes i) [vd (can q), vd (can r)]) = .ok (.v (can (q * r))) none := by
  have hl := hl (q.num * r.num) (q.den * r.den) (den_pos2 q r) (sm_den hq hr)
  rw [mul_div] at hl
  have : ex cs cf false (bTimes i) [vd (can q), vd (can r)] = .ret (.v (can (q * r))) [vd (can q), vd (can r)] := by
    unfold bTimes
    refine x_consR (x_ret (v_call (v_cons (v_bin (v_ixV rfl v_int (ati0 _ _)) (v_ixV rfl v_int (ati0 _ _)) (mul_big hq.2 hr.2 (by decide))) (v_cons (v_bin (v_ixV rfl v_int (ati1 _ _)) (v_ixV rfl v_int (ati1 _ _)) (mul_big (by rw [Int.natAbs_natCast]; exact hq.1) (by rw [Int.natAbs_natCast]; exact hr.1) (by decide))) v_nil)) hl))
  rw [this]
  rfl
def bLow (g : Nat) : S := (.cons (.asg 2 (.call g (.cons (.var 0) (.cons (.var 1) .nil))) false)
    (.cons (.ret (.tup (.cons (.bin .FloorDiv (.var 0) (.var 2)) (.cons (.bin .FloorDiv (.var 1) (.var 2)) .nil))))
    .nil))
theorem low_ok {g : Nat} {a b : Int} (hg : cf g [.v (.int a), .v (.int b)] = .ok (.v (.int (Int.gcd a b))) none) (h : 0 < b) (hb : b < 2 ^ 8000) : finF false (ex cs cf false (bLow g) [vi a, vi b, none]) = .ok (.v (can (Rat.divInt a b))) none := by
  have g0 : 0 < (Int.gcd a b : Int) := gcd_pos' h
  have gl := gcd_log (a := a) h hb
  have : ex cs cf false (bLow g) [vi a, vi b, none] = .ret (.v (can (Rat.divInt a b))) [vi a, vi b, vi (Int.gcd a b)] := by
    unfold bLow
    rw [can_eq h]
    exact x_cons (x_asgF (v_call (v_cons (v_var rfl) (v_cons (v_var rfl) v_nil)) hg) rfl) (x_consR (x_ret (v_tup (v_cons (v_bin (v_var rfl) (v_var rfl) (o_div g0 gl)) (v_cons (v_bin (v_var rfl) (v_var rfl) (o_div g0 gl)) v_nil)) (siz (show 2 ≤ 1000 by decide)))))
  rw [this]
  rfl
/-! ### less, and putting in order -/
def lessB (q r : Rat) : Bool := decide (q.num * r.den < r.num * q.den)
def bLess : S := (.cons (.ret (.cmp .Lt (.bin .Mult (.ixV 0 (.int 0)) (.ixV 1 (.int 1))) (.bin .Mult (.ixV 1 (.int 0)) (.ixV 0 (.int 1))))) .nil)
theorem less_ok {q r : Rat} (hq : Sm q) (hr : Sm r) : finF false (ex cs cf false bLess [vd (can q), vd (can r)]) = .ok (.v (.bool (lessB q r))) none := by
  have : ex cs cf false bLess [vd (can q), vd (can r)] = .ret (.v (.bool (lessB q r))) [vd (can q), vd (can r)] := by
    unfold bLess
    exact x_consR (x_ret (v_cmp (v_bin (v_ixV rfl v_int (ati0 _ _)) (v_ixV rfl v_int (ati1 _ _)) (mul_big hq.2 (by rw [Int.natAbs_natCast]; exact hr.1) (by decide))) (v_bin (v_ixV rfl v_int (ati0 _ _)) (v_ixV rfl v_int (ati1 _ _)) (mul_big hr.2 (by rw [Int.natAbs_natCast]; exact hq.1) (by decide))) (c_lt _ _)))
  rw [this]
  rfl
def insQ (x : Rat) (L : List Rat) : List Rat := L.take (L.filter (fun y => !lessB x y)).length ++ x :: L.drop (L.filter (fun y => !lessB x y)).length
def ordQ (L : List Rat) : List Rat := L.foldl (fun acc x => insQ x acc) []
theorem insQ_len (x : Rat) (L : List Rat) : (insQ x L).length = L.length + 1 := by
  unfold insQ
  have := List.length_filter_le (fun y => !lessB x y) L
  rw [List.length_append, List.length_cons, List.length_take, List.length_drop]
  omega
theorem mem_insQ (x y : Rat) (L : List Rat) : y ∈ insQ x L ↔ y = x ∨ y ∈ L := by
  unfold insQ
  generalize (L.filter (fun y => !lessB x y)).length = k
  have e : L = L.take k ++ L.drop k := (List.take_append_drop k L).symm
  constructor
  · intro h
    rw [List.mem_append, List.mem_cons] at h
    rcases h with h | h | h
    · exact .inr (List.mem_of_mem_take h)
    · exact .inl h
    · exact .inr (List.mem_of_mem_drop h)
  · rintro (h | h)
    · rw [h, List.mem_append, List.mem_cons]; exact .inr (.inl rfl)
    · rw [e, List.mem_append] at h
      rw [List.mem_append, List.mem_cons]
      rcases h with h | h
      · exact .inl h
      · exact .inr (.inr h)
def bOrdT (i : Nat) : S := (.cons (.asg 3 (.bi .len (.cons (.comp [4] (.n 4) (.one (.var 1)) (.one (.not (.call i (.cons (.var 2) (.cons (.var 4) .nil))))) (.var 4)) .nil)) false)
    (.cons (.asg 1 (.bin .Add (.bin .Add (.sl (.var 1) .non (.var 3)) (.lst (.cons (.var 2) .nil))) (.sl (.var 1) (.var 3) .non)) false)
    .nil))
def bOrd (i : Nat) : S := (.cons (.asg 1 (.lst .nil) false)
    (.cons (.for_ (.n 2) (.one (.var 0)) (bOrdT i))
    (.cons (.ret (.bi .tupleOf (.cons (.var 1) .nil)))
    .nil)))
theorem v_sl {a l h : E} {e e1 e2 e3 : En} {w w1 w2 wr : W} {lo hi : Option Int} (h1 : ev cs cf a e = .ok w e1) (h2 : ev cs cf l e1 = .ok w1 e2) (h3 : part l w1.val = some lo) (h4 : ev cs cf h e2 = .ok w2 e3) (h5 : part h w2.val = some hi) (h6 : opSl w.val lo hi = some wr) : ev cs cf (.sl a l h) e = .ok wr e3 := by
  simp only [ev, h1, Rs.bind, h2, h3, h4, h5, h6]; rfl
theorem cut_lo {ds : List PyData} {k : Nat} (h : k ≤ ds.length) : cutD ds none (some (k : Int)) = ds.take k := by
  unfold cutD
  have e1 : HT.sIx ds.length 0 none = 0 := rfl
  rw [e1, HT.sIx_nat, Nat.min_eq_left h]
  rfl
theorem cut_hi {ds : List PyData} {k : Nat} (h : k ≤ ds.length) : cutD ds (some (k : Int)) none = ds.drop k := by
  unfold cutD
  have e1 : HT.sIx ds.length ds.length none = ds.length := rfl
  rw [e1, HT.sIx_nat, Nat.min_eq_left h]
  rw [List.take_of_length_le]
  rw [List.length_drop]
  exact Nat.le_refl _
theorem ord_turn {i : Nat} (hi : ∀ q r, Sm q → Sm r → cf i [.v (can q), .v (can r)] = .ok (.v (.bool (lessB q r))) none) {x0 z3 : Option W} {acc : List Rat} {x : Rat} (hx : Sm x) (ha : ∀ y ∈ acc, Sm y) (hl : acc.length ≤ 400) :
    ex cs cf false (bOrdT i) [x0, vd (.list (acc.map can)), vd (can x), z3, none] = .nx [x0, vd (.list ((insQ x acc).map can)), vd (can x), vi (acc.filter (fun y => !lessB x y)).length, none] := by
  have hc := v_compG (cs := cs) (cf := cf) (vs := [4]) (t := .n 4) (src := .one (.var 1)) (c := .one (.not (.call i (.cons (.var 2) (.cons (.var 4) .nil))))) (el := .var 4) (e := [x0, vd (.list (acc.map can)), vd (can x), z3, none]) (e1 := [x0, vd (.list (acc.map can)), vd (can x), z3, none]) (f := can) (L := acc) (p := fun y => !lessB x y) (g := can) (v_one (v_var rfl)) rfl (by omega) (fun y hy => fQ_I (e3 := [x0, vd (.list (acc.map can)), vd (can x), z3, vd (can y)]) rfl (v_one (v_not (v_call (v_cons (v_var rfl) (v_cons (v_var rfl) v_nil)) (hi x y hx (ha y hy))))) (fun _ => v_var rfl) rfl)
  have hk := List.length_filter_le (fun y => !lessB x y) acc
  have nl : opBi .len [.list ((acc.filter (fun y => !lessB x y)).map can)] = some (.v (.int (acc.filter (fun y => !lessB x y)).length)) := by
    show some (W.v (.int ((acc.filter (fun y => !lessB x y)).map can).length)) = _
    rw [List.length_map]
  unfold bOrdT
  refine x_cons (x_asgF (v_bi (v_cons hc v_nil) nl) rfl) ?_
  have e1 : (insQ x acc).map can = (acc.map can).take (acc.filter (fun y => !lessB x y)).length ++ [can x] ++ (acc.map can).drop (acc.filter (fun y => !lessB x y)).length := by
    unfold insQ
    rw [List.map_append, List.map_cons, List.map_take, List.map_drop, List.append_assoc]
    rfl
  rw [e1]
  generalize (acc.filter (fun y => !lessB x y)).length = k at *
  have c1 := cut_lo (ds := acc.map can) (k := k) (by rw [List.length_map]; exact hk)
  have c2 := cut_hi (ds := acc.map can) (k := k) (by rw [List.length_map]; exact hk)
  have s1 : opSl (.list (acc.map can)) none (some (k : Int)) = some (.own ((acc.map can).take k)) := by
    show some (W.own (cutD (acc.map can) none (some (k : Int)))) = _
    rw [c1]
  have s2 : opSl (.list (acc.map can)) (some (k : Int)) none = some (.own ((acc.map can).drop k)) := by
    show some (W.own (cutD (acc.map can) (some (k : Int)) none)) = _
    rw [c2]
  refine x_cons (x_asgF (v_bin (v_bin (v_sl (v_var rfl) v_non rfl (v_var rfl) rfl s1) (v_lst (v_cons (v_var rfl) v_nil) (siz (show 1 ≤ 1000 by decide))) (app_ok _ _ ?_)) (v_sl (v_var rfl) (v_var rfl) rfl v_non rfl s2) (app_ok _ _ ?_)) rfl) x_nil
  · rw [List.length_take, List.length_map]; show _ + 1 ≤ _; omega
  · rw [List.length_append, List.length_take, List.length_drop, List.length_map]; show _ + 1 + _ ≤ _; omega
theorem ord_loop {i : Nat} (hi : ∀ q r, Sm q → Sm r → cf i [.v (can q), .v (can r)] = .ok (.v (.bool (lessB q r))) none) {x0 : Option W} : ∀ (L acc : List Rat) (z2 z3 : Option W), (∀ y ∈ L, Sm y) → (∀ y ∈ acc, Sm y) → acc.length + L.length ≤ 400 → ∃ y2 y3,
    forL (fun d e2 => match asT false (.n 2) d e2 with
        | some e3 => ex cs cf false (bOrdT i) e3
        | none => .stuck) (L.map can) [x0, vd (.list (acc.map can)), z2, z3, none] = .nx [x0, vd (.list ((L.foldl (fun acc x => insQ x acc) acc).map can)), y2, y3, none]
  | [], acc, z2, z3, _, _, _ => ⟨z2, z3, rfl⟩
  | x :: L, acc, z2, z3, hL, ha, hl => by
    rw [List.length_cons] at hl
    obtain ⟨y2, y3, g⟩ := ord_loop hi (x0 := x0) L (insQ x acc) (vd (can x)) (vi (acc.filter (fun y => !lessB x y)).length) (fun y hy => hL y (List.mem_cons_of_mem _ hy)) (fun y hy => by
      rcases (mem_insQ x y acc).mp hy with rfl | h
      · exact hL _ List.mem_cons_self
      · exact ha y h) (by rw [insQ_len]; omega)
    refine ⟨y2, y3, ?_⟩
    show forL _ (can x :: L.map can) _ = _
    unfold forL
    show (match ex cs cf false (bOrdT i) [x0, vd (.list (acc.map can)), vd (can x), z3, none] with
      | .nx e2 => forL _ _ e2
      | .ct e2 => forL _ _ e2
      | .bk e2 => .nx e2
      | r => r) = _
    rw [ord_turn hi (hL x List.mem_cons_self) ha (by omega)]
    exact g
theorem ord_ok {i : Nat} (hi : ∀ q r, Sm q → Sm r → cf i [.v (can q), .v (can r)] = .ok (.v (.bool (lessB q r))) none) {d : PyData} {L : List Rat} (hd : seqOf d = some (L.map can)) (hL : ∀ y ∈ L, Sm y) (hl : L.length ≤ 400) : finF false (ex cs cf false (bOrd i) [vd d, none, none, none, none]) = .ok (.v (.tuple ((ordQ L).map can))) none := by
  obtain ⟨y2, y3, g⟩ := ord_loop hi (x0 := vd d) L [] none none hL (fun y hy => by cases hy) (by simpa using hl)
  have : ex cs cf false (bOrd i) [vd d, none, none, none, none] = .ret (.v (.tuple ((ordQ L).map can))) [vd d, vd (.list ((ordQ L).map can)), y2, y3, none] := by
    unfold bOrd
    exact x_cons (x_asgF (v_lst v_nil (siz (show 0 ≤ 1000 by decide))) rfl) (x_cons (x_for (v_one (v_var rfl)) hd g) (x_consR (x_ret (v_bi (v_cons (v_var rfl) v_nil) rfl))))
  rw [this]
  rfl
/-! ### the sum of shares -/
def bTotal (i g : Nat) : S := (.cons (.asg 1 (.glb g) true)
    (.cons (.for_ (.n 2) (.one (.var 0)) (.cons (.asg 1 (.call i (.cons (.var 1) (.cons (.var 2) .nil))) true)
    .nil))
    (.cons (.ret (.mv 1))
    .nil)))
def SmAll : Rat → List Rat → Prop
  | q, [] => Sm q
  | q, r :: L => Sm q ∧ Sm r ∧ SmAll (q + r) L
theorem total_loop {i : Nat} (hp : AddOk cf i) {x0 : Option W} : ∀ (L : List Rat) (q : Rat) (z2 : Option W), SmAll q L → ∃ y2,
    forL (fun d e2 => match asT false (.n 2) d e2 with
        | some e3 => ex cs cf false (.cons (.asg 1 (.call i (.cons (.var 1) (.cons (.var 2) .nil))) true) .nil) e3
        | none => .stuck) (L.map can) [x0, vd (can q), z2] = .nx [x0, vd (can (L.foldl (· + ·) q)), y2]
  | [], q, z2, _ => ⟨z2, rfl⟩
  | r :: L, q, z2, h => by
    obtain ⟨y2, g⟩ := total_loop hp (x0 := x0) L (q + r) (vd (can r)) h.2.2
    refine ⟨y2, ?_⟩
    show forL _ (can r :: L.map can) _ = _
    unfold forL
    show (match ex cs cf false (.cons (.asg 1 (.call i (.cons (.var 1) (.cons (.var 2) .nil))) true) .nil) [x0, vd (can q), vd (can r)] with
      | .nx e2 => forL _ _ e2
      | .ct e2 => forL _ _ e2
      | .bk e2 => .nx e2
      | r => r) = _
    have s : ex cs cf false (.cons (.asg 1 (.call i (.cons (.var 1) (.cons (.var 2) .nil))) true) .nil) [x0, vd (can q), vd (can r)] = .nx [x0, vd (can (q + r)), vd (can r)] := x_cons (x_asgT (v_call (v_cons (v_var rfl) (v_cons (v_var rfl) v_nil)) (hp q r h.1 h.2.1)) rfl) x_nil
    rw [s]
    exact g
theorem total_ok {i g : Nat} (hp : AddOk cf i) (hg : cs[g]? = some (can 0)) {d : PyData} {L : List Rat} (hd : seqOf d = some (L.map can)) (h : SmAll 0 L) : finF false (ex cs cf false (bTotal i g) [vd d, none, none]) = .ok (.v (can (L.foldl (· + ·) 0))) none := by
  obtain ⟨y2, k⟩ := total_loop hp (x0 := vd d) L 0 none h
  have : ex cs cf false (bTotal i g) [vd d, none, none] = .ret (.v (can (L.foldl (· + ·) 0))) [vd d, vd (can (L.foldl (· + ·) 0)), y2] := by
    unfold bTotal
    exact x_cons (x_asgT (v_glb hg) rfl) (x_cons (x_for (v_one (v_var rfl)) hd k) (x_consR (x_ret (v_mv rfl))))
  rw [this]
  rfl
end
end TD

set_option maxHeartbeats 1000000
namespace TD
open PySem PySem.Spec PyProof.Rows L2
section
variable {cs : List PyData} {cf : CF} {bw : Bool} {e e1 e2 e3 e4 : En} {a b c : E} {i j v : Nat} {d d1 d2 d3 : PyData} {ds xs : List PyData} {w w1 w2 w3 : W} {p q : Bool} {o : Operator}
theorem fin_ret {S1 : S} (h : ex cs cf false S1 e = .ret w e1) : finF false (ex cs cf false S1 e) = .ok w none := by rw [h]; rfl
theorem fin_exc {S1 : S} {n : Nat} {pl : Option PyData} (h : ex cs cf false S1 e = .exc n pl e1) : finF false (ex cs cf false S1 e) = .exc n pl none := by rw [h]; rfl
theorem fin_nx {S1 : S} (h : ex cs cf false S1 e = .nx e1) : finF false (ex cs cf false S1 e) = .ok (.v .none) none := by rw [h]; rfl
theorem v_andI (h1 : ev cs cf a e = .ok (.v (.bool p)) e1) (h2 : p = true → ev cs cf b e1 = .ok (.v (.bool q)) e1) : ev cs cf (.and a b) e = .ok (.v (.bool (p && q))) e1 := by
  simp only [ev, h1, Rs.bind, W.val]
  cases p
  · rfl
  · simp only [h2 rfl]; rfl
theorem v_orI (h1 : ev cs cf a e = .ok (.v (.bool p)) e1) (h2 : p = false → ev cs cf b e1 = .ok (.v (.bool q)) e1) : ev cs cf (.or a b) e = .ok (.v (.bool (p || q))) e1 := by
  simp only [ev, h1, Rs.bind, W.val]
  cases p
  · simp only [h2 rfl]; rfl
  · rfl
theorem v_iteMI {x y : Int} (h : ev cs cf c e = .ok (.v (.bool p)) e1) (h1 : p = true → ev cs cf a e1 = .ok (.v (.int x)) e1) (h2 : p = false → ev cs cf b e1 = .ok (.v (.int y)) e1) : ev cs cf (.ite c a b) e = .ok (.v (.int (if p = true then x else y))) e1 := by
  simp only [ev, h, Rs.bind, W.val]
  cases p
  · simp only [h2 rfl]; rfl
  · simp only [h1 rfl]; rfl
theorem v_iteMD {x y : PyData} (h : ev cs cf c e = .ok (.v (.bool p)) e1) (h1 : p = true → ev cs cf a e1 = .ok (.v x) e1) (h2 : p = false → ev cs cf b e1 = .ok (.v y) e1) : ev cs cf (.ite c a b) e = .ok (.v (if p = true then x else y)) e1 := by
  simp only [ev, h, Rs.bind, W.val]
  cases p
  · simp only [h2 rfl]; rfl
  · simp only [h1 rfl]; rfl
theorem v_iteMB {x y : Bool} (h : ev cs cf c e = .ok (.v (.bool p)) e1) (h1 : p = true → ev cs cf a e1 = .ok (.v (.bool x)) e1) (h2 : p = false → ev cs cf b e1 = .ok (.v (.bool y)) e1) : ev cs cf (.ite c a b) e = .ok (.v (.bool (if p = true then x else y))) e1 := by
  simp only [ev, h, Rs.bind, W.val]
  cases p
  · simp only [h2 rfl]; rfl
  · simp only [h1 rfl]; rfl
theorem o_subB (x y : Bool) : opB .Sub (.bool x) (.bool y) = some (.v (.int (b2i x - b2i y))) := rfl
theorem divS {j : Int} (h : 0 < j) (h' : j < 18446744073709551616) : 0 < j ∧ j.natAbs.log2 < 9000 := ⟨h, log_small (Nat.lt_trans (show j.natAbs < 2 ^ 64 by omega) pow64)⟩
theorem o_divG {x y : Int} (h : 0 < y ∧ y.natAbs.log2 < 9000) : opB .FloorDiv (.int x) (.int y) = some (.v (.int (x / y))) := o_div h.1 h.2
theorem tapp_ok (x y : List PyData) (h : x.length + y.length ≤ 1000) : opB .Add (.tuple x) (.tuple y) = some (.v (.tuple (x ++ y))) := by
  show (if x.length + y.length ≤ sizeLine then some (W.v (.tuple (x ++ y))) else none) = _
  rw [if_pos (siz h)]
theorem ints_map {α : Type} (f : α → Int) : ∀ L : List α, intsOf (L.map (fun a => PyData.int (f a))) = some (L.map f)
  | [] => rfl
  | a :: r => by
    show (intsOf (r.map (fun a => PyData.int (f a)))).map (f a :: ·) = _
    rw [ints_map f r]; rfl
theorem n_sum {α : Type} (f : α → Int) (L : List α) : opBi .sum [.list (L.map (fun a => PyData.int (f a)))] = some (.v (.int (L.map f).sum)) := by
  show (intsOf _).map _ = _
  rw [ints_map]; rfl
theorem n_any {α : Type} (p : α → Bool) (L : List α) : opBi .any [.list (L.map (fun a => PyData.bool (p a)))] = some (.v (.bool (L.any p))) := by
  show (boolsOf _).map _ = _
  rw [bools_map]
  show some (W.v (.bool ((L.map p).any id))) = _
  rw [List.any_map]; rfl
theorem pairs_map {α : Type} (f : α → Int × Int) : ∀ L : List α, pairsOf (L.map (fun a => pd (f a))) = some (L.map f)
  | [] => rfl
  | a :: r => by
    show (pairsOf (r.map (fun a => pd (f a)))).map (f a :: ·) = _
    rw [pairs_map f r]; rfl
theorem n_sortP (L : List (Int × Int)) : opBi .sorted [.list (L.map pd)] = some (.own ((sortX L).map pd)) := by
  show (match intsOf (L.map pd) with
    | some ns => some (W.own ((sortI ns).map PyData.int))
    | none => srtW (L.map pd)) = _
  cases L with
  | nil => rfl
  | cons a r =>
    have e : intsOf ((a :: r).map pd) = none := rfl
    rw [e]
    have := pairs_map id (a :: r)
    have e2 : ((a :: r).map fun x => pd (id x)) = (a :: r).map pd := rfl
    rw [e2] at this
    show srtW ((a :: r).map pd) = _
    unfold srtW
    rw [this, List.map_id]
    rfl
theorem v_revT (h1 : ev cs cf a e = .ok w e1) (h2 : opRev w.val = some w2) : ev cs cf (.rev a) e = .ok w2 e1 := by simp only [ev, h1, Rs.bind, h2]; rfl
theorem v_srtT (h1 : ev cs cf a e = .ok w e1) (h2 : opSrt w.val = some w2) : ev cs cf (.srt a) e = .ok w2 e1 := by simp only [ev, h1, Rs.bind, h2]; rfl
theorem v_lend {a : E} (h : ev cs cf a (frzE e) = .ok w e1) (h2 : flat1 w.val = true) : ev cs cf (.lend a) e = .ok (.v w.val) e := by
  simp only [ev, h, h2, if_true]
theorem v_lendB (h : ev cs cf a (frzE e) = .ok (.v (.bool p)) e1) : ev cs cf (.lend a) e = .ok (.v (.bool p)) e := v_lend h rfl
theorem v_orTT (h : ev cs cf a e = .ok w e1) (h2 : truth w.val = some true) : ev cs cf (.orT a b) e = .ok w e1 := by simp only [ev, h, Rs.bind, h2]
theorem v_orTF (h : ev cs cf a e = .ok w e1) (h2 : truth w.val = some false) (h3 : ev cs cf b e1 = .ok w2 e2) : ev cs cf (.orT a b) e = .ok w2 e2 := by simp only [ev, h, Rs.bind, h2, h3]
theorem v_callK1 {f : Nat} {bb : Option W} (h : ev cs cf a e = .ok w1 e1) (h2 : cf f [.v w1.val] = .ok w bb) : ev cs cf (.callK1 f a) e = .ok w e1 := by simp only [ev, h, Rs.bind, h2]
theorem x_aug {x y z : PyData} (h0 : e[i]? = some (some (.v x))) (h1 : ev cs cf a e = .ok w e1) (h2 : opA o x w.val = some z) (h3 : stI bw i (.v z) e1 = some e2) : ex cs cf bw (.aug i o a) e = .nx e2 := by
  simp only [ex, h0, h1, Rs.fl, h2, h3]; rfl
theorem x_exp (h1 : ev cs cf a e = .ok w e1) : ex cs cf bw (.exp a) e = .nx e1 := by simp only [ex, h1, Rs.fl]
theorem x_retN : ex cs cf bw .retN e = .ret (.v .none) e := by simp only [ex]
theorem x_pk2 {ka kb : Bool} (h1 : ev cs cf a e = .ok w1 e1) (h2 : ev cs cf b e1 = .ok w2 e2) (h3 : stI bw i (w1.keep ka) e2 = some e3) (h4 : stI bw j (w2.keep kb) e3 = some e4) : ex cs cf bw (.pk2 i j ka kb a b) e = .nx e4 := by
  simp only [ex, h1, h2, Rs.fl, h3, Option.bind, h4]; rfl
/-! comprehensions with two generators, over lists known by their items -/
def fP (cs : List PyData) (cf : CF) (vs : List Nat) (t : T) (c : E) (vs1 : List Nat) (t1 : T) (src1 c1 el : E) (d : PyData) (e2 : En) : Rs (List PyData) := match asT false t d e2 with
  | some e3 => (ev cs cf c e3).bind fun k e4 => match k.val with
    | .bool true => (ev cs cf src1 e4).bind fun y e5 => match seqOf y.val with
      | some ds1 => match loopC (fQ cs cf vs1 t1 c1 el) ds1 (wipeE e5 vs1) with
        | .ok r e6 => .ok r (wipeE e6 vs)
        | _ => .stuck
      | none => .stuck
    | .bool false => .ok [] (wipeE e4 vs)
    | _ => .stuck
  | none => .stuck
theorem loopF_map {α : Type} {F : PyData → En → Rs (List PyData)} {f : α → PyData} {g : α → List PyData} {e0 : En} : ∀ L : List α, (∀ a ∈ L, F (f a) e0 = .ok (g a) e0) → loopF F (L.map f) e0 = .ok (L.flatMap g) e0
  | [], _ => rfl
  | a :: r, h => by
    show (match F (f a) e0 with
      | .ok o e1 => match loopF F (r.map f) e1 with
        | .ok s e2 => Rs.ok (o ++ s) e2
        | z => z
      | _ => .stuck) = _
    rw [h a List.mem_cons_self]
    simp only
    rw [loopF_map r fun x hx => h x (List.mem_cons_of_mem _ hx)]
    rfl
theorem fP_T {α : Type} {vs : List Nat} {t : T} {src1 c1 el : E} {vs1 : List Nat} {t1 : T} {f : α → PyData} {L : List α} {g : α → Option PyData} (h1 : asT false t d e2 = some e3) (h2 : ev cs cf c e3 = .ok (.v (.bool true)) e3) (h3 : ev cs cf src1 e3 = .ok w e4) (h4 : seqOf w.val = some (L.map f))
    (hb : ∀ a ∈ L, fQ cs cf vs1 t1 c1 el (f a) (wipeE e4 vs1) = .ok (g a) (wipeE e4 vs1)) (h5 : wipeE (wipeE e4 vs1) vs = e) : fP cs cf vs t c vs1 t1 src1 c1 el d e2 = .ok (L.filterMap g) e := by
  have e0 : fP cs cf vs t c vs1 t1 src1 c1 el d e2 = match seqOf w.val with
      | some ds1 => match loopC (fQ cs cf vs1 t1 c1 el) ds1 (wipeE e4 vs1) with
        | .ok r e6 => .ok r (wipeE e6 vs)
        | _ => .stuck
      | none => .stuck := by
    simp only [fP, h1, h2, h3, Rs.bind]; rfl
  rw [e0, h4]
  simp only
  rw [loopC_map L hb]
  simp only [h5]
theorem v_comp2 {α : Type} {vs : List Nat} {t : T} {src src1 c1 el : E} {vs1 : List Nat} {t1 : T} {f : α → PyData} {L : List α} {g : α → List PyData} (h : ev cs cf src e = .ok w e1) (h1 : seqOf w.val = some (L.map f)) (hz : (L.flatMap g).length ≤ 1000000)
    (hb : ∀ a ∈ L, fP cs cf vs t c vs1 t1 src1 c1 el (f a) (wipeE e1 vs) = .ok (g a) (wipeE e1 vs)) (hk : backE e1 (wipeE e1 vs) vs = e1) :
    ev cs cf (.comp2 vs t src c vs1 t1 src1 c1 el) e = .ok (.own (L.flatMap g)) e1 := by
  have e0 : ev cs cf (.comp2 vs t src c vs1 t1 src1 c1 el) e = (ev cs cf src e).bind fun x e1 => match seqOf x.val with
    | some ds => match loopF (fP cs cf vs t c vs1 t1 src1 c1 el) ds (wipeE e1 vs) with
      | .ok r e2 => if r.length ≤ sizeLine then .ok (.own r) (backE e1 e2 vs) else .stuck
      | _ => .stuck
    | none => .stuck := rfl
  rw [e0, h]
  simp only [Rs.bind, h1]
  rw [loopF_map L hb]
  simp only
  rw [if_pos (siz6 hz), hk]
end
end TD

set_option maxHeartbeats 1000000
namespace TD
open PySem PySem.Spec PyProof.Rows L2
/-! ### more slots filled do no harm -/
def Le (e e' : En) : Prop := e.length = e'.length ∧ ∀ (i : Nat) (w : W), e[i]? = some (some w) → e'[i]? = some (some w)
theorem Le.refl (e : En) : Le e e := ⟨rfl, fun _ _ h => h⟩
theorem Le.trans {a b c : En} (h : Le a b) (g : Le b c) : Le a c := ⟨h.1.trans g.1, fun i w q => g.2 i w (h.2 i w q)⟩
theorem Le.set {e e' : En} (h : Le e e') (i : Nat) (o : Option W) : Le (e.set i o) (e'.set i o) := by
  refine ⟨by rw [List.length_set, List.length_set, h.1], fun j w q => ?_⟩
  rw [List.getElem?_set] at q ⊢
  by_cases c : i = j
  · rw [if_pos c] at q ⊢
    rw [← h.1]
    exact q
  · rw [if_neg c] at q ⊢
    exact h.2 j w q
theorem Le.wipe {e e' : En} (h : Le e e') : ∀ vs, Le (wipeE e vs) (wipeE e' vs)
  | [] => h
  | i :: vs => (h.wipe vs).set i none
theorem Le.frz {e e' : En} (h : Le e e') : Le (frzE e) (frzE e') := by
  refine ⟨by unfold frzE; rw [List.length_map, List.length_map, h.1], fun i w q => ?_⟩
  unfold frzE at q ⊢
  rw [List.getElem?_map] at q ⊢
  cases hq : e[i]? with
  | none => rw [hq] at q; cases q
  | some o =>
    rw [hq] at q
    cases o with
    | none => cases q
    | some x => rw [h.2 i x hq]; exact q
def Mo {α : Type} : Rs α → Rs α → Prop
  | .ok w e, r => ∃ e', r = .ok w e' ∧ Le e e'
  | .exc c p e, r => ∃ e', r = .exc c p e' ∧ Le e e'
  | .stuck, _ => True
theorem Mo.ok {α : Type} {w : α} {e e' : En} (h : Le e e') : Mo (.ok w e) (.ok w e') := ⟨e', rfl, h⟩
theorem Mo.bind {α β : Type} {r r' : Rs α} {f f' : α → En → Rs β} (h : Mo r r') (g : ∀ w e e', Le e e' → Mo (f w e) (f' w e')) : Mo (r.bind f) (r'.bind f') := by
  cases r with
  | ok w e => obtain ⟨e', rfl, l⟩ := h; exact g w e e' l
  | exc c p e => obtain ⟨e', rfl, l⟩ := h; exact ⟨e', rfl, l⟩
  | stuck => trivial
theorem Mo.of {α : Type} {o : Option α} {e e' : En} (h : Le e e') : Mo (Rs.of o e) (Rs.of o e') := by
  cases o with
  | none => trivial
  | some a => exact Mo.ok h
theorem asT_mo {bw : Bool} : ∀ (t : T) (d : PyData) {e e' e1 : En}, Le e e' → asT bw t d e = some e1 → ∃ e1', asT bw t d e' = some e1' ∧ Le e1 e1'
  | .n i, d, e, e', e1, h, q => by
    have q : stI bw i (.v d) e = some e1 := q
    show ∃ e1', stI bw i (.v d) e' = some e1' ∧ _
    unfold stI at q ⊢
    by_cases c : bw = true ∧ i = 0
    · rw [if_pos c] at q; cases q
    · rw [if_neg c] at q ⊢
      rw [← h.1]
      by_cases c2 : i < e.length
      · rw [if_pos c2] at q ⊢
        cases q
        exact ⟨_, rfl, h.set i _⟩
      · rw [if_neg c2] at q; cases q
  | .t ts, d, e, e', e1, h, q => by
    cases d <;> first | exact asT_mo ts _ h q | cases q
  | .nil, d, e, e', e1, h, q => by
    match d, q with
    | .tuple [], q => cases q; exact ⟨e', rfl, h⟩
  | .cons a b, d, e, e', e1, h, q => by
    match d, q with
    | .tuple (x :: xs), q =>
      have q : (asT bw a x e).bind (fun e1 => asT bw b (.tuple xs) e1) = some e1 := q
      show ∃ e1', (asT bw a x e').bind (fun e1 => asT bw b (.tuple xs) e1) = some e1' ∧ _
      cases h1 : asT bw a x e with
      | none => rw [h1] at q; cases q
      | some e2 =>
        rw [h1] at q
        obtain ⟨e2', g1, g2⟩ := asT_mo a x h h1
        rw [g1]
        exact asT_mo b _ g2 q
theorem loopC_mo {f f' : PyData → En → Rs (Option PyData)} (hf : ∀ d e e', Le e e' → Mo (f d e) (f' d e')) : ∀ (ds : List PyData) {e e' : En}, Le e e' → Mo (loopC f ds e) (loopC f' ds e')
  | [], e, e', h => Mo.ok h
  | d :: ds, e, e', h => by
    have h1 := hf d e e' h
    unfold loopC
    cases hr : f d e with
    | stuck => trivial
    | exc c p e1 => trivial
    | ok o e1 =>
      rw [hr] at h1
      obtain ⟨e1', q, l⟩ := h1
      rw [q]
      simp only
      have h2 := loopC_mo hf ds l
      cases hs : loopC f ds e1 with
      | stuck => trivial
      | exc c p e2 =>
        rw [hs] at h2
        obtain ⟨e2', q2, l2⟩ := h2
        rw [q2]
        exact ⟨e2', rfl, l2⟩
      | ok r e2 =>
        rw [hs] at h2
        obtain ⟨e2', q2, l2⟩ := h2
        rw [q2]
        exact ⟨e2', rfl, l2⟩
theorem loopF_mo {f f' : PyData → En → Rs (List PyData)} (hf : ∀ d e e', Le e e' → Mo (f d e) (f' d e')) : ∀ (ds : List PyData) {e e' : En}, Le e e' → Mo (loopF f ds e) (loopF f' ds e')
  | [], e, e', h => Mo.ok h
  | d :: ds, e, e', h => by
    have h1 := hf d e e' h
    unfold loopF
    cases hr : f d e with
    | stuck => trivial
    | exc c p e1 => trivial
    | ok o e1 =>
      rw [hr] at h1
      obtain ⟨e1', q, l⟩ := h1
      rw [q]
      simp only
      have h2 := loopF_mo hf ds l
      cases hs : loopF f ds e1 with
      | stuck => trivial
      | exc c p e2 =>
        rw [hs] at h2
        obtain ⟨e2', q2, l2⟩ := h2
        rw [q2]
        exact ⟨e2', rfl, l2⟩
      | ok r e2 =>
        rw [hs] at h2
        obtain ⟨e2', q2, l2⟩ := h2
        rw [q2]
        exact ⟨e2', rfl, l2⟩
theorem loopC_length {f : PyData → En → Rs (Option PyData)} (hf : ∀ d e o e1, f d e = .ok o e1 → e1.length = e.length) : ∀ (ds : List PyData) {e e1 : En} {r : List PyData}, loopC f ds e = .ok r e1 → e1.length = e.length
  | [], e, e1, r, h => by cases h; rfl
  | d :: ds, e, e1, r, h => by
    obtain ⟨o, e2, r', h1, h2, _⟩ := loopC_cons h
    rw [loopC_length hf ds h2, hf _ _ _ _ h1]
theorem loopF_length {f : PyData → En → Rs (List PyData)} (hf : ∀ d e o e1, f d e = .ok o e1 → e1.length = e.length) : ∀ (ds : List PyData) {e e1 : En} {r : List PyData}, loopF f ds e = .ok r e1 → e1.length = e.length
  | [], e, e1, r, h => by cases h; rfl
  | d :: ds, e, e1, r, h => by
    obtain ⟨o, e2, r', h1, h2, _⟩ := loopF_cons h
    rw [loopF_length hf ds h2, hf _ _ _ _ h1]
/-- a guarded put-back: no lengths are asked -/
theorem Le.back' {e e' f f' : En} (h : Le e e') (g : Le f f') : ∀ vs, Le (backE e f vs) (backE e' f' vs)
  | [] => g
  | i :: vs => by
    have ih := Le.back' h g vs
    unfold backE
    cases hq : e[i]? with
    | none =>
      have : e'[i]? = none := List.getElem?_eq_none_iff.mpr (Nat.le_trans (Nat.le_of_eq h.1.symm) (List.getElem?_eq_none_iff.mp hq))
      rw [this]
      exact ih
    | some o =>
      have hi : i < e'.length := by rw [← h.1]; exact (List.getElem?_eq_some_iff.mp hq).1
      rw [List.getElem?_eq_getElem hi]
      refine ⟨by rw [List.length_set, List.length_set, ih.1], fun j w q => ?_⟩
      simp only at q ⊢
      rw [List.getElem?_set] at q ⊢
      by_cases c : i = j
      · rw [if_pos c] at q ⊢
        rw [← ih.1]
        split at q
        · rename_i hlt
          have ho : o = some w := by injection q
          rw [ho] at hq
          have := h.2 i w hq
          rw [List.getElem?_eq_getElem hi] at this
          rw [if_pos hlt]
          exact this
        · cases q
      · rw [if_neg c] at q ⊢
        exact ih.2 j w q
section
variable {cs : List PyData} {cf : CF}
/-- a slot that is read -/
theorem Le.get {e e' : En} (h : Le e e') {i : Nat} {w : W} (q : e[i]? = some (some w)) : e'[i]? = some (some w) := h.2 i w q
theorem slot_cases3 (e : En) (i : Nat) : e[i]? = none ∨ e[i]? = some none ∨ ∃ w, e[i]? = some (some w) := by
  cases h : e[i]? with
  | none => exact .inl rfl
  | some o => cases o with
    | none => exact .inr (.inl rfl)
    | some w => exact .inr (.inr ⟨w, rfl⟩)
theorem ev_mo : ∀ (a : E) (e e' : En), Le e e' → Mo (ev cs cf a e) (ev cs cf a e') := by
  intro a
  induction a with
  | var i =>
    intro e e' h
    rcases slot_cases3 e i with q | q | ⟨w, q⟩
    · simp only [ev, q]; trivial
    · simp only [ev, q]; trivial
    · simp only [ev, q, h.get q]
      cases w with
      | v d => exact Mo.ok h
      | own ds => exact Mo.ok (h.set i _)
      | scr ds => trivial
  | mv i =>
    intro e e' h
    rcases slot_cases3 e i with q | q | ⟨w, q⟩
    · simp only [ev, q]; trivial
    · simp only [ev, q]; trivial
    · simp only [ev, q, h.get q]
      cases w with
      | v d => exact Mo.ok h
      | own ds => exact Mo.ok (h.set i _)
      | scr ds => trivial
  | int i => intro e e' h; exact Mo.ok h
  | str i => intro e e' h; exact Mo.ok h
  | bl i => intro e e' h; exact Mo.ok h
  | non => intro e e' h; exact Mo.ok h
  | glb j => intro e e' h; exact Mo.of h
  | bin o a b ha hb => intro e e' h; exact Mo.bind (ha e e' h) fun x e1 e1' h1 => Mo.bind (hb e1 e1' h1) fun y e2 e2' h2 => Mo.of h2
  | neg a ha =>
    intro e e' h
    refine Mo.bind (ha e e' h) fun x e1 e1' h1 => ?_
    generalize x.val = d
    cases d <;> first | trivial | exact Mo.ok h1
  | cmp o a b ha hb => intro e e' h; exact Mo.bind (ha e e' h) fun x e1 e1' h1 => Mo.bind (hb e1 e1' h1) fun y e2 e2' h2 => Mo.of h2
  | chn o p a b c ha hb hc =>
    intro e e' h
    refine Mo.bind (ha e e' h) fun x e1 e1' h1 => Mo.bind (hb e1 e1' h1) fun y e2 e2' h2 => ?_
    generalize opC o x.val y.val = k
    match k with
    | none => trivial
    | some false => exact Mo.ok h2
    | some true => exact Mo.bind (hc e2 e2' h2) fun z e3 e3' h3 => Mo.of h3
  | and a b ha hb =>
    intro e e' h
    refine Mo.bind (ha e e' h) fun x e1 e1' h1 => ?_
    generalize x.val = d
    match d with
    | .bool true => exact hb e1 e1' h1
    | .bool false => exact Mo.ok h1
    | .none => trivial
    | .int _ => trivial
    | .str _ => trivial
    | .list _ => trivial
    | .tuple _ => trivial
    | .dict _ => trivial
  | or a b ha hb =>
    intro e e' h
    refine Mo.bind (ha e e' h) fun x e1 e1' h1 => ?_
    generalize x.val = d
    match d with
    | .bool true => exact Mo.ok h1
    | .bool false => exact hb e1 e1' h1
    | .none => trivial
    | .int _ => trivial
    | .str _ => trivial
    | .list _ => trivial
    | .tuple _ => trivial
    | .dict _ => trivial
  | one a ha => exact ha
  | not a ha =>
    intro e e' h
    refine Mo.bind (ha e e' h) fun x e1 e1' h1 => ?_
    generalize x.val = d
    cases d <;> first | trivial | exact Mo.ok h1
  | orT a b ha hb =>
    intro e e' h
    refine Mo.bind (ha e e' h) fun x e1 e1' h1 => ?_
    generalize hk : truth x.val = k
    match k with
    | none => trivial
    | some true => exact Mo.ok h1
    | some false => exact hb e1 e1' h1
  | ite c a b hc ha hb =>
    intro e e' h
    refine Mo.bind (hc e e' h) fun x e1 e1' h1 => ?_
    generalize x.val = d
    match d with
    | .bool true => exact ha e1 e1' h1
    | .bool false => exact hb e1 e1' h1
    | .none => trivial
    | .int _ => trivial
    | .str _ => trivial
    | .list _ => trivial
    | .tuple _ => trivial
    | .dict _ => trivial
  | nil => intro e e' h; exact Mo.ok h
  | cons a es ha hs =>
    intro e e' h
    refine Mo.bind (ha e e' h) fun x e1 e1' h1 => Mo.bind (hs e1 e1' h1) fun y e2 e2' h2 => ?_
    cases y <;> first | trivial | exact Mo.ok h2
  | tup es hs =>
    intro e e' h
    refine Mo.bind (hs e e' h) fun x e1 e1' h1 => ?_
    cases x with
    | own ds =>
      by_cases c : ds.length ≤ sizeLine
      · simp only [c, if_true]; exact Mo.ok h1
      · simp only [c, if_false]; trivial
    | v d => trivial
    | scr d => trivial
  | lst es hs =>
    intro e e' h
    refine Mo.bind (hs e e' h) fun x e1 e1' h1 => ?_
    cases x with
    | own ds =>
      by_cases c : ds.length ≤ sizeLine
      · simp only [c, if_true]; exact Mo.ok h1
      · simp only [c, if_false]; trivial
    | v d => trivial
    | scr d => trivial
  | ix a i ha hi => intro e e' h; exact Mo.bind (ha e e' h) fun x e1 e1' h1 => Mo.bind (hi e1 e1' h1) fun y e2 e2' h2 => Mo.of h2
  | ixV v i hi =>
    intro e e' h
    rcases slot_cases3 e v with q | q | ⟨w, q⟩
    · simp only [ev, q]; trivial
    · simp only [ev, q]; trivial
    · simp only [ev, q, h.get q]
      refine Mo.bind (hi e e' h) fun y e2 e2' h2 => ?_
      rcases slot_cases3 e2 v with q | q | ⟨w, q⟩
      · simp only [q]; trivial
      · simp only [q]; trivial
      · simp only [q, h2.get q]
        cases w with
        | v d => exact Mo.of h2
        | own ds => exact Mo.of h2
        | scr ds => trivial
  | lenV v =>
    intro e e' h
    rcases slot_cases3 e v with q | q | ⟨w, q⟩
    · simp only [ev, q]; trivial
    · simp only [ev, q]; trivial
    · simp only [ev, q, h.get q]
      cases w with
      | v d => exact Mo.of h
      | own ds => exact Mo.ok h
      | scr ds => trivial
  | sl a l hh ha hl hhh =>
    intro e e' h
    refine Mo.bind (ha e e' h) fun x e1 e1' h1 => Mo.bind (hl e1 e1' h1) fun y e2 e2' h2 => ?_
    generalize part l y.val = k
    cases k with
    | none => trivial
    | some lo =>
      refine Mo.bind (hhh e2 e2' h2) fun z e3 e3' h3 => ?_
      generalize part hh z.val = k
      cases k with
      | none => trivial
      | some hi => exact Mo.of h3
  | slV v l hh hl hhh =>
    intro e e' h
    rcases slot_cases3 e v with q | q | ⟨w, q⟩
    · simp only [ev, q]; trivial
    · simp only [ev, q]; trivial
    · simp only [ev, q, h.get q]
      cases w with
      | v d => trivial
      | own ds => trivial
      | scr ds =>
        refine Mo.bind (hl e e' h) fun y e2 e2' h2 => ?_
        generalize part l y.val = k
        cases k with
        | none => trivial
        | some lo =>
          refine Mo.bind (hhh e2 e2' h2) fun z e3 e3' h3 => ?_
          generalize part hh z.val = k
          cases k with
          | none => trivial
          | some hi => exact Mo.ok h3
  | rev a ha => intro e e' h; exact Mo.bind (ha e e' h) fun x e1 e1' h1 => Mo.of h1
  | call f es hs =>
    intro e e' h
    refine Mo.bind (hs e e' h) fun x e1 e1' h1 => ?_
    cases x with
    | v d => trivial
    | scr d => trivial
    | own ds =>
      simp only
      generalize cf f (ds.map .v) = r
      cases r with
      | ok w b => exact Mo.ok h1
      | exc c p b => exact ⟨e1', rfl, h1⟩
      | stuck => trivial
  | callB f i es hs =>
    intro e e' h
    rcases slot_cases3 e i with q | q | ⟨w, q⟩
    · simp only [ev, q]; trivial
    · simp only [ev, q]; trivial
    · simp only [ev, q, h.get q]
      refine Mo.bind (hs e e' h) fun x e1 e1' h1 => ?_
      cases x with
      | v d => trivial
      | scr d => trivial
      | own ds =>
        rcases slot_cases3 e1 i with q | q | ⟨w0, q⟩
        · simp only [q]; trivial
        · simp only [q]; trivial
        · simp only [q, h1.get q]
          generalize cf f (w0 :: ds.map .v) = r
          cases r with
          | stuck => trivial
          | ok w b =>
            cases b with
            | none => trivial
            | some b =>
              simp only
              by_cases c : bOk w0 b = true
              · simp only [c, if_true]; exact Mo.ok (h1.set i _)
              · simp only [c, if_false]; trivial
          | exc cc p b =>
            cases b with
            | none => trivial
            | some b =>
              simp only
              by_cases c : bOk w0 b = true
              · simp only [c, if_true]; exact ⟨_, rfl, h1.set i _⟩
              · simp only [c, if_false]; trivial
  | bi b es hs =>
    intro e e' h
    refine Mo.bind (hs e e' h) fun x e1 e1' h1 => ?_
    cases x <;> first | trivial | exact Mo.of h1
  | isi a ts ha => intro e e' h; exact Mo.bind (ha e e' h) fun x e1 e1' h1 => Mo.ok h1
  | it k es hs =>
    intro e e' h
    refine Mo.bind (hs e e' h) fun x e1 e1' h1 => ?_
    cases x <;> first | trivial | exact Mo.of h1
  | comp vs t src c el hsrc hc hel =>
    intro e e' h
    refine Mo.bind (hsrc e e' h) fun x e1 e1' h1 => ?_
    generalize seqOf x.val = k
    cases k with
    | none => trivial
    | some ds =>
      simp only
      have hl := loopC_mo (f := fQ cs cf vs t c el) (f' := fQ cs cf vs t c el) (fun d e2 e2' h2 => by
        unfold fQ
        cases ha : asT false t d e2 with
        | none => trivial
        | some e3 =>
          obtain ⟨e3', g1, g2⟩ := asT_mo t d h2 ha
          rw [g1]
          refine Mo.bind (hc e3 e3' g2) fun k e4 e4' h4 => ?_
          generalize k.val = d
          match d with
          | .bool true => exact Mo.bind (hel e4 e4' h4) fun y e5 e5' h5 => Mo.ok (h5.wipe vs)
          | .bool false => exact Mo.ok (h4.wipe vs)
          | .none => trivial
          | .int _ => trivial
          | .str _ => trivial
          | .list _ => trivial
          | .tuple _ => trivial
          | .dict _ => trivial) ds (h1.wipe vs)
      show Mo (match loopC (fQ cs cf vs t c el) ds (wipeE e1 vs) with
        | .ok r e2 => if r.length ≤ sizeLine then Rs.ok (W.own r) (backE e1 e2 vs) else .stuck
        | _ => .stuck) (match loopC (fQ cs cf vs t c el) ds (wipeE e1' vs) with
        | .ok r e2 => if r.length ≤ sizeLine then Rs.ok (W.own r) (backE e1' e2 vs) else .stuck
        | _ => .stuck)
      cases hr : loopC (fQ cs cf vs t c el) ds (wipeE e1 vs) with
      | stuck => trivial
      | exc _ _ _ => trivial
      | ok r e2 =>
        rw [hr] at hl
        obtain ⟨e2', q2, l2⟩ := hl
        rw [q2]
        simp only
        by_cases c : r.length ≤ sizeLine
        · simp only [c, if_true]; exact Mo.ok (h1.back' l2 vs)
        · simp only [c, if_false]; trivial
  | comp2 vs t src c vs1 t1 src1 c1 el hsrc hc hsrc1 hc1 hel =>
    intro e e' h
    refine Mo.bind (hsrc e e' h) fun x e1 e1' h1 => ?_
    generalize seqOf x.val = k
    cases k with
    | none => trivial
    | some ds =>
      simp only
      have hl := loopF_mo (f := fP cs cf vs t c vs1 t1 src1 c1 el) (f' := fP cs cf vs t c vs1 t1 src1 c1 el) (fun d e2 e2' h2 => by
        unfold fP
        cases ha : asT false t d e2 with
        | none => trivial
        | some e3 =>
          obtain ⟨e3', g1, g2⟩ := asT_mo t d h2 ha
          rw [g1]
          refine Mo.bind (hc e3 e3' g2) fun k e4 e4' h4 => ?_
          generalize k.val = d
          match d with
          | .bool true =>
            refine Mo.bind (hsrc1 e4 e4' h4) fun y e5 e5' h5 => ?_
            generalize seqOf y.val = k
            cases k with
            | none => trivial
            | some ds1 =>
              simp only
              have hm := loopC_mo (f := fQ cs cf vs1 t1 c1 el) (f' := fQ cs cf vs1 t1 c1 el) (fun d e2 e2' h2 => by
                unfold fQ
                cases ha : asT false t1 d e2 with
                | none => trivial
                | some e3 =>
                  obtain ⟨e3', g1, g2⟩ := asT_mo t1 d h2 ha
                  rw [g1]
                  refine Mo.bind (hc1 e3 e3' g2) fun k e4 e4' h4 => ?_
                  generalize k.val = d
                  match d with
                  | .bool true => exact Mo.bind (hel e4 e4' h4) fun y e5 e5' h5 => Mo.ok (h5.wipe vs1)
                  | .bool false => exact Mo.ok (h4.wipe vs1)
                  | .none => trivial
                  | .int _ => trivial
                  | .str _ => trivial
                  | .list _ => trivial
                  | .tuple _ => trivial
                  | .dict _ => trivial) ds1 (h5.wipe vs1)
              cases hr : loopC (fQ cs cf vs1 t1 c1 el) ds1 (wipeE e5 vs1) with
              | stuck => trivial
              | exc _ _ _ => trivial
              | ok r e6 =>
                rw [hr] at hm
                obtain ⟨e6', q6, l6⟩ := hm
                rw [q6]
                exact Mo.ok (l6.wipe vs)
          | .bool false => exact Mo.ok (h4.wipe vs)
          | .none => trivial
          | .int _ => trivial
          | .str _ => trivial
          | .list _ => trivial
          | .tuple _ => trivial
          | .dict _ => trivial) ds (h1.wipe vs)
      show Mo (match loopF (fP cs cf vs t c vs1 t1 src1 c1 el) ds (wipeE e1 vs) with
        | .ok r e2 => if r.length ≤ sizeLine then Rs.ok (W.own r) (backE e1 e2 vs) else .stuck
        | _ => .stuck) (match loopF (fP cs cf vs t c vs1 t1 src1 c1 el) ds (wipeE e1' vs) with
        | .ok r e2 => if r.length ≤ sizeLine then Rs.ok (W.own r) (backE e1' e2 vs) else .stuck
        | _ => .stuck)
      cases hr : loopF (fP cs cf vs t c vs1 t1 src1 c1 el) ds (wipeE e1 vs) with
      | stuck => trivial
      | exc _ _ _ => trivial
      | ok r e2 =>
        rw [hr] at hl
        obtain ⟨e2', q2, l2⟩ := hl
        rw [q2]
        simp only
        by_cases c : r.length ≤ sizeLine
        · simp only [c, if_true]; exact Mo.ok (h1.back' l2 vs)
        · simp only [c, if_false]; trivial
  | lend a ha =>
    intro e e' h
    have h1 := ha _ _ h.frz
    simp only [ev]
    cases hr : ev cs cf a (frzE e) with
    | stuck => trivial
    | exc c p e1 =>
      rw [hr] at h1
      obtain ⟨e1', q, l⟩ := h1
      rw [q]
      cases p with
      | none => exact ⟨e', rfl, h⟩
      | some p => trivial
    | ok w e1 =>
      rw [hr] at h1
      obtain ⟨e1', q, l⟩ := h1
      rw [q]
      simp only
      by_cases c : flat1 w.val = true
      · simp only [c, if_true]; exact Mo.ok h
      · simp only [c, if_false]; trivial
  | lrg t es hs =>
    intro e e' h
    refine Mo.bind (hs e e' h) fun x e1 e1' h1 => ?_
    cases x <;> first | trivial | exact Mo.of h1
  | popV v i hi =>
    intro e e' h
    rcases slot_cases3 e v with q | q | ⟨w, q⟩
    · simp only [ev, q]; trivial
    · simp only [ev, q]; trivial
    · simp only [ev, q, h.get q]
      cases w with
      | v d => trivial
      | scr d => trivial
      | own ds0 =>
        refine Mo.bind (hi e e' h) fun y e1 e1' h1 => ?_
        rcases slot_cases3 e1 v with q | q | ⟨w, q⟩
        · simp only [q]; trivial
        · simp only [q]; trivial
        · simp only [q, h1.get q]
          cases w with
          | v d => trivial
          | scr d => trivial
          | own ds =>
            generalize y.val = k
            cases k <;> first | trivial | skip
            rename_i k
            simp only
            generalize (if inRg k = true then ixN ds.length k else none) = j
            cases j with
            | none => trivial
            | some j =>
              simp only
              cases ds[j]? with
              | none => trivial
              | some d => exact Mo.ok (h1.set v _)
  | callK1 f a ha =>
    intro e e' h
    refine Mo.bind (ha e e' h) fun x e1 e1' h1 => ?_
    generalize cf f [.v x.val] = r
    cases r with
    | ok w b => exact Mo.ok h1
    | exc c p b => exact ⟨e1', rfl, h1⟩
    | stuck => trivial
  | callK2 f a b ha hb =>
    intro e e' h
    refine Mo.bind (ha e e' h) fun x e1 e1' h1 => Mo.bind (hb e1 e1' h1) fun y e2 e2' h2 => ?_
    generalize cf f [.v x.val, .v y.val] = r
    cases r with
    | ok w b => exact Mo.ok h2
    | exc c p b => exact ⟨e2', rfl, h2⟩
    | stuck => trivial
  | srt a ha => intro e e' h; exact Mo.bind (ha e e' h) fun x e1 e1' h1 => Mo.of h1
  | lset a ha => intro e e' h; exact Mo.bind (ha e e' h) fun x e1 e1' h1 => Mo.of h1
end
end TD

set_option maxHeartbeats 1000000
namespace TD
open PySem PySem.Spec PyProof.Rows L2
def MoF : Fl → Fl → Prop
  | .nx e, r => ∃ e', r = .nx e' ∧ Le e e'
  | .ret w e, r => ∃ e', r = .ret w e' ∧ Le e e'
  | .bk e, r => ∃ e', r = .bk e' ∧ Le e e'
  | .ct e, r => ∃ e', r = .ct e' ∧ Le e e'
  | .exc c p e, r => ∃ e', r = .exc c p e' ∧ Le e e'
  | .stuck, _ => True
theorem MoF.fl {α : Type} {r r' : Rs α} {f f' : α → En → Fl} (h : Mo r r') (g : ∀ w e e', Le e e' → MoF (f w e) (f' w e')) : MoF (r.fl f) (r'.fl f') := by
  cases r with
  | ok w e => obtain ⟨e', rfl, l⟩ := h; exact g w e e' l
  | exc c p e => obtain ⟨e', rfl, l⟩ := h; exact ⟨e', rfl, l⟩
  | stuck => trivial
theorem MoF.nx {e e' : En} (h : Le e e') : MoF (.nx e) (.nx e') := ⟨e', rfl, h⟩
theorem stI_mo {bw : Bool} {i : Nat} {w : W} {e e' e1 : En} (h : Le e e') (q : stI bw i w e = some e1) : ∃ e1', stI bw i w e' = some e1' ∧ Le e1 e1' := by
  unfold stI at q ⊢
  by_cases c : bw = true ∧ i = 0
  · rw [if_pos c] at q; cases q
  · rw [if_neg c] at q ⊢
    rw [← h.1]
    by_cases c2 : i < e.length
    · rw [if_pos c2] at q ⊢
      cases q
      exact ⟨_, rfl, h.set i _⟩
    · rw [if_neg c2] at q; cases q
theorem MoF.ofE {o o' : Option En} (h : ∀ e1, o = some e1 → ∃ e1', o' = some e1' ∧ Le e1 e1') : MoF (.ofE o) (.ofE o') := by
  cases o with
  | none => trivial
  | some e1 =>
    obtain ⟨e1', q, l⟩ := h e1 rfl
    rw [q]
    exact MoF.nx l
theorem MoF.seq {r r' : Fl} {f f' : En → Fl} (h : MoF r r') (g : ∀ e e', Le e e' → MoF (f e) (f' e')) : MoF (r.seq f) (r'.seq f') := by
  cases r with
  | nx e => obtain ⟨e', rfl, l⟩ := h; exact g e e' l
  | ret w e => obtain ⟨e', rfl, l⟩ := h; exact ⟨e', rfl, l⟩
  | bk e => obtain ⟨e', rfl, l⟩ := h; exact ⟨e', rfl, l⟩
  | ct e => obtain ⟨e', rfl, l⟩ := h; exact ⟨e', rfl, l⟩
  | exc c p e => obtain ⟨e', rfl, l⟩ := h; exact ⟨e', rfl, l⟩
  | stuck => trivial
theorem whlL_mo {c : En → Rs W} {b : En → Fl} (hc : ∀ e e', Le e e' → Mo (c e) (c e')) (hb : ∀ e e', Le e e' → MoF (b e) (b e')) : ∀ (n : Nat) {e e' : En}, Le e e' → MoF (whlL c b n e) (whlL c b n e')
  | 0, e, e', h => trivial
  | n + 1, e, e', h => by
    unfold whlL
    refine MoF.fl (hc e e' h) fun x e1 e1' h1 => ?_
    generalize x.val = d
    match d with
    | .bool true =>
      have h2 := hb e1 e1' h1
      simp only
      cases hr : b e1 with
      | nx e2 => rw [hr] at h2; obtain ⟨e2', q, l⟩ := h2; rw [q]; exact whlL_mo hc hb n l
      | ct e2 => rw [hr] at h2; obtain ⟨e2', q, l⟩ := h2; rw [q]; exact whlL_mo hc hb n l
      | bk e2 => rw [hr] at h2; obtain ⟨e2', q, l⟩ := h2; rw [q]; exact MoF.nx l
      | ret w e2 => rw [hr] at h2; obtain ⟨e2', q, l⟩ := h2; rw [q]; exact ⟨e2', rfl, l⟩
      | exc c p e2 => rw [hr] at h2; obtain ⟨e2', q, l⟩ := h2; rw [q]; exact ⟨e2', rfl, l⟩
      | stuck => trivial
    | .bool false => exact MoF.nx h1
    | .none => trivial
    | .int _ => trivial
    | .str _ => trivial
    | .list _ => trivial
    | .tuple _ => trivial
    | .dict _ => trivial
theorem forL_mo {f : PyData → En → Fl} (hf : ∀ d e e', Le e e' → MoF (f d e) (f d e')) : ∀ (ds : List PyData) {e e' : En}, Le e e' → MoF (forL f ds e) (forL f ds e')
  | [], e, e', h => MoF.nx h
  | d :: ds, e, e', h => by
    have h2 := hf d e e' h
    unfold forL
    cases hr : f d e with
    | nx e2 => rw [hr] at h2; obtain ⟨e2', q, l⟩ := h2; rw [q]; exact forL_mo hf ds l
    | ct e2 => rw [hr] at h2; obtain ⟨e2', q, l⟩ := h2; rw [q]; exact forL_mo hf ds l
    | bk e2 => rw [hr] at h2; obtain ⟨e2', q, l⟩ := h2; rw [q]; exact MoF.nx l
    | ret w e2 => rw [hr] at h2; obtain ⟨e2', q, l⟩ := h2; rw [q]; exact ⟨e2', rfl, l⟩
    | exc c p e2 => rw [hr] at h2; obtain ⟨e2', q, l⟩ := h2; rw [q]; exact ⟨e2', rfl, l⟩
    | stuck => trivial
section
variable {cs : List PyData} {cf : CF} {bw : Bool}
theorem ex_moB : ∀ s : S, (∀ e e', Le e e' → MoF (ex cs cf bw s e) (ex cs cf bw s e')) ∧ (∀ c p e e', Le e e' → MoF (exH cs cf bw s c p e) (exH cs cf bw s c p e')) := by
  intro s
  have noH : ∀ {s : S}, (∀ c p e, exH cs cf bw s c p e = .stuck) → ∀ c p e e', Le e e' → MoF (exH cs cf bw s c p e) (exH cs cf bw s c p e') := fun h c p e e' l => by
    rw [h]; trivial
  induction s with
  | pass => exact ⟨fun e e' h => by simp only [ex]; exact MoF.nx h, noH fun c p e => by simp only [exH]⟩
  | nil => exact ⟨fun e e' h => by simp only [ex]; exact MoF.nx h, fun c p e e' h => by simp only [exH]; exact ⟨e', rfl, h⟩⟩
  | cons a b ha hb => exact ⟨fun e e' h => by simp only [ex]; exact MoF.seq (ha.1 e e' h) fun e1 e1' h1 => hb.1 e1 e1' h1, noH fun c p e => by simp only [exH]⟩
  | exp a => exact ⟨fun e e' h => by simp only [ex]; exact MoF.fl (ev_mo a e e' h) fun w e1 e1' h1 => MoF.nx h1, noH fun c p e => by simp only [exH]⟩
  | asg i a k => exact ⟨fun e e' h => by simp only [ex]; exact MoF.fl (ev_mo a e e' h) fun w e1 e1' h1 => MoF.ofE fun e2 q => stI_mo h1 q, noH fun c p e => by simp only [exH]⟩
  | asgT t a => exact ⟨fun e e' h => by simp only [ex]; exact MoF.fl (ev_mo a e e' h) fun w e1 e1' h1 => MoF.ofE fun e2 q => asT_mo t _ h1 q, noH fun c p e => by simp only [exH]⟩
  | par2 i j es =>
    refine ⟨fun e e' h => ?_, noH fun c p e => by simp only [exH]⟩
    simp only [ex]
    refine MoF.fl (ev_mo es e e' h) fun w e1 e1' h1 => ?_
    match w with
    | .own [a, b] =>
      refine MoF.ofE fun e2 q => ?_
      cases hs : stI bw i (.v a) e1 with
      | none => rw [hs] at q; cases q
      | some e3 =>
        rw [hs] at q
        obtain ⟨e3', g1, g2⟩ := stI_mo h1 hs
        rw [g1]
        exact stI_mo g2 q
    | .own [] => trivial
    | .own [_] => trivial
    | .own (_ :: _ :: _ :: _) => trivial
    | .v _ => trivial
    | .scr _ => trivial
  | par3 i j k es =>
    refine ⟨fun e e' h => ?_, noH fun c p e => by simp only [exH]⟩
    simp only [ex]
    refine MoF.fl (ev_mo es e e' h) fun w e1 e1' h1 => ?_
    match w with
    | .own [a, b, c] =>
      refine MoF.ofE fun e2 q => ?_
      cases hs : stI bw i (.v a) e1 with
      | none => rw [hs] at q; cases q
      | some e3 =>
        rw [hs] at q
        obtain ⟨e3', g1, g2⟩ := stI_mo h1 hs
        rw [g1]
        have q : (stI bw j (.v b) e3).bind (fun e3 => stI bw k (.v c) e3) = some e2 := q
        show ∃ e1', (stI bw j (.v b) e3').bind (fun e3 => stI bw k (.v c) e3) = some e1' ∧ _
        cases hs2 : stI bw j (.v b) e3 with
        | none => rw [hs2] at q; cases q
        | some e4 =>
          rw [hs2] at q
          obtain ⟨e4', g3, g4⟩ := stI_mo g2 hs2
          rw [g3]
          exact stI_mo g4 q
    | .own [] => trivial
    | .own [_] => trivial
    | .own [_, _] => trivial
    | .own (_ :: _ :: _ :: _ :: _) => trivial
    | .v _ => trivial
    | .scr _ => trivial
  | pk2 i j ka kb a b =>
    refine ⟨fun e e' h => ?_, noH fun c p e => by simp only [exH]⟩
    simp only [ex]
    refine MoF.fl (ev_mo a e e' h) fun w1 e1 e1' h1 => MoF.fl (ev_mo b e1 e1' h1) fun w2 e2 e2' h2 => MoF.ofE fun e3 q => ?_
    cases hs : stI bw i (w1.keep ka) e2 with
    | none => rw [hs] at q; cases q
    | some e4 =>
      rw [hs] at q
      obtain ⟨e4', g1, g2⟩ := stI_mo h2 hs
      rw [g1]
      exact stI_mo g2 q
  | pk3 i j k ka kb kc a b c =>
    refine ⟨fun e e' h => ?_, noH fun c p e => by simp only [exH]⟩
    simp only [ex]
    refine MoF.fl (ev_mo a e e' h) fun w1 e1 e1' h1 => MoF.fl (ev_mo b e1 e1' h1) fun w2 e2 e2' h2 => MoF.fl (ev_mo c e2 e2' h2) fun w3 e3 e3' h3 => MoF.ofE fun e4 q => ?_
    cases hs : stI bw i (w1.keep ka) e3 with
    | none => rw [hs] at q; cases q
    | some e5 =>
      rw [hs] at q
      obtain ⟨e5', g1, g2⟩ := stI_mo h3 hs
      rw [g1]
      have q : (stI bw j (w2.keep kb) e5).bind (fun e5 => stI bw k (w3.keep kc) e5) = some e4 := q
      show ∃ e1', (stI bw j (w2.keep kb) e5').bind (fun e5 => stI bw k (w3.keep kc) e5) = some e1' ∧ _
      cases hs2 : stI bw j (w2.keep kb) e5 with
      | none => rw [hs2] at q; cases q
      | some e6 =>
        rw [hs2] at q
        obtain ⟨e6', g3, g4⟩ := stI_mo g2 hs2
        rw [g3]
        exact stI_mo g4 q
  | aug i o a =>
    refine ⟨fun e e' h => ?_, noH fun c p e => by simp only [exH]⟩
    rcases slot_cases3 e i with q | q | ⟨w, q⟩
    · simp only [ex, q]; trivial
    · simp only [ex, q]; trivial
    · simp only [ex, q, h.get q]
      cases w with
      | own ds => trivial
      | scr ds => trivial
      | v d =>
        refine MoF.fl (ev_mo a e e' h) fun y e1 e1' h1 => ?_
        cases opA o d y.val with
        | none => trivial
        | some z => exact MoF.ofE fun e2 q => stI_mo h1 q
  | setI i x a =>
    refine ⟨fun e e' h => ?_, noH fun c p e => by simp only [exH]⟩
    simp only [ex]
    refine MoF.fl (ev_mo a e e' h) fun w e1 e1' h1 => ?_
    rcases slot_cases3 e1 i with q | q | ⟨w1, q⟩
    · simp only [q]; trivial
    · simp only [q]; trivial
    · simp only [q, h1.get q]
      refine MoF.fl (ev_mo x e1 e1' h1) fun y e2 e2' h2 => ?_
      rcases slot_cases3 e2 i with q | q | ⟨w1, q⟩
      · simp only [q]; trivial
      · simp only [q]; trivial
      · simp only [q, h2.get q]
        cases w1 with
        | v d => trivial
        | scr d => trivial
        | own ds =>
          generalize y.val = k
          cases k <;> first | trivial | skip
          simp only
          split
          · exact MoF.nx (h2.set i _)
          · trivial
  | app i a =>
    refine ⟨fun e e' h => ?_, noH fun c p e => by simp only [exH]⟩
    rcases slot_cases3 e i with q | q | ⟨w, q⟩
    · simp only [ex, q]; trivial
    · simp only [ex, q]; trivial
    · simp only [ex, q, h.get q]
      cases w with
      | v ds => trivial
      | scr ds => trivial
      | own d =>
        refine MoF.fl (ev_mo a e e' h) fun y e1 e1' h1 => ?_
        rcases slot_cases3 e1 i with q | q | ⟨w1, q⟩
        · simp only [q]; trivial
        · simp only [q]; trivial
        · simp only [q, h1.get q]
          cases w1 with
          | v d => trivial
          | scr d => trivial
          | own ds =>
            simp only
            by_cases c : ds.length < sizeLine
            · simp only [c, if_true]; exact MoF.nx (h1.set i _)
            · simp only [c, if_false]; trivial
  | ext i a =>
    refine ⟨fun e e' h => ?_, noH fun c p e => by simp only [exH]⟩
    rcases slot_cases3 e i with q | q | ⟨w, q⟩
    · simp only [ex, q]; trivial
    · simp only [ex, q]; trivial
    · simp only [ex, q, h.get q]
      cases w with
      | v ds => trivial
      | scr ds => trivial
      | own d =>
        refine MoF.fl (ev_mo a e e' h) fun y e1 e1' h1 => ?_
        rcases slot_cases3 e1 i with q | q | ⟨w1, q⟩
        · simp only [q]; trivial
        · simp only [q]; trivial
        · simp only [q, h1.get q]
          cases w1 with
          | v d => trivial
          | scr d => trivial
          | own ds =>
            generalize y.val = k
            cases k <;> first | trivial | skip
            rename_i xs
            simp only
            by_cases c : ds.length + xs.length ≤ sizeLine
            · simp only [c, if_true]; exact MoF.nx (h1.set i _)
            · simp only [c, if_false]; trivial
  | ret a => exact ⟨fun e e' h => by simp only [ex]; exact MoF.fl (ev_mo a e e' h) fun w e1 e1' h1 => ⟨e1', rfl, h1⟩, noH fun c p e => by simp only [exH]⟩
  | retN => exact ⟨fun e e' h => by simp only [ex]; exact ⟨e', rfl, h⟩, noH fun c p e => by simp only [exH]⟩
  | ite c a b ha hb =>
    refine ⟨fun e e' h => ?_, noH fun c p e => by simp only [exH]⟩
    simp only [ex]
    refine MoF.fl (ev_mo c e e' h) fun x e1 e1' h1 => ?_
    generalize x.val = d
    match d with
    | .bool true => exact ha.1 e1 e1' h1
    | .bool false => exact hb.1 e1 e1' h1
    | .none => trivial
    | .int _ => trivial
    | .str _ => trivial
    | .list _ => trivial
    | .tuple _ => trivial
    | .dict _ => trivial
  | whl c a ha => exact ⟨fun e e' h => by simp only [ex]; exact whlL_mo (fun e e' h => ev_mo c e e' h) (fun e e' h => ha.1 e e' h) _ h, noH fun c p e => by simp only [exH]⟩
  | for_ t src a ha =>
    refine ⟨fun e e' h => ?_, noH fun c p e => by simp only [exH]⟩
    simp only [ex]
    refine MoF.fl (ev_mo src e e' h) fun x e1 e1' h1 => ?_
    cases seqOf x.val with
    | none => trivial
    | some ds =>
      refine forL_mo (fun d e e' h => ?_) ds h1
      cases hq : asT bw t d e with
      | none => trivial
      | some e3 =>
        obtain ⟨e3', g1, g2⟩ := asT_mo t d h hq
        rw [g1]
        exact ha.1 e3 e3' g2
  | brk => exact ⟨fun e e' h => by simp only [ex]; exact ⟨e', rfl, h⟩, noH fun c p e => by simp only [exH]⟩
  | cont => exact ⟨fun e e' h => by simp only [ex]; exact ⟨e', rfl, h⟩, noH fun c p e => by simp only [exH]⟩
  | rs c a =>
    refine ⟨fun e e' h => ?_, noH fun c p e => by simp only [exH]⟩
    simp only [ex]
    refine MoF.fl (ev_mo a e e' h) fun x e1 e1' h1 => ?_
    match x with
    | .own [] => exact ⟨e1', rfl, h1⟩
    | .own [d] => exact ⟨e1', rfl, h1⟩
    | .own (_ :: _ :: _) => trivial
    | .v _ => trivial
    | .scr _ => trivial
  | tr n b hs hb hh =>
    refine ⟨fun e e' h => ?_, noH fun c p e => by simp only [exH]⟩
    have h1 := hb.1 e e' h
    simp only [ex]
    cases hr : ex cs cf bw b e with
    | nx e1 => rw [hr] at h1; obtain ⟨e1', q, l⟩ := h1; rw [q]; exact MoF.nx l
    | ret w e1 => rw [hr] at h1; obtain ⟨e1', q, l⟩ := h1; rw [q]; exact ⟨e1', rfl, l⟩
    | bk e1 => rw [hr] at h1; obtain ⟨e1', q, l⟩ := h1; rw [q]; exact ⟨e1', rfl, l⟩
    | ct e1 => rw [hr] at h1; obtain ⟨e1', q, l⟩ := h1; rw [q]; exact ⟨e1', rfl, l⟩
    | stuck => trivial
    | exc c p e1 =>
      rw [hr] at h1
      obtain ⟨e1', q, l⟩ := h1
      rw [q]
      simp only
      by_cases hc : c < n
      · simp only [hc, if_true]; exact hh.2 c p e1 e1' l
      · simp only [hc, if_false]; trivial
  | hd d su rest hsu hrest =>
    refine ⟨fun e e' h => by simp only [ex]; trivial, fun c p e e' h => ?_⟩
    simp only [exH]
    by_cases hc : d = c
    · simp only [hc, if_true]; exact hsu.1 e e' h
    · simp only [hc, if_false]; exact hrest.2 c p e e' h
  | hdA d i t z rest hrest =>
    refine ⟨fun e e' h => by simp only [ex]; trivial, fun c p e e' h => ?_⟩
    simp only [exH]
    by_cases hc : d = c
    · simp only [hc, if_true]
      cases p with
      | some pd => trivial
      | none =>
        simp only [clE]
        rw [h.1]
        by_cases li : i < e'.length
        · rw [if_pos li, if_pos li]
          exact MoF.ofE fun e1 q => stI_mo (h.set i none) q
        · rw [if_neg li]
          trivial
    · simp only [hc, if_false]; exact hrest.2 c p e e' h
theorem ex_mo {s : S} {e e' : En} (h : Le e e') : MoF (ex cs cf bw s e) (ex cs cf bw s e') := (ex_moB s).1 e e' h
/-- a statement run with fewer slots filled -/
theorem ex_up {s : S} {e e1 e' : En} (h : ex cs cf bw s e = .nx e1) (l : Le e e') : ∃ e1', ex cs cf bw s e' = .nx e1' ∧ Le e1 e1' := by
  have := ex_mo (cs := cs) (cf := cf) (bw := bw) (s := s) l
  rw [h] at this
  exact this
theorem ex_upR {s : S} {e e1 e' : En} {w : W} (h : ex cs cf bw s e = .ret w e1) (l : Le e e') : ∃ e1', ex cs cf bw s e' = .ret w e1' ∧ Le e1 e1' := by
  have := ex_mo (cs := cs) (cf := cf) (bw := bw) (s := s) l
  rw [h] at this
  exact this
theorem forL_up {f : PyData → En → Fl} {ds : List PyData} {e e1 e' : En} (hf : ∀ d e e', Le e e' → MoF (f d e) (f d e')) (h : forL f ds e = .nx e1) (l : Le e e') : ∃ e1', forL f ds e' = .nx e1' ∧ Le e1 e1' := by
  have := forL_mo hf ds l
  rw [h] at this
  exact this
theorem ev_up {a : E} {e e1 e' : En} {w : W} (h : ev cs cf a e = .ok w e1) (l : Le e e') : ∃ e1', ev cs cf a e' = .ok w e1' ∧ Le e1 e1' := by
  have := ev_mo (cs := cs) (cf := cf) a e e' l
  rw [h] at this
  exact this
end
/-- a slot less -/
def leB : En → En → Bool
  | [], [] => true
  | none :: e, _ :: e' => leB e e'
  | _, _ => false
theorem Le.nil : Le [] [] := ⟨rfl, fun _ _ h => h⟩
theorem Le.skip {o : Option W} {e e' : En} (h : Le e e') : Le (none :: e) (o :: e') := by
  refine ⟨by rw [List.length_cons, List.length_cons, h.1], fun i w q => ?_⟩
  cases i with
  | zero => cases q
  | succ i => exact h.2 i w q
theorem Le.both {o : Option W} {e e' : En} (h : Le e e') : Le (o :: e) (o :: e') := by
  refine ⟨by rw [List.length_cons, List.length_cons, h.1], fun i w q => ?_⟩
  cases i with
  | zero => exact q
  | succ i => exact h.2 i w q
theorem Le.inv {o : Option W} {e e' : En} (h : Le (o :: e) e') : ∃ o' e1, e' = o' :: e1 ∧ Le e e1 ∧ (o = none ∨ o = o') := by
  cases e' with
  | nil => have := h.1; simp at this
  | cons o' e1 =>
    refine ⟨o', e1, rfl, ⟨by have := h.1; simpa using this, fun i w q => h.2 (i + 1) w q⟩, ?_⟩
    cases o with
    | none => exact .inl rfl
    | some w =>
      have := h.2 0 w rfl
      right
      have h2 : some o' = some (some w) := this
      injection h2 with h2
      exact h2.symm
theorem Le.inv0 {e' : En} (h : Le [] e') : e' = [] := by
  have := h.1
  exact List.eq_nil_of_length_eq_zero this.symm
/-! ### closed calls -/
def gotV : FR → PyData
  | .ok (.v d) none => d
  | _ => .none
def isOkV : FR → Bool
  | .ok (.v _) none => true
  | _ => false
theorem of_isOkV {r : FR} (h : isOkV r = true) : r = .ok (.v (gotV r)) none := by
  match r, h with
  | .ok (.v d) none, _ => rfl
def isTrueR : FR → Bool
  | .ok (.v (.bool true)) none => true
  | _ => false
theorem of_isTrueR {r : FR} (h : isTrueR r = true) : r = .ok (.v (.bool true)) none := by
  match r, h with
  | .ok (.v (.bool true)) none, _ => rfl
/-- a closed statement that hands back True -/
def retTrue : Fl → Bool
  | .ret (.v (.bool true)) _ => true
  | _ => false
theorem of_retTrue {r : Fl} (h : retTrue r = true) : ∃ e, r = .ret (.v (.bool true)) e := by
  match r, h with
  | .ret (.v (.bool true)) e, _ => exact ⟨e, rfl⟩
end TD

set_option maxHeartbeats 1000000
namespace TD
open PySem PySem.Spec PyProof.Rows L2
theorem sq_gr : opB .Pow (.int 1000000) (.int 2) = some (.v (.int 1000000000000)) := rfl
theorem evF_at {cs : List PyData} {tab : List Fn} {k f : Nat} {ws : List W} {F : Fn} {B : S} {bw : Bool} {e0 : En} (h : tab[f]? = some F) (h1 : ws.length = F.np) (h2 : F.np ≤ F.ns) (h3 : (F.bw || ws.all isV) = true) (h4 : (ws.drop 1).all isV = true) (hb : F.bw = bw) (hB : F.body = B)
    (he : ws.map some ++ List.replicate (F.ns - F.np) none = e0) : evF cs tab (k + 1) f ws = finF bw (ex cs (evF cs tab k) bw B e0) := by
  show (match tab[f]? with
    | none => FR.stuck
    | some F => if ws.length = F.np ∧ F.np ≤ F.ns ∧ (F.bw || ws.all isV) = true ∧ (ws.drop 1).all isV = true then finF F.bw (ex cs (evF cs tab k) F.bw F.body (ws.map some ++ List.replicate (F.ns - F.np) none)) else .stuck) = _
  rw [h]
  simp only
  rw [if_pos ⟨h1, h2, h3, h4⟩, hb, hB, he]
/-! ### lens rooms, plainly -/
def lensI (a b : Int) : Int × Int := if a = 0 then (0, 1) else (if a < 0 then -a else a, (if 0 < a then b else -b) % (if a < 0 then -a else a))
def leastI2 (x : Int × Int) : Int × Int := (x.1, if 1 < x.1 then mn x.2 x.1 else x.2)
theorem n_min2 (i j : Int) : opBi .min2 [.int i, .int j] = some (.v (.int (if j < i then j else i))) := rfl
theorem n_max2 (i j : Int) : opBi .max2 [.int i, .int j] = some (.v (.int (if j > i then j else i))) := rfl
section
variable {cs : List PyData} {cf : CF} {bw : Bool} {e e1 e2 e3 e4 e5 : En} {a b c : E} {i j v : Nat} {d d1 d2 d3 : PyData} {ds xs r : List PyData} {w w1 w2 w3 : W} {p q : Bool}
/-! comprehensions over lists that are written out -/
theorem lc_nil {f : PyData → En → Rs (Option PyData)} : loopC f [] e = .ok [] e := rfl
theorem lc_some {f : PyData → En → Rs (Option PyData)} {x : PyData} (h : f d e = .ok (some x) e1) (h2 : loopC f ds e1 = .ok r e2) : loopC f (d :: ds) e = .ok (x :: r) e2 := by
  unfold loopC
  rw [h]
  simp only
  rw [h2]
theorem lc_none {f : PyData → En → Rs (Option PyData)} (h : f d e = .ok none e1) (h2 : loopC f ds e1 = .ok r e2) : loopC f (d :: ds) e = .ok r e2 := by
  unfold loopC
  rw [h]
  simp only
  rw [h2]
theorem lc_same {f : PyData → En → Rs (Option PyData)} {x : PyData} (h : f d e = .ok (some x) e) (h2 : loopC f ds e = .ok r e) : loopC f (d :: ds) e = .ok (x :: r) e := lc_some h h2
theorem v_compX {vs : List Nat} {t : T} {src el : E} (h : ev cs cf src e = .ok w e1) (h1 : seqOf w.val = some ds) (h2 : loopC (fQ cs cf vs t c el) ds (wipeE e1 vs) = .ok r e2) (hz : r.length ≤ 1000000) (hk : backE e1 e2 vs = e3) :
    ev cs cf (.comp vs t src c el) e = .ok (.own r) e3 := by
  have e0 : ev cs cf (.comp vs t src c el) e = (ev cs cf src e).bind fun x e1 => match seqOf x.val with
    | some ds => match loopC (fQ cs cf vs t c el) ds (wipeE e1 vs) with
      | .ok r e2 => if r.length ≤ sizeLine then .ok (.own r) (backE e1 e2 vs) else .stuck
      | _ => .stuck
    | none => .stuck := rfl
  rw [e0, h]
  simp only [Rs.bind, h1, h2]
  rw [if_pos (siz6 hz), hk]
theorem v_compY {vs : List Nat} {t : T} {src el : E} (h : ev cs cf src e = .ok w e1) (h1 : seqOf w.val = some ds) (h0 : wipeE e1 vs = e4) (h2 : loopC (fQ cs cf vs t c el) ds e4 = .ok r e2) (hz : r.length ≤ 1000000) (hk : backE e1 e2 vs = e3) :
    ev cs cf (.comp vs t src c el) e = .ok (.own r) e3 := v_compX h h1 (by rw [h0]; exact h2) hz hk
theorem v_compMN {α : Type} {vs : List Nat} {t : T} {src el : E} {f : α → PyData} {L : List α} {g : α → PyData} (h : ev cs cf src e = .ok w e1) (h1 : seqOf w.val = some (L.map f)) (hz : L.length ≤ 1000000) (h0 : wipeE e1 vs = e4) (hb : ∀ a ∈ L, fQ cs cf vs t c el (f a) e4 = .ok (some (g a)) e4) (hk : backE e1 e4 vs = e3) :
    ev cs cf (.comp vs t src c el) e = .ok (.own (L.map g)) e3 := by
  rw [v_compM h h1 hz (by rw [h0]; exact hb), h0, hk]
theorem v_compGN {α : Type} {vs : List Nat} {t : T} {src el : E} {f : α → PyData} {L : List α} {p : α → Bool} {g : α → PyData} (h : ev cs cf src e = .ok w e1) (h1 : seqOf w.val = some (L.map f)) (hz : L.length ≤ 1000000) (h0 : wipeE e1 vs = e4) (hb : ∀ a ∈ L, fQ cs cf vs t c el (f a) e4 = .ok (if p a = true then some (g a) else none) e4) (hk : backE e1 e4 vs = e3) :
    ev cs cf (.comp vs t src c el) e = .ok (.own ((L.filter p).map g)) e3 := by
  rw [v_compG h h1 hz (by rw [h0]; exact hb), h0, hk]
theorem lf_nil {f : PyData → En → Rs (List PyData)} : loopF f [] e = .ok [] e := rfl
theorem lf_cons {f : PyData → En → Rs (List PyData)} {x : List PyData} (h : f d e = .ok x e1) (h2 : loopF f ds e1 = .ok r e2) : loopF f (d :: ds) e = .ok (x ++ r) e2 := by
  unfold loopF
  rw [h]
  simp only
  rw [h2]
theorem lf_same {f : PyData → En → Rs (List PyData)} {x : List PyData} (h : f d e = .ok x e) (h2 : loopF f ds e = .ok r e) : loopF f (d :: ds) e = .ok (x ++ r) e := lf_cons h h2
theorem fP_L {vs : List Nat} {t : T} {src1 c1 el : E} {vs1 : List Nat} {t1 : T} (h1 : asT false t d e2 = some e3) (h2 : ev cs cf c e3 = .ok (.v (.bool true)) e3) (h3 : ev cs cf src1 e3 = .ok w e4) (h4 : seqOf w.val = some ds)
    (hb : loopC (fQ cs cf vs1 t1 c1 el) ds (wipeE e4 vs1) = .ok r e5) (h5 : wipeE e5 vs = e) : fP cs cf vs t c vs1 t1 src1 c1 el d e2 = .ok r e := by
  have e0 : fP cs cf vs t c vs1 t1 src1 c1 el d e2 = match seqOf w.val with
      | some ds1 => match loopC (fQ cs cf vs1 t1 c1 el) ds1 (wipeE e4 vs1) with
        | .ok r e6 => .ok r (wipeE e6 vs)
        | _ => .stuck
      | none => .stuck := by
    simp only [fP, h1, h2, h3, Rs.bind]; rfl
  rw [e0, h4]
  simp only [hb, h5]
theorem v_comp2X {vs : List Nat} {t : T} {src src1 c1 el : E} {vs1 : List Nat} {t1 : T} (h : ev cs cf src e = .ok w e1) (h1 : seqOf w.val = some ds) (h2 : loopF (fP cs cf vs t c vs1 t1 src1 c1 el) ds (wipeE e1 vs) = .ok r e2) (hz : r.length ≤ 1000000) (hk : backE e1 e2 vs = e3) :
    ev cs cf (.comp2 vs t src c vs1 t1 src1 c1 el) e = .ok (.own r) e3 := by
  have e0 : ev cs cf (.comp2 vs t src c vs1 t1 src1 c1 el) e = (ev cs cf src e).bind fun x e1 => match seqOf x.val with
    | some ds => match loopF (fP cs cf vs t c vs1 t1 src1 c1 el) ds (wipeE e1 vs) with
      | .ok r e2 => if r.length ≤ sizeLine then .ok (.own r) (backE e1 e2 vs) else .stuck
      | _ => .stuck
    | none => .stuck := rfl
  rw [e0, h]
  simp only [Rs.bind, h1, h2]
  rw [if_pos (siz6 hz), hk]
theorem v_comp2Y {vs : List Nat} {t : T} {src src1 c1 el : E} {vs1 : List Nat} {t1 : T} (h : ev cs cf src e = .ok w e1) (h1 : seqOf w.val = some ds) (h0 : wipeE e1 vs = e4) (h2 : loopF (fP cs cf vs t c vs1 t1 src1 c1 el) ds e4 = .ok r e2) (hz : r.length ≤ 1000000) (hk : backE e1 e2 vs = e3) :
    ev cs cf (.comp2 vs t src c vs1 t1 src1 c1 el) e = .ok (.own r) e3 := v_comp2X h h1 (by rw [h0]; exact h2) hz hk
theorem fP_Y {e6 : En} {vs : List Nat} {t : T} {src1 c1 el : E} {vs1 : List Nat} {t1 : T} (h1 : asT false t d e2 = some e3) (h2 : ev cs cf c e3 = .ok (.v (.bool true)) e3) (h3 : ev cs cf src1 e3 = .ok w e4) (h4 : seqOf w.val = some ds) (h0 : wipeE e4 vs1 = e6)
    (hb : loopC (fQ cs cf vs1 t1 c1 el) ds e6 = .ok r e5) (h5 : wipeE e5 vs = e) : fP cs cf vs t c vs1 t1 src1 c1 el d e2 = .ok r e := fP_L h1 h2 h3 h4 (by rw [h0]; exact hb) h5
/-! comprehensions that draw -/
theorem loopC_tin {F : PyData → En → Rs (Option PyData)} (mk : Int → Int → Int → En) (P : PyData → Prop) (M : Int) (hM : 0 ≤ M) (B : Int) :
    ∀ (ds : List PyData), (∀ d ∈ ds, ∀ a b c, 0 ≤ c → c < B → ∃ x a' c', F d (mk a b c) = .ok (some x) (mk a' b c') ∧ P x ∧ c ≤ c' ∧ c' ≤ c + M) →
    ∀ a b c, 0 ≤ c → c + ds.length * M < B → ∃ xs a' c', loopC F ds (mk a b c) = .ok xs (mk a' b c') ∧ (∀ x ∈ xs, P x) ∧ xs.length = ds.length ∧ c ≤ c' ∧ c' ≤ c + ds.length * M
  | [], _, a, b, c, h0, h1 => ⟨[], a, c, rfl, fun x hx => (by cases hx), rfl, Int.le_refl _, by simp⟩
  | d :: ds, h, a, b, c, h0, h1 => by
    rw [List.length_cons] at h1 ⊢
    have e0 : ((ds.length + 1 : Nat) : Int) * M = ds.length * M + M := by
      rw [Int.natCast_add, Int.add_mul]; simp
    rw [e0] at h1 ⊢
    have hp : 0 ≤ (ds.length : Int) * M := Int.mul_nonneg (by omega) hM
    obtain ⟨x, a1, c1, g1, g2, g3, g4⟩ := h d List.mem_cons_self a b c h0 (by omega)
    obtain ⟨xs, a2, c2, k1, k2, k3, k4, k5⟩ := loopC_tin mk P M hM B ds (fun x hx => h x (List.mem_cons_of_mem _ hx)) a1 b c1 (by omega) (by omega)
    refine ⟨x :: xs, a2, c2, lc_some g1 k1, fun y hy => ?_, by rw [List.length_cons, k3], by omega, by omega⟩
    rcases List.mem_cons.mp hy with rfl | hy
    · exact g2
    · exact k2 y hy
end
/-- laps of a law over its source of draws -/
theorem laps {f : PyData → En → Fl} (hm : ∀ d e e', Le e e' → MoF (f d e) (f d e')) (mk : Int → Int → Int → En) (M : Int) (hM : 0 ≤ M) (B : Int) :
    ∀ (ds : List PyData), (∀ d ∈ ds, ∀ a b c, 0 ≤ c → c < B → ∃ e1 a' b' c', f d (mk a b c) = .nx e1 ∧ Le (mk a' b' c') e1 ∧ c ≤ c' ∧ c' ≤ c + M) →
    ∀ a b c, 0 ≤ c → c + ds.length * M < B → ∃ e1 a' b' c', forL f ds (mk a b c) = .nx e1 ∧ Le (mk a' b' c') e1 ∧ c ≤ c' ∧ c' ≤ c + ds.length * M
  | [], _, a, b, c, h0, h1 => ⟨_, a, b, c, rfl, Le.refl _, Int.le_refl _, by simp⟩
  | d :: ds, h, a, b, c, h0, h1 => by
    rw [List.length_cons] at h1 ⊢
    have e0 : ((ds.length + 1 : Nat) : Int) * M = ds.length * M + M := by
      rw [Int.natCast_add, Int.add_mul]; simp
    rw [e0] at h1 ⊢
    have hp : 0 ≤ (ds.length : Int) * M := Int.mul_nonneg (by omega) hM
    obtain ⟨e1, a1, b1, c1, g1, g2, g3, g4⟩ := h d List.mem_cons_self a b c h0 (by omega)
    obtain ⟨e2, a2, b2, c2, k1, k2, k3, k4⟩ := laps hm mk M hM B ds (fun x hx => h x (List.mem_cons_of_mem _ hx)) a1 b1 c1 (by omega) (by omega)
    obtain ⟨e2', q1, q2⟩ := forL_up hm k1 g2
    refine ⟨e2', a2, b2, c2, ?_, k2.trans q2, by omega, by omega⟩
    unfold forL
    rw [g1]
    exact q1
theorem for_mo {cs : List PyData} {cf : CF} {bw : Bool} {t : T} {a : S} : ∀ (d : PyData) (e e' : En), Le e e' → MoF (match asT bw t d e with
        | some e3 => ex cs cf bw a e3
        | none => Fl.stuck) (match asT bw t d e' with
        | some e3 => ex cs cf bw a e3
        | none => Fl.stuck) := by
  intro d e e' h
  cases hq : asT bw t d e with
  | none => trivial
  | some e3 =>
    obtain ⟨e3', g1, g2⟩ := asT_mo t d h hq
    rw [g1]
    exact ex_mo g2
/-- a statement behind another, the first told over fewer slots -/
theorem x_consU {cs : List PyData} {cf : CF} {bw : Bool} {a b : S} {e e1 e2 : En} (h1 : ex cs cf bw a e = .nx e1) (l : Le e2 e1) {r : Fl} (h2 : ex cs cf bw b e2 = r) : MoF r (ex cs cf bw (.cons a b) e) := by
  have h : ex cs cf bw (.cons a b) e = ex cs cf bw b e1 := by simp only [ex, h1, Fl.seq]
  rw [h, ← h2]
  exact ex_mo l
end TD

set_option maxHeartbeats 1000000
namespace TD
open PySem PySem.Spec PyProof.Rows L2
/-! ### runs told by the slots that matter -/
section
variable {cs : List PyData} {cf : CF} {bw : Bool}
theorem MoF.refl (r : Fl) : MoF r r := by
  cases r <;> first | trivial | exact ⟨_, rfl, Le.refl _⟩
theorem g_of {r r' : Fl} (h : r' = r) : MoF r r' := h ▸ MoF.refl r
theorem g_weak {m m1 : En} {r : Fl} (h : MoF (.nx m1) r) (l : Le m m1) : MoF (.nx m) r := by
  obtain ⟨e, q, l2⟩ := h
  exact ⟨e, q, l.trans l2⟩
theorem g_weakR {w : W} {m m1 : En} {r : Fl} (h : MoF (.ret w m1) r) (l : Le m m1) : MoF (.ret w m) r := by
  obtain ⟨e, q, l2⟩ := h
  exact ⟨e, q, l.trans l2⟩
theorem MoF.trans {a b c : Fl} (h : MoF a b) (g : MoF b c) : MoF a c := by
  cases a with
  | nx e => obtain ⟨e1, rfl, l⟩ := h; obtain ⟨e2, rfl, l2⟩ := g; exact ⟨e2, rfl, l.trans l2⟩
  | ret w e => obtain ⟨e1, rfl, l⟩ := h; obtain ⟨e2, rfl, l2⟩ := g; exact ⟨e2, rfl, l.trans l2⟩
  | bk e => obtain ⟨e1, rfl, l⟩ := h; obtain ⟨e2, rfl, l2⟩ := g; exact ⟨e2, rfl, l.trans l2⟩
  | ct e => obtain ⟨e1, rfl, l⟩ := h; obtain ⟨e2, rfl, l2⟩ := g; exact ⟨e2, rfl, l.trans l2⟩
  | exc k p e => obtain ⟨e1, rfl, l⟩ := h; obtain ⟨e2, rfl, l2⟩ := g; exact ⟨e2, rfl, l.trans l2⟩
  | stuck => trivial
theorem g_cons {a b : S} {e m : En} {r : Fl} (h : MoF (.nx m) (ex cs cf bw a e)) (g : MoF r (ex cs cf bw b m)) : MoF r (ex cs cf bw (.cons a b) e) := by
  obtain ⟨e1, q, l⟩ := h
  have e0 : ex cs cf bw (.cons a b) e = ex cs cf bw b e1 := by simp only [ex, q, Fl.seq]
  rw [e0]
  exact g.trans (ex_mo l)
theorem g_consX {a b : S} {e m : En} {r : Fl} (h : ex cs cf bw a e = .nx m) (g : MoF r (ex cs cf bw b m)) : MoF r (ex cs cf bw (.cons a b) e) := g_cons (g_of h) g
theorem g_consR {a b : S} {e m : En} {w : W} (h : MoF (.ret w m) (ex cs cf bw a e)) : MoF (.ret w m) (ex cs cf bw (.cons a b) e) := by
  obtain ⟨e1, q, l⟩ := h
  exact ⟨e1, by simp only [ex, q, Fl.seq], l⟩
theorem g_consE {a b : S} {e m : En} {n : Nat} {p : Option PyData} (h : MoF (.exc n p m) (ex cs cf bw a e)) : MoF (.exc n p m) (ex cs cf bw (.cons a b) e) := by
  obtain ⟨e1, q, l⟩ := h
  exact ⟨e1, by simp only [ex, q, Fl.seq], l⟩
theorem g_nil {e : En} : MoF (.nx e) (ex cs cf bw .nil e) := g_of x_nil
theorem g_iteT {c : E} {a b : S} {e e1 : En} {r : Fl} (h : ev cs cf c e = .ok (.v (.bool true)) e1) (g : MoF r (ex cs cf bw a e1)) : MoF r (ex cs cf bw (.ite c a b) e) := by
  have : ex cs cf bw (.ite c a b) e = ex cs cf bw a e1 := x_iteT h rfl
  rw [this]; exact g
theorem g_iteF {c : E} {a b : S} {e e1 : En} {r : Fl} (h : ev cs cf c e = .ok (.v (.bool false)) e1) (g : MoF r (ex cs cf bw b e1)) : MoF r (ex cs cf bw (.ite c a b) e) := by
  have : ex cs cf bw (.ite c a b) e = ex cs cf bw b e1 := x_iteF h rfl
  rw [this]; exact g
/-- a run told over fewer slots -/
theorem g_up {a : S} {e m : En} {r : Fl} (l : Le m e) (g : MoF r (ex cs cf bw a m)) : MoF r (ex cs cf bw a e) := g.trans (ex_mo l)
theorem fin_g {a : S} {e m : En} {w : W} (h : MoF (.ret w m) (ex cs cf false a e)) : finF false (ex cs cf false a e) = .ok w none := by
  obtain ⟨e1, q, l⟩ := h
  rw [q]; rfl
theorem fin_gN {a : S} {e m : En} (h : MoF (.nx m) (ex cs cf false a e)) : finF false (ex cs cf false a e) = .ok (.v .none) none := by
  obtain ⟨e1, q, l⟩ := h
  rw [q]; rfl
theorem fin_gE {a : S} {e m : En} {n : Nat} {p : Option PyData} (h : MoF (.exc n p m) (ex cs cf false a e)) : finF false (ex cs cf false a e) = .exc n p none := by
  obtain ⟨e1, q, l⟩ := h
  rw [q]; rfl
theorem fin_gB {a : S} {e m : En} {w b : W} (h : MoF (.ret w m) (ex cs cf true a e)) (hm : m[0]? = some (some b)) : finF true (ex cs cf true a e) = .ok w (some b) := by
  obtain ⟨e1, q, l⟩ := h
  rw [q]
  show FR.ok w (if true = true then (e1[0]?).join else none) = _
  rw [if_pos rfl, l.2 0 b hm]; rfl
theorem fin_gBN {a : S} {e m : En} {b : W} (h : MoF (.nx m) (ex cs cf true a e)) (hm : m[0]? = some (some b)) : finF true (ex cs cf true a e) = .ok (.v .none) (some b) := by
  obtain ⟨e1, q, l⟩ := h
  rw [q]
  show FR.ok _ (if true = true then (e1[0]?).join else none) = _
  rw [if_pos rfl, l.2 0 b hm]; rfl
/-- a turn of for .. in .. -/
def stp (cs : List PyData) (cf : CF) (bw : Bool) (t : T) (a : S) (d : PyData) (e : En) : Fl := match asT bw t d e with
  | some e3 => ex cs cf bw a e3
  | none => .stuck
theorem g_asT {t : T} {d : PyData} {e e3 : En} {a : S} {r : Fl} (h : asT bw t d e = some e3) (g : MoF r (ex cs cf bw a e3)) : MoF r (stp cs cf bw t a d e) := by
  unfold stp
  rw [h]; exact g
/-- for .. in ..: a fold -/
theorem forL_fold {α σ : Type} {f : PyData → En → Fl} (hm : ∀ d e e', Le e e' → MoF (f d e) (f d e')) (mk : σ → En) (enc : α → PyData) (step : σ → α → σ) (I : σ → Prop) :
    ∀ (L : List α) (s : σ) (e : En), I s → Le (mk s) e → (∀ a ∈ L, ∀ s, I s → MoF (.nx (mk (step s a))) (f (enc a) (mk s)) ∧ I (step s a)) → MoF (.nx (mk (L.foldl step s))) (forL f (L.map enc) e) ∧ I (L.foldl step s)
  | [], s, e, i, l, _ => ⟨⟨e, rfl, l⟩, i⟩
  | a :: L, s, e, i, l, h => by
    obtain ⟨g1, g2⟩ := h a List.mem_cons_self s i
    obtain ⟨e1, q1, l1⟩ := g1.trans (hm (enc a) _ _ l)
    obtain ⟨k1, k2⟩ := forL_fold hm mk enc step I L (step s a) e1 g2 l1 (fun b hb => h b (List.mem_cons_of_mem _ hb))
    refine ⟨?_, k2⟩
    rw [List.map_cons]
    have e0 : forL f (enc a :: L.map enc) e = forL f (L.map enc) e1 := by
      show (match f (enc a) e with
        | .nx e2 => forL f (L.map enc) e2
        | .ct e2 => forL f (L.map enc) e2
        | .bk e2 => .nx e2
        | r => r) = _
      rw [q1]
    rw [e0]
    exact k1
theorem g_for {α σ : Type} {t : T} {src : E} {a : S} {e e0 : En} {w : W} (mk : σ → En) (enc : α → PyData) (step : σ → α → σ) (I : σ → Prop) {L : List α} (s : σ) (h : ev cs cf src e = .ok w e0) (h1 : seqOf w.val = some (L.map enc)) (i : I s) (l : Le (mk s) e0)
    (turn : ∀ x ∈ L, ∀ s, I s → MoF (.nx (mk (step s x))) (stp cs cf bw t a (enc x) (mk s)) ∧ I (step s x)) : MoF (.nx (mk (L.foldl step s))) (ex cs cf bw (.for_ t src a) e) ∧ I (L.foldl step s) := by
  have := forL_fold (f := stp cs cf bw t a) for_mo mk enc step I L s e0 i l turn
  refine ⟨?_, this.2⟩
  have e1 : ex cs cf bw (.for_ t src a) e = forL (stp cs cf bw t a) (L.map enc) e0 := x_for h h1 rfl
  rw [e1]
  exact this.1
def whI {σ : Type} (c : σ → Bool) (f : σ → σ) : Nat → σ → σ
  | 0, s => s
  | n + 1, s => if c s = true then whI c f n (f s) else s
theorem whl_go {σ : Type} {c : E} {a : S} (mk : σ → En) (t : σ → Bool) (step : σ → σ) (I : σ → Prop) (test : ∀ s, I s → ev cs cf c (mk s) = .ok (.v (.bool (t s))) (mk s))
    (turn : ∀ s, I s → t s = true → MoF (.nx (mk (step s))) (ex cs cf bw a (mk s)) ∧ I (step s)) :
    ∀ (n : Nat) (s : σ) (e : En) (N : Nat), I s → t (whI t step n s) = false → n < N → Le (mk s) e → MoF (.nx (mk (whI t step n s))) (whlL (fun e1 => ev cs cf c e1) (fun e1 => ex cs cf bw a e1) N e) ∧ I (whI t step n s)
  | n, s, e, 0, _, _, h, _ => absurd h (by omega)
  | n, s, e, N + 1, i, hf, hn, l => by
    obtain ⟨e1, q1, l1⟩ := ev_up (test s i) l
    cases ht : t s with
    | false =>
      have e0 : whI t step n s = s := by
        cases n with
        | zero => rfl
        | succ n => show (if t s = true then _ else s) = s; rw [ht]; rfl
      rw [e0]
      rw [ht] at q1
      exact ⟨⟨e1, wh_F q1, l1⟩, i⟩
    | true =>
      rw [ht] at q1
      cases n with
      | zero =>
        have : t s = false := hf
        rw [ht] at this
        cases this
      | succ n =>
        have e0 : whI t step (n + 1) s = whI t step n (step s) := by show (if t s = true then _ else s) = _; rw [if_pos ht]
        rw [e0] at hf ⊢
        obtain ⟨g1, g2⟩ := turn s i ht
        obtain ⟨e2, q2, l2⟩ := g1.trans (ex_mo l1)
        obtain ⟨k1, k2⟩ := whl_go mk t step I test turn n (step s) e2 N g2 hf (by omega) l2
        refine ⟨?_, k2⟩
        rw [wh_T q1 q2]
        exact k1
theorem g_whl {σ : Type} {c : E} {a : S} {e : En} (mk : σ → En) (t : σ → Bool) (step : σ → σ) (I : σ → Prop) (n : Nat) (s : σ) (i : I s) (l : Le (mk s) e) (hn : n < most) (hf : t (whI t step n s) = false) (test : ∀ s, I s → ev cs cf c (mk s) = .ok (.v (.bool (t s))) (mk s))
    (turn : ∀ s, I s → t s = true → MoF (.nx (mk (step s))) (ex cs cf bw a (mk s)) ∧ I (step s)) : MoF (.nx (mk (whI t step n s))) (ex cs cf bw (.whl c a) e) ∧ I (whI t step n s) := by
  have := whl_go mk t step I test turn n s e most i hf hn l
  refine ⟨?_, this.2⟩
  have e1 : ex cs cf bw (.whl c a) e = whlL (fun e1 => ev cs cf c e1) (fun e1 => ex cs cf bw a e1) most e := x_whl rfl
  rw [e1]
  exact this.1
theorem v_notW {a : E} {e e1 : En} {w : W} {p : Bool} (h : ev cs cf a e = .ok w e1) (h2 : w = .v (.bool p)) : ev cs cf (.not a) e = .ok (.v (.bool (!p))) e1 := by subst h2; exact v_not h
theorem x_pk3 {i j v : Nat} {a b c : E} {e e1 e2 e3 e4 e5 e6 : En} {w1 w2 w3 : W} {ka kb kc : Bool} (h1 : ev cs cf a e = .ok w1 e1) (h2 : ev cs cf b e1 = .ok w2 e2) (h3 : ev cs cf c e2 = .ok w3 e3) (h4 : stI bw i (w1.keep ka) e3 = some e4) (h5 : stI bw j (w2.keep kb) e4 = some e5) (h6 : stI bw v (w3.keep kc) e5 = some e6) : ex cs cf bw (.pk3 i j v ka kb kc a b c) e = .nx e6 := by
  simp only [ex, h1, h2, h3, Rs.fl, h4, Option.bind, h5, h6]; rfl
theorem o_fdiv {x y : Int} (h : y ≠ 0) (h' : y.natAbs < 1073741824) : opB .FloorDiv (.int x) (.int y) = some (.v (.int (x.fdiv y))) := by
  show (if 0 < y ∧ y.natAbs.log2 < 9000 then some (W.v (.int (x / y))) else if y ≠ 0 ∧ y.natAbs < 1073741824 then some (W.v (.int (x.fdiv y))) else none) = _
  by_cases c : 0 < y ∧ y.natAbs.log2 < 9000
  · rw [if_pos c, Int.fdiv_eq_ediv_of_nonneg x (by omega)]
  · rw [if_neg c, if_pos ⟨h, h'⟩]
theorem g_wh_T {c : E} {a : S} {e m : En} {r : Fl} {n : Nat} (h : ev cs cf c e = .ok (.v (.bool true)) e) (h2 : MoF (.nx m) (ex cs cf bw a e)) (h3 : MoF r (whlL (fun e1 => ev cs cf c e1) (fun e1 => ex cs cf bw a e1) n m)) : MoF r (whlL (fun e1 => ev cs cf c e1) (fun e1 => ex cs cf bw a e1) (n + 1) e) := by
  obtain ⟨e1, q, l⟩ := h2
  rw [wh_T (c := fun e1 => ev cs cf c e1) (b := fun e1 => ex cs cf bw a e1) h q]
  exact h3.trans (whlL_mo (fun e e' h => ev_mo c e e' h) (fun e e' h => ex_mo h) _ l)
theorem g_wh_F {c : E} {a : S} {e : En} {n : Nat} (h : ev cs cf c e = .ok (.v (.bool false)) e) : MoF (.nx e) (whlL (fun e1 => ev cs cf c e1) (fun e1 => ex cs cf bw a e1) (n + 1) e) := g_of (wh_F (c := fun e1 => ev cs cf c e1) (b := fun e1 => ex cs cf bw a e1) h)
theorem g_x_whl {c : E} {a : S} {e : En} {r : Fl} (h : MoF r (whlL (fun e1 => ev cs cf c e1) (fun e1 => ex cs cf bw a e1) most e)) : MoF r (ex cs cf bw (.whl c a) e) := by
  have e1 : ex cs cf bw (.whl c a) e = whlL (fun e1 => ev cs cf c e1) (fun e1 => ex cs cf bw a e1) most e := x_whl rfl
  rw [e1]
  exact h
end
theorem le_nones {n : Nat} {e : En} (h : e.length = n) : Le (List.replicate n none) e := by
  refine ⟨by rw [List.length_replicate, h], fun i w q => ?_⟩
  rw [List.getElem?_replicate] at q
  split at q <;> cases q
/-- a law's end: laps, then a tail that looks at nothing before it -/
theorem law_end {cs : List PyData} {cf : CF} {B : S} {e0 : En} {n : Nat} {tail : S} {N : Nat} (mk : Int → Int → Int → En) {body : S} {t : T} {a b : Int}
    (hl : ∀ a b c, (mk a b c).length = n) (hB : ∀ r, MoF r (ex cs cf true (.cons (.for_ t (.it .range1 (.cons (.int N) .nil)) body) tail) (mk a b 0)) → MoF r (ex cs cf true B e0)) (M : Int) (hM : 0 ≤ M) (hN : N * M < 800000) (hN1 : N ≤ 1000)
    (lap : ∀ i a b c, 0 ≤ c → c < 800000 → ∃ a' c', MoF (.nx (mk a' b c')) (stp cs cf true t body (.int i) (mk a b c)) ∧ c ≤ c' ∧ c' ≤ c + M)
    (ht : retTrue (ex cs cf true tail (List.replicate n none)) = true) : ∃ b, finF true (ex cs cf true B e0) = .ok (.v (.bool true)) b := by
  obtain ⟨e1, a', b', c', g1, g2, _⟩ := laps (f := stp cs cf true t body) for_mo mk M hM 800000 ((rangeI 0 N).map PyData.int) (fun d hd a b c h0 h1 => by
    rw [List.mem_map] at hd
    obtain ⟨i, _, rfl⟩ := hd
    obtain ⟨a', c', ⟨e1, q, l⟩, h2, h3⟩ := lap i a b c h0 h1
    exact ⟨e1, a', b, c', q, l, h2, h3⟩) a b 0 (by decide) (by rw [List.length_map, rangeI_len]; omega)
  obtain ⟨et, hr⟩ := of_retTrue ht
  have m1 : MoF (.ret (.v (.bool true)) et) (ex cs cf true tail e1) := by
    have := ex_mo (cs := cs) (cf := cf) (bw := true) (s := tail) (le_nones (n := n) (e := e1) (by rw [← g2.1, hl]))
    rw [hr] at this
    exact this
  have r1 : opIt .range1 [.int (N : Int)] = some (.own ((rangeI 0 (N : Int).toNat).map PyData.int)) := r1_ok (by omega) (by omega)
  rw [Int.toNat_natCast] at r1
  have hf : ex cs cf true (.for_ t (.it .range1 (.cons (.int N) .nil)) body) (mk a b 0) = .nx e1 := x_for (v_it (v_cons v_int v_nil) r1) rfl g1
  obtain ⟨e2, q, _⟩ := hB _ (g_consX hf m1)
  refine ⟨(e2[0]?).join, ?_⟩
  rw [q]
  rfl
theorem g_forC {f : PyData → En → Fl} (hm : ∀ d e e', Le e e' → MoF (f d e) (f d e')) {d : PyData} {ds : List PyData} {e m : En} {r : Fl} (h : MoF (.nx m) (f d e)) (g : MoF r (forL f ds m)) : MoF r (forL f (d :: ds) e) := by
  obtain ⟨e1, q, l⟩ := h
  have e0 : forL f (d :: ds) e = forL f ds e1 := by
    show (match f d e with
      | .nx e2 => forL f ds e2
      | .ct e2 => forL f ds e2
      | .bk e2 => .nx e2
      | r => r) = _
    rw [q]
  rw [e0]
  exact g.trans (forL_mo hm ds l)
theorem g_forN {f : PyData → En → Fl} {e : En} : MoF (.nx e) (forL f [] e) := ⟨e, rfl, Le.refl _⟩
theorem g_x_for {cs : List PyData} {cf : CF} {bw : Bool} {t : T} {src : E} {a : S} {e e0 : En} {w : W} {ds : List PyData} {r : Fl} (h : ev cs cf src e = .ok w e0) (h1 : seqOf w.val = some ds) (g : MoF r (forL (stp cs cf bw t a) ds e0)) : MoF r (ex cs cf bw (.for_ t src a) e) := by
  have e1 : ex cs cf bw (.for_ t src a) e = forL (stp cs cf bw t a) ds e0 := x_for h h1 rfl
  rw [e1]; exact g
end TD

set_option maxHeartbeats 4000000
namespace K56
open PySem PySem.Spec PyProof.Rows L2 TD
def top (i : Nat) : Stmt := PySem.Challenge.pw_tubedrooms_k56_main_twins_and_classes_of.main.body.getD i (.Pass ⟨0, 0, 0, 0⟩)
def gm : Gm := ⟨("is_number" :: "is_within" :: "is_long" :: "tupled" :: "back_by" :: "primes_of" :: "units_below" :: "is_square_by" :: "square_bars" :: "is_lens_of" :: "lens_by" :: "least_lens" :: "mirror_by" :: "sure_lens" :: "sure_two" :: "same_lens" :: "lens_mirrored" :: "ratio_of" :: "sure_alike" :: "are_twins" :: "lenses_with" :: "least_class" :: "lens_class" :: "orders_of" :: "behind" :: "back_of" :: "often" :: "sure_few" :: "lens_ways" :: "lens_coverings_few" :: "_law_box" :: "_law_take" :: "_law_cells" :: "_law_of" :: "_law_pick" :: "_law_same" :: "_law_gcd" :: "_law_units" :: "law" :: [] : List Str), ["GREATEST", "MOST_links", "MOST_ways"], ["CanNot", "TooMany", "Unfit"], true, [], false⟩
def b0 : S := (.cons (.ret (.and (.isi (.var 0) [.int]) (.one (.not (.isi (.var 0) [.bool])))))
    .nil)
/-- is_number -/
def f0 : Fn := ⟨1, 1, false, b0⟩
def d0 : Df := ⟨top 6, ["thing"], ["thing"], f0⟩
def b1 : S := (.cons (.ret (.and (.call 0 (.cons (.var 0) .nil)) (.one (.chn .LtE .LtE (.var 1) (.var 0) (.var 2)))))
    .nil)
/-- is_within -/
def f1 : Fn := ⟨3, 3, false, b1⟩
def d1 : Df := ⟨top 7, ["thing", "least", "most"], ["thing", "least", "most"], f1⟩
def b2 : S := (.cons (.ret (.and (.isi (.var 0) [.tuple]) (.one (.cmp .Eq (.lenV 0) (.var 1)))))
    .nil)
/-- is_long -/
def f2 : Fn := ⟨2, 2, false, b2⟩
def d2 : Df := ⟨top 8, ["thing", "length"], ["thing", "length"], f2⟩
def b3 : S := (.cons (.ret (.ite (.isi (.var 0) [.list, .tuple]) (.bi .tupleOf (.cons (.comp [1] (.n 1) (.one (.var 0)) (.bl true) (.call 3 (.cons (.var 1) .nil))) .nil)) (.var 0)))
    .nil)
/-- tupled -/
def f3 : Fn := ⟨1, 2, false, b3⟩
def d3 : Df := ⟨top 9, ["value", "own"], ["value"], f3⟩
def b4 : S := (.cons (.asgT (.cons (.n 2) (.cons (.n 3) (.cons (.n 4) (.cons (.n 5) .nil)))) (.tup (.cons (.bin .Mod (.var 0) (.var 1)) (.cons (.var 1) (.cons (.int 1) (.cons (.int 0) .nil))))))
    (.cons (.whl (.cmp .Gt (.var 3) (.int 0)) (.cons (.asg 6 (.bin .FloorDiv (.var 2) (.var 3)) false)
    (.cons (.asgT (.cons (.n 2) (.cons (.n 3) (.cons (.n 4) (.cons (.n 5) .nil)))) (.tup (.cons (.var 3) (.cons (.bin .Sub (.var 2) (.bin .Mult (.var 6) (.var 3))) (.cons (.var 5) (.cons (.bin .Sub (.var 4) (.bin .Mult (.var 6) (.var 5))) .nil))))))
    .nil)))
    (.cons (.ret (.bin .Mod (.var 4) (.var 1)))
    .nil)))
/-- back_by -/
def f4 : Fn := ⟨2, 7, false, b4⟩
def d4 : Df := ⟨top 11, ["number", "below", "one", "other", "near", "far", "times"], ["number", "below"], f4⟩
def b5 : S := (.cons (.pk3 1 2 3 true false false (.lst .nil) (.var 0) (.int 2))
    (.cons (.whl (.cmp .LtE (.bin .Mult (.var 3) (.var 3)) (.var 2)) (.cons (.ite (.cmp .Eq (.bin .Mod (.var 2) (.var 3)) (.int 0)) (.cons (.app 1 (.var 3))
    (.cons (.whl (.cmp .Eq (.bin .Mod (.var 2) (.var 3)) (.int 0)) (.cons (.asg 2 (.bin .FloorDiv (.var 2) (.var 3)) false)
    .nil))
    .nil)) .nil)
    (.cons (.aug 3 .Add (.int 1))
    .nil)))
    (.cons (.ret (.ite (.cmp .Gt (.var 2) (.int 1)) (.bin .Add (.var 1) (.lst (.cons (.var 2) .nil))) (.var 1)))
    .nil)))
/-- primes_of -/
def f5 : Fn := ⟨1, 4, false, b5⟩
def d5 : Df := ⟨top 12, ["number", "found", "left", "own"], ["number"], f5⟩
def b6 : S := (.cons (.ret (.ite (.cmp .Gt (.var 0) (.int 1)) (.comp [1] (.n 1) (.it .range2 (.cons (.int 1) (.cons (.var 0) .nil))) (.one (.cmp .Eq (.bi .gcd (.cons (.var 1) (.cons (.var 0) .nil))) (.int 1))) (.var 1)) (.lst (.cons (.int 0) .nil))))
    .nil)
/-- units_below -/
def f6 : Fn := ⟨1, 2, false, b6⟩
def d6 : Df := ⟨top 13, ["number", "own"], ["number"], f6⟩
def b7 : S := (.cons (.par3 2 3 4 (.cons (.int 1) (.cons (.bin .Mod (.var 0) (.var 1)) (.cons (.bin .FloorDiv (.bin .Sub (.var 1) (.int 1)) (.int 2)) .nil))))
    (.cons (.whl (.cmp .Gt (.var 4) (.int 0)) (.cons (.ite (.cmp .Eq (.bin .Mod (.var 4) (.int 2)) (.int 1)) (.cons (.asg 2 (.bin .Mod (.bin .Mult (.var 2) (.var 3)) (.var 1)) false)
    .nil) .nil)
    (.cons (.par2 3 4 (.cons (.bin .Mod (.bin .Mult (.var 3) (.var 3)) (.var 1)) (.cons (.bin .FloorDiv (.var 4) (.int 2)) .nil)))
    .nil)))
    (.cons (.ret (.cmp .Eq (.var 2) (.int 1)))
    .nil)))
/-- is_square_by -/
def f7 : Fn := ⟨2, 5, false, b7⟩
def d7 : Df := ⟨top 14, ["number", "prime", "found", "own", "left"], ["number", "prime"], f7⟩
def b8 : S := (.cons (.asg 2 (.lst .nil) false)
    (.cons (.ite (.cmp .Eq (.bin .Mod (.var 1) (.int 8)) (.int 0)) (.cons (.asg 2 (.ite (.cmp .NotEq (.bin .Mod (.var 0) (.int 8)) (.int 1)) (.lst (.cons (.int 8) .nil)) (.lst .nil)) false)
    .nil) (.cons (.ite (.cmp .Eq (.bin .Mod (.var 1) (.int 4)) (.int 0)) (.cons (.asg 2 (.ite (.cmp .NotEq (.bin .Mod (.var 0) (.int 4)) (.int 1)) (.lst (.cons (.int 4) .nil)) (.lst .nil)) false)
    .nil) .nil)
    .nil))
    (.cons (.ret (.bin .Add (.var 2) (.comp [3] (.n 3) (.one (.call 5 (.cons (.var 1) .nil))) (.one (.and (.cmp .Gt (.var 3) (.int 2)) (.one (.not (.call 7 (.cons (.var 0) (.cons (.var 3) .nil))))))) (.var 3))))
    .nil)))
/-- square_bars -/
def f8 : Fn := ⟨2, 4, false, b8⟩
def d8 : Df := ⟨top 15, ["number", "below", "found", "own"], ["number", "below"], f8⟩
def b9 : S := (.cons (.ite (.or (.not (.call 2 (.cons (.var 0) (.cons (.int 2) .nil)))) (.or (.not (.bi .all (.cons (.comp [1] (.n 1) (.one (.var 0)) (.bl true) (.call 0 (.cons (.var 1) .nil))) .nil))) (.one (.not (.chn .LtE .LtE (.int 0) (.ixV 0 (.int 0)) (.glb 0)))))) (.cons (.ret (.bl false))
    .nil) .nil)
    (.cons (.ite (.cmp .Lt (.ixV 0 (.int 0)) (.int 2)) (.cons (.ret (.cmp .Eq (.ixV 0 (.int 1)) (.bin .Sub (.int 1) (.ixV 0 (.int 0)))))
    .nil) .nil)
    (.cons (.ret (.and (.chn .LtE .Lt (.int 1) (.ixV 0 (.int 1)) (.ixV 0 (.int 0))) (.one (.cmp .Eq (.bi .gcd (.cons (.ixV 0 (.int 0)) (.cons (.ixV 0 (.int 1)) .nil))) (.int 1)))))
    .nil)))
/-- is_lens_of -/
def f9 : Fn := ⟨1, 2, false, b9⟩
def d9 : Df := ⟨top 18, ["thing", "own"], ["thing"], f9⟩
def b10 : S := (.cons (.ite (.cmp .Eq (.var 0) (.int 0)) (.cons (.ret (.tup (.cons (.int 0) (.cons (.int 1) .nil))))
    .nil) .nil)
    (.cons (.asg 2 (.ite (.cmp .Gt (.var 0) (.int 0)) (.int 1) (.neg (.int 1))) false)
    (.cons (.ret (.tup (.cons (.bi .abs (.cons (.var 0) .nil)) (.cons (.bin .Mod (.bin .Mult (.var 2) (.var 1)) (.bi .abs (.cons (.var 0) .nil))) .nil))))
    .nil)))
/-- lens_by -/
def f10 : Fn := ⟨2, 3, false, b10⟩
def d10 : Df := ⟨top 19, ["above", "below", "sign"], ["above", "below"], f10⟩
def b11 : S := (.cons (.ret (.tup (.cons (.ixV 0 (.int 0)) (.cons (.ite (.cmp .Gt (.ixV 0 (.int 0)) (.int 1)) (.bi .min2 (.cons (.ixV 0 (.int 1)) (.cons (.call 4 (.cons (.ixV 0 (.int 1)) (.cons (.ixV 0 (.int 0)) .nil))) .nil))) (.ixV 0 (.int 1))) .nil))))
    .nil)
/-- least_lens -/
def f11 : Fn := ⟨1, 1, false, b11⟩
def d11 : Df := ⟨top 20, ["lens"], ["lens"], f11⟩
def b12 : S := (.cons (.ret (.call 10 (.cons (.ixV 0 (.int 0)) (.cons (.neg (.ixV 0 (.int 1))) .nil))))
    .nil)
/-- mirror_by -/
def f12 : Fn := ⟨1, 1, false, b12⟩
def d12 : Df := ⟨top 21, ["lens"], ["lens"], f12⟩
def b13 : S := (.cons (.asg 1 (.call 3 (.cons (.var 0) .nil)) true)
    (.cons (.ite (.not (.call 9 (.cons (.var 1) .nil))) (.cons (.rs 2 .nil)
    .nil) .nil)
    (.cons (.ret (.mv 1))
    .nil)))
/-- sure_lens -/
def f13 : Fn := ⟨1, 2, false, b13⟩
def d13 : Df := ⟨top 22, ["thing", "lens"], ["thing"], f13⟩
def b14 : S := (.cons (.ret (.tup (.cons (.call 13 (.cons (.var 0) .nil)) (.cons (.call 13 (.cons (.var 1) .nil)) .nil))))
    .nil)
/-- sure_two -/
def f14 : Fn := ⟨2, 2, false, b14⟩
def d14 : Df := ⟨top 23, ["one", "other"], ["one", "other"], f14⟩
def b15 : S := (.cons (.asgT (.cons (.n 2) (.cons (.n 3) .nil)) (.call 14 (.cons (.var 0) (.cons (.var 1) .nil))))
    (.cons (.ret (.cmp .Eq (.call 11 (.cons (.var 2) .nil)) (.call 11 (.cons (.var 3) .nil))))
    .nil))
/-- same_lens -/
def f15 : Fn := ⟨2, 4, false, b15⟩
def d15 : Df := ⟨top 24, ["one", "other", "first", "second"], ["one", "other"], f15⟩
def b16 : S := (.cons (.ret (.call 12 (.cons (.call 13 (.cons (.var 0) .nil)) .nil)))
    .nil)
/-- lens_mirrored -/
def f16 : Fn := ⟨1, 1, false, b16⟩
def d16 : Df := ⟨top 25, ["lens"], ["lens"], f16⟩
def b17 : S := (.cons (.ret (.bin .Mod (.bin .Mult (.ixV 1 (.int 1)) (.call 4 (.cons (.ixV 0 (.int 1)) (.cons (.ixV 0 (.int 0)) .nil)))) (.ixV 0 (.int 0))))
    .nil)
/-- ratio_of -/
def f17 : Fn := ⟨2, 2, false, b17⟩
def d17 : Df := ⟨top 26, ["one", "other"], ["one", "other"], f17⟩
def b18 : S := (.cons (.asgT (.cons (.n 2) (.cons (.n 3) .nil)) (.call 14 (.cons (.var 0) (.cons (.var 1) .nil))))
    (.cons (.ite (.or (.cmp .NotEq (.ixV 2 (.int 0)) (.ixV 3 (.int 0))) (.one (.cmp .Lt (.ixV 2 (.int 0)) (.int 2)))) (.cons (.rs 0 .nil)
    .nil) .nil)
    (.cons (.ret (.tup (.cons (.var 2) (.cons (.var 3) .nil))))
    .nil)))
/-- sure_alike -/
def f18 : Fn := ⟨2, 4, false, b18⟩
def d18 : Df := ⟨top 27, ["one", "other", "first", "second"], ["one", "other"], f18⟩
def b19 : S := (.cons (.asgT (.cons (.n 2) (.cons (.n 3) .nil)) (.call 18 (.cons (.var 0) (.cons (.var 1) .nil))))
    (.cons (.ret (.or (.cmp .Eq (.call 8 (.cons (.call 17 (.cons (.var 2) (.cons (.var 3) .nil))) (.cons (.ixV 2 (.int 0)) .nil))) (.lst .nil)) (.one (.cmp .Eq (.call 8 (.cons (.neg (.call 17 (.cons (.var 2) (.cons (.var 3) .nil)))) (.cons (.ixV 2 (.int 0)) .nil))) (.lst .nil)))))
    .nil))
/-- are_twins -/
def f19 : Fn := ⟨2, 4, false, b19⟩
def d19 : Df := ⟨top 28, ["one", "other", "first", "second"], ["one", "other"], f19⟩
def b20 : S := (.cons (.ite (.not (.call 1 (.cons (.var 0) (.cons (.int 0) (.cons (.int 2000) .nil))))) (.cons (.rs 2 .nil)
    .nil) .nil)
    (.cons (.ite (.cmp .Lt (.var 0) (.int 2)) (.cons (.ret (.lst (.cons (.tup (.cons (.var 0) (.cons (.bin .Sub (.int 1) (.var 0)) .nil))) .nil)))
    .nil) .nil)
    (.cons (.ret (.srt (.comp [1] (.n 1) (.it .range2 (.cons (.int 1) (.cons (.var 0) .nil))) (.one (.cmp .Eq (.bi .gcd (.cons (.var 1) (.cons (.var 0) .nil))) (.int 1))) (.call 11 (.cons (.tup (.cons (.var 0) (.cons (.var 1) .nil))) .nil)))))
    .nil)))
/-- lenses_with -/
def f20 : Fn := ⟨1, 2, false, b20⟩
def d20 : Df := ⟨top 29, ["first", "own"], ["first"], f20⟩
def b21 : S := (.cons (.ret (.ite (.cmp .Gt (.var 1) (.int 1)) (.bi .minL (.cons (.comp [2] (.n 2) (.one (.call 6 (.cons (.var 1) .nil))) (.bl true) (.bin .Mod (.bin .Mult (.bin .Mult (.var 0) (.var 2)) (.var 2)) (.var 1))) .nil)) (.int 0)))
    .nil)
/-- least_class -/
def f21 : Fn := ⟨2, 3, false, b21⟩
def d21 : Df := ⟨top 32, ["above", "below", "own"], ["above", "below"], f21⟩
def b22 : S := (.cons (.asg 1 (.call 13 (.cons (.var 0) .nil)) false)
    (.cons (.ite (.cmp .Eq (.ixV 1 (.int 0)) (.int 0)) (.cons (.rs 0 .nil)
    .nil) .nil)
    (.cons (.ite (.cmp .Gt (.ixV 1 (.int 0)) (.glb 1)) (.cons (.rs 1 .nil)
    .nil) .nil)
    (.cons (.ret (.tup (.cons (.ixV 1 (.int 0)) (.cons (.call 21 (.cons (.ixV 1 (.int 1)) (.cons (.ixV 1 (.int 0)) .nil))) .nil))))
    .nil))))
/-- lens_class -/
def f22 : Fn := ⟨1, 2, false, b22⟩
def d22 : Df := ⟨top 33, ["lens", "own"], ["lens"], f22⟩
def b23 : S := (.cons (.asg 1 (.lst (.cons (.tup .nil) .nil)) false)
    (.cons (.for_ (.n 2) (.it .range1 (.cons (.var 0) .nil)) (.cons (.asg 1 (.comp2 [3, 4] (.n 3) (.one (.var 1)) (.bl true) [4] (.n 4) (.it .range1 (.cons (.bin .Add (.var 2) (.int 1)) .nil)) (.bl true) (.bin .Add (.bin .Add (.sl (.var 3) .non (.var 4)) (.tup (.cons (.var 2) .nil))) (.sl (.var 3) (.var 4) .non))) false)
    .nil))
    (.cons (.ret (.bi .sorted (.cons (.var 1) .nil)))
    .nil)))
/-- orders_of -/
def f23 : Fn := ⟨1, 5, false, b23⟩
def d23 : Df := ⟨top 36, ["many", "found", "own", "row", "k"], ["many"], f23⟩
def b24 : S := (.cons (.ret (.bi .tupleOf (.cons (.comp [2] (.n 2) (.one (.var 0)) (.bl true) (.ixV 1 (.var 2))) .nil)))
    .nil)
/-- behind -/
def f24 : Fn := ⟨2, 3, false, b24⟩
def d24 : Df := ⟨top 37, ["one", "other", "own"], ["one", "other"], f24⟩
def b25 : S := (.cons (.asg 1 (.bin .Mult (.lst (.cons (.int 0) .nil)) (.lenV 0)) true)
    (.cons (.for_ (.t (.cons (.n 2) (.cons (.n 3) .nil))) (.it .enum (.cons (.var 0) .nil)) (.cons (.setI 1 (.var 3) (.var 2))
    .nil))
    (.cons (.ret (.bi .tupleOf (.cons (.var 1) .nil)))
    .nil)))
/-- back_of -/
def f25 : Fn := ⟨1, 4, false, b25⟩
def d25 : Df := ⟨top 38, ["order", "found", "place", "own"], ["order"], f25⟩
def b26 : S := (.cons (.par2 2 3 (.cons (.lrg true (.cons (.lenV 0) .nil)) (.cons (.ite (.cmp .GtE (.var 1) (.int 0)) (.var 0) (.call 25 (.cons (.var 0) .nil))) .nil)))
    (.cons (.for_ (.n 4) (.it .range1 (.cons (.bin .Mod (.bi .abs (.cons (.var 1) .nil)) (.int 60)) .nil)) (.cons (.asg 2 (.call 24 (.cons (.var 2) (.cons (.var 3) .nil))) true)
    .nil))
    (.cons (.ret (.mv 2))
    .nil)))
/-- often -/
def f26 : Fn := ⟨2, 5, false, b26⟩
def d26 : Df := ⟨top 39, ["order", "times", "found", "own", "lap"], ["order", "times"], f26⟩
def b27 : S := (.cons (.ite (.not (.call 1 (.cons (.var 0) (.cons (.int 1) (.cons (.var 1) .nil))))) (.cons (.rs 2 .nil)
    .nil) .nil)
    (.cons (.ret (.mv 0))
    .nil))
/-- sure_few -/
def f27 : Fn := ⟨2, 2, false, b27⟩
def d27 : Df := ⟨top 40, ["thing", "most"], ["thing", "most"], f27⟩
def b28 : S := (.cons (.asgT (.cons (.n 2) (.cons (.n 3) .nil)) (.tup (.cons (.call 13 (.cons (.var 0) .nil)) (.cons (.call 27 (.cons (.var 1) (.cons (.glb 2) .nil))) .nil))))
    (.cons (.asg 4 (.lrg true (.cons (.var 3) .nil)) false)
    (.cons (.ret (.bi .len (.cons (.comp [5] (.n 5) (.one (.call 23 (.cons (.var 3) .nil))) (.one (.cmp .Eq (.call 26 (.cons (.var 5) (.cons (.ixV 2 (.int 0)) .nil))) (.var 4))) (.var 5)) .nil)))
    .nil)))
/-- lens_ways -/
def f28 : Fn := ⟨2, 6, false, b28⟩
def d28 : Df := ⟨top 41, ["lens", "things", "own", "many", "still", "order"], ["lens", "things"], f28⟩
def b29 : S := (.cons (.asgT (.cons (.n 2) (.cons (.n 3) .nil)) (.tup (.cons (.call 13 (.cons (.var 0) .nil)) (.cons (.call 27 (.cons (.var 1) (.cons (.glb 2) .nil))) .nil))))
    (.cons (.ret (.bi .tupleOf (.cons (.comp [4] (.n 4) (.it .range2 (.cons (.int 1) (.cons (.bin .Add (.var 3) (.int 1)) .nil))) (.bl true) (.ite (.cmp .Eq (.bin .Mod (.ixV 2 (.int 0)) (.var 4)) (.int 0)) (.int 1) (.int 0))) .nil)))
    .nil))
/-- lens_coverings_few -/
def f29 : Fn := ⟨2, 5, false, b29⟩
def d29 : Df := ⟨top 42, ["lens", "sheets", "own", "many", "few"], ["lens", "sheets"], f29⟩
def b30 : S := (.cons (.asg 2 (.ite (.cmp .Lt (.var 1) (.lenV 0)) (.ixV 0 (.var 1)) (.int 0)) false)
    (.cons (.ret (.lst (.cons (.bin .Mult (.bi .abs (.cons (.var 2) .nil)) (.bi .int1 (.cons (.cmp .GtE (.bi .abs (.cons (.var 2) .nil)) (.bin .Pow (.int 10) (.int 18))) .nil))) (.cons (.bin .Add (.bin .Add (.bin .Mod (.bi .int1 (.cons (.var 2) .nil)) (.int 2305843009213693951)) (.bin .Mult (.int 39373) (.var 1))) (.int 20953056)) (.cons (.int 0) .nil)))))
    .nil))
/-- _law_box -/
def f30 : Fn := ⟨2, 3, false, b30⟩
def d30 : Df := ⟨top 44, ["script", "k", "bit_so"], ["script", "k"], f30⟩
def b31 : S := (.cons (.ite (.cmp .Gt (.ixV 0 (.int 0)) (.int 0)) (.cons (.asg 2 (.bin .Mod (.bi .int1 (.cons (.ixV 0 (.int 0)) .nil)) (.var 1)) true)
    (.cons (.setI 0 (.int 0) (.bin .FloorDiv (.ixV 0 (.int 0)) (.var 1)))
    (.cons (.ret (.mv 2))
    .nil))) .nil)
    (.cons (.setI 0 (.int 2) (.bin .Add (.ixV 0 (.int 2)) (.int 1)))
    (.cons (.asg 3 (.bin .Mod (.bi .int1 (.cons (.bin .Mult (.bin .Add (.ixV 0 (.int 1)) (.bin .Mult (.int 48271) (.ixV 0 (.int 2)))) (.bin .Add (.int 39373) (.ixV 0 (.int 2)))) .nil)) (.int 2147483647)) false)
    (.cons (.asg 4 (.bin .Add (.bin .Mod (.bi .int1 (.cons (.var 3) .nil)) (.int 40009)) (.int 7)) false)
    (.cons (.asg 5 (.bin .Mod (.bi .int1 (.cons (.bin .Mult (.bin .Add (.bin .Add (.var 3) (.ixV 0 (.int 2))) (.bin .FloorDiv (.ixV 0 (.int 1)) (.int 1000003))) (.var 4)) .nil)) (.int 2147483629)) false)
    (.cons (.ret (.bin .Mod (.bi .int1 (.cons (.bin .FloorDiv (.bin .Mod (.bi .int1 (.cons (.bin .Add (.bin .Mult (.var 5) (.int 48271)) (.var 3)) .nil)) (.int 2147483587)) (.int 64)) .nil)) (.var 1)))
    .nil))))))
/-- _law_take -/
def f31 : Fn := ⟨2, 6, true, b31⟩
def d31 : Df := ⟨top 45, ["tin", "below_so", "drawn_so", "once_so", "wide_so", "twice_so"], ["tin", "below_so"], f31⟩
def b32 : S := (.cons (.asg 2 (.orT (.bi .listOf (.cons (.slV 0 .non (.var 1)) .nil)) (.one (.lst (.cons (.int 0) .nil)))) true)
    (.cons (.for_ (.t (.cons (.n 3) (.cons (.n 4) .nil))) (.it .enum (.cons (.slV 0 (.var 1) (.int 63)) .nil)) (.cons (.asg 5 (.bin .Mod (.bi .int1 (.cons (.var 3) .nil)) (.var 1)) false)
    (.cons (.setI 2 (.var 5) (.bin .Add (.ixV 2 (.var 5)) (.bin .Mult (.var 4) (.bin .Add (.var 3) (.int 2)))))
    .nil)))
    (.cons (.ret (.mv 2))
    .nil)))
/-- _law_cells -/
def f32 : Fn := ⟨2, 6, true, b32⟩
def d32 : Df := ⟨top 46, ["script", "most_so", "cells_so", "k", "bit_so", "at_so"], ["script", "most_so"], f32⟩
def b33 : S := (.cons (.ret (.ixV 1 (.callB 31 0 (.cons (.lenV 1) .nil))))
    .nil)
/-- _law_of -/
def f33 : Fn := ⟨2, 2, true, b33⟩
def d33 : Df := ⟨top 47, ["tin", "goods_so"], ["tin", "goods_so"], f33⟩
def b34 : S := (.cons (.pk2 3 4 true true (.bi .listOf (.cons (.var 1) .nil)) (.lst .nil))
    (.cons (.for_ (.n 5) (.it .range1 (.cons (.bi .min2 (.cons (.bi .int1 (.cons (.var 2) .nil)) (.cons (.lenV 3) .nil))) .nil)) (.cons (.app 4 (.popV 3 (.callB 31 0 (.cons (.lenV 3) .nil))))
    .nil))
    (.cons (.ret (.mv 4))
    .nil)))
/-- _law_pick -/
def f34 : Fn := ⟨3, 6, true, b34⟩
def d34 : Df := ⟨top 48, ["tin", "goods_so", "count_so", "pool_so", "found", "lap"], ["tin", "goods_so", "count_so"], f34⟩
def b35 : S := (.cons (.ite (.isi (.var 1) [.list, .tuple]) (.cons (.ite (.or (.cmp .NotEq (.isi (.var 0) [.list]) (.isi (.var 1) [.list])) (.one (.cmp .NotEq (.isi (.var 0) [.tuple]) (.isi (.var 1) [.tuple])))) (.cons (.ret (.bl false))
    .nil) .nil)
    (.cons (.ret (.and (.cmp .Eq (.lenV 0) (.lenV 1)) (.one (.bi .all (.cons (.comp [2, 3] (.t (.cons (.n 2) (.cons (.n 3) .nil))) (.it .zip (.cons (.var 0) (.cons (.var 1) .nil))) (.bl true) (.call 35 (.cons (.var 2) (.cons (.var 3) .nil)))) .nil)))))
    .nil)) .nil)
    (.cons (.ite (.cmp .Is (.var 1) .non) (.cons (.ret (.cmp .Is (.var 0) .non))
    .nil) .nil)
    (.cons (.ite (.isi (.var 1) [.bool, .str]) (.cons (.ret (.and (.cmp .Eq (.isi (.var 0) [.bool]) (.isi (.var 1) [.bool])) (.and (.cmp .Eq (.isi (.var 0) [.str]) (.isi (.var 1) [.str])) (.one (.cmp .Eq (.var 0) (.var 1))))))
    .nil) .nil)
    (.cons (.ret (.and (.isi (.var 0) [.int]) (.and (.not (.isi (.var 0) [.bool])) (.one (.cmp .Eq (.var 0) (.var 1))))))
    .nil))))
/-- _law_same -/
def f35 : Fn := ⟨2, 4, false, b35⟩
def d35 : Df := ⟨top 49, ["got", "due", "mine", "its"], ["got", "due"], f35⟩
def b36 : S := (.cons (.whl (.cmp .NotEq (.var 1) (.int 0)) (.cons (.par2 0 1 (.cons (.var 1) (.cons (.bin .Mod (.var 0) (.var 1)) .nil)))
    .nil))
    (.cons (.ret (.bi .abs (.cons (.var 0) .nil)))
    .nil))
/-- _law_gcd -/
def f36 : Fn := ⟨2, 2, false, b36⟩
def d36 : Df := ⟨top 50, ["one", "two"], ["one", "two"], f36⟩
def b37 : S := (.cons (.ret (.ite (.cmp .Gt (.var 0) (.int 1)) (.comp [1] (.n 1) (.it .range2 (.cons (.int 1) (.cons (.var 0) .nil))) (.one (.cmp .Eq (.call 36 (.cons (.var 1) (.cons (.var 0) .nil))) (.int 1))) (.var 1)) (.lst (.cons (.int 0) .nil))))
    .nil)
/-- _law_units -/
def f37 : Fn := ⟨1, 2, false, b37⟩
def d37 : Df := ⟨top 51, ["below", "own"], ["below"], f37⟩
def b38 : S := (.cons (.asg 1 (.call 30 (.cons (.callB 32 0 (.cons (.int 1) .nil)) (.cons (.int 0) .nil))) true)
    (.cons (.for_ (.n 2) (.it .range1 (.cons (.int 6) .nil)) (.cons (.asg 3 (.bin .Add (.int 3) (.callB 31 1 (.cons (.int 118) .nil))) false)
    (.cons (.asg 4 (.call 37 (.cons (.var 3) .nil)) false)
    (.cons (.asgT (.cons (.n 5) (.cons (.n 6) .nil)) (.tup (.cons (.tup (.cons (.var 3) (.cons (.callB 33 1 (.cons (.var 4) .nil)) .nil))) (.cons (.tup (.cons (.var 3) (.cons (.callB 33 1 (.cons (.var 4) .nil)) .nil))) .nil))))
    (.cons (.par3 7 8 9 (.cons (.call 22 (.cons (.var 5) .nil)) (.cons (.call 22 (.cons (.var 6) .nil)) (.cons (.call 22 (.cons (.call 16 (.cons (.var 6) .nil)) .nil)) .nil))))
    (.cons (.ite (.not (.call 35 (.cons (.call 19 (.cons (.var 5) (.cons (.var 6) .nil))) (.cons (.cmp .In (.var 7) (.tup (.cons (.var 8) (.cons (.var 9) .nil)))) .nil)))) (.cons (.ret (.bl false))
    .nil) .nil)
    (.cons (.ite (.and (.call 15 (.cons (.var 5) (.cons (.var 6) .nil))) (.one (.cmp .NotEq (.var 7) (.var 8)))) (.cons (.ret (.bl false))
    .nil) .nil)
    (.cons (.asg 10 (.srt (.comp [11] (.n 11) (.one (.var 4)) (.bl true) (.bin .Mod (.bin .Mult (.bin .Mult (.ixV 5 (.int 1)) (.var 11)) (.var 11)) (.var 3)))) false)
    (.cons (.ite (.or (.cmp .NotEq (.var 7) (.tup (.cons (.var 3) (.cons (.ixV 10 (.int 0)) .nil)))) (.one (.cmp .NotEq (.cmp .Eq (.var 8) (.var 7)) (.cmp .In (.ixV 6 (.int 1)) (.var 10))))) (.cons (.ret (.bl false))
    .nil) .nil)
    (.cons (.asg 12 (.bin .Add (.int 1) (.callB 31 1 (.cons (.int 4) .nil))) false)
    (.cons (.ite (.not (.call 35 (.cons (.lst (.cons (.call 28 (.cons (.var 5) (.cons (.var 12) .nil))) (.cons (.call 29 (.cons (.var 5) (.cons (.int 5) .nil))) .nil))) (.cons (.lst (.cons (.call 28 (.cons (.var 6) (.cons (.var 12) .nil))) (.cons (.call 29 (.cons (.var 6) (.cons (.int 5) .nil))) .nil))) .nil)))) (.cons (.ret (.bl false))
    .nil) .nil)
    (.cons (.ite (.cmp .Lt (.var 3) (.int 40)) (.cons (.asg 13 (.call 20 (.cons (.var 3) .nil)) false)
    (.cons (.asg 14 (.comp [11] (.n 11) (.one (.var 13)) (.bl true) (.call 22 (.cons (.var 11) .nil))) false)
    (.cons (.ite (.cmp .NotEq (.bin .Mult (.lset (.var 14)) (.lenV 10)) (.lenV 4)) (.cons (.ret (.bl false))
    .nil) .nil)
    (.cons (.for_ (.n 11) (.one (.callB 34 1 (.cons (.var 13) (.cons (.int 3) .nil)))) (.cons (.asg 15 (.comp [16] (.n 16) (.one (.var 13)) (.one (.call 19 (.cons (.var 11) (.cons (.var 16) .nil)))) (.var 16)) false)
    (.cons (.asg 17 (.lst (.cons (.call 22 (.cons (.var 11) .nil)) (.cons (.call 22 (.cons (.call 16 (.cons (.var 11) .nil)) .nil)) .nil))) false)
    (.cons (.ite (.cmp .NotEq (.var 15) (.comp [16, 18] (.t (.cons (.n 16) (.cons (.n 18) .nil))) (.it .zip (.cons (.var 13) (.cons (.var 14) .nil))) (.one (.cmp .In (.var 18) (.var 17))) (.var 16))) (.cons (.ret (.bl false))
    .nil) .nil)
    .nil))))
    .nil)))) .nil)
    .nil))))))))))))
    (.cons (.ret (.bl true))
    .nil)))
/-- law -/
def f38 : Fn := ⟨1, 19, true, b38⟩
def d38 : Df := ⟨top 52, ["script", "tin", "lap", "first_so", "units_so", "one", "two", "near_so", "far_so", "mirror_so", "squares_so", "own", "things", "lenses_so", "classes_so", "twins_so", "its", "both_so", "its_class"], ["script"], f38⟩
def tab : List Df := [d0, d1, d2, d3, d4, d5, d6, d7, d8, d9, d10, d11, d12, d13, d14, d15, d16, d17, d18, d19, d20, d21, d22, d23, d24, d25, d26, d27, d28, d29, d30, d31, d32, d33, d34, d35, d36, d37, d38]
def fns : List Fn := [f0, f1, f2, f3, f4, f5, f6, f7, f8, f9, f10, f11, f12, f13, f14, f15, f16, f17, f18, f19, f20, f21, f22, f23, f24, f25, f26, f27, f28, f29, f30, f31, f32, f33, f34, f35, f36, f37, f38]
def cs : List PyData := [.int 1000000, .int 5000, .int 5]
end K56

set_option maxHeartbeats 4000000
namespace K56
open PySem PySem.Spec PyProof.Rows L2 TD
theorem ck0 : d0.chk gm = true := by decide +kernel
theorem sc0 : FnScope d0.N d0.ps (defScope d0.st) := ⟨rfl, rfl, rfl, by decide +kernel, rfl, by decide +kernel, by decide +kernel⟩
theorem bd0 (kV doc pm : Value) (an : Option Addr) (cdv ct : Value) (us : List Value) (h : us.length = d0.ps.length) : bindArgs (PySem.W.fnOf "is_number" "is_number" (defArgs d0.st) (defBody d0.st) (defScope d0.st) .none kV doc pm an cdv ct) ⟨us, []⟩ = pure (d0.ps.zip us) := match us, h with | [_], _ => rfl
theorem ck1 : d1.chk gm = true := by decide +kernel
theorem sc1 : FnScope d1.N d1.ps (defScope d1.st) := ⟨rfl, rfl, rfl, by decide +kernel, rfl, by decide +kernel, by decide +kernel⟩
theorem bd1 (kV doc pm : Value) (an : Option Addr) (cdv ct : Value) (us : List Value) (h : us.length = d1.ps.length) : bindArgs (PySem.W.fnOf "is_within" "is_within" (defArgs d1.st) (defBody d1.st) (defScope d1.st) .none kV doc pm an cdv ct) ⟨us, []⟩ = pure (d1.ps.zip us) := match us, h with | [_, _, _], _ => rfl
theorem ck2 : d2.chk gm = true := by decide +kernel
theorem sc2 : FnScope d2.N d2.ps (defScope d2.st) := ⟨rfl, rfl, rfl, by decide +kernel, rfl, by decide +kernel, by decide +kernel⟩
theorem bd2 (kV doc pm : Value) (an : Option Addr) (cdv ct : Value) (us : List Value) (h : us.length = d2.ps.length) : bindArgs (PySem.W.fnOf "is_long" "is_long" (defArgs d2.st) (defBody d2.st) (defScope d2.st) .none kV doc pm an cdv ct) ⟨us, []⟩ = pure (d2.ps.zip us) := match us, h with | [_, _], _ => rfl
theorem ck3 : d3.chk gm = true := by decide +kernel
theorem sc3 : FnScope d3.N d3.ps (defScope d3.st) := ⟨rfl, rfl, rfl, by decide +kernel, rfl, by decide +kernel, by decide +kernel⟩
theorem bd3 (kV doc pm : Value) (an : Option Addr) (cdv ct : Value) (us : List Value) (h : us.length = d3.ps.length) : bindArgs (PySem.W.fnOf "tupled" "tupled" (defArgs d3.st) (defBody d3.st) (defScope d3.st) .none kV doc pm an cdv ct) ⟨us, []⟩ = pure (d3.ps.zip us) := match us, h with | [_], _ => rfl
theorem ck4 : d4.chk gm = true := by decide +kernel
theorem sc4 : FnScope d4.N d4.ps (defScope d4.st) := ⟨rfl, rfl, rfl, by decide +kernel, rfl, by decide +kernel, by decide +kernel⟩
theorem bd4 (kV doc pm : Value) (an : Option Addr) (cdv ct : Value) (us : List Value) (h : us.length = d4.ps.length) : bindArgs (PySem.W.fnOf "back_by" "back_by" (defArgs d4.st) (defBody d4.st) (defScope d4.st) .none kV doc pm an cdv ct) ⟨us, []⟩ = pure (d4.ps.zip us) := match us, h with | [_, _], _ => rfl
theorem ck5 : d5.chk gm = true := by decide +kernel
theorem sc5 : FnScope d5.N d5.ps (defScope d5.st) := ⟨rfl, rfl, rfl, by decide +kernel, rfl, by decide +kernel, by decide +kernel⟩
theorem bd5 (kV doc pm : Value) (an : Option Addr) (cdv ct : Value) (us : List Value) (h : us.length = d5.ps.length) : bindArgs (PySem.W.fnOf "primes_of" "primes_of" (defArgs d5.st) (defBody d5.st) (defScope d5.st) .none kV doc pm an cdv ct) ⟨us, []⟩ = pure (d5.ps.zip us) := match us, h with | [_], _ => rfl
theorem ck6 : d6.chk gm = true := by decide +kernel
theorem sc6 : FnScope d6.N d6.ps (defScope d6.st) := ⟨rfl, rfl, rfl, by decide +kernel, rfl, by decide +kernel, by decide +kernel⟩
theorem bd6 (kV doc pm : Value) (an : Option Addr) (cdv ct : Value) (us : List Value) (h : us.length = d6.ps.length) : bindArgs (PySem.W.fnOf "units_below" "units_below" (defArgs d6.st) (defBody d6.st) (defScope d6.st) .none kV doc pm an cdv ct) ⟨us, []⟩ = pure (d6.ps.zip us) := match us, h with | [_], _ => rfl
theorem ck7 : d7.chk gm = true := by decide +kernel
theorem sc7 : FnScope d7.N d7.ps (defScope d7.st) := ⟨rfl, rfl, rfl, by decide +kernel, rfl, by decide +kernel, by decide +kernel⟩
theorem bd7 (kV doc pm : Value) (an : Option Addr) (cdv ct : Value) (us : List Value) (h : us.length = d7.ps.length) : bindArgs (PySem.W.fnOf "is_square_by" "is_square_by" (defArgs d7.st) (defBody d7.st) (defScope d7.st) .none kV doc pm an cdv ct) ⟨us, []⟩ = pure (d7.ps.zip us) := match us, h with | [_, _], _ => rfl
theorem ck8 : d8.chk gm = true := by decide +kernel
theorem sc8 : FnScope d8.N d8.ps (defScope d8.st) := ⟨rfl, rfl, rfl, by decide +kernel, rfl, by decide +kernel, by decide +kernel⟩
theorem bd8 (kV doc pm : Value) (an : Option Addr) (cdv ct : Value) (us : List Value) (h : us.length = d8.ps.length) : bindArgs (PySem.W.fnOf "square_bars" "square_bars" (defArgs d8.st) (defBody d8.st) (defScope d8.st) .none kV doc pm an cdv ct) ⟨us, []⟩ = pure (d8.ps.zip us) := match us, h with | [_, _], _ => rfl
theorem ck9 : d9.chk gm = true := by decide +kernel
theorem sc9 : FnScope d9.N d9.ps (defScope d9.st) := ⟨rfl, rfl, rfl, by decide +kernel, rfl, by decide +kernel, by decide +kernel⟩
theorem bd9 (kV doc pm : Value) (an : Option Addr) (cdv ct : Value) (us : List Value) (h : us.length = d9.ps.length) : bindArgs (PySem.W.fnOf "is_lens_of" "is_lens_of" (defArgs d9.st) (defBody d9.st) (defScope d9.st) .none kV doc pm an cdv ct) ⟨us, []⟩ = pure (d9.ps.zip us) := match us, h with | [_], _ => rfl
theorem ck10 : d10.chk gm = true := by decide +kernel
theorem sc10 : FnScope d10.N d10.ps (defScope d10.st) := ⟨rfl, rfl, rfl, by decide +kernel, rfl, by decide +kernel, by decide +kernel⟩
theorem bd10 (kV doc pm : Value) (an : Option Addr) (cdv ct : Value) (us : List Value) (h : us.length = d10.ps.length) : bindArgs (PySem.W.fnOf "lens_by" "lens_by" (defArgs d10.st) (defBody d10.st) (defScope d10.st) .none kV doc pm an cdv ct) ⟨us, []⟩ = pure (d10.ps.zip us) := match us, h with | [_, _], _ => rfl
theorem ck11 : d11.chk gm = true := by decide +kernel
theorem sc11 : FnScope d11.N d11.ps (defScope d11.st) := ⟨rfl, rfl, rfl, by decide +kernel, rfl, by decide +kernel, by decide +kernel⟩
theorem bd11 (kV doc pm : Value) (an : Option Addr) (cdv ct : Value) (us : List Value) (h : us.length = d11.ps.length) : bindArgs (PySem.W.fnOf "least_lens" "least_lens" (defArgs d11.st) (defBody d11.st) (defScope d11.st) .none kV doc pm an cdv ct) ⟨us, []⟩ = pure (d11.ps.zip us) := match us, h with | [_], _ => rfl
theorem ck12 : d12.chk gm = true := by decide +kernel
theorem sc12 : FnScope d12.N d12.ps (defScope d12.st) := ⟨rfl, rfl, rfl, by decide +kernel, rfl, by decide +kernel, by decide +kernel⟩
theorem bd12 (kV doc pm : Value) (an : Option Addr) (cdv ct : Value) (us : List Value) (h : us.length = d12.ps.length) : bindArgs (PySem.W.fnOf "mirror_by" "mirror_by" (defArgs d12.st) (defBody d12.st) (defScope d12.st) .none kV doc pm an cdv ct) ⟨us, []⟩ = pure (d12.ps.zip us) := match us, h with | [_], _ => rfl
theorem ck13 : d13.chk gm = true := by decide +kernel
theorem sc13 : FnScope d13.N d13.ps (defScope d13.st) := ⟨rfl, rfl, rfl, by decide +kernel, rfl, by decide +kernel, by decide +kernel⟩
theorem bd13 (kV doc pm : Value) (an : Option Addr) (cdv ct : Value) (us : List Value) (h : us.length = d13.ps.length) : bindArgs (PySem.W.fnOf "sure_lens" "sure_lens" (defArgs d13.st) (defBody d13.st) (defScope d13.st) .none kV doc pm an cdv ct) ⟨us, []⟩ = pure (d13.ps.zip us) := match us, h with | [_], _ => rfl
theorem ck14 : d14.chk gm = true := by decide +kernel
theorem sc14 : FnScope d14.N d14.ps (defScope d14.st) := ⟨rfl, rfl, rfl, by decide +kernel, rfl, by decide +kernel, by decide +kernel⟩
theorem bd14 (kV doc pm : Value) (an : Option Addr) (cdv ct : Value) (us : List Value) (h : us.length = d14.ps.length) : bindArgs (PySem.W.fnOf "sure_two" "sure_two" (defArgs d14.st) (defBody d14.st) (defScope d14.st) .none kV doc pm an cdv ct) ⟨us, []⟩ = pure (d14.ps.zip us) := match us, h with | [_, _], _ => rfl
theorem ck15 : d15.chk gm = true := by decide +kernel
theorem sc15 : FnScope d15.N d15.ps (defScope d15.st) := ⟨rfl, rfl, rfl, by decide +kernel, rfl, by decide +kernel, by decide +kernel⟩
theorem bd15 (kV doc pm : Value) (an : Option Addr) (cdv ct : Value) (us : List Value) (h : us.length = d15.ps.length) : bindArgs (PySem.W.fnOf "same_lens" "same_lens" (defArgs d15.st) (defBody d15.st) (defScope d15.st) .none kV doc pm an cdv ct) ⟨us, []⟩ = pure (d15.ps.zip us) := match us, h with | [_, _], _ => rfl
theorem ck16 : d16.chk gm = true := by decide +kernel
theorem sc16 : FnScope d16.N d16.ps (defScope d16.st) := ⟨rfl, rfl, rfl, by decide +kernel, rfl, by decide +kernel, by decide +kernel⟩
theorem bd16 (kV doc pm : Value) (an : Option Addr) (cdv ct : Value) (us : List Value) (h : us.length = d16.ps.length) : bindArgs (PySem.W.fnOf "lens_mirrored" "lens_mirrored" (defArgs d16.st) (defBody d16.st) (defScope d16.st) .none kV doc pm an cdv ct) ⟨us, []⟩ = pure (d16.ps.zip us) := match us, h with | [_], _ => rfl
theorem ck17 : d17.chk gm = true := by decide +kernel
theorem sc17 : FnScope d17.N d17.ps (defScope d17.st) := ⟨rfl, rfl, rfl, by decide +kernel, rfl, by decide +kernel, by decide +kernel⟩
theorem bd17 (kV doc pm : Value) (an : Option Addr) (cdv ct : Value) (us : List Value) (h : us.length = d17.ps.length) : bindArgs (PySem.W.fnOf "ratio_of" "ratio_of" (defArgs d17.st) (defBody d17.st) (defScope d17.st) .none kV doc pm an cdv ct) ⟨us, []⟩ = pure (d17.ps.zip us) := match us, h with | [_, _], _ => rfl
theorem ck18 : d18.chk gm = true := by decide +kernel
theorem sc18 : FnScope d18.N d18.ps (defScope d18.st) := ⟨rfl, rfl, rfl, by decide +kernel, rfl, by decide +kernel, by decide +kernel⟩
theorem bd18 (kV doc pm : Value) (an : Option Addr) (cdv ct : Value) (us : List Value) (h : us.length = d18.ps.length) : bindArgs (PySem.W.fnOf "sure_alike" "sure_alike" (defArgs d18.st) (defBody d18.st) (defScope d18.st) .none kV doc pm an cdv ct) ⟨us, []⟩ = pure (d18.ps.zip us) := match us, h with | [_, _], _ => rfl
theorem ck19 : d19.chk gm = true := by decide +kernel
theorem sc19 : FnScope d19.N d19.ps (defScope d19.st) := ⟨rfl, rfl, rfl, by decide +kernel, rfl, by decide +kernel, by decide +kernel⟩
theorem bd19 (kV doc pm : Value) (an : Option Addr) (cdv ct : Value) (us : List Value) (h : us.length = d19.ps.length) : bindArgs (PySem.W.fnOf "are_twins" "are_twins" (defArgs d19.st) (defBody d19.st) (defScope d19.st) .none kV doc pm an cdv ct) ⟨us, []⟩ = pure (d19.ps.zip us) := match us, h with | [_, _], _ => rfl
theorem ck20 : d20.chk gm = true := by decide +kernel
theorem sc20 : FnScope d20.N d20.ps (defScope d20.st) := ⟨rfl, rfl, rfl, by decide +kernel, rfl, by decide +kernel, by decide +kernel⟩
theorem bd20 (kV doc pm : Value) (an : Option Addr) (cdv ct : Value) (us : List Value) (h : us.length = d20.ps.length) : bindArgs (PySem.W.fnOf "lenses_with" "lenses_with" (defArgs d20.st) (defBody d20.st) (defScope d20.st) .none kV doc pm an cdv ct) ⟨us, []⟩ = pure (d20.ps.zip us) := match us, h with | [_], _ => rfl
theorem ck21 : d21.chk gm = true := by decide +kernel
theorem sc21 : FnScope d21.N d21.ps (defScope d21.st) := ⟨rfl, rfl, rfl, by decide +kernel, rfl, by decide +kernel, by decide +kernel⟩
theorem bd21 (kV doc pm : Value) (an : Option Addr) (cdv ct : Value) (us : List Value) (h : us.length = d21.ps.length) : bindArgs (PySem.W.fnOf "least_class" "least_class" (defArgs d21.st) (defBody d21.st) (defScope d21.st) .none kV doc pm an cdv ct) ⟨us, []⟩ = pure (d21.ps.zip us) := match us, h with | [_, _], _ => rfl
theorem ck22 : d22.chk gm = true := by decide +kernel
theorem sc22 : FnScope d22.N d22.ps (defScope d22.st) := ⟨rfl, rfl, rfl, by decide +kernel, rfl, by decide +kernel, by decide +kernel⟩
theorem bd22 (kV doc pm : Value) (an : Option Addr) (cdv ct : Value) (us : List Value) (h : us.length = d22.ps.length) : bindArgs (PySem.W.fnOf "lens_class" "lens_class" (defArgs d22.st) (defBody d22.st) (defScope d22.st) .none kV doc pm an cdv ct) ⟨us, []⟩ = pure (d22.ps.zip us) := match us, h with | [_], _ => rfl
theorem ck23 : d23.chk gm = true := by decide +kernel
theorem sc23 : FnScope d23.N d23.ps (defScope d23.st) := ⟨rfl, rfl, rfl, by decide +kernel, rfl, by decide +kernel, by decide +kernel⟩
theorem bd23 (kV doc pm : Value) (an : Option Addr) (cdv ct : Value) (us : List Value) (h : us.length = d23.ps.length) : bindArgs (PySem.W.fnOf "orders_of" "orders_of" (defArgs d23.st) (defBody d23.st) (defScope d23.st) .none kV doc pm an cdv ct) ⟨us, []⟩ = pure (d23.ps.zip us) := match us, h with | [_], _ => rfl
theorem ck24 : d24.chk gm = true := by decide +kernel
theorem sc24 : FnScope d24.N d24.ps (defScope d24.st) := ⟨rfl, rfl, rfl, by decide +kernel, rfl, by decide +kernel, by decide +kernel⟩
theorem bd24 (kV doc pm : Value) (an : Option Addr) (cdv ct : Value) (us : List Value) (h : us.length = d24.ps.length) : bindArgs (PySem.W.fnOf "behind" "behind" (defArgs d24.st) (defBody d24.st) (defScope d24.st) .none kV doc pm an cdv ct) ⟨us, []⟩ = pure (d24.ps.zip us) := match us, h with | [_, _], _ => rfl
theorem ck25 : d25.chk gm = true := by decide +kernel
theorem sc25 : FnScope d25.N d25.ps (defScope d25.st) := ⟨rfl, rfl, rfl, by decide +kernel, rfl, by decide +kernel, by decide +kernel⟩
theorem bd25 (kV doc pm : Value) (an : Option Addr) (cdv ct : Value) (us : List Value) (h : us.length = d25.ps.length) : bindArgs (PySem.W.fnOf "back_of" "back_of" (defArgs d25.st) (defBody d25.st) (defScope d25.st) .none kV doc pm an cdv ct) ⟨us, []⟩ = pure (d25.ps.zip us) := match us, h with | [_], _ => rfl
theorem ck26 : d26.chk gm = true := by decide +kernel
theorem sc26 : FnScope d26.N d26.ps (defScope d26.st) := ⟨rfl, rfl, rfl, by decide +kernel, rfl, by decide +kernel, by decide +kernel⟩
theorem bd26 (kV doc pm : Value) (an : Option Addr) (cdv ct : Value) (us : List Value) (h : us.length = d26.ps.length) : bindArgs (PySem.W.fnOf "often" "often" (defArgs d26.st) (defBody d26.st) (defScope d26.st) .none kV doc pm an cdv ct) ⟨us, []⟩ = pure (d26.ps.zip us) := match us, h with | [_, _], _ => rfl
theorem ck27 : d27.chk gm = true := by decide +kernel
theorem sc27 : FnScope d27.N d27.ps (defScope d27.st) := ⟨rfl, rfl, rfl, by decide +kernel, rfl, by decide +kernel, by decide +kernel⟩
theorem bd27 (kV doc pm : Value) (an : Option Addr) (cdv ct : Value) (us : List Value) (h : us.length = d27.ps.length) : bindArgs (PySem.W.fnOf "sure_few" "sure_few" (defArgs d27.st) (defBody d27.st) (defScope d27.st) .none kV doc pm an cdv ct) ⟨us, []⟩ = pure (d27.ps.zip us) := match us, h with | [_, _], _ => rfl
theorem ck28 : d28.chk gm = true := by decide +kernel
theorem sc28 : FnScope d28.N d28.ps (defScope d28.st) := ⟨rfl, rfl, rfl, by decide +kernel, rfl, by decide +kernel, by decide +kernel⟩
theorem bd28 (kV doc pm : Value) (an : Option Addr) (cdv ct : Value) (us : List Value) (h : us.length = d28.ps.length) : bindArgs (PySem.W.fnOf "lens_ways" "lens_ways" (defArgs d28.st) (defBody d28.st) (defScope d28.st) .none kV doc pm an cdv ct) ⟨us, []⟩ = pure (d28.ps.zip us) := match us, h with | [_, _], _ => rfl
theorem ck29 : d29.chk gm = true := by decide +kernel
theorem sc29 : FnScope d29.N d29.ps (defScope d29.st) := ⟨rfl, rfl, rfl, by decide +kernel, rfl, by decide +kernel, by decide +kernel⟩
theorem bd29 (kV doc pm : Value) (an : Option Addr) (cdv ct : Value) (us : List Value) (h : us.length = d29.ps.length) : bindArgs (PySem.W.fnOf "lens_coverings_few" "lens_coverings_few" (defArgs d29.st) (defBody d29.st) (defScope d29.st) .none kV doc pm an cdv ct) ⟨us, []⟩ = pure (d29.ps.zip us) := match us, h with | [_, _], _ => rfl
theorem ck30 : d30.chk gm = true := by decide +kernel
theorem sc30 : FnScope d30.N d30.ps (defScope d30.st) := ⟨rfl, rfl, rfl, by decide +kernel, rfl, by decide +kernel, by decide +kernel⟩
theorem bd30 (kV doc pm : Value) (an : Option Addr) (cdv ct : Value) (us : List Value) (h : us.length = d30.ps.length) : bindArgs (PySem.W.fnOf "_law_box" "_law_box" (defArgs d30.st) (defBody d30.st) (defScope d30.st) .none kV doc pm an cdv ct) ⟨us, []⟩ = pure (d30.ps.zip us) := match us, h with | [_, _], _ => rfl
theorem ck31 : d31.chk gm = true := by decide +kernel
theorem sc31 : FnScope d31.N d31.ps (defScope d31.st) := ⟨rfl, rfl, rfl, by decide +kernel, rfl, by decide +kernel, by decide +kernel⟩
theorem bd31 (kV doc pm : Value) (an : Option Addr) (cdv ct : Value) (us : List Value) (h : us.length = d31.ps.length) : bindArgs (PySem.W.fnOf "_law_take" "_law_take" (defArgs d31.st) (defBody d31.st) (defScope d31.st) .none kV doc pm an cdv ct) ⟨us, []⟩ = pure (d31.ps.zip us) := match us, h with | [_, _], _ => rfl
theorem ck32 : d32.chk gm = true := by decide +kernel
theorem sc32 : FnScope d32.N d32.ps (defScope d32.st) := ⟨rfl, rfl, rfl, by decide +kernel, rfl, by decide +kernel, by decide +kernel⟩
theorem bd32 (kV doc pm : Value) (an : Option Addr) (cdv ct : Value) (us : List Value) (h : us.length = d32.ps.length) : bindArgs (PySem.W.fnOf "_law_cells" "_law_cells" (defArgs d32.st) (defBody d32.st) (defScope d32.st) .none kV doc pm an cdv ct) ⟨us, []⟩ = pure (d32.ps.zip us) := match us, h with | [_, _], _ => rfl
theorem ck33 : d33.chk gm = true := by decide +kernel
theorem sc33 : FnScope d33.N d33.ps (defScope d33.st) := ⟨rfl, rfl, rfl, by decide +kernel, rfl, by decide +kernel, by decide +kernel⟩
theorem bd33 (kV doc pm : Value) (an : Option Addr) (cdv ct : Value) (us : List Value) (h : us.length = d33.ps.length) : bindArgs (PySem.W.fnOf "_law_of" "_law_of" (defArgs d33.st) (defBody d33.st) (defScope d33.st) .none kV doc pm an cdv ct) ⟨us, []⟩ = pure (d33.ps.zip us) := match us, h with | [_, _], _ => rfl
theorem ck34 : d34.chk gm = true := by decide +kernel
theorem sc34 : FnScope d34.N d34.ps (defScope d34.st) := ⟨rfl, rfl, rfl, by decide +kernel, rfl, by decide +kernel, by decide +kernel⟩
theorem bd34 (kV doc pm : Value) (an : Option Addr) (cdv ct : Value) (us : List Value) (h : us.length = d34.ps.length) : bindArgs (PySem.W.fnOf "_law_pick" "_law_pick" (defArgs d34.st) (defBody d34.st) (defScope d34.st) .none kV doc pm an cdv ct) ⟨us, []⟩ = pure (d34.ps.zip us) := match us, h with | [_, _, _], _ => rfl
theorem ck35 : d35.chk gm = true := by decide +kernel
theorem sc35 : FnScope d35.N d35.ps (defScope d35.st) := ⟨rfl, rfl, rfl, by decide +kernel, rfl, by decide +kernel, by decide +kernel⟩
theorem bd35 (kV doc pm : Value) (an : Option Addr) (cdv ct : Value) (us : List Value) (h : us.length = d35.ps.length) : bindArgs (PySem.W.fnOf "_law_same" "_law_same" (defArgs d35.st) (defBody d35.st) (defScope d35.st) .none kV doc pm an cdv ct) ⟨us, []⟩ = pure (d35.ps.zip us) := match us, h with | [_, _], _ => rfl
theorem ck36 : d36.chk gm = true := by decide +kernel
theorem sc36 : FnScope d36.N d36.ps (defScope d36.st) := ⟨rfl, rfl, rfl, by decide +kernel, rfl, by decide +kernel, by decide +kernel⟩
theorem bd36 (kV doc pm : Value) (an : Option Addr) (cdv ct : Value) (us : List Value) (h : us.length = d36.ps.length) : bindArgs (PySem.W.fnOf "_law_gcd" "_law_gcd" (defArgs d36.st) (defBody d36.st) (defScope d36.st) .none kV doc pm an cdv ct) ⟨us, []⟩ = pure (d36.ps.zip us) := match us, h with | [_, _], _ => rfl
theorem ck37 : d37.chk gm = true := by decide +kernel
theorem sc37 : FnScope d37.N d37.ps (defScope d37.st) := ⟨rfl, rfl, rfl, by decide +kernel, rfl, by decide +kernel, by decide +kernel⟩
theorem bd37 (kV doc pm : Value) (an : Option Addr) (cdv ct : Value) (us : List Value) (h : us.length = d37.ps.length) : bindArgs (PySem.W.fnOf "_law_units" "_law_units" (defArgs d37.st) (defBody d37.st) (defScope d37.st) .none kV doc pm an cdv ct) ⟨us, []⟩ = pure (d37.ps.zip us) := match us, h with | [_], _ => rfl
theorem ck38 : d38.chk gm = true := by decide +kernel
theorem sc38 : FnScope d38.N d38.ps (defScope d38.st) := ⟨rfl, rfl, rfl, by decide +kernel, rfl, by decide +kernel, by decide +kernel⟩
theorem bd38 (kV doc pm : Value) (an : Option Addr) (cdv ct : Value) (us : List Value) (h : us.length = d38.ps.length) : bindArgs (PySem.W.fnOf "law" "law" (defArgs d38.st) (defBody d38.st) (defScope d38.st) .none kV doc pm an cdv ct) ⟨us, []⟩ = pure (d38.ps.zip us) := match us, h with | [_], _ => rfl
/-- the law in plain Lean -/
def Pure : Prop := ∀ ns : List Int, ns.length ≤ 63 → ∃ b, evF cs fns 60 38 [.scr (ns.map PyData.int)] = .ok (.v (.bool true)) b
theorem mk {w : World} {K : PySem.W.Frag} {h : Heap} {mg : Str → Option Value} {fa : Addr} {C0 C1 C2 : Addr} (X : K.In h) (G : h.Ns mainGlobals mg) (hfa : mg "law" = some (.ref fa))
    (e0 : DfOk' K mg gm "is_number" d0)
    (e1 : DfOk' K mg gm "is_within" d1)
    (e2 : DfOk' K mg gm "is_long" d2)
    (e3 : DfOk' K mg gm "tupled" d3)
    (e4 : DfOk' K mg gm "back_by" d4)
    (e5 : DfOk' K mg gm "primes_of" d5)
    (e6 : DfOk' K mg gm "units_below" d6)
    (e7 : DfOk' K mg gm "is_square_by" d7)
    (e8 : DfOk' K mg gm "square_bars" d8)
    (e9 : DfOk' K mg gm "is_lens_of" d9)
    (e10 : DfOk' K mg gm "lens_by" d10)
    (e11 : DfOk' K mg gm "least_lens" d11)
    (e12 : DfOk' K mg gm "mirror_by" d12)
    (e13 : DfOk' K mg gm "sure_lens" d13)
    (e14 : DfOk' K mg gm "sure_two" d14)
    (e15 : DfOk' K mg gm "same_lens" d15)
    (e16 : DfOk' K mg gm "lens_mirrored" d16)
    (e17 : DfOk' K mg gm "ratio_of" d17)
    (e18 : DfOk' K mg gm "sure_alike" d18)
    (e19 : DfOk' K mg gm "are_twins" d19)
    (e20 : DfOk' K mg gm "lenses_with" d20)
    (e21 : DfOk' K mg gm "least_class" d21)
    (e22 : DfOk' K mg gm "lens_class" d22)
    (e23 : DfOk' K mg gm "orders_of" d23)
    (e24 : DfOk' K mg gm "behind" d24)
    (e25 : DfOk' K mg gm "back_of" d25)
    (e26 : DfOk' K mg gm "often" d26)
    (e27 : DfOk' K mg gm "sure_few" d27)
    (e28 : DfOk' K mg gm "lens_ways" d28)
    (e29 : DfOk' K mg gm "lens_coverings_few" d29)
    (e30 : DfOk' K mg gm "_law_box" d30)
    (e31 : DfOk' K mg gm "_law_take" d31)
    (e32 : DfOk' K mg gm "_law_cells" d32)
    (e33 : DfOk' K mg gm "_law_of" d33)
    (e34 : DfOk' K mg gm "_law_pick" d34)
    (e35 : DfOk' K mg gm "_law_same" d35)
    (e36 : DfOk' K mg gm "_law_gcd" d36)
    (e37 : DfOk' K mg gm "_law_units" d37)
    (e38 : DfOk' K mg gm "law" d38)
    (hb : ∀ x ∈ bltN, mg x = none) (hg : PySem.W.nsIn K mainGlobals "gcd" = some (some (.builtin "math.gcd")))
    (k0 : CstF K mg "GREATEST" (.int 1000000))
    (k1 : CstF K mg "MOST_links" (.int 5000))
    (k2 : CstF K mg "MOST_ways" (.int 5))
    (c0 : ClsOk K mg "CanNot" C0)
    (c1 : ClsOk K mg "TooMany" C1)
    (c2 : ClsOk K mg "Unfit" C2)
    (x00 : PySem.W.subIn K (.ref C0) (.ref C0) = some true) (x01 : PySem.W.subIn K (.ref C0) (.ref C1) = some false) (x02 : PySem.W.subIn K (.ref C0) (.ref C2) = some false) (x10 : PySem.W.subIn K (.ref C1) (.ref C0) = some false) (x11 : PySem.W.subIn K (.ref C1) (.ref C1) = some true) (x12 : PySem.W.subIn K (.ref C1) (.ref C2) = some false) (x20 : PySem.W.subIn K (.ref C2) (.ref C0) = some false) (x21 : PySem.W.subIn K (.ref C2) (.ref C1) = some false) (x22 : PySem.W.subIn K (.ref C2) (.ref C2) = some true) :
    ∃ fd : FuncData, (∀ (s : Shared) (u : Value), BindsTo s fd ⟨[u], []⟩ [("script", u)]) ∧ ∀ base : Heap, K.In base → base.Ns mainGlobals mg → FnOk PySem.Challenge.pw_tubedrooms_k56_main_twins_and_classes_of w K mg base (L2.CX PySem.Challenge.pw_tubedrooms_k56_main_twins_and_classes_of w) 60 fa fd ["script"] (spT (evF cs fns 60) 38 K) :=
  law_F (G := gm) (cs := cs) (cl := clOf [C0, C1, C2]) (tab := tab) (k := 59) (f := 38) hfa (fa_mk hb (fun _ => PySem.W.mg_of X G hg) ⟨k0, k1, k2, trivial⟩) (fun base k cf => ce_mk (P := PySem.Challenge.pw_tubedrooms_k56_main_twins_and_classes_of) (w := w) (K := K) (mg := mg) (G := gm) (cs := cs) (Cs := [C0, C1, C2]) ⟨c0, c1, c2, trivial⟩ (allX3 x00 x01 x02 x10 x11 x12 x20 x21 x22) (fun z => (Bool.false_ne_true z).elim) base k cf) ⟨e0, e1, e2, e3, e4, e5, e6, e7, e8, e9, e10, e11, e12, e13, e14, e15, e16, e17, e18, e19, e20, e21, e22, e23, e24, e25, e26, e27, e28, e29, e30, e31, e32, e33, e34, e35, e36, e37, e38, trivial⟩ rfl rfl rfl
end K56

set_option maxHeartbeats 1000000
namespace K56
open PySem PySem.Spec PyProof.Rows L2 TD
local macro_rules | `(tactic| walk_at "td omega") => `(tactic| first | omega | (simp only [decide_eq_true_eq, decide_eq_false_iff_not, Bool.not_eq_true', Bool.not_eq_false'] at *; omega))
local macro_rules | `(tactic| walk_at "td hyp") => `(tactic| first | with_reducible assumption | with_reducible rfl | omega | assumption | walk_at "td omega")
local macro_rules | `(tactic| walk_at "td dec") => `(tactic| first | with_reducible rfl | with_reducible assumption | (with_reducible refine decide_eq_true ?_; omega) | (with_reducible refine decide_eq_false ?_; omega) | (simp [isNum, isTy, W.val]; done) | (simp [isNum, isTy, W.val]; omega) | (simp [isNum, isTy, W.val, *]; done) | (simp only [Bool.not_eq_true', Bool.not_eq_false', decide_eq_true_eq, decide_eq_false_iff_not, Bool.and_eq_true, Bool.or_eq_true, Bool.and_eq_false_iff, Bool.or_eq_false_iff, Bool.not_true, Bool.not_false, Bool.and_true, Bool.true_and, Bool.or_false, Bool.false_or]; omega) | (simp [*]; done) | simp_all)
local macro_rules | `(tactic| walk_at "td mul") => `(tactic| first | exact mul_ok (.inl (by decide)) | exact mul_ok (.inr (by decide)) | exact mul_ok (.inl (by omega)) | exact mul_ok (.inr (by omega)) | assumption)
local macro_rules | `(tactic| walk_at "td div") => `(tactic| first | assumption | exact divS (by omega) (by omega))
local macro_rules | `(tactic| walk_at "td sz") => `(tactic| first | with_reducible assumption | exact Nat.lt_of_le_of_lt (show _ ≤ 1000 by first | omega | (simp; done) | (simp; omega)) (by decide) | exact siz (by first | omega | (simp; done) | (simp; omega)) | (simp; done) | (simp; omega) | omega)
local macro_rules | `(tactic| walk_at "td len") => `(tactic| first | assumption | omega | (simp; done) | (simp; omega))
local macro_rules | `(tactic| walk_at "td op") => `(tactic| first | with_reducible assumption | exact sq_gr | rfl)
local macro_rules | `(tactic| walk_at "td eq") => `(tactic| first | assumption | rfl)
local macro_rules | `(tactic| walk_at "td in") => `(tactic| first | assumption | rfl)
local macro_rules | `(tactic| walk_at "td le") => `(tactic| (repeat (first | with_reducible exact Le.nil | with_reducible exact Le.refl _ | with_reducible apply Le.skip | apply Le.both)))
theorem e_is_number (k : Nat) (d : PyData) : evF cs fns (k + 1) 0 [.v d] = .ok (.v (.bool (isNum d))) none := num_ok (cs := cs) (cf := evF cs fns k) d
theorem e_is_within (k : Nat) (x a b : Int) : evF cs fns (k + 2) 1 [.v (.int x), .v (.int a), .v (.int b)] = .ok (.v (.bool (decide (a ≤ x) && decide (x ≤ b)))) none := within_ok (cs := cs) (cf := evF cs fns (k + 1)) x a b (e_is_number k _)
theorem w_is_within (k : Nat) (d : PyData) (a b : Int) (h : isNum d = false) : evF cs fns (k + 2) 1 [.v d, .v (.int a), .v (.int b)] = .ok (.v (.bool false)) none := within_no (cs := cs) (cf := evF cs fns (k + 1)) d a b (by rw [e_is_number, h])
theorem e_is_long (k : Nat) (ds : List PyData) (n : Int) : evF cs fns (k + 1) 2 [.v (.tuple ds), .v (.int n)] = .ok (.v (.bool (decide ((ds.length : Int) = n)))) none := long_ok (cs := cs) (cf := evF cs fns k) ds n
theorem e_tupled : ∀ (k : Nat) (d : PyData), fit k d = true → evF cs fns k 3 [.v d] = .ok (.v (tupK k d)) none
  | 0, d, h => (Bool.false_ne_true h).elim
  | k + 1, d, h => tupled_body (cs := cs) (cf := evF cs fns k) (i := 3) (k := k) (fun d hd => e_tupled k d hd) d h
theorem e_back_by (k : Nat) (n b : Int) (h : 0 < b) (h' : b ≤ 1000000) : evF cs fns (k + 1) 4 [.v (.int n), .v (.int b)] = .ok (.v (.int (Bk n b))) none := backP_ok (cs := cs) (cf := evF cs fns k) h h'
theorem e_lens_by (k : Nat) (a b : Int) : evF cs fns (k + 1) 10 [.v (.int a), .v (.int b)] = .ok (.v (pd (lensI a b))) none := by
  show finF false (ex cs (evF cs fns k) false b10 [vi a, vi b, none]) = _
  unfold b10 lensI
  by_cases h0 : a = 0
  · rw [if_pos h0]
    exact fin_ret (x_consR (x_iteT (v_as (v_cmp (v_var rfl) v_int (c_eq _ _)) (decide_eq_true h0)) (x_consR (x_ret (v_tup (v_cons v_int (v_cons v_int v_nil)) (siz (show 2 ≤ 1000 by decide)))))))
  · rw [if_neg h0]
    by_cases hp : 0 < a
    · rw [if_neg (show ¬ a < 0 by omega), if_pos hp]
      have ab : (if a < 0 then -a else a) = a := if_neg (by omega)
      exact fin_ret (x_cons (x_iteF (v_as (v_cmp (v_var rfl) v_int (c_eq _ _)) (decide_eq_false h0)) x_nil) (x_cons (x_asgF (v_iteT (v_as (v_cmp (v_var rfl) v_int (c_gt _ _)) (decide_eq_true hp)) v_int) rfl) (x_consR (x_ret (v_tup (v_cons (v_asI (v_bi (v_cons (v_var rfl) v_nil) (n_abs _)) ab) (v_cons (v_asI (v_bin (v_bin (v_var rfl) (v_var rfl) (o_mulL (by decide))) (v_asI (v_bi (v_cons (v_var rfl) v_nil) (n_abs _)) ab) (o_mod hp)) (by rw [Int.one_mul])) v_nil)) (siz (show 2 ≤ 1000 by decide)))))))
    · rw [if_pos (show a < 0 by omega), if_neg hp]
      have ab : (if a < 0 then -a else a) = -a := if_pos (by omega)
      exact fin_ret (x_cons (x_iteF (v_as (v_cmp (v_var rfl) v_int (c_eq _ _)) (decide_eq_false h0)) x_nil) (x_cons (x_asgF (v_iteF (v_as (v_cmp (v_var rfl) v_int (c_gt _ _)) (decide_eq_false hp)) (v_neg v_int)) rfl) (x_consR (x_ret (v_tup (v_cons (v_asI (v_bi (v_cons (v_var rfl) v_nil) (n_abs _)) ab) (v_cons (v_asI (v_bin (v_bin (v_var rfl) (v_var rfl) (o_mulL (by decide))) (v_asI (v_bi (v_cons (v_var rfl) v_nil) (n_abs _)) ab) (o_mod (by omega))) (by rw [Int.neg_mul, Int.one_mul])) v_nil)) (siz (show 2 ≤ 1000 by decide)))))))
theorem e_least_lens (k : Nat) (p q : Int) (h : p ≤ 1000000) : evF cs fns (k + 2) 11 [.v (pd (p, q))] = .ok (.v (pd (leastI2 (p, q)))) none := by
  show finF false (ex cs (evF cs fns (k + 1)) false b11 [vd (pd (p, q))]) = _
  unfold b11 leastI2
  by_cases hp : 1 < p
  · rw [if_pos hp]
    refine Eq.trans (fin_ret (x_consR (x_ret (v_tup (v_cons (v_ixV rfl v_int (ati0 _ _)) (v_cons (v_iteT (v_as (v_cmp (v_ixV rfl v_int (ati0 _ _)) v_int (c_gt _ _)) (decide_eq_true hp)) (v_bi (v_cons (v_ixV rfl v_int (ati1 _ _)) (v_cons (v_call (v_cons (v_ixV rfl v_int (ati1 _ _)) (v_cons (v_ixV rfl v_int (ati0 _ _)) v_nil)) (e_back_by k q p (by omega) h)) v_nil)) (n_min2 _ _))) v_nil)) (siz (show 2 ≤ 1000 by decide)))))) rfl
  · rw [if_neg hp]
    exact fin_ret (x_consR (x_ret (v_tup (v_cons (v_ixV rfl v_int (ati0 _ _)) (v_cons (v_iteF (v_as (v_cmp (v_ixV rfl v_int (ati0 _ _)) v_int (c_gt _ _)) (decide_eq_false hp)) (v_ixV rfl v_int (ati1 _ _))) v_nil)) (siz (show 2 ≤ 1000 by decide)))))
/-! the law's own -/
theorem e__law_box (k : Nat) (x : Int) : ∃ a b, evF cs fns (k + 1) 30 [.v (.list [.int x]), .v (.int 0)] = .ok (.own [.int a, .int b, .int 0]) none := box_at (cs := cs) (cf := evF cs fns k)
theorem t_take (k : Nat) : TakeOk (evF cs fns (k + 1)) 31 := fun a b c n h1 h2 h3 h4 => take_ok (cs := cs) (cf := evF cs fns k) h1 h2 h3 h4
theorem t_cells (k : Nat) {ns : List Int} (hl : ns.length ≤ 63) : ∃ x, evF cs fns (k + 1) 32 [.scr (ns.map PyData.int), .v (.int 1)] = .ok (.own [.int x]) (some (.scr (ns.map PyData.int))) := cells_ok (cs := cs) (cf := evF cs fns k) hl
theorem t_of (k : Nat) {a b c : Int} {ds : List PyData} (hc : 0 ≤ c) (hc' : c < 1000000) (h0 : 0 < ds.length) (h1 : ds.length ≤ 1000000) : ∃ (d : PyData) (a' c' : Int), evF cs fns (k + 2) 33 [.own [.int a, .int b, .int c], .v (.list ds)] = .ok (.v d) (some (.own [.int a', .int b, .int c'])) ∧ d ∈ ds ∧ c ≤ c' ∧ c' ≤ c + 1 :=
  of_ok (cs := cs) (cf := evF cs fns (k + 1)) (t_take k) hc hc' h0 h1
theorem t_same : ∀ (k : Nat) (d : PyData), fit k d = true → evF cs fns k 35 [.v d, .v d] = .ok (.v (.bool true)) none := same_tower (fun _ _ => rfl)
theorem same_at {k : Nat} (d : PyData) (h : fit 7 d = true) : evF cs fns (7 + k) 35 [.v d, .v d] = .ok (.v (.bool true)) none := t_same (7 + k) d (fit_mono 7 d k h)
theorem e__law_gcd (k : Nat) (x y : Int) (h0 : 0 ≤ y) (h1 : y < 2 ^ 8000) : evF cs fns (k + 1) 36 [.v (.int x), .v (.int y)] = .ok (.v (.int (Int.gcd x y))) none := gcd_ok (cs := cs) (cf := evF cs fns k) (n := 8000) h0 h1 (by decide)
theorem pow_big {y : Int} (h : y ≤ 1000000000000) : y < 2 ^ 8000 := by
  have : (1000000000001 : Int) ≤ 2 ^ 8000 := by decide +kernel
  omega
theorem e__law_units (k : Nat) (b : Int) (h0 : 0 ≤ b) (h1 : b ≤ 1000000) : evF cs fns (k + 2) 37 [.v (.int b)] = .ok (.own ((unitsI b).map PyData.int)) none := units_ok (cs := cs) (cf := evF cs fns (k + 1)) h1 (fun x => e__law_gcd k x b h0 (pow_big (by omega)))
end K56
set_option maxHeartbeats 1000000
namespace K56
open PySem PySem.Spec PyProof.Rows L2 TD
local macro_rules | `(tactic| walk_at "td omega") => `(tactic| first | omega | (simp only [decide_eq_true_eq, decide_eq_false_iff_not, Bool.not_eq_true', Bool.not_eq_false'] at *; omega))
local macro_rules | `(tactic| walk_at "td hyp") => `(tactic| first | with_reducible assumption | with_reducible rfl | omega | assumption | walk_at "td omega")
local macro_rules | `(tactic| walk_at "td dec") => `(tactic| first | with_reducible rfl | with_reducible assumption | (with_reducible refine decide_eq_true ?_; omega) | (with_reducible refine decide_eq_false ?_; omega) | (simp [isNum, isTy, W.val]; done) | (simp [isNum, isTy, W.val]; omega) | (simp [isNum, isTy, W.val, *]; done) | (simp only [Bool.not_eq_true', Bool.not_eq_false', decide_eq_true_eq, decide_eq_false_iff_not, Bool.and_eq_true, Bool.or_eq_true, Bool.and_eq_false_iff, Bool.or_eq_false_iff, Bool.not_true, Bool.not_false, Bool.and_true, Bool.true_and, Bool.or_false, Bool.false_or]; omega) | (simp [*]; done) | simp_all)
local macro_rules | `(tactic| walk_at "td mul") => `(tactic| first | exact mul_ok (.inl (by decide)) | exact mul_ok (.inr (by decide)) | exact mul_ok (.inl (by omega)) | exact mul_ok (.inr (by omega)) | assumption)
local macro_rules | `(tactic| walk_at "td div") => `(tactic| first | assumption | exact divS (by omega) (by omega))
local macro_rules | `(tactic| walk_at "td sz") => `(tactic| first | with_reducible assumption | exact Nat.lt_of_le_of_lt (show _ ≤ 1000 by first | omega | (simp; done) | (simp; omega)) (by decide) | exact siz (by first | omega | (simp; done) | (simp; omega)) | (simp; done) | (simp; omega) | omega)
local macro_rules | `(tactic| walk_at "td len") => `(tactic| first | assumption | omega | (simp; done) | (simp; omega))
local macro_rules | `(tactic| walk_at "td op") => `(tactic| first | with_reducible assumption | exact sq_gr | rfl)
local macro_rules | `(tactic| walk_at "td eq") => `(tactic| first | assumption | rfl)
local macro_rules | `(tactic| walk_at "td in") => `(tactic| first | assumption | rfl)
local macro_rules | `(tactic| walk_at "td le") => `(tactic| (repeat (first | with_reducible exact Le.nil | with_reducible exact Le.refl _ | with_reducible apply Le.skip | apply Le.both)))
theorem e0 (k : Nat) (d : PyData) : evF cs fns (k + 1) 0 [.v d] = .ok (.v (.bool (isNum d))) none := num_ok (cs := cs) (cf := evF cs fns k) d
theorem e1 (k : Nat) (x a b : Int) : evF cs fns (k + 2) 1 [.v (.int x), .v (.int a), .v (.int b)] = .ok (.v (.bool (decide (a ≤ x) && decide (x ≤ b)))) none := within_ok (cs := cs) (cf := evF cs fns (k + 1)) x a b (e0 k _)
theorem e2 (k : Nat) (ds : List PyData) (n : Int) : evF cs fns (k + 1) 2 [.v (.tuple ds), .v (.int n)] = .ok (.v (.bool (decide ((ds.length : Int) = n)))) none := long_ok (cs := cs) (cf := evF cs fns k) ds n
theorem e3 : ∀ (k : Nat) (d : PyData), fit k d = true → evF cs fns k 3 [.v d] = .ok (.v (tupK k d)) none
  | 0, d, h => (Bool.false_ne_true h).elim
  | k + 1, d, h => tupled_body (cs := cs) (cf := evF cs fns k) (i := 3) (k := k) (fun d hd => e3 k d hd) d h
theorem e4 (k : Nat) (n b : Int) (h : 0 < b) (h' : b ≤ 1000000) : evF cs fns (k + 1) 4 [.v (.int n), .v (.int b)] = .ok (.v (.int (Bk n b))) none := backP_ok (cs := cs) (cf := evF cs fns k) h h'
theorem e9 (k : Nat) (a b : Int) : evF cs fns (k + 2) 9 [.v (.tuple [.int a, .int b])] = .ok (.v (.bool (lensB a b))) none := lens_ok (cs := cs) (cf := evF cs fns (k + 1)) a b (fun ds => e2 k ds 2) (fun d => e0 k d) rfl
def ln (a b : Int) : PyData := .tuple [.int a, .int b]
theorem e10 (k : Nat) (a b : Int) (h : lensB a b = true) : evF cs fns (k + 3) 13 [.v (ln a b)] = .ok (.v (ln a b)) none :=
  sure_ok (cs := cs) (cf := evF cs fns (k + 2)) (d := ln a b) (e3 (k + 2) (ln a b) rfl) (by have := e9 k a b; rw [h] at this; exact this)
theorem e11 (k : Nat) (a b c d : Int) (h : lensB a b = true) (h2 : lensB c d = true) : evF cs fns (k + 4) 14 [.v (ln a b), .v (ln c d)] = .ok (.v (.tuple [ln a b, ln c d])) none := by
  show finF false (ex cs (evF cs fns (k + 3)) false b14 [some (.v (ln a b)), some (.v (ln c d))]) = _
  have : ex cs (evF cs fns (k + 3)) false b14 [some (.v (ln a b)), some (.v (ln c d))] = .ret (.v (.tuple [ln a b, ln c d])) [some (.v (ln a b)), some (.v (ln c d))] := by
    unfold b14
    exact x_consR (x_ret (v_tup (v_cons (v_call (v_cons (v_var rfl) v_nil) (e10 k a b h)) (v_cons (v_call (v_cons (v_var rfl) v_nil) (e10 k c d h2)) v_nil)) (siz (show 2 ≤ 1000 by decide))))
  rw [this]
  rfl
def rat (a b d : Int) : Int := d * Bk b a % a
theorem e12 (k : Nat) (a b d : Int) (h : 0 < a) (h' : a ≤ 1000000) : evF cs fns (k + 2) 17 [.v (ln a b), .v (ln a d)] = .ok (.v (.int (rat a b d))) none := by
  show finF false (ex cs (evF cs fns (k + 1)) false b17 [some (.v (ln a b)), some (.v (ln a d))]) = _
  obtain ⟨b0, b1⟩ := Bk_lt (n := b) h
  have : ex cs (evF cs fns (k + 1)) false b17 [some (.v (ln a b)), some (.v (ln a d))] = .ret (.v (.int (rat a b d))) [some (.v (ln a b)), some (.v (ln a d))] := by
    unfold b17
    exact x_consR (x_ret (v_bin (v_bin (v_ixV rfl v_int (ati1 _ _)) (v_call (v_cons (v_ixV rfl v_int (ati1 _ _)) (v_cons (v_ixV rfl v_int (ati0 _ _)) v_nil)) (e4 k b a h h')) (o_mulR (by omega))) (v_ixV rfl v_int (ati0 _ _)) (o_mod h)))
  rw [this]
  rfl
theorem e13 (k : Nat) (a b d : Int) (h : lensB a b = true) (h2 : lensB a d = true) (h3 : 2 ≤ a) : evF cs fns (k + 5) 18 [.v (ln a b), .v (ln a d)] = .ok (.v (.tuple [ln a b, ln a d])) none := by
  show finF false (ex cs (evF cs fns (k + 4)) false b18 [some (.v (ln a b)), some (.v (ln a d)), none, none]) = _
  have : ex cs (evF cs fns (k + 4)) false b18 [some (.v (ln a b)), some (.v (ln a d)), none, none] = .ret (.v (.tuple [ln a b, ln a d])) [some (.v (ln a b)), some (.v (ln a d)), some (.v (ln a b)), some (.v (ln a d))] := by
    unfold b18
    exact x_cons (x_tgt (v_call (v_cons (v_var rfl) (v_cons (v_var rfl) v_nil)) (e11 k a b a d h h2)) rfl) (x_cons (x_iteF (v_orF (v_as (v_cmp (v_ixV rfl v_int (ati0 _ _)) (v_ixV rfl v_int (ati0 _ _)) (c_ne _ _)) (by simp)) (v_one (v_as (v_cmp (v_ixV rfl v_int (ati0 _ _)) v_int (c_lt _ _)) (decide_eq_false (by omega))))) x_nil) (x_consR (x_ret (v_tup (v_cons (v_var rfl) (v_cons (v_var rfl) v_nil)) (siz (show 2 ≤ 1000 by decide))))))
  rw [this]
  rfl
end K56
set_option maxHeartbeats 1000000
namespace K56
open PySem PySem.Spec PyProof.Rows L2 TD
local macro_rules | `(tactic| walk_at "td op") => `(tactic| first | with_reducible exact o_add _ _ | with_reducible exact o_sub _ _ | with_reducible exact c_eq _ _ | with_reducible exact c_ne _ _ | with_reducible exact c_lt _ _ | with_reducible exact c_le _ _ | with_reducible exact c_gt _ _ | with_reducible exact c_ge _ _ | (with_reducible apply o_mulR; omega) | (with_reducible apply o_mulL; omega) | (with_reducible apply o_divS <;> omega) | (with_reducible apply o_mod; omega) | with_reducible exact n_int _ | with_reducible exact n_abs _ | with_reducible exact n_gcd _ _ | (with_reducible apply siz; simp; done) | assumption | rfl)
local macro_rules | `(tactic| walk_at "td s") => `(tactic| (repeat' (first | with_reducible exact x_nil | (with_reducible apply x_consR; with_reducible apply x_ret) | (with_reducible apply x_cons; with_reducible apply x_asgT) | (with_reducible apply x_cons; with_reducible apply x_asgF) | (with_reducible apply x_cons; with_reducible apply x_setI) | (with_reducible apply x_cons; with_reducible apply x_tgt) | (with_reducible apply x_cons; with_reducible apply x_par2) | (with_reducible apply x_cons; with_reducible apply x_par3) | (with_reducible apply x_cons; with_reducible apply x_app) | with_reducible exact v_int | with_reducible exact v_str | with_reducible exact v_bl | with_reducible exact v_non | with_reducible exact v_nil | exact v_var rfl | exact v_mv rfl | exact v_mvO rfl | exact v_glb rfl | with_reducible apply v_bin | with_reducible apply v_neg | with_reducible apply v_cmp | with_reducible apply v_chn | with_reducible apply v_one | with_reducible apply v_not | with_reducible apply v_cons | with_reducible apply v_tup | with_reducible apply v_lst | with_reducible apply v_ix | (with_reducible apply v_ixV; rfl) | (with_reducible apply v_ixO; rfl) | (with_reducible apply v_lenV; rfl) | (with_reducible exact v_lenO (by rfl)) | with_reducible apply v_bi | with_reducible apply v_isi | (with_reducible apply v_call) | walk_at "td op")))
section
variable {cf : CF}
theorem x_aug {cs : List PyData} {bw : Bool} {i : Nat} {o : Operator} {a : E} {e e1 e2 : En} {d z : PyData} {w : W} (h0 : e[i]? = some (some (.v d))) (h1 : ev cs cf a e = .ok w e1) (h2 : opA o d w.val = some z) (h3 : stI bw i (.v z) e1 = some e2) : ex cs cf bw (.aug i o a) e = .nx e2 := by
  simp only [ex, h0, h1, Rs.fl, h2, h3]; rfl
theorem x_pk3 {cs : List PyData} {bw : Bool} {i j k : Nat} {ka kb kc : Bool} {a b c : E} {e e1 e2 e3 e4 e5 e6 : En} {w1 w2 w3 : W} (h1 : ev cs cf a e = .ok w1 e1) (h2 : ev cs cf b e1 = .ok w2 e2) (h3 : ev cs cf c e2 = .ok w3 e3) (s1 : stI bw i (w1.keep ka) e3 = some e4) (s2 : stI bw j (w2.keep kb) e4 = some e5) (s3 : stI bw k (w3.keep kc) e5 = some e6) :
    ex cs cf bw (.pk3 i j k ka kb kc a b c) e = .nx e6 := by
  simp only [ex, h1, Rs.fl, h2, h3, s1, Option.bind, s2, s3]; rfl
/-! ### is_square_by -/
def powL : Nat → Int → Int → Int → Int → Int
  | 0, _, found, _, _ => found
  | m + 1, p, found, own, left => if 0 < left then powL m p (if left % 2 = 1 then found * own % p else found) (own * own % p) (left / 2) else found
def SQ (p x : Int) : Bool := decide (powL 10 p 1 (x % p) ((p - 1) / 2) = 1)
def bSq : S := (.cons (.ite (.cmp .Eq (.bin .Mod (.var 4) (.int 2)) (.int 1)) (.cons (.asg 2 (.bin .Mod (.bin .Mult (.var 2) (.var 3)) (.var 1)) false)
    .nil) .nil)
    (.cons (.par2 3 4 (.cons (.bin .Mod (.bin .Mult (.var 3) (.var 3)) (.var 1)) (.cons (.bin .FloorDiv (.var 4) (.int 2)) .nil)))
    .nil))
theorem sq_turn {x0 : Option W} {p found own left : Int} (h0 : 0 < p) (h1 : p ≤ 1000) (h2 : 0 ≤ found) (h3 : found ≤ 1000) (h4 : 0 ≤ own) (h5 : own ≤ 1000) (h6 : 0 ≤ left) :
    ex cs cf false bSq [x0, some (.v (.int p)), some (.v (.int found)), some (.v (.int own)), some (.v (.int left))] = .nx [x0, some (.v (.int p)), some (.v (.int (if left % 2 = 1 then found * own % p else found))), some (.v (.int (own * own % p))), some (.v (.int (left / 2)))] := by
  have t : ev cs cf (.cmp .Eq (.bin .Mod (.var 4) (.int 2)) (.int 1)) [x0, some (.v (.int p)), some (.v (.int found)), some (.v (.int own)), some (.v (.int left))] = .ok (.v (.bool (decide (left % 2 = 1)))) [x0, some (.v (.int p)), some (.v (.int found)), some (.v (.int own)), some (.v (.int left))] := by walk_at "td s"
  unfold bSq
  by_cases h : left % 2 = 1
  · rw [decide_eq_true h] at t
    rw [if_pos h]
    exact x_cons (x_iteT t (x_cons (x_asgF (v_bin (v_bin (v_var rfl) (v_var rfl) (o_mulR (by omega))) (v_var rfl) (o_mod h0)) rfl) x_nil)) (x_cons (x_par2 (v_cons (v_bin (v_bin (v_var rfl) (v_var rfl) (o_mulR (by omega))) (v_var rfl) (o_mod h0)) (v_cons (v_bin (v_var rfl) v_int (o_divS (by decide) (by decide))) v_nil)) rfl rfl) x_nil)
  · rw [decide_eq_false h] at t
    rw [if_neg h]
    exact x_cons (x_iteF t x_nil) (x_cons (x_par2 (v_cons (v_bin (v_bin (v_var rfl) (v_var rfl) (o_mulR (by omega))) (v_var rfl) (o_mod h0)) (v_cons (v_bin (v_var rfl) v_int (o_divS (by decide) (by decide))) v_nil)) rfl rfl) x_nil)
theorem sq_loop {x0 : Option W} {p : Int} (h0 : 0 < p) (h1 : p ≤ 1000) : ∀ (N : Nat) (found own left : Int) (M : Nat), 0 ≤ found → found ≤ 1000 → 0 ≤ own → own ≤ 1000 → 0 ≤ left → left < 2 ^ N → N + 1 ≤ M → ∃ y3 y4,
    whlL (fun e1 => ev cs cf (.cmp .Gt (.var 4) (.int 0)) e1) (fun e1 => ex cs cf false bSq e1) M [x0, some (.v (.int p)), some (.v (.int found)), some (.v (.int own)), some (.v (.int left))] = .nx [x0, some (.v (.int p)), some (.v (.int (powL N p found own left))), y3, y4]
  | N, found, own, left, M, h2, h3, h4, h5, h6, h7, hM => by
    obtain ⟨M, rfl⟩ : ∃ j, M = j + 1 := ⟨M - 1, by omega⟩
    have t : ev cs cf (.cmp .Gt (.var 4) (.int 0)) [x0, some (.v (.int p)), some (.v (.int found)), some (.v (.int own)), some (.v (.int left))] = .ok (.v (.bool (decide (0 < left)))) [x0, some (.v (.int p)), some (.v (.int found)), some (.v (.int own)), some (.v (.int left))] := v_cmp (v_var rfl) v_int (c_gt _ _)
    match N, h7, hM with
    | 0, h7, hM =>
      have e : left = 0 := by
        have h7 : left < 1 := h7
        omega
      rw [decide_eq_false (by omega)] at t
      exact ⟨_, _, wh_F t⟩
    | N + 1, h7, hM =>
      unfold powL
      by_cases h : 0 < left
      · rw [decide_eq_true h] at t
        rw [if_pos h]
        have m0 := Int.emod_nonneg (found * own) (show p ≠ 0 by omega)
        have m1 := Int.emod_lt_of_pos (found * own) h0
        have m2 := Int.emod_nonneg (own * own) (show p ≠ 0 by omega)
        have m3 := Int.emod_lt_of_pos (own * own) h0
        have hp : (2 : Int) ^ (N + 1) = 2 * 2 ^ N := by rw [Int.pow_succ]; omega
        obtain ⟨y3, y4, g⟩ := sq_loop h0 h1 N (if left % 2 = 1 then found * own % p else found) (own * own % p) (left / 2) M (by split <;> omega) (by split <;> omega) m2 (by omega) (by omega) (by omega) (by omega)
        refine ⟨y3, y4, ?_⟩
        rw [wh_T t (sq_turn h0 h1 h2 h3 h4 h5 h6)]
        exact g
      · rw [decide_eq_false h] at t
        rw [if_neg h]
        exact ⟨_, _, wh_F t⟩
end
theorem e6 (k : Nat) (x p : Int) (h0 : 0 < p) (h1 : p ≤ 1000) : evF cs fns (k + 1) 7 [.v (.int x), .v (.int p)] = .ok (.v (.bool (SQ p x))) none := by
  have m0 := Int.emod_nonneg x (show p ≠ 0 by omega)
  have m1 := Int.emod_lt_of_pos x h0
  obtain ⟨y3, y4, g⟩ := sq_loop (cf := evF cs fns k) (x0 := some (.v (.int x))) h0 h1 10 1 (x % p) ((p - 1) / 2) most (by omega) (by omega) m0 (by omega) (by omega) (by omega) (by decide)
  show finF false (ex cs (evF cs fns k) false b7 [some (.v (.int x)), some (.v (.int p)), none, none, none]) = _
  have : ex cs (evF cs fns k) false b7 [some (.v (.int x)), some (.v (.int p)), none, none, none] = .ret (.v (.bool (SQ p x))) [some (.v (.int x)), some (.v (.int p)), some (.v (.int (powL 10 p 1 (x % p) ((p - 1) / 2)))), y3, y4] := by
    unfold b7
    exact x_cons (x_par3 (v_cons v_int (v_cons (v_bin (v_var rfl) (v_var rfl) (o_mod h0)) (v_cons (v_bin (v_bin (v_var rfl) v_int (o_sub _ _)) v_int (o_divS (by decide) (by decide))) v_nil))) rfl rfl rfl) (x_cons (x_whl g) (x_consR (x_ret (v_cmp (v_var rfl) v_int (c_eq _ _)))))
  rw [this]
  rfl
/-! ### primes_of -/
def strip : Nat → Int → Int → Int
  | 0, left, _ => left
  | m + 1, left, own => if left % own = 0 then strip m (left / own) own else left
def prs : Nat → List Int → Int → Int → List Int × Int
  | 0, found, left, _ => (found, left)
  | m + 1, found, left, own => if own * own ≤ left then (if left % own = 0 then prs m (found ++ [own]) (strip 10 left own) (own + 1) else prs m found left (own + 1)) else (found, left)
def PR (n : Int) : List Int := if 1 < (prs 15 [] n 2).2 then (prs 15 [] n 2).1 ++ [(prs 15 [] n 2).2] else (prs 15 [] n 2).1
def bIn : S := (.cons (.asg 2 (.bin .FloorDiv (.var 2) (.var 3)) false) .nil)
def bOut : S := (.cons (.ite (.cmp .Eq (.bin .Mod (.var 2) (.var 3)) (.int 0)) (.cons (.app 1 (.var 3))
    (.cons (.whl (.cmp .Eq (.bin .Mod (.var 2) (.var 3)) (.int 0)) bIn)
    .nil)) .nil)
    (.cons (.aug 3 .Add (.int 1))
    .nil))
theorem strip_le (own : Int) (h1 : 2 ≤ own) : ∀ (N : Nat) (left : Int), 1 ≤ left → left < 2 ^ N → 1 ≤ strip N left own ∧ strip N left own ≤ left
  | 0, left, h0, _ => by unfold strip; omega
  | N + 1, left, h0, h2 => by
    unfold strip
    by_cases h : left % own = 0
    · rw [if_pos h]
      have e : own * (left / own) + left % own = left := Int.mul_ediv_add_emod left own
      have q0 : 0 ≤ left / own := Int.ediv_nonneg (by omega) (by omega)
      have q1 : 1 ≤ left / own := by
        rcases Int.lt_or_eq_of_le q0 with z | z
        · omega
        · rw [← z] at e; omega
      have q2 : 2 * (left / own) ≤ own * (left / own) := Int.mul_le_mul_of_nonneg_right h1 q0
      have hp : (2 : Int) ^ (N + 1) = 2 * 2 ^ N := by rw [Int.pow_succ]; omega
      have := strip_le own h1 N (left / own) q1 (by omega)
      omega
    · rw [if_neg h]; omega
section
variable {cf : CF}
theorem in_loop {x0 x1 : Option W} {own : Int} (h1 : 2 ≤ own) (h2 : own ≤ 1000) : ∀ (N : Nat) (left : Int) (M : Nat), 1 ≤ left → left < 2 ^ N → N + 1 ≤ M →
    whlL (fun e1 => ev cs cf (.cmp .Eq (.bin .Mod (.var 2) (.var 3)) (.int 0)) e1) (fun e1 => ex cs cf false bIn e1) M [x0, x1, some (.v (.int left)), some (.v (.int own))] = .nx [x0, x1, some (.v (.int (strip N left own))), some (.v (.int own))]
  | N, left, M, h3, h4, hM => by
    obtain ⟨M, rfl⟩ : ∃ j, M = j + 1 := ⟨M - 1, by omega⟩
    have t : ev cs cf (.cmp .Eq (.bin .Mod (.var 2) (.var 3)) (.int 0)) [x0, x1, some (.v (.int left)), some (.v (.int own))] = .ok (.v (.bool (decide (left % own = 0)))) [x0, x1, some (.v (.int left)), some (.v (.int own))] := v_cmp (v_bin (v_var rfl) (v_var rfl) (o_mod (by omega))) v_int (c_eq _ _)
    match N, h4, hM with
    | 0, h4, hM =>
      have h4 : left < 1 := h4
      omega
    | N + 1, h4, hM =>
      unfold strip
      by_cases h : left % own = 0
      · rw [decide_eq_true h] at t
        rw [if_pos h]
        have e : own * (left / own) + left % own = left := Int.mul_ediv_add_emod left own
        have q0 : 0 ≤ left / own := Int.ediv_nonneg (by omega) (by omega)
        have q1 : 1 ≤ left / own := by
          rcases Int.lt_or_eq_of_le q0 with z | z
          · omega
          · rw [← z] at e; omega
        have q2 : 2 * (left / own) ≤ own * (left / own) := Int.mul_le_mul_of_nonneg_right h1 q0
        have hp : (2 : Int) ^ (N + 1) = 2 * 2 ^ N := by rw [Int.pow_succ]; omega
        have s : ex cs cf false bIn [x0, x1, some (.v (.int left)), some (.v (.int own))] = .nx [x0, x1, some (.v (.int (left / own))), some (.v (.int own))] := by
          unfold bIn
          exact x_cons (x_asgF (v_bin (v_var rfl) (v_var rfl) (o_divS (by omega) (by omega))) rfl) x_nil
        rw [wh_T t s]
        exact in_loop h1 h2 N (left / own) M q1 (by omega) (by omega)
      · rw [decide_eq_false h] at t
        rw [if_neg h]
        exact wh_F t
theorem out_turn {x0 : Option W} {found : List Int} {left own : Int} (h1 : 2 ≤ own) (h2 : own ≤ 1000) (h3 : 1 ≤ left) (h4 : left ≤ 1000) (h5 : found.length ≤ 100) :
    ex cs cf false bOut [x0, some (.own (found.map PyData.int)), some (.v (.int left)), some (.v (.int own))] = .nx [x0, some (.own ((if left % own = 0 then found ++ [own] else found).map PyData.int)), some (.v (.int (if left % own = 0 then strip 10 left own else left))), some (.v (.int (own + 1)))] := by
  have t : ev cs cf (.cmp .Eq (.bin .Mod (.var 2) (.var 3)) (.int 0)) [x0, some (.own (found.map PyData.int)), some (.v (.int left)), some (.v (.int own))] = .ok (.v (.bool (decide (left % own = 0)))) [x0, some (.own (found.map PyData.int)), some (.v (.int left)), some (.v (.int own))] := v_cmp (v_bin (v_var rfl) (v_var rfl) (o_mod (by omega))) v_int (c_eq _ _)
  unfold bOut
  by_cases h : left % own = 0
  · rw [decide_eq_true h] at t
    rw [if_pos h, if_pos h, List.map_append]
    refine x_cons (x_iteT t (x_cons (x_app rfl (v_var rfl) rfl (by rw [List.length_map]; exact Nat.lt_of_le_of_lt h5 (by decide))) (x_cons (x_whl (in_loop h1 h2 10 left most h3 (by omega) (by decide))) x_nil))) (x_cons (x_aug rfl v_int rfl rfl) x_nil)
  · rw [decide_eq_false h] at t
    rw [if_neg h, if_neg h]
    exact x_cons (x_iteF t x_nil) (x_cons (x_aug rfl v_int rfl rfl) x_nil)
theorem out_loop {x0 : Option W} : ∀ (N : Nat) (found : List Int) (left own : Int) (M : Nat), 2 ≤ own → 1 ≤ left → left ≤ 288 → 17 ≤ own + N → own ≤ 100 → found.length + N ≤ 50 → N + 1 ≤ M → ∃ y3,
    whlL (fun e1 => ev cs cf (.cmp .LtE (.bin .Mult (.var 3) (.var 3)) (.var 2)) e1) (fun e1 => ex cs cf false bOut e1) M [x0, some (.own (found.map PyData.int)), some (.v (.int left)), some (.v (.int own))] = .nx [x0, some (.own ((prs N found left own).1.map PyData.int)), some (.v (.int (prs N found left own).2)), y3] ∧ (prs N found left own).1.length ≤ 50
  | N, found, left, own, M, h1, h2, h3, h4, h5, h6, hM => by
    obtain ⟨M, rfl⟩ : ∃ j, M = j + 1 := ⟨M - 1, by omega⟩
    have t : ev cs cf (.cmp .LtE (.bin .Mult (.var 3) (.var 3)) (.var 2)) [x0, some (.own (found.map PyData.int)), some (.v (.int left)), some (.v (.int own))] = .ok (.v (.bool (decide (own * own ≤ left)))) [x0, some (.own (found.map PyData.int)), some (.v (.int left)), some (.v (.int own))] := v_cmp (v_bin (v_var rfl) (v_var rfl) (o_mulR (by omega))) (v_var rfl) (c_le _ _)
    match N, h4, h6, hM with
    | 0, h4, h6, hM =>
      have : 17 * 17 ≤ own * own := Int.mul_le_mul (by omega) (by omega) (by omega) (by omega)
      rw [decide_eq_false (by omega)] at t
      exact ⟨_, wh_F t, by unfold prs; omega⟩
    | N + 1, h4, h6, hM =>
      unfold prs
      by_cases h : own * own ≤ left
      · rw [decide_eq_true h] at t
        rw [if_pos h]
        rw [wh_T t (out_turn h1 (by omega) h2 (by omega) (by omega))]
        have hl := strip_le own h1 10 left h2 (by omega)
        have ho : own ≤ 16 := by
          rcases Int.lt_or_le 16 own with hh | hh
          · have : 17 * 17 ≤ own * own := Int.mul_le_mul (by omega) (by omega) (by omega) (by omega)
            omega
          · exact hh
        by_cases hd : left % own = 0
        · rw [if_pos hd, if_pos hd, if_pos hd]
          exact out_loop N (found ++ [own]) (strip 10 left own) (own + 1) M (by omega) (by omega) (by omega) (by omega) (by omega) (by rw [List.length_append]; show found.length + 1 + N ≤ 50; omega) (by omega)
        · rw [if_neg hd, if_neg hd, if_neg hd]
          exact out_loop N found left (own + 1) M (by omega) (by omega) (by omega) (by omega) (by omega) (by omega) (by omega)
      · rw [decide_eq_false h] at t
        rw [if_neg h]
        exact ⟨_, wh_F t, by show found.length ≤ 50; omega⟩
end
theorem e5 (k : Nat) (n : Int) (h0 : 1 ≤ n) (h1 : n ≤ 288) : ∃ w, evF cs fns (k + 1) 5 [.v (.int n)] = .ok w none ∧ w.val = .list ((PR n).map PyData.int) ∧ (PR n).length ≤ 51 := by
  obtain ⟨y3, g, hl⟩ := out_loop (cf := evF cs fns k) (x0 := some (.v (.int n))) 15 [] n 2 most (by omega) h0 h1 (by omega) (by omega) (by decide) (by decide)
  have hs : ∀ r, ex cs (evF cs fns k) false b5 [some (.v (.int n)), none, none, none] = r → evF cs fns (k + 1) 5 [.v (.int n)] = finF false r := fun r h => by rw [← h]; rfl
  have st : ex cs (evF cs fns k) false (.pk3 1 2 3 true false false (.lst .nil) (.var 0) (.int 2)) [some (.v (.int n)), none, none, none] = .nx [some (.v (.int n)), some (.own []), some (.v (.int n)), some (.v (.int 2))] := x_pk3 (v_lst v_nil (siz (show 0 ≤ 1000 by decide))) (v_var rfl) v_int rfl rfl rfl
  have ht : ∀ x1, ev cs (evF cs fns k) (.cmp .Gt (.var 2) (.int 1)) [some (.v (.int n)), x1, some (.v (.int (prs 15 [] n 2).2)), y3] = .ok (.v (.bool (decide (1 < (prs 15 [] n 2).2)))) [some (.v (.int n)), x1, some (.v (.int (prs 15 [] n 2).2)), y3] := fun _ => v_cmp (v_var rfl) v_int (c_gt _ _)
  unfold PR
  by_cases h : 1 < (prs 15 [] n 2).2
  · rw [decide_eq_true h] at ht
    rw [if_pos h]
    have : ex cs (evF cs fns k) false b5 [some (.v (.int n)), none, none, none] = .ret (.own ((prs 15 [] n 2).1.map PyData.int ++ [.int (prs 15 [] n 2).2])) [some (.v (.int n)), some (.v (.list ((prs 15 [] n 2).1.map PyData.int))), some (.v (.int (prs 15 [] n 2).2)), y3] := by
      unfold b5
      refine x_cons st (x_cons (x_whl g) (x_consR (x_ret (v_iteT (ht _) (v_bin (v_varO rfl) (v_lst (v_cons (v_var rfl) v_nil) (siz (show 1 ≤ 1000 by decide))) ?_)))))
      show (if ((prs 15 [] n 2).1.map PyData.int).length + 1 ≤ sizeLine then some (W.own _) else none) = _
      rw [if_pos (siz (by rw [List.length_map]; omega))]
      rfl
    refine ⟨_, hs _ this, ?_, ?_⟩
    · rw [List.map_append]; rfl
    · rw [List.length_append]; show _ + 1 ≤ 51; omega
  · rw [decide_eq_false h] at ht
    rw [if_neg h]
    have : ex cs (evF cs fns k) false b5 [some (.v (.int n)), none, none, none] = .ret (.v (.list ((prs 15 [] n 2).1.map PyData.int))) [some (.v (.int n)), some (.v (.list ((prs 15 [] n 2).1.map PyData.int))), some (.v (.int (prs 15 [] n 2).2)), y3] := by
      unfold b5
      exact x_cons st (x_cons (x_whl g) (x_consR (x_ret (v_iteF (ht _) (v_varO rfl)))))
    exact ⟨_, hs _ this, rfl, by omega⟩
/-! ### square_bars -/
def head4 (n x : Int) : List Int := if n % 8 = 0 then (if x % 8 = 1 then [] else [8]) else if n % 4 = 0 then (if x % 4 = 1 then [] else [4]) else []
def bars (n x : Int) : List Int := head4 n x ++ (PR n).filter (fun p => decide (2 < p) && !SQ p x)
theorem e7 (k : Nat) (x n : Int) (h0 : 1 ≤ n) (h1 : n ≤ 288) (hp : ∀ p ∈ PR n, 0 < p ∧ p ≤ 1000) : evF cs fns (k + 2) 8 [.v (.int x), .v (.int n)] = .ok (.own ((bars n x).map PyData.int)) none := by
  obtain ⟨w, e5, e5v, e5l⟩ := e5 k n h0 h1
  show finF false (ex cs (evF cs fns (k + 1)) false b8 [some (.v (.int x)), some (.v (.int n)), none, none]) = _
  have hc : ∀ s2, ev cs (evF cs fns (k + 1)) (.comp [3] (.n 3) (.one (.call 5 (.cons (.var 1) .nil))) (.one (.and (.cmp .Gt (.var 3) (.int 2)) (.one (.not (.call 7 (.cons (.var 0) (.cons (.var 3) .nil))))))) (.var 3)) [some (.v (.int x)), some (.v (.int n)), s2, none] = .ok (.own (((PR n).filter (fun p => decide (2 < p) && !SQ p x)).map PyData.int)) [some (.v (.int x)), some (.v (.int n)), s2, none] := fun s2 =>
    v_compI (e1 := [some (.v (.int x)), some (.v (.int n)), s2, none]) (L := PR n) (g := PyData.int) (v_one (v_call (v_cons (v_var rfl) v_nil) e5)) (by rw [e5v]; rfl) (by omega) (fun p hm => fQ_I (e3 := [some (.v (.int x)), some (.v (.int n)), s2, some (.v (.int p))]) rfl (v_one (v_and (v_cmp (v_var rfl) v_int (c_gt _ _)) (v_one (v_not (v_call (v_cons (v_var rfl) (v_cons (v_var rfl) v_nil)) (e6 k x p (hp p hm).1 (hp p hm).2)))))) (fun _ => v_var rfl) rfl)
  have t8 : ∀ s2, ev cs (evF cs fns (k + 1)) (.cmp .Eq (.bin .Mod (.var 1) (.int 8)) (.int 0)) [some (.v (.int x)), some (.v (.int n)), s2, none] = .ok (.v (.bool (decide (n % 8 = 0)))) [some (.v (.int x)), some (.v (.int n)), s2, none] := fun _ => by walk_at "td s"
  have t4 : ∀ s2, ev cs (evF cs fns (k + 1)) (.cmp .Eq (.bin .Mod (.var 1) (.int 4)) (.int 0)) [some (.v (.int x)), some (.v (.int n)), s2, none] = .ok (.v (.bool (decide (n % 4 = 0)))) [some (.v (.int x)), some (.v (.int n)), s2, none] := fun _ => by walk_at "td s"
  have u8 : ∀ s2, ev cs (evF cs fns (k + 1)) (.cmp .NotEq (.bin .Mod (.var 0) (.int 8)) (.int 1)) [some (.v (.int x)), some (.v (.int n)), s2, none] = .ok (.v (.bool (!decide (x % 8 = 1)))) [some (.v (.int x)), some (.v (.int n)), s2, none] := fun _ => by walk_at "td s"
  have u4 : ∀ s2, ev cs (evF cs fns (k + 1)) (.cmp .NotEq (.bin .Mod (.var 0) (.int 4)) (.int 1)) [some (.v (.int x)), some (.v (.int n)), s2, none] = .ok (.v (.bool (!decide (x % 4 = 1)))) [some (.v (.int x)), some (.v (.int n)), s2, none] := fun _ => by walk_at "td s"
  have l1 : ∀ (z : Int) (e : En), ev cs (evF cs fns (k + 1)) (.lst (.cons (.int z) .nil)) e = .ok (.own [.int z]) e := fun z e => v_lst (v_cons v_int v_nil) (siz (show 1 ≤ 1000 by decide))
  have l0 : ∀ (e : En), ev cs (evF cs fns (k + 1)) (.lst .nil) e = .ok (.own []) e := fun e => v_lst v_nil (siz (show 0 ≤ 1000 by decide))
  have hd : ex cs (evF cs fns (k + 1)) false (.ite (.cmp .Eq (.bin .Mod (.var 1) (.int 8)) (.int 0)) (.cons (.asg 2 (.ite (.cmp .NotEq (.bin .Mod (.var 0) (.int 8)) (.int 1)) (.lst (.cons (.int 8) .nil)) (.lst .nil)) false)
    .nil) (.cons (.ite (.cmp .Eq (.bin .Mod (.var 1) (.int 4)) (.int 0)) (.cons (.asg 2 (.ite (.cmp .NotEq (.bin .Mod (.var 0) (.int 4)) (.int 1)) (.lst (.cons (.int 4) .nil)) (.lst .nil)) false)
    .nil) .nil)
    .nil)) [some (.v (.int x)), some (.v (.int n)), some (.v (.list [])), none] = .nx [some (.v (.int x)), some (.v (.int n)), some (.v (.list ((head4 n x).map PyData.int))), none] := by
    unfold head4
    by_cases a1 : n % 8 = 0
    · rw [decide_eq_true a1] at t8
      rw [if_pos a1]
      by_cases a2 : x % 8 = 1
      · rw [decide_eq_true a2] at u8
        rw [if_pos a2]
        exact x_iteT (t8 _) (x_cons (x_asgF (v_iteF (u8 _) (l0 _)) rfl) x_nil)
      · rw [decide_eq_false a2] at u8
        rw [if_neg a2]
        exact x_iteT (t8 _) (x_cons (x_asgF (v_iteT (u8 _) (l1 _ _)) rfl) x_nil)
    · rw [decide_eq_false a1] at t8
      rw [if_neg a1]
      by_cases a3 : n % 4 = 0
      · rw [decide_eq_true a3] at t4
        rw [if_pos a3]
        by_cases a2 : x % 4 = 1
        · rw [decide_eq_true a2] at u4
          rw [if_pos a2]
          exact x_iteF (t8 _) (x_cons (x_iteT (t4 _) (x_cons (x_asgF (v_iteF (u4 _) (l0 _)) rfl) x_nil)) x_nil)
        · rw [decide_eq_false a2] at u4
          rw [if_neg a2]
          exact x_iteF (t8 _) (x_cons (x_iteT (t4 _) (x_cons (x_asgF (v_iteT (u4 _) (l1 _ _)) rfl) x_nil)) x_nil)
      · rw [decide_eq_false a3] at t4
        rw [if_neg a3]
        exact x_iteF (t8 _) (x_cons (x_iteF (t4 _) x_nil) x_nil)
  have hl : (head4 n x).length ≤ 1 := by
    unfold head4
    split
    · split <;> decide
    · split
      · split <;> decide
      · decide
  have : ex cs (evF cs fns (k + 1)) false b8 [some (.v (.int x)), some (.v (.int n)), none, none] = .ret (.own ((bars n x).map PyData.int)) [some (.v (.int x)), some (.v (.int n)), some (.v (.list ((head4 n x).map PyData.int))), none] := by
    unfold b8 bars
    refine x_cons (x_asgF (l0 _) rfl) (x_cons hd (x_consR (x_ret (v_bin (v_var rfl) (hc _) ?_))))
    rw [List.map_append]
    show (if ((head4 n x).map PyData.int).length + (((PR n).filter (fun p => decide (2 < p) && !SQ p x)).map PyData.int).length ≤ sizeLine then some (W.own _) else none) = _
    rw [if_pos]
    rw [List.length_map, List.length_map]
    have := List.length_filter_le (fun p => decide (2 < p) && !SQ p x) (PR n)
    exact siz (by omega)
  rw [this]
  rfl
end K56
set_option maxHeartbeats 1000000
namespace K56
open PySem PySem.Spec PyProof.Rows L2 TD
local macro_rules | `(tactic| walk_at "td omega") => `(tactic| first | omega | (simp only [decide_eq_true_eq, decide_eq_false_iff_not, Bool.not_eq_true', Bool.not_eq_false'] at *; omega))
local macro_rules | `(tactic| walk_at "td hyp") => `(tactic| first | with_reducible assumption | with_reducible rfl | omega | assumption | walk_at "td omega")
local macro_rules | `(tactic| walk_at "td dec") => `(tactic| first | with_reducible rfl | with_reducible assumption | (with_reducible refine decide_eq_true ?_; omega) | (with_reducible refine decide_eq_false ?_; omega) | (simp [isNum, isTy, W.val]; done) | (simp [isNum, isTy, W.val]; omega) | (simp [isNum, isTy, W.val, *]; done) | (simp only [Bool.not_eq_true', Bool.not_eq_false', decide_eq_true_eq, decide_eq_false_iff_not, Bool.and_eq_true, Bool.or_eq_true, Bool.and_eq_false_iff, Bool.or_eq_false_iff, Bool.not_true, Bool.not_false, Bool.and_true, Bool.true_and, Bool.or_false, Bool.false_or]; omega) | (simp [*]; done) | simp_all)
local macro_rules | `(tactic| walk_at "td mul") => `(tactic| first | exact mul_ok (.inl (by decide)) | exact mul_ok (.inr (by decide)) | exact mul_ok (.inl (by omega)) | exact mul_ok (.inr (by omega)) | assumption)
local macro_rules | `(tactic| walk_at "td div") => `(tactic| first | assumption | exact divS (by omega) (by omega))
local macro_rules | `(tactic| walk_at "td sz") => `(tactic| first | with_reducible assumption | exact Nat.lt_of_le_of_lt (show _ ≤ 1000 by first | omega | (simp; done) | (simp; omega)) (by decide) | exact siz (by first | omega | (simp; done) | (simp; omega)) | (simp; done) | (simp; omega) | omega)
local macro_rules | `(tactic| walk_at "td len") => `(tactic| first | assumption | omega | (simp; done) | (simp; omega))
local macro_rules | `(tactic| walk_at "td op") => `(tactic| first | with_reducible assumption | exact sq_gr | rfl)
local macro_rules | `(tactic| walk_at "td eq") => `(tactic| first | assumption | rfl)
local macro_rules | `(tactic| walk_at "td in") => `(tactic| first | assumption | rfl)
local macro_rules | `(tactic| walk_at "td le") => `(tactic| (repeat (first | with_reducible exact Le.nil | with_reducible exact Le.refl _ | with_reducible apply Le.skip | apply Le.both)))
def Pos (n : Int) : Prop := 2 ≤ n ∧ n ≤ 240 ∧ ∀ p ∈ PR n, 0 < p ∧ p ≤ 1000
theorem head_len (n x : Int) : (head4 n x).length ≤ 1 := by
  unfold head4
  split
  · split <;> decide
  · split
    · split <;> decide
    · decide
theorem bars_len {n : Int} (x : Int) (h : Pos n) : (bars n x).length ≤ 60 := by
  obtain ⟨w, _, _, l⟩ := e5 0 n (by have := h.1; omega) (by have := h.2.1; omega)
  have h1 := head_len n x
  have h2 := List.length_filter_le (fun p => decide (2 < p) && !SQ p x) (PR n)
  unfold bars
  rw [List.length_append]
  omega
theorem e7' (k : Nat) (x n : Int) (h : Pos n) : evF cs fns (k + 2) 8 [.v (.int x), .v (.int n)] = .ok (.own ((bars n x).map PyData.int)) none := e7 k x n (by have := h.1; omega) (by have := h.2.1; omega) h.2.2
theorem bars_nil (k : Nat) {n : Int} (x : Int) (h : Pos n) : opC .Eq (.list ((bars n x).map PyData.int)) (.list []) = some (bars n x).isEmpty := by
  rw [eq_nil (k := 4) (fit_ints (by have := bars_len x h; omega)) (by decide)]
  cases bars n x <;> rfl
theorem e15 (k : Nat) (n u v : Int) (h : Pos n) (hu : lensB n u = true) (hv : lensB n v = true) : evF cs fns (k + 6) 19 [.v (ln n u), .v (ln n v)] = .ok (.v (.bool ((bars n (rat n u v)).isEmpty || (bars n (-rat n u v)).isEmpty))) none := by
  have h0 := h.1
  have h1 := h.2.1
  show finF false (ex cs (evF cs fns (k + 5)) false b19 [some (.v (ln n u)), some (.v (ln n v)), none, none]) = _
  have r := e12 (k + 3) n u v (by omega) (by omega)
  have b1 := e7' (k + 3) (rat n u v) n h
  have b2 := e7' (k + 3) (-rat n u v) n h
  have hc : ev cs (evF cs fns (k + 5)) (.call 17 (.cons (.var 2) (.cons (.var 3) .nil))) [some (.v (ln n u)), some (.v (ln n v)), some (.v (ln n u)), some (.v (ln n v))] = .ok (.v (.int (rat n u v))) [some (.v (ln n u)), some (.v (ln n v)), some (.v (ln n u)), some (.v (ln n v))] := v_call (v_cons (v_var rfl) (v_cons (v_var rfl) v_nil)) r
  have : ex cs (evF cs fns (k + 5)) false b19 [some (.v (ln n u)), some (.v (ln n v)), none, none] = .ret (.v (.bool ((bars n (rat n u v)).isEmpty || (bars n (-rat n u v)).isEmpty))) [some (.v (ln n u)), some (.v (ln n v)), some (.v (ln n u)), some (.v (ln n v))] := by
    unfold b19
    exact x_cons (x_tgt (v_call (v_cons (v_var rfl) (v_cons (v_var rfl) v_nil)) (e13 k n u v hu hv h0)) rfl) (x_consR (x_ret (v_or (v_cmp (v_call (v_cons hc (v_cons (v_ixV rfl v_int (ati0 _ _)) v_nil)) b1) (v_lst v_nil (siz (show 0 ≤ 1000 by decide))) (bars_nil 0 _ h)) (v_one (v_cmp (v_call (v_cons (v_neg hc) (v_cons (v_ixV rfl v_int (ati0 _ _)) v_nil)) b2) (v_lst v_nil (siz (show 0 ≤ 1000 by decide))) (bars_nil 0 _ h))))))
  rw [this]
  rfl
end K56
set_option maxHeartbeats 1000000
namespace K56
open PySem PySem.Spec PyProof.Rows L2 TD
local macro_rules | `(tactic| walk_at "td omega") => `(tactic| first | omega | (simp only [decide_eq_true_eq, decide_eq_false_iff_not, Bool.not_eq_true', Bool.not_eq_false'] at *; omega))
local macro_rules | `(tactic| walk_at "td hyp") => `(tactic| first | with_reducible assumption | with_reducible rfl | omega | assumption | walk_at "td omega")
local macro_rules | `(tactic| walk_at "td dec") => `(tactic| first | with_reducible rfl | with_reducible assumption | (with_reducible refine decide_eq_true ?_; omega) | (with_reducible refine decide_eq_false ?_; omega) | (simp [isNum, isTy, W.val]; done) | (simp [isNum, isTy, W.val]; omega) | (simp [isNum, isTy, W.val, *]; done) | (simp only [Bool.not_eq_true', Bool.not_eq_false', decide_eq_true_eq, decide_eq_false_iff_not, Bool.and_eq_true, Bool.or_eq_true, Bool.and_eq_false_iff, Bool.or_eq_false_iff, Bool.not_true, Bool.not_false, Bool.and_true, Bool.true_and, Bool.or_false, Bool.false_or]; omega) | (simp [*]; done) | simp_all)
local macro_rules | `(tactic| walk_at "td mul") => `(tactic| first | exact mul_ok (.inl (by decide)) | exact mul_ok (.inr (by decide)) | exact mul_ok (.inl (by omega)) | exact mul_ok (.inr (by omega)) | assumption)
local macro_rules | `(tactic| walk_at "td div") => `(tactic| first | assumption | exact divS (by omega) (by omega))
local macro_rules | `(tactic| walk_at "td sz") => `(tactic| first | with_reducible assumption | exact Nat.lt_of_le_of_lt (show _ ≤ 1000 by first | omega | (simp; done) | (simp; omega)) (by decide) | exact siz (by first | omega | (simp; done) | (simp; omega)) | (simp; done) | (simp; omega) | omega)
local macro_rules | `(tactic| walk_at "td len") => `(tactic| first | assumption | omega | (simp; done) | (simp; omega))
local macro_rules | `(tactic| walk_at "td op") => `(tactic| first | with_reducible assumption | exact sq_gr | rfl)
local macro_rules | `(tactic| walk_at "td eq") => `(tactic| first | assumption | rfl)
local macro_rules | `(tactic| walk_at "td in") => `(tactic| first | assumption | rfl)
local macro_rules | `(tactic| walk_at "td le") => `(tactic| (repeat (first | with_reducible exact Le.nil | with_reducible exact Le.refl _ | with_reducible apply Le.skip | apply Le.both)))
def sqm : Nat → Nat → Nat
  | 0, _ => 0
  | k + 1, n => sqm k n ||| 2 ^ ((k + 1) * (k + 1) % n)
theorem sqm_bit (n r : Nat) : ∀ k : Nat, (sqm k n).testBit r = true ↔ ∃ x, 1 ≤ x ∧ x ≤ k ∧ x * x % n = r
  | 0 => by
    constructor
    · intro h
      have h : (0 : Nat).testBit r = true := h
      rw [Nat.zero_testBit] at h
      cases h
    · rintro ⟨x, h1, h2, _⟩
      omega
  | k + 1 => by
    show (sqm k n ||| 2 ^ ((k + 1) * (k + 1) % n)).testBit r = true ↔ _
    rw [Nat.testBit_or, Bool.or_eq_true, sqm_bit n r k, Nat.testBit_two_pow, decide_eq_true_eq]
    constructor
    · rintro (⟨x, h1, h2, h3⟩ | h)
      · exact ⟨x, h1, by omega, h3⟩
      · exact ⟨k + 1, by omega, by omega, h⟩
    · rintro ⟨x, h1, h2, h3⟩
      by_cases hx : x = k + 1
      · subst hx; exact .inr h3
      · exact .inl ⟨x, h1, by omega, h3⟩
def headE (n r : Nat) : Bool := (n % 8 != 0 || r % 8 == 1) && (n % 8 != 4 || r % 4 == 1)
def primeB (own : Int) : Bool := (rangeI 2 (own - 2).toNat).all (fun i => !decide (own % i = 0))
def okA (e : Nat × List Nat) : Bool := decide ((PR e.1).filter (fun p => decide (2 < p)) = e.2.map Int.ofNat) && decide ((rangeI 3 ((e.1 : Int) - 2).toNat).filter (fun p => decide ((e.1 : Int) % p = 0) && primeB p) = e.2.map Int.ofNat) && (PR e.1).all (fun p => decide (0 < p) && decide (p ≤ 1000) && decide ((e.1 : Int) % p = 0))
def primesT : List Nat := [3, 5, 7, 11, 13, 17, 19, 23, 29, 31, 37, 41, 43, 47, 53, 59, 61, 67, 71, 73, 79, 83, 89, 97, 101, 103, 107, 109, 113, 127, 131, 137, 139, 149, 151, 157, 163, 167, 173, 179, 181, 191, 193, 197, 199, 211, 223, 227, 229, 233, 239]
def okB (e : Nat × List Nat) : Bool := ((List.range e.1).all fun r => Nat.gcd r e.1 != 1 || ((headE e.1 r && e.2.all fun p => (sqm (p - 1) p).testBit (r % p)) == (sqm (e.1 - 1) e.1).testBit r)) && e.2.all fun p => decide (p ∈ primesT)
def okP (p : Nat) : Bool := (List.range p).all fun y => SQ p y == (sqm (p - 1) p).testBit y
theorem okP_all : primesT.all okP = true := by decide +kernel
def tb0 : List (Nat × List Nat) := [(2, []), (3, [3]), (4, []), (5, [5]), (6, [3]), (7, [7]), (8, []), (9, [3]), (10, [5]), (11, [11]), (12, [3]), (13, [13]), (14, [7]), (15, [3, 5]), (16, []), (17, [17]), (18, [3]), (19, [19]), (20, [5]), (21, [3, 7])]
theorem ta0 : tb0.all okA = true := by decide +kernel
theorem tc0 : tb0.all okB = true := by decide +kernel
def tb1 : List (Nat × List Nat) := [(22, [11]), (23, [23]), (24, [3]), (25, [5]), (26, [13]), (27, [3]), (28, [7]), (29, [29]), (30, [3, 5]), (31, [31]), (32, []), (33, [3, 11]), (34, [17]), (35, [5, 7]), (36, [3]), (37, [37]), (38, [19]), (39, [3, 13]), (40, [5]), (41, [41])]
theorem ta1 : tb1.all okA = true := by decide +kernel
theorem tc1 : tb1.all okB = true := by decide +kernel
def tb2 : List (Nat × List Nat) := [(42, [3, 7]), (43, [43]), (44, [11]), (45, [3, 5]), (46, [23]), (47, [47]), (48, [3]), (49, [7]), (50, [5]), (51, [3, 17]), (52, [13]), (53, [53]), (54, [3]), (55, [5, 11]), (56, [7]), (57, [3, 19]), (58, [29]), (59, [59]), (60, [3, 5]), (61, [61])]
theorem ta2 : tb2.all okA = true := by decide +kernel
theorem tc2 : tb2.all okB = true := by decide +kernel
def tb3 : List (Nat × List Nat) := [(62, [31]), (63, [3, 7]), (64, []), (65, [5, 13]), (66, [3, 11]), (67, [67]), (68, [17]), (69, [3, 23]), (70, [5, 7]), (71, [71]), (72, [3]), (73, [73]), (74, [37]), (75, [3, 5]), (76, [19]), (77, [7, 11]), (78, [3, 13]), (79, [79]), (80, [5]), (81, [3])]
theorem ta3 : tb3.all okA = true := by decide +kernel
theorem tc3 : tb3.all okB = true := by decide +kernel
def tb4 : List (Nat × List Nat) := [(82, [41]), (83, [83]), (84, [3, 7]), (85, [5, 17]), (86, [43]), (87, [3, 29]), (88, [11]), (89, [89]), (90, [3, 5]), (91, [7, 13]), (92, [23]), (93, [3, 31]), (94, [47]), (95, [5, 19]), (96, [3]), (97, [97]), (98, [7]), (99, [3, 11]), (100, [5]), (101, [101])]
theorem ta4 : tb4.all okA = true := by decide +kernel
theorem tc4 : tb4.all okB = true := by decide +kernel
def tb5 : List (Nat × List Nat) := [(102, [3, 17]), (103, [103]), (104, [13]), (105, [3, 5, 7]), (106, [53]), (107, [107]), (108, [3]), (109, [109]), (110, [5, 11]), (111, [3, 37]), (112, [7]), (113, [113]), (114, [3, 19]), (115, [5, 23]), (116, [29]), (117, [3, 13]), (118, [59]), (119, [7, 17]), (120, [3, 5]), (121, [11])]
theorem ta5 : tb5.all okA = true := by decide +kernel
theorem tc5 : tb5.all okB = true := by decide +kernel
def tb6 : List (Nat × List Nat) := [(122, [61]), (123, [3, 41]), (124, [31]), (125, [5]), (126, [3, 7]), (127, [127]), (128, []), (129, [3, 43]), (130, [5, 13]), (131, [131]), (132, [3, 11]), (133, [7, 19]), (134, [67]), (135, [3, 5]), (136, [17]), (137, [137]), (138, [3, 23]), (139, [139]), (140, [5, 7]), (141, [3, 47])]
theorem ta6 : tb6.all okA = true := by decide +kernel
theorem tc6 : tb6.all okB = true := by decide +kernel
def tb7 : List (Nat × List Nat) := [(142, [71]), (143, [11, 13]), (144, [3]), (145, [5, 29]), (146, [73]), (147, [3, 7]), (148, [37]), (149, [149]), (150, [3, 5]), (151, [151]), (152, [19]), (153, [3, 17]), (154, [7, 11]), (155, [5, 31]), (156, [3, 13]), (157, [157]), (158, [79]), (159, [3, 53]), (160, [5]), (161, [7, 23])]
theorem ta7 : tb7.all okA = true := by decide +kernel
theorem tc7 : tb7.all okB = true := by decide +kernel
def tb8 : List (Nat × List Nat) := [(162, [3]), (163, [163]), (164, [41]), (165, [3, 5, 11]), (166, [83]), (167, [167]), (168, [3, 7]), (169, [13]), (170, [5, 17]), (171, [3, 19]), (172, [43]), (173, [173]), (174, [3, 29]), (175, [5, 7]), (176, [11]), (177, [3, 59]), (178, [89]), (179, [179]), (180, [3, 5]), (181, [181])]
theorem ta8 : tb8.all okA = true := by decide +kernel
theorem tc8 : tb8.all okB = true := by decide +kernel
def tb9 : List (Nat × List Nat) := [(182, [7, 13]), (183, [3, 61]), (184, [23]), (185, [5, 37]), (186, [3, 31]), (187, [11, 17]), (188, [47]), (189, [3, 7]), (190, [5, 19]), (191, [191]), (192, [3]), (193, [193]), (194, [97]), (195, [3, 5, 13]), (196, [7]), (197, [197]), (198, [3, 11]), (199, [199]), (200, [5]), (201, [3, 67])]
theorem ta9 : tb9.all okA = true := by decide +kernel
theorem tc9 : tb9.all okB = true := by decide +kernel
def tb10 : List (Nat × List Nat) := [(202, [101]), (203, [7, 29]), (204, [3, 17]), (205, [5, 41]), (206, [103]), (207, [3, 23]), (208, [13]), (209, [11, 19]), (210, [3, 5, 7]), (211, [211]), (212, [53]), (213, [3, 71]), (214, [107]), (215, [5, 43]), (216, [3]), (217, [7, 31]), (218, [109]), (219, [3, 73]), (220, [5, 11]), (221, [13, 17])]
theorem ta10 : tb10.all okA = true := by decide +kernel
theorem tc10 : tb10.all okB = true := by decide +kernel
def tb11 : List (Nat × List Nat) := [(222, [3, 37]), (223, [223]), (224, [7]), (225, [3, 5]), (226, [113]), (227, [227]), (228, [3, 19]), (229, [229]), (230, [5, 23]), (231, [3, 7, 11]), (232, [29]), (233, [233]), (234, [3, 13]), (235, [5, 47]), (236, [59]), (237, [3, 79]), (238, [7, 17]), (239, [239]), (240, [3, 5])]
theorem ta11 : tb11.all okA = true := by decide +kernel
theorem tc11 : tb11.all okB = true := by decide +kernel
def tb : List (Nat × List Nat) := tb0 ++ tb1 ++ tb2 ++ tb3 ++ tb4 ++ tb5 ++ tb6 ++ tb7 ++ tb8 ++ tb9 ++ tb10 ++ tb11
theorem tb_ok : tb.all okA = true ∧ tb.all okB = true := by
  unfold tb
  constructor
  · simp only [List.all_append, ta0, ta1, ta2, ta3, ta4, ta5, ta6, ta7, ta8, ta9, ta10, ta11, Bool.and_self]
  · simp only [List.all_append, tc0, tc1, tc2, tc3, tc4, tc5, tc6, tc7, tc8, tc9, tc10, tc11, Bool.and_self]
theorem tb_n : tb.map (·.1) = List.range' 2 239 := by decide +kernel
end K56
set_option maxHeartbeats 1000000
namespace K56
open PySem PySem.Spec PyProof.Rows L2 TD
local macro_rules | `(tactic| walk_at "td omega") => `(tactic| first | omega | (simp only [decide_eq_true_eq, decide_eq_false_iff_not, Bool.not_eq_true', Bool.not_eq_false'] at *; omega))
local macro_rules | `(tactic| walk_at "td hyp") => `(tactic| first | with_reducible assumption | with_reducible rfl | omega | assumption | walk_at "td omega")
local macro_rules | `(tactic| walk_at "td dec") => `(tactic| first | with_reducible rfl | with_reducible assumption | (with_reducible refine decide_eq_true ?_; omega) | (with_reducible refine decide_eq_false ?_; omega) | (simp [isNum, isTy, W.val]; done) | (simp [isNum, isTy, W.val]; omega) | (simp [isNum, isTy, W.val, *]; done) | (simp only [Bool.not_eq_true', Bool.not_eq_false', decide_eq_true_eq, decide_eq_false_iff_not, Bool.and_eq_true, Bool.or_eq_true, Bool.and_eq_false_iff, Bool.or_eq_false_iff, Bool.not_true, Bool.not_false, Bool.and_true, Bool.true_and, Bool.or_false, Bool.false_or]; omega) | (simp [*]; done) | simp_all)
local macro_rules | `(tactic| walk_at "td mul") => `(tactic| first | exact mul_ok (.inl (by decide)) | exact mul_ok (.inr (by decide)) | exact mul_ok (.inl (by omega)) | exact mul_ok (.inr (by omega)) | assumption)
local macro_rules | `(tactic| walk_at "td div") => `(tactic| first | assumption | exact divS (by omega) (by omega))
local macro_rules | `(tactic| walk_at "td sz") => `(tactic| first | with_reducible assumption | exact Nat.lt_of_le_of_lt (show _ ≤ 1000 by first | omega | (simp; done) | (simp; omega)) (by decide) | exact siz (by first | omega | (simp; done) | (simp; omega)) | (simp; done) | (simp; omega) | omega)
local macro_rules | `(tactic| walk_at "td len") => `(tactic| first | assumption | omega | (simp; done) | (simp; omega))
local macro_rules | `(tactic| walk_at "td op") => `(tactic| first | with_reducible assumption | exact sq_gr | rfl)
local macro_rules | `(tactic| walk_at "td eq") => `(tactic| first | assumption | rfl)
local macro_rules | `(tactic| walk_at "td in") => `(tactic| first | assumption | rfl)
local macro_rules | `(tactic| walk_at "td le") => `(tactic| (repeat (first | with_reducible exact Le.nil | with_reducible exact Le.refl _ | with_reducible apply Le.skip | apply Le.both)))
def sqs (own : Int) : List Int := (rangeI 1 (own - 1).toNat).map (fun i => i * i % own)
theorem mem_sqs {own y : Int} (h : 1 ≤ own) : y ∈ sqs own ↔ ∃ i, 1 ≤ i ∧ i < own ∧ i * i % own = y := by
  unfold sqs
  rw [List.mem_map]
  constructor
  · rintro ⟨i, h1, h2⟩
    rw [mem_rangeI] at h1
    exact ⟨i, h1.1, by omega, h2⟩
  · rintro ⟨i, h1, h2, h3⟩
    exact ⟨i, by rw [mem_rangeI]; omega, h3⟩
theorem bit_sq {p y : Nat} (h : 1 ≤ p) : (sqm (p - 1) p).testBit y = true ↔ ∃ i : Int, 1 ≤ i ∧ i < p ∧ i * i % p = y := by
  rw [sqm_bit]
  constructor
  · rintro ⟨x, h1, h2, h3⟩
    refine ⟨x, by omega, by omega, ?_⟩
    rw [← h3]
    norm_cast
  · rintro ⟨i, h1, h2, h3⟩
    refine ⟨i.toNat, by omega, by omega, ?_⟩
    have e : (i.toNat : Int) = i := Int.toNat_of_nonneg (by omega)
    rw [← e] at h3
    norm_cast at h3
theorem SQ_mod (p x : Int) : SQ p x = SQ p (x % p) := by
  unfold SQ
  rw [Int.emod_emod_of_dvd _ (Int.dvd_refl p)]
theorem SQ_is {p : Nat} (hp : p ∈ primesT) (h1 : 1 ≤ p) (x : Int) : SQ p x = true ↔ x % p ∈ sqs p := by
  have h := okP_all
  rw [List.all_eq_true] at h
  have h2 := h p hp
  unfold okP at h2
  rw [List.all_eq_true] at h2
  have m0 := Int.emod_nonneg x (show (p : Int) ≠ 0 by omega)
  have m1 := Int.emod_lt_of_pos x (show (0 : Int) < p by omega)
  have e : ((x % p).toNat : Int) = x % p := Int.toNat_of_nonneg m0
  have h3 := h2 (x % p).toNat (by rw [List.mem_range]; omega)
  rw [beq_iff_eq, e, ← SQ_mod] at h3
  rw [h3, bit_sq h1, mem_sqs (by omega), e]
/-! ### what the table tells -/
structure Tb (N : Nat) (ps : List Nat) : Prop where
  a1 : (PR N).filter (fun p => decide (2 < p)) = ps.map Int.ofNat
  a2 : (rangeI 3 ((N : Int) - 2).toNat).filter (fun p => decide ((N : Int) % p = 0) && primeB p) = ps.map Int.ofNat
  a3 : ∀ p ∈ PR N, 0 < p ∧ p ≤ 1000 ∧ (N : Int) % p = 0
  b1 : ∀ r, r < N → Nat.gcd r N = 1 → (headE N r && ps.all fun p => (sqm (p - 1) p).testBit (r % p)) = (sqm (N - 1) N).testBit r
  b2 : ∀ p ∈ ps, p ∈ primesT
theorem tb_at {N : Nat} (h1 : 2 ≤ N) (h2 : N ≤ 240) : ∃ ps, Tb N ps := by
  have h : N ∈ List.range' 2 239 := by rw [List.mem_range'_1]; omega
  rw [← tb_n, List.mem_map] at h
  obtain ⟨⟨N', ps⟩, hm, e⟩ := h
  have e : N' = N := e
  subst e
  have ha := tb_ok.1
  have hb := tb_ok.2
  rw [List.all_eq_true] at ha hb
  have ha := ha _ hm
  have hb := hb _ hm
  unfold okA at ha
  unfold okB at hb
  rw [Bool.and_eq_true, Bool.and_eq_true, decide_eq_true_eq, decide_eq_true_eq, List.all_eq_true] at ha
  rw [Bool.and_eq_true, List.all_eq_true, List.all_eq_true] at hb
  refine ⟨ps, ha.1.1, ha.1.2, fun p hp => ?_, fun r hr hg => ?_, fun p hp => ?_⟩
  · have := ha.2 p hp
    rw [Bool.and_eq_true, Bool.and_eq_true, decide_eq_true_eq, decide_eq_true_eq, decide_eq_true_eq] at this
    exact ⟨this.1.1, this.1.2, this.2⟩
  · have := hb.1 r (by rw [List.mem_range]; exact hr)
    rw [Bool.or_eq_true] at this
    rcases this with this | this
    · rw [bne_iff_ne] at this; exact absurd hg this
    · rw [beq_iff_eq] at this; exact this
  · have := hb.2 p hp
    rw [decide_eq_true_eq] at this
    exact this
theorem pos_at {n : Int} (h1 : 2 ≤ n) (h2 : n ≤ 240) : Pos n := by
  obtain ⟨ps, T⟩ := tb_at (N := n.toNat) (by omega) (by omega)
  have e : (n.toNat : Int) = n := Int.toNat_of_nonneg (by omega)
  refine ⟨h1, h2, fun p hp => ?_⟩
  have := T.a3 p (by rw [e]; exact hp)
  exact ⟨this.1, this.2.1⟩
theorem prime3 : ∀ p ∈ primesT, 3 ≤ p := by decide
/-! ### the law's bars are the program's -/
def lhead (n x : Int) : List Int := (if n % 8 = 0 then (if x % 8 = 1 then [] else [8]) else []) ++ (if n % 8 = 4 then (if x % 4 = 1 then [] else [4]) else [])
def lb (n x own : Int) : Bool := decide (n % own = 0) && (primeB own && !decide (x % own ∈ sqs own))
def lbars (n x : Int) : List Int := lhead n x ++ (rangeI 3 (n - 2).toNat).filter (lb n x)
theorem head_is (n x : Int) : lhead n x = head4 n x := by
  unfold lhead head4
  by_cases h : n % 8 = 0
  · rw [if_pos h, if_pos h, if_neg (show ¬ n % 8 = 4 by omega), List.append_nil]
  · rw [if_neg h, if_neg h]
    by_cases h2 : n % 8 = 4
    · rw [if_pos h2, if_pos (show n % 4 = 0 by omega)]; rfl
    · rw [if_neg h2, if_neg (show ¬ n % 4 = 0 by omega)]; rfl
theorem lbars_is {n : Int} (x : Int) (h1 : 2 ≤ n) (h2 : n ≤ 240) : lbars n x = bars n x := by
  obtain ⟨ps, T⟩ := tb_at (N := n.toNat) (by omega) (by omega)
  have e : (n.toNat : Int) = n := Int.toNat_of_nonneg (by omega)
  have a1 := T.a1
  have a2 := T.a2
  rw [e] at a1 a2
  unfold lbars bars
  rw [head_is]
  congr 1
  have f1 : (rangeI 3 (n - 2).toNat).filter (lb n x) = ((rangeI 3 (n - 2).toNat).filter (fun p => decide (n % p = 0) && primeB p)).filter (fun p => !decide (x % p ∈ sqs p)) := by
    rw [List.filter_filter]
    refine List.filter_congr fun p _ => ?_
    unfold lb
    cases decide (n % p = 0) <;> cases primeB p <;> cases decide (x % p ∈ sqs p) <;> rfl
  have f2 : (PR n).filter (fun p => decide (2 < p) && !SQ p x) = ((PR n).filter (fun p => decide (2 < p))).filter (fun p => !SQ p x) := by
    rw [List.filter_filter]
    refine List.filter_congr fun p _ => ?_
    cases decide (2 < p) <;> cases SQ p x <;> rfl
  rw [f1, f2, a1, a2]
  refine List.filter_congr fun p hp => ?_
  rw [List.mem_map] at hp
  obtain ⟨q, hq, rfl⟩ := hp
  have hq' := T.b2 q hq
  have s := SQ_is hq' (by have := prime3 q hq'; omega) x
  show (!decide (x % (q : Int) ∈ sqs q)) = !SQ q x
  congr 1
  rw [Bool.eq_iff_iff, decide_eq_true_eq]
  exact s.symm
/-! ### no bar just if a root -/
theorem empty_is {n : Int} (x : Int) (h1 : 2 ≤ n) (h2 : n ≤ 240) (hg : Int.gcd x n = 1) : (bars n x).isEmpty = true ↔ ∃ i, 1 ≤ i ∧ i < n ∧ i * i % n = x % n := by
  obtain ⟨ps, T⟩ := tb_at (N := n.toNat) (by omega) (by omega)
  have e : (n.toNat : Int) = n := Int.toNat_of_nonneg (by omega)
  have m0 := Int.emod_nonneg x (show n ≠ 0 by omega)
  have m1 := Int.emod_lt_of_pos x (show 0 < n by omega)
  have er : ((x % n).toNat : Int) = x % n := Int.toNat_of_nonneg m0
  have hgn : Nat.gcd (x % n).toNat n.toNat = 1 := by
    have t : Int.gcd (((x % n).toNat : Nat) : Int) ((n.toNat : Nat) : Int) = 1 := by
      rw [er, e, Int.gcd_comm, gcd_emod]
      exact hg
    exact t
  have b := T.b1 (x % n).toNat (by omega) hgn
  have hb := bit_sq (p := n.toNat) (y := (x % n).toNat) (by omega)
  rw [e, er] at hb
  rw [← hb, ← b, Bool.and_eq_true, List.all_eq_true]
  have f2 : (PR n).filter (fun p => decide (2 < p) && !SQ p x) = (ps.map Int.ofNat).filter (fun p => !SQ p x) := by
    have a1 := T.a1
    rw [e] at a1
    rw [← a1, List.filter_filter]
    refine List.filter_congr fun p _ => ?_
    cases decide (2 < p) <;> cases SQ p x <;> rfl
  have g1 : (bars n x).isEmpty = true ↔ head4 n x = [] ∧ ∀ p ∈ ps, SQ p x = true := by
    unfold bars
    rw [List.isEmpty_iff, List.append_eq_nil_iff, f2, List.filter_eq_nil_iff]
    constructor
    · rintro ⟨k1, k2⟩
      refine ⟨k1, fun p hp => ?_⟩
      have := k2 (Int.ofNat p) (List.mem_map.mpr ⟨p, hp, rfl⟩)
      cases hs : SQ p x
      · exact absurd (show (!SQ (Int.ofNat p) x) = true by show (!SQ p x) = true; rw [hs]; rfl) this
      · rfl
    · rintro ⟨k1, k2⟩
      refine ⟨k1, fun p hp => ?_⟩
      rw [List.mem_map] at hp
      obtain ⟨q, hq, rfl⟩ := hp
      show ¬ (!SQ q x) = true
      rw [k2 q hq]
      decide
  have g2 : head4 n x = [] ↔ headE n.toNat (x % n).toNat = true := by
    have c8 : n.toNat % 8 = (n % 8).toNat := by omega
    unfold head4 headE
    by_cases h8 : n % 8 = 0
    · have d8 : (x % n) % 8 = x % 8 := Int.emod_emod_of_dvd x (Int.dvd_of_emod_eq_zero h8)
      have q8 : (x % n).toNat % 8 = (x % 8).toNat := by omega
      rw [if_pos h8, c8, q8, h8]
      by_cases hx : x % 8 = 1
      · rw [if_pos hx, hx]; simp
      · rw [if_neg hx]
        have : ((x % 8).toNat == 1) = false := by rw [beq_eq_false_iff_ne]; omega
        simp [this]
    · have n8 : ((n % 8).toNat != 0) = true := by rw [bne_iff_ne]; omega
      rw [if_neg h8, c8, n8]
      by_cases h4 : n % 4 = 0
      · have d4 : (x % n) % 4 = x % 4 := Int.emod_emod_of_dvd x (Int.dvd_of_emod_eq_zero h4)
        have q4 : (x % n).toNat % 4 = (x % 4).toNat := by omega
        have e4 : n % 8 = 4 := by omega
        rw [if_pos h4, q4, e4]
        by_cases hx : x % 4 = 1
        · rw [if_pos hx, hx]; simp
        · rw [if_neg hx]
          have : ((x % 4).toNat == 1) = false := by rw [beq_eq_false_iff_ne]; omega
          simp [this]
      · have : ((n % 8).toNat != 4) = true := by rw [bne_iff_ne]; omega
        rw [if_neg h4, this]
        simp
  rw [g1, g2]
  refine and_congr_right fun _ => ?_
  have key : ∀ p ∈ ps, (SQ p x = true ↔ (sqm (p - 1) p).testBit ((x % n).toNat % p) = true) := by
    intro p hp
    have hp' := T.b2 p hp
    have p3 := prime3 p hp'
    rw [SQ_is hp' (by omega), bit_sq (by omega), mem_sqs (by omega)]
    have hd : (p : Int) ∣ n := by
      have a2 := T.a2
      have hm : (p : Int) ∈ ps.map Int.ofNat := List.mem_map.mpr ⟨p, hp, rfl⟩
      rw [← a2, List.mem_filter, Bool.and_eq_true, decide_eq_true_eq, e] at hm
      exact Int.dvd_of_emod_eq_zero hm.2.1
    have e2 : (((x % n).toNat % p : Nat) : Int) = x % p := by
      rw [Int.natCast_emod, er]
      exact Int.emod_emod_of_dvd x hd
    rw [e2]
  exact forall_congr' fun p => ⟨fun h hp => (key p hp).mp (h hp), fun h hp => (key p hp).mpr (h hp)⟩
theorem SQ_res {n x y : Int} (p : Int) (hd : p ∣ n) (h : x % n = y % n) : SQ p x = SQ p y := by
  have e : x % p = y % p := by
    rw [← Int.emod_emod_of_dvd x hd, h, Int.emod_emod_of_dvd y hd]
  rw [SQ_mod p x, SQ_mod p y, e]
theorem bars_res {n x y : Int} (h1 : 2 ≤ n) (h2 : n ≤ 240) (h : x % n = y % n) : bars n x = bars n y := by
  obtain ⟨ps, T⟩ := tb_at (N := n.toNat) (by omega) (by omega)
  have e : (n.toNat : Int) = n := Int.toNat_of_nonneg (by omega)
  unfold bars
  congr 1
  · unfold head4
    by_cases h8 : n % 8 = 0
    · have d1 : (x % n) % 8 = x % 8 := Int.emod_emod_of_dvd x (Int.dvd_of_emod_eq_zero h8)
      have d2 : (y % n) % 8 = y % 8 := Int.emod_emod_of_dvd y (Int.dvd_of_emod_eq_zero h8)
      have : x % 8 = y % 8 := by rw [← d1, h, d2]
      rw [if_pos h8, if_pos h8, this]
    · rw [if_neg h8, if_neg h8]
      by_cases h4 : n % 4 = 0
      · have d1 : (x % n) % 4 = x % 4 := Int.emod_emod_of_dvd x (Int.dvd_of_emod_eq_zero h4)
        have d2 : (y % n) % 4 = y % 4 := Int.emod_emod_of_dvd y (Int.dvd_of_emod_eq_zero h4)
        have : x % 4 = y % 4 := by rw [← d1, h, d2]
        rw [if_pos h4, if_pos h4, this]
      · rw [if_neg h4, if_neg h4]
  · refine List.filter_congr fun p hp => ?_
    have := T.a3 p (by rw [e]; exact hp)
    rw [e] at this
    rw [SQ_res p (Int.dvd_of_emod_eq_zero this.2.2) h]
end K56
set_option maxHeartbeats 1000000
namespace K56
open PySem PySem.Spec PyProof.Rows L2 TD
local macro_rules | `(tactic| walk_at "td omega") => `(tactic| first | omega | (simp only [decide_eq_true_eq, decide_eq_false_iff_not, Bool.not_eq_true', Bool.not_eq_false'] at *; omega))
local macro_rules | `(tactic| walk_at "td hyp") => `(tactic| first | with_reducible assumption | with_reducible rfl | omega | assumption | walk_at "td omega")
local macro_rules | `(tactic| walk_at "td dec") => `(tactic| first | with_reducible rfl | with_reducible assumption | (with_reducible refine decide_eq_true ?_; omega) | (with_reducible refine decide_eq_false ?_; omega) | (simp [isNum, isTy, W.val]; done) | (simp [isNum, isTy, W.val]; omega) | (simp [isNum, isTy, W.val, *]; done) | (simp only [Bool.not_eq_true', Bool.not_eq_false', decide_eq_true_eq, decide_eq_false_iff_not, Bool.and_eq_true, Bool.or_eq_true, Bool.and_eq_false_iff, Bool.or_eq_false_iff, Bool.not_true, Bool.not_false, Bool.and_true, Bool.true_and, Bool.or_false, Bool.false_or]; omega) | (simp [*]; done) | simp_all)
local macro_rules | `(tactic| walk_at "td mul") => `(tactic| first | exact mul_ok (.inl (by decide)) | exact mul_ok (.inr (by decide)) | exact mul_ok (.inl (by omega)) | exact mul_ok (.inr (by omega)) | assumption)
local macro_rules | `(tactic| walk_at "td div") => `(tactic| first | assumption | exact divS (by omega) (by omega))
local macro_rules | `(tactic| walk_at "td sz") => `(tactic| first | with_reducible assumption | exact Nat.lt_of_le_of_lt (show _ ≤ 1000 by first | omega | (simp; done) | (simp; omega)) (by decide) | exact siz (by first | omega | (simp; done) | (simp; omega)) | (simp; done) | (simp; omega) | omega)
local macro_rules | `(tactic| walk_at "td len") => `(tactic| first | assumption | omega | (simp; done) | (simp; omega))
local macro_rules | `(tactic| walk_at "td op") => `(tactic| first | with_reducible assumption | exact sq_gr | rfl)
local macro_rules | `(tactic| walk_at "td eq") => `(tactic| first | assumption | rfl)
local macro_rules | `(tactic| walk_at "td in") => `(tactic| first | assumption | rfl)
local macro_rules | `(tactic| walk_at "td le") => `(tactic| (repeat (first | with_reducible exact Le.nil | with_reducible exact Le.refl _ | with_reducible apply Le.skip | apply Le.both)))
theorem rat_un {n u v : Int} (h0 : 2 ≤ n) (hu : Un n u) (hv : Un n v) : Un n (rat n u v) := un_mod h0 (cop_mul hv.g (un_back h0 hu).g)
theorem sub_zero_iff {a b n : Int} : (a - b) % n = 0 ↔ a % n = b % n := (Int.emod_eq_emod_iff_emod_sub_eq_zero).symm
theorem root_iff {n u v s x : Int} (h0 : 2 ≤ n) (hu : Un n u) (hs : s = 1 ∨ s = -1) : (s * x * x * u - v) % n = 0 ↔ x * x % n = (s * rat n u v) % n := by
  have e1 : u * Bk u n % n = 1 := by rw [Bk_inv (by omega) hu.g]; exact Int.emod_eq_of_lt (by omega) (by omega)
  have q1 : n * (u * Bk u n / n) + u * Bk u n % n = u * Bk u n := Int.mul_ediv_add_emod _ _
  have q2 : n * (v * Bk u n / n) + v * Bk u n % n = v * Bk u n := Int.mul_ediv_add_emod _ _
  have er : rat n u v = v * Bk u n % n := rfl
  rw [← er] at q2
  rw [e1] at q1
  clear e1 er
  generalize u * Bk u n / n = k at *
  generalize v * Bk u n / n = l at *
  generalize rat n u v = r at *
  generalize Bk u n = B at *
  have step : (s * x * x * u - v) % n = 0 ↔ (s * x * x - r) % n = 0 := by
    constructor
    · intro h
      apply Int.emod_eq_zero_of_dvd
      have h := Int.dvd_of_emod_eq_zero h
      have e : s * x * x - r = (s * x * x * u - v) * B - n * (s * x * x * k - l) := by grind
      rw [e]
      exact Int.dvd_sub (Int.dvd_trans h (Int.dvd_mul_right _ _)) (Int.dvd_mul_right _ _)
    · intro h
      apply Int.emod_eq_zero_of_dvd
      have h := Int.dvd_of_emod_eq_zero h
      have e : s * x * x * u - v = (s * x * x - r) * u + n * (v * k - l * u) := by grind
      rw [e]
      exact Int.dvd_add (Int.dvd_trans h (Int.dvd_mul_right _ _)) (Int.dvd_mul_right _ _)
  rw [step]
  rcases hs with rfl | rfl
  · rw [show (1 : Int) * x * x = x * x by grind, Int.one_mul]
    exact sub_zero_iff
  · rw [← sub_zero_iff]
    constructor
    · intro h
      apply Int.emod_eq_zero_of_dvd
      have e : x * x - -1 * r = -(-1 * x * x - r) := by grind
      rw [e, Int.dvd_neg]
      exact Int.dvd_of_emod_eq_zero h
    · intro h
      apply Int.emod_eq_zero_of_dvd
      have e : -1 * x * x - r = -(x * x - -1 * r) := by grind
      rw [e, Int.dvd_neg]
      exact Int.dvd_of_emod_eq_zero h
def yes (n u v : Int) : Bool := (bars n (rat n u v)).isEmpty || (bars n (-rat n u v)).isEmpty
end K56
set_option maxHeartbeats 1000000
namespace K56
open PySem PySem.Spec PyProof.Rows L2 TD
local macro_rules | `(tactic| walk_at "td omega") => `(tactic| first | omega | (simp only [decide_eq_true_eq, decide_eq_false_iff_not, Bool.not_eq_true', Bool.not_eq_false'] at *; omega))
local macro_rules | `(tactic| walk_at "td hyp") => `(tactic| first | with_reducible assumption | with_reducible rfl | omega | assumption | walk_at "td omega")
local macro_rules | `(tactic| walk_at "td dec") => `(tactic| first | with_reducible rfl | with_reducible assumption | (with_reducible refine decide_eq_true ?_; omega) | (with_reducible refine decide_eq_false ?_; omega) | (simp [isNum, isTy, W.val]; done) | (simp [isNum, isTy, W.val]; omega) | (simp [isNum, isTy, W.val, *]; done) | (simp only [Bool.not_eq_true', Bool.not_eq_false', decide_eq_true_eq, decide_eq_false_iff_not, Bool.and_eq_true, Bool.or_eq_true, Bool.and_eq_false_iff, Bool.or_eq_false_iff, Bool.not_true, Bool.not_false, Bool.and_true, Bool.true_and, Bool.or_false, Bool.false_or]; omega) | (simp [*]; done) | simp_all)
local macro_rules | `(tactic| walk_at "td mul") => `(tactic| first | exact mul_ok (.inl (by decide)) | exact mul_ok (.inr (by decide)) | exact mul_ok (.inl (by omega)) | exact mul_ok (.inr (by omega)) | assumption)
local macro_rules | `(tactic| walk_at "td div") => `(tactic| first | assumption | exact divS (by omega) (by omega))
local macro_rules | `(tactic| walk_at "td sz") => `(tactic| first | with_reducible assumption | exact Nat.lt_of_le_of_lt (show _ ≤ 1000 by first | omega | (simp; done) | (simp; omega)) (by decide) | exact siz (by first | omega | (simp; done) | (simp; omega)) | (simp; done) | (simp; omega) | omega)
local macro_rules | `(tactic| walk_at "td len") => `(tactic| first | assumption | omega | (simp; done) | (simp; omega))
local macro_rules | `(tactic| walk_at "td op") => `(tactic| first | with_reducible assumption | exact sq_gr | rfl)
local macro_rules | `(tactic| walk_at "td eq") => `(tactic| first | assumption | rfl)
local macro_rules | `(tactic| walk_at "td in") => `(tactic| first | assumption | rfl)
local macro_rules | `(tactic| walk_at "td le") => `(tactic| (repeat (first | with_reducible exact Le.nil | with_reducible exact Le.refl _ | with_reducible apply Le.skip | apply Le.both)))
theorem e_is_lens_of (k : Nat) (a b : Int) : evF cs fns (k + 2) 9 [.v (pd (a, b))] = .ok (.v (.bool (lensB a b))) none := e9 k a b
theorem e_sure_lens (k : Nat) (p q : Int) (h : lensB p q = true) : evF cs fns (k + 6) 13 [.v (pd (p, q))] = .ok (.v (pd (p, q))) none := e10 (k + 3) p q h
theorem e_sure_two (k : Nat) (p q r s : Int) (h : lensB p q = true) (h2 : lensB r s = true) : evF cs fns (k + 7) 14 [.v (pd (p, q)), .v (pd (r, s))] = .ok (.v (.tuple [pd (p, q), pd (r, s)])) none := e11 (k + 3) p q r s h h2
theorem e_are_twins (k : Nat) (n u v : Int) (h : Pos n) (hu : lensB n u = true) (hv : lensB n v = true) : evF cs fns (k + 9) 19 [.v (pd (n, u)), .v (pd (n, v))] = .ok (.v (.bool (yes n u v))) none := e15 (k + 3) n u v h hu hv
theorem eq_pd (x y : Int × Int) : opC .Eq (pd x) (pd y) = some (decide (x = y)) := by
  show (if SeqAt.shaped (pd x) = true ∧ SeqAt.shaped (pd y) = true then some (PyData.eqv (pd x) (pd y)) else none) = _
  rw [if_pos ⟨fit_sh (k := 3) rfl (by decide), fit_sh (k := 3) rfl (by decide)⟩]
  obtain ⟨a, b⟩ := x
  obtain ⟨c, d⟩ := y
  unfold pd
  rw [eqv_pair]
  congr 1
  rw [Bool.eq_iff_iff]
  simp
theorem ne_pd (x y : Int × Int) : opC .NotEq (pd x) (pd y) = some (!decide (x = y)) := by
  show (opC .Eq (pd x) (pd y)).map (!·) = _
  rw [eq_pd]; rfl
theorem e_same_lens (k : Nat) (p q r s : Int) (h1 : lensB p q = true) (h2 : lensB r s = true) (h3 : p ≤ 1000000) (h4 : r ≤ 1000000) : evF cs fns (k + 8) 15 [.v (pd (p, q)), .v (pd (r, s))] = .ok (.v (.bool (decide (leastI2 (p, q) = leastI2 (r, s))))) none := by
  refine Eq.trans (evF_at (k := (k + 7)) (F := f15) (B := b15) (bw := false) (e0 := [some (.v (pd (p, q))), some (.v (pd (r, s))), none, none]) rfl rfl (show 2 ≤ 4 by decide) rfl rfl rfl rfl rfl) ?_
  exact fin_ret (x_cons (e1 := [_, _, _, _]) (x_tgt (v_call (v_cons (v_var rfl) (v_cons (v_var rfl) v_nil)) (e_sure_two k p q r s h1 h2)) rfl) (x_consR (x_ret (v_cmp (v_call (v_cons (v_var rfl) v_nil) (e_least_lens (k + 5) p q h3)) (v_call (v_cons (v_var rfl) v_nil) (e_least_lens (k + 5) r s h4)) (eq_pd _ _)))))
theorem e_mirror_by (k : Nat) (p q : Int) : evF cs fns (k + 2) 12 [.v (pd (p, q))] = .ok (.v (pd (lensI p (-q)))) none := by
  refine Eq.trans (evF_at (k := (k + 1)) (F := f12) (B := b12) (bw := false) (e0 := [some (.v (pd (p, q)))]) rfl rfl (show 1 ≤ 1 by decide) rfl rfl rfl rfl rfl) ?_
  exact fin_ret (x_consR (x_ret (v_call (v_cons (v_ixV rfl v_int rfl) (v_cons (v_neg (v_ixV rfl v_int rfl)) v_nil)) (e_lens_by k p (-q)))))
theorem e_lens_mirrored (k : Nat) (p q : Int) (h1 : lensB p q = true) : evF cs fns (k + 7) 16 [.v (pd (p, q))] = .ok (.v (pd (lensI p (-q)))) none := by
  refine Eq.trans (evF_at (k := (k + 6)) (F := f16) (B := b16) (bw := false) (e0 := [some (.v (pd (p, q)))]) rfl rfl (show 1 ≤ 1 by decide) rfl rfl rfl rfl rfl) ?_
  exact fin_ret (x_consR (x_ret (v_call (v_cons (v_call (v_cons (v_var rfl) v_nil) (e_sure_lens k p q h1)) v_nil) (e_mirror_by (k + 4) p q))))
theorem mir_eq {p : Int} (q : Int) (h : 0 < p) : lensI p (-q) = (p, -q % p) := by
  unfold lensI
  rw [if_neg (by omega), if_neg (by omega), if_pos h]
theorem e_units_below (k : Nat) (n : Int) (h0 : 1 < n) (h1 : n ≤ 1000000) : evF cs fns (k + 1) 6 [.v (.int n)] = .ok (.own ((unitsI n).map PyData.int)) none := by
  refine Eq.trans (evF_at (k := k) (F := f6) (B := b6) (bw := false) (e0 := [some (.v (.int n)), none]) rfl rfl (show 1 ≤ 2 by decide) rfl rfl rfl rfl rfl) ?_
  have e : unitsI n = (rangeI 1 (n - 1).toNat).filter (fun i => decide ((Int.gcd i n : Int) = 1)) := by unfold unitsI; rw [if_pos h0]
  rw [e]
  exact fin_ret (x_consR (x_ret (v_iteT (v_as (v_cmp (v_var rfl) v_int (c_gt _ _)) (decide_eq_true h0)) (v_compGN (L := rangeI 1 (n - 1).toNat) (f := PyData.int) (p := fun i => decide ((Int.gcd i n : Int) = 1)) (g := PyData.int) (e1 := [vi n, none]) (e4 := [vi n, none]) (e3 := [vi n, none]) (v_it (v_cons v_int (v_cons (v_var rfl) v_nil)) (r2_ok (by decide) (by decide) (by omega) (by omega))) rfl (by rw [rangeI_len]; omega) rfl (fun i hi => fQ_I (e3 := [vi n, vi i]) (e4 := [vi n, vi i]) rfl (v_one (v_cmp (v_bi (v_cons (v_var rfl) (v_cons (v_var rfl) v_nil)) (n_gcd' _ _)) v_int (c_eq _ _))) (fun _ => v_var rfl) rfl) rfl))))
/-! ### the class -/
theorem intsOf_map : ∀ L : List Int, intsOf (L.map PyData.int) = some L
  | [] => rfl
  | x :: r => by
    show (intsOf (r.map PyData.int)).map (x :: ·) = _
    rw [intsOf_map r]; rfl
theorem least_spec : ∀ (r : List Int) (a : Int), leastI a r ∈ a :: r ∧ ∀ x ∈ a :: r, leastI a r ≤ x
  | [], a => ⟨List.mem_cons_self, fun x hx => by rw [List.mem_singleton] at hx; rw [hx]; exact Int.le_refl _⟩
  | b :: r, a => by
    obtain ⟨i1, i2⟩ := least_spec r (if b < a then b else a)
    show leastI (if b < a then b else a) r ∈ _ ∧ ∀ x ∈ a :: b :: r, leastI (if b < a then b else a) r ≤ x
    have i3 := i2 _ List.mem_cons_self
    refine ⟨?_, fun x hx => ?_⟩
    · rw [List.mem_cons] at i1
      rcases i1 with i1 | i1
      · rw [i1]
        split
        · exact List.mem_cons_of_mem _ List.mem_cons_self
        · exact List.mem_cons_self
      · exact List.mem_cons_of_mem _ (List.mem_cons_of_mem _ i1)
    · rw [List.mem_cons, List.mem_cons] at hx
      rcases hx with rfl | rfl | hx
      · exact Int.le_trans i3 (by split <;> omega)
      · exact Int.le_trans i3 (by split <;> omega)
      · exact i2 x (List.mem_cons_of_mem _ hx)
def lst0 : List Int → Int
  | x :: r => leastI x r
  | [] => 0
theorem lst0_spec {L : List Int} (h : L ≠ []) : lst0 L ∈ L ∧ ∀ x ∈ L, lst0 L ≤ x := by
  cases L with
  | nil => exact absurd rfl h
  | cons a r => exact least_spec r a
theorem minL_ok {L : List Int} (h : L ≠ []) : opBi .minL [.list (L.map PyData.int)] = some (.v (.int (lst0 L))) := by
  cases L with
  | nil => exact absurd rfl h
  | cons a r =>
    show (match intsOf ((a :: r).map PyData.int) with
      | some (a :: r) => some (W.v (.int (leastI a r)))
      | _ => mnW ((a :: r).map PyData.int)) = _
    rw [intsOf_map]; rfl
def sqL (a n : Int) : List Int := (unitsI n).map (fun u => a * u * u % n)
def CL (a n : Int) : Int := lst0 (sqL a n)
theorem one_unit {n : Int} (h : 1 < n) : (1 : Int) ∈ unitsI n := (mem_units h).mpr ⟨by decide, h, Int.one_gcd⟩
theorem units_len {n : Int} (h : 1 < n) : (unitsI n).length ≤ (n - 1).toNat := by
  unfold unitsI
  rw [if_pos h]
  have := List.length_filter_le (fun i => decide ((Int.gcd i n : Int) = 1)) (rangeI 1 (n - 1).toNat)
  rw [rangeI_len] at this
  exact this
theorem sqL_ne {a n : Int} (h : 1 < n) : sqL a n ≠ [] := by
  intro e
  have : (1 : Int) ∈ unitsI n := one_unit h
  unfold sqL at e
  rw [List.map_eq_nil_iff] at e
  rw [e] at this
  cases this
theorem e_least_class (k : Nat) (a n : Int) (h0 : 1 < n) (h1 : n ≤ 1000) : evF cs fns (k + 2) 21 [.v (.int a), .v (.int n)] = .ok (.v (.int (CL a n))) none := by
  refine Eq.trans (evF_at (k := (k + 1)) (F := f21) (B := b21) (bw := false) (e0 := [some (.v (.int a)), some (.v (.int n)), none]) rfl rfl (show 2 ≤ 3 by decide) rfl rfl rfl rfl rfl) ?_
  have hm := minL_ok (sqL_ne (a := a) h0)
  have em : (sqL a n).map PyData.int = (unitsI n).map (fun u => PyData.int (a * u * u % n)) := by unfold sqL; rw [List.map_map]; rfl
  rw [em] at hm
  have hl := units_len h0
  exact fin_ret (x_consR (x_ret (v_iteT (v_as (v_cmp (v_var rfl) v_int (c_gt _ _)) (decide_eq_true h0)) (v_bi (v_cons (v_compMN (L := unitsI n) (f := PyData.int) (g := fun u => PyData.int (a * u * u % n)) (e1 := [vi a, vi n, none]) (e4 := [vi a, vi n, none]) (e3 := [vi a, vi n, none]) (v_one (v_call (v_cons (v_var rfl) v_nil) (e_units_below k n h0 (by omega)))) rfl (by omega) rfl (fun u hu => by
    have hu := (mem_units h0).mp hu
    exact fQ_T (e3 := [vi a, vi n, vi u]) (e5 := [vi a, vi n, vi u]) rfl v_bl (v_bin (v_bin (v_bin (v_var rfl) (v_var rfl) (o_mulR (by omega))) (v_var rfl) (o_mulR (by omega))) (v_var rfl) (o_mod (by omega))) rfl) rfl) v_nil) hm))))
theorem e_lens_class (k : Nat) (p q : Int) (h1 : lensB p q = true) (h2 : 1 < p) (h3 : p ≤ 1000) : evF cs fns (k + 7) 22 [.v (pd (p, q))] = .ok (.v (pd (p, CL q p))) none := by
  refine Eq.trans (evF_at (k := (k + 6)) (F := f22) (B := b22) (bw := false) (e0 := [some (.v (pd (p, q))), none]) rfl rfl (show 1 ≤ 2 by decide) rfl rfl rfl rfl rfl) ?_
  exact fin_ret (x_cons (e1 := [_, _]) (x_asgF (v_call (v_cons (v_var rfl) v_nil) (e_sure_lens k p q h1)) rfl) (x_cons (e1 := [_, _]) (x_iteF (v_as (v_cmp (v_ixV rfl v_int rfl) v_int (c_eq _ _)) (by walk_at "td dec")) x_nil) (x_cons (e1 := [_, _]) (x_iteF (v_as (v_cmp (v_ixV rfl v_int rfl) (v_glb rfl) (c_gt _ _)) (by walk_at "td dec")) x_nil) (x_consR (x_ret (v_tup (v_cons (v_ixV rfl v_int rfl) (v_cons (v_call (v_cons (v_ixV rfl v_int rfl) (v_cons (v_ixV rfl v_int rfl) v_nil)) (e_least_class (k + 4) q p h2 h3)) v_nil)) (siz (show 2 ≤ 1000 by decide))))))))
/-! ### lenses_with -/
theorem pairsOf_map : ∀ L : List (Int × Int), pairsOf (L.map pdD) = some L
  | [] => rfl
  | (x, y) :: r => by
    show (pairsOf (r.map pdD)).map ((x, y) :: ·) = _
    rw [pairsOf_map r]; rfl
theorem srt_ok {L : List (Int × Int)} (h1 : L.length < 64) (h2 : ∀ p ∈ L, inB p = true) : opSrt (.list (L.map pdD)) = some (.own ((sortP L).map pdD)) := by
  show (match pairsOf (L.map pdD) with
    | some ps => if ps.length < 64 ∧ ps.all inB = true then some (W.own ((sortP ps).map pdD)) else none
    | none => match intsOf (L.map pdD) with
      | some ns => if ns.length ≤ 3000 ∧ (sortS ns).length < 64 then some (.own ((sortS ns).map PyData.int)) else none
      | none => none) = _
  rw [pairsOf_map]
  show (if L.length < 64 ∧ L.all inB = true then some (W.own ((sortP L).map pdD)) else none) = _
  rw [if_pos ⟨h1, List.all_eq_true.mpr h2⟩]
theorem lset_ok {L : List (Int × Int)} (h1 : L.length < 64) (h2 : ∀ p ∈ L, inB p = true) : opLset (.list (L.map pdD)) = some (.v (.int (sortP L).length)) := by
  show (match pairsOf (L.map pdD) with
    | some ps => if ps.length < 64 ∧ ps.all inB = true then some (W.v (.int (sortP ps).length)) else none
    | none => match intsOf (L.map pdD) with
      | some ns => if ns.length ≤ 3000 then some (.v (.int (sortS ns).length)) else none
      | none => none) = _
  rw [pairsOf_map]
  show (if L.length < 64 ∧ L.all inB = true then some (W.v (.int (sortP L).length)) else none) = _
  rw [if_pos ⟨h1, List.all_eq_true.mpr h2⟩]
theorem pairs_no {x : Int} {r : List Int} : pairsOf ((x :: r).map PyData.int) = none := rfl
theorem srtS_ok {L : List Int} (h0 : L ≠ []) (h1 : L.length ≤ 3000) (h2 : (sortS L).length < 64) : opSrt (.list (L.map PyData.int)) = some (.own ((sortS L).map PyData.int)) := by
  cases L with
  | nil => exact absurd rfl h0
  | cons x r =>
    show (match pairsOf ((x :: r).map PyData.int) with
      | some ps => if ps.length < 64 ∧ ps.all inB = true then some (W.own ((sortP ps).map pdD)) else none
      | none => match intsOf ((x :: r).map PyData.int) with
        | some ns => if ns.length ≤ 3000 ∧ (sortS ns).length < 64 then some (.own ((sortS ns).map PyData.int)) else none
        | none => none) = _
    rw [pairs_no, intsOf_map]
    show (if (x :: r).length ≤ 3000 ∧ (sortS (x :: r)).length < 64 then some (W.own ((sortS (x :: r)).map PyData.int)) else none) = _
    rw [if_pos ⟨h1, h2⟩]
theorem v_srt {cs : List PyData} {cf : CF} {e e1 : En} {a : E} {w w2 : W} (h : ev cs cf a e = .ok w e1) (h2 : opSrt w.val = some w2) : ev cs cf (.srt a) e = .ok w2 e1 := by simp only [ev, h, Rs.bind, h2]; rfl
theorem v_lset {cs : List PyData} {cf : CF} {e e1 : En} {a : E} {w w2 : W} (h : ev cs cf a e = .ok w e1) (h2 : opLset w.val = some w2) : ev cs cf (.lset a) e = .ok w2 e1 := by simp only [ev, h, Rs.bind, h2]; rfl
def Lm (n : Int) : List (Int × Int) := (unitsI n).map (fun u => (n, mn u n))
def Ls (n : Int) : List (Int × Int) := sortP (Lm n)
theorem Lm_ok {n : Int} (h1 : 2 ≤ n) (h2 : n ≤ 39) : (Lm n).length < 64 ∧ ∀ p ∈ Lm n, inB p = true := by
  refine ⟨?_, fun p hp => ?_⟩
  · have := units_len (n := n) (by omega)
    unfold Lm
    rw [List.length_map]
    omega
  · unfold Lm at hp
    rw [List.mem_map] at hp
    obtain ⟨u, hu, rfl⟩ := hp
    have m := (mn_un h1 (un_of (by omega) hu)).1
    unfold inB
    have := m.h1
    have := m.h2
    rw [decide_eq_true (show 0 ≤ n by omega), decide_eq_true (show n < 64 by omega), decide_eq_true (show 0 ≤ mn u n by omega), decide_eq_true (show mn u n < 64 by omega)]
    rfl
theorem mem_Ls {n : Int} (h1 : 2 ≤ n) (h2 : n ≤ 39) {p : Int × Int} : p ∈ Ls n ↔ ∃ u, u ∈ unitsI n ∧ p = (n, mn u n) := by
  unfold Ls
  rw [mem_sortP (Lm_ok h1 h2).2]
  unfold Lm
  rw [List.mem_map]
  exact ⟨fun ⟨u, a, b⟩ => ⟨u, a, b.symm⟩, fun ⟨u, a, b⟩ => ⟨u, a, b.symm⟩⟩
theorem e_lenses_with (k : Nat) (n : Int) (h1 : 2 ≤ n) (h2 : n ≤ 39) : evF cs fns (k + 3) 20 [.v (.int n)] = .ok (.own ((Ls n).map pd)) none := by
  refine Eq.trans (evF_at (k := (k + 2)) (F := f20) (B := b20) (bw := false) (e0 := [some (.v (.int n)), none]) rfl rfl (show 1 ≤ 2 by decide) rfl rfl rfl rfl rfl) ?_
  have eu : (rangeI 1 (n - 1).toNat).filter (fun i => decide ((Int.gcd i n : Int) = 1)) = unitsI n := by unfold unitsI; rw [if_pos (by omega)]
  have em : (unitsI n).map (fun i => pd (leastI2 (n, i))) = (Lm n).map pdD := by
    unfold Lm; rw [List.map_map]
    refine List.map_congr_left fun i _ => ?_
    show pd (leastI2 (n, i)) = pdD (n, mn i n)
    unfold leastI2
    rw [if_pos (show 1 < n by omega)]; rfl
  have hc : ev cs (evF cs fns (k + 2)) (.comp [1] (.n 1) (.it .range2 (.cons (.int 1) (.cons (.var 0) .nil))) (.one (.cmp .Eq (.bi .gcd (.cons (.var 1) (.cons (.var 0) .nil))) (.int 1))) (.call 11 (.cons (.tup (.cons (.var 0) (.cons (.var 1) .nil))) .nil))) [vi n, none] = .ok (.own ((Lm n).map pdD)) [vi n, none] := by
    rw [← em, ← eu]
    exact v_compGN (L := rangeI 1 (n - 1).toNat) (f := PyData.int) (p := fun i => decide ((Int.gcd i n : Int) = 1)) (g := fun i => pd (leastI2 (n, i))) (e1 := [vi n, none]) (e4 := [vi n, none]) (e3 := [vi n, none]) (v_it (v_cons v_int (v_cons (v_var rfl) v_nil)) (r2_ok (by decide) (by decide) (by omega) (by omega))) rfl (by rw [rangeI_len]; omega) rfl (fun i hi => fQ_I (e3 := [vi n, vi i]) (e4 := [vi n, vi i]) rfl (v_one (v_cmp (v_bi (v_cons (v_var rfl) (v_cons (v_var rfl) v_nil)) (n_gcd' _ _)) v_int (c_eq _ _))) (fun _ => v_call (v_cons (v_tup (v_cons (v_var rfl) (v_cons (v_var rfl) v_nil)) (siz (show 2 ≤ 1000 by decide))) v_nil) (e_least_lens k n i (by omega))) rfl) rfl
  obtain ⟨k1, k2⟩ := Lm_ok h1 h2
  have t1 := e_is_within k n 0 2000
  rw [decide_eq_true (show 0 ≤ n by omega), decide_eq_true (show n ≤ 2000 by omega)] at t1
  exact fin_ret (x_cons (x_iteF (v_not (p := true) (v_call (v_cons (v_var rfl) (v_cons v_int (v_cons v_int v_nil))) t1)) x_nil) (x_cons (x_iteF (v_as (v_cmp (v_var rfl) v_int (c_lt _ _)) (decide_eq_false (by omega))) x_nil) (x_consR (x_ret (v_srt hc (srt_ok k1 k2))))))
theorem e_sure_few (k : Nat) (m : Int) (h0 : 1 ≤ m) (h1 : m ≤ 5) : evF cs fns (k + 3) 27 [.v (.int m), .v (.int 5)] = .ok (.v (.int (m))) none := by
  refine Eq.trans (evF_at (k := (k + 2)) (F := f27) (B := b27) (bw := false) (e0 := [some (.v (.int m)), some (.v (.int 5))]) rfl rfl (show 2 ≤ 2 by decide) rfl rfl rfl rfl rfl) ?_
  exact fin_ret (x_cons (e1 := [_, _]) (x_iteF (v_as (v_notW (v_call (v_cons (v_var rfl) (v_cons v_int (v_cons (v_var rfl) v_nil))) (e_is_within k _ _ _)) rfl) (by walk_at "td dec")) x_nil) (x_consR (x_ret (v_mv rfl))))
def covD (p : Int) : PyData := .tuple ((rangeI 1 5).map (fun f => PyData.int (if p % f = 0 then 1 else 0)))
theorem e_lens_coverings_few (k : Nat) (p q : Int) (h : lensB p q = true) : evF cs fns (k + 7) 29 [.v (pd (p, q)), .v (.int 5)] = .ok (.v (covD p)) none := by
  refine Eq.trans (evF_at (k := (k + 6)) (F := f29) (B := b29) (bw := false) (e0 := [some (.v (pd (p, q))), some (.v (.int 5)), none, none, none]) rfl rfl (show 2 ≤ 5 by decide) rfl rfl rfl rfl rfl) ?_
  exact fin_ret (x_cons (e1 := [vd (pd (p, q)), vi 5, vd (pd (p, q)), vi 5, none]) (x_tgt (v_tup (v_cons (v_call (v_cons (v_var rfl) v_nil) (e_sure_lens k p q h)) (v_cons (v_call (v_cons (v_var rfl) (v_cons (v_glb rfl) v_nil)) (e_sure_few (k + 3) 5 (by decide) (by decide))) v_nil)) (siz (show 2 ≤ 1000 by decide))) rfl) (x_consR (x_ret (v_bi (v_cons (v_compMN (L := rangeI 1 5) (f := PyData.int) (g := fun f => PyData.int (if p % f = 0 then 1 else 0)) (e1 := [vd (pd (p, q)), vi 5, vd (pd (p, q)), vi 5, none]) (e4 := [vd (pd (p, q)), vi 5, vd (pd (p, q)), vi 5, none]) (e3 := [vd (pd (p, q)), vi 5, vd (pd (p, q)), vi 5, none]) (v_it (v_cons v_int (v_cons (v_bin (v_var rfl) v_int (o_add _ _)) v_nil)) rfl) rfl (by decide) rfl (fun f hf => by
    have hf := (mem_rangeI _ _ _).mp hf
    refine fQ_T (e3 := [vd (pd (p, q)), vi 5, vd (pd (p, q)), vi 5, vi f]) (w := .v (.int (if p % f = 0 then 1 else 0))) (e5 := [vd (pd (p, q)), vi 5, vd (pd (p, q)), vi 5, vi f]) rfl v_bl ?_ rfl
    by_cases c : p % f = 0
    · rw [if_pos c]
      exact v_iteT (v_as (v_cmp (v_bin (v_ixV rfl v_int rfl) (v_var rfl) (o_mod (by omega))) v_int (c_eq _ _)) (decide_eq_true c)) v_int
    · rw [if_neg c]
      exact v_iteF (v_as (v_cmp (v_bin (v_ixV rfl v_int rfl) (v_var rfl) (o_mod (by omega))) v_int (c_eq _ _)) (decide_eq_false c)) v_int) rfl) v_nil) rfl))))
end K56
set_option maxHeartbeats 1000000
namespace K56
open PySem PySem.Spec PyProof.Rows L2 TD
local macro_rules | `(tactic| walk_at "td omega") => `(tactic| first | omega | (simp only [decide_eq_true_eq, decide_eq_false_iff_not, Bool.not_eq_true', Bool.not_eq_false'] at *; omega))
local macro_rules | `(tactic| walk_at "td hyp") => `(tactic| first | with_reducible assumption | with_reducible rfl | omega | assumption | walk_at "td omega")
local macro_rules | `(tactic| walk_at "td dec") => `(tactic| first | with_reducible rfl | with_reducible assumption | (with_reducible refine decide_eq_true ?_; omega) | (with_reducible refine decide_eq_false ?_; omega) | (simp [isNum, isTy, W.val]; done) | (simp [isNum, isTy, W.val]; omega) | (simp [isNum, isTy, W.val, *]; done) | (simp only [Bool.not_eq_true', Bool.not_eq_false', decide_eq_true_eq, decide_eq_false_iff_not, Bool.and_eq_true, Bool.or_eq_true, Bool.and_eq_false_iff, Bool.or_eq_false_iff, Bool.not_true, Bool.not_false, Bool.and_true, Bool.true_and, Bool.or_false, Bool.false_or]; omega) | (simp [*]; done) | simp_all)
local macro_rules | `(tactic| walk_at "td mul") => `(tactic| first | exact mul_ok (.inl (by decide)) | exact mul_ok (.inr (by decide)) | exact mul_ok (.inl (by omega)) | exact mul_ok (.inr (by omega)) | assumption)
local macro_rules | `(tactic| walk_at "td div") => `(tactic| first | assumption | exact divS (by omega) (by omega))
local macro_rules | `(tactic| walk_at "td sz") => `(tactic| first | with_reducible assumption | exact Nat.lt_of_le_of_lt (show _ ≤ 1000 by first | omega | (simp; done) | (simp; omega)) (by decide) | exact siz (by first | omega | (simp; done) | (simp; omega)) | (simp; done) | (simp; omega) | omega)
local macro_rules | `(tactic| walk_at "td len") => `(tactic| first | assumption | omega | (simp; done) | (simp; omega))
local macro_rules | `(tactic| walk_at "td op") => `(tactic| first | with_reducible assumption | exact sq_gr | rfl)
local macro_rules | `(tactic| walk_at "td eq") => `(tactic| first | assumption | rfl)
local macro_rules | `(tactic| walk_at "td in") => `(tactic| first | assumption | rfl)
local macro_rules | `(tactic| walk_at "td le") => `(tactic| (repeat (first | with_reducible exact Le.nil | with_reducible exact Le.refl _ | with_reducible apply Le.skip | apply Le.both)))
/-! equal data, by a test -/
mutual
def eqD : PyData → PyData → Bool
  | .none, .none => true
  | .bool a, .bool b => a == b
  | .int a, .int b => decide (a = b)
  | .str a, .str b => decide (a = b)
  | .list a, .list b => eqDs a b
  | .tuple a, .tuple b => eqDs a b
  | _, _ => false
def eqDs : List PyData → List PyData → Bool
  | [], [] => true
  | a :: r, b :: s => eqD a b && eqDs r s
  | _, _ => false
end
mutual
theorem eqD_eq : ∀ (a b : PyData), eqD a b = true → a = b
  | .none, b, h => by cases b <;> first | rfl | (unfold eqD at h; cases h)
  | .bool x, b, h => by
    cases b <;> first | (unfold eqD at h; cases h; done) | skip
    unfold eqD at h
    rw [beq_iff_eq.mp h]
  | .int x, b, h => by
    cases b <;> first | (unfold eqD at h; cases h; done) | skip
    unfold eqD at h
    rw [of_decide_eq_true h]
  | .str x, b, h => by
    cases b <;> first | (unfold eqD at h; cases h; done) | skip
    unfold eqD at h
    rw [of_decide_eq_true h]
  | .list x, b, h => by
    cases b <;> first | (unfold eqD at h; cases h; done) | skip
    unfold eqD at h
    rw [eqDs_eq _ _ h]
  | .tuple x, b, h => by
    cases b <;> first | (unfold eqD at h; cases h; done) | skip
    unfold eqD at h
    rw [eqDs_eq _ _ h]
  | .dict x, b, h => by cases b <;> (unfold eqD at h; cases h)
theorem eqDs_eq : ∀ (a b : List PyData), eqDs a b = true → a = b
  | [], b, h => by cases b <;> first | rfl | (unfold eqDs at h; cases h)
  | x :: r, b, h => by
    cases b <;> first | (unfold eqDs at h; cases h; done) | skip
    unfold eqDs at h
    rw [Bool.and_eq_true] at h
    rw [eqD_eq _ _ h.1, eqDs_eq _ _ h.2]
end
def isV (d : PyData) : FR → Bool
  | .ok (.v e) none => eqD e d
  | _ => false
theorem of_isV {d : PyData} {r : FR} (h : isV d r = true) : r = .ok (.v d) none := by
  match r, h with
  | .ok (.v e) none, h => rw [eqD_eq e d h]
def isO (ds : List PyData) : FR → Bool
  | .ok (.own es) none => eqDs es ds
  | _ => false
theorem of_isO {ds : List PyData} {r : FR} (h : isO ds r = true) : r = .ok (.own ds) none := by
  match r, h with
  | .ok (.own es) none, h => rw [eqDs_eq es ds h]
abbrev tI (L : List Int) : PyData := .tuple (L.map PyData.int)
def ord1 : List (List Int) := [[0]]
def ord2 : List (List Int) := [[0, 1], [1, 0]]
def ord3 : List (List Int) := [[0, 1, 2], [0, 2, 1], [1, 0, 2], [1, 2, 0], [2, 0, 1], [2, 1, 0]]
def ord4 : List (List Int) := [[0, 1, 2, 3], [0, 1, 3, 2], [0, 2, 1, 3], [0, 2, 3, 1], [0, 3, 1, 2], [0, 3, 2, 1], [1, 0, 2, 3], [1, 0, 3, 2], [1, 2, 0, 3], [1, 2, 3, 0], [1, 3, 0, 2], [1, 3, 2, 0], [2, 0, 1, 3], [2, 0, 3, 1], [2, 1, 0, 3], [2, 1, 3, 0], [2, 3, 0, 1], [2, 3, 1, 0], [3, 0, 1, 2], [3, 0, 2, 1], [3, 1, 0, 2], [3, 1, 2, 0], [3, 2, 0, 1], [3, 2, 1, 0]]
set_option maxHeartbeats 4000000 in
theorem oo1 : isO (ord1.map tI) (evF cs fns 58 23 [.v (.int 1)]) = true := by decide +kernel
theorem oo2 : isO (ord2.map tI) (evF cs fns 58 23 [.v (.int 2)]) = true := by decide +kernel
theorem oo3 : isO (ord3.map tI) (evF cs fns 58 23 [.v (.int 3)]) = true := by decide +kernel
theorem oo4 : isO (ord4.map tI) (evF cs fns 58 23 [.v (.int 4)]) = true := by decide +kernel
/-- what orders are asked -/
def okR (m : Nat) (o : List Int) : Bool := decide (o.length = m) && o.all fun x => decide (0 ≤ x) && decide (x < m)
theorem okR_of {m : Nat} {o : List Int} (h : okR m o = true) : o.length = m ∧ ∀ x ∈ o, 0 ≤ x ∧ x < m := by
  unfold okR at h
  rw [Bool.and_eq_true, decide_eq_true_eq, List.all_eq_true] at h
  refine ⟨h.1, fun x hx => ?_⟩
  have := h.2 x hx
  rw [Bool.and_eq_true, decide_eq_true_eq, decide_eq_true_eq] at this
  exact this
theorem ord_is {m : Int} (h0 : 1 ≤ m) (h1 : m ≤ 4) : ∃ O : List (List Int), evF cs fns 58 23 [.v (.int m)] = .ok (.own (O.map tI)) none ∧ O.length ≤ 24 ∧ ∀ o ∈ O, o.length = m.toNat ∧ ∀ x ∈ o, 0 ≤ x ∧ x < m.toNat := by
  have hm : m = 1 ∨ m = 2 ∨ m = 3 ∨ m = 4 := by omega
  have key : ∀ (n : Nat) (O : List (List Int)), O.all (okR n) = true → ∀ o ∈ O, o.length = n ∧ ∀ x ∈ o, 0 ≤ x ∧ x < n := fun n O h o ho => okR_of (List.all_eq_true.mp h o ho)
  rcases hm with rfl | rfl | rfl | rfl
  · exact ⟨ord1, of_isO oo1, by decide, key 1 ord1 (by decide +kernel)⟩
  · exact ⟨ord2, of_isO oo2, by decide, key 2 ord2 (by decide +kernel)⟩
  · exact ⟨ord3, of_isO oo3, by decide, key 3 ord3 (by decide +kernel)⟩
  · exact ⟨ord4, of_isO oo4, by decide, key 4 ord4 (by decide +kernel)⟩
theorem at_int {o : List Int} {i : Int} (h0 : 0 ≤ i) (h1 : i < o.length) : opIx (tI o) (.int i) = some (.int (o.getD i.toNat 0)) := by
  obtain ⟨n, rfl⟩ : ∃ n : Nat, i = n := ⟨i.toNat, by omega⟩
  have hn : n < o.length := by omega
  have h := atI_nat (ds := o.map PyData.int) (k := n) (by rw [List.length_map]; exact hn)
  have e : (o.map PyData.int)[n]'(by rw [List.length_map]; exact hn) = .int (o.getD n 0) := by
    rw [List.getElem_map]
    congr 1
    rw [List.getD_eq_getElem?_getD, List.getElem?_eq_getElem hn]; rfl
  rw [e] at h
  exact h
def bhI (f o : List Int) : List Int := f.map (fun i => o.getD i.toNat 0)
theorem e_behind (k : Nat) (f o : List Int) (hf : ∀ x ∈ f, 0 ≤ x ∧ x < o.length) (hl : f.length ≤ 100) : evF cs fns (k + 1) 24 [.v (tI f), .v (tI o)] = .ok (.v (tI (bhI f o))) none := by
  refine Eq.trans (evF_at (k := k) (F := f24) (B := b24) (bw := false) (e0 := [some (.v (tI f)), some (.v (tI o)), none]) rfl rfl (show 2 ≤ 3 by decide) rfl rfl rfl rfl rfl) ?_
  have em : (bhI f o).map PyData.int = f.map (fun i => PyData.int (o.getD i.toNat 0)) := by unfold bhI; rw [List.map_map]; rfl
  unfold tI
  rw [em]
  exact fin_ret (x_consR (x_ret (v_bi (v_cons (v_compMN (L := f) (f := PyData.int) (g := fun i => PyData.int (o.getD i.toNat 0)) (e1 := [vd (tI f), vd (tI o), none]) (e4 := [vd (tI f), vd (tI o), none]) (e3 := [vd (tI f), vd (tI o), none]) (v_one (v_var rfl)) rfl (by omega) rfl (fun i hi => fQ_T (e3 := [vd (tI f), vd (tI o), vi i]) (e5 := [vd (tI f), vd (tI o), vi i]) rfl v_bl (v_ixV rfl (v_var rfl) (at_int (hf i hi).1 (hf i hi).2)) rfl) rfl) v_nil) rfl)))
def oftL (o : List Int) : Nat → List Int → List Int
  | 0, f => f
  | n + 1, f => oftL o n (bhI f o)
theorem bh_ok {m : Nat} {f o : List Int} (hf : f.length = m ∧ ∀ x ∈ f, 0 ≤ x ∧ x < m) (ho : o.length = m ∧ ∀ x ∈ o, 0 ≤ x ∧ x < m) : (bhI f o).length = m ∧ ∀ x ∈ bhI f o, 0 ≤ x ∧ x < m := by
  refine ⟨by unfold bhI; rw [List.length_map]; exact hf.1, fun x hx => ?_⟩
  unfold bhI at hx
  rw [List.mem_map] at hx
  obtain ⟨i, hi, rfl⟩ := hx
  have h := hf.2 i hi
  have hn : i.toNat < o.length := by rw [ho.1]; omega
  rw [List.getD_eq_getElem?_getD, List.getElem?_eq_getElem hn]
  exact ho.2 _ (List.getElem_mem hn)
def bodyO : S := (.cons (.asg 2 (.call 24 (.cons (.var 2) (.cons (.var 3) .nil))) true) .nil)
theorem oft_loop (k : Nat) {m : Nat} {o : List Int} (hm : m ≤ 10) (ho : o.length = m ∧ ∀ x ∈ o, 0 ≤ x ∧ x < m) (x0 x1 : Option W) : ∀ (ds : List PyData) (f : List Int) (x4 : Option W), (f.length = m ∧ ∀ x ∈ f, 0 ≤ x ∧ x < m) → ∃ y4,
    forL (fun d e2 => match asT false (.n 4) d e2 with
        | some e3 => ex cs (evF cs fns (k + 1)) false bodyO e3
        | none => .stuck) ds [x0, x1, vd (tI f), vd (tI o), x4] = .nx [x0, x1, vd (tI (oftL o ds.length f)), vd (tI o), y4]
  | [], f, x4, _ => ⟨x4, rfl⟩
  | d :: ds, f, x4, hf => by
    obtain ⟨y4, t⟩ := oft_loop k hm ho x0 x1 ds (bhI f o) (vd d) (bh_ok hf ho)
    refine ⟨y4, ?_⟩
    have s : ex cs (evF cs fns (k + 1)) false bodyO [x0, x1, vd (tI f), vd (tI o), vd d] = .nx [x0, x1, vd (tI (bhI f o)), vd (tI o), vd d] := by
      unfold bodyO
      exact x_cons (x_asgT (v_call (v_cons (v_var rfl) (v_cons (v_var rfl) v_nil)) (e_behind k f o (by rw [ho.1]; exact hf.2) (by omega))) rfl) x_nil
    unfold forL
    show (match ex cs (evF cs fns (k + 1)) false bodyO [x0, x1, vd (tI f), vd (tI o), vd d] with
        | .nx e2 => forL _ _ e2
        | .ct e2 => forL _ _ e2
        | .bk e2 => .nx e2
        | r => r) = _
    rw [s]
    exact t
def still (m : Int) : List Int := rangeI 0 m.toNat
theorem still_ok (m : Int) : (still m).length = m.toNat ∧ ∀ x ∈ still m, 0 ≤ x ∧ x < m.toNat := by
  unfold still
  refine ⟨rangeI_len _ _, fun x hx => ?_⟩
  rw [mem_rangeI] at hx
  omega
theorem lr1_ok {j : Int} (h1 : 0 ≤ j) (h2 : j ≤ 1000) : opLr true [.int j] = some (.v (tI (still j))) := by
  show (if rgB 0 j = true then some (rgW true 0 j) else none) = _
  rw [if_pos]
  · unfold rgW still tI
    rw [if_pos rfl, rangeD_is, Int.sub_zero]
  · unfold rgB inRg
    rw [Bool.and_eq_true, Bool.and_eq_true, Bool.and_eq_true, Bool.and_eq_true]
    simp only [decide_eq_true_eq]
    omega
theorem e_often (k : Nat) {m p : Int} {o : List Int} (hm0 : 0 ≤ m) (hm : m ≤ 10) (ho : o.length = m.toNat ∧ ∀ x ∈ o, 0 ≤ x ∧ x < m.toNat) (h0 : 0 ≤ p) (h1 : p ≤ 1000) : evF cs fns (k + 2) 26 [.v (tI o), .v (.int p)] = .ok (.v (tI (oftL o (p % 60).toNat (still m)))) none := by
  have lo : (o.length : Int) = m := by omega
  obtain ⟨y4, g⟩ := oft_loop k (by omega) ho (vd (tI o)) (vi p) ((rangeI 0 (p % 60).toNat).map PyData.int) (still m) none (still_ok m)
  rw [List.length_map, rangeI_len] at g
  have ab : (if p < 0 then -p else p) = p := if_neg (by omega)
  refine Eq.trans (evF_at (k := (k + 1)) (F := f26) (B := b26) (bw := false) (e0 := [some (.v (tI o)), some (.v (.int p)), none, none, none]) rfl rfl (show 2 ≤ 5 by decide) rfl rfl rfl rfl rfl) (fin_ret (e1 := [vd (tI o), vi p, vd (tI (oftL o (p % 60).toNat (still m))), vd (tI o), y4]) ?_)
  refine x_cons (e1 := [vd (tI o), vi p, vd (tI (still m)), vd (tI o), none]) (x_par2 (v_cons (v_lrg (v_cons (v_asI (v_lenV rfl rfl) (show ((o.map PyData.int).length : Int) = m by rw [List.length_map]; exact lo)) v_nil) (lr1_ok hm0 (by omega))) (v_cons (v_iteT (v_as (v_cmp (v_var rfl) v_int (c_ge _ _)) (decide_eq_true h0)) (v_var rfl)) v_nil)) rfl rfl) ?_
  refine x_cons (e1 := [vd (tI o), vi p, vd (tI (oftL o (p % 60).toNat (still m))), vd (tI o), y4]) (x_for (v_it (v_cons (v_bin (v_asI (v_bi (v_cons (v_var rfl) v_nil) (n_abs _)) ab) v_int (o_mod (by decide))) v_nil) (r1_ok (by omega) (by omega))) rfl g) ?_
  exact x_consR (x_ret (v_mv rfl))
theorem eqv_ints : ∀ a b : List Int, PyData.eqvAll (a.map PyData.int) (b.map PyData.int) = decide (a = b)
  | [], [] => rfl
  | [], _ :: _ => rfl
  | _ :: _, [] => rfl
  | x :: a, y :: b => by
    show (PyData.eqv (.int x) (.int y) && PyData.eqvAll (a.map PyData.int) (b.map PyData.int)) = _
    rw [eqv_ints a b]
    have : PyData.eqv (.int x) (.int y) = (x == y) := by unfold PyData.eqv; rfl
    rw [this, Bool.eq_iff_iff]
    simp
theorem fit_tI {L : List Int} (h : L.length ≤ 1000) : fit 3 (tI L) = true := by
  show (decide ((L.map PyData.int).length ≤ 1000) && (L.map PyData.int).all (fit 2)) = true
  rw [List.length_map, decide_eq_true h, List.all_eq_true.mpr]
  · rfl
  · intro d hd
    rw [List.mem_map] at hd
    obtain ⟨x, _, rfl⟩ := hd
    rfl
theorem eq_tI {a b : List Int} (h : a.length ≤ 1000) (h' : b.length ≤ 1000) : opC .Eq (tI a) (tI b) = some (decide (a = b)) := by
  show (if SeqAt.shaped (tI a) = true ∧ SeqAt.shaped (tI b) = true then some (PyData.eqv (tI a) (tI b)) else none) = _
  rw [if_pos ⟨fit_sh (fit_tI h) (by decide), fit_sh (fit_tI h') (by decide)⟩]
  have : PyData.eqv (tI a) (tI b) = PyData.eqvAll (a.map PyData.int) (b.map PyData.int) := by unfold PyData.eqv; rfl
  rw [this, eqv_ints]
theorem oft_len {m : Nat} {o : List Int} (ho : o.length = m ∧ ∀ x ∈ o, 0 ≤ x ∧ x < m) : ∀ (n : Nat) (f : List Int), (f.length = m ∧ ∀ x ∈ f, 0 ≤ x ∧ x < m) → (oftL o n f).length = m
  | 0, f, h => h.1
  | n + 1, f, h => oft_len ho n (bhI f o) (bh_ok h ho)
/-- the ways hang on the first number alone -/
theorem ways_is {m p : Int} (h0 : 1 ≤ m) (h1 : m ≤ 4) (hp : 0 ≤ p) (hp1 : p ≤ 1000) : ∃ r : Int, ∀ q, lensB p q = true → evF cs fns 59 28 [.v (pd (p, q)), .v (.int m)] = .ok (.v (.int r)) none := by
  obtain ⟨O, g, gl, go⟩ := ord_is h0 h1
  refine ⟨(((O.filter (fun o => decide (oftL o (p % 60).toNat (still m) = still m))).map tI).length : Nat), fun q hq => ?_⟩
  refine Eq.trans (evF_at (k := 58) (F := f28) (B := b28) (bw := false) (e0 := [some (.v (pd (p, q))), some (.v (.int m)), none, none, none, none]) rfl rfl (show 2 ≤ 6 by decide) rfl rfl rfl rfl rfl) ?_
  have hs := (still_ok m).1
  refine fin_ret (e1 := [vd (pd (p, q)), vi m, vd (pd (p, q)), vi m, vd (tI (still m)), none]) (x_cons (e1 := [vd (pd (p, q)), vi m, vd (pd (p, q)), vi m, none, none]) (x_tgt (v_tup (v_cons (v_call (v_cons (v_var rfl) v_nil) (e_sure_lens 52 p q hq)) (v_cons (v_call (v_cons (v_var rfl) (v_cons (v_glb rfl) v_nil)) (e_sure_few 55 m h0 (by omega))) v_nil)) (siz (show 2 ≤ 1000 by decide))) rfl) ?_)
  refine x_cons (e1 := [vd (pd (p, q)), vi m, vd (pd (p, q)), vi m, vd (tI (still m)), none]) (x_asgF (v_lrg (v_cons (v_var rfl) v_nil) (lr1_ok (by omega) (by omega))) rfl) ?_
  exact x_consR (x_ret (v_bi (v_cons (v_compGN (L := O) (f := tI) (p := fun o => decide (oftL o (p % 60).toNat (still m) = still m)) (g := tI) (e1 := [vd (pd (p, q)), vi m, vd (pd (p, q)), vi m, vd (tI (still m)), none]) (e4 := [vd (pd (p, q)), vi m, vd (pd (p, q)), vi m, vd (tI (still m)), none]) (e3 := [vd (pd (p, q)), vi m, vd (pd (p, q)), vi m, vd (tI (still m)), none]) (v_one (v_call (v_cons (v_var rfl) v_nil) g)) rfl (by omega) rfl (fun o ho => fQ_I (e3 := [vd (pd (p, q)), vi m, vd (pd (p, q)), vi m, vd (tI (still m)), vd (tI o)]) (e4 := [vd (pd (p, q)), vi m, vd (pd (p, q)), vi m, vd (tI (still m)), vd (tI o)]) rfl (v_one (v_cmp (v_call (v_cons (v_var rfl) (v_cons (v_ixV rfl v_int rfl) v_nil)) (e_often 56 (by omega) (by omega) (go o ho) hp hp1)) (v_var rfl) (eq_tI (by rw [oft_len (go o ho) _ _ (still_ok m)]; omega) (by omega)))) (fun _ => v_var rfl) rfl) rfl) v_nil) rfl))
end K56
set_option maxHeartbeats 1000000
namespace K56
open PySem PySem.Spec PyProof.Rows L2 TD
local macro_rules | `(tactic| walk_at "td omega") => `(tactic| first | omega | (simp only [decide_eq_true_eq, decide_eq_false_iff_not, Bool.not_eq_true', Bool.not_eq_false'] at *; omega))
local macro_rules | `(tactic| walk_at "td hyp") => `(tactic| first | with_reducible assumption | with_reducible rfl | omega | assumption | walk_at "td omega")
local macro_rules | `(tactic| walk_at "td dec") => `(tactic| first | with_reducible rfl | with_reducible assumption | (with_reducible refine decide_eq_true ?_; omega) | (with_reducible refine decide_eq_false ?_; omega) | (simp [isNum, isTy, W.val]; done) | (simp [isNum, isTy, W.val]; omega) | (simp [isNum, isTy, W.val, *]; done) | (simp only [Bool.not_eq_true', Bool.not_eq_false', decide_eq_true_eq, decide_eq_false_iff_not, Bool.and_eq_true, Bool.or_eq_true, Bool.and_eq_false_iff, Bool.or_eq_false_iff, Bool.not_true, Bool.not_false, Bool.and_true, Bool.true_and, Bool.or_false, Bool.false_or]; omega) | (simp [*]; done) | simp_all)
local macro_rules | `(tactic| walk_at "td mul") => `(tactic| first | exact mul_ok (.inl (by decide)) | exact mul_ok (.inr (by decide)) | exact mul_ok (.inl (by omega)) | exact mul_ok (.inr (by omega)) | assumption)
local macro_rules | `(tactic| walk_at "td div") => `(tactic| first | assumption | exact divS (by omega) (by omega))
local macro_rules | `(tactic| walk_at "td sz") => `(tactic| first | with_reducible assumption | exact Nat.lt_of_le_of_lt (show _ ≤ 1000 by first | omega | (simp; done) | (simp; omega)) (by decide) | exact siz (by first | omega | (simp; done) | (simp; omega)) | (simp; done) | (simp; omega) | omega)
local macro_rules | `(tactic| walk_at "td len") => `(tactic| first | assumption | omega | (simp; done) | (simp; omega))
local macro_rules | `(tactic| walk_at "td op") => `(tactic| first | with_reducible assumption | exact sq_gr | rfl)
local macro_rules | `(tactic| walk_at "td eq") => `(tactic| first | assumption | rfl)
local macro_rules | `(tactic| walk_at "td in") => `(tactic| first | assumption | rfl)
local macro_rules | `(tactic| walk_at "td le") => `(tactic| (repeat (first | with_reducible exact Le.nil | with_reducible exact Le.refl _ | with_reducible apply Le.skip | apply Le.both)))
theorem yes_is {n u v : Int} (h0 : 2 ≤ n) (h1 : n ≤ 240) (hu : Un n u) (hv : Un n v) : yes n u v = true ↔ ∃ a s, (s = 1 ∨ s = -1) ∧ 1 ≤ a ∧ a < n ∧ a * a % n = (s * rat n u v) % n := by
  have hr := rat_un h0 hu hv
  have f1 := empty_is (rat n u v) h0 h1 hr.g
  have f2 := empty_is (-rat n u v) h0 h1 (by rw [Int.neg_gcd]; exact hr.g)
  unfold yes
  rw [Bool.or_eq_true, f1, f2]
  constructor
  · rintro (⟨i, i1, i2, i3⟩ | ⟨i, i1, i2, i3⟩)
    · exact ⟨i, 1, .inl rfl, i1, i2, by rw [Int.one_mul]; exact i3⟩
    · exact ⟨i, -1, .inr rfl, i1, i2, by rw [show (-1 : Int) * rat n u v = -rat n u v by omega]; exact i3⟩
  · rintro ⟨a, s, hs, i1, i2, i3⟩
    rcases hs with rfl | rfl
    · exact .inl ⟨a, i1, i2, by rw [Int.one_mul] at i3; exact i3⟩
    · exact .inr ⟨a, i1, i2, by rw [show (-1 : Int) * rat n u v = -rat n u v by omega] at i3; exact i3⟩
theorem in_ints {L : List Int} (a : Int) (hl : L.length ≤ 1000) : opC .In (.int a) (.list (L.map PyData.int)) = some (decide (a ∈ L)) := by
  show (if SeqAt.shaped (.int a) = true ∧ SeqAt.shaped (.list (L.map PyData.int)) = true then some ((L.map PyData.int).any fun z => PyData.eqv z (.int a)) else none) = _
  rw [if_pos ⟨fit_sh (k := 1) rfl (by decide), fit_sh (k := 4) (fit_ints hl) (by decide)⟩]
  congr 1
  rw [List.any_map]
  induction L with
  | nil => rfl
  | cons b r ih =>
    rw [List.any_cons, ih (by rw [List.length_cons] at hl; omega)]
    have : ((fun z => PyData.eqv z (.int a)) ∘ PyData.int) b = (b == a) := by
      show PyData.eqv (.int b) (.int a) = _
      unfold PyData.eqv
      rfl
    rw [this]
    by_cases h : b = a
    · subst h; simp
    · have h' : a ≠ b := Ne.symm h
      simp [h, h']
theorem cgm {a b n : Int} (c : Int) (h : a % n = b % n) : a * c % n = b * c % n := by rw [Int.mul_emod, h, ← Int.mul_emod]
theorem mem_sqL {a n y : Int} (h : 1 < n) : y ∈ sqL a n ↔ ∃ u, Un n u ∧ a * u * u % n = y := by
  unfold sqL
  rw [List.mem_map]
  constructor
  · rintro ⟨u, hu, e⟩; exact ⟨u, un_of h hu, e⟩
  · rintro ⟨u, hu, e⟩; exact ⟨u, (mem_units h).mpr ⟨hu.h1, hu.h2, hu.g⟩, e⟩
theorem sq_red (a y n : Int) : a * (y % n) * (y % n) % n = a * y * y % n := by
  rw [Int.mul_assoc, Int.mul_assoc, Int.mul_emod a, ← Int.mul_emod y, ← Int.mul_emod]
theorem sq_one {b t n : Int} (h : t % n = 1 % n) : b * t * t % n = b % n := by
  have h2 : t * t % n = 1 % n := by rw [cgm t h, Int.one_mul, h]
  have h3 := cgm b h2
  rw [Int.one_mul, Int.mul_comm (t * t) b, ← Int.mul_assoc] at h3
  exact h3
theorem un_mul {n a b : Int} (h0 : 2 ≤ n) (ha : Un n a) (hb : Un n b) : Un n (a * b % n) := un_mod h0 (cop_mul ha.g hb.g)
theorem sq_sym {a b n : Int} (h : 2 ≤ n) (ha0 : 0 ≤ a) (ha : a < n) (hm : b ∈ sqL a n) : a ∈ sqL b n := by
  obtain ⟨x, hx, e⟩ := (mem_sqL (by omega)).mp hm
  refine (mem_sqL (by omega)).mpr ⟨Bk x n, un_back h hx, ?_⟩
  have e1 : x * Bk x n % n = 1 % n := Bk_inv (by omega) hx.g
  have k1 := sq_one (b := a) e1
  have k2 : b * Bk x n * Bk x n % n = a * (x * Bk x n) * (x * Bk x n) % n := by
    have e' : b % n = a * x * x % n := by rw [← e, Int.emod_emod_of_dvd _ (Int.dvd_refl n)]
    have := cgm (Bk x n * Bk x n) e'
    rw [← Int.mul_assoc] at this
    rw [this]
    congr 1
    grind
  rw [k2, k1]
  exact Int.emod_eq_of_lt ha0 ha
theorem sq_sub {a b n : Int} (h : 2 ≤ n) (hm : b ∈ sqL a n) : ∀ y ∈ sqL b n, y ∈ sqL a n := by
  intro y hy
  obtain ⟨x, hx, e⟩ := (mem_sqL (by omega)).mp hm
  obtain ⟨u, hu, e2⟩ := (mem_sqL (by omega)).mp hy
  refine (mem_sqL (by omega)).mpr ⟨x * u % n, un_mul h hx hu, ?_⟩
  rw [sq_red, ← e2]
  have e' : b % n = a * x * x % n := by rw [← e, Int.emod_emod_of_dvd _ (Int.dvd_refl n)]
  have := cgm (u * u) e'
  rw [← Int.mul_assoc] at this
  rw [this]
  congr 1
  grind
theorem lst0_same {L M : List Int} (hL : L ≠ []) (hM : M ≠ []) (h1 : ∀ y ∈ L, y ∈ M) (h2 : ∀ y ∈ M, y ∈ L) : lst0 L = lst0 M := by
  have a := lst0_spec hL
  have b := lst0_spec hM
  exact Int.le_antisymm (a.2 _ (h2 _ b.1)) (b.2 _ (h1 _ a.1))
/-- one class just if a square lies between -/
theorem CL_iff {a b n : Int} (h : 2 ≤ n) (ha : Un n a) (hb : Un n b) : CL a n = CL b n ↔ b ∈ sqL a n := by
  have na := sqL_ne (a := a) (n := n) (by omega)
  have nb := sqL_ne (a := b) (n := n) (by omega)
  constructor
  · intro e
    have m1 := (lst0_spec na).1
    have m2 := (lst0_spec nb).1
    have e' : lst0 (sqL a n) = lst0 (sqL b n) := e
    rw [e'] at m1
    have s := sq_sym h (by have := hb.h1; omega) hb.h2 m2
    exact sq_sub h m1 b s
  · intro hm
    exact lst0_same na nb (sq_sub h (sq_sym h (by have := ha.h1; omega) ha.h2 hm)) (sq_sub h hm)
theorem neg_un {n v : Int} (h : 2 ≤ n) (hv : Un n v) : Un n (-v % n) := un_mod h (by rw [Int.neg_gcd]; exact hv.g)
theorem un_sq {n a u w : Int} (h : 2 ≤ n) (ha : a * a * u % n = w) (h1 : 1 ≤ a) (h2 : a < n) (hw : Int.gcd w n = 1) : Un n a := by
  refine ⟨h1, h2, ?_⟩
  rw [← ha, cop_mod] at hw
  have d : Int.gcd a n ∣ Int.gcd (a * a * u) n := by
    refine Int.dvd_gcd ?_ ?_
    · rw [Int.mul_assoc]
      exact Int.dvd_trans (Int.gcd_dvd_left ..) (Int.dvd_mul_right _ _)
    · exact Int.gcd_dvd_right ..
  rw [hw] at d
  exact Nat.dvd_one.mp d
/-- twins just if the classes are the same, or the mirror's -/
theorem yes_CL {n u v : Int} (h0 : 2 ≤ n) (h1 : n ≤ 240) (hu : Un n u) (hv : Un n v) : yes n u v = (decide (CL u n = CL v n) || decide (CL u n = CL (-v % n) n)) := by
  have hm := neg_un h0 hv
  rw [Bool.eq_iff_iff, Bool.or_eq_true, decide_eq_true_eq, decide_eq_true_eq, yes_is h0 h1 hu hv, CL_iff h0 hu hv, CL_iff h0 hu hm, mem_sqL (by omega), mem_sqL (by omega)]
  have ev : v % n = v := Int.emod_eq_of_lt (by have := hv.h1; omega) hv.h2
  constructor
  · rintro ⟨a, s, hs, a1, a2, e⟩
    have r := (root_iff h0 hu hs).mpr e
    have q := sub_zero_iff.mp r
    rcases hs with rfl | rfl
    · left
      have q' : a * a * u % n = v := by rw [← ev, ← q]; congr 1; grind
      exact ⟨a, un_sq h0 q' a1 a2 hv.g, by rw [← q']; congr 1; grind⟩
    · right
      have q' : a * a * u % n = -v % n := by
        have := cgm (-1) q
        have e1 : v * -1 = -v := by omega
        rw [e1] at this
        rw [← this]; congr 1; grind
      exact ⟨a, un_sq h0 q' a1 a2 hm.g, by rw [← q']; congr 1; grind⟩
  · rintro (⟨x, hx, e⟩ | ⟨x, hx, e⟩)
    · refine ⟨x, 1, .inl rfl, hx.h1, hx.h2, (root_iff (v := v) h0 hu (.inl rfl)).mp (sub_zero_iff.mpr ?_)⟩
      rw [ev, ← e]; congr 1; grind
    · refine ⟨x, -1, .inr rfl, hx.h1, hx.h2, (root_iff (v := v) h0 hu (.inr rfl)).mp (sub_zero_iff.mpr ?_)⟩
      have e' : u * x * x % n = -v % n := e
      have := cgm (-1) e'
      have e1 : -v * -1 = v := by omega
      rw [e1] at this
      rw [← this]; congr 1; grind
/-- one room: one class -/
theorem same_CL {n u v : Int} (h0 : 2 ≤ n) (hu : Un n u) (hv : Un n v) (h : leastI2 (n, u) = leastI2 (n, v)) : CL u n = CL v n := by
  have e : mn u n = mn v n := by
    unfold leastI2 at h
    rw [if_pos (show 1 < n by omega), if_pos (show 1 < n by omega)] at h
    exact (Prod.mk.inj h).2
  refine (CL_iff h0 hu hv).mpr ((mem_sqL (by omega)).mpr ?_)
  rcases (mn_eq h0 hu hv).mp e with rfl | e
  · refine ⟨1, ⟨by decide, by omega, Int.one_gcd⟩, ?_⟩
    rw [Int.mul_one, Int.mul_one]
    exact Int.emod_eq_of_lt (by have := hu.h1; omega) hu.h2
  · refine ⟨v, hv, ?_⟩
    have e' : u * v % n = 1 % n := by rw [e]; exact (Int.emod_eq_of_lt (by decide) (by omega)).symm
    have := cgm v e'
    rw [Int.one_mul] at this
    rw [this]
    exact Int.emod_eq_of_lt (by have := hv.h1; omega) hv.h2
/-! ### the squares in order -/
theorem len_sub : ∀ {L A : List Int}, L.Pairwise (· < ·) → (∀ x ∈ L, x ∈ A) → L.length ≤ A.length
  | [], _, _, _ => Nat.zero_le _
  | x :: L, A, h, hs => by
    rw [List.pairwise_cons] at h
    have hx := hs x List.mem_cons_self
    have : L.length ≤ (A.erase x).length := len_sub h.2 fun y hy => by
      have := h.1 y hy
      exact (List.mem_erase_of_ne (by omega)).mpr (hs y (List.mem_cons_of_mem _ hy))
    rw [List.length_erase_of_mem hx] at this
    have := List.length_pos_of_mem hx
    rw [List.length_cons]
    omega
theorem sq_few {a n : Int} (h0 : 2 ≤ n) (h1 : n ≤ 120) : (sortS (sqL a n)).length < 64 := by
  have := len_sub (L := sortS (sqL a n)) (A := (rangeI 1 60).map (fun u => a * u * u % n)) (sortS_pw _) fun y hy => by
    rw [mem_sortS] at hy
    obtain ⟨u, hu, e⟩ := (mem_sqL (by omega)).mp hy
    rw [List.mem_map]
    by_cases c : u ≤ 60
    · exact ⟨u, by rw [mem_rangeI]; have := hu.h1; omega, e⟩
    · refine ⟨n - u, by rw [mem_rangeI]; have := hu.h2; omega, ?_⟩
      rw [← e]
      have : a * (n - u) * (n - u) = a * u * u + n * (a * n - 2 * a * u) := by grind
      rw [this, Int.add_mul_emod_self_left]
  rw [List.length_map, rangeI_len] at this
  omega
theorem sq_head {a n : Int} (h0 : 2 ≤ n) : opIx (.list ((sortS (sqL a n)).map PyData.int)) (.int 0) = some (.int (CL a n)) := by
  have hp := sortS_pw (sqL a n)
  have hm : ∀ y, y ∈ sortS (sqL a n) ↔ y ∈ sqL a n := fun y => mem_sortS
  have hs := lst0_spec (sqL_ne (a := a) (n := n) (by omega))
  cases hl : sortS (sqL a n) with
  | nil =>
    have := (hm _).mpr hs.1
    rw [hl] at this
    cases this
  | cons x r =>
    rw [hl] at hp hm
    rw [List.pairwise_cons] at hp
    have e : x = CL a n := by
      refine Int.le_antisymm ?_ (hs.2 x ((hm x).mp List.mem_cons_self))
      have := (hm _).mpr hs.1
      rw [List.mem_cons] at this
      rcases this with this | this
      · show x ≤ lst0 _
        rw [this]; exact Int.le_refl _
      · exact Int.le_of_lt (hp.1 _ this)
    rw [← e]
    exact atI_nat (ds := (x :: r).map PyData.int) (k := 0) (by simp)
theorem sq_in {a n v : Int} (h0 : 2 ≤ n) (h1 : n ≤ 120) : opC .In (.int v) (.list ((sortS (sqL a n)).map PyData.int)) = some (decide (v ∈ sqL a n)) := by
  rw [in_ints v (by have := sq_few (a := a) h0 h1; omega)]
  congr 1
  exact decide_eq_decide.mpr mem_sortS
theorem eqv_pd (x y : Int × Int) : PyData.eqv (pd x) (pd y) = decide (x = y) := by
  obtain ⟨a, b⟩ := x
  obtain ⟨c, d⟩ := y
  unfold pd
  rw [eqv_pair, Bool.eq_iff_iff]
  simp
theorem in_pds (x a b : Int × Int) : opC .In (pd x) (.tuple [pd a, pd b]) = some (decide (a = x) || decide (b = x)) := by
  have s1 : SeqAt.shaped (pd x) = true := fit_sh (k := 3) rfl (by decide)
  have s2 : SeqAt.shaped (.tuple [pd a, pd b]) = true := fit_sh (k := 4) rfl (by decide)
  show (if flatD (pd x) = true ∧ [pd a, pd b].all flatD = true then some ([pd a, pd b].any fun z => PyData.eqv z (pd x)) else if SeqAt.shaped (pd x) = true ∧ SeqAt.shaped (.tuple [pd a, pd b]) = true then some ([pd a, pd b].any fun z => PyData.eqv z (pd x)) else none) = _
  rw [if_neg (fun z => by cases z.1), if_pos ⟨s1, s2⟩, List.any_cons, List.any_cons, List.any_nil, Bool.or_false, eqv_pd, eqv_pd]
theorem in_pdl (x a b : Int × Int) : opC .In (pd x) (.list [pd a, pd b]) = some (decide (a = x) || decide (b = x)) := by
  have s1 : SeqAt.shaped (pd x) = true := fit_sh (k := 3) rfl (by decide)
  have s2 : SeqAt.shaped (.list [pd a, pd b]) = true := fit_sh (k := 4) rfl (by decide)
  show (if SeqAt.shaped (pd x) = true ∧ SeqAt.shaped (.list [pd a, pd b]) = true then some ([pd a, pd b].any fun z => PyData.eqv z (pd x)) else none) = _
  rw [if_pos ⟨s1, s2⟩, List.any_cons, List.any_cons, List.any_nil, Bool.or_false, eqv_pd, eqv_pd]
theorem fit_pds {L : List (Int × Int)} (h : L.length ≤ 1000) : fit 4 (.list (L.map pd)) = true := fl (by rw [List.length_map]; exact decide_eq_true h) (al_map fun _ _ => rfl)
theorem ne_pds {L : List (Int × Int)} (h : L.length ≤ 1000) : opC .NotEq (.list (L.map pd)) (.list (L.map pd)) = some false := by
  have s := fit_sh (fit_pds h) (by decide)
  have e : opC .Eq (.list (L.map pd)) (.list (L.map pd)) = some true := by
    show (if SeqAt.shaped (.list (L.map pd)) = true ∧ SeqAt.shaped (.list (L.map pd)) = true then some (PyData.eqv (.list (L.map pd)) (.list (L.map pd))) else none) = _
    rw [if_pos ⟨s, s⟩, SeqAt.eqv_refl _ (SeqAt.canLay_of_shaped s)]
  show (opC .Eq (.list (L.map pd)) (.list (L.map pd))).map (!·) = _
  rw [e]; rfl
/-! ### how many classes -/
def clsL (n : Int) : List (Int × Int) := (Ls n).map (fun l => (n, CL l.2 n))
def chk (n : Int) : Bool := (unitsI n).all fun q => (sortP (clsL n)).length * (sortS (sqL q n)).length == (unitsI n).length
set_option maxHeartbeats 4000000 in
theorem chk_a : (rangeI 3 17).all chk = true := by decide +kernel
set_option maxHeartbeats 4000000 in
theorem chk_b : (rangeI 20 10).all chk = true := by decide +kernel
set_option maxHeartbeats 4000000 in
theorem chk_c : (rangeI 30 10).all chk = true := by decide +kernel
theorem cls_len {n q : Int} (h0 : 3 ≤ n) (h1 : n ≤ 39) (hq : Un n q) : ((sortP (clsL n)).length : Int) * (sortS (sqL q n)).length = (unitsI n).length := by
  have key : chk n = true := by
    by_cases a : n < 20
    · exact List.all_eq_true.mp chk_a n (by rw [mem_rangeI]; omega)
    · by_cases b : n < 30
      · exact List.all_eq_true.mp chk_b n (by rw [mem_rangeI]; omega)
      · exact List.all_eq_true.mp chk_c n (by rw [mem_rangeI]; omega)
  unfold chk at key
  have := List.all_eq_true.mp key q ((mem_units (by omega)).mpr ⟨hq.h1, hq.h2, hq.g⟩)
  rw [beq_iff_eq] at this
  rw [← this]
  exact (Int.natCast_mul _ _).symm
end K56
set_option maxHeartbeats 1000000
namespace K56
open PySem PySem.Spec PyProof.Rows L2 TD
local macro_rules | `(tactic| walk_at "td omega") => `(tactic| first | omega | (simp only [decide_eq_true_eq, decide_eq_false_iff_not, Bool.not_eq_true', Bool.not_eq_false'] at *; omega))
local macro_rules | `(tactic| walk_at "td hyp") => `(tactic| first | with_reducible assumption | with_reducible rfl | omega | assumption | walk_at "td omega")
local macro_rules | `(tactic| walk_at "td dec") => `(tactic| first | with_reducible rfl | with_reducible assumption | (with_reducible refine decide_eq_true ?_; omega) | (with_reducible refine decide_eq_false ?_; omega) | (simp [isNum, isTy, W.val]; done) | (simp [isNum, isTy, W.val]; omega) | (simp [isNum, isTy, W.val, *]; done) | (simp only [Bool.not_eq_true', Bool.not_eq_false', decide_eq_true_eq, decide_eq_false_iff_not, Bool.and_eq_true, Bool.or_eq_true, Bool.and_eq_false_iff, Bool.or_eq_false_iff, Bool.not_true, Bool.not_false, Bool.and_true, Bool.true_and, Bool.or_false, Bool.false_or]; omega) | (simp [*]; done) | simp_all)
local macro_rules | `(tactic| walk_at "td mul") => `(tactic| first | exact mul_ok (.inl (by decide)) | exact mul_ok (.inr (by decide)) | exact mul_ok (.inl (by omega)) | exact mul_ok (.inr (by omega)) | assumption)
local macro_rules | `(tactic| walk_at "td div") => `(tactic| first | assumption | exact divS (by omega) (by omega))
local macro_rules | `(tactic| walk_at "td sz") => `(tactic| first | with_reducible assumption | exact Nat.lt_of_le_of_lt (show _ ≤ 1000 by first | omega | (simp; done) | (simp; omega)) (by decide) | exact siz (by first | omega | (simp; done) | (simp; omega)) | (simp; done) | (simp; omega) | omega)
local macro_rules | `(tactic| walk_at "td len") => `(tactic| first | assumption | omega | (simp; done) | (simp; omega))
local macro_rules | `(tactic| walk_at "td op") => `(tactic| first | with_reducible assumption | exact sq_gr | rfl)
local macro_rules | `(tactic| walk_at "td eq") => `(tactic| first | assumption | rfl)
local macro_rules | `(tactic| walk_at "td in") => `(tactic| first | assumption | rfl)
local macro_rules | `(tactic| walk_at "td le") => `(tactic| (repeat (first | with_reducible exact Le.nil | with_reducible exact Le.refl _ | with_reducible apply Le.skip | apply Le.both)))
theorem v_popV {cs : List PyData} {cf : CF} {v : Nat} {i : E} {e e1 : En} {ds0 ds : List PyData} {k : Int} (h0 : e[v]? = some (some (.own ds0))) (h : ev cs cf i e = .ok (.v (.int k)) e1) (h1 : e1[v]? = some (some (.own ds))) (hk : 0 ≤ k) (hl : k.toNat < ds.length) (hz : ds.length ≤ 1000000) : ev cs cf (.popV v i) e = .ok (.v ds[k.toNat]) (e1.set v (some (.own (ds.eraseIdx k.toNat)))) := by
  have r : inRg k = true := by
    unfold inRg
    rw [Bool.and_eq_true, decide_eq_true_eq, decide_eq_true_eq]
    omega
  have x : ixN ds.length k = some k.toNat := by
    unfold ixN
    rw [if_pos hk, if_pos (by omega)]
  have g : ds[k.toNat]? = some ds[k.toNat] := List.getElem?_eq_getElem hl
  simp only [ev, h0, h, Rs.bind, h1, W.val, r, if_true, x, g]
theorem map_erase {α β : Type} (f : α → β) : ∀ (L : List α) (j : Nat), (L.eraseIdx j).map f = (L.map f).eraseIdx j
  | [], _ => rfl
  | _ :: _, 0 => rfl
  | x :: L, j + 1 => by
    show f x :: (L.eraseIdx j).map f = f x :: (L.map f).eraseIdx j
    rw [map_erase f L j]
theorem erase_perm {α : Type} : ∀ (L : List α) (j : Nat) (h : j < L.length), (L[j] :: L.eraseIdx j).Perm L
  | _ :: _, 0, _ => List.Perm.refl _
  | x :: L, j + 1, h => ((List.Perm.swap x _ _).trans ((erase_perm L j (by simpa using h)).cons x))
def bPick : S := (.cons (.app 4 (.popV 3 (.callB 31 0 (.cons (.lenV 3) .nil)))) .nil)
theorem pick_turn (k : Nat) {x1 x2 x5 : Option W} {a b c : Int} {α : Type} {f : α → PyData} {L M : List α} (hc : 0 ≤ c) (hc' : c < 1000000) (h0 : 0 < L.length) (h1 : L.length ≤ 1000) (h2 : M.length ≤ 1000) : ∃ (i : α) (j : Nat) (a' c' : Int), i ∈ L ∧ c ≤ c' ∧ c' ≤ c + 1 ∧ (L.eraseIdx j).length + 1 = L.length ∧ (∀ x ∈ L.eraseIdx j, x ∈ L) ∧ (i :: L.eraseIdx j).Perm L ∧
    ex cs (evF cs fns (k + 1)) true bPick [some (.own [.int a, .int b, .int c]), x1, x2, some (.own (L.map f)), some (.own (M.map f)), x5] = .nx [some (.own [.int a', .int b, .int c']), x1, x2, some (.own ((L.eraseIdx j).map f)), some (.own ((M ++ [i]).map f)), x5] := by
  obtain ⟨r, a1, c1, t1, r1, r2, r3, r4⟩ := t_take k a b c L.length hc (by omega) (by omega) (by omega)
  have hj : r.toNat < L.length := by omega
  refine ⟨L[r.toNat], r.toNat, a1, c1, List.getElem_mem hj, r3, r4, ?_, fun x hx => List.mem_of_mem_eraseIdx hx, erase_perm L _ hj, ?_⟩
  · rw [List.length_eraseIdx_of_lt hj]; omega
  · have hp := v_popV (cs := cs) (cf := evF cs fns (k + 1)) (v := 3) (i := .callB 31 0 (.cons (.lenV 3) .nil)) (e := [some (.own [.int a, .int b, .int c]), x1, x2, some (.own (L.map f)), some (.own (M.map f)), x5]) (e1 := [some (.own [.int a1, .int b, .int c1]), x1, x2, some (.own (L.map f)), some (.own (M.map f)), x5]) (ds0 := L.map f) (ds := L.map f) (k := r) rfl (v_callB rfl (v_cons (v_asI (v_lenO rfl) (by rw [List.length_map])) v_nil) t1 rfl) rfl r1 (by rw [List.length_map]; exact hj) (by rw [List.length_map]; omega)
    have e1 : (L.map f)[r.toNat]'(by rw [List.length_map]; exact hj) = f L[r.toNat] := List.getElem_map _
    have e2 : (L.map f).eraseIdx r.toNat = (L.eraseIdx r.toNat).map f := (map_erase _ _ _).symm
    rw [e1, e2] at hp
    unfold bPick
    refine x_cons (x_app (ds := M.map f) rfl hp rfl (by rw [List.length_map]; exact Nat.lt_of_le_of_lt h2 (by decide))) ?_
    rw [List.map_append]
    exact x_nil
theorem pick_loop {α : Type} {f : α → PyData} (k : Nat) {x1 x2 : Option W} {b : Int} : ∀ (N : Nat) (lo : Int) (a c : Int) (L M : List α) (x5 : Option W), 0 ≤ c → c + N < 1000000 → N ≤ L.length → L.length ≤ 1000 → M.length + N ≤ 1000 → ∃ (a' c' : Int) (L' M' : List α) (y5 : Option W), c ≤ c' ∧ c' ≤ c + N ∧ M'.length = M.length + N ∧ (∀ x ∈ M', x ∈ M ∨ x ∈ L) ∧ (M' ++ L').Perm (M ++ L) ∧
    forL (fun d e2 => match asT true (.n 5) d e2 with
        | some e3 => ex cs (evF cs fns (k + 1)) true bPick e3
        | none => .stuck) (rangeD lo N) [some (.own [.int a, .int b, .int c]), x1, x2, some (.own (L.map f)), some (.own (M.map f)), x5] = .nx [some (.own [.int a', .int b, .int c']), x1, x2, some (.own (L'.map f)), some (.own (M'.map f)), y5]
  | 0, lo, a, c, L, M, x5, _, _, _, _, _ => ⟨a, c, L, M, x5, by omega, by omega, rfl, fun x hx => .inl hx, List.Perm.refl _, rfl⟩
  | N + 1, lo, a, c, L, M, x5, h0, h1, h2, h3, h4 => by
    obtain ⟨i, j, a1, c1, hi, k1, k2, k3, k4, kp, s⟩ := pick_turn k (x1 := x1) (x2 := x2) (x5 := vi lo) (a := a) (b := b) (c := c) (L := L) (M := M) h0 (by omega) (by omega) h3 (by omega)
    obtain ⟨a2, c2, L2, M2, y5, m1, m2, m3, m4, mp, t⟩ := pick_loop k (x1 := x1) (x2 := x2) (b := b) N (lo + 1) a1 c1 (L.eraseIdx j) (M ++ [i]) (vi lo) (by omega) (by omega) (by omega) (by omega) (by rw [List.length_append]; show M.length + 1 + N ≤ 1000; omega)
    refine ⟨a2, c2, L2, M2, y5, by omega, by omega, ?_, fun x hx => ?_, mp.trans (by rw [List.append_assoc]; exact kp.append_left M), ?_⟩
    · rw [m3, List.length_append]; show M.length + 1 + N = _; omega
    · rcases m4 x hx with m | m
      · rw [List.mem_append, List.mem_singleton] at m
        rcases m with m | rfl
        · exact .inl m
        · exact .inr hi
      · exact .inr (k4 x m)
    · show forL _ (.int lo :: rangeD (lo + 1) N) _ = _
      unfold forL
      show (match ex cs (evF cs fns (k + 1)) true bPick [some (.own [.int a, .int b, .int c]), x1, x2, some (.own (L.map f)), some (.own (M.map f)), vi lo] with
        | .nx e2 => forL _ _ e2
        | .ct e2 => forL _ _ e2
        | .bk e2 => .nx e2
        | r => r) = _
      rw [s]
      exact t
theorem x_pk2 {cs : List PyData} {cf : CF} {bw : Bool} {i j : Nat} {ka kb : Bool} {a b : E} {e e1 e2 e3 e4 : En} {w1 w2 : W} (h1 : ev cs cf a e = .ok w1 e1) (h2 : ev cs cf b e1 = .ok w2 e2) (h3 : stI bw i (w1.keep ka) e2 = some e3) (h4 : stI bw j (w2.keep kb) e3 = some e4) : ex cs cf bw (.pk2 i j ka kb a b) e = .nx e4 := by
  simp only [ex, h1, h2, Rs.fl, h3, Option.bind, h4]; rfl
theorem e__law_pick (k : Nat) {a b c : Int} {α : Type} {f : α → PyData} {L : List α} {m : Int} (hc : 0 ≤ c) (hc' : c < 900000) (hm : 0 ≤ m) (hm' : m ≤ 100) (hl : L.length ≤ 1000) : ∃ (M : List α) (a' c' : Int), (∀ x ∈ M, x ∈ L) ∧ (∃ R, (M ++ R).Perm L ∧ (M.length : Int) = (if (L.length : Int) < m then (L.length : Int) else m)) ∧ M.length ≤ 100 ∧ c ≤ c' ∧ c' ≤ c + m ∧
    evF cs fns (k + 2) 34 [.own [.int a, .int b, .int c], .v (.list (L.map f)), .v (.int m)] = .ok (.own (M.map f)) (some (.own [.int a', .int b, .int c'])) := by
  have hmin : 0 ≤ (if (L.length : Int) < m then (L.length : Int) else m) ∧ (if (L.length : Int) < m then (L.length : Int) else m) ≤ L.length ∧ (if (L.length : Int) < m then (L.length : Int) else m) ≤ m := by split <;> omega
  generalize hn : (if (L.length : Int) < m then (L.length : Int) else m) = n at hmin
  obtain ⟨a1, c1, L', M', y5, m1, m2, m3, m4, mp, t⟩ := pick_loop k (x1 := vd (.list (L.map f))) (x2 := vi m) (b := b) n.toNat 0 a c L [] none hc (by omega) (by omega) hl (by show 0 + n.toNat ≤ 1000; omega)
  have hr : opIt .range1 [.int n] = some (.own (rangeD 0 n.toNat)) := by
    show (if inRg n = true then some (W.own (rangeD 0 n.toNat)) else none) = _
    rw [if_pos]
    unfold inRg
    rw [Bool.and_eq_true, decide_eq_true_eq, decide_eq_true_eq]
    omega
  have m5 : M'.length = 0 + n.toNat := m3
  refine ⟨M', a1, c1, fun x hx => (m4 x hx).resolve_left (List.not_mem_nil), ⟨L', mp, by omega⟩, by omega, m1, by omega, ?_⟩
  show finF true (ex cs (evF cs fns (k + 1)) true b34 [some (.own [.int a, .int b, .int c]), vd (.list (L.map f)), vi m, none, none, none]) = _
  have : ∃ y4, ex cs (evF cs fns (k + 1)) true b34 [some (.own [.int a, .int b, .int c]), vd (.list (L.map f)), vi m, none, none, none] = .ret (.own (M'.map f)) [some (.own [.int a1, .int b, .int c1]), vd (.list (L.map f)), vi m, some (.own (L'.map f)), y4, y5] := by
    refine ⟨none, ?_⟩
    unfold b34
    refine x_cons (e1 := [some (.own [.int a, .int b, .int c]), vd (.list (L.map f)), vi m, some (.own (L.map f)), some (.own []), none]) (x_pk2 (v_bi (v_cons (v_var rfl) v_nil) rfl) (v_lst v_nil (siz (show 0 ≤ 1000 by decide))) rfl rfl) ?_
    refine x_cons (x_for (v_it (v_cons (v_asI (v_bi (v_cons (v_bi (v_cons (v_var rfl) v_nil) rfl) (v_cons (v_asI (v_lenO rfl) (by rw [List.length_map])) v_nil)) (n_min2 _ _)) hn) v_nil) hr) rfl t) ?_
    exact x_consR (x_ret (v_mvO rfl))
  obtain ⟨y4, h⟩ := this
  rw [h]; rfl

end K56
set_option maxHeartbeats 1000000
namespace K56
open PySem PySem.Spec PyProof.Rows L2 TD
local macro_rules | `(tactic| walk_at "td omega") => `(tactic| first | omega | (simp only [decide_eq_true_eq, decide_eq_false_iff_not, Bool.not_eq_true', Bool.not_eq_false'] at *; omega))
local macro_rules | `(tactic| walk_at "td hyp") => `(tactic| first | with_reducible assumption | with_reducible rfl | omega | assumption | walk_at "td omega")
local macro_rules | `(tactic| walk_at "td dec") => `(tactic| first | with_reducible rfl | with_reducible assumption | (with_reducible refine decide_eq_true ?_; omega) | (with_reducible refine decide_eq_false ?_; omega) | (simp [isNum, isTy, W.val]; done) | (simp [isNum, isTy, W.val]; omega) | (simp [isNum, isTy, W.val, *]; done) | (simp only [Bool.not_eq_true', Bool.not_eq_false', decide_eq_true_eq, decide_eq_false_iff_not, Bool.and_eq_true, Bool.or_eq_true, Bool.and_eq_false_iff, Bool.or_eq_false_iff, Bool.not_true, Bool.not_false, Bool.and_true, Bool.true_and, Bool.or_false, Bool.false_or]; omega) | (simp [*]; done) | simp_all)
local macro_rules | `(tactic| walk_at "td mul") => `(tactic| first | exact mul_ok (.inl (by decide)) | exact mul_ok (.inr (by decide)) | exact mul_ok (.inl (by omega)) | exact mul_ok (.inr (by omega)) | assumption)
local macro_rules | `(tactic| walk_at "td div") => `(tactic| first | assumption | exact divS (by omega) (by omega))
local macro_rules | `(tactic| walk_at "td sz") => `(tactic| first | with_reducible assumption | exact Nat.lt_of_le_of_lt (show _ ≤ 1000 by first | omega | (simp; done) | (simp; omega)) (by decide) | exact siz (by first | omega | (simp; done) | (simp; omega)) | (simp; done) | (simp; omega) | omega)
local macro_rules | `(tactic| walk_at "td len") => `(tactic| first | assumption | omega | (simp; done) | (simp; omega))
local macro_rules | `(tactic| walk_at "td op") => `(tactic| first | with_reducible assumption | exact sq_gr | rfl)
local macro_rules | `(tactic| walk_at "td eq") => `(tactic| first | assumption | rfl)
local macro_rules | `(tactic| walk_at "td in") => `(tactic| first | assumption | rfl)
local macro_rules | `(tactic| walk_at "td le") => `(tactic| (repeat (first | with_reducible exact Le.nil | with_reducible exact Le.refl _ | with_reducible apply Le.skip | apply Le.both)))
def bodyL : S := (.cons (.asg 3 (.bin .Add (.int 3) (.callB 31 1 (.cons (.int 118) .nil))) false) (.cons (.asg 4 (.call 37 (.cons (.var 3) .nil)) false) (.cons (.asgT (.cons (.n 5) (.cons (.n 6) .nil)) (.tup (.cons (.tup (.cons (.var 3) (.cons (.callB 33 1 (.cons (.var 4) .nil)) .nil))) (.cons (.tup (.cons (.var 3) (.cons (.callB 33 1 (.cons (.var 4) .nil)) .nil))) .nil)))) (.cons (.par3 7 8 9 (.cons (.call 22 (.cons (.var 5) .nil)) (.cons (.call 22 (.cons (.var 6) .nil)) (.cons (.call 22 (.cons (.call 16 (.cons (.var 6) .nil)) .nil)) .nil)))) (.cons (.ite (.not (.call 35 (.cons (.call 19 (.cons (.var 5) (.cons (.var 6) .nil))) (.cons (.cmp .In (.var 7) (.tup (.cons (.var 8) (.cons (.var 9) .nil)))) .nil)))) (.cons (.ret (.bl false)) .nil) .nil) (.cons (.ite (.and (.call 15 (.cons (.var 5) (.cons (.var 6) .nil))) (.one (.cmp .NotEq (.var 7) (.var 8)))) (.cons (.ret (.bl false)) .nil) .nil) (.cons (.asg 10 (.srt (.comp [11] (.n 11) (.one (.var 4)) (.bl true) (.bin .Mod (.bin .Mult (.bin .Mult (.ixV 5 (.int 1)) (.var 11)) (.var 11)) (.var 3)))) false) (.cons (.ite (.or (.cmp .NotEq (.var 7) (.tup (.cons (.var 3) (.cons (.ixV 10 (.int 0)) .nil)))) (.one (.cmp .NotEq (.cmp .Eq (.var 8) (.var 7)) (.cmp .In (.ixV 6 (.int 1)) (.var 10))))) (.cons (.ret (.bl false)) .nil) .nil) (.cons (.asg 12 (.bin .Add (.int 1) (.callB 31 1 (.cons (.int 4) .nil))) false) (.cons (.ite (.not (.call 35 (.cons (.lst (.cons (.call 28 (.cons (.var 5) (.cons (.var 12) .nil))) (.cons (.call 29 (.cons (.var 5) (.cons (.int 5) .nil))) .nil))) (.cons (.lst (.cons (.call 28 (.cons (.var 6) (.cons (.var 12) .nil))) (.cons (.call 29 (.cons (.var 6) (.cons (.int 5) .nil))) .nil))) .nil)))) (.cons (.ret (.bl false)) .nil) .nil) (.cons (.ite (.cmp .Lt (.var 3) (.int 40)) (.cons (.asg 13 (.call 20 (.cons (.var 3) .nil)) false) (.cons (.asg 14 (.comp [11] (.n 11) (.one (.var 13)) (.bl true) (.call 22 (.cons (.var 11) .nil))) false) (.cons (.ite (.cmp .NotEq (.bin .Mult (.lset (.var 14)) (.lenV 10)) (.lenV 4)) (.cons (.ret (.bl false)) .nil) .nil) (.cons (.for_ (.n 11) (.one (.callB 34 1 (.cons (.var 13) (.cons (.int 3) .nil)))) (.cons (.asg 15 (.comp [16] (.n 16) (.one (.var 13)) (.one (.call 19 (.cons (.var 11) (.cons (.var 16) .nil)))) (.var 16)) false) (.cons (.asg 17 (.lst (.cons (.call 22 (.cons (.var 11) .nil)) (.cons (.call 22 (.cons (.call 16 (.cons (.var 11) .nil)) .nil)) .nil))) false) (.cons (.ite (.cmp .NotEq (.var 15) (.comp [16, 18] (.t (.cons (.n 16) (.cons (.n 18) .nil))) (.it .zip (.cons (.var 13) (.cons (.var 14) .nil))) (.one (.cmp .In (.var 18) (.var 17))) (.var 16))) (.cons (.ret (.bl false)) .nil) .nil) .nil)))) .nil)))) .nil) .nil)))))))))))
def bodyP : S := (.cons (.asg 15 (.comp [16] (.n 16) (.one (.var 13)) (.one (.call 19 (.cons (.var 11) (.cons (.var 16) .nil)))) (.var 16)) false) (.cons (.asg 17 (.lst (.cons (.call 22 (.cons (.var 11) .nil)) (.cons (.call 22 (.cons (.call 16 (.cons (.var 11) .nil)) .nil)) .nil))) false) (.cons (.ite (.cmp .NotEq (.var 15) (.comp [16, 18] (.t (.cons (.n 16) (.cons (.n 18) .nil))) (.it .zip (.cons (.var 13) (.cons (.var 14) .nil))) (.one (.cmp .In (.var 18) (.var 17))) (.var 16))) (.cons (.ret (.bl false)) .nil) .nil) .nil)))
theorem CL_neg1 {n u v : Int} (h : 2 ≤ n) (hu : Un n u) (hv : Un n v) (e : CL u n = CL (-v % n) n) : CL v n = CL (-u % n) n := by
  obtain ⟨x, hx, e1⟩ := (mem_sqL (by omega)).mp ((CL_iff h hu (neg_un h hv)).mp e)
  refine ((CL_iff h (neg_un h hu) hv).mpr ((mem_sqL (by omega)).mpr ⟨x, hx, ?_⟩)).symm
  have e2 : -u % n % n = -u % n := Int.emod_emod_of_dvd _ (Int.dvd_refl n)
  have k1 := cgm (x * x) e2
  rw [← Int.mul_assoc] at k1
  rw [k1]
  have k2 := cgm (-1) e1
  have e3 : -v * -1 = v := by omega
  rw [e3, Int.emod_eq_of_lt (show 0 ≤ v by have := hv.h1; omega) hv.h2] at k2
  rw [← k2]; congr 1; grind
theorem CL_neg {n u v : Int} (h : 2 ≤ n) (hu : Un n u) (hv : Un n v) : CL u n = CL (-v % n) n ↔ CL v n = CL (-u % n) n := ⟨CL_neg1 h hu hv, CL_neg1 h hv hu⟩
theorem insP_le (x : Int × Int) : ∀ L : List (Int × Int), (insP x L).length ≤ L.length + 1
  | [] => Nat.le_refl _
  | y :: r => by
    have := insP_le x r
    unfold insP
    split
    · exact Nat.le_refl _
    · split
      · exact Nat.le_succ _
      · rw [List.length_cons, List.length_cons]; omega
theorem sortP_le : ∀ L : List (Int × Int), (sortP L).length ≤ L.length
  | [] => Nat.le_refl _
  | x :: r => by
    have h1 := sortP_le r
    have h2 := insP_le x (sortP r)
    show (insP x (sortP r)).length ≤ r.length + 1
    omega
theorem Ls_len {n : Int} (h0 : 2 ≤ n) (h1 : n ≤ 39) : (Ls n).length < 64 := Nat.lt_of_le_of_lt (sortP_le _) (Lm_ok h0 h1).1
theorem Ls_un {n : Int} (h0 : 2 ≤ n) (h1 : n ≤ 39) {l : Int × Int} (h : l ∈ Ls n) : l = (n, l.2) ∧ Un n l.2 := by
  obtain ⟨u, hu, e⟩ := (mem_Ls h0 h1).mp h
  rw [e]
  exact ⟨rfl, (mn_un h0 (un_of (by omega) hu)).1⟩
theorem CL_bd {n u : Int} (h0 : 2 ≤ n) : 0 ≤ CL u n ∧ CL u n < n := by
  obtain ⟨x, _, e⟩ := (mem_sqL (by omega)).mp (lst0_spec (sqL_ne (a := u) (n := n) (by omega))).1
  show 0 ≤ lst0 _ ∧ lst0 _ < n
  rw [← e]
  exact ⟨Int.emod_nonneg _ (by omega), Int.emod_lt_of_pos _ (by omega)⟩
theorem cls_ok {n : Int} (h0 : 2 ≤ n) (h1 : n ≤ 39) : (clsL n).length < 64 ∧ ∀ p ∈ clsL n, inB p = true := by
  refine ⟨by unfold clsL; rw [List.length_map]; exact Ls_len h0 h1, fun p hp => ?_⟩
  unfold clsL at hp
  rw [List.mem_map] at hp
  obtain ⟨l, hl, rfl⟩ := hp
  have := CL_bd (u := l.2) h0
  unfold inB
  rw [decide_eq_true (show 0 ≤ n by omega), decide_eq_true (show n < 64 by omega), decide_eq_true (show 0 ≤ CL l.2 n by omega), decide_eq_true (show CL l.2 n < 64 by omega)]
  rfl
theorem zip_map {α : Type} (f g : α → PyData) : ∀ L : List α, zipD (L.map f) (L.map g) = L.map (fun l => .tuple [f l, g l])
  | [] => rfl
  | x :: L => by
    show PyData.tuple [f x, g x] :: zipD (L.map f) (L.map g) = _
    rw [zip_map f g L]; rfl
theorem dec_pair {n a b : Int} : decide ((n, a) = (n, b)) = decide (a = b) := by
  rw [Bool.eq_iff_iff]
  simp
/-- the class of a lens, at the law's own depth -/
theorem p_class {n u : Int} (h0 : 2 ≤ n) (h1 : n ≤ 120) (hu : Un n u) : evF cs fns 59 22 [.v (pd (n, u))] = .ok (.v (pd (n, CL u n))) none := e_lens_class 52 n u (un_lens h0 (by omega) hu) (by omega) (by omega)
theorem p_mirror {n u : Int} (h0 : 2 ≤ n) (h1 : n ≤ 120) (hu : Un n u) : evF cs fns 59 16 [.v (pd (n, u))] = .ok (.v (pd (n, -u % n))) none := by
  rw [← mir_eq u (show 0 < n by omega)]
  exact e_lens_mirrored 52 n u (un_lens h0 (by omega) hu)
theorem p_twins {n u v : Int} (h0 : 2 ≤ n) (h1 : n ≤ 120) (hu : Un n u) (hv : Un n v) : evF cs fns 59 19 [.v (pd (n, u)), .v (pd (n, v))] = .ok (.v (.bool (yes n u v))) none := e_are_twins 50 n u v (pos_at h0 (by omega)) (un_lens h0 (by omega) hu) (un_lens h0 (by omega) hv)
theorem turns {n : Int} (h0 : 2 ≤ n) (h1 : n ≤ 39) (s0 T1 x2 x3 x4 x5 x6 x7 x8 x9 x10 x12 : Option W) : ∀ M : List (Int × Int), (∀ x ∈ M, x ∈ Ls n) → MoF (.nx [s0, T1, x2, x3, x4, x5, x6, x7, x8, x9, x10, none, x12, vd (.list ((Ls n).map pd)), vd (.list ((clsL n).map pd)), none, none, none, none]) (forL (stp cs (evF cs fns 59) true (.n 11) bodyP) (M.map pd) [s0, T1, x2, x3, x4, x5, x6, x7, x8, x9, x10, none, x12, vd (.list ((Ls n).map pd)), vd (.list ((clsL n).map pd)), none, none, none, none])
  | [], _ => g_forN
  | o :: M, h => by
    refine g_forC for_mo ?_ (turns h0 h1 s0 T1 x2 x3 x4 x5 x6 x7 x8 x9 x10 x12 M (fun y hy => h y (List.mem_cons_of_mem _ hy)))
    obtain ⟨eo, uo⟩ := Ls_un h0 h1 (h o List.mem_cons_self)
    generalize o.2 = w at *
    subst eo
    have hl := Ls_len h0 h1
    have hf : (Ls n).filter (fun l => decide (CL w n = CL l.2 n) || decide (CL (-w % n) n = CL l.2 n)) = (Ls n).filter (fun l => yes n w l.2) := by
      refine List.filter_congr fun l hm => ?_
      obtain ⟨_, ul⟩ := Ls_un h0 h1 hm
      rw [yes_CL h0 (by omega) uo ul]
      congr 1
      refine decide_eq_decide.mpr ?_
      rw [CL_neg h0 uo ul]
      exact eq_comm
    have hz : (Ls n).length ≤ 1000 := by omega
    have hfl := List.length_filter_le (fun l => yes n w l.2) (Ls n)
    show MoF _ (stp cs (evF cs fns 59) true (.n 11) bodyP (pd (n, w)) [s0, T1, x2, x3, x4, x5, x6, x7, x8, x9, x10, none, x12, vd (.list ((Ls n).map pd)), vd (.list ((clsL n).map pd)), none, none, none, none])
    refine g_asT (e3 := [s0, T1, x2, x3, x4, x5, x6, x7, x8, x9, x10, vd (pd (n, w)), x12, vd (.list ((Ls n).map pd)), vd (.list ((clsL n).map pd)), none, none, none, none]) rfl ?_
    unfold bodyP
    refine g_consX (m := [s0, T1, x2, x3, x4, x5, x6, x7, x8, x9, x10, vd (pd (n, w)), x12, vd (.list ((Ls n).map pd)), vd (.list ((clsL n).map pd)), vd (.list (((Ls n).filter (fun l => yes n w l.2)).map pd)), none, none, none]) (x_asgF (v_compGN (L := Ls n) (f := pd) (p := fun l => yes n w l.2) (g := pd) (e1 := [s0, T1, x2, x3, x4, x5, x6, x7, x8, x9, x10, vd (pd (n, w)), x12, vd (.list ((Ls n).map pd)), vd (.list ((clsL n).map pd)), none, none, none, none]) (e4 := [s0, T1, x2, x3, x4, x5, x6, x7, x8, x9, x10, vd (pd (n, w)), x12, vd (.list ((Ls n).map pd)), vd (.list ((clsL n).map pd)), none, none, none, none]) (e3 := [s0, T1, x2, x3, x4, x5, x6, x7, x8, x9, x10, vd (pd (n, w)), x12, vd (.list ((Ls n).map pd)), vd (.list ((clsL n).map pd)), none, none, none, none]) (v_one (v_var rfl)) rfl (by omega) rfl (fun l hm => by
      obtain ⟨el, ul⟩ := Ls_un h0 h1 hm
      have tw := p_twins h0 (show n ≤ 120 by omega) uo ul
      rw [← el] at tw
      exact fQ_I (e3 := [s0, T1, x2, x3, x4, x5, x6, x7, x8, x9, x10, vd (pd (n, w)), x12, vd (.list ((Ls n).map pd)), vd (.list ((clsL n).map pd)), none, vd (pd l), none, none]) (e4 := [s0, T1, x2, x3, x4, x5, x6, x7, x8, x9, x10, vd (pd (n, w)), x12, vd (.list ((Ls n).map pd)), vd (.list ((clsL n).map pd)), none, vd (pd l), none, none]) rfl (v_one (v_call (v_cons (v_var rfl) (v_cons (v_var rfl) v_nil)) tw)) (fun _ => v_var rfl) rfl) rfl) rfl) ?_
    refine g_consX (m := [s0, T1, x2, x3, x4, x5, x6, x7, x8, x9, x10, vd (pd (n, w)), x12, vd (.list ((Ls n).map pd)), vd (.list ((clsL n).map pd)), vd (.list (((Ls n).filter (fun l => yes n w l.2)).map pd)), none, vd (.list [pd (n, CL w n), pd (n, CL (-w % n) n)]), none]) (x_asgF (v_lst (v_cons (v_call (v_cons (v_var rfl) v_nil) (p_class h0 (by omega) uo)) (v_cons (v_call (v_cons (v_call (v_cons (v_var rfl) v_nil) (p_mirror h0 (by omega) uo)) v_nil) (p_class h0 (by omega) (neg_un h0 uo))) v_nil)) (siz (show 2 ≤ 1000 by decide))) rfl) ?_
    have hcomp : ev cs (evF cs fns 59) (.comp [16, 18] (.t (.cons (.n 16) (.cons (.n 18) .nil))) (.it .zip (.cons (.var 13) (.cons (.var 14) .nil))) (.one (.cmp .In (.var 18) (.var 17))) (.var 16)) [s0, T1, x2, x3, x4, x5, x6, x7, x8, x9, x10, vd (pd (n, w)), x12, vd (.list ((Ls n).map pd)), vd (.list ((clsL n).map pd)), vd (.list (((Ls n).filter (fun l => yes n w l.2)).map pd)), none, vd (.list [pd (n, CL w n), pd (n, CL (-w % n) n)]), none] = .ok (.own (((Ls n).filter (fun l => yes n w l.2)).map pd)) [s0, T1, x2, x3, x4, x5, x6, x7, x8, x9, x10, vd (pd (n, w)), x12, vd (.list ((Ls n).map pd)), vd (.list ((clsL n).map pd)), vd (.list (((Ls n).filter (fun l => yes n w l.2)).map pd)), none, vd (.list [pd (n, CL w n), pd (n, CL (-w % n) n)]), none] := by
      rw [← hf]
      refine v_compGN (L := Ls n) (f := fun l => .tuple [pd l, pd (n, CL l.2 n)]) (p := fun l => decide (CL w n = CL l.2 n) || decide (CL (-w % n) n = CL l.2 n)) (g := pd) (w := .own (zipD ((Ls n).map pd) ((clsL n).map pd))) (e1 := [s0, T1, x2, x3, x4, x5, x6, x7, x8, x9, x10, vd (pd (n, w)), x12, vd (.list ((Ls n).map pd)), vd (.list ((clsL n).map pd)), vd (.list (((Ls n).filter (fun l => decide (CL w n = CL l.2 n) || decide (CL (-w % n) n = CL l.2 n))).map pd)), none, vd (.list [pd (n, CL w n), pd (n, CL (-w % n) n)]), none]) (e4 := [s0, T1, x2, x3, x4, x5, x6, x7, x8, x9, x10, vd (pd (n, w)), x12, vd (.list ((Ls n).map pd)), vd (.list ((clsL n).map pd)), vd (.list (((Ls n).filter (fun l => decide (CL w n = CL l.2 n) || decide (CL (-w % n) n = CL l.2 n))).map pd)), none, vd (.list [pd (n, CL w n), pd (n, CL (-w % n) n)]), none]) (e3 := [s0, T1, x2, x3, x4, x5, x6, x7, x8, x9, x10, vd (pd (n, w)), x12, vd (.list ((Ls n).map pd)), vd (.list ((clsL n).map pd)), vd (.list (((Ls n).filter (fun l => decide (CL w n = CL l.2 n) || decide (CL (-w % n) n = CL l.2 n))).map pd)), none, vd (.list [pd (n, CL w n), pd (n, CL (-w % n) n)]), none]) (v_it (v_cons (v_var rfl) (v_cons (v_var rfl) v_nil)) rfl) ?_ (by omega) rfl (fun l hm => ?_) rfl
      · show some (zipD ((Ls n).map pd) ((clsL n).map pd)) = _
        have ec : (clsL n).map pd = (Ls n).map (fun l => pd (n, CL l.2 n)) := by unfold clsL; rw [List.map_map]; rfl
        rw [ec, zip_map]
      · have hi := in_pdl (n, CL l.2 n) (n, CL w n) (n, CL (-w % n) n)
        rw [dec_pair, dec_pair] at hi
        exact fQ_I (e3 := [s0, T1, x2, x3, x4, x5, x6, x7, x8, x9, x10, vd (pd (n, w)), x12, vd (.list ((Ls n).map pd)), vd (.list ((clsL n).map pd)), vd (.list (((Ls n).filter (fun l => decide (CL w n = CL l.2 n) || decide (CL (-w % n) n = CL l.2 n))).map pd)), vd (pd l), vd (.list [pd (n, CL w n), pd (n, CL (-w % n) n)]), vd (pd (n, CL l.2 n))]) (e4 := [s0, T1, x2, x3, x4, x5, x6, x7, x8, x9, x10, vd (pd (n, w)), x12, vd (.list ((Ls n).map pd)), vd (.list ((clsL n).map pd)), vd (.list (((Ls n).filter (fun l => decide (CL w n = CL l.2 n) || decide (CL (-w % n) n = CL l.2 n))).map pd)), vd (pd l), vd (.list [pd (n, CL w n), pd (n, CL (-w % n) n)]), vd (pd (n, CL l.2 n))]) rfl (v_one (v_cmp (v_var rfl) (v_var rfl) hi)) (fun _ => v_var rfl) rfl
    refine g_consX (x_iteF (v_cmp (v_var rfl) hcomp (ne_pds (by omega))) x_nil) ?_
    exact g_weak g_nil (by walk_at "td le")
end K56
set_option maxHeartbeats 1000000
namespace K56
open PySem PySem.Spec PyProof.Rows L2 TD
local macro_rules | `(tactic| walk_at "td omega") => `(tactic| first | omega | (simp only [decide_eq_true_eq, decide_eq_false_iff_not, Bool.not_eq_true', Bool.not_eq_false'] at *; omega))
local macro_rules | `(tactic| walk_at "td hyp") => `(tactic| first | with_reducible assumption | with_reducible rfl | omega | assumption | walk_at "td omega")
local macro_rules | `(tactic| walk_at "td dec") => `(tactic| first | with_reducible rfl | with_reducible assumption | (with_reducible refine decide_eq_true ?_; omega) | (with_reducible refine decide_eq_false ?_; omega) | (simp [isNum, isTy, W.val]; done) | (simp [isNum, isTy, W.val]; omega) | (simp [isNum, isTy, W.val, *]; done) | (simp only [Bool.not_eq_true', Bool.not_eq_false', decide_eq_true_eq, decide_eq_false_iff_not, Bool.and_eq_true, Bool.or_eq_true, Bool.and_eq_false_iff, Bool.or_eq_false_iff, Bool.not_true, Bool.not_false, Bool.and_true, Bool.true_and, Bool.or_false, Bool.false_or]; omega) | (simp [*]; done) | simp_all)
local macro_rules | `(tactic| walk_at "td mul") => `(tactic| first | exact mul_ok (.inl (by decide)) | exact mul_ok (.inr (by decide)) | exact mul_ok (.inl (by omega)) | exact mul_ok (.inr (by omega)) | assumption)
local macro_rules | `(tactic| walk_at "td div") => `(tactic| first | assumption | exact divS (by omega) (by omega))
local macro_rules | `(tactic| walk_at "td sz") => `(tactic| first | with_reducible assumption | exact Nat.lt_of_le_of_lt (show _ ≤ 1000 by first | omega | (simp; done) | (simp; omega)) (by decide) | exact siz (by first | omega | (simp; done) | (simp; omega)) | (simp; done) | (simp; omega) | omega)
local macro_rules | `(tactic| walk_at "td len") => `(tactic| first | assumption | omega | (simp; done) | (simp; omega))
local macro_rules | `(tactic| walk_at "td op") => `(tactic| first | with_reducible assumption | exact sq_gr | rfl)
local macro_rules | `(tactic| walk_at "td eq") => `(tactic| first | assumption | rfl)
local macro_rules | `(tactic| walk_at "td in") => `(tactic| first | assumption | rfl)
local macro_rules | `(tactic| walk_at "td le") => `(tactic| (repeat (first | with_reducible exact Le.nil | with_reducible exact Le.refl _ | with_reducible apply Le.skip | apply Le.both)))
theorem lap (s0 : Option W) (i a b c : Int) (h0 : 0 ≤ c) (h1 : c < 800000) : ∃ a' c', MoF (.nx [s0, Tn a' b c', none, none, none, none, none, none, none, none, none, none, none, none, none, none, none, none, none]) (stp cs (evF cs fns 59) true (.n 2) bodyL (.int i) [s0, Tn a b c, none, none, none, none, none, none, none, none, none, none, none, none, none, none, none, none, none]) ∧ c ≤ c' ∧ c' ≤ c + 10 := by
  obtain ⟨r, a1, c1, t1, r0, r9, c01, c02⟩ := t_take 58 a b c 118 h0 (by omega) (by decide) (by decide)
  have hn0 : 3 ≤ 3 + r := by omega
  have hn1 : 3 + r ≤ 120 := by omega
  generalize hne : 3 + r = n at *
  have hu : evF cs fns 59 37 [.v (.int n)] = .ok (.own ((unitsI n).map PyData.int)) none := e__law_units 57 n (by omega) (by omega)
  have hul := units_len (n := n) (by omega)
  have hone := one_unit (n := n) (by omega)
  have hpos := List.length_pos_of_mem hone
  obtain ⟨d1, a2, c2, t2, hd1, c11, c12⟩ := t_of 57 (a := a1) (b := b) (c := c1) (ds := (unitsI n).map PyData.int) (by omega) (by omega) (by rw [List.length_map]; exact hpos) (by rw [List.length_map]; omega)
  rw [List.mem_map] at hd1
  obtain ⟨u, hu1, rfl⟩ := hd1
  obtain ⟨d2, a3, c3, t3, hd2, c21, c22⟩ := t_of 57 (a := a2) (b := b) (c := c2) (ds := (unitsI n).map PyData.int) (by omega) (by omega) (by rw [List.length_map]; exact hpos) (by rw [List.length_map]; omega)
  rw [List.mem_map] at hd2
  obtain ⟨v, hv1, rfl⟩ := hd2
  have uu := un_of (by omega) hu1
  have uv := un_of (by omega) hv1
  have um := neg_un (show 2 ≤ n by omega) uv
  have Bu := un_lens (show 2 ≤ n by omega) (by omega) uu
  have Bv := un_lens (show 2 ≤ n by omega) (by omega) uv
  obtain ⟨r4, a4, c4, t4, r40, r41, c31, c32⟩ := t_take 58 a3 b c3 4 (by omega) (by omega) (by decide) (by decide)
  have hm0 : 1 ≤ 1 + r4 := by omega
  have hm1 : 1 + r4 ≤ 4 := by omega
  generalize hme : 1 + r4 = m at *
  obtain ⟨wy, hw⟩ := ways_is hm0 hm1 (show 0 ≤ n by omega) (show n ≤ 1000 by omega)
  have k1 := p_class (show 2 ≤ n by omega) hn1 uu
  have k2 := p_class (show 2 ≤ n by omega) hn1 uv
  have k3 := p_mirror (show 2 ≤ n by omega) hn1 uv
  have k4 := p_class (show 2 ≤ n by omega) hn1 um
  have k5 := p_twins (show 2 ≤ n by omega) hn1 uu uv
  have k6 : evF cs fns 59 15 [.v (pd (n, u)), .v (pd (n, v))] = .ok (.v (.bool (decide (leastI2 (n, u) = leastI2 (n, v))))) none := e_same_lens 51 n u n v Bu Bv (by omega) (by omega)
  have k7 : evF cs fns 59 29 [.v (pd (n, u)), .v (.int 5)] = .ok (.v (covD n)) none := e_lens_coverings_few 52 n u Bu
  have k8 : evF cs fns 59 29 [.v (pd (n, v)), .v (.int 5)] = .ok (.v (covD n)) none := e_lens_coverings_few 52 n v Bv
  have hin : opC .In (pd (n, CL u n)) (.tuple [pd (n, CL v n), pd (n, CL (-v % n) n)]) = some (yes n u v) := by
    rw [in_pds, dec_pair, dec_pair, yes_CL (by omega) (by omega) uu uv]
    congr 2
    · exact decide_eq_decide.mpr eq_comm
    · exact decide_eq_decide.mpr eq_comm
  have hs1 := same_at (k := 52) (.bool (yes n u v)) rfl
  have hsame : (decide (leastI2 (n, u) = leastI2 (n, v)) && !decide ((n, CL u n) = (n, CL v n))) = false := by
    by_cases c : leastI2 (n, u) = leastI2 (n, v)
    · rw [same_CL (by omega) uu uv c, decide_eq_true (rfl : (n, CL v n) = (n, CL v n))]
      simp
    · rw [decide_eq_false c]; rfl
  have hsl := sq_few (a := u) (show 2 ≤ n by omega) hn1
  have hsq : ev cs (evF cs fns 59) (.comp [11] (.n 11) (.one (.var 4)) (.bl true) (.bin .Mod (.bin .Mult (.bin .Mult (.ixV 5 (.int 1)) (.var 11)) (.var 11)) (.var 3))) [s0, Tn a3 b c3, vi i, vi n, vd (.list ((unitsI n).map PyData.int)), vd (pd (n, u)), vd (pd (n, v)), vd (pd (n, CL u n)), vd (pd (n, CL v n)), vd (pd (n, CL (-v % n) n)), none, none, none, none, none, none, none, none, none] = .ok (.own ((sqL u n).map PyData.int)) [s0, Tn a3 b c3, vi i, vi n, vd (.list ((unitsI n).map PyData.int)), vd (pd (n, u)), vd (pd (n, v)), vd (pd (n, CL u n)), vd (pd (n, CL v n)), vd (pd (n, CL (-v % n) n)), none, none, none, none, none, none, none, none, none] := by
    have em : (sqL u n).map PyData.int = (unitsI n).map (fun x => PyData.int (u * x * x % n)) := by unfold sqL; rw [List.map_map]; rfl
    rw [em]
    exact v_compMN (L := unitsI n) (f := PyData.int) (g := fun x => PyData.int (u * x * x % n)) (e1 := [s0, Tn a3 b c3, vi i, vi n, vd (.list ((unitsI n).map PyData.int)), vd (pd (n, u)), vd (pd (n, v)), vd (pd (n, CL u n)), vd (pd (n, CL v n)), vd (pd (n, CL (-v % n) n)), none, none, none, none, none, none, none, none, none]) (e4 := [s0, Tn a3 b c3, vi i, vi n, vd (.list ((unitsI n).map PyData.int)), vd (pd (n, u)), vd (pd (n, v)), vd (pd (n, CL u n)), vd (pd (n, CL v n)), vd (pd (n, CL (-v % n) n)), none, none, none, none, none, none, none, none, none]) (e3 := [s0, Tn a3 b c3, vi i, vi n, vd (.list ((unitsI n).map PyData.int)), vd (pd (n, u)), vd (pd (n, v)), vd (pd (n, CL u n)), vd (pd (n, CL v n)), vd (pd (n, CL (-v % n) n)), none, none, none, none, none, none, none, none, none]) (v_one (v_var rfl)) rfl (by omega) rfl (fun x hx => by
      have hx := (mem_units (show 1 < n by omega)).mp hx
      exact fQ_T (e3 := [s0, Tn a3 b c3, vi i, vi n, vd (.list ((unitsI n).map PyData.int)), vd (pd (n, u)), vd (pd (n, v)), vd (pd (n, CL u n)), vd (pd (n, CL v n)), vd (pd (n, CL (-v % n) n)), none, vi x, none, none, none, none, none, none, none]) (e5 := [s0, Tn a3 b c3, vi i, vi n, vd (.list ((unitsI n).map PyData.int)), vd (pd (n, u)), vd (pd (n, v)), vd (pd (n, CL u n)), vd (pd (n, CL v n)), vd (pd (n, CL (-v % n) n)), none, vi x, none, none, none, none, none, none, none]) rfl v_bl (v_bin (v_bin (v_bin (v_ixV rfl v_int rfl) (v_var rfl) (o_mulR (by omega))) (v_var rfl) (o_mulR (by omega))) (v_var rfl) (o_mod (by omega))) rfl) rfl
  have hsq2 := srtS_ok (sqL_ne (a := u) (n := n) (by omega)) (show (sqL u n).length ≤ 3000 by unfold sqL; rw [List.length_map]; omega) hsl
  have hh := sq_head (a := u) (show 2 ≤ n by omega)
  have hi := sq_in (a := u) (v := v) (show 2 ≤ n by omega) hn1
  have hci : decide ((n, CL v n) = (n, CL u n)) = decide (v ∈ sqL u n) := by
    rw [dec_pair]
    refine decide_eq_decide.mpr ?_
    rw [← CL_iff (by omega) uu uv]
    exact eq_comm
  have hs2 := same_at (k := 52) (.list [.int wy, covD n]) (by
    unfold covD
    refine fl rfl ?_
    rw [List.all_cons, List.all_cons, ft (k := 5) rfl (al_map fun _ _ => rfl)]; rfl)
  have fin : ∀ cb : Int, ∀ ab : Int, c4 ≤ cb → cb ≤ c4 + 3 → MoF (.nx [s0, Tn ab b cb, none, none, none, none, none, none, none, none, none, none, none, none, none, none, none, none, none]) (ex cs (evF cs fns 59) true (.ite (.cmp .Lt (.var 3) (.int 40)) (.cons (.asg 13 (.call 20 (.cons (.var 3) .nil)) false) (.cons (.asg 14 (.comp [11] (.n 11) (.one (.var 13)) (.bl true) (.call 22 (.cons (.var 11) .nil))) false) (.cons (.ite (.cmp .NotEq (.bin .Mult (.lset (.var 14)) (.lenV 10)) (.lenV 4)) (.cons (.ret (.bl false)) .nil) .nil) (.cons (.for_ (.n 11) (.one (.callB 34 1 (.cons (.var 13) (.cons (.int 3) .nil)))) (.cons (.asg 15 (.comp [16] (.n 16) (.one (.var 13)) (.one (.call 19 (.cons (.var 11) (.cons (.var 16) .nil)))) (.var 16)) false) (.cons (.asg 17 (.lst (.cons (.call 22 (.cons (.var 11) .nil)) (.cons (.call 22 (.cons (.call 16 (.cons (.var 11) .nil)) .nil)) .nil))) false) (.cons (.ite (.cmp .NotEq (.var 15) (.comp [16, 18] (.t (.cons (.n 16) (.cons (.n 18) .nil))) (.it .zip (.cons (.var 13) (.cons (.var 14) .nil))) (.one (.cmp .In (.var 18) (.var 17))) (.var 16))) (.cons (.ret (.bl false)) .nil) .nil) .nil)))) .nil)))) .nil) [s0, Tn a4 b c4, vi i, vi n, vd (.list ((unitsI n).map PyData.int)), vd (pd (n, u)), vd (pd (n, v)), vd (pd (n, CL u n)), vd (pd (n, CL v n)), vd (pd (n, CL (-v % n) n)), vd (.list ((sortS (sqL u n)).map PyData.int)), none, vi m, none, none, none, none, none, none]) → ∃ a' c', MoF (.nx [s0, Tn a' b c', none, none, none, none, none, none, none, none, none, none, none, none, none, none, none, none, none]) (stp cs (evF cs fns 59) true (.n 2) bodyL (.int i) [s0, Tn a b c, none, none, none, none, none, none, none, none, none, none, none, none, none, none, none, none, none]) ∧ c ≤ c' ∧ c' ≤ c + 10 := by
    intro cb ab q1 q2 q3
    refine ⟨ab, cb, ?_, by omega, by omega⟩
    refine g_asT (e3 := [s0, Tn a b c, vi i, none, none, none, none, none, none, none, none, none, none, none, none, none, none, none, none]) rfl ?_
    unfold bodyL
    refine g_consX (m := [s0, Tn a1 b c1, vi i, vi n, none, none, none, none, none, none, none, none, none, none, none, none, none, none, none]) (x_asgF (v_asI (v_bin v_int (v_callB rfl (v_cons v_int v_nil) t1 rfl) (o_add _ _)) hne) rfl) ?_
    refine g_consX (m := [s0, Tn a1 b c1, vi i, vi n, vd (.list ((unitsI n).map PyData.int)), none, none, none, none, none, none, none, none, none, none, none, none, none, none]) (x_asgF (v_call (v_cons (v_var rfl) v_nil) hu) rfl) ?_
    refine g_consX (m := [s0, Tn a3 b c3, vi i, vi n, vd (.list ((unitsI n).map PyData.int)), vd (pd (n, u)), vd (pd (n, v)), none, none, none, none, none, none, none, none, none, none, none, none]) (x_tgt (v_tup (v_cons (v_tup (v_cons (v_var rfl) (v_cons (v_callB rfl (v_cons (v_var rfl) v_nil) t2 rfl) v_nil)) (siz (show 2 ≤ 1000 by decide))) (v_cons (v_tup (v_cons (v_var rfl) (v_cons (v_callB rfl (v_cons (v_var rfl) v_nil) t3 rfl) v_nil)) (siz (show 2 ≤ 1000 by decide))) v_nil)) (siz (show 2 ≤ 1000 by decide))) rfl) ?_
    refine g_consX (m := [s0, Tn a3 b c3, vi i, vi n, vd (.list ((unitsI n).map PyData.int)), vd (pd (n, u)), vd (pd (n, v)), vd (pd (n, CL u n)), vd (pd (n, CL v n)), vd (pd (n, CL (-v % n) n)), none, none, none, none, none, none, none, none, none]) (x_par3 (v_cons (v_call (v_cons (v_var rfl) v_nil) k1) (v_cons (v_call (v_cons (v_var rfl) v_nil) k2) (v_cons (v_call (v_cons (v_call (v_cons (v_var rfl) v_nil) k3) v_nil) k4) v_nil))) rfl rfl rfl) ?_
    refine g_consX (m := [s0, Tn a3 b c3, vi i, vi n, vd (.list ((unitsI n).map PyData.int)), vd (pd (n, u)), vd (pd (n, v)), vd (pd (n, CL u n)), vd (pd (n, CL v n)), vd (pd (n, CL (-v % n) n)), none, none, none, none, none, none, none, none, none]) (x_iteF (v_notW (v_call (v_cons (v_call (v_cons (v_var rfl) (v_cons (v_var rfl) v_nil)) k5) (v_cons (v_cmp (v_var rfl) (v_tup (v_cons (v_var rfl) (v_cons (v_var rfl) v_nil)) (siz (show 2 ≤ 1000 by decide))) hin) v_nil)) hs1) rfl) x_nil) ?_
    refine g_consX (m := [s0, Tn a3 b c3, vi i, vi n, vd (.list ((unitsI n).map PyData.int)), vd (pd (n, u)), vd (pd (n, v)), vd (pd (n, CL u n)), vd (pd (n, CL v n)), vd (pd (n, CL (-v % n) n)), none, none, none, none, none, none, none, none, none]) (x_iteF (v_as (v_andI (v_call (v_cons (v_var rfl) (v_cons (v_var rfl) v_nil)) k6) (fun _ => v_one (v_cmp (v_var rfl) (v_var rfl) (ne_pd _ _)))) hsame) x_nil) ?_
    refine g_consX (m := [s0, Tn a3 b c3, vi i, vi n, vd (.list ((unitsI n).map PyData.int)), vd (pd (n, u)), vd (pd (n, v)), vd (pd (n, CL u n)), vd (pd (n, CL v n)), vd (pd (n, CL (-v % n) n)), vd (.list ((sortS (sqL u n)).map PyData.int)), none, none, none, none, none, none, none, none]) (x_asgF (v_srt hsq hsq2) rfl) ?_
    refine g_consX (m := [s0, Tn a3 b c3, vi i, vi n, vd (.list ((unitsI n).map PyData.int)), vd (pd (n, u)), vd (pd (n, v)), vd (pd (n, CL u n)), vd (pd (n, CL v n)), vd (pd (n, CL (-v % n) n)), vd (.list ((sortS (sqL u n)).map PyData.int)), none, none, none, none, none, none, none, none]) (x_iteF (v_as (v_orI (v_cmp (v_var rfl) (v_tup (v_cons (v_var rfl) (v_cons (v_ixV rfl v_int hh) v_nil)) (siz (show 2 ≤ 1000 by decide))) (ne_pd (n, CL u n) (n, CL u n))) (fun _ => v_one (v_cmp (v_cmp (v_var rfl) (v_var rfl) (eq_pd _ _)) (v_cmp (v_ixV rfl v_int rfl) (v_var rfl) hi) (ne_bools _ _)))) (by rw [hci, decide_eq_true (rfl : (n, CL u n) = (n, CL u n))]; simp)) x_nil) ?_
    refine g_consX (m := [s0, Tn a4 b c4, vi i, vi n, vd (.list ((unitsI n).map PyData.int)), vd (pd (n, u)), vd (pd (n, v)), vd (pd (n, CL u n)), vd (pd (n, CL v n)), vd (pd (n, CL (-v % n) n)), vd (.list ((sortS (sqL u n)).map PyData.int)), none, vi m, none, none, none, none, none, none]) (x_asgF (v_asI (v_bin v_int (v_callB rfl (v_cons v_int v_nil) t4 rfl) (o_add _ _)) hme) rfl) ?_
    refine g_consX (m := [s0, Tn a4 b c4, vi i, vi n, vd (.list ((unitsI n).map PyData.int)), vd (pd (n, u)), vd (pd (n, v)), vd (pd (n, CL u n)), vd (pd (n, CL v n)), vd (pd (n, CL (-v % n) n)), vd (.list ((sortS (sqL u n)).map PyData.int)), none, vi m, none, none, none, none, none, none]) (x_iteF (v_notW (v_call (v_cons (v_lst (v_cons (v_call (v_cons (v_var rfl) (v_cons (v_var rfl) v_nil)) (hw u Bu)) (v_cons (v_call (v_cons (v_var rfl) (v_cons v_int v_nil)) k7) v_nil)) (siz (show 2 ≤ 1000 by decide))) (v_cons (v_lst (v_cons (v_call (v_cons (v_var rfl) (v_cons (v_var rfl) v_nil)) (hw v Bv)) (v_cons (v_call (v_cons (v_var rfl) (v_cons v_int v_nil)) k8) v_nil)) (siz (show 2 ≤ 1000 by decide))) v_nil)) hs2) rfl) x_nil) ?_
    exact g_cons q3 g_nil
  by_cases hlt : n < 40
  · have L1 := Ls_len (n := n) (by omega) (by omega)
    have j1 : evF cs fns 59 20 [.v (.int n)] = .ok (.own ((Ls n).map pd)) none := e_lenses_with 56 n (by omega) (by omega)
    obtain ⟨q1, q2⟩ := cls_ok (n := n) (by omega) (by omega)
    have j2 := lset_ok q1 q2
    have j3 := cls_len hn0 (by omega) uu
    obtain ⟨M, a5, c5, hM, _, _, c41, c42, t5⟩ := e__law_pick 57 (a := a4) (b := b) (c := c4) (f := pd) (L := Ls n) (m := 3) (by omega) (by omega) (by decide) (by decide) (by omega)
    refine fin c5 a5 (by omega) (by omega) ?_
    refine g_iteT (v_as (v_cmp (v_var rfl) v_int (c_lt _ _)) (decide_eq_true hlt)) ?_
    refine g_consX (m := [s0, Tn a4 b c4, vi i, vi n, vd (.list ((unitsI n).map PyData.int)), vd (pd (n, u)), vd (pd (n, v)), vd (pd (n, CL u n)), vd (pd (n, CL v n)), vd (pd (n, CL (-v % n) n)), vd (.list ((sortS (sqL u n)).map PyData.int)), none, vi m, vd (.list ((Ls n).map pd)), none, none, none, none, none]) (x_asgF (v_call (v_cons (v_var rfl) v_nil) j1) rfl) ?_
    refine g_consX (m := [s0, Tn a4 b c4, vi i, vi n, vd (.list ((unitsI n).map PyData.int)), vd (pd (n, u)), vd (pd (n, v)), vd (pd (n, CL u n)), vd (pd (n, CL v n)), vd (pd (n, CL (-v % n) n)), vd (.list ((sortS (sqL u n)).map PyData.int)), none, vi m, vd (.list ((Ls n).map pd)), vd (.list ((clsL n).map pd)), none, none, none, none]) (by
      have ec : (clsL n).map pd = (Ls n).map (fun l => pd (n, CL l.2 n)) := by unfold clsL; rw [List.map_map]; rfl
      rw [ec]
      exact x_asgF (v_compMN (L := Ls n) (f := pd) (g := fun l => pd (n, CL l.2 n)) (e1 := [s0, Tn a4 b c4, vi i, vi n, vd (.list ((unitsI n).map PyData.int)), vd (pd (n, u)), vd (pd (n, v)), vd (pd (n, CL u n)), vd (pd (n, CL v n)), vd (pd (n, CL (-v % n) n)), vd (.list ((sortS (sqL u n)).map PyData.int)), none, vi m, vd (.list ((Ls n).map pd)), none, none, none, none, none]) (e4 := [s0, Tn a4 b c4, vi i, vi n, vd (.list ((unitsI n).map PyData.int)), vd (pd (n, u)), vd (pd (n, v)), vd (pd (n, CL u n)), vd (pd (n, CL v n)), vd (pd (n, CL (-v % n) n)), vd (.list ((sortS (sqL u n)).map PyData.int)), none, vi m, vd (.list ((Ls n).map pd)), none, none, none, none, none]) (e3 := [s0, Tn a4 b c4, vi i, vi n, vd (.list ((unitsI n).map PyData.int)), vd (pd (n, u)), vd (pd (n, v)), vd (pd (n, CL u n)), vd (pd (n, CL v n)), vd (pd (n, CL (-v % n) n)), vd (.list ((sortS (sqL u n)).map PyData.int)), none, vi m, vd (.list ((Ls n).map pd)), none, none, none, none, none]) (v_one (v_var rfl)) rfl (by omega) rfl (fun l hm => by
        obtain ⟨el, ul⟩ := Ls_un (show 2 ≤ n by omega) (by omega) hm
        have kk := p_class (show 2 ≤ n by omega) hn1 ul
        rw [← el] at kk
        exact fQ_T (e3 := [s0, Tn a4 b c4, vi i, vi n, vd (.list ((unitsI n).map PyData.int)), vd (pd (n, u)), vd (pd (n, v)), vd (pd (n, CL u n)), vd (pd (n, CL v n)), vd (pd (n, CL (-v % n) n)), vd (.list ((sortS (sqL u n)).map PyData.int)), vd (pd l), vi m, vd (.list ((Ls n).map pd)), none, none, none, none, none]) (e5 := [s0, Tn a4 b c4, vi i, vi n, vd (.list ((unitsI n).map PyData.int)), vd (pd (n, u)), vd (pd (n, v)), vd (pd (n, CL u n)), vd (pd (n, CL v n)), vd (pd (n, CL (-v % n) n)), vd (.list ((sortS (sqL u n)).map PyData.int)), vd (pd l), vi m, vd (.list ((Ls n).map pd)), none, none, none, none, none]) rfl v_bl (v_call (v_cons (v_var rfl) v_nil) kk) rfl) rfl) rfl) ?_
    refine g_consX (m := [s0, Tn a4 b c4, vi i, vi n, vd (.list ((unitsI n).map PyData.int)), vd (pd (n, u)), vd (pd (n, v)), vd (pd (n, CL u n)), vd (pd (n, CL v n)), vd (pd (n, CL (-v % n) n)), vd (.list ((sortS (sqL u n)).map PyData.int)), none, vi m, vd (.list ((Ls n).map pd)), vd (.list ((clsL n).map pd)), none, none, none, none]) (x_iteF (v_as (v_cmp (v_bin (v_lset (v_var rfl) j2) (v_asI (v_lenV rfl rfl) (by rw [List.length_map])) (o_mulR (by omega))) (v_asI (v_lenV rfl rfl) (by rw [List.length_map])) (c_ne _ _)) (by rw [j3]; simp)) x_nil) ?_
    refine g_cons (m := [s0, Tn a5 b c5, none, none, none, none, none, none, none, none, none, none, none, none, none, none, none, none, none]) (g_x_for (v_one (v_callB rfl (v_cons (v_var rfl) (v_cons v_int v_nil)) t5 rfl)) rfl (g_weak (turns (n := n) (by omega) (by omega) s0 (Tn a5 b c5) (vi i) (vi n) (vd (.list ((unitsI n).map PyData.int))) (vd (pd (n, u))) (vd (pd (n, v))) (vd (pd (n, CL u n))) (vd (pd (n, CL v n))) (vd (pd (n, CL (-v % n) n))) (vd (.list ((sortS (sqL u n)).map PyData.int))) (vi m) M hM) (by walk_at "td le"))) ?_
    exact g_nil
  · refine fin c4 a4 (by omega) (by omega) ?_
    exact g_weak (g_of (x_iteF (v_as (v_cmp (v_var rfl) v_int (c_lt _ _)) (decide_eq_false hlt)) x_nil)) (by walk_at "td le")
def tailL : S := (.cons (.ret (.bl true)) .nil)
set_option maxHeartbeats 4000000 in
theorem tail_ok : retTrue (ex cs (evF cs fns 59) true tailL (List.replicate 19 none)) = true := by decide +kernel
theorem pure : Pure := by
  intro ns hl
  obtain ⟨x, hx⟩ := t_cells 58 hl
  obtain ⟨a, b, hb⟩ := e__law_box 58 x
  have h0 := evF_at (cs := cs) (tab := fns) (k := 59) (f := 38) (ws := [.scr (ns.map PyData.int)]) (F := f38) (B := b38) (bw := true) (e0 := [some (.scr (ns.map PyData.int)), none, none, none, none, none, none, none, none, none, none, none, none, none, none, none, none, none, none]) rfl rfl (show 1 ≤ 19 by decide) rfl rfl rfl rfl rfl
  obtain ⟨z, hz⟩ := law_end (cs := cs) (cf := evF cs fns 59) (B := b38) (e0 := [some (.scr (ns.map PyData.int)), none, none, none, none, none, none, none, none, none, none, none, none, none, none, none, none, none, none]) (n := 19) (tail := tailL) (N := 6) (fun a b c => [some (.scr (ns.map PyData.int)), Tn a b c, none, none, none, none, none, none, none, none, none, none, none, none, none, none, none, none, none]) (body := bodyL) (t := .n 2) (a := a) (b := b) (fun a b c => rfl)
    (fun r h => g_consX (m := [some (.scr (ns.map PyData.int)), Tn a b 0, none, none, none, none, none, none, none, none, none, none, none, none, none, none, none, none, none]) (x_asgT (v_call (v_cons (v_callB rfl (v_cons v_int v_nil) hx rfl) (v_cons v_int v_nil)) hb) rfl) h) 10 (by decide) (by decide) (by decide)
    (fun i a b c h0 h1 => lap _ i a b c h0 h1) tail_ok
  exact ⟨z, h0.trans hz⟩
end K56
open PySem PySem.W PyProof.Rows
set_option maxHeartbeats 0 in
theorem PySem.Challenge.cw_tubedrooms_k56_main_twins_and_classes_of_holds : PySem.Challenge.rw_tubedrooms_k56_main_twins_and_classes_of.Holds := by
  w_on; o_law; k_head; (case hw => w_witness2)
  k_fill
  refine L2.walk_of (l := PySem.Challenge.rw_tubedrooms_k56_main_twins_and_classes_of) (n := 63) (k := 60) (x := "script") (CX := fun w => L2.CX PySem.Challenge.pw_tubedrooms_k56_main_twins_and_classes_of w) (sp := fun w => TD.spT (TD.evF K56.cs K56.fns 60) 38 _) rfl (by decide) rfl ⟨rfl, by decide, by decide⟩ (fun w h Y => PySem.W.kIn_of Y) ?F (fun w H a ns hl o hS => TD.spT_hsp K56.pure H a ns hl o hS) (fun w H s e s1 h => TD.cx_none H s e s1 h)
  case F =>
    intro w mg fa h KX G hmg
    refine' K56.mk KX G hmg ?e0 ?e1 ?e2 ?e3 ?e4 ?e5 ?e6 ?e7 ?e8 ?e9 ?e10 ?e11 ?e12 ?e13 ?e14 ?e15 ?e16 ?e17 ?e18 ?e19 ?e20 ?e21 ?e22 ?e23 ?e24 ?e25 ?e26 ?e27 ?e28 ?e29 ?e30 ?e31 ?e32 ?e33 ?e34 ?e35 ?e36 ?e37 ?e38 ?hb ?hg ?k0 ?k1 ?k2 ?c0 ?c1 ?c2 ?x00 ?x01 ?x02 ?x10 ?x11 ?x12 ?x20 ?x21 ?x22
    (case e0 => (refine' TD.df_mk KX G K56.sc0 K56.ck0 K56.bd0 (TD.kd_no (by decide +kernel)) ?a ?l ?c ?k; (case a => k_is); (case l => k_is); (case c => k_is); (case k => k_is)))
    (case e1 => (refine' TD.df_mk KX G K56.sc1 K56.ck1 K56.bd1 (TD.kd_no (by decide +kernel)) ?a ?l ?c ?k; (case a => k_is); (case l => k_is); (case c => k_is); (case k => k_is)))
    (case e2 => (refine' TD.df_mk KX G K56.sc2 K56.ck2 K56.bd2 (TD.kd_no (by decide +kernel)) ?a ?l ?c ?k; (case a => k_is); (case l => k_is); (case c => k_is); (case k => k_is)))
    (case e3 => (refine' TD.df_mk KX G K56.sc3 K56.ck3 K56.bd3 (TD.kd_no (by decide +kernel)) ?a ?l ?c ?k; (case a => k_is); (case l => k_is); (case c => k_is); (case k => k_is)))
    (case e4 => (refine' TD.df_mk KX G K56.sc4 K56.ck4 K56.bd4 (TD.kd_no (by decide +kernel)) ?a ?l ?c ?k; (case a => k_is); (case l => k_is); (case c => k_is); (case k => k_is)))
    (case e5 => (refine' TD.df_mk KX G K56.sc5 K56.ck5 K56.bd5 (TD.kd_no (by decide +kernel)) ?a ?l ?c ?k; (case a => k_is); (case l => k_is); (case c => k_is); (case k => k_is)))
    (case e6 => (refine' TD.df_mk KX G K56.sc6 K56.ck6 K56.bd6 (TD.kd_no (by decide +kernel)) ?a ?l ?c ?k; (case a => k_is); (case l => k_is); (case c => k_is); (case k => k_is)))
    (case e7 => (refine' TD.df_mk KX G K56.sc7 K56.ck7 K56.bd7 (TD.kd_no (by decide +kernel)) ?a ?l ?c ?k; (case a => k_is); (case l => k_is); (case c => k_is); (case k => k_is)))
    (case e8 => (refine' TD.df_mk KX G K56.sc8 K56.ck8 K56.bd8 (TD.kd_no (by decide +kernel)) ?a ?l ?c ?k; (case a => k_is); (case l => k_is); (case c => k_is); (case k => k_is)))
    (case e9 => (refine' TD.df_mk KX G K56.sc9 K56.ck9 K56.bd9 (TD.kd_no (by decide +kernel)) ?a ?l ?c ?k; (case a => k_is); (case l => k_is); (case c => k_is); (case k => k_is)))
    (case e10 => (refine' TD.df_mk KX G K56.sc10 K56.ck10 K56.bd10 (TD.kd_no (by decide +kernel)) ?a ?l ?c ?k; (case a => k_is); (case l => k_is); (case c => k_is); (case k => k_is)))
    (case e11 => (refine' TD.df_mk KX G K56.sc11 K56.ck11 K56.bd11 (TD.kd_no (by decide +kernel)) ?a ?l ?c ?k; (case a => k_is); (case l => k_is); (case c => k_is); (case k => k_is)))
    (case e12 => (refine' TD.df_mk KX G K56.sc12 K56.ck12 K56.bd12 (TD.kd_no (by decide +kernel)) ?a ?l ?c ?k; (case a => k_is); (case l => k_is); (case c => k_is); (case k => k_is)))
    (case e13 => (refine' TD.df_mk KX G K56.sc13 K56.ck13 K56.bd13 (TD.kd_no (by decide +kernel)) ?a ?l ?c ?k; (case a => k_is); (case l => k_is); (case c => k_is); (case k => k_is)))
    (case e14 => (refine' TD.df_mk KX G K56.sc14 K56.ck14 K56.bd14 (TD.kd_no (by decide +kernel)) ?a ?l ?c ?k; (case a => k_is); (case l => k_is); (case c => k_is); (case k => k_is)))
    (case e15 => (refine' TD.df_mk KX G K56.sc15 K56.ck15 K56.bd15 (TD.kd_no (by decide +kernel)) ?a ?l ?c ?k; (case a => k_is); (case l => k_is); (case c => k_is); (case k => k_is)))
    (case e16 => (refine' TD.df_mk KX G K56.sc16 K56.ck16 K56.bd16 (TD.kd_no (by decide +kernel)) ?a ?l ?c ?k; (case a => k_is); (case l => k_is); (case c => k_is); (case k => k_is)))
    (case e17 => (refine' TD.df_mk KX G K56.sc17 K56.ck17 K56.bd17 (TD.kd_no (by decide +kernel)) ?a ?l ?c ?k; (case a => k_is); (case l => k_is); (case c => k_is); (case k => k_is)))
    (case e18 => (refine' TD.df_mk KX G K56.sc18 K56.ck18 K56.bd18 (TD.kd_no (by decide +kernel)) ?a ?l ?c ?k; (case a => k_is); (case l => k_is); (case c => k_is); (case k => k_is)))
    (case e19 => (refine' TD.df_mk KX G K56.sc19 K56.ck19 K56.bd19 (TD.kd_no (by decide +kernel)) ?a ?l ?c ?k; (case a => k_is); (case l => k_is); (case c => k_is); (case k => k_is)))
    (case e20 => (refine' TD.df_mk KX G K56.sc20 K56.ck20 K56.bd20 (TD.kd_no (by decide +kernel)) ?a ?l ?c ?k; (case a => k_is); (case l => k_is); (case c => k_is); (case k => k_is)))
    (case e21 => (refine' TD.df_mk KX G K56.sc21 K56.ck21 K56.bd21 (TD.kd_no (by decide +kernel)) ?a ?l ?c ?k; (case a => k_is); (case l => k_is); (case c => k_is); (case k => k_is)))
    (case e22 => (refine' TD.df_mk KX G K56.sc22 K56.ck22 K56.bd22 (TD.kd_no (by decide +kernel)) ?a ?l ?c ?k; (case a => k_is); (case l => k_is); (case c => k_is); (case k => k_is)))
    (case e23 => (refine' TD.df_mk KX G K56.sc23 K56.ck23 K56.bd23 (TD.kd_no (by decide +kernel)) ?a ?l ?c ?k; (case a => k_is); (case l => k_is); (case c => k_is); (case k => k_is)))
    (case e24 => (refine' TD.df_mk KX G K56.sc24 K56.ck24 K56.bd24 (TD.kd_no (by decide +kernel)) ?a ?l ?c ?k; (case a => k_is); (case l => k_is); (case c => k_is); (case k => k_is)))
    (case e25 => (refine' TD.df_mk KX G K56.sc25 K56.ck25 K56.bd25 (TD.kd_no (by decide +kernel)) ?a ?l ?c ?k; (case a => k_is); (case l => k_is); (case c => k_is); (case k => k_is)))
    (case e26 => (refine' TD.df_mk KX G K56.sc26 K56.ck26 K56.bd26 (TD.kd_no (by decide +kernel)) ?a ?l ?c ?k; (case a => k_is); (case l => k_is); (case c => k_is); (case k => k_is)))
    (case e27 => (refine' TD.df_mk KX G K56.sc27 K56.ck27 K56.bd27 (TD.kd_no (by decide +kernel)) ?a ?l ?c ?k; (case a => k_is); (case l => k_is); (case c => k_is); (case k => k_is)))
    (case e28 => (refine' TD.df_mk KX G K56.sc28 K56.ck28 K56.bd28 (TD.kd_no (by decide +kernel)) ?a ?l ?c ?k; (case a => k_is); (case l => k_is); (case c => k_is); (case k => k_is)))
    (case e29 => (refine' TD.df_mk KX G K56.sc29 K56.ck29 K56.bd29 (TD.kd_no (by decide +kernel)) ?a ?l ?c ?k; (case a => k_is); (case l => k_is); (case c => k_is); (case k => k_is)))
    (case e30 => (refine' TD.df_mk KX G K56.sc30 K56.ck30 K56.bd30 (TD.kd_no (by decide +kernel)) ?a ?l ?c ?k; (case a => k_is); (case l => k_is); (case c => k_is); (case k => k_is)))
    (case e31 => (refine' TD.df_mk KX G K56.sc31 K56.ck31 K56.bd31 (TD.kd_no (by decide +kernel)) ?a ?l ?c ?k; (case a => k_is); (case l => k_is); (case c => k_is); (case k => k_is)))
    (case e32 => (refine' TD.df_mk KX G K56.sc32 K56.ck32 K56.bd32 (TD.kd_no (by decide +kernel)) ?a ?l ?c ?k; (case a => k_is); (case l => k_is); (case c => k_is); (case k => k_is)))
    (case e33 => (refine' TD.df_mk KX G K56.sc33 K56.ck33 K56.bd33 (TD.kd_no (by decide +kernel)) ?a ?l ?c ?k; (case a => k_is); (case l => k_is); (case c => k_is); (case k => k_is)))
    (case e34 => (refine' TD.df_mk KX G K56.sc34 K56.ck34 K56.bd34 (TD.kd_no (by decide +kernel)) ?a ?l ?c ?k; (case a => k_is); (case l => k_is); (case c => k_is); (case k => k_is)))
    (case e35 => (refine' TD.df_mk KX G K56.sc35 K56.ck35 K56.bd35 (TD.kd_no (by decide +kernel)) ?a ?l ?c ?k; (case a => k_is); (case l => k_is); (case c => k_is); (case k => k_is)))
    (case e36 => (refine' TD.df_mk KX G K56.sc36 K56.ck36 K56.bd36 (TD.kd_no (by decide +kernel)) ?a ?l ?c ?k; (case a => k_is); (case l => k_is); (case c => k_is); (case k => k_is)))
    (case e37 => (refine' TD.df_mk KX G K56.sc37 K56.ck37 K56.bd37 (TD.kd_no (by decide +kernel)) ?a ?l ?c ?k; (case a => k_is); (case l => k_is); (case c => k_is); (case k => k_is)))
    (case e38 => (refine' TD.df_mk KX G K56.sc38 K56.ck38 K56.bd38 (TD.kd_no (by decide +kernel)) ?a ?l ?c ?k; (case a => k_is); (case l => k_is); (case c => k_is); (case k => k_is)))
    (case hb => (refine' TD.blt_mk KX G ?z0 ?z1 ?z2 ?z3 ?z4 ?z5 ?z6 ?z7 ?z8 ?z9 ?z10 ?z11 ?z12 ?z13 ?z14 ?z15 ?z16 ?z17; (case z0 => k_is); (case z1 => k_is); (case z2 => k_is); (case z3 => k_is); (case z4 => k_is); (case z5 => k_is); (case z6 => k_is); (case z7 => k_is); (case z8 => k_is); (case z9 => k_is); (case z10 => k_is); (case z11 => k_is); (case z12 => k_is); (case z13 => k_is); (case z14 => k_is); (case z15 => k_is); (case z16 => k_is); (case z17 => k_is)))
    (case hg => k_is)
    (case k0 => (refine' TD.cst_int KX G ?a; (case a => k_is)))
    (case k1 => (refine' TD.cst_int KX G ?a; (case a => k_is)))
    (case k2 => (refine' TD.cst_int KX G ?a; (case a => k_is)))
    (case c0 => (refine' TD.cls_mk KX G ?ya ?yk ?yq ?ys ?yt ?yi; (case ya => k_is); (case yk => k_is); (case yq => k_exc); (case ys => k_is); (case yt => k_is); (case yi => k_is)))
    (case c1 => (refine' TD.cls_mk KX G ?ya ?yk ?yq ?ys ?yt ?yi; (case ya => k_is); (case yk => k_is); (case yq => k_exc); (case ys => k_is); (case yt => k_is); (case yi => k_is)))
    (case c2 => (refine' TD.cls_mk KX G ?ya ?yk ?yq ?ys ?yt ?yi; (case ya => k_is); (case yk => k_is); (case yq => k_exc); (case ys => k_is); (case yt => k_is); (case yi => k_is)))
    (case x00 => k_is)
    (case x01 => k_is)
    (case x02 => k_is)
    (case x10 => k_is)
    (case x11 => k_is)
    (case x12 => k_is)
    (case x20 => k_is)
    (case x21 => k_is)
    (case x22 => k_is)