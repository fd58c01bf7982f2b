import PyProof.Rows.All
import Wide.All
import OpenK.AllK
import Wide.FinOn
import HandS.ForMost
import HandS.Flow
import HandS.Style
import HandS.Walk
import HandS.IsInst
import HandS.Deep
import HandS.TupAny
import HandS.Conv
import HandS.Rev
import HandS.Zip
import HandS.Strs
import PyProof.NeData
import PyProof.AutoSeq1
import HandS.Defaults
import HandS.Words
import KE.KStateDown
import HandS.Ends
import HandS.More
import HandS.WordsExc
import HandS.Head0
import HandS.Head1
import HandS.Head2
import HandS.HeadEnd
import HandS.HeadHook1
import HandS.HeadHook2
import HandS.HeadHook3
import HandS.HeadHook4
import PySem.Challenge.RW_reasonskept_k29_whole_doings
import Lean
set_option Elab.async false
set_option linter.all false
set_option maxRecDepth 100000
/-! Fw1: data, a small language with slots, its evaluator -/
namespace Rk
open PySem

/-- a value as data: texts by their codes; a dict's entries are pairs -/
inductive D where
  | non | bl (b : Bool) | int (i : Int) | str (s : List Nat)
  | tup (ds : List D) | lst (ds : List D) | set (ds : List D) | dic (ds : List D)
  deriving Inhabited

/-! ### data -/
def b2i (b : Bool) : Int := if b then 1 else 0
mutual
/-- == of data -/
def deq : D → D → Bool
  | .non, .non => true
  | .bl a, .bl b => a == b
  | .bl a, .int j => b2i a == j
  | .int i, .bl b => i == b2i b
  | .int i, .int j => i == j
  | .str x, .str y => x == y
  | .tup xs, .tup ys => deqs xs ys
  | .lst xs, .lst ys => deqs xs ys
  | _, _ => false
def deqs : List D → List D → Bool
  | [], [] => true
  | x :: xs, y :: ys => deq x y && deqs xs ys
  | _, _ => false
end
mutual
/-- how deep; a set or a dict counts as too deep to be compared -/
def D.dep : D → Nat
  | .tup xs => D.deps xs + 1
  | .lst xs => D.deps xs + 1
  | .set _ => 100000
  | .dic _ => 100000
  | _ => 0
def D.deps : List D → Nat
  | [] => 0
  | x :: xs => max x.dep (D.deps xs)
end
def dlim : Nat := 200
mutual
/-- no list, set or dict within -/
def D.flat : D → Bool
  | .tup xs => D.flats xs
  | .lst _ => false
  | .set _ => false
  | .dic _ => false
  | _ => true
def D.flats : List D → Bool
  | [] => true
  | x :: xs => x.flat && D.flats xs
end
def strLt : List Nat → List Nat → Bool
  | [], [] => false
  | [], _ :: _ => true
  | _ :: _, [] => false
  | x :: xs, y :: ys => if x = y then strLt xs ys else decide (x < y)
mutual
/-- < of data, none where it is not told -/
noncomputable def dlt : D → D → Option Bool
  | .int i, .int j => some (@decide (i < j) (Classical.propDecidable _))
  | .str x, .str y => some (strLt x y)
  | .tup xs, .tup ys => dlts xs ys
  | _, _ => none
noncomputable def dlts : List D → List D → Option Bool
  | [], [] => some false
  | [], _ :: _ => some true
  | _ :: _, [] => some false
  | x :: xs, y :: ys => if deq x y then dlts xs ys else dlt x y
end
/-- truth -/
def tru : D → Bool
  | .non => false
  | .bl b => b
  | .int i => i != 0
  | .str s => !s.isEmpty
  | .tup ds => !ds.isEmpty
  | .lst ds => !ds.isEmpty
  | .set ds => !ds.isEmpty
  | .dic ds => !ds.isEmpty

/-! ### operations -/
inductive Bin where
  | add | sub | mul | fdiv | mod | pow | shl | shr | band | bor | bxor
  deriving DecidableEq
inductive Cmp where
  | eq | ne | lt | le | gt | ge | isN | isNotN | isIn | notIn | isB | isNotB
  deriving DecidableEq
inductive Blt where
  | len | int | abs | sum | min | max | all | any | tuple | list | str | sorted | set
  deriving DecidableEq
inductive Ty where
  | int | bool | str | tuple | list
  deriving DecidableEq
/-- iterables that are only walked -/
inductive Itk where
  | rng1 | rng2 | rng3 | enum | zip2 | revd
  deriving DecidableEq
inductive Mth where
  | index | join | get1 | get2
  deriving DecidableEq

def clip (n : Nat) (v : Int) : Nat := if v < 0 then (v + n).toNat else min v.toNat n
def sx (n d : Nat) : Option Int → Nat
  | none => d
  | some v => clip n v
def cut {α : Type} (xs : List α) (lo hi : Option Int) : List α := (xs.drop (sx xs.length 0 lo)).take (sx xs.length xs.length hi - sx xs.length 0 lo)
def atD {α : Type} (xs : List α) (i : Int) : Option α :=
  if 0 ≤ i then xs[i.toNat]? else if -(xs.length : Int) ≤ i then xs[(i + xs.length).toNat]? else none
def ixD (x i : D) : Option D := match x, i with
  | .tup ds, .int i => atD ds i
  | .lst ds, .int i => atD ds i
  | .str s, .int i => (atD s i).map fun c => .str [c]
  | .dic ds, k => if k.dep ≤ dlim then (ds.find? fun e => match e with | .tup [a, _] => deq a k | _ => false).bind fun e => match e with | .tup [_, b] => some b | _ => none else none
  | _, _ => none
def slD (x : D) (lo hi : Option Int) : Option D := match x with
  | .tup ds => some (.tup (cut ds lo hi))
  | .lst ds => some (.lst (cut ds lo hi))
  | .str s => some (.str (cut s lo hi))
  | _ => none
noncomputable def small64 (i : Int) : Bool := @decide (-(2 ^ 64) < i) (Classical.propDecidable _) && @decide (i < 2 ^ 64) (Classical.propDecidable _)
noncomputable def binD : Bin → D → D → Option D
  | .add, .int i, .int j => some (.int (i + j))
  | .add, .str x, .str y => if x.length + y.length ≤ sizeLine then some (.str (x ++ y)) else none
  | .add, .tup x, .tup y => if x.length + y.length ≤ sizeLine then some (.tup (x ++ y)) else none
  | .add, .lst x, .lst y => if x.length + y.length ≤ sizeLine then some (.lst (x ++ y)) else none
  | .sub, .int i, .int j => some (.int (i - j))
  | .mul, .int i, .int j => if small64 i || small64 j then some (.int (i * j)) else none
  | .mul, .lst x, .int j => @ite _ (0 ≤ j ∧ j ≤ 1000 ∧ x.length ≤ 1000) (Classical.propDecidable _) (some (.lst (List.replicate j.toNat x).flatten)) none
  | .fdiv, .int i, .int j => @ite _ (j ≠ 0 ∧ j.natAbs < 1073741824) (Classical.propDecidable _) (some (.int (if 0 < j then i / j else i.fdiv j))) none
  | .mod, .int i, .int j => @ite _ (j ≠ 0) (Classical.propDecidable _) (some (.int (if 0 < j then i % j else i.fmod j))) none
  | .pow, .int i, .int j => @ite _ (0 ≤ j ∧ j ≤ 1000000 ∧ i.natAbs < 2 ^ 64) (Classical.propDecidable _) (some (.int (i ^ j.toNat))) none
  | .shl, .int i, .int j => @ite _ (0 ≤ j ∧ j ≤ 1000000 ∧ i.natAbs < 2 ^ 64) (Classical.propDecidable _) (some (.int (i * 2 ^ j.toNat))) none
  | .shr, .int i, .int j => @ite _ (0 ≤ j) (Classical.propDecidable _) (some (.int (i / 2 ^ j.toNat))) none
  | .band, .int i, .int j => some (.int (Builtin.bitAnd i j))
  | .bor, .int i, .int j => some (.int (Builtin.bitOr i j))
  | .bxor, .int i, .int j => some (.int (Builtin.bitXor i j))
  | _, _, _ => none
/-- is the data x one of ds -/
def memD (x : D) (ds : List D) : Bool := ds.any fun y => deq y x
def eqD (x y : D) : Option Bool := if x.dep ≤ dlim ∧ y.dep ≤ dlim then some (deq x y) else none
def inD (x c : D) : Option Bool := match c with
  | .tup ds => if x.dep ≤ dlim ∧ D.deps ds ≤ dlim then some (memD x ds) else none
  | .lst ds => if x.dep ≤ dlim ∧ D.deps ds ≤ dlim then some (memD x ds) else none
  | .set ds => if x.dep ≤ dlim then some (memD x ds) else none
  | .dic ds => if x.dep ≤ dlim then some (ds.any fun e => match e with | .tup [a, _] => deq a x | _ => false) else none
  | .str s => match x with
    | .str [c] => some (s.any fun d => d == c)
    | _ => none
  | _ => none
noncomputable def intLt : D → D → Option Bool
  | .int i, .int j => some (@decide (i < j) (Classical.propDecidable _))
  | _, _ => none
noncomputable def intLe : D → D → Option Bool
  | .int i, .int j => some (@decide (i ≤ j) (Classical.propDecidable _))
  | _, _ => none
def isNon : D → Bool
  | .non => true
  | _ => false
noncomputable def cmpD : Cmp → D → D → Option Bool
  | .eq, x, y => eqD x y
  | .ne, x, y => (eqD x y).map fun b => !b
  | .lt, x, y => intLt x y
  | .le, x, y => intLe x y
  | .gt, x, y => intLt y x
  | .ge, x, y => intLe y x
  | .isN, x, _ => some (isNon x)
  | .isNotN, x, _ => some (!isNon x)
  | .isIn, x, c => inD x c
  | .notIn, x, c => (inD x c).map fun b => !b
  | .isB, .bl a, .bl b => some (a == b)
  | .isNotB, .bl a, .bl b => some (!(a == b))
  | _, _, _ => none
def isTy : Ty → D → Bool
  | .int, .int _ => true
  | .int, .bl _ => true
  | .bool, .bl _ => true
  | .str, .str _ => true
  | .tuple, .tup _ => true
  | .list, .lst _ => true
  | _, _ => false
def itemsD : D → Option (List D)
  | .tup ds => some ds
  | .lst ds => some ds
  | _ => none
def intsD : List D → Option (List Int)
  | [] => some []
  | .int i :: r => (intsD r).map (i :: ·)
  | _ => none
def blsD : List D → Option (List Bool)
  | [] => some []
  | .bl i :: r => (blsD r).map (i :: ·)
  | _ => none
def maxI : List Int → Option Int
  | [] => none
  | x :: xs => some (xs.foldl max x)
def minI : List Int → Option Int
  | [] => none
  | x :: xs => some (xs.foldl min x)
/-- the data of xs, each once, as it is first met -/
def onceD : List D → List D → List D
  | acc, [] => acc
  | acc, x :: xs => if memD x acc then onceD acc xs else onceD (acc ++ [x]) xs
/-- all compare -/
noncomputable def okLt (xs : List D) : Bool := xs.all fun x => xs.all fun y => (dlt x y).isSome
noncomputable def leB (x y : D) : Bool := !(dlt y x == some true)
noncomputable def sortD (xs : List D) : List D := xs.mergeSort leB
def idxD (x : D) : Nat → List D → Option Nat
  | _, [] => none
  | n, y :: ys => if deq y x then some n else idxD x (n + 1) ys
def strOf (i : Int) : List Nat := (toString i).toList.map Char.toNat
noncomputable def bltD : Blt → List D → Option D
  | .len, [.tup ds] => some (.int ds.length)
  | .len, [.lst ds] => some (.int ds.length)
  | .len, [.str s] => some (.int s.length)
  | .len, [.set ds] => some (.int ds.length)
  | .len, [.dic ds] => some (.int ds.length)
  | .int, [.int i] => some (.int i)
  | .int, [.bl b] => some (.int (b2i b))
  | .abs, [.int i] => some (.int (if i < 0 then -i else i))
  | .sum, [.lst ds] => (intsD ds).map fun ns => .int ns.sum
  | .min, [.int i, .int j] => some (.int (@ite _ (j < i) (Classical.propDecidable _) j i))
  | .max, [.int i, .int j] => some (.int (@ite _ (j > i) (Classical.propDecidable _) j i))
  | .min, [.lst ds] => (intsD ds).bind fun ns => (minI ns).map .int
  | .max, [.lst ds] => (intsD ds).bind fun ns => (maxI ns).map .int
  | .all, [.lst ds] => (blsD ds).map fun bs => .bl (bs.all id)
  | .any, [.lst ds] => (blsD ds).map fun bs => .bl (bs.any id)
  | .tuple, [.tup ds] => some (.tup ds)
  | .tuple, [.lst ds] => some (.tup ds)
  | .list, [.tup ds] => some (.lst ds)
  | .list, [.lst ds] => some (.lst ds)
  | .str, [.int i] => if i.natAbs.log2 < 1920 ∧ (strOf i).length ≤ sizeLine then some (.str (strOf i)) else none
  | .sorted, [.lst ds] => if okLt ds ∧ D.deps ds ≤ dlim then some (.lst (sortD ds)) else none
  | .sorted, [.tup ds] => if okLt ds ∧ D.deps ds ≤ dlim then some (.lst (sortD ds)) else none
  | .sorted, [.set ds] => if okLt ds ∧ D.deps ds ≤ dlim then some (.lst (sortD ds)) else none
  | .set, [.lst ds] => if D.deps ds ≤ dlim then some (.set (onceD [] ds)) else none
  | .set, [.tup ds] => if D.deps ds ≤ dlim then some (.set (onceD [] ds)) else none
  | _, _ => none
noncomputable def rngD (a b c : Int) : Option (List D) :=
  @ite _ (c = 0 ∨ ¬ (-(2 ^ 61) < a ∧ a < 2 ^ 61 ∧ -(2 ^ 61) < b ∧ b < 2 ^ 61 ∧ -(2 ^ 29) < c ∧ c < 2 ^ 29)) (Classical.propDecidable _) none (
    let n := if 0 < c then ((b - a + c - 1) / c).toNat else ((a - b + (-c) - 1) / (-c)).toNat
    @ite _ (n ≤ sizeLine) (Classical.propDecidable _) (some ((List.range n).map fun (i : Nat) => D.int (a + c * i))) none)
/-- range(n), range(a, b): the plain ones -/
noncomputable def upTo (a b : Int) : Option (List D) :=
  @ite _ (-(2 ^ 61) < a ∧ a < 2 ^ 61 ∧ -(2 ^ 61) < b ∧ b < 2 ^ 61 ∧ (b - a).toNat ≤ sizeLine) (Classical.propDecidable _) (some ((List.range (b - a).toNat).map fun (i : Nat) => D.int (a + i))) none
def enumD : Nat → List D → List D
  | _, [] => []
  | n, x :: xs => .tup [.int n, x] :: enumD (n + 1) xs
def zipD : List D → List D → List D
  | x :: xs, y :: ys => .tup [x, y] :: zipD xs ys
  | _, _ => []
noncomputable def itkD : Itk → List D → Option (List D)
  | .rng1, [.int b] => upTo 0 b
  | .rng2, [.int a, .int b] => upTo a b
  | .rng3, [.int a, .int b, .int c] => rngD a b c
  | .enum, [.lst ds] => some (enumD 0 ds)
  | .enum, [.tup ds] => some (enumD 0 ds)
  | .zip2, [x, y] => (itemsD x).bind fun xs => (itemsD y).map fun ys => zipD xs ys
  | .revd, [.lst ds] => some ds.reverse
  | .revd, [.tup ds] => some ds.reverse
  | _, _ => none
def joinD (sep : List Nat) : List D → Option (List Nat)
  | [] => some []
  | [.str s] => some s
  | .str s :: r => (joinD sep r).map fun t => s ++ sep ++ t
  | _ => none
noncomputable def mthD : Mth → D → List D → Option D
  | .index, .tup ds, [x] => if x.dep ≤ dlim ∧ D.deps ds ≤ dlim then (idxD x 0 ds).map fun n => .int n else none
  | .index, .lst ds, [x] => if x.dep ≤ dlim ∧ D.deps ds ≤ dlim then (idxD x 0 ds).map fun n => .int n else none
  | .join, .str sep, [.lst ds] => (joinD sep ds).bind fun s => if s.length ≤ 16777216 then some (.str s) else none
  | _, _, _ => none

/-! ### the language -/
inductive Tgt where
  | nm (i : Nat) | tp (ts : List Tgt)
inductive ME where
  | var (i : Nat) | cst (d : D)
  | tup (es : List ME) | lst (es : List ME)
  | bin (o : Bin) (a b : ME) | neg (a : ME) | not (a : ME)
  | cmp (o : Cmp) (a b : ME) | chn (o p : Cmp) (a b c : ME)
  | and (a b : ME) | or (a b : ME) | ite (c a b : ME)
  | ix (a i : ME) | sl0 (a : ME) | slL (a l : ME) | slH (a h : ME) | slB (a l h : ME) | rev (a : ME)
  | call (f : String) (es : List ME) | blt (b : Blt) (es : List ME) | mth (m : Mth) (o : ME) (es : List ME)
  | isi (a : ME) (ts : List Ty)
  | itk (k : Itk) (es : List ME)
  | lc (t : Tgt) (it c e : ME) (own : List Nat)
  | lc2 (t : Tgt) (it c : ME) (t1 : Tgt) (it1 c1 e : ME) (own in1 : List Nat)
inductive MS where
  | asg (t : Tgt) (e : ME)
  | par (is : List Nat) (es : List ME)
  | aug (i : Nat) (o : Bin) (e : ME)
  | app (i : Nat) (e : ME)
  | ext (i : Nat) (e : ME)
  | seti (i : Nat) (k e : ME)
  | ife (c : ME) (a b : List MS)
  | forr (t : Tgt) (it : ME) (b : List MS)
  | whl (c : ME) (b : List MS)
  | ret (e : ME) | retN | brk | cnt | pas | exp (e : ME)

/-- a name's slot: nothing, a value, a list or dict that the def alone holds -/
inductive Slot where
  | un | va (d : D) | ow (d : D)
abbrev En := List Slot
def getS (env : En) (i : Nat) : Option D := match env[i]? with
  | some (.va d) => some d
  | some (.ow d) => some d
  | _ => none
def isOw (env : En) (i : Nat) : Bool := match env[i]? with
  | some (.ow _) => true
  | _ => false
mutual
/-- the names whose lists the value may be, or hold -/
def leak : ME → List Nat
  | .var i => [i]
  | .cst _ => []
  | .tup es => leaks es
  | .lst es => leaks es
  | .bin _ a b => leakEl a ++ leakEl b
  | .neg _ => []
  | .not _ => []
  | .cmp .. => []
  | .chn .. => []
  | .and a b => leak a ++ leak b
  | .or a b => leak a ++ leak b
  | .ite _ a b => leak a ++ leak b
  | .ix a _ => leakEl a
  | .sl0 a => leakEl a
  | .slL a _ => leakEl a
  | .slH a _ => leakEl a
  | .slB a _ _ => leakEl a
  | .rev a => leakEl a
  | .call _ es => leaks es
  | .blt _ es => leaks es
  | .mth _ o es => leakEl o ++ leaks es
  | .isi .. => []
  | .itk _ es => leaks es
  | .lc _ _ _ e _ => leak e
  | .lc2 _ _ _ _ _ _ e _ _ => leak e
/-- .. of what is within the value -/
def leakEl : ME → List Nat
  | .var _ => []
  | .cst _ => []
  | .tup es => leaks es
  | .lst es => leaks es
  | .bin _ a b => leakEl a ++ leakEl b
  | .neg _ => []
  | .not _ => []
  | .cmp .. => []
  | .chn .. => []
  | .and a b => leakEl a ++ leakEl b
  | .or a b => leakEl a ++ leakEl b
  | .ite _ a b => leakEl a ++ leakEl b
  | .ix a _ => leakEl a
  | .sl0 a => leakEl a
  | .slL a _ => leakEl a
  | .slH a _ => leakEl a
  | .slB a _ _ => leakEl a
  | .rev a => leakEl a
  | .call _ es => leaks es
  | .blt _ es => leaksEl es
  | .mth _ o es => leakEl o ++ leaks es
  | .isi .. => []
  | .itk _ es => leaksEl es
  | .lc _ _ _ e _ => leak e
  | .lc2 _ _ _ _ _ _ e _ _ => leak e
def leaks : List ME → List Nat
  | [] => []
  | e :: r => leak e ++ leaks r
def leaksEl : List ME → List Nat
  | [] => []
  | e :: r => leakEl e ++ leaksEl r
end
/-- what makes a list of its own -/
def fresh : ME → Bool
  | .lst _ => true
  | .lc .. => true
  | .lc2 .. => true
  | .blt .list _ => true
  | .blt .sorted _ => true
  | .bin .add _ _ => true
  | .bin .mul _ _ => true
  | .sl0 _ => true
  | .slL .. => true
  | .slH .. => true
  | .slB .. => true
  | .rev _ => true
  | _ => false
def isCell : D → Bool
  | .lst _ => true
  | .dic _ => true
  | _ => false
def noOw (env : En) (L : List Nat) : Bool := L.all fun i => !isOw env i
/-- give up owning -/
def thaw (env : En) : List Nat → En
  | [] => env
  | i :: r => thaw (match env[i]? with | some (.ow d) => env.set i (.va d) | _ => env) r
def sink (env : En) (L : List Nat) (d : D) : En := if noOw env L then env else if d.flat then env else thaw env L
def wipeE (env : En) : List Nat → En
  | [] => env
  | i :: r => (wipeE env r).set i .un
mutual
def asgT : Tgt → D → En → Option En
  | .nm i, d, env => some (env.set i (.va d))
  | .tp ts, d, env => match d with
    | .tup ds => asgTs ts ds env
    | _ => none
def asgTs : List Tgt → List D → En → Option En
  | [], [], env => some env
  | t :: ts, d :: ds, env => (asgT t d env).bind fun env1 => asgTs ts ds env1
  | _, _, _ => none
end
/-- a comprehension's turns: f gives the element, or none where the test fails -/
def lcGo (f : D → Option (Option D)) : List D → Option (List D)
  | [] => some []
  | x :: xs => (f x).bind fun r => (lcGo f xs).map fun rest => match r with | some y => y :: rest | none => rest
def lcGo2 (f : D → Option (List D)) : List D → Option (List D)
  | [] => some []
  | x :: xs => (f x).bind fun r => (lcGo2 f xs).map fun rest => r ++ rest

abbrev CF := String → List D → Option D
section
variable (cf : CF)
mutual
noncomputable def evalE : ME → En → Option D
  | .var i, env => getS env i
  | .cst d, _ => some d
  | .tup es, env => (evalEs es env).map .tup
  | .lst es, env => (evalEs es env).map .lst
  | .bin o a b, env => (evalE a env).bind fun x => (evalE b env).bind fun y => binD o x y
  | .neg a, env => (evalE a env).bind fun x => match x with | .int i => some (.int (-i)) | _ => none
  | .not a, env => (evalE a env).map fun x => .bl (!tru x)
  | .cmp o a b, env => (evalE a env).bind fun x => (evalE b env).bind fun y => (cmpD o x y).map .bl
  | .chn o p a b c, env => (evalE a env).bind fun x => (evalE b env).bind fun y => (cmpD o x y).bind fun k =>
      if k then (evalE c env).bind fun z => (cmpD p y z).map .bl else some (.bl false)
  | .and a b, env => (evalE a env).bind fun x => if tru x then evalE b env else some x
  | .or a b, env => (evalE a env).bind fun x => if tru x then some x else evalE b env
  | .ite c a b, env => (evalE c env).bind fun x => if tru x then evalE a env else evalE b env
  | .ix a i, env => (evalE a env).bind fun x => (evalE i env).bind fun y => ixD x y
  | .sl0 a, env => (evalE a env).bind fun x => slD x none none
  | .slL a l, env => (evalE a env).bind fun x => (evalE l env).bind fun y => match y with | .int i => slD x (some i) none | _ => none
  | .slH a h, env => (evalE a env).bind fun x => (evalE h env).bind fun y => match y with | .int i => slD x none (some i) | _ => none
  | .slB a l h, env => (evalE a env).bind fun x => (evalE l env).bind fun y => (evalE h env).bind fun z => match y, z with | .int i, .int j => slD x (some i) (some j) | _, _ => none
  | .rev a, env => (evalE a env).bind fun x => match x with | .lst ds => some (.lst ds.reverse) | _ => none
  | .call f es, env => (evalEs es env).bind fun ds => cf f ds
  | .blt b es, env => (evalEs es env).bind fun ds => bltD b ds
  | .mth m o es, env => (evalE o env).bind fun x => (evalEs es env).bind fun ds => mthD m x ds
  | .isi a ts, env => (evalE a env).map fun x => .bl (ts.any fun t => isTy t x)
  | .itk k es, env => (evalEs es env).bind fun ds => (itkD k ds).map .lst
  | .lc t it c e own, env => (evalE it env).bind fun xs => (itemsD xs).bind fun ds =>
      if noOw env (leakEl it) || D.flats ds then
        (lcGo (fun x => (asgT t x (wipeE env own)).bind fun env1 => (evalE c env1).bind fun k => if tru k then (evalE e env1).map some else some none) ds).map .lst
      else none
  | .lc2 t it c t1 it1 c1 e own in1, env => (evalE it env).bind fun xs => (itemsD xs).bind fun ds =>
      if noOw env (leakEl it) || D.flats ds then
        (lcGo2 (fun x => (asgT t x (wipeE env own)).bind fun env1 => (evalE c env1).bind fun k => if tru k then
            (evalE it1 env1).bind fun ys => (itemsD ys).bind fun es =>
              if noOw env (leakEl it1) || D.flats es then
                lcGo (fun y => (asgT t1 y (wipeE env1 in1)).bind fun env2 => (evalE c1 env2).bind fun k => if tru k then (evalE e env2).map some else some none) es
              else none
          else some []) ds).bind fun r => if r.length ≤ sizeLine then some (.lst r) else none
      else none
noncomputable def evalEs : List ME → En → Option (List D)
  | [], _ => some []
  | e :: r, env => (evalE e env).bind fun d => (evalEs r env).map fun ds => d :: ds
end

inductive Out where
  | nx (e : En) | rt (d : D) | bk (e : En) | ct (e : En)
def asgFresh (t : Tgt) (e : ME) (d : D) (env : En) : Option En := match t with
  | .nm i => some ((sink env (leak e) d).set i (if fresh e && isCell d then .ow d else .va d))
  | t => asgT t d (sink env (leak e) d)
def parAsg : List Nat → List ME → List D → En → En
  | i :: is, e :: es, d :: ds, env => parAsg is es ds (env.set i (if fresh e && isCell d then .ow d else .va d))
  | _, _, _, env => env
def forGo (body : En → Option Out) (t : Tgt) : List D → En → Option Out
  | [], env => some (.nx env)
  | x :: xs, env => (asgT t x env).bind fun env1 => (body env1).bind fun o => match o with
    | .nx e => forGo body t xs e
    | .ct e => forGo body t xs e
    | .bk e => some (.nx e)
    | .rt d => some (.rt d)
def whlN (c : En → Option Bool) (body : En → Option Out) : Nat → En → Option Out
  | 0, _ => none
  | n + 1, env => (c env).bind fun k => if k then (body env).bind fun o => match o with
      | .nx e => whlN c body n e
      | .ct e => whlN c body n e
      | .bk e => some (.nx e)
      | .rt d => some (.rt d)
    else some (.nx env)
open Classical in
noncomputable def whlGo (c : En → Option Bool) (body : En → Option Out) (env : En) : Option Out :=
  if h : ∃ n, (whlN c body n env).isSome = true then whlN c body (Classical.choose h) env else none
def setD (x k v : D) : Option D := match x, k with
  | .lst ds, .int i => if 0 ≤ i then (if i < ds.length then some (.lst (ds.set i.toNat v)) else none) else if -(ds.length : Int) ≤ i then some (.lst (ds.set (i + ds.length).toNat v)) else none
  | _, _ => none
mutual
noncomputable def execS : MS → En → Option Out
  | .asg t e, env => (evalE cf e env).bind fun d => (asgFresh t e d env).map .nx
  | .par is es, env => (evalEs cf es env).map fun ds => .nx (parAsg is es ds (sink env (leaks es) (.tup ds)))
  | .aug i o e, env => (match env[i]? with | some (.va (.int a)) => some a | _ => none).bind fun a => (evalE cf e env).bind fun y => match y with
      | .int b => (binD o (.int a) (.int b)).map fun d => .nx (env.set i (.va d))
      | _ => none
  | .app i e, env => (evalE cf e env).bind fun d => match env[i]? with
      | some (.ow (.lst ds)) => if ds.length < sizeLine ∧ (¬ (i ∈ leak e) ∨ d.flat) then some (.nx ((sink env (leak e) d).set i (.ow (.lst (ds ++ [d]))))) else none
      | _ => none
  | .ext i e, env => (evalE cf e env).bind fun d => match env[i]?, itemsD d with
      | some (.ow (.lst ds)), some es => if ds.length + es.length ≤ sizeLine ∧ (¬ (i ∈ leak e) ∨ D.flats es) then
          some (.nx ((sink env (leakEl e) (.tup es)).set i (.ow (.lst (ds ++ es))))) else none
      | _, _ => none
  | .seti i k e, env => (evalE cf e env).bind fun d => (evalE cf k env).bind fun kd => match env[i]? with
      | some (.ow x) => if (¬ (i ∈ leak e) ∨ d.flat) then (setD x kd d).map fun y => .nx ((sink env (leak e) d).set i (.ow y)) else none
      | _ => none
  | .ife c a b, env => (evalE cf c env).bind fun x => if tru x then execSs a env else execSs b env
  | .forr t it b, env => (evalE cf it env).bind fun d => (itemsD d).bind fun ds =>
      forGo (fun e => execSs b e) t ds (if noOw env (leak it) then env else thaw env (leak it))
  | .whl c b, env => whlGo (fun e => (evalE cf c e).map tru) (fun e => execSs b e) env
  | .ret e, env => (evalE cf e env).map .rt
  | .retN, _ => some (.rt .non)
  | .brk, env => some (.bk env)
  | .cnt, env => some (.ct env)
  | .pas, env => some (.nx env)
  | .exp e, env => (evalE cf e env).map fun _ => .nx env
noncomputable def execSs : List MS → En → Option Out
  | [], env => some (.nx env)
  | s :: r, env => (execS s env).bind fun o => match o with
    | .nx e => execSs r e
    | o => some o
end
end

/-- a def: its parameters, its slots, its body -/
structure Fn where
  np : Nat
  ns : Nat
  body : List MS
abbrev Pg := List (String × Fn)
def envOf (fn : Fn) (ds : List D) : En := ds.map .va ++ List.replicate (fn.ns - fn.np) .un
noncomputable def runFn (cf : CF) (fn : Fn) (ds : List D) : Option D :=
  if ds.length = fn.np then (execSs cf fn.body (envOf fn ds)).bind fun o => match o with
    | .nx _ => some .non
    | .rt d => some d
    | _ => none
  else none
noncomputable def call (P : Pg) : Nat → CF
  | 0 => fun _ _ => none
  | n + 1 => fun f ds => (P.lookup f).bind fun fn => runFn (call P n) fn ds
end Rk
/-! Fw2: data in the heap -/
namespace Rk
open PySem PySem.Spec PyProof.Rows L2

abbrev Zn := Addr → Prop
mutual
/-- v stands for the data d; Z: the lists that nobody changes any more -/
inductive Den (K : PySem.W.Frag) (H : Hp) (Z : Zn) : V → D → Prop
  | non : Den K H Z .non .non
  | bl (b : Bool) : Den K H Z (.bl b) (.bl b)
  | int (i : Int) : Den K H Z (.int i) (.int i)
  | str (x : Str) (s : List Nat) : x = ⟨s.toArray⟩ → PyData.strOk x = true → s.length ≤ sizeLine → Den K H Z (.str x) (.str s)
  | tup {a : Addr} {xs : List V} {ds : List D} : SqT K H a xs → xs.length ≤ sizeLine → Dens K H Z xs ds → Den K H Z (.ref a) (.tup ds)
  | lst {a : Addr} {xs : List V} {ds : List D} : Z a → Rd H a (.lst xs) → xs.length ≤ sizeLine → Dens K H Z xs ds → Den K H Z (.ref a) (.lst ds)
inductive Dens (K : PySem.W.Frag) (H : Hp) (Z : Zn) : List V → List D → Prop
  | nil : Dens K H Z [] []
  | cons {v : V} {vs : List V} {d : D} {ds : List D} : Den K H Z v d → Dens K H Z vs ds → Dens K H Z (v :: vs) (d :: ds)
end

section
variable {K : PySem.W.Frag} {H H' : Hp} {Z Z' : Zn}
/-- what a description leans on stays -/
structure Kp (K : PySem.W.Frag) (H : Hp) (Z : Zn) (H' : Hp) (Z' : Zn) : Prop where
  tup : ∀ a xs, SqT K H a xs → SqT K H' a xs
  lst : ∀ a xs, Z a → Rd H a (.lst xs) → Z' a ∧ Rd H' a (.lst xs)
mutual
theorem Den.mono (k : Kp K H Z H' Z') : ∀ {v : V} {d : D}, Den K H Z v d → Den K H' Z' v d
  | _, _, .non => .non
  | _, _, .bl b => .bl b
  | _, _, .int i => .int i
  | _, _, .str x s h1 h2 h3 => .str x s h1 h2 h3
  | _, _, .tup h1 h2 h3 => .tup (k.tup _ _ h1) h2 (Dens.mono k h3)
  | _, _, .lst h0 h1 h2 h3 => .lst (k.lst _ _ h0 h1).1 (k.lst _ _ h0 h1).2 h2 (Dens.mono k h3)
theorem Dens.mono (k : Kp K H Z H' Z') : ∀ {vs : List V} {ds : List D}, Dens K H Z vs ds → Dens K H' Z' vs ds
  | _, _, .nil => .nil
  | _, _, .cons h t => .cons (Den.mono k h) (Dens.mono k t)
end
mutual
theorem Den.flat : ∀ {v : V} {d : D}, Den K H Z v d → d.flat = true → Den K H Z' v d
  | _, _, .non, _ => .non
  | _, _, .bl b, _ => .bl b
  | _, _, .int i, _ => .int i
  | _, _, .str x s h1 h2 h3, _ => .str x s h1 h2 h3
  | _, _, .tup h1 h2 h3, f => .tup h1 h2 (Dens.flat h3 (by simpa [D.flat] using f))
  | _, _, .lst _ _ _ _, f => by simp [D.flat] at f
theorem Dens.flat : ∀ {vs : List V} {ds : List D}, Dens K H Z vs ds → D.flats ds = true → Dens K H Z' vs ds
  | _, _, .nil, _ => .nil
  | _, _, .cons h t, f => by
    simp only [D.flats, Bool.and_eq_true] at f
    exact .cons (Den.flat h f.1) (Dens.flat t f.2)
end
theorem Dens.length : ∀ {vs : List V} {ds : List D}, Dens K H Z vs ds → vs.length = ds.length
  | _, _, .nil => rfl
  | _, _, .cons _ t => by simp [Dens.length t]
theorem Dens.get : ∀ {vs : List V} {ds : List D} {i : Nat} {d : D}, Dens K H Z vs ds → ds[i]? = some d → ∃ v, vs[i]? = some v ∧ Den K H Z v d
  | _, _, _, _, .nil, e => by simp at e
  | _, _, 0, _, .cons h _, e => by simp at e; subst e; exact ⟨_, rfl, h⟩
  | _, _, i + 1, d, .cons _ t, e => by
    obtain ⟨v, h1, h2⟩ := Dens.get (i := i) (d := d) t (by simpa using e)
    exact ⟨v, by simpa using h1, h2⟩
theorem Dens.getV : ∀ {vs : List V} {ds : List D} {i : Nat} {v : V}, Dens K H Z vs ds → vs[i]? = some v → ∃ d, ds[i]? = some d ∧ Den K H Z v d
  | _, _, _, _, .nil, e => by simp at e
  | _, _, 0, _, .cons h _, e => by simp at e; subst e; exact ⟨_, rfl, h⟩
  | _, _, i + 1, d, .cons _ t, e => by
    obtain ⟨v, h1, h2⟩ := Dens.getV (i := i) t (by simpa using e)
    exact ⟨v, by simpa using h1, h2⟩
theorem Dens.append : ∀ {vs ws : List V} {ds es : List D}, Dens K H Z vs ds → Dens K H Z ws es → Dens K H Z (vs ++ ws) (ds ++ es)
  | _, _, _, _, .nil, s => s
  | _, _, _, _, .cons h t, s => .cons h (Dens.append t s)
theorem Dens.take : ∀ {vs : List V} {ds : List D} (n : Nat), Dens K H Z vs ds → Dens K H Z (vs.take n) (ds.take n)
  | _, _, 0, _ => .nil
  | _, _, _ + 1, .nil => .nil
  | _, _, n + 1, .cons h t => .cons h (Dens.take n t)
theorem Dens.drop : ∀ {vs : List V} {ds : List D} (n : Nat), Dens K H Z vs ds → Dens K H Z (vs.drop n) (ds.drop n)
  | _, _, 0, h => h
  | _, _, _ + 1, .nil => .nil
  | _, _, n + 1, .cons _ t => Dens.drop n t
theorem Dens.set {v : V} {d : D} (h : Den K H Z v d) : ∀ {vs : List V} {ds : List D} (i : Nat), Dens K H Z vs ds → Dens K H Z (vs.set i v) (ds.set i d)
  | _, _, _, .nil => .nil
  | _, _, 0, .cons _ t => .cons h t
  | _, _, i + 1, .cons q t => .cons q (Dens.set h i t)
theorem Dens.reverse {vs : List V} {ds : List D} (h : Dens K H Z vs ds) : Dens K H Z vs.reverse ds.reverse := by
  induction vs generalizing ds with
  | nil => cases h; exact .nil
  | cons v vs ih =>
    cases h with
    | cons h t =>
      rw [List.reverse_cons, List.reverse_cons]
      exact (ih t).append (.cons h .nil)
theorem Dens.snoc {vs : List V} {ds : List D} {v : V} {d : D} (h : Dens K H Z vs ds) (h2 : Den K H Z v d) : Dens K H Z (vs ++ [v]) (ds ++ [d]) := h.append (.cons h2 .nil)
theorem Dens.rep {vs : List V} {ds : List D} (h : Dens K H Z vs ds) : ∀ k : Nat, Dens K H Z (List.replicate k vs).flatten (List.replicate k ds).flatten
  | 0 => .nil
  | k + 1 => by
    rw [List.replicate_succ, List.replicate_succ, List.flatten_cons, List.flatten_cons]
    exact h.append (Dens.rep h k)
theorem Dens.mem {vs : List V} {ds : List D} {d : D} (h : Dens K H Z vs ds) (hd : d ∈ ds) : ∃ v, v ∈ vs ∧ Den K H Z v d := by
  obtain ⟨i, hi⟩ := List.getElem?_of_mem hd
  obtain ⟨v, h1, h2⟩ := h.get hi
  exact ⟨v, List.mem_of_getElem? h1, h2⟩
end

/-! ### data as the library's own -/
mutual
def toPy : D → PyData
  | .non => .none
  | .bl b => .bool b
  | .int i => .int i
  | .str s => .str ⟨s.toArray⟩
  | .tup ds => .tuple (toPys ds)
  | .lst ds => .list (toPys ds)
  | .set _ => .none
  | .dic _ => .none
def toPys : List D → List PyData
  | [] => []
  | d :: ds => toPy d :: toPys ds
end
theorem str_eq (x y : List Nat) : ((⟨x.toArray⟩ : Str) == ⟨y.toArray⟩) = (x == y) := by
  have h : decide ((⟨x.toArray⟩ : Str) = ⟨y.toArray⟩) = decide (x = y) := by
    by_cases e : x = y
    · subst e; simp
    · rw [decide_eq_false e, decide_eq_false (fun q => e (by injection q with q; simpa using q))]
  rw [Bool.beq_eq_decide_eq, Bool.beq_eq_decide_eq]
  exact h
mutual
theorem eqv_deq : ∀ (a b : D), a.dep ≤ dlim → b.dep ≤ dlim → PyData.eqv (toPy a) (toPy b) = deq a b := by
  intro a b ha hb
  match a, b with
  | .set _, _ => simp [D.dep, dlim] at ha
  | .dic _, _ => simp [D.dep, dlim] at ha
  | _, .set _ => simp [D.dep, dlim] at hb
  | _, .dic _ => simp [D.dep, dlim] at hb
  | .tup xs, .tup ys =>
    simp only [toPy, PyData.eqv, deq]
    exact eqv_deqs xs ys (by simp only [D.dep] at ha; omega) (by simp only [D.dep] at hb; omega)
  | .lst xs, .lst ys =>
    simp only [toPy, PyData.eqv, deq]
    exact eqv_deqs xs ys (by simp only [D.dep] at ha; omega) (by simp only [D.dep] at hb; omega)
  | .str x, .str y => simp only [toPy, PyData.eqv, deq]; exact str_eq x y
  | .non, .non => rfl
  | .non, .bl _ => rfl
  | .non, .int _ => rfl
  | .non, .str _ => rfl
  | .non, .tup _ => rfl
  | .non, .lst _ => rfl
  | .bl _, .non => rfl
  | .bl _, .bl _ => rfl
  | .bl _, .int _ => rfl
  | .bl _, .str _ => rfl
  | .bl _, .tup _ => rfl
  | .bl _, .lst _ => rfl
  | .int _, .non => rfl
  | .int _, .bl _ => rfl
  | .int _, .int _ => rfl
  | .int _, .str _ => rfl
  | .int _, .tup _ => rfl
  | .int _, .lst _ => rfl
  | .str _, .non => rfl
  | .str _, .bl _ => rfl
  | .str _, .int _ => rfl
  | .str _, .tup _ => rfl
  | .str _, .lst _ => rfl
  | .tup _, .non => rfl
  | .tup _, .bl _ => rfl
  | .tup _, .int _ => rfl
  | .tup _, .str _ => rfl
  | .tup _, .lst _ => rfl
  | .lst _, .non => rfl
  | .lst _, .bl _ => rfl
  | .lst _, .int _ => rfl
  | .lst _, .str _ => rfl
  | .lst _, .tup _ => rfl
theorem eqv_deqs : ∀ (xs ys : List D), D.deps xs ≤ dlim → D.deps ys ≤ dlim → PyData.eqvAll (toPys xs) (toPys ys) = deqs xs ys := by
  intro xs ys hx hy
  match xs, ys with
  | [], [] => rfl
  | [], _ :: _ => rfl
  | _ :: _, [] => rfl
  | x :: xs, y :: ys =>
    simp only [D.deps] at hx hy
    simp only [toPys, PyData.eqvAll, deqs]
    rw [eqv_deq x y (by omega) (by omega), eqv_deqs xs ys (by omega) (by omega)]
end
mutual
theorem toPy_depth : ∀ d : D, d.dep ≤ dlim → (toPy d).depth = d.dep
  | .non, _ => rfl
  | .bl _, _ => rfl
  | .int _, _ => rfl
  | .str _, _ => rfl
  | .tup ds, h => by
    simp only [D.dep] at h
    simp only [toPy, PyData.depth, D.dep, toPys_depth ds (by omega)]
  | .lst ds, h => by
    simp only [D.dep] at h
    simp only [toPy, PyData.depth, D.dep, toPys_depth ds (by omega)]
  | .set _, h => by simp [D.dep, dlim] at h
  | .dic _, h => by simp [D.dep, dlim] at h
theorem toPys_depth : ∀ ds : List D, D.deps ds ≤ dlim → PyData.depthAll (toPys ds) = D.deps ds
  | [], _ => rfl
  | d :: ds, h => by
    simp only [D.deps] at h
    simp only [toPys, PyData.depthAll, D.deps, toPy_depth d (by omega), toPys_depth ds (by omega)]
end
section
variable {K : PySem.W.Frag} {H : Hp} {Z : Zn}
mutual
theorem Den.dp : ∀ {v : V} {d : D}, Den K H Z v d → d.dep ≤ dlim → Dp K H v (toPy d) ∧ (toPy d).canLay0 = true
  | _, _, .non, _ => ⟨.non, rfl⟩
  | _, _, .bl b, _ => ⟨.bl b, rfl⟩
  | _, _, .int i, _ => ⟨.int i, rfl⟩
  | _, _, .str x s e h2 _, _ => by subst e; exact ⟨.str _, by simp only [toPy, PyData.canLay0]; exact h2⟩
  | _, _, .tup h1 _ h3, h => by
    simp only [D.dep] at h
    obtain ⟨p, q⟩ := Dens.dp h3 (by omega)
    exact ⟨.tup h1 p, by simpa only [toPy, PyData.canLay0] using q⟩
  | _, _, .lst _ h1 _ h3, h => by
    simp only [D.dep] at h
    obtain ⟨p, q⟩ := Dens.dp h3 (by omega)
    exact ⟨.lst (.inl h1) p, by simpa only [toPy, PyData.canLay0] using q⟩
theorem Dens.dp : ∀ {vs : List V} {ds : List D}, Dens K H Z vs ds → D.deps ds ≤ dlim → DpAll K H vs (toPys ds) ∧ PyData.canLayAll0 (toPys ds) = true
  | _, _, .nil, _ => ⟨.nil, rfl⟩
  | _, _, .cons h t, hd => by
    simp only [D.deps] at hd
    obtain ⟨p1, q1⟩ := Den.dp h (by omega)
    obtain ⟨p2, q2⟩ := Dens.dp t (by omega)
    exact ⟨.cons p1 p2, by simp only [toPys, PyData.canLayAll0, q1, q2, Bool.and_self]⟩
end
end

/-! ### what a def's run keeps -/
section
variable (K : PySem.W.Frag) (H0 : Hp) (Z0 O0 : Zn)
/-- the list at a is held by one name alone -/
structure Own (H : Hp) (Z : Zn) (a : Addr) (d : D) : Prop where
  nz : ¬ Z a
  new : H0 a = none
  is : ∃ ds xs, d = .lst ds ∧ H a = some (.lst xs) ∧ xs.length ≤ sizeLine ∧ Dens K H Z xs ds
structure Rel (σ : L2.St) (H : Hp) (Z : Zn) (env : En) : Prop where
  len : env.length = σ.length
  va : ∀ (i : Nat) (d : D), env[i]? = some (Slot.va d) → ∃ v, σ[i]? = some (some v) ∧ Den K H Z v d
  ow : ∀ (i : Nat) (d : D), env[i]? = some (Slot.ow d) → ∃ a, σ[i]? = some (some (V.ref a)) ∧ Own K H0 H Z a d
  sep : ∀ (i j : Nat) (d e : D) (a : Addr), env[i]? = some (Slot.ow d) → env[j]? = some (Slot.ow e) → σ[i]? = some (some (V.ref a)) → σ[j]? = some (some (V.ref a)) → i = j
  zok : ∀ a, Z a → H a ≠ none
  z0 : ∀ a, Z0 a → Z a
  zn : ∀ a, Z a → Z0 a ∨ H0 a = none
  keep : ∀ b o, H0 b = some o → ¬ O0 b → H b = some o
  od : ∀ a, O0 a → H a ≠ none
end
/-- nothing that was is changed; new things may be -/
structure Grow (H : Hp) (Z : Zn) (H' : Hp) (Z' : Zn) : Prop where
  same : Same H H'
  zin : ∀ a, Z a → Z' a
  znew : ∀ a, Z' a → Z a ∨ H a = none
  ok : ∀ a, Z' a → Z a ∨ H' a ≠ none
section
variable {K : PySem.W.Frag} {H0 H H' H'' : Hp} {Z0 O0 Z Z' Z'' : Zn} {σ : L2.St} {env : En}
theorem Grow.refl : Grow H Z H Z := ⟨Same.refl H, fun _ h => h, fun _ h => .inl h, fun _ h => .inl h⟩
theorem same_some {a : Addr} (s : Same H H') (h : H a ≠ none) : H' a ≠ none := by
  cases e : H a with
  | none => exact absurd e h
  | some o => rw [s a o e]; simp
theorem Grow.trans (a : Grow H Z H' Z') (b : Grow H' Z' H'' Z'') : Grow H Z H'' Z'' where
  same := a.same.trans b.same
  zin := fun x h => b.zin x (a.zin x h)
  znew := fun x h => by
    rcases b.znew x h with q | q
    · exact a.znew x q
    · exact .inr (a.same.free q)
  ok := fun x h => by
    rcases b.ok x h with q | q
    · rcases a.ok x q with r | r
      · exact .inl r
      · exact .inr (same_some b.same r)
    · exact .inr q
theorem Rd_same {a : Addr} {u : HO} (s : Same H H') (h : Rd H a u) : Rd H' a u := h.elim (fun h => .inl (s _ _ h)) fun ⟨o, h⟩ => .inr ⟨o, s _ _ h⟩
theorem SqT_same {a : Addr} {xs : List V} (s : Same H H') (h : SqT K H a xs) : SqT K H' a xs := h.elim (fun h => .inl (Rd_same s h)) .inr
theorem Kp.of_same (s : Same H H') (z : ∀ a, Z a → Z' a) : Kp K H Z H' Z' := ⟨fun _ _ h => SqT_same s h, fun _ _ h r => ⟨z _ h, Rd_same s r⟩⟩
theorem Grow.kp (g : Grow H Z H' Z') : Kp K H Z H' Z' := Kp.of_same g.same g.zin
theorem Kp.zone (z : ∀ a, Z a → Z' a) : Kp K H Z H Z' := Kp.of_same (Same.refl H) z
theorem Rel.grow (r : Rel K H0 Z0 O0 σ H Z env) (g : Grow H Z H' Z') : Rel K H0 Z0 O0 σ H' Z' env where
  len := r.len
  va := fun i d e => let ⟨v, h1, h2⟩ := r.va i d e; ⟨v, h1, h2.mono g.kp⟩
  ow := fun i d e => by
    obtain ⟨a, h1, h2⟩ := r.ow i d e
    obtain ⟨ds, xs, e1, e2, e3, e4⟩ := h2.is
    refine ⟨a, h1, fun hz => ?_, h2.new, ds, xs, e1, g.same _ _ e2, e3, e4.mono g.kp⟩
    rcases g.znew a hz with q | q
    · exact h2.nz q
    · rw [q] at e2; cases e2
  sep := r.sep
  zok := fun a h => by
    rcases g.ok a h with q | q
    · exact same_some g.same (r.zok a q)
    · exact q
  z0 := fun a h => g.zin a (r.z0 a h)
  zn := fun a h => by
    rcases g.znew a h with q | q
    · exact r.zn a q
    · by_cases e : H0 a = none
      · exact .inr e
      · by_cases ho : O0 a
        · exact absurd q (r.od a ho)
        · cases e0 : H0 a with
          | none => exact .inr rfl
          | some o =>
            rw [r.keep a o e0 ho] at q
            cases q
  keep := fun b o h1 h2 => g.same _ _ (r.keep b o h1 h2)
  od := fun a h => same_some g.same (r.od a h)
end
end Rk
/-! Fw3: operations on data -/
namespace Rk
open PySem PySem.Spec PyProof.Rows L2

theorem _root_.L2.OpR.imp {X : Cx} {f : Value → Value → Sem Value} {r r' : R2} (h : OpR X f r) (k : ∀ x y H Q, r' x y H Q → r x y H Q) : OpR X f r' :=
  fun pins s σ H x y v u Q I rx ry q => h pins s σ H x y v u Q I rx ry (k _ _ _ _ q)
theorem _root_.L2.CallR.imp {X : Cx} {f : Value} {r r' : List V → Hp → VK → Prop} (h : CallR X f r) (k : ∀ xs H Q, r' xs H Q → r xs H Q) : CallR X f r' :=
  fun pins s σ H xs us Q I rx q => h pins s σ H xs us Q I rx (k _ _ _ q)
theorem _root_.L2.PE.imp {X : Cx} {e : Expr} {t t' : TE} (h : PE X e t) (k : ∀ σ H Q, t' σ H Q → t σ H Q) : PE X e t' := ⟨fun pins s σ H Q I q => h.run pins s σ H Q I (k _ _ _ q)⟩
theorem _root_.L2.PT.imp {X : Cx} {e : Expr} {t t' : TT} (h : PT X e t) (k : ∀ σ H Q, t' σ H Q → t σ H Q) : PT X e t' := ⟨fun pins s σ H Q I q => h.run pins s σ H Q I (k _ _ _ q)⟩
theorem _root_.L2.PW.imp {X : Cx} {e : Expr} {t t' : TT} (h : PW X e t) (k : ∀ σ H Q, t' σ H Q → t σ H Q) : PW X e t' := ⟨fun wh pins s σ H Q I q => h.run wh pins s σ H Q I (k _ _ _ q)⟩
theorem _root_.L2.PA.imp {X : Cx} {es : List Expr} {t t' : TA} (h : PA X es t) (k : ∀ σ H Q, t' σ H Q → t σ H Q) : PA X es t' := ⟨fun pos pins s σ H Q I q => h.run pos pins s σ H Q I (k _ _ _ q)⟩
theorem _root_.L2.PS.imp {X : Cx} {e : Stmt} {t t' : TS} (h : PS X e t) (k : ∀ D σ H, t' D σ H → t D σ H) : PS X e t' := ⟨fun pins s σ H D I q => h.run pins s σ H D I (k _ _ _ q)⟩
theorem _root_.L2.PSs.imp {X : Cx} {e : List Stmt} {t t' : TS} (h : PSs X e t) (k : ∀ D σ H, t' D σ H → t D σ H) : PSs X e t' := ⟨fun pins s σ H D I q => h.run pins s σ H D I (k _ _ _ q)⟩
theorem same_upd {H : Hp} {p : Addr} {o : HO} (h : H p = none) : Same H (upd H p o) := fun b u e => by
  rw [upd_ne (ne_of_none e h)]; exact e

/-- the data at v: a list at the top need not stand still, what is within is in Ze -/
def DenT (K : PySem.W.Frag) (H : Hp) (Zt Ze : Zn) (v : V) : D → Prop
  | .lst ds => ∃ a xs, v = .ref a ∧ Zt a ∧ Rd H a (.lst xs) ∧ xs.length ≤ sizeLine ∧ Dens K H Ze xs ds
  | d => Den K H Ze v d
abbrev DenE (K : PySem.W.Frag) (H : Hp) (Ze : Zn) (v : V) (d : D) : Prop := DenT K H (fun _ => True) Ze v d
/-- a value just made (a list: a new one) -/
def New (K : PySem.W.Frag) (H H' : Hp) (Ze : Zn) (v : V) (d : D) : Prop := Same H H' ∧ match d with
  | .lst ds => ∃ p xs, v = .ref p ∧ H p = none ∧ H' p = some (.lst xs) ∧ xs.length ≤ sizeLine ∧ Dens K H' Ze xs ds
  | d => Den K H' Ze v d
section
variable {K : PySem.W.Frag} {H H' : Hp} {Zt Ze Zt' Ze' Z : Zn} {v : V} {d : D}
theorem DenT.of (h : Den K H Z v d) : DenT K H Z Z v d := by
  cases h with
  | lst h0 h1 h2 h3 => exact ⟨_, _, rfl, h0, h1, h2, h3⟩
  | non => exact .non
  | bl b => exact .bl b
  | int i => exact .int i
  | str x s a b c => exact .str x s a b c
  | tup a b c => exact .tup a b c
theorem DenT.den (h : DenT K H Zt Ze v d) (z : ∀ a, Ze a → Zt a) : Den K H Zt v d := by
  cases d with
  | lst ds =>
    obtain ⟨a, xs, e, h0, h1, h2, h3⟩ := h
    subst e
    exact .lst h0 h1 h2 (h3.mono (Kp.zone z))
  | _ => exact Den.mono (Kp.zone z) h
theorem DenT.mono (h : DenT K H Zt Ze v d) (s : Same H H') (zt : ∀ a, Zt a → Zt' a) (ze : ∀ a, Ze a → Ze' a) : DenT K H' Zt' Ze' v d := by
  cases d with
  | lst ds =>
    obtain ⟨a, xs, e, h0, h1, h2, h3⟩ := h
    exact ⟨a, xs, e, zt _ h0, Rd_same s h1, h2, h3.mono (Kp.of_same s ze)⟩
  | _ => exact Den.mono (Kp.of_same s ze) h
theorem DenT.e (h : DenT K H Zt Ze v d) : DenE K H Ze v d := h.mono (Same.refl H) (fun _ _ => trivial) fun _ q => q
theorem DenT.flat (h : DenT K H Zt Ze v d) (f : d.flat = true) : Den K H Z v d := by
  cases d with
  | lst ds => simp [D.flat] at f
  | _ => exact Den.flat h f
/-- what is walked of it -/
theorem DenT.items {ds : List D} (h : DenT K H Zt Ze v d) (e : itemsD d = some ds) : ∃ a xs, v = .ref a ∧ xs.length ≤ sizeLine ∧ Dens K H Ze xs ds ∧ ((SqT K H a xs ∧ d = .tup ds) ∨ (Rd H a (.lst xs) ∧ Zt a ∧ d = .lst ds)) := by
  cases d with
  | lst es =>
    obtain rfl : es = ds := Option.some.inj e
    obtain ⟨a, xs, e, h0, h1, h2, h3⟩ := h
    exact ⟨a, xs, e, h2, h3, .inr ⟨h1, h0, rfl⟩⟩
  | tup es =>
    obtain rfl : es = ds := Option.some.inj e
    cases h with
    | tup a b c => exact ⟨_, _, rfl, b, c, .inl ⟨a, rfl⟩⟩
  | _ => cases e
theorem DenT.dp (h : DenT K H Zt Ze v d) (hd : d.dep ≤ dlim) : Dp K H v (toPy d) ∧ (toPy d).canLay0 = true := by
  cases d with
  | lst ds =>
    obtain ⟨a, xs, e, h0, h1, h2, h3⟩ := h
    subst e
    exact Den.dp (Z := fun x => x = a ∨ Ze x) (.lst (.inl rfl) h1 h2 (h3.mono (Kp.zone fun _ q => .inr q))) hd
  | _ => exact Den.dp h hd
theorem New.denE (h : New K H H' Ze v d) : DenE K H' Ze v d := by
  cases d with
  | lst ds =>
    obtain ⟨_, p, xs, e, h0, h1, h2, h3⟩ := h
    exact ⟨p, xs, e, trivial, .inl h1, h2, h3⟩
  | _ => exact h.2
theorem New.of_den (h : Den K H Ze v d) (hd : isCell d = false) : New K H H Ze v d := by
  cases d with
  | lst ds => cases hd
  | _ => exact ⟨Same.refl H, h⟩
end

section
variable {X : Cx}
theorem Inv.lstR {pins : List (Addr × Obj)} {σ : L2.St} {H : Hp} {s : Shared} {l : Addr} {xs : List V} (I : Inv X pins σ H s) (hH : Rd H l (.lst xs)) :
    xs.length ≤ sizeLine ∧ ∃ (its : List Value) (n : Nat), Vals xs its ∧ xs.length = its.length ∧ s.heap.get? l = some { cls := .type "list", data := .seq its.toArray n } := by
  obtain ⟨z, its, n, r, e⟩ := hH.ok I.hok
  exact ⟨z, its, n, r, r.length, e⟩
def rCatR : R2 := fun x y H Q => ∃ l b xs zs, x = .ref l ∧ y = .ref b ∧ Rd H l (.lst xs) ∧ Rd H b (.lst zs) ∧ xs.length + zs.length ≤ sizeLine ∧ ∀ p, H p = none → Q (.ref p) (upd H p (.lst (xs ++ zs)))
theorem op_catR : OpR X (binaryOp .Add) rCatR := by
  intro pins s σ H x y v u Q I rx ry h
  obtain ⟨l, b, xs, zs, rfl, rfl, hH, hB, hz, q⟩ := h
  cases rx
  cases ry
  obtain ⟨z, its, n, r, hl, e⟩ := Inv.lstR I hH
  obtain ⟨z2, its2, n2, r2, hl2, e2⟩ := Inv.lstR I hB
  refine PySem.P.add_list e e2 ?_ (by rw [List.size_toArray, List.size_toArray]; omega)
  have ea : its.toArray ++ its2.toArray = (its ++ its2).toArray := by simp
  rw [ea]
  exact ⟨.ref _, _, I.lnew (t' := s.toks) (r.append r2) (by rw [List.length_append]; omega), rfl, q _ I.fresh⟩

/-! ### binary operators -/
def opOf : Bin → Operator
  | .add => .Add | .sub => .Sub | .mul => .Mult | .fdiv => .FloorDiv | .mod => .Mod | .pow => .Pow
  | .shl => .LShift | .shr => .RShift | .band => .BitAnd | .bor => .BitOr | .bxor => .BitXor
def rBinD (K : PySem.W.Frag) (o : Bin) : R2 := fun x y H Q => ∃ Ze d1 d2 d, DenE K H Ze x d1 ∧ DenE K H Ze y d2 ∧ binD o d1 d2 = some d ∧ ∀ v H', New K H H' Ze v d → Q v H'
theorem New.int {K : PySem.W.Frag} {H : Hp} {Ze : Zn} {i : Int} : New K H H Ze (.int i) (.int i) := ⟨Same.refl H, .int i⟩
theorem New.bl {K : PySem.W.Frag} {H : Hp} {Ze : Zn} {i : Bool} : New K H H Ze (.bl i) (.bl i) := ⟨Same.refl H, .bl i⟩
theorem strOk_app {x y : List Nat} (h1 : PyData.strOk ⟨x.toArray⟩ = true) (h2 : PyData.strOk ⟨y.toArray⟩ = true) : PyData.strOk ⟨(x ++ y).toArray⟩ = true := by
  unfold PyData.strOk at *
  simp only [List.all_toArray] at *
  rw [List.all_append, h1, h2]
  rfl
theorem den_str {K : PySem.W.Frag} {H : Hp} {Ze : Zn} {v : V} {s : List Nat} (h : Den K H Ze v (.str s)) : v = .str ⟨s.toArray⟩ ∧ PyData.strOk ⟨s.toArray⟩ = true ∧ s.length ≤ sizeLine := by
  cases h with
  | str x s e a b => subst e; exact ⟨rfl, a, b⟩
theorem den_int {K : PySem.W.Frag} {H : Hp} {Ze : Zn} {v : V} {i : Int} (h : Den K H Ze v (.int i)) : v = .int i := by cases h; rfl
theorem den_bl {K : PySem.W.Frag} {H : Hp} {Ze : Zn} {v : V} {i : Bool} (h : Den K H Ze v (.bl i)) : v = .bl i := by cases h; rfl
theorem den_non {K : PySem.W.Frag} {H : Hp} {Ze : Zn} {v : V} (h : Den K H Ze v .non) : v = .non := by cases h; rfl
theorem den_tup {K : PySem.W.Frag} {H : Hp} {Ze : Zn} {v : V} {ds : List D} (h : Den K H Ze v (.tup ds)) : ∃ a xs, v = .ref a ∧ SqT K H a xs ∧ xs.length ≤ sizeLine ∧ Dens K H Ze xs ds := by
  cases h with
  | tup a b c => exact ⟨_, _, rfl, a, b, c⟩
theorem Dens.nil_iff {K : PySem.W.Frag} {H : Hp} {Z : Zn} {vs : List V} {ds : List D} (h : Dens K H Z vs ds) : vs = [] ↔ ds = [] := by cases h <;> simp

theorem str_cat (x y : List Nat) : ((⟨x.toArray⟩ : Str) ++ (⟨y.toArray⟩ : Str)) = ⟨(x ++ y).toArray⟩ := by
  show Str.append _ _ = _
  simp [Str.append]
theorem op_addD : OpR X (binaryOp .Add) (rBinD X.K .add) := by
  refine OpR.imp (op_add.or (op_add_str.or (op_catA.or op_catR))) fun x y H Q h => ?_
  obtain ⟨Ze, d1, d2, d, h1, h2, e, q⟩ := h
  cases d1 <;> cases d2 <;> simp only [binD] at e <;> try (cases e; done)
  · cases e
    exact .inl ⟨_, _, den_int h1, den_int h2, q _ _ .int⟩
  · split at e
    · rename_i hz
      cases e
      obtain ⟨rfl, a1, b1⟩ := den_str h1
      obtain ⟨rfl, a2, b2⟩ := den_str h2
      refine .inr (.inl ⟨_, _, rfl, rfl, by simpa [Str.length] using hz, q _ _ ⟨Same.refl H, ?_⟩⟩)
      rw [str_cat]
      exact .str _ _ rfl (strOk_app a1 a2) (by simpa using hz)
    · cases e
  · split at e
    · rename_i hz
      cases e
      obtain ⟨a, xs, rfl, s1, l1, g1⟩ := den_tup h1
      obtain ⟨b, ys, rfl, s2, l2, g2⟩ := den_tup h2
      have e1 := g1.length
      have e2 := g2.length
      refine .inr (.inr (.inl ⟨a, b, xs, ys, rfl, rfl, s1, s2, by omega, fun z => ?_, fun z z2 => ?_, fun z z2 p hp => ?_⟩))
      · have := g1.nil_iff.mp z
        subst this
        exact q _ _ ⟨Same.refl H, h2⟩
      · have := g2.nil_iff.mp z2
        subst this
        exact q _ _ ⟨Same.refl H, by rw [List.append_nil]; exact h1⟩
      · refine q _ _ ⟨same_upd hp, .tup (.inl (.inl upd_same)) (by rw [List.length_append]; omega) ?_⟩
        have k := Kp.of_same (K := X.K) (Z := Ze) (Z' := Ze) (same_upd (o := .tup (xs ++ ys)) hp) fun _ z => z
        exact (g1.mono k).append (g2.mono k)
    · cases e
  · split at e
    · rename_i hz
      cases e
      obtain ⟨a, xs, rfl, _, s1, l1, g1⟩ := h1
      obtain ⟨b, ys, rfl, _, s2, l2, g2⟩ := h2
      have e1 := g1.length
      have e2 := g2.length
      refine .inr (.inr (.inr ⟨a, b, xs, ys, rfl, rfl, s1, s2, by omega, fun p hp => ?_⟩))
      refine q _ _ ⟨same_upd hp, p, _, rfl, hp, upd_same, by rw [List.length_append]; omega, ?_⟩
      have k := Kp.of_same (K := X.K) (Z := Ze) (Z' := Ze) (same_upd (o := .lst (xs ++ ys)) hp) fun _ z => z
      exact (g1.mono k).append (g2.mono k)
    · cases e
theorem op_subD : OpR X (binaryOp .Sub) (rBinD X.K .sub) := by
  refine OpR.imp op_sub fun x y H Q h => ?_
  obtain ⟨Ze, d1, d2, d, h1, h2, e, q⟩ := h
  cases d1 <;> cases d2 <;> simp only [binD] at e <;> try (cases e; done)
  cases e
  exact ⟨_, _, den_int h1, den_int h2, q _ _ .int⟩
theorem small64_ok {i : Int} (h : small64 i = true) : -(2 ^ 64) < i ∧ i < 2 ^ 64 := by
  simpa [small64] using h
def rRepR : R2 := fun x y H Q => ∃ l k xs, x = .ref l ∧ y = .int k ∧ Rd H l (.lst xs) ∧ -(2 ^ 63) ≤ k ∧ k < 2 ^ 63 ∧ xs.length * k.toNat ≤ sizeLine ∧
  ∀ p, H p = none → Q (.ref p) (upd H p (.lst (List.replicate k.toNat xs).flatten))
theorem rep_new (its : List Value) (m : Nat) : List.foldl (fun x1 x2 => x1 ++ x2) #[] (List.replicate (if its.toArray.isEmpty = true then 0 else m) its.toArray) = (List.replicate m its).flatten.toArray := by
  have f0 : List.foldl (fun x1 x2 => x1 ++ x2) #[] (List.replicate m its.toArray) = (List.replicate m its).flatten.toArray := by
    have q := foldl_rep its m []
    rwa [List.nil_append] at q
  cases its with
  | nil => simp
  | cons a r => simpa using f0
theorem op_repR : OpR X (binaryOp .Mult) rRepR := by
  intro pins s σ H x y v u Q I rx ry h
  obtain ⟨l, k, xs, rfl, rfl, hH, h1, h2, hz, q⟩ := h
  cases rx
  obtain ⟨t, rfl⟩ := ry
  obtain ⟨z, its, n, r, hl, e⟩ := Inv.lstR I hH
  have c1 : its.toArray.size * k.toNat ≤ sizeLine := by simpa [← hl] using hz
  have c2 : (sizeLine : Nat) ≤ (2 ^ 63 - 1) / 8 := by decide
  have g1 : ¬ (!Builtin.List.listFitsIndex k) = true := by rw [fitsIndex_both h1 h2]; decide
  have g2 : ¬ Builtin.List.listTooLong (its.toArray.size * k.toNat) = true := by rw [notLongL c1]; decide
  have B := AutoListH.list___mul___list_int_3 l its.toArray n k t g1 (show ¬ its.toArray.size * k.toNat > (2 ^ 63 - 1) / 8 by omega) g2
  refine wpAny_binaryOp_repeat_ref (T := "list") (U := "int") (by decide) ⟨_, e, rfl⟩ (fun s' => typeIs_int s' k t) noFill_list_mul F.fills_int_mul F.slot_int_rmul repeat_list F.slot_int_index.lookup ?_
  refine call_meets F.slot_int_rmul (typeIs_int s k t) F.entry_int_rmul (F.args_int_rmul_2 _ _) (int___rmul___int_list k t l its.toArray n) ⟨e, rfl, ⟨_, e, rfl⟩, ?_⟩
  refine call_meets F.slot_list_mul ⟨_, e, rfl⟩ F.entry_list_mul (F.args_list_mul_2 _ _) B ⟨e, ?_⟩
  rw [rep_new]
  have hz' : (List.replicate k.toNat xs).flatten.length ≤ sizeLine := by simpa [Nat.mul_comm] using hz
  exact ⟨.ref _, _, I.lnew (t' := s.toks) (r.rep k.toNat) hz', rfl, q _ I.fresh⟩
theorem op_mulD : OpR X (binaryOp .Mult) (rBinD X.K .mul) := by
  refine OpR.imp (op_mul.or op_repR) fun x y H Q h => ?_
  obtain ⟨Ze, d1, d2, d, h1, h2, e, q⟩ := h
  cases d1 <;> cases d2 <;> simp only [binD] at e <;> try (cases e; done)
  · split at e
    · rename_i hz
      cases e
      refine .inl ⟨_, _, den_int h1, den_int h2, ?_, q _ _ .int⟩
      rcases Bool.or_eq_true _ _ |>.mp hz with z | z
      · exact .inl (small64_ok z)
      · exact .inr (small64_ok z)
    · cases e
  · split at e
    · rename_i hz
      cases e
      obtain ⟨a, xs, rfl, _, s1, l1, g1⟩ := h1
      obtain rfl := den_int h2
      have e1 := g1.length
      have hsz : xs.length * (Int.toNat ‹Int›) ≤ sizeLine := by
        have : xs.length * (Int.toNat ‹Int›) ≤ 1000 * 1000 := Nat.mul_le_mul (by omega) (by omega)
        exact Nat.le_trans this (by decide)
      refine .inr ⟨a, _, xs, rfl, rfl, s1, by omega, by omega, hsz, fun p hp => ?_⟩
      refine q _ _ ⟨same_upd hp, p, _, rfl, hp, upd_same, by simpa [Nat.mul_comm] using hsz, ?_⟩
      have k := Kp.of_same (K := X.K) (Z := Ze) (Z' := Ze) (same_upd (o := .lst (List.replicate (Int.toNat ‹Int›) xs).flatten) hp) fun _ z => z
      exact (g1.mono k).rep _
    · cases e
theorem op_fdivD : OpR X (binaryOp .FloorDiv) (rBinD X.K .fdiv) := by
  refine OpR.imp op_fdivN fun x y H Q h => ?_
  obtain ⟨Ze, d1, d2, d, h1, h2, e, q⟩ := h
  cases d1 <;> cases d2 <;> simp only [binD] at e <;> try (cases e; done)
  split at e
  · rename_i hz
    cases e
    refine ⟨_, _, den_int h1, den_int h2, hz, ?_⟩
    have := q _ _ (.int (i := _))
    split at this
    · rename_i hp
      have e2 : ∀ i j : Int, 0 < j → i.fdiv j = i / j := fun i j h => Int.fdiv_eq_ediv_of_nonneg i (by omega)
      show Q (.int (Int.fdiv _ _)) H
      rw [e2 _ _ hp]
      exact this
    · exact this
  · cases e
theorem op_modD : OpR X (binaryOp .Mod) (rBinD X.K .mod) := by
  refine OpR.imp op_modN fun x y H Q h => ?_
  obtain ⟨Ze, d1, d2, d, h1, h2, e, q⟩ := h
  cases d1 <;> cases d2 <;> simp only [binD] at e <;> try (cases e; done)
  split at e
  · rename_i hz
    cases e
    refine ⟨_, _, den_int h1, den_int h2, hz, ?_⟩
    have := q _ _ (.int (i := _))
    split at this
    · rename_i hp
      have e2 : ∀ i j : Int, 0 < j → i.fmod j = i % j := fun i j h => Int.fmod_eq_emod_of_nonneg i (by omega)
      show Q (.int (Int.fmod _ _)) H
      rw [e2 _ _ hp]
      exact this
    · exact this
  · cases e
theorem op_powD : OpR X (binaryOp .Pow) (rBinD X.K .pow) := by
  refine OpR.imp op_pow fun x y H Q h => ?_
  obtain ⟨Ze, d1, d2, d, h1, h2, e, q⟩ := h
  cases d1 <;> cases d2 <;> simp only [binD] at e <;> try (cases e; done)
  split at e
  · rename_i hz
    cases e
    exact ⟨_, _, den_int h1, den_int h2, hz, q _ _ .int⟩
  · cases e
theorem op_shlD : OpR X (binaryOp .LShift) (rBinD X.K .shl) := by
  refine OpR.imp op_shl fun x y H Q h => ?_
  obtain ⟨Ze, d1, d2, d, h1, h2, e, q⟩ := h
  cases d1 <;> cases d2 <;> simp only [binD] at e <;> try (cases e; done)
  split at e
  · rename_i hz
    cases e
    exact ⟨_, _, den_int h1, den_int h2, hz, q _ _ .int⟩
  · cases e
theorem op_shrD : OpR X (binaryOp .RShift) (rBinD X.K .shr) := by
  refine OpR.imp op_shr fun x y H Q h => ?_
  obtain ⟨Ze, d1, d2, d, h1, h2, e, q⟩ := h
  cases d1 <;> cases d2 <;> simp only [binD] at e <;> try (cases e; done)
  split at e
  · rename_i hz
    cases e
    exact ⟨_, _, den_int h1, den_int h2, hz, q _ _ .int⟩
  · cases e
theorem op_bandD : OpR X (binaryOp .BitAnd) (rBinD X.K .band) := by
  refine OpR.imp op_and fun x y H Q h => ?_
  obtain ⟨Ze, d1, d2, d, h1, h2, e, q⟩ := h
  cases d1 <;> cases d2 <;> simp only [binD] at e <;> try (cases e; done)
  cases e
  exact ⟨_, _, den_int h1, den_int h2, q _ _ .int⟩
theorem op_borD : OpR X (binaryOp .BitOr) (rBinD X.K .bor) := by
  refine OpR.imp op_or fun x y H Q h => ?_
  obtain ⟨Ze, d1, d2, d, h1, h2, e, q⟩ := h
  cases d1 <;> cases d2 <;> simp only [binD] at e <;> try (cases e; done)
  cases e
  exact ⟨_, _, den_int h1, den_int h2, q _ _ .int⟩
theorem op_bxorD : OpR X (binaryOp .BitXor) (rBinD X.K .bxor) := by
  refine OpR.imp op_xor fun x y H Q h => ?_
  obtain ⟨Ze, d1, d2, d, h1, h2, e, q⟩ := h
  cases d1 <;> cases d2 <;> simp only [binD] at e <;> try (cases e; done)
  cases e
  exact ⟨_, _, den_int h1, den_int h2, q _ _ .int⟩
theorem op_binD (o : Bin) : OpR X (binaryOp (opOf o)) (rBinD X.K o) := by
  cases o
  · exact op_addD
  · exact op_subD
  · exact op_mulD
  · exact op_fdivD
  · exact op_modD
  · exact op_powD
  · exact op_shlD
  · exact op_shrD
  · exact op_bandD
  · exact op_borD
  · exact op_bxorD
end
end Rk
/-! Fw4: comparisons, items, slices -/
namespace Rk
open PySem PySem.Spec PyProof.Rows L2
theorem bl_dec {p : Prop} {a b : Decidable p} {Q : VK} {H : Hp} (q : Q (.bl (@decide p a)) H) : Q (.bl (@decide p b)) H := by
  have : a = b := Subsingleton.elim _ _
  rw [← this]
  exact q
section
variable {X : Cx}
def cmpOf : Cmp → CmpOp
  | .eq => .Eq | .ne => .NotEq | .lt => .Lt | .le => .LtE | .gt => .Gt | .ge => .GtE | .isN => .Is | .isNotN => .IsNot
  | .isIn => .In | .notIn => .NotIn | .isB => .Is | .isNotB => .IsNot
/-- the right side of is None is None -/
def rCmpD (K : PySem.W.Frag) (o : Cmp) : R2 := fun x y H Q => ∃ Ze d1 d2 k, DenE K H Ze x d1 ∧ DenE K H Ze y d2 ∧ cmpD o d1 d2 = some k ∧ ((o = .isN ∨ o = .isNotN) → d2 = .non) ∧ Q (.bl k) H
theorem min_room {A : Around} {da db : PyData} {n : Nat} (h : da.depth ≤ n) (hu : A.units + n < cLine) : A.units + min da.depth db.depth < cLine :=
  Nat.lt_of_le_of_lt (Nat.add_le_add_left (Nat.le_trans (Nat.min_le_left _ _) h) _) hu
theorem op_eqDD (hu : X.A.units + 1 + dlim < cLine) : OpR X (compareOp .Eq) (rCmpD X.K .eq) := by
  intro pins s σ H x y v u Q I rx ry h
  obtain ⟨Ze, d1, d2, k, h1, h2, e, _, q⟩ := h
  simp only [cmpD, eqD] at e
  split at e
  · rename_i hz
    cases e
    obtain ⟨p1, c1⟩ := h1.dp hz.1
    obtain ⟨p2, c2⟩ := h2.dp hz.2
    obtain ⟨as, r1⟩ := Dp.reads I _ x v p1 rx
    obtain ⟨bs, r2⟩ := Dp.reads I _ y u p2 ry
    refine SeqAt.compareEq_reads r1 r2 c1 c2 (min_room (n := dlim) (by rw [toPy_depth _ hz.1]; exact hz.1) (by omega)) ?_
    rw [eqv_deq _ _ hz.1 hz.2]
    exact ⟨.bl _, H, I, rfl, q⟩
  · cases e
theorem op_neDD (hu : X.A.units + 1 + dlim < cLine) : OpR X (compareOp .NotEq) (rCmpD X.K .ne) := by
  intro pins s σ H x y v u Q I rx ry h
  obtain ⟨Ze, d1, d2, k, h1, h2, e, _, q⟩ := h
  simp only [cmpD, eqD] at e
  split at e
  · rename_i hz
    cases e
    obtain ⟨p1, c1⟩ := h1.dp hz.1
    obtain ⟨p2, c2⟩ := h2.dp hz.2
    obtain ⟨as, r1⟩ := Dp.reads I _ x v p1 rx
    obtain ⟨bs, r2⟩ := Dp.reads I _ y u p2 ry
    refine SeqAt.compareNe_reads r1 r2 c1 c2 (min_room (n := dlim) (by rw [toPy_depth _ hz.1]; exact hz.1) (by omega)) ?_
    rw [eqv_deq _ _ hz.1 hz.2]
    exact ⟨.bl _, H, I, rfl, q⟩
  · cases e
theorem any_py (x : D) : ∀ ds : List D, x.dep ≤ dlim → D.deps ds ≤ dlim → ((toPys ds).any fun y => PyData.eqv y (toPy x)) = memD x ds
  | [], _, _ => rfl
  | d :: ds, hx, h => by
    simp only [D.deps] at h
    have ih := any_py x ds hx (by omega)
    unfold memD at ih ⊢
    rw [toPys, List.any_cons, List.any_cons, ih, eqv_deq d x (by omega) hx]
theorem in_room {A : Around} {xs : List PyData} {d : PyData} {n : Nat} (h : PyData.depthAll xs ≤ n) (hu : A.units + 1 + n < cLine) : A.units + 1 + min (PyData.depthAll xs) d.depth < cLine :=
  Nat.lt_of_le_of_lt (Nat.add_le_add_left (Nat.le_trans (Nat.min_le_left _ _) h) _) hu
theorem items_dp {K : PySem.W.Frag} {H : Hp} {Ze : Zn} {y : V} {d : D} {ds : List D} (h : DenE K H Ze y d) (e : itemsD d = some ds) (hd : D.deps ds ≤ dlim) : ∃ a xs, y = .ref a ∧ DpAll K H xs (toPys ds) ∧ PyData.canLayAll0 (toPys ds) = true ∧
    ((SqT K H a xs ∧ d = .tup ds) ∨ (Rd H a (.lst xs) ∧ d = .lst ds)) := by
  obtain ⟨a, xs, rfl, hz, hD, hk⟩ := h.items e
  obtain ⟨p, c⟩ := hD.dp hd
  exact ⟨a, xs, rfl, p, c, hk.elim .inl fun q => .inr ⟨q.1, q.2.2⟩⟩
theorem in_cases {x c : D} {k : Bool} (e : inD x c = some k) : (∃ ds, itemsD c = some ds ∧ x.dep ≤ dlim ∧ D.deps ds ≤ dlim ∧ k = memD x ds) ∨ (∃ s a, c = .str s ∧ x = .str [a] ∧ k = s.any fun d => d == a) ∨ (∃ ds, c = .set ds) ∨ ∃ ds, c = .dic ds := by
  cases c with
  | tup ds =>
    simp only [inD] at e
    split at e
    · rename_i hz; cases e; exact .inl ⟨ds, rfl, hz.1, hz.2, rfl⟩
    · cases e
  | lst ds =>
    simp only [inD] at e
    split at e
    · rename_i hz; cases e; exact .inl ⟨ds, rfl, hz.1, hz.2, rfl⟩
    · cases e
  | str s =>
    simp only [inD] at e
    split at e
    · cases e; exact .inr (.inl ⟨s, _, rfl, rfl, rfl⟩)
    · cases e
  | set ds => exact .inr (.inr (.inl ⟨ds, rfl⟩))
  | dic ds => exact .inr (.inr (.inr ⟨ds, rfl⟩))
  | _ => cases e
theorem dec_any (a : Nat) : ∀ s : List Nat, decide (a ∈ s) = s.any fun d => d == a
  | [] => by simp
  | b :: s => by
    rw [List.any_cons, ← dec_any a s]
    by_cases h : b = a
    · subst h; simp
    · have h' : ¬ a = b := fun q => h q.symm
      simp [h, h']
theorem op_inDD (hu : X.A.units + 1 + dlim < cLine) : OpR X (compareOp .In) (rCmpD X.K .isIn) := by
  refine (OpR.imp (r := fun x y H Q => (∃ Ze d c ds, DenE X.K H Ze x d ∧ DenE X.K H Ze y c ∧ itemsD c = some ds ∧ d.dep ≤ dlim ∧ D.deps ds ≤ dlim ∧ Q (.bl (memD d ds)) H) ∨ (∃ (c : Nat) (z : Str), x = .str ⟨#[c]⟩ ∧ y = .str z ∧ Q (.bl (decide (c ∈ z.cps.toList))) H)) (OpR.or ?_ op_in_sign) fun x y H Q h => ?_)
  · intro pins s σ H x y v u Q I rx ry h
    obtain ⟨Ze, d, c, ds, h1, h2, e, hd, hds, q⟩ := h
    obtain ⟨p1, c1⟩ := h1.dp hd
    obtain ⟨as, r1⟩ := Dp.reads I _ x v p1 rx
    obtain ⟨a, xs, rfl, p2, c2, hk⟩ := items_dp h2 e hds
    have hr := in_room (d := toPy d) (A := X.A) (xs := toPys ds) (n := dlim) (by rw [toPys_depth _ hds]; exact hds) hu
    have hq : EP X pins σ Q (.bool ((toPys ds).any fun y => PyData.eqv y (toPy d))) s := by
      rw [any_py d ds hd hds]
      exact ⟨.bl _, H, I, rfl, q⟩
    rcases hk with ⟨hs, _⟩ | ⟨hs, _⟩
    · obtain ⟨bs, r2⟩ := Dp.reads I (.tuple (toPys ds)) _ u (.tup hs p2) ry
      exact SeqAt.in_tuple_reads r2 r1 c2 c1 hr hq
    · obtain ⟨bs, r2⟩ := Dp.reads I (.list (toPys ds)) _ u (.lst (.inl hs) p2) ry
      exact SeqAt.in_list_reads r2 r1 c2 c1 hr hq
  · obtain ⟨Ze, d1, d2, k, h1, h2, e, _, q⟩ := h
    rcases in_cases (show inD d1 d2 = some k from e) with ⟨ds, e1, e2, e3, rfl⟩ | ⟨s, a, rfl, rfl, rfl⟩ | ⟨ds, rfl⟩ | ⟨ds, rfl⟩
    · exact .inl ⟨Ze, d1, d2, ds, h1, h2, e1, e2, e3, q⟩
    · obtain ⟨rfl, _⟩ := den_str h1
      obtain ⟨rfl, _⟩ := den_str h2
      exact .inr ⟨a, _, rfl, rfl, by rw [dec_any]; simpa using q⟩
    · cases h2
    · cases h2
theorem op_notInDD (hu : X.A.units + 1 + dlim < cLine) : OpR X (compareOp .NotIn) (rCmpD X.K .notIn) := by
  refine (OpR.imp (r := fun x y H Q => (∃ Ze d c ds, DenE X.K H Ze x d ∧ DenE X.K H Ze y c ∧ itemsD c = some ds ∧ d.dep ≤ dlim ∧ D.deps ds ≤ dlim ∧ Q (.bl (!memD d ds)) H) ∨ (∃ (c : Nat) (z : Str), x = .str ⟨#[c]⟩ ∧ y = .str z ∧ Q (.bl (!decide (c ∈ z.cps.toList))) H)) (OpR.or ?_ op_notIn_sign) fun x y H Q h => ?_)
  · intro pins s σ H x y v u Q I rx ry h
    obtain ⟨Ze, d, c, ds, h1, h2, e, hd, hds, q⟩ := h
    obtain ⟨p1, c1⟩ := h1.dp hd
    obtain ⟨as, r1⟩ := Dp.reads I _ x v p1 rx
    obtain ⟨a, xs, rfl, p2, c2, hk⟩ := items_dp h2 e hds
    have hr := in_room (d := toPy d) (A := X.A) (xs := toPys ds) (n := dlim) (by rw [toPys_depth _ hds]; exact hds) hu
    have hq : EP X pins σ Q (.bool (!(toPys ds).any fun y => PyData.eqv y (toPy d))) s := by
      rw [any_py d ds hd hds]
      exact ⟨.bl _, H, I, rfl, q⟩
    rcases hk with ⟨hs, _⟩ | ⟨hs, _⟩
    · obtain ⟨bs, r2⟩ := Dp.reads I (.tuple (toPys ds)) _ u (.tup hs p2) ry
      exact SeqAt.notIn_tuple_reads r2 r1 c2 c1 hr hq
    · obtain ⟨bs, r2⟩ := Dp.reads I (.list (toPys ds)) _ u (.lst (.inl hs) p2) ry
      exact SeqAt.notIn_list_reads r2 r1 c2 c1 hr hq
  · obtain ⟨Ze, d1, d2, k, h1, h2, e, _, q⟩ := h
    obtain ⟨b, e', rfl⟩ := Option.map_eq_some_iff.mp (show (inD d1 d2).map (fun b => !b) = some k from e)
    rcases in_cases e' with ⟨ds, e1, e2, e3, rfl⟩ | ⟨s, a, rfl, rfl, rfl⟩ | ⟨ds, rfl⟩ | ⟨ds, rfl⟩
    · exact .inl ⟨Ze, d1, d2, ds, h1, h2, e1, e2, e3, q⟩
    · obtain ⟨rfl, _⟩ := den_str h1
      obtain ⟨rfl, _⟩ := den_str h2
      exact .inr ⟨a, _, rfl, rfl, by rw [dec_any]; simpa using q⟩
    · cases h2
    · cases h2
theorem isNon_dec {K : PySem.W.Frag} {H : Hp} {Ze : Zn} {x : V} {d : D} (h : DenE K H Ze x d) : decide (x = .non) = isNon d := by
  cases d with
  | lst ds => obtain ⟨a, xs, rfl, _⟩ := h; rfl
  | non => rw [den_non h]; rfl
  | bl b => rw [den_bl h]; rfl
  | int i => rw [den_int h]; rfl
  | str s => rw [(den_str h).1]; rfl
  | tup ds => obtain ⟨a, xs, rfl, _⟩ := den_tup h; rfl
  | set ds => cases h
  | dic ds => cases h
theorem op_cmpD (o : Cmp) (hu : X.A.units + 1 + dlim < cLine) : OpR X (compareOp (cmpOf o)) (rCmpD X.K o) := by
  cases o with
  | eq => exact op_eqDD hu
  | ne => exact op_neDD hu
  | isIn => exact op_inDD hu
  | notIn => exact op_notInDD hu
  | lt =>
    refine OpR.imp op_lt fun x y H Q h => ?_
    obtain ⟨Ze, d1, d2, k, h1, h2, e, _, q⟩ := h
    cases d1 <;> cases d2 <;> simp only [cmpD, intLt] at e <;> try (cases e; done)
    cases e
    exact ⟨_, _, den_int h1, den_int h2, bl_dec q⟩
  | le =>
    refine OpR.imp op_le fun x y H Q h => ?_
    obtain ⟨Ze, d1, d2, k, h1, h2, e, _, q⟩ := h
    cases d1 <;> cases d2 <;> simp only [cmpD, intLe] at e <;> try (cases e; done)
    cases e
    exact ⟨_, _, den_int h1, den_int h2, bl_dec q⟩
  | gt =>
    refine OpR.imp op_gt fun x y H Q h => ?_
    obtain ⟨Ze, d1, d2, k, h1, h2, e, _, q⟩ := h
    cases d1 <;> cases d2 <;> simp only [cmpD, intLt] at e <;> try (cases e; done)
    cases e
    exact ⟨_, _, den_int h1, den_int h2, bl_dec q⟩
  | ge =>
    refine OpR.imp op_ge fun x y H Q h => ?_
    obtain ⟨Ze, d1, d2, k, h1, h2, e, _, q⟩ := h
    cases d1 <;> cases d2 <;> simp only [cmpD, intLe] at e <;> try (cases e; done)
    cases e
    exact ⟨_, _, den_int h1, den_int h2, bl_dec q⟩
  | isN =>
    refine OpR.imp op_isN fun x y H Q h => ?_
    obtain ⟨Ze, d1, d2, k, h1, h2, e, hn, q⟩ := h
    cases hn (.inl rfl)
    simp only [cmpD] at e
    cases e
    exact ⟨den_non h2, by rw [isNon_dec h1]; exact q⟩
  | isNotN =>
    refine OpR.imp op_notN fun x y H Q h => ?_
    obtain ⟨Ze, d1, d2, k, h1, h2, e, hn, q⟩ := h
    cases hn (.inr rfl)
    simp only [cmpD] at e
    cases e
    exact ⟨den_non h2, by rw [isNon_dec h1]; exact q⟩
  | isB =>
    refine OpR.imp op_isBl fun x y H Q h => ?_
    obtain ⟨Ze, d1, d2, k, h1, h2, e, _, q⟩ := h
    cases d1 <;> cases d2 <;> simp only [cmpD] at e <;> try (cases e; done)
    cases e
    exact ⟨_, _, den_bl h1, den_bl h2, by simpa [Bool.beq_eq_decide_eq] using q⟩
  | isNotB =>
    refine OpR.imp op_notBl fun x y H Q h => ?_
    obtain ⟨Ze, d1, d2, k, h1, h2, e, _, q⟩ := h
    cases d1 <;> cases d2 <;> simp only [cmpD] at e <;> try (cases e; done)
    cases e
    exact ⟨_, _, den_bl h1, den_bl h2, by simpa [Bool.beq_eq_decide_eq] using q⟩

/-! ### items -/
theorem atD_atI {α β : Type} {xs : List α} {ds : List β} {i : Int} {d : β} (hl : xs.length = ds.length) (h : atD ds i = some d) : ∃ (j : Nat) (x : α), ds[j]? = some d ∧ xs[j]? = some x ∧ atI xs i = some x := by
  unfold atD at h
  have key : ∀ j : Nat, ds[j]? = some d → ∃ x, xs[j]? = some x := fun j e => by
    have : j < ds.length := (List.getElem?_eq_some_iff.mp e).1
    exact ⟨xs[j]'(by omega), List.getElem?_eq_getElem (by omega)⟩
  split at h
  · rename_i h0
    obtain ⟨x, hx⟩ := key _ h
    have hlt : i.toNat < xs.length := (List.getElem?_eq_some_iff.mp hx).1
    refine ⟨_, x, h, hx, ?_⟩
    unfold atI ixN
    rw [if_pos h0, if_pos (by omega)]
    exact hx
  · rename_i h0
    split at h
    · rename_i h1
      obtain ⟨x, hx⟩ := key _ h
      refine ⟨_, x, h, hx, ?_⟩
      unfold atI ixN
      rw [if_neg h0, if_pos (by omega)]
      rw [← hl] at hx
      exact hx
    · cases h
def rIxD (K : PySem.W.Frag) : R2 := fun x y H Q => ∃ Ze d1 d2 d, DenE K H Ze x d1 ∧ DenE K H Ze y d2 ∧ ixD d1 d2 = some d ∧ ∀ v, Den K H Ze v d → Q v H
theorem strOk_at {s : List Nat} {c : Nat} (h : PyData.strOk ⟨s.toArray⟩ = true) (hc : c ∈ s) : PyData.strOk ⟨#[c]⟩ = true := by
  unfold PyData.strOk at *
  simp only [List.all_toArray, List.all_eq_true] at h
  have := h c hc
  simpa using this
theorem ix_D : IxR X (rIxD X.K) := by
  have imp : ∀ {r r' : R2}, IxR X r → (∀ x y H Q, r' x y H Q → r x y H Q) → IxR X r' := fun h k value slice pins s σ H x y v u Q I rx ry q hs => h value slice pins s σ H x y v u Q I rx ry (k _ _ _ _ q) hs
  refine imp ix_seq fun x y H Q h => ?_
  obtain ⟨Ze, d1, d2, d, h1, h2, e, q⟩ := h
  cases d1 with
  | tup ds =>
    cases d2 <;> simp only [ixD] at e <;> try (cases e; done)
    obtain ⟨a, xs, rfl, s1, l1, g1⟩ := den_tup h1
    obtain rfl := den_int h2
    obtain ⟨j, w, e1, e2, e3⟩ := atD_atI g1.length e
    obtain ⟨w', e4, e5⟩ := g1.get e1
    rw [e2] at e4; cases e4
    exact .inr (.inl ⟨a, xs, _, w, rfl, rfl, s1, e3, q _ e5⟩)
  | lst ds =>
    cases d2 <;> simp only [ixD] at e <;> try (cases e; done)
    obtain ⟨a, xs, rfl, _, s1, l1, g1⟩ := h1
    obtain rfl := den_int h2
    obtain ⟨j, w, e1, e2, e3⟩ := atD_atI g1.length e
    obtain ⟨w', e4, e5⟩ := g1.get e1
    rw [e2] at e4; cases e4
    exact .inl ⟨a, xs, _, w, rfl, rfl, .inl s1, e3, q _ e5⟩
  | str s =>
    cases d2 <;> simp only [ixD] at e <;> try (cases e; done)
    obtain ⟨rfl, ok, hl⟩ := den_str h1
    obtain rfl := den_int h2
    obtain ⟨c, e1, rfl⟩ := Option.map_eq_some_iff.mp e
    obtain ⟨j, w, e2, e3, e4⟩ := atD_atI (xs := s) (ds := s) rfl e1
    rw [e2] at e3; cases e3
    exact .inr (.inr ⟨_, _, c, rfl, rfl, by simpa [Str.length] using hl, by simpa using e4, q _ (.str _ _ rfl (strOk_at ok (List.mem_of_getElem? e2)) (by show 1 ≤ sizeLine; decide))⟩)
  | dic ds => cases h1
  | set ds => cases e
  | non => cases e
  | bl b => cases e
  | int i => cases e

/-! ### slices -/
theorem clip_sIx (n : Nat) (d : Nat) (v : Int) : HT.sIx n d (some v) = clip n v := by
  have := HT.clip_eq v n d
  unfold clip
  split at this <;> rename_i h
  · rw [if_pos h]; omega
  · rw [if_neg h]; omega
theorem sIx_sx (n d : Nat) (o : Option Int) : HT.sIx n d o = sx n d o := by
  cases o with
  | none => rfl
  | some v => exact clip_sIx n d v
theorem cut_V (xs : List V) (lo hi : Option Int) : cutV xs lo hi = cut xs lo hi := by
  unfold cutV cut
  simp only [sIx_sx]
theorem cut_S (s : List Nat) (lo hi : Option Int) : cutS ⟨s.toArray⟩ lo hi = ⟨(cut s lo hi).toArray⟩ := by
  unfold cutS cut
  have e : (⟨s.toArray⟩ : Str).length = s.length := by simp [Str.length]
  simp only [sIx_sx, e]
theorem clip_le (n : Nat) (v : Int) : clip n v ≤ n := by
  unfold clip
  split <;> omega
theorem cut_all {α : Type} (xs : List α) (lo hi : Option Int) (h : HT.sIx xs.length 0 lo = 0 ∧ HT.sIx xs.length xs.length hi = xs.length) : cut xs lo hi = xs := by
  rw [sIx_sx, sIx_sx] at h
  unfold cut
  rw [h.1, h.2]
  simp
theorem cut_len {α : Type} (xs : List α) (lo hi : Option Int) : (cut xs lo hi).length ≤ xs.length := by
  unfold cut
  rw [List.length_take, List.length_drop]
  omega
theorem Dens.cut {K : PySem.W.Frag} {H : Hp} {Z : Zn} {xs : List V} {ds : List D} (h : Dens K H Z xs ds) (lo hi : Option Int) : Dens K H Z (Rk.cut xs lo hi) (Rk.cut ds lo hi) := by
  unfold Rk.cut
  rw [h.length]
  exact (h.drop _).take _
def rSlD (K : PySem.W.Frag) : V → Option Int → Option Int → Hp → VK → Prop := fun x lo hi H Q => ∃ Ze d1 d, DenE K H Ze x d1 ∧ slD d1 lo hi = some d ∧ ∀ v H', New K H H' Ze v d → Q v H'
theorem mem_cut {α : Type} {xs : List α} {lo hi : Option Int} {c : α} (h : c ∈ cut xs lo hi) : c ∈ xs := List.mem_of_mem_drop (List.mem_of_mem_take h)
theorem sl_D : SlR X (rSlD X.K) := by
  have imp : ∀ {r r' : V → Option Int → Option Int → Hp → VK → Prop}, SlR X r → (∀ x l h H Q, r' x l h H Q → r x l h H Q) → SlR X r' := fun h k pins s σ H x v vl vu lo hi sl Q I rx hs pl pu q => h pins s σ H x v vl vu lo hi sl Q I rx hs pl pu (k _ _ _ _ _ q)
  refine imp (sl_list.or (sl_tupA.or sl_str)) fun x lo hi H Q h => ?_
  obtain ⟨Ze, d1, d, h1, e, q⟩ := h
  cases d1 with
  | lst ds =>
    simp only [slD] at e; cases e
    obtain ⟨a, xs, rfl, _, s1, l1, g1⟩ := h1
    refine .inl ⟨a, xs, rfl, .inl s1, fun p hp => ?_⟩
    rw [cut_V]
    refine q _ _ ⟨same_upd hp, p, _, rfl, hp, upd_same, Nat.le_trans (cut_len _ _ _) l1, ?_⟩
    exact (g1.mono (Kp.of_same (same_upd hp) fun _ z => z)).cut lo hi
  | tup ds =>
    simp only [slD] at e; cases e
    obtain ⟨a, xs, rfl, s1, l1, g1⟩ := den_tup h1
    refine .inr (.inl ⟨a, xs, rfl, s1, fun hw => ?_, fun _ p hp => ?_⟩)
    · refine q _ _ ⟨Same.refl H, ?_⟩
      rw [cut_all ds lo hi (by rw [← g1.length]; exact hw)]
      exact h1
    · rw [cut_V]
      refine q _ _ ⟨same_upd hp, .tup (.inl (.inl upd_same)) (Nat.le_trans (cut_len _ _ _) l1) ?_⟩
      exact (g1.mono (Kp.of_same (same_upd hp) fun _ z => z)).cut lo hi
  | str s =>
    simp only [slD] at e; cases e
    obtain ⟨rfl, ok, hl⟩ := den_str h1
    refine .inr (.inr ⟨_, rfl, by simpa [Str.length] using hl, ?_⟩)
    rw [cut_S]
    refine q _ _ ⟨Same.refl H, .str _ _ rfl ?_ (Nat.le_trans (cut_len _ _ _) hl)⟩
    unfold PyData.strOk at *
    simp only [List.all_toArray, List.all_eq_true] at ok ⊢
    exact fun c hc => ok c (mem_cut hc)
  | dic ds => cases e
  | set ds => cases e
  | non => cases e
  | bl b => cases e
  | int i => cases e
end
end Rk
/-! Fw5: truth, built-ins, isinstance -/
namespace Rk
open PySem PySem.Spec PyProof.Rows L2
inductive DensT (K : PySem.W.Frag) (H : Hp) (Zt Ze : Zn) : List V → List D → Prop
  | nil : DensT K H Zt Ze [] []
  | cons {v : V} {vs : List V} {d : D} {ds : List D} : DenT K H Zt Ze v d → DensT K H Zt Ze vs ds → DensT K H Zt Ze (v :: vs) (d :: ds)
abbrev DensE (K : PySem.W.Frag) (H : Hp) (Ze : Zn) : List V → List D → Prop := DensT K H (fun _ => True) Ze
theorem New.ite {K : PySem.W.Frag} {H : Hp} {Ze : Zn} {p : Prop} {a b : Decidable p} {i j : Int} : New K H H Ze (.int (@ite _ p a i j)) (.int (@ite _ p b i j)) := by
  have : a = b := Subsingleton.elim _ _
  rw [this]
  exact New.int
section
variable {K : PySem.W.Frag} {H H' : Hp} {Zt Ze Zt' Ze' : Zn}
theorem DensT.mono {vs : List V} {ds : List D} (h : DensT K H Zt Ze vs ds) (s : Same H H') (zt : ∀ a, Zt a → Zt' a) (ze : ∀ a, Ze a → Ze' a) : DensT K H' Zt' Ze' vs ds := by
  induction h with
  | nil => exact .nil
  | cons h _ ih => exact .cons (h.mono s zt ze) ih
theorem DensT.e {vs : List V} {ds : List D} (h : DensT K H Zt Ze vs ds) : DensE K H Ze vs ds := h.mono (Same.refl H) (fun _ _ => trivial) fun _ q => q
theorem DensT.dens {vs : List V} {ds : List D} (h : DensT K H Zt Ze vs ds) (z : ∀ a, Ze a → Zt a) : Dens K H Zt vs ds := by
  induction h with
  | nil => exact .nil
  | cons h _ ih => exact .cons (h.den z) ih
theorem DensT.length {vs : List V} {ds : List D} (h : DensT K H Zt Ze vs ds) : vs.length = ds.length := by
  induction h with
  | nil => rfl
  | cons _ _ ih => simp [ih]
theorem DensT.one {vs : List V} {d : D} (h : DensT K H Zt Ze vs [d]) : ∃ v, vs = [v] ∧ DenT K H Zt Ze v d := by
  cases h with
  | cons h t => cases t; exact ⟨_, rfl, h⟩
theorem DensT.two {vs : List V} {d e : D} (h : DensT K H Zt Ze vs [d, e]) : ∃ v w, vs = [v, w] ∧ DenT K H Zt Ze v d ∧ DenT K H Zt Ze w e := by
  cases h with
  | cons h t =>
    cases t with
    | cons h2 t => cases t; exact ⟨_, _, rfl, h, h2⟩
theorem DensT.nil' {vs : List V} (h : DensT K H Zt Ze vs []) : vs = [] := by cases h; rfl
end

/-! ### truth -/
theorem int_ne0 (n : Nat) : ((n : Int) != 0) = !(decide (n = 0)) := by
  cases n with
  | zero => rfl
  | succ n => simp [bne]; omega
theorem truV_of {K : PySem.W.Frag} {H : Hp} {Ze : Zn} {x : V} {d : D} (h : DenE K H Ze x d) : TruV K x H (tru d) := by
  cases d with
  | non => rw [den_non h]; exact rfl
  | bl b => rw [den_bl h]; exact rfl
  | int i => rw [den_int h]; exact rfl
  | str s =>
    obtain ⟨rfl, _, hl⟩ := den_str h
    refine ⟨by simpa [Str.length] using hl, ?_⟩
    cases s with
    | nil => rfl
    | cons a s => simp only [tru, Str.length, List.size_toArray, List.length_cons, List.isEmpty_cons, Bool.not_false, int_ne0]; simp
  | tup ds =>
    obtain ⟨a, xs, rfl, s1, l1, g1⟩ := den_tup h
    refine .inr (.inl ⟨xs, s1, ?_⟩)
    cases g1 <;> rfl
  | lst ds =>
    obtain ⟨a, xs, rfl, _, s1, l1, g1⟩ := h
    refine .inl ⟨xs, .inl s1, ?_⟩
    cases g1 <;> rfl
  | set ds => cases h
  | dic ds => cases h

/-! ### built-ins -/
def bltV : Blt → Value
  | .len => .builtin "len" | .int => .type "int" | .abs => .builtin "abs" | .sum => .builtin "sum" | .min => .builtin "min" | .max => .builtin "max"
  | .all => .builtin "all" | .any => .builtin "any" | .tuple => .type "tuple" | .list => .type "list" | .str => .type "str" | .sorted => .builtin "sorted" | .set => .type "set"
def bltOk : Blt → Bool
  | .sorted => false
  | .set => false
  | _ => true
def rBltD (K : PySem.W.Frag) (b : Blt) : List V → Hp → VK → Prop := fun vs H Q => ∃ Ze ds d, DensE K H Ze vs ds ∧ bltD b ds = some d ∧ ∀ v H', New K H H' Ze v d → Q v H'
theorem ints_of {K : PySem.W.Frag} {H : Hp} {Z : Zn} : ∀ {xs : List V} {ds : List D} {ns : List Int}, Dens K H Z xs ds → intsD ds = some ns → xs = ns.map V.int
  | _, _, _, .nil, e => by simp only [intsD] at e; cases e; rfl
  | _, d :: ds, ns, .cons h t, e => by
    cases d <;> simp only [intsD] at e <;> try (cases e; done)
    obtain ⟨ms, e1, rfl⟩ := Option.map_eq_some_iff.mp e
    rw [den_int h, ints_of t e1]
    rfl
theorem bls_of {K : PySem.W.Frag} {H : Hp} {Z : Zn} : ∀ {xs : List V} {ds : List D} {ns : List Bool}, Dens K H Z xs ds → blsD ds = some ns → xs = ns.map V.bl
  | _, _, _, .nil, e => by simp only [blsD] at e; cases e; rfl
  | _, d :: ds, ns, .cons h t, e => by
    cases d <;> simp only [blsD] at e <;> try (cases e; done)
    obtain ⟨ms, e1, rfl⟩ := Option.map_eq_some_iff.mp e
    rw [den_bl h, bls_of t e1]
    rfl
theorem foldl_max (xs : List Int) : ∀ x : Int, xs.foldl max x ∈ x :: xs ∧ ∀ y ∈ x :: xs, y ≤ xs.foldl max x := by
  induction xs with
  | nil => intro x; simp
  | cons z xs ih =>
    intro x
    obtain ⟨h1, h2⟩ := ih (max x z)
    rw [List.foldl_cons]
    have h3 := h2 (max x z) List.mem_cons_self
    refine ⟨?_, fun y hy => ?_⟩
    · rcases List.mem_cons.mp h1 with h | h
      · rw [h]
        rcases Int.le_total x z with q | q
        · rw [Int.max_eq_right q]; simp
        · rw [Int.max_eq_left q]; simp
      · exact List.mem_cons_of_mem _ (List.mem_cons_of_mem _ h)
    · rcases List.mem_cons.mp hy with rfl | hy
      · exact Int.le_trans (Int.le_max_left _ _) h3
      · rcases List.mem_cons.mp hy with rfl | hy
        · exact Int.le_trans (Int.le_max_right _ _) h3
        · exact h2 y (List.mem_cons_of_mem _ hy)
theorem foldl_min (xs : List Int) : ∀ x : Int, xs.foldl min x ∈ x :: xs ∧ ∀ y ∈ x :: xs, xs.foldl min x ≤ y := by
  induction xs with
  | nil => intro x; simp
  | cons z xs ih =>
    intro x
    obtain ⟨h1, h2⟩ := ih (min x z)
    rw [List.foldl_cons]
    have h3 := h2 (min x z) List.mem_cons_self
    refine ⟨?_, fun y hy => ?_⟩
    · rcases List.mem_cons.mp h1 with h | h
      · rw [h]
        rcases Int.le_total x z with q | q
        · rw [Int.min_eq_left q]; simp
        · rw [Int.min_eq_right q]; simp
      · exact List.mem_cons_of_mem _ (List.mem_cons_of_mem _ h)
    · rcases List.mem_cons.mp hy with rfl | hy
      · exact Int.le_trans h3 (Int.min_le_left _ _)
      · rcases List.mem_cons.mp hy with rfl | hy
        · exact Int.le_trans h3 (Int.min_le_right _ _)
        · exact h2 y (List.mem_cons_of_mem _ hy)
theorem maxI_spec {ns : List Int} {m : Int} (h : maxI ns = some m) : 0 < ns.length ∧ ∀ k, k ∈ ns → (∀ y, y ∈ ns → y ≤ k) → k = m := by
  cases ns with
  | nil => cases h
  | cons x xs =>
    simp only [maxI] at h
    cases h
    obtain ⟨h1, h2⟩ := foldl_max xs x
    exact ⟨by simp, fun k hk hy => Int.le_antisymm (h2 k hk) (hy _ h1)⟩
theorem minI_spec {ns : List Int} {m : Int} (h : minI ns = some m) : 0 < ns.length ∧ ∀ k, k ∈ ns → (∀ y, y ∈ ns → k ≤ y) → k = m := by
  cases ns with
  | nil => cases h
  | cons x xs =>
    simp only [minI] at h
    cases h
    obtain ⟨h1, h2⟩ := foldl_min xs x
    exact ⟨by simp, fun k hk hy => Int.le_antisymm (hy _ h1) (h2 k hk)⟩
theorem strOk_ascii (s : String) (h : ∀ c ∈ s.toList, c.toNat < 0x110000) : PyData.strOk ⟨(s.toList.map Char.toNat).toArray⟩ = true := by
  unfold PyData.strOk
  simp only [List.all_toArray, List.all_eq_true, List.mem_map]
  rintro n ⟨c, hc, rfl⟩
  simpa using h c hc
theorem char_lt (c : Char) : c.toNat < 0x110000 := by
  have := c.valid
  rcases this with h | ⟨_, h⟩
  · have : c.toNat < 0xd800 := h
    omega
  · exact h

theorem blt1 {b : Blt} {ds : List D} {d : D} (h2 : b ≠ .min) (h3 : b ≠ .max) (e : bltD b ds = some d) : ∃ x, ds = [x] := by
  rcases ds with _ | ⟨x, _ | ⟨y, r⟩⟩
  · cases b <;> cases e
  · exact ⟨x, rfl⟩
  · cases b <;> first | (cases x <;> cases e; done) | (exact absurd rfl h2) | (exact absurd rfl h3)
theorem New.tupOf {K : PySem.W.Frag} {H : Hp} {Ze : Zn} {p : Addr} {xs : List V} {ds : List D} (hp : H p = none) (l : xs.length ≤ sizeLine) (g : Dens K H Ze xs ds) : New K H (upd H p (.tup xs)) Ze (.ref p) (.tup ds) :=
  ⟨same_upd hp, .tup (.inl (.inl upd_same)) l (g.mono (Kp.of_same (same_upd hp) fun _ z => z))⟩
theorem New.lstOf {K : PySem.W.Frag} {H : Hp} {Ze : Zn} {p : Addr} {xs : List V} {ds : List D} (hp : H p = none) (l : xs.length ≤ sizeLine) (g : Dens K H Ze xs ds) : New K H (upd H p (.lst xs)) Ze (.ref p) (.lst ds) :=
  ⟨same_upd hp, p, xs, rfl, hp, upd_same, l, g.mono (Kp.of_same (same_upd hp) fun _ z => z)⟩
theorem ofString_codes (s : String) : Str.ofString s = ⟨(s.toList.map Char.toNat).toArray⟩ := Str.ofString_eq_toList s
section
variable {X : Cx}
theorem call_lenD : CallR X (.builtin "len") (rBltD X.K .len) := by
  refine CallR.imp (call_len_seq.or call_len_str) fun vs H Q h => ?_
  obtain ⟨Ze, ds, d, hd, e, q⟩ := h
  obtain ⟨x, rfl⟩ := blt1 (by decide) (by decide) e
  obtain ⟨v, rfl, h⟩ := hd.one
  cases x <;> simp only [bltD] at e <;> try (cases e; done)
  · cases e
    obtain ⟨rfl, _, hl⟩ := den_str h
    exact .inr ⟨_, rfl, by simpa [Str.length] using hl, by simpa [Str.length] using q _ _ .int⟩
  · cases e
    obtain ⟨a, xs, rfl, s1, l1, g1⟩ := den_tup h
    exact .inl ⟨a, xs, rfl, .inr s1, by rw [g1.length]; exact q _ _ .int⟩
  · cases e
    obtain ⟨a, xs, rfl, _, s1, l1, g1⟩ := h
    exact .inl ⟨a, xs, rfl, .inl (.inl s1), by rw [g1.length]; exact q _ _ .int⟩
  · cases h
  · cases h
theorem call_intD : CallR X (.type "int") (rBltD X.K .int) := by
  refine CallR.imp call_int1 fun vs H Q h => ?_
  obtain ⟨Ze, ds, d, hd, e, q⟩ := h
  obtain ⟨x, rfl⟩ := blt1 (by decide) (by decide) e
  obtain ⟨v, rfl, h⟩ := hd.one
  cases x <;> simp only [bltD] at e <;> try (cases e; done)
  · cases e
    rw [den_bl h]
    exact .inr ⟨_, rfl, q _ _ .int⟩
  · cases e
    rw [den_int h]
    exact .inl ⟨_, rfl, q _ _ .int⟩
theorem call_absD : CallR X (.builtin "abs") (rBltD X.K .abs) := by
  refine CallR.imp call_abs fun vs H Q h => ?_
  obtain ⟨Ze, ds, d, hd, e, q⟩ := h
  obtain ⟨x, rfl⟩ := blt1 (by decide) (by decide) e
  obtain ⟨v, rfl, h⟩ := hd.one
  cases x <;> simp only [bltD] at e <;> try (cases e; done)
  cases e
  rw [den_int h]
  exact ⟨_, rfl, q _ _ .int⟩
theorem call_sumD (hc : X.calm = true) : CallR X (.builtin "sum") (rBltD X.K .sum) := by
  refine CallR.imp (cr_sum hc) fun vs H Q h => ?_
  obtain ⟨Ze, ds, d, hd, e, q⟩ := h
  obtain ⟨x, rfl⟩ := blt1 (by decide) (by decide) e
  obtain ⟨v, rfl, h⟩ := hd.one
  cases x <;> simp only [bltD] at e <;> try (cases e; done)
  obtain ⟨ns, e1, rfl⟩ := Option.map_eq_some_iff.mp e
  obtain ⟨a, xs, rfl, _, s1, l1, g1⟩ := h
  have := ints_of g1 e1
  subst this
  exact ⟨a, ns, rfl, .inl s1, q _ _ .int⟩
theorem call_allD (hc : X.calm = true) : CallR X (.builtin "all") (rBltD X.K .all) := by
  refine CallR.imp (cr_all hc) fun vs H Q h => ?_
  obtain ⟨Ze, ds, d, hd, e, q⟩ := h
  obtain ⟨x, rfl⟩ := blt1 (by decide) (by decide) e
  obtain ⟨v, rfl, h⟩ := hd.one
  cases x <;> simp only [bltD] at e <;> try (cases e; done)
  obtain ⟨ns, e1, rfl⟩ := Option.map_eq_some_iff.mp e
  obtain ⟨a, xs, rfl, _, s1, l1, g1⟩ := h
  have := bls_of g1 e1
  subst this
  exact ⟨a, ns, rfl, .inl s1, q _ _ .bl⟩
theorem call_anyD (hc : X.calm = true) : CallR X (.builtin "any") (rBltD X.K .any) := by
  refine CallR.imp (cr_any hc) fun vs H Q h => ?_
  obtain ⟨Ze, ds, d, hd, e, q⟩ := h
  obtain ⟨x, rfl⟩ := blt1 (by decide) (by decide) e
  obtain ⟨v, rfl, h⟩ := hd.one
  cases x <;> simp only [bltD] at e <;> try (cases e; done)
  obtain ⟨ns, e1, rfl⟩ := Option.map_eq_some_iff.mp e
  obtain ⟨a, xs, rfl, _, s1, l1, g1⟩ := h
  have := bls_of g1 e1
  subst this
  exact ⟨a, ns, rfl, .inl s1, q _ _ .bl⟩
theorem call_maxD (hc : X.calm = true) : CallR X (.builtin "max") (rBltD X.K .max) := by
  refine CallR.imp ((call_max2 hc).or (cr_max hc)) fun vs H Q h => ?_
  obtain ⟨Ze, ds, d, hd, e, q⟩ := h
  rcases ds with _ | ⟨x, _ | ⟨y, _ | ⟨z, r⟩⟩⟩
  · cases e
  · cases x <;> simp only [bltD] at e <;> try (cases e; done)
    obtain ⟨v, rfl, h⟩ := hd.one
    obtain ⟨a, xs, rfl, _, s1, l1, g1⟩ := h
    obtain ⟨ns, e1, e2⟩ := Option.bind_eq_some_iff.mp e
    obtain ⟨m, e3, rfl⟩ := Option.map_eq_some_iff.mp e2
    have := ints_of g1 e1
    subst this
    obtain ⟨m1, m2⟩ := maxI_spec e3
    refine .inr ⟨a, ns, rfl, .inl s1, m1, fun k hk hy => ?_⟩
    rw [m2 k hk hy]
    exact q _ _ .int
  · cases x <;> cases y <;> simp only [bltD] at e <;> try (cases e; done)
    cases e
    obtain ⟨v, w, rfl, h1, h2⟩ := hd.two
    rw [den_int h1, den_int h2]
    exact .inl ⟨_, _, rfl, q _ _ .ite⟩
  · cases x <;> cases y <;> cases e
theorem call_minD (hc : X.calm = true) : CallR X (.builtin "min") (rBltD X.K .min) := by
  refine CallR.imp ((call_min2 hc).or (cr_min hc)) fun vs H Q h => ?_
  obtain ⟨Ze, ds, d, hd, e, q⟩ := h
  rcases ds with _ | ⟨x, _ | ⟨y, _ | ⟨z, r⟩⟩⟩
  · cases e
  · cases x <;> simp only [bltD] at e <;> try (cases e; done)
    obtain ⟨v, rfl, h⟩ := hd.one
    obtain ⟨a, xs, rfl, _, s1, l1, g1⟩ := h
    obtain ⟨ns, e1, e2⟩ := Option.bind_eq_some_iff.mp e
    obtain ⟨m, e3, rfl⟩ := Option.map_eq_some_iff.mp e2
    have := ints_of g1 e1
    subst this
    obtain ⟨m1, m2⟩ := minI_spec e3
    refine .inr ⟨a, ns, rfl, .inl s1, m1, fun k hk hy => ?_⟩
    rw [m2 k hk hy]
    exact q _ _ .int
  · cases x <;> cases y <;> simp only [bltD] at e <;> try (cases e; done)
    cases e
    obtain ⟨v, w, rfl, h1, h2⟩ := hd.two
    rw [den_int h1, den_int h2]
    exact .inl ⟨_, _, rfl, q _ _ .ite⟩
  · cases x <;> cases y <;> cases e
theorem call_tupleD : CallR X (.type "tuple") (rBltD X.K .tuple) := by
  refine CallR.imp call_tuple_of fun vs H Q h => ?_
  obtain ⟨Ze, ds, d, hd, e, q⟩ := h
  obtain ⟨x, rfl⟩ := blt1 (by decide) (by decide) e
  obtain ⟨v, rfl, h⟩ := hd.one
  cases x <;> simp only [bltD] at e <;> try (cases e; done)
  · cases e
    obtain ⟨a, xs, rfl, s1, l1, g1⟩ := den_tup h
    exact ⟨a, xs, rfl, .inr ⟨s1, q _ _ ⟨Same.refl H, h⟩⟩⟩
  · cases e
    obtain ⟨a, xs, rfl, _, s1, l1, g1⟩ := h
    exact ⟨a, xs, rfl, .inl ⟨.inl s1, fun p hp => q _ _ (.tupOf hp l1 g1)⟩⟩
theorem call_listD : CallR X (.type "list") (rBltD X.K .list) := by
  refine CallR.imp call_list_of fun vs H Q h => ?_
  obtain ⟨Ze, ds, d, hd, e, q⟩ := h
  obtain ⟨x, rfl⟩ := blt1 (by decide) (by decide) e
  obtain ⟨v, rfl, h⟩ := hd.one
  cases x <;> simp only [bltD] at e <;> try (cases e; done)
  · cases e
    obtain ⟨a, xs, rfl, s1, l1, g1⟩ := den_tup h
    exact ⟨a, xs, rfl, .inr s1, fun p hp => q _ _ (.lstOf hp l1 g1)⟩
  · cases e
    obtain ⟨a, xs, rfl, _, s1, l1, g1⟩ := h
    exact ⟨a, xs, rfl, .inl (.inl s1), fun p hp => q _ _ (.lstOf hp l1 g1)⟩
theorem call_strD : CallR X (.type "str") (rBltD X.K .str) := by
  refine CallR.imp call_str_int fun vs H Q h => ?_
  obtain ⟨Ze, ds, d, hd, e, q⟩ := h
  obtain ⟨x, rfl⟩ := blt1 (by decide) (by decide) e
  obtain ⟨v, rfl, h⟩ := hd.one
  cases x <;> simp only [bltD] at e <;> try (cases e; done)
  split at e
  · rename_i hz
    cases e
    rw [den_int h]
    refine ⟨_, rfl, hz.1, q _ _ ⟨Same.refl H, .str _ _ (ofString_codes _) ?_ hz.2⟩⟩
    rw [ofString_codes]
    exact strOk_ascii _ fun c _ => char_lt c
  · cases e
theorem call_D (hc : X.calm = true) (b : Blt) (hb : bltOk b = true) : CallR X (bltV b) (rBltD X.K b) := by
  cases b with
  | len => exact call_lenD
  | int => exact call_intD
  | abs => exact call_absD
  | sum => exact call_sumD hc
  | min => exact call_minD hc
  | max => exact call_maxD hc
  | all => exact call_allD hc
  | any => exact call_anyD hc
  | tuple => exact call_tupleD
  | list => exact call_listD
  | str => exact call_strD
  | sorted => cases hb
  | set => cases hb

/-! ### isinstance -/
def tyOf : D → String
  | .non => "NoneType" | .bl _ => "bool" | .int _ => "int" | .str _ => "str" | .tup _ => "tuple" | .lst _ => "list" | .set _ => "set" | .dic _ => "dict"
def tyName : Ty → String
  | .int => "int" | .bool => "bool" | .str => "str" | .tuple => "tuple" | .list => "list"
theorem tyX_of {K : PySem.W.Frag} {H : Hp} {Ze : Zn} {x : V} {d : D} (h : DenE K H Ze x d) : TyX K H x (.type (tyOf d)) := by
  cases d with
  | non => rw [den_non h]; exact .base .non
  | bl b => rw [den_bl h]; exact .base (.bl b)
  | int i => rw [den_int h]; exact .base (.int i)
  | str s => rw [(den_str h).1]; exact .base (.str _)
  | tup ds =>
    obtain ⟨a, xs, rfl, s1, l1, g1⟩ := den_tup h
    rcases s1 with (s1 | ⟨o, s1⟩) | ⟨o, its, n, s1, s2, _⟩
    · exact .base (.tup s1)
    · exact .fTuple s1
    · exact .kTuple s1 s2
  | lst ds =>
    obtain ⟨a, xs, rfl, _, s1 | ⟨o, s1⟩, l1, g1⟩ := h
    · exact .base (.lst s1)
    · exact .base (.frz s1)
  | set ds => cases h
  | dic ds => cases h
theorem kit_D (t : Ty) (d : D) (h : (∀ ds, d ≠ .set ds) ∧ ∀ ds, d ≠ .dic ds) : kitB (tyOf d) (tyName t) = some (isTy t d) := by
  cases d with
  | set ds => exact absurd rfl (h.1 ds)
  | dic ds => exact absurd rfl (h.2 ds)
  | non => cases t <;> simp only [tyOf, tyName, isTy] <;> decide +kernel
  | bl b => cases t <;> simp only [tyOf, tyName, isTy] <;> decide +kernel
  | int b => cases t <;> simp only [tyOf, tyName, isTy] <;> decide +kernel
  | str b => cases t <;> simp only [tyOf, tyName, isTy] <;> decide +kernel
  | tup b => cases t <;> simp only [tyOf, tyName, isTy] <;> decide +kernel
  | lst b => cases t <;> simp only [tyOf, tyName, isTy] <;> decide +kernel
theorem kitAny_D {K : PySem.W.Frag} (d : D) (h : (∀ ds, d ≠ .set ds) ∧ ∀ ds, d ≠ .dic ds) : ∀ ts : List Ty, PySem.W.kitAny K (.type (tyOf d)) (ts.map fun t => Value.type (tyName t)) = some (ts.any fun t => isTy t d)
  | [] => kitAny_nil
  | t :: ts => by
    rw [List.map_cons, List.any_cons]
    refine kitAny_cons (kit_ty (kit_D t d h)) (fun e => ?_) fun e => ?_
    · rw [kitAny_D d h ts, e]; rfl
    · rw [e]; rfl
end
end Rk
/-! Fw6: the language's expressions keep what the evaluator says -/
namespace Rk
open PySem PySem.Spec PyProof.Rows L2

mutual
theorem leakEl_sub : ∀ (e : ME) (i : Nat), i ∈ leakEl e → i ∈ leak e
  | .var _, _, h => by simp only [leakEl] at h; cases h
  | .cst _, _, h => by simp only [leakEl] at h; cases h
  | .tup _, _, h => by simpa only [leakEl, leak] using h
  | .lst _, _, h => by simpa only [leakEl, leak] using h
  | .bin .., _, h => by simpa only [leakEl, leak] using h
  | .neg _, _, h => by simp only [leakEl] at h; cases h
  | .not _, _, h => by simp only [leakEl] at h; cases h
  | .cmp .., _, h => by simp only [leakEl] at h; cases h
  | .chn .., _, h => by simp only [leakEl] at h; cases h
  | .and a b, i, h => by
    simp only [leakEl, leak, List.mem_append] at h ⊢
    exact h.imp (leakEl_sub a i) (leakEl_sub b i)
  | .or a b, i, h => by
    simp only [leakEl, leak, List.mem_append] at h ⊢
    exact h.imp (leakEl_sub a i) (leakEl_sub b i)
  | .ite _ a b, i, h => by
    simp only [leakEl, leak, List.mem_append] at h ⊢
    exact h.imp (leakEl_sub a i) (leakEl_sub b i)
  | .ix .., _, h => by simpa only [leakEl, leak] using h
  | .sl0 _, _, h => by simpa only [leakEl, leak] using h
  | .slL .., _, h => by simpa only [leakEl, leak] using h
  | .slH .., _, h => by simpa only [leakEl, leak] using h
  | .slB .., _, h => by simpa only [leakEl, leak] using h
  | .rev _, _, h => by simpa only [leakEl, leak] using h
  | .call .., _, h => by simpa only [leakEl, leak] using h
  | .blt _ es, i, h => by
    simp only [leakEl, leak] at h ⊢
    exact leaksEl_sub es i h
  | .mth .., _, h => by simpa only [leakEl, leak] using h
  | .isi .., _, h => by simp only [leakEl] at h; cases h
  | .itk _ es, i, h => by
    simp only [leakEl, leak] at h ⊢
    exact leaksEl_sub es i h
  | .lc .., _, h => by simpa only [leakEl, leak] using h
  | .lc2 .., _, h => by simpa only [leakEl, leak] using h
theorem leaksEl_sub : ∀ (es : List ME) (i : Nat), i ∈ leaksEl es → i ∈ leaks es
  | [], _, h => by simp only [leaksEl] at h; cases h
  | e :: r, i, h => by
    simp only [leaksEl, leaks, List.mem_append] at h ⊢
    exact h.imp (leakEl_sub e i) (leaksEl_sub r i)
end

/-- Z, and the lists of the names at L that are held alone -/
def Zl (Z : Zn) (σ : L2.St) (env : En) (L : List Nat) : Zn := fun a => Z a ∨ ∃ i, i ∈ L ∧ isOw env i = true ∧ σ[i]? = some (some (V.ref a))
theorem Zl.mono {Z Z' : Zn} {σ : L2.St} {env : En} {L L' : List Nat} (hz : ∀ a, Z a → Z' a) (hl : ∀ i, i ∈ L → i ∈ L') : ∀ a, Zl Z σ env L a → Zl Z' σ env L' a :=
  fun a h => h.imp (hz a) fun ⟨i, h1, h2⟩ => ⟨i, hl i h1, h2⟩
theorem Zl.zin {Z : Zn} {σ : L2.St} {env : En} {L : List Nat} : ∀ a, Z a → Zl Z σ env L a := fun _ h => .inl h
theorem Zl.el {Z : Zn} {σ : L2.St} {env : En} {e : ME} : ∀ a, Zl Z σ env (leakEl e) a → Zl Z σ env (leak e) a := Zl.mono (fun _ h => h) (leakEl_sub e)
theorem Zl.noOw {Z : Zn} {σ : L2.St} {env : En} {L : List Nat} (h : noOw env L = true) : ∀ a, Zl Z σ env L a → Z a := by
  rintro a (h1 | ⟨i, h1, h2, _⟩)
  · exact h1
  · have := List.all_eq_true.mp h i h1
    rw [h2] at this
    cases this

/-- what is fixed while a def runs -/
structure Gm where
  K : PySem.W.Frag
  H0 : Hp
  Z0 : Zn
  O0 : Zn
  cf : CF
abbrev Gm.R (G : Gm) (σ : L2.St) (H : Hp) (Z : Zn) (env : En) : Prop := Rel G.K G.H0 G.Z0 G.O0 σ H Z env
def tE (G : Gm) (e : ME) : TE := fun σ H Q => ∃ env Z d, G.R σ H Z env ∧ evalE G.cf e env = some d ∧ ∀ v H' Z', Grow H Z H' Z' → DenT G.K H' (Zl Z' σ env (leak e)) (Zl Z' σ env (leakEl e)) v d → Q v H'
/-- the same where a list is a new one that nobody else knows -/
def tF (G : Gm) (e : ME) : TE := fun σ H Q => ∃ env Z d, G.R σ H Z env ∧ evalE G.cf e env = some d ∧ ∀ v H1 H' Z', Grow H Z H1 Z' → New G.K H1 H' (Zl Z' σ env (leakEl e)) v d → Q v H'
def tT (G : Gm) (e : ME) : TT := fun σ H Q => ∃ env Z d, G.R σ H Z env ∧ evalE G.cf e env = some d ∧ ∀ H' Z', Grow H Z H' Z' → Q (tru d) H'
def tEs (G : Gm) (es : List ME) : TA := fun σ H Q => ∃ env Z ds, G.R σ H Z env ∧ evalEs G.cf es env = some ds ∧ ∀ vs H' Z', Grow H Z H' Z' → DensT G.K H' (Zl Z' σ env (leaks es)) (Zl Z' σ env (leaksEl es)) vs ds → Q vs H'
section
variable {G : Gm} {X : Cx}
/-- a new value, then held by whoever wants -/
theorem New.grow {K : PySem.W.Frag} {H H1 H' : Hp} {Z Z' Ze Zt : Zn} {v : V} {d : D} (g : Grow H Z H1 Z') (n : New K H1 H' Ze v d) (he : ∀ a, Ze a → Zt a) :
    ∃ Z'', Grow H Z H' Z'' ∧ (∀ a, Z' a → Z'' a) ∧ DenT K H' (fun a => Z'' a ∨ Zt a) Ze v d := by
  have base : ∃ Z'', Grow H1 Z' H' Z'' ∧ DenT K H' (fun a => Z'' a ∨ Zt a) Ze v d := by
    cases d with
    | lst ds =>
      obtain ⟨s, p, xs, rfl, h0, h1, h2, h3⟩ := n
      refine ⟨fun a => Z' a ∨ a = p, ⟨s, fun _ h => .inl h, fun a h => ?_, fun a h => ?_⟩, p, xs, rfl, .inl (.inr rfl), .inl h1, h2, h3⟩
      · rcases h with h | rfl
        · exact .inl h
        · exact .inr h0
      · rcases h with h | rfl
        · exact .inl h
        · exact .inr (by rw [h1]; simp)
    | _ => exact ⟨Z', ⟨n.1, fun _ h => h, fun _ h => .inl h, fun _ h => .inl h⟩, n.2⟩
  obtain ⟨Z'', g2, h⟩ := base
  exact ⟨Z'', g.trans g2, g2.zin, h⟩
theorem tE_tF {e : ME} {σ : L2.St} {H : Hp} {Q : VK} (h : tE G e σ H Q) : tF G e σ H Q := by
  obtain ⟨env, Z, d, r, ev, q⟩ := h
  refine ⟨env, Z, d, r, ev, fun v H1 H' Z' g n => ?_⟩
  obtain ⟨Z'', g2, hz, h2⟩ := n.grow g (Zt := Zl Z' σ env (leakEl e)) fun _ h => h
  refine q v H' Z'' g2 (h2.mono (Same.refl H') (fun a h => ?_) (Zl.mono hz fun _ h => h))
  rcases h with h | h
  · exact .inl h
  · exact Zl.mono hz (leakEl_sub e) a h
theorem PE.f {e : Expr} {me : ME} (h : PE X e (tF G me)) : PE X e (tE G me) := h.imp fun _ _ _ q => tE_tF q
/-- two expressions in a row -/
theorem tE2 {a b : ME} {σ : L2.St} {H : Hp} {env : En} {Z : Zn} {d1 d2 : D} {R : V → V → Hp → Prop} (r : G.R σ H Z env) (e1 : evalE G.cf a env = some d1) (e2 : evalE G.cf b env = some d2)
    (q : ∀ x y H2 Z2, Grow H Z H2 Z2 → DenT G.K H2 (Zl Z2 σ env (leak a)) (Zl Z2 σ env (leakEl a)) x d1 → DenT G.K H2 (Zl Z2 σ env (leak b)) (Zl Z2 σ env (leakEl b)) y d2 → R x y H2) :
    tE G a σ H fun x H1 => tE G b σ H1 fun y H2 => R x y H2 :=
  ⟨env, Z, d1, r, e1, fun x H1 Z1 g1 h1 => ⟨env, Z1, d2, r.grow g1, e2, fun y H2 Z2 g2 h2 =>
    q x y H2 Z2 (g1.trans g2) (h1.mono g2.same (Zl.mono g2.zin fun _ h => h) (Zl.mono g2.zin fun _ h => h)) h2⟩⟩
theorem isOw_iff {env : En} {i : Nat} : isOw env i = true ↔ ∃ d, env[i]? = some (Slot.ow d) := by
  unfold isOw
  split
  · rename_i d h; exact ⟨fun _ => ⟨d, h⟩, fun _ => rfl⟩
  · rename_i h
    constructor
    · intro q; cases q
    · rintro ⟨d, e⟩
      exact absurd e (h d)
theorem se_var {e : Expr} {i : Nat} (h : PE X e (tVar i)) : PE X e (tE G (.var i)) := by
  refine h.imp fun σ H Q q => ?_
  obtain ⟨env, Z, d, r, ev, q⟩ := q
  simp only [evalE, getS] at ev
  split at ev
  · rename_i d' hd
    cases ev
    obtain ⟨v, h1, h2⟩ := r.va i _ hd
    refine ⟨v, h1, q v H Z Grow.refl ((DenT.of h2).mono (Same.refl H) Zl.zin Zl.zin)⟩
  · rename_i d' hd
    cases ev
    obtain ⟨a, h1, h2⟩ := r.ow i _ hd
    obtain ⟨ds, xs, rfl, e2, e3, e4⟩ := h2.is
    refine ⟨_, h1, q _ H Z Grow.refl ⟨a, xs, rfl, .inr ⟨i, by simp [leak], isOw_iff.mpr ⟨_, hd⟩, h1⟩, .inl e2, e3, e4.mono (Kp.zone Zl.zin)⟩⟩
  · cases ev
theorem se_cst {e : Expr} {v : V} {d : D} (h : PE X e (tC v)) (hd : ∀ H, Den G.K H (fun _ => False) v d) : PE X e (tE G (.cst d)) := by
  refine h.imp fun σ H Q q => ?_
  obtain ⟨env, Z, d', r, ev, q⟩ := q
  simp only [evalE] at ev
  cases ev
  exact q v H Z Grow.refl ((DenT.of (hd H)).mono (Same.refl H) (fun _ h => h.elim) fun _ h => h.elim)

/-! ### lists of expressions -/
theorem ses_nil : PA X [] (tEs G []) := by
  refine pa_nil.imp fun σ H Q q => ?_
  obtain ⟨env, Z, ds, r, ev, q⟩ := q
  simp only [evalEs] at ev
  cases ev
  exact q [] H Z Grow.refl .nil
theorem ses_cons {e : Expr} {es : List Expr} {me : ME} {ms : List ME} (h1 : PE X e (tE G me)) (h2 : PA X es (tEs G ms)) (hs : starEach (e :: es) X.env = (false, eval e X.env) :: starEach es X.env) :
    PA X (e :: es) (tEs G (me :: ms)) := by
  refine (pa_cons h1 h2 hs).imp fun σ H Q q => ?_
  obtain ⟨env, Z, ds, r, ev, q⟩ := q
  simp only [evalEs] at ev
  obtain ⟨d, e1, e2⟩ := Option.bind_eq_some_iff.mp ev
  obtain ⟨ds', e3, rfl⟩ := Option.map_eq_some_iff.mp e2
  refine ⟨env, Z, d, r, e1, fun v H1 Z1 g1 h1 => ⟨env, Z1, ds', r.grow g1, e3, fun vs H2 Z2 g2 h2 => q (v :: vs) H2 Z2 (g1.trans g2) (.cons ?_ ?_)⟩⟩
  · exact h1.mono g2.same (Zl.mono g2.zin fun i h => by simp only [leaks, List.mem_append]; exact .inl h) (Zl.mono g2.zin fun i h => by simp only [leaksEl, List.mem_append]; exact .inl h)
  · exact h2.mono (Same.refl H2) (Zl.mono (fun _ h => h) fun i h => by simp only [leaks, List.mem_append]; exact .inr h) (Zl.mono (fun _ h => h) fun i h => by simp only [leaksEl, List.mem_append]; exact .inr h)
theorem Zl.els {Z : Zn} {σ : L2.St} {env : En} {es : List ME} : ∀ a, Zl Z σ env (leaksEl es) a → Zl Z σ env (leaks es) a := Zl.mono (fun _ h => h) (leaksEl_sub es)
theorem evalEs_length {cf : CF} : ∀ {es : List ME} {env : En} {ds : List D}, evalEs cf es env = some ds → ds.length = es.length
  | [], env, ds, h => by simp only [evalEs] at h; cases h; rfl
  | e :: es, env, ds, h => by
    simp only [evalEs] at h
    obtain ⟨d, e1, e2⟩ := Option.bind_eq_some_iff.mp h
    obtain ⟨ds', e3, rfl⟩ := Option.map_eq_some_iff.mp e2
    simp [evalEs_length e3]
theorem se_tup {es : List Expr} {ms : List ME} {k : Nat} {pos : Pos} (h : PA X es (tEs G ms)) (hl : ms.length ≤ 1000) : PE X (.Tuple es k pos) (tE G (.tup ms)) := by
  refine (pe_tup h).imp fun σ H Q q => ?_
  obtain ⟨env, Z, d, r, ev, q⟩ := q
  simp only [evalE] at ev
  obtain ⟨ds, e1, rfl⟩ := Option.map_eq_some_iff.mp ev
  refine ⟨env, Z, ds, r, e1, fun vs H1 Z1 g1 h1 => ?_⟩
  have l : vs.length ≤ sizeLine := by rw [h1.length, evalEs_length e1]; exact Nat.le_trans hl (by decide)
  refine ⟨l, fun p hp => ?_⟩
  have n := New.tupOf hp l (h1.dens Zl.els)
  exact q _ _ Z1 (g1.trans ⟨n.1, fun _ h => h, fun _ h => .inl h, fun _ h => .inl h⟩) n.2
theorem se_lst {es : List Expr} {ms : List ME} {pos : Pos} (h : PA X es (tEs G ms)) (hl : ms.length ≤ 1000) : PE X (.List es pos) (tF G (.lst ms)) := by
  refine (pe_lst h).imp fun σ H Q q => ?_
  obtain ⟨env, Z, d, r, ev, q⟩ := q
  simp only [evalE] at ev
  obtain ⟨ds, e1, rfl⟩ := Option.map_eq_some_iff.mp ev
  refine ⟨env, Z, ds, r, e1, fun vs H1 Z1 g1 h1 => ?_⟩
  have l : vs.length ≤ sizeLine := by rw [h1.length, evalEs_length e1]; exact Nat.le_trans hl (by decide)
  exact ⟨l, fun p hp => q _ _ _ Z1 g1 (New.lstOf hp l (h1.dens Zl.els))⟩

/-! ### operators -/
theorem Zl.l {Z : Zn} {σ : L2.St} {env : En} {L M : List Nat} : ∀ a, Zl Z σ env L a → Zl Z σ env (L ++ M) a := Zl.mono (fun _ h => h) fun _ h => List.mem_append_left _ h
theorem Zl.r {Z : Zn} {σ : L2.St} {env : En} {L M : List Nat} : ∀ a, Zl Z σ env M a → Zl Z σ env (L ++ M) a := Zl.mono (fun _ h => h) fun _ h => List.mem_append_right _ h
theorem DenT.ze {K : PySem.W.Frag} {H : Hp} {Zt Ze Ze' : Zn} {v : V} {d : D} (h : DenT K H Zt Ze v d) (z : ∀ a, Ze a → Ze' a) : DenE K H Ze' v d := h.mono (Same.refl H) (fun _ _ => trivial) z
theorem se_bin {a b : Expr} {ma mb : ME} {pos : Pos} (o : Bin) (ha : PE X a (tE G ma)) (hb : PE X b (tE G mb)) (hK : X.K = G.K) : PE X (.BinOp a (opOf o) b pos) (tF G (.bin o ma mb)) := by
  refine (pe_op (op_binD o) ha hb).imp fun σ H Q q => ?_
  obtain ⟨env, Z, d, r, ev, q⟩ := q
  simp only [evalE] at ev
  obtain ⟨d1, e1, ev⟩ := Option.bind_eq_some_iff.mp ev
  obtain ⟨d2, e2, ev⟩ := Option.bind_eq_some_iff.mp ev
  refine tE2 r e1 e2 fun x y H2 Z2 g h1 h2 => ?_
  rw [hK]
  exact ⟨Zl Z2 σ env (leakEl ma ++ leakEl mb), d1, d2, d, h1.ze Zl.l, h2.ze Zl.r, ev, fun v H' n => q v H2 H' Z2 g n⟩
theorem se_neg {a : Expr} {ma : ME} {pos : Pos} (ha : PE X a (tE G ma)) : PE X (.UnaryOp .USub a pos) (tE G (.neg ma)) := by
  refine (pe_un un_neg ha).imp fun σ H Q q => ?_
  obtain ⟨env, Z, d, r, ev, q⟩ := q
  simp only [evalE] at ev
  obtain ⟨d1, e1, ev⟩ := Option.bind_eq_some_iff.mp ev
  refine ⟨env, Z, d1, r, e1, fun v H1 Z1 g1 h1 => ?_⟩
  cases d1 <;> try (cases ev; done)
  cases ev
  exact ⟨_, den_int h1, q _ _ Z1 g1 (.int _)⟩
theorem se_notV {a : Expr} {ma : ME} {pos : Pos} (ha : PE X a (tE G ma)) (hK : X.K = G.K) : PE X (.UnaryOp .Not a pos) (tE G (.not ma)) := by
  refine (pe_notT ha).imp fun σ H Q q => ?_
  obtain ⟨env, Z, d, r, ev, q⟩ := q
  simp only [evalE] at ev
  obtain ⟨d1, e1, rfl⟩ := Option.map_eq_some_iff.mp ev
  refine ⟨env, Z, d1, r, e1, fun v H1 Z1 g1 h1 => ⟨_, by rw [hK]; exact truV_of h1.e, q _ _ Z1 g1 (.bl _)⟩⟩
theorem st_not {a : Expr} {ma : ME} {pos : Pos} (ha : PT X a (tT G ma)) : PT X (.UnaryOp .Not a pos) (tT G (.not ma)) := by
  refine (pt_not ha).imp fun σ H Q q => ?_
  obtain ⟨env, Z, d, r, ev, q⟩ := q
  simp only [evalE] at ev
  obtain ⟨d1, e1, rfl⟩ := Option.map_eq_some_iff.mp ev
  exact ⟨env, Z, d1, r, e1, fun H1 Z1 g1 => q H1 Z1 g1⟩
theorem st_of {a : Expr} {ma : ME} (ha : PE X a (tE G ma)) (hK : X.K = G.K) (he : ∀ whole, isTrue a X.env whole = (do let v ← whole; standAt a.pos; holding [v] (truthy v))) : PT X a (tT G ma) := by
  refine (pt_truth ha he).imp fun σ H Q q => ?_
  obtain ⟨env, Z, d, r, ev, q⟩ := q
  exact ⟨env, Z, d, r, ev, fun v H1 Z1 g1 h1 => ⟨_, by rw [hK]; exact truV_of h1.e, q H1 Z1 g1⟩⟩
/-- the right side, where is None is asked -/
def noneRight (o : Cmp) (b : ME) : Prop := (o = .isN ∨ o = .isNotN) → b = .cst .non
theorem se_cmp {a b : Expr} {ma mb : ME} {pos : Pos} (o : Cmp) (ha : PE X a (tE G ma)) (hb : PE X b (tE G mb)) (hK : X.K = G.K) (hu : X.A.units + 1 + dlim < cLine) (hn : noneRight o mb) (hm : behindInMarks (cmpOf o) b = false) :
    PE X (.Compare a [cmpOf o] [b] pos) (tE G (.cmp o ma mb)) ∧ PT X (.Compare a [cmpOf o] [b] pos) (tT G (.cmp o ma mb)) := by
  constructor
  · refine (pe_cmpR (op_cmpD o hu) ha hb hm).imp fun σ H Q q => ?_
    obtain ⟨env, Z, d, r, ev, q⟩ := q
    simp only [evalE] at ev
    obtain ⟨d1, e1, ev⟩ := Option.bind_eq_some_iff.mp ev
    obtain ⟨d2, e2, ev⟩ := Option.bind_eq_some_iff.mp ev
    obtain ⟨k, e3, rfl⟩ := Option.map_eq_some_iff.mp ev
    refine tE2 r e1 e2 fun x y H2 Z2 g h1 h2 => ?_
    rw [hK]
    refine ⟨Zl Z2 σ env (leakEl ma ++ leakEl mb), d1, d2, k, h1.ze Zl.l, h2.ze Zl.r, e3, fun z => ?_, q _ _ Z2 g (.bl _)⟩
    have := hn z
    subst this
    simp only [evalE] at e2
    cases e2
    rfl
  · refine (pt_cmpR (op_cmpD o hu) ha hb hm).imp fun σ H Q q => ?_
    obtain ⟨env, Z, d, r, ev, q⟩ := q
    simp only [evalE] at ev
    obtain ⟨d1, e1, ev⟩ := Option.bind_eq_some_iff.mp ev
    obtain ⟨d2, e2, ev⟩ := Option.bind_eq_some_iff.mp ev
    obtain ⟨k, e3, rfl⟩ := Option.map_eq_some_iff.mp ev
    refine tE2 r e1 e2 fun x y H2 Z2 g h1 h2 => ?_
    rw [hK]
    refine ⟨Zl Z2 σ env (leakEl ma ++ leakEl mb), d1, d2, k, h1.ze Zl.l, h2.ze Zl.r, e3, fun z => ?_, k, rfl, q H2 Z2 g⟩
    have := hn z
    subst this
    simp only [evalE] at e2
    cases e2
    rfl
theorem se_chn {a b c : Expr} {ma mb mc : ME} {pos : Pos} (o p : Cmp) (ha : PE X a (tE G ma)) (hb : PE X b (tE G mb)) (hc : PE X c (tE G mc)) (hK : X.K = G.K) (hu : X.A.units + 1 + dlim < cLine)
    (hn : noneRight o mb) (hn2 : noneRight p mc) (hm : lastMarks [cmpOf o, cmpOf p] [b, c] = false) :
    PE X (.Compare a [cmpOf o, cmpOf p] [b, c] pos) (tE G (.chn o p ma mb mc)) ∧ PT X (.Compare a [cmpOf o, cmpOf p] [b, c] pos) (tT G (.chn o p ma mb mc)) := by
  have core : ∀ (σ : L2.St) (H : Hp) (env : En) (Z : Zn) (d : D) (Q : VK), G.R σ H Z env → evalE G.cf (.chn o p ma mb mc) env = some d → (∀ k H' Z', Grow H Z H' Z' → d = .bl k → Q (.bl k) H') →
      tChain (rCmpD X.K o) (rCmpD X.K p) (tE G ma) (tE G mb) (tE G mc) σ H Q := by
    intro σ H env Z d Q r ev q
    simp only [evalE] at ev
    obtain ⟨d1, e1, ev⟩ := Option.bind_eq_some_iff.mp ev
    obtain ⟨d2, e2, ev⟩ := Option.bind_eq_some_iff.mp ev
    obtain ⟨k, e3, ev⟩ := Option.bind_eq_some_iff.mp ev
    refine tE2 r e1 e2 fun x y H2 Z2 g h1 h2 => ?_
    rw [hK]
    refine ⟨Zl Z2 σ env (leakEl ma ++ leakEl mb), d1, d2, k, h1.ze Zl.l, h2.ze Zl.r, e3, fun z => ?_, k, rfl, ?_⟩
    · have := hn z
      subst this
      simp only [evalE] at e2
      cases e2
      rfl
    · cases k with
      | false =>
        simp only [Bool.false_eq_true, if_false] at ev ⊢
        cases ev
        exact q false H2 Z2 g rfl
      | true =>
        simp only [if_true] at ev ⊢
        obtain ⟨d3, e4, ev⟩ := Option.bind_eq_some_iff.mp ev
        obtain ⟨k2, e5, rfl⟩ := Option.map_eq_some_iff.mp ev
        refine ⟨env, Z2, d3, r.grow g, e4, fun w H3 Z3 g3 h3 => ?_⟩
        refine ⟨Zl Z3 σ env (leakEl mb ++ leakEl mc), d2, d3, k2, (h2.mono g3.same (fun _ _ => trivial) (Zl.mono g3.zin fun _ h => List.mem_append_left _ h)), h3.ze Zl.r, e5, fun z => ?_, q k2 H3 Z3 (g.trans g3) rfl⟩
        have := hn2 z
        subst this
        simp only [evalE] at e4
        cases e4
        rfl
  constructor
  · refine (pe_chain (op_cmpD o hu) (op_cmpD p hu) ha hb hc hm).imp fun σ H Q q => ?_
    obtain ⟨env, Z, d, r, ev, q⟩ := q
    exact core σ H env Z d Q r ev fun k H' Z' g e => by subst e; exact q _ _ Z' g (.bl k)
  · refine (pt_chain (op_cmpD o hu) (op_cmpD p hu) ha hb hc hm).imp fun σ H Q q => ?_
    obtain ⟨env, Z, d, r, ev, q⟩ := q
    exact core σ H env Z d _ r ev fun k H' Z' g e => by subst e; exact ⟨k, rfl, q H' Z' g⟩

/-! ### and, or, if else -/
theorem se_and {a b : Expr} {rest : List Expr} {ma mb : ME} {pos : Pos} (ha : PE X a (tE G ma)) (hb : PE X (.BoolOp .And (b :: rest) pos) (tE G mb)) (hK : X.K = G.K) : PE X (.BoolOp .And (a :: b :: rest) pos) (tE G (.and ma mb)) := by
  refine (pe_andT ha hb).imp fun σ H Q q => ?_
  obtain ⟨env, Z, d, r, ev, q⟩ := q
  simp only [evalE] at ev
  obtain ⟨d1, e1, ev⟩ := Option.bind_eq_some_iff.mp ev
  refine ⟨env, Z, d1, r, e1, fun v H1 Z1 g1 h1 => ⟨_, by rw [hK]; exact truV_of h1.e, ?_⟩⟩
  cases ht : tru d1 with
  | true =>
    rw [ht] at ev
    simp only [if_true] at ev ⊢
    exact ⟨env, Z1, d, r.grow g1, ev, fun w H2 Z2 g2 h2 => q w H2 Z2 (g1.trans g2) (h2.mono (Same.refl H2) Zl.r Zl.r)⟩
  | false =>
    rw [ht] at ev
    simp only [Bool.false_eq_true, if_false] at ev ⊢
    cases ev
    exact q v H1 Z1 g1 (h1.mono (Same.refl H1) Zl.l Zl.l)
theorem se_or {a b : Expr} {rest : List Expr} {ma mb : ME} {pos : Pos} (ha : PE X a (tE G ma)) (hb : PE X (.BoolOp .Or (b :: rest) pos) (tE G mb)) (hK : X.K = G.K) : PE X (.BoolOp .Or (a :: b :: rest) pos) (tE G (.or ma mb)) := by
  refine (pe_orT ha hb).imp fun σ H Q q => ?_
  obtain ⟨env, Z, d, r, ev, q⟩ := q
  simp only [evalE] at ev
  obtain ⟨d1, e1, ev⟩ := Option.bind_eq_some_iff.mp ev
  refine ⟨env, Z, d1, r, e1, fun v H1 Z1 g1 h1 => ⟨_, by rw [hK]; exact truV_of h1.e, ?_⟩⟩
  cases ht : tru d1 with
  | false =>
    rw [ht] at ev
    simp only [Bool.false_eq_true, if_false] at ev ⊢
    exact ⟨env, Z1, d, r.grow g1, ev, fun w H2 Z2 g2 h2 => q w H2 Z2 (g1.trans g2) (h2.mono (Same.refl H2) Zl.r Zl.r)⟩
  | true =>
    rw [ht] at ev
    simp only [if_true] at ev ⊢
    cases ev
    exact q v H1 Z1 g1 (h1.mono (Same.refl H1) Zl.l Zl.l)
theorem sw_and {a b : Expr} {rest : List Expr} {ma mb : ME} {pos : Pos} (ha : PT X a (tT G ma)) (hb : PW X (.BoolOp .And (b :: rest) pos) (tT G mb)) : PW X (.BoolOp .And (a :: b :: rest) pos) (tT G (.and ma mb)) := by
  refine (pw_and ha hb).imp fun σ H Q q => ?_
  obtain ⟨env, Z, d, r, ev, q⟩ := q
  simp only [evalE] at ev
  obtain ⟨d1, e1, ev⟩ := Option.bind_eq_some_iff.mp ev
  refine ⟨env, Z, d1, r, e1, fun H1 Z1 g1 => ?_⟩
  cases ht : tru d1 with
  | true =>
    rw [ht] at ev
    simp only [if_true] at ev ⊢
    exact ⟨env, Z1, d, r.grow g1, ev, fun H2 Z2 g2 => q H2 Z2 (g1.trans g2)⟩
  | false =>
    rw [ht] at ev
    simp only [Bool.false_eq_true, if_false] at ev ⊢
    cases ev
    have := q H1 Z1 g1
    rw [ht] at this
    exact this
theorem sw_or {a b : Expr} {rest : List Expr} {ma mb : ME} {pos : Pos} (ha : PT X a (tT G ma)) (hb : PW X (.BoolOp .Or (b :: rest) pos) (tT G mb)) : PW X (.BoolOp .Or (a :: b :: rest) pos) (tT G (.or ma mb)) := by
  refine (pw_or ha hb).imp fun σ H Q q => ?_
  obtain ⟨env, Z, d, r, ev, q⟩ := q
  simp only [evalE] at ev
  obtain ⟨d1, e1, ev⟩ := Option.bind_eq_some_iff.mp ev
  refine ⟨env, Z, d1, r, e1, fun H1 Z1 g1 => ?_⟩
  cases ht : tru d1 with
  | false =>
    rw [ht] at ev
    simp only [Bool.false_eq_true, if_false] at ev ⊢
    exact ⟨env, Z1, d, r.grow g1, ev, fun H2 Z2 g2 => q H2 Z2 (g1.trans g2)⟩
  | true =>
    rw [ht] at ev
    simp only [if_true] at ev ⊢
    cases ev
    have := q H1 Z1 g1
    rw [ht] at this
    exact this
theorem se_ite {c a b : Expr} {mc ma mb : ME} {pos : Pos} (hc : PT X c (tT G mc)) (ha : PE X a (tE G ma)) (hb : PE X b (tE G mb)) : PE X (.IfExp c a b pos) (tE G (.ite mc ma mb)) := by
  refine (pe_ifExp hc ha hb).imp fun σ H Q q => ?_
  obtain ⟨env, Z, d, r, ev, q⟩ := q
  simp only [evalE] at ev
  obtain ⟨d1, e1, ev⟩ := Option.bind_eq_some_iff.mp ev
  refine ⟨env, Z, d1, r, e1, fun H1 Z1 g1 => ?_⟩
  cases ht : tru d1 with
  | true =>
    rw [ht] at ev
    simp only [if_true] at ev ⊢
    exact ⟨env, Z1, d, r.grow g1, ev, fun w H2 Z2 g2 h2 => q w H2 Z2 (g1.trans g2) (h2.mono (Same.refl H2) Zl.l Zl.l)⟩
  | false =>
    rw [ht] at ev
    simp only [Bool.false_eq_true, if_false] at ev ⊢
    exact ⟨env, Z1, d, r.grow g1, ev, fun w H2 Z2 g2 h2 => q w H2 Z2 (g1.trans g2) (h2.mono (Same.refl H2) Zl.r Zl.r)⟩
theorem st_ite {c a b : Expr} {mc ma mb : ME} {pos : Pos} (hc : PT X c (tT G mc)) (ha : PT X a (tT G ma)) (hb : PT X b (tT G mb)) : PT X (.IfExp c a b pos) (tT G (.ite mc ma mb)) := by
  have h : PT X (.IfExp c a b pos) (fun σ H Q => tT G mc σ H fun k H1 => if k = true then tT G ma σ H1 Q else tT G mb σ H1 Q) := by
    refine ⟨fun pins s σ H Q I h => ?_⟩
    show wpAny _ _ (do if ← isTrue c X.env (eval c X.env) then isTrue a X.env (eval a X.env) else isTrue b X.env (eval b X.env)) _ _ _
    refine wpAny_bind (thn (hc.run pins s σ H _ I h) fun d s1 ⟨H1, I1, q1⟩ => ?_)
    cases d with
    | true => exact ha.run pins s1 σ H1 Q I1 q1
    | false => exact hb.run pins s1 σ H1 Q I1 q1
  refine h.imp fun σ H Q q => ?_
  obtain ⟨env, Z, d, r, ev, q⟩ := q
  simp only [evalE] at ev
  obtain ⟨d1, e1, ev⟩ := Option.bind_eq_some_iff.mp ev
  refine ⟨env, Z, d1, r, e1, fun H1 Z1 g1 => ?_⟩
  cases ht : tru d1 with
  | true =>
    rw [ht] at ev
    simp only [if_true] at ev ⊢
    exact ⟨env, Z1, d, r.grow g1, ev, fun H2 Z2 g2 => q H2 Z2 (g1.trans g2)⟩
  | false =>
    rw [ht] at ev
    simp only [Bool.false_eq_true, if_false] at ev ⊢
    exact ⟨env, Z1, d, r.grow g1, ev, fun H2 Z2 g2 => q H2 Z2 (g1.trans g2)⟩

/-! ### items, slices -/
theorem se_ix {a b : Expr} {ma mb : ME} {pos : Pos} (ha : PE X a (tE G ma)) (hb : PE X b (tE G mb)) (hK : X.K = G.K) (hs : PlainIx b) : PE X (.Subscript a b pos) (tE G (.ix ma mb)) := by
  refine (pe_ix ix_D ha hb hs).imp fun σ H Q q => ?_
  obtain ⟨env, Z, d, r, ev, q⟩ := q
  simp only [evalE] at ev
  obtain ⟨d1, e1, ev⟩ := Option.bind_eq_some_iff.mp ev
  obtain ⟨d2, e2, ev⟩ := Option.bind_eq_some_iff.mp ev
  refine tE2 r e1 e2 fun x y H2 Z2 g h1 h2 => ?_
  rw [hK]
  have key : ∃ d2', (d2' = d2) ∧ DenE G.K H2 (Zl Z2 σ env (leakEl ma)) y d2 := by
    cases d2 with
    | int i => exact ⟨_, rfl, (by rw [den_int h2]; exact Den.int i)⟩
    | _ => cases d1 <;> simp only [ixD] at ev <;> first | (cases ev; done) | (cases h1; done)
  obtain ⟨_, _, h3⟩ := key
  exact ⟨Zl Z2 σ env (leakEl ma), d1, d2, d, h1.e, h3, ev, fun v h => q v H2 Z2 g (DenT.of h)⟩
theorem sl_part {b : Expr} {mb : ME} (hb : PE X b (tE G mb)) : PO X (some b) (tPart (tE G mb)) := po_some hb
theorem se_sl0 {a : Expr} {ma : ME} {p2 pos : Pos} (ha : PE X a (tE G ma)) (hK : X.K = G.K) : PE X (.Subscript a (.Slice none none none p2) pos) (tF G (.sl0 ma)) := by
  refine (pe_slice sl_D ha po_none po_none).imp fun σ H Q q => ?_
  obtain ⟨env, Z, d, r, ev, q⟩ := q
  simp only [evalE] at ev
  obtain ⟨d1, e1, ev⟩ := Option.bind_eq_some_iff.mp ev
  refine ⟨env, Z, d1, r, e1, fun v H1 Z1 g1 h1 => ?_⟩
  show rSlD X.K v none none H1 Q
  rw [hK]
  exact ⟨_, d1, d, h1.e, ev, fun w H' n => q w H1 H' Z1 g1 n⟩
theorem se_slL {a b : Expr} {ma mb : ME} {p2 pos : Pos} (ha : PE X a (tE G ma)) (hb : PE X b (tE G mb)) (hK : X.K = G.K) : PE X (.Subscript a (.Slice (some b) none none p2) pos) (tF G (.slL ma mb)) := by
  refine (pe_slice sl_D ha (po_some hb) po_none).imp fun σ H Q q => ?_
  obtain ⟨env, Z, d, r, ev, q⟩ := q
  simp only [evalE] at ev
  obtain ⟨d1, e1, ev⟩ := Option.bind_eq_some_iff.mp ev
  obtain ⟨d2, e2, ev⟩ := Option.bind_eq_some_iff.mp ev
  refine ⟨env, Z, d1, r, e1, fun v H1 Z1 g1 h1 => ⟨env, Z1, d2, r.grow g1, e2, fun y H2 Z2 g2 h2 => ?_⟩⟩
  cases d2 <;> try (cases ev; done)
  refine ⟨_, den_int h2, ?_⟩
  show rSlD X.K v _ none H2 Q
  rw [hK]
  exact ⟨_, d1, d, (h1.mono g2.same (fun _ _ => trivial) (Zl.mono g2.zin fun _ h => h)), ev, fun w H' n => q w H2 H' Z2 (g1.trans g2) n⟩
theorem se_slH {a b : Expr} {ma mb : ME} {p2 pos : Pos} (ha : PE X a (tE G ma)) (hb : PE X b (tE G mb)) (hK : X.K = G.K) : PE X (.Subscript a (.Slice none (some b) none p2) pos) (tF G (.slH ma mb)) := by
  refine (pe_slice sl_D ha po_none (po_some hb)).imp fun σ H Q q => ?_
  obtain ⟨env, Z, d, r, ev, q⟩ := q
  simp only [evalE] at ev
  obtain ⟨d1, e1, ev⟩ := Option.bind_eq_some_iff.mp ev
  obtain ⟨d2, e2, ev⟩ := Option.bind_eq_some_iff.mp ev
  refine ⟨env, Z, d1, r, e1, fun v H1 Z1 g1 h1 => ⟨env, Z1, d2, r.grow g1, e2, fun y H2 Z2 g2 h2 => ?_⟩⟩
  cases d2 <;> try (cases ev; done)
  refine ⟨_, den_int h2, ?_⟩
  show rSlD X.K v none _ H2 Q
  rw [hK]
  exact ⟨_, d1, d, (h1.mono g2.same (fun _ _ => trivial) (Zl.mono g2.zin fun _ h => h)), ev, fun w H' n => q w H2 H' Z2 (g1.trans g2) n⟩
theorem se_slB {a b c : Expr} {ma mb mc : ME} {p2 pos : Pos} (ha : PE X a (tE G ma)) (hb : PE X b (tE G mb)) (hc : PE X c (tE G mc)) (hK : X.K = G.K) : PE X (.Subscript a (.Slice (some b) (some c) none p2) pos) (tF G (.slB ma mb mc)) := by
  refine (pe_slice sl_D ha (po_some hb) (po_some hc)).imp fun σ H Q q => ?_
  obtain ⟨env, Z, d, r, ev, q⟩ := q
  simp only [evalE] at ev
  obtain ⟨d1, e1, ev⟩ := Option.bind_eq_some_iff.mp ev
  obtain ⟨d2, e2, ev⟩ := Option.bind_eq_some_iff.mp ev
  obtain ⟨d3, e3, ev⟩ := Option.bind_eq_some_iff.mp ev
  refine ⟨env, Z, d1, r, e1, fun v H1 Z1 g1 h1 => ⟨env, Z1, d2, r.grow g1, e2, fun y H2 Z2 g2 h2 => ?_⟩⟩
  cases d2 <;> try (cases ev; done)
  refine ⟨_, den_int h2, env, Z2, d3, r.grow (g1.trans g2), e3, fun w H3 Z3 g3 h3 => ?_⟩
  cases d3 <;> try (cases ev; done)
  refine ⟨_, den_int h3, ?_⟩
  show rSlD X.K v _ _ H3 Q
  rw [hK]
  have g23 := g2.trans g3
  exact ⟨_, d1, d, (h1.mono g23.same (fun _ _ => trivial) (Zl.mono g23.zin fun _ h => h)), ev, fun w H' n => q w H3 H' Z3 (g1.trans g23) n⟩

/-! ### calls of built-ins -/
theorem se_blt {x : Str} {es : List Expr} {e : Expr} {ms : List ME} {p pos : Pos} (b : Blt) (hK : X.K = G.K) (hb : bltOk b = true) (hcm : X.calm = true) (hg : Gl X x) (hm : X.mg x = none) (hv : bootBuiltins x = some (bltV b)) (hnm : x ≠ "__name__")
    (hdb : (x == ("__debug__" : Str)) = false) (ha : PA X (e :: es) (tEs G ms)) (he : starEach (e :: es) X.env = (false, eval e X.env) :: starEach es X.env) (hpl : (backTo pos (starEach es X.env)).any (·.1) = false) :
    PE X (.Call (.Name x p) (e :: es) [] pos) (tF G (.blt b ms)) := by
  have h : PE X (.Call (.Name x p) (e :: es) [] pos) (tCB (rBltD X.K b) (tEs G ms)) := by
    have c := call_D (X := X) hcm b hb
    cases b <;> first
      | exact pe_callB c hg hm hv ha hnm hdb he hpl
      | exact pe_callTy c hg hm hv ha hnm hdb he hpl
  refine h.imp fun σ H Q q => ?_
  obtain ⟨env, Z, d, r, ev, q⟩ := q
  simp only [evalE] at ev
  obtain ⟨ds, e1, ev⟩ := Option.bind_eq_some_iff.mp ev
  refine ⟨env, Z, ds, r, e1, fun vs H1 Z1 g1 h1 => ?_⟩
  rw [hK]
  exact ⟨_, ds, d, h1.e, ev, fun w H' n => q w H1 H' Z1 g1 n⟩
end
end Rk
/-! Fw7: calls of defs, targets, what is walked, comprehensions -/
namespace Rk
open PySem PySem.Spec PyProof.Rows L2

/-! ### targets -/
mutual
def tslots : Tgt → List Nat
  | .nm i => [i]
  | .tp ts => tslotss ts
def tslotss : List Tgt → List Nat
  | [] => []
  | t :: ts => tslots t ++ tslotss ts
end
def Agree (σ σ' : L2.St) (L : List Nat) : Prop := σ'.length = σ.length ∧ ∀ i : Nat, i ∉ L → σ'[i]? = σ[i]?
theorem Agree.refl {σ : L2.St} {L : List Nat} : Agree σ σ L := ⟨rfl, fun _ _ => rfl⟩
theorem Agree.trans {σ σ1 σ2 : L2.St} {L M : List Nat} (a : Agree σ σ1 L) (b : Agree σ1 σ2 M) : Agree σ σ2 (L ++ M) :=
  ⟨b.1.trans a.1, fun i h => by rw [List.mem_append] at h; rw [b.2 i fun q => h (.inr q), a.2 i fun q => h (.inl q)]⟩
theorem Rel.set {K : PySem.W.Frag} {H0 H : Hp} {Z0 O0 Z : Zn} {σ : L2.St} {env : En} {v : V} {d : D} {i : Nat} (r : Rel K H0 Z0 O0 σ H Z env) (h : Den K H Z v d) : Rel K H0 Z0 O0 (σ.set i (some v)) H Z (env.set i (.va d)) where
  len := by rw [List.length_set, List.length_set]; exact r.len
  va := fun j e q => by
    by_cases hj : i = j
    · subst hj
      have hlt : i < env.length := by
        have := (List.getElem?_eq_some_iff.mp q).1
        rwa [List.length_set] at this
      rw [List.getElem?_set_self hlt] at q
      cases q
      exact ⟨v, by rw [List.getElem?_set_self (by rw [← r.len]; exact hlt)], h⟩
    · rw [List.getElem?_set_ne hj] at q
      rw [List.getElem?_set_ne hj]
      exact r.va j e q
  ow := fun j e q => by
    by_cases hj : i = j
    · subst hj
      have hlt : i < env.length := by
        have := (List.getElem?_eq_some_iff.mp q).1
        rwa [List.length_set] at this
      rw [List.getElem?_set_self hlt] at q
      cases q
    · rw [List.getElem?_set_ne hj] at q
      rw [List.getElem?_set_ne hj]
      exact r.ow j e q
  sep := fun j k e f a q1 q2 q3 q4 => by
    have key : ∀ (j : Nat) (e : D), (env.set i (.va d))[j]? = some (Slot.ow e) → i ≠ j ∧ env[j]? = some (Slot.ow e) := fun j e q => by
      by_cases hj : i = j
      · subst hj
        have hlt : i < env.length := by
          have := (List.getElem?_eq_some_iff.mp q).1
          rwa [List.length_set] at this
        rw [List.getElem?_set_self hlt] at q
        cases q
      · rw [List.getElem?_set_ne hj] at q
        exact ⟨hj, q⟩
    obtain ⟨n1, q1⟩ := key j e q1
    obtain ⟨n2, q2⟩ := key k f q2
    rw [List.getElem?_set_ne n1] at q3
    rw [List.getElem?_set_ne n2] at q4
    exact r.sep j k e f a q1 q2 q3 q4
  zok := r.zok
  z0 := r.z0
  zn := r.zn
  keep := r.keep
  od := r.od
theorem Rel.unset {K : PySem.W.Frag} {H0 H : Hp} {Z0 O0 Z : Zn} {σ : L2.St} {env : En} {i : Nat} (r : Rel K H0 Z0 O0 σ H Z env) : Rel K H0 Z0 O0 (σ.set i none) H Z (env.set i .un) := by
  have key : ∀ (j : Nat) (e : Slot), e ≠ .un → (env.set i .un)[j]? = some e → i ≠ j ∧ env[j]? = some e := fun j e ne q => by
    by_cases hj : i = j
    · subst hj
      have hlt : i < env.length := by
        have := (List.getElem?_eq_some_iff.mp q).1
        rwa [List.length_set] at this
      rw [List.getElem?_set_self hlt] at q
      cases q
      exact absurd rfl ne
    · rw [List.getElem?_set_ne hj] at q
      exact ⟨hj, q⟩
  refine ⟨by rw [List.length_set, List.length_set]; exact r.len, fun j e q => ?_, fun j e q => ?_, fun j k e f a q1 q2 q3 q4 => ?_, r.zok, r.z0, r.zn, r.keep, r.od⟩
  · obtain ⟨n, q⟩ := key j _ (fun z => by cases z) q
    rw [List.getElem?_set_ne n]
    exact r.va j e q
  · obtain ⟨n, q⟩ := key j _ (fun z => by cases z) q
    rw [List.getElem?_set_ne n]
    exact r.ow j e q
  · obtain ⟨n1, q1⟩ := key j _ (fun z => by cases z) q1
    obtain ⟨n2, q2⟩ := key k _ (fun z => by cases z) q2
    rw [List.getElem?_set_ne n1] at q3
    rw [List.getElem?_set_ne n2] at q4
    exact r.sep j k e f a q1 q2 q3 q4
theorem Rel.wipe {K : PySem.W.Frag} {H0 H : Hp} {Z0 O0 Z : Zn} {σ : L2.St} {env : En} (r : Rel K H0 Z0 O0 σ H Z env) : ∀ vs : List Nat, Rel K H0 Z0 O0 (L2.wipe σ vs) H Z (wipeE env vs)
  | [] => r
  | v :: vs => by
    unfold L2.wipe wipeE
    exact (Rel.wipe r vs).unset
theorem wipe_in {σ : L2.St} {i : Nat} : ∀ {vs : List Nat}, i ∈ vs → i < σ.length → (L2.wipe σ vs)[i]? = some none
  | v :: vs, h, hl => by
    unfold L2.wipe
    by_cases e : v = i
    · subst e
      rw [List.getElem?_set_self (by rw [wipe_length]; exact hl)]
    · rw [List.getElem?_set_ne e]
      rcases List.mem_cons.mp h with h | h
      · exact absurd h.symm e
      · exact wipe_in h hl
theorem wipe_agree {σ σ' : L2.St} {vs L : List Nat} (a : Agree (L2.wipe σ vs) σ' L) (h : ∀ i, i ∈ L → i ∈ vs) : L2.wipe σ' vs = L2.wipe σ vs := by
  have hl : σ'.length = σ.length := by rw [a.1, wipe_length]
  refine List.ext_getElem? fun i => ?_
  by_cases hi : i ∈ vs
  · by_cases hlt : i < σ.length
    · rw [wipe_in hi (by rw [hl]; exact hlt), wipe_in hi hlt]
    · rw [List.getElem?_eq_none (by rw [wipe_length, hl]; omega), List.getElem?_eq_none (by rw [wipe_length]; omega)]
  · rw [L2.wipe_out hi, a.2 i fun q => hi (h i q)]
mutual
theorem asgT_out : ∀ {t : Tgt} {d : D} {env env1 : En}, asgT t d env = some env1 → env1.length = env.length ∧ (∀ i : Nat, i ∉ tslots t → env1[i]? = env[i]?) ∧ ∀ i, i ∈ tslots t → isOw env1 i = false
  | .nm j, d, env, env1, h => by
    simp only [asgT] at h
    cases h
    refine ⟨List.length_set, fun i hi => ?_, fun i hi => ?_⟩
    · simp only [tslots, List.mem_singleton] at hi
      exact List.getElem?_set_ne fun q => hi q.symm
    · simp only [tslots, List.mem_singleton] at hi
      subst hi
      unfold isOw
      by_cases hlt : i < env.length
      · rw [List.getElem?_set_self hlt]
      · rw [List.getElem?_eq_none (by rw [List.length_set]; omega)]
  | .tp ts, d, env, env1, h => by
    cases d <;> simp only [asgT] at h <;> try (cases h; done)
    simp only [tslots]
    exact asgTs_out h
theorem asgTs_out : ∀ {ts : List Tgt} {ds : List D} {env env1 : En}, asgTs ts ds env = some env1 → env1.length = env.length ∧ (∀ i : Nat, i ∉ tslotss ts → env1[i]? = env[i]?) ∧ ∀ i, i ∈ tslotss ts → isOw env1 i = false
  | [], [], env, env1, h => by
    simp only [asgTs] at h
    cases h
    exact ⟨rfl, fun _ _ => rfl, fun i hi => by simp only [tslotss] at hi; cases hi⟩
  | [], _ :: _, _, _, h => by simp only [asgTs] at h; cases h
  | _ :: _, [], _, _, h => by simp only [asgTs] at h; cases h
  | t :: ts, d :: ds, env, env1, h => by
    simp only [asgTs] at h
    obtain ⟨env2, h1, h2⟩ := Option.bind_eq_some_iff.mp h
    obtain ⟨l1, o1, i1⟩ := asgT_out h1
    obtain ⟨l2, o2, i2⟩ := asgTs_out h2
    refine ⟨l2.trans l1, fun i hi => ?_, fun i hi => ?_⟩
    · simp only [tslotss, List.mem_append] at hi
      rw [o2 i fun q => hi (.inr q), o1 i fun q => hi (.inl q)]
    · simp only [tslotss, List.mem_append] at hi
      by_cases q : i ∈ tslotss ts
      · exact i2 i q
      · have := i1 i (hi.resolve_right q)
        unfold isOw at this ⊢
        rw [o2 i q]
        exact this
end
/-- the names held alone in the one frame are so in the other -/
def OwSub (env1 : En) (σ1 : L2.St) (env : En) (σ : L2.St) : Prop := ∀ i, isOw env1 i = true → isOw env i = true ∧ σ1[i]? = σ[i]?
theorem OwSub.zl {env1 env : En} {σ1 σ : L2.St} {Z : Zn} {L : List Nat} (s : OwSub env1 σ1 env σ) : ∀ a, Zl Z σ1 env1 L a → Zl Z σ env L a := fun a h => h.imp_right fun ⟨i, h1, h2, h3⟩ => ⟨i, h1, (s i h2).1, by rw [← (s i h2).2]; exact h3⟩
theorem OwSub.trans {e1 e2 e3 : En} {s1 s2 s3 : L2.St} (a : OwSub e1 s1 e2 s2) (b : OwSub e2 s2 e3 s3) : OwSub e1 s1 e3 s3 := fun i h => ⟨(b i (a i h).1).1, (a i h).2.trans (b i (a i h).1).2⟩
theorem wipeE_out {env : En} {i : Nat} : ∀ {vs : List Nat}, i ∉ vs → (wipeE env vs)[i]? = env[i]?
  | [], _ => rfl
  | v :: vs, h => by
    unfold wipeE
    have ne : v ≠ i := fun e => h (by rw [e]; exact List.mem_cons_self)
    rw [List.getElem?_set_ne ne]
    exact wipeE_out fun q => h (List.mem_cons_of_mem _ q)
theorem wipeE_in {env : En} {i : Nat} : ∀ {vs : List Nat}, i ∈ vs → isOw (wipeE env vs) i = false
  | v :: vs, h => by
    unfold wipeE isOw
    by_cases e : v = i
    · subst e
      by_cases hlt : v < (wipeE env vs).length
      · rw [List.getElem?_set_self hlt]
      · rw [List.getElem?_eq_none (by rw [List.length_set]; omega)]
    · rw [List.getElem?_set_ne e]
      rcases List.mem_cons.mp h with h | h
      · exact absurd h.symm e
      · exact wipeE_in h
theorem OwSub.wipe {env : En} {σ : L2.St} {vs : List Nat} : OwSub (wipeE env vs) (L2.wipe σ vs) env σ := fun i h => by
  by_cases hi : i ∈ vs
  · rw [wipeE_in hi] at h; cases h
  · refine ⟨?_, L2.wipe_out hi⟩
    unfold isOw at h ⊢
    rw [wipeE_out hi] at h
    exact h
theorem OwSub.asg {t : Tgt} {d : D} {env env1 : En} {σ σ1 : L2.St} (h : asgT t d env = some env1) (a : Agree σ σ1 (tslots t)) : OwSub env1 σ1 env σ := fun i hi => by
  obtain ⟨_, o, n⟩ := asgT_out h
  by_cases q : i ∈ tslots t
  · rw [n i q] at hi; cases hi
  · refine ⟨?_, a.2 i q⟩
    unfold isOw at hi ⊢
    rw [o i q] at hi
    exact hi

def gT (G : Gm) (t : Tgt) : TG := fun v σ H Q => ∃ env Z d env1, G.R σ H Z env ∧ Den G.K H Z v d ∧ asgT t d env = some env1 ∧ ∀ σ', G.R σ' H Z env1 → Agree σ σ' (tslots t) → Q σ' H
def gTs (G : Gm) (ts : List Tgt) : TGs := fun vs σ H Q => ∃ env Z ds env1, G.R σ H Z env ∧ Dens G.K H Z vs ds ∧ asgTs ts ds env = some env1 ∧ ∀ σ', G.R σ' H Z env1 → Agree σ σ' (tslotss ts) → Q σ' H
theorem _root_.L2.PG.imp {X : Cx} {e : Expr} {t t' : TG} (h : PG X e t) (k : ∀ v σ H Q, t' v σ H Q → t v σ H Q) : PG X e t' := ⟨fun pins s σ H v u Q I r q => h.run pins s σ H v u Q I r (k _ _ _ _ q)⟩
theorem _root_.L2.PGs.imp {X : Cx} {e : List Expr} {t t' : TGs} (h : PGs X e t) (k : ∀ v σ H Q, t' v σ H Q → t v σ H Q) : PGs X e t' := ⟨fun pins s σ H v u Q I r q => h.run pins s σ H v u Q I r (k _ _ _ _ q)⟩
section
variable {G : Gm} {X : Cx}
theorem sg_nm {e : Expr} {i : Nat} (h : PG X e (gName i)) : PG X e (gT G (.nm i)) := by
  refine h.imp fun v σ H Q q => ?_
  obtain ⟨env, Z, d, env1, r, hd, ha, q⟩ := q
  simp only [asgT] at ha
  cases ha
  exact q _ (r.set hd) ⟨List.length_set, fun j hj => List.getElem?_set_ne fun z => hj (by simp [tslots, z])⟩
theorem sgs_nil : PGs X [] (gTs G []) := by
  refine pgs_nil.imp fun vs σ H Q q => ?_
  obtain ⟨env, Z, ds, env1, r, hd, ha, q⟩ := q
  cases ds with
  | nil =>
    cases hd
    simp only [asgTs] at ha
    cases ha
    exact ⟨rfl, q σ r .refl⟩
  | cons _ _ => simp only [asgTs] at ha; cases ha
theorem sgs_cons {e : Expr} {es : List Expr} {t : Tgt} {ts : List Tgt} (h1 : PG X e (gT G t)) (h2 : PGs X es (gTs G ts)) (hs : (assignEach (e :: es) X.env).map (·.2) = assign e X.env :: (assignEach es X.env).map (·.2)) :
    PGs X (e :: es) (gTs G (t :: ts)) := by
  refine (pgs_cons h1 h2 hs).imp fun vs σ H Q q => ?_
  obtain ⟨env, Z, ds, env1, r, hd, ha, q⟩ := q
  cases hd with
  | nil => simp only [asgTs] at ha; cases ha
  | cons hv ht =>
    simp only [asgTs] at ha
    obtain ⟨env2, e1, e2⟩ := Option.bind_eq_some_iff.mp ha
    refine ⟨_, _, rfl, env, Z, _, env2, r, hv, e1, fun σ1 r1 a1 => ⟨env2, Z, _, env1, r1, ht, e2, fun σ2 r2 a2 => q σ2 r2 ?_⟩⟩
    simp only [tslotss]
    exact a1.trans a2
theorem asgTs_length {ts : List Tgt} : ∀ {ds : List D} {env env1 : En}, asgTs ts ds env = some env1 → ds.length = ts.length := by
  induction ts with
  | nil => intro ds env env1 h; cases ds <;> simp only [asgTs] at h <;> first | rfl | cases h
  | cons t ts ih =>
    intro ds env env1 h
    cases ds <;> simp only [asgTs] at h <;> try (cases h; done)
    obtain ⟨env2, h1, h2⟩ := Option.bind_eq_some_iff.mp h
    simp [ih h2]
theorem sg_tp {es : List Expr} {ts : List Tgt} {k : Nat} {pos : Pos} (hc : X.calm = true) (hK : X.K = G.K) (h : PGs X es (gTs G ts)) (hn : (assignEach es X.env).length = ts.length) (hst : (assignEach es X.env).findIdx? (·.1) = none) :
    PG X (.Tuple es k pos) (gT G (.tp ts)) := by
  refine (pg_tup hc h hn hst).imp fun v σ H Q q => ?_
  obtain ⟨env, Z, d, env1, r, hd, ha, q⟩ := q
  cases d <;> simp only [asgT] at ha <;> try (cases ha; done)
  obtain ⟨a, xs, rfl, s1, l1, g1⟩ := den_tup hd
  refine ⟨a, xs, rfl, by rw [hK]; exact s1, by rw [g1.length, asgTs_length ha], env, Z, _, env1, r, g1, ha, fun σ' r' a' => q σ' r' ?_⟩
  simp only [tslots]
  exact a'

/-! ### calls of the program's defs -/
def spD (K : PySem.W.Frag) (cf : CF) (f : String) (n : Nat) : Sp := fun vs H Q _ => vs.length = n ∧ ∃ Zc ds d, Dens K H Zc vs ds ∧ (∀ a, Zc a → H a ≠ none) ∧ cf f ds = some d ∧ ∀ v H' Z', Grow H Zc H' Z' → Den K H' Z' v d → Q v H'
structure FnAt (X : Cx) (K : PySem.W.Frag) (cf : CF) (lev : Nat) (x : Str) (f : String) (n : Nat) : Prop where
  ex : ∃ (a : Addr) (fd : FuncData) (ps : List Str), X.mg x = some (.ref a) ∧ PySem.W.keepIn X.K (.ref a) = true ∧ Binds X.K fd ps [] ∧ FnOk X.prog X.w X.K X.mg X.base CX0 lev a fd ps (spD K cf f n)
theorem call_imp {f : String} {ms : List ME} {n : Nat} {σ : L2.St} {H : Hp} {Q : VK} (hn : ms.length = n) (q : tE G (.call f ms) σ H Q) : tCall (spD G.K G.cf f n) [] E0 (tEs G ms) σ H Q := by
  obtain ⟨env, Z, d, r, ev, q⟩ := q
  simp only [evalE] at ev
  obtain ⟨ds, e1, ev⟩ := Option.bind_eq_some_iff.mp ev
  refine ⟨env, Z, ds, r, e1, fun vs H1 Z1 g1 h1 => ⟨by rw [List.append_nil, h1.length, evalEs_length e1, hn], Zl Z1 σ env (leaks ms), ds, d, by rw [List.append_nil]; exact h1.dens Zl.els, ?_, ev, fun v H' Z' g h => ?_⟩⟩
  · have r1 := r.grow g1
    rintro a (h | ⟨i, _, h2, h3⟩)
    · exact r1.zok a h
    · obtain ⟨e, he⟩ := isOw_iff.mp h2
      obtain ⟨b, q1, q2⟩ := r1.ow i e he
      rw [h3] at q1
      cases q1
      obtain ⟨_, _, _, q3, _⟩ := q2.is
      rw [q3]; simp
  · refine q v H' (fun a => Z1 a ∨ (Z' a ∧ H1 a = none)) (g1.trans ⟨g.same, fun _ z => .inl z, fun a z => z.imp id (·.2), fun a z => ?_⟩) ((DenT.of h).mono (Same.refl H') (fun a z => ?_) fun a z => ?_)
    · rcases z with z | ⟨z1, z2⟩
      · exact .inl z
      · rcases g.ok a z1 with z3 | z3
        · rcases z3 with z3 | ⟨i, _, h2, h3⟩
          · exact .inl z3
          · exfalso
            obtain ⟨e, he⟩ := isOw_iff.mp h2
            obtain ⟨b, q1, q2⟩ := (r.grow g1).ow i e he
            rw [h3] at q1
            cases q1
            obtain ⟨_, _, _, q3, _⟩ := q2.is
            rw [q3] at z2; cases z2
        · exact .inr z3
    all_goals
      show Zl _ σ env (leaks ms) a
      rcases g.znew a z with z2 | z2
      · exact Zl.mono (fun _ z => .inl z) (fun _ z => z) a z2
      · exact .inl (.inr ⟨z, z2⟩)
theorem se_call {x : Str} {f : String} {n lev : Nat} {e : Expr} {es : List Expr} {ms : List ME} {p pos : Pos} (F : FnAt X G.K G.cf lev x f n) (hr : Room lev X.A) (hg : Gl X x) (hdb : (x == ("__debug__" : Str)) = false) (hn : ms.length = n) (ha : PA X (e :: es) (tEs G ms))
    (he : starEach (e :: es) X.env = (false, eval e X.env) :: starEach es X.env) (hpl : (backTo pos (starEach es X.env)).any (·.1) = false) : PE X (.Call (.Name x p) (e :: es) [] pos) (tE G (.call f ms)) := by
  obtain ⟨a, fd, ps, hm, hk, hb, F⟩ := F.ex
  exact (pe_call F hr hg hm hk hb .nil pass0 ha hdb he hpl).imp fun σ H Q q => call_imp hn q
theorem se_call0 {x : Str} {f : String} {lev : Nat} {p pos : Pos} (F : FnAt X G.K G.cf lev x f 0) (hr : Room lev X.A) (hg : Gl X x) (hdb : (x == ("__debug__" : Str)) = false) : PE X (.Call (.Name x p) [] [] pos) (tE G (.call f [])) := by
  obtain ⟨a, fd, ps, hm, hk, hb, F⟩ := F.ex
  refine (pe_call0 F hr hg hm hk hb .nil pass0 hdb).imp fun σ H Q q => ?_
  obtain ⟨env, Z, ds, r, e1, h⟩ := call_imp rfl q
  simp only [evalEs] at e1
  cases e1
  exact h [] H Z Grow.refl .nil

/-! ### isinstance -/
def tTys (ts : List Ty) : TA := fun _ H Q => Q (ts.map fun t => V.ty (tyName t)) H
theorem cls_all : ∀ ts : List Ty, Paired ClsV (ts.map fun t => V.ty (tyName t)) (ts.map fun t => Value.type (tyName t))
  | [] => .nil
  | t :: ts => .cons (.ty _) (cls_all ts)
theorem noSD {K : PySem.W.Frag} {H : Hp} {Ze : Zn} {x : V} {d : D} (h : DenE K H Ze x d) : (∀ ds, d ≠ .set ds) ∧ ∀ ds, d ≠ .dic ds := by
  constructor <;> (intro ds e; subst e; cases h)
theorem se_isi {x : Str} {a b : Expr} {ma : ME} {t : Ty} {p pos : Pos} (hK : X.K = G.K) (ha : PE X a (tE G ma)) (hb : PE X b (tC (.ty (tyName t)))) (hg : Gl X x) (hm : X.mg x = none) (hv : bootBuiltins x = some (.builtin "isinstance")) (hnm : x ≠ "__name__")
    (hdb : (x == ("__debug__" : Str)) = false) (h1 : starEach [a, b] X.env = (false, eval a X.env) :: starEach [b] X.env) (h2 : starEach [b] X.env = (false, eval b X.env) :: starEach [] X.env) :
    PE X (.Call (.Name x p) [a, b] [] pos) (tE G (.isi ma [t])) := by
  refine (pe_callB call_isi hg hm hv (pa_cons ha (pa_cons hb pa_nil h2) h1) hnm hdb h1 (by rw [h2]; rfl)).imp fun σ H Q q => ?_
  obtain ⟨env, Z, d, r, ev, q⟩ := q
  simp only [evalE] at ev
  obtain ⟨d1, e1, rfl⟩ := Option.map_eq_some_iff.mp ev
  refine ⟨env, Z, d1, r, e1, fun v H1 Z1 g1 h => ?_⟩
  rw [hK]
  refine ⟨v, _, _, _, _, rfl, .ty _, tyX_of h.e, kit_ty (kit_D t d1 (noSD h.e)), ?_⟩
  have := q (.bl (isTy t d1)) H1 Z1 g1 (by simp only [List.any_cons, List.any_nil, Bool.or_false]; exact .bl _)
  exact this
theorem se_isiT {x : Str} {a : Expr} {bs : List Expr} {ma : ME} {ts : List Ty} {k : Nat} {p pos pos2 : Pos} (hK : X.K = G.K) (ha : PE X a (tE G ma)) (hb : PA X bs (tTys ts)) (hl : ts.length ≤ 1000) (hg : Gl X x) (hm : X.mg x = none) (hv : bootBuiltins x = some (.builtin "isinstance")) (hnm : x ≠ "__name__")
    (hdb : (x == ("__debug__" : Str)) = false) (h1 : starEach [a, .Tuple bs k pos2] X.env = (false, eval a X.env) :: starEach [.Tuple bs k pos2] X.env) :
    PE X (.Call (.Name x p) [a, .Tuple bs k pos2] [] pos) (tE G (.isi ma ts)) := by
  have h2 : starEach [.Tuple bs k pos2] X.env = (false, eval (.Tuple bs k pos2) X.env) :: starEach [] X.env := rfl
  refine (pe_callB call_isiT hg hm hv (pa_cons ha (pa_cons (pe_tup hb) pa_nil h2) h1) hnm hdb h1 (by rw [h2]; rfl)).imp fun σ H Q q => ?_
  obtain ⟨env, Z, d, r, ev, q⟩ := q
  simp only [evalE] at ev
  obtain ⟨d1, e1, rfl⟩ := Option.map_eq_some_iff.mp ev
  refine ⟨env, Z, d1, r, e1, fun v H1 Z1 g1 h => ?_⟩
  refine ⟨by rw [List.length_map]; exact Nat.le_trans hl (by decide), fun p hp => ?_⟩
  rw [hK]
  refine ⟨v, p, _, _, _, _, rfl, upd_same, cls_all ts, tyX_of (h.mono (same_upd hp) (fun _ _ => trivial) fun _ z => z), kitAny_D d1 (noSD h.e) ts, ?_⟩
  exact q (.bl _) _ Z1 (g1.trans ⟨same_upd hp, fun _ z => z, fun _ z => .inl z, fun _ z => .inl z⟩) (.bl _)

/-! ### what is walked -/
def WalkD (K : PySem.W.Frag) (H : Hp) (Zt Ze : Zn) (J : It) (ds : List D) : Prop := ds.length ≤ sizeLine ∧ ∃ (W : Hp → Prop) (Y : Nat → Hp → V → Hp → Prop), Walk J ds.length W Y ∧ (∀ H1, Kp K H Zt H1 Zt → W H1) ∧
  ∀ i H1 x H2, i < ds.length → Kp K H Ze H1 Ze → Y i H1 x H2 → Same H1 H2 ∧ ∃ d, ds[i]? = some d ∧ Den K H2 Ze x d
def tI (G : Gm) (e : ME) : TI := fun σ H R => ∃ env Z d ds, G.R σ H Z env ∧ evalE G.cf e env = some d ∧ itemsD d = some ds ∧ ∀ J H' Z', Grow H Z H' Z' → WalkD G.K H' (Zl Z' σ env (leak e)) (Zl Z' σ env (leakEl e)) J ds → R J H'
theorem PI.or {tg e : Expr} {w1 w2 : TI} (h1 : PI X tg e w1) (h2 : PI X tg e w2) : PI X tg e (fun σ H R => w1 σ H R ∨ w2 σ H R) :=
  ⟨fun pins s σ H R I h => h.elim (h1.run pins s σ H R I) (h2.run pins s σ H R I)⟩
theorem _root_.L2.PI.imp {tg e : Expr} {w w' : TI} (h : PI X tg e w) (k : ∀ σ H R, w' σ H R → w σ H R) : PI X tg e w' := ⟨fun pins s σ H R I q => h.run pins s σ H R I (k _ _ _ q)⟩
theorem si_seq {tg e : Expr} {me : ME} (hK : X.K = G.K) (h : PE X e (tE G me)) : PI X tg e (tI G me) := by
  refine (PI.or (pi_list h) (pi_tup h)).imp fun σ H R q => ?_
  obtain ⟨env, Z, d, ds, r, ev, hi, q⟩ := q
  have key : ∀ v H1 Z1, Grow H Z H1 Z1 → DenT G.K H1 (Zl Z1 σ env (leak me)) (Zl Z1 σ env (leakEl me)) v d → ∃ a xs, v = .ref a ∧ ((SqT G.K H1 a xs ∧ d = .tup ds ∧ R (Itt G.K a) H1) ∨ (Rd H1 a (.lst xs) ∧ d = .lst ds ∧ R (Itl G.K a) H1)) := by
    intro v H1 Z1 g1 h1
    obtain ⟨a, xs, rfl, hl, hD, hk⟩ := h1.items hi
    refine ⟨a, xs, rfl, ?_⟩
    have hlen : ds.length = xs.length := hD.length.symm
    have yl : ∀ (i : Nat) (Hi : Hp) (x : V) (H2 : Hp), Kp G.K H1 (Zl Z1 σ env (leakEl me)) Hi (Zl Z1 σ env (leakEl me)) → YAt xs i Hi x H2 → Same Hi H2 ∧ ∃ d, ds[i]? = some d ∧ Den G.K H2 (Zl Z1 σ env (leakEl me)) x d := fun i Hi x H2 k ⟨e, hx⟩ => by
      subst e
      obtain ⟨d', h1, h2⟩ := hD.getV hx
      exact ⟨Same.refl _, d', h1, h2.mono k⟩
    rcases hk with ⟨s1, e⟩ | ⟨s1, hz, e⟩
    · exact .inl ⟨s1, e, q _ H1 Z1 g1 ⟨by rw [hlen]; exact hl, _, _, by rw [hlen]; exact walk_tup (xs := xs), fun H2 k => k.tup a xs s1, fun i Hi x H2 _ => yl i Hi x H2⟩⟩
    · exact .inr ⟨s1, e, q _ H1 Z1 g1 ⟨by rw [hlen]; exact hl, _, _, by rw [hlen]; exact walk_list (xs := xs), fun H2 k => Or.inl (k.lst a xs hz s1).2, fun i Hi x H2 _ => yl i Hi x H2⟩⟩
  rw [hK]
  cases d with
  | lst es =>
    refine .inl ⟨env, Z, _, r, ev, fun v H1 Z1 g1 h1 => ?_⟩
    obtain ⟨a, xs, rfl, ⟨_, e, _⟩ | ⟨s1, _, s2⟩⟩ := key v H1 Z1 g1 h1
    · cases e
    · exact ⟨a, rfl, ⟨xs, .inl s1⟩, s2⟩
  | tup es =>
    refine .inr ⟨env, Z, _, r, ev, fun v H1 Z1 g1 h1 => ?_⟩
    obtain ⟨a, xs, rfl, ⟨s1, _, s2⟩ | ⟨_, e, _⟩⟩ := key v H1 Z1 g1 h1
    · exact ⟨a, rfl, ⟨xs, s1⟩, s2⟩
    · cases e
  | _ => cases hi
theorem upTo_spec {a b : Int} {ds : List D} (h : upTo a b = some ds) : (-(2 ^ 61) < a ∧ a < 2 ^ 61 ∧ -(2 ^ 61) < b ∧ b < 2 ^ 61 ∧ (b - a).toNat ≤ sizeLine) ∧ ds = (List.range (b - a).toNat).map fun (i : Nat) => D.int (a + i) := by
  unfold upTo at h
  split at h
  · rename_i hz; cases h; exact ⟨hz, rfl⟩
  · cases h
theorem walk_upTo {K : PySem.W.Frag} {H : Hp} {Zt Ze : Zn} {a b : Int} {ds : List D} (h : upTo a b = some ds) : WalkD K H Zt Ze (Itr a (b - a).toNat) ds := by
  obtain ⟨h1, rfl⟩ := upTo_spec h
  refine ⟨by simpa using h1.2.2.2.2, _, _, by rw [List.length_map, List.length_range]; exact walk_range, fun _ _ => trivial, fun i H1 x H2 hi _ y => ?_⟩
  obtain ⟨rfl, rfl⟩ := y
  rw [List.length_map, List.length_range] at hi
  exact ⟨Same.refl _, _, by rw [List.getElem?_map, List.getElem?_range hi]; rfl, .int _⟩
theorem si_rng1 {tg a : Expr} {ma : ME} {p pos : Pos} (hg : Gl X "range") (hm : X.mg "range" = none) (ha : PA X [a] (tEs G [ma])) (hs : starEach [a] X.env = [(false, eval a X.env)]) : PI X tg (.Call (.Name "range" p) [a] [] pos) (tI G (.itk .rng1 [ma])) := by
  refine (pi_range1 hg hm ha hs).imp fun σ H R q => ?_
  obtain ⟨env, Z, d, ds, r, ev, hi, q⟩ := q
  simp only [evalE] at ev
  obtain ⟨es, e1, ev⟩ := Option.bind_eq_some_iff.mp ev
  obtain ⟨ls, e2, rfl⟩ := Option.map_eq_some_iff.mp ev
  cases hi
  refine ⟨env, Z, es, r, e1, fun vs H1 Z1 g1 h1 => ?_⟩
  rcases es with _ | ⟨x, _ | ⟨y, t⟩⟩
  · cases e2
  · cases x <;> simp only [itkD] at e2 <;> try (cases e2; done)
    obtain ⟨v, rfl, h⟩ := h1.one
    obtain ⟨hb, _⟩ := upTo_spec e2
    refine ⟨_, by rw [den_int h], by omega, by omega, ?_⟩
    have w := walk_upTo (K := G.K) (H := H1) (Zt := Zl Z1 σ env (leak (.itk .rng1 [ma]))) (Ze := Zl Z1 σ env (leakEl (.itk .rng1 [ma]))) e2
    rw [Int.sub_zero] at w
    exact q _ H1 Z1 g1 w
  · cases x <;> cases e2
end
end Rk
/-! Fw8: comprehensions -/
namespace Rk
open PySem PySem.Spec PyProof.Rows L2

abbrev Dt := Rk.D
/-- the heap without the object at p -/
def del (H : Hp) (p : Addr) : Hp := fun a => if a = p then none else H a
theorem del_same {H H' : Hp} {p : Addr} (s : Same H H') (h : H p = none) : Same H (del H' p) := fun b o e => by
  unfold del
  rw [if_neg (ne_of_none e h)]
  exact s b o e
theorem del_le {H : Hp} {p : Addr} : Same (del H p) H := fun b o e => by
  unfold del at e
  split at e
  · cases e
  · exact e
theorem del_self {H : Hp} {p : Addr} : del H p p = none := by unfold del; rw [if_pos rfl]
theorem del_ne {H : Hp} {p a : Addr} (h : a ≠ p) : del H p a = H a := by unfold del; rw [if_neg h]
/-- a list at D changes: what does not lean on it stays -/
theorem Kp.updD {K : PySem.W.Frag} {H H' : Hp} {Z Z' : Zn} {D : Addr} {acc acc' : List V} (s : Same H H') (hD : H D = some (.lst acc)) (nz : ¬ Z D) (z : ∀ a, Z a → Z' a) : Kp K H Z (upd H' D (.lst acc')) Z' := by
  have rd : ∀ {a : Addr} {u : HO}, a ≠ D → Rd H a u → Rd (upd H' D (.lst acc')) a u := fun {a u} ne h =>
    h.elim (fun h => .inl (by rw [upd_ne ne]; exact s _ _ h)) fun ⟨o, h⟩ => .inr ⟨o, by rw [upd_ne ne]; exact s _ _ h⟩
  refine ⟨fun a xs h => h.elim (fun h => .inl (rd (fun e => ?_) h)) .inr, fun a xs hz h => ⟨z a hz, rd (fun e => nz (e ▸ hz)) h⟩⟩
  subst e
  rcases h with h | ⟨o, h⟩ <;> rw [hD] at h <;> cases h
section
variable {G : Gm} {X : Cx}
/-- the new list at D while a comprehension runs: H1, Z1 at its start -/
structure Lc (K : PySem.W.Frag) (H1 : Hp) (Z1 : Zn) (D : Addr) (σ : L2.St) (env : En) (L : List Nat) (H : Hp) (accD : List Dt) : Prop where
  ex : ∃ Z acc, Grow H1 Z1 H Z ∧ ¬ Z D ∧ H D = some (.lst acc) ∧ Dens K H (Zl Z σ env L) acc accD
theorem ow_ne {K : PySem.W.Frag} {H0 H H1 : Hp} {Z0 O0 Z : Zn} {σ : L2.St} {env : En} {L : List Nat} {D : Addr} (r : Rel K H0 Z0 O0 σ H Z env) (s : Same H H1) (h : H1 D = none) : ¬ ∃ i, i ∈ L ∧ isOw env i = true ∧ σ[i]? = some (some (V.ref D)) := by
  rintro ⟨i, _, h2, h3⟩
  obtain ⟨e, he⟩ := isOw_iff.mp h2
  obtain ⟨b, q1, q2⟩ := r.ow i e he
  rw [h3] at q1
  cases q1
  obtain ⟨_, _, _, q3, _⟩ := q2.is
  rw [s _ _ q3] at h; cases h
/-- one more element -/
theorem Lc.snoc {K : PySem.W.Frag} {H0 H1 H H4 : Hp} {Z0 O0 Z1 Z4 : Zn} {D : Addr} {σ : L2.St} {env : En} {L : List Nat} {accD : List Dt} {Z : Zn} {acc : List V} {v : V} {d : Dt} (r : Rel K H0 Z0 O0 σ H1 Z1 env) (hD1 : H1 D = none)
    (g : Grow H1 Z1 H Z) (nz : ¬ Z D) (hD : H D = some (.lst acc)) (hd : Dens K H (Zl Z σ env L) acc accD) (g4 : Grow H Z H4 Z4) (h : Den K H4 (Zl Z4 σ env L) v d) :
    H4 D = some (.lst acc) ∧ Lc K H1 Z1 D σ env L (upd H4 D (.lst (acc ++ [v]))) (accD ++ [d]) := by
  have hD4 : H4 D = some (.lst acc) := g4.same _ _ hD
  have nz4 : ¬ Z4 D := fun z => (g4.znew D z).elim nz fun q => by rw [hD] at q; cases q
  have no := ow_ne (L := L) r (Same.refl _) hD1
  refine ⟨hD4, Z4, _, ⟨fun b o e => ?_, fun a z => g4.zin a (g.zin a z), (g.trans g4).znew, fun a z => ?_⟩, nz4, upd_same, ?_⟩
  · rw [upd_ne (ne_of_none e hD1)]
    exact (g.trans g4).same b o e
  · rcases (g.trans g4).ok a z with q | q
    · exact .inl q
    · refine .inr ?_
      by_cases e : a = D
      · subst e; rw [upd_same]; simp
      · rw [upd_ne e]; exact q
  · refine (hd.mono (Kp.updD g4.same hD (fun z => z.elim nz no) (Zl.mono g4.zin fun _ z => z))).snoc ?_
    exact h.mono (Kp.updD (Same.refl H4) hD4 (fun z => z.elim nz4 no) fun _ z => z)
theorem Lc.grow {K : PySem.W.Frag} {H1 H H4 : Hp} {Z1 : Zn} {D : Addr} {σ : L2.St} {env : En} {L : List Nat} {accD : List Dt} {Z Z4 : Zn} {acc : List V}
    (g : Grow H1 Z1 H Z) (nz : ¬ Z D) (hD : H D = some (.lst acc)) (hd : Dens K H (Zl Z σ env L) acc accD) (g4 : Grow H Z H4 Z4) : Lc K H1 Z1 D σ env L H4 accD :=
  ⟨Z4, acc, g.trans g4, fun z => (g4.znew D z).elim nz fun q => (by rw [hD] at q; cases q), g4.same _ _ hD, hd.mono (Kp.of_same g4.same (Zl.mono g4.zin fun _ z => z))⟩
/-- the end: the list is handed on as a new one -/
theorem Lc.done {K : PySem.W.Frag} {H H1 H' : Hp} {Z Z1 : Zn} {D : Addr} {σ : L2.St} {env : En} {L : List Nat} {res : List Dt} {Q : VK} (g1 : Grow H Z H1 Z1) (hD1 : H1 D = none) (hres : res.length ≤ sizeLine) (h : Lc K H1 Z1 D σ env L H' res)
    (q : ∀ v H1 H' Z', Grow H Z H1 Z' → New K H1 H' (Zl Z' σ env L) v (.lst res) → Q v H') : Q (.ref D) H' := by
  obtain ⟨Z', acc, g, nz, hD, hd⟩ := h.ex
  have g' := g1.trans g
  have hDH : H D = none := g1.same.free hD1
  refine q _ (del H' D) H' Z' ⟨del_same g'.same hDH, g'.zin, g'.znew, fun a z => ?_⟩ ⟨del_le, D, acc, rfl, del_self, hD, by rw [hd.length]; exact hres, hd⟩
  have ne : a ≠ D := fun e => nz (e ▸ z)
  rw [del_ne ne]
  exact g'.ok a z
/-- an element that is walked, as one that nobody changes -/
theorem walk_el {K : PySem.W.Frag} {H : Hp} {Z Z1 : Zn} {σ : L2.St} {env : En} {L : List Nat} {ds : List Dt} {i : Nat} {x : V} {d : Dt} (hz : ∀ a, Z1 a → Z a) (hno : (noOw env L || D.flats ds) = true) (hi : ds[i]? = some d) (h : Den K H (Zl Z1 σ env L) x d) : Den K H Z x d := by
  rcases Bool.or_eq_true _ _ |>.mp hno with q | q
  · exact h.mono (Kp.zone fun a z => hz a (Zl.noOw q a z))
  · have fl : ∀ {ds : List Dt} {i : Nat}, D.flats ds = true → ds[i]? = some d → d.flat = true := by
      intro ds
      induction ds with
      | nil => intro i _ e; simp at e
      | cons a ds ih =>
        intro i f e
        simp only [D.flats, Bool.and_eq_true] at f
        cases i with
        | zero => simp at e; subst e; exact f.1
        | succ i => exact ih f.2 (by simpa using e)
    exact h.flat (fl q hi)
theorem lcGo_cons {f : Dt → Option (Option Dt)} {x : Dt} {xs rs : List Dt} (h : lcGo f (x :: xs) = some rs) : ∃ r rest, f x = some r ∧ lcGo f xs = some rest ∧ rs = r.toList ++ rest := by
  simp only [lcGo] at h
  obtain ⟨r, h1, h2⟩ := Option.bind_eq_some_iff.mp h
  obtain ⟨rest, h3, h4⟩ := Option.map_eq_some_iff.mp h2
  refine ⟨r, rest, h1, h3, ?_⟩
  rw [← h4]
  cases r <;> rfl
theorem lcGo_length {f : Dt → Option (Option Dt)} : ∀ {xs rs : List Dt}, lcGo f xs = some rs → rs.length ≤ xs.length
  | [], rs, h => by simp only [lcGo] at h; cases h; simp
  | x :: xs, rs, h => by
    obtain ⟨r, rest, _, h2, rfl⟩ := lcGo_cons h
    have := lcGo_length h2
    cases r <;> simp <;> omega
theorem drop_at {α : Type} {l : List α} {i : Nat} {x : α} (h : l[i]? = some x) : l.drop i = x :: l.drop (i + 1) := by
  obtain ⟨h1, h2⟩ := List.getElem?_eq_some_iff.mp h
  rw [List.drop_eq_getElem_cons h1, h2]
/-- the core of a comprehension with one clause -/
theorem lc_tr {t : Tgt} {mi mc me : ME} {vs : List Nat} {σ : L2.St} {H : Hp} {Q : VK} {tt : TT} (htt : ∀ σ H Q, tT G mc σ H Q → tt σ H Q) (hsub : ∀ i, i ∈ tslots t → i ∈ vs) (q : tF G (.lc t mi mc me vs) σ H Q) :
    tLc (tI G mi) (gT G t) tt (tE G me) vs σ H Q := by
  obtain ⟨env, Z, d, r, ev, q⟩ := q
  simp only [evalE] at ev
  obtain ⟨xs, e1, ev⟩ := Option.bind_eq_some_iff.mp ev
  obtain ⟨ds, e2, ev⟩ := Option.bind_eq_some_iff.mp ev
  split at ev
  rotate_left
  · cases ev
  rename_i hno
  obtain ⟨res, e3, rfl⟩ := Option.map_eq_some_iff.mp ev
  obtain ⟨f, hf, e3⟩ : ∃ f, (∀ x, f x = (asgT t x (wipeE env vs)).bind fun env1 => (evalE G.cf mc env1).bind fun k => if tru k then (evalE G.cf me env1).map some else some none) ∧ lcGo f ds = some res := ⟨_, fun _ => rfl, e3⟩
  refine ⟨env, Z, xs, ds, r, e1, e2, fun J H1 Z1 g1 w => fun D hD1 => ?_⟩
  obtain ⟨hz, Wp, Y, wk, w1, w2⟩ := w
  have r1 := r.grow g1
  have no := ow_ne (L := leak me) r1 (Same.refl _) hD1
  have hsz := lcGo_length e3
  refine lc_it wk (Qd := fun H' => Q (.ref D) H') (fun i H' => ∃ accD rest, accD.length ≤ i ∧ lcGo f (ds.drop i) = some rest ∧ res = accD ++ rest ∧ Lc G.K H1 Z1 D σ env (leak me) H' accD) ?_ ?_ ?_ ?_
  · refine ⟨[], res, Nat.zero_le _, e3, rfl, Z1, [], ⟨same_upd hD1, fun _ z => z, fun _ z => .inl z, fun a z => .inl z⟩, fun z => r1.zok D z hD1, upd_same, .nil⟩
  · rintro i H' hi ⟨accD, rest, _, _, _, l⟩
    obtain ⟨Z', acc, g, nz, hD, hd⟩ := l.ex
    exact w1 H' (Kp.of_same g.same fun _ z => z)
  · rintro i x H' H2 hi ⟨accD, rest, hl, hgo, hres, l⟩ y
    obtain ⟨Z', acc, g, nz, hD, hd⟩ := l.ex
    obtain ⟨s2, dx, hdx, hx⟩ := w2 i H' x H2 hi (Kp.of_same g.same fun _ z => z) y
    rw [drop_at hdx] at hgo
    obtain ⟨o, rest', f1, f2, f3⟩ := lcGo_cons hgo
    rw [hf] at f1
    obtain ⟨env1, a1, f1⟩ := Option.bind_eq_some_iff.mp f1
    obtain ⟨kd, c1, f1⟩ := Option.bind_eq_some_iff.mp f1
    have g2 : Grow H' Z' H2 Z' := ⟨s2, fun _ z => z, fun _ z => .inl z, fun _ z => .inl z⟩
    have rw2 : G.R (L2.wipe σ vs) H2 Z' (wipeE env vs) := ((r1.grow g).grow g2).wipe vs
    refine ⟨wipeE env vs, Z', dx, env1, rw2, walk_el g.zin hno hdx hx, a1, fun σ2 r2 ag => ⟨wipe_agree ag hsub, htt _ _ _ ⟨env1, Z', kd, r2, c1, fun H3 Z3 g3 => ?_⟩⟩⟩
    have sub : OwSub env1 σ2 env σ := (OwSub.asg a1 ag).trans OwSub.wipe
    have g23 := g2.trans g3
    cases ht : tru kd with
    | false =>
      rw [ht] at f1
      simp only [Bool.false_eq_true, if_false] at f1 ⊢
      cases f1
      rw [Option.toList_none, List.nil_append] at f3
      subst f3
      exact ⟨accD, rest, by omega, f2, hres, Lc.grow g nz hD hd g23⟩
    | true =>
      rw [ht] at f1
      simp only [if_true] at f1 ⊢
      obtain ⟨yd, c2, rfl⟩ := Option.map_eq_some_iff.mp f1
      rw [Option.toList_some] at f3
      subst f3
      refine ⟨env1, Z3, yd, r2.grow g3, c2, fun v H4 Z4 g4 hv => ?_⟩
      have hv' : Den G.K H4 (Zl Z4 σ env (leak me)) v yd := (hv.den Zl.el).mono (Kp.zone sub.zl)
      obtain ⟨hD4, l4⟩ := Lc.snoc r1 hD1 g nz hD hd (g23.trans g4) hv'
      refine ⟨acc, hD4, by rw [hd.length]; omega, accD ++ [yd], rest', by rw [List.length_append]; simp; omega, f2, by rw [hres]; simp, l4⟩
  · rintro H' ⟨accD, rest, hl, hgo, hres, l⟩
    rw [List.drop_length] at hgo
    simp only [lcGo] at hgo
    cases hgo
    rw [List.append_nil] at hres
    subst hres
    exact l.done g1 hD1 (by omega) fun v H1 H' Z' g n => q v H1 H' Z' g (by simpa only [leakEl] using n)
end
end Rk
/-! Fw9: from Python's expressions to the language, and that it is right -/
namespace Rk
open PySem PySem.Spec PyProof.Rows L2

/-- a def's names: all by slot, its scope, which are stored here, the program's defs, the program's constants -/
structure CC where
  N : List Str
  sc : Scope
  fn : Str → Bool
  fs : List (Str × String × Nat)
  gl : List (Str × D)
def visB (sc : Scope) (x : Str) : Bool := match sc.names.lookup x with
  | some .local => true
  | some .cell => true
  | some .free => true
  | _ => false
def isLoc (sc : Scope) (x : Str) : Bool := match sc.names.lookup x with
  | some .local => true
  | _ => false
def locB (sc : Scope) (x : Str) : Bool := match sc.names.lookup x with
  | some .local => true
  | some .cell => true
  | _ => false
def glB (sc : Scope) (x : Str) : Bool := match sc.names.lookup x with
  | some .globalImplicit => !(x == ("__debug__" : Str))
  | _ => false
def CC.ix (c : CC) (x : Str) : Option Nat := c.N.findIdx? (· == x)
def CC.var (c : CC) (x : Str) : Option Nat := if visB c.sc x && !(x == ("__debug__" : Str)) && !(x == ("__classdict__" : Str)) then c.ix x else none
def CC.tgt (c : CC) (x : Str) : Option Nat := if locB c.sc x && (c.fn x || isLoc c.sc x) then c.ix x else none
def CC.blk (c : CC) (scope : Scope) : CC := { c with sc := relS scope c.sc, fn := fun x => scope.names.lookup x == some .cell }
def mapO {α β : Type} (f : α → Option β) : List α → Option (List β)
  | [] => some []
  | x :: xs => (f x).bind fun y => (mapO f xs).map fun ys => y :: ys
def compTg (c : CC) : Nat → Expr → Option Tgt
  | 0 => fun _ => none
  | n + 1 => fun e => match e with
    | .Name x _ => (c.tgt x).map .nm
    | .Tuple es _ _ => (mapO (compTg c n) es).map .tp
    | _ => none
def compC : Const → Option D
  | .none => some .non
  | .bool b => some (.bl b)
  | .int i => some (.int i)
  | .str x => if PyData.strOk x && decide (x.cps.toList.length ≤ sizeLine) then some (.str x.cps.toList) else none
  | _ => none
def binOf : Operator → Option Bin
  | .Add => some .add | .Sub => some .sub | .Mult => some .mul | .FloorDiv => some .fdiv | .Mod => some .mod | .Pow => some .pow
  | .LShift => some .shl | .RShift => some .shr | .BitAnd => some .band | .BitOr => some .bor | .BitXor => some .bxor
  | _ => none
/-- which comparison, by the right side too -/
def cmpWith (o : CmpOp) (b : Expr) : Option Cmp := match o, b with
  | .Eq, _ => some .eq
  | .NotEq, _ => some .ne
  | .Lt, _ => some .lt
  | .LtE, _ => some .le
  | .Gt, _ => some .gt
  | .GtE, _ => some .ge
  | .In, .Set .. => none
  | .NotIn, .Set .. => none
  | .In, _ => some .isIn
  | .NotIn, _ => some .notIn
  | .Is, .Constant .none _ _ => some .isN
  | .IsNot, .Constant .none _ _ => some .isNotN
  | .Is, .Constant (.bool _) _ _ => some .isB
  | .IsNot, .Constant (.bool _) _ _ => some .isNotB
  | _, _ => none
def bltT : List (Str × Blt) := [("len", .len), ("int", .int), ("abs", .abs), ("sum", .sum), ("min", .min), ("max", .max), ("all", .all), ("any", .any), ("tuple", .tuple), ("list", .list), ("str", .str), ("sorted", .sorted), ("set", .set)]
def tyT : List (Str × Ty) := [("int", .int), ("bool", .bool), ("str", .str), ("tuple", .tuple), ("list", .list)]
/-- the built-ins' names: the program binds none of them -/
def bltN : List Str := ["len", "int", "abs", "sum", "min", "max", "all", "any", "tuple", "list", "str", "sorted", "set", "bool", "isinstance", "range", "enumerate", "zip", "reversed", "dict"]
def compTy (c : CC) : Expr → Option Ty
  | .Name x _ => if glB c.sc x then tyT.lookup x else none
  | _ => none
def compIfs (rec : CC → Expr → Option ME) (c : CC) : List Expr → Option ME
  | [] => some (.cst (.bl true))
  | [e] => rec c e
  | _ => none
def tgNames : Nat → Expr → List Str
  | 0, _ => []
  | n + 1, e => match e with
    | .Name x _ => [x]
    | .Tuple es _ _ => es.flatMap (tgNames n)
    | _ => []
def ownOf (c : CC) (xs : List Str) : List (Str × Nat) := xs.filterMap fun x => (c.ix x).map fun i => (x, i)
def compCall (rec : CC → Expr → Option ME) (c : CC) (x : Str) (args : List Expr) : Option ME :=
  if glB c.sc x then match c.fs.lookup x with
    | some (f, k) => (mapO (rec c) args).bind fun ms => if ms.length = k then some (.call f ms) else none
    | none => match bltT.lookup x, args with
      | some b, _ :: _ => if bltOk b && bltN.contains x then (mapO (rec c) args).map (.blt b) else none
      | _, _ => match args with
        | [a, .Tuple bs _ _] => if x == ("isinstance" : Str) then (rec c a).bind fun ma => (mapO (compTy c) bs).bind fun ts => if ts.length ≤ 1000 then some (.isi ma ts) else none else none
        | [a, b] => if x == ("isinstance" : Str) then (rec c a).bind fun ma => (compTy c b).map fun t => .isi ma [t] else none
        | _ => none
  else none
def isTupleE : Expr → Bool
  | .Tuple .. => true
  | _ => false
/-- what is walked -/
def compI (rec : CC → Expr → Option ME) (c : CC) (tg : Expr) (e : Expr) : Option ME := match e with
  | .Call (.Name x _) args [] _ =>
    if x == ("range" : Str) && glB c.sc x && (c.fs.lookup x).isNone then (match args with
      | [a] => (rec c a).map fun ma => .itk .rng1 [ma]
      | _ => none)
    else rec c e
  | _ => rec c e
def compStep (rec : CC → Expr → Option ME) (c : CC) : Expr → Option ME
  | .Name x _ => match c.var x with
    | some i => some (.var i)
    | none => if glB c.sc x then (c.gl.lookup x).map .cst else none
  | .Constant k _ _ => (compC k).map .cst
  | .Tuple es _ _ => (mapO (rec c) es).bind fun ms => if ms.length ≤ 1000 then some (.tup ms) else none
  | .List es _ => (mapO (rec c) es).bind fun ms => if ms.length ≤ 1000 then some (.lst ms) else none
  | .BinOp a o b _ => (binOf o).bind fun o => (rec c a).bind fun ma => (rec c b).map fun mb => .bin o ma mb
  | .UnaryOp .USub a _ => (rec c a).map .neg
  | .UnaryOp .Not a _ => (rec c a).map .not
  | .BoolOp _ [a] _ => rec c a
  | .BoolOp .And (a :: b :: r) p => (rec c a).bind fun ma => (rec c (.BoolOp .And (b :: r) p)).map fun mb => .and ma mb
  | .BoolOp .Or (a :: b :: r) p => (rec c a).bind fun ma => (rec c (.BoolOp .Or (b :: r) p)).map fun mb => .or ma mb
  | .IfExp t a b _ => (rec c t).bind fun mt => (rec c a).bind fun ma => (rec c b).map fun mb => .ite mt ma mb
  | .Compare a [o] [b] _ => (cmpWith o b).bind fun k => (rec c a).bind fun ma => (rec c b).map fun mb => .cmp k ma mb
  | .Compare a [o, p] [b, d] _ => (cmpWith o b).bind fun k => (cmpWith p d).bind fun l => (rec c a).bind fun ma => (rec c b).bind fun mb => (rec c d).map fun md => .chn k l ma mb md
  | .Subscript a (.Slice none none none _) _ => (rec c a).map .sl0
  | .Subscript a (.Slice (some b) none none _) _ => (rec c a).bind fun ma => (rec c b).map fun mb => .slL ma mb
  | .Subscript a (.Slice none (some b) none _) _ => (rec c a).bind fun ma => (rec c b).map fun mb => .slH ma mb
  | .Subscript a (.Slice (some b) (some d) none _) _ => (rec c a).bind fun ma => (rec c b).bind fun mb => (rec c d).map fun md => .slB ma mb md
  | .Subscript _ (.Slice ..) _ => none
  | .Subscript a b _ => (rec c a).bind fun ma => (rec c b).map fun mb => .ix ma mb
  | .Call (.Name x _) args [] _ => compCall rec c x args
  | .ListComp e [⟨tg, it, ifs, a⟩] scope _ => if a = 0 then
    (compTg (c.blk scope) 8 tg).bind fun t => (compI rec c tg it).bind fun mi => (compIfs rec (c.blk scope) ifs).bind fun mc => (rec (c.blk scope) e).bind fun me =>
      if blkC c.N c.sc scope (ownOf c (tgNames 8 tg)) && (tslots t).all (fun i => ((ownOf c (tgNames 8 tg)).map (·.2)).contains i) then some (.lc t mi mc me ((ownOf c (tgNames 8 tg)).map (·.2))) else none
    else none
  | _ => none
def compE : Nat → CC → Expr → Option ME
  | 0 => fun _ _ => none
  | n + 1 => compStep (compE n)

structure CtxOk (G : Gm) (lev : Nat) (c : CC) (X : Cx) : Prop where
  N : X.N = c.N
  nd : c.N.Nodup
  sc : X.env.scope = c.sc
  fn : X.fn = c.fn
  calm : X.calm = true
  xe : X.xe = fun _ _ => False
  K : X.K = G.K
  blt : ∀ x, x ∈ bltN → X.mg x = none
  fs : ∀ x f n, c.fs.lookup x = some (f, n) → FnAt X G.K G.cf lev x f n
  gl : ∀ x d, c.gl.lookup x = some d → ∃ u v, X.mg x = some u ∧ RelV v u ∧ ∀ H, Den G.K H (fun _ => False) v d
  room : Room lev X.A
  un : X.A.units + 1 + dlim < cLine
theorem CtxOk.blk {G : Gm} {lev : Nat} {c : CC} {X : Cx} (k : CtxOk G lev c X) (scope : Scope) (s : Shared) (H : Hp) (C : Addr) (cl : List (Str × Addr)) (fp : List Addr) : CtxOk G lev (c.blk scope) (X.blk s H scope (compEnvC scope cl C X.env) fp) where
  N := k.N
  nd := k.nd
  sc := by show relS scope X.env.scope = relS scope c.sc; rw [k.sc]
  fn := rfl
  calm := k.calm
  xe := rfl
  K := k.K
  blt := k.blt
  fs := fun x f n h => ⟨(k.fs x f n h).ex⟩
  gl := k.gl
  room := k.room
  un := k.un
theorem ix_at {c : CC} {x : Str} {i : Nat} (h : c.ix x = some i) : c.N[i]? = some x := by
  unfold CC.ix at h
  obtain ⟨h1, h2, _⟩ := List.findIdx?_eq_some_iff_getElem.mp h
  rw [List.getElem?_eq_getElem h1]
  exact congrArg some (by simpa using h2)
theorem vis_of {sc : Scope} {x : Str} (h : visB sc x = true) : Vis sc x := by
  unfold visB at h
  split at h
  · rename_i e; exact .inl e
  · rename_i e; exact .inr (.inl e)
  · rename_i e; exact .inr (.inr e)
  · cases h
theorem loc_of {sc : Scope} {x : Str} (h : locB sc x = true) : Loc sc x := by
  unfold locB at h
  split at h
  · rename_i e; exact .inl e
  · rename_i e; exact .inr e
  · cases h
theorem gl_of {sc : Scope} {x : Str} (h : glB sc x = true) : sc.names.lookup x = some .globalImplicit ∧ (x == ("__debug__" : Str)) = false := by
  unfold glB at h
  split at h
  · rename_i e; exact ⟨e, by simpa using h⟩
  · cases h
section
variable {G : Gm} {lev : Nat} {c : CC} {X : Cx}
theorem CtxOk.pv (k : CtxOk G lev c X) {x : Str} {i : Nat} {pos : Pos} (h : c.var x = some i) : PE X (.Name x pos) (tVar i) := by
  unfold CC.var at h
  split at h
  · rename_i hc
    simp only [Bool.and_eq_true, Bool.not_eq_true'] at hc
    exact pe_var (by rw [k.N]; exact ix_at h) (by rw [k.sc]; exact vis_of hc.1.1) hc.1.2 hc.2
  · cases h
theorem CtxOk.gl' (k : CtxOk G lev c X) {x : Str} (h : glB c.sc x = true) : Gl X x ∧ (x == ("__debug__" : Str)) = false := by
  obtain ⟨h1, h2⟩ := gl_of h
  exact ⟨by show X.env.scope.names.lookup x = _; rw [k.sc]; exact h1, h2⟩
theorem CtxOk.pg (k : CtxOk G lev c X) {x : Str} {i : Nat} {pos : Pos} (h : c.tgt x = some i) : PG X (.Name x pos) (gName i) := by
  unfold CC.tgt at h
  split at h
  · rename_i hc
    simp only [Bool.and_eq_true, Bool.or_eq_true] at hc
    refine pg_name (by rw [k.N]; exact k.nd) (by rw [k.N]; exact ix_at h) (by rw [k.sc]; exact loc_of hc.1) ?_
    rcases hc.2 with q | q
    · exact .inl (by rw [k.fn]; exact q)
    · refine .inr ?_
      rw [k.sc]
      unfold isLoc at q
      split at q
      · assumption
      · cases q
  · cases h
theorem mapO_cons {α β : Type} {f : α → Option β} {x : α} {xs : List α} {ys : List β} (h : mapO f (x :: xs) = some ys) : ∃ y r, f x = some y ∧ mapO f xs = some r ∧ ys = y :: r := by
  simp only [mapO] at h
  obtain ⟨y, h1, h2⟩ := Option.bind_eq_some_iff.mp h
  obtain ⟨r, h3, h4⟩ := Option.map_eq_some_iff.mp h2
  exact ⟨y, r, h1, h3, h4.symm⟩
theorem mapO_length {α β : Type} {f : α → Option β} : ∀ {xs : List α} {ys : List β}, mapO f xs = some ys → ys.length = xs.length
  | [], ys, h => by simp only [mapO] at h; cases h; rfl
  | x :: xs, ys, h => by
    obtain ⟨y, r, _, h2, rfl⟩ := mapO_cons h
    simp [mapO_length h2]
def plainTg : Expr → Bool
  | .Name .. => true
  | .Tuple .. => true
  | _ => false
theorem each_cons {e : Expr} {es : List Expr} {env : Env} (h : plainTg e = true) : assignEach (e :: es) env = (false, assign e env) :: assignEach es env := by
  cases e <;> first | rfl | cases h
theorem each_len {env : Env} : ∀ {es : List Expr}, es.all plainTg = true → (assignEach es env).length = es.length ∧ (assignEach es env).findIdx? (·.1) = none
  | [], _ => ⟨rfl, rfl⟩
  | e :: es, h => by
    simp only [List.all_cons, Bool.and_eq_true] at h
    obtain ⟨h1, h2⟩ := each_len (env := env) h.2
    rw [each_cons h.1]
    exact ⟨by simp [h1], by rw [List.findIdx?_cons]; simp [h2]⟩
theorem compTg_plain {n : Nat} {e : Expr} {t : Tgt} (h : compTg c n e = some t) : plainTg e = true := by
  cases n with
  | zero => cases h
  | succ n => cases e <;> first | rfl | (simp only [compTg] at h; cases h)
theorem compTg_ok (k : CtxOk G lev c X) : ∀ (n : Nat) (e : Expr) (t : Tgt), compTg c n e = some t → PG X e (gT G t)
  | 0, e, t, h => by cases h
  | n + 1, e, t, h => by
    cases e <;> simp only [compTg] at h <;> try (cases h; done)
    · obtain ⟨i, h1, rfl⟩ := Option.map_eq_some_iff.mp h
      exact sg_nm (k.pg h1)
    · obtain ⟨ts, h1, rfl⟩ := Option.map_eq_some_iff.mp h
      have all : ∀ {es : List Expr} {ts : List Tgt}, mapO (compTg c n) es = some ts → PGs X es (gTs G ts) ∧ es.all plainTg = true := by
        intro es
        induction es with
        | nil => intro ts h; simp only [mapO] at h; cases h; exact ⟨sgs_nil, rfl⟩
        | cons e es ih =>
          intro ts h
          obtain ⟨t, r, h1, h2, rfl⟩ := mapO_cons h
          obtain ⟨p, q⟩ := ih h2
          have pl := compTg_plain h1
          exact ⟨sgs_cons (compTg_ok k n e t h1) p (by rw [each_cons pl]; rfl), by simp only [List.all_cons, pl, q, Bool.and_self]⟩
      obtain ⟨p, q⟩ := all h1
      obtain ⟨l1, l2⟩ := each_len (env := X.env) q
      exact sg_tp k.calm k.K p (by rw [l1, mapO_length h1]) l2

/-! ### the main proof -/
/-- what is shown of an expression -/
structure Good (G : Gm) (lev : Nat) (c : CC) (e : Expr) (me : ME) : Prop where
  pe : ∀ X, CtxOk G lev c X → PE X e (tE G me)
  pf : fresh me = true → ∀ X, CtxOk G lev c X → PE X e (tF G me)
  pt : ∀ X, CtxOk G lev c X → PT X e (tT G me)
  pw : ∀ op vs pos, e = .BoolOp op vs pos → ∀ X, CtxOk G lev c X → PW X e (tT G me)
def plainTest : Expr → Bool
  | .UnaryOp .Not _ _ => false
  | .BoolOp .. => false
  | .IfExp .. => false
  | .Compare .. => false
  | _ => true
theorem isTrue_of {e : Expr} {env : Env} (h : plainTest e = true) (whole : Sem Value) : isTrue e env whole = (do let v ← whole; standAt e.pos; holding [v] (truthy v)) := by
  cases e <;> first
    | rfl
    | (cases h; done)
    | (rename_i op _ _; cases op <;> first | rfl | cases h)
/-- from the value alone -/
theorem Good.of {e : Expr} {me : ME} (hp : plainTest e = true) (hf : fresh me = false) (h : ∀ X, CtxOk G lev c X → PE X e (tE G me)) : Good G lev c e me where
  pe := h
  pf := fun q => by rw [hf] at q; cases q
  pt := fun X k => st_of (h X k) k.K (isTrue_of hp)
  pw := fun op vs pos e' => by subst e'; cases hp
theorem Good.ofF {e : Expr} {me : ME} (hp : plainTest e = true) (h : ∀ X, CtxOk G lev c X → PE X e (tF G me)) : Good G lev c e me where
  pe := fun X k => PE.f (h X k)
  pf := fun _ => h
  pt := fun X k => st_of (PE.f (h X k)) k.K (isTrue_of hp)
  pw := fun op vs pos e' => by subst e'; cases hp
def notStar : Expr → Bool
  | .Starred .. => false
  | _ => true
theorem star_cons {e : Expr} {es : List Expr} {env : Env} (h : notStar e = true) : starEach (e :: es) env = (false, eval e env) :: starEach es env := by
  cases e <;> first | rfl | cases h
theorem star_all {env : Env} {pos : Pos} : ∀ {es : List Expr}, es.all notStar = true → (backTo pos (starEach es env)).any (·.1) = false
  | [], _ => rfl
  | e :: es, h => by
    simp only [List.all_cons, Bool.and_eq_true] at h
    have := star_all (env := env) (pos := pos) h.2
    rw [star_cons h.1]
    unfold backTo at this ⊢
    rw [List.map_cons, List.any_cons, this]
    rfl
abbrev Rec := CC → Expr → Option ME
structure RecOk (G : Gm) (lev : Nat) (rec : Rec) : Prop where
  good : ∀ c e me, rec c e = some me → Good G lev c e me
  star : ∀ c e me, rec c e = some me → notStar e = true
  set : ∀ c e me, rec c e = some me → ∀ es k p, e ≠ .Set es k p
theorem RecOk.all {rec : Rec} (R : RecOk G lev rec) (k : CtxOk G lev c X) : ∀ {es : List Expr} {ms : List ME}, mapO (rec c) es = some ms → PA X es (tEs G ms) ∧ es.all notStar = true
  | [], ms, h => by simp only [mapO] at h; cases h; exact ⟨ses_nil, rfl⟩
  | e :: es, ms, h => by
    obtain ⟨m, r, h1, h2, rfl⟩ := mapO_cons h
    obtain ⟨p, q⟩ := R.all k h2
    have s := R.star _ _ _ h1
    exact ⟨ses_cons ((R.good _ _ _ h1).pe X k) p (star_cons s), by simp only [List.all_cons, s, q, Bool.and_self]⟩
theorem good_name {rec : Rec} {x : Str} {p : Pos} {me : ME} (h : compStep rec c (.Name x p) = some me) : Good G lev c (.Name x p) me := by
  simp only [compStep] at h
  split at h
  · rename_i i hi
    cases h
    exact .of rfl rfl fun X k => se_var (k.pv hi)
  · split at h
    · rename_i hg
      obtain ⟨d, h1, rfl⟩ := Option.map_eq_some_iff.mp h
      refine .of rfl rfl fun X k => ?_
      obtain ⟨u, v, h2, h3, h4⟩ := k.gl x d h1
      obtain ⟨g1, g2⟩ := k.gl' hg
      exact se_cst (pe_glob g1 h2 h3 g2) h4
    · cases h
theorem good_const {rec : Rec} {k : Const} {j : Nat} {p : Pos} {me : ME} (h : compStep rec c (.Constant k j p) = some me) : Good G lev c (.Constant k j p) me := by
  simp only [compStep] at h
  obtain ⟨d, h1, rfl⟩ := Option.map_eq_some_iff.mp h
  cases k <;> simp only [compC] at h1 <;> try (cases h1; done)
  · cases h1; exact .of rfl rfl fun X k => se_cst pe_non fun _ => .non
  · cases h1; exact .of rfl rfl fun X k => se_cst pe_bl fun _ => .bl _
  · cases h1; exact .of rfl rfl fun X k => se_cst pe_int fun _ => .int _
  · split at h1
    · rename_i hz
      simp only [Bool.and_eq_true, decide_eq_true_eq] at hz
      cases h1
      exact .of rfl rfl fun X k => se_cst pe_str fun _ => .str _ _ (by simp) hz.1 hz.2
    · cases h1
theorem good_tuple {rec : Rec} (R : RecOk G lev rec) {es : List Expr} {j : Nat} {p : Pos} {me : ME} (h : compStep rec c (.Tuple es j p) = some me) : Good G lev c (.Tuple es j p) me := by
  simp only [compStep] at h
  obtain ⟨ms, h1, h⟩ := Option.bind_eq_some_iff.mp h
  split at h
  · rename_i hl
    cases h
    exact .of rfl rfl fun X k => se_tup (R.all k h1).1 hl
  · cases h
theorem good_list {rec : Rec} (R : RecOk G lev rec) {es : List Expr} {p : Pos} {me : ME} (h : compStep rec c (.List es p) = some me) : Good G lev c (.List es p) me := by
  simp only [compStep] at h
  obtain ⟨ms, h1, h⟩ := Option.bind_eq_some_iff.mp h
  split at h
  · rename_i hl
    cases h
    exact .ofF rfl fun X k => se_lst (R.all k h1).1 hl
  · cases h
theorem binOf_op {o : Operator} {b : Bin} (h : binOf o = some b) : o = opOf b := by
  cases o <;> simp only [binOf] at h <;> first | (cases h; rfl) | cases h
theorem good_bin {rec : Rec} (R : RecOk G lev rec) {a b : Expr} {o : Operator} {p : Pos} {me : ME} (h : compStep rec c (.BinOp a o b p) = some me) : Good G lev c (.BinOp a o b p) me := by
  simp only [compStep] at h
  obtain ⟨k, h1, h⟩ := Option.bind_eq_some_iff.mp h
  obtain ⟨ma, h2, h⟩ := Option.bind_eq_some_iff.mp h
  obtain ⟨mb, h3, rfl⟩ := Option.map_eq_some_iff.mp h
  rw [binOf_op h1]
  exact .ofF rfl fun X k => se_bin _ ((R.good _ _ _ h2).pe X k) ((R.good _ _ _ h3).pe X k) k.K
theorem good_not {rec : Rec} (R : RecOk G lev rec) {a : Expr} {p : Pos} {me : ME} (h : compStep rec c (.UnaryOp .Not a p) = some me) : Good G lev c (.UnaryOp .Not a p) me := by
  simp only [compStep] at h
  obtain ⟨ma, h1, rfl⟩ := Option.map_eq_some_iff.mp h
  exact ⟨fun X k => se_notV ((R.good _ _ _ h1).pe X k) k.K, fun q => (by cases q), fun X k => st_not ((R.good _ _ _ h1).pt X k), fun _ _ _ e => (by cases e)⟩
theorem good_neg {rec : Rec} (R : RecOk G lev rec) {a : Expr} {p : Pos} {me : ME} (h : compStep rec c (.UnaryOp .USub a p) = some me) : Good G lev c (.UnaryOp .USub a p) me := by
  simp only [compStep] at h
  obtain ⟨ma, h1, rfl⟩ := Option.map_eq_some_iff.mp h
  exact .of rfl rfl fun X k => se_neg ((R.good _ _ _ h1).pe X k)
theorem good_one {rec : Rec} (R : RecOk G lev rec) {op : BoolOp} {a : Expr} {p : Pos} {me : ME} (h : rec c a = some me) : Good G lev c (.BoolOp op [a] p) me := by
  have ga := R.good _ _ _ h
  have pw : ∀ X, CtxOk G lev c X → PW X (.BoolOp op [a] p) (tT G me) := fun X k => by
    cases op
    · exact pw_and1 (ga.pt X k)
    · exact pw_or1 (ga.pt X k)
  exact ⟨fun X k => pe_one (ga.pe X k), fun q X k => pe_one (ga.pf q X k), fun X k => (pw X k).pt, fun _ _ _ _ => pw⟩
theorem good_bool {rec : Rec} (R : RecOk G lev rec) {op : BoolOp} {vs : List Expr} {p : Pos} {me : ME} (h : compStep rec c (.BoolOp op vs p) = some me) : Good G lev c (.BoolOp op vs p) me := by
  rcases vs with _ | ⟨a, _ | ⟨b, r⟩⟩
  · simp only [compStep] at h; cases h
  · simp only [compStep] at h; exact good_one R h
  · cases op
    · simp only [compStep] at h
      obtain ⟨ma, h1, h⟩ := Option.bind_eq_some_iff.mp h
      obtain ⟨mb, h2, rfl⟩ := Option.map_eq_some_iff.mp h
      have ga := R.good _ _ _ h1
      have gb := R.good _ _ _ h2
      have pw : ∀ X, CtxOk G lev c X → PW X (.BoolOp .And (a :: b :: r) p) (tT G (.and ma mb)) := fun X k => sw_and (ga.pt X k) (gb.pw _ _ _ rfl X k)
      exact ⟨fun X k => se_and (ga.pe X k) (gb.pe X k) k.K, fun q => (by cases q), fun X k => (pw X k).pt, fun _ _ _ _ => pw⟩
    · simp only [compStep] at h
      obtain ⟨ma, h1, h⟩ := Option.bind_eq_some_iff.mp h
      obtain ⟨mb, h2, rfl⟩ := Option.map_eq_some_iff.mp h
      have ga := R.good _ _ _ h1
      have gb := R.good _ _ _ h2
      have pw : ∀ X, CtxOk G lev c X → PW X (.BoolOp .Or (a :: b :: r) p) (tT G (.or ma mb)) := fun X k => sw_or (ga.pt X k) (gb.pw _ _ _ rfl X k)
      exact ⟨fun X k => se_or (ga.pe X k) (gb.pe X k) k.K, fun q => (by cases q), fun X k => (pw X k).pt, fun _ _ _ _ => pw⟩
theorem good_if {rec : Rec} (R : RecOk G lev rec) {t a b : Expr} {p : Pos} {me : ME} (h : compStep rec c (.IfExp t a b p) = some me) : Good G lev c (.IfExp t a b p) me := by
  simp only [compStep] at h
  obtain ⟨mt, h1, h⟩ := Option.bind_eq_some_iff.mp h
  obtain ⟨ma, h2, h⟩ := Option.bind_eq_some_iff.mp h
  obtain ⟨mb, h3, rfl⟩ := Option.map_eq_some_iff.mp h
  have gt := R.good _ _ _ h1
  have ga := R.good _ _ _ h2
  have gb := R.good _ _ _ h3
  exact ⟨fun X k => se_ite (gt.pt X k) (ga.pe X k) (gb.pe X k), fun q => (by cases q), fun X k => st_ite (gt.pt X k) (ga.pt X k) (gb.pt X k), fun _ _ _ e => (by cases e)⟩
theorem cmpWith_op {o : CmpOp} {b : Expr} {k : Cmp} (h : cmpWith o b = some k) : o = cmpOf k ∧ behindInMarks o b = false ∧ ((k = .isN ∨ k = .isNotN) → ∃ j p, b = .Constant .none j p) := by
  unfold cmpWith at h
  split at h <;> first
    | (cases h; done)
    | (cases h; refine ⟨rfl, ?_, fun z => ?_⟩
       · first
         | rfl
         | (cases b <;> first | rfl | (rename_i z; exact absurd rfl (z _ _ _)) | (unfold behindInMarks; simp))
       · first
         | exact ⟨_, _, rfl⟩
         | (rcases z with z | z <;> cases z))
theorem none_right {rec : Rec} {b : Expr} {mb : ME} {k : Cmp} (hr : ∀ j p m, rec c (.Constant .none j p) = some m → m = .cst .non) (h : rec c b = some mb) (hk : (k = .isN ∨ k = .isNotN) → ∃ j p, b = .Constant .none j p) : noneRight k mb := fun z => by
  obtain ⟨j, p, rfl⟩ := hk z
  exact hr j p mb h
theorem good_cmp {rec : Rec} (R : RecOk G lev rec) (hr : ∀ j p m, rec c (.Constant .none j p) = some m → m = .cst .non) {a : Expr} {os : List CmpOp} {bs : List Expr} {p : Pos} {me : ME} (h : compStep rec c (.Compare a os bs p) = some me) : Good G lev c (.Compare a os bs p) me := by
  rcases os with _ | ⟨o, _ | ⟨o2, _ | ⟨o3, os⟩⟩⟩ <;> rcases bs with _ | ⟨b, _ | ⟨b2, _ | ⟨b3, bs⟩⟩⟩ <;> simp only [compStep] at h <;> try (cases h; done)
  · obtain ⟨k, h1, h⟩ := Option.bind_eq_some_iff.mp h
    obtain ⟨ma, h2, h⟩ := Option.bind_eq_some_iff.mp h
    obtain ⟨mb, h3, rfl⟩ := Option.map_eq_some_iff.mp h
    obtain ⟨rfl, hm, hn⟩ := cmpWith_op h1
    have key := fun X (kx : CtxOk G lev c X) => se_cmp (pos := p) k ((R.good _ _ _ h2).pe X kx) ((R.good _ _ _ h3).pe X kx) kx.K kx.un (none_right hr h3 hn) hm
    exact ⟨fun X kx => (key X kx).1, fun q => (by cases q), fun X kx => (key X kx).2, fun _ _ _ e => (by cases e)⟩
  · obtain ⟨k, h1, h⟩ := Option.bind_eq_some_iff.mp h
    obtain ⟨l, h1', h⟩ := Option.bind_eq_some_iff.mp h
    obtain ⟨ma, h2, h⟩ := Option.bind_eq_some_iff.mp h
    obtain ⟨mb, h3, h⟩ := Option.bind_eq_some_iff.mp h
    obtain ⟨md, h4, rfl⟩ := Option.map_eq_some_iff.mp h
    obtain ⟨rfl, hm, hn⟩ := cmpWith_op h1
    obtain ⟨rfl, hm', hn'⟩ := cmpWith_op h1'
    have key := fun X (kx : CtxOk G lev c X) => se_chn (pos := p) k l ((R.good _ _ _ h2).pe X kx) ((R.good _ _ _ h3).pe X kx) ((R.good _ _ _ h4).pe X kx) kx.K kx.un (none_right hr h3 hn) (none_right hr h4 hn') hm'
    exact ⟨fun X kx => (key X kx).1, fun q => (by cases q), fun X kx => (key X kx).2, fun _ _ _ e => (by cases e)⟩
theorem good_sub {rec : Rec} (R : RecOk G lev rec) {a b : Expr} {p : Pos} {me : ME} (h : compStep rec c (.Subscript a b p) = some me) : Good G lev c (.Subscript a b p) me := by
  cases b with
  | Slice lo hi st p2 =>
    rcases st with _ | st
    · rcases lo with _ | lo <;> rcases hi with _ | hi <;> simp only [compStep] at h
      · obtain ⟨ma, h1, rfl⟩ := Option.map_eq_some_iff.mp h
        exact .ofF rfl fun X k => se_sl0 ((R.good _ _ _ h1).pe X k) k.K
      · obtain ⟨ma, h1, h⟩ := Option.bind_eq_some_iff.mp h
        obtain ⟨mb, h2, rfl⟩ := Option.map_eq_some_iff.mp h
        exact .ofF rfl fun X k => se_slH ((R.good _ _ _ h1).pe X k) ((R.good _ _ _ h2).pe X k) k.K
      · obtain ⟨ma, h1, h⟩ := Option.bind_eq_some_iff.mp h
        obtain ⟨mb, h2, rfl⟩ := Option.map_eq_some_iff.mp h
        exact .ofF rfl fun X k => se_slL ((R.good _ _ _ h1).pe X k) ((R.good _ _ _ h2).pe X k) k.K
      · obtain ⟨ma, h1, h⟩ := Option.bind_eq_some_iff.mp h
        obtain ⟨mb, h2, h⟩ := Option.bind_eq_some_iff.mp h
        obtain ⟨md, h3, rfl⟩ := Option.map_eq_some_iff.mp h
        exact .ofF rfl fun X k => se_slB ((R.good _ _ _ h1).pe X k) ((R.good _ _ _ h2).pe X k) ((R.good _ _ _ h3).pe X k) k.K
    · simp only [compStep] at h; cases h
  | _ =>
    simp only [compStep] at h
    obtain ⟨ma, h1, h⟩ := Option.bind_eq_some_iff.mp h
    obtain ⟨mb, h2, rfl⟩ := Option.map_eq_some_iff.mp h
    exact .of rfl rfl fun X k => se_ix ((R.good _ _ _ h1).pe X k) ((R.good _ _ _ h2).pe X k) k.K fun _ _ => rfl
end
end Rk
/-! Fw10: the rest of the expressions; statements -/
namespace Rk
open PySem PySem.Spec PyProof.Rows L2
section
variable {G : Gm} {lev : Nat} {c : CC} {X : Cx}
theorem bltT_ok : ∀ p ∈ bltT, bootBuiltins p.1 = some (bltV p.2) ∧ p.1 ≠ "__name__" := by decide +kernel
theorem tyT_ok : ∀ p ∈ tyT, bootBuiltins p.1 = some (.type (tyName p.2)) ∧ p.1 ≠ "__name__" ∧ p.1 ∈ bltN := by decide +kernel
theorem lookup_mem {α : Type} {l : List (Str × α)} {x : Str} {v : α} (h : l.lookup x = some v) : (x, v) ∈ l := PySem.mem_of_lookup h
theorem compTy_ok (k : CtxOk G lev c X) {e : Expr} {t : Ty} (h : compTy c e = some t) : PE X e (tC (.ty (tyName t))) ∧ notStar e = true := by
  unfold compTy at h
  split at h
  · split at h
    · rename_i x p hg
      obtain ⟨h1, h2, h3⟩ := tyT_ok _ (lookup_mem h)
      obtain ⟨g1, g2⟩ := k.gl' hg
      exact ⟨pe_bltn g1 (k.blt _ h3) h1 rfl h2 g2, rfl⟩
    · cases h
  · cases h
theorem compTys_ok (k : CtxOk G lev c X) : ∀ {es : List Expr} {ts : List Ty}, mapO (compTy c) es = some ts → PA X es (tTys ts)
  | [], ts, h => by
    simp only [mapO] at h; cases h
    exact pa_nil.imp fun _ _ _ q => q
  | e :: es, ts, h => by
    obtain ⟨t, r, h1, h2, rfl⟩ := mapO_cons h
    obtain ⟨p1, p2⟩ := compTy_ok k h1
    exact (pa_cons p1 (compTys_ok k h2) (star_cons p2)).imp fun _ _ _ q => q
theorem good_call {rec : Rec} (R : RecOk G lev rec) {x : Str} {args : List Expr} {p pos : Pos} {me : ME} (h : compStep rec c (.Call (.Name x p) args [] pos) = some me) : Good G lev c (.Call (.Name x p) args [] pos) me := by
  simp only [compStep, compCall] at h
  split at h
  rotate_left
  · cases h
  rename_i hg
  split at h
  · rename_i f n hf
    obtain ⟨ms, h1, h⟩ := Option.bind_eq_some_iff.mp h
    split at h
    · rename_i hn
      cases h
      refine .of rfl rfl fun X k => ?_
      obtain ⟨g1, g2⟩ := k.gl' hg
      obtain ⟨pa, st⟩ := R.all k h1
      cases args with
      | nil =>
        simp only [mapO] at h1
        cases h1
        subst hn
        exact se_call0 (k.fs _ _ _ hf) k.room g1 g2
      | cons e es =>
        simp only [List.all_cons, Bool.and_eq_true] at st
        exact se_call (k.fs _ _ _ hf) k.room g1 g2 hn pa (star_cons st.1) (star_all st.2)
    · cases h
  · rename_i hf
    split at h
    · rename_i b e es hb
      split at h
      · rename_i hc
        simp only [Bool.and_eq_true] at hc
        obtain ⟨ms, h1, rfl⟩ := Option.map_eq_some_iff.mp h
        refine .ofF rfl fun X k => ?_
        obtain ⟨g1, g2⟩ := k.gl' hg
        obtain ⟨pa, st⟩ := R.all k h1
        obtain ⟨b1, b2⟩ := bltT_ok _ (lookup_mem hb)
        simp only [List.all_cons, Bool.and_eq_true] at st
        exact se_blt b k.K hc.1 k.calm g1 (k.blt _ (List.contains_iff_mem.mp hc.2)) b1 b2 g2 pa (star_cons st.1) (star_all st.2)
      · cases h
    · have hi : x = "isinstance" → bootBuiltins x = some (.builtin "isinstance") ∧ x ≠ "__name__" ∧ x ∈ bltN := fun e => by
        subst e
        decide +kernel
      split at h
      · split at h
        · rename_i a bs j p2 hx
          obtain ⟨ma, h1, h⟩ := Option.bind_eq_some_iff.mp h
          obtain ⟨ts, h2, h⟩ := Option.bind_eq_some_iff.mp h
          split at h
          · rename_i hl
            cases h
            obtain ⟨i1, i2, i3⟩ := hi (by simpa using hx)
            refine .of rfl rfl fun X k => ?_
            obtain ⟨g1, g2⟩ := k.gl' hg
            exact se_isiT k.K ((R.good _ _ _ h1).pe X k) (compTys_ok k h2) hl g1 (k.blt _ i3) i1 i2 g2 (star_cons (R.star _ _ _ h1))
          · cases h
        · cases h
      · split at h
        · rename_i a b _ hx
          obtain ⟨ma, h1, h⟩ := Option.bind_eq_some_iff.mp h
          obtain ⟨t, h2, rfl⟩ := Option.map_eq_some_iff.mp h
          obtain ⟨i1, i2, i3⟩ := hi (by simpa using hx)
          refine .of rfl rfl fun X k => ?_
          obtain ⟨g1, g2⟩ := k.gl' hg
          obtain ⟨p1, p2⟩ := compTy_ok k h2
          exact se_isi k.K ((R.good _ _ _ h1).pe X k) p1 g1 (k.blt _ i3) i1 i2 g2 (star_cons (R.star _ _ _ h1)) (star_cons p2)
        · cases h
      · cases h
theorem folded_of {e : Expr} {env : Env} (h : ∀ es k p, e ≠ .Set es k p) : ∀ x, foldedSetIterable e env x = pure x := by
  intro x
  cases e <;> first | rfl | exact absurd rfl (h _ _ _)
theorem compI_ok {rec : Rec} (R : RecOk G lev rec) {tg e : Expr} {me : ME} (h : compI rec c tg e = some me) : (∀ X, CtxOk G lev c X → PI X tg e (tI G me)) ∧ ∀ es k p, e ≠ .Set es k p := by
  have base : rec c e = some me → (∀ X, CtxOk G lev c X → PI X tg e (tI G me)) ∧ ∀ es k p, e ≠ .Set es k p := fun h => ⟨fun X k => si_seq k.K ((R.good _ _ _ h).pe X k), R.set _ _ _ h⟩
  unfold compI at h
  split at h
  · split at h
    · rename_i x p args pos hx
      simp only [Bool.and_eq_true, beq_iff_eq] at hx
      obtain ⟨⟨rfl, hg⟩, hf⟩ := hx
      refine ⟨fun X k => ?_, fun _ _ _ z => by cases z⟩
      obtain ⟨g1, g2⟩ := k.gl' hg
      split at h
      · obtain ⟨ma, h1, rfl⟩ := Option.map_eq_some_iff.mp h
        have s := R.star _ _ _ h1
        exact si_rng1 g1 (k.blt _ (by decide +kernel)) (ses_cons ((R.good _ _ _ h1).pe X k) ses_nil (star_cons s)) (by rw [star_cons s]; rfl)
      · cases h
    · exact base h
  · exact base h
theorem compIfs_ok {rec : Rec} (R : RecOk G lev rec) {es : List Expr} {mc : ME} (h : compIfs rec c es = some mc) : ∃ tt : TT, (∀ X, CtxOk G lev c X → PTs X es tt) ∧ ∀ σ H Q, tT G mc σ H Q → tt σ H Q := by
  rcases es with _ | ⟨e, _ | ⟨e2, r⟩⟩
  · simp only [compIfs] at h
    cases h
    refine ⟨tYes, fun X k => pts_nil, fun σ H Q q => ?_⟩
    obtain ⟨env, Z, d, r, ev, q⟩ := q
    simp only [evalE] at ev
    cases ev
    exact q H Z Grow.refl
  · simp only [compIfs] at h
    exact ⟨tT G mc, fun X k => pts_one ((R.good _ _ _ h).pt X k), fun _ _ _ q => q⟩
  · simp only [compIfs] at h
    cases h
theorem good_lc {rec : Rec} (R : RecOk G lev rec) {e : Expr} {gs : List Comprehension} {scope : Scope} {pos : Pos} {me : ME} (h : compStep rec c (.ListComp e gs scope pos) = some me) : Good G lev c (.ListComp e gs scope pos) me := by
  rcases gs with _ | ⟨⟨tg, it, ifs, a⟩, _ | ⟨g2, r⟩⟩
  · simp only [compStep] at h; cases h
  · simp only [compStep] at h
    split at h
    · rename_i ha
      subst ha
      obtain ⟨t, h1, h⟩ := Option.bind_eq_some_iff.mp h
      obtain ⟨mi, h2, h⟩ := Option.bind_eq_some_iff.mp h
      obtain ⟨mc, h3, h⟩ := Option.bind_eq_some_iff.mp h
      obtain ⟨m, h4, h⟩ := Option.bind_eq_some_iff.mp h
      split at h
      · rename_i hz
        simp only [Bool.and_eq_true, List.all_eq_true] at hz
        cases h
        obtain ⟨i1, i2⟩ := compI_ok R h2
        obtain ⟨tt, t1, t2⟩ := compIfs_ok R h3
        refine .ofF rfl fun X k => ?_
        refine (pe_lc k.calm (by rw [k.N]; exact k.nd) (i1 X k) (by rw [k.N, k.sc]; exact blkOk_by hz.1) (fun s H C cl fp => compTg_ok (k.blk scope s H C cl fp) 8 tg t h1) (fun s H C cl fp => t1 _ (k.blk scope s H C cl fp))
          (fun s H C cl fp => (R.good _ _ _ h4).pe _ (k.blk scope s H C cl fp)) (folded_of i2)).imp fun σ H Q q => ?_
        exact lc_tr t2 (fun i hi => List.contains_iff_mem.mp (hz.2 i hi)) q
      · cases h
    · cases h
  · simp only [compStep] at h; cases h
theorem step_ok {rec : Rec} (R : RecOk G lev rec) (hr : ∀ c j p m, rec c (.Constant .none j p) = some m → m = .cst .non) {e : Expr} {me : ME} (h : compStep rec c e = some me) : Good G lev c e me := by
  cases e with
  | Name => exact good_name h
  | Constant => exact good_const h
  | Tuple => exact good_tuple R h
  | List => exact good_list R h
  | BinOp => exact good_bin R h
  | UnaryOp o =>
    cases o with
    | Not => exact good_not R h
    | USub => exact good_neg R h
    | _ => simp only [compStep] at h; cases h
  | BoolOp => exact good_bool R h
  | IfExp => exact good_if R h
  | Compare => exact good_cmp R (hr c) h
  | Subscript => exact good_sub R h
  | Call f args kws pos =>
    cases f with
    | Name =>
      cases kws with
      | nil => exact good_call R h
      | cons => simp only [compStep] at h; cases h
    | _ => simp only [compStep] at h; cases h
  | ListComp => exact good_lc R h
  | _ => simp only [compStep] at h; cases h
theorem compE_rec (G : Gm) (lev : Nat) : ∀ n, RecOk G lev (compE n) ∧ ∀ c j p m, compE n c (.Constant .none j p) = some m → m = .cst .non
  | 0 => ⟨⟨fun c e me h => (by cases h), fun c e me h => (by cases h), fun c e me h => (by cases h)⟩, fun c j p m h => (by cases h)⟩
  | n + 1 => by
    obtain ⟨R, hr⟩ := compE_rec G lev n
    refine ⟨⟨fun c e me h => step_ok R hr h, fun c e me h => ?_, fun c e me h es k p z => ?_⟩, fun c j p m h => ?_⟩
    · cases e <;> first | rfl | (exact absurd h (by simp [compE, compStep]))
    · subst z; exact absurd h (by simp [compE, compStep])
    · simp only [compE, compStep, compC] at h
      cases h
      rfl
theorem compE_good {n : Nat} {e : Expr} {me : ME} (h : compE n c e = some me) : Good G lev c e me := (compE_rec G lev n).1.good c e me h
end
end Rk
/-! Fw11: statements keep what the evaluator says -/
namespace Rk
open PySem PySem.Spec PyProof.Rows L2

/-- from one moment to a later one of the same def -/
structure Fwd (K : PySem.W.Frag) (H : Hp) (Z : Zn) (H' : Hp) (Z' : Zn) : Prop where
  kp : Kp K H Z H' Z'
  zin : ∀ a, Z a → Z' a
theorem Fwd.refl {K : PySem.W.Frag} {H : Hp} {Z : Zn} : Fwd K H Z H Z := ⟨⟨fun _ _ h => h, fun _ _ h r => ⟨h, r⟩⟩, fun _ h => h⟩
theorem Fwd.trans {K : PySem.W.Frag} {H H1 H2 : Hp} {Z Z1 Z2 : Zn} (a : Fwd K H Z H1 Z1) (b : Fwd K H1 Z1 H2 Z2) : Fwd K H Z H2 Z2 :=
  ⟨⟨fun x xs h => b.kp.tup x xs (a.kp.tup x xs h), fun x xs h r => let ⟨h1, r1⟩ := a.kp.lst x xs h r; b.kp.lst x xs h1 r1⟩, fun x h => b.zin x (a.zin x h)⟩
theorem Grow.fwd {K : PySem.W.Frag} {H H' : Hp} {Z Z' : Zn} (g : Grow H Z H' Z') : Fwd K H Z H' Z' := ⟨g.kp, g.zin⟩
theorem Fwd.zone {K : PySem.W.Frag} {H : Hp} {Z Z' : Zn} (h : ∀ a, Z a → Z' a) : Fwd K H Z H Z' := ⟨Kp.zone h, h⟩
structure Fin (G : Gm) (H' : Hp) (Z' : Zn) : Prop where
  keep : ∀ b o, G.H0 b = some o → ¬ G.O0 b → H' b = some o
  z0 : ∀ a, G.Z0 a → Z' a
  zn : ∀ a, Z' a → G.Z0 a ∨ G.H0 a = none
  zok : ∀ a, Z' a → H' a ≠ none
def PostS (G : Gm) (D : Ends) (H : Hp) (Z : Zn) : Out → Prop
  | .nx e => ∀ σ' H' Z', G.R σ' H' Z' e → Fwd G.K H Z H' Z' → D.nx σ' H'
  | .bk e => ∀ σ' H' Z', G.R σ' H' Z' e → Fwd G.K H Z H' Z' → D.bk σ' H'
  | .ct e => ∀ σ' H' Z', G.R σ' H' Z' e → Fwd G.K H Z H' Z' → D.ct σ' H'
  | .rt d => ∀ v H' Z', Fin G H' Z' → Den G.K H' Z' v d → D.rt v H'
def tS (G : Gm) (m : MS) : TS := fun D σ H => ∃ env Z out, G.R σ H Z env ∧ execS G.cf m env = some out ∧ PostS G D H Z out
def tSs (G : Gm) (ms : List MS) : TS := fun D σ H => ∃ env Z out, G.R σ H Z env ∧ execSs G.cf ms env = some out ∧ PostS G D H Z out
theorem PostS.fwd {G : Gm} {D : Ends} {H H1 : Hp} {Z Z1 : Zn} (f : Fwd G.K H Z H1 Z1) {o : Out} (h : PostS G D H Z o) : PostS G D H1 Z1 o := by
  cases o with
  | nx e => exact fun σ' H' Z' r q => h σ' H' Z' r (f.trans q)
  | bk e => exact fun σ' H' Z' r q => h σ' H' Z' r (f.trans q)
  | ct e => exact fun σ' H' Z' r q => h σ' H' Z' r (f.trans q)
  | rt d => exact h
section
variable {G : Gm} {X : Cx}
theorem ss_nil : PSs X [] (tSs G []) := by
  refine pss_nil.imp fun D σ H q => ?_
  obtain ⟨env, Z, out, r, ev, q⟩ := q
  simp only [execSs] at ev
  cases ev
  exact q σ H Z r .refl
theorem ss_cons {st : Stmt} {rest : List Stmt} {m : MS} {ms : List MS} (h1 : PS X st (tS G m)) (h2 : PSs X rest (tSs G ms)) : PSs X (st :: rest) (tSs G (m :: ms)) := by
  refine (pss_cons h1 h2).imp fun D σ H q => ?_
  obtain ⟨env, Z, out, r, ev, q⟩ := q
  simp only [execSs] at ev
  obtain ⟨o, e1, ev⟩ := Option.bind_eq_some_iff.mp ev
  refine ⟨env, Z, o, r, e1, ?_⟩
  cases o with
  | nx e => exact fun σ' H' Z' r' f => ⟨e, Z', out, r', ev, q.fwd f⟩
  | bk e => cases ev; exact q
  | ct e => cases ev; exact q
  | rt d => cases ev; exact q

/-! ### giving up what is held alone -/
theorem Rel.zone1 {K : PySem.W.Frag} {H0 H : Hp} {Z0 O0 Z : Zn} {σ : L2.St} {env : En} (r : Rel K H0 Z0 O0 σ H Z env) (i : Nat) :
    Rel K H0 Z0 O0 σ H (Zl Z σ env [i]) (match env[i]? with | some (.ow d) => env.set i (.va d) | _ => env) := by
  have zin : ∀ a, Z a → Zl Z σ env [i] a := Zl.zin
  have own : ∀ a, Zl Z σ env [i] a → Z a ∨ (isOw env i = true ∧ σ[i]? = some (some (V.ref a))) := fun a h => h.imp_right fun ⟨j, h1, h2, h3⟩ => by
    rw [List.mem_singleton] at h1
    subst h1
    exact ⟨h2, h3⟩
  have base : ∀ a, Zl Z σ env [i] a → H a ≠ none ∧ (Z0 a ∨ H0 a = none) := fun a h => by
    rcases own a h with h | ⟨h2, h3⟩
    · exact ⟨r.zok a h, r.zn a h⟩
    · obtain ⟨e, he⟩ := isOw_iff.mp h2
      obtain ⟨b, q1, q2⟩ := r.ow i e he
      rw [h3] at q1
      cases q1
      obtain ⟨_, _, _, q3, _⟩ := q2.is
      exact ⟨by rw [q3]; simp, .inr q2.new⟩
  split
  · rename_i d hd
    have hlt : i < env.length := (List.getElem?_eq_some_iff.mp hd).1
    obtain ⟨a, h1, h2⟩ := r.ow i d hd
    obtain ⟨ds, xs, rfl, h3, h4, h5⟩ := h2.is
    refine ⟨by rw [List.length_set]; exact r.len, fun j e q => ?_, fun j e q => ?_, fun j k e f b q1 q2 q3 q4 => ?_, fun b h => (base b h).1, fun b h => zin b (r.z0 b h), fun b h => (base b h).2, r.keep, r.od⟩
    · by_cases hj : i = j
      · subst hj
        rw [List.getElem?_set_self hlt] at q
        cases q
        exact ⟨_, h1, .lst (.inr ⟨i, List.mem_singleton.mpr rfl, isOw_iff.mpr ⟨_, hd⟩, h1⟩) (.inl h3) h4 (h5.mono (Kp.zone zin))⟩
      · rw [List.getElem?_set_ne hj] at q
        obtain ⟨v, q1, q2⟩ := r.va j e q
        exact ⟨v, q1, q2.mono (Kp.zone zin)⟩
    · by_cases hj : i = j
      · subst hj
        rw [List.getElem?_set_self hlt] at q
        cases q
      · rw [List.getElem?_set_ne hj] at q
        obtain ⟨b, q1, q2⟩ := r.ow j e q
        obtain ⟨es, ys, e1, e2, e3, e4⟩ := q2.is
        refine ⟨b, q1, fun hz => ?_, q2.new, es, ys, e1, e2, e3, e4.mono (Kp.zone zin)⟩
        rcases own b hz with hz | ⟨_, hz⟩
        · exact q2.nz hz
        · exact hj (r.sep i j _ e b hd q hz q1)
    · have key : ∀ (j : Nat) (e : D), (env.set i (.va (.lst ds)))[j]? = some (Slot.ow e) → env[j]? = some (Slot.ow e) := fun j e q => by
        by_cases hj : i = j
        · subst hj
          rw [List.getElem?_set_self hlt] at q
          cases q
        · rwa [List.getElem?_set_ne hj] at q
      exact r.sep j k e f b (key j e q1) (key k f q2) q3 q4
  · rename_i hno
    have : ∀ a, Zl Z σ env [i] a → Z a := fun a h => (own a h).resolve_right fun ⟨h2, _⟩ => by
      obtain ⟨e, he⟩ := isOw_iff.mp h2
      exact hno e he
    refine ⟨r.len, fun j e q => ?_, fun j e q => ?_, r.sep, fun b h => (base b h).1, fun b h => zin b (r.z0 b h), fun b h => (base b h).2, r.keep, r.od⟩
    · obtain ⟨v, q1, q2⟩ := r.va j e q
      exact ⟨v, q1, q2.mono (Kp.zone zin)⟩
    · obtain ⟨b, q1, q2⟩ := r.ow j e q
      obtain ⟨es, ys, e1, e2, e3, e4⟩ := q2.is
      exact ⟨b, q1, fun z => q2.nz (this b z), q2.new, es, ys, e1, e2, e3, e4.mono (Kp.zone zin)⟩
theorem thaw1_ow {env : En} {i j : Nat} (h : isOw (match env[i]? with | some (.ow d) => env.set i (.va d) | _ => env) j = true) : isOw env j = true ∧ j ≠ i := by
  split at h
  · rename_i d hd
    have hlt : i < env.length := (List.getElem?_eq_some_iff.mp hd).1
    by_cases hj : i = j
    · subst hj
      unfold isOw at h
      rw [List.getElem?_set_self hlt] at h
      cases h
    · refine ⟨?_, fun e => hj e.symm⟩
      unfold isOw at h ⊢
      rwa [List.getElem?_set_ne hj] at h
  · rename_i hno
    refine ⟨h, fun e => ?_⟩
    subst e
    obtain ⟨e, he⟩ := isOw_iff.mp h
    exact hno e he
theorem thaw1_ow' {env : En} {i j : Nat} (h : isOw env j = true) (ne : j ≠ i) : isOw (match env[i]? with | some (.ow d) => env.set i (.va d) | _ => env) j = true := by
  split
  · unfold isOw at h ⊢
    rwa [List.getElem?_set_ne (Ne.symm ne)]
  · exact h
theorem Rel.thaw {K : PySem.W.Frag} {H0 H : Hp} {Z0 O0 : Zn} {σ : L2.St} : ∀ (L : List Nat) {Z : Zn} {env : En}, Rel K H0 Z0 O0 σ H Z env → ∃ Z', Rel K H0 Z0 O0 σ H Z' (Rk.thaw env L) ∧ ∀ a, Z' a ↔ Zl Z σ env L a
  | [], Z, env, r => ⟨Z, r, fun a => ⟨.inl, fun h => h.elim id fun ⟨i, h1, _⟩ => by cases h1⟩⟩
  | i :: L, Z, env, r => by
    obtain ⟨Z', r', h⟩ := Rel.thaw L (r.zone1 i)
    refine ⟨Z', by unfold Rk.thaw; exact r', fun a => (h a).trans ⟨fun q => ?_, fun q => ?_⟩⟩
    · rcases q with q | ⟨j, h1, h2, h3⟩
      · rcases q with q | ⟨j, h1, h2, h3⟩
        · exact .inl q
        · exact .inr ⟨j, by rw [List.mem_singleton] at h1; rw [h1]; exact List.mem_cons_self, h2, h3⟩
      · exact .inr ⟨j, List.mem_cons_of_mem _ h1, (thaw1_ow h2).1, h3⟩
    · rcases q with q | ⟨j, h1, h2, h3⟩
      · exact .inl (.inl q)
      · by_cases e : j = i
        · subst e
          exact .inl (.inr ⟨j, List.mem_singleton.mpr rfl, h2, h3⟩)
        · rcases List.mem_cons.mp h1 with h1 | h1
          · exact absurd h1 e
          · exact .inr ⟨j, h1, thaw1_ow' h2 e, h3⟩
theorem thaw_ow : ∀ {L : List Nat} {env : En} {j : Nat}, isOw (thaw env L) j = true → isOw env j = true ∧ j ∉ L
  | [], env, j, h => ⟨h, by simp⟩
  | i :: L, env, j, h => by
    unfold thaw at h
    obtain ⟨h1, h2⟩ := thaw_ow h
    obtain ⟨h3, h4⟩ := thaw1_ow h1
    exact ⟨h3, by simp [h4, h2]⟩
theorem thaw_length : ∀ {L : List Nat} {env : En}, (thaw env L).length = env.length
  | [], _ => rfl
  | i :: L, env => by
    unfold thaw
    rw [thaw_length]
    split <;> simp
theorem sink_rel {K : PySem.W.Frag} {H0 H : Hp} {Z0 O0 Z : Zn} {σ : L2.St} {env : En} (r : Rel K H0 Z0 O0 σ H Z env) (L : List Nat) (d : D) :
    ∃ Z', Rel K H0 Z0 O0 σ H Z' (sink env L d) ∧ (∀ a, Z a → Z' a) ∧ (∀ a, Z' a → Zl Z σ env L a) ∧ ((d.flat = true ∨ ∀ a, Zl Z σ env L a → Z' a) ∧ (d.flat = true → ∀ a, Z' a → Z a)) ∧ ∀ j, isOw (sink env L d) j = true → isOw env j = true := by
  unfold sink
  split
  · rename_i h
    exact ⟨Z, r, fun _ h => h, Zl.zin, ⟨.inr (Zl.noOw h), fun _ _ z => z⟩, fun _ h => h⟩
  · split
    · rename_i h
      exact ⟨Z, r, fun _ h => h, Zl.zin, ⟨.inl h, fun _ _ z => z⟩, fun _ h => h⟩
    · rename_i hf
      obtain ⟨Z', r', h⟩ := r.thaw L
      exact ⟨Z', r', fun a z => (h a).mpr (.inl z), fun a z => (h a).mp z, ⟨.inr fun a z => (h a).mpr z, fun q => absurd q hf⟩, fun j q => (thaw_ow q).1⟩
theorem sink_den {K : PySem.W.Frag} {H : Hp} {Z Z' : Zn} {σ : L2.St} {env : En} {L : List Nat} {d : D} {v : V} (h : (d.flat = true ∨ ∀ a, Zl Z σ env L a → Z' a) ∧ (d.flat = true → ∀ a, Z' a → Z a)) (hv : Den K H (Zl Z σ env L) v d) : Den K H Z' v d := by
  rcases h.1 with f | h
  · exact hv.flat f
  · exact hv.mono (Kp.zone h)
/-- a name gets a list of its own -/
theorem Rel.setNew {K : PySem.W.Frag} {H0 H : Hp} {Z0 O0 Z : Zn} {σ : L2.St} {env : En} {p : Addr} {d : D} {i : Nat} (r : Rel K H0 Z0 O0 σ H Z env) (h : Own K H0 H Z p d) (hs : ∀ j, isOw env j = true → σ[j]? ≠ some (some (V.ref p))) :
    Rel K H0 Z0 O0 (σ.set i (some (.ref p))) H Z (env.set i (.ow d)) := by
  have at_ : ∀ (j : Nat) (s : Slot), (env.set i (.ow d))[j]? = some s → (j = i ∧ i < env.length ∧ s = .ow d) ∨ (i ≠ j ∧ env[j]? = some s) := fun j s q => by
    by_cases hj : i = j
    · subst hj
      have hlt : i < env.length := by
        have := (List.getElem?_eq_some_iff.mp q).1
        rwa [List.length_set] at this
      rw [List.getElem?_set_self hlt] at q
      cases q
      exact .inl ⟨rfl, hlt, rfl⟩
    · rw [List.getElem?_set_ne hj] at q
      exact .inr ⟨hj, q⟩
  have slot : ∀ j, i ≠ j → (σ.set i (some (V.ref p)))[j]? = σ[j]? := fun j ne => List.getElem?_set_ne ne
  have self : i < env.length → (σ.set i (some (V.ref p)))[i]? = some (some (V.ref p)) := fun hlt => List.getElem?_set_self (by rw [← r.len]; exact hlt)
  refine ⟨by rw [List.length_set, List.length_set]; exact r.len, fun j e q => ?_, fun j e q => ?_, fun j k e f a q1 q2 q3 q4 => ?_, r.zok, r.z0, r.zn, r.keep, r.od⟩
  · rcases at_ j _ q with ⟨_, _, z⟩ | ⟨ne, q⟩
    · cases z
    · rw [slot j ne]; exact r.va j e q
  · rcases at_ j _ q with ⟨rfl, hlt, z⟩ | ⟨ne, q⟩
    · cases z
      exact ⟨p, self hlt, h⟩
    · rw [slot j ne]; exact r.ow j e q
  · rcases at_ j _ q1 with ⟨rfl, hlt, z⟩ | ⟨n1, m1⟩ <;> rcases at_ k _ q2 with ⟨rfl, hlt2, z2⟩ | ⟨n2, m2⟩
    · rfl
    · rw [self hlt] at q3
      cases q3
      rw [slot k n2] at q4
      exact absurd q4 (hs k (isOw_iff.mpr ⟨_, m2⟩))
    · rw [self hlt2] at q4
      cases q4
      rw [slot j n1] at q3
      exact absurd q3 (hs j (isOw_iff.mpr ⟨_, m1⟩))
    · rw [slot j n1] at q3
      rw [slot k n2] at q4
      exact r.sep j k e f a m1 m2 q3 q4
/-- a list that a name holds alone changes -/
theorem Rel.updOw {K : PySem.W.Frag} {H0 H : Hp} {Z0 O0 Z : Zn} {σ : L2.St} {env : En} {a : Addr} {xs ys : List V} {es : List D} {i : Nat} (r : Rel K H0 Z0 O0 σ H Z env) (hi : σ[i]? = some (some (V.ref a))) (hl : i < env.length) (nz : ¬ Z a) (h0 : H0 a = none)
    (hs : ∀ j, j ≠ i → isOw env j = true → σ[j]? ≠ some (some (V.ref a))) (hH : H a = some (.lst xs)) (hz : ys.length ≤ sizeLine) (hd : Dens K H Z ys es) :
    Rel K H0 Z0 O0 σ (upd H a (.lst ys)) Z (env.set i (.ow (.lst es))) ∧ Fwd K H Z (upd H a (.lst ys)) Z := by
  have kp : Kp K H Z (upd H a (.lst ys)) Z := Kp.updD (Same.refl H) hH nz fun _ z => z
  have nn : ∀ b, H b ≠ none → upd H a (.lst ys) b ≠ none := fun b h => by
    by_cases e : b = a
    · subst e; rw [upd_same]; simp
    · rw [upd_ne e]; exact h
  refine ⟨⟨by rw [List.length_set]; exact r.len, fun j e q => ?_, fun j e q => ?_, fun j k e f b q1 q2 q3 q4 => ?_, fun b h => nn b (r.zok b h), r.z0, r.zn, fun b o e ho => ?_, fun b h => nn b (r.od b h)⟩, kp, fun _ z => z⟩
  · by_cases hj : i = j
    · subst hj
      rw [List.getElem?_set_self hl] at q
      cases q
    · rw [List.getElem?_set_ne hj] at q
      obtain ⟨v, q1, q2⟩ := r.va j e q
      exact ⟨v, q1, q2.mono kp⟩
  · by_cases hj : i = j
    · subst hj
      rw [List.getElem?_set_self hl] at q
      cases q
      exact ⟨a, hi, nz, h0, es, ys, rfl, upd_same, hz, hd.mono kp⟩
    · rw [List.getElem?_set_ne hj] at q
      obtain ⟨b, q1, q2⟩ := r.ow j e q
      obtain ⟨fs, zs, e1, e2, e3, e4⟩ := q2.is
      have ne : b ≠ a := fun e => hs j (fun z => hj z.symm) (isOw_iff.mpr ⟨_, q⟩) (e ▸ q1)
      exact ⟨b, q1, q2.nz, q2.new, fs, zs, e1, by rw [upd_ne ne]; exact e2, e3, e4.mono kp⟩
  · have key : ∀ (j : Nat) (e : D), (env.set i (.ow (.lst es)))[j]? = some (Slot.ow e) → j = i ∨ (j ≠ i ∧ env[j]? = some (Slot.ow e)) := fun j e q => by
      by_cases hj : i = j
      · exact .inl hj.symm
      · rw [List.getElem?_set_ne hj] at q
        exact .inr ⟨fun z => hj z.symm, q⟩
    rcases key j e q1 with rfl | ⟨n1, m1⟩ <;> rcases key k f q2 with rfl | ⟨n2, m2⟩
    · rfl
    · rw [hi] at q3
      cases q3
      exact absurd q4 (hs k n2 (isOw_iff.mpr ⟨_, m2⟩))
    · rw [hi] at q4
      cases q4
      exact absurd q3 (hs j n1 (isOw_iff.mpr ⟨_, m1⟩))
    · exact r.sep j k e f b m1 m2 q3 q4
  · rw [upd_ne (fun z => by rw [z, h0] at e; cases e)]
    exact r.keep b o e ho

/-! ### assignments -/
theorem new_own {K : PySem.W.Frag} {H0 H H1 : Hp} {Z0 O0 Z : Zn} {σ : L2.St} {env : En} {p : Addr} (r : Rel K H0 Z0 O0 σ H Z env) (hp : H p = none) : H0 p = none ∧ ¬ Z p ∧ ∀ j, isOw env j = true → σ[j]? ≠ some (some (V.ref p)) := by
  refine ⟨?_, fun z => r.zok p z hp, fun j h q => ?_⟩
  · cases e : H0 p with
    | none => rfl
    | some o =>
      by_cases ho : O0 p
      · exact absurd hp (r.od p ho)
      · rw [r.keep p o e ho] at hp; cases hp
  · obtain ⟨e, he⟩ := isOw_iff.mp h
    obtain ⟨b, q1, q2⟩ := r.ow j e he
    rw [q] at q1
    cases q1
    obtain ⟨_, _, _, q3, _⟩ := q2.is
    rw [q3] at hp; cases hp
/-- a value into a name's slot -/
theorem put_slot {e : ME} {σ : L2.St} {H H1 H' : Hp} {env : En} {Z Z1 : Zn} {d : D} {v : V} {i : Nat} (r : G.R σ H Z env) (g : Grow H Z H1 Z1) (n : New G.K H1 H' (Zl Z1 σ env (leakEl e)) v d) (b : Bool) :
    ∃ Z', G.R (σ.set i (some v)) H' Z' ((sink env (leak e) d).set i (if b && isCell d then .ow d else .va d)) ∧ Fwd G.K H Z H' Z' := by
  have r1 := r.grow g
  have gr : Grow H1 Z1 H' Z1 := ⟨n.1, fun _ z => z, fun _ z => .inl z, fun _ z => .inl z⟩
  by_cases hb : (b && isCell d) = true
  · simp only [Bool.and_eq_true] at hb
    rw [if_pos (by simp [hb.1, hb.2])]
    have key : ∃ ds p xs, d = .lst ds ∧ v = .ref p ∧ H1 p = none ∧ H' p = some (.lst xs) ∧ xs.length ≤ sizeLine ∧ Dens G.K H' (Zl Z1 σ env (leakEl e)) xs ds := by
      cases d with
      | lst ds => obtain ⟨_, p, xs, h1, h2, h3, h4, h5⟩ := n; exact ⟨ds, p, xs, rfl, h1, h2, h3, h4, h5⟩
      | dic ds => have := n.2; cases this
      | _ => cases hb.2
    obtain ⟨ds, p, xs, rfl, rfl, h2, h3, h4, h5⟩ := key
    obtain ⟨Z', r', z1, z2, z3, z4⟩ := sink_rel (r1.grow gr) (leak e) (.lst ds)
    obtain ⟨o1, o2, o3⟩ := new_own (H1 := H1) r1 h2
    refine ⟨Z', r'.setNew ⟨fun z => ?_, o1, ds, xs, rfl, h3, h4, h5.mono (Kp.zone fun a z => ?_)⟩ fun j h => o3 j (z4 j h), (g.fwd.trans gr.fwd).trans (.zone z1)⟩
    · rcases z2 p z with z | ⟨j, _, q2, q3⟩
      · exact o2 z
      · exact o3 j q2 q3
    · rcases z3.1 with f | z3
      · cases f
      · exact z3 a (Zl.el a z)
  · rw [if_neg hb]
    obtain ⟨Z2, g2, hz, h2⟩ := n.grow g (Zt := Zl Z1 σ env (leakEl e)) fun _ h => h
    obtain ⟨Z', r', z1, z2, z3, z4⟩ := sink_rel (r.grow g2) (leak e) d
    have hd : Den G.K H' (Zl Z2 σ env (leak e)) v d := by
      have := h2.mono (Zt' := Zl Z2 σ env (leak e)) (Ze' := Zl Z2 σ env (leak e)) (Same.refl H') (fun a h => ?_) (Zl.mono hz (leakEl_sub e))
      · exact this.den fun _ z => z
      · rcases h with h | h
        · exact .inl h
        · exact Zl.mono hz (leakEl_sub e) a h
    exact ⟨Z', r'.set (sink_den z3 hd), g2.fwd.trans (.zone z1)⟩
theorem put_slotE {e : ME} {σ : L2.St} {H H' : Hp} {env : En} {Z Z1 : Zn} {d : D} {v : V} {i : Nat} (r : G.R σ H Z env) (g : Grow H Z H' Z1) (h : DenT G.K H' (Zl Z1 σ env (leak e)) (Zl Z1 σ env (leakEl e)) v d) :
    ∃ Z', G.R (σ.set i (some v)) H' Z' ((sink env (leak e) d).set i (.va d)) ∧ Fwd G.K H Z H' Z' := by
  obtain ⟨Z', r', z1, z2, z3, z4⟩ := sink_rel (r.grow g) (leak e) d
  exact ⟨Z', r'.set (sink_den z3 (h.den Zl.el)), g.fwd.trans (.zone z1)⟩
theorem ss_set {st : Stmt} {e : ME} {i : Nat} (h : (fresh e = true ∧ PS X st (tAsg (tF G e) (gName i))) ∨ (fresh e = false ∧ PS X st (tAsg (tE G e) (gName i)))) : PS X st (tS G (.asg (.nm i) e)) := by
  rcases h with ⟨hf, h⟩ | ⟨hf, h⟩
  · refine h.imp fun D σ H q => ?_
    obtain ⟨env, Z, out, r, ev, q⟩ := q
    simp only [execS] at ev
    obtain ⟨d, e1, ev⟩ := Option.bind_eq_some_iff.mp ev
    simp only [asgFresh, hf, Bool.true_and, Option.map_some, Option.some.injEq] at ev
    subst ev
    refine ⟨env, Z, d, r, e1, fun v H1 H' Z' g n => ?_⟩
    obtain ⟨Z2, r2, f2⟩ := put_slot (i := i) r g n true
    rw [Bool.true_and] at r2
    exact q _ _ Z2 r2 f2
  · refine h.imp fun D σ H q => ?_
    obtain ⟨env, Z, out, r, ev, q⟩ := q
    simp only [execS] at ev
    obtain ⟨d, e1, ev⟩ := Option.bind_eq_some_iff.mp ev
    simp only [asgFresh, hf, Bool.false_and, Option.map_some, Option.some.injEq] at ev
    subst ev
    refine ⟨env, Z, d, r, e1, fun v H' Z' g n => ?_⟩
    obtain ⟨Z2, r2, f2⟩ := put_slotE (i := i) r g n
    exact q _ _ Z2 r2 f2
theorem ss_asg {st : Stmt} {e : ME} {ts : List Tgt} (h : PS X st (tAsg (tE G e) (gT G (.tp ts)))) : PS X st (tS G (.asg (.tp ts) e)) := by
  refine h.imp fun D σ H q => ?_
  obtain ⟨env, Z, out, r, ev, q⟩ := q
  simp only [execS] at ev
  obtain ⟨d, e1, ev⟩ := Option.bind_eq_some_iff.mp ev
  simp only [asgFresh] at ev
  obtain ⟨env1, e2, rfl⟩ := Option.map_eq_some_iff.mp ev
  refine ⟨env, Z, d, r, e1, fun v H' Z1 g n => ?_⟩
  obtain ⟨Z', r', z1, z2, z3, z4⟩ := sink_rel (r.grow g) (leak e) d
  exact ⟨_, Z', d, env1, r', sink_den z3 (n.den Zl.el), e2, fun σ' r'' _ => q σ' H' Z' r'' (g.fwd.trans (.zone z1))⟩

/-! ### the others -/
theorem ss_ret {e : Expr} {me : ME} {pos : Pos} (h : PE X e (tE G me)) : PS X (.Return (some e) pos) (tS G (.ret me)) := by
  refine (ps_ret h).imp fun D σ H q => ?_
  obtain ⟨env, Z, out, r, ev, q⟩ := q
  simp only [execS] at ev
  obtain ⟨d, e1, rfl⟩ := Option.map_eq_some_iff.mp ev
  refine ⟨env, Z, d, r, e1, fun v H' Z1 g n => ?_⟩
  obtain ⟨Z', r', z⟩ := (r.grow g).thaw (leak me)
  exact q v H' Z' ⟨r'.keep, r'.z0, r'.zn, r'.zok⟩ ((n.den Zl.el).mono (Kp.zone fun a q => (z a).mpr q))
theorem ss_retN {pos : Pos} : PS X (.Return none pos) (tS G .retN) := by
  refine ps_retN.imp fun D σ H q => ?_
  obtain ⟨env, Z, out, r, ev, q⟩ := q
  simp only [execS] at ev
  cases ev
  exact q _ H Z ⟨r.keep, r.z0, r.zn, r.zok⟩ .non
theorem ss_pass {pos : Pos} : PS X (.Pass pos) (tS G .pas) := by
  refine ps_pass.imp fun D σ H q => ?_
  obtain ⟨env, Z, out, r, ev, q⟩ := q
  simp only [execS] at ev
  cases ev
  exact q σ H Z r .refl
theorem ss_brk {pos : Pos} : PS X (.Break pos) (tS G .brk) := by
  refine ps_break.imp fun D σ H q => ?_
  obtain ⟨env, Z, out, r, ev, q⟩ := q
  simp only [execS] at ev
  cases ev
  exact q σ H Z r .refl
theorem ss_cnt {pos : Pos} : PS X (.Continue pos) (tS G .cnt) := by
  refine ps_continue.imp fun D σ H q => ?_
  obtain ⟨env, Z, out, r, ev, q⟩ := q
  simp only [execS] at ev
  cases ev
  exact q σ H Z r .refl
theorem ss_exp {e : Expr} {me : ME} {pos : Pos} (h : PE X e (tE G me)) (hs : swapsWith e none pos.line X.env = pure false) : PS X (.Expr e pos) (tS G (.exp me)) := by
  refine (ps_expr h hs).imp fun D σ H q => ?_
  obtain ⟨env, Z, out, r, ev, q⟩ := q
  simp only [execS] at ev
  obtain ⟨d, e1, rfl⟩ := Option.map_eq_some_iff.mp ev
  exact ⟨env, Z, d, r, e1, fun v H' Z1 g n => q σ H' Z1 (r.grow g) g.fwd⟩
theorem ss_if {c : Expr} {a b : List Stmt} {mc : ME} {ma mb : List MS} {pos : Pos} (hc : PT X c (tT G mc)) (ha : PSs X a (tSs G ma)) (hb : PSs X b (tSs G mb)) : PS X (.If c a b pos) (tS G (.ife mc ma mb)) := by
  refine (ps_if hc ha hb).imp fun D σ H q => ?_
  obtain ⟨env, Z, out, r, ev, q⟩ := q
  simp only [execS] at ev
  obtain ⟨d, e1, ev⟩ := Option.bind_eq_some_iff.mp ev
  refine ⟨env, Z, d, r, e1, fun H' Z1 g => ?_⟩
  cases ht : tru d with
  | true =>
    rw [ht] at ev
    simp only [if_true] at ev ⊢
    exact ⟨env, Z1, out, r.grow g, ev, q.fwd g.fwd⟩
  | false =>
    rw [ht] at ev
    simp only [Bool.false_eq_true, if_false] at ev ⊢
    exact ⟨env, Z1, out, r.grow g, ev, q.fwd g.fwd⟩
theorem forGo_cons {body : En → Option Out} {t : Tgt} {x : D} {xs : List D} {env : En} {out : Out} (h : forGo body t (x :: xs) env = some out) : ∃ env1 o, asgT t x env = some env1 ∧ body env1 = some o ∧
    (match o with | .nx e => forGo body t xs e | .ct e => forGo body t xs e | .bk e => some (.nx e) | .rt d => some (.rt d)) = some out := by
  simp only [forGo] at h
  obtain ⟨env1, h1, h⟩ := Option.bind_eq_some_iff.mp h
  obtain ⟨o, h2, h⟩ := Option.bind_eq_some_iff.mp h
  exact ⟨env1, o, h1, h2, h⟩
theorem ss_for {tg it : Expr} {body : List Stmt} {t : Tgt} {mi : ME} {mb : List MS} {pos : Pos} (hxe : X.xe = fun _ _ => False) (hc : X.calm = true) (hi : PI X tg it (tI G mi)) (hg : PG X tg (gT G t)) (hb : PSs X body (tSs G mb)) (hs : ∀ x, foldedSetIterable it X.env x = pure x) :
    PS X (.For tg it body [] pos) (tS G (.forr t mi mb)) := by
  refine (ps_for (by rw [hxe]; exact PassesOwn.never) hc hi hg hb hs).imp fun D σ H q => ?_
  obtain ⟨env, Z, out, r, ev, q⟩ := q
  simp only [execS] at ev
  obtain ⟨d, e1, ev⟩ := Option.bind_eq_some_iff.mp ev
  obtain ⟨ds, e2, ev⟩ := Option.bind_eq_some_iff.mp ev
  refine ⟨env, Z, d, ds, r, e1, e2, fun J H1 Z1 g1 w => ?_⟩
  obtain ⟨hz, Wp, Y, wk, w1, w2⟩ := w
  have start : ∃ Z2, G.R σ H1 Z2 (if noOw env (leak mi) then env else thaw env (leak mi)) ∧ (∀ a, Z1 a → Z2 a) ∧ ∀ a, Zl Z1 σ env (leak mi) a → Z2 a := by
    split
    · rename_i h
      exact ⟨Z1, r.grow g1, fun _ z => z, Zl.noOw h⟩
    · obtain ⟨Z2, r2, h⟩ := (r.grow g1).thaw (leak mi)
      exact ⟨Z2, r2, fun a z => (h a).mpr (.inl z), fun a z => (h a).mpr z⟩
  obtain ⟨Z2, r2, z12, zt⟩ := start
  have f0 : Fwd G.K H Z H1 Z2 := g1.fwd.trans (.zone z12)
  have kpt : ∀ {H' : Hp} {Z' : Zn} {L : List Nat}, (∀ a, Zl Z1 σ env L a → Zl Z1 σ env (leak mi) a) → Fwd G.K H1 Z2 H' Z' → Kp G.K H1 (Zl Z1 σ env L) H' (Zl Z1 σ env L) := fun {H' Z' L} hl f =>
    ⟨f.kp.tup, fun a xs z h => ⟨z, (f.kp.lst a xs (zt a (hl a z)) h).2⟩⟩
  obtain ⟨f, hf⟩ : ∃ f : En → Option Out, f = fun e => execSs G.cf mb e := ⟨_, rfl⟩
  rw [← hf] at ev
  refine for_it wk (fun i σ' H' => ∃ e Z', G.R σ' H' Z' e ∧ Fwd G.K H1 Z2 H' Z' ∧ forGo f t (ds.drop i) e = some out) ⟨_, Z2, r2, .refl, ev⟩ ?_ ?_ ?_
  · rintro i σ' H' hi ⟨e, Z', r', f', _⟩
    exact w1 H' (kpt (fun _ z => z) f')
  · rintro i x σ' H' H2 hi ⟨e, Z', r', f', ev'⟩ y
    obtain ⟨s2, dx, hdx, hx⟩ := w2 i H' x H2 hi (kpt Zl.el f') y
    rw [drop_at hdx] at ev'
    obtain ⟨env1, o, a1, b1, ev'⟩ := forGo_cons ev'
    have g2 : Grow H' Z' H2 Z' := ⟨s2, fun _ z => z, fun _ z => .inl z, fun _ z => .inl z⟩
    have hx' : Den G.K H2 Z' x dx := hx.mono (Kp.zone fun a z => f'.zin a (zt a (Zl.el a z)))
    refine ⟨e, Z', dx, env1, r'.grow g2, hx', a1, fun σ2 rr _ => ?_⟩
    rw [hf] at b1
    refine ⟨env1, Z', o, rr, b1, ?_⟩
    cases o with
    | nx e2 => exact fun σ3 H3 Z3 r3 f3 => ⟨e2, Z3, r3, (f'.trans g2.fwd).trans f3, ev'⟩
    | ct e2 => exact fun σ3 H3 Z3 r3 f3 => ⟨e2, Z3, r3, (f'.trans g2.fwd).trans f3, ev'⟩
    | bk e2 =>
      cases ev'
      exact fun σ3 H3 Z3 r3 f3 => q σ3 H3 Z3 r3 (((f0.trans f').trans g2.fwd).trans f3)
    | rt d2 =>
      cases ev'
      exact q
  · rintro σ' H' ⟨e, Z', r', f', ev'⟩
    rw [List.drop_length] at ev'
    simp only [forGo] at ev'
    cases ev'
    exact q σ' H' Z' r' (f0.trans f')
theorem whlGo_some {c : En → Option Bool} {body : En → Option Out} {env : En} {out : Out} (h : whlGo c body env = some out) : ∃ n, whlN c body n env = some out := by
  unfold whlGo at h
  split at h
  · exact ⟨_, h⟩
  · cases h
theorem ss_while {c : Expr} {body : List Stmt} {mc : ME} {mb : List MS} {pos : Pos} (hxe : X.xe = fun _ _ => False) (hc : PT X c (tT G mc)) (hb : PSs X body (tSs G mb)) : PS X (.While c body [] pos) (tS G (.whl mc mb)) := by
  refine (ps_while (by rw [hxe]; exact PassesOwn.never) hc hb).imp fun D σ H q => ?_
  obtain ⟨env, Z, out, r, ev, q⟩ := q
  simp only [execS] at ev
  obtain ⟨n, ev⟩ := whlGo_some ev
  obtain ⟨f, hf⟩ : ∃ f : En → Option Out, f = fun e => execSs G.cf mb e := ⟨_, rfl⟩
  obtain ⟨fc, hfc⟩ : ∃ f : En → Option Bool, f = fun e => (evalE G.cf mc e).map tru := ⟨_, rfl⟩
  rw [← hf, ← hfc] at ev
  refine ⟨fun m σ' H' => ∃ e Z', G.R σ' H' Z' e ∧ Fwd G.K H Z H' Z' ∧ whlN fc f m e = some out, ⟨n, env, Z, r, .refl, ev⟩, ?_⟩
  rintro m σ' H' ⟨e, Z', r', f', ev'⟩
  cases m with
  | zero => cases ev'
  | succ m =>
    simp only [whlN] at ev'
    obtain ⟨k, c1, ev'⟩ := Option.bind_eq_some_iff.mp ev'
    rw [hfc] at c1
    obtain ⟨kd, c2, rfl⟩ := Option.map_eq_some_iff.mp c1
    refine ⟨e, Z', kd, r', c2, fun H2 Z2 g2 => ?_⟩
    cases ht : tru kd with
    | false =>
      rw [ht] at ev'
      simp only [Bool.false_eq_true, if_false] at ev' ⊢
      cases ev'
      exact q σ' H2 Z2 (r'.grow g2) (f'.trans g2.fwd)
    | true =>
      rw [ht] at ev'
      simp only [if_true] at ev' ⊢
      obtain ⟨o, b1, ev'⟩ := Option.bind_eq_some_iff.mp ev'
      rw [hf] at b1
      refine ⟨fun σ3 H3 => ∃ e Z3, G.R σ3 H3 Z3 e ∧ Fwd G.K H Z H3 Z3 ∧ whlN fc f m e = some out, fun σ3 H3 h => ⟨m, Nat.lt_succ_self m, h⟩, e, Z2, o, r'.grow g2, b1, ?_⟩
      cases o with
      | nx e2 => exact fun σ3 H3 Z3 r3 f3 => ⟨e2, Z3, r3, (f'.trans g2.fwd).trans f3, ev'⟩
      | ct e2 => exact fun σ3 H3 Z3 r3 f3 => ⟨e2, Z3, r3, (f'.trans g2.fwd).trans f3, ev'⟩
      | bk e2 =>
        cases ev'
        exact fun σ3 H3 Z3 r3 f3 => q σ3 H3 Z3 r3 ((f'.trans g2.fwd).trans f3)
      | rt d2 =>
        cases ev'
        exact q
end
end Rk
/-! Fw12: append, extend and the like -/
namespace Rk
open PySem PySem.Spec PyProof.Rows L2
section
open PySem.AutoSeq1
open PySem.MeetsSeq PySem.MeetsSeq2 PySem.MeetsSeq3 PySem.SeqRoads2
set_option maxRecDepth 8000 in
theorem extend_tup (l : Addr) (items : Array Value) (n : Nat) (b : Addr) (items2 : Array Value) (n2 : Nat) (dd : Option Addr) (sl : Array (Option Value)) (h0 : ¬(!items.isEmpty && Builtin.List.listTooLong (items.size + items2.size)) = true) (h1 : items.size ≤ sizeLine) (h2 : items.size + items2.size ≤ sizeLine + 1) :
    Meets (Builtin.«list.extend» ⟨[.ref l, .ref b], []⟩) (fun _ R s => s.heap.get? l = some { cls := .type "list", data := .seq items n } ∧ s.heap.get? b = some { cls := .type "tuple", dict := dd, data := .seq items2 n2, slots := sl } ∧
      R (.ok (.ret Value.none)) { s with heap := s.heap.update l (Obj.mapSeq fun x => x ++ items2), toks := s.toks }) :=
  .of_wp fun prog w A R s h => by
    obtain ⟨hp, g, d, tk, os⟩ := s
    obtain ⟨hl, hb, h⟩ := h
    have f1 := idx_int
    have f2 := AutoSeq1.sub_tuple_tuple
    have f3 := AutoSeq1.sub_list_list
    have f4 := AutoSeq1.sub_tuple_list
    have f5 := AutoSeq1.sub_list_tuple
    have hz : (items ++ items2).size ≤ sizeLine + 1 := by simpa using h2
    wp_walk using (wpAny_updateSeq hl rfl (hz := h1) (_hz' := hz)), wpAny_loadPart' hl, wpAny_loadPart' hb
    exact ⟨_, rfl, h⟩
end
section
variable {G : Gm} {X : Cx}
/-! ### x.append(e), x.extend(e) -/
theorem isOw_of {env : En} {i : Nat} {d : D} (h : env[i]? = some (Slot.ow d)) : isOw env i = true := isOw_iff.mpr ⟨d, h⟩
/-- what stands at an owned name -/
theorem ow_at {σ : L2.St} {H : Hp} {Z : Zn} {env : En} {i : Nat} {ds : List D} (r : G.R σ H Z env) (h : env[i]? = some (Slot.ow (.lst ds))) : ∃ a xs, σ[i]? = some (some (V.ref a)) ∧ ¬ Z a ∧ G.H0 a = none ∧ H a = some (.lst xs) ∧ xs.length ≤ sizeLine ∧ Dens G.K H Z xs ds ∧ i < env.length ∧
    ∀ j, j ≠ i → isOw env j = true → σ[j]? ≠ some (some (V.ref a)) := by
  obtain ⟨a, h1, h2⟩ := r.ow i _ h
  obtain ⟨es, xs, e, h3, h4, h5⟩ := h2.is
  cases e
  refine ⟨a, xs, h1, h2.nz, h2.new, h3, h4, h5, (List.getElem?_eq_some_iff.mp h).1, fun j ne hj q => ?_⟩
  obtain ⟨e, he⟩ := isOw_iff.mp hj
  exact ne (r.sep j i e _ a he h q h1)
/-- the list at a gets more, the items' own lists are given up -/
theorem app_rel {σ : L2.St} {H H1 : Hp} {Z Z1 : Zn} {env : En} {i : Nat} {a : Addr} {xs zs : List V} {ds es : List D} {L : List Nat} {d : D} (r : G.R σ H Z env) (r1 : G.R σ H1 Z1 env) (g : Grow H Z H1 Z1) (h1 : σ[i]? = some (some (V.ref a))) (h2 : ¬ Z a) (h3 : G.H0 a = none)
    (h4 : H a = some (.lst xs)) (h6 : Dens G.K H Z xs ds) (h7 : ∀ j, j ≠ i → isOw env j = true → σ[j]? ≠ some (some (V.ref a))) (hlt : i < env.length) (hz : xs.length + zs.length ≤ sizeLine) (hn : ¬ i ∈ L ∨ d.flat = true)
    (hd : ∀ Z', ((d.flat = true ∨ ∀ a, Zl Z1 σ env L a → Z' a) ∧ (d.flat = true → ∀ a, Z' a → Z1 a)) → Dens G.K H1 Z' zs es) :
    ∃ Z', G.R σ (upd H1 a (.lst (xs ++ zs))) Z' ((sink env L d).set i (.ow (.lst (ds ++ es)))) ∧ Fwd G.K H Z (upd H1 a (.lst (xs ++ zs))) Z' := by
  obtain ⟨Z', r', z1, z2, z3, z4⟩ := sink_rel r1 L d
  have nz1 : ¬ Z1 a := fun z => (g.znew a z).elim h2 fun q => by rw [h4] at q; cases q
  have nz : ¬ Z' a := fun z => by
    rcases hn with hn | hn
    · rcases z2 a z with z' | ⟨j, q1, q2, q3⟩
      · exact nz1 z'
      · have : j = i := Classical.byContradiction fun ne => h7 j ne q2 q3
        subst this
        exact hn q1
    · exact nz1 (z3.2 hn a z)
  have hl : i < (sink env L d).length := by
    unfold sink
    split
    · exact hlt
    · split
      · exact hlt
      · rw [thaw_length]; exact hlt
  obtain ⟨r2, f2⟩ := r'.updOw h1 hl nz h3 (fun j ne hj => h7 j ne (z4 j hj)) (g.same _ _ h4) (by rw [List.length_append]; exact hz) (((h6.mono g.kp).mono (Kp.zone z1)).append (hd Z' z3))
  exact ⟨Z', r2, (g.fwd.trans (.zone z1)).trans f2⟩
theorem ss_app {x : Str} {p apos cpos pos : Pos} {e : Expr} {me : ME} {i : Nat} (hv : PE X (.Name x p) (tVar i)) (he : PE X e (tE G me)) (hst : notStar e = true) (hl : (apos.endLine == cpos.line) = true) :
    PS X (.Expr (.Call (.Attribute (.Name x p) "append" apos) [e] [] cpos) pos) (tS G (.app i me)) := by
  have hs : starEach [e] X.env = (false, eval e X.env) :: starEach [] X.env := star_cons hst
  have hb := pe_bm (X := X) PySem.F.plainAttrs_list PySem.F.slot_list_append PySem.F.type_list_append mt_append hv (ses_cons he ses_nil hs) (apos := apos) (cpos := cpos) rfl (by rw [hs]; rfl) hl hs rfl
  refine (ps_expr hb rfl).imp fun D σ H q => ?_
  obtain ⟨env, Z, out, r, ev, q⟩ := q
  simp only [execS] at ev
  obtain ⟨d, e1, ev⟩ := Option.bind_eq_some_iff.mp ev
  split at ev
  rotate_left
  · cases ev
  rename_i ds hi
  split at ev
  rotate_left
  · cases ev
  rename_i hz
  cases ev
  obtain ⟨a, xs, h1, h2, h3, h4, h5, h6, hlt, h7⟩ := ow_at r hi
  refine ⟨_, h1, .inl ⟨rfl, xs, SqL.of h4⟩, ?_⟩
  refine ⟨env, Z, [d], r, by simp only [evalEs, e1]; rfl, fun vs H1 Z1 g h => ?_⟩
  obtain ⟨v, rfl, hh⟩ := h.one
  have r1 := r.grow g
  have hH1 := g.same _ _ h4
  refine ⟨a, xs, v, rfl, rfl, hH1, by rw [h6.length]; exact hz.1, ?_⟩
  simp only [leaks, leaksEl, List.append_nil] at hh
  obtain ⟨Z', r2, f2⟩ := app_rel r r1 g h1 h2 h3 h4 h6 h7 hlt (es := [d]) (zs := [v]) (L := leak me) (d := d) (by rw [h6.length]; exact hz.1) (hz.2.imp id id) (fun Z' z => .cons (sink_den z (hh.den Zl.el)) .nil)
  exact q _ _ Z' r2 f2
def rExtD (K : PySem.W.Frag) : V → List V → Hp → VK → Prop := fun x vs H Q => ∃ l b xs zs, x = .ref l ∧ vs = [.ref b] ∧ H l = some (.lst xs) ∧ (Rd H b (.lst zs) ∨ SqT K H b zs) ∧ zs.length ≤ sizeLine ∧ xs.length + zs.length ≤ sizeLine ∧ Q .non (upd H l (.lst (xs ++ zs)))
theorem mt_extD : MtR X "list.extend" (rExtD X.K) := by
  intro pins s σ H x vs v us Q I rx rv h
  obtain ⟨l, b, xs, zs, rfl, rfl, hH, hB, hz0, hz, q⟩ := h
  cases rx
  obtain ⟨u, rfl, ru⟩ := rv.one
  cases ru
  obtain ⟨z, its, n, r, hl, e⟩ := I.lstM hH
  have fin : ∀ its2 : List Value, Vals zs its2 → EP X pins σ Q .none { s with heap := s.heap.update l (Obj.mapSeq fun y => y ++ its2.toArray), toks := s.toks } := fun its2 r2 =>
    ⟨.non, _, I.lset (its' := its ++ its2) hH e (by simp) (r.append r2) (by rw [List.length_append]; exact hz), rfl, q⟩
  have long : ∀ its2 : List Value, Vals zs its2 → its.toArray.size + its2.toArray.size ≤ sizeLine ∧ ¬ (!its.toArray.isEmpty && Builtin.List.listTooLong (its.toArray.size + its2.toArray.size)) = true := fun its2 r2 => by
    have e1 := r2.length
    have hsz : its.toArray.size + its2.toArray.size ≤ sizeLine := by simp only [List.size_toArray]; omega
    exact ⟨hsz, by rw [notLongL hsz, Bool.and_false]; decide⟩
  rcases hB with hB | hB
  · obtain ⟨z2, its2, n2, r2, hl2, e2⟩ := Inv.lstR I hB
    obtain ⟨k1, k2⟩ := long its2 r2
    exact call_meets F.slot_list_extend ⟨_, e, rfl⟩ F.entry_list_extend (F.args_list_extend_2 _ _) (AutoSeq1.list_extend_list_list_0 l its.toArray n b its2.toArray n2 k2 (by simp only [List.size_toArray]; omega) (by omega)) ⟨e, e2, fin its2 r2⟩
  · obtain ⟨its2, r2, ⟨⟨cls, dd, data, sl⟩, ho, hc, n2, hd⟩, hz2⟩ := I.tuple hB
    simp only at hc hd
    subst hc hd
    obtain ⟨k1, k2⟩ := long its2 r2
    exact call_meets F.slot_list_extend ⟨_, e, rfl⟩ F.entry_list_extend (F.args_list_extend_2 _ _) (extend_tup l its.toArray n b its2.toArray n2 dd sl k2 (by simp only [List.size_toArray]; omega) (by omega)) ⟨e, ho, fin its2 r2⟩
theorem ss_ext {x : Str} {p apos cpos pos : Pos} {e : Expr} {me : ME} {i : Nat} (hK : X.K = G.K) (hv : PE X (.Name x p) (tVar i)) (he : PE X e (tE G me)) (hst : notStar e = true) (hl : (apos.endLine == cpos.line) = true) :
    PS X (.Expr (.Call (.Attribute (.Name x p) "extend" apos) [e] [] cpos) pos) (tS G (.ext i me)) := by
  have hs : starEach [e] X.env = (false, eval e X.env) :: starEach [] X.env := star_cons hst
  have hb := pe_bm (X := X) PySem.F.plainAttrs_list PySem.F.slot_list_extend PySem.F.type_list_extend mt_extD hv (ses_cons he ses_nil hs) (apos := apos) (cpos := cpos) rfl (by rw [hs]; rfl) hl hs rfl
  refine (ps_expr hb rfl).imp fun D σ H q => ?_
  obtain ⟨env, Z, out, r, ev, q⟩ := q
  simp only [execS] at ev
  obtain ⟨d, e1, ev⟩ := Option.bind_eq_some_iff.mp ev
  split at ev
  rotate_left
  · cases ev
  rename_i ds es hi hit
  split at ev
  rotate_left
  · cases ev
  rename_i hz
  cases ev
  obtain ⟨a, xs, h1, h2, h3, h4, h5, h6, hlt, h7⟩ := ow_at r hi
  refine ⟨_, h1, .inl ⟨rfl, xs, SqL.of h4⟩, ?_⟩
  refine ⟨env, Z, [d], r, by simp only [evalEs, e1]; rfl, fun vs H1 Z1 g h => ?_⟩
  obtain ⟨v, rfl, hh⟩ := h.one
  have r1 := r.grow g
  have hH1 := g.same _ _ h4
  simp only [leaks, leaksEl, List.append_nil] at hh
  obtain ⟨b, zs, rfl, l0, hD, hk⟩ := hh.items hit
  have e2 := hD.length
  have e3 := h6.length
  rw [hK]
  refine ⟨a, b, xs, zs, rfl, rfl, hH1, hk.elim (fun q => .inr q.1) fun q => .inl q.1, l0, by omega, ?_⟩
  have hn : ¬ i ∈ leakEl me ∨ (Rk.D.tup es).flat = true := hz.2.imp (fun z q => z (leakEl_sub me i q)) fun z => by simpa [Rk.D.flat] using z
  obtain ⟨Z', r2, f2⟩ := app_rel r r1 g h1 h2 h3 h4 h6 h7 hlt (es := es) (zs := zs) (L := leakEl me) (d := .tup es) (by omega) hn (fun Z' z => by
    rcases z.1 with f | f
    · exact hD.flat (by simpa [Rk.D.flat] using f)
    · exact hD.mono (Kp.zone f))
  exact q _ _ Z' r2 f2

/-! ### x[k] = e, for a list -/
def notSlice : Expr → Bool
  | .Slice .. => false
  | _ => true
theorem ss_seti {x : Str} {p tpos pos : Pos} {k e : Expr} {mk me : ME} {i : Nat} (hv : PE X (.Name x p) (tVar i)) (hk : PE X k (tE G mk)) (he : PE X e (tE G me)) (hns : notSlice k = true) :
    PS X (.Assign [.Subscript (.Name x p) k tpos] e pos) (tS G (.seti i mk me)) := by
  have hb : PS X (.Assign [.Subscript (.Name x p) k tpos] e pos) (tAsg (tE G me) (gSub (tVar i) (tE G mk) rSetL)) := by
    refine ps_asg he (pg_sub hv hk set_list ?_) ?_ ?_ rfl
    · intro v; cases k <;> first | rfl | cases hns
    · cases e <;> rfl
    · cases e <;> rfl
  refine hb.imp fun D σ H q => ?_
  obtain ⟨env, Z, out, r, ev, q⟩ := q
  simp only [execS] at ev
  obtain ⟨d, e1, ev⟩ := Option.bind_eq_some_iff.mp ev
  obtain ⟨kd, e2, ev⟩ := Option.bind_eq_some_iff.mp ev
  split at ev
  rotate_left
  · cases ev
  rename_i x0 hi
  split at ev
  rotate_left
  · cases ev
  rename_i hz
  obtain ⟨y0, e3, rfl⟩ := Option.map_eq_some_iff.mp ev
  obtain ⟨a0, h10, h20⟩ := r.ow i _ hi
  obtain ⟨ds, xs0, rfl, _⟩ := h20.is
  obtain ⟨a, xs, h1, h2, h3, h4, h5, h6, hlt, h7⟩ := ow_at r hi
  refine ⟨env, Z, d, r, e1, fun v H1 Z1 g1 hh => ?_⟩
  refine ⟨_, h1, env, Z1, kd, r.grow g1, e2, fun kv H2 Z2 g2 hkv => ?_⟩
  have g := g1.trans g2
  have r1 := r.grow g
  have hH1 := g.same _ _ h4
  have e4 := h6.length
  have key : ∃ (kk : Int) (j : Nat), kd = .int kk ∧ ixN ds.length kk = some j ∧ y0 = .lst (ds.set j d) := by
    unfold setD at e3
    split at e3
    · rename_i ds' kk heq
      cases heq
      split at e3
      · rename_i c1
        split at e3
        · rename_i c2
          cases e3
          exact ⟨kk, _, rfl, by unfold ixN; rw [if_pos c1, if_pos c2], rfl⟩
        · cases e3
      · rename_i c1
        split at e3
        · rename_i c2
          cases e3
          exact ⟨kk, _, rfl, by unfold ixN; rw [if_neg c1, if_pos c2], rfl⟩
        · cases e3
    · cases e3
  obtain ⟨kk, j, rfl, hj, rfl⟩ := key
  refine ⟨a, xs, kk, j, rfl, den_int hkv, hH1, by rw [e4]; exact hj, ?_⟩
  obtain ⟨Z', r', z1, z2, z3, z4⟩ := sink_rel r1 (leak me) d
  have nz1 : ¬ Z2 a := fun z => (g.znew a z).elim h2 fun q => by rw [h4] at q; cases q
  have nz : ¬ Z' a := fun z => by
    rcases hz with hn | hn
    · rcases z2 a z with z' | ⟨j, q1, q2, q3⟩
      · exact nz1 z'
      · have : j = i := Classical.byContradiction fun ne => h7 j ne q2 q3
        subst this
        exact hn q1
    · exact nz1 (z3.2 hn a z)
  have hl : i < (sink env (leak me) d).length := by
    unfold sink
    split
    · exact hlt
    · split
      · exact hlt
      · rw [thaw_length]; exact hlt
  have hv' : Den G.K H2 Z' v d := sink_den z3 ((hh.mono g2.same (Zl.mono g2.zin fun _ z => z) (Zl.mono g2.zin (leakEl_sub me))).den fun _ z => z)
  obtain ⟨r2, f2⟩ := r'.updOw h1 hl nz h3 (fun j ne hj => h7 j ne (z4 j hj)) hH1 (ys := xs.set j v) (es := ds.set j d) (by rw [List.length_set]; exact h5) (Dens.set hv' j ((h6.mono g.kp).mono (Kp.zone z1)))
  exact q _ _ Z' r2 ((g.fwd.trans (.zone z1)).trans f2)

/-! ### x op= e, for ints -/
theorem pip_of {op : Operator} {r : R2} (h : OpR X (inplaceOp op) r) : PIp X op r := h
theorem ss_aug {x : Str} {p pos : Pos} {e : Expr} {me : ME} {i : Nat} {o : Operator} {b : Bin} {C : Int → Int → Prop} {f : Int → Int → V} (hN : X.N.Nodup) (hi : X.N[i]? = some x) (hx : Loc X.env.scope x) (hf : X.fn x = true ∨ X.env.scope.names.lookup x = some .local) (he : PE X e (tE G me))
    (ho : OpR X (inplaceOp o) (rI C f)) (hb : ∀ i j d, binD b (.int i) (.int j) = some d → C i j ∧ ∀ H, Den G.K H (fun _ => False) (f i j) d) : PS X (.AugAssign (.Name x p) o e pos) (tS G (.aug i b me)) := by
  refine (ps_aug hN hi hx he (pip_of ho) hf).imp fun D σ H q => ?_
  obtain ⟨env, Z, out, r, ev, q⟩ := q
  simp only [execS] at ev
  obtain ⟨a, e1, ev⟩ := Option.bind_eq_some_iff.mp ev
  obtain ⟨y, e2, ev⟩ := Option.bind_eq_some_iff.mp ev
  split at e1 <;> cases e1
  rename_i hs
  split at ev
  · obtain ⟨d, e3, rfl⟩ := Option.map_eq_some_iff.mp ev
    obtain ⟨v, h1, h2⟩ := r.va i _ hs
    obtain rfl := den_int h2
    obtain ⟨c1, c2⟩ := hb _ _ _ e3
    refine ⟨_, h1, env, Z, _, r, e2, fun v H1 Z1 g hh => ⟨_, _, rfl, den_int hh, c1, ?_⟩⟩
    exact q _ _ Z1 ((r.grow g).set ((c2 H1).mono (Kp.zone fun _ z => z.elim))) g.fwd
  · cases ev
end
end Rk
/-! Fw13: a, b = x, y -/
namespace Rk
open PySem PySem.Spec PyProof.Rows L2
section
variable {G : Gm} {X : Cx}
/-- ready to be put into a name: a new list that nobody else knows, or a value that nobody changes -/
def PutAt (G : Gm) (σ : L2.St) (env : En) (H0 H' : Hp) (Z' : Zn) (e : ME) (v : V) (d : D) : Prop :=
  if (fresh e && isCell d) = true then ∃ p xs ds, v = .ref p ∧ d = .lst ds ∧ H0 p = none ∧ ¬ Z' p ∧ H' p = some (.lst xs) ∧ xs.length ≤ sizeLine ∧ Dens G.K H' (Zl Z' σ env (leak e)) xs ds
  else Den G.K H' (Zl Z' σ env (leak e)) v d
theorem PutAt.grow {σ : L2.St} {env : En} {H0 H0' H' H2 : Hp} {Z' Z2 : Zn} {e : ME} {v : V} {d : D} (h : PutAt G σ env H0 H' Z' e v d) (g : Grow H' Z' H2 Z2) (s : Same H0' H0) : PutAt G σ env H0' H2 Z2 e v d := by
  unfold PutAt at h ⊢
  split at h
  · rename_i hc
    rw [if_pos hc]
    obtain ⟨p, xs, ds, h1, h2, h3, h4, h5, h6, h7⟩ := h
    exact ⟨p, xs, ds, h1, h2, s.free h3, fun z => (g.znew p z).elim h4 fun q => (by rw [h5] at q; cases q), g.same _ _ h5, h6, h7.mono (Kp.of_same g.same (Zl.mono g.zin fun _ z => z))⟩
  · rename_i hc
    rw [if_neg hc]
    exact h.mono (Kp.of_same g.same (Zl.mono g.zin fun _ z => z))
/-- a new list: its address -/
def newAt (e : ME) (v : V) (d : D) (p : Addr) : Prop := (fresh e && isCell d) = true ∧ v = .ref p
def Puts (G : Gm) (σ : L2.St) (env : En) (H0 H' : Hp) (Z' : Zn) : List ME → List V → List D → Prop
  | [], [], [] => True
  | e :: es, v :: vs, d :: ds => PutAt G σ env H0 H' Z' e v d ∧ (∀ p, newAt e v d p → ∀ (i : Nat) e' v' d', es[i]? = some e' → vs[i]? = some v' → ds[i]? = some d' → ¬ newAt e' v' d' p) ∧ Puts G σ env H0 H' Z' es vs ds
  | _, _, _ => False
theorem Puts.same {σ : L2.St} {env : En} {H0 H0' H' : Hp} {Z' : Zn} (s : Same H0' H0) : ∀ {es : List ME} {vs : List V} {ds : List D}, Puts G σ env H0 H' Z' es vs ds → Puts G σ env H0' H' Z' es vs ds
  | [], [], [], _ => trivial
  | e :: es, v :: vs, d :: ds, h => ⟨h.1.grow Grow.refl s, h.2.1, Puts.same s h.2.2⟩
  | [], [], _ :: _, h => h.elim
  | [], _ :: _, _, h => h.elim
  | _ :: _, [], _, h => h.elim
  | _ :: _, _ :: _, [], h => h.elim
theorem Puts.grow {σ : L2.St} {env : En} {H0 H' H2 : Hp} {Z' Z2 : Zn} (g : Grow H' Z' H2 Z2) : ∀ {es : List ME} {vs : List V} {ds : List D}, Puts G σ env H0 H' Z' es vs ds → Puts G σ env H0 H2 Z2 es vs ds
  | [], [], [], _ => trivial
  | e :: es, v :: vs, d :: ds, h => ⟨h.1.grow g (Same.refl H0), h.2.1, Puts.grow g h.2.2⟩
  | [], [], _ :: _, h => h.elim
  | [], _ :: _, _, h => h.elim
  | _ :: _, [], _, h => h.elim
  | _ :: _, _ :: _, [], h => h.elim
theorem Puts.at {σ : L2.St} {env : En} {H0 H' : Hp} {Z' : Zn} : ∀ {es : List ME} {vs : List V} {ds : List D} {i : Nat} {e : ME} {v : V} {d : D}, Puts G σ env H0 H' Z' es vs ds → es[i]? = some e → vs[i]? = some v → ds[i]? = some d → PutAt G σ env H0 H' Z' e v d
  | e :: es, v :: vs, d :: ds, 0, _, _, _, h, h1, h2, h3 => by simp at h1 h2 h3; subst h1 h2 h3; exact h.1
  | e :: es, v :: vs, d :: ds, i + 1, _, _, _, h, h1, h2, h3 => Puts.at h.2.2 (by simpa using h1) (by simpa using h2) (by simpa using h3)
  | [], _, _, _, _, _, _, _, h1, _, _ => by simp at h1
  | _ :: _, [], _, _, _, _, _, h, _, _, _ => h.elim
  | _ :: _, _ :: _, [], _, _, _, _, h, _, _, _ => h.elim
def tPs (G : Gm) (es : List ME) : TA := fun σ H Q => ∃ env Z ds, G.R σ H Z env ∧ evalEs G.cf es env = some ds ∧ ∀ vs H' Z', Grow H Z H' Z' → Puts G σ env H H' Z' es vs ds → Q vs H'
def tP (G : Gm) (e : ME) : TE := fun σ H Q => ∃ env Z d, G.R σ H Z env ∧ evalE G.cf e env = some d ∧ ∀ v H' Z', Grow H Z H' Z' → PutAt G σ env H H' Z' e v d → Q v H'
theorem sp_of {e : Expr} {me : ME} (h : (fresh me = true ∧ PE X e (tF G me)) ∨ (fresh me = false ∧ PE X e (tE G me))) : PE X e (tP G me) := by
  rcases h with ⟨hf, h⟩ | ⟨hf, h⟩
  · refine h.imp fun σ H Q q => ?_
    obtain ⟨env, Z, d, r, ev, q⟩ := q
    refine ⟨env, Z, d, r, ev, fun v H1 H' Z' g n => ?_⟩
    by_cases hc : isCell d = true
    · have key : ∃ ds p xs, d = .lst ds ∧ v = .ref p ∧ H1 p = none ∧ H' p = some (.lst xs) ∧ xs.length ≤ sizeLine ∧ Dens G.K H' (Zl Z' σ env (leakEl me)) xs ds := by
        cases d with
        | lst ds => obtain ⟨_, p, xs, h1, h2, h3, h4, h5⟩ := n; exact ⟨ds, p, xs, rfl, h1, h2, h3, h4, h5⟩
        | dic ds => have := n.2; cases this
        | _ => cases hc
      obtain ⟨ds, p, xs, rfl, rfl, h2, h3, h4, h5⟩ := key
      refine q _ _ Z' (g.trans ⟨n.1, fun _ z => z, fun _ z => .inl z, fun _ z => .inl z⟩) ?_
      unfold PutAt
      rw [if_pos (by rw [hf]; rfl)]
      exact ⟨p, xs, ds, rfl, rfl, g.same.free h2, fun z => (r.grow g).zok p z h2, h3, h4, h5.mono (Kp.zone Zl.el)⟩
    · obtain ⟨Z2, g2, hz, h2⟩ := n.grow g (Zt := Zl Z' σ env (leakEl me)) fun _ h => h
      refine q v H' Z2 g2 ?_
      unfold PutAt
      rw [if_neg (by simp [hc])]
      have := h2.mono (Zt' := Zl Z2 σ env (leak me)) (Ze' := Zl Z2 σ env (leak me)) (Same.refl H') (fun a h => ?_) (Zl.mono hz (leakEl_sub me))
      · exact this.den fun _ z => z
      · rcases h with h | h
        · exact .inl h
        · exact Zl.mono hz (leakEl_sub me) a h
  · refine h.imp fun σ H Q q => ?_
    obtain ⟨env, Z, d, r, ev, q⟩ := q
    refine ⟨env, Z, d, r, ev, fun v H' Z' g n => q v H' Z' g ?_⟩
    unfold PutAt
    rw [if_neg (by simp [hf])]
    exact n.den Zl.el
theorem PutAt.new_some {σ : L2.St} {env : En} {H0 H' : Hp} {Z' : Zn} {e : ME} {v : V} {d : D} {p : Addr} (h : PutAt G σ env H0 H' Z' e v d) (n : newAt e v d p) : H0 p = none ∧ H' p ≠ none := by
  unfold PutAt at h
  rw [if_pos n.1] at h
  obtain ⟨p', xs, ds, h1, h2, h3, h4, h5, _⟩ := h
  rw [n.2] at h1
  cases h1
  exact ⟨h3, by rw [h5]; simp⟩
theorem sps_nil : PA X [] (tPs G []) := by
  refine pa_nil.imp fun σ H Q q => ?_
  obtain ⟨env, Z, ds, r, ev, q⟩ := q
  simp only [evalEs] at ev
  cases ev
  exact q [] H Z Grow.refl trivial
theorem sps_cons {e : Expr} {es : List Expr} {me : ME} {ms : List ME} (h1 : PE X e (tP G me)) (h2 : PA X es (tPs G ms)) (hs : starEach (e :: es) X.env = (false, eval e X.env) :: starEach es X.env) : PA X (e :: es) (tPs G (me :: ms)) := by
  refine (pa_cons h1 h2 hs).imp fun σ H Q q => ?_
  obtain ⟨env, Z, ds, r, ev, q⟩ := q
  simp only [evalEs] at ev
  obtain ⟨d, e1, e2⟩ := Option.bind_eq_some_iff.mp ev
  obtain ⟨ds', e3, rfl⟩ := Option.map_eq_some_iff.mp e2
  refine ⟨env, Z, d, r, e1, fun v H1 Z1 g1 h1 => ⟨env, Z1, ds', r.grow g1, e3, fun vs H2 Z2 g2 h2 => q (v :: vs) H2 Z2 (g1.trans g2) ⟨h1.grow g2 (Same.refl H), fun p hp i e' v' d' a1 a2 a3 n => ?_, h2.same g1.same⟩⟩⟩
  exact (h1.new_some hp).2 ((h2.at a1 a2 a3).new_some n).1
theorem Puts.len {σ : L2.St} {env : En} {H0 H' : Hp} {Z' : Zn} : ∀ {es : List ME} {vs : List V} {ds : List D}, Puts G σ env H0 H' Z' es vs ds → vs.length = es.length ∧ ds.length = es.length
  | [], [], [], _ => ⟨rfl, rfl⟩
  | e :: es, v :: vs, d :: ds, h => by
    obtain ⟨h1, h2⟩ := Puts.len h.2.2
    exact ⟨by simp [h1], by simp [h2]⟩
  | [], [], _ :: _, h => h.elim
  | [], _ :: _, _, h => h.elim
  | _ :: _, [], _, h => h.elim
  | _ :: _, _ :: _, [], h => h.elim
/-- the slots one after another -/
def parSet : List Nat → List V → L2.St → L2.St
  | i :: is, v :: vs, σ => parSet is vs (σ.set i (some v))
  | _, _, σ => σ
/-- a value ready to be put, as things stand -/
def ReadyAt (K : PySem.W.Frag) (H0 H : Hp) (Z : Zn) (e : ME) (v : V) (d : D) : Prop :=
  if (fresh e && isCell d) = true then ∃ p, v = .ref p ∧ Own K H0 H Z p d else Den K H Z v d
theorem par_rel {H : Hp} {Z : Zn} {σ1 : L2.St} {env1 : En} {H1 : Hp} {Z1 : Zn} : ∀ (is : List Nat) {es : List ME} {vs : List V} {ds : List D} {σ : L2.St} {env : En}, G.R σ H Z env → Puts G σ1 env1 H1 H Z1 es vs ds →
    (∀ (k : Nat) e v d, es[k]? = some e → vs[k]? = some v → ds[k]? = some d → ReadyAt G.K G.H0 H Z e v d) → (∀ (k : Nat) e v d p, es[k]? = some e → vs[k]? = some v → ds[k]? = some d → newAt e v d p → ∀ j, isOw env j = true → σ[j]? ≠ some (some (V.ref p))) →
    is.length = es.length → G.R (parSet is vs σ) H Z (parAsg is es ds env)
  | [], es, vs, ds, σ, env, r, h, _, _, hl => by
    cases es with
    | nil => simp only [parSet, parAsg]; exact r
    | cons _ _ => cases hl
  | i :: is, [], _, _, _, _, _, _, _, _, hl => by cases hl
  | i :: is, e :: es, [], _, _, _, _, h, _, _, _ => h.elim
  | i :: is, e :: es, v :: vs, [], _, _, _, h, _, _, _ => h.elim
  | i :: is, e :: es, v :: vs, d :: ds, σ, env, r, h, hr, hn, hl => by
    simp only [parSet, parAsg]
    have r0 := hr 0 e v d rfl rfl rfl
    unfold ReadyAt at r0
    refine par_rel is ?_ h.2.2 (fun k e' v' d' a b c => hr (k + 1) e' v' d' (by simpa using a) (by simpa using b) (by simpa using c)) (fun k e' v' d' p a b c n j hj q => ?_) (by simpa using hl)
    · split at r0
      · rename_i hc
        rw [if_pos hc]
        obtain ⟨p, rfl, ho⟩ := r0
        exact r.setNew ho (hn 0 e _ d p rfl rfl rfl ⟨hc, rfl⟩)
      · rename_i hc
        rw [if_neg hc]
        exact r.set r0
    · by_cases hij : i = j
      · subst hij
        by_cases hc : (fresh e && isCell d) = true
        · rw [if_pos hc] at r0
          obtain ⟨p0, rfl, _⟩ := r0
          by_cases hlt : i < σ.length
          · rw [List.getElem?_set_self hlt] at q
            cases q
            exact h.2.1 p ⟨hc, rfl⟩ k e' v' d' a b c n
          · rw [List.getElem?_eq_none (by rw [List.length_set]; omega)] at q
            cases q
        · rw [if_neg hc] at hj
          unfold isOw at hj
          by_cases hlt : i < env.length
          · rw [List.getElem?_set_self hlt] at hj; cases hj
          · rw [List.getElem?_eq_none (by rw [List.length_set]; omega)] at hj; cases hj
      · rw [List.getElem?_set_ne hij] at q
        refine hn (k + 1) e' v' d' p (by simpa using a) (by simpa using b) (by simpa using c) n j ?_ q
        unfold isOw at hj ⊢
        rwa [List.getElem?_set_ne hij] at hj
theorem leaks_at : ∀ {es : List ME} {k : Nat} {e : ME} {i : Nat}, es[k]? = some e → i ∈ leak e → i ∈ leaks es
  | e :: es, 0, _, i, h, hi => by simp at h; subst h; simp only [leaks, List.mem_append]; exact .inl hi
  | e :: es, k + 1, _, i, h, hi => by simp only [leaks, List.mem_append]; exact .inr (leaks_at (es := es) (by simpa using h) hi)
  | [], _, _, _, h, _ => by simp at h
theorem flats_at : ∀ {ds : List D} {k : Nat} {d : D}, D.flats ds = true → ds[k]? = some d → d.flat = true
  | d :: ds, 0, _, f, h => by simp only [D.flats, Bool.and_eq_true] at f; simp at h; subst h; exact f.1
  | d :: ds, k + 1, _, f, h => by simp only [D.flats, Bool.and_eq_true] at f; exact flats_at f.2 (by simpa using h)
  | [], _, _, _, h => by simp at h
/-- behind the right sides: all are put -/
theorem par_fin {is : List Nat} {es : List ME} {σ : L2.St} {H H' : Hp} {env : En} {Z Z1 : Zn} {vs : List V} {ds : List D} (r : G.R σ H Z env) (g : Grow H Z H' Z1) (h : Puts G σ env H H' Z1 es vs ds) (hl : is.length = es.length) :
    ∃ Z', G.R (parSet is vs σ) H' Z' (parAsg is es ds (sink env (leaks es) (.tup ds))) ∧ Fwd G.K H Z H' Z' := by
  have r1 := r.grow g
  obtain ⟨Z', r', z1, z2, z3, z4⟩ := sink_rel r1 (leaks es) (.tup ds)
  have own : ∀ (k : Nat) e v d p, es[k]? = some e → vs[k]? = some v → ds[k]? = some d → newAt e v d p → G.H0 p = none ∧ ¬ Z p ∧ ∀ j, isOw env j = true → σ[j]? ≠ some (some (V.ref p)) := fun k e v d p a b c n =>
    new_own (H1 := H) r ((h.at a b c).new_some n).1
  refine ⟨Z', par_rel is r' h (fun k e v d a b c => ?_) (fun k e v d p a b c n j hj => (own k e v d p a b c n).2.2 j (z4 j hj)) hl, g.fwd.trans (.zone z1)⟩
  have ha := h.at a b c
  unfold PutAt at ha
  unfold ReadyAt
  have zsub : ∀ a, Zl Z1 σ env (leak e) a → Zl Z1 σ env (leaks es) a := Zl.mono (fun _ z => z) fun i hi => leaks_at a hi
  split at ha
  · rename_i hc
    rw [if_pos hc]
    obtain ⟨p, xs, es', h1, h2, h3, h4, h5, h6, h7⟩ := ha
    obtain ⟨o1, o2, o3⟩ := own k e v d p a b c ⟨hc, h1⟩
    subst h1 h2
    refine ⟨p, rfl, fun z => ?_, o1, es', xs, rfl, h5, h6, ?_⟩
    · rcases z2 p z with z | ⟨j, _, q2, q3⟩
      · exact h4 z
      · exact o3 j q2 q3
    · rcases z3.1 with f | f
      · simp only [D.flat] at f
        have := flats_at f c
        simp [D.flat] at this
      · exact h7.mono (Kp.zone fun a z => f a (zsub a z))
  · rename_i hc
    rw [if_neg hc]
    rcases z3.1 with f | f
    · simp only [D.flat] at f
      exact ha.flat (flats_at f c)
    · exact ha.mono (Kp.zone fun a z => f a (zsub a z))
theorem par_core {is : List Nat} {es : List ME} {t : TS} (hl : is.length = es.length) (ht : ∀ (D : Ends) σ H, tPs G es σ H (fun vs H' => vs.length = es.length → D.nx (parSet is vs σ) H') → t D σ H) {st : Stmt} (h : PS X st t) : PS X st (tS G (.par is es)) := by
  refine h.imp fun D σ H q => ht D σ H ?_
  obtain ⟨env, Z, out, r, ev, q⟩ := q
  simp only [execS] at ev
  obtain ⟨ds, e1, rfl⟩ := Option.map_eq_some_iff.mp ev
  refine ⟨env, Z, ds, r, e1, fun vs H' Z1 g hp hlen => ?_⟩
  obtain ⟨Z', r', f⟩ := par_fin r g hp hl
  exact q _ _ Z' r' f
theorem ss_par2 {st : Stmt} {i j : Nat} {a b : ME} (h : PS X st (tPar i j (tPs G [a, b]))) : PS X st (tS G (.par [i, j] [a, b])) := by
  refine par_core rfl (fun D σ H q => ?_) h
  obtain ⟨env, Z, ds, r, e1, q⟩ := q
  refine ⟨env, Z, ds, r, e1, fun vs H' Z1 g hp => ?_⟩
  have l := hp.len.1
  rcases vs with _ | ⟨v, _ | ⟨w, _ | _⟩⟩ <;> try (cases l; done)
  exact ⟨v, w, rfl, q _ H' Z1 g hp rfl⟩
theorem ss_par3 {st : Stmt} {i j k : Nat} {a b c : ME} (h : PS X st (tPar3 i j k (tPs G [a, b, c]))) : PS X st (tS G (.par [i, j, k] [a, b, c])) := by
  refine par_core rfl (fun D σ H q => ?_) h
  obtain ⟨env, Z, ds, r, e1, q⟩ := q
  refine ⟨env, Z, ds, r, e1, fun vs H' Z1 g hp => ?_⟩
  have l := hp.len.1
  rcases vs with _ | ⟨v, _ | ⟨w, _ | ⟨z, _ | _⟩⟩⟩ <;> try (cases l; done)
  exact ⟨v, w, z, rfl, q _ H' Z1 g hp rfl⟩
/-- the names one after another, as a tuple's parts -/
def gNames : List Nat → TGs
  | [] => gNil
  | i :: is => gCons (gName i) (gNames is)
theorem gNames_par : ∀ {is : List Nat} {vs : List V} {σ : L2.St} {H : Hp} {Q : L2.St → Hp → Prop}, vs.length = is.length → Q (parSet is vs σ) H → gNames is vs σ H Q
  | [], [], σ, H, Q, _, q => ⟨rfl, q⟩
  | i :: is, v :: vs, σ, H, Q, hl, q => ⟨v, vs, rfl, gNames_par (by simpa using hl) q⟩
  | [], _ :: _, _, _, _, hl, _ => by cases hl
  | _ :: _, [], _, _, _, hl, _ => by cases hl
/-- the other way: the tuple is made, then taken apart -/
theorem ss_parT {st : Stmt} {is : List Nat} {es : List ME} (hle : es.length ≤ 1000) (hl : is.length = es.length) (h : PS X st (tAsg (tTup (tPs G es)) (gTup X.K is.length (gNames is)))) : PS X st (tS G (.par is es)) := by
  refine h.imp fun D σ H q => ?_
  obtain ⟨env, Z, out, r, ev, q⟩ := q
  simp only [execS] at ev
  obtain ⟨ds, e1, rfl⟩ := Option.map_eq_some_iff.mp ev
  refine ⟨env, Z, ds, r, e1, fun vs H' Z1 g hp => ?_⟩
  have l := hp.len.1
  refine ⟨by rw [l]; exact Nat.le_trans hle (by decide), fun p hpn => ?_⟩
  refine ⟨p, vs, rfl, SqT.of upd_same, by rw [l, hl], gNames_par (by rw [l, hl]) ?_⟩
  have s := same_upd (o := .tup vs) hpn
  have g2 : Grow H' Z1 (upd H' p (.tup vs)) Z1 := ⟨s, fun _ z => z, fun _ z => .inl z, fun _ z => .inl z⟩
  obtain ⟨Z', r', f⟩ := par_fin r (g.trans g2) (hp.grow g2) hl
  exact q _ _ Z' r' f
end
end Rk
/-! Fw14: from Python's statements to the language, and that it is right -/
namespace Rk
open PySem PySem.Spec PyProof.Rows L2
def augOf : Operator → Option Bin
  | .Add => some .add
  | .Sub => some .sub
  | .Mult => some .mul
  | .BitAnd => some .band
  | .BitOr => some .bor
  | .BitXor => some .bxor
  | _ => none
def isBlk : Expr → Bool
  | .ListComp .. => true
  | .SetComp .. => true
  | .DictComp .. => true
  | _ => false
def isLC : Expr → Bool
  | .ListComp .. => true
  | _ => false
/-- a comprehension's value goes to the name inside the block -/
def swLc (sc : Scope) (y : Str) (py : Pos) : Expr → Bool
  | .ListComp _ _ scope pos => decide (sc.names.lookup y = some .local) && (py.line == pos.line) && !(scope.names.any fun (n, k) => n == y && (k == .local || k == .cell))
  | _ => false
def nmLoc (c : CC) : Expr → Option Nat
  | .Name x _ => if isLoc c.sc x then c.tgt x else none
  | _ => none
def nmAny (c : CC) : Expr → Option Nat
  | .Name x _ => c.tgt x
  | _ => none
def par2Ok (sc : Scope) (x y : Str) (px py : Pos) (es : List Expr) : Bool :=
  decide (sc.kind = .function) && isLoc sc x && isLoc sc y && (px.line == py.line) && !(x == y) && !(es.all (foldedForSure 8)) && !(es.all (constantsAlone 8))
def par3Ok (sc : Scope) (x y z : Str) (px py pz : Pos) (es : List Expr) : Bool :=
  decide (sc.kind = .function) && isLoc sc x && isLoc sc y && isLoc sc z && (py.line == px.line) && (pz.line == px.line) && !(x == y) && !(x == z) && !(y == z) && !(es.all (foldedForSure 8)) && !(es.all (constantsAlone 8))
def parNo (ts es : List Expr) : Bool := !(ts.length == 2 || ts.length == 3) || es.all (foldedForSure 8)
def isTupB : Expr → Bool
  | .Tuple .. => true
  | _ => false
def compAsg (fu : Nat) (c : CC) (tg e : Expr) : Option MS := match tg with
  | .Name x py => (c.tgt x).bind fun i => (compE fu c e).bind fun m => if isBlk e && !(isLC e && decide (c.sc.kind = .function)) then none else some (.asg (.nm i) m)
  | .Tuple ts k pt => match e with
    | .Tuple es k2 pt2 => (mapO (compE fu c) es).bind fun ms =>
      if parNo ts es then (mapO (nmAny c) ts).bind fun is => if is.length = ms.length ∧ ms.length ≤ 1000 then some (.par is ms) else none
      else match ts, es with
        | [.Name x px, .Name y py], [_, _] => if par2Ok c.sc x y px py es then (mapO (nmAny c) ts).map fun is => .par is ms else none
        | [.Name x px, .Name y py, .Name z pz], [_, _, _] => if par3Ok c.sc x y z px py pz es then (mapO (nmAny c) ts).map fun is => .par is ms else none
        | _, _ => none
    | e => if isBlk e then none else (mapO (compTg c 8) ts).bind fun t => (compE fu c e).map fun m => .asg (.tp t) m
  | .Subscript (.Name x p) k tp => if notSlice k && !isBlk e && !isTupB e then (c.var x).bind fun i => (compE fu c k).bind fun mk => (compE fu c e).map fun m => .seti i mk m else none
  | _ => none
def compSt (fu : Nat) (rec : Stmt → Option MS) (c : CC) : Stmt → Option MS
  | .Assign [tg] e _ => compAsg fu c tg e
  | .AugAssign (.Name x _) o e _ => (augOf o).bind fun b => (c.tgt x).bind fun i => (compE fu c e).map fun m => .aug i b m
  | .Expr (.Call (.Attribute (.Name x _) a apos) [e] [] cpos) _ =>
    if (a == ("append" : Str) || a == ("extend" : Str)) && notStar e && (apos.endLine == cpos.line) then (c.var x).bind fun i => (compE fu c e).map fun m => if a == ("append" : Str) then .app i m else .ext i m else none
  | .Expr e _ => if isBlk e then none else (compE fu c e).map .exp
  | .If t a b _ => (compE fu c t).bind fun mt => (mapO rec a).bind fun ma => (mapO rec b).map fun mb => .ife mt ma mb
  | .For tg it b [] _ => (compTg c 8 tg).bind fun t => (compI (compE fu) c tg it).bind fun mi => (mapO rec b).map fun mb => .forr t mi mb
  | .While t b [] _ => (compE fu c t).bind fun mt => (mapO rec b).map fun mb => .whl mt mb
  | .Return (some e) _ => (compE fu c e).map .ret
  | .Return none _ => some .retN
  | .Pass _ => some .pas
  | .Break _ => some .brk
  | .Continue _ => some .cnt
  | _ => none
def compS (fu : Nat) : Nat → CC → Stmt → Option MS
  | 0 => fun _ _ => none
  | n + 1 => fun c => compSt fu (compS fu n c) c
section
variable {G : Gm} {lev : Nat} {c : CC} {X : Cx}
theorem lc_parts {rec : Rec} (R : RecOk G lev rec) {e : Expr} {gs : List Comprehension} {scope : Scope} {pos : Pos} {me : ME} (h : compStep rec c (.ListComp e gs scope pos) = some me) :
    fresh me = true ∧ ∃ (tg it : Expr) (ifs : List Expr) (wi : TI) (g : TG) (tt : TT) (te : TE) (own : List (Str × Nat)), gs = [⟨tg, it, ifs, 0⟩] ∧ (∀ X, CtxOk G lev c X → PI X tg it wi) ∧ BlkOk c.N c.sc scope own ∧
      (∀ X, CtxOk G lev c X → ∀ (s : Shared) (H : Hp) (C : Addr) (cl : List (Str × Addr)) (fp : List Addr), PG (X.blk s H scope (compEnvC scope cl C X.env) fp) tg g ∧ PTs (X.blk s H scope (compEnvC scope cl C X.env) fp) ifs tt ∧ PE (X.blk s H scope (compEnvC scope cl C X.env) fp) e te) ∧
      (∀ es k p, it ≠ .Set es k p) ∧ ∀ σ H Q, tF G me σ H Q → tLc wi g tt te (own.map (·.2)) σ H Q := by
  rcases gs with _ | ⟨⟨tg, it, ifs, a⟩, _ | ⟨g2, r⟩⟩
  · simp only [compStep] at h; cases h
  · simp only [compStep] at h
    split at h
    · rename_i ha
      subst ha
      obtain ⟨t, h1, h⟩ := Option.bind_eq_some_iff.mp h
      obtain ⟨mi, h2, h⟩ := Option.bind_eq_some_iff.mp h
      obtain ⟨mc, h3, h⟩ := Option.bind_eq_some_iff.mp h
      obtain ⟨m, h4, h⟩ := Option.bind_eq_some_iff.mp h
      split at h
      · rename_i hz
        simp only [Bool.and_eq_true, List.all_eq_true] at hz
        cases h
        obtain ⟨i1, i2⟩ := compI_ok R h2
        obtain ⟨tt, t1, t2⟩ := compIfs_ok R h3
        exact ⟨rfl, tg, it, ifs, _, _, tt, _, _, rfl, i1, blkOk_by hz.1, fun X k s H C cl fp => ⟨compTg_ok (k.blk scope s H C cl fp) 8 tg t h1, t1 _ (k.blk scope s H C cl fp), (R.good _ _ _ h4).pe _ (k.blk scope s H C cl fp)⟩, i2,
          fun σ H Q q => lc_tr t2 (fun i hi => List.contains_iff_mem.mp (hz.2 i hi)) q⟩
      · cases h
    · cases h
  · simp only [compStep] at h; cases h
theorem sw_no {e : Expr} {y : Str} {py : Pos} {l : Nat} {env : Env} (hk : env.scope.kind = .function) (h : isBlk e = false ∨ isLC e = true) (hn : swLc env.scope y py e = false) : swapsWith e (some (.Name y py)) l env = pure false := by
  cases e <;> first
    | rfl
    | (rcases h with h | h <;> cases h; done)
    | skip
  rename_i elt gs scope pos
  have hb : env.blockKind = .function := by unfold Env.blockKind; rw [hk]; rfl
  unfold swapsWith
  simp only [hb, Env.kindOf]
  simp only [swLc] at hn
  refine congrArg pure ?_
  rw [← hn]
  congr 1
  congr 1
  cases env.scope.names.lookup y with
  | none => rfl
  | some k => cases k <;> rfl
theorem sw_nb {e : Expr} {t : Option Expr} {l : Nat} {env : Env} (h : isBlk e = false) : swapsWith e t l env = pure false := by
  cases e <;> first | rfl | cases h
theorem CtxOk.slot (k : CtxOk G lev c X) {x : Str} {i : Nat} (h : c.tgt x = some i) : X.N[i]? = some x ∧ Loc X.env.scope x ∧ (X.fn x = true ∨ X.env.scope.names.lookup x = some .local) := by
  unfold CC.tgt at h
  split at h
  · rename_i hc
    simp only [Bool.and_eq_true, Bool.or_eq_true] at hc
    refine ⟨by rw [k.N]; exact ix_at h, by rw [k.sc]; exact loc_of hc.1, ?_⟩
    rcases hc.2 with q | q
    · exact .inl (by rw [k.fn]; exact q)
    · refine .inr ?_
      rw [k.sc]
      unfold isLoc at q
      split at q
      · assumption
      · cases q
  · cases h
theorem loc_is {sc : Scope} {x : Str} (h : isLoc sc x = true) : sc.names.lookup x = some .local := by
  unfold isLoc at h
  split at h
  · assumption
  · cases h
theorem put_pe {fu : Nat} {e : Expr} {m : ME} (h : compE fu c e = some m) (k : CtxOk G lev c X) : PE X e (tP G m) := by
  have g := compE_good (G := G) (lev := lev) h
  refine sp_of ?_
  cases hf : fresh m with
  | true => exact .inl ⟨rfl, g.pf hf X k⟩
  | false => exact .inr ⟨rfl, g.pe X k⟩
theorem put_all {fu : Nat} (k : CtxOk G lev c X) : ∀ {es : List Expr} {ms : List ME}, mapO (compE fu c) es = some ms → PA X es (tPs G ms)
  | [], ms, h => by simp only [mapO] at h; cases h; exact sps_nil
  | e :: es, ms, h => by
    obtain ⟨m, r, h1, h2, rfl⟩ := mapO_cons h
    exact sps_cons (put_pe h1 k) (put_all k h2) (star_cons ((compE_rec G lev fu).1.star _ _ _ h1))
theorem names_ok (k : CtxOk G lev c X) : ∀ {ts : List Expr} {is : List Nat}, mapO (nmAny c) ts = some is → PGs X ts (gNames is) ∧ (assignEach ts X.env).length = is.length ∧ (assignEach ts X.env).findIdx? (·.1) = none
  | [], is, h => by simp only [mapO] at h; cases h; exact ⟨pgs_nil, rfl, rfl⟩
  | t :: ts, is, h => by
    obtain ⟨i, r, h1, h2, rfl⟩ := mapO_cons h
    obtain ⟨p1, p2, p3⟩ := names_ok k h2
    cases t <;> simp only [nmAny] at h1 <;> try (cases h1; done)
    rename_i x p
    have e : assignEach (.Name x p :: ts) X.env = (false, assign (.Name x p) X.env) :: assignEach ts X.env := rfl
    refine ⟨pgs_cons (k.pg h1) p1 (by rw [e]; rfl), by rw [e]; simp [p2], ?_⟩
    rw [e, List.findIdx?_cons]
    simp [p3]
theorem star_none (G : Gm) (lev : Nat) {fu : Nat} : ∀ {es : List Expr} {ms : List ME}, mapO (compE fu c) es = some ms → (es.any fun | .Starred .. => true | _ => false) = false
  | [], _, _ => rfl
  | e :: es, ms, h => by
    obtain ⟨m, r, h1, h2, rfl⟩ := mapO_cons h
    rw [List.any_cons, star_none G lev h2, Bool.or_false]
    have := (compE_rec G lev fu).1.star _ _ _ h1
    cases e <;> first | rfl | cases this
end
end Rk
/-! Fw15: statements, the whole -/
namespace Rk
open PySem PySem.Spec PyProof.Rows L2
section
variable {G : Gm} {lev : Nat} {c : CC} {X : Cx}
theorem aug_ok {o : Operator} {b : Bin} (h : augOf o = some b) : ∃ (C : Int → Int → Prop) (f : Int → Int → V), OpR X (inplaceOp o) (rI C f) ∧ ∀ i j d, binD b (.int i) (.int j) = some d → C i j ∧ ∀ H, Den G.K H (fun _ => False) (f i j) d := by
  have up : ∀ {o : Operator} {f : Int → Int → V}, OpR X (inplaceOp o) (rI0 f) → OpR X (inplaceOp o) (rI (fun _ _ => True) f) := fun h => h.imp fun x y H Q q => by
    obtain ⟨i, j, e1, e2, _, q⟩ := q
    exact ⟨i, j, e1, e2, q⟩
  cases o <;> simp only [augOf] at h <;> cases h
  · exact ⟨_, _, up iop_add, fun i j d e => by cases e; exact ⟨trivial, fun H => .int _⟩⟩
  · exact ⟨_, _, up iop_sub, fun i j d e => by cases e; exact ⟨trivial, fun H => .int _⟩⟩
  · refine ⟨_, _, iop_mul, fun i j d e => ?_⟩
    simp only [binD] at e
    split at e
    · rename_i hs
      cases e
      exact ⟨by rcases Bool.or_eq_true_iff.mp hs with q | q
                · exact .inl (by simpa [small64] using q)
                · exact .inr (by simpa [small64] using q), fun H => .int _⟩
    · cases e
  · exact ⟨_, _, up iop_or, fun i j d e => by cases e; exact ⟨trivial, fun H => .int _⟩⟩
  · exact ⟨_, _, up iop_xor, fun i j d e => by cases e; exact ⟨trivial, fun H => .int _⟩⟩
  · exact ⟨_, _, up iop_and, fun i j d e => by cases e; exact ⟨trivial, fun H => .int _⟩⟩
theorem asg_name {fu : Nat} (k : CtxOk G lev c X) {x : Str} {py pos : Pos} {e : Expr} {i : Nat} {m : ME} (h1 : c.tgt x = some i) (h2 : compE fu c e = some m) (h3 : (isBlk e && !(isLC e && decide (c.sc.kind = .function))) = false) : PS X (.Assign [.Name x py] e pos) (tS G (.asg (.nm i) m)) := by
  obtain ⟨s1, s2, s3⟩ := k.slot h1
  have nd : X.N.Nodup := by rw [k.N]; exact k.nd
  have g := compE_good (G := G) (lev := lev) h2
  refine ss_set ?_
  have plain : swapsWith e (some (.Name x py)) pos.line X.env = pure false → (fresh m = true ∧ PS X (.Assign [.Name x py] e pos) (tAsg (tF G m) (gName i))) ∨ (fresh m = false ∧ PS X (.Assign [.Name x py] e pos) (tAsg (tE G m) (gName i))) := fun hs => by
    cases hf : fresh m with
    | true => exact .inl ⟨rfl, ps_set nd s1 s2 (g.pf hf X k) hs s3⟩
    | false => exact .inr ⟨rfl, ps_set nd s1 s2 (g.pe X k) hs s3⟩
  cases hb : isBlk e with
  | false => exact plain (sw_nb hb)
  | true =>
    rw [hb] at h3
    simp only [Bool.true_and, Bool.not_eq_false', Bool.and_eq_true, decide_eq_true_eq] at h3
    obtain ⟨hl, hk⟩ := h3
    have hk' : X.env.scope.kind = .function := by rw [k.sc]; exact hk
    cases hw : swLc X.env.scope x py e with
    | false => exact plain (sw_no hk' (.inr hl) hw)
    | true =>
      cases e <;> simp only [isLC] at hl <;> try (cases hl; done)
      rename_i elt gs scope lp
      simp only [swLc, Bool.and_eq_true, decide_eq_true_eq, Bool.not_eq_true'] at hw
      obtain ⟨⟨w1, w2⟩, w3⟩ := hw
      cases fu with
      | zero => cases h2
      | succ fu =>
        obtain ⟨hf, tg, it, ifs, wi, gg, tt, te, own, rfl, p1, p2, p3, p4, p5⟩ := lc_parts (G := G) (lev := lev) (compE_rec G lev fu).1 h2
        refine .inl ⟨hf, (ps_setLc k.calm nd s1 w1 (sw_true hk' w1 w2 w3) (p1 X k) (by rw [k.N, k.sc]; exact p2) (fun s H C cl fp => (p3 X k s H C cl fp).1) (fun s H C cl fp => (p3 X k s H C cl fp).2.1) (fun s H C cl fp => (p3 X k s H C cl fp).2.2) (folded_of p4)).imp fun D σ H q => ?_⟩
        exact p5 _ _ _ q
theorem kind_of {env : Env} (hk : env.scope.kind = .function) : env.blockKind = .function := by unfold Env.blockKind; rw [hk]; rfl
theorem par_no {fu : Nat} (k : CtxOk G lev c X) {ts es : List Expr} {ms : List ME} {is : List Nat} {kt k2 : Nat} {pt pt2 pos : Pos} (h1 : mapO (compE fu c) es = some ms) (h2 : mapO (nmAny c) ts = some is) (hl : is.length = ms.length) (hle : ms.length ≤ 1000) (hn : parNo ts es = true) :
    PS X (.Assign [.Tuple ts kt pt] (.Tuple es k2 pt2) pos) (tS G (.par is ms)) := by
  obtain ⟨n1, n2, n3⟩ := names_ok k h2
  refine ss_parT hle hl (ps_asg (pe_tup (put_all k h1)) (pg_tup k.calm n1 n2 n3) rfl ?_ rfl)
  unfold swappedStores
  simp only [parNo, Bool.or_eq_true, Bool.not_eq_true'] at hn
  rcases hn with hn | hn
  · simp only [Bool.or_eq_false_iff] at hn
    simp [hn.1, hn.2]
  · simp only [hn]
    split <;> try rfl
    split <;> try rfl
    split <;> rfl
theorem swapped_of {ts es : List Expr} {kt k2 : Nat} {pt pt2 : Pos} {env : Env} {names : List Str} (hl : (!(ts.length == 2 || ts.length == 3) || es.length != ts.length || env.blockKind != .function) = false) (hs : (es.any fun | .Starred .. => true | _ => false) = false)
    (hn : (ts.filterMap fun | .Name id pos => if env.kindOf id == some .local && pos.line == (ts.head?.map (·.pos.line)).getD 0 then some id else none | _ => none) = names) (hd : (names.length != ts.length || names.eraseDups.length != names.length) = false)
    (h1 : es.all (foldedForSure 8) = false) (h2 : es.all (constantsAlone 8) = false) : swappedStores [.Tuple ts kt pt] (.Tuple es k2 pt2) env = pure (some names) := by
  subst hn
  unfold swappedStores
  dsimp only
  refine (if_neg (by rw [hl]; decide)).trans ?_
  refine (if_neg fun z => Bool.noConfusion (hs.symm.trans z)).trans ?_
  refine (if_neg fun z => Bool.noConfusion (hd.symm.trans z)).trans ?_
  refine (if_neg (by rw [h1]; decide)).trans ?_
  exact if_neg (by rw [h2]; decide)
theorem par_2 {fu : Nat} (k : CtxOk G lev c X) {a b : Expr} {ms : List ME} {is : List Nat} {x y : Str} {px py : Pos} {kt k2 : Nat} {pt pt2 pos : Pos} (h1 : mapO (compE fu c) [a, b] = some ms) (h2 : mapO (nmAny c) [.Name x px, .Name y py] = some is) (hn : par2Ok c.sc x y px py [a, b] = true) :
    PS X (.Assign [.Tuple [.Name x px, .Name y py] kt pt] (.Tuple [a, b] k2 pt2) pos) (tS G (.par is ms)) := by
  obtain ⟨i, r, i1, i2, rfl⟩ := mapO_cons h2
  obtain ⟨j, r, j1, j2, rfl⟩ := mapO_cons i2
  simp only [mapO] at j2
  cases j2
  have pa := put_all k h1
  have sn := star_none G lev h1
  obtain ⟨ma, r, a1, a2, rfl⟩ := mapO_cons h1
  obtain ⟨mb, r, b1, b2, rfl⟩ := mapO_cons a2
  simp only [mapO] at b2
  cases b2
  simp only [nmAny] at i1 j1
  obtain ⟨x1, x2, x3⟩ := k.slot i1
  obtain ⟨y1, y2, y3⟩ := k.slot j1
  simp only [par2Ok, Bool.and_eq_true, decide_eq_true_eq, Bool.not_eq_true'] at hn
  obtain ⟨⟨⟨⟨⟨⟨n1, n2⟩, n3⟩, n4⟩, n5⟩, n6⟩, n7⟩ := hn
  have hk' : X.env.scope.kind = .function := by rw [k.sc]; exact n1
  have lx : X.env.scope.names.lookup x = some .local := by rw [k.sc]; exact loc_is n2
  have ly : X.env.scope.names.lookup y = some .local := by rw [k.sc]; exact loc_is n3
  have ne : x ≠ y := by simpa using n5
  refine ss_par2 (ps_par k.calm (by rw [k.N]; exact k.nd) x1 y1 (fun e => ?_) lx ly pa ?_ rfl)
  · subst e
    rw [x1] at y1
    exact ne (Option.some.inj y1)
  · have n4' : (py.line == px.line) = true := by rw [beq_iff_eq] at n4 ⊢; exact n4.symm
    have ne' : (y == x) = false := by simpa using fun e => ne e.symm
    refine swapped_of (by rw [kind_of hk']; rfl) sn (by simp [List.filterMap_cons, Env.kindOf, lx, ly, Expr.pos, (beq_iff_eq.mp n4')]) (by simp [List.eraseDups_cons, ne']) n6 n7
theorem par_3 {fu : Nat} (k : CtxOk G lev c X) {a b d : Expr} {ms : List ME} {is : List Nat} {x y z : Str} {px py pz : Pos} {kt k2 : Nat} {pt pt2 pos : Pos} (h1 : mapO (compE fu c) [a, b, d] = some ms) (h2 : mapO (nmAny c) [.Name x px, .Name y py, .Name z pz] = some is) (hn : par3Ok c.sc x y z px py pz [a, b, d] = true) :
    PS X (.Assign [.Tuple [.Name x px, .Name y py, .Name z pz] kt pt] (.Tuple [a, b, d] k2 pt2) pos) (tS G (.par is ms)) := by
  obtain ⟨i, r, i1, i2, rfl⟩ := mapO_cons h2
  obtain ⟨j, r, j1, j2, rfl⟩ := mapO_cons i2
  obtain ⟨l, r, l1, l2, rfl⟩ := mapO_cons j2
  simp only [mapO] at l2
  cases l2
  have pa := put_all k h1
  have sn := star_none G lev h1
  obtain ⟨ma, r, a1, a2, rfl⟩ := mapO_cons h1
  obtain ⟨mb, r, b1, b2, rfl⟩ := mapO_cons a2
  obtain ⟨md, r, d1, d2, rfl⟩ := mapO_cons b2
  simp only [mapO] at d2
  cases d2
  simp only [nmAny] at i1 j1 l1
  obtain ⟨x1, x2, x3⟩ := k.slot i1
  obtain ⟨y1, y2, y3⟩ := k.slot j1
  obtain ⟨z1, z2, z3⟩ := k.slot l1
  simp only [par3Ok, Bool.and_eq_true, decide_eq_true_eq, Bool.not_eq_true'] at hn
  obtain ⟨⟨⟨⟨⟨⟨⟨⟨⟨⟨n1, n2⟩, n3⟩, n3'⟩, n4⟩, n4'⟩, n5⟩, n5'⟩, n5''⟩, n6⟩, n7⟩ := hn
  have hk' : X.env.scope.kind = .function := by rw [k.sc]; exact n1
  have lx : X.env.scope.names.lookup x = some .local := by rw [k.sc]; exact loc_is n2
  have ly : X.env.scope.names.lookup y = some .local := by rw [k.sc]; exact loc_is n3
  have lz : X.env.scope.names.lookup z = some .local := by rw [k.sc]; exact loc_is n3'
  have ne : x ≠ y := by simpa using n5
  have ne2 : x ≠ z := by simpa using n5'
  have ne3 : y ≠ z := by simpa using n5''
  have df : ∀ {i j : Nat} {x y : Str}, X.N[i]? = some x → X.N[j]? = some y → x ≠ y → i ≠ j := fun h1 h2 ne e => by
    subst e
    rw [h1] at h2
    exact ne (Option.some.inj h2)
  refine ss_par3 (ps_par3 k.calm (by rw [k.N]; exact k.nd) x1 y1 z1 (df x1 y1 ne) (df x1 z1 ne2) (df y1 z1 ne3) lx ly lz pa ?_ rfl)
  have e1 : (y == x) = false := by simpa using fun e => ne e.symm
  have e2 : (z == x) = false := by simpa using fun e => ne2 e.symm
  have e3 : (z == y) = false := by simpa using fun e => ne3 e.symm
  exact swapped_of (by rw [kind_of hk']; rfl) sn (by simp [List.filterMap_cons, Env.kindOf, lx, ly, lz, Expr.pos, (beq_iff_eq.mp n4), (beq_iff_eq.mp n4')]) (by simp [List.eraseDups_cons, e1, e2, e3]) n6 n7
theorem asg_tup {fu : Nat} (k : CtxOk G lev c X) {ts : List Expr} {e : Expr} {t : List Tgt} {m : ME} {kt : Nat} {pt pos : Pos} (h1 : mapO (compTg c 8) ts = some t) (h2 : compE fu c e = some m) (hb : isBlk e = false) (ht : isTupB e = false) : PS X (.Assign [.Tuple ts kt pt] e pos) (tS G (.asg (.tp t) m)) := by
  have g := compE_good (G := G) (lev := lev) h2
  have pg : PG X (.Tuple ts kt pt) (gT G (.tp t)) := compTg_ok k 9 _ _ (show (mapO (compTg c 8) ts).map Tgt.tp = _ by rw [h1]; rfl)
  refine ss_asg (ps_asg (g.pe X k) pg (sw_nb (t := some (.Tuple ts kt pt)) (l := pos.line) (env := X.env) hb) ?_ rfl)
  cases e <;> first | rfl | cases ht
theorem asg_sub {fu : Nat} (k : CtxOk G lev c X) {x : Str} {p tp pos : Pos} {a e : Expr} {i : Nat} {mk m : ME} (hc : (notSlice a && !isBlk e && !isTupB e) = true) (h1 : c.var x = some i) (h2 : compE fu c a = some mk) (h3 : compE fu c e = some m) : PS X (.Assign [.Subscript (.Name x p) a tp] e pos) (tS G (.seti i mk m)) := by
  simp only [Bool.and_eq_true] at hc
  exact ss_seti (k.pv h1) ((compE_good (G := G) (lev := lev) h2).pe X k) ((compE_good (G := G) (lev := lev) h3).pe X k) hc.1.1
theorem asg_ok {fu : Nat} (k : CtxOk G lev c X) {tg e : Expr} {pos : Pos} {m : MS} (h : compAsg fu c tg e = some m) : PS X (.Assign [tg] e pos) (tS G m) := by
  unfold compAsg at h
  split at h
  · obtain ⟨i, h1, h⟩ := Option.bind_eq_some_iff.mp h
    obtain ⟨me, h2, h⟩ := Option.bind_eq_some_iff.mp h
    split at h
    · cases h
    · rename_i hn
      cases h
      exact asg_name k h1 h2 (by simpa using hn)
  · split at h
    · obtain ⟨ms, h1, h⟩ := Option.bind_eq_some_iff.mp h
      split at h
      · rename_i hn
        obtain ⟨is, h2, h⟩ := Option.bind_eq_some_iff.mp h
        split at h
        · rename_i hl
          cases h
          exact par_no k h1 h2 hl.1 hl.2 hn
        · cases h
      · split at h
        · split at h
          · rename_i hn
            obtain ⟨is, h2, rfl⟩ := Option.map_eq_some_iff.mp h
            exact par_2 k h1 h2 hn
          · cases h
        · split at h
          · rename_i hn
            obtain ⟨is, h2, rfl⟩ := Option.map_eq_some_iff.mp h
            exact par_3 k h1 h2 hn
          · cases h
        · cases h
    · rename_i hnt
      split at h
      · cases h
      · rename_i hb
        obtain ⟨t, h1, h⟩ := Option.bind_eq_some_iff.mp h
        obtain ⟨me, h2, rfl⟩ := Option.map_eq_some_iff.mp h
        refine asg_tup k h1 h2 (by simpa using hb) ?_
        cases e <;> first | rfl | exact absurd rfl (hnt _ _ _)
  · split at h
    · rename_i hc
      obtain ⟨i, h1, h⟩ := Option.bind_eq_some_iff.mp h
      obtain ⟨mk, h2, h⟩ := Option.bind_eq_some_iff.mp h
      obtain ⟨me, h3, rfl⟩ := Option.map_eq_some_iff.mp h
      exact asg_sub k hc h1 h2 h3
    · cases h
  · cases h
theorem compSt_ok {fu : Nat} {rec : Stmt → Option MS} (hr : ∀ st m, rec st = some m → ∀ X, CtxOk G lev c X → PS X st (tS G m)) {st : Stmt} {m : MS} (h : compSt fu rec c st = some m) (k : CtxOk G lev c X) : PS X st (tS G m) := by
  have all : ∀ {b : List Stmt} {mb : List MS}, mapO rec b = some mb → PSs X b (tSs G mb) := by
    intro b
    induction b with
    | nil => intro mb h; simp only [mapO] at h; cases h; exact ss_nil
    | cons s b ih =>
      intro mb h
      obtain ⟨m, r, h1, h2, rfl⟩ := mapO_cons h
      exact ss_cons (hr _ _ h1 X k) (ih h2)
  have good : ∀ {e : Expr} {m : ME}, compE fu c e = some m → Good G lev c e m := fun h => compE_good h
  unfold compSt at h
  split at h
  · exact asg_ok k h
  · obtain ⟨b, h1, h⟩ := Option.bind_eq_some_iff.mp h
    obtain ⟨i, h2, h⟩ := Option.bind_eq_some_iff.mp h
    obtain ⟨me, h3, rfl⟩ := Option.map_eq_some_iff.mp h
    obtain ⟨s1, s2, s3⟩ := k.slot h2
    obtain ⟨C, f, p1, p2⟩ := aug_ok (G := G) (X := X) h1
    exact ss_aug (by rw [k.N]; exact k.nd) s1 s2 s3 ((good h3).pe X k) p1 p2
  · split at h
    · rename_i hc
      simp only [Bool.and_eq_true, Bool.or_eq_true] at hc
      obtain ⟨i, h1, h⟩ := Option.bind_eq_some_iff.mp h
      obtain ⟨me, h2, rfl⟩ := Option.map_eq_some_iff.mp h
      split
      · rename_i ha
        rw [beq_iff_eq] at ha
        subst ha
        exact ss_app (k.pv h1) ((good h2).pe X k) hc.1.2 hc.2
      · rename_i ha
        have he := hc.1.1.resolve_left ha
        rw [beq_iff_eq] at he
        subst he
        exact ss_ext k.K (k.pv h1) ((good h2).pe X k) hc.1.2 hc.2
    · cases h
  · split at h
    · cases h
    · rename_i hb
      obtain ⟨me, h1, rfl⟩ := Option.map_eq_some_iff.mp h
      exact ss_exp ((good h1).pe X k) (sw_nb (by simpa using hb))
  · obtain ⟨mt, h1, h⟩ := Option.bind_eq_some_iff.mp h
    obtain ⟨ma, h2, h⟩ := Option.bind_eq_some_iff.mp h
    obtain ⟨mb, h3, rfl⟩ := Option.map_eq_some_iff.mp h
    exact ss_if ((good h1).pt X k) (all h2) (all h3)
  · obtain ⟨t, h1, h⟩ := Option.bind_eq_some_iff.mp h
    obtain ⟨mi, h2, h⟩ := Option.bind_eq_some_iff.mp h
    obtain ⟨mb, h3, rfl⟩ := Option.map_eq_some_iff.mp h
    obtain ⟨i1, i2⟩ := compI_ok (compE_rec G lev fu).1 h2
    exact ss_for k.xe k.calm (i1 X k) (compTg_ok k 8 _ _ h1) (all h3) (folded_of i2)
  · obtain ⟨mt, h1, h⟩ := Option.bind_eq_some_iff.mp h
    obtain ⟨mb, h2, rfl⟩ := Option.map_eq_some_iff.mp h
    exact ss_while k.xe ((good h1).pt X k) (all h2)
  · obtain ⟨me, h1, rfl⟩ := Option.map_eq_some_iff.mp h
    exact ss_ret ((good h1).pe X k)
  · cases h; exact ss_retN
  · cases h; exact ss_pass
  · cases h; exact ss_brk
  · cases h; exact ss_cnt
  · cases h
theorem compS_ok {fu : Nat} : ∀ (n : Nat) (st : Stmt) (m : MS), compS fu n c st = some m → ∀ X, CtxOk G lev c X → PS X st (tS G m)
  | 0, _, _, h => by cases h
  | n + 1, st, m, h => fun X k => compSt_ok (rec := compS fu n c) (fun st m h => compS_ok n st m h) h k
theorem compSs_ok {fu n : Nat} (k : CtxOk G lev c X) : ∀ {b : List Stmt} {mb : List MS}, mapO (compS fu n c) b = some mb → PSs X b (tSs G mb)
  | [], mb, h => by simp only [mapO] at h; cases h; exact ss_nil
  | s :: b, mb, h => by
    obtain ⟨m, r, h1, h2, rfl⟩ := mapO_cons h
    exact ss_cons (compS_ok n s m h1 X k) (compSs_ok k h2)
end
end Rk
/-! Fw16: defs -/
namespace Rk
open PySem PySem.Spec PyProof.Rows L2
/-! ### the held objects without lists -/
def isL (o : Obj) : Bool := match o.data with
  | .seq _ _ => decide (o.cls = .type "list")
  | _ => false
def nol (K : PySem.W.Frag) : PySem.W.Frag := K.filterMap fun p => (K.lookup p.1).bind fun o => if isL o = true then none else some (p.1, o)
theorem lookup_fm {K L : PySem.W.Frag} {a : Addr} : (L.filterMap fun p => (K.lookup p.1).bind fun o => if isL o = true then none else some (p.1, o)).lookup a = if (L.lookup a).isSome = true then (K.lookup a).bind fun o => if isL o = true then none else some o else none := by
  induction L with
  | nil => rfl
  | cons p L ih =>
    obtain ⟨b, u⟩ := p
    rw [List.filterMap_cons, List.lookup_cons]
    by_cases e : a = b
    · subst e
      simp only [beq_self_eq_true, Option.isSome_some, if_true]
      cases h : K.lookup a with
      | none =>
        simp only [Option.bind_none]
        rw [ih, h]
        split <;> rfl
      | some o =>
        simp only [Option.bind_some]
        split
        · rename_i hn
          split at hn
          · rw [ih, h]
            rename_i hl
            simp [hl]
          · cases hn
        · rename_i hn
          split at hn
          · cases hn
          · cases hn
            rename_i hl
            rw [List.lookup_cons, beq_self_eq_true]
            simp [hl]
    · have ne : (a == b) = false := by simpa using e
      rw [ne]
      simp only
      cases h : (K.lookup b).bind fun o => if isL o = true then none else some (b, o) with
      | none => simp only; exact ih
      | some q =>
        simp only
        have q1 : q.1 = b := by
          obtain ⟨o, _, h2⟩ := Option.bind_eq_some_iff.mp h
          split at h2
          · cases h2
          · cases h2; rfl
        obtain ⟨q1', q2⟩ := q
        simp only at q1
        subst q1
        rw [List.lookup_cons, ne]
        exact ih
theorem nol_some {K : PySem.W.Frag} {a : Addr} {o : Obj} (h : K.lookup a = some o) (hl : isL o = false) : (nol K).lookup a = some o := by
  unfold nol
  rw [lookup_fm, h]
  simp [hl]
theorem nol_of {K : PySem.W.Frag} {a : Addr} {o : Obj} (h : (nol K).lookup a = some o) : K.lookup a = some o ∧ isL o = false := by
  unfold nol at h
  rw [lookup_fm] at h
  split at h
  · obtain ⟨u, h1, h2⟩ := Option.bind_eq_some_iff.mp h
    split at h2
    · cases h2
    · rename_i hl
      cases h2
      exact ⟨h1, by simpa using hl⟩
  · cases h
theorem nol_in {K : PySem.W.Frag} {h : Heap} (X : K.In h) : (nol K).In h := fun a o e => X a o (nol_of e).1
theorem nol_sq {K : PySem.W.Frag} {H : Hp} {a : Addr} {xs : List V} (h : SqL (nol K) H a xs) : Rd H a (.lst xs) := by
  rcases h with h | ⟨o, its, n, h1, h2, _, h3, _⟩
  · exact h
  · have := (nol_of h1).2
    unfold isL at this
    rw [h3, h2] at this
    simp at this
theorem nol_code {K : PySem.W.Frag} {cd : Value} {q : Str} (h : PySem.W.codeIn K cd q = true) : PySem.W.codeIn (nol K) cd q = true := by
  unfold PySem.W.codeIn at h ⊢
  split at h
  · rename_i c
    cases e : K.lookup c with
    | none => rw [e] at h; cases h
    | some o =>
      rw [e] at h
      obtain ⟨oc, od, dt, sl⟩ := o
      cases dt with
      | fields vs =>
        have e2 := nol_some e rfl
        simp only [e2]
        exact h
      | _ => cases h
  · cases h
theorem nol_fun {K : PySem.W.Frag} {x qual : Str} {params : Arguments} {body : List Stmt} {scope : Scope} {f : Addr} {fd : FuncData} (F : FunD K x qual params body scope [] [] f fd) : FunD (nol K) x qual params body scope [] [] f fd := by
  obtain ⟨⟨oc, od, dV, kV, doc, pm, an, cdv, ct, osl, h1, h2, h3, h4, h5⟩, kp⟩ := F
  have e2 := nol_some h2 rfl
  refine ⟨⟨oc, od, dV, kV, doc, pm, an, cdv, ct, osl, h1, e2, nol_code h3, ?_, .inl rfl⟩, ?_⟩
  · rcases h4 with h4 | ⟨h4, _⟩
    · exact .inl h4
    · exact absurd rfl h4
  · unfold PySem.W.keepIn
    simp only [e2]

/-! ### a def -/
structure FD where
  name : String
  x : Str
  ps : List Str
  N : List Str
  st : Stmt
def FD.cc (fs : List (Str × String × Nat)) (gl : List (Str × D)) (d : FD) : CC := ⟨d.N, defScope d.st, fun _ => true, fs, gl⟩
def compFn (fs : List (Str × String × Nat)) (gl : List (Str × D)) (d : FD) : Option Fn := (mapO (compS 40 20 (d.cc fs gl)) (defBody d.st)).map fun b => ⟨d.ps.length, d.N.length, b⟩
/-- what the head says of the program -/
structure Says (K : PySem.W.Frag) (mg : Str → Option Value) (fs : List (Str × String × Nat)) (gl : List (Str × D)) (ds : List FD) : Prop where
  fn : ∀ d ∈ ds, ∃ f fd, mg d.x = some (.ref f) ∧ FunD K d.x d.x (defArgs d.st) (defBody d.st) (defScope d.st) [] [] f fd ∧ Binds K fd d.ps []
  blt : ∀ x ∈ bltN, mg x = none
  gl : ∀ x d, gl.lookup x = some d → ∃ u v, mg x = some u ∧ RelV v u ∧ ∀ H, Den K H (fun _ => False) v d
/-- the texts' side -/
structure Fits (P : Pg) (fs : List (Str × String × Nat)) (gl : List (Str × D)) (ds : List FD) : Prop where
  fsx : ∀ x f n, fs.lookup x = some (f, n) → ∃ d ∈ ds, d.x = x ∧ d.name = f ∧ d.ps.length = n
  fn : ∀ d ∈ ds, ∃ fn, P.lookup d.name = some fn ∧ compFn fs gl d = some fn
  sc : ∀ d ∈ ds, FnScope d.N d.ps (defScope d.st)
theorem start_at {N : List Str} {vs : List V} {ds : List D} {K : PySem.W.Frag} {H : Hp} {Z : Zn} (h : Dens K H Z vs ds) {n : Nat} {i : Nat} {d : D} (q : (ds.map Slot.va ++ List.replicate n Slot.un)[i]? = some (Slot.va d)) : ∃ v, (L2.start N vs)[i]? = some (some v) ∧ Den K H Z v d := by
  have l := h.length
  by_cases hi : i < ds.length
  · rw [List.getElem?_append_left (by simpa using hi), List.getElem?_map] at q
    obtain ⟨d', e1, e2⟩ := Option.map_eq_some_iff.mp q
    cases e2
    obtain ⟨v, h1, h2⟩ := h.get e1
    refine ⟨v, ?_, h2⟩
    unfold L2.start
    rw [List.getElem?_append_left (by simpa [l] using hi), List.getElem?_map, h1]
    rfl
  · rw [List.getElem?_append_right (by simpa using Nat.le_of_not_lt hi), List.getElem?_replicate] at q
    split at q <;> cases q
theorem rel_start {N : List Str} {vs : List V} {ds : List D} {K : PySem.W.Frag} {H : Hp} {Z : Zn} (h : Dens K H Z vs ds) (hz : ∀ a, Z a → H a ≠ none) (b : List MS) (hn : ds.length ≤ N.length) : Rel K H Z (fun _ => False) (L2.start N vs) H Z (envOf ⟨ds.length, N.length, b⟩ ds) := by
  have l := h.length
  have ow : ∀ (i : Nat) (d : D), (envOf ⟨ds.length, N.length, b⟩ ds)[i]? ≠ some (Slot.ow d) := fun i d q => by
    unfold envOf at q
    by_cases hi : i < ds.length
    · rw [List.getElem?_append_left (by simpa using hi), List.getElem?_map] at q
      obtain ⟨d', _, e2⟩ := Option.map_eq_some_iff.mp q
      cases e2
    · rw [List.getElem?_append_right (by simpa using Nat.le_of_not_lt hi), List.getElem?_replicate] at q
      split at q <;> cases q
  refine ⟨?_, fun i d q => start_at h q, fun i d q => absurd q (ow i d), fun i j d e a q => absurd q (ow i d), hz, fun _ z => z, fun _ z => .inl z, fun _ _ e _ => e, fun _ z => z.elim⟩
  unfold envOf L2.start
  simp [l]
section
variable {Pr : Program} {w : World} {K : PySem.W.Frag} {mg : Str → Option Value} {base : Heap} {P : Pg} {fs : List (Str × String × Nat)} {gl : List (Str × D)} {ds : List FD}
theorem fin_grow {G : Gm} {H' : Hp} {Z' : Zn} (f : Fin G H' Z') (ho : G.O0 = fun _ => False) : Grow G.H0 G.Z0 H' Z' :=
  ⟨fun b o e => f.keep b o e (by rw [ho]; exact id), f.z0, f.zn, fun a z => .inr (f.zok a z)⟩
theorem defs_ok (S : Says K mg fs gl ds) (T : Fits P fs gl ds) : ∀ (n : Nat), ∀ d ∈ ds, ∀ f fd, FunD K d.x d.x (defArgs d.st) (defBody d.st) (defScope d.st) [] [] f fd → FnOk Pr w K mg base CX0 (n + 2) f fd d.ps (spD K (call P n) d.name d.ps.length)
  | 0, d, hd, f, fd, F => ⟨fun vs H Q E h => h.1, fun A outer s H args us vs Q E hr he hb hv h => by
      obtain ⟨_, Zc, es, r, _, _, e, _⟩ := h
      cases e⟩
  | n + 1, d, hd, f, fd, F => by
    obtain ⟨fn, p1, p2⟩ := T.fn d hd
    obtain ⟨b, p3, rfl⟩ := Option.map_eq_some_iff.mp p2
    have sc := T.sc d hd
    have hle : d.ps.length ≤ d.N.length := by have := congrArg List.length sc.pre; rw [List.length_take] at this; omega
    refine F.ok sc (fun vs H Q E h => h.1) fun cdv A outer s H vs Q E hr h => ?_
    obtain ⟨hl, Zc, es, r, h1, h2, h3, h4⟩ := h
    have hel : es.length = d.ps.length := by rw [← h1.length, hl]
    refine ⟨tSs ⟨K, H, Zc, fun _ => False, call P n⟩ b, PSs.nox (compSs_ok (lev := n + 2) (c := d.cc fs gl) ?_ p3), ?_⟩
    · refine ⟨rfl, sc.nd, rfl, rfl, rfl, rfl, rfl, S.blt, fun x g k hx => ?_, S.gl, hr, ?_⟩
      · obtain ⟨e, he, rfl, rfl, rfl⟩ := T.fsx x g k hx
        obtain ⟨f2, fd2, q1, q2, q3⟩ := S.fn e he
        exact ⟨f2, fd2, e.ps, q1, q2.kp, q3, defs_ok S T n e he f2 fd2 q2⟩
      · have := hr.un
        show (A.deeper (envOfC d.x (defScope d.st) s.heap.objs.size f cdv)).units + 1 + dlim < cLine
        unfold dlim
        omega
    · simp only [call, p1, Option.bind_some, runFn] at h3
      rw [if_pos hel] at h3
      obtain ⟨out, e1, e2⟩ := Option.bind_eq_some_iff.mp h3
      refine ⟨_, Zc, out, rel_start h1 h2 b (by rw [hel]; exact hle), by rw [hel]; exact e1, ?_⟩
      cases out with
      | nx e =>
        cases e2
        intro σ' H' Z' r' _
        exact h4 _ H' Z' (fin_grow (G := ⟨K, H, Zc, fun _ => False, call P n⟩) ⟨r'.keep, r'.z0, r'.zn, r'.zok⟩ rfl) .non
      | rt x =>
        cases e2
        intro v H' Z' f hv
        exact h4 v H' Z' (fin_grow f rfl) hv
      | bk => cases e2
      | ct => cases e2
/-- a law: at every script the evaluator says True -/
theorem law_sp {n : Nat} {f : String} {m : Nat} (h : ∀ ns : List Int, ns.length ≤ m → call P n f [.lst (ns.map D.int)] = some (.bl true)) (hm : m ≤ sizeLine) {H : Hp} {a : Addr} {ns : List Int} (hn : ns.length ≤ m) (hS : SqL (nol K) H a (ns.map V.int)) : spD (nol K) (call P n) f 1 [.ref a] H (fun v _ => v = .bl true) fun _ _ _ => False := by
  have rd := nol_sq hS
  refine ⟨rfl, fun b => b = a, [.lst (ns.map D.int)], .bl true, .cons (.lst rfl rd (by rw [List.length_map]; omega) ?_) .nil, fun b e => ?_, h ns hn, fun v H' Z' _ hv => by cases hv; rfl⟩
  · clear hn hS rd
    induction ns with
    | nil => exact .nil
    | cons i r ih => exact .cons (.int i) ih
  · subst e
    rcases rd with q | ⟨o, q⟩ <;> rw [q] <;> simp
end
end Rk
/-! Fw17: the head -/
namespace Rk
open PySem PySem.Spec PyProof.Rows L2
def fnOf (ds : List FD) : List He.DefD := ds.map fun d => ⟨(d.x, none), d.x, d.x, defArgs d.st, defBody d.st, defScope d.st, [], []⟩
def faOf (ds : List FD) (ex : List He.Fa) : List He.Fa := ds.map (fun d => .glo d.x) ++ (bltN.map .free ++ ex)
def Bnd (d : FD) : Prop := ∀ (kV doc pm : Value) (an : Option Addr) (cdv ct : Value) (us : List Value), us.length = d.ps.length → bindArgs (PySem.W.fnOf d.x d.x (defArgs d.st) (defBody d.st) (defScope d.st) .none kV doc pm an cdv ct) ⟨us, []⟩ = pure (d.ps.zip us)
section
variable {fs : List (Str × String × Nat)} {gl : List (Str × D)} {ds : List FD} {ex : List He.Fa} {K : PySem.W.Frag} {h : Heap} {mg : Str → Option Value}
theorem says_def (c : He.SaysD (faOf ds ex) (fnOf ds) K) (X : K.In h) (G : h.Ns mainGlobals mg) {d : FD} (hd : d ∈ ds) : ∃ f fd, mg d.x = some (.ref f) ∧ FunD K d.x d.x (defArgs d.st) (defBody d.st) (defScope d.st) [] [] f fd := by
  obtain ⟨fd, F⟩ := c.defs (d := ⟨(d.x, none), d.x, d.x, defArgs d.st, defBody d.st, defScope d.st, [], []⟩) (List.mem_map.mpr ⟨d, hd, rfl⟩)
  exact ⟨_, fd, He.glo_ok X G (c.facts (f := .glo d.x) (List.mem_append_left _ (List.mem_map.mpr ⟨d, hd, rfl⟩))), F⟩
theorem says_of (c : He.SaysD (faOf ds ex) (fnOf ds) K) (X : K.In h) (G : h.Ns mainGlobals mg) (hb : ∀ d ∈ ds, Bnd d)
    (hgl : (∀ f ∈ ex, f.ok K = true) → ∀ x d, gl.lookup x = some d → ∃ u v, mg x = some u ∧ RelV v u ∧ ∀ H, Den (nol K) H (fun _ => False) v d) : Says (nol K) mg fs gl ds where
  fn := fun d hd => by
    obtain ⟨f, fd, h1, h2⟩ := says_def c X G hd
    exact ⟨f, fd, h1, nol_fun h2, FunD.bindsN (nol_fun h2) (hb d hd)⟩
  blt := fun x hx => He.free_ok X G (c.facts (f := .free x) (List.mem_append_right _ (List.mem_append_left _ (List.mem_map.mpr ⟨x, hx, rfl⟩))))
  gl := hgl fun f hf => c.facts (List.mem_append_right _ (List.mem_append_right _ hf))
theorem law_F {Pr : Program} {P : Pg} {n m : Nat} {d : FD} {x : Str} (T : Fits P fs gl ds) (hd : d ∈ ds) (hx : d.ps = [x]) (hb : ∀ d ∈ ds, Bnd d) (hm : m ≤ sizeLine)
    (hgl : ∀ (K : PySem.W.Frag) (h : Heap) (mg : Str → Option Value), K.In h → h.Ns mainGlobals mg → (∀ f ∈ ex, f.ok K = true) → ∀ x d, gl.lookup x = some d → ∃ u v, mg x = some u ∧ RelV v u ∧ ∀ H, Den (nol K) H (fun _ => False) v d)
    (hlaw : ∀ ns : List Int, ns.length ≤ m → call P n d.name [.lst (ns.map D.int)] = some (.bl true)) (w : World) (mg : Str → Option Value) (fa : Addr) (h : Heap)
    (Y : ∃ K : PySem.W.Frag, K.In h ∧ He.SaysD (faOf ds ex) (fnOf ds) K) (G : h.Ns mainGlobals mg) (hf : mg d.x = some (.ref fa)) :
    ∃ (K : PySem.W.Frag) (fd : FuncData) (sp : Sp), K.In h ∧ (∀ (s : Shared) (u : Value), BindsTo s fd ⟨[u], []⟩ [(x, u)]) ∧
        (∀ (H : Hp) (a : Addr) (ns : List Int), ns.length ≤ m → Only H → SqL K H a (ns.map V.int) → sp [.ref a] H (fun v _ => v = .bl true) fun _ _ _ => False) ∧
        ∀ base : Heap, K.In base → base.Ns mainGlobals mg → FnOk Pr w K mg base CX0 (n + 2) fa fd [x] sp := by
  obtain ⟨K, X, c⟩ := Y
  obtain ⟨f, fd, h1, h2⟩ := says_def c X G hd
  rw [h1] at hf
  cases hf
  have S : Says (nol K) mg fs gl ds := says_of c X G hb (hgl K h mg X G)
  refine ⟨nol K, fd, spD (nol K) (call P n) d.name 1, nol_in X, fun s u => ?_, fun H a ns hn _ hS => law_sp hlaw hm hn hS, fun base _ _ => ?_⟩
  · have := FunD.bindsA h2 (hb d hd) s [u] (by rw [hx]; rfl)
    rw [hx] at this
    exact this
  · have := defs_ok (Pr := Pr) (w := w) (base := base) S T n d hd _ fd (nol_fun h2)
    rw [hx] at this
    exact this
end
end Rk
/-! Fw18: the evaluator's equations, for simp -/
namespace Rk
open PySem
section
variable {cf : CF} {env : En}
@[simp] theorem ev_var (i : Nat) : evalE cf (.var i) env = getS env i := by first | (simp only [evalE]; done) | (simp only [evalE]; rfl)
@[simp] theorem ev_cst (d : D) : evalE cf (.cst d) env = some d := by first | (simp only [evalE]; done) | (simp only [evalE]; rfl)
@[simp] theorem ev_tup (es : List ME) : evalE cf (.tup es) env = (evalEs cf es env).map .tup := by first | (simp only [evalE]; done) | (simp only [evalE]; rfl)
@[simp] theorem ev_lst (es : List ME) : evalE cf (.lst es) env = (evalEs cf es env).map .lst := by first | (simp only [evalE]; done) | (simp only [evalE]; rfl)
@[simp] theorem ev_bin (o : Bin) (a b : ME) : evalE cf (.bin o a b) env = (evalE cf a env).bind fun x => (evalE cf b env).bind fun y => binD o x y := by first | (simp only [evalE]; done) | (simp only [evalE]; rfl)
@[simp] theorem ev_neg (a : ME) : evalE cf (.neg a) env = (evalE cf a env).bind fun x => match x with | .int i => some (.int (-i)) | _ => none := by first | (simp only [evalE]; done) | (simp only [evalE]; rfl)
@[simp] theorem ev_not (a : ME) : evalE cf (.not a) env = (evalE cf a env).map fun x => .bl (!tru x) := by first | (simp only [evalE]; done) | (simp only [evalE]; rfl)
@[simp] theorem ev_cmp (o : Cmp) (a b : ME) : evalE cf (.cmp o a b) env = (evalE cf a env).bind fun x => (evalE cf b env).bind fun y => (cmpD o x y).map .bl := by first | (simp only [evalE]; done) | (simp only [evalE]; rfl)
@[simp] theorem ev_chn (o p : Cmp) (a b c : ME) : evalE cf (.chn o p a b c) env = (evalE cf a env).bind fun x => (evalE cf b env).bind fun y => (cmpD o x y).bind fun k =>
      if k then (evalE cf c env).bind fun z => (cmpD p y z).map .bl else some (.bl false) := by first | (simp only [evalE]; done) | (simp only [evalE]; rfl)
@[simp] theorem ev_and (a b : ME) : evalE cf (.and a b) env = (evalE cf a env).bind fun x => if tru x then evalE cf b env else some x := by first | (simp only [evalE]; done) | (simp only [evalE]; rfl)
@[simp] theorem ev_or (a b : ME) : evalE cf (.or a b) env = (evalE cf a env).bind fun x => if tru x then some x else evalE cf b env := by first | (simp only [evalE]; done) | (simp only [evalE]; rfl)
@[simp] theorem ev_ite (c a b : ME) : evalE cf (.ite c a b) env = (evalE cf c env).bind fun x => if tru x then evalE cf a env else evalE cf b env := by first | (simp only [evalE]; done) | (simp only [evalE]; rfl)
@[simp] theorem ev_ix (a b : ME) : evalE cf (.ix a b) env = (evalE cf a env).bind fun x => (evalE cf b env).bind fun y => ixD x y := by first | (simp only [evalE]; done) | (simp only [evalE]; rfl)
@[simp] theorem ev_sl0 (a : ME) : evalE cf (.sl0 a) env = (evalE cf a env).bind fun x => slD x none none := by first | (simp only [evalE]; done) | (simp only [evalE]; rfl)
@[simp] theorem ev_slL (a l : ME) : evalE cf (.slL a l) env = (evalE cf a env).bind fun x => (evalE cf l env).bind fun y => match y with | .int i => slD x (some i) none | _ => none := by first | (simp only [evalE]; done) | (simp only [evalE]; rfl)
@[simp] theorem ev_slH (a l : ME) : evalE cf (.slH a l) env = (evalE cf a env).bind fun x => (evalE cf l env).bind fun y => match y with | .int i => slD x none (some i) | _ => none := by first | (simp only [evalE]; done) | (simp only [evalE]; rfl)
@[simp] theorem ev_slB (a l h : ME) : evalE cf (.slB a l h) env = (evalE cf a env).bind fun x => (evalE cf l env).bind fun y => (evalE cf h env).bind fun z => match y, z with | .int i, .int j => slD x (some i) (some j) | _, _ => none := by first | (simp only [evalE]; done) | (simp only [evalE]; rfl)
@[simp] theorem ev_call (f : String) (es : List ME) : evalE cf (.call f es) env = (evalEs cf es env).bind fun ds => cf f ds := by first | (simp only [evalE]; done) | (simp only [evalE]; rfl)
@[simp] theorem ev_blt (b : Blt) (es : List ME) : evalE cf (.blt b es) env = (evalEs cf es env).bind fun ds => bltD b ds := by first | (simp only [evalE]; done) | (simp only [evalE]; rfl)
@[simp] theorem ev_isi (a : ME) (ts : List Ty) : evalE cf (.isi a ts) env = (evalE cf a env).map fun x => .bl (ts.any fun t => isTy t x) := by first | (simp only [evalE]; done) | (simp only [evalE]; rfl)
@[simp] theorem ev_itk (k : Itk) (es : List ME) : evalE cf (.itk k es) env = (evalEs cf es env).bind fun ds => (itkD k ds).map .lst := by first | (simp only [evalE]; done) | (simp only [evalE]; rfl)
/-- a comprehension's body at one element -/
noncomputable def lcF (cf : CF) (t : Tgt) (c e : ME) (env : En) (x : D) : Option (Option D) := (asgT t x env).bind fun env1 => (evalE cf c env1).bind fun k => if tru k then (evalE cf e env1).map some else some none
@[simp] theorem ev_lc (t : Tgt) (it c e : ME) (own : List Nat) : evalE cf (.lc t it c e own) env = (evalE cf it env).bind fun xs => (itemsD xs).bind fun ds =>
      if noOw env (leakEl it) || D.flats ds then (lcGo (lcF cf t c e (wipeE env own)) ds).map .lst else none := by first | (simp only [evalE]; done) | (simp only [evalE]; rfl)
@[simp] theorem evs_nil : evalEs cf [] env = some [] := by simp only [evalEs]
@[simp] theorem evs_cons (e : ME) (r : List ME) : evalEs cf (e :: r) env = (evalE cf e env).bind fun d => (evalEs cf r env).map fun ds => d :: ds := by simp only [evalEs]
@[simp] theorem ex_asg (t : Tgt) (e : ME) : execS cf (.asg t e) env = (evalE cf e env).bind fun d => (asgFresh t e d env).map .nx := by first | (simp only [execS]; done) | (simp only [execS]; rfl)
@[simp] theorem ex_par (is : List Nat) (es : List ME) : execS cf (.par is es) env = (evalEs cf es env).map fun ds => .nx (parAsg is es ds (sink env (leaks es) (.tup ds))) := by first | (simp only [execS]; done) | (simp only [execS]; rfl)
@[simp] theorem ex_aug (i : Nat) (o : Bin) (e : ME) : execS cf (.aug i o e) env = (match env[i]? with | some (.va (.int a)) => some a | _ => none).bind fun a => (evalE cf e env).bind fun y => match y with
      | .int b => (binD o (.int a) (.int b)).map fun d => .nx (env.set i (.va d))
      | _ => none := by first | (simp only [execS]; done) | (simp only [execS]; rfl)
@[simp] theorem ex_app (i : Nat) (e : ME) : execS cf (.app i e) env = (evalE cf e env).bind fun d => match env[i]? with
      | some (.ow (.lst ds)) => if ds.length < sizeLine ∧ (¬ (i ∈ leak e) ∨ d.flat) then some (.nx ((sink env (leak e) d).set i (.ow (.lst (ds ++ [d]))))) else none
      | _ => none := by first | (simp only [execS]; done) | (simp only [execS]; rfl)
@[simp] theorem ex_ext (i : Nat) (e : ME) : execS cf (.ext i e) env = (evalE cf e env).bind fun d => match env[i]?, itemsD d with
      | some (.ow (.lst ds)), some es => if ds.length + es.length ≤ sizeLine ∧ (¬ (i ∈ leak e) ∨ D.flats es) then
          some (.nx ((sink env (leakEl e) (.tup es)).set i (.ow (.lst (ds ++ es))))) else none
      | _, _ => none := by first | (simp only [execS]; done) | (simp only [execS]; rfl)
@[simp] theorem ex_seti (i : Nat) (k e : ME) : execS cf (.seti i k e) env = (evalE cf e env).bind fun d => (evalE cf k env).bind fun kd => match env[i]? with
      | some (.ow x) => if (¬ (i ∈ leak e) ∨ d.flat) then (setD x kd d).map fun y => .nx ((sink env (leak e) d).set i (.ow y)) else none
      | _ => none := by first | (simp only [execS]; done) | (simp only [execS]; rfl)
@[simp] theorem ex_ife (c : ME) (a b : List MS) : execS cf (.ife c a b) env = (evalE cf c env).bind fun x => if tru x then execSs cf a env else execSs cf b env := by first | (simp only [execS]; done) | (simp only [execS]; rfl)
theorem ex_forr (t : Tgt) (it : ME) (b : List MS) : execS cf (.forr t it b) env = (evalE cf it env).bind fun d => (itemsD d).bind fun ds =>
      forGo (fun e => execSs cf b e) t ds (if noOw env (leak it) then env else thaw env (leak it)) := by first | (simp only [execS]; done) | (simp only [execS]; rfl)
theorem ex_whl (c : ME) (b : List MS) : execS cf (.whl c b) env = whlGo (fun e => (evalE cf c e).map tru) (fun e => execSs cf b e) env := by first | (simp only [execS]; done) | (simp only [execS]; rfl)
@[simp] theorem ex_ret (e : ME) : execS cf (.ret e) env = (evalE cf e env).map .rt := by first | (simp only [execS]; done) | (simp only [execS]; rfl)
@[simp] theorem ex_retN : execS cf .retN env = some (.rt .non) := by first | (simp only [execS]; done) | (simp only [execS]; rfl)
@[simp] theorem ex_brk : execS cf .brk env = some (.bk env) := by first | (simp only [execS]; done) | (simp only [execS]; rfl)
@[simp] theorem ex_cnt : execS cf .cnt env = some (.ct env) := by first | (simp only [execS]; done) | (simp only [execS]; rfl)
@[simp] theorem ex_pas : execS cf .pas env = some (.nx env) := by first | (simp only [execS]; done) | (simp only [execS]; rfl)
@[simp] theorem ex_exp (e : ME) : execS cf (.exp e) env = (evalE cf e env).map fun _ => .nx env := by first | (simp only [execS]; done) | (simp only [execS]; rfl)
@[simp] theorem exs_nil : execSs cf [] env = some (.nx env) := by simp only [execSs]
@[simp] theorem exs_cons (s : MS) (r : List MS) : execSs cf (s :: r) env = (execS cf s env).bind fun o => match o with
    | .nx e => execSs cf r e
    | o => some o := by first | (simp only [execSs]; done) | (simp only [execSs]; rfl)
end
@[simp] theorem getS_0 (s : Slot) (e : En) : getS (s :: e) 0 = match s with | .va d => some d | .ow d => some d | .un => none := by cases s <;> rfl
@[simp] theorem getS_s (s : Slot) (e : En) (i : Nat) : getS (s :: e) (i + 1) = getS e i := by simp [getS]
@[simp] theorem isOw_0 (s : Slot) (e : En) : isOw (s :: e) 0 = match s with | .ow _ => true | _ => false := by cases s <;> rfl
@[simp] theorem isOw_s (s : Slot) (e : En) (i : Nat) : isOw (s :: e) (i + 1) = isOw e i := by simp [isOw]
@[simp] theorem getS_1 (s : Slot) (e : En) : getS (s :: e) 1 = getS e 0 := getS_s s e 0
@[simp] theorem isOw_1 (s : Slot) (e : En) : isOw (s :: e) 1 = isOw e 0 := isOw_s s e 0
theorem call_eq {P : Pg} {n : Nat} {f : String} {fn : Fn} (h : P.lookup f = some fn) (ds : List D) : call P (n + 1) f ds = runFn (call P n) fn ds := by simp only [call, h, Option.bind_some]
@[simp] theorem tru_bl (b : Bool) : tru (.bl b) = b := rfl
@[simp] theorem atD_0 {α : Type} (x : α) (xs : List α) : atD (x :: xs) 0 = some x := by simp [atD]
@[simp] theorem ix_tup (ds : List D) (i : Int) : ixD (.tup ds) (.int i) = atD ds i := rfl
@[simp] theorem ix_lst (ds : List D) (i : Int) : ixD (.lst ds) (.int i) = atD ds i := rfl
theorem atD_nat {α : Type} (xs : List α) (i : Nat) : atD xs (i : Int) = xs[i]? := by simp [atD]
@[simp] theorem atD_1 {α : Type} (x y : α) (xs : List α) : atD (x :: y :: xs) 1 = some y := by simp [atD]
@[simp] theorem atD_2 {α : Type} (x y z : α) (xs : List α) : atD (x :: y :: z :: xs) 2 = some z := by simp [atD]
@[simp] theorem eq_str (x y : List Nat) : cmpD .eq (.str x) (.str y) = some (x == y) := by simp [cmpD, eqD, D.dep, deq]
@[simp] theorem eq_int (x y : Int) : cmpD .eq (.int x) (.int y) = some (x == y) := by simp [cmpD, eqD, D.dep, deq]
@[simp] theorem ne_int (x y : Int) : cmpD .ne (.int x) (.int y) = some (!(x == y)) := by simp [cmpD, eqD, D.dep, deq]
theorem dec_c {p : Prop} {a b : Decidable p} : @decide p a = @decide p b := by
  have : a = b := Subsingleton.elim _ _
  rw [this]
@[simp] theorem lt_int (x y : Int) : cmpD .lt (.int x) (.int y) = some (decide (x < y)) := by simp only [cmpD, intLt]; exact congrArg some dec_c
@[simp] theorem le_int (x y : Int) : cmpD .le (.int x) (.int y) = some (decide (x ≤ y)) := by simp only [cmpD, intLe]; exact congrArg some dec_c
@[simp] theorem gt_int (x y : Int) : cmpD .gt (.int x) (.int y) = some (decide (y < x)) := by simp only [cmpD, intLt]; exact congrArg some dec_c
@[simp] theorem ge_int (x y : Int) : cmpD .ge (.int x) (.int y) = some (decide (y ≤ x)) := by simp only [cmpD, intLe]; exact congrArg some dec_c
@[simp] theorem isN_d (x y : D) : cmpD .isN x y = some (isNon x) := by cases x <;> cases y <;> rfl
@[simp] theorem isNotN_d (x y : D) : cmpD .isNotN x y = some (!isNon x) := by cases x <;> cases y <;> rfl
@[simp] theorem isNon_non : isNon .non = true := rfl
@[simp] theorem isNon_int (i : Int) : isNon (.int i) = false := rfl
@[simp] theorem isNon_bl (i : Bool) : isNon (.bl i) = false := rfl
@[simp] theorem isNon_str (i : List Nat) : isNon (.str i) = false := rfl
@[simp] theorem isNon_tup (i : List D) : isNon (.tup i) = false := rfl
@[simp] theorem isNon_lst (i : List D) : isNon (.lst i) = false := rfl
@[simp] theorem add_int (x y : Int) : binD .add (.int x) (.int y) = some (.int (x + y)) := rfl
@[simp] theorem sub_int (x y : Int) : binD .sub (.int x) (.int y) = some (.int (x - y)) := rfl
@[simp] theorem deq_tup (x y : List D) : deq (.tup x) (.tup y) = deqs x y := by simp only [deq]
@[simp] theorem deq_lst (x y : List D) : deq (.lst x) (.lst y) = deqs x y := by simp only [deq]
@[simp] theorem deq_str (x y : List Nat) : deq (.str x) (.str y) = (x == y) := by simp only [deq]
@[simp] theorem deq_int (x y : Int) : deq (.int x) (.int y) = (x == y) := by simp only [deq]
@[simp] theorem deq_bl (x y : Bool) : deq (.bl x) (.bl y) = (x == y) := by simp only [deq]
@[simp] theorem deq_non : deq .non .non = true := by simp only [deq]
@[simp] theorem deqs_nil : deqs [] [] = true := by simp only [deqs]
@[simp] theorem deqs_cons (x y : D) (xs ys : List D) : deqs (x :: xs) (y :: ys) = (deq x y && deqs xs ys) := by simp only [deqs]
@[simp] theorem deqs_nc (x : D) (xs : List D) : deqs [] (x :: xs) = false := by simp only [deqs]
@[simp] theorem deqs_cn (x : D) (xs : List D) : deqs (x :: xs) [] = false := by simp only [deqs]
@[simp high] theorem eq_nat (x y : Nat) : cmpD .eq (.int x) (.int y) = some (decide (x = y)) := by
  rw [eq_int]
  congr 1
  by_cases h : x = y
  · subst h; simp
  · have : ¬ (x : Int) = y := by omega
    simp [h, this]
@[simp high] theorem deq_nat (x y : Nat) : deq (.int x) (.int y) = decide (x = y) := by
  rw [deq_int]
  by_cases h : x = y
  · subst h; simp
  · have : ¬ (x : Int) = y := by omega
    simp [h, this]
@[simp] theorem ne_str (x y : List Nat) : cmpD .ne (.str x) (.str y) = some (!(x == y)) := by simp [cmpD, eqD, D.dep, deq]
@[simp] theorem isB_bl (x y : Bool) : cmpD .isB (.bl x) (.bl y) = some (x == y) := by simp only [cmpD]
@[simp] theorem isNotB_bl (x y : Bool) : cmpD .isNotB (.bl x) (.bl y) = some (!(x == y)) := by simp only [cmpD]
end Rk
/-! Fw19: the laws' common helpers -/
namespace Rk
open PySem
def f__law_mixed : Fn := ⟨2, 6, [
  .asg (.nm 2) (.cst (.int 0)),
  .ife (.cmp .gt (.blt .len [.var 0]) (.cst (.int 0))) [.asg (.nm 2) (.ix (.var 0) (.bin .mod (.var 1) (.blt .len [.var 0])))] [],
  .asg (.nm 3) (.bin .mod (.blt .int [.bin .add (.bin .add (.bin .mul (.var 2) (.cst (.int 48271))) (.bin .mul (.var 1) (.cst (.int 69621)))) (.cst (.int 8191))]) (.cst (.int 2147483647))),
  .asg (.nm 4) (.bin .mod (.blt .int [.bin .add (.bin .add (.bin .mul (.var 3) (.var 3)) (.bin .fdiv (.var 3) (.cst (.int 7)))) (.bin .mul (.var 1) (.cst (.int 16807)))]) (.cst (.int 2147483629))),
  .asg (.nm 5) (.bin .mod (.blt .int [.bin .add (.bin .add (.bin .mul (.var 4) (.var 4)) (.bin .fdiv (.var 4) (.cst (.int 11)))) (.cst (.int 40692))]) (.cst (.int 2147483563))),
  .ret (.bin .mod (.bin .fdiv (.var 5) (.cst (.int 5))) (.cst (.int 1000003)))]⟩
def f__law_row : Fn := ⟨2, 5, [
  .asg (.nm 2) (.cst (.int 0)),
  .ife (.and (.cmp .gt (.blt .len [.var 0]) (.cst (.int 0))) (.cmp .ge (.ix (.var 0) (.cst (.int 0))) (.bin .pow (.cst (.int 10)) (.cst (.int 18))))) [.asg (.nm 2) (.ix (.var 0) (.cst (.int 0)))] [],
  .asg (.nm 3) (.lst []),
  .forr (.nm 4) (.itk .rng1 [.var 1]) [.ife (.cmp .gt (.var 2) (.cst (.int 0))) [.app 3 (.bin .mod (.blt .int [.var 2]) (.cst (.int 1000))), .asg (.nm 2) (.bin .fdiv (.var 2) (.cst (.int 1000)))] [.app 3 (.call "_law_mixed" [.var 0, .var 4])]],
  .ret (.var 3)]⟩
def f__law_is_int : Fn := ⟨1, 1, [
  .ret (.and (.isi (.var 0) [.int]) (.not (.isi (.var 0) [.bool])))]⟩
def f__law_like : Fn := ⟨2, 3, [
  .ife (.cmp .isN (.var 1) (.cst (.non))) [.ret (.cmp .isN (.var 0) (.cst (.non)))] [],
  .ife (.isi (.var 1) [.bool]) [.ret (.and (.isi (.var 0) [.bool]) (.cmp .eq (.var 0) (.var 1)))] [],
  .ife (.isi (.var 1) [.tuple]) [.ife (.or (.not (.isi (.var 0) [.tuple])) (.cmp .ne (.blt .len [.var 0]) (.blt .len [.var 1]))) [.ret (.cst (.bl false))] [], .ret (.blt .all [.lc (.nm 2) (.itk .rng1 [.blt .len [.var 1]]) (.cst (.bl true)) (.call "_law_like" [.ix (.var 0) (.var 2), .ix (.var 1) (.var 2)]) [2]])] [],
  .ife (.isi (.var 1) [.str]) [.ret (.and (.isi (.var 0) [.str]) (.cmp .eq (.var 0) (.var 1)))] [],
  .ret (.and (.call "_law_is_int" [.var 0]) (.cmp .eq (.var 0) (.var 1)))]⟩
structure Hlp (P : Pg) : Prop where
  mixed : P.lookup "_law_mixed" = some f__law_mixed
  row : P.lookup "_law_row" = some f__law_row
  isInt : P.lookup "_law_is_int" = some f__law_is_int
  like : P.lookup "_law_like" = some f__law_like
/-! ### loops -/
theorem forGo_inv {body : En → Option Out} {t : Tgt} (I : Nat → En → Prop) (R : Out → Prop) : ∀ (xs : List D) (k : Nat) (env : En), I k env →
    (∀ i x e, xs[i]? = some x → I (k + i) e → ∃ e1 o, asgT t x e = some e1 ∧ body e1 = some o ∧ match o with
      | .nx e' => I (k + i + 1) e'
      | .ct e' => I (k + i + 1) e'
      | .bk e' => R (.nx e')
      | .rt d => R (.rt d)) → (∀ e, I (k + xs.length) e → R (.nx e)) → ∃ o, forGo body t xs env = some o ∧ R o
  | [], k, env, h, _, hf => ⟨_, rfl, hf env (by simpa using h)⟩
  | x :: xs, k, env, h, hs, hf => by
    obtain ⟨e1, o, h1, h2, h3⟩ := hs 0 x env rfl (by simpa using h)
    have rest : ∀ e', I (k + 1) e' → ∃ o, forGo body t xs e' = some o ∧ R o := fun e' q => forGo_inv I R xs (k + 1) e' q (fun i x e hx hi => by
        have := hs (i + 1) x e (by simpa using hx) (by rw [show k + (i + 1) = k + 1 + i by omega]; exact hi)
        rw [show k + (i + 1) + 1 = k + 1 + i + 1 by omega] at this
        exact this) (fun e q => hf e (by rw [List.length_cons, show k + (xs.length + 1) = k + 1 + xs.length by omega]; exact q))
    simp only [forGo, h1, h2, Option.bind_some]
    cases o with
    | nx e' => exact rest e' h3
    | ct e' => exact rest e' h3
    | bk e' => exact ⟨_, rfl, h3⟩
    | rt d => exact ⟨_, rfl, h3⟩
theorem upTo_nat {n : Nat} (h : n ≤ sizeLine) : upTo 0 (n : Int) = some ((List.range n).map fun i => D.int (i : Nat)) := by
  have : (n : Int) < 2 ^ 61 := by
    have : (n : Int) ≤ (sizeLine : Nat) := by exact_mod_cast h
    exact Int.lt_of_le_of_lt this (by decide)
  unfold upTo
  rw [if_pos ⟨by decide, by decide, by omega, this, by simpa using h⟩]
  simp
theorem for_rng {cf : CF} {i : Nat} {b : ME} {body : List MS} {env : En} {many : Nat} (I : Nat → En → Prop) (R : Out → Prop) (hb : evalE cf b env = some (.int many)) (hm : many ≤ sizeLine) (hno : noOw env (leak b) = true) (h0 : I 0 env)
    (step : ∀ k e, k < many → I k e → ∃ o, execSs cf body (e.set i (.va (.int (k : Nat)))) = some o ∧ match o with
      | .nx e' => I (k + 1) e'
      | .ct e' => I (k + 1) e'
      | .bk e' => R (.nx e')
      | .rt d => R (.rt d)) (hf : ∀ e, I many e → R (.nx e)) : ∃ o, execS cf (.forr (.nm i) (.itk .rng1 [b]) body) env = some o ∧ R o := by
  rw [ex_forr]
  have e1 : evalE cf (.itk .rng1 [b]) env = some (.lst ((List.range many).map fun i => D.int (i : Nat))) := by
    simp [hb, itkD, upTo_nat hm]
  have nw : noOw env (leak (.itk .rng1 [b])) = true := by simpa [leak, leaks] using hno
  rw [e1, Option.bind_some]
  simp only [itemsD, Option.bind_some]
  rw [if_pos nw]
  refine forGo_inv I R _ 0 env h0 (fun k x e hx he => ?_) (fun e he => hf e (by simpa using he))
  rw [List.getElem?_map] at hx
  obtain ⟨i', hi, rfl⟩ := Option.map_eq_some_iff.mp hx
  rw [List.getElem?_eq_some_iff] at hi
  obtain ⟨hi1, hi2⟩ := hi
  rw [List.getElem_range] at hi2
  subst hi2
  rw [List.length_range] at hi1
  rw [Nat.zero_add] at he ⊢
  obtain ⟨o, h1, h2⟩ := step k e hi1 he
  exact ⟨_, o, by simp only [asgT], h1, h2⟩
def DL (ns : List Int) : D := .lst (ns.map D.int)
theorem mod_pos {i j : Int} (h : 0 < j) : binD .mod (.int i) (.int j) = some (.int (i % j)) := by
  simp only [binD]
  rw [if_pos (by omega), if_pos h]
theorem fdiv_pos {i j : Int} (h : 0 < j) (h2 : j < 1073741824) : binD .fdiv (.int i) (.int j) = some (.int (i / j)) := by
  simp only [binD]
  rw [if_pos (by omega), if_pos h]
theorem mul_small {i j : Int} (h : small64 i = true ∨ small64 j = true) : binD .mul (.int i) (.int j) = some (.int (i * j)) := by
  simp only [binD]
  rw [if_pos (by simpa [Bool.or_eq_true] using h)]
theorem small_of {i : Int} (h : -(2 ^ 64) < i) (h2 : i < 2 ^ 64) : small64 i = true := by unfold small64; exact Bool.and_eq_true_iff.mpr ⟨@decide_eq_true _ (Classical.propDecidable _) h, @decide_eq_true _ (Classical.propDecidable _) h2⟩
theorem mix_gen {cf : CF} {scr : D} {k cell a b c m1 d e m2 f g m3 u v : Int} (hk : small64 k = true) (ha : small64 a = true) (hb : small64 b = true) (hm1 : 0 < m1) (hd : 0 < d) (hd2 : d < 1073741824) (he : small64 e = true) (hm2 : 0 < m2) (hf : 0 < f) (hf2 : f < 1073741824) (hm3 : 0 < m3) (hu : 0 < u) (hu2 : u < 1073741824) (hv : 0 < v)
    (l1 : m1 < 2 ^ 64) (l2 : m2 < 2 ^ 64) :
    ∃ w : Int, execSs cf [.asg (.nm 3) (.bin .mod (.blt .int [.bin .add (.bin .add (.bin .mul (.var 2) (.cst (.int a))) (.bin .mul (.var 1) (.cst (.int b)))) (.cst (.int c))]) (.cst (.int m1))),
      .asg (.nm 4) (.bin .mod (.blt .int [.bin .add (.bin .add (.bin .mul (.var 3) (.var 3)) (.bin .fdiv (.var 3) (.cst (.int d)))) (.bin .mul (.var 1) (.cst (.int e)))]) (.cst (.int m2))),
      .asg (.nm 5) (.bin .mod (.blt .int [.bin .add (.bin .add (.bin .mul (.var 4) (.var 4)) (.bin .fdiv (.var 4) (.cst (.int f)))) (.cst (.int g))]) (.cst (.int m3))),
      .ret (.bin .mod (.bin .fdiv (.var 5) (.cst (.int u))) (.cst (.int v)))] [.va scr, .va (.int k), .va (.int cell), .un, .un, .un] =
    some (.rt (.int (w % v))) := by
  have s1 : small64 ((cell * a + k * b + c) % m1) = true := by
    have h1 := Int.emod_nonneg (cell * a + k * b + c) (Int.ne_of_gt hm1)
    have h2 := Int.emod_lt_of_pos (cell * a + k * b + c) hm1
    exact small_of (by omega) (by omega)
  generalize hx1 : (cell * a + k * b + c) % m1 = x1 at s1
  have s2 : small64 ((x1 * x1 + x1 / d + k * e) % m2) = true := by
    have h1 := Int.emod_nonneg (x1 * x1 + x1 / d + k * e) (Int.ne_of_gt hm2)
    have h2 := Int.emod_lt_of_pos (x1 * x1 + x1 / d + k * e) hm2
    exact small_of (by omega) (by omega)
  generalize hx2 : (x1 * x1 + x1 / d + k * e) % m2 = x2 at s2
  refine ⟨(x2 * x2 + x2 / f + g) % m3 / u, ?_⟩
  simp [asgFresh, sink, noOw, leak, leaks, leakEl, leaksEl, fresh, isCell, bltD, mul_small (.inr ha), mul_small (.inr hb), mul_small (.inl hk), mod_pos hm1, mod_pos hm2, mod_pos hm3, mod_pos hv, fdiv_pos hd hd2, fdiv_pos hf hf2, fdiv_pos hu hu2, mul_small (.inl s1), mul_small (.inl s2), hx1, hx2]
theorem mix_pre0 {cf : CF} {k : Int} (rest : List MS) : execSs cf (.asg (.nm 2) (.cst (.int 0)) :: .ife (.cmp .gt (.blt .len [.var 0]) (.cst (.int 0))) [.asg (.nm 2) (.ix (.var 0) (.bin .mod (.var 1) (.blt .len [.var 0])))] [] :: rest) [.va (DL []), .va (.int k), .un, .un, .un, .un] = execSs cf rest [.va (DL []), .va (.int k), .va (.int 0), .un, .un, .un] := by
  simp [DL, asgFresh, sink, noOw, leak, fresh, bltD]
theorem mix_pre1 {cf : CF} {ns : List Int} {k : Nat} (hi : k % ns.length < ns.length) (rest : List MS) : execSs cf (.asg (.nm 2) (.cst (.int 0)) :: .ife (.cmp .gt (.blt .len [.var 0]) (.cst (.int 0))) [.asg (.nm 2) (.ix (.var 0) (.bin .mod (.var 1) (.blt .len [.var 0])))] [] :: rest) [.va (DL ns), .va (.int k), .un, .un, .un, .un] = execSs cf rest [.va (DL ns), .va (.int k), .va (.int ns[k % ns.length]), .un, .un, .un] := by
  have hl : 0 < ns.length := by omega
  have h0 : ns ≠ [] := List.length_pos_iff.mp hl
  have e2 : atD (ns.map D.int) ((k : Int) % (ns.length : Int)) = some (.int ns[k % ns.length]) := by
    rw [show ((k : Int) % (ns.length : Int)) = ((k % ns.length : Nat) : Int) by simp, atD_nat, List.getElem?_map, List.getElem?_eq_getElem hi]
    rfl
  simp [DL, asgFresh, sink, noOw, leak, leakEl, fresh, bltD, isCell, mod_pos (show (0 : Int) < (ns.length : Int) by omega), e2, h0, hl]
theorem lcGo_all {f : D → Option (Option D)} {g : D → D} : ∀ {ds : List D}, (∀ x ∈ ds, f x = some (some (g x))) → lcGo f ds = some (ds.map g)
  | [], _ => rfl
  | x :: xs, h => by
    simp only [lcGo, h x List.mem_cons_self, lcGo_all (fun y hy => h y (List.mem_cons_of_mem _ hy)), Option.bind_some, Option.map_some, List.map_cons]
/-- data that is told alike to itself: how deep -/
def Lk : Nat → D → Prop
  | n + 1, .tup ds => ds.length ≤ 100000 ∧ ∀ x ∈ ds, Lk n x
  | 0, .tup _ => False
  | _, .lst _ => False
  | _, .set _ => False
  | _, .dic _ => False
  | _, _ => True
theorem Lk.mono : ∀ {m n : Nat} {d : D}, m ≤ n → Lk m d → Lk n d
  | _, _, .non, _, _ => by simp [Lk]
  | _, _, .bl _, _, _ => by simp [Lk]
  | _, _, .int _, _, _ => by simp [Lk]
  | _, _, .str _, _, _ => by simp [Lk]
  | 0, _, .tup _, _, h => h.elim
  | m + 1, 0, .tup _, h, _ => by omega
  | m + 1, n + 1, .tup ds, h, q => ⟨q.1, fun x hx => Lk.mono (by omega) (q.2 x hx)⟩
  | m, _, .lst _, _, h => by cases m <;> exact h.elim
  | m, _, .set _, _, h => by cases m <;> exact h.elim
  | m, _, .dic _, _, h => by cases m <;> exact h.elim
theorem call_rt {P : Pg} {n : Nat} {f : String} {fn : Fn} {ds : List D} {d : D} (h : P.lookup f = some fn) (hl : ds.length = fn.np) (he : execSs (call P n) fn.body (envOf fn ds) = some (.rt d)) : call P (n + 1) f ds = some d := by
  rw [call_eq h, runFn, if_pos hl, he]
  rfl
section
variable {P : Pg} (hp : Hlp P)
include hp
theorem mixed_ev (n : Nat) (ns : List Int) (k : Nat) (hk : k < 1000000) : ∃ z : Nat, z < 1000003 ∧ call P (n + 1) "_law_mixed" [DL ns, .int k] = some (.int z) := by
  have key : ∀ cell : Int, ∃ z : Nat, z < 1000003 ∧ (execSs (call P n) (f__law_mixed.body.drop 2) [.va (DL ns), .va (.int k), .va (.int cell), .un, .un, .un]) = some (.rt (.int z)) := fun cell => by
    obtain ⟨w, q⟩ := mix_gen (cf := call P n) (scr := DL ns) (k := k) (cell := cell) (a := 48271) (b := 69621) (c := 8191) (m1 := 2147483647) (d := 7) (e := 16807) (m2 := 2147483629) (f := 11) (g := 40692) (m3 := 2147483563) (u := 5) (v := 1000003) (small_of (by omega) (by omega)) (small_of (by decide) (by decide)) (small_of (by decide) (by decide)) (by decide) (by decide) (by decide) (small_of (by decide) (by decide)) (by decide) (by decide) (by decide) (by decide) (by decide) (by decide) (by decide) (by decide) (by decide)
    refine ⟨(w % 1000003).toNat, by omega, ?_⟩
    have e : (((w % 1000003).toNat : Nat) : Int) = w % 1000003 := by omega
    rw [e]
    exact q
  by_cases h0 : ns = []
  · subst h0
    obtain ⟨z, z1, z2⟩ := key 0
    exact ⟨z, z1, call_rt hp.mixed rfl ((mix_pre0 _).trans z2)⟩
  · have hl : 0 < ns.length := List.length_pos_iff.mpr h0
    have hi : k % ns.length < ns.length := Nat.mod_lt _ hl
    obtain ⟨z, z1, z2⟩ := key (ns[k % ns.length])
    exact ⟨z, z1, call_rt hp.mixed rfl ((mix_pre1 hi _).trans z2)⟩
theorem row_ev (n : Nat) (ns : List Int) (many : Nat) (hm : many ≤ 1000) : ∃ r : List Int, r.length = many ∧ call P (n + 2) "_law_row" [DL ns, .int many] = some (DL r) := by
  have loop : ∀ big : Int, ∃ r : List Int, r.length = many ∧ execSs (call P (n + 1)) (f__law_row.body.drop 2) [.va (DL ns), .va (.int many), .va (.int big), .un, .un] = some (.rt (DL r)) := fun big => by
    have ini : execSs (call P (n + 1)) (f__law_row.body.drop 2) [.va (DL ns), .va (.int many), .va (.int big), .un, .un] = execSs (call P (n + 1)) (f__law_row.body.drop 3) [.va (DL ns), .va (.int many), .va (.int big), .ow (DL []), .un] := by
      show execSs (call P (n + 1)) (.asg (.nm 3) (.lst []) :: f__law_row.body.drop 3) _ = _
      generalize f__law_row.body.drop 3 = rest
      simp [DL, asgFresh, sink, noOw, leak, leaks, fresh, isCell]
    rw [ini]
    obtain ⟨o, h1, h2⟩ := for_rng (cf := call P (n + 1)) (i := 4) (b := .var 1) (env := [.va (DL ns), .va (.int many), .va (.int big), .ow (DL []), .un]) (body := [.ife (.cmp .gt (.var 2) (.cst (.int 0))) [.app 3 (.bin .mod (.blt .int [.var 2]) (.cst (.int 1000))), .asg (.nm 2) (.bin .fdiv (.var 2) (.cst (.int 1000)))] [.app 3 (.call "_law_mixed" [.var 0, .var 4])]]) (many := many)
      (fun i e => ∃ (big : Int) (r : List Int) (kk : Slot), e = [.va (DL ns), .va (.int many), .va (.int big), .ow (DL r), kk] ∧ r.length = i) (fun o => ∃ (big : Int) (r : List Int) (kk : Slot), o = .nx [.va (DL ns), .va (.int many), .va (.int big), .ow (DL r), kk] ∧ r.length = many)
      (by simp) (Nat.le_trans hm (by decide)) (by simp [noOw, leak]) ⟨big, [], .un, rfl, rfl⟩ (fun i e hi he => by
        obtain ⟨big, r, kk, rfl, hr⟩ := he
        have hsz : r.length < sizeLine := by
          have : (1000 : Nat) < sizeLine := by decide
          omega
        by_cases hb : 0 < big
        · refine ⟨.nx [.va (DL ns), .va (.int many), .va (.int (big / 1000)), .ow (DL (r ++ [big % 1000])), .va (.int i)], ?_, ⟨big / 1000, r ++ [big % 1000], .va (.int i), rfl, by simp [hr]⟩⟩
          simp [hb, bltD, mod_pos (show (0 : Int) < 1000 by decide), fdiv_pos (show (0 : Int) < 1000 by decide) (show (1000 : Int) < 1073741824 by decide), DL, hsz, leak, leakEl, leaksEl, leaks, sink, noOw, asgFresh, fresh, D.flat]
        · obtain ⟨z, z1, z2⟩ := mixed_ev hp n ns i (by omega)
          refine ⟨.nx [.va (DL ns), .va (.int many), .va (.int big), .ow (DL (r ++ [(z : Int)])), .va (.int i)], ?_, ⟨big, r ++ [(z : Int)], .va (.int i), rfl, by simp [hr]⟩⟩
          simp [hb, z2, leak, leakEl, leaksEl, leaks, sink, noOw, D.flat]
          simp [DL, hsz])
      (fun e he => by
        obtain ⟨big, r, kk, rfl, hr⟩ := he
        exact ⟨big, r, kk, rfl, hr⟩)
    obtain ⟨big', r, kk, rfl, hr⟩ := h2
    refine ⟨r, hr, ?_⟩
    show execSs (call P (n + 1)) (.forr (.nm 4) (.itk .rng1 [.var 1]) _ :: [.ret (.var 3)]) _ = _
    rw [exs_cons, h1]
    simp
  have pre : ∃ big : Int, ∀ rest : List MS, execSs (call P (n + 1)) (.asg (.nm 2) (.cst (.int 0)) :: .ife (.and (.cmp .gt (.blt .len [.var 0]) (.cst (.int 0))) (.cmp .ge (.ix (.var 0) (.cst (.int 0))) (.bin .pow (.cst (.int 10)) (.cst (.int 18))))) [.asg (.nm 2) (.ix (.var 0) (.cst (.int 0)))] [] :: rest) [.va (DL ns), .va (.int many), .un, .un, .un] = execSs (call P (n + 1)) rest [.va (DL ns), .va (.int many), .va (.int big), .un, .un] := by
    cases ns with
    | nil => exact ⟨0, fun rest => by simp [DL, asgFresh, sink, noOw, leak, fresh, bltD]⟩
    | cons x xs =>
      have e : binD .pow (.int 10) (.int 18) = some (.int 1000000000000000000) := by
        simp only [binD]
        rw [if_pos (show (0 : Int) ≤ 18 ∧ (18 : Int) ≤ 1000000 ∧ (10 : Int).natAbs < 2 ^ 64 by decide)]
        rfl
      have hl : (0 : Int) < (xs.length : Int) + 1 := by omega
      by_cases h : (1000000000000000000 : Int) ≤ x
      · exact ⟨x, fun rest => by simp [DL, asgFresh, sink, noOw, leak, leakEl, fresh, bltD, e, h, hl]⟩
      · exact ⟨0, fun rest => by simp [DL, asgFresh, sink, noOw, leak, leakEl, fresh, bltD, e, h, hl]⟩
  obtain ⟨big, hpre⟩ := pre
  obtain ⟨r, h1, h2⟩ := loop big
  exact ⟨r, h1, call_rt hp.row rfl ((hpre _).trans h2)⟩
theorem isint_ev (n : Nat) (i : Int) : call P (n + 1) "_law_is_int" [.int i] = some (.bl true) := by
  refine call_rt hp.isInt rfl ?_
  simp [f__law_is_int, envOf, isTy]
theorem like_self : ∀ (m k : Nat) (d : D), Lk m d → call P (m + 2 + k) "_law_like" [d, d] = some (.bl true)
  | m, k, .non, _ => by
    rw [show m + 2 + k = m + 1 + k + 1 by omega]
    refine call_rt hp.like rfl ?_
    simp [f__law_like, envOf]
  | m, k, .bl b, _ => by
    rw [show m + 2 + k = m + 1 + k + 1 by omega]
    refine call_rt hp.like rfl ?_
    simp [f__law_like, envOf, isTy, cmpD, eqD, D.dep, deq]
  | m, k, .int i, _ => by
    rw [show m + 2 + k = m + k + 1 + 1 by omega]
    refine call_rt hp.like rfl ?_
    simp [f__law_like, envOf, isTy, isint_ev hp]
  | m, k, .str s, _ => by
    rw [show m + 2 + k = m + 1 + k + 1 by omega]
    refine call_rt hp.like rfl ?_
    simp [f__law_like, envOf, isTy]
  | 0, k, .tup ds, h => h.elim
  | m + 1, k, .tup ds, h => by
    rw [show m + 1 + 2 + k = m + 2 + k + 1 by omega]
    refine call_rt hp.like rfl ?_
    obtain ⟨h1, h2⟩ := h
    have hz : ds.length ≤ sizeLine := Nat.le_trans h1 (by decide)
    have e : lcGo (lcF (call P (m + 2 + k)) (.nm 2) (.cst (.bl true)) (.call "_law_like" [.ix (.var 0) (.var 2), .ix (.var 1) (.var 2)]) [.va (.tup ds), .va (.tup ds), .un]) ((List.range ds.length).map fun i => D.int (i : Nat)) = some ((List.range ds.length).map fun _ => D.bl true) := by
      rw [lcGo_all (g := fun _ => .bl true) fun x hx => ?_]
      · rw [List.map_map]; rfl
      · obtain ⟨i, hi, rfl⟩ := List.mem_map.mp hx
        rw [List.mem_range] at hi
        have q := like_self m k ds[i] (h2 _ (List.getElem_mem hi))
        have a : atD ds (i : Int) = some ds[i] := by rw [atD_nat, List.getElem?_eq_getElem hi]
        simp [lcF, asgT, a, q]
    have b : ∀ n : Nat, blsD ((List.range n).map fun _ => D.bl true) = some (List.replicate n true) := fun n => by
      rw [List.map_const', List.length_range]
      induction n with
      | zero => rfl
      | succ n ih => simp [List.replicate_succ, blsD, ih]
    simp [f__law_like, envOf, isTy, bltD, itkD, upTo_nat hz, itemsD, leakEl, leaksEl, noOw, wipeE, e, b]
  | m, k, .lst _, h => by cases m <;> exact h.elim
  | m, k, .set _, h => by cases m <;> exact h.elim
  | m, k, .dic _, h => by cases m <;> exact h.elim
end
end Rk
set_option maxHeartbeats 0
/-! the program as data -/
namespace Rk
open PySem PySem.Spec PyProof.Rows L2
def f_lifted : Fn := ⟨3, 3, [
  .ife (.cmp .eq (.ix (.var 0) (.cst (.int 0))) (.cst (.str [118, 97, 114]))) [.ret (.ite (.cmp .ge (.ix (.var 0) (.cst (.int 1))) (.var 2)) (.tup [.cst (.str [118, 97, 114]), .bin .add (.ix (.var 0) (.cst (.int 1))) (.var 1)]) (.var 0))] [],
  .ife (.cmp .eq (.ix (.var 0) (.cst (.int 0))) (.cst (.str [102, 117, 110]))) [.ret (.tup [.cst (.str [102, 117, 110]), .call "lifted" [.ix (.var 0) (.cst (.int 1)), .var 1, .bin .add (.var 2) (.cst (.int 1))]])] [],
  .ret (.tup [.cst (.str [97, 112, 112]), .call "lifted" [.ix (.var 0) (.cst (.int 1)), .var 1, .var 2], .call "lifted" [.ix (.var 0) (.cst (.int 2)), .var 1, .var 2]])]⟩
def f_put_at : Fn := ⟨3, 3, [
  .ife (.cmp .eq (.ix (.var 0) (.cst (.int 0))) (.cst (.str [118, 97, 114]))) [.ife (.cmp .eq (.ix (.var 0) (.cst (.int 1))) (.var 2)) [.ret (.call "lifted" [.var 1, .var 2, .cst (.int 0)])] [], .ret (.ite (.cmp .gt (.ix (.var 0) (.cst (.int 1))) (.var 2)) (.tup [.cst (.str [118, 97, 114]), .bin .sub (.ix (.var 0) (.cst (.int 1))) (.cst (.int 1))]) (.var 0))] [],
  .ife (.cmp .eq (.ix (.var 0) (.cst (.int 0))) (.cst (.str [102, 117, 110]))) [.ret (.tup [.cst (.str [102, 117, 110]), .call "put_at" [.ix (.var 0) (.cst (.int 1)), .var 1, .bin .add (.var 2) (.cst (.int 1))]])] [],
  .ret (.tup [.cst (.str [97, 112, 112]), .call "put_at" [.ix (.var 0) (.cst (.int 1)), .var 1, .var 2], .call "put_at" [.ix (.var 0) (.cst (.int 2)), .var 1, .var 2]])]⟩
def f_put_for : Fn := ⟨2, 2, [
  .ret (.call "put_at" [.var 0, .var 1, .cst (.int 0)])]⟩
def f_next_doings : Fn := ⟨1, 3, [
  .asg (.nm 1) (.lst []),
  .ife (.and (.cmp .eq (.ix (.var 0) (.cst (.int 0))) (.cst (.str [97, 112, 112]))) (.cmp .eq (.ix (.ix (.var 0) (.cst (.int 1))) (.cst (.int 0))) (.cst (.str [102, 117, 110])))) [.app 1 (.call "put_for" [.ix (.ix (.var 0) (.cst (.int 1))) (.cst (.int 1)), .ix (.var 0) (.cst (.int 2))])] [],
  .ife (.cmp .eq (.ix (.var 0) (.cst (.int 0))) (.cst (.str [102, 117, 110]))) [.ext 1 (.lc (.nm 2) (.call "next_doings" [.ix (.var 0) (.cst (.int 1))]) (.cst (.bl true)) (.tup [.cst (.str [102, 117, 110]), .var 2]) [2])] [],
  .ife (.cmp .eq (.ix (.var 0) (.cst (.int 0))) (.cst (.str [97, 112, 112]))) [.ext 1 (.lc (.nm 2) (.call "next_doings" [.ix (.var 0) (.cst (.int 1))]) (.cst (.bl true)) (.tup [.cst (.str [97, 112, 112]), .var 2, .ix (.var 0) (.cst (.int 2))]) [2]), .ext 1 (.lc (.nm 2) (.call "next_doings" [.ix (.var 0) (.cst (.int 2))]) (.cst (.bl true)) (.tup [.cst (.str [97, 112, 112]), .ix (.var 0) (.cst (.int 1)), .var 2]) [2])] [],
  .ret (.blt .tuple [.var 1])]⟩
def f_first_doing : Fn := ⟨1, 4, [
  .ife (.cmp .eq (.ix (.var 0) (.cst (.int 0))) (.cst (.str [118, 97, 114]))) [.ret (.cst (.non))] [],
  .ife (.cmp .eq (.ix (.var 0) (.cst (.int 0))) (.cst (.str [102, 117, 110]))) [.asg (.nm 1) (.call "first_doing" [.ix (.var 0) (.cst (.int 1))]), .ret (.ite (.cmp .isN (.var 1) (.cst (.non))) (.cst (.non)) (.tup [.cst (.str [102, 117, 110]), .var 1]))] [],
  .ife (.cmp .eq (.ix (.ix (.var 0) (.cst (.int 1))) (.cst (.int 0))) (.cst (.str [102, 117, 110]))) [.ret (.call "put_for" [.ix (.ix (.var 0) (.cst (.int 1))) (.cst (.int 1)), .ix (.var 0) (.cst (.int 2))])] [],
  .asg (.nm 2) (.call "first_doing" [.ix (.var 0) (.cst (.int 1))]),
  .ife (.cmp .isNotN (.var 2) (.cst (.non))) [.ret (.tup [.cst (.str [97, 112, 112]), .var 2, .ix (.var 0) (.cst (.int 2))])] [],
  .asg (.nm 3) (.call "first_doing" [.ix (.var 0) (.cst (.int 2))]),
  .ret (.ite (.cmp .isN (.var 3) (.cst (.non))) (.cst (.non)) (.tup [.cst (.str [97, 112, 112]), .ix (.var 0) (.cst (.int 1)), .var 3]))]⟩
def f_done : Fn := ⟨2, 4, [
  .forr (.nm 2) (.itk .rng1 [.var 1]) [.asg (.nm 3) (.call "first_doing" [.var 0]), .ife (.cmp .isN (.var 3) (.cst (.non))) [.ret (.var 0)] [], .asg (.nm 0) (.var 3)],
  .ret (.ite (.cmp .isN (.call "first_doing" [.var 0]) (.cst (.non))) (.var 0) (.cst (.non)))]⟩
def f_done_alike : Fn := ⟨3, 4, [
  .asg (.nm 3) (.call "done" [.var 0, .var 2]),
  .ret (.and (.cmp .isNotN (.var 3) (.cst (.non))) (.cmp .eq (.var 3) (.call "done" [.var 1, .var 2])))]⟩
def f__law_doing : Fn := ⟨5, 8, [
  .asg (.nm 5) (.blt .int [.ix (.var 0) (.bin .add (.var 1) (.var 2))]),
  .asg (.nm 6) (.bin .mod (.var 5) (.cst (.int 6))),
  .ife (.or (.cmp .eq (.var 3) (.cst (.int 0))) (.cmp .eq (.var 6) (.cst (.int 0)))) [.ife (.cmp .gt (.var 4) (.cst (.int 0))) [.ret (.tup [.cst (.str [118, 97, 114]), .bin .mod (.bin .fdiv (.var 5) (.cst (.int 6))) (.var 4)])] [], .ret (.tup [.cst (.str [102, 117, 110]), .tup [.cst (.str [118, 97, 114]), .cst (.int 0)]])] [],
  .ife (.cmp .lt (.var 6) (.cst (.int 3))) [.ret (.tup [.cst (.str [102, 117, 110]), .call "_law_doing" [.var 0, .var 1, .bin .add (.bin .mul (.cst (.int 2)) (.var 2)) (.cst (.int 1)), .bin .sub (.var 3) (.cst (.int 1)), .bin .add (.var 4) (.cst (.int 1))]])] [],
  .asg (.nm 7) (.call "_law_doing" [.var 0, .var 1, .bin .add (.bin .mul (.cst (.int 2)) (.var 2)) (.cst (.int 2)), .bin .sub (.var 3) (.cst (.int 1)), .var 4]),
  .ife (.cmp .eq (.var 6) (.cst (.int 3))) [.ret (.tup [.cst (.str [97, 112, 112]), .call "_law_doing" [.var 0, .var 1, .bin .add (.bin .mul (.cst (.int 2)) (.var 2)) (.cst (.int 1)), .bin .sub (.var 3) (.cst (.int 1)), .var 4], .var 7])] [],
  .ret (.tup [.cst (.str [97, 112, 112]), .tup [.cst (.str [102, 117, 110]), .call "_law_doing" [.var 0, .var 1, .bin .add (.bin .mul (.cst (.int 2)) (.var 2)) (.cst (.int 1)), .bin .sub (.var 3) (.cst (.int 1)), .bin .add (.var 4) (.cst (.int 1))]], .var 7])]⟩
def f__law_lift : Fn := ⟨3, 3, [
  .ife (.cmp .eq (.ix (.var 0) (.cst (.int 0))) (.cst (.str [118, 97, 114]))) [.ife (.cmp .ge (.ix (.var 0) (.cst (.int 1))) (.var 2)) [.ret (.tup [.cst (.str [118, 97, 114]), .bin .add (.ix (.var 0) (.cst (.int 1))) (.var 1)])] [], .ret (.var 0)] [],
  .ife (.cmp .eq (.ix (.var 0) (.cst (.int 0))) (.cst (.str [102, 117, 110]))) [.ret (.tup [.cst (.str [102, 117, 110]), .call "_law_lift" [.ix (.var 0) (.cst (.int 1)), .var 1, .bin .add (.var 2) (.cst (.int 1))]])] [],
  .ret (.tup [.cst (.str [97, 112, 112]), .call "_law_lift" [.ix (.var 0) (.cst (.int 1)), .var 1, .var 2], .call "_law_lift" [.ix (.var 0) (.cst (.int 2)), .var 1, .var 2]])]⟩
def f__law_sub : Fn := ⟨3, 3, [
  .ife (.cmp .eq (.ix (.var 0) (.cst (.int 0))) (.cst (.str [118, 97, 114]))) [.ife (.cmp .eq (.ix (.var 0) (.cst (.int 1))) (.var 2)) [.ret (.call "_law_lift" [.var 1, .var 2, .cst (.int 0)])] [], .ife (.cmp .gt (.ix (.var 0) (.cst (.int 1))) (.var 2)) [.ret (.tup [.cst (.str [118, 97, 114]), .bin .sub (.ix (.var 0) (.cst (.int 1))) (.cst (.int 1))])] [], .ret (.var 0)] [],
  .ife (.cmp .eq (.ix (.var 0) (.cst (.int 0))) (.cst (.str [102, 117, 110]))) [.ret (.tup [.cst (.str [102, 117, 110]), .call "_law_sub" [.ix (.var 0) (.cst (.int 1)), .var 1, .bin .add (.var 2) (.cst (.int 1))]])] [],
  .ret (.tup [.cst (.str [97, 112, 112]), .call "_law_sub" [.ix (.var 0) (.cst (.int 1)), .var 1, .var 2], .call "_law_sub" [.ix (.var 0) (.cst (.int 2)), .var 1, .var 2]])]⟩
def f__law_doings : Fn := ⟨2, 5, [
  .asg (.nm 2) (.lst []),
  .ife (.and (.cmp .eq (.ix (.var 0) (.cst (.int 0))) (.cst (.str [97, 112, 112]))) (.cmp .eq (.ix (.ix (.var 0) (.cst (.int 1))) (.cst (.int 0))) (.cst (.str [102, 117, 110])))) [.app 2 (.tup [.var 1, .call "_law_sub" [.ix (.ix (.var 0) (.cst (.int 1))) (.cst (.int 1)), .ix (.var 0) (.cst (.int 2)), .cst (.int 0)]])] [],
  .ife (.cmp .eq (.ix (.var 0) (.cst (.int 0))) (.cst (.str [102, 117, 110]))) [.ext 2 (.lc (.tp [.nm 3, .nm 4]) (.call "_law_doings" [.ix (.var 0) (.cst (.int 1)), .bin .add (.var 1) (.cst (.int 1))]) (.cst (.bl true)) (.tup [.var 3, .tup [.cst (.str [102, 117, 110]), .var 4]]) [3, 4])] [],
  .ife (.cmp .eq (.ix (.var 0) (.cst (.int 0))) (.cst (.str [97, 112, 112]))) [.ext 2 (.lc (.tp [.nm 3, .nm 4]) (.call "_law_doings" [.ix (.var 0) (.cst (.int 1)), .bin .add (.var 1) (.cst (.int 1))]) (.cst (.bl true)) (.tup [.var 3, .tup [.cst (.str [97, 112, 112]), .var 4, .ix (.var 0) (.cst (.int 2))]]) [3, 4]), .ext 2 (.lc (.tp [.nm 3, .nm 4]) (.call "_law_doings" [.ix (.var 0) (.cst (.int 2)), .bin .add (.var 1) (.cst (.int 1))]) (.cst (.bl true)) (.tup [.var 3, .tup [.cst (.str [97, 112, 112]), .ix (.var 0) (.cst (.int 1)), .var 4]]) [3, 4])] [],
  .ret (.var 2)]⟩
def f__law_marks : Fn := ⟨1, 2, [
  .ife (.cmp .eq (.ix (.var 0) (.cst (.int 0))) (.cst (.str [118, 97, 114]))) [.ret (.cst (.int 1))] [],
  .ret (.bin .add (.cst (.int 1)) (.blt .sum [.lc (.nm 1) (.slL (.var 0) (.cst (.int 1))) (.cst (.bl true)) (.call "_law_marks" [.var 1]) [1]]))]⟩
def f__law_run : Fn := ⟨3, 9, [
  .forr (.nm 3) (.itk .rng1 [.bin .add (.var 1) (.cst (.int 1))]) [.asg (.nm 4) (.call "_law_doings" [.var 0, .cst (.int 0)]), .ife (.cmp .eq (.blt .len [.var 4]) (.cst (.int 0))) [.ret (.tup [.cst (.str [100, 111, 110, 101]), .var 0, .var 3])] [], .ife (.cmp .gt (.call "_law_marks" [.var 0]) (.cst (.int 90))) [.ret (.tup [.cst (.str [98, 105, 103]), .var 0, .var 3])] [], .asg (.nm 5) (.blt .min [.lc (.tp [.nm 6, .nm 7]) (.var 4) (.cst (.bl true)) (.var 6) [6, 7]]), .asg (.nm 8) (.lc (.tp [.nm 6, .nm 7]) (.var 4) (.or (.cmp .eq (.var 6) (.var 5)) (.not (.var 2))) (.var 7) [6, 7]), .asg (.nm 0) (.ix (.var 8) (.cst (.int 0)))],
  .ret (.tup [.cst (.str [98, 117, 115, 121]), .var 0, .var 1])]⟩
def f__law_ends_right : Fn := ⟨2, 7, [
  .asg (.nm 2) (.call "_law_run" [.var 0, .cst (.int 12), .cst (.bl false)]),
  .ife (.cmp .eq (.ix (.var 2) (.cst (.int 0))) (.cst (.str [98, 117, 115, 121]))) [.ret (.and (.cmp .isN (.call "done" [.var 0, .cst (.int 12)]) (.cst (.non))) (.cmp .isB (.call "done_alike" [.var 0, .var 0, .cst (.int 12)]) (.cst (.bl false))))] [],
  .ife (.cmp .ne (.ix (.var 2) (.cst (.int 0))) (.cst (.str [100, 111, 110, 101]))) [.ret (.cst (.bl true))] [],
  .ife (.not (.call "_law_like" [.tup [.call "done" [.var 0, .cst (.int 40)], .call "done" [.var 0, .ix (.var 2) (.cst (.int 2))]], .tup [.ix (.var 2) (.cst (.int 1)), .ix (.var 2) (.cst (.int 1))]])) [.ret (.cst (.bl false))] [],
  .ife (.and (.cmp .gt (.ix (.var 2) (.cst (.int 2))) (.cst (.int 0))) (.cmp .isNotN (.call "done" [.var 0, .bin .sub (.ix (.var 2) (.cst (.int 2))) (.cst (.int 1))]) (.cst (.non)))) [.ret (.cst (.bl false))] [],
  .forr (.nm 3) (.slH (.lc (.tp [.nm 4, .nm 5]) (.call "_law_doings" [.var 0, .cst (.int 0)]) (.cst (.bl true)) (.var 5) [4, 5]) (.cst (.int 4))) [.ife (.and (.cmp .eq (.ix (.call "_law_run" [.var 3, .cst (.int 12), .cst (.bl false)]) (.cst (.int 0))) (.cst (.str [100, 111, 110, 101]))) (.cmp .isNotB (.call "done_alike" [.var 0, .var 3, .cst (.int 12)]) (.cst (.bl true)))) [.ret (.cst (.bl false))] []],
  .asg (.nm 6) (.call "_law_run" [.var 1, .cst (.int 12), .cst (.bl false)]),
  .ife (.cmp .ne (.ix (.var 6) (.cst (.int 0))) (.cst (.str [100, 111, 110, 101]))) [.ret (.cst (.bl true))] [],
  .ret (.call "_law_like" [.call "done_alike" [.var 0, .var 1, .cst (.int 12)], .cmp .eq (.ix (.var 6) (.cst (.int 1))) (.ix (.var 2) (.cst (.int 1)))])]⟩
def f__law_for_ever : Fn := ⟨2, 6, [
  .asg (.nm 2) (.tup [.cst (.str [102, 117, 110]), .tup [.cst (.str [97, 112, 112]), .tup [.cst (.str [118, 97, 114]), .cst (.int 0)], .tup [.cst (.str [118, 97, 114]), .cst (.int 0)]]]),
  .asg (.nm 3) (.tup [.cst (.str [97, 112, 112]), .var 2, .var 2]),
  .ife (.or (.not (.call "_law_like" [.call "next_doings" [.var 3], .tup [.var 3]])) (.cmp .isNotN (.call "done" [.var 3, .bin .mod (.blt .int [.ix (.var 0) (.cst (.int 62))]) (.cst (.int 9))]) (.cst (.non)))) [.ret (.cst (.bl false))] [],
  .ife (.or (.cmp .isNotB (.call "done_alike" [.var 3, .var 3, .cst (.int 5)]) (.cst (.bl false))) (.not (.call "_law_like" [.call "done" [.var 2, .cst (.int 0)], .var 2]))) [.ret (.cst (.bl false))] [],
  .asg (.nm 4) (.tup [.cst (.str [118, 97, 114]), .bin .mod (.blt .int [.ix (.var 0) (.cst (.int 63))]) (.cst (.int 5))]),
  .asg (.nm 5) (.tup [.cst (.str [97, 112, 112]), .tup [.cst (.str [97, 112, 112]), .tup [.cst (.str [102, 117, 110]), .tup [.cst (.str [102, 117, 110]), .tup [.cst (.str [118, 97, 114]), .cst (.int 1)]]], .var 4], .var 3]),
  .ife (.or (.not (.call "_law_like" [.call "done" [.var 5, .cst (.int 2)], .var 4])) (.cmp .isNotN (.call "done" [.var 5, .cst (.int 1)]) (.cst (.non)))) [.ret (.cst (.bl false))] [],
  .ret (.call "_law_like" [.call "done_alike" [.var 5, .var 4, .cst (.int 5)], .cst (.bl true)])]⟩
def f_law : Fn := ⟨1, 11, [
  .asg (.nm 1) (.call "_law_row" [.var 0, .cst (.int 70)]),
  .asg (.nm 2) (.bin .mod (.blt .int [.ix (.var 1) (.cst (.int 60))]) (.cst (.int 4))),
  .par [3, 4] [.call "_law_doing" [.var 1, .cst (.int 0), .cst (.int 0), .cst (.int 3), .var 2], .call "_law_doing" [.var 1, .cst (.int 15), .cst (.int 0), .cst (.int 2), .cst (.int 3)]],
  .asg (.nm 5) (.call "_law_doing" [.var 1, .cst (.int 30), .cst (.int 0), .cst (.int 2), .cst (.int 3)]),
  .par [6, 7] [.bin .add (.cst (.int 1)) (.bin .mod (.blt .int [.ix (.var 1) (.cst (.int 45))]) (.cst (.int 3))), .bin .mod (.blt .int [.ix (.var 1) (.cst (.int 46))]) (.cst (.int 3))],
  .ife (.not (.call "_law_like" [.call "lifted" [.var 5, .var 6, .var 7], .call "_law_lift" [.var 5, .var 6, .var 7]])) [.ret (.cst (.bl false))] [],
  .ife (.not (.call "_law_like" [.tup [.call "lifted" [.var 5, .cst (.int 0), .var 7], .call "lifted" [.var 3, .var 6, .cst (.int 0)]], .tup [.var 5, .call "_law_lift" [.var 3, .var 6, .cst (.int 0)]]])) [.ret (.cst (.bl false))] [],
  .ife (.not (.call "_law_like" [.call "put_for" [.var 5, .var 4], .call "_law_sub" [.var 5, .var 4, .cst (.int 0)]])) [.ret (.cst (.bl false))] [],
  .ife (.not (.call "_law_like" [.call "put_for" [.call "lifted" [.var 5, .cst (.int 1), .cst (.int 0)], .var 4], .var 5])) [.ret (.cst (.bl false))] [],
  .ife (.cmp .eq (.bin .mod (.ix (.var 1) (.cst (.int 61))) (.cst (.int 3))) (.cst (.int 0))) [.asg (.nm 3) (.tup [.cst (.str [97, 112, 112]), .tup [.cst (.str [102, 117, 110]), .var 5], .var 4])] [],
  .ife (.cmp .eq (.bin .mod (.ix (.var 1) (.cst (.int 61))) (.cst (.int 9))) (.cst (.int 1))) [.asg (.nm 4) (.var 3)] [],
  .forr (.nm 8) (.tup [.var 3, .var 5, .var 4]) [.ife (.not (.call "_law_like" [.call "next_doings" [.var 8], .blt .tuple [.lc (.tp [.nm 9, .nm 10]) (.call "_law_doings" [.var 8, .cst (.int 0)]) (.cst (.bl true)) (.var 10) [9, 10]]])) [.ret (.cst (.bl false))] []],
  .ret (.and (.call "_law_ends_right" [.var 3, .var 4]) (.call "_law_for_ever" [.var 1, .var 3]))]⟩
def P : Pg := [("lifted", f_lifted), ("put_at", f_put_at), ("put_for", f_put_for), ("next_doings", f_next_doings), ("first_doing", f_first_doing), ("done", f_done), ("done_alike", f_done_alike), ("_law_mixed", f__law_mixed), ("_law_row", f__law_row), ("_law_is_int", f__law_is_int), ("_law_like", f__law_like), ("_law_doing", f__law_doing), ("_law_lift", f__law_lift), ("_law_sub", f__law_sub), ("_law_doings", f__law_doings), ("_law_marks", f__law_marks), ("_law_run", f__law_run), ("_law_ends_right", f__law_ends_right), ("_law_for_ever", f__law_for_ever), ("law", f_law)]
def top (i : Nat) : Stmt := PySem.Challenge.pw_reasonskept_k29_whole_doings.main.body.getD i (.Pass ⟨0, 0, 0, 0⟩)
def d_lifted : FD := ⟨"lifted", "lifted", ["term", "number", "depth"], ["term", "number", "depth"], top 1⟩
def d_put_at : FD := ⟨"put_at", "put_at", ["term", "other", "depth"], ["term", "other", "depth"], top 2⟩
def d_put_for : FD := ⟨"put_for", "put_for", ["term", "other"], ["term", "other"], top 3⟩
def d_next_doings : FD := ⟨"next_doings", "next_doings", ["term"], ["term", "found", "part"], top 4⟩
def d_first_doing : FD := ⟨"first_doing", "first_doing", ["term"], ["term", "inner", "first", "second"], top 5⟩
def d_done : FD := ⟨"done", "done", ["term", "most"], ["term", "most", "_", "later"], top 6⟩
def d_done_alike : FD := ⟨"done_alike", "done_alike", ["first", "second", "most"], ["first", "second", "most", "one"], top 7⟩
def d__law_mixed : FD := ⟨"_law_mixed", "_law_mixed", ["script", "k"], ["script", "k", "cell", "first", "second", "third"], top 9⟩
def d__law_row : FD := ⟨"_law_row", "_law_row", ["script", "many"], ["script", "many", "big", "row", "k"], top 10⟩
def d__law_is_int : FD := ⟨"_law_is_int", "_law_is_int", ["value"], ["value"], top 11⟩
def d__law_like : FD := ⟨"_law_like", "_law_like", ["value", "due"], ["value", "due", "k"], top 12⟩
def d__law_doing : FD := ⟨"_law_doing", "_law_doing", ["row", "at", "spot", "deep", "free"], ["row", "at", "spot", "deep", "free", "cell", "kind", "second"], top 13⟩
def d__law_lift : FD := ⟨"_law_lift", "_law_lift", ["term", "number", "depth"], ["term", "number", "depth"], top 14⟩
def d__law_sub : FD := ⟨"_law_sub", "_law_sub", ["term", "other", "depth"], ["term", "other", "depth"], top 15⟩
def d__law_doings : FD := ⟨"_law_doings", "_law_doings", ["term", "deep"], ["term", "deep", "found", "low", "part"], top 16⟩
def d__law_marks : FD := ⟨"_law_marks", "_law_marks", ["term"], ["term", "part"], top 17⟩
def d__law_run : FD := ⟨"_law_run", "_law_run", ["term", "most", "by_depth"], ["term", "most", "by_depth", "count", "steps", "low", "deep", "one", "ways"], top 18⟩
def d__law_ends_right : FD := ⟨"_law_ends_right", "_law_ends_right", ["term", "other"], ["term", "other", "one", "later", "deep", "part", "two"], top 19⟩
def d__law_for_ever : FD := ⟨"_law_for_ever", "_law_for_ever", ["row", "term"], ["row", "term", "twice", "ever", "stays", "away"], top 20⟩
def d_law : FD := ⟨"law", "law", ["script"], ["script", "row", "free", "term", "other", "opened", "number", "depth", "one", "deep", "part"], top 21⟩
def ds : List FD := [d_lifted, d_put_at, d_put_for, d_next_doings, d_first_doing, d_done, d_done_alike, d__law_mixed, d__law_row, d__law_is_int, d__law_like, d__law_doing, d__law_lift, d__law_sub, d__law_doings, d__law_marks, d__law_run, d__law_ends_right, d__law_for_ever, d_law]
def fs : List (Str × String × Nat) := [("lifted", "lifted", 3), ("put_at", "put_at", 3), ("put_for", "put_for", 2), ("next_doings", "next_doings", 1), ("first_doing", "first_doing", 1), ("done", "done", 2), ("done_alike", "done_alike", 3), ("_law_mixed", "_law_mixed", 2), ("_law_row", "_law_row", 2), ("_law_is_int", "_law_is_int", 1), ("_law_like", "_law_like", 2), ("_law_doing", "_law_doing", 5), ("_law_lift", "_law_lift", 3), ("_law_sub", "_law_sub", 3), ("_law_doings", "_law_doings", 2), ("_law_marks", "_law_marks", 1), ("_law_run", "_law_run", 3), ("_law_ends_right", "_law_ends_right", 2), ("_law_for_ever", "_law_for_ever", 2), ("law", "law", 1)]
theorem c_lifted : compFn fs [] d_lifted = some f_lifted := by kernel_rfl
theorem c_put_at : compFn fs [] d_put_at = some f_put_at := by kernel_rfl
theorem c_put_for : compFn fs [] d_put_for = some f_put_for := by kernel_rfl
theorem c_next_doings : compFn fs [] d_next_doings = some f_next_doings := by kernel_rfl
theorem c_first_doing : compFn fs [] d_first_doing = some f_first_doing := by kernel_rfl
theorem c_done : compFn fs [] d_done = some f_done := by kernel_rfl
theorem c_done_alike : compFn fs [] d_done_alike = some f_done_alike := by kernel_rfl
theorem c__law_mixed : compFn fs [] d__law_mixed = some f__law_mixed := by kernel_rfl
theorem c__law_row : compFn fs [] d__law_row = some f__law_row := by kernel_rfl
theorem c__law_is_int : compFn fs [] d__law_is_int = some f__law_is_int := by kernel_rfl
theorem c__law_like : compFn fs [] d__law_like = some f__law_like := by kernel_rfl
theorem c__law_doing : compFn fs [] d__law_doing = some f__law_doing := by kernel_rfl
theorem c__law_lift : compFn fs [] d__law_lift = some f__law_lift := by kernel_rfl
theorem c__law_sub : compFn fs [] d__law_sub = some f__law_sub := by kernel_rfl
theorem c__law_doings : compFn fs [] d__law_doings = some f__law_doings := by kernel_rfl
theorem c__law_marks : compFn fs [] d__law_marks = some f__law_marks := by kernel_rfl
theorem c__law_run : compFn fs [] d__law_run = some f__law_run := by kernel_rfl
theorem c__law_ends_right : compFn fs [] d__law_ends_right = some f__law_ends_right := by kernel_rfl
theorem c__law_for_ever : compFn fs [] d__law_for_ever = some f__law_for_ever := by kernel_rfl
theorem c_law : compFn fs [] d_law = some f_law := by kernel_rfl
theorem fits : Fits P fs [] ds where
  fsx := fun x f n h => by
    have := lookup_mem h
    simp only [fs, List.mem_cons, List.not_mem_nil, or_false, Prod.mk.injEq] at this
    rcases this with ⟨rfl, rfl, rfl⟩ | ⟨rfl, rfl, rfl⟩ | ⟨rfl, rfl, rfl⟩ | ⟨rfl, rfl, rfl⟩ | ⟨rfl, rfl, rfl⟩ | ⟨rfl, rfl, rfl⟩ | ⟨rfl, rfl, rfl⟩ | ⟨rfl, rfl, rfl⟩ | ⟨rfl, rfl, rfl⟩ | ⟨rfl, rfl, rfl⟩ | ⟨rfl, rfl, rfl⟩ | ⟨rfl, rfl, rfl⟩ | ⟨rfl, rfl, rfl⟩ | ⟨rfl, rfl, rfl⟩ | ⟨rfl, rfl, rfl⟩ | ⟨rfl, rfl, rfl⟩ | ⟨rfl, rfl, rfl⟩ | ⟨rfl, rfl, rfl⟩ | ⟨rfl, rfl, rfl⟩ | ⟨rfl, rfl, rfl⟩
    · exact ⟨d_lifted, by simp [ds], rfl, rfl, rfl⟩
    · exact ⟨d_put_at, by simp [ds], rfl, rfl, rfl⟩
    · exact ⟨d_put_for, by simp [ds], rfl, rfl, rfl⟩
    · exact ⟨d_next_doings, by simp [ds], rfl, rfl, rfl⟩
    · exact ⟨d_first_doing, by simp [ds], rfl, rfl, rfl⟩
    · exact ⟨d_done, by simp [ds], rfl, rfl, rfl⟩
    · exact ⟨d_done_alike, by simp [ds], rfl, rfl, rfl⟩
    · exact ⟨d__law_mixed, by simp [ds], rfl, rfl, rfl⟩
    · exact ⟨d__law_row, by simp [ds], rfl, rfl, rfl⟩
    · exact ⟨d__law_is_int, by simp [ds], rfl, rfl, rfl⟩
    · exact ⟨d__law_like, by simp [ds], rfl, rfl, rfl⟩
    · exact ⟨d__law_doing, by simp [ds], rfl, rfl, rfl⟩
    · exact ⟨d__law_lift, by simp [ds], rfl, rfl, rfl⟩
    · exact ⟨d__law_sub, by simp [ds], rfl, rfl, rfl⟩
    · exact ⟨d__law_doings, by simp [ds], rfl, rfl, rfl⟩
    · exact ⟨d__law_marks, by simp [ds], rfl, rfl, rfl⟩
    · exact ⟨d__law_run, by simp [ds], rfl, rfl, rfl⟩
    · exact ⟨d__law_ends_right, by simp [ds], rfl, rfl, rfl⟩
    · exact ⟨d__law_for_ever, by simp [ds], rfl, rfl, rfl⟩
    · exact ⟨d_law, by simp [ds], rfl, rfl, rfl⟩
  fn := fun d h => by
    simp only [ds, List.mem_cons, List.not_mem_nil, or_false] at h
    rcases h with rfl | rfl | rfl | rfl | rfl | rfl | rfl | rfl | rfl | rfl | rfl | rfl | rfl | rfl | rfl | rfl | rfl | rfl | rfl | rfl
    · exact ⟨f_lifted, by rfl, c_lifted⟩
    · exact ⟨f_put_at, by rfl, c_put_at⟩
    · exact ⟨f_put_for, by rfl, c_put_for⟩
    · exact ⟨f_next_doings, by rfl, c_next_doings⟩
    · exact ⟨f_first_doing, by rfl, c_first_doing⟩
    · exact ⟨f_done, by rfl, c_done⟩
    · exact ⟨f_done_alike, by rfl, c_done_alike⟩
    · exact ⟨f__law_mixed, by rfl, c__law_mixed⟩
    · exact ⟨f__law_row, by rfl, c__law_row⟩
    · exact ⟨f__law_is_int, by rfl, c__law_is_int⟩
    · exact ⟨f__law_like, by rfl, c__law_like⟩
    · exact ⟨f__law_doing, by rfl, c__law_doing⟩
    · exact ⟨f__law_lift, by rfl, c__law_lift⟩
    · exact ⟨f__law_sub, by rfl, c__law_sub⟩
    · exact ⟨f__law_doings, by rfl, c__law_doings⟩
    · exact ⟨f__law_marks, by rfl, c__law_marks⟩
    · exact ⟨f__law_run, by rfl, c__law_run⟩
    · exact ⟨f__law_ends_right, by rfl, c__law_ends_right⟩
    · exact ⟨f__law_for_ever, by rfl, c__law_for_ever⟩
    · exact ⟨f_law, by rfl, c_law⟩
  sc := fun d h => by
    simp only [ds, List.mem_cons, List.not_mem_nil, or_false] at h
    rcases h with rfl | rfl | rfl | rfl | rfl | rfl | rfl | rfl | rfl | rfl | rfl | rfl | rfl | rfl | rfl | rfl | rfl | rfl | rfl | rfl
    · exact ⟨rfl, rfl, rfl, by decide +kernel, rfl, by decide +kernel, by decide +kernel⟩
    · exact ⟨rfl, rfl, rfl, by decide +kernel, rfl, by decide +kernel, by decide +kernel⟩
    · exact ⟨rfl, rfl, rfl, by decide +kernel, rfl, by decide +kernel, by decide +kernel⟩
    · exact ⟨rfl, rfl, rfl, by decide +kernel, rfl, by decide +kernel, by decide +kernel⟩
    · exact ⟨rfl, rfl, rfl, by decide +kernel, rfl, by decide +kernel, by decide +kernel⟩
    · exact ⟨rfl, rfl, rfl, by decide +kernel, rfl, by decide +kernel, by decide +kernel⟩
    · exact ⟨rfl, rfl, rfl, by decide +kernel, rfl, by decide +kernel, by decide +kernel⟩
    · exact ⟨rfl, rfl, rfl, by decide +kernel, rfl, by decide +kernel, by decide +kernel⟩
    · exact ⟨rfl, rfl, rfl, by decide +kernel, rfl, by decide +kernel, by decide +kernel⟩
    · exact ⟨rfl, rfl, rfl, by decide +kernel, rfl, by decide +kernel, by decide +kernel⟩
    · exact ⟨rfl, rfl, rfl, by decide +kernel, rfl, by decide +kernel, by decide +kernel⟩
    · exact ⟨rfl, rfl, rfl, by decide +kernel, rfl, by decide +kernel, by decide +kernel⟩
    · exact ⟨rfl, rfl, rfl, by decide +kernel, rfl, by decide +kernel, by decide +kernel⟩
    · exact ⟨rfl, rfl, rfl, by decide +kernel, rfl, by decide +kernel, by decide +kernel⟩
    · exact ⟨rfl, rfl, rfl, by decide +kernel, rfl, by decide +kernel, by decide +kernel⟩
    · exact ⟨rfl, rfl, rfl, by decide +kernel, rfl, by decide +kernel, by decide +kernel⟩
    · exact ⟨rfl, rfl, rfl, by decide +kernel, rfl, by decide +kernel, by decide +kernel⟩
    · exact ⟨rfl, rfl, rfl, by decide +kernel, rfl, by decide +kernel, by decide +kernel⟩
    · exact ⟨rfl, rfl, rfl, by decide +kernel, rfl, by decide +kernel, by decide +kernel⟩
    · exact ⟨rfl, rfl, rfl, by decide +kernel, rfl, by decide +kernel, by decide +kernel⟩
end Rk
set_option maxHeartbeats 1000000
namespace Rk
/-- a term -/
inductive T where
  | v (i : Nat) | f (t : T) | a (s t : T)
  deriving DecidableEq
def T.h : T → Nat
  | .v _ => 0
  | .f t => t.h + 1
  | .a s t => max s.h t.h + 1
def T.sz : T → Nat
  | .v _ => 1
  | .f t => t.sz + 1
  | .a s t => s.sz + t.sz + 1
def lft (k : Nat) : Nat → T → T
  | d, .v i => if d ≤ i then .v (i + k) else .v i
  | d, .f t => .f (lft k (d + 1) t)
  | d, .a s t => .a (lft k d s) (lft k d t)
def sb (o : T) : Nat → T → T
  | d, .v i => if i = d then lft d 0 o else if d < i then .v (i - 1) else .v i
  | d, .f t => .f (sb o (d + 1) t)
  | d, .a s t => .a (sb o d s) (sb o d t)
def rdx (s t : T) : List T := match s with
  | .f b => [sb t 0 b]
  | _ => []
def T.nx : T → List T
  | .v _ => []
  | .f t => t.nx.map .f
  | .a s t => rdx s t ++ (s.nx.map (fun u => T.a u t) ++ t.nx.map (T.a s))
/-! ### lifting and putting -/
theorem lft_0 : ∀ (t : T) (d : Nat), lft 0 d t = t
  | .v i, d => by simp [lft]
  | .f t, d => by simp [lft, lft_0 t]
  | .a s t, d => by simp [lft, lft_0 s, lft_0 t]
theorem lft_lft : ∀ (t : T) (i j d e : Nat), d ≤ e → e ≤ d + j → lft i e (lft j d t) = lft (j + i) d t
  | .v x, i, j, d, e, h1, h2 => by
    unfold lft
    by_cases h : d ≤ x
    · simp only [if_pos h, lft]
      rw [if_pos (by omega)]
      congr 1; omega
    · simp only [if_neg h, lft]
      rw [if_neg (by omega)]
  | .f t, i, j, d, e, h1, h2 => by simp [lft, lft_lft t i j (d + 1) (e + 1) (by omega) (by omega)]
  | .a s t, i, j, d, e, h1, h2 => by simp [lft, lft_lft s i j d e h1 h2, lft_lft t i j d e h1 h2]
theorem lft_swap : ∀ (t : T) (i j d e : Nat), d ≤ e → lft i (e + j) (lft j d t) = lft j d (lft i e t)
  | .v x, i, j, d, e, h => by
    by_cases h1 : d ≤ x <;> by_cases h2 : e ≤ x
    · have h3 : d ≤ x + i := by omega
      simp [lft, h1, h2, h3]; omega
    · simp [lft, h1, h2]
    · omega
    · have h3 : ¬ e + j ≤ x := by omega
      simp [lft, h1, h2, h3]
  | .f t, i, j, d, e, h => by
    have := lft_swap t i j (d + 1) (e + 1) (by omega)
    simp only [lft]
    rw [show e + j + 1 = e + 1 + j by omega, this]
  | .a s t, i, j, d, e, h => by simp [lft, lft_swap s i j d e h, lft_swap t i j d e h]
theorem sb_lft : ∀ (t o : T) (k c d : Nat), c ≤ d → d ≤ c + k → sb o d (lft (k + 1) c t) = lft k c t
  | .v x, o, k, c, d, h1, h2 => by
    unfold lft
    by_cases h : c ≤ x
    · simp only [if_pos h, sb]
      rw [if_neg (by omega), if_pos (by omega)]
      congr 1
    · simp only [if_neg h, sb]
      rw [if_neg (by omega), if_neg (by omega)]
  | .f t, o, k, c, d, h1, h2 => by simp [lft, sb, sb_lft t o k (c + 1) (d + 1) (by omega) (by omega)]
  | .a s t, o, k, c, d, h1, h2 => by simp [lft, sb, sb_lft s o k c d h1 h2, sb_lft t o k c d h1 h2]
/-- lifting below the place -/
theorem lft_sb_lo : ∀ (t o : T) (k c d : Nat), c ≤ d → lft k c (sb o d t) = sb o (d + k) (lft k c t)
  | .v x, o, k, c, d, h => by
    simp only [sb, lft]
    by_cases h1 : x = d
    · subst h1
      rw [if_pos rfl, if_pos h]
      simp only [sb, if_true]
      exact lft_lft o k x 0 c (by omega) (by omega)
    · rw [if_neg h1]
      by_cases h2 : d < x
      · rw [if_pos h2, if_pos (by omega)]
        simp only [lft, sb]
        rw [if_pos (by omega), if_neg (by omega), if_pos (by omega)]
        congr 1; omega
      · rw [if_neg h2]
        by_cases h3 : c ≤ x
        · rw [if_pos h3]
          simp only [lft, sb]
          rw [if_pos h3, if_neg (by omega), if_neg (by omega)]
        · rw [if_neg h3]
          simp only [lft, sb]
          rw [if_neg h3, if_neg (by omega), if_neg (by omega)]
  | .f t, o, k, c, d, h => by
    simp only [sb, lft]
    rw [lft_sb_lo t o k (c + 1) (d + 1) (by omega), show d + 1 + k = d + k + 1 by omega]
  | .a s t, o, k, c, d, h => by simp [lft, sb, lft_sb_lo s o k c d h, lft_sb_lo t o k c d h]
/-- lifting above the place -/
theorem lft_sb_hi : ∀ (t o : T) (k c d : Nat), lft k (c + d) (sb o d t) = sb (lft k c o) d (lft k (c + d + 1) t)
  | .v x, o, k, c, d => by
    simp only [sb, lft]
    by_cases h1 : x = d
    · subst h1
      rw [if_pos rfl, if_neg (by omega)]
      simp only [sb, if_true]
      exact lft_swap o k x 0 c (by omega)
    · rw [if_neg h1]
      by_cases h2 : d < x
      · rw [if_pos h2]
        simp only [lft]
        by_cases h3 : c + d + 1 ≤ x
        · rw [if_pos h3, if_pos (by omega)]
          simp only [sb]
          rw [if_neg (by omega), if_pos (by omega)]
          congr 1; omega
        · rw [if_neg h3, if_neg (by omega)]
          simp only [sb]
          rw [if_neg h1, if_pos h2]
      · rw [if_neg h2, if_neg (by omega)]
        simp only [lft, sb]
        rw [if_neg (by omega), if_neg h1, if_neg h2]
  | .f t, o, k, c, d => by
    simp only [sb, lft]
    rw [show c + d + 1 = c + (d + 1) by omega, lft_sb_hi t o k c (d + 1)]
  | .a s t, o, k, c, d => by simp [lft, sb, lft_sb_hi s o k c d, lft_sb_hi t o k c d]
theorem sb_sb : ∀ (t o p : T) (d e : Nat), sb p (d + e) (sb o d t) = sb (sb p e o) d (sb p (d + e + 1) t)
  | .v x, o, p, d, e => by
    simp only [sb]
    by_cases h1 : x = d
    · subst h1
      rw [if_pos rfl, if_neg (by omega), if_neg (by omega)]
      simp only [sb, if_true]
      have := lft_sb_lo o p x 0 e (by omega)
      rw [this, show e + x = x + e by omega]
    · rw [if_neg h1]
      by_cases h2 : d < x
      · rw [if_pos h2]
        simp only [sb]
        by_cases h3 : x = d + e + 1
        · subst h3
          rw [if_pos (by omega), if_pos rfl]
          exact (sb_lft p _ (d + e) 0 d (by omega) (by omega)).symm
        · rw [if_neg (by omega), if_neg h3]
          by_cases h4 : d + e + 1 < x
          · rw [if_pos (by omega), if_pos h4]
            simp only [sb]
            rw [if_neg (by omega), if_pos (by omega)]
          · rw [if_neg (by omega), if_neg h4]
            simp only [sb]
            rw [if_neg h1, if_pos h2]
      · rw [if_neg h2, if_neg (by omega), if_neg (by omega)]
        simp only [sb]
        rw [if_neg (by omega), if_neg (by omega), if_neg h1, if_neg h2]
  | .f t, o, p, d, e => by
    simp only [sb]
    rw [show d + e + 1 = d + 1 + e by omega, sb_sb t o p (d + 1) e]
  | .a s t, o, p, d, e => by simp [sb, sb_sb s o p d e, sb_sb t o p d e]
/-! ### many steps at once -/
inductive Par : T → T → Prop
  | v (i : Nat) : Par (.v i) (.v i)
  | f {t u : T} : Par t u → Par (.f t) (.f u)
  | a {s t u w : T} : Par s u → Par t w → Par (.a s t) (.a u w)
  | b {s t u w : T} : Par s u → Par t w → Par (.a (.f s) t) (sb w 0 u)
theorem Par.refl : ∀ t : T, Par t t
  | .v i => .v i
  | .f t => .f (Par.refl t)
  | .a s t => .a (Par.refl s) (Par.refl t)
theorem Par.lft {t u : T} (h : Par t u) : ∀ k d : Nat, Par (Rk.lft k d t) (Rk.lft k d u) := by
  induction h with
  | v i => intro k d; exact Par.refl _
  | f _ ih => intro k d; exact .f (ih k (d + 1))
  | a _ _ i1 i2 => intro k d; exact .a (i1 k d) (i2 k d)
  | @b s t u w _ _ i1 i2 =>
    intro k d
    have := lft_sb_hi u w k d 0
    rw [Nat.add_zero] at this
    rw [this]
    exact .b (i1 k (d + 1)) (i2 k d)
theorem Par.sb {t u : T} (h : Par t u) : ∀ {o p : T} (d : Nat), Par o p → Par (Rk.sb o d t) (Rk.sb p d u) := by
  induction h with
  | v i =>
    intro o p d q
    simp only [Rk.sb]
    split
    · exact q.lft d 0
    · split <;> exact .v _
  | f _ ih => intro o p d q; exact .f (ih (d + 1) q)
  | a _ _ i1 i2 => intro o p d q; exact .a (i1 d q) (i2 d q)
  | @b s t u w _ _ i1 i2 =>
    intro o p d q
    have := sb_sb u w p 0 d
    rw [Nat.zero_add] at this
    rw [this]
    exact .b (i1 (d + 1) q) (i2 d q)
/-- all that can be done at once -/
def cd : T → T
  | .v i => .v i
  | .f t => .f (cd t)
  | .a (.f s) t => sb (cd t) 0 (cd s)
  | .a (.v i) t => .a (.v i) (cd t)
  | .a (.a s u) t => .a (cd (.a s u)) (cd t)
theorem par_cd : ∀ {t u : T}, Par t u → Par u (cd t)
  | _, _, .v i => .v i
  | _, _, .f h => .f (par_cd h)
  | .a (.v i) _, _, .a h1 h2 => by cases h1; exact .a (.v i) (par_cd h2)
  | .a (.a _ _) _, _, .a h1 h2 => .a (par_cd h1) (par_cd h2)
  | .a (.f s) _, _, .a h1 h2 => by
    cases h1 with
    | f h1 => exact .b (par_cd h1) (par_cd h2)
  | _, _, .b h1 h2 => (par_cd h1).sb 0 (par_cd h2)
theorem nx_par : ∀ {t u : T}, u ∈ t.nx → Par t u
  | .v _, u, h => by cases h
  | .f t, u, h => by
    obtain ⟨w, h1, rfl⟩ := List.mem_map.mp h
    exact .f (nx_par h1)
  | .a s t, u, h => by
    rw [T.nx] at h
    rcases List.mem_append.mp h with h | h
    · cases s with
      | f b =>
        rw [rdx, List.mem_singleton] at h
        subst h
        exact .b (Par.refl _) (Par.refl _)
      | _ => cases h
    · rcases List.mem_append.mp h with h | h
      · obtain ⟨w, h1, rfl⟩ := List.mem_map.mp h
        exact .a (nx_par h1) (Par.refl _)
      · obtain ⟨w, h1, rfl⟩ := List.mem_map.mp h
        exact .a (Par.refl _) (nx_par h1)
theorem par_nf : ∀ {t u : T}, Par t u → t.nx = [] → u = t
  | _, _, .v i, _ => rfl
  | _, _, .f h, e => by
    rw [T.nx, List.map_eq_nil_iff] at e
    rw [par_nf h e]
  | _, _, .a h1 h2, e => by
    rw [T.nx, List.append_eq_nil_iff, List.append_eq_nil_iff, List.map_eq_nil_iff, List.map_eq_nil_iff] at e
    rw [par_nf h1 e.2.1, par_nf h2 e.2.2]
  | _, _, .b h1 h2, e => by
    rw [T.nx, List.append_eq_nil_iff] at e
    cases e.1
def cds : Nat → T → T
  | 0, t => t
  | n + 1, t => cds n (cd t)
theorem cds_par {t u : T} (h : Par t u) : ∀ n : Nat, Par (cds n t) (cds n u)
  | 0 => h
  | n + 1 => cds_par (par_cd (par_cd h)) n
inductive Way : Nat → T → T → Prop
  | nil (t : T) : Way 0 t t
  | cons {n : Nat} {t u w : T} : Par t u → Way n u w → Way (n + 1) t w
theorem way_cds : ∀ {n : Nat} {t w : T}, Way n t w → w.nx = [] → cds n t = w
  | _, _, _, .nil t, _ => rfl
  | n + 1, t, w, .cons h1 h2, e => by
    have := way_cds h2 e
    have q := cds_par (par_cd h1) n
    rw [this] at q
    exact par_nf q e
theorem cd_nf {t : T} (e : t.nx = []) : cd t = t := par_nf (par_cd (Par.refl t)) e
theorem cds_nf {t : T} (e : t.nx = []) : ∀ n : Nat, cds n t = t
  | 0 => rfl
  | n + 1 => by rw [cds, cd_nf e, cds_nf e n]
theorem cds_add : ∀ (n m : Nat) (t : T), cds (n + m) t = cds m (cds n t)
  | 0, m, t => by rw [Nat.zero_add]; rfl
  | n + 1, m, t => by rw [show n + 1 + m = (n + m) + 1 by omega, cds, cds, cds_add n m]
theorem unique_nf {n m : Nat} {t u w : T} (h1 : Way n t u) (e1 : u.nx = []) (h2 : Way m t w) (e2 : w.nx = []) : u = w := by
  have a := way_cds h1 e1
  have b := way_cds h2 e2
  have c1 : cds (n + m) t = u := by rw [cds_add, a, cds_nf e1]
  have c2 : cds (n + m) t = w := by rw [Nat.add_comm, cds_add, b, cds_nf e2]
  rw [← c1, ← c2]
/-! ### how large -/
theorem h_lft : ∀ (t : T) (k d : Nat), (lft k d t).h = t.h
  | .v i, k, d => by unfold lft; split <;> rfl
  | .f t, k, d => by simp [lft, T.h, h_lft t]
  | .a s t, k, d => by simp [lft, T.h, h_lft s, h_lft t]
theorem sz_lft : ∀ (t : T) (k d : Nat), (lft k d t).sz = t.sz
  | .v i, k, d => by unfold lft; split <;> rfl
  | .f t, k, d => by simp [lft, T.sz, sz_lft t]
  | .a s t, k, d => by simp [lft, T.sz, sz_lft s, sz_lft t]
theorem sz_pos : ∀ t : T, 0 < t.sz
  | .v _ => by simp [T.sz]
  | .f _ => by simp [T.sz]
  | .a _ _ => by simp [T.sz]
theorem h_sz : ∀ t : T, t.h < t.sz
  | .v _ => by simp [T.sz, T.h]
  | .f t => by have := h_sz t; simp [T.sz, T.h]; omega
  | .a s t => by have := h_sz s; have := h_sz t; simp [T.sz, T.h]; omega
theorem h_sb : ∀ (t o : T) (d : Nat), (sb o d t).h ≤ t.h + o.h
  | .v i, o, d => by
    unfold sb
    split
    · rw [h_lft]; simp [T.h]
    · split <;> simp [T.h]
  | .f t, o, d => by have := h_sb t o (d + 1); simp [sb, T.h]; omega
  | .a s t, o, d => by have := h_sb s o d; have := h_sb t o d; simp [sb, T.h]; omega
theorem sz_sb : ∀ (t o : T) (d : Nat), (sb o d t).sz ≤ t.sz * o.sz
  | .v i, o, d => by
    have := sz_pos o
    unfold sb
    split
    · rw [sz_lft]; simp [T.sz]
    · split <;> simp [T.sz] <;> omega
  | .f t, o, d => by
    have := sz_sb t o (d + 1)
    have := sz_pos o
    simp only [sb, T.sz, Nat.add_mul, Nat.one_mul]
    omega
  | .a s t, o, d => by
    have := sz_sb s o d
    have := sz_sb t o d
    have := sz_pos o
    simp only [sb, T.sz, Nat.add_mul, Nat.one_mul]
    omega
theorem nx_h : ∀ {t u : T}, u ∈ t.nx → u.h ≤ t.sz
  | .v _, u, h => by cases h
  | .f t, u, h => by
    obtain ⟨w, h1, rfl⟩ := List.mem_map.mp h
    have := nx_h h1
    simp only [T.h, T.sz]; omega
  | .a s t, u, h => by
    rw [T.nx] at h
    have a1 := h_sz s
    have a2 := h_sz t
    rcases List.mem_append.mp h with h | h
    · cases s with
      | f b =>
        rw [rdx, List.mem_singleton] at h
        subst h
        have := h_sb b t 0
        simp only [T.sz, T.h] at a1 ⊢
        omega
      | _ => cases h
    · rcases List.mem_append.mp h with h | h
      · obtain ⟨w, h1, rfl⟩ := List.mem_map.mp h
        have := nx_h h1
        simp only [T.h, T.sz]; omega
      · obtain ⟨w, h1, rfl⟩ := List.mem_map.mp h
        have := nx_h h1
        simp only [T.h, T.sz]; omega
theorem nx_sz : ∀ {t u : T}, u ∈ t.nx → u.sz ≤ t.sz * t.sz
  | .v _, u, h => by cases h
  | .f t, u, h => by
    obtain ⟨w, h1, rfl⟩ := List.mem_map.mp h
    have := nx_sz h1
    simp only [T.sz, Nat.add_mul, Nat.mul_add, Nat.one_mul, Nat.mul_one]; omega
  | .a s t, u, h => by
    rw [T.nx] at h
    rcases List.mem_append.mp h with h | h
    · cases s with
      | f b =>
        rw [rdx, List.mem_singleton] at h
        subst h
        have := sz_sb b t 0
        simp only [T.sz, Nat.add_mul, Nat.mul_add, Nat.one_mul, Nat.mul_one]
        omega
      | _ => cases h
    · rcases List.mem_append.mp h with h | h
      · obtain ⟨w, h1, rfl⟩ := List.mem_map.mp h
        have := nx_sz h1
        simp only [T.sz, Nat.add_mul, Nat.mul_add, Nat.one_mul, Nat.mul_one]; omega
      · obtain ⟨w, h1, rfl⟩ := List.mem_map.mp h
        have := nx_sz h1
        simp only [T.sz, Nat.add_mul, Nat.mul_add, Nat.one_mul, Nat.mul_one]; omega
theorem nx_len : ∀ t : T, t.nx.length ≤ t.sz
  | .v _ => by simp [T.nx]
  | .f t => by have := nx_len t; simp [T.nx, T.sz]; omega
  | .a s t => by
    have := nx_len s
    have := nx_len t
    have : (rdx s t).length ≤ 1 := by unfold rdx; split <;> simp
    simp [T.nx, T.sz]; omega
/-! ### the run -/
def hd (t : T) : T := t.nx.headD t
def sq : Nat → T → T
  | 0, t => t
  | n + 1, t => sq n (hd t)
theorem sq_succ : ∀ (n : Nat) (t : T), sq (n + 1) t = hd (sq n t)
  | 0, t => rfl
  | n + 1, t => by rw [sq, sq_succ n (hd t)]; rfl
theorem hd_mem {t : T} (h : t.nx ≠ []) : hd t ∈ t.nx := by
  unfold hd
  cases e : t.nx with
  | nil => exact absurd e h
  | cons x xs => simp
theorem sq_way : ∀ (n : Nat) (t : T), (∀ i < n, (sq i t).nx ≠ []) → Way n t (sq n t)
  | 0, t, _ => .nil t
  | n + 1, t, h => .cons (nx_par (hd_mem (h 0 (by omega)))) (sq_way n (hd t) fun i hi => h (i + 1) (by omega))
end Rk
set_option maxHeartbeats 1000000
namespace Rk
open PySem
def T.d : T → D
  | .v i => .tup [.str [118, 97, 114], .int i]
  | .f t => .tup [.str [102, 117, 110], t.d]
  | .a s t => .tup [.str [97, 112, 112], s.d, t.d]
theorem hlp : Hlp P := ⟨rfl, rfl, rfl, rfl⟩
theorem dep_d : ∀ t : T, t.d.dep = t.h + 1
  | .v i => by simp [T.d, T.h, D.dep, D.deps]
  | .f t => by simp [T.d, T.h, D.dep, D.deps, dep_d t]
  | .a s t => by simp [T.d, T.h, D.dep, D.deps, dep_d s, dep_d t]
theorem flat_d : ∀ t : T, t.d.flat = true
  | .v i => by simp [T.d, D.flat, D.flats]
  | .f t => by simp [T.d, D.flat, D.flats, flat_d t]
  | .a s t => by simp [T.d, D.flat, D.flats, flat_d s, flat_d t]
theorem deq_d : ∀ t u : T, deq t.d u.d = decide (t = u)
  | .v i, .v j => by simp [T.d]
  | .v i, .f u => by simp [T.d]
  | .v i, .a u w => by simp [T.d]
  | .f t, .v j => by simp [T.d]
  | .f t, .f u => by simp [T.d, deq_d t u]
  | .f t, .a u w => by simp [T.d]
  | .a s t, .v j => by simp [T.d]
  | .a s t, .f u => by simp [T.d]
  | .a s t, .a u w => by simp [T.d, deq_d s u, deq_d t w]
theorem lk_d : ∀ t : T, Lk (t.h + 1) t.d
  | .v i => ⟨by simp, by simp [Lk]⟩
  | .f t => ⟨by simp, fun x hx => by
      simp only [List.mem_cons, List.not_mem_nil, or_false] at hx
      rcases hx with rfl | rfl
      · simp [Lk]
      · exact lk_d t⟩
  | .a s t => by
    have h1 := lk_d s
    have h2 := lk_d t
    refine ⟨by simp, fun x hx => ?_⟩
    simp only [List.mem_cons, List.not_mem_nil, or_false] at hx
    rcases hx with rfl | rfl | rfl
    · simp [Lk]
    · exact Lk.mono (by simp only [T.h]; omega) h1
    · exact Lk.mono (by simp only [T.h]; omega) h2
@[simp] theorem isNon_d (t : T) : isNon t.d = false := by cases t <;> rfl
theorem lifted_ev : ∀ (t : T) (n k d : Nat), t.h < n → call P n "lifted" [t.d, .int k, .int d] = some (lft k d t).d
  | t, 0, k, d, h => by omega
  | .v i, n + 1, k, d, h => by
    refine call_rt (fn := f_lifted) rfl rfl ?_
    by_cases e : d ≤ i <;> simp [f_lifted, envOf, T.d, lft, e]
  | .f t, n + 1, k, d, h => by
    have ih := lifted_ev t n k (d + 1) (by simp [T.h] at h; omega)
    refine call_rt (fn := f_lifted) rfl rfl ?_
    simp at ih
    simp [f_lifted, envOf, T.d, lft, ih]
  | .a s t, n + 1, k, d, h => by
    have ih := lifted_ev s n k d (by simp [T.h] at h; omega)
    have ih2 := lifted_ev t n k d (by simp [T.h] at h; omega)
    refine call_rt (fn := f_lifted) rfl rfl ?_
    simp [f_lifted, envOf, T.d, lft, ih, ih2]
theorem llift_ev : ∀ (t : T) (n k d : Nat), t.h < n → call P n "_law_lift" [t.d, .int k, .int d] = some (lft k d t).d
  | t, 0, k, d, h => by omega
  | .v i, n + 1, k, d, h => by
    refine call_rt (fn := f__law_lift) rfl rfl ?_
    by_cases e : d ≤ i <;> simp [f__law_lift, envOf, T.d, lft, e]
  | .f t, n + 1, k, d, h => by
    have ih := llift_ev t n k (d + 1) (by simp [T.h] at h; omega)
    refine call_rt (fn := f__law_lift) rfl rfl ?_
    simp at ih
    simp [f__law_lift, envOf, T.d, lft, ih]
  | .a s t, n + 1, k, d, h => by
    have ih := llift_ev s n k d (by simp [T.h] at h; omega)
    have ih2 := llift_ev t n k d (by simp [T.h] at h; omega)
    refine call_rt (fn := f__law_lift) rfl rfl ?_
    simp [f__law_lift, envOf, T.d, lft, ih, ih2]
theorem put_at_ev (o : T) : ∀ (t : T) (n d : Nat), t.h + o.h + 1 < n → call P n "put_at" [t.d, o.d, .int d] = some (sb o d t).d
  | t, 0, d, h => by omega
  | .v i, n + 1, d, h => by
    have ih := lifted_ev o n d 0 (by omega)
    refine call_rt (fn := f_put_at) rfl rfl ?_
    simp at ih
    by_cases e : i = d
    · subst e; simp [f_put_at, envOf, T.d, sb, ih]
    · by_cases e2 : d < i
      · have c : ((i - 1 : Nat) : Int) = (i : Int) - 1 := by omega
        simp [f_put_at, envOf, T.d, sb, e, e2, c]
      · simp [f_put_at, envOf, T.d, sb, e, e2]
  | .f t, n + 1, d, h => by
    have ih := put_at_ev o t n (d + 1) (by simp [T.h] at h; omega)
    refine call_rt (fn := f_put_at) rfl rfl ?_
    simp at ih
    simp [f_put_at, envOf, T.d, sb, ih]
  | .a s t, n + 1, d, h => by
    have ih := put_at_ev o s n d (by simp [T.h] at h; omega)
    have ih2 := put_at_ev o t n d (by simp [T.h] at h; omega)
    refine call_rt (fn := f_put_at) rfl rfl ?_
    simp [f_put_at, envOf, T.d, sb, ih, ih2]
theorem lsub_ev (o : T) : ∀ (t : T) (n d : Nat), t.h + o.h + 1 < n → call P n "_law_sub" [t.d, o.d, .int d] = some (sb o d t).d
  | t, 0, d, h => by omega
  | .v i, n + 1, d, h => by
    have ih := llift_ev o n d 0 (by omega)
    refine call_rt (fn := f__law_sub) rfl rfl ?_
    simp at ih
    by_cases e : i = d
    · subst e; simp [f__law_sub, envOf, T.d, sb, ih]
    · by_cases e2 : d < i
      · have c : ((i - 1 : Nat) : Int) = (i : Int) - 1 := by omega
        simp [f__law_sub, envOf, T.d, sb, e, e2, c]
      · simp [f__law_sub, envOf, T.d, sb, e, e2]
  | .f t, n + 1, d, h => by
    have ih := lsub_ev o t n (d + 1) (by simp [T.h] at h; omega)
    refine call_rt (fn := f__law_sub) rfl rfl ?_
    simp at ih
    simp [f__law_sub, envOf, T.d, sb, ih]
  | .a s t, n + 1, d, h => by
    have ih := lsub_ev o s n d (by simp [T.h] at h; omega)
    have ih2 := lsub_ev o t n d (by simp [T.h] at h; omega)
    refine call_rt (fn := f__law_sub) rfl rfl ?_
    simp [f__law_sub, envOf, T.d, sb, ih, ih2]
theorem put_for_ev (t o : T) (n : Nat) (h : t.h + o.h + 2 < n) : call P n "put_for" [t.d, o.d] = some (sb o 0 t).d := by
  obtain ⟨m, rfl⟩ : ∃ m, n = m + 1 := ⟨n - 1, by omega⟩
  have := put_at_ev o t m 0 (by omega)
  refine call_rt (fn := f_put_for) rfl rfl ?_
  simp at this
  simp [f_put_for, envOf, this]
def tg : T → List Nat
  | .v _ => [118, 97, 114]
  | .f _ => [102, 117, 110]
  | .a _ _ => [97, 112, 112]
@[simp] theorem ix_tg (t : T) : ixD t.d (.int 0) = some (.str (tg t)) := by cases t <;> simp [T.d, tg]
theorem dv (i : Nat) : (T.v i).d = .tup [.str [118, 97, 114], .int i] := rfl
theorem df (t : T) : (T.f t).d = .tup [.str [102, 117, 110], t.d] := rfl
theorem da (s t : T) : (T.a s t).d = .tup [.str [97, 112, 112], s.d, t.d] := rfl
theorem tg_cases (s : T) : (∃ b, s = .f b) ∨ ((tg s == [102, 117, 110]) = false ∧ ∀ t, rdx s t = []) := by
  cases s with
  | f b => exact .inl ⟨b, rfl⟩
  | _ => exact .inr ⟨rfl, fun _ => rfl⟩
theorem big_ok : (1000000 : Nat) ≤ sizeLine := by decide
theorem lcGo_T {f : D → Option (Option D)} {w : T → T} {ts : List T} (h : ∀ t ∈ ts, f t.d = some (some (w t).d)) : lcGo f (ts.map T.d) = some ((ts.map w).map T.d) := by
  induction ts with
  | nil => rfl
  | cons t ts ih => simp [lcGo, h t List.mem_cons_self, ih fun u hu => h u (List.mem_cons_of_mem _ hu)]
theorem nextd_ev : ∀ (t : T) (n : Nat), 2 * t.h + 4 < n → t.sz ≤ 1000000 → call P n "next_doings" [t.d] = some (.tup (t.nx.map T.d))
  | t, 0, h, _ => by omega
  | .v i, n + 1, h, _ => by
    refine call_rt (fn := f_next_doings) rfl rfl ?_
    simp [f_next_doings, envOf, T.d, T.nx, asgFresh, sink, noOw, leak, leaks, fresh, isCell, bltD]
  | .f t, n + 1, h, hz => by
    have hz' : t.sz ≤ 1000000 := by simp [T.sz] at hz; omega
    have ih := nextd_ev t n (by simp [T.h] at h; omega) hz'
    refine call_rt (fn := f_next_doings) rfl rfl ?_
    have e : lcGo (lcF (call P n) (.nm 2) (.cst (.bl true)) (.tup [.cst (.str [102, 117, 110]), .var 2]) [.va (.tup [.str [102, 117, 110], t.d]), .ow (.lst []), .un]) (t.nx.map T.d) = some ((t.nx.map T.f).map T.d) :=
      lcGo_T fun u _ => by simp [lcF, asgT, T.d]
    have l : t.nx.length ≤ sizeLine := Nat.le_trans (nx_len t) (Nat.le_trans hz' big_ok)
    simp [f_next_doings, envOf, T.d, T.nx, asgFresh, sink, noOw, leak, leaks, leakEl, leaksEl, fresh, isCell, bltD, ih, itemsD, wipeE, e, l]
  | .a s t, n + 1, h, hz => by
    simp only [T.h, T.sz] at h hz
    have ih1 := nextd_ev s n (by omega) (by omega)
    have ih2 := nextd_ev t n (by omega) (by omega)
    refine call_rt (fn := f_next_doings) rfl rfl ?_
    have e1 : ∀ y, lcGo (lcF (call P n) (.nm 2) (.cst (.bl true)) (.tup [.cst (.str [97, 112, 112]), .var 2, .ix (.var 0) (.cst (.int 2))]) [.va (.tup [.str [97, 112, 112], s.d, t.d]), .ow (.lst y), .un]) (s.nx.map T.d) = some ((s.nx.map fun u => T.a u t).map T.d) := fun y =>
      lcGo_T fun u _ => by simp [lcF, asgT, T.d]
    have e2 : ∀ y, lcGo (lcF (call P n) (.nm 2) (.cst (.bl true)) (.tup [.cst (.str [97, 112, 112]), .ix (.var 0) (.cst (.int 1)), .var 2]) [.va (.tup [.str [97, 112, 112], s.d, t.d]), .ow (.lst y), .un]) (t.nx.map T.d) = some ((t.nx.map fun u => T.a s u).map T.d) := fun y =>
      lcGo_T fun u _ => by simp [lcF, asgT, T.d]
    have l1 : s.nx.length ≤ 1000000 := Nat.le_trans (nx_len s) (by omega)
    have l2 : t.nx.length ≤ 1000000 := Nat.le_trans (nx_len t) (by omega)
    have l3 : s.nx.length ≤ sizeLine := Nat.le_trans l1 big_ok
    have l4 : 1 + s.nx.length ≤ sizeLine := Nat.le_trans (Nat.add_le_add_left l1 1) (by decide)
    have l5 : s.nx.length + t.nx.length ≤ sizeLine := Nat.le_trans (Nat.add_le_add l1 l2) (by decide)
    have l6 : s.nx.length + 1 + t.nx.length ≤ sizeLine := Nat.le_trans (Nat.add_le_add (Nat.succ_le_succ l1) l2) (by decide)
    have l7 : 0 < sizeLine := by decide
    rcases tg_cases s with ⟨b, rfl⟩ | ⟨hs, hr⟩
    · have ip := put_for_ev b t n (by simp only [T.h] at h; omega)
      have en : (T.a (.f b) t).nx = sb t 0 b :: ((T.f b).nx.map (fun u => T.a u t) ++ t.nx.map (T.a (.f b))) := rfl
      have ef : ixD (T.f b).d (.int 1) = some b.d := by simp [df]
      rw [en]
      generalize (T.f b).nx = xs at *
      simp [f_next_doings, envOf, da, tg, asgFresh, sink, noOw, leak, leaks, leakEl, leaksEl, fresh, isCell, bltD, itemsD, wipeE, ip, l7, flat_d, ef, ih1, ih2, e1, e2, l4, l6]
    · simp [f_next_doings, envOf, da, T.nx, hr, hs, asgFresh, sink, noOw, leak, leaks, leakEl, leaksEl, fresh, isCell, bltD, itemsD, wipeE, ih1, ih2, e1, e2, l3, l5]
/-! ### with depths -/
def dz : Nat → T → List (Nat × T)
  | _, .v _ => []
  | k, .f t => (dz (k + 1) t).map fun p => (p.1, .f p.2)
  | k, .a s t => (rdx s t).map (fun u => (k, u)) ++ ((dz (k + 1) s).map (fun p => (p.1, T.a p.2 t)) ++ (dz (k + 1) t).map (fun p => (p.1, T.a s p.2)))
theorem dz_snd : ∀ (t : T) (k : Nat), (dz k t).map (·.2) = t.nx
  | .v _, _ => rfl
  | .f t, k => by
    have := dz_snd t (k + 1)
    rw [dz, T.nx, ← this, List.map_map, List.map_map]
    rfl
  | .a s t, k => by
    have h1 := dz_snd s (k + 1)
    have h2 := dz_snd t (k + 1)
    rw [dz, T.nx, ← h1, ← h2]
    simp [Function.comp_def]
theorem dz_len (t : T) (k : Nat) : (dz k t).length ≤ t.sz := by
  have := nx_len t
  rwa [← dz_snd t k, List.length_map] at this
def pd (p : Nat × T) : D := .tup [.int (p.1 : Nat), p.2.d]
theorem lcGo_P {f : D → Option (Option D)} {w : Nat × T → Nat × T} {ts : List (Nat × T)} (h : ∀ t ∈ ts, f (pd t) = some (some (pd (w t)))) : lcGo f (ts.map pd) = some ((ts.map w).map pd) := by
  induction ts with
  | nil => rfl
  | cons t ts ih => simp [lcGo, h t List.mem_cons_self, ih fun u hu => h u (List.mem_cons_of_mem _ hu)]
theorem doings_ev : ∀ (t : T) (n k : Nat), 2 * t.h + 4 < n → t.sz ≤ 1000000 → call P n "_law_doings" [t.d, .int k] = some (.lst ((dz k t).map pd))
  | t, 0, k, h, _ => by omega
  | .v i, n + 1, k, h, _ => by
    refine call_rt (fn := f__law_doings) rfl rfl ?_
    simp [f__law_doings, envOf, T.d, dz, asgFresh, sink, noOw, leak, leaks, fresh, isCell, bltD]
  | .f t, n + 1, k, h, hz => by
    have hz' : t.sz ≤ 1000000 := by simp [T.sz] at hz; omega
    have ih := doings_ev t n (k + 1) (by simp [T.h] at h; omega) hz'
    refine call_rt (fn := f__law_doings) rfl rfl ?_
    have e : lcGo (lcF (call P n) (.tp [.nm 3, .nm 4]) (.cst (.bl true)) (.tup [.var 3, .tup [.cst (.str [102, 117, 110]), .var 4]]) [.va (.tup [.str [102, 117, 110], t.d]), .va (.int k), .ow (.lst []), .un, .un]) ((dz (k + 1) t).map pd) = some (((dz (k + 1) t).map fun p => (p.1, T.f p.2)).map pd) :=
      lcGo_P fun u _ => by simp [lcF, asgT, asgTs, pd, df]
    have l : (dz (k + 1) t).length ≤ sizeLine := Nat.le_trans (dz_len t _) (Nat.le_trans hz' big_ok)
    simp at ih
    simp [f__law_doings, envOf, df, dz, asgFresh, sink, noOw, leak, leaks, leakEl, leaksEl, fresh, isCell, bltD, ih, itemsD, wipeE, e, l]
  | .a s t, n + 1, k, h, hz => by
    simp only [T.h, T.sz] at h hz
    have ih1 := doings_ev s n (k + 1) (by omega) (by omega)
    have ih2 := doings_ev t n (k + 1) (by omega) (by omega)
    refine call_rt (fn := f__law_doings) rfl rfl ?_
    have e1 : ∀ y, lcGo (lcF (call P n) (.tp [.nm 3, .nm 4]) (.cst (.bl true)) (.tup [.var 3, .tup [.cst (.str [97, 112, 112]), .var 4, .ix (.var 0) (.cst (.int 2))]]) [.va (.tup [.str [97, 112, 112], s.d, t.d]), .va (.int k), .ow (.lst y), .un, .un]) ((dz (k + 1) s).map pd) = some (((dz (k + 1) s).map fun p => (p.1, T.a p.2 t)).map pd) := fun y =>
      lcGo_P fun u _ => by simp [lcF, asgT, asgTs, pd, da]
    have e2 : ∀ y, lcGo (lcF (call P n) (.tp [.nm 3, .nm 4]) (.cst (.bl true)) (.tup [.var 3, .tup [.cst (.str [97, 112, 112]), .ix (.var 0) (.cst (.int 1)), .var 4]]) [.va (.tup [.str [97, 112, 112], s.d, t.d]), .va (.int k), .ow (.lst y), .un, .un]) ((dz (k + 1) t).map pd) = some (((dz (k + 1) t).map fun p => (p.1, T.a s p.2)).map pd) := fun y =>
      lcGo_P fun u _ => by simp [lcF, asgT, asgTs, pd, da]
    have l1 : (dz (k + 1) s).length ≤ 1000000 := Nat.le_trans (dz_len s _) (by omega)
    have l2 : (dz (k + 1) t).length ≤ 1000000 := Nat.le_trans (dz_len t _) (by omega)
    have l3 : (dz (k + 1) s).length ≤ sizeLine := Nat.le_trans l1 big_ok
    have l4 : 1 + (dz (k + 1) s).length ≤ sizeLine := Nat.le_trans (Nat.add_le_add_left l1 1) (by decide)
    have l5 : (dz (k + 1) s).length + (dz (k + 1) t).length ≤ sizeLine := Nat.le_trans (Nat.add_le_add l1 l2) (by decide)
    have l6 : (dz (k + 1) s).length + 1 + (dz (k + 1) t).length ≤ sizeLine := Nat.le_trans (Nat.add_le_add (Nat.succ_le_succ l1) l2) (by decide)
    have l7 : 0 < sizeLine := by decide
    simp at ih1 ih2
    rcases tg_cases s with ⟨b, rfl⟩ | ⟨hs, hr⟩
    · have ip := lsub_ev t b n 0 (by simp only [T.h] at h; omega)
      have en : dz k (T.a (.f b) t) = (k, sb t 0 b) :: ((dz (k + 1) (T.f b)).map (fun p => (p.1, T.a p.2 t)) ++ (dz (k + 1) t).map (fun p => (p.1, T.a (.f b) p.2))) := rfl
      have ef : ixD (T.f b).d (.int 1) = some b.d := by simp [df]
      simp at ip
      rw [en]
      generalize dz (k + 1) (T.f b) = xs at *
      have pk : pd (k, sb t 0 b) = .tup [.int (k : Nat), (sb t 0 b).d] := rfl
      simp [f__law_doings, envOf, da, tg, asgFresh, sink, noOw, leak, leaks, leakEl, leaksEl, fresh, isCell, bltD, itemsD, wipeE, ip, l7, flat_d, D.flat, D.flats, ef, ih1, ih2, e1, e2, l4, l6, pk]
    · simp [f__law_doings, envOf, da, dz, hr, hs, asgFresh, sink, noOw, leak, leaks, leakEl, leaksEl, fresh, isCell, bltD, itemsD, wipeE, ih1, ih2, e1, e2, l3, l5]
theorem marks_ev : ∀ (t : T) (n : Nat), t.h < n → call P n "_law_marks" [t.d] = some (.int (t.sz : Nat))
  | t, 0, h => by omega
  | .v i, n + 1, h => by
    refine call_rt (fn := f__law_marks) rfl rfl ?_
    simp [f__law_marks, envOf, T.d, T.sz]
  | .f t, n + 1, h => by
    have ih := marks_ev t n (by simp [T.h] at h; omega)
    refine call_rt (fn := f__law_marks) rfl rfl ?_
    simp [f__law_marks, envOf, df, T.sz, slD, cut, sx, clip, itemsD, noOw, leakEl, wipeE, lcGo, lcF, asgT, ih, bltD, intsD]
    omega
  | .a s t, n + 1, h => by
    simp only [T.h] at h
    have ih := marks_ev s n (by omega)
    have ih2 := marks_ev t n (by omega)
    refine call_rt (fn := f__law_marks) rfl rfl ?_
    simp [f__law_marks, envOf, da, T.sz, slD, cut, sx, clip, itemsD, noOw, leakEl, wipeE, lcGo, lcF, asgT, ih, ih2, bltD, intsD]
    omega
/-! ### the first doing -/
def oD : Option T → D
  | none => .non
  | some t => t.d
theorem first_ev : ∀ (t : T) (n : Nat), 2 * t.h + 4 < n → call P n "first_doing" [t.d] = some (oD t.nx.head?)
  | t, 0, h => by omega
  | .v i, n + 1, h => by
    refine call_rt (fn := f_first_doing) rfl rfl ?_
    simp [f_first_doing, envOf, T.d, T.nx, oD]
  | .f t, n + 1, h => by
    have ih := first_ev t n (by simp [T.h] at h; omega)
    refine call_rt (fn := f_first_doing) rfl rfl ?_
    cases e : t.nx with
    | nil =>
      rw [e] at ih
      simp [f_first_doing, envOf, df, T.nx, ih, e, oD, asgFresh, sink, noOw, leak, leaks, fresh, D.flat]
    | cons x xs =>
      rw [e] at ih
      simp [f_first_doing, envOf, df, T.nx, ih, e, oD, asgFresh, sink, noOw, leak, leaks, leakEl, fresh, D.flat]
  | .a s t, n + 1, h => by
    simp only [T.h] at h
    have ih1 := first_ev s n (by omega)
    have ih2 := first_ev t n (by omega)
    refine call_rt (fn := f_first_doing) rfl rfl ?_
    rcases tg_cases s with ⟨b, rfl⟩ | ⟨hs, hr⟩
    · have ip := put_for_ev b t n (by simp only [T.h] at h; omega)
      have ef : ixD (T.f b).d (.int 1) = some b.d := by simp [df]
      have en : (T.a (.f b) t).nx.head? = some (sb t 0 b) := rfl
      rw [en]
      simp [f_first_doing, envOf, da, tg, ef, ip, oD]
    · have en : (T.a s t).nx = s.nx.map (fun u => T.a u t) ++ t.nx.map (T.a s) := by rw [T.nx, hr]; rfl
      rw [en]
      cases e1 : s.nx with
      | cons x xs =>
        rw [e1] at ih1
        simp [f_first_doing, envOf, da, hs, ih1, oD, asgFresh, sink, noOw, leak, leaks, leakEl, fresh, D.flat]
      | nil =>
        rw [e1] at ih1
        cases e2 : t.nx with
        | nil =>
          rw [e2] at ih2
          simp [f_first_doing, envOf, da, hs, ih1, ih2, oD, asgFresh, sink, noOw, leak, leaks, leakEl, fresh, D.flat]
        | cons x xs =>
          rw [e2] at ih2
          simp [f_first_doing, envOf, da, hs, ih1, ih2, oD, asgFresh, sink, noOw, leak, leaks, leakEl, fresh, D.flat]
end Rk
set_option maxHeartbeats 1000000
namespace Rk
open PySem
/-- how often: the run by first doings -/
def dn : Nat → T → Option T
  | 0, t => if t.nx = [] then some t else none
  | m + 1, t => if t.nx = [] then some t else dn m (hd t)
theorem hd_head {t : T} (h : t.nx ≠ []) : t.nx.head? = some (hd t) := by
  unfold hd
  cases e : t.nx with
  | nil => exact absurd e h
  | cons x xs => rfl
theorem dn_none : ∀ (m : Nat) (t : T), (∀ i ≤ m, (sq i t).nx ≠ []) → dn m t = none
  | 0, t, h => by rw [dn, if_neg (show t.nx ≠ [] from h 0 (Nat.le_refl _))]
  | m + 1, t, h => by
    rw [dn, if_neg (show t.nx ≠ [] from h 0 (Nat.zero_le _))]
    exact dn_none m (hd t) fun i hi => h (i + 1) (by omega)
theorem dn_some : ∀ (c m : Nat) (t : T), c ≤ m → (∀ i < c, (sq i t).nx ≠ []) → (sq c t).nx = [] → dn m t = some (sq c t)
  | 0, 0, t, _, _, h => by rw [dn, if_pos (show t.nx = [] from h)]; rfl
  | 0, m + 1, t, _, _, h => by rw [dn, if_pos (show t.nx = [] from h)]; rfl
  | c + 1, 0, t, hc, _, _ => by omega
  | c + 1, m + 1, t, hc, h1, h2 => by
    rw [dn, if_neg (show t.nx ≠ [] from h1 0 (by omega))]
    exact dn_some c m (hd t) (by omega) (fun i hi => h1 (i + 1) (by omega)) h2
theorem dn_sq : ∀ (k m : Nat) (t : T), k ≤ m → (∀ i < k, (sq i t).nx ≠ []) → dn m t = dn (m - k) (sq k t)
  | 0, m, t, _, _ => rfl
  | k + 1, 0, t, h, _ => by omega
  | k + 1, m + 1, t, h, h1 => by
    rw [dn, if_neg (show t.nx ≠ [] from h1 0 (by omega)), show m + 1 - (k + 1) = m - k by omega]
    exact dn_sq k m (hd t) (by omega) fun i hi => h1 (i + 1) (by omega)
theorem nx_head {t : T} (h : t.nx = []) : t.nx.head? = none := by rw [h]; rfl
theorem done_ev {n m : Nat} {t : T} (hm : m ≤ 1000) (hn : 190 ≤ n) (H : ∀ i ≤ m, (∀ j < i, (sq j t).nx ≠ []) → (sq i t).h ≤ 90) : call P (n + 1) "done" [t.d, .int m] = some (oD (dn m t)) := by
  refine call_rt (fn := f_done) rfl rfl ?_
  obtain ⟨o, h1, h2⟩ := for_rng (cf := call P n) (i := 2) (b := .var 1) (env := [.va t.d, .va (.int m), .un, .un]) (body := [.asg (.nm 3) (.call "first_doing" [.var 0]), .ife (.cmp .isN (.var 3) (.cst (.non))) [.ret (.var 0)] [], .asg (.nm 0) (.var 3)]) (many := m)
    (fun k e => (∀ j < k, (sq j t).nx ≠ []) ∧ ∃ x y : Slot, e = [.va (sq k t).d, .va (.int m), x, y] ∧ isOw [y] 0 = false)
    (fun o => ((∀ j < m, (sq j t).nx ≠ []) ∧ ∃ x y : Slot, o = .nx [.va (sq m t).d, .va (.int m), x, y] ∧ isOw [y] 0 = false) ∨ (∃ u, dn m t = some u ∧ o = .rt u.d))
    (by simp) (Nat.le_trans hm (by decide)) (by simp [noOw, leak]) ⟨fun j hj => by omega, .un, .un, rfl, rfl⟩ (fun k e hk he => by
      obtain ⟨g, x, y, rfl, hy⟩ := he
      have hh := H k (by omega) g
      have fe := first_ev (sq k t) n (by omega)
      by_cases e : (sq k t).nx = []
      · refine ⟨.rt (sq k t).d, ?_, .inr ⟨sq k t, dn_some k m t (by omega) g e, rfl⟩⟩
        rw [nx_head e] at fe
        simp [fe, oD, asgFresh, sink, noOw, leak, leaks, leakEl, fresh, D.flat]
      · refine ⟨.nx [.va (sq (k + 1) t).d, .va (.int m), .va (.int k), .va (sq (k + 1) t).d], ?_, ⟨fun j hj => ?_, _, _, rfl, rfl⟩⟩
        · rw [hd_head e] at fe
          rw [sq_succ]
          simp [fe, oD, asgFresh, sink, noOw, leak, leaks, leakEl, fresh, D.flat]
        · by_cases q : j = k
          · subst q; exact e
          · exact g j (by omega)) (fun e he => by
      obtain ⟨g, x, y, rfl, hy⟩ := he
      exact .inl ⟨g, x, y, rfl, hy⟩)
  show execSs (call P n) (.forr (.nm 2) (.itk .rng1 [.var 1]) _ :: [.ret (.ite (.cmp .isN (.call "first_doing" [.var 0]) (.cst (.non))) (.var 0) (.cst (.non)))]) [.va t.d, .va (.int m), .un, .un] = _
  rw [exs_cons, h1]
  rcases h2 with ⟨g, x, y, rfl, hy⟩ | ⟨u, e, rfl⟩
  · have hh := H m (Nat.le_refl _) g
    have fe := first_ev (sq m t) n (by omega)
    have e := dn_sq m m t (Nat.le_refl _) g
    rw [Nat.sub_self, dn] at e
    by_cases q : (sq m t).nx = []
    · rw [if_pos q] at e
      rw [nx_head q] at fe
      simp [fe, e, oD]
    · rw [if_neg q] at e
      rw [hd_head q] at fe
      simp [fe, e, oD]
  · simp [e, oD]
theorem alike_ev {n m : Nat} {t u : T} (hm : m ≤ 1000) (hn : 191 ≤ n) (H : ∀ i ≤ m, (∀ j < i, (sq j t).nx ≠ []) → (sq i t).h ≤ 90) (H2 : dn m t ≠ none → ∀ i ≤ m, (∀ j < i, (sq j u).nx ≠ []) → (sq i u).h ≤ 90)
    (D1 : ∀ x, dn m t = some x → x.h ≤ 90) (D2 : dn m t ≠ none → ∀ x, dn m u = some x → x.h ≤ 90) : call P (n + 1) "done_alike" [t.d, u.d, .int m] = some (.bl (match dn m t with | none => false | some x => decide (some x = dn m u))) := by
  refine call_rt (fn := f_done_alike) rfl rfl ?_
  obtain ⟨k, rfl⟩ : ∃ k, n = k + 1 := ⟨n - 1, by omega⟩
  have e1 := done_ev (n := k) hm (by omega) H
  cases a : dn m t with
  | none =>
    rw [a] at e1
    simp [f_done_alike, envOf, e1, oD, asgFresh, sink, noOw, leak, leaks, leakEl, fresh]
  | some x =>
    have nn : dn m t ≠ none := by rw [a]; simp
    have e2 := done_ev (n := k) hm (by omega) (H2 nn)
    have d1 := D1 x a
    rw [a] at e1
    cases b : dn m u with
    | none =>
      rw [b] at e2
      have q : cmpD .eq x.d .non = some false := by
        simp only [cmpD, eqD]
        rw [if_pos ⟨by rw [dep_d]; unfold dlim; omega, by simp [D.dep, dlim]⟩]
        cases x <;> rfl
      simp [f_done_alike, envOf, e1, e2, oD, asgFresh, sink, noOw, leak, leaks, leakEl, fresh, q]
    | some y =>
      have d2 := D2 nn y b
      rw [b] at e2
      have q : cmpD .eq x.d y.d = some (decide (x = y)) := by
        simp only [cmpD, eqD]
        rw [if_pos ⟨by rw [dep_d]; unfold dlim; omega, by rw [dep_d]; unfold dlim; omega⟩, deq_d]
      simp [f_done_alike, envOf, e1, e2, oD, asgFresh, sink, noOw, leak, leaks, leakEl, fresh, q]
theorem lcGo_map {α : Type} {f : D → Option (Option D)} {r w : α → D} {ts : List α} (h : ∀ t ∈ ts, f (r t) = some (some (w t))) : lcGo f (ts.map r) = some (ts.map w) := by
  induction ts with
  | nil => rfl
  | cons t ts ih => simp [lcGo, h t List.mem_cons_self, ih fun u hu => h u (List.mem_cons_of_mem _ hu)]
theorem ints_map {α : Type} (g : α → Int) : ∀ ts : List α, intsD (ts.map fun p => D.int (g p)) = some (ts.map g)
  | [] => rfl
  | t :: ts => by simp [intsD, ints_map g ts]
/-- what a run says -/
inductive Rs (t : T) : D → Prop
  | done (c : Nat) : c ≤ 12 → (∀ i < c, (sq i t).nx ≠ [] ∧ (sq i t).sz ≤ 90) → (sq c t).nx = [] → Rs t (.tup [.str [100, 111, 110, 101], (sq c t).d, .int (c : Nat)])
  | big (x : T) (c : Nat) : Rs t (.tup [.str [98, 105, 103], x.d, .int (c : Nat)])
  | busy : (∀ i < 13, (sq i t).nx ≠ [] ∧ (sq i t).sz ≤ 90) → Rs t (.tup [.str [98, 117, 115, 121], (sq 13 t).d, .int 12])
theorem sq_hz {t : T} (h0 : t.h ≤ 90) (z0 : t.sz ≤ 8100) : ∀ k : Nat, (∀ i < k, (sq i t).nx ≠ [] ∧ (sq i t).sz ≤ 90) → (sq k t).h ≤ 90 ∧ (sq k t).sz ≤ 8100
  | 0, _ => ⟨h0, z0⟩
  | k + 1, g => by
    obtain ⟨g1, g2⟩ := g k (by omega)
    rw [sq_succ]
    have m := hd_mem g1
    have a := nx_h m
    have b := nx_sz m
    exact ⟨by omega, Nat.le_trans b (Nat.le_trans (Nat.mul_le_mul g2 g2) (by decide))⟩
theorem run_ev {n : Nat} {t : T} (hn : 200 ≤ n) (h0 : t.h ≤ 90) (z0 : t.sz ≤ 8100) : ∃ d, Rs t d ∧ call P (n + 1) "_law_run" [t.d, .int 12, .bl false] = some d := by
  have ld : ∀ (u : T), ¬ u.nx = [] → ∃ lo : Int, minI ((dz 0 u).map fun p => (p.1 : Int)) = some lo := fun u hu => by
    cases e : dz 0 u with
    | nil => exact absurd (by rw [← dz_snd u 0, e]; rfl) hu
    | cons p ps => exact ⟨_, rfl⟩
  obtain ⟨o, h1, h2⟩ := for_rng (cf := call P n) (i := 3) (b := .bin .add (.var 1) (.cst (.int 1))) (env := [.va t.d, .va (.int 12), .va (.bl false), .un, .un, .un, .un, .un, .un]) (body := [.asg (.nm 4) (.call "_law_doings" [.var 0, .cst (.int 0)]), .ife (.cmp .eq (.blt .len [.var 4]) (.cst (.int 0))) [.ret (.tup [.cst (.str [100, 111, 110, 101]), .var 0, .var 3])] [], .ife (.cmp .gt (.call "_law_marks" [.var 0]) (.cst (.int 90))) [.ret (.tup [.cst (.str [98, 105, 103]), .var 0, .var 3])] [], .asg (.nm 5) (.blt .min [.lc (.tp [.nm 6, .nm 7]) (.var 4) (.cst (.bl true)) (.var 6) [6, 7]]), .asg (.nm 8) (.lc (.tp [.nm 6, .nm 7]) (.var 4) (.or (.cmp .eq (.var 6) (.var 5)) (.not (.var 2))) (.var 7) [6, 7]), .asg (.nm 0) (.ix (.var 8) (.cst (.int 0)))]) (many := 13)
    (fun k e => (∀ i < k, (sq i t).nx ≠ [] ∧ (sq i t).sz ≤ 90) ∧ ∃ a b c d : Slot, e = [.va (sq k t).d, .va (.int 12), .va (.bl false), a, b, c, .un, .un, d])
    (fun o => (∃ d, Rs t d ∧ o = .rt d) ∨ ((∀ i < 13, (sq i t).nx ≠ [] ∧ (sq i t).sz ≤ 90) ∧ ∃ a b c d : Slot, o = .nx [.va (sq 13 t).d, .va (.int 12), .va (.bl false), a, b, c, .un, .un, d]))
    (by simp) (by decide) (by simp [noOw, leak, leakEl]) ⟨fun j hj => by omega, .un, .un, .un, .un, rfl⟩ (fun k e hk he => by
      obtain ⟨g, a, b, c, d, rfl⟩ := he
      obtain ⟨hh, hz⟩ := sq_hz h0 z0 k g
      have e1 := doings_ev (sq k t) n 0 (by omega) (by omega)
      have e2 := marks_ev (sq k t) n (by omega)
      have ln : (dz 0 (sq k t)).length = (sq k t).nx.length := by rw [← dz_snd (sq k t) 0, List.length_map]
      simp at e1
      by_cases e : (sq k t).nx = []
      · refine ⟨.rt (.tup [.str [100, 111, 110, 101], (sq k t).d, .int (k : Nat)]), ?_, .inl ⟨_, .done k (by omega) g e, rfl⟩⟩
        rw [e] at ln
        have : dz 0 (sq k t) = [] := List.length_eq_zero_iff.mp ln
        rw [this] at e1
        simp [e1, bltD, asgFresh, sink, noOw, leak, leaks, fresh]
      · have l0 : ¬ ((dz 0 (sq k t)).length = 0) := by
          rw [ln]
          exact fun z => e (List.length_eq_zero_iff.mp z)
        have l1 : ¬ (dz 0 (sq k t) = []) := fun z => l0 (by rw [z]; rfl)
        by_cases q : 90 < (sq k t).sz
        · refine ⟨.rt (.tup [.str [98, 105, 103], (sq k t).d, .int (k : Nat)]), ?_, .inl ⟨_, .big _ k, rfl⟩⟩
          have q' : (90 : Int) < ((sq k t).sz : Int) := by omega
          simp [e1, e2, bltD, asgFresh, sink, noOw, leak, leaks, fresh, l0, l1, q']
        · obtain ⟨lo, hlo⟩ := ld _ e
          have w1 : ∀ env : En, (∃ a b c d e f g, env = [a, b, c, d, e, f, .un, .un, g]) → lcGo (lcF (call P n) (.tp [.nm 6, .nm 7]) (.cst (.bl true)) (.var 6) env) ((dz 0 (sq k t)).map pd) = some ((dz 0 (sq k t)).map fun p => D.int (p.1 : Int)) := fun env he => by
            obtain ⟨a, b, c, d, e, f, g, rfl⟩ := he
            exact lcGo_map fun p _ => by simp [lcF, asgT, asgTs, pd]
          have w2 : ∀ env : En, (∃ a b d e f g, env = [a, b, .va (.bl false), d, e, .va (.int f), .un, .un, g]) → lcGo (lcF (call P n) (.tp [.nm 6, .nm 7]) (.or (.cmp .eq (.var 6) (.var 5)) (.not (.var 2))) (.var 7) env) ((dz 0 (sq k t)).map pd) = some ((dz 0 (sq k t)).map fun p => p.2.d) := fun env he => by
            obtain ⟨a, b, d, e, f, g, rfl⟩ := he
            refine lcGo_map fun p _ => ?_
            by_cases z : (p.1 : Int) = f <;> simp [lcF, asgT, asgTs, pd, z]
          have w3 : (dz 0 (sq k t)).map (fun p => p.2.d) = (sq k t).nx.map T.d := by
            rw [← dz_snd (sq k t) 0, List.map_map]
            rfl
          have w4 : ∃ xs, (sq k t).nx.map T.d = (hd (sq k t)).d :: xs := by
            unfold hd
            cases e5 : (sq k t).nx with
            | nil => exact absurd e5 e
            | cons x xs => exact ⟨xs.map T.d, rfl⟩
          obtain ⟨xs, w4⟩ := w4
          refine ⟨.nx [.va (sq (k + 1) t).d, .va (.int 12), .va (.bl false), .va (.int k), .va (.lst ((dz 0 (sq k t)).map pd)), .va (.int lo), .un, .un, .ow (.lst ((sq k t).nx.map T.d))], ?_, ⟨fun j hj => ?_, _, _, _, _, rfl⟩⟩
          · have q' : ¬ (90 : Int) < ((sq k t).sz : Int) := by omega
            rw [sq_succ]
            simp [e1, e2, bltD, asgFresh, sink, noOw, leak, leaks, leakEl, fresh, isCell, l0, l1, q', itemsD, wipeE, w1, w2, w3, w4, ints_map, hlo, flat_d]
          · by_cases z : j = k
            · subst z; exact ⟨e, by omega⟩
            · exact g j (by omega)) (fun e he => by
      obtain ⟨g, a, b, c, d, rfl⟩ := he
      exact .inr ⟨g, a, b, c, d, rfl⟩)
  rcases h2 with ⟨d, r, rfl⟩ | ⟨g, a, b, c, d, rfl⟩
  · refine ⟨d, r, call_rt (fn := f__law_run) rfl rfl ?_⟩
    show execSs (call P n) (.forr (.nm 3) (.itk .rng1 [.bin .add (.var 1) (.cst (.int 1))]) _ :: _) [.va t.d, .va (.int 12), .va (.bl false), .un, .un, .un, .un, .un, .un] = _
    rw [exs_cons, h1]
    rfl
  · refine ⟨_, .busy g, call_rt (fn := f__law_run) rfl rfl ?_⟩
    show execSs (call P n) (.forr (.nm 3) (.itk .rng1 [.bin .add (.var 1) (.cst (.int 1))]) _ :: [.ret (.tup [.cst (.str [98, 117, 115, 121]), .var 0, .var 1])]) [.va t.d, .va (.int 12), .va (.bl false), .un, .un, .un, .un, .un, .un] = _
    rw [exs_cons, h1]
    simp
end Rk
set_option maxHeartbeats 1000000
namespace Rk
open PySem
theorem doing_ev {r : List Int} (hr : r.length = 70) : ∀ (deep n at_ spot free : Nat), deep < n → at_ + (spot + 2) * 2 ^ deep ≤ 71 → ∃ t : T, t.sz + 2 ≤ 2 ^ (deep + 2) ∧ call P n "_law_doing" [DL r, .int at_, .int spot, .int deep, .int free] = some t.d
  | _, 0, _, _, _, h, _ => by omega
  | deep, n + 1, at_, spot, free, h, hb => by
    have p1 : 1 ≤ 2 ^ deep := Nat.one_le_two_pow
    have hi : at_ + spot < r.length := by
      have : (spot + 2) * 1 ≤ (spot + 2) * 2 ^ deep := Nat.mul_le_mul_left _ p1
      omega
    have ix : atD (r.map D.int) ((at_ : Int) + (spot : Int)) = some (.int r[at_ + spot]) := by
      rw [show ((at_ : Int) + (spot : Int)) = ((at_ + spot : Nat) : Int) by omega, atD_nat, List.getElem?_map, List.getElem?_eq_getElem hi]
      rfl
    generalize r[at_ + spot] = cell at ix
    have m6 : ∀ x : Int, binD .mod (.int x) (.int 6) = some (.int (x % 6)) := fun x => mod_pos (by decide)
    have d6 : ∀ x : Int, binD .fdiv (.int x) (.int 6) = some (.int (x / 6)) := fun x => fdiv_pos (by decide) (by decide)
    have s2 : small64 2 = true := small_of (by decide) (by decide)
    have t2 : ∀ x : Int, binD .mul (.int 2) (.int x) = some (.int (2 * x)) := fun x => mul_small (.inl s2)
    have pos : 4 ≤ 2 ^ (deep + 2) := by rw [Nat.pow_add]; omega
    by_cases z : deep = 0 ∨ cell % 6 = 0
    · have z' : ((deep : Int) = 0 ∨ cell % 6 = 0) := z.imp (fun q => by omega) id
      by_cases hf : free = 0
      · subst hf
        refine ⟨.f (.v 0), by simp [T.sz]; omega, call_rt (fn := f__law_doing) rfl rfl ?_⟩
        rcases z with z | z <;> by_cases q : deep = 0 <;> simp [f__law_doing, q, envOf, DL, ix, bltD, asgFresh, sink, noOw, leak, leaks, leakEl, leaksEl, fresh, m6, z, T.d]
      · have hm : 0 < (free : Int) := by omega
        have e : ∃ k : Nat, cell / 6 % (free : Int) = k := ⟨(cell / 6 % free).toNat, by have := Int.emod_nonneg (cell / 6) (show (free : Int) ≠ 0 by omega); omega⟩
        obtain ⟨k, e⟩ := e
        have hf' : 0 < free := by omega
        refine ⟨.v k, by simp [T.sz]; omega, call_rt (fn := f__law_doing) rfl rfl ?_⟩
        rcases z with z | z <;> by_cases q : deep = 0 <;> simp [f__law_doing, q, envOf, DL, ix, bltD, asgFresh, sink, noOw, leak, leaks, leakEl, leaksEl, fresh, m6, d6, z, T.d, hf, hf', hm, mod_pos hm, e]
    · obtain ⟨dd, rfl⟩ : ∃ dd, deep = dd + 1 := ⟨deep - 1, by omega⟩
      have zk : ¬ cell % 6 = 0 := fun q => z (.inr q)
      have zd : ¬ ((dd : Int) + 1 = 0) := by omega
      rw [Nat.pow_succ] at hb
      have b1 : at_ + (2 * spot + 1 + 2) * 2 ^ dd ≤ 71 := by
        have q1 : (2 * spot + 1 + 2) * 2 ^ dd ≤ (2 * spot + 4) * 2 ^ dd := Nat.mul_le_mul_right _ (by omega)
        have q2 : (2 * spot + 4) * 2 ^ dd = (spot + 2) * (2 ^ dd * 2) := by rw [show 2 * spot + 4 = (spot + 2) * 2 by omega, Nat.mul_assoc, Nat.mul_comm 2]
        omega
      have b2 : at_ + (2 * spot + 2 + 2) * 2 ^ dd ≤ 71 := by
        have q2 : (2 * spot + 2 + 2) * 2 ^ dd = (spot + 2) * (2 ^ dd * 2) := by rw [show 2 * spot + 2 + 2 = (spot + 2) * 2 by omega, Nat.mul_assoc, Nat.mul_comm 2]
        omega
      obtain ⟨u1, v1, w1⟩ := doing_ev hr dd n at_ (2 * spot + 1) (free + 1) (by omega) b1
      obtain ⟨u2, v2, w2⟩ := doing_ev hr dd n at_ (2 * spot + 2) free (by omega) b2
      obtain ⟨u3, v3, w3⟩ := doing_ev hr dd n at_ (2 * spot + 1) free (by omega) b1
      have p2 : 2 ^ (dd + 1 + 2) = 2 ^ (dd + 2) * 2 := Nat.pow_succ ..
      simp [DL] at w1 w2 w3
      have ss : (dd : Int) + 1 - 1 = dd := by omega
      by_cases k3 : cell % 6 < 3
      · refine ⟨.f u1, by simp only [T.sz]; omega, call_rt (fn := f__law_doing) rfl rfl ?_⟩
        simp [f__law_doing, envOf, DL, ix, bltD, asgFresh, sink, noOw, leak, leaks, leakEl, leaksEl, fresh, m6, d6, zk, zd, k3, t2, ss, w1, T.d]
      · by_cases k4 : cell % 6 = 3
        · refine ⟨.a u3 u2, by simp only [T.sz]; omega, call_rt (fn := f__law_doing) rfl rfl ?_⟩
          simp [f__law_doing, envOf, DL, ix, bltD, asgFresh, sink, noOw, leak, leaks, leakEl, leaksEl, fresh, m6, d6, zk, zd, k3, k4, t2, ss, w1, w2, w3, flat_d, T.d]
        · refine ⟨.a (.f u1) u2, by simp only [T.sz]; omega, call_rt (fn := f__law_doing) rfl rfl ?_⟩
          simp [f__law_doing, envOf, DL, ix, bltD, asgFresh, sink, noOw, leak, leaks, leakEl, leaksEl, fresh, m6, d6, zk, zd, k3, k4, t2, ss, w1, w2, w3, flat_d, T.d]
theorem eq_d {x y : T} (hx : x.h ≤ 90) (hy : y.h ≤ 90) : cmpD .eq x.d y.d = some (decide (x = y)) := by
  simp only [cmpD, eqD]
  rw [if_pos ⟨by rw [dep_d]; unfold dlim; omega, by rw [dep_d]; unfold dlim; omega⟩, deq_d]
theorem slD_take (ds : List D) (n : Nat) : slD (.lst ds) none (some (n : Int)) = some (.lst (ds.take n)) := by
  have : ¬ ((n : Int) < 0) := by omega
  simp [slD, cut, sx, clip, this]
theorem ends_ev {n : Nat} {t u : T} (hn : 210 ≤ n) (zt : t.sz ≤ 90) (zu : u.sz ≤ 90) : call P (n + 1) "_law_ends_right" [t.d, u.d] = some (.bl true) := by
  obtain ⟨m, rfl⟩ : ∃ m, n = m + 1 := ⟨n - 1, by omega⟩
  have h0 : t.h ≤ 90 := by have := h_sz t; omega
  have hu : u.h ≤ 90 := by have := h_sz u; omega
  obtain ⟨d, rs, e1⟩ := run_ev (n := m) (t := t) (by omega) h0 (by omega)
  refine call_rt (fn := f__law_ends_right) rfl rfl ?_
  cases rs with
  | big x c => simp [f__law_ends_right, envOf, e1, asgFresh, sink, noOw, leak, leaks, fresh]
  | busy g =>
    have n12 : dn 12 t = none := dn_none 12 t fun i hi => (g i (by omega)).1
    have H : ∀ i ≤ 12, (∀ j < i, (sq j t).nx ≠ []) → (sq i t).h ≤ 90 := fun i hi _ => (sq_hz h0 (by omega) i fun j hj => g j (by omega)).1
    have d1 := done_ev (n := m) (m := 12) (t := t) (by omega) (by omega) H
    have d2 := alike_ev (n := m) (m := 12) (t := t) (u := t) (by omega) (by omega) H (fun z => absurd n12 z) (fun x hx => by rw [n12] at hx; cases hx) (fun z => absurd n12 z)
    rw [n12] at d1 d2
    simp at d1 d2
    simp [f__law_ends_right, envOf, e1, d1, d2, oD, asgFresh, sink, noOw, leak, leaks, fresh]
  | done c hc g e0 =>
    have ci : ∀ i, (∀ j < i, (sq j t).nx ≠ []) → i ≤ c := fun i h => Nat.le_of_not_lt fun z => h c z e0
    have H : ∀ m, ∀ i ≤ m, (∀ j < i, (sq j t).nx ≠ []) → (sq i t).h ≤ 90 := fun m i _ h => (sq_hz h0 (by omega) i fun j hj => g j (by have := ci i h; omega)).1
    have gn : ∀ i < c, (sq i t).nx ≠ [] := fun i hi => (g i hi).1
    have Nh : (sq c t).h ≤ 90 := H c c (Nat.le_refl _) gn
    have s40 : dn 40 t = some (sq c t) := dn_some c 40 t (by omega) gn e0
    have s12 : dn 12 t = some (sq c t) := dn_some c 12 t hc gn e0
    have sc : dn c t = some (sq c t) := dn_some c c t (Nat.le_refl _) gn e0
    have d40 := done_ev (n := m) (m := 40) (t := t) (by omega) (by omega) (H 40)
    have dc := done_ev (n := m) (m := c) (t := t) (by omega) (by omega) (H c)
    rw [s40] at d40
    rw [sc] at dc
    have lk : call P (m + 1) "_law_like" [.tup [(sq c t).d, (sq c t).d], .tup [(sq c t).d, (sq c t).d]] = some (.bl true) := by
      have := like_self hlp 93 (m + 1 - 95) (.tup [(sq c t).d, (sq c t).d]) (by
        refine ⟨by simp, fun x hx => ?_⟩
        simp only [List.mem_cons, List.not_mem_nil, or_false, or_self] at hx
        subst hx
        exact Lk.mono (show (sq c t).h + 1 ≤ 92 by omega) (lk_d _))
      rwa [show 93 + 2 + (m + 1 - 95) = m + 1 by omega] at this
    have dc1 : ∀ c', c = c' + 1 → call P (m + 1) "done" [t.d, .int (c' : Nat)] = some .non := fun c' hc' => by
      have q := done_ev (n := m) (m := c') (t := t) (by omega) (by omega) (H c')
      rw [dn_none c' t fun i hi => gn i (by omega)] at q
      exact q
    have ed := doings_ev t (m + 1) 0 (by omega) (by omega)
    simp at ed
    have w : ∀ env : En, (∃ a b c d e, env = [a, b, c, d, .un, .un, e]) → lcGo (lcF (call P (m + 1)) (.tp [.nm 4, .nm 5]) (.cst (.bl true)) (.var 5) env) ((dz 0 t).map pd) = some (t.nx.map T.d) := fun env he => by
      obtain ⟨a, b, c, d, e, rfl⟩ := he
      rw [← dz_snd t 0, List.map_map]
      exact lcGo_map fun p _ => by simp [lcF, asgT, asgTs, pd]
    -- the parts that the walk passes
    have body : ∀ v ∈ t.nx, ∀ x : Slot, execSs (call P (m + 1)) [.ife (.and (.cmp .eq (.ix (.call "_law_run" [.var 3, .cst (.int 12), .cst (.bl false)]) (.cst (.int 0))) (.cst (.str [100, 111, 110, 101]))) (.cmp .isNotB (.call "done_alike" [.var 0, .var 3, .cst (.int 12)]) (.cst (.bl true)))) [.ret (.cst (.bl false))] []] [.va t.d, .va u.d, .va (.tup [.str [100, 111, 110, 101], (sq c t).d, .int (c : Nat)]), .va v.d, .un, .un, .un] = some (.nx [.va t.d, .va u.d, .va (.tup [.str [100, 111, 110, 101], (sq c t).d, .int (c : Nat)]), .va v.d, .un, .un, .un]) := fun v hv x => by
      have vh : v.h ≤ 90 := by have := nx_h hv; omega
      have vz : v.sz ≤ 8100 := Nat.le_trans (nx_sz hv) (Nat.le_trans (Nat.mul_le_mul zt zt) (by decide))
      obtain ⟨d, rs, ev⟩ := run_ev (n := m) (t := v) (by omega) vh vz
      cases rs with
      | big y k => simp [ev]
      | busy g => simp [ev]
      | done k hk gv ev0 =>
        have ck : ∀ i, (∀ j < i, (sq j v).nx ≠ []) → i ≤ k := fun i h => Nat.le_of_not_lt fun z => h k z ev0
        have vs : dn 12 v = some (sq k v) := dn_some k 12 v hk (fun i hi => (gv i hi).1) ev0
        have same : sq c t = sq k v := unique_nf (sq_way c t gn) e0 (.cons (nx_par hv) (sq_way k v fun i hi => (gv i hi).1)) ev0
        have Hv : ∀ i ≤ 12, (∀ j < i, (sq j v).nx ≠ []) → (sq i v).h ≤ 90 := fun i _ h => (sq_hz vh vz i fun j hj => gv j (by have := ck i h; omega)).1
        have al := alike_ev (n := m) (m := 12) (t := t) (u := v) (by omega) (by omega) (H 12) (fun _ => Hv) (fun x hx => by rw [s12] at hx; cases hx; exact Nh) (fun _ x hx => by rw [vs] at hx; cases hx; rw [← same]; exact Nh)
        rw [s12, vs] at al
        simp [same] at al
        simp [ev, al]
    obtain ⟨o, f1, x, rfl⟩ := forGo_inv (body := fun e => execSs (call P (m + 1)) [.ife (.and (.cmp .eq (.ix (.call "_law_run" [.var 3, .cst (.int 12), .cst (.bl false)]) (.cst (.int 0))) (.cst (.str [100, 111, 110, 101]))) (.cmp .isNotB (.call "done_alike" [.var 0, .var 3, .cst (.int 12)]) (.cst (.bl true)))) [.ret (.cst (.bl false))] []] e) (t := .nm 3)
      (fun _ e => ∃ x : Slot, e = [.va t.d, .va u.d, .va (.tup [.str [100, 111, 110, 101], (sq c t).d, .int (c : Nat)]), x, .un, .un, .un]) (fun o => ∃ x : Slot, o = .nx [.va t.d, .va u.d, .va (.tup [.str [100, 111, 110, 101], (sq c t).d, .int (c : Nat)]), x, .un, .un, .un])
      ((t.nx.map T.d).take 4) 0 [.va t.d, .va u.d, .va (.tup [.str [100, 111, 110, 101], (sq c t).d, .int (c : Nat)]), .un, .un, .un, .un] ⟨_, rfl⟩ (fun i y e hy he => by
        obtain ⟨x, rfl⟩ := he
        have hm : y ∈ t.nx.map T.d := List.mem_of_mem_take (List.mem_of_getElem? hy)
        obtain ⟨v, hv, rfl⟩ := List.mem_map.mp hm
        exact ⟨_, _, by simp only [asgT]; rfl, body v hv x, _, rfl⟩) (fun e he => by
        obtain ⟨x, rfl⟩ := he
        exact ⟨x, rfl⟩)
    have tail : execSs (call P (m + 1)) [.asg (.nm 6) (.call "_law_run" [.var 1, .cst (.int 12), .cst (.bl false)]),
        .ife (.cmp .ne (.ix (.var 6) (.cst (.int 0))) (.cst (.str [100, 111, 110, 101]))) [.ret (.cst (.bl true))] [],
        .ret (.call "_law_like" [.call "done_alike" [.var 0, .var 1, .cst (.int 12)], .cmp .eq (.ix (.var 6) (.cst (.int 1))) (.ix (.var 2) (.cst (.int 1)))])] [.va t.d, .va u.d, .va (.tup [.str [100, 111, 110, 101], (sq c t).d, .int (c : Nat)]), x, .un, .un, .un] = some (.rt (.bl true)) := by
      obtain ⟨d, rs, ev⟩ := run_ev (n := m) (t := u) (by omega) hu (by omega)
      cases rs with
      | big y k => simp [ev, asgFresh, sink, noOw, leak, leaks, fresh]
      | busy g => simp [ev, asgFresh, sink, noOw, leak, leaks, fresh]
      | done k hk gv ev0 =>
        have ck : ∀ i, (∀ j < i, (sq j u).nx ≠ []) → i ≤ k := fun i h => Nat.le_of_not_lt fun z => h k z ev0
        have vs : dn 12 u = some (sq k u) := dn_some k 12 u hk (fun i hi => (gv i hi).1) ev0
        have Hv : ∀ i ≤ 12, (∀ j < i, (sq j u).nx ≠ []) → (sq i u).h ≤ 90 := fun i _ h => (sq_hz hu (by omega) i fun j hj => gv j (by have := ck i h; omega)).1
        have uh : (sq k u).h ≤ 90 := Hv k (by omega) fun i hi => (gv i hi).1
        have al := alike_ev (n := m) (m := 12) (t := t) (u := u) (by omega) (by omega) (H 12) (fun _ => Hv) (fun x hx => by rw [s12] at hx; cases hx; exact Nh) (fun _ x hx => by rw [vs] at hx; cases hx; exact uh)
        rw [s12, vs] at al
        have lb : call P (m + 1) "_law_like" [.bl (decide (sq c t = sq k u)), .bl (decide (sq c t = sq k u))] = some (.bl true) := by
          have := like_self hlp 0 (m + 1 - 2) (.bl (decide (sq c t = sq k u))) (by simp [Lk])
          rwa [show 0 + 2 + (m + 1 - 2) = m + 1 by omega] at this
        have sy : decide (sq k u = sq c t) = decide (sq c t = sq k u) := by
          by_cases z : sq c t = sq k u
          · simp [z]
          · simp [z, Ne.symm z]
        simp at al
        simp [ev, al, asgFresh, sink, noOw, leak, leaks, fresh, eq_d uh Nh, sy, lb]
    have front : ∀ rest : List MS, execSs (call P (m + 1)) ([.asg (.nm 2) (.call "_law_run" [.var 0, .cst (.int 12), .cst (.bl false)]),
        .ife (.cmp .eq (.ix (.var 2) (.cst (.int 0))) (.cst (.str [98, 117, 115, 121]))) [.ret (.and (.cmp .isN (.call "done" [.var 0, .cst (.int 12)]) (.cst (.non))) (.cmp .isB (.call "done_alike" [.var 0, .var 0, .cst (.int 12)]) (.cst (.bl false))))] [],
        .ife (.cmp .ne (.ix (.var 2) (.cst (.int 0))) (.cst (.str [100, 111, 110, 101]))) [.ret (.cst (.bl true))] [],
        .ife (.not (.call "_law_like" [.tup [.call "done" [.var 0, .cst (.int 40)], .call "done" [.var 0, .ix (.var 2) (.cst (.int 2))]], .tup [.ix (.var 2) (.cst (.int 1)), .ix (.var 2) (.cst (.int 1))]])) [.ret (.cst (.bl false))] [],
        .ife (.and (.cmp .gt (.ix (.var 2) (.cst (.int 2))) (.cst (.int 0))) (.cmp .isNotN (.call "done" [.var 0, .bin .sub (.ix (.var 2) (.cst (.int 2))) (.cst (.int 1))]) (.cst (.non)))) [.ret (.cst (.bl false))] []] ++ rest) (envOf f__law_ends_right [t.d, u.d]) = execSs (call P (m + 1)) rest [.va t.d, .va u.d, .va (.tup [.str [100, 111, 110, 101], (sq c t).d, .int (c : Nat)]), .un, .un, .un, .un] := fun rest => by
      simp at d40
      cases c with
      | zero =>
        simp at e1 dc
        simp [f__law_ends_right, envOf, e1, asgFresh, sink, noOw, leak, leaks, fresh, d40, dc, lk, oD]
      | succ c' =>
        have q := dc1 c' rfl
        have z : (0 : Int) < (c' : Int) + 1 := by omega
        simp at e1 dc q
        simp [f__law_ends_right, envOf, e1, asgFresh, sink, noOw, leak, leaks, fresh, d40, dc, lk, oD, q, z]
    refine (front (f__law_ends_right.body.drop 5)).trans ?_
    show execSs (call P (m + 1)) (.forr (.nm 3) (.slH (.lc (.tp [.nm 4, .nm 5]) (.call "_law_doings" [.var 0, .cst (.int 0)]) (.cst (.bl true)) (.var 5) [4, 5]) (.cst (.int 4))) _ :: _) _ = _
    have it : evalE (call P (m + 1)) (.slH (.lc (.tp [.nm 4, .nm 5]) (.call "_law_doings" [.var 0, .cst (.int 0)]) (.cst (.bl true)) (.var 5) [4, 5]) (.cst (.int 4))) [.va t.d, .va u.d, .va (.tup [.str [100, 111, 110, 101], (sq c t).d, .int (c : Nat)]), .un, .un, .un, .un] = some (.lst ((t.nx.map T.d).take 4)) := by
      have q := slD_take (t.nx.map T.d) 4
      simp at q
      simp [ed, itemsD, noOw, leakEl, leaks, leak, wipeE, w, q]
    rw [exs_cons, ex_forr, it, Option.bind_some]
    simp only [itemsD, Option.bind_some]
    rw [if_pos (by simp [noOw, leak, leakEl]), f1]
    exact tail
theorem like_k {n : Nat} (hn : 100 ≤ n) {d : D} (h : Lk 97 d) : call P n "_law_like" [d, d] = some (.bl true) := by
  have := like_self hlp 97 (n - 99) d h
  rwa [show 97 + 2 + (n - 99) = n by omega] at this
theorem lk_T {t : T} (h : t.h ≤ 90) : Lk 96 t.d := Lk.mono (show t.h + 1 ≤ 96 by omega) (lk_d t)
theorem lk_T7 {t : T} (h : t.h ≤ 90) : Lk 97 t.d := Lk.mono (show t.h + 1 ≤ 97 by omega) (lk_d t)
theorem lk_tup {ds : List D} (hl : ds.length ≤ 100000) (h : ∀ x ∈ ds, Lk 96 x) : Lk 97 (.tup ds) := ⟨hl, h⟩
/-! ### for ever -/
def tw : T := .f (.a (.v 0) (.v 0))
def ev : T := .a tw tw
theorem ev_nx : ev.nx = [ev] := rfl
theorem ev_sq : ∀ i : Nat, sq i ev = ev
  | 0 => rfl
  | i + 1 => ev_sq i
theorem ev_dn (m : Nat) : dn m ev = none := dn_none m ev fun i _ => by rw [ev_sq, ev_nx]; simp
def aw (k : Nat) : T := .a (.a (.f (.f (.v 1))) (.v k)) ev
theorem aw_1 (k : Nat) : hd (aw k) = .a (.f (.v (k + 1))) ev := by
  simp [hd, aw, T.nx, rdx, sb, lft]
theorem aw_2 (k : Nat) : hd (.a (.f (.v (k + 1))) ev) = .v k := by
  simp [hd, T.nx, rdx, sb, lft]
theorem aw_n (k : Nat) : (aw k).nx ≠ [] := by simp [aw, T.nx, rdx]
theorem aw_n1 (k : Nat) : (T.a (.f (.v (k + 1))) ev).nx ≠ [] := by simp [T.nx, rdx]
theorem aw_h (k : Nat) : ∀ i ≤ 5, (∀ j < i, (sq j (aw k)).nx ≠ []) → (sq i (aw k)).h ≤ 90
  | 0, _, _ => by simp [sq, aw, ev, tw, T.h]
  | 1, _, _ => by simp [sq, aw_1, ev, tw, T.h]
  | 2, _, _ => by simp [sq, aw_1, aw_2, T.h]
  | i + 3, _, h => by
    have := h 2 (by omega)
    simp [sq, aw_1, aw_2, T.nx] at this
theorem aw_d1 (k : Nat) : dn 1 (aw k) = none := by simp [dn, aw_n, aw_1, aw_n1]
theorem aw_d2 (k : Nat) (m : Nat) : dn (m + 2) (aw k) = some (.v k) := by
  rw [dn, if_neg (aw_n k), dn, aw_1, if_neg (aw_n1 k), aw_2]
  cases m <;> simp [dn, T.nx]
theorem ever_ev {n : Nat} {r : List Int} (hr : r.length = 70) (t : D) (hn : 205 ≤ n) : call P (n + 1) "_law_for_ever" [DL r, t] = some (.bl true) := by
  obtain ⟨k, hk⟩ : ∃ k : Nat, (r[62]'(by omega)) % 9 = k := ⟨((r[62]'(by omega)) % 9).toNat, by omega⟩
  obtain ⟨j, hj⟩ : ∃ j : Nat, (r[63]'(by omega)) % 5 = j := ⟨((r[63]'(by omega)) % 5).toNat, by omega⟩
  have k9 : k < 9 := by omega
  obtain ⟨m, rfl⟩ : ∃ m, n = m + 1 := ⟨n - 1, by omega⟩
  have i62 : atD (r.map D.int) 62 = some (.int (r[62]'(by omega))) := by
    rw [show (62 : Int) = ((62 : Nat) : Int) from rfl, atD_nat, List.getElem?_map, List.getElem?_eq_getElem (by omega)]
    rfl
  have i63 : atD (r.map D.int) 63 = some (.int (r[63]'(by omega))) := by
    rw [show (63 : Int) = ((63 : Nat) : Int) from rfl, atD_nat, List.getElem?_map, List.getElem?_eq_getElem (by omega)]
    rfl
  generalize r[62]'(by omega) = x62 at i62 hk
  generalize r[63]'(by omega) = x63 at i63 hj
  have evh : ev.h ≤ 90 := by decide
  have He : ∀ m, ∀ i ≤ m, (∀ j < i, (sq j ev).nx ≠ []) → (sq i ev).h ≤ 90 := fun m i _ _ => by rw [ev_sq]; exact evh
  have a1 := nextd_ev ev (m + 1) (by have : ev.h = 3 := rfl; omega) (by decide)
  have a2 := like_k (n := m + 1) (by omega) (lk_tup (ds := [ev.d]) (by simp) (fun x hx => by rw [List.mem_singleton] at hx; subst hx; exact lk_T evh))
  have a3 := done_ev (n := m) (m := k) (t := ev) (by omega) (by omega) (He k)
  have a4 := alike_ev (n := m) (m := 5) (t := ev) (u := ev) (by omega) (by omega) (He 5) (fun z => absurd (ev_dn 5) z) (fun x hx => by rw [ev_dn] at hx; cases hx) (fun z => absurd (ev_dn 5) z)
  have a5 := done_ev (n := m) (m := 0) (t := tw) (by omega) (by omega) (fun i hi _ => by have e : i = 0 := (by omega); subst e; decide)
  have a6 := like_k (n := m + 1) (by omega) (lk_T7 (t := tw) (by decide))
  have a7 := done_ev (n := m) (m := 2) (t := aw j) (by omega) (by omega) (fun i hi g => aw_h j i (by omega) g)
  have a8 := like_k (n := m + 1) (by omega) (lk_T7 (t := .v j) (by simp [T.h]))
  have a9 := done_ev (n := m) (m := 1) (t := aw j) (by omega) (by omega) (fun i hi g => aw_h j i (by omega) g)
  have vn : ∀ i, (∀ q < i, (sq q (T.v j)).nx ≠ []) → i = 0 := fun i h => by
    cases i with
    | zero => rfl
    | succ i => exact absurd rfl (h 0 (by omega))
  have vd : dn 5 (T.v j) = some (.v j) := by simp [dn, T.nx]
  have a10 := alike_ev (n := m) (m := 5) (t := aw j) (u := .v j) (by omega) (by omega) (aw_h j) (fun _ i _ h => by rw [vn i h]; simp [sq, T.h])
    (fun x hx => by rw [aw_d2 j 3] at hx; cases hx; simp [T.h]) (fun _ x hx => by rw [vd] at hx; cases hx; simp [T.h])
  have a11 := like_k (n := m + 1) (by omega) (d := .bl true) (by simp [Lk])
  rw [ev_nx] at a1
  rw [ev_dn] at a3 a4
  rw [show dn 0 tw = some tw from rfl] at a5
  rw [aw_d2 j 0] at a7
  rw [aw_d1] at a9
  rw [aw_d2 j 3, vd] at a10
  have dtw : D.tup [.str [102, 117, 110], .tup [.str [97, 112, 112], .tup [.str [118, 97, 114], .int 0], .tup [.str [118, 97, 114], .int 0]]] = tw.d := rfl
  have dev : D.tup [.str [97, 112, 112], tw.d, tw.d] = ev.d := rfl
  have dv_ : D.tup [.str [118, 97, 114], .int (j : Nat)] = (T.v j).d := rfl
  have daw : D.tup [.str [97, 112, 112], .tup [.str [97, 112, 112], .tup [.str [102, 117, 110], .tup [.str [102, 117, 110], .tup [.str [118, 97, 114], .int 1]]], (T.v j).d], ev.d] = (aw j).d := rfl
  simp [oD] at a1 a3 a4 a5 a7 a9 a10
  refine call_rt (fn := f__law_for_ever) rfl rfl ?_
  have m9 : binD .mod (.int x62) (.int 9) = some (.int (k : Nat)) := by rw [mod_pos (by decide), hk]
  have m5 : binD .mod (.int x63) (.int 5) = some (.int (j : Nat)) := by rw [mod_pos (by decide), hj]
  simp [f__law_for_ever, envOf, DL, asgFresh, sink, noOw, leak, leaks, leakEl, leaksEl, fresh, bltD, i62, i63, m9, m5, dtw, dev, dv_, daw, a1, a2, a3, a4, a5, a6, a7, a8, a9, a10, a11]
end Rk
set_option maxHeartbeats 1000000
namespace Rk
open PySem
theorem law_ev {n : Nat} (hn : 212 ≤ n) (ns : List Int) : call P (n + 1) "law" [.lst (ns.map D.int)] = some (.bl true) := by
  obtain ⟨m, rfl⟩ : ∃ m, n = m + 2 := ⟨n - 2, by omega⟩
  obtain ⟨r, hr, er⟩ := row_ev hlp m ns 70 (by omega)
  have at_ : ∀ i : Nat, i < 70 → ∃ x : Int, atD (r.map D.int) (i : Int) = some (.int x) := fun i hi => by
    refine ⟨r[i]'(by omega), ?_⟩
    rw [atD_nat, List.getElem?_map, List.getElem?_eq_getElem (by omega)]
    rfl
  obtain ⟨x60, i60⟩ := at_ 60 (by omega)
  obtain ⟨x45, i45⟩ := at_ 45 (by omega)
  obtain ⟨x46, i46⟩ := at_ 46 (by omega)
  obtain ⟨x61, i61⟩ := at_ 61 (by omega)
  obtain ⟨free, hf⟩ : ∃ k : Nat, x60 % 4 = k := ⟨(x60 % 4).toNat, by omega⟩
  obtain ⟨num, hnm⟩ : ∃ k : Nat, 1 + x45 % 3 = k := ⟨(1 + x45 % 3).toNat, by omega⟩
  obtain ⟨dep, hdp⟩ : ∃ k : Nat, x46 % 3 = k := ⟨(x46 % 3).toNat, by omega⟩
  obtain ⟨t, zt, et⟩ := doing_ev hr 3 (m + 2) 0 0 free (by omega) (by decide)
  obtain ⟨u, zu, eu⟩ := doing_ev hr 2 (m + 2) 15 0 3 (by omega) (by decide)
  obtain ⟨o, zo, eo⟩ := doing_ev hr 2 (m + 2) 30 0 3 (by omega) (by decide)
  have zt : t.sz ≤ 30 := by omega
  have zu : u.sz ≤ 14 := by omega
  have zo : o.sz ≤ 14 := by omega
  have ht := h_sz t
  have hu := h_sz u
  have ho := h_sz o
  have b1 := lifted_ev o (m + 2) num dep (by omega)
  have b2 := llift_ev o (m + 2) num dep (by omega)
  have b3 := like_k (n := m + 2) (by omega) (lk_T7 (t := lft num dep o) (by rw [h_lft]; omega))
  have b4 := lifted_ev o (m + 2) 0 dep (by omega)
  have b5 := lifted_ev t (m + 2) num 0 (by omega)
  have b6 := llift_ev t (m + 2) num 0 (by omega)
  have b7 := like_k (n := m + 2) (by omega) (lk_tup (ds := [o.d, (lft num 0 t).d]) (by simp) (fun x hx => by
    simp only [List.mem_cons, List.not_mem_nil, or_false] at hx
    rcases hx with rfl | rfl
    · exact lk_T (by omega)
    · exact lk_T (by rw [h_lft]; omega)))
  have b8 := put_for_ev o u (m + 2) (by omega)
  have b9 := lsub_ev u o (m + 2) 0 (by omega)
  have hsb := h_sb o u 0
  have b10 := like_k (n := m + 2) (by omega) (lk_T7 (t := sb u 0 o) (by omega))
  have b11 := lifted_ev o (m + 2) 1 0 (by omega)
  have b12 := put_for_ev (lft 1 0 o) u (m + 2) (by rw [h_lft]; omega)
  have b13 := like_k (n := m + 2) (by omega) (lk_T7 (t := o) (by omega))
  rw [lft_0] at b4
  rw [sb_lft o u 0 0 0 (by omega) (by omega), lft_0] at b12
  -- the rest, whatever term and other are
  have tail : ∀ t u : T, t.sz ≤ 90 → u.sz ≤ 90 → execSs (call P (m + 2)) (f_law.body.drop 11) [.va (DL ns), .va (DL r), .va (.int free), .va t.d, .va u.d, .va o.d, .va (.int num), .va (.int dep), .un, .un, .un] = some (.rt (.bl true)) := fun t u zt zu => by
    have one : ∀ v : T, v.sz ≤ 90 → ∀ x : Slot, execSs (call P (m + 2)) [.ife (.not (.call "_law_like" [.call "next_doings" [.var 8], .blt .tuple [.lc (.tp [.nm 9, .nm 10]) (.call "_law_doings" [.var 8, .cst (.int 0)]) (.cst (.bl true)) (.var 10) [9, 10]]])) [.ret (.cst (.bl false))] []] [.va (DL ns), .va (DL r), .va (.int free), .va t.d, .va u.d, .va o.d, .va (.int num), .va (.int dep), .va v.d, .un, .un] = some (.nx [.va (DL ns), .va (DL r), .va (.int free), .va t.d, .va u.d, .va o.d, .va (.int num), .va (.int dep), .va v.d, .un, .un]) := fun v hv x => by
      have hh := h_sz v
      have c1 := nextd_ev v (m + 2) (by omega) (by omega)
      have c2 := doings_ev v (m + 2) 0 (by omega) (by omega)
      have c3 := like_k (n := m + 2) (by omega) (lk_tup (ds := v.nx.map T.d) (by rw [List.length_map]; have := nx_len v; omega) (fun x hx => by
        obtain ⟨w, hw, rfl⟩ := List.mem_map.mp hx
        have := nx_h hw
        exact lk_T (by omega)))
      have w : ∀ env : En, (∃ a b c d e f g h i, env = [a, b, c, d, e, f, g, h, i, .un, .un]) → lcGo (lcF (call P (m + 2)) (.tp [.nm 9, .nm 10]) (.cst (.bl true)) (.var 10) env) ((dz 0 v).map pd) = some (v.nx.map T.d) := fun env he => by
        obtain ⟨a, b, c, d, e, f, g, h, i, rfl⟩ := he
        rw [← dz_snd v 0, List.map_map]
        exact lcGo_map fun p _ => by simp [lcF, asgT, asgTs, pd]
      simp at c2
      simp [c1, c2, c3, itemsD, noOw, leakEl, leaks, leak, wipeE, w, bltD]
    obtain ⟨q, f1, x, rfl⟩ := forGo_inv (body := fun e => execSs (call P (m + 2)) [.ife (.not (.call "_law_like" [.call "next_doings" [.var 8], .blt .tuple [.lc (.tp [.nm 9, .nm 10]) (.call "_law_doings" [.var 8, .cst (.int 0)]) (.cst (.bl true)) (.var 10) [9, 10]]])) [.ret (.cst (.bl false))] []] e) (t := .nm 8)
      (fun _ e => ∃ x : Slot, e = [.va (DL ns), .va (DL r), .va (.int free), .va t.d, .va u.d, .va o.d, .va (.int num), .va (.int dep), x, .un, .un]) (fun q => ∃ x : Slot, q = .nx [.va (DL ns), .va (DL r), .va (.int free), .va t.d, .va u.d, .va o.d, .va (.int num), .va (.int dep), x, .un, .un])
      [t.d, o.d, u.d] 0 [.va (DL ns), .va (DL r), .va (.int free), .va t.d, .va u.d, .va o.d, .va (.int num), .va (.int dep), .un, .un, .un] ⟨_, rfl⟩ (fun i y e hy he => by
        obtain ⟨x, rfl⟩ := he
        have hm : y ∈ [t.d, o.d, u.d] := List.mem_of_getElem? hy
        simp only [List.mem_cons, List.not_mem_nil, or_false] at hm
        rcases hm with rfl | rfl | rfl
        · exact ⟨_, _, by simp only [asgT]; rfl, one t zt x, _, rfl⟩
        · exact ⟨_, _, by simp only [asgT]; rfl, one o (by omega) x, _, rfl⟩
        · exact ⟨_, _, by simp only [asgT]; rfl, one u zu x, _, rfl⟩) (fun e he => by
        obtain ⟨x, rfl⟩ := he
        exact ⟨x, rfl⟩)
    have e1 := ends_ev (n := m + 1) (by omega) zt zu
    have e2 := ever_ev (n := m + 1) hr t.d (by omega)
    show execSs (call P (m + 2)) (.forr (.nm 8) (.tup [.var 3, .var 5, .var 4]) _ :: [.ret (.and (.call "_law_ends_right" [.var 3, .var 4]) (.call "_law_for_ever" [.var 1, .var 3]))]) _ = _
    have it : evalE (call P (m + 2)) (.tup [.var 3, .var 5, .var 4]) [.va (DL ns), .va (DL r), .va (.int free), .va t.d, .va u.d, .va o.d, .va (.int num), .va (.int dep), .un, .un, .un] = some (.tup [t.d, o.d, u.d]) := by simp
    rw [exs_cons, ex_forr, it, Option.bind_some]
    simp only [itemsD, Option.bind_some]
    rw [if_pos (by simp [noOw, leak, leaks]), f1]
    simp [e1, e2]
  have pick : ∃ t' u' : T, t'.sz ≤ 90 ∧ u'.sz ≤ 90 ∧ ∀ rest : List MS, execSs (call P (m + 2)) ([.ife (.cmp .eq (.bin .mod (.ix (.var 1) (.cst (.int 61))) (.cst (.int 3))) (.cst (.int 0))) [.asg (.nm 3) (.tup [.cst (.str [97, 112, 112]), .tup [.cst (.str [102, 117, 110]), .var 5], .var 4])] [],
      .ife (.cmp .eq (.bin .mod (.ix (.var 1) (.cst (.int 61))) (.cst (.int 9))) (.cst (.int 1))) [.asg (.nm 4) (.var 3)] []] ++ rest) [.va (DL ns), .va (DL r), .va (.int free), .va t.d, .va u.d, .va o.d, .va (.int num), .va (.int dep), .un, .un, .un] = execSs (call P (m + 2)) rest [.va (DL ns), .va (DL r), .va (.int free), .va t'.d, .va u'.d, .va o.d, .va (.int num), .va (.int dep), .un, .un, .un] := by
    have m3 : binD .mod (.int x61) (.int 3) = some (.int (x61 % 3)) := mod_pos (by decide)
    have m9 : binD .mod (.int x61) (.int 9) = some (.int (x61 % 9)) := mod_pos (by decide)
    simp at i61
    have dd : D.tup [.str [97, 112, 112], .tup [.str [102, 117, 110], o.d], u.d] = (T.a (.f o) u).d := rfl
    by_cases h3 : x61 % 3 = 0 <;> by_cases h9 : x61 % 9 = 1
    · omega
    · exact ⟨.a (.f o) u, u, by simp only [T.sz]; omega, by omega, fun rest => by simp [DL, i61, m3, m9, h3, h9, asgFresh, sink, noOw, leak, leaks, fresh, dd]⟩
    · exact ⟨t, t, by omega, by omega, fun rest => by simp [DL, i61, m3, m9, h3, h9, asgFresh, sink, noOw, leak, leaks, fresh]⟩
    · exact ⟨t, u, by omega, by omega, fun rest => by simp [DL, i61, m3, m9, h3, h9, asgFresh, sink, noOw, leak, leaks, fresh]⟩
  obtain ⟨t', u', zt', zu', pick⟩ := pick
  have m4 : binD .mod (.int x60) (.int 4) = some (.int (free : Nat)) := by rw [mod_pos (by decide), hf]
  have m3 : binD .mod (.int x45) (.int 3) = some (.int (x45 % 3)) := mod_pos (by decide)
  have m3' : binD .mod (.int x46) (.int 3) = some (.int (dep : Nat)) := by rw [mod_pos (by decide), hdp]
  simp at i60 i45 i46 et eu eo b4 b5 b6 b9 b11
  have front : ∀ rest : List MS, execSs (call P (m + 2)) ([.asg (.nm 1) (.call "_law_row" [.var 0, .cst (.int 70)]),
      .asg (.nm 2) (.bin .mod (.blt .int [.ix (.var 1) (.cst (.int 60))]) (.cst (.int 4))),
      .par [3, 4] [.call "_law_doing" [.var 1, .cst (.int 0), .cst (.int 0), .cst (.int 3), .var 2], .call "_law_doing" [.var 1, .cst (.int 15), .cst (.int 0), .cst (.int 2), .cst (.int 3)]],
      .asg (.nm 5) (.call "_law_doing" [.var 1, .cst (.int 30), .cst (.int 0), .cst (.int 2), .cst (.int 3)]),
      .par [6, 7] [.bin .add (.cst (.int 1)) (.bin .mod (.blt .int [.ix (.var 1) (.cst (.int 45))]) (.cst (.int 3))), .bin .mod (.blt .int [.ix (.var 1) (.cst (.int 46))]) (.cst (.int 3))]] ++ rest) (envOf f_law [DL ns]) = execSs (call P (m + 2)) rest [.va (DL ns), .va (DL r), .va (.int free), .va t.d, .va u.d, .va o.d, .va (.int num), .va (.int dep), .un, .un, .un] := fun rest => by
    simp at er
    simp [f_law, envOf, er, asgFresh, parAsg, sink, noOw, leak, leaks, leakEl, leaksEl, fresh, bltD]
    simp [DL] at et eu eo ⊢
    simp [i60, i45, i46, m4, m3, m3', et, eu, eo, hnm, isCell, asgFresh, parAsg, sink, noOw, leak, leaks, leakEl, leaksEl, fresh, bltD]
  have mid : ∀ rest : List MS, execSs (call P (m + 2)) ([.ife (.not (.call "_law_like" [.call "lifted" [.var 5, .var 6, .var 7], .call "_law_lift" [.var 5, .var 6, .var 7]])) [.ret (.cst (.bl false))] [],
      .ife (.not (.call "_law_like" [.tup [.call "lifted" [.var 5, .cst (.int 0), .var 7], .call "lifted" [.var 3, .var 6, .cst (.int 0)]], .tup [.var 5, .call "_law_lift" [.var 3, .var 6, .cst (.int 0)]]])) [.ret (.cst (.bl false))] [],
      .ife (.not (.call "_law_like" [.call "put_for" [.var 5, .var 4], .call "_law_sub" [.var 5, .var 4, .cst (.int 0)]])) [.ret (.cst (.bl false))] [],
      .ife (.not (.call "_law_like" [.call "put_for" [.call "lifted" [.var 5, .cst (.int 1), .cst (.int 0)], .var 4], .var 5])) [.ret (.cst (.bl false))] []] ++ rest) [.va (DL ns), .va (DL r), .va (.int free), .va t.d, .va u.d, .va o.d, .va (.int num), .va (.int dep), .un, .un, .un] = execSs (call P (m + 2)) rest [.va (DL ns), .va (DL r), .va (.int free), .va t.d, .va u.d, .va o.d, .va (.int num), .va (.int dep), .un, .un, .un] := fun rest => by
    simp [b1, b2, b3, b4, b5, b6, b7, b8, b9, b10, b11, b12, b13]
  refine call_rt (fn := f_law) rfl rfl ?_
  refine (front (f_law.body.drop 5)).trans ?_
  refine (mid (f_law.body.drop 9)).trans ?_
  refine (pick (f_law.body.drop 11)).trans ?_
  exact tail t' u' zt' zu'
end Rk
set_option maxHeartbeats 0
/-! the head -/
namespace Rk
open PySem PySem.Spec PyProof.Rows L2
theorem bnd : ∀ d ∈ ds, Bnd d := fun d h => by
    simp only [ds, List.mem_cons, List.not_mem_nil, or_false] at h
    rcases h with rfl | rfl | rfl | rfl | rfl | rfl | rfl | rfl | rfl | rfl | rfl | rfl | rfl | rfl | rfl | rfl | rfl | rfl | rfl | rfl
    · exact fun _ _ _ _ _ _ us hl => match us, hl with | [_, _, _], _ => rfl
    · exact fun _ _ _ _ _ _ us hl => match us, hl with | [_, _, _], _ => rfl
    · exact fun _ _ _ _ _ _ us hl => match us, hl with | [_, _], _ => rfl
    · exact fun _ _ _ _ _ _ us hl => match us, hl with | [_], _ => rfl
    · exact fun _ _ _ _ _ _ us hl => match us, hl with | [_], _ => rfl
    · exact fun _ _ _ _ _ _ us hl => match us, hl with | [_, _], _ => rfl
    · exact fun _ _ _ _ _ _ us hl => match us, hl with | [_, _, _], _ => rfl
    · exact fun _ _ _ _ _ _ us hl => match us, hl with | [_, _], _ => rfl
    · exact fun _ _ _ _ _ _ us hl => match us, hl with | [_, _], _ => rfl
    · exact fun _ _ _ _ _ _ us hl => match us, hl with | [_], _ => rfl
    · exact fun _ _ _ _ _ _ us hl => match us, hl with | [_, _], _ => rfl
    · exact fun _ _ _ _ _ _ us hl => match us, hl with | [_, _, _, _, _], _ => rfl
    · exact fun _ _ _ _ _ _ us hl => match us, hl with | [_, _, _], _ => rfl
    · exact fun _ _ _ _ _ _ us hl => match us, hl with | [_, _, _], _ => rfl
    · exact fun _ _ _ _ _ _ us hl => match us, hl with | [_, _], _ => rfl
    · exact fun _ _ _ _ _ _ us hl => match us, hl with | [_], _ => rfl
    · exact fun _ _ _ _ _ _ us hl => match us, hl with | [_, _, _], _ => rfl
    · exact fun _ _ _ _ _ _ us hl => match us, hl with | [_, _], _ => rfl
    · exact fun _ _ _ _ _ _ us hl => match us, hl with | [_, _], _ => rfl
    · exact fun _ _ _ _ _ _ us hl => match us, hl with | [_], _ => rfl
abbrev Rw : PySem.W.OpenRow := PySem.W.OpenLaw.row PySem.Challenge.rw_reasonskept_k29_whole_doings
abbrev hk : PySem.W.Hook := He.hookD 4 (faOf ds []) (fnOf ds)
def ob (s : PySem.W.SharedT) : He.AlD := He.obsDG 4 (faOf ds []) (fnOf ds) (HandSHeadRun.getT s)
theorem ob_eq (s : PySem.W.SharedT) : ob s = hk.obs s.abs := He.obsDG_eq (HandSHeadRun.getT_eq s)
theorem run (w : World) : HandSHeadRun.RunEq Rw (PySem.W.view Rw.prog [21]) hk ob 1280 ["lifted", "put_at", "put_for", "next_doings", "first_doing", "done", "done_alike", "_law_mixed", "_law_row", "_law_is_int", "_law_like", "_law_doing", "_law_lift", "_law_sub", "_law_doings", "_law_marks", "_law_run", "_law_ends_right", "_law_for_ever"] w := by
  intro os
  kernel_rfl
theorem holds_of {n : Nat} (hn : n ≤ 218) (hlaw : ∀ ns : List Int, ns.length ≤ 63 → call P n "law" [.lst (ns.map D.int)] = some (.bl true)) : PySem.Challenge.rw_reasonskept_k29_whole_doings.Holds := by
  w_on; o_law
  refine HandSHeadRun.head_any (r := PySem.W.OpenLaw.row PySem.Challenge.rw_reasonskept_k29_whole_doings) (q := PySem.W.view (PySem.W.OpenLaw.row PySem.Challenge.rw_reasonskept_k29_whole_doings).prog [21]) (H := hk) (ob := ob) (M := 1280) (loose := ["lifted", "put_at", "put_for", "next_doings", "first_doing", "done", "done_alike", "_law_mixed", "_law_row", "_law_is_int", "_law_like", "_law_doing", "_law_lift", "_law_sub", "_law_doings", "_law_marks", "_law_run", "_law_ends_right", "_law_for_ever"]) (d := HandSHeadRun.topDef (PySem.W.OpenLaw.row PySem.Challenge.rw_reasonskept_k29_whole_doings).prog 21) (kwd := []) ob_eq
    (by kernel_rfl) (fun s => by kernel_rfl) run (by kernel_rfl) (by kernel_rfl) (by kernel_rfl) (by rfl) (by first | assumption | decide +kernel) (by decide +kernel) ⟨rfl, rfl, rfl, rfl, rfl, by decide +kernel⟩ ?hw ?hc
  case hw => w_witness2
  case hc =>
    refine L2.walk_ofE (l := PySem.Challenge.rw_reasonskept_k29_whole_doings) (n := 63) (k := n + 2) (x := "script") (CX := L2.CX0) rfl (by decide) (by kernel_rfl) (L2.Room.mono (k := 220) ⟨rfl, by decide, by decide⟩ (by omega)) ?F (fun _ _ _ _ z => z)
    intro w mg fa h Y G hmg0
    have hmg : mg ("law" : PySem.Str) = some (.ref fa) := by
      have e : (HandSHeadRun.topDef (PySem.W.OpenLaw.row PySem.Challenge.rw_reasonskept_k29_whole_doings).prog 21).name = ("law" : PySem.Str) := by kernel_rfl
      rw [← e]
      exact hmg0
    exact law_F (d := d_law) (n := n) fits (by simp [ds]) rfl bnd (by decide) (fun _ _ _ _ _ _ x d e => by cases e) hlaw w mg fa h Y G hmg
end Rk
theorem PySem.Challenge.cw_reasonskept_k29_whole_doings_holds : PySem.Challenge.rw_reasonskept_k29_whole_doings.Holds := by
  exact Rk.holds_of (n := 213) (by decide) fun ns _ => Rk.law_ev (by decide) ns
