import PyProof.Rows.All
import Wide.All
import OpenK.AllK
import Wide.FinOn
import PySem.Str
import PySem.Builtin.Int.W1All
import PyProof.RangeIter
import HandS.ForMost
import HandS.ForExc
import HandS.ExcInit
import HandS.ExcField
import HandS.ExcIs
import KE.KExcInit
import HandS.CallSlots
import KE.KExcIs
import HandS.HeadNt
import HandS.HeadEnd
import HandS.Head2
import PySem.Challenge.RW_answeredturns_k07_breaks_of_the_least_ga
import PyProof.InstNe
import HandS.Style
import HandS.Flow
import HandS.IsInst
import HandS.SortInts
import HandS.SetFor
import HandS.Exc
import HandS.Zip
import HandS.WideBits
import HandS.More
import HandS.ClsMeth
import HandS.Words
import HandS.WordsExc
import HandS.ExcOwn
import KE.KOpsOwn
import HandS.TupAny
import KE.KTupSum
import PyProof.MaxThree
import HandS.NamedTupSort
import KE.KSortTup
import HandS.Conv
import HandS.Iter
import HandS.TryMany
set_option Elab.async false
set_option linter.all false
set_option maxRecDepth 100000
set_option maxHeartbeats 0
/-! G: a small language, its data, its evaluator. -/
namespace G
open PySem (Str)
/-- data: what no one changes any more -/
inductive D where
  | non | bl (b : Bool) | int (i : Int) | str (s : Str)
  | tup (xs : List D) | lst (xs : List D)
  | obj (c : Nat) (fs : List (Nat × D))
  | cls (c : Nat)
/-- a cell of the store: a list or an instance that may be changed; dead: handed over -/
inductive Ce where
  | lst (xs : List D) | ins (c : Nat) (fs : List (Nat × D)) | dead
/-- a value: data, a cell, a fresh object that stands nowhere else -/
inductive Va where
  | d (x : D) | r (l : Nat) | f (c : Ce)
abbrev Sto := List Ce
abbrev Frm := List (Option Va)
inductive R (α : Type) where
  | ok (a : α) (S : Sto)
  | ex (c : Nat) (fs : List D) (S : Sto)
  | bad
/-- no exception -/
def R.nox {α : Type} : R α → R α
  | .ex _ _ _ => .bad
  | r => r
def R.bind {α β : Type} : R α → (α → Sto → R β) → R β
  | .ok a S, k => k a S
  | .ex c fs S, _ => .ex c fs S
  | .bad, _ => .bad
inductive Bop where
  | add | sub | mul | fdiv | mod | pow | shl | shr | and | or | xor
inductive Cop where
  | eq | ne | lt | le | gt | ge | in_ | nin | is_ | isn
inductive Bi where
  | len | min | max | sum | any | all | abs | int | bool | list | tuple | sorted | iter
inductive Bm where
  | append | pop | popAt | insert | reverse | extend | count | index | bitlen
inductive Ty where
  | int | bool | str | list | tuple | cls (c : Nat)
inductive Tg where
  | nm (i : Nat) | tp (is : List Nat)
inductive E where
  | var (i : Nat) | con (x : D) | glb (g : Nat)
  | bin (o : Bop) (a b : E) | neg (a : E) | inv (a : E)
  | cmp (o : Cop) (a b : E) | chn (o o' : Cop) (a b c : E)
  | not (a : E) | and (a b : E) | or (a b : E) | ife (c a b : E)
  | tup (xs : List E) | lst (xs : List E)
  | idx (a i : E) | slc (a lo hi : E) | rev (a : E)
  | fld (a : E) (f : Nat)
  | call (f : Nat) (xs : List E) | callF (f : Nat) (a : E) | mk (c : Nat) (xs : List E) | mkv (i : Nat) (c : Nat) (xs : List E)
  | cm (c f : Nat) (xs : List E) | met (c f : Nat) (a : E) (xs : List E)
  | bi (b : Bi) (xs : List E) | isi (a : E) (ts : List Ty)
  | bm (m : Bm) (a : E) (xs : List E)
  | comp (own : List Nat) (t : Tg) (src c e : E)
  | comp2 (own : List Nat) (t : Tg) (src : E) (own1 : List Nat) (t1 : Tg) (src1 c e : E)
  | lrg (a : E) | rng (xs : List E) | zip (a b : E) | enm (a : E)
  | xf (f : Nat) | xi (c : Nat) | bad
inductive Sm where
  | asg (t : Tg) (e : E) | own (i : Nat) (e : E) | frz (i : Nat)
  | sub (o i e : E) | fld (o : E) (f : Nat) (e : E)
  | aug (i : Nat) (o : Bop) (e : E) | augS (a i : E) (o : Bop) (e : E)
  | ex (e : E)
  | ite (c : E) (a b : List Sm)
  | for_ (t : Tg) (src : E) (body : List Sm)
  | whl (c : E) (body : List Sm)
  | ret (e : E) | retn | bk | ct | pass | bad
  | rse (c : Nat) (xs : List E)
  | tr (body : List Sm) (hs : List Sm)
  | cl (c : Nat) (x : Option Nat) (h : List Sm)
structure Prg where
  con : Nat → Option D
  ini : Nat → Option Nat
  opm : Nat → Nat → Option Nat
  xfl : Nat → Option (List Nat)
  sup : Nat → Nat → Bool
structure Cfg where
  P : Prg
  call : Nat → List Va → Sto → R Va
  xc : Option (Nat × List D)
/-- the longest list -/
abbrev LL : Nat := 16777216
def Ce.fz : Ce → Option D
  | .lst xs => some (.lst xs)
  | .ins c fs => some (.obj c fs)
  | .dead => none
/-- a fresh object becomes data -/
def stl : R Va → R Va
  | .ok (.f c) S => (match c.fz with
    | some x => .ok (.d x) S
    | none => .bad)
  | r => r
/-- a list or tuple: true for a tuple -/
def seqV : Va → Sto → Option (Bool × List D)
  | .d (.tup xs), _ => some (true, xs)
  | .d (.lst xs), _ => some (false, xs)
  | .f (.lst xs), _ => some (false, xs)
  | .r l, S => (match S[l]? with
    | some (.lst xs) => some (false, xs)
    | _ => none)
  | _, _ => none
def clsV : Va → Sto → Option (Nat × List (Nat × D))
  | .d (.obj c fs), _ => some (c, fs)
  | .f (.ins c fs), _ => some (c, fs)
  | .r l, S => (match S[l]? with
    | some (.ins c fs) => some (c, fs)
    | _ => none)
  | _, _ => none
def dv (x : D) (S : Sto) : R Va := .ok (.d x) S
def fl (xs : List D) (S : Sto) : R Va := if xs.length ≤ LL then .ok (.f (.lst xs)) S else .bad
def R.ofO (o : Option D) (S : Sto) : R Va := match o with
  | some x => .ok (.d x) S
  | none => .bad
/-! ### operators on intsD -/
def small (i : Int) : Bool := decide (i.natAbs < 2 ^ 64)
def iop : Bop → Int → Int → Option Int
  | .add, i, j => some (i + j)
  | .sub, i, j => some (i - j)
  | .mul, i, j => if small i || small j then some (i * j) else none
  | .fdiv, i, j => if 0 < j ∧ j < 1073741824 then some (i / j) else none
  | .mod, i, j => if 0 < j then some (i % j) else none
  | .pow, i, j => if 0 ≤ j ∧ j ≤ 1000000 ∧ small i = true then some (i ^ j.toNat) else none
  | .shl, i, j => if 0 ≤ j ∧ j ≤ 1000000 ∧ small i = true then some (i * 2 ^ j.toNat) else none
  | .shr, i, j => if 0 ≤ j then some (i / 2 ^ j.toNat) else none
  | .and, i, j => some (PySem.Builtin.bitAnd i j)
  | .or, i, j => some (PySem.Builtin.bitOr i j)
  | .xor, i, j => some (PySem.Builtin.bitXor i j)
def b2i (b : Bool) : Int := if b then 1 else 0
/-! ### == and order of data -/
mutual
def eqD : D → D → Bool
  | .non, .non => true
  | .bl a, .bl b => a == b
  | .bl a, .int j => (if a then 1 else 0) == j
  | .int i, .bl b => i == (if b then 1 else 0)
  | .int i, .int j => i == j
  | .str x, .str y => x == y
  | .lst xs, .lst ys => eqDs xs ys
  | .tup xs, .tup ys => eqDs xs ys
  | _, _ => false
def eqDs : List D → List D → Bool
  | [], [] => true
  | x :: xs, y :: ys => eqD x y && eqDs xs ys
  | _, _ => false
end
/-! plain: no instances, no classes, texts short -/
mutual
def plain : D → Bool
  | .non => true
  | .bl _ => true
  | .int _ => true
  | .str s => s.cps.all (fun c => decide (c < 1114112))
  | .lst xs => plains xs
  | .tup xs => plains xs
  | _ => false
def plains : List D → Bool
  | [] => true
  | x :: xs => plain x && plains xs
end
/-! how deep -/
mutual
def dep : D → Nat
  | .lst xs => deps xs + 1
  | .tup xs => deps xs + 1
  | _ => 0
def deps : List D → Nat
  | [] => 0
  | x :: xs => max (dep x) (deps xs)
end
def shp (x : D) : Bool := plain x && decide (dep x ≤ 40)
def intsD : List D → Option (List Int)
  | [] => some []
  | .int i :: r => (match intsD r with
    | some l => some (i :: l)
    | none => none)
  | _ => none
def boolsD : List D → Option (List Bool)
  | [] => some []
  | .bl i :: r => (match boolsD r with
    | some l => some (i :: l)
    | none => none)
  | _ => none
def tintsD : List D → Option (List (List Int))
  | [] => some []
  | .tup x :: r => (match intsD x, tintsD r with
    | some i, some l => some (i :: l)
    | _, _ => none)
  | _ => none
/-- lexicographic -/
def lexLt : List Int → List Int → Bool
  | _, [] => false
  | [], _ :: _ => true
  | x :: xs, y :: ys => if x = y then lexLt xs ys else decide (x < y)
def insI (x : Int) : List Int → List Int
  | [] => [x]
  | y :: r => if x ≤ y then x :: y :: r else y :: insI x r
def sortI : List Int → List Int
  | [] => []
  | x :: r => insI x (sortI r)
def insT (x : List Int) : List (List Int) → List (List Int)
  | [] => [x]
  | y :: r => if lexLt y x then y :: insT x r else x :: y :: r
def sortT : List (List Int) → List (List Int)
  | [] => []
  | x :: r => insT x (sortT r)
def dI (l : List Int) : List D := l.map D.int
def dT (l : List (List Int)) : List D := l.map fun t => D.tup (dI t)
def sortD (xs : List D) : Option (List D) := match intsD xs with
  | some l => some (dI (sortI l))
  | none => (match tintsD xs with
    | some l => some (dT (sortT l))
    | none => none)
def cmpI : Cop → Int → Int → Option Bool
  | .lt, i, j => some (decide (i < j))
  | .le, i, j => some (decide (i ≤ j))
  | .gt, i, j => some (decide (j < i))
  | .ge, i, j => some (decide (j ≤ i))
  | _, _, _ => none
/-! ### values -/
def truV : Va → Sto → Option Bool
  | .d .non, _ => some false
  | .d (.bl b), _ => some b
  | .d (.int i), _ => some (i != 0)
  | v, S => (match seqV v S with
    | some (_, xs) => some (!xs.isEmpty)
    | none => none)
def opNo : Bop → Nat
  | .xor => 4
  | .add => 5
  | .mul => 6
  | _ => 99
def catV (a b : Va) (S : Sto) : R Va := match seqV a S, seqV b S with
  | some (false, xs), some (false, ys) => fl (xs ++ ys) S
  | _, _ => .bad
def ownV (cf : Cfg) (c k : Nat) (vs : List Va) (S : Sto) : R Va := match cf.P.opm c k with
  | some f => cf.call f vs S
  | none => .bad
def binR (cf : Cfg) (o : Bop) (a b : Va) (S : Sto) : R Va := match clsV a S with
  | some (c, _) => (match clsV b S with
    | some (d, _) => if d = c then ownV cf c (opNo o) [a, b] S else .bad
    | none => .bad)
  | none => (match o with
    | .add => catV a b S
    | _ => .bad)
def addB (o : Bop) (i : Int) (j : Bool) (S : Sto) : R Va := match o with
  | .add => .ok (.d (.int (i + b2i j))) S
  | _ => .bad
def addS (o : Bop) (x y : Str) (S : Sto) : R Va := match o with
  | .add => if x.length + y.length ≤ LL then .ok (.d (.str (x ++ y))) S else .bad
  | _ => .bad
def binV (cf : Cfg) (o : Bop) (a b : Va) (S : Sto) : R Va :=
  match a, b with
  | .d (.int i), .d (.int j) => R.ofO ((iop o i j).map D.int) S
  | .d (.int i), .d (.bl j) => addB o i j S
  | .d (.str x), .d (.str y) => addS o x y S
  | a, b => binR cf o a b S
/-- the data that == compares -/
def datV : Va → Sto → Option D
  | .d x, _ => some x
  | .r l, S => (match S[l]? with
    | some (.lst xs) => some (.lst xs)
    | _ => none)
  | .f (.lst xs), _ => some (.lst xs)
  | _, _ => none
def negV (r : R Va) : R Va := match r with
  | .ok (.d (.bl b)) S => .ok (.d (.bl (!b))) S
  | .ok _ _ => .bad
  | r => r
def eqV (cf : Cfg) (neg : Bool) (a b : Va) (S : Sto) : R Va :=
  match clsV a S with
  | some (c, _) => (match clsV b S with
    | some (d, _) => if d = c then (if neg then negV (ownV cf c 3 [a, b] S) else ownV cf c 3 [a, b] S) else .bad
    | none => .bad)
  | none => (match datV a S, datV b S with
    | some x, some y => if shp x && shp y then .ok (.d (.bl (if neg then !eqD x y else eqD x y))) S else .bad
    | _, _ => .bad)
def flatD : D → Bool
  | .non => true
  | .bl _ => true
  | .int _ => true
  | .str _ => true
  | _ => false
def inV (neg : Bool) (a b : Va) (S : Sto) : R Va :=
  match a, seqV b S with
  | .d x, some (_, xs) => if flatD x && xs.all flatD then .ok (.d (.bl (if neg then !xs.any (fun y => eqD y x) else xs.any fun y => eqD y x))) S else .bad
  | _, _ => .bad
def isN : D → Bool
  | .non => true
  | _ => false
def isV2 (neg : Bool) (a b : Va) (S : Sto) : R Va := match a, b with
  | .d x, .d .non => .ok (.d (.bl (if neg then !isN x else isN x))) S
  | .d (.bl x), .d (.bl y) => .ok (.d (.bl (if neg then !decide (x = y) else decide (x = y)))) S
  | _, _ => .bad
def ordV (o : Cop) (a b : Va) (S : Sto) : R Va := match a, b with
  | .d (.int i), .d (.int j) => R.ofO ((cmpI o i j).map D.bl) S
  | _, _ => .bad
def cmpV (cf : Cfg) (o : Cop) (a b : Va) (S : Sto) : R Va :=
  match o with
  | .eq => eqV cf false a b S
  | .ne => eqV cf true a b S
  | .in_ => inV false a b S
  | .nin => inV true a b S
  | .is_ => isV2 false a b S
  | .isn => isV2 true a b S
  | .lt => ordV .lt a b S
  | .le => ordV .le a b S
  | .gt => ordV .gt a b S
  | .ge => ordV .ge a b S
/-- in a chain: no operators of one's own ahead -/
def chV (cf : Cfg) (o : Cop) (a b : Va) (S : Sto) : R Va := match clsV a S with
  | some _ => .bad
  | none => cmpV cf o a b S
def ati (xs : List D) (i : Int) : Option D :=
  if 0 ≤ i then xs[i.toNat]? else if 0 ≤ i + xs.length then xs[(i + xs.length).toNat]? else none
def idxV (a i : Va) (S : Sto) : R Va := match seqV a S, i with
  | some (_, xs), .d (.int k) => R.ofO (ati xs k) S
  | _, _ => .bad
/-- a slice's end: left out, or an int -/
def endE (e : E) (v : Va) : Option (Option Int) := match e with
  | .con .non => some none
  | _ => (match v with
    | .d (.int i) => some (some i)
    | _ => none)
def clip (n d : Nat) : Option Int → Nat
  | none => d
  | some v => if v < 0 then (v + n).toNat else min v.toNat n
def cut (xs : List D) (lo hi : Option Int) : List D := (xs.drop (clip xs.length 0 lo)).take (clip xs.length xs.length hi - clip xs.length 0 lo)
def slcV (a : Va) (l h : Option Int) (S : Sto) : R Va := match seqV a S with
  | some (false, xs) => .ok (.f (.lst (cut xs l h))) S
  | some (true, xs) => if clip xs.length 0 l = 0 ∧ clip xs.length xs.length h = xs.length then .bad else .ok (.d (.tup (cut xs l h))) S
  | _ => .bad
def revV (a : Va) (S : Sto) : R Va := match seqV a S with
  | some (false, xs) => .ok (.f (.lst xs.reverse)) S
  | some (true, xs) => .ok (.d (.tup xs.reverse)) S
  | _ => .bad
def fldV (P : Prg) (a : Va) (f : Nat) (S : Sto) : R Va := match clsV a S with
  | some (c, fs) => if (P.ini c).isSome then R.ofO (fs.lookup f) S else .bad
  | none => .bad
def ofSeq (v : Va) (S : Sto) (k : List D → R Va) : R Va := match seqV v S with
  | some (_, xs) => k xs
  | none => .bad
def maxI : Int → List Int → Int
  | m, [] => m
  | m, x :: r => maxI (if m < x then x else m) r
def minI : Int → List Int → Int
  | m, [] => m
  | m, x :: r => minI (if x < m then x else m) r
def lenV (cf : Cfg) (v : Va) (S : Sto) : R Va := match clsV v S with
  | some (c, _) => (match ownV cf c 0 [v] S with
    | .ok (.d (.int i)) S' => if 0 ≤ i ∧ i ≤ LL then .ok (.d (.int i)) S' else .bad
    | _ => .bad)
  | none => ofSeq v S fun xs => .ok (.d (.int xs.length)) S
def minL (v : Va) (S : Sto) : R Va := match seqV v S with
  | some (false, xs) => (match intsD xs with
    | some (x :: r) => .ok (.d (.int (minI x r))) S
    | _ => .bad)
  | _ => .bad
def maxL (v : Va) (S : Sto) : R Va := match seqV v S with
  | some (false, xs) => (match intsD xs with
    | some (x :: r) => .ok (.d (.int (maxI x r))) S
    | _ => .bad)
  | _ => .bad
def sumV (v : Va) (S : Sto) : R Va := match seqV v S with
  | some (_, xs) => (match intsD xs with
    | some l => .ok (.d (.int l.sum)) S
    | _ => .bad)
  | _ => .bad
def anyV (v : Va) (S : Sto) : R Va := match seqV v S with
  | some (false, xs) => (match boolsD xs with
    | some l => .ok (.d (.bl (l.any id))) S
    | _ => .bad)
  | _ => .bad
def allV (v : Va) (S : Sto) : R Va := match seqV v S with
  | some (false, xs) => (match boolsD xs with
    | some l => .ok (.d (.bl (l.all id))) S
    | _ => .bad)
  | _ => .bad
def listV (v : Va) (S : Sto) : R Va := match seqV v S with
  | some (_, xs) => .ok (.f (.lst xs)) S
  | _ => .bad
def tupV (v : Va) (S : Sto) : R Va := match seqV v S with
  | some (_, xs) => .ok (.d (.tup xs)) S
  | _ => .bad
def sortV (v : Va) (S : Sto) : R Va := match seqV v S with
  | some (_, xs) => (match sortD xs with
    | some l => .ok (.f (.lst l)) S
    | none => .bad)
  | _ => .bad
def biV (cf : Cfg) (b : Bi) (vs : List Va) (S : Sto) : R Va :=
  match b, vs with
  | .len, [v] => lenV cf v S
  | .min, [v] => minL v S
  | .max, [v] => maxL v S
  | .min, [.d (.int i), .d (.int j)] => .ok (.d (.int (if j < i then j else i))) S
  | .max, [.d (.int i), .d (.int j)] => .ok (.d (.int (if i < j then j else i))) S
  | .max, [.d (.int i), .d (.int j), .d (.int k)] => .ok (.d (.int (maxI i [j, k]))) S
  | .sum, [v] => sumV v S
  | .any, [v] => anyV v S
  | .all, [v] => allV v S
  | .abs, [.d (.int i)] => .ok (.d (.int (if i < 0 then -i else i))) S
  | .int, [.d (.int i)] => .ok (.d (.int i)) S
  | .int, [.d (.bl i)] => .ok (.d (.int (b2i i))) S
  | .bool, [.d (.int i)] => .ok (.d (.bl (i != 0))) S
  | .list, [v] => listV v S
  | .tuple, [v] => tupV v S
  | .sorted, [v] => sortV v S
  | _, _ => .bad
def tyD : D → Ty → Prg → Bool
  | .bl _, .bool, _ => true
  | .bl _, .int, _ => true
  | .int _, .int, _ => true
  | .str _, .str, _ => true
  | .tup _, .tuple, _ => true
  | .lst _, .list, _ => true
  | .obj c _, .cls k, P => P.sup c k
  | _, _, _ => false
def knownD (P : Prg) : D → Bool
  | .cls _ => false
  | .obj c _ => (P.ini c).isSome
  | _ => true
def isD (P : Prg) (x : D) (ts : List Ty) (S : Sto) : R Va := if knownD P x then .ok (.d (.bl (ts.any fun t => tyD x t P))) S else .bad
def isV (P : Prg) (a : Va) (ts : List Ty) (S : Sto) : R Va := match a with
  | .d x => isD P x ts S
  | .r l => (match S[l]? with
    | some (.lst xs) => isD P (.lst xs) ts S
    | some (.ins c fs) => isD P (.obj c fs) ts S
    | _ => .bad)
  | .f _ => .bad
/-- the list in cell l -/
def cellL (S : Sto) (l : Nat) (k : List D → R Va) : R Va := match S[l]? with
  | some (.lst xs) => k xs
  | _ => .bad
def insAt (xs : List D) (i : Int) (x : D) : List D := xs.take (clip xs.length 0 (some i)) ++ x :: xs.drop (clip xs.length 0 (some i))
def appV (a : Va) (vs : List Va) (S : Sto) : R Va := match a, vs with
  | .r l, [.d x] => cellL S l fun xs => if xs.length < LL then .ok (.d .non) (S.set l (.lst (xs ++ [x]))) else .bad
  | _, _ => .bad
def popV (a : Va) (vs : List Va) (S : Sto) : R Va := match a, vs with
  | .r l, [] => cellL S l fun xs => (match xs[xs.length - 1]? with
    | some y => .ok (.d y) (S.set l (.lst xs.dropLast))
    | none => .bad)
  | _, _ => .bad
def popAtV (a : Va) (vs : List Va) (S : Sto) : R Va := match a, vs with
  | .r l, [.d (.int i)] => cellL S l fun xs => if 0 ≤ i ∧ i < xs.length ∧ i < 1073741824 then (match xs[i.toNat]? with
    | some y => .ok (.d y) (S.set l (.lst (xs.eraseIdx i.toNat)))
    | none => .bad) else .bad
  | _, _ => .bad
def insV (a : Va) (vs : List Va) (S : Sto) : R Va := match a, vs with
  | .r l, [.d (.int i), .d x] => cellL S l fun xs => if xs.length < LL ∧ 0 ≤ i ∧ i < 1073741824 then .ok (.d .non) (S.set l (.lst (xs.take i.toNat ++ [x] ++ xs.drop i.toNat))) else .bad
  | _, _ => .bad
def rvsV (a : Va) (vs : List Va) (S : Sto) : R Va := match a, vs with
  | .r l, [] => cellL S l fun xs => .ok (.d .non) (S.set l (.lst xs.reverse))
  | _, _ => .bad
def cntV (a : Va) (vs : List Va) (S : Sto) : R Va := match seqV a S, vs with
  | some (false, xs), [.d (.int k)] => (match intsD xs with
    | some l => .ok (.d (.int (l.count k : Nat))) S
    | none => .bad)
  | _, _ => .bad
def bitV (a : Va) (vs : List Va) (S : Sto) : R Va := match a, vs with
  | .d (.int i), [] => .ok (.d (.int (PySem.Builtin.Int.intBits i : Nat))) S
  | _, _ => .bad
def bmV (m : Bm) (a : Va) (vs : List Va) (S : Sto) : R Va := match m with
  | .append => appV a vs S
  | .pop => popV a vs S
  | .popAt => popAtV a vs S
  | .insert => insV a vs S
  | .reverse => rvsV a vs S
  | .count => cntV a vs S
  | .bitlen => bitV a vs S
  | _ => .bad
/-- the receiver is of the method's type -/
def rcvB (m : Bm) (a : Va) (S : Sto) : Bool := match m, a with
  | .bitlen, .d (.int _) => true
  | .bitlen, _ => false
  | _, a => (match seqV a S with
    | some (false, _) => true
    | _ => false)
/-! ### loops -/
inductive Src where
  | fix (xs : List D) | cel (l n : Nat)
def rngI (a c : Int) (n : Nat) : List D := (List.range n).map fun (k : Nat) => D.int (a + k * c)
def rngN (a b c : Int) : Nat := (PySem.Builtin.Range.rangeSize a b c).toNat
def rngB (a b c : Int) : Bool := decide (c ≠ 0) && (decide (c.natAbs < 1073741824) && (PySem.Builtin.Range.small a b c && decide (PySem.Builtin.Range.rangeSize a b c = (rngN a b c : Int))))
def bnd (i : Int) : Bool := decide (-1073741824 < i ∧ i < 1073741824)
def rngV : List Va → Sto → R Src
  | [.d (.int b)], S => if bnd b then .ok (.fix ((List.range b.toNat).map fun (k : Nat) => D.int k)) S else .bad
  | [.d (.int a), .d (.int b)], S => if bnd a && bnd b then .ok (.fix ((List.range (b - a).toNat).map fun (k : Nat) => D.int (a + k))) S else .bad
  | [.d (.int a), .d (.int b), .d (.int c)], S => if rngB a b c then .ok (.fix (rngI a c (rngN a b c))) S else .bad
  | _, _ => .bad
def srcV (v : Va) (S : Sto) : R Src := match v with
  | .r l => (match S[l]? with
    | some (.lst xs) => .ok (.cel l xs.length) S
    | _ => .bad)
  | v => (match seqV v S with
    | some (_, xs) => .ok (.fix xs) S
    | none => .bad)
def zipV (a b : Va) (S : Sto) : R Src := match a, b with
  | .d x, .d y => (match seqV (.d x) S, seqV (.d y) S with
    | some (_, xs), some (_, ys) => .ok (.fix ((xs.zip ys).map fun p => .tup [p.1, p.2])) S
    | _, _ => .bad)
  | _, _ => .bad
def enmL : Nat → List D → List D
  | _, [] => []
  | i, x :: r => .tup [.int i, x] :: enmL (i + 1) r
def enmV (a : Va) (S : Sto) : R Src := match a with
  | .d x => (match seqV (.d x) S with
    | some (_, xs) => .ok (.fix (enmL 0 xs)) S
    | none => .bad)
  | _ => .bad
/-- a comprehension's walk; each turn gives a row of items -/
def kloop (step : D → Sto → R (List D)) : List D → Sto → R (List D)
  | [], S => .ok [] S
  | x :: xs, S => (step x S).bind fun o S1 => (kloop step xs S1).bind fun r S2 => .ok (o ++ r) S2
/-- over a cell whose list may change but for its length; k turns are left -/
def kloopC (step : D → Sto → R (List D)) (l n : Nat) : Nat → Sto → R (List D)
  | 0, S => (match S[l]? with
    | some (.lst ys) => if ys.length = n then .ok [] S else .bad
    | _ => .bad)
  | k + 1, S => (match S[l]? with
    | some (.lst ys) => if ys.length = n then (match ys[n - (k + 1)]? with
      | some x => (step x S).bind fun o S1 => (kloopC step l n k S1).bind fun r S2 => .ok (o ++ r) S2
      | none => .bad) else .bad
    | _ => .bad)
def kloopS (step : D → Sto → R (List D)) (src : Src) (S : Sto) : R (List D) := match src with
  | .fix xs => kloop step xs S
  | .cel l n => kloopC step l n n S
def rowV (r : List D) (S : Sto) : R Va := if r.length ≤ LL then .ok (.f (.lst r)) S else .bad
def setTs : List Nat → List D → Frm → Option Frm
  | [], [], e => some e
  | i :: is, x :: xs, e => setTs is xs (e.set i (some (.d x)))
  | _, _, _ => none
def setT : Tg → D → Frm → Option Frm
  | .nm i, x, e => some (e.set i (some (.d x)))
  | .tp is, .tup xs, e => setTs is xs e
  | _, _, _ => none
def wipe (e : Frm) : List Nat → Frm
  | [] => e
  | v :: vs => (wipe e vs).set v none
/-! ### expressions -/
def tru (r : R Va) : R Bool := match r with
  | .ok v S => (match truV v S with
    | some b => .ok b S
    | none => .bad)
  | .ex c fs S => .ex c fs S
  | .bad => .bad
def dats : List Va → Option (List D)
  | [] => some []
  | .d x :: r => (match dats r with
    | some l => some (x :: l)
    | none => none)
  | _ => none
def mkV (cf : Cfg) (c : Nat) (vs : List Va) (S : Sto) : R Va := match cf.P.ini c with
  | some f => (match cf.call f (.r S.length :: vs) (S ++ [.ins c []]) with
    | .ok (.d .non) S2 => (match S2[S.length]? with
      | some (.ins c' fs) => if c' = c then .ok (.f (.ins c fs)) (S2.take S.length) else .bad
      | _ => .bad)
    | .ok _ _ => .bad
    | .ex k fs S2 => .ex k fs (S2.take S.length)
    | .bad => .bad)
  | none => .bad
/-- list(range(v)) -/
def lrgV (v : Va) (S : Sto) : R Va := match v with
  | .d (.int b) => if 0 ≤ b ∧ b ≤ 16777216 then .ok (.f (.lst ((List.range b.toNat).map fun (k : Nat) => D.int k))) S else .bad
  | _ => .bad
/-- behind a call with a fresh object: it is forgotten -/
def frsV (n : Nat) (r : R Va) : R Va := match r with
  | .ok (.d x) S => .ok (.d x) (S.take n)
  | .ok _ _ => .bad
  | .ex c fs S => .ex c fs (S.take n)
  | .bad => .bad
mutual
def evE : E → Cfg → Frm → Sto → R Va
  | .var i, _, env, S => (match env[i]? with
    | some (some v) => .ok v S
    | _ => .bad)
  | .con x, _, _, S => .ok (.d x) S
  | .glb g, cf, _, S => R.ofO (cf.P.con g) S
  | .bin o a b, cf, env, S => (stl (evE a cf env S)).bind fun va S1 => (stl (evE b cf env S1)).bind fun vb S2 => binV cf o va vb S2
  | .neg a, cf, env, S => (stl (evE a cf env S)).bind fun va S1 => (match va with
    | .d (.int i) => .ok (.d (.int (-i))) S1
    | _ => .bad)
  | .inv a, cf, env, S => (stl (evE a cf env S)).bind fun va S1 => (match va with
    | .d (.int i) => .ok (.d (.int (-i - 1))) S1
    | _ => .bad)
  | .cmp o a b, cf, env, S => (stl (evE a cf env S)).bind fun va S1 => (stl (evE b cf env S1)).bind fun vb S2 => cmpV cf o va vb S2
  | .chn o o' a b c, cf, env, S => (stl (evE a cf env S)).bind fun va S1 => (stl (evE b cf env S1)).bind fun vb S2 =>
      (chV cf o va vb S2).bind fun k S3 => (match k with
        | .d (.bl true) => (stl (evE c cf env S3)).bind fun vc S4 => cmpV cf o' vb vc S4
        | .d (.bl false) => .ok (.d (.bl false)) S3
        | _ => .bad)
  | .not a, cf, env, S => (tru (stl (evE a cf env S))).bind fun b S1 => .ok (.d (.bl (!b))) S1
  | .and a b, cf, env, S => (stl (evE a cf env S)).bind fun va S1 => (match va with
    | .d (.bl true) => stl (evE b cf env S1)
    | .d (.bl false) => .ok (.d (.bl false)) S1
    | _ => .bad)
  | .or a b, cf, env, S => (stl (evE a cf env S)).bind fun va S1 => (match va with
    | .d (.bl false) => stl (evE b cf env S1)
    | .d (.bl true) => .ok (.d (.bl true)) S1
    | _ => .bad)
  | .ife c a b, cf, env, S => (evT c cf env S).bind fun k S1 => (match k with
    | true => stl (evE a cf env S1)
    | false => stl (evE b cf env S1))
  | .tup xs, cf, env, S => (evL xs cf env S).bind fun vs S1 => (match dats vs with
    | some l => if l.length ≤ LL then .ok (.d (.tup l)) S1 else .bad
    | none => .bad)
  | .lst xs, cf, env, S => (evL xs cf env S).bind fun vs S1 => (match dats vs with
    | some l => if l.length ≤ LL then .ok (.f (.lst l)) S1 else .bad
    | none => .bad)
  | .idx a i, cf, env, S => (stl (evE a cf env S)).bind fun va S1 => (stl (evE i cf env S1)).bind fun vi S2 => idxV va vi S2
  | .slc a lo hi, cf, env, S => (stl (evE a cf env S)).bind fun va S1 => (stl (evE lo cf env S1)).bind fun vl S2 => (match endE lo vl with
      | none => .bad
      | some l => (stl (evE hi cf env S2)).bind fun vh S3 => (match endE hi vh with
        | none => .bad
        | some u => slcV va l u S3))
  | .rev a, cf, env, S => (stl (evE a cf env S)).bind fun va S1 => revV va S1
  | .fld a f, cf, env, S => (stl (evE a cf env S)).bind fun va S1 => fldV cf.P va f S1
  | .call f xs, cf, env, S => (evL xs cf env S).bind fun vs S1 => cf.call f vs S1
  | .callF f a, cf, env, S => (match evE a cf env S with
    | .ok (.f c) S1 => frsV S1.length (cf.call f [.r S1.length] (S1 ++ [c]))
    | .ok _ _ => .bad
    | .ex c fs S1 => .ex c fs S1
    | .bad => .bad)
  | .mk c xs, cf, env, S => (evL xs cf env S).bind fun vs S1 => mkV cf c vs S1
  | .mkv i c xs, cf, env, S => (match env[i]? with
    | some (some (.d (.cls c'))) => if c' = c then (evL xs cf env S).bind fun vs S1 => mkV cf c vs S1 else .bad
    | _ => .bad)
  | .cm c f xs, cf, env, S => (evL xs cf env S).bind fun vs S1 => cf.call f (.d (.cls c) :: vs) S1
  | .met c f a xs, cf, env, S => (stl (evE a cf env S)).bind fun va S1 => (match clsV va S1 with
    | some (c', _) => if c' = c then (evL xs cf env S1).bind fun vs S2 => cf.call f (va :: vs) S2 else .bad
    | none => .bad)
  | .bi b xs, cf, env, S => (evL xs cf env S).bind fun vs S1 => biV cf b vs S1
  | .isi a ts, cf, env, S => (stl (evE a cf env S)).bind fun va S1 => isV cf.P va ts S1
  | .bm m a xs, cf, env, S => (stl (evE a cf env S)).bind fun va S1 => if rcvB m va S1 then (evL xs cf env S1).bind fun vs S2 => bmV m va vs S2 else .bad
  | .comp own t src c e, cf, env, S => (evI src cf env S).bind fun s S1 => (kloopS (fun x S' => match setT t x (wipe env own) with
      | some env' => (evT c cf env' S').nox.bind fun b S2 => (match b with
        | true => (stl (evE e cf env' S2)).nox.bind fun v S3 => (match v with
          | .d y => .ok [y] S3
          | _ => .bad)
        | false => .ok [] S2)
      | none => .bad) s S1).nox.bind rowV
  | .comp2 own t src own1 t1 src1 c e, cf, env, S => (evI src cf env S).bind fun s S1 => (kloopS (fun x S' => match setT t x (wipe env own) with
        | some env1 => (evI src1 cf env1 S').nox.bind fun s1 S2 => kloopS (fun y S'' => match setT t1 y (wipe env1 own1) with
            | some env2 => (evT c cf env2 S'').nox.bind fun b S3 => (match b with
              | true => (stl (evE e cf env2 S3)).nox.bind fun v S4 => (match v with
                | .d y => .ok [y] S4
                | _ => .bad)
              | false => .ok [] S3)
            | none => .bad) s1 S2
        | none => .bad) s S1).nox.bind rowV
  | .lrg a, cf, env, S => (stl (evE a cf env S)).bind fun va S1 => lrgV va S1
  | .rng _, _, _, _ => .bad
  | .zip _ _, _, _, _ => .bad
  | .enm _, _, _, _ => .bad
  | .xf f, cf, _, S => (match cf.xc with
    | some (c, fs) => (match cf.P.xfl c with
      | some ns => R.ofO ((ns.zip fs).lookup f) S
      | none => .bad)
    | none => .bad)
  | .xi k, cf, _, S => (match cf.xc with
    | some (c, _) => .ok (.d (.bl (cf.P.sup c k))) S
    | none => .bad)
  | .bad, _, _, _ => .bad
/-- as a test -/
def evT : E → Cfg → Frm → Sto → R Bool
  | .not a, cf, env, S => (evT a cf env S).bind fun b S1 => .ok (!b) S1
  | .and a b, cf, env, S => (evT a cf env S).bind fun k S1 => (match k with
    | true => evT b cf env S1
    | false => .ok false S1)
  | .or a b, cf, env, S => (evT a cf env S).bind fun k S1 => (match k with
    | true => .ok true S1
    | false => evT b cf env S1)
  | .ife c a b, cf, env, S => (evT c cf env S).bind fun k S1 => (match k with
    | true => evT a cf env S1
    | false => evT b cf env S1)
  | e, cf, env, S => tru (stl (evE e cf env S))
/-- a row, each settled -/
def evL : List E → Cfg → Frm → Sto → R (List Va)
  | [], _, _, S => .ok [] S
  | e :: es, cf, env, S => (stl (evE e cf env S)).bind fun v S1 => (evL es cf env S1).bind fun vs S2 => .ok (v :: vs) S2
/-- what is walked -/
def evI : E → Cfg → Frm → Sto → R Src
  | .rng xs, cf, env, S => (evL xs cf env S).bind fun vs S1 => rngV vs S1
  | .zip a b, cf, env, S => (stl (evE a cf env S)).bind fun va S1 => (stl (evE b cf env S1)).bind fun vb S2 => zipV va vb S2
  | .enm a, cf, env, S => (stl (evE a cf env S)).bind fun va S1 => enmV va S1
  | e, cf, env, S => (stl (evE e cf env S)).bind fun v S1 => srcV v S1
end
/-! ### statements -/
inductive Out where
  | nx | rt (v : Va) | bk | ct
inductive RS where
  | ok (o : Out) (env : Frm) (S : Sto)
  | ex (c : Nat) (fs : List D) (env : Frm) (S : Sto)
  | bad
def R.st {α : Type} (r : R α) (env : Frm) (k : α → Sto → RS) : RS := match r with
  | .ok a S => k a S
  | .ex c fs S => .ex c fs env S
  | .bad => .bad
def floop (body : D → Frm → Sto → RS) : List D → Frm → Sto → RS
  | [], env, S => .ok .nx env S
  | x :: xs, env, S => (match body x env S with
    | .ok .nx e S1 => floop body xs e S1
    | .ok .ct e S1 => floop body xs e S1
    | .ok .bk e S1 => .ok .nx e S1
    | r => r)
def floopC (body : D → Frm → Sto → RS) (l n : Nat) : Nat → Frm → Sto → RS
  | 0, env, S => (match S[l]? with
    | some (.lst ys) => if ys.length = n then .ok .nx env S else .bad
    | _ => .bad)
  | k + 1, env, S => (match S[l]? with
    | some (.lst ys) => if ys.length = n then (match ys[n - (k + 1)]? with
      | some x => (match body x env S with
        | .ok .nx e S1 => floopC body l n k e S1
        | .ok .ct e S1 => floopC body l n k e S1
        | .ok .bk e S1 => .ok .nx e S1
        | r => r)
      | none => .bad) else .bad
    | _ => .bad)
def floopS (body : D → Frm → Sto → RS) (src : Src) (env : Frm) (S : Sto) : RS := match src with
  | .fix xs => floop body xs env S
  | .cel l n => floopC body l n n env S
def wloop (test : Frm → Sto → R Bool) (body : Frm → Sto → RS) : Nat → Frm → Sto → RS
  | 0, _, _ => .bad
  | n + 1, env, S => (test env S).st env fun b S1 => (match b with
    | false => .ok .nx env S1
    | true => (match body env S1 with
      | .ok .nx e S2 => wloop test body n e S2
      | .ok .ct e S2 => wloop test body n e S2
      | .ok .bk e S2 => .ok .nx e S2
      | r => r))
/-- turns of a while at most -/
abbrev WL : Nat := 1048576
def setX (x : Option Nat) (r : RS) : RS := match x, r with
  | some i, .ok o env S => .ok o (env.set i none) S
  | _, r => r
def okX (x : Option Nat) (e : Frm) : Bool := match x with
  | some i => decide (i < e.length)
  | none => true
def clrX (x : Option Nat) (e : Frm) : Frm := match x with
  | some i => e.set i none
  | none => e
def putFl (f : Nat) (x : D) : List (Nat × D) → List (Nat × D)
  | [] => [(f, x)]
  | (g, y) :: r => if g = f then (g, x) :: r else (g, y) :: putFl f x r
/-- the item at k of the list in cell l -/
def getC (S : Sto) (l : Nat) (k : Int) : Option D := match S[l]? with
  | some (.lst xs) => if 0 ≤ k then xs[k.toNat]? else none
  | _ => none
def subV (o i : Va) (x : D) (S : Sto) : Option Sto := match o, i with
  | .r l, .d (.int k) => (match S[l]? with
    | some (.lst xs) => if 0 ≤ k ∧ k.toNat < xs.length then some (S.set l (.lst (xs.set k.toNat x))) else none
    | _ => none)
  | _, _ => none
mutual
def exS : Sm → Cfg → Frm → Sto → RS
  | .asg t e, cf, env, S => (stl (evE e cf env S)).st env fun v S1 => (match t, v with
    | .nm i, v => .ok .nx (env.set i (some v)) S1
    | t, .d x => (match setT t x env with
      | some env' => .ok .nx env' S1
      | none => .bad)
    | _, _ => .bad)
  | .own i e, cf, env, S => (evE e cf env S).st env fun v S1 => (match v with
    | .f c => (match c with
      | .dead => .bad
      | c => .ok .nx (env.set i (some (.r S1.length))) (S1 ++ [c]))
    | _ => .bad)
  | .frz i, _, env, S => (match env[i]? with
    | some (some (.r l)) => (match S[l]? with
      | some c => (match c.fz with
        | some x => .ok .nx (env.set i (some (.d x))) (S.set l .dead)
        | none => .bad)
      | none => .bad)
    | some (some (.d _)) => .ok .nx env S
    | _ => .bad)
  | .sub o i e, cf, env, S => (stl (evE e cf env S)).st env fun v S1 => (stl (evE o cf env S1)).st env fun vo S2 => (stl (evE i cf env S2)).st env fun vi S3 => (match v with
    | .d x => (match subV vo vi x S3 with
      | some S4 => .ok .nx env S4
      | none => .bad)
    | _ => .bad)
  | .fld o f e, cf, env, S => (stl (evE e cf env S)).st env fun v S1 => (stl (evE o cf env S1)).st env fun vo S2 => (match v, vo with
    | .d x, .r l => (match S2[l]? with
      | some (.ins c fs) => if fs.length < 500 ∧ (cf.P.ini c).isSome = true then .ok .nx env (S2.set l (.ins c (putFl f x fs))) else .bad
      | _ => .bad)
    | _, _ => .bad)
  | .aug i o e, cf, env, S => (match env[i]? with
    | some (some (.d (.int a))) => (stl (evE e cf env S)).st env fun v S1 => (match v with
      | .d (.int b) => (match iop o a b with
        | some k => .ok .nx (env.set i (some (.d (.int k)))) S1
        | none => .bad)
      | _ => .bad)
    | _ => .bad)
  | .augS a i o e, cf, env, S => (stl (evE a cf env S)).st env fun va S1 => (stl (evE i cf env S1)).st env fun vi S2 => (match va, vi with
    | .r l, .d (.int k) => (match getC S2 l k with
      | some (.int x) => (stl (evE e cf env S2)).st env fun v S4 => (match v with
        | .d (.int b) => (match iop o x b with
          | some z => (match subV va vi (.int z) S4 with
            | some S5 => .ok .nx env S5
            | none => .bad)
          | none => .bad)
        | _ => .bad)
      | _ => .bad)
    | _, _ => .bad)
  | .ex e, cf, env, S => (stl (evE e cf env S)).st env fun _ S1 => .ok .nx env S1
  | .ite c a b, cf, env, S => (evT c cf env S).st env fun k S1 => (match k with
    | true => exSs a cf env S1
    | false => exSs b cf env S1)
  | .for_ t src body, cf, env, S => (evI src cf env S).st env fun s S1 => floopS (fun x env S => match setT t x env with
    | some env' => exSs body cf env' S
    | none => .bad) s env S1
  | .whl c body, cf, env, S => wloop (fun env S => evT c cf env S) (fun env S => exSs body cf env S) WL env S
  | .ret e, cf, env, S => (evE e cf env S).st env fun v S1 => .ok (.rt v) env S1
  | .retn, _, env, S => .ok (.rt (.d .non)) env S
  | .bk, _, env, S => .ok .bk env S
  | .ct, _, env, S => .ok .ct env S
  | .pass, _, env, S => .ok .nx env S
  | .bad, _, _, _ => .bad
  | .rse c xs, cf, env, S => (evL xs cf env S).st env fun vs S1 => (match dats vs with
    | some l => (match cf.P.xfl c with
      | some ns => if ns.length = l.length then .ex c l env S1 else .bad
      | none => .bad)
    | none => .bad)
  | .tr body hs, cf, env, S => (match exSs body cf env S with
    | .ex k fs e S1 => exHs hs k fs cf e S1
    | r => r)
  | .cl _ _ _, _, _, _ => .bad
/-- the clauses, one after the other -/
def exHs : List Sm → Nat → List D → Cfg → Frm → Sto → RS
  | [], k, fs, _, e, S => .ex k fs e S
  | .cl c x h :: r, k, fs, cf, e, S => if cf.P.sup k c then (if okX x e then setX x (exSs h { cf with xc := some (k, fs) } (clrX x e) S) else .bad) else exHs r k fs cf e S
  | _ :: _, _, _, _, _, _ => .bad
def exSs : List Sm → Cfg → Frm → Sto → RS
  | [], _, env, S => .ok .nx env S
  | s :: ss, cf, env, S => (match exS s cf env S with
    | .ok .nx e S1 => exSs ss cf e S1
    | r => r)
end
/-! ### defs -/
structure Fn where
  np : Nat
  nl : Nat
  body : List Sm
def fin (n : Nat) : RS → R Va
  | .ok (.rt (.r l)) _ S => if l < n then .ok (.r l) (S.take n) else (match S[l]? with
    | some .dead => .bad
    | some c => .ok (.f c) (S.take n)
    | none => .bad)
  | .ok (.rt v) _ S => .ok v (S.take n)
  | .ok .nx _ S => .ok (.d .non) (S.take n)
  | .ex c fs _ S => .ex c fs (S.take n)
  | _ => .bad
def env0 (fn : Fn) (vs : List Va) : Frm := vs.map some ++ List.replicate (fn.nl - vs.length) none
def run (P : Prg) (tab : Nat → Option Fn) : Nat → Nat → List Va → Sto → R Va
  | 0, _, _, _ => .bad
  | n + 1, f, vs, S => (match tab f with
    | none => .bad
    | some fn => if vs.length = fn.np then fin S.length (exSs fn.body ⟨P, run P tab n, none⟩ (env0 fn vs) S) else .bad)
def mkPrg (con : List D) (ini : List (Option Nat)) (opm : List (Nat × Nat × Nat)) (sup : List (Nat × Nat)) (xfl : List (Nat × List Nat)) : Prg where
  con := fun g => con[g]?
  ini := fun c => (ini[c]?).bind id
  opm := fun c o => (opm.find? fun q => q.1 == c && q.2.1 == o).map (·.2.2)
  xfl := fun c => xfl.lookup c
  sup := fun c k => sup.any fun q => q.1 == c && q.2 == k
def mkTab (l : List Fn) (f : Nat) : Option Fn := l[f]?
end G
/-! G: the text as a table (names, rows); what the head must tell. -/
namespace GX
open PySem PySem.Spec PySem.W PySem.Calls PyProof.Rows
abbrev exT : List Value := [.type "Exception", .type "BaseException", .type "object"]
def xcB (K : Frag) (C : Addr) : Bool := (excInitIn K C exT "Exception.__new__" && (excOver K C exT && (hasDictIn K C && (decide (findIn K (.ref C) "__setattr__" = some (some (.builtin "object.__setattr__"))) && (decide (subIn K (.ref C) (.type "BaseException") = some true) && (decide (typeIn K (.ref C) = some (.type "type")) && keepIn K (.ref C)))))))
end GX
namespace GS
open PySem PySem.Spec PyProof.Rows L2 G
/-- the text: the classes' addresses, the attributes' names -/
structure Names where
  fld : Nat → Str
  fnm : Nat → Str
  mnm : Nat → Str
  cnm : Nat → Str
  gnm : Nat → Str
  okf : Nat → Bool
  okc : Nat → Bool
  okg : Nat → Bool
  okl : Nat → Bool
  okm : Nat → Nat → Bool
  okk : Nat → Nat → Bool
  okx : Nat → Bool
/-- names of builtins that are free -/
def bnames : List Str := ["range", "len", "min", "max", "sum", "any", "all", "abs", "int", "bool", "list", "tuple", "sorted", "iter", "isinstance", "zip", "enumerate", "str"]
/-- where a def stands -/
inductive Wh where
  | gl (x : Str) | me (c : Nat) (m : Str) | cm (c : Nat) (m : Str)
structure Row where
  wh : Wh
  name : Str
  qual : Str
  st : Stmt
  ps : List Str
  N : List Str
  fn : Fn
/-- a class of errors: its name, the fields that its __init__ stores, that __init__ -/
structure XRow where
  x : Str
  fs : List Nat
  ini : Option Nat
structure Tb where
  fns : List Row
  cls : List (Str × Option Nat)
  opm : List (Nat × Nat × Nat)
  sup : List (Nat × Nat)
  con : List (Str × D)
  flds : List Str
  xcs : List XRow
def pad (n : Nat) : Str := ⟨(List.replicate (n + 100) 126).toArray⟩
def nmAt (l : List Str) (i : Nat) : Str := (l[i]?).getD (pad i)
section
variable (t : Tb)
def Tb.whAt (f : Nat) : Option Wh := (t.fns[f]?).map Row.wh
def Tb.cn (c : Nat) : Str := nmAt (t.cls.map (·.1) ++ t.xcs.map (·.x)) c
def Tb.xfl : List (Nat × List Nat) := t.xcs.zipIdx.filterMap fun q => if q.1.fs.isEmpty then none else some (t.cls.length + q.2, q.1.fs)
def Tb.prg : Prg := mkPrg (t.con.map (·.2)) (t.cls.map (·.2)) t.opm t.sup t.xfl
def Wh.isGl : Option Wh → Bool
  | some (.gl _) => true
  | _ => false
def Wh.isMe (c : Nat) : Option Wh → Bool
  | some (.me c' _) => c' == c
  | _ => false
def Wh.isCm (c : Nat) : Option Wh → Bool
  | some (.cm c' _) => c' == c
  | _ => false
def Wh.nm : Option Wh → Str
  | some (.gl x) => x
  | some (.me _ m) => m
  | some (.cm _ m) => m
  | none => pad 0
def Tb.nms : Names where
  fld := nmAt t.flds
  fnm := fun f => Wh.nm (t.whAt f)
  mnm := fun f => Wh.nm (t.whAt f)
  cnm := t.cn
  gnm := nmAt (t.con.map (·.1))
  okf := fun f => Wh.isGl (t.whAt f)
  okc := fun c => Nat.blt c t.cls.length
  okg := fun g => Nat.blt g t.con.length
  okl := fun f => Nat.blt f t.flds.length
  okm := fun c f => Nat.blt c t.cls.length && Wh.isMe c (t.whAt f)
  okk := fun c f => Nat.blt c t.cls.length && Wh.isCm c (t.whAt f)
  okx := fun c => Nat.ble t.cls.length c && Nat.blt c (t.cls.length + t.xcs.length)
def Tb.ca (K : PySem.W.Frag) (c : Nat) : Addr := He.ga K (t.cn c)
def Tb.wa (K : PySem.W.Frag) : Wh → Addr
  | .gl x => He.ga K x
  | .me c m => He.ma K (t.ca K c) m
  | .cm c m => He5.wf K (t.ca K c) "classmethod" m
def Tb.fa (K : PySem.W.Frag) (f : Nat) : Addr := match t.whAt f with
  | some h => t.wa K h
  | none => 0
def conFa (x : Str) : D → He.Fa
  | .int i => .int x i
  | .str z => .str x z
  | _ => .glo (pad 7)
def isCon : D → Bool
  | .int _ => true
  | .str _ => true
  | _ => false
def whB (K : PySem.W.Frag) : Wh → Bool
  | .gl x => (He.Fa.glo x).ok K && (He.Fa.keep x).ok K
  | .me c m => (He.Fa.meth (t.cn c) m).ok K
  | .cm c m => He5.wrapB K (t.ca K c) "classmethod" "classmethod.__get__" m && (PySem.W.fnIn K (He5.wf K (t.ca K c) "classmethod" m) && (PySem.W.readsIn K (t.ca K c) (.type "type") && He.eqO (PySem.W.specialIn K (.ref (t.ca K c)) "__getattribute__") (some (some (.builtin "type.__getattribute__")))))
def clsB (K : PySem.W.Frag) (x : Str) : Bool := (He.Fa.glo x).ok K && ((He.Fa.cls x).ok K && (t.flds.all (fun f => (He.Fa.noat x f).ok K) &&
  ((["int", "bool", "str", "tuple", "list"] : List String).all (fun n => decide (PySem.W.kitOne K (.ref (He.ga K x)) (.type n) = some false)) &&
  ((["int", "bool", "str", "tuple", "list", "NoneType"] : List String).all (fun n => decide (PySem.W.kitOne K (.type n) (.ref (He.ga K x)) = some false)) &&
  (He.eqO (PySem.W.findIn K (.ref (He.ga K x)) "__class__") (some (some (.builtin "object.__class__"))) && (He.eqO (PySem.W.specialIn K (.builtin "object.__class__") "__get__") (some (some (.builtin "getset_descriptor.__get__"))) &&
  (decide (PySem.W.takesIn K (.builtin "object.__class__") = some true) && decide (PySem.W.mroIn K (He.ga K x) (.type "object") = some true))))))))
def opName : Nat → Option Str
  | 0 => some "__len__"
  | 3 => some "__eq__"
  | 5 => some "__add__"
  | 6 => some "__mul__"
  | _ => none
/-- what the heap must tell -/
def Tb.ex (K : PySem.W.Frag) : Bool := (bnames.all fun x => (He.Fa.free x).ok K) && ((t.con.all fun q => (conFa q.1 q.2).ok K) && ((t.fns.all fun r => whB t K r.wh) && ((t.cls.all fun q => clsB t K q.1 && (match q.2 with
    | some _ => (He.Fa.mkr q.1).ok K
    | none => true)) &&
  ((t.opm.all fun q => q.2.1 == 0 || (if q.2.1 == 3 then He.eqO (PySem.W.findIn K (.ref (t.ca K q.1)) "__ne__") (some (some (.builtin "object.__ne__"))) else PySem.W.selfFirst K (t.ca K q.1))) && ((List.range t.cls.length).all fun c => (List.range t.cls.length).all fun k => decide (PySem.W.kitOne K (.ref (t.ca K c)) (.ref (t.ca K k)) = some (t.prg.sup c k)))))))
/-- of one class of errors, by the heap -/
def Tb.xB (K : PySem.W.Frag) (q : XRow) : Bool := (He.Fa.glo q.x).ok K && (q.fs.isEmpty || (GX.xcB K (He.ga K q.x) && ((q.fs.all fun f => He.eqO (PySem.W.findIn K (.ref (He.ga K q.x)) (nmAt t.flds f)) (some none)) && (xfB K (He.ga K q.x) &&
  ((He.eqO (PySem.W.findIn K (.ref (He.ga K q.x)) "__class__") (some (some (.builtin "object.__class__"))) && (He.eqO (PySem.W.specialIn K (.builtin "object.__class__") "__get__") (some (some (.builtin "getset_descriptor.__get__"))) &&
  (decide (PySem.W.takesIn K (.builtin "object.__class__") = some true) && decide (PySem.W.mroIn K (He.ga K q.x) (.type "object") = some true)))) &&
  (t.xcs.zipIdx.all fun u => decide (PySem.W.exmOne K (.ref (He.ga K q.x)) (.ref (He.ga K u.1.x)) = PySem.W.kitOne K (.ref (He.ga K q.x)) (.ref (He.ga K u.1.x)))))))))
def Tb.ex2 (K : PySem.W.Frag) : Bool := t.xcs.zipIdx.all fun q => t.xB K q.1 && (q.1.fs.isEmpty || t.xcs.zipIdx.all fun u => decide (PySem.W.kitOne K (.ref (He.ga K q.1.x)) (.ref (He.ga K u.1.x)) = some (t.prg.sup (t.cls.length + q.2) (t.cls.length + u.2))))
end
def Row.defA (t : Tb) (r : Row) : He5.DefA := { at_ := fun K => t.wa K r.wh, name := r.name, qual := r.qual, params := defArgs r.st, body := defBody r.st, scope := defScope r.st }
/-! ### the Hook -/
def obsW (t : Tb) (K : PySem.W.Frag) : He.AlD := (t.ex K && (t.ex2 K && t.fns.all fun r => (r.defA t).ok K), t.fns.map fun r => He5.fnA K (t.wa K r.wh))
def valW (t : Tb) : He.AlD := (true, t.fns.map fun r => (r.defA t).val)
def SaysW (t : Tb) (K : PySem.W.Frag) : Prop := obsW t K = valW t
def obsWG (n : Nat) (t : Tb) (g : Addr → Option Obj) : He.AlD := obsW t (He.frG g (He5.asA g n))
def hookW (n : Nat) (t : Tb) : PySem.W.Hook where
  α := He.AlD
  obs := fun s => obsWG n t s.heap.get?
  val := fun _ => valW t
  says := fun _ h => ∃ K : PySem.W.Frag, K.In h ∧ SaysW t K
  of := fun _ _ e => ⟨_, He.frG_in, e⟩
  keeps := fun _ _ _ ⟨K, hK, c⟩ k => ⟨K, PySem.W.Frag.In.keeps hK k, c⟩
theorem obsWG_eq {n : Nat} {t : Tb} {g : Addr → Option Obj} {s : Shared} (h : ∀ a, g a = s.heap.get? a) : obsWG n t g = (hookW n t).obs s := by
  have e : g = s.heap.get? := funext h
  rw [e] <;> rfl
end GS
/-! K07: the text's defs in G. -/
namespace K07
open G
/-- law(script) : 0=script 1=draws 2=word 3=drawn 4=size 5=masks 6=family 7=rows 8=gaps 9=least 10=step 11=at 12=most 13=row 14=inner 15=other 16=told 17=due -/
def f_law : Fn := ⟨1, 18, [
  .own 1 (.call 1 [.var 0]),
  .asg (.nm 2) (.call 2 [.var 1, .con (.int 6)]),
  .ite (.cmp .ge (.var 2) (.con (.int 3))) [.asg (.nm 3) (.call 3 [.var 1])] [.ite (.cmp .eq (.var 2) (.con (.int 2))) [.asg (.nm 3) (.call 4 [.var 1, .con (.int 4)])] [.asg (.nm 3) (.call 5 [.var 1, .con (.int 5)])]],
  .asg (.nm 4) (.idx (.var 3) (.con (.int 0))),
  .asg (.nm 5) (.idx (.var 3) (.con (.int 1))),
  .own 6 (.mk 0 [.var 4, .call 7 [.var 5]]),
  .asg (.nm 7) (.call 8 [.var 4, .var 5]),
  .asg (.nm 8) (.comp [13] (.nm 13) (.var 7) (.idx (.var 13) (.con (.int 3))) (.idx (.var 13) (.con (.int 4)))),
  .asg (.nm 9) (.bi .min [.bin .add (.var 8) (.lst [.con (.int 99)])]),
  .ite (.or (.cmp .ne (.cmp .is_ (.call 9 [.var 6]) (.con .non)) (.cmp .eq (.var 9) (.con (.int 99)))) (.cmp .lt (.var 9) (.con (.int 3)))) [.ret (.con (.bl false))] [],
  .frz 6,
  .ite (.cmp .ne (.cmp .is_ (.call 10 [.var 6]) (.con .non)) (.cmp .gt (.var 9) (.con (.int 4)))) [.ret (.con (.bl false))] [],
  .asg (.nm 10) (.bin .add (.con (.int 1)) (.bin .fdiv (.bi .len [.var 7]) (.con (.int 10)))),
  .asg (.nm 11) (.call 2 [.var 1, .var 10]),
  .asg (.nm 12) (.con (.int 6)),
  .for_ (.nm 13) (.var 7) [.aug 11 .add (.con (.int 1)), .ite (.idx (.var 13) (.con (.int 3))) [.asg (.nm 12) (.bin .sub (.var 12) (.con (.int 1)))] [], .ite (.or (.and (.idx (.var 13) (.con (.int 3))) (.cmp .ge (.var 12) (.con (.int 0)))) (.and (.not (.idx (.var 13) (.con (.int 3)))) (.cmp .eq (.bin .mod (.bi .int [.var 11]) (.var 10)) (.con (.int 0))))) [.asg (.nm 14) (.call 11 [.var 1, .call 12 [.idx (.var 13) (.con (.int 0))]]), .asg (.nm 15) (.call 12 [.idx (.var 13) (.con (.int 1))]), .asg (.nm 16) (.call 13 [.var 6, .var 14, .var 15, .idx (.var 13) (.con (.int 2))]), .asg (.nm 17) (.tup [.con (.str "number"), .con (.str "gap")]), .ite (.and (.idx (.var 13) (.con (.int 3))) (.cmp .eq (.idx (.var 13) (.con (.int 4))) (.var 9))) [.asg (.nm 17) (.bi .min [.var 9, .con (.int 5)]), .ite (.or (.not (.call 14 [.var 16])) (.not (.call 15 [.var 6, .idx (.var 13) (.con (.int 0)), .idx (.var 13) (.con (.int 1)), .idx (.var 13) (.con (.int 2))]))) [.ret (.con (.bl false))] []] [], .ite (.or (.cmp .ne (.var 16) (.var 17)) (.cmp .ne (.cmp .eq (.call 16 [.var 6, .var 14, .var 15, .idx (.var 13) (.con (.int 2))]) (.lst [])) (.idx (.var 13) (.con (.int 3))))) [.ret (.con (.bl false))] []] []],
  .ret (.call 17 [.var 1, .var 4, .var 5, .var 6])]⟩
/-- _law_draws(script) : 0=script 1=draws 2=at 3=cell 4=k 5=number -/
def f__law_draws : Fn := ⟨1, 6, [
  .own 1 (.lst []),
  .for_ (.nm 2) (.rng [.bi .min [.bi .len [.var 0], .con (.int 63)]]) [.asg (.nm 3) (.bi .int [.idx (.var 0) (.var 2)]), .ite (.cmp .lt (.var 3) (.con (.int 0))) [.asg (.nm 3) (.bin .sub (.con (.int 1)) (.var 3))] [], .ite (.cmp .ge (.var 3) (.bin .pow (.con (.int 10)) (.con (.int 18)))) [.for_ (.nm 4) (.rng [.con (.int 60)]) [.ite (.cmp .gt (.var 3) (.con (.int 0))) [.ex (.bm .append (.var 1) [.bin .mod (.bi .int [.var 3]) (.con (.int 24))]), .asg (.nm 3) (.bin .fdiv (.var 3) (.con (.int 24)))] []]] [.asg (.nm 5) (.bin .mod (.bi .int [.bin .add (.bin .add (.bin .mul (.var 3) (.con (.int 69621))) (.bin .mul (.var 2) (.con (.int 40692)))) (.con (.int 3))]) (.con (.int 2147483647))), .for_ (.nm 4) (.rng [.con (.int 6)]) [.asg (.nm 5) (.bin .mod (.bi .int [.bin .add (.bin .add (.bin .add (.bin .mul (.var 5) (.var 5)) (.bin .mul (.var 4) (.con (.int 48271)))) (.var 2)) (.con (.int 5))]) (.con (.int 2147483563))), .ex (.bm .append (.var 1) [.var 5])]]],
  .ex (.bm .reverse (.var 1) []),
  .ret (.var 1)]⟩
/-- _law_take(draws, many) : 0=draws 1=many -/
def f__law_take : Fn := ⟨2, 2, [
  .ite (.cmp .eq (.bi .len [.var 0]) (.con (.int 0))) [.ret (.con (.int 0))] [],
  .ret (.bin .mod (.bi .int [.bm .pop (.var 0) []]) (.var 1))]⟩
/-- _law_between(draws) : 0=draws 1=many 2=size 3=whole 4=masks 5=k 6=lot 7=turn 8=number -/
def f__law_between : Fn := ⟨1, 9, [
  .asg (.nm 1) (.bin .add (.con (.int 3)) (.call 2 [.var 0, .con (.int 5)])),
  .asg (.nm 2) (.bi .min [.con (.int 7), .bin .add (.var 1) (.call 2 [.var 0, .con (.int 2)])]),
  .asg (.nm 3) (.bin .sub (.bin .shl (.con (.int 1)) (.var 1)) (.con (.int 1))),
  .own 4 (.lst [.con (.int 0), .var 3]),
  .for_ (.nm 5) (.rng [.call 2 [.var 0, .con (.int 8)]]) [.asg (.nm 6) (.bin .xor (.var 3) (.bin .shl (.con (.int 1)) (.call 2 [.var 0, .var 1]))), .ite (.cmp .gt (.call 2 [.var 0, .con (.int 3)]) (.con (.int 0))) [.asg (.nm 6) (.bin .and (.var 6) (.inv (.bin .shl (.con (.int 1)) (.call 2 [.var 0, .var 1]))))] [], .ite (.cmp .eq (.call 2 [.var 0, .con (.int 8)]) (.con (.int 7))) [.asg (.nm 6) (.bin .and (.bin .add (.call 2 [.var 0, .con (.int 24)]) (.bin .mul (.con (.int 24)) (.call 2 [.var 0, .con (.int 6)]))) (.var 3))] [], .ite (.cmp .nin (.var 6) (.var 4)) [.ex (.bm .append (.var 4) [.var 6])] []],
  .frz 4,
  .ite (.and (.cmp .gt (.var 2) (.var 1)) (.cmp .eq (.call 2 [.var 0, .con (.int 2)]) (.con (.int 1)))) [.asg (.nm 4) (.bin .add (.var 4) (.comp [8] (.nm 8) (.var 4) (.con (.bl true)) (.bin .add (.var 8) (.bin .shl (.con (.int 1)) (.var 1)))))] [],
  .asg (.nm 7) (.bin .and (.bin .add (.call 2 [.var 0, .con (.int 24)]) (.bin .mul (.con (.int 24)) (.call 2 [.var 0, .con (.int 6)]))) (.bin .sub (.bin .shl (.con (.int 1)) (.var 2)) (.con (.int 1)))),
  .ret (.lst [.var 2, .call 18 [.var 4, .var 7]])]⟩
/-- _law_any(draws, most) : 0=draws 1=most 2=size 3=row 4=k 5=number 6=mark -/
def f__law_any : Fn := ⟨2, 7, [
  .asg (.nm 2) (.bin .add (.con (.int 1)) (.call 2 [.var 0, .var 1])),
  .own 3 (.comp [5] (.nm 5) (.rng [.bin .shl (.con (.int 1)) (.var 2)]) (.con (.bl true)) (.con (.bl false))),
  .for_ (.nm 4) (.rng [.bin .add (.con (.int 1)) (.call 2 [.var 0, .con (.int 12)])]) [.asg (.nm 5) (.bin .and (.bin .add (.call 2 [.var 0, .con (.int 24)]) (.bin .mul (.con (.int 24)) (.call 2 [.var 0, .con (.int 3)]))) (.bin .sub (.bin .shl (.con (.int 1)) (.var 2)) (.con (.int 1)))), .sub (.var 3) (.var 5) (.con (.bl true))],
  .frz 3,
  .ite (.and (.cmp .eq (.call 2 [.var 0, .con (.int 4)]) (.con (.int 3))) (.cmp .in_ (.con (.bl false)) (.var 3))) [.asg (.nm 3) (.comp [6] (.nm 6) (.var 3) (.con (.bl true)) (.not (.var 6)))] [],
  .ret (.lst [.var 2, .comp [5] (.nm 5) (.rng [.bin .shl (.con (.int 1)) (.var 2)]) (.idx (.var 3) (.var 5)) (.var 5)])]⟩
/-- _law_family(draws, most) : 0=draws 1=most 2=size 3=word 4=masks 5=row 6=k 7=number 8=lot -/
def f__law_family : Fn := ⟨2, 9, [
  .asg (.nm 2) (.bin .add (.con (.int 1)) (.idx (.lst [.con (.int 2), .con (.int 1), .con (.int 3), .con (.int 2), .con (.int 4), .con (.int 3), .con (.int 0), .con (.int 5)]) (.call 2 [.var 0, .con (.int 8)]))),
  .asg (.nm 2) (.bi .min [.var 2, .var 1]),
  .asg (.nm 3) (.call 2 [.var 0, .con (.int 6)]),
  .asg (.nm 4) (.call 19 [.var 0, .var 2]),
  .ite (.cmp .ge (.var 3) (.con (.int 4))) [.own 5 (.call 20 [.var 2, .var 4]), .for_ (.nm 6) (.rng [.bin .add (.con (.int 1)) (.bin .mul (.bin .sub (.var 3) (.con (.int 4))) (.con (.int 3)))]) [.asg (.nm 7) (.bin .and (.bin .add (.call 2 [.var 0, .con (.int 24)]) (.bin .mul (.con (.int 24)) (.call 2 [.var 0, .con (.int 3)]))) (.bin .sub (.bin .shl (.con (.int 1)) (.var 2)) (.con (.int 1)))), .sub (.var 5) (.var 7) (.not (.idx (.var 5) (.var 7)))], .frz 5, .asg (.nm 4) (.call 21 [.var 5])] [],
  .asg (.nm 8) (.bin .and (.bin .add (.call 2 [.var 0, .con (.int 24)]) (.bin .mul (.con (.int 24)) (.call 2 [.var 0, .con (.int 3)]))) (.bin .sub (.bin .shl (.con (.int 1)) (.var 2)) (.con (.int 1)))),
  .asg (.nm 4) (.call 18 [.var 4, .var 8]),
  .ite (.cmp .eq (.bi .len [.var 4]) (.con (.int 0))) [.asg (.nm 4) (.lst [.var 8])] [],
  .ret (.lst [.var 2, .var 4])]⟩
/-- Family.__init__(self, size, lots) : 0=self 1=size 2=lots 3=found 4=marks 5=number 6=row -/
def f_Family___init__ : Fn := ⟨3, 7, [
  .asg (.nm 3) (.call 22 [.var 1, .var 2]),
  .own 4 (.comp [5] (.nm 5) (.rng [.bin .shl (.con (.int 1)) (.var 1)]) (.con (.bl true)) (.con (.bl false))),
  .for_ (.nm 5) (.var 3) [.sub (.var 4) (.var 5) (.con (.bl true))],
  .frz 4,
  .fld (.var 0) 0 (.var 1),
  .fld (.var 0) 1 (.bi .tuple [.bi .sorted [.comp [5] (.nm 5) (.var 3) (.con (.bl true)) (.call 23 [.var 5])]]),
  .fld (.var 0) 2 (.bi .tuple [.comp [6] (.nm 6) (.fld (.var 0) 1) (.con (.bl true)) (.call 24 [.var 6])]),
  .fld (.var 0) 3 (.var 4),
  .fld (.var 0) 4 (.call 25 [.var 1, .var 4]),
  .fld (.var 0) 5 (.con (.bl false)),
  .fld (.var 0) 6 (.con .non)]⟩
/-- _law_lots(masks) : 0=masks 1=number -/
def f__law_lots : Fn := ⟨1, 2, [
  .ret (.bi .sorted [.comp [1] (.nm 1) (.var 0) (.con (.bl true)) (.call 12 [.var 1])])]⟩
/-- _law_all(size, masks) : 0=size 1=masks 2=row 3=found 4=number 5=goal 6=span 7=thing 8=start 9=held 10=other -/
def f__law_all : Fn := ⟨2, 11, [
  .asg (.nm 2) (.call 20 [.var 0, .var 1]),
  .own 3 (.lst []),
  .for_ (.nm 4) (.var 1) [.for_ (.nm 5) (.var 1) [.asg (.nm 6) (.bin .xor (.var 4) (.var 5)), .for_ (.nm 7) (.call 12 [.var 6]) [.asg (.nm 8) (.bin .xor (.var 4) (.bin .shl (.con (.int 1)) (.var 7))), .asg (.nm 9) (.idx (.var 2) (.var 8)), .for_ (.nm 10) (.call 12 [.var 6]) [.ite (.and (.cmp .ne (.var 10) (.var 7)) (.idx (.var 2) (.bin .xor (.var 8) (.bin .shl (.con (.int 1)) (.var 10))))) [.asg (.nm 9) (.con (.bl true))] []], .ex (.bm .append (.var 3) [.lst [.var 4, .var 5, .var 7, .not (.var 9), .call 26 [.var 6]]])]]],
  .ret (.var 3)]⟩
/-- find_break(family) : 0=family -/
def f_find_break : Fn := ⟨1, 1, [
  .ite (.not (.fld (.var 0) 5)) [.fld (.var 0) 6 (.call 27 [.var 0, .con (.int 1), .fld (.var 0) 0]), .fld (.var 0) 5 (.con (.bl true))] [],
  .ret (.fld (.var 0) 6)]⟩
/-- near_break(family) : 0=family -/
def f_near_break : Fn := ⟨1, 1, [
  .ret (.call 27 [.var 0, .con (.int 3), .con (.int 4)])]⟩
/-- _law_mixed(draws, row) : 0=draws 1=row 2=rest 3=found 4=k -/
def f__law_mixed : Fn := ⟨2, 5, [
  .own 2 (.bi .list [.var 1]),
  .own 3 (.lst []),
  .for_ (.nm 4) (.rng [.bi .len [.var 1]]) [.ex (.bm .append (.var 3) [.bm .popAt (.var 2) [.call 2 [.var 0, .bi .len [.var 2]]]])],
  .ret (.var 3)]⟩
/-- _law_lot(number) : 0=number 1=thing -/
def f__law_lot : Fn := ⟨1, 2, [
  .ret (.bi .tuple [.comp [1] (.nm 1) (.rng [.con (.int 12)]) (.cmp .eq (.bin .and (.bin .shr (.var 0) (.var 1)) (.con (.int 1))) (.con (.int 1))) (.var 1)])]⟩
/-- _law_sort(family, inner, other, thing) : 0=family 1=inner 2=other 3=thing 4=told 5=error -/
def f__law_sort : Fn := ⟨4, 6, [
  .asg (.nm 4) (.con .non),
  .tr [.asg (.nm 4) (.call 28 [.var 0, .var 1, .var 2, .var 3])] [.cl 1 (some 5) [.asg (.nm 4) (.tup [.con (.str "lot"), .xf 7])], .cl 2 (some 5) [.asg (.nm 4) (.tup [.con (.str "thing"), .xf 8])], .cl 3 (some 5) [.asg (.nm 4) (.tup [.con (.str "inside"), .xf 9])], .cl 4 (some 5) [.asg (.nm 4) (.tup [.con (.str "number"), .xf 10])]],
  .ret (.var 4)]⟩
/-- _law_int(value) : 0=value -/
def f__law_int : Fn := ⟨1, 1, [
  .ret (.and (.isi (.var 0) [.int]) (.not (.isi (.var 0) [.bool])))]⟩
/-- _law_shape(family, number, goal, thing) : 0=family 1=number 2=goal 3=thing 4=span 5=many 6=sizes 7=lot 8=part -/
def f__law_shape : Fn := ⟨4, 9, [
  .asg (.nm 4) (.bin .xor (.var 1) (.var 2)),
  .asg (.nm 5) (.call 26 [.var 4]),
  .own 6 (.lst []),
  .for_ (.nm 7) (.fld (.var 0) 1) [.asg (.nm 8) (.bin .xor (.call 33 [.var 7]) (.var 1)), .ite (.and (.cmp .eq (.bin .and (.var 8) (.inv (.var 4))) (.con (.int 0))) (.and (.cmp .ne (.var 8) (.con (.int 0))) (.cmp .ne (.var 8) (.var 4)))) [.ite (.or (.cmp .eq (.bin .and (.bin .shr (.var 8) (.var 3)) (.con (.int 1))) (.con (.int 1))) (.cmp .lt (.call 26 [.var 8]) (.bin .sub (.var 5) (.con (.int 2))))) [.ret (.con (.bl false))] [], .ex (.bm .append (.var 6) [.call 26 [.var 8]])] []],
  .frz 6,
  .ite (.cmp .ge (.var 5) (.con (.int 5))) [.ret (.cmp .eq (.bi .len [.var 6]) (.con (.int 0)))] [],
  .ret (.or (.cmp .ne (.var 5) (.con (.int 4))) (.or (.cmp .nin (.con (.int 3)) (.var 6)) (.cmp .eq (.bm .count (.var 6) [.con (.int 2)]) (.con (.int 3)))))]⟩
/-- partners(family, inner, other, thing) : 0=family 1=inner 2=other 3=thing 4=left 5=right -/
def f_partners : Fn := ⟨4, 6, [
  .asg (.tp [4, 5]) (.call 34 [.var 0, .var 1, .var 2, .var 3]),
  .ret (.bi .list [.call 23 [.bin .and (.call 35 [.var 0, .var 4, .var 3]) (.bin .xor (.var 4) (.var 5))]])]⟩
/-- _law_refusals(draws, size, masks, family) : 0=draws 1=size 2=masks 3=family 4=good 5=spoilt 6=wrong 7=thing 8=row 9=free 10=spot 11=number -/
def f__law_refusals : Fn := ⟨4, 12, [
  .asg (.nm 4) (.call 12 [.idx (.var 2) (.con (.int 0))]),
  .asg (.nm 5) (.call 36 [.var 0, .var 1, .call 2 [.var 0, .bin .shl (.con (.int 1)) (.var 1)]]),
  .asg (.nm 6) (.idx (.lst [.var 1, .neg (.con (.int 1)), .con .non, .con (.bl true)]) (.call 2 [.var 0, .con (.int 4)])),
  .ite (.cmp .ne (.call 13 [.var 3, .idx (.var 5) (.con (.int 0)), .con (.int 5), .var 6]) (.tup [.con (.str "lot"), .idx (.var 5) (.con (.int 1))])) [.ret (.con (.bl false))] [],
  .ite (.or (.cmp .ne (.call 13 [.var 3, .var 4, .idx (.var 5) (.con (.int 0)), .var 6]) (.tup [.con (.str "lot"), .idx (.var 5) (.con (.int 1))])) (.cmp .ne (.call 13 [.var 3, .var 4, .con (.int 5), .con (.int 0)]) (.tup [.con (.str "lot"), .neg (.con (.int 1))]))) [.ret (.con (.bl false))] [],
  .for_ (.nm 7) (.rng [.var 1]) [.ite (.cmp .eq (.bin .and (.bin .shr (.bin .xor (.idx (.var 2) (.con (.int 0))) (.idx (.var 2) (.neg (.con (.int 1))))) (.var 7)) (.con (.int 1))) (.con (.int 0))) [.ite (.cmp .ne (.call 13 [.var 3, .var 4, .call 12 [.idx (.var 2) (.neg (.con (.int 1)))], .var 7]) (.tup [.con (.str "thing"), .var 7])) [.ret (.con (.bl false))] []] []],
  .asg (.nm 8) (.call 20 [.var 1, .var 2]),
  .asg (.nm 9) (.comp [11] (.nm 11) (.rng [.bin .shl (.con (.int 1)) (.var 1)]) (.not (.idx (.var 8) (.var 11))) (.var 11)),
  .ite (.cmp .eq (.bi .len [.var 9]) (.con (.int 0))) [.ret (.cmp .eq (.call 13 [.var 3, .var 4, .var 4, .con (.int 0)]) (.tup [.con (.str "thing"), .con (.int 0)]))] [],
  .asg (.nm 10) (.call 12 [.idx (.var 9) (.con (.int 0))]),
  .ite (.or (.cmp .ne (.call 13 [.var 3, .var 10, .var 4, .var 6]) (.tup [.con (.str "thing"), .var 6])) (.cmp .ne (.call 13 [.var 3, .var 10, .var 10, .con (.int 0)]) (.tup [.con (.str "thing"), .con (.int 0)]))) [.ret (.con (.bl false))] [],
  .asg (.nm 7) (.idx (.call 12 [.bin .xor (.idx (.var 9) (.con (.int 0))) (.idx (.var 2) (.con (.int 0)))]) (.con (.int 0))),
  .ret (.chn .eq .eq (.call 13 [.var 3, .var 4, .rev (.var 10), .var 7]) (.tup [.con (.str "inside"), .var 10]) (.call 13 [.var 3, .rev (.var 10), .var 4, .var 7]))]⟩
/-- _law_turned(masks, lot) : 0=masks 1=lot 2=number -/
def f__law_turned : Fn := ⟨2, 3, [
  .ret (.bi .sorted [.comp [2] (.nm 2) (.var 0) (.con (.bl true)) (.bin .xor (.var 2) (.var 1))])]⟩
/-- _law_made(draws, size) : 0=draws 1=size 2=word 3=low 4=top 5=masks 6=lot -/
def f__law_made : Fn := ⟨2, 7, [
  .asg (.nm 2) (.call 2 [.var 0, .con (.int 6)]),
  .ite (.or (.cmp .eq (.var 2) (.con (.int 0))) (.cmp .eq (.var 2) (.con (.int 3)))) [.asg (.nm 3) (.call 2 [.var 0, .bin .add (.var 1) (.con (.int 1))]), .asg (.nm 4) (.bin .add (.var 3) (.call 2 [.var 0, .bin .sub (.bin .add (.var 1) (.con (.int 1))) (.var 3)])), .asg (.nm 5) (.call 37 [.var 1, .var 3, .var 4])] [.asg (.nm 5) (.call 38 [.var 1, .call 39 [.var 0, .var 1]])],
  .ite (.cmp .ge (.var 2) (.con (.int 4))) [.asg (.nm 3) (.call 2 [.var 0, .con (.int 2)]), .asg (.nm 5) (.call 40 [.var 1, .var 5, .call 37 [.var 1, .var 3, .con (.int 1)]])] [],
  .ite (.cmp .eq (.var 2) (.con (.int 3))) [.asg (.nm 6) (.bin .and (.call 2 [.var 0, .con (.int 24)]) (.bin .sub (.bin .shl (.con (.int 1)) (.var 1)) (.con (.int 1)))), .asg (.nm 5) (.call 40 [.var 1, .var 5, .lst [.con (.int 0), .var 6]])] [],
  .ret (.var 5)]⟩
/-- _law_inside(size, masks) : 0=size 1=masks 2=row 3=number -/
def f__law_inside : Fn := ⟨2, 4, [
  .own 2 (.comp [3] (.nm 3) (.rng [.bin .shl (.con (.int 1)) (.var 0)]) (.con (.bl true)) (.con (.bl false))),
  .for_ (.nm 3) (.var 1) [.sub (.var 2) (.var 3) (.con (.bl true))],
  .ret (.var 2)]⟩
/-- _law_listed(row) : 0=row 1=number -/
def f__law_listed : Fn := ⟨1, 2, [
  .ret (.comp [1] (.nm 1) (.rng [.bi .len [.var 0]]) (.idx (.var 0) (.var 1)) (.var 1))]⟩
/-- _numbers_of(size, lots) : 0=size 1=lots 2=found 3=marks 4=place 5=number -/
def f__numbers_of : Fn := ⟨2, 6, [
  .ite (.not (.call 41 [.var 0])) [.rse 5 [.neg (.con (.int 1))]] [],
  .ite (.not (.isi (.var 1) [.tuple, .list])) [.rse 5 [.neg (.con (.int 2))]] [],
  .ite (.cmp .eq (.bi .len [.var 1]) (.con (.int 0))) [.rse 5 [.neg (.con (.int 3))]] [],
  .own 2 (.lst []),
  .own 3 (.comp [5] (.nm 5) (.rng [.bin .shl (.con (.int 1)) (.var 0)]) (.con (.bl true)) (.con (.bl false))),
  .for_ (.nm 4) (.rng [.bi .len [.var 1]]) [.asg (.nm 5) (.call 43 [.idx (.var 1) (.var 4), .var 0]), .ite (.or (.cmp .is_ (.var 5) (.con .non)) (.idx (.var 3) (.var 5))) [.rse 5 [.var 4]] [], .sub (.var 3) (.var 5) (.con (.bl true)), .ex (.bm .append (.var 2) [.var 5])],
  .ret (.var 2)]⟩
/-- _lot_of(number) : 0=number 1=bit -/
def f__lot_of : Fn := ⟨1, 2, [
  .ret (.bi .tuple [.comp [1] (.nm 1) (.rng [.bm .bitlen (.var 0) []]) (.bin .and (.bin .shr (.var 0) (.var 1)) (.con (.int 1))) (.var 1)])]⟩
/-- _number_of(lot) : 0=lot 1=number 2=thing -/
def f__number_of : Fn := ⟨1, 3, [
  .asg (.nm 1) (.con (.int 0)),
  .for_ (.nm 2) (.var 0) [.asg (.nm 1) (.bin .or (.var 1) (.bin .shl (.con (.int 1)) (.var 2)))],
  .ret (.var 1)]⟩
/-- _depths_of(size, inside) : 0=size 1=inside 2=found 3=thing 4=mark 5=number -/
def f__depths_of : Fn := ⟨2, 6, [
  .asg (.nm 2) (.comp [4] (.nm 4) (.var 1) (.con (.bl true)) (.ife (.var 4) (.con (.int 0)) (.bin .add (.var 0) (.con (.int 1))))),
  .for_ (.nm 3) (.rng [.var 0]) [.asg (.nm 2) (.comp [5] (.nm 5) (.rng [.bin .shl (.con (.int 1)) (.var 0)]) (.con (.bl true)) (.bi .min [.idx (.var 2) (.var 5), .bin .add (.idx (.var 2) (.bin .xor (.var 5) (.bin .shl (.con (.int 1)) (.var 3)))) (.con (.int 1))]))],
  .ret (.var 2)]⟩
/-- _law_bits(number) : 0=number 1=count -/
def f__law_bits : Fn := ⟨1, 2, [
  .for_ (.nm 1) (.rng [.con (.int 12)]) [.ite (.cmp .eq (.var 0) (.con (.int 0))) [.ret (.var 1)] [], .asg (.nm 0) (.bin .and (.var 0) (.bin .sub (.var 0) (.con (.int 1))))],
  .ret (.con (.int 12))]⟩
/-- _first_break(family, least, most) : 0=family 1=least 2=most 3=left 4=masks 5=right 6=span 7=thing -/
def f__first_break : Fn := ⟨3, 8, [
  .for_ (.nm 3) (.fld (.var 0) 2) [.asg (.nm 4) (.comp [7] (.nm 7) (.rng [.fld (.var 0) 0]) (.con (.bl true)) (.call 35 [.var 0, .var 3, .var 7])), .for_ (.nm 5) (.fld (.var 0) 2) [.asg (.nm 6) (.bin .xor (.var 3) (.var 5)), .ite (.not (.chn .le .le (.var 1) (.call 44 [.var 6]) (.var 2))) [.ct] [], .for_ (.nm 7) (.rng [.fld (.var 0) 0]) [.ite (.and (.bin .and (.bin .shr (.var 6) (.var 7)) (.con (.int 1))) (.cmp .eq (.bin .and (.idx (.var 4) (.var 7)) (.var 6)) (.con (.int 0)))) [.ret (.tup [.call 23 [.var 3], .call 23 [.var 5], .var 7])] []]]],
  .ret (.con .non)]⟩
/-- break_sort(family, inner, other, thing) : 0=family 1=inner 2=other 3=thing 4=left 5=right 6=span 7=many -/
def f_break_sort : Fn := ⟨4, 8, [
  .asg (.tp [4, 5]) (.call 34 [.var 0, .var 1, .var 2, .var 3]),
  .asg (.nm 6) (.bin .xor (.var 4) (.var 5)),
  .asg (.nm 7) (.call 44 [.var 6]),
  .ite (.or (.bin .and (.call 35 [.var 0, .var 4, .var 3]) (.var 6)) (.cmp .isn (.call 27 [.var 0, .con (.int 1), .bin .sub (.var 7) (.con (.int 1))]) (.con .non))) [.rse 4 [.con (.str "gap")]] [],
  .ret (.bi .min [.var 7, .con (.int 5)])]⟩
/-- BadLot.__init__(self, place) : 0=self 1=place -/
def f_BadLot___init__ : Fn := ⟨2, 2, [
  .fld (.var 0) 7 (.var 1)]⟩
/-- BadThing.__init__(self, thing) : 0=self 1=thing -/
def f_BadThing___init__ : Fn := ⟨2, 2, [
  .fld (.var 0) 8 (.var 1)]⟩
/-- NotInside.__init__(self, lot) : 0=self 1=lot -/
def f_NotInside___init__ : Fn := ⟨2, 2, [
  .fld (.var 0) 9 (.var 1)]⟩
/-- BadNumber.__init__(self, name) : 0=self 1=name -/
def f_BadNumber___init__ : Fn := ⟨2, 2, [
  .fld (.var 0) 10 (.var 1)]⟩
/-- _law_number(lot) : 0=lot 1=number 2=thing -/
def f__law_number : Fn := ⟨1, 3, [
  .asg (.nm 1) (.con (.int 0)),
  .for_ (.nm 2) (.var 0) [.aug 1 .add (.bin .shl (.con (.int 1)) (.var 2))],
  .ret (.var 1)]⟩
/-- _break_numbers(family, inner, other, thing) : 0=family 1=inner 2=other 3=thing 4=left 5=right -/
def f__break_numbers : Fn := ⟨4, 6, [
  .asg (.nm 4) (.call 45 [.var 0, .var 1]),
  .asg (.nm 5) (.call 45 [.var 0, .var 2]),
  .ex (.call 46 [.var 3, .fld (.var 0) 0]),
  .ite (.not (.bin .and (.bin .shr (.bin .xor (.var 4) (.var 5)) (.var 3)) (.con (.int 1)))) [.rse 2 [.var 3]] [],
  .ex (.call 47 [.var 0, .var 4]),
  .ex (.call 47 [.var 0, .var 5]),
  .ret (.tup [.var 4, .var 5])]⟩
/-- _partner_mask(family, inner, thing) : 0=family 1=inner 2=thing 3=start 4=mask 5=other -/
def f__partner_mask : Fn := ⟨3, 6, [
  .asg (.nm 3) (.bin .xor (.var 1) (.bin .shl (.con (.int 1)) (.var 2))),
  .asg (.nm 4) (.ife (.idx (.fld (.var 0) 3) (.var 3)) (.bin .shl (.con (.int 1)) (.var 2)) (.con (.int 0))),
  .for_ (.nm 5) (.rng [.fld (.var 0) 0]) [.ite (.and (.cmp .ne (.var 5) (.var 2)) (.idx (.fld (.var 0) 3) (.bin .xor (.var 3) (.bin .shl (.con (.int 1)) (.var 5))))) [.asg (.nm 4) (.bin .or (.var 4) (.bin .shl (.con (.int 1)) (.var 5)))] []],
  .ret (.var 4)]⟩
/-- _law_spoilt(draws, size, number) : 0=draws 1=size 2=number 3=row 4=at 5=word -/
def f__law_spoilt : Fn := ⟨3, 6, [
  .own 3 (.bi .list [.call 12 [.var 2]]),
  .asg (.nm 4) (.call 2 [.var 0, .bin .add (.bi .len [.var 3]) (.con (.int 1))]),
  .asg (.nm 5) (.call 2 [.var 0, .con (.int 8)]),
  .ite (.and (.cmp .ge (.var 5) (.con (.int 6))) (.cmp .gt (.var 4) (.con (.int 0)))) [.ex (.bm .insert (.var 3) [.var 4, .idx (.var 3) (.con (.int 0))])] [.ex (.bm .insert (.var 3) [.var 4, .idx (.lst [.var 1, .neg (.con (.int 1)), .con (.bl true), .con .non, .con (.str "0"), .bin .pow (.con (.int 10)) (.con (.int 20)), .bin .add (.var 1) (.con (.int 1)), .neg (.con (.int 2))]) (.var 5)])],
  .frz 3,
  .ret (.lst [.var 3, .var 4])]⟩
/-- _law_sized(size, low, top) : 0=size 1=low 2=top 3=row 4=number -/
def f__law_sized : Fn := ⟨3, 5, [
  .asg (.nm 3) (.comp [4] (.nm 4) (.rng [.bin .shl (.con (.int 1)) (.var 0)]) (.con (.bl true)) (.chn .le .le (.var 1) (.call 26 [.var 4]) (.var 2))),
  .ret (.call 21 [.var 3])]⟩
/-- _law_paired(size, links) : 0=size 1=links 2=row 3=number 4=good 5=link 6=both -/
def f__law_paired : Fn := ⟨2, 7, [
  .own 2 (.lst [.con (.bl true)]),
  .for_ (.nm 3) (.rng [.con (.int 1), .bin .shl (.con (.int 1)) (.var 0)]) [.asg (.nm 4) (.con (.bl false)), .for_ (.nm 5) (.var 1) [.asg (.nm 6) (.bin .add (.bin .shl (.con (.int 1)) (.idx (.var 5) (.con (.int 0)))) (.bin .shl (.con (.int 1)) (.idx (.var 5) (.con (.int 1))))), .ite (.and (.cmp .eq (.bin .and (.var 3) (.var 6)) (.var 6)) (.and (.cmp .lt (.var 3) (.bin .shl (.con (.int 2)) (.idx (.var 5) (.con (.int 1))))) (.idx (.var 2) (.bin .sub (.var 3) (.var 6))))) [.asg (.nm 4) (.con (.bl true))] []], .ex (.bm .append (.var 2) [.var 4])],
  .frz 2,
  .ret (.call 21 [.var 2])]⟩
/-- _law_web(draws, size) : 0=draws 1=size 2=links 3=word 4=y 5=x -/
def f__law_web : Fn := ⟨2, 6, [
  .own 2 (.lst []),
  .asg (.nm 3) (.call 2 [.var 0, .con (.int 4)]),
  .for_ (.nm 4) (.rng [.con (.int 1), .var 1]) [.ite (.cmp .eq (.var 3) (.con (.int 1))) [.ex (.bm .append (.var 2) [.tup [.call 2 [.var 0, .var 4], .var 4]])] [.for_ (.nm 5) (.rng [.var 4]) [.ite (.cmp .gt (.call 2 [.var 0, .con (.int 5)]) (.var 3)) [.ex (.bm .append (.var 2) [.tup [.var 5, .var 4]])] []]]],
  .ret (.var 2)]⟩
/-- _law_joined(size, masks, other) : 0=size 1=masks 2=other 3=row 4=number 5=more -/
def f__law_joined : Fn := ⟨3, 6, [
  .own 3 (.call 20 [.var 0, .lst []]),
  .for_ (.nm 4) (.var 1) [.for_ (.nm 5) (.var 2) [.sub (.var 3) (.bin .xor (.var 4) (.var 5)) (.con (.bl true))]],
  .frz 3,
  .ret (.call 21 [.var 3])]⟩
/-- _is_size(size) : 0=size -/
def f__is_size : Fn := ⟨1, 1, [
  .ret (.and (.call 48 [.var 0]) (.chn .le .le (.con (.int 1)) (.var 0) (.glb 0)))]⟩
/-- BadFamily.__init__(self, place) : 0=self 1=place -/
def f_BadFamily___init__ : Fn := ⟨2, 2, [
  .fld (.var 0) 7 (.var 1)]⟩
/-- _number_or_none(lot, size) : 0=lot 1=size 2=number 3=thing -/
def f__number_or_none : Fn := ⟨2, 4, [
  .ite (.not (.isi (.var 0) [.tuple, .list])) [.ret (.con .non)] [],
  .asg (.nm 2) (.con (.int 0)),
  .for_ (.nm 3) (.var 0) [.ite (.or (.not (.call 48 [.var 3])) (.or (.cmp .lt (.var 3) (.con (.int 0))) (.or (.cmp .ge (.var 3) (.var 1)) (.bin .and (.bin .shr (.var 2) (.var 3)) (.con (.int 1)))))) [.ret (.con .non)] [], .asg (.nm 2) (.bin .or (.var 2) (.bin .shl (.con (.int 1)) (.var 3)))],
  .ret (.var 2)]⟩
/-- _weight(number) : 0=number 1=many -/
def f__weight : Fn := ⟨1, 2, [
  .asg (.nm 1) (.con (.int 0)),
  .whl (.var 0) [.asg (.nm 0) (.bin .and (.var 0) (.bin .sub (.var 0) (.con (.int 1)))), .aug 1 .add (.con (.int 1))],
  .ret (.var 1)]⟩
/-- _number_in(family, lot) : 0=family 1=lot -/
def f__number_in : Fn := ⟨2, 2, [
  .ret (.call 24 [.call 49 [.var 1, .fld (.var 0) 0]])]⟩
/-- check_thing(thing, size) : 0=thing 1=size -/
def f_check_thing : Fn := ⟨2, 2, [
  .ite (.or (.not (.call 48 [.var 0])) (.or (.cmp .lt (.var 0) (.con (.int 0))) (.cmp .ge (.var 0) (.var 1)))) [.rse 2 [.var 0]] [],
  .ret (.var 0)]⟩
/-- _needs_inside(family, number) : 0=family 1=number -/
def f__needs_inside : Fn := ⟨2, 2, [
  .ite (.not (.idx (.fld (.var 0) 3) (.var 1))) [.rse 3 [.call 23 [.var 1]]] []]⟩
/-- is_int(value) : 0=value -/
def f_is_int : Fn := ⟨1, 1, [
  .ret (.and (.isi (.var 0) [.int]) (.not (.isi (.var 0) [.bool])))]⟩
/-- lot_of(lot, size) : 0=lot 1=size -/
def f_lot_of : Fn := ⟨2, 2, [
  .ret (.call 50 [.var 0, .var 1])]⟩
/-- _checked(lot, size) : 0=lot 1=size 2=place -/
def f__checked : Fn := ⟨2, 3, [
  .ite (.not (.isi (.var 0) [.tuple, .list])) [.rse 1 [.neg (.con (.int 1))]] [],
  .asg (.nm 2) (.call 51 [.var 0, .var 1]),
  .ite (.cmp .ge (.var 2) (.con (.int 0))) [.rse 1 [.var 2]] [],
  .ret (.bi .tuple [.bi .sorted [.var 0]])]⟩
/-- _wrong_place(lot, size) : 0=lot 1=size 2=place 3=thing -/
def f__wrong_place : Fn := ⟨2, 4, [
  .for_ (.nm 2) (.rng [.bi .len [.var 0]]) [.asg (.nm 3) (.idx (.var 0) (.var 2)), .ite (.or (.not (.call 48 [.var 3])) (.or (.cmp .lt (.var 3) (.con (.int 0))) (.and (.cmp .isn (.var 1) (.con .non)) (.cmp .ge (.var 3) (.var 1))))) [.ret (.var 2)] [], .ite (.cmp .in_ (.var 3) (.slc (.var 0) (.con .non) (.var 2))) [.ret (.var 2)] []],
  .ret (.neg (.con (.int 1)))]⟩
/-- Family.__len__(self) : 0=self -/
def f_Family___len__ : Fn := ⟨1, 1, [
  .ret (.bi .len [.fld (.var 0) 1])]⟩
/-- Family.__eq__(self, other) : 0=self 1=other -/
def f_Family___eq__ : Fn := ⟨2, 2, [
  .ret (.and (.isi (.var 1) [(.cls 0)]) (.and (.cmp .eq (.fld (.var 0) 0) (.fld (.var 1) 0)) (.cmp .eq (.fld (.var 0) 1) (.fld (.var 1) 1))))]⟩
/-- Family.__add__(self, other) : 0=self 1=other 2=marks 3=left 4=right 5=number -/
def f_Family___add__ : Fn := ⟨2, 6, [
  .ite (.not (.isi (.var 1) [(.cls 0)])) [.bad] [],
  .ite (.cmp .ne (.fld (.var 1) 0) (.fld (.var 0) 0)) [.rse 6 [.fld (.var 1) 0]] [],
  .own 2 (.comp [5] (.nm 5) (.rng [.bin .shl (.con (.int 1)) (.fld (.var 0) 0)]) (.con (.bl true)) (.con (.bl false))),
  .for_ (.nm 3) (.fld (.var 0) 2) [.for_ (.nm 4) (.fld (.var 1) 2) [.sub (.var 2) (.bin .xor (.var 3) (.var 4)) (.con (.bl true))]],
  .frz 2,
  .ret (.call 57 [.fld (.var 0) 0, .comp [5] (.nm 5) (.rng [.bin .shl (.con (.int 1)) (.fld (.var 0) 0)]) (.idx (.var 2) (.var 5)) (.var 5)])]⟩
/-- Family.__mul__(self, other) : 0=self 1=other 2=shift 3=rows 4=left 5=right -/
def f_Family___mul__ : Fn := ⟨2, 6, [
  .ite (.not (.isi (.var 1) [(.cls 0)])) [.bad] [],
  .ite (.cmp .gt (.bin .add (.fld (.var 0) 0) (.fld (.var 1) 0)) (.glb 0)) [.rse 7 [.con (.str "things")]] [],
  .asg (.nm 2) (.fld (.var 0) 0),
  .asg (.nm 3) (.comp2 [4, 5] (.nm 4) (.fld (.var 0) 2) [5] (.nm 5) (.fld (.var 1) 2) (.con (.bl true)) (.bin .or (.var 4) (.bin .shl (.var 5) (.var 2)))),
  .ret (.call 57 [.bin .add (.fld (.var 0) 0) (.fld (.var 1) 0), .var 3])]⟩
/-- OtherSize.__init__(self, size) : 0=self 1=size -/
def f_OtherSize___init__ : Fn := ⟨2, 2, [
  .fld (.var 0) 0 (.var 1)]⟩
/-- _from_numbers(size, numbers) : 0=size 1=numbers 2=number -/
def f__from_numbers : Fn := ⟨2, 3, [
  .ret (.mk 0 [.var 0, .comp [2] (.nm 2) (.var 1) (.con (.bl true)) (.call 23 [.var 2])])]⟩
/-- TooMany.__init__(self, name) : 0=self 1=name -/
def f_TooMany___init__ : Fn := ⟨2, 2, [
  .fld (.var 0) 10 (.var 1)]⟩
abbrev n_law : Nat := 0
abbrev n__law_draws : Nat := 1
abbrev n__law_take : Nat := 2
abbrev n__law_between : Nat := 3
abbrev n__law_any : Nat := 4
abbrev n__law_family : Nat := 5
abbrev n_Family___init__ : Nat := 6
abbrev n__law_lots : Nat := 7
abbrev n__law_all : Nat := 8
abbrev n_find_break : Nat := 9
abbrev n_near_break : Nat := 10
abbrev n__law_mixed : Nat := 11
abbrev n__law_lot : Nat := 12
abbrev n__law_sort : Nat := 13
abbrev n__law_int : Nat := 14
abbrev n__law_shape : Nat := 15
abbrev n_partners : Nat := 16
abbrev n__law_refusals : Nat := 17
abbrev n__law_turned : Nat := 18
abbrev n__law_made : Nat := 19
abbrev n__law_inside : Nat := 20
abbrev n__law_listed : Nat := 21
abbrev n__numbers_of : Nat := 22
abbrev n__lot_of : Nat := 23
abbrev n__number_of : Nat := 24
abbrev n__depths_of : Nat := 25
abbrev n__law_bits : Nat := 26
abbrev n__first_break : Nat := 27
abbrev n_break_sort : Nat := 28
abbrev n_BadLot___init__ : Nat := 29
abbrev n_BadThing___init__ : Nat := 30
abbrev n_NotInside___init__ : Nat := 31
abbrev n_BadNumber___init__ : Nat := 32
abbrev n__law_number : Nat := 33
abbrev n__break_numbers : Nat := 34
abbrev n__partner_mask : Nat := 35
abbrev n__law_spoilt : Nat := 36
abbrev n__law_sized : Nat := 37
abbrev n__law_paired : Nat := 38
abbrev n__law_web : Nat := 39
abbrev n__law_joined : Nat := 40
abbrev n__is_size : Nat := 41
abbrev n_BadFamily___init__ : Nat := 42
abbrev n__number_or_none : Nat := 43
abbrev n__weight : Nat := 44
abbrev n__number_in : Nat := 45
abbrev n_check_thing : Nat := 46
abbrev n__needs_inside : Nat := 47
abbrev n_is_int : Nat := 48
abbrev n_lot_of : Nat := 49
abbrev n__checked : Nat := 50
abbrev n__wrong_place : Nat := 51
abbrev n_Family___len__ : Nat := 52
abbrev n_Family___eq__ : Nat := 53
abbrev n_Family___add__ : Nat := 54
abbrev n_Family___mul__ : Nat := 55
abbrev n_OtherSize___init__ : Nat := 56
abbrev n__from_numbers : Nat := 57
abbrev n_TooMany___init__ : Nat := 58
def fns : List Fn := [f_law, f__law_draws, f__law_take, f__law_between, f__law_any, f__law_family, f_Family___init__, f__law_lots, f__law_all, f_find_break, f_near_break, f__law_mixed, f__law_lot, f__law_sort, f__law_int, f__law_shape, f_partners, f__law_refusals, f__law_turned, f__law_made, f__law_inside, f__law_listed, f__numbers_of, f__lot_of, f__number_of, f__depths_of, f__law_bits, f__first_break, f_break_sort, f_BadLot___init__, f_BadThing___init__, f_NotInside___init__, f_BadNumber___init__, f__law_number, f__break_numbers, f__partner_mask, f__law_spoilt, f__law_sized, f__law_paired, f__law_web, f__law_joined, f__is_size, f_BadFamily___init__, f__number_or_none, f__weight, f__number_in, f_check_thing, f__needs_inside, f_is_int, f_lot_of, f__checked, f__wrong_place, f_Family___len__, f_Family___eq__, f_Family___add__, f_Family___mul__, f_OtherSize___init__, f__from_numbers, f_TooMany___init__]
def T : Nat → Option Fn := mkTab fns
def inis : List (Option Nat) := [some 6]
def opm : List (Nat × Nat × Nat) := [(0, 0, 52), (0, 3, 53), (0, 5, 54), (0, 6, 55)]
def sup : List (Nat × Nat) := [(0, 0), (1, 1), (2, 2), (3, 3), (4, 4), (5, 5), (6, 6), (7, 7)]
def cons : List D := [(.int 10)]
def xfl : List (Nat × List Nat) := [(1, [7]), (2, [8]), (3, [9]), (4, [10]), (5, [7]), (6, [0]), (7, [10])]
def P : Prg := mkPrg cons inis opm sup xfl
abbrev fl_size : Nat := 0
abbrev fl_lots : Nat := 1
abbrev fl__numbers : Nat := 2
abbrev fl__inside : Nat := 3
abbrev fl__depths : Nat := 4
abbrev fl__searched : Nat := 5
abbrev fl__first : Nat := 6
abbrev fl_place : Nat := 7
abbrev fl_thing : Nat := 8
abbrev fl_lot : Nat := 9
abbrev fl_name : Nat := 10
abbrev c_Family : Nat := 0
abbrev x_BadLot : Nat := 1
abbrev x_BadThing : Nat := 2
abbrev x_NotInside : Nat := 3
abbrev x_BadNumber : Nat := 4
abbrev x_BadFamily : Nat := 5
abbrev x_OtherSize : Nat := 6
abbrev x_TooMany : Nat := 7
abbrev g_GREATEST_SIZE : Nat := 0
@[simp] theorem P_con_0 : P.con 0 = some (.int 10) := rfl
@[simp] theorem P_ini_0 : P.ini 0 = some 6 := rfl
@[simp] theorem P_op_0_0 : P.opm 0 0 = some 52 := rfl
@[simp] theorem P_op_0_3 : P.opm 0 3 = some 53 := rfl
@[simp] theorem P_op_0_5 : P.opm 0 5 = some 54 := rfl
@[simp] theorem P_op_0_6 : P.opm 0 6 = some 55 := rfl
@[simp] theorem P_xfl_1 : P.xfl 1 = some [7] := rfl
@[simp] theorem P_xfl_2 : P.xfl 2 = some [8] := rfl
@[simp] theorem P_xfl_3 : P.xfl 3 = some [9] := rfl
@[simp] theorem P_xfl_4 : P.xfl 4 = some [10] := rfl
@[simp] theorem P_xfl_5 : P.xfl 5 = some [7] := rfl
@[simp] theorem P_xfl_6 : P.xfl 6 = some [0] := rfl
@[simp] theorem P_xfl_7 : P.xfl 7 = some [10] := rfl
@[simp] theorem P_sup_0_0 : P.sup 0 0 = true := rfl
@[simp] theorem P_sup_0_1 : P.sup 0 1 = false := rfl
@[simp] theorem P_sup_0_2 : P.sup 0 2 = false := rfl
@[simp] theorem P_sup_0_3 : P.sup 0 3 = false := rfl
@[simp] theorem P_sup_0_4 : P.sup 0 4 = false := rfl
@[simp] theorem P_sup_0_5 : P.sup 0 5 = false := rfl
@[simp] theorem P_sup_0_6 : P.sup 0 6 = false := rfl
@[simp] theorem P_sup_0_7 : P.sup 0 7 = false := rfl
@[simp] theorem P_sup_1_0 : P.sup 1 0 = false := rfl
@[simp] theorem P_sup_1_1 : P.sup 1 1 = true := rfl
@[simp] theorem P_sup_1_2 : P.sup 1 2 = false := rfl
@[simp] theorem P_sup_1_3 : P.sup 1 3 = false := rfl
@[simp] theorem P_sup_1_4 : P.sup 1 4 = false := rfl
@[simp] theorem P_sup_1_5 : P.sup 1 5 = false := rfl
@[simp] theorem P_sup_1_6 : P.sup 1 6 = false := rfl
@[simp] theorem P_sup_1_7 : P.sup 1 7 = false := rfl
@[simp] theorem P_sup_2_0 : P.sup 2 0 = false := rfl
@[simp] theorem P_sup_2_1 : P.sup 2 1 = false := rfl
@[simp] theorem P_sup_2_2 : P.sup 2 2 = true := rfl
@[simp] theorem P_sup_2_3 : P.sup 2 3 = false := rfl
@[simp] theorem P_sup_2_4 : P.sup 2 4 = false := rfl
@[simp] theorem P_sup_2_5 : P.sup 2 5 = false := rfl
@[simp] theorem P_sup_2_6 : P.sup 2 6 = false := rfl
@[simp] theorem P_sup_2_7 : P.sup 2 7 = false := rfl
@[simp] theorem P_sup_3_0 : P.sup 3 0 = false := rfl
@[simp] theorem P_sup_3_1 : P.sup 3 1 = false := rfl
@[simp] theorem P_sup_3_2 : P.sup 3 2 = false := rfl
@[simp] theorem P_sup_3_3 : P.sup 3 3 = true := rfl
@[simp] theorem P_sup_3_4 : P.sup 3 4 = false := rfl
@[simp] theorem P_sup_3_5 : P.sup 3 5 = false := rfl
@[simp] theorem P_sup_3_6 : P.sup 3 6 = false := rfl
@[simp] theorem P_sup_3_7 : P.sup 3 7 = false := rfl
@[simp] theorem P_sup_4_0 : P.sup 4 0 = false := rfl
@[simp] theorem P_sup_4_1 : P.sup 4 1 = false := rfl
@[simp] theorem P_sup_4_2 : P.sup 4 2 = false := rfl
@[simp] theorem P_sup_4_3 : P.sup 4 3 = false := rfl
@[simp] theorem P_sup_4_4 : P.sup 4 4 = true := rfl
@[simp] theorem P_sup_4_5 : P.sup 4 5 = false := rfl
@[simp] theorem P_sup_4_6 : P.sup 4 6 = false := rfl
@[simp] theorem P_sup_4_7 : P.sup 4 7 = false := rfl
@[simp] theorem P_sup_5_0 : P.sup 5 0 = false := rfl
@[simp] theorem P_sup_5_1 : P.sup 5 1 = false := rfl
@[simp] theorem P_sup_5_2 : P.sup 5 2 = false := rfl
@[simp] theorem P_sup_5_3 : P.sup 5 3 = false := rfl
@[simp] theorem P_sup_5_4 : P.sup 5 4 = false := rfl
@[simp] theorem P_sup_5_5 : P.sup 5 5 = true := rfl
@[simp] theorem P_sup_5_6 : P.sup 5 6 = false := rfl
@[simp] theorem P_sup_5_7 : P.sup 5 7 = false := rfl
@[simp] theorem P_sup_6_0 : P.sup 6 0 = false := rfl
@[simp] theorem P_sup_6_1 : P.sup 6 1 = false := rfl
@[simp] theorem P_sup_6_2 : P.sup 6 2 = false := rfl
@[simp] theorem P_sup_6_3 : P.sup 6 3 = false := rfl
@[simp] theorem P_sup_6_4 : P.sup 6 4 = false := rfl
@[simp] theorem P_sup_6_5 : P.sup 6 5 = false := rfl
@[simp] theorem P_sup_6_6 : P.sup 6 6 = true := rfl
@[simp] theorem P_sup_6_7 : P.sup 6 7 = false := rfl
@[simp] theorem P_sup_7_0 : P.sup 7 0 = false := rfl
@[simp] theorem P_sup_7_1 : P.sup 7 1 = false := rfl
@[simp] theorem P_sup_7_2 : P.sup 7 2 = false := rfl
@[simp] theorem P_sup_7_3 : P.sup 7 3 = false := rfl
@[simp] theorem P_sup_7_4 : P.sup 7 4 = false := rfl
@[simp] theorem P_sup_7_5 : P.sup 7 5 = false := rfl
@[simp] theorem P_sup_7_6 : P.sup 7 6 = false := rfl
@[simp] theorem P_sup_7_7 : P.sup 7 7 = true := rfl
theorem t_law : T 0 = some f_law := rfl
theorem t__law_draws : T 1 = some f__law_draws := rfl
theorem t__law_take : T 2 = some f__law_take := rfl
theorem t__law_between : T 3 = some f__law_between := rfl
theorem t__law_any : T 4 = some f__law_any := rfl
theorem t__law_family : T 5 = some f__law_family := rfl
theorem t_Family___init__ : T 6 = some f_Family___init__ := rfl
theorem t__law_lots : T 7 = some f__law_lots := rfl
theorem t__law_all : T 8 = some f__law_all := rfl
theorem t_find_break : T 9 = some f_find_break := rfl
theorem t_near_break : T 10 = some f_near_break := rfl
theorem t__law_mixed : T 11 = some f__law_mixed := rfl
theorem t__law_lot : T 12 = some f__law_lot := rfl
theorem t__law_sort : T 13 = some f__law_sort := rfl
theorem t__law_int : T 14 = some f__law_int := rfl
theorem t__law_shape : T 15 = some f__law_shape := rfl
theorem t_partners : T 16 = some f_partners := rfl
theorem t__law_refusals : T 17 = some f__law_refusals := rfl
theorem t__law_turned : T 18 = some f__law_turned := rfl
theorem t__law_made : T 19 = some f__law_made := rfl
theorem t__law_inside : T 20 = some f__law_inside := rfl
theorem t__law_listed : T 21 = some f__law_listed := rfl
theorem t__numbers_of : T 22 = some f__numbers_of := rfl
theorem t__lot_of : T 23 = some f__lot_of := rfl
theorem t__number_of : T 24 = some f__number_of := rfl
theorem t__depths_of : T 25 = some f__depths_of := rfl
theorem t__law_bits : T 26 = some f__law_bits := rfl
theorem t__first_break : T 27 = some f__first_break := rfl
theorem t_break_sort : T 28 = some f_break_sort := rfl
theorem t_BadLot___init__ : T 29 = some f_BadLot___init__ := rfl
theorem t_BadThing___init__ : T 30 = some f_BadThing___init__ := rfl
theorem t_NotInside___init__ : T 31 = some f_NotInside___init__ := rfl
theorem t_BadNumber___init__ : T 32 = some f_BadNumber___init__ := rfl
theorem t__law_number : T 33 = some f__law_number := rfl
theorem t__break_numbers : T 34 = some f__break_numbers := rfl
theorem t__partner_mask : T 35 = some f__partner_mask := rfl
theorem t__law_spoilt : T 36 = some f__law_spoilt := rfl
theorem t__law_sized : T 37 = some f__law_sized := rfl
theorem t__law_paired : T 38 = some f__law_paired := rfl
theorem t__law_web : T 39 = some f__law_web := rfl
theorem t__law_joined : T 40 = some f__law_joined := rfl
theorem t__is_size : T 41 = some f__is_size := rfl
theorem t_BadFamily___init__ : T 42 = some f_BadFamily___init__ := rfl
theorem t__number_or_none : T 43 = some f__number_or_none := rfl
theorem t__weight : T 44 = some f__weight := rfl
theorem t__number_in : T 45 = some f__number_in := rfl
theorem t_check_thing : T 46 = some f_check_thing := rfl
theorem t__needs_inside : T 47 = some f__needs_inside := rfl
theorem t_is_int : T 48 = some f_is_int := rfl
theorem t_lot_of : T 49 = some f_lot_of := rfl
theorem t__checked : T 50 = some f__checked := rfl
theorem t__wrong_place : T 51 = some f__wrong_place := rfl
theorem t_Family___len__ : T 52 = some f_Family___len__ := rfl
theorem t_Family___eq__ : T 53 = some f_Family___eq__ := rfl
theorem t_Family___add__ : T 54 = some f_Family___add__ := rfl
theorem t_Family___mul__ : T 55 = some f_Family___mul__ := rfl
theorem t_OtherSize___init__ : T 56 = some f_OtherSize___init__ := rfl
theorem t__from_numbers : T 57 = some f__from_numbers := rfl
theorem t_TooMany___init__ : T 58 = some f_TooMany___init__ := rfl
end K07
/-! K07: rows, checks, the head. -/
namespace K07
open PySem PySem.Spec PyProof.Rows L2 G GS
def top (i : Nat) : Stmt := PySem.Challenge.pw_answeredturns_k07_breaks_of_the_least_ga.main.body.getD i (.Pass ⟨0, 0, 0, 0⟩)
def r_law : GS.Row := { wh := .gl "law", name := "law", qual := "law", st := (top 64), ps := ["script"], N := ["script", "draws", "word", "drawn", "size", "masks", "family", "rows", "gaps", "least", "step", "at", "most", "row", "inner", "other", "told", "due"], fn := f_law }
def r__law_draws : GS.Row := { wh := .gl "_law_draws", name := "_law_draws", qual := "_law_draws", st := (top 40), ps := ["script"], N := ["script", "draws", "at", "cell", "k", "number"], fn := f__law_draws }
def r__law_take : GS.Row := { wh := .gl "_law_take", name := "_law_take", qual := "_law_take", st := (top 41), ps := ["draws", "many"], N := ["draws", "many"], fn := f__law_take }
def r__law_between : GS.Row := { wh := .gl "_law_between", name := "_law_between", qual := "_law_between", st := (top 59), ps := ["draws"], N := ["draws", "many", "size", "whole", "masks", "k", "lot", "turn", "number"], fn := f__law_between }
def r__law_any : GS.Row := { wh := .gl "_law_any", name := "_law_any", qual := "_law_any", st := (top 58), ps := ["draws", "most"], N := ["draws", "most", "size", "row", "k", "number", "mark"], fn := f__law_any }
def r__law_family : GS.Row := { wh := .gl "_law_family", name := "_law_family", qual := "_law_family", st := (top 55), ps := ["draws", "most"], N := ["draws", "most", "size", "word", "masks", "row", "k", "number", "lot"], fn := f__law_family }
def r_Family___init__ : GS.Row := { wh := .me 0 "__init__", name := "__init__", qual := "Family.__init__", st := (inClass (top 37) 0), ps := ["self", "size", "lots"], N := ["self", "size", "lots", "found", "marks", "number", "row"], fn := f_Family___init__ }
def r__law_lots : GS.Row := { wh := .gl "_law_lots", name := "_law_lots", qual := "_law_lots", st := (top 46), ps := ["masks"], N := ["masks", "number"], fn := f__law_lots }
def r__law_all : GS.Row := { wh := .gl "_law_all", name := "_law_all", qual := "_law_all", st := (top 60), ps := ["size", "masks"], N := ["size", "masks", "row", "found", "number", "goal", "span", "thing", "start", "held", "other"], fn := f__law_all }
def r_find_break : GS.Row := { wh := .gl "find_break", name := "find_break", qual := "find_break", st := (top 29), ps := ["family"], N := ["family"], fn := f_find_break }
def r_near_break : GS.Row := { wh := .gl "near_break", name := "near_break", qual := "near_break", st := (top 30), ps := ["family"], N := ["family"], fn := f_near_break }
def r__law_mixed : GS.Row := { wh := .gl "_law_mixed", name := "_law_mixed", qual := "_law_mixed", st := (top 56), ps := ["draws", "row"], N := ["draws", "row", "rest", "found", "k"], fn := f__law_mixed }
def r__law_lot : GS.Row := { wh := .gl "_law_lot", name := "_law_lot", qual := "_law_lot", st := (top 44), ps := ["number"], N := ["number", "thing"], fn := f__law_lot }
def r__law_sort : GS.Row := { wh := .gl "_law_sort", name := "_law_sort", qual := "_law_sort", st := (top 61), ps := ["family", "inner", "other", "thing"], N := ["family", "inner", "other", "thing", "told", "error"], fn := f__law_sort }
def r__law_int : GS.Row := { wh := .gl "_law_int", name := "_law_int", qual := "_law_int", st := (top 42), ps := ["value"], N := ["value"], fn := f__law_int }
def r__law_shape : GS.Row := { wh := .gl "_law_shape", name := "_law_shape", qual := "_law_shape", st := (top 62), ps := ["family", "number", "goal", "thing"], N := ["family", "number", "goal", "thing", "span", "many", "sizes", "lot", "part"], fn := f__law_shape }
def r_partners : GS.Row := { wh := .gl "partners", name := "partners", qual := "partners", st := (top 27), ps := ["family", "inner", "other", "thing"], N := ["family", "inner", "other", "thing", "left", "right"], fn := f_partners }
def r__law_refusals : GS.Row := { wh := .gl "_law_refusals", name := "_law_refusals", qual := "_law_refusals", st := (top 63), ps := ["draws", "size", "masks", "family"], N := ["draws", "size", "masks", "family", "good", "spoilt", "wrong", "thing", "row", "free", "spot", "number"], fn := f__law_refusals }
def r__law_turned : GS.Row := { wh := .gl "_law_turned", name := "_law_turned", qual := "_law_turned", st := (top 52), ps := ["masks", "lot"], N := ["masks", "lot", "number"], fn := f__law_turned }
def r__law_made : GS.Row := { wh := .gl "_law_made", name := "_law_made", qual := "_law_made", st := (top 54), ps := ["draws", "size"], N := ["draws", "size", "word", "low", "top", "masks", "lot"], fn := f__law_made }
def r__law_inside : GS.Row := { wh := .gl "_law_inside", name := "_law_inside", qual := "_law_inside", st := (top 47), ps := ["size", "masks"], N := ["size", "masks", "row", "number"], fn := f__law_inside }
def r__law_listed : GS.Row := { wh := .gl "_law_listed", name := "_law_listed", qual := "_law_listed", st := (top 48), ps := ["row"], N := ["row", "number"], fn := f__law_listed }
def r__numbers_of : GS.Row := { wh := .gl "_numbers_of", name := "_numbers_of", qual := "_numbers_of", st := (top 35), ps := ["size", "lots"], N := ["size", "lots", "found", "marks", "place", "number"], fn := f__numbers_of }
def r__lot_of : GS.Row := { wh := .gl "_lot_of", name := "_lot_of", qual := "_lot_of", st := (top 19), ps := ["number"], N := ["number", "bit"], fn := f__lot_of }
def r__number_of : GS.Row := { wh := .gl "_number_of", name := "_number_of", qual := "_number_of", st := (top 18), ps := ["lot"], N := ["lot", "number", "thing"], fn := f__number_of }
def r__depths_of : GS.Row := { wh := .gl "_depths_of", name := "_depths_of", qual := "_depths_of", st := (top 36), ps := ["size", "inside"], N := ["size", "inside", "found", "thing", "mark", "number"], fn := f__depths_of }
def r__law_bits : GS.Row := { wh := .gl "_law_bits", name := "_law_bits", qual := "_law_bits", st := (top 43), ps := ["number"], N := ["number", "count"], fn := f__law_bits }
def r__first_break : GS.Row := { wh := .gl "_first_break", name := "_first_break", qual := "_first_break", st := (top 28), ps := ["family", "least", "most"], N := ["family", "least", "most", "left", "masks", "right", "span", "thing"], fn := f__first_break }
def r_break_sort : GS.Row := { wh := .gl "break_sort", name := "break_sort", qual := "break_sort", st := (top 31), ps := ["family", "inner", "other", "thing"], N := ["family", "inner", "other", "thing", "left", "right", "span", "many"], fn := f_break_sort }
def r_BadLot___init__ : GS.Row := { wh := .me 1 "__init__", name := "__init__", qual := "BadLot.__init__", st := (inClass (top 3) 0), ps := ["self", "place"], N := ["self", "place"], fn := f_BadLot___init__ }
def r_BadThing___init__ : GS.Row := { wh := .me 2 "__init__", name := "__init__", qual := "BadThing.__init__", st := (inClass (top 5) 0), ps := ["self", "thing"], N := ["self", "thing"], fn := f_BadThing___init__ }
def r_NotInside___init__ : GS.Row := { wh := .me 3 "__init__", name := "__init__", qual := "NotInside.__init__", st := (inClass (top 7) 0), ps := ["self", "lot"], N := ["self", "lot"], fn := f_NotInside___init__ }
def r_BadNumber___init__ : GS.Row := { wh := .me 4 "__init__", name := "__init__", qual := "BadNumber.__init__", st := (inClass (top 6) 0), ps := ["self", "name"], N := ["self", "name"], fn := f_BadNumber___init__ }
def r__law_number : GS.Row := { wh := .gl "_law_number", name := "_law_number", qual := "_law_number", st := (top 45), ps := ["lot"], N := ["lot", "number", "thing"], fn := f__law_number }
def r__break_numbers : GS.Row := { wh := .gl "_break_numbers", name := "_break_numbers", qual := "_break_numbers", st := (top 26), ps := ["family", "inner", "other", "thing"], N := ["family", "inner", "other", "thing", "left", "right"], fn := f__break_numbers }
def r__partner_mask : GS.Row := { wh := .gl "_partner_mask", name := "_partner_mask", qual := "_partner_mask", st := (top 25), ps := ["family", "inner", "thing"], N := ["family", "inner", "thing", "start", "mask", "other"], fn := f__partner_mask }
def r__law_spoilt : GS.Row := { wh := .gl "_law_spoilt", name := "_law_spoilt", qual := "_law_spoilt", st := (top 57), ps := ["draws", "size", "number"], N := ["draws", "size", "number", "row", "at", "word"], fn := f__law_spoilt }
def r__law_sized : GS.Row := { wh := .gl "_law_sized", name := "_law_sized", qual := "_law_sized", st := (top 49), ps := ["size", "low", "top"], N := ["size", "low", "top", "row", "number"], fn := f__law_sized }
def r__law_paired : GS.Row := { wh := .gl "_law_paired", name := "_law_paired", qual := "_law_paired", st := (top 51), ps := ["size", "links"], N := ["size", "links", "row", "number", "good", "link", "both"], fn := f__law_paired }
def r__law_web : GS.Row := { wh := .gl "_law_web", name := "_law_web", qual := "_law_web", st := (top 50), ps := ["draws", "size"], N := ["draws", "size", "links", "word", "y", "x"], fn := f__law_web }
def r__law_joined : GS.Row := { wh := .gl "_law_joined", name := "_law_joined", qual := "_law_joined", st := (top 53), ps := ["size", "masks", "other"], N := ["size", "masks", "other", "row", "number", "more"], fn := f__law_joined }
def r__is_size : GS.Row := { wh := .gl "_is_size", name := "_is_size", qual := "_is_size", st := (top 33), ps := ["size"], N := ["size"], fn := f__is_size }
def r_BadFamily___init__ : GS.Row := { wh := .me 5 "__init__", name := "__init__", qual := "BadFamily.__init__", st := (inClass (top 4) 0), ps := ["self", "place"], N := ["self", "place"], fn := f_BadFamily___init__ }
def r__number_or_none : GS.Row := { wh := .gl "_number_or_none", name := "_number_or_none", qual := "_number_or_none", st := (top 34), ps := ["lot", "size"], N := ["lot", "size", "number", "thing"], fn := f__number_or_none }
def r__weight : GS.Row := { wh := .gl "_weight", name := "_weight", qual := "_weight", st := (top 20), ps := ["number"], N := ["number", "many"], fn := f__weight }
def r__number_in : GS.Row := { wh := .gl "_number_in", name := "_number_in", qual := "_number_in", st := (top 22), ps := ["family", "lot"], N := ["family", "lot"], fn := f__number_in }
def r_check_thing : GS.Row := { wh := .gl "check_thing", name := "check_thing", qual := "check_thing", st := (top 15), ps := ["thing", "size"], N := ["thing", "size"], fn := f_check_thing }
def r__needs_inside : GS.Row := { wh := .gl "_needs_inside", name := "_needs_inside", qual := "_needs_inside", st := (top 23), ps := ["family", "number"], N := ["family", "number"], fn := f__needs_inside }
def r_is_int : GS.Row := { wh := .gl "is_int", name := "is_int", qual := "is_int", st := (top 11), ps := ["value"], N := ["value"], fn := f_is_int }
def r_lot_of : GS.Row := { wh := .gl "lot_of", name := "lot_of", qual := "lot_of", st := (top 14), ps := ["lot", "size"], N := ["lot", "size"], fn := f_lot_of }
def r__checked : GS.Row := { wh := .gl "_checked", name := "_checked", qual := "_checked", st := (top 13), ps := ["lot", "size"], N := ["lot", "size", "place"], fn := f__checked }
def r__wrong_place : GS.Row := { wh := .gl "_wrong_place", name := "_wrong_place", qual := "_wrong_place", st := (top 12), ps := ["lot", "size"], N := ["lot", "size", "place", "thing"], fn := f__wrong_place }
def r_Family___len__ : GS.Row := { wh := .me 0 "__len__", name := "__len__", qual := "Family.__len__", st := (inClass (top 37) 5), ps := ["self"], N := ["self"], fn := f_Family___len__ }
def r_Family___eq__ : GS.Row := { wh := .me 0 "__eq__", name := "__eq__", qual := "Family.__eq__", st := (inClass (top 37) 8), ps := ["self", "other"], N := ["self", "other"], fn := f_Family___eq__ }
def r_Family___add__ : GS.Row := { wh := .me 0 "__add__", name := "__add__", qual := "Family.__add__", st := (inClass (top 37) 10), ps := ["self", "other"], N := ["self", "other", "marks", "left", "right", "number"], fn := f_Family___add__ }
def r_Family___mul__ : GS.Row := { wh := .me 0 "__mul__", name := "__mul__", qual := "Family.__mul__", st := (inClass (top 37) 11), ps := ["self", "other"], N := ["self", "other", "shift", "rows", "left", "right"], fn := f_Family___mul__ }
def r_OtherSize___init__ : GS.Row := { wh := .me 6 "__init__", name := "__init__", qual := "OtherSize.__init__", st := (inClass (top 8) 0), ps := ["self", "size"], N := ["self", "size"], fn := f_OtherSize___init__ }
def r__from_numbers : GS.Row := { wh := .gl "_from_numbers", name := "_from_numbers", qual := "_from_numbers", st := (top 38), ps := ["size", "numbers"], N := ["size", "numbers", "number"], fn := f__from_numbers }
def r_TooMany___init__ : GS.Row := { wh := .me 7 "__init__", name := "__init__", qual := "TooMany.__init__", st := (inClass (top 9) 0), ps := ["self", "name"], N := ["self", "name"], fn := f_TooMany___init__ }
def tb : Tb where
  fns := [r_law, r__law_draws, r__law_take, r__law_between, r__law_any, r__law_family, r_Family___init__, r__law_lots, r__law_all, r_find_break, r_near_break, r__law_mixed, r__law_lot, r__law_sort, r__law_int, r__law_shape, r_partners, r__law_refusals, r__law_turned, r__law_made, r__law_inside, r__law_listed, r__numbers_of, r__lot_of, r__number_of, r__depths_of, r__law_bits, r__first_break, r_break_sort, r_BadLot___init__, r_BadThing___init__, r_NotInside___init__, r_BadNumber___init__, r__law_number, r__break_numbers, r__partner_mask, r__law_spoilt, r__law_sized, r__law_paired, r__law_web, r__law_joined, r__is_size, r_BadFamily___init__, r__number_or_none, r__weight, r__number_in, r_check_thing, r__needs_inside, r_is_int, r_lot_of, r__checked, r__wrong_place, r_Family___len__, r_Family___eq__, r_Family___add__, r_Family___mul__, r_OtherSize___init__, r__from_numbers, r_TooMany___init__]
  cls := [("Family", some 6)]
  opm := opm
  sup := sup
  con := [("GREATEST_SIZE", (.int 10))]
  flds := ["size", "lots", "_numbers", "_inside", "_depths", "_searched", "_first", "place", "thing", "lot", "name"]
  xcs := [⟨"BadLot", [7], some 29⟩, ⟨"BadThing", [8], some 30⟩, ⟨"NotInside", [9], some 31⟩, ⟨"BadNumber", [10], some 32⟩, ⟨"BadFamily", [7], some 42⟩, ⟨"OtherSize", [0], some 56⟩, ⟨"TooMany", [10], some 58⟩]
def names0 : List PySem.Str := ["_wall", "LotsError", "BadLot", "BadFamily", "BadThing", "BadNumber", "NotInside", "OtherSize", "TooMany", "is_int", "_wrong_place", "_checked", "lot_of", "check_thing", "GREATEST_SIZE", "_number_of", "_lot_of", "_weight", "_number_in", "_needs_inside"]
def names1 : List PySem.Str := ["_partner_mask", "_break_numbers", "partners", "_first_break", "find_break", "near_break", "break_sort", "_is_size", "_number_or_none", "_numbers_of", "_depths_of", "Family", "_from_numbers", "_law_draws", "_law_take", "_law_int", "_law_bits", "_law_lot", "_law_number", "_law_lots"]
def names2 : List PySem.Str := ["_law_inside", "_law_listed", "_law_sized", "_law_web", "_law_paired", "_law_turned", "_law_joined", "_law_made", "_law_family", "_law_mixed", "_law_spoilt", "_law_any", "_law_between", "_law_all", "_law_sort", "_law_shape", "_law_refusals"]
def names : List PySem.Str := names0 ++ names1 ++ names2
abbrev R0 : PySem.W.OpenRow := PySem.W.OpenLaw.row PySem.Challenge.rw_answeredturns_k07_breaks_of_the_least_ga
abbrev hk0 : PySem.W.Hook := hookW 6 tb
def ob0 (s : PySem.W.SharedT) : He.AlD := obsWG 6 tb (HandSHeadRun.getT s)
theorem ob_eq0 (s : PySem.W.SharedT) : ob0 s = hk0.obs s.abs := obsWG_eq (HandSHeadRun.getT_eq s)
section
open PySem.W PySem.Calls HandSHeadRun
theorem run_cut {A B C D : Type} {o : Option A} {f : A → B} {g : A → C} {h : A → D} {x : B} {y : C} {z : D} (e1 : o.map (fun s => (f s, g s)) = some (x, y)) (e2 : o.map h = some z) : o.map (fun s => (f s, g s, h s)) = some (x, y, z) := by
  cases o with
  | none => cases e1
  | some s =>
    cases e1
    cases e2
    rfl
theorem runA (w : World) (os : OsState) : (endF (stepQ (denQ tabQ) R0.prog w) 20000 R0.prog w os).map (fun s => (looksF R0.prog (boot_heap w.params) s.abs, seenQ (view R0.prog [64]) names (importedModules R0.prog.main.body) (fun s => xlAt (view R0.prog [64]) [] s && recOk R0.toRowW.records s) s.abs)) = some (true, openGood (view R0.prog [64]) names) := by
  kernel_rfl
theorem runB (w : World) (os : OsState) : (endF (stepQ (denQ tabQ) R0.prog w) 20000 R0.prog w os).map ob0 = some (hk0.val w) := by
  kernel_rfl
theorem run0 (w : World) : HandSHeadRun.RunEq R0 (PySem.W.view R0.prog [64]) hk0 ob0 20000 names w := fun os => run_cut (runA w os) (runB w os)
end
end K07
/-! G: errors of one's own, over Exception, with an __init__ that stores. -/
namespace GX
open PySem PySem.Spec PySem.W PySem.Calls PyProof.Rows
/-- what the written part says of such a class -/
structure XcC (K : Frag) (C : Addr) : Prop where
  ini : excInitIn K C exT "Exception.__new__" = true
  ovr : excOver K C exT = true
  hd : hasDictIn K C = true
  sa : findIn K (.ref C) "__setattr__" = some (some (.builtin "object.__setattr__"))
  exC : subIn K (.ref C) (.type "BaseException") = some true
  tyC : typeIn K (.ref C) = some (.type "type")
  kC : keepIn K (.ref C) = true
theorem xcB_ok {K : Frag} {C : Addr} (h : xcB K C = true) : XcC K C := by
  unfold xcB at h
  simp only [Bool.and_eq_true, decide_eq_true_eq] at h
  exact ⟨h.1, h.2.1, h.2.2.1, h.2.2.2.1, h.2.2.2.2.1, h.2.2.2.2.2.1, h.2.2.2.2.2.2⟩
theorem takr {K : Frag} {C : Addr} {f : Str} (h : findIn K (.ref C) f = some none) : takerIn K C f = some none := by
  unfold takerIn
  rw [h]; rfl
section
open Builtin Builtin.ObjectAttr
variable {prog : Program} {w : World} {A : Around} {R : Result → Shared → Prop} {hp : Heap} {gs : Array GenState} {dr : Drawn} {tt : Nat} {ost : OsState} {K : Frag} {C x dx : Addr} {f : Str} {tk : Tok} {v : Value} {fv : Array Value}
/-- the first store lays the dict -/
theorem sto_new (T : XcC K C) (X : K.In hp) (hx : hp.get? x = some { cls := .ref C, data := .fields fv }) (ha : findIn K (.ref C) f = some none)
    (q : ∀ h1 k1 dx, (∀ b o, b ≠ x → hp.get? b = some o → h1.get? b = some o) → hp.objs.size ≤ dx → dx ≠ x → h1.get? x = some { cls := .ref C, dict := some dx, data := .fields fv } →
      h1.Ns1 dx (fun y => if y = f then some v else none) → R (.ok (.ret .none)) ⟨h1, gs, dr, k1, ost⟩) :
    codeAny (model prog w) A (.call (.builtin "object.__setattr__") ⟨[.ref x, .str f tk, v], []⟩) R ⟨hp, gs, dr, tt, ost⟩ := by
  have J : InstAt hp x { cls := .ref C, data := .fields fv } C none := ⟨hx, rfl, rfl, trivial⟩
  obtain ⟨cd, hc, hdc⟩ := any_some T.hd
  have nx : hp.objs.size ≠ x := (Nat.ne_of_lt (Heap.lt_size hx)).symm
  refine osa_openX PySem.F.store_Exception X J T.ovr (takr ha) fun b => ?_
  show wpAny _ _ (storeInOwnDict (.ref x) (.ref C) (.str f tk) f v b) _ _ _
  have LC : Looks (model prog w) hp (classData C) cd := looks_clsIn X hc
  obtain ⟨c1, c2, c3, c4, c5, c6, c7, c8, c9, c10, c11⟩ := cd
  dsimp only at hdc
  subst hdc
  unfold storeInOwnDict
  unfold ownDictForStores
  repeat (first | (with_reducible refine HandSPX.store_in_new ?_ ?_) | (with_reducible refine wpAny_loadPart_at hx ?_) | (with_reducible refine LC.at ?_) | wp_step)
  · exact ⟨_, #[], _, (Heap.get?_update_ne _ _ _ _ nx).trans (Heap.get?_push_at rfl rfl), rfl, fun _ z => absurd z (by simp), fun _ => rfl⟩
  · intro h1 k1 hn hs
    have hx1 : (hp.push { cls := .type "dict", data := .dict #[] }).get? x = some { cls := .ref C, data := .fields fv } := Heap.get?_push_of_some _ hx
    exact q h1 k1 hp.objs.size (fun b o nb eb => (hs.2 b (Nat.ne_of_lt (Heap.lt_size eb))).trans ((Heap.get?_update_ne _ _ _ _ nb).trans (Heap.get?_push_of_some _ eb))) (Nat.le_refl _) nx ((hs.2 x nx.symm).trans (Heap.get?_update_self _ hx1 rfl)) hn
/-- a further store -/
theorem sto_old {m0 : Str → Option Value} {nl : List Str} (T : XcC K C) (X : K.In hp) (hx : hp.get? x = some { cls := .ref C, dict := some dx, data := .fields fv }) (hn : hp.Ns1 dx m0) (hw : Within m0 nl) (hz : nl.length ≤ 1000) (ha : findIn K (.ref C) f = some none)
    (q : ∀ h1 k1, (∀ b o, b ≠ dx → hp.get? b = some o → h1.get? b = some o) → h1.Ns1 dx (fun y => if y = f then some v else m0 y) → R (.ok (.ret .none)) ⟨h1, gs, dr, k1, ost⟩) :
    codeAny (model prog w) A (.call (.builtin "object.__setattr__") ⟨[.ref x, .str f tk, v], []⟩) R ⟨hp, gs, dr, tt, ost⟩ := by
  obtain ⟨oD, es0, ep0, ho, _, _⟩ := hn.count hw
  have J : InstAt hp x { cls := .ref C, dict := some dx, data := .fields fv } C (some oD) := ⟨hx, rfl, rfl, ho⟩
  obtain ⟨cd, hc, hdc⟩ := any_some T.hd
  refine osa_openX PySem.F.store_Exception X J T.ovr (takr ha) fun b => ?_
  show wpAny _ _ (storeInOwnDict (.ref x) (.ref C) (.str f tk) f v b) _ _ _
  have LC : Looks (model prog w) hp (classData C) cd := looks_clsIn X hc
  obtain ⟨c1, c2, c3, c4, c5, c6, c7, c8, c9, c10, c11⟩ := cd
  dsimp only at hdc
  subst hdc
  unfold storeInOwnDict
  unfold ownDictForStores
  repeat (first | (with_reducible refine PySem.OEX.store_in_old hn hw hz ?_) | (with_reducible refine wpAny_loadPart_at hx ?_) | (with_reducible refine LC.at ?_) | wp_step)
  exact fun h1 k1 hn1 hs => q h1 k1 (fun b o nb eb => (hs.2 b nb).trans eb) hn1
end
end GX
/-! G: such an error is made: its __init__ as a def. -/
namespace GX
open PySem PySem.Spec PyProof.Rows L2
section
variable {X : Cx} {pins : List (Addr × Obj)} {σ : L2.St} {H : Hp} {s : Shared} {a C dx : Addr} {f : Str} {y : V} {u : Value} {fs : List (Str × V)} {Q : Unit → Shared → Prop} {E : Value → Shared → Prop} {A : Around}
theorem put_new (T : XcC X.K C) (I : Inv X pins σ H s) (e : H a = some (exo a C none)) (hno : PySem.W.findIn X.K (.ref C) f = some none) (ry : RelV y u)
    (q : ∀ dx s', H dx = none → dx ≠ a → Inv X pins σ (upd (upd H dx (exd dx [(f, y)])) a (exo a C (some dx))) s' → Q () s') : wpAny (model X.prog X.w) A (setAttr (.ref a) f u) Q E s := by
  obtain ⟨t1, ho⟩ := exo_at I.hok e
  obtain ⟨hp, gs, dr, tt, ost⟩ := s
  refine PySem.W.set_plain I.kIn (ox := { cls := .ref C, dict := none, data := .fields #[.ref t1, .none, .none, .none, .bool false, .none] }) (od := none) ⟨ho, rfl, rfl, trivial⟩ T.sa ?_
  refine sto_new T I.kIn ho hno (fun h1 k1 dx k dn dne hx hn => ?_)
  have hnd : H dx = none := I.hok.fresh dn
  have old : ∀ {b : Addr} {o : Obj}, hp.get? b = some o → b ≠ dx := fun {b o} z => Nat.ne_of_lt (Nat.lt_of_lt_of_le (Heap.lt_size z) dn)
  have na : ∀ {b : Addr}, H b = none → b ≠ a := fun {b} n z => by
    subst z
    rw [e] at n
    cases n
  have U : Un X.fs [] H (upd (upd H dx (exd dx [(f, y)])) a (exo a C (some dx))) hp h1 := {
    keep := fun b o z n _ _ => k b o (na n) z
    slot := fun b o z n _ _ => ⟨o.slots, k b o (na n) z⟩
    free := fun b o z n _ => by rw [upd_ne (na n), upd_ne (old z), n]
    there := fun b o z _ => if hb : b = a then ⟨_, hb ▸ hx⟩ else ⟨o, k b o hb z⟩
    tups := fun b xs z => by rw [upd_ne (at_ne e z exo_tup), upd_ne (ne_of_none z hnd), z]
    frzs := fun b o v z => by rw [upd_ne (at_ne e z exo_frz), upd_ne (ne_of_none z hnd), z]
    tbls := fun b ps z => ⟨#[], by rw [upd_ne (at_ne e z exo_tbl), upd_ne (ne_of_none z hnd), z]; simp⟩ }
  refine q dx _ hnd dne (I.un (t' := k1) U fun b o z => ?_)
  by_cases hb : b = a
  · subst hb
    rw [upd_same] at z
    cases z
    exact exo_ok hx
  rw [upd_ne hb] at z
  by_cases hd : b = dx
  · subst hd
    rw [upd_same] at z
    cases z
    exact exd_ok hn (relO_put (fs := []) ry fun _ => True.intro)
  rw [upd_ne hd] at z
  refine (I.hok b o z).stay (fun c v hc w => k c v (fun ca => ?_) w) (fun c hc => ?_) fun c xs hc => ?_
  · rcases hc with hc | hc
    · exact hb (hc ▸ ca)
    · exact at_ne e hc exo_own ca
  · rw [upd_ne (at_ne e hc exo_own), upd_ne (ne_of_none hc hnd), hc]
  · rw [upd_ne (at_ne e hc exo_tup), upd_ne (ne_of_none hc hnd), hc]
theorem put_old (T : XcC X.K C) (I : Inv X pins σ H s) (e : H a = some (exo a C (some dx))) (ed : H dx = some (exd dx fs)) (hl : fs.length ≤ 900) (hno : PySem.W.findIn X.K (.ref C) f = some none) (ry : RelV y u)
    (q : ∀ s', Inv X pins σ (upd H dx (exd dx ((f, y) :: fs))) s' → Q () s') : wpAny (model X.prog X.w) A (setAttr (.ref a) f u) Q E s := by
  obtain ⟨t1, ho⟩ := exo_at I.hok e
  obtain ⟨mA, hns, rel⟩ := exd_at I.hok ed
  have hw := within_of rel
  obtain ⟨hp, gs, dr, tt, ost⟩ := s
  obtain ⟨oD, _, _, hoD, _, _⟩ := hns.count hw
  refine PySem.W.set_plain I.kIn (ox := { cls := .ref C, dict := some dx, data := .fields #[.ref t1, .none, .none, .none, .bool false, .none] }) (od := some oD) ⟨ho, rfl, rfl, hoD⟩ T.sa ?_
  refine sto_old T I.kIn ho hns hw (by rw [List.length_map]; omega) hno (fun h1 k1 k hn => ?_)
  refine q _ (I.write (t' := k1) (x := dx) (e := dx) (o := exd dx ((f, y) :: fs)) (by rw [ed]; trivial) (.inl rfl) k ?_ (exd_ok hn (relO_put ry rel)))
  obtain ⟨o, _, _, e', _⟩ := hn
  exact ⟨o, e'⟩
end
/-- self.f = e, self being made -/
def tPut (K : PySem.W.Frag) (f : Str) (to te : TE) : TS := fun D σ H => te σ H fun y H1 => to σ H1 fun x H2 => ∃ a C : Addr, x = .ref a ∧ XcC K C ∧ PySem.W.findIn K (.ref C) f = some none ∧
  ((H2 a = some (exo a C none) ∧ ∀ dx, H2 dx = none → dx ≠ a → D.nx σ (upd (upd H2 dx (exd dx [(f, y)])) a (exo a C (some dx)))) ∨
    ∃ (dx : Addr) (fs : List (Str × V)), H2 a = some (exo a C (some dx)) ∧ H2 dx = some (exd dx fs) ∧ fs.length ≤ 900 ∧ D.nx σ (upd H2 dx (exd dx ((f, y) :: fs))))
section
variable {X : Cx} {o e : Expr} {es : List Expr} {to te : TE} {ta : TA} {f : Str} {p p' p1 p2 pos : Pos}
theorem ps_put (ho : PE X o to) (he : PE X e te) (hs : swapsWith e (some (.Attribute o f p')) pos.line X.env = pure false) : PS X (.Assign [.Attribute o f p'] e pos) (tPut X.K f to te) := by
  refine ⟨fun pins s σ H D I h => ?_⟩
  refine plainObj_wpAny_Assign_Attribute (thn (he.run pins s σ H _ I h) fun v s1 ⟨y, H1, I1, r1, q1⟩ => thn (ho.run pins s1 σ H1 _ I1 q1) fun u s2 ⟨x, H2, I2, r2, a, C, ex, T, hno, q⟩ => ?_) hs
  subst ex
  obtain rfl : u = Value.ref a := r2
  rcases q with ⟨ea, q⟩ | ⟨dx, fs, ea, ed, hl, q⟩
  · refine put_new T I2 ea hno r1 ?_
    exact fun dx s' n ne J => ⟨σ, _, J, q dx n ne⟩
  · refine put_old T I2 ea ed hl hno r1 ?_
    exact fun s' J => ⟨σ, _, J, q⟩
/-- C(e, ..): its own __init__ keeps sp -/
theorem pmk_own2 {CX : CXT} {x : Str} {C fI : Addr} {k : Nat} {fd : FuncData} {ps : List Str} {sp : Sp} {ds : List Value} {dvs : List V} (T : XcC X.K C) (iC : PySem.W.findIn X.K (.ref C) "__init__" = some (some (.ref fI))) (tI : PySem.W.typeIn X.K (.ref fI) = some (.type "function"))
    (F1 : FnOk X.prog X.w X.K X.mg X.base CX k fI fd ps sp) (hr : Room (k + 1) X.A) (hb : Binds X.K fd ps ds) (hd : Vals dvs ds) (hx : Passes CX X (fun _ _ _ => False)) (hg : Gl X x) (hm : X.mg x = some (.ref C)) (ha : PA X (e :: es) ta)
    (hdb : (x == ("__debug__" : Str)) = false) (he : starEach (e :: es) X.env = (false, eval e X.env) :: starEach es X.env) (hpl : (backTo pos (starEach es X.env)).any (·.1) = false) :
    PMk X (.Call (.Name x p) (e :: es) [] pos) (tMkO C sp dvs ta) := by
  intro pins s σ H Q I h
  refine wpAny_Call_Name_kw (ld_glob I hg hm ?_ hdb)
  refine PySem.W.callWith_K (h₀ := X.base) I.ok.mod.kin T.kC (thn (ha.run pos pins s σ H _ I h) fun us s1 ⟨vs, H1, I1, r1, hz, q1⟩ => ⟨I1.kIn, ?_⟩) he hpl
  show wpAny _ _ (call (.ref C) us) _ _ _
  obtain ⟨nm, N, q, bs, bm, hdc, sn, sub, ab, col, dd, k0, k1, k2, k3, k5, hC, hT⟩ := PySem.W.excInit_of I1.kIn T.ini
  obtain ⟨hp, gs, dr, tk, ost⟩ := s1
  have hsz : hp.objs.size ≤ hp.objs.size + 1 := Nat.le_succ _
  have hn : H1 (hp.objs.size + 1) = none := I1.hok.fresh hsz
  have hq := q1 (hp.objs.size + 1) hn
  have kk : ∀ b o, hp.get? b = some o → ((hp.push (PySem.W.kdv_tup us)).push (PySem.HandSPX.excO C hp.objs.size)).get? b = some o := fun b o z => Heap.get?_push_of_some _ (Heap.get?_push_of_some _ z)
  have hget : ((hp.push (PySem.W.kdv_tup us)).push (PySem.HandSPX.excO C hp.objs.size)).get? (hp.objs.size + 1) = some (PySem.HandSPX.excO C hp.objs.size) := by heap_get
  have I2 : Inv X pins σ (upd H1 (hp.objs.size + 1) (exo (hp.objs.size + 1) C none)) ⟨(hp.push (PySem.W.kdv_tup us)).push (PySem.HandSPX.excO C hp.objs.size), gs, dr, tk, ost⟩ :=
    I1.laid (t' := tk) (a := hp.objs.size + 1) (o := exo (hp.objs.size + 1) C none) (h' := (hp.push (PySem.W.kdv_tup us)).push (PySem.HandSPX.excO C hp.objs.size)) kk hsz (exo_ok hget)
  have r2 : Vals (V.ref (hp.objs.size + 1) :: (vs ++ dvs)) (Value.ref (hp.objs.size + 1) :: (us ++ ds)) := .cons rfl (r1.append hd)
  have hl : (Value.ref (hp.objs.size + 1) :: us ++ ds).length = ps.length := by
    have z := r2.length
    rw [F1.len _ _ _ _ hq] at z
    exact z.symm
  have hus : us.length ≤ sizeLine := by
    rw [← Paired.length r1, sizeLine_eq]
    omega
  refine wpAny_call (PySem.HandSPX.call_own F.excBase_Exception hT hC (PySem.W.looks_findIn I1.kIn iC) (fun self => PySem.W.bind_fn I1.kIn self tI) hus ?_)
  refine codeAny_mono (F1.run _ X.stack _ _ ⟨Value.ref (hp.objs.size + 1) :: us, []⟩ (Value.ref (hp.objs.size + 1) :: (us ++ ds)) _ _ (fun _ _ _ => False) (hr.make C us []) (I2.env0.make C us []) (hb _ (Value.ref (hp.objs.size + 1) :: us) I2.kIn hl) r2 hq) fun r s' z => ?_
  cases r with
  | error er => exact hx pins σ _ _ er s' I2 z
  | ok fl =>
    cases fl with
    | ret u =>
      obtain ⟨v, H2, os2, bare2, un2, hok2, rv, ev, d, fs, ea, ed, hd1, q2⟩ := z
      subst ev
      obtain ⟨h2, g2, d2, t2, os'⟩ := s'
      refine ⟨rv, ?_⟩
      exact mk_end (raises_own T.exC T.tyC) I1 hsz kk un2 hok2 os2 bare2 ea ed hd1 q2
    | next => exact z.elim
    | brk => exact z.elim
    | cont => exact z.elim
end
/-- the fields, as they pile up -/
def accF : List Str → List V → List (Str × V) → List (Str × V)
  | f :: fs, y :: ys, acc => accF fs ys ((f, y) :: acc)
  | _, _, acc => acc
def NoF (K : PySem.W.Frag) (C : Addr) (fs : List Str) : Prop := ∀ f ∈ fs, PySem.W.findIn K (.ref C) f = some none
/-- what an __init__ keeps that stores its arguments, field by field -/
def spI (K : PySem.W.Frag) (fs : List Str) : Sp := fun vs H Q _ => ∃ (a C : Addr) (ys : List V), vs = .ref a :: ys ∧ ys.length = fs.length ∧ XcC K C ∧ NoF K C fs ∧ H a = some (exo a C none) ∧
  ∀ dx H', H dx = none → dx ≠ a → H' a = some (exo a C (some dx)) → H' dx = some (exd dx (accF fs ys [])) → (∀ b, b ≠ a → b ≠ dx → H' b = H b) → Q .non H'
/-- all that is leant on of an error's class -/
structure ErrC (K : PySem.W.Frag) (C : Addr) (fs : List Str) : Prop where
  x : XcC K C
  no : NoF K C fs
  rd : XfC K C
  ic : PySem.W.findIn K (.ref C) "__class__" = some (some (.builtin "object.__class__")) ∧ PySem.W.specialIn K (.builtin "object.__class__") "__get__" = some (some (.builtin "getset_descriptor.__get__")) ∧
    PySem.W.takesIn K (.builtin "object.__class__") = some true ∧ PySem.W.mroIn K C (.type "object") = some true
  ini : ∃ (fI : Addr) (fd : FuncData) (ps : List Str), PySem.W.findIn K (.ref C) "__init__" = some (some (.ref fI)) ∧ PySem.W.typeIn K (.ref fI) = some (.type "function") ∧ Binds K fd ps [] ∧
    ∀ (P : Program) (w : World) (mg : Str → Option Value) (base : Heap), FnOk P w K mg base (L2.CX P w) 1 fI fd ps (spI K fs)
end GX
/-! G: != of instances, by their own ==. -/
namespace GX
open PySem PySem.Spec PySem.W PySem.Calls PyProof.Rows
section
open Builtin
variable {prog : Program} {w : World} {A : Around} {E : Value → Shared → Prop} {s : Shared} {K : Frag} {x y C f : Addr} {ox oy : Obj} {od oe : Option Obj} {name : Str} {id : String}
theorem slot_call {M : Model} {args : List Value} {Q : Option Value → Shared → Prop} (X : K.In s.heap) (I : InstAt s.heap x ox C od) (hs : findIn K (.ref C) name = some (some (.builtin id))) (Sl : Slot "object" name id)
    (q : wpAny M A (call (.builtin id) (.ref x :: args)) (fun v => Q (some v)) E s) : wpAny M A (callSpecialIfBound? (.ref x) name args) Q E s := by
  simp only [callSpecialIfBound?, bindSpecialIfBound?]
  refine wpAny_holding (wpAny_bind (wpAny_bind (wpAny_bind (I.type.here ((looks_findIn X hs).here ?_)))))
  simp only [Sl.bind]
  refine wpAny_bind (wpAny_askSetting (wpAny_ite ?_))
  have last : wpAny M A (call (.builtin id) ([.ref x] ++ args) >>= fun v => pure (some v)) Q E s := wpAny_bind (wpAny_mono q (fun _ _ z => wpAny_pure z) fun _ _ z => z)
  split
  · exact wpAny_bind (wpAny_pure (wpAny_pure last))
  · exact wpAny_tryCatch (wpAny_bind (wpAny_pure (wpAny_pure last)))
theorem ne_entry (hu : A.units < cLine) (X : K.In s.heap) (I : InstAt s.heap x ox C od) (he : findIn K (.ref C) "__eq__" = some (some (.ref f))) (hf : isFn K (.ref f) = true) {Q : Fin → Shared → Prop}
    (q : wpAny (model prog w) A (call (.ref f) [.ref x, .ref y]) (fun v s1 => ∃ b, v = .bool b ∧ Q (.done (.ret (.bool (!b)))) s1) E s) : wpAny (model prog w) A (Builtin.«object.__ne__» ⟨[.ref x, .ref y], []⟩) Q E s := by
  unfold Builtin.«object.__ne__»
  repeat (first
    | with_reducible refine wpAny_cRoomFor hu ?_
    | (refine wpAny_bind (m := callSpecialIfBound? (.ref x) (Str.ofString "__eq__") [.ref y])
        (ifBound_K X I he hf (wpAny_mono q (fun r s1 z => by
          obtain ⟨b, rfl, z⟩ := z
          repeat (first | exact z | exact wpAny_pure z | exact wpAny_truthy_bool z | (refine wpAny_bind (m := truthy (.bool _)) (wpAny_truthy_bool ?_)) | wp_step)) fun _ _ e => e)))
    | wp_step)
theorem ne_own (hu : A.units + 1 < cLine) (X : K.In s.heap) (I : InstAt s.heap x ox C od) (J : InstAt s.heap y oy C oe) (hn : findIn K (.ref C) "__ne__" = some (some (.builtin "object.__ne__")))
    (he : findIn K (.ref C) "__eq__" = some (some (.ref f))) (hf : isFn K (.ref f) = true) (hm : mroIn K C (.type "object") = some true) {Q : Value → Shared → Prop}
    (q : wpAny (model prog w) A.in1 (call (.ref f) [.ref x, .ref y]) (fun v s1 => ∃ b, v = .bool b ∧ Q (.bool (!b)) s1) E s) : wpAny (model prog w) A (compareOp .NotEq (.ref x) (.ref y)) Q E s := by
  show wpAny _ _ (richCompare .NotEq (.ref x) (.ref y)) _ _ _
  have sub : Looks (model prog w) s.heap (isInstance (.ref x) (.type "object")) true := I.type.andThen (looks_mroIn X hm)
  have one : wpAny (model prog w) A (tryCompare (.ref x) (cmpInfo .NotEq).2.1 (.ref y)) (fun r s1 => ∃ v, r = some v ∧ Q v s1) E s := by
    simp only [tryCompare]
    refine wpAny_bind (slot_call X I hn F.cmp_object.ne (wpAny_call (codeAny_call_builtin F.cmp_object.ne.plain F.cmpEntry_ne
      (@check_slot (model prog w) _ _ s "object.__ne__" "object" "__ne__" (.ref x) [.ref y] [] _ F.cmpKind_ne F.cmpSplit_ne sub (F.cmpArgs_ne _ _) (ne_entry (A := A.in1) hu X I he hf (wpAny_mono q (fun v s1 z => ?_) fun _ _ e => e))))))
    obtain ⟨b, rfl, z⟩ := z
    first | exact ⟨b, rfl, wpAny_pure ⟨_, rfl, z⟩⟩ | exact ⟨b, rfl, wpAny_pure (wpAny_pure ⟨_, rfl, z⟩)⟩
  unfold richCompare
  simp only [oneThing_ref]
  refine wpAny_holding (wpAny_bind (wpAny_cRoomFor (Nat.lt_of_succ_lt hu) ?_))
  refine wpAny_bind (I.type.here (wpAny_bind (J.type.here ?_)))
  rw [show (Value.ref C != Value.ref C) = false from by simp]
  simp only [Bool.false_eq_true, if_false]
  refine wpAny_bind (wpAny_pure ?_)
  simp only [Bool.false_eq_true, if_false]
  refine wpAny_bind (wpAny_mono one (fun r s1 z => ?_) fun _ _ e => e)
  obtain ⟨v, rfl, z⟩ := z
  exact wpAny_pure z
end
end GX
/-! G: what of G's data stands where in the heap. -/
namespace GS
open PySem PySem.Spec PyProof.Rows L2 G
structure Tx where
  ca : Nat → Addr
  nm : Names
/-- of the written part -/
def KL (K : PySem.W.Frag) (a : Addr) (xs : List V) : Prop := SqL K (fun _ => none) a xs
def KT (K : PySem.W.Frag) (a : Addr) (xs : List V) : Prop := SqT K (fun _ => none) a xs
theorem no_rd {a : Addr} {o : HO} (h : Rd (fun _ => none) a o) : False := by
  rcases h with h | ⟨_, h⟩ <;> cases h
theorem KL.sq {K : PySem.W.Frag} {a : Addr} {xs : List V} (H : Hp) (h : KL K a xs) : SqL K H a xs := h.elim (fun z => (no_rd z).elim) .inr
theorem KT.sq {K : PySem.W.Frag} {a : Addr} {xs : List V} (H : Hp) (h : KT K a xs) : SqT K H a xs := h.elim (fun z => (no_rd z).elim) .inr
/-- read, and no cell -/
def SL (K : PySem.W.Frag) (M : Addr → Prop) (H : Hp) (a : Addr) (xs : List V) : Prop := (Rd H a (.lst xs) ∧ ¬ M a) ∨ KL K a xs
def ST (K : PySem.W.Frag) (M : Addr → Prop) (H : Hp) (a : Addr) (xs : List V) : Prop := (Rd H a (.tup xs) ∧ ¬ M a) ∨ KT K a xs
section
variable {K : PySem.W.Frag} {M M' : Addr → Prop} {H H' : Hp} {a : Addr} {vs : List V}
theorem SL.sq (h : SL K M H a vs) : SqL K H a vs := h.elim (fun h => .inl h.1) (KL.sq H)
theorem ST.sq (h : ST K M H a vs) : SqT K H a vs := h.elim (fun h => .inl h.1) (KT.sq H)
/-- what is no cell stays -/
def Stay (M : Addr → Prop) (H H' : Hp) : Prop := ∀ q o, H q = some o → ¬ M q → H' q = some o
/-- new cells are new -/
def Sub (M' M : Addr → Prop) (H : Hp) : Prop := ∀ q, M' q → M q ∨ H q = none
theorem Stay.refl (M : Addr → Prop) (H : Hp) : Stay M H H := fun _ _ h _ => h
theorem Sub.refl (M : Addr → Prop) (H : Hp) : Sub M M H := fun _ h => .inl h
theorem Stay.rd {o : HO} (s : Stay M H H') (h : Rd H a o) (n : ¬ M a) : Rd H' a o := h.elim (fun h => .inl (s _ _ h n)) fun ⟨u, h⟩ => .inr ⟨u, s _ _ h n⟩
theorem Rd.some {o : HO} (h : Rd H a o) : H a ≠ none := by
  rcases h with h | ⟨u, h⟩ <;> rw [h] <;> exact fun z => nomatch z
theorem Sub.out {o : HO} (u : Sub M' M H) (h : Rd H a o) (n : ¬ M a) : ¬ M' a := fun z => (u a z).elim n (Rd.some h)
theorem SL.mono (h : SL K M H a vs) (s : Stay M H H') (u : Sub M' M H) : SL K M' H' a vs :=
  h.elim (fun ⟨h, n⟩ => .inl ⟨s.rd h n, u.out h n⟩) .inr
theorem ST.mono (h : ST K M H a vs) (s : Stay M H H') (u : Sub M' M H) : ST K M' H' a vs :=
  h.elim (fun ⟨h, n⟩ => .inl ⟨s.rd h n, u.out h n⟩) .inr
end
inductive Rel (t : Tx) (K : PySem.W.Frag) (M : Addr → Prop) (H : Hp) : D → V → Prop
  | non : Rel t K M H .non .non
  | bl (b : Bool) : Rel t K M H (.bl b) (.bl b)
  | int (i : Int) : Rel t K M H (.int i) (.int i)
  | str (s : Str) : Rel t K M H (.str s) (.str s)
  | tup {xs : List D} {p : Addr} {vs : List V} (h : ST K M H p vs) (l : xs.length = vs.length) (r : ∀ (i : Nat) x v, xs[i]? = some x → vs[i]? = some v → Rel t K M H x v) : Rel t K M H (.tup xs) (.ref p)
  | lst {xs : List D} {p : Addr} {vs : List V} (h : SL K M H p vs) (l : xs.length = vs.length) (r : ∀ (i : Nat) x v, xs[i]? = some x → vs[i]? = some v → Rel t K M H x v) : Rel t K M H (.lst xs) (.ref p)
  | obj {c : Nat} {fs : List (Nat × D)} {p dx : Addr} {fvs : List (Str × V)} (h : H p = some (.ins (t.ca c) dx fvs)) (n : ¬ M p) (k : fvs.map (·.1) = fs.map fun q => t.nm.fld q.1)
      (r : ∀ (i : Nat) (q : Nat × D) (v : Str × V), fs[i]? = some q → fvs[i]? = some v → Rel t K M H q.2 v.2) : Rel t K M H (.obj c fs) (.ref p)
  | cls (c : Nat) : Rel t K M H (.cls c) (.ref (t.ca c))
/-- a row of data, a row of values -/
def RelL (t : Tx) (K : PySem.W.Frag) (M : Addr → Prop) (H : Hp) (xs : List D) (vs : List V) : Prop := xs.length = vs.length ∧ ∀ (i : Nat) x v, xs[i]? = some x → vs[i]? = some v → Rel t K M H x v
/-- attributes -/
def RelF (t : Tx) (K : PySem.W.Frag) (M : Addr → Prop) (H : Hp) (fs : List (Nat × D)) (fvs : List (Str × V)) : Prop :=
  (fvs.map (·.1) = fs.map fun q => t.nm.fld q.1) ∧ ∀ (i : Nat) (q : Nat × D) (v : Str × V), fs[i]? = some q → fvs[i]? = some v → Rel t K M H q.2 v.2
section
variable {t : Tx} {K : PySem.W.Frag} {M M' : Addr → Prop} {H H' : Hp} {d : D} {v : V} {xs : List D} {vs : List V} {fs : List (Nat × D)} {fvs : List (Str × V)}
theorem Rel.mono (h : Rel t K M H d v) (s : Stay M H H') (u : Sub M' M H) : Rel t K M' H' d v := by
  induction h with
  | non => exact .non
  | bl b => exact .bl b
  | int i => exact .int i
  | str x => exact .str x
  | tup h l r ih => exact .tup (h.mono s u) l ih
  | lst h l r ih => exact .lst (h.mono s u) l ih
  | obj h n k r ih => exact .obj (s _ _ h n) (u.out (.inl h) n) k ih
  | cls c => exact .cls c
theorem RelL.mono (h : RelL t K M H xs vs) (s : Stay M H H') (u : Sub M' M H) : RelL t K M' H' xs vs := ⟨h.1, fun i x v a b => (h.2 i x v a b).mono s u⟩
theorem RelF.mono (h : RelF t K M H fs fvs) (s : Stay M H H') (u : Sub M' M H) : RelF t K M' H' fs fvs := ⟨h.1, fun i x v a b => (h.2 i x v a b).mono s u⟩
theorem RelL.nil : RelL t K M H [] [] := ⟨rfl, fun i x v a => by simp at a⟩
theorem RelL.cons (h : Rel t K M H d v) (r : RelL t K M H xs vs) : RelL t K M H (d :: xs) (v :: vs) := ⟨by simp [r.1], fun i x w a b => by
  cases i with
  | zero => simp at a b; subst a; subst b; exact h
  | succ i => exact r.2 i x w (by simpa using a) (by simpa using b)⟩
theorem RelL.get (r : RelL t K M H xs vs) {i : Nat} (e : xs[i]? = some d) : ∃ v, vs[i]? = some v ∧ Rel t K M H d v := by
  have hl : i < vs.length := by rw [← r.1]; exact (List.getElem?_eq_some_iff.mp e).1
  exact ⟨vs[i], List.getElem?_eq_getElem hl, r.2 i d _ e (List.getElem?_eq_getElem hl)⟩
theorem RelL.append {ys : List D} {ws : List V} (r : RelL t K M H xs vs) (q : RelL t K M H ys ws) : RelL t K M H (xs ++ ys) (vs ++ ws) := ⟨by simp [r.1, q.1], fun i x v a b => by
  by_cases h : i < xs.length
  · rw [List.getElem?_append_left h] at a
    rw [List.getElem?_append_left (by rw [← r.1]; exact h)] at b
    exact r.2 i x v a b
  · rw [List.getElem?_append_right (by omega)] at a
    rw [List.getElem?_append_right (by rw [← r.1]; omega), ← r.1] at b
    exact q.2 _ x v a b⟩
theorem RelL.take (n : Nat) (r : RelL t K M H xs vs) : RelL t K M H (xs.take n) (vs.take n) := ⟨by simp [r.1], fun i x v a b => by
  by_cases h : i < n
  · rw [List.getElem?_take_of_lt h] at a b
    exact r.2 i x v a b
  · rw [List.getElem?_eq_none (by simp; omega)] at a
    cases a⟩
theorem RelL.drop (n : Nat) (r : RelL t K M H xs vs) : RelL t K M H (xs.drop n) (vs.drop n) := ⟨by simp [r.1], fun i x v a b => by
  rw [List.getElem?_drop] at a b
  exact r.2 _ x v a b⟩
theorem RelL.set (r : RelL t K M H xs vs) (h : Rel t K M H d v) (n : Nat) : RelL t K M H (xs.set n d) (vs.set n v) := ⟨by simp [r.1], fun i x w a b => by
  by_cases e : n = i
  · subst e
    rw [List.getElem?_set] at a b
    simp only [if_pos] at a b
    split at a
    · cases a
      split at b
      · cases b; exact h
      · cases b
    · cases a
  · rw [List.getElem?_set_ne e] at a b
    exact r.2 i x w a b⟩
theorem RelL.reverse (r : RelL t K M H xs vs) : RelL t K M H xs.reverse vs.reverse := ⟨by simp [r.1], fun i x v a b => by
  have h1 := (List.getElem?_eq_some_iff.mp a).1
  rw [List.length_reverse] at h1
  rw [List.getElem?_reverse h1] at a
  rw [List.getElem?_reverse (by rw [← r.1]; exact h1), ← r.1] at b
  exact r.2 _ x v a b⟩
theorem RelL.snoc (r : RelL t K M H xs vs) (h : Rel t K M H d v) : RelL t K M H (xs ++ [d]) (vs ++ [v]) := r.append (.cons h .nil)
end
/-! ### cells -/
def Ce.live : Ce → Bool
  | .dead => false
  | _ => true
/-- a cell that lives, or a hidden object -/
def Live (Z : Addr → Prop) (ρ : List Addr) (S : Sto) (p : Addr) : Prop := Z p ∨ ∃ (l : Nat) (c : Ce), ρ[l]? = some p ∧ S[l]? = some c ∧ Ce.live c = true
def CellOk (t : Tx) (K : PySem.W.Frag) (M : Addr → Prop) (H : Hp) : Ce → Addr → Prop
  | .lst xs, p => ∃ vs, H p = some (.lst vs) ∧ RelL t K M H xs vs
  | .ins c fs, p => ∃ dx fvs, H p = some (.ins (t.ca c) dx fvs) ∧ RelF t K M H fs fvs
  | .dead, p => ∃ o, H p = some o
structure StoOk (t : Tx) (K : PySem.W.Frag) (Z : Addr → Prop) (ρ : List Addr) (H : Hp) (S : Sto) : Prop where
  len : ρ.length = S.length
  nd : ρ.Nodup
  ok : ∀ (l : Nat) c p, S[l]? = some c → ρ[l]? = some p → CellOk t K (Live Z ρ S) H c p
  hid : ∀ p, Z p → (∃ o, H p = some o) ∧ p ∉ ρ
def RelW (t : Tx) (K : PySem.W.Frag) (Z : Addr → Prop) (ρ : List Addr) (S : Sto) (H : Hp) : Va → V → Prop
  | .d x, v => Rel t K (Live Z ρ S) H x v
  | .r l, v => ∃ p, ρ[l]? = some p ∧ v = .ref p
  | .f _, _ => False
def RelWs (t : Tx) (K : PySem.W.Frag) (Z : Addr → Prop) (ρ : List Addr) (S : Sto) (H : Hp) : List Va → List V → Prop
  | [], [] => True
  | a :: as, v :: vs => RelW t K Z ρ S H a v ∧ RelWs t K Z ρ S H as vs
  | _, _ => False
def EnvOk (t : Tx) (K : PySem.W.Frag) (Z : Addr → Prop) (ρ : List Addr) (S : Sto) (H : Hp) (env : Frm) (σ : L2.St) : Prop :=
  env.length = σ.length ∧ ∀ (i : Nat) a, env[i]? = some (some a) → ∃ v, σ[i]? = some (some v) ∧ RelW t K Z ρ S H a v
/-- from one state to a later one: the same cells (some may have died), perhaps new ones -/
structure Ext (t : Tx) (K : PySem.W.Frag) (Z : Addr → Prop) (ρ : List Addr) (S : Sto) (H : Hp) (ρ' : List Addr) (S' : Sto) (H' : Hp) : Prop where
  stay : Stay (Live Z ρ S) H H'
  sub : Sub (Live Z ρ' S') (Live Z ρ S) H
  sto : StoOk t K Z ρ' H' S'
  pre : ∃ e, ρ' = ρ ++ e
  hid : ∀ q, Z q → H' q = H q
section
variable {t : Tx} {K : PySem.W.Frag} {Z : Addr → Prop} {ρ ρ' ρ2 : List Addr} {S S' S2 : Sto} {H H' H2 : Hp} {a : Va} {v : V} {p q : Addr} {env : Frm} {σ : L2.St} {as : List Va} {vs : List V}
theorem StoOk.any_ (h : StoOk t K Z ρ H S) {l : Nat} (e : ρ[l]? = some p) : ∃ o, H p = some o := by
  have hl : l < S.length := by rw [← h.len]; exact (List.getElem?_eq_some_iff.mp e).1
  have := h.ok l S[l] p (List.getElem?_eq_getElem hl) e
  cases hc : S[l] with
  | lst xs => rw [hc] at this; obtain ⟨vs, e, _⟩ := this; exact ⟨_, e⟩
  | ins c fs => rw [hc] at this; obtain ⟨dx, fvs, e, _⟩ := this; exact ⟨_, e⟩
  | dead => rw [hc] at this; exact this
theorem StoOk.live (h : StoOk t K Z ρ H S) (e : Live Z ρ S p) : ∃ o, H p = some o := e.elim (fun z => (h.hid p z).1) fun ⟨_, _, a, _⟩ => h.any_ a
theorem nd_ix {N : List Addr} (hN : N.Nodup) {i j : Nat} {x : Addr} (a : N[i]? = some x) (b : N[j]? = some x) : i = j :=
  (List.getElem?_inj (List.getElem?_eq_some_iff.mp a).1 hN).mp (a.trans b.symm)
theorem StoOk.inj (h : StoOk t K Z ρ H S) {i j : Nat} (a : ρ[i]? = some p) (b : ρ[j]? = some p) : i = j := nd_ix h.nd a b
theorem Ext.refl (h : StoOk t K Z ρ H S) : Ext t K Z ρ S H ρ S H := ⟨.refl _ _, .refl _ _, h, ⟨[], by simp⟩, fun _ _ => rfl⟩
theorem Ext.get (x : Ext t K Z ρ S H ρ' S' H') {l : Nat} (e : ρ[l]? = some p) : ρ'[l]? = some p := by
  obtain ⟨r, e'⟩ := x.pre
  subst e'
  rw [List.getElem?_append_left (List.getElem?_eq_some_iff.mp e).1]
  exact e
theorem Ext.trans (x : Ext t K Z ρ S H ρ' S' H') (y : Ext t K Z ρ' S' H' ρ2 S2 H2) : Ext t K Z ρ S H ρ2 S2 H2 where
  stay := fun q o e n => y.stay q o (x.stay q o e n) fun z => (x.sub q z).elim n fun z => by rw [e] at z; cases z
  sub := fun q z => (y.sub q z).elim (x.sub q) fun z => by
    by_cases h : Live Z ρ S q
    · exact .inl h
    · cases e : H q with
      | none => exact .inr rfl
      | some o => rw [x.stay q o e h] at z; cases z
  sto := y.sto
  pre := let ⟨e, a⟩ := x.pre; let ⟨f, b⟩ := y.pre; ⟨e ++ f, by rw [b, a, List.append_assoc]⟩
  hid := fun q z => (y.hid q z).trans (x.hid q z)
theorem RelW.mono (h : RelW t K Z ρ S H a v) (x : Ext t K Z ρ S H ρ' S' H') : RelW t K Z ρ' S' H' a v := by
  cases a with
  | d d => exact Rel.mono h x.stay x.sub
  | r l => obtain ⟨p, e, r⟩ := h; exact ⟨p, x.get e, r⟩
  | f c => exact h
theorem RelWs.mono : ∀ {as : List Va} {vs : List V}, RelWs t K Z ρ S H as vs → Ext t K Z ρ S H ρ' S' H' → RelWs t K Z ρ' S' H' as vs
  | [], [], _, _ => trivial
  | _ :: _, _ :: _, h, x => ⟨h.1.mono x, RelWs.mono h.2 x⟩
  | [], _ :: _, h, _ => h.elim
  | _ :: _, [], h, _ => h.elim
theorem RelWs.length : ∀ {as : List Va} {vs : List V}, RelWs t K Z ρ S H as vs → as.length = vs.length
  | [], [], _ => rfl
  | _ :: _, _ :: _, h => by simp [RelWs.length h.2]
  | [], _ :: _, h => h.elim
  | _ :: _, [], h => h.elim
theorem EnvOk.mono (h : EnvOk t K Z ρ S H env σ) (x : Ext t K Z ρ S H ρ' S' H') : EnvOk t K Z ρ' S' H' env σ := ⟨h.1, fun i a e => let ⟨v, b, c⟩ := h.2 i a e; ⟨v, b, c.mono x⟩⟩
theorem EnvOk.set (h : EnvOk t K Z ρ S H env σ) (r : RelW t K Z ρ S H a v) (i : Nat) : EnvOk t K Z ρ S H (env.set i (some a)) (σ.set i (some v)) := ⟨by simp [h.1], fun j b e => by
  by_cases z : i = j
  · subst z
    rw [List.getElem?_set] at e ⊢
    simp only [if_pos] at e ⊢
    split at e
    · cases e
      rename_i hl
      rw [h.1] at hl
      rw [if_pos hl]
      exact ⟨v, rfl, r⟩
    · cases e
  · rw [List.getElem?_set_ne z] at e ⊢
    exact h.2 j b e⟩
theorem EnvOk.unset (h : EnvOk t K Z ρ S H env σ) (i : Nat) (u : Option V) : EnvOk t K Z ρ S H (env.set i none) (σ.set i u) := ⟨by simp [h.1], fun j b e => by
  by_cases z : i = j
  · subst z
    rw [List.getElem?_set] at e
    simp only [if_pos] at e
    split at e <;> cases e
  · rw [List.getElem?_set_ne z] at e ⊢
    exact h.2 j b e⟩
theorem EnvOk.wipe (h : EnvOk t K Z ρ S H env σ) : ∀ own : List Nat, EnvOk t K Z ρ S H (G.wipe env own) (L2.wipe σ own)
  | [] => h
  | i :: own => (EnvOk.wipe h own).unset i none
/-- fewer cells -/
theorem Stay.less {M M' : Addr → Prop} (s : Stay M H H') (u : ∀ q, M q → M' q) : Stay M' H H' := fun q o e n => s q o e fun z => n (u q z)
end
end GS
/-! G: readings by the evaluator; values. -/
namespace GS
open PySem PySem.Spec PyProof.Rows L2 G
/-- the text, further: names and addresses of defs, classes, constants -/
structure Text extends Tx where
  P : Prg
  fa : Nat → Addr
section
variable (T : Text) (K : PySem.W.Frag)
/-- an exception's own dict holds its fields -/
def ExcD (Z : Addr → Prop) (ρ : List Addr) (S : Sto) (H : Hp) (c : Nat) (fs : List D) (d : Option Addr) : Prop :=
  ∃ ns, T.P.xfl c = some ns ∧ ns.length = fs.length ∧ ((ns = [] ∧ d = none) ∨ ∃ dd fvs, d = some dd ∧ H dd = some (.xd fvs) ∧
    ∀ f x, (ns.zip fs).lookup f = some x → ∃ v, fvs.lookup (T.nm.fld f) = some v ∧ Rel T.toTx K (Live Z ρ S) H x v)
def PV (Z : Addr → Prop) (ρ : List Addr) (S : Sto) (H : Hp) (Q : VK) (S' : Sto) : Va → Prop
  | .f c => ∀ p H', H p = none → Stay (Live Z ρ S) H H' → Sub (Live Z ρ S') (Live Z ρ S) H → (∀ q, Z q → H' q = H q) → StoOk T.toTx K Z (ρ ++ [p]) H' (S' ++ [c]) → Q (.ref p) H'
  | v => ∀ x H', Ext T.toTx K Z ρ S H ρ S' H' → RelW T.toTx K Z ρ S' H' v x → Q x H'
def PX (Z : Addr → Prop) (ρ : List Addr) (S : Sto) (H : Hp) (W : XK) (c : Nat) (fs : List D) (S' : Sto) : Prop :=
  ∀ d H', Ext T.toTx K Z ρ S H ρ S' H' → ExcD T K Z ρ S' H' c fs d → W (.ref (T.ca c)) d H'
/-- what an expression's end gives -/
def PE3 (r : R Va) (Z : Addr → Prop) (ρ : List Addr) (S : Sto) (H : Hp) (Q : VK) (W : XK) : Prop := match r with
  | .ok v S' => PV T K Z ρ S H Q S' v
  | .ex c fs S' => PX T K Z ρ S H W c fs S'
  | .bad => False
/-- .. of plain results (a test, a row, a source) -/
def PG3 {α : Type} (P : α → Sto → Hp → Prop) (r : R α) (Z : Addr → Prop) (ρ : List Addr) (S : Sto) (H : Hp) (W : XK) : Prop := match r with
  | .ok v S' => ∀ H', Ext T.toTx K Z ρ S H ρ S' H' → P v S' H'
  | .ex c fs S' => PX T K Z ρ S H W c fs S'
  | .bad => False
end
section
variable {T : Text} {K : PySem.W.Frag} {Z : Addr → Prop} {ρ ρ' : List Addr} {S S1 S' : Sto} {H H1 H' : Hp} {Q : VK} {W : XK} {r : R Va} {c : Nat} {fs : List D} {v : Va}
theorem PX.base (x : Ext T.toTx K Z ρ S H ρ S1 H1) (h : PX T K Z ρ S H W c fs S') : PX T K Z ρ S1 H1 W c fs S' := fun d H' e z => h d H' (x.trans e) z
theorem PV.base (x : Ext T.toTx K Z ρ S H ρ S1 H1) (h : PV T K Z ρ S H Q S' v) : PV T K Z ρ S1 H1 Q S' v := by
  cases v with
  | f c =>
    intro p H' n st su hi so
    refine h p H' ?_ (fun q o e nn => st q o (x.stay q o e nn) fun z => (x.sub q z).elim nn fun z => by rw [e] at z; cases z) (fun q z => ?_) (fun q z => (hi q z).trans (x.hid q z)) so
    · cases e : H p with
      | none => rfl
      | some o =>
        by_cases hp : Live Z ρ S p
        · rcases hp with hp | ⟨l, _, a, _⟩
          · have := x.hid p hp
            rw [n, e] at this; cases this
          · obtain ⟨o, z⟩ := x.sto.any_ (x.get a)
            rw [n] at z; cases z
        · have := x.stay p o e hp
          rw [n] at this; cases this
    · rcases su q z with z | z
      · exact x.sub q z
      · by_cases hp : Live Z ρ S q
        · exact .inl hp
        · cases e : H q with
          | none => exact .inr rfl
          | some o => rw [x.stay q o e hp] at z; cases z
  | d _ => exact fun y H' e z => h y H' (x.trans e) z
  | r _ => exact fun y H' e z => h y H' (x.trans e) z
theorem PE3.base (x : Ext T.toTx K Z ρ S H ρ S1 H1) (h : PE3 T K r Z ρ S H Q W) : PE3 T K r Z ρ S1 H1 Q W := by
  cases r with
  | ok v S' => exact PV.base x h
  | ex c fs S' => exact PX.base x h
  | bad => exact h
theorem PG3.base {α : Type} {P : α → Sto → Hp → Prop} {r : R α} (x : Ext T.toTx K Z ρ S H ρ S1 H1) (h : PG3 T K P r Z ρ S H W) : PG3 T K P r Z ρ S1 H1 W := by
  cases r with
  | ok v S' => exact fun H' e => h H' (x.trans e)
  | ex c fs S' => exact PX.base x h
  | bad => exact h
theorem live_of {l : Nat} {c : Ce} {p : Addr} (a : ρ[l]? = some p) (b : S[l]? = some c) (e : Ce.live c = true) : Live Z ρ S p := .inr ⟨l, c, a, b, e⟩
theorem live_app {p q : Addr} {c : Ce} (h : Live Z ρ S q) : Live Z (ρ ++ [p]) (S ++ [c]) q := by
  rcases h with h | ⟨l, c', a, b, e⟩
  · exact .inl h
  exact .inr ⟨l, c', by rw [List.getElem?_append_left (List.getElem?_eq_some_iff.mp a).1]; exact a, by rw [List.getElem?_append_left (List.getElem?_eq_some_iff.mp b).1]; exact b, e⟩
/-- the last cell taken off -/
theorem StoOk.init {p : Addr} {c : Ce} (h : StoOk T.toTx K Z (ρ ++ [p]) H (S ++ [c])) : StoOk T.toTx K Z ρ H S := by
  refine ⟨by have := h.len; simp at this; exact this, (List.nodup_append.mp h.nd).1, fun l c' q a b => ?_, fun q z => ⟨(h.hid q z).1, fun w => (h.hid q z).2 (by simp [w])⟩⟩
  have z := h.ok l c' q (by rw [List.getElem?_append_left (List.getElem?_eq_some_iff.mp a).1]; exact a) (by rw [List.getElem?_append_left (List.getElem?_eq_some_iff.mp b).1]; exact b)
  have s : Stay (Live Z (ρ ++ [p]) (S ++ [c])) H H := .refl _ _
  have u : Sub (Live Z ρ S) (Live Z (ρ ++ [p]) (S ++ [c])) H := fun q z => .inl (live_app z)
  cases c' with
  | lst xs => obtain ⟨vs, e, r⟩ := z; exact ⟨vs, e, r.mono s u⟩
  | ins c fs => obtain ⟨dx, fvs, e, r⟩ := z; exact ⟨dx, fvs, e, r.mono s u⟩
  | dead => exact z
theorem StoOk.last {p : Addr} {c : Ce} (h : StoOk T.toTx K Z (ρ ++ [p]) H (S ++ [c])) : CellOk T.toTx K (Live Z (ρ ++ [p]) (S ++ [c])) H c p ∧ p ∉ ρ := by
  have hl : ρ.length = S.length := by have := h.len; simp at this; exact this
  refine ⟨h.ok S.length c p (by simp) (by rw [← hl]; simp), fun z => ?_⟩
  exact (List.nodup_append.mp h.nd).2.2 p z p (by simp) rfl
/-- a fresh object, as data -/
theorem fresh_rel {p : Addr} {c : Ce} {x : D} (h : StoOk T.toTx K Z (ρ ++ [p]) H (S ++ [c])) (e : c.fz = some x) : Rel T.toTx K (Live Z ρ S) H x (.ref p) := by
  obtain ⟨z, np⟩ := h.last
  have s : Stay (Live Z (ρ ++ [p]) (S ++ [c])) H H := .refl _ _
  have u : Sub (Live Z ρ S) (Live Z (ρ ++ [p]) (S ++ [c])) H := fun q z => .inl (live_app z)
  have n : ¬ Live Z ρ S p := fun z => z.elim (fun z => (h.hid p z).2 (by simp)) fun ⟨l, _, a, _⟩ => np (List.mem_of_getElem? a)
  cases c with
  | lst xs =>
    cases e
    obtain ⟨vs, hp, r⟩ := z
    have r' := r.mono s u
    exact .lst (.inl ⟨.inl hp, n⟩) r'.1 r'.2
  | ins k fs =>
    cases e
    obtain ⟨dx, fvs, hp, r⟩ := z
    have r' := r.mono s u
    exact .obj hp n r'.1 r'.2
  | dead => cases e
theorem PE3.stl (h : PE3 T K (G.stl r) Z ρ S H Q W) : PE3 T K r Z ρ S H Q W := by
  cases r with
  | ok v S' =>
    cases v with
    | f c =>
      have h' : PE3 T K (match c.fz with | some x => .ok (.d x) S' | none => .bad) Z ρ S H Q W := h
      cases e : c.fz with
      | none => rw [e] at h'; exact h'.elim
      | some x =>
        rw [e] at h'
        intro p H' n st su hi so
        exact h' (.ref p) H' ⟨st, su, so.init, ⟨[], by simp⟩, hi⟩ (fresh_rel so e)
    | d _ => exact h
    | r _ => exact h
  | ex _ _ _ => exact h
  | bad => exact h
theorem stl_nf {r : R Va} {c : Ce} {S' : Sto} : G.stl r ≠ .ok (.f c) S' := by
  cases r with
  | ok v S1 =>
    cases v with
    | f c' =>
      show (match c'.fz with | some x => R.ok (Va.d x) S1 | none => R.bad) ≠ _
      cases c'.fz <;> exact fun z => nomatch z
    | d _ => exact fun z => nomatch z
    | r _ => exact fun z => nomatch z
  | ex _ _ _ => exact fun z => nomatch z
  | bad => exact fun z => nomatch z
/-- through a bind: settled values -/
theorem PE3.bind {k : Va → Sto → R Va} (h : PE3 T K ((G.stl r).bind k) Z ρ S H Q W) :
    PE3 T K (G.stl r) Z ρ S H (fun x H' => ∃ v S', G.stl r = .ok v S' ∧ Ext T.toTx K Z ρ S H ρ S' H' ∧ RelW T.toTx K Z ρ S' H' v x ∧ PE3 T K (k v S') Z ρ S' H' Q W) W := by
  cases e : G.stl r with
  | bad => rw [e] at h; exact h
  | ex c fs S' => rw [e] at h; exact h
  | ok v S' =>
    rw [e] at h
    cases v with
    | f c => exact (stl_nf e).elim
    | d x => exact fun y H' x r => ⟨_, _, rfl, x, r, PE3.base x h⟩
    | r x => exact fun y H' x r => ⟨_, _, rfl, x, r, PE3.base x h⟩
/-- the same, whatever follows -/
theorem PE3.bindG {α : Type} {P : α → Sto → Hp → Prop} {k : Va → Sto → R α} (h : PG3 T K P ((G.stl r).bind k) Z ρ S H W) :
    PE3 T K (G.stl r) Z ρ S H (fun x H' => ∃ v S', G.stl r = .ok v S' ∧ Ext T.toTx K Z ρ S H ρ S' H' ∧ RelW T.toTx K Z ρ S' H' v x ∧ PG3 T K P (k v S') Z ρ S' H' W) W := by
  cases e : G.stl r with
  | bad => rw [e] at h; exact h
  | ex c fs S' => rw [e] at h; exact h
  | ok v S' =>
    rw [e] at h
    cases v with
    | f c => exact (stl_nf e).elim
    | d x => exact fun y H' x r => ⟨_, _, rfl, x, r, PG3.base x h⟩
    | r x => exact fun y H' x r => ⟨_, _, rfl, x, r, PG3.base x h⟩
theorem PG3.bind {α : Type} {β : Type} {P : α → Sto → Hp → Prop} {q : R β} {k : β → Sto → R α} (h : PG3 T K P (q.bind k) Z ρ S H W) :
    PG3 T K (fun v S' H' => Ext T.toTx K Z ρ S H ρ S' H' ∧ PG3 T K P (k v S') Z ρ S' H' W) q Z ρ S H W := by
  cases q with
  | bad => exact h
  | ex c fs S' => exact h
  | ok v S' => exact fun H' x => ⟨x, PG3.base x h⟩
theorem PG3.bindE {β : Type} {q : R β} {k : β → Sto → R Va} (h : PE3 T K (q.bind k) Z ρ S H Q W) :
    PG3 T K (fun v S' H' => Ext T.toTx K Z ρ S H ρ S' H' ∧ PE3 T K (k v S') Z ρ S' H' Q W) q Z ρ S H W := by
  cases q with
  | bad => exact h
  | ex c fs S' => exact h
  | ok v S' => exact fun H' x => ⟨x, PE3.base x h⟩
end
/-! ### what stands where -/
section
variable {t : Tx} {K : PySem.W.Frag} {Z : Addr → Prop} {ρ : List Addr} {S : Sto} {H H' : Hp} {v : Va} {x : V} {xs : List D} {b : Bool} {l : Nat} {p : Addr} {c c' : Ce} {o : HO} {vs : List V}
theorem seq_of (so : StoOk t K Z ρ H S) (r : RelW t K Z ρ S H v x) (e : seqV v S = some (b, xs)) : ∃ p vs, x = .ref p ∧ RelL t K (Live Z ρ S) H xs vs ∧ ((b = true ∧ SqT K H p vs) ∨ (b = false ∧ SqL K H p vs)) := by
  cases v with
  | f c => exact r.elim
  | r l =>
    obtain ⟨p, a, rfl⟩ := r
    have e' : (match S[l]? with | some (.lst xs) => some (false, xs) | _ => none) = some (b, xs) := e
    cases hs : S[l]? with
    | none => rw [hs] at e'; cases e'
    | some c =>
      rw [hs] at e'
      cases c with
      | lst ys =>
        cases e'
        obtain ⟨vs, h, q⟩ := so.ok l _ p hs a
        exact ⟨p, vs, rfl, q, .inr ⟨rfl, .of h⟩⟩
      | ins _ _ => cases e'
      | dead => cases e'
  | d y =>
    cases y with
    | tup ys =>
      cases e
      cases r with
      | tup h l r => exact ⟨_, _, rfl, ⟨l, r⟩, .inl ⟨rfl, h.sq⟩⟩
    | lst ys =>
      cases e
      cases r with
      | lst h l r => exact ⟨_, _, rfl, ⟨l, r⟩, .inr ⟨rfl, h.sq⟩⟩
    | _ => cases e
theorem cls_of (so : StoOk t K Z ρ H S) (r : RelW t K Z ρ S H v x) {k : Nat} {fs : List (Nat × D)} (e : clsV v S = some (k, fs)) : ∃ p dx fvs, x = .ref p ∧ H p = some (.ins (t.ca k) dx fvs) ∧ RelF t K (Live Z ρ S) H fs fvs := by
  cases v with
  | f c => exact r.elim
  | r l =>
    obtain ⟨p, a, rfl⟩ := r
    have e' : (match S[l]? with | some (.ins c fs) => some (c, fs) | _ => none) = some (k, fs) := e
    cases hs : S[l]? with
    | none => rw [hs] at e'; cases e'
    | some c =>
      rw [hs] at e'
      cases c with
      | ins c fs =>
        cases e'
        obtain ⟨dx, fvs, h, q⟩ := so.ok l _ p hs a
        exact ⟨p, dx, fvs, rfl, h, q⟩
      | lst _ => cases e'
      | dead => cases e'
  | d y =>
    cases y with
    | obj c fs =>
      cases e
      cases r with
      | obj h n k r => exact ⟨_, _, _, rfl, h, k, r⟩
    | _ => cases e
/-- a cell written -/
theorem Ext.write (so : StoOk t K Z ρ H S) (a : ρ[l]? = some p) (hc : S[l]? = some c) (lv : Ce.live c = true) (new : CellOk t K (Live Z ρ S) (upd H p o) c' p) : Ext t K Z ρ S H ρ (S.set l c') (upd H p o) := by
  have hp : Live Z ρ S p := .inr ⟨l, c, a, hc, lv⟩
  have st : Stay (Live Z ρ S) H (upd H p o) := fun q u e n => (upd_ne (fun z => n (by rw [z]; exact hp))).trans e
  have hz : ∀ q, Z q → upd H p o q = H q := fun q z => upd_ne fun e => (so.hid q z).2 (by rw [e]; exact List.mem_of_getElem? a)
  have sb : Sub (Live Z ρ (S.set l c')) (Live Z ρ S) H := fun q w => by
    rcases w with w | ⟨j, d, x, y, z⟩
    · exact .inl (.inl w)
    by_cases h : l = j
    · subst h
      rw [a] at x; cases x
      exact .inl hp
    · rw [List.getElem?_set_ne h] at y
      exact .inl (.inr ⟨j, d, x, y, z⟩)
  have sb' : Sub (Live Z ρ (S.set l c')) (Live Z ρ S) (upd H p o) := fun q z => .inl ((sb q z).elim id fun n => by
    rcases z with z | ⟨j, _, x, _⟩
    · obtain ⟨u, e⟩ := (so.hid q z).1
      rw [n] at e; cases e
    · obtain ⟨u, e⟩ := so.any_ x
      rw [n] at e; cases e)
  refine ⟨st, sb, ⟨by rw [List.length_set]; exact so.len, so.nd, fun j d q x y => ?_, fun q z => ⟨by rw [hz q z]; exact (so.hid q z).1, (so.hid q z).2⟩⟩, ⟨[], by simp⟩, hz⟩
  by_cases h : l = j
  · subst h
    rw [a] at y; cases y
    rw [List.getElem?_set] at x
    simp only [if_pos] at x
    split at x
    · cases x
      cases c' with
      | lst xs => obtain ⟨vs, e, r⟩ := new; exact ⟨vs, e, r.mono (.refl _ _) sb'⟩
      | ins c fs => obtain ⟨dx, fvs, e, r⟩ := new; exact ⟨dx, fvs, e, r.mono (.refl _ _) sb'⟩
      | dead => exact new
    · cases x
  · rw [List.getElem?_set_ne h] at x
    have hq : q ≠ p := fun z => h (so.inj a (z ▸ y))
    have z := so.ok j d q x y
    cases d with
    | lst xs => obtain ⟨vs, e, r⟩ := z; exact ⟨vs, by rw [upd_ne hq]; exact e, r.mono st sb⟩
    | ins c fs => obtain ⟨dx, fvs, e, r⟩ := z; exact ⟨dx, fvs, by rw [upd_ne hq]; exact e, r.mono st sb⟩
    | dead => obtain ⟨u, e⟩ := z; exact ⟨u, by rw [upd_ne hq]; exact e⟩
theorem Ext.writeL (so : StoOk t K Z ρ H S) (a : ρ[l]? = some p) (hc : S[l]? = some c) (lv : Ce.live c = true) (r : RelL t K (Live Z ρ S) H xs vs) : Ext t K Z ρ S H ρ (S.set l (.lst xs)) (upd H p (.lst vs)) := by
  have hp : Live Z ρ S p := .inr ⟨l, c, a, hc, lv⟩
  exact .write so a hc lv ⟨vs, upd_same, r.mono (fun q u e n => (upd_ne (fun z => n (by rw [z]; exact hp))).trans e) (.refl _ _)⟩
/-- a new object that is no cell -/
theorem Ext.new (so : StoOk t K Z ρ H S) (n : H p = none) : Ext t K Z ρ S H ρ S (upd H p o) := by
  have st : Stay (Live Z ρ S) H (upd H p o) := fun q u e _ => by rw [upd_ne (ne_of_none e n)]; exact e
  have hz : ∀ q, Z q → upd H p o q = H q := fun q z => upd_ne fun e => by
    obtain ⟨u, w⟩ := (so.hid q z).1
    rw [e, n] at w; cases w
  refine ⟨st, .refl _ _, ⟨so.len, so.nd, fun j d q x y => ?_, fun q z => ⟨by rw [hz q z]; exact (so.hid q z).1, (so.hid q z).2⟩⟩, ⟨[], by simp⟩, hz⟩
  have z := so.ok j d q x y
  have up : ∀ {q : Addr} {u : HO}, H q = some u → upd H p o q = some u := fun {q u} e => by rw [upd_ne (ne_of_none e n)]; exact e
  cases d with
  | lst xs => obtain ⟨vs, e, r⟩ := z; exact ⟨vs, up e, r.mono st (.refl _ _)⟩
  | ins c fs => obtain ⟨dx, fvs, e, r⟩ := z; exact ⟨dx, fvs, up e, r.mono st (.refl _ _)⟩
  | dead => obtain ⟨u, e⟩ := z; exact ⟨u, up e⟩
theorem not_live (so : StoOk t K Z ρ H S) (n : H p = none) : ¬ Live Z ρ S p := fun z => by
  obtain ⟨o, e⟩ := so.live z
  rw [n] at e; cases e
theorem not_mem (so : StoOk t K Z ρ H S) (n : H p = none) : p ∉ ρ := fun z => by
  obtain ⟨l, hl⟩ := List.getElem?_of_mem z
  obtain ⟨o, e⟩ := so.any_ hl
  rw [n] at e; cases e
theorem sub_snoc (so : StoOk t K Z ρ H S) (n : H p = none) : Sub (Live Z (ρ ++ [p]) (S ++ [c])) (Live Z ρ S) H := fun q w => by
  rcases w with w | ⟨j, d, x, y, z⟩
  · exact .inl (.inl w)
  have hl : ρ.length = S.length := so.len
  by_cases h : j < ρ.length
  · rw [List.getElem?_append_left h] at x
    rw [List.getElem?_append_left (by omega)] at y
    exact .inl (.inr ⟨j, d, x, y, z⟩)
  · rw [List.getElem?_append_right (by omega)] at x
    have : q ∈ [p] := List.mem_of_getElem? x
    simp at this
    subst this
    exact .inr n
/-- a new cell -/
theorem StoOk.snoc (so : StoOk t K Z ρ H S) (n : H p = none) (new : CellOk t K (Live Z (ρ ++ [p]) (S ++ [c])) (upd H p o) c p) : StoOk t K Z (ρ ++ [p]) (upd H p o) (S ++ [c]) := by
  have hl : ρ.length = S.length := so.len
  have sb : Sub (Live Z (ρ ++ [p]) (S ++ [c])) (Live Z ρ S) H := sub_snoc so n
  have st : Stay (Live Z ρ S) H (upd H p o) := fun q u e _ => (upd_ne (ne_of_none e n)).trans e
  have up : ∀ {q : Addr} {u : HO}, H q = some u → upd H p o q = some u := fun {q u} e => (upd_ne (ne_of_none e n)).trans e
  have hz : ∀ q, Z q → q ≠ p := fun q z e => by
    obtain ⟨u, w⟩ := (so.hid q z).1
    rw [e, n] at w; cases w
  refine ⟨by simp [hl], ?_, fun j d q x y => ?_, fun q z => ⟨by rw [upd_ne (hz q z)]; exact (so.hid q z).1, by simp [(so.hid q z).2, hz q z]⟩⟩
  · refine List.nodup_append.mpr ⟨so.nd, by simp, fun a ha b hb => ?_⟩
    have e : b = p := by simpa using hb
    subst e
    intro z
    subst z
    exact not_mem so n ha
  · by_cases h : j < S.length
    · rw [List.getElem?_append_left h] at x
      rw [List.getElem?_append_left (by omega)] at y
      have z := so.ok j d q x y
      cases d with
      | lst xs => obtain ⟨vs, e, r⟩ := z; exact ⟨vs, up e, r.mono st sb⟩
      | ins c fs => obtain ⟨dx, fvs, e, r⟩ := z; exact ⟨dx, fvs, up e, r.mono st sb⟩
      | dead => obtain ⟨u, e⟩ := z; exact ⟨u, up e⟩
    · rw [List.getElem?_append_right (by omega)] at x y
      have h1 : d ∈ [c] := List.mem_of_getElem? x
      have h2 : q ∈ [p] := List.mem_of_getElem? y
      simp at h1 h2
      subst h1; subst h2
      exact new
theorem StoOk.snocL (so : StoOk t K Z ρ H S) (n : H p = none) (r : RelL t K (Live Z ρ S) H xs vs) : StoOk t K Z (ρ ++ [p]) (upd H p (.lst vs)) (S ++ [.lst xs]) :=
  so.snoc n ⟨vs, upd_same, r.mono (fun q u e _ => (upd_ne (ne_of_none e n)).trans e) (sub_snoc so n)⟩
end
section
variable {T : Text} {K : PySem.W.Frag} {Z : Addr → Prop} {ρ : List Addr} {S S' : Sto} {H : Hp} {Q : VK} {W : XK} {xs : List D} {vs : List V} {p : Addr}
theorem fresh_list (so : StoOk T.toTx K Z ρ H S) (r : RelL T.toTx K (Live Z ρ S) H xs vs) (n : H p = none) (h : PV T K Z ρ S H Q S (.f (.lst xs))) : Q (.ref p) (upd H p (.lst vs)) :=
  h p _ n (fun q u e _ => (upd_ne (ne_of_none e n)).trans e) (fun _ z => .inl z) (fun q z => upd_ne fun e => by
    obtain ⟨u, w⟩ := (so.hid q z).1
    rw [e, n] at w; cases w) (so.snocL n r)
theorem fresh_tup (so : StoOk T.toTx K Z ρ H S) (r : RelL T.toTx K (Live Z ρ S) H xs vs) (n : H p = none) (h : PV T K Z ρ S H Q S (.d (.tup xs))) : Q (.ref p) (upd H p (.tup vs)) := by
  have x : Ext T.toTx K Z ρ S H ρ S (upd H p (.tup vs)) := Ext.new so n
  have r' := r.mono x.stay x.sub
  exact h (.ref p) _ x (.tup (.inl ⟨.inl upd_same, not_live so n⟩) r'.1 r'.2)
theorem scal_of {x : D} {v : V} (so : StoOk T.toTx K Z ρ H S) (r : Rel T.toTx K (Live Z ρ S) H x v) (h : PV T K Z ρ S H Q S (.d x)) : Q v H := h v H (.refl so) r
end
end GS
/-! G: data as the library's data; operators on ints. -/
namespace GS
open PySem PySem.Spec PyProof.Rows L2 G
mutual
def toP : D → PyData
  | .non => .none
  | .bl b => .bool b
  | .int i => .int i
  | .str s => .str s
  | .tup xs => .tuple (toPs xs)
  | .lst xs => .list (toPs xs)
  | _ => .none
def toPs : List D → List PyData
  | [] => []
  | x :: xs => toP x :: toPs xs
end
section
variable {t : Tx} {K : PySem.W.Frag} {M : Addr → Prop} {H : Hp}
theorem vs_tail {d : D} {ds : List D} {vs : List V} (l : (d :: ds).length = vs.length) (r : ∀ (i : Nat) x v, (d :: ds)[i]? = some x → vs[i]? = some v → Rel t K M H x v) :
    ∃ v ws, vs = v :: ws ∧ Rel t K M H d v ∧ ds.length = ws.length ∧ ∀ (i : Nat) x v, ds[i]? = some x → ws[i]? = some v → Rel t K M H x v := by
  cases vs with
  | nil => simp at l
  | cons v ws => exact ⟨v, ws, rfl, r 0 d v rfl rfl, by simpa using l, fun i x w a b => r (i + 1) x w (by simpa using a) (by simpa using b)⟩
mutual
theorem dp_of : ∀ (d : D) (v : V), G.plain d = true → Rel t K M H d v → Dp K H v (toP d)
  | .non, _, _, h => by cases h; exact .non
  | .bl b, _, _, h => by cases h; exact .bl b
  | .int i, _, _, h => by cases h; exact .int i
  | .str s, _, _, h => by cases h; exact .str s
  | .tup xs, _, p, h => by
    cases h with
    | tup hs l r => exact .tup hs.sq (dps_of xs _ (by simpa [G.plain] using p) l r)
  | .lst xs, _, p, h => by
    cases h with
    | lst hs l r => exact .lst hs.sq (dps_of xs _ (by simpa [G.plain] using p) l r)
  | .obj _ _, _, p, _ => by simp [G.plain] at p
  | .cls _, _, p, _ => by simp [G.plain] at p
theorem dps_of : ∀ (xs : List D) (vs : List V), G.plains xs = true → xs.length = vs.length → (∀ (i : Nat) x v, xs[i]? = some x → vs[i]? = some v → Rel t K M H x v) → DpAll K H vs (toPs xs)
  | [], vs, _, l, _ => by
    cases vs with
    | nil => exact .nil
    | cons _ _ => simp at l
  | d :: ds, vs, p, l, r => by
    obtain ⟨v, ws, rfl, h, l', r'⟩ := vs_tail l r
    have p' : G.plain d = true ∧ G.plains ds = true := by simpa [G.plains] using p
    exact .cons (dp_of d v p'.1 h) (dps_of ds ws p'.2 l' r')
end
mutual
theorem lay_of : ∀ (d : D), G.plain d = true → (toP d).canLay0 = true
  | .non, _ => rfl
  | .bl _, _ => rfl
  | .int _, _ => rfl
  | .str s, h => by
    simp only [G.plain] at h
    simp only [toP, PyData.canLay0, PyData.strOk]
    exact h
  | .tup xs, h => by
    simp only [toP, PyData.canLay0]
    exact lays_of xs (by simpa [G.plain] using h)
  | .lst xs, h => by
    simp only [toP, PyData.canLay0]
    exact lays_of xs (by simpa [G.plain] using h)
  | .obj _ _, p => by simp [G.plain] at p
  | .cls _, p => by simp [G.plain] at p
theorem lays_of : ∀ (xs : List D), G.plains xs = true → PyData.canLayAll0 (toPs xs) = true
  | [], _ => rfl
  | d :: ds, p => by
    have p' : G.plain d = true ∧ G.plains ds = true := by simpa [G.plains] using p
    simp only [toPs, PyData.canLayAll0, lay_of d p'.1, lays_of ds p'.2, Bool.and_self]
end
mutual
theorem dep_of : ∀ (d : D), (toP d).depth ≤ dep d
  | .non => by simp [toP, PyData.depth]
  | .bl _ => by simp [toP, PyData.depth]
  | .int _ => by simp [toP, PyData.depth]
  | .str s => by simp [toP, PyData.depth]
  | .tup xs => by
    simp only [toP, PyData.depth, dep]
    exact Nat.add_le_add_right (deps_of xs) 1
  | .lst xs => by
    simp only [toP, PyData.depth, dep]
    exact Nat.add_le_add_right (deps_of xs) 1
  | .obj _ _ => by simp [toP, PyData.depth]
  | .cls _ => by simp [toP, PyData.depth]
theorem deps_of : ∀ (xs : List D), PyData.depthAll (toPs xs) ≤ deps xs
  | [] => by simp [toPs, PyData.depthAll]
  | d :: ds => by
    simp only [toPs, PyData.depthAll, deps]
    have := dep_of d
    have := deps_of ds
    omega
end
theorem shp_of {d : D} (h : shp d = true) : SeqAt.shaped (toP d) = true := by
  have h' := Bool.and_eq_true_iff.mp h
  have h2 : dep d ≤ 40 := of_decide_eq_true h'.2
  exact Bool.and_eq_true_iff.mpr ⟨lay_of d h'.1, decide_eq_true (Nat.le_trans (dep_of d) (by omega))⟩
mutual
theorem eqv_of : ∀ (x y : D), G.plain x = true → G.plain y = true → PyData.eqv (toP x) (toP y) = eqD x y
  | .obj _ _, _, p, _ => by simp [G.plain] at p
  | .cls _, _, p, _ => by simp [G.plain] at p
  | .non, y, _, q => by cases y <;> simp_all [G.plain, toP, eqD, PyData.eqv]
  | .bl _, y, _, q => by cases y <;> simp_all [G.plain, toP, eqD, PyData.eqv]
  | .int _, y, _, q => by cases y <;> simp_all [G.plain, toP, eqD, PyData.eqv]
  | .str _, y, _, q => by cases y <;> simp_all [G.plain, toP, eqD, PyData.eqv]
  | .tup xs, y, p, q => by
    cases y with
    | tup ys =>
      simp only [toP, eqD, PyData.eqv]
      exact eqvs_of xs ys (by simpa [G.plain] using p) (by simpa [G.plain] using q)
    | _ => simp_all [G.plain, toP, eqD, PyData.eqv]
  | .lst xs, y, p, q => by
    cases y with
    | lst ys =>
      simp only [toP, eqD, PyData.eqv]
      exact eqvs_of xs ys (by simpa [G.plain] using p) (by simpa [G.plain] using q)
    | _ => simp_all [G.plain, toP, eqD, PyData.eqv]
theorem eqvs_of : ∀ (xs ys : List D), G.plains xs = true → G.plains ys = true → PyData.eqvAll (toPs xs) (toPs ys) = eqDs xs ys
  | [], [], _, _ => by simp [toPs, PyData.eqvAll, eqDs]
  | [], _ :: _, _, _ => by simp [toPs, PyData.eqvAll, eqDs]
  | _ :: _, [], _, _ => by simp [toPs, PyData.eqvAll, eqDs]
  | x :: xs, y :: ys, p, q => by
    have p' : G.plain x = true ∧ G.plains xs = true := by simpa [G.plains] using p
    have q' : G.plain y = true ∧ G.plains ys = true := by simpa [G.plains] using q
    simp only [toPs, PyData.eqvAll, eqDs, eqv_of x y p'.1 q'.1, eqvs_of xs ys p'.2 q'.2]
end
end
theorem ll : (LL : Nat) = sizeLine := by rw [sizeLine_eq]
def bOf : Bop → Operator
  | .add => .Add | .sub => .Sub | .mul => .Mult | .fdiv => .FloorDiv | .mod => .Mod | .pow => .Pow | .shl => .LShift | .shr => .RShift | .and => .BitAnd | .or => .BitOr | .xor => .BitXor
def cOf : Cop → CmpOp
  | .eq => .Eq | .ne => .NotEq | .lt => .Lt | .le => .LtE | .gt => .Gt | .ge => .GtE | .in_ => .In | .nin => .NotIn | .is_ => .Is | .isn => .IsNot
theorem small_of {i : Int} (h : small i = true) : -(2 ^ 64) < i ∧ i < 2 ^ 64 := by
  have h' : i.natAbs < 2 ^ 64 := of_decide_eq_true h
  have e : ((2 : Nat) ^ 64 : Nat) = 18446744073709551616 := by decide
  rw [e] at h'
  have e2 : ((2 : Int) ^ 64) = 18446744073709551616 := by decide
  rw [e2]
  omega
theorem mul_of {i j : Int} (h : (small i || small j) = true) : CMul i j := by
  rcases Bool.or_eq_true_iff.mp h with h | h
  · exact .inl (small_of h)
  · exact .inr (small_of h)
section
variable {X : Cx} {pins : List (Addr × Obj)} {s : Shared} {σ : L2.St} {H : Hp} {v u : Value} {Q : VK} {i j k : Int}
theorem iop_ok {o : Bop} (h : iop o i j = some k) (I : Inv X pins σ H s) (rv : RelV (.int i) v) (ru : RelV (.int j) u) (q : Q (.int k) H) : wpAny (model X.prog X.w) X.A (binaryOp (bOf o) v u) (EP X pins σ Q) X.xe s := by
  cases o with
  | add => cases h; exact op_add _ _ _ _ _ _ _ _ _ I rv ru ⟨_, _, rfl, rfl, q⟩
  | sub => cases h; exact op_sub _ _ _ _ _ _ _ _ _ I rv ru ⟨_, _, rfl, rfl, q⟩
  | mul =>
    simp only [iop] at h
    split at h
    · rename_i hm
      cases h; exact op_mul _ _ _ _ _ _ _ _ _ I rv ru ⟨_, _, rfl, rfl, mul_of hm, q⟩
    · cases h
  | fdiv =>
    simp only [iop] at h
    split at h
    · rename_i hm
      cases h; exact op_fdiv _ _ _ _ _ _ _ _ _ I rv ru ⟨_, _, rfl, rfl, hm, q⟩
    · cases h
  | mod =>
    simp only [iop] at h
    split at h
    · rename_i hm
      cases h; exact op_mod _ _ _ _ _ _ _ _ _ I rv ru ⟨_, _, rfl, rfl, hm, q⟩
    · cases h
  | pow =>
    simp only [iop] at h
    split at h
    · rename_i hm
      cases h; exact op_pow _ _ _ _ _ _ _ _ _ I rv ru ⟨_, _, rfl, rfl, ⟨hm.1, hm.2.1, of_decide_eq_true hm.2.2⟩, q⟩
    · cases h
  | shl =>
    simp only [iop] at h
    split at h
    · rename_i hm
      cases h; exact op_shl _ _ _ _ _ _ _ _ _ I rv ru ⟨_, _, rfl, rfl, ⟨hm.1, hm.2.1, of_decide_eq_true hm.2.2⟩, q⟩
    · cases h
  | shr =>
    simp only [iop] at h
    split at h
    · rename_i hm
      cases h; exact op_shr _ _ _ _ _ _ _ _ _ I rv ru ⟨_, _, rfl, rfl, hm, q⟩
    · cases h
  | and => cases h; exact op_and _ _ _ _ _ _ _ _ _ I rv ru ⟨_, _, rfl, rfl, q⟩
  | or => cases h; exact op_or _ _ _ _ _ _ _ _ _ I rv ru ⟨_, _, rfl, rfl, q⟩
  | xor => cases h; exact op_xor _ _ _ _ _ _ _ _ _ I rv ru ⟨_, _, rfl, rfl, q⟩
def bAug : Bop → Bool
  | .pow => false
  | _ => true
theorem iip_ok {o : Bop} (ho : bAug o = true) (h : iop o i j = some k) (I : Inv X pins σ H s) (rv : RelV (.int i) v) (ru : RelV (.int j) u) (q : Q (.int k) H) : wpAny (model X.prog X.w) X.A (inplaceOp (bOf o) v u) (EP X pins σ Q) X.xe s := by
  cases o with
  | add => cases h; exact iop_add _ _ _ _ _ _ _ _ _ I rv ru ⟨_, _, rfl, rfl, q⟩
  | sub => cases h; exact iop_sub _ _ _ _ _ _ _ _ _ I rv ru ⟨_, _, rfl, rfl, q⟩
  | mul =>
    simp only [iop] at h
    split at h
    · rename_i hm
      cases h; exact iop_mul _ _ _ _ _ _ _ _ _ I rv ru ⟨_, _, rfl, rfl, mul_of hm, q⟩
    · cases h
  | fdiv =>
    simp only [iop] at h
    split at h
    · rename_i hm
      cases h; exact iop_fdiv _ _ _ _ _ _ _ _ _ I rv ru ⟨_, _, rfl, rfl, hm, q⟩
    · cases h
  | mod =>
    simp only [iop] at h
    split at h
    · rename_i hm
      cases h; exact iop_mod _ _ _ _ _ _ _ _ _ I rv ru ⟨_, _, rfl, rfl, hm, q⟩
    · cases h
  | pow => cases ho
  | shl =>
    simp only [iop] at h
    split at h
    · rename_i hm
      cases h; exact iop_shl _ _ _ _ _ _ _ _ _ I rv ru ⟨_, _, rfl, rfl, ⟨hm.1, hm.2.1, of_decide_eq_true hm.2.2⟩, q⟩
    · cases h
  | shr =>
    simp only [iop] at h
    split at h
    · rename_i hm
      cases h; exact iop_shr _ _ _ _ _ _ _ _ _ I rv ru ⟨_, _, rfl, rfl, hm, q⟩
    · cases h
  | and => cases h; exact iop_and _ _ _ _ _ _ _ _ _ I rv ru ⟨_, _, rfl, rfl, q⟩
  | or => cases h; exact iop_or _ _ _ _ _ _ _ _ _ I rv ru ⟨_, _, rfl, rfl, q⟩
  | xor => cases h; exact iop_xor _ _ _ _ _ _ _ _ _ I rv ru ⟨_, _, rfl, rfl, q⟩
theorem cmpI_ok {o : Cop} {k : Bool} (h : cmpI o i j = some k) (I : Inv X pins σ H s) (rv : RelV (.int i) v) (ru : RelV (.int j) u) (q : Q (.bl k) H) : wpAny (model X.prog X.w) X.A (compareOp (cOf o) v u) (EP X pins σ Q) X.xe s := by
  cases o <;> cases h
  · exact op_lt _ _ _ _ _ _ _ _ _ I rv ru ⟨_, _, rfl, rfl, q⟩
  · exact op_le _ _ _ _ _ _ _ _ _ I rv ru ⟨_, _, rfl, rfl, q⟩
  · exact op_gt _ _ _ _ _ _ _ _ _ I rv ru ⟨_, _, rfl, rfl, q⟩
  · exact op_ge _ _ _ _ _ _ _ _ _ I rv ru ⟨_, _, rfl, rfl, q⟩
end
end GS
/-! G: contexts, contracts, readings. -/
namespace GS
open PySem PySem.Spec PyProof.Rows L2 G
theorem peImp {X : Cx} {e : Expr} {t t' : TE} (h : PE X e t) (i : ∀ σ H Q, t' σ H Q → t σ H Q) : PE X e t' := ⟨fun pins s σ H Q I q => h.run pins s σ H Q I (i σ H Q q)⟩
theorem ptImp {X : Cx} {e : Expr} {t t' : TT} (h : PT X e t) (i : ∀ σ H Q, t' σ H Q → t σ H Q) : PT X e t' := ⟨fun pins s σ H Q I q => h.run pins s σ H Q I (i σ H Q q)⟩
theorem paImp {X : Cx} {e : List Expr} {t t' : TA} (h : PA X e t) (i : ∀ σ H Q, t' σ H Q → t σ H Q) : PA X e t' := ⟨fun pos pins s σ H Q I q => h.run pos pins s σ H Q I (i σ H Q q)⟩
theorem piImp {X : Cx} {g e : Expr} {t t' : TI} (h : PI X g e t) (i : ∀ σ H Q, t' σ H Q → t σ H Q) : PI X g e t' := ⟨fun pins s σ H Q I q => h.run pins s σ H Q I (i σ H Q q)⟩
theorem psImp {X : Cx} {e : Stmt} {t t' : TS} (h : PS X e t) (i : ∀ D σ H, t' D σ H → t D σ H) : PS X e t' := ⟨fun pins s σ H D I q => h.run pins s σ H D I (i D σ H q)⟩
theorem pssImp {X : Cx} {e : List Stmt} {t t' : TS} (h : PSs X e t) (i : ∀ D σ H, t' D σ H → t D σ H) : PSs X e t' := ⟨fun pins s σ H D I q => h.run pins s σ H D I (i D σ H q)⟩
/-- a def's contract: what its run gives -/
def spC (T : Text) (K : PySem.W.Frag) (call : Nat → List Va → Sto → R Va) (f : Nat) : Sp := fun vs H Q E =>
  ∃ Z ρ S ds, StoOk T.toTx K Z ρ H S ∧ RelWs T.toTx K Z ρ S H ds vs ∧ PE3 T K (call f ds S) Z ρ S H Q E
def FnG (T : Text) (call : Nat → List Va → Sto → R Va) (prog : Program) (w : World) (K : PySem.W.Frag) (mg : Str → Option Value) (base : Heap) (k f : Nat) : Prop :=
  FnR prog w K mg base (L2.CX prog w) k (T.fa f) (spC T K call f)
/-- operators of one's own -/
def OwnF (K : PySem.W.Frag) (C f : Addr) : Nat → Prop
  | 0 => PySem.W.findIn K (.ref C) "__len__" = some (some (.ref f)) ∧ PySem.W.isFn K (.ref f) = true
  | 3 => PySem.W.findIn K (.ref C) "__eq__" = some (some (.ref f)) ∧ PySem.W.isFn K (.ref f) = true ∧ PySem.W.findIn K (.ref C) "__ne__" = some (some (.builtin "object.__ne__"))
  | 5 => PySem.W.selfFirst K C = true ∧ PySem.W.findIn K (.ref C) "__add__" = some (some (.ref f)) ∧ PySem.W.isFn K (.ref f) = true
  | 6 => PySem.W.selfFirst K C = true ∧ PySem.W.findIn K (.ref C) "__mul__" = some (some (.ref f)) ∧ PySem.W.isFn K (.ref f) = true
  | _ => False
/-- what the head tells -/
structure Fx (T : Text) (K : PySem.W.Frag) (mg : Str → Option Value) : Prop where
  blt : ∀ x ∈ bnames, mg x = none
  gl : ∀ g, T.nm.okg g = true → ∃ d v u, T.P.con g = some d ∧ mg (T.nm.gnm g) = some u ∧ RelV v u ∧ ∀ M H, Rel T.toTx K M H d v
  fn : ∀ f, T.nm.okf f = true → mg (T.nm.fnm f) = some (.ref (T.fa f)) ∧ PySem.W.keepIn K (.ref (T.fa f)) = true
  cl : ∀ c, T.nm.okc c = true → mg (T.nm.cnm c) = some (.ref (T.ca c)) ∧ Cls K (T.ca c)
  mke : ∀ c f, T.P.ini c = some f → T.nm.okc c = true ∧ Mk K (T.ca c) (T.fa f)
  na : ∀ c f, T.nm.okc c = true → T.nm.okl f = true → NoAttr K (T.ca c) (T.nm.fld f)
  me : ∀ c f, T.nm.okm c f = true → T.nm.okc c = true ∧ Meth K (T.ca c) (T.nm.mnm f) (T.fa f)
  nf : ∀ c f, T.nm.okm c f = true → ∀ g, T.nm.fld g ≠ T.nm.mnm f
  cm : ∀ c f, T.nm.okk c f = true → T.nm.okc c = true ∧ ∃ mc p, ClX.CRead K (T.ca c) mc ∧ ClX.CMet K (T.ca c) mc (T.nm.mnm f) p (T.fa f)
  op : ∀ c o f, T.P.opm c o = some f → OwnF K (T.ca c) (T.fa f) o
  opc : ∀ c o f, T.P.opm c o = some f → T.nm.okc c = true
  inj : ∀ f g, T.nm.fld f = T.nm.fld g → f = g
  ty : ∀ c k, T.nm.okc c = true → T.nm.okc k = true → PySem.W.kitOne K (.ref (T.ca c)) (.ref (T.ca k)) = some (T.P.sup c k)
  tyb : ∀ c, T.nm.okc c = true → ∀ n ∈ (["int", "bool", "str", "tuple", "list"] : List String), PySem.W.kitOne K (.ref (T.ca c)) (.type n) = some false
  tyo : ∀ c, T.nm.okc c = true → ∀ n ∈ (["int", "bool", "str", "tuple", "list", "NoneType"] : List String), PySem.W.kitOne K (.type n) (.ref (T.ca c)) = some false
  cli : ∀ c, T.nm.okc c = true → PySem.W.findIn K (.ref (T.ca c)) "__class__" = some (some (.builtin "object.__class__")) ∧ PySem.W.specialIn K (.builtin "object.__class__") "__get__" = some (some (.builtin "getset_descriptor.__get__")) ∧
    PySem.W.takesIn K (.builtin "object.__class__") = some true ∧ PySem.W.mroIn K (T.ca c) (.type "object") = some true
  /-- errors of one's own -/
  xm : ∀ c, T.nm.okx c = true → mg (T.nm.cnm c) = some (.ref (T.ca c))
  xc : ∀ c ns, T.P.xfl c = some ns → T.nm.okx c = true ∧ ns.Nodup ∧ ns ≠ [] ∧ GX.ErrC K (T.ca c) (ns.map T.nm.fld)
  xs : ∀ c ns k, T.P.xfl c = some ns → T.nm.okx k = true → PySem.W.exmOne K (.ref (T.ca c)) (.ref (T.ca k)) = some (T.P.sup c k) ∧ PySem.W.kitOne K (.ref (T.ca c)) (.ref (T.ca k)) = some (T.P.sup c k)
/-- the context of a body -/
structure Cc (T : Text) (X : Cx) (W : WX) (cf : Cfg) (k : Nat) : Prop where
  P : cf.P = T.P
  nd : X.N.Nodup
  calm : X.calm = true
  tk : Takes X W
  xc : cf.xc = none
  room : Room (k + 1) X.A
  fx : Fx T X.K X.mg
  fn : ∀ f, (∃ S vs, cf.call f vs S ≠ .bad) → FnG T cf.call X.prog X.w X.K X.mg X.base k f
section
variable (T : Text) (X : Cx) (W : WX) (cf : Cfg)
/-- readings -/
def tE (e : E) : TE := fun σ H Q => ∃ Z env ρ S, StoOk T.toTx X.K Z ρ H S ∧ EnvOk T.toTx X.K Z ρ S H env σ ∧ PE3 T X.K (evE e cf env S) Z ρ S H Q (WE W σ)
def tT (e : E) : TT := fun σ H Q => ∃ Z env ρ S, StoOk T.toTx X.K Z ρ H S ∧ EnvOk T.toTx X.K Z ρ S H env σ ∧ PG3 T X.K (fun b _ H' => Q b H') (evT e cf env S) Z ρ S H (WE W σ)
def tL (es : List E) : TA := fun σ H Q => ∃ Z env ρ S, StoOk T.toTx X.K Z ρ H S ∧ EnvOk T.toTx X.K Z ρ S H env σ ∧ PG3 T X.K (fun vs S' H' => ∀ xs, RelWs T.toTx X.K Z ρ S' H' vs xs → vs.length = es.length → Q xs H') (evL es cf env S) Z ρ S H (WE W σ)
/-- an iterator for a source -/
def Walks (Z : Addr → Prop) (ρ : List Addr) (S : Sto) (H : Hp) (xs : List D) (J : It) : Prop := ∀ (M : Addr → Prop) H1, Stay (Live Z ρ S) H H1 → Sub M (Live Z ρ S) H → (∀ q, M q → ∃ o, H1 q = some o) → ∀ i, (xs[i]? = none → J.stop i H1) ∧
  ∀ x, xs[i]? = some x → J.go i H1 ∧ ∀ y H2, J.yld i H1 y H2 → (H2 = H1 ∨ ∃ p o, H1 p = none ∧ H2 = upd H1 p o) ∧ Rel T.toTx X.K M H2 x y
def SrcOk (Z : Addr → Prop) (ρ : List Addr) (S : Sto) (H : Hp) (J : It) : Src → Prop
  | .fix xs => Walks T X Z ρ S H xs J
  | .cel l _ => ∃ p, ρ[l]? = some p ∧ J = Itl X.K p
def tI (e : E) : TI := fun σ H Q => ∃ Z env ρ S, StoOk T.toTx X.K Z ρ H S ∧ EnvOk T.toTx X.K Z ρ S H env σ ∧ PG3 T X.K (fun s S' H' => ∀ J, SrcOk T X Z ρ S' H' J s → Q J H') (evI e cf env S) Z ρ S H (WE W σ)
end
section
variable {T : Text} {X : Cx} {W : WX} {cf : Cfg} {Z : Addr → Prop} {env : Frm} {ρ : List Addr} {S S' : Sto} {σ : L2.St} {H : Hp} {Q Q' : VK} {r : R Va} {Ex : XK}
theorem PV.mono {v : Va} (h : PV T X.K Z ρ S H Q S' v) (q : ∀ v H, Q v H → Q' v H) : PV T X.K Z ρ S H Q' S' v := by
  cases v with
  | f c => exact fun p H' a b d e f => q _ _ (h p H' a b d e f)
  | d x => exact fun y H' a b => q _ _ (h y H' a b)
  | r x => exact fun y H' a b => q _ _ (h y H' a b)
theorem PE3.mono (h : PE3 T X.K r Z ρ S H Q Ex) (q : ∀ v H, Q v H → Q' v H) : PE3 T X.K r Z ρ S H Q' Ex := by
  cases r with
  | ok v S' => exact PV.mono h q
  | ex c fs S' => exact h
  | bad => exact h
theorem PG3.mono {α : Type} {P P' : α → Sto → Hp → Prop} {r : R α} (h : PG3 T X.K P r Z ρ S H Ex) (q : ∀ v S H, P v S H → P' v S H) : PG3 T X.K P' r Z ρ S H Ex := by
  cases r with
  | ok v S' => exact fun H' x => q _ _ _ (h H' x)
  | ex c fs S' => exact h
  | bad => exact h
/-- what is there behind a part -/
structure At (T : Text) (X : Cx) (Z : Addr → Prop) (env : Frm) (ρ : List Addr) (σ : L2.St) (S : Sto) (H : Hp) (S' : Sto) (H' : Hp) : Prop where
  ext : Ext T.toTx X.K Z ρ S H ρ S' H'
  env : EnvOk T.toTx X.K Z ρ S' H' env σ
theorem At.sto {H' : Hp} (a : At T X Z env ρ σ S H S' H') : StoOk T.toTx X.K Z ρ H' S' := a.ext.sto
theorem stepE {e : E} {k : Va → Sto → R Va} (so : StoOk T.toTx X.K Z ρ H S) (ev : EnvOk T.toTx X.K Z ρ S H env σ) (h : PE3 T X.K ((stl (evE e cf env S)).bind k) Z ρ S H Q (WE W σ))
    (q : ∀ v x S' H', At T X Z env ρ σ S H S' H' → RelW T.toTx X.K Z ρ S' H' v x → PE3 T X.K (k v S') Z ρ S' H' Q (WE W σ) → Q' x H') : tE T X W cf e σ H Q' :=
  ⟨Z, env, ρ, S, so, ev, (PE3.bind h).stl.mono fun x H' ⟨v, S', _, a, b, c⟩ => q v x S' H' ⟨a, ev.mono a⟩ b c⟩
theorem stepG {e : E} {α : Type} {P : α → Sto → Hp → Prop} {k : Va → Sto → R α} (so : StoOk T.toTx X.K Z ρ H S) (ev : EnvOk T.toTx X.K Z ρ S H env σ) (h : PG3 T X.K P ((stl (evE e cf env S)).bind k) Z ρ S H (WE W σ))
    (q : ∀ v x S' H', At T X Z env ρ σ S H S' H' → RelW T.toTx X.K Z ρ S' H' v x → PG3 T X.K P (k v S') Z ρ S' H' (WE W σ) → Q' x H') : tE T X W cf e σ H Q' :=
  ⟨Z, env, ρ, S, so, ev, (PE3.bindG h).stl.mono fun x H' ⟨v, S', _, a, b, c⟩ => q v x S' H' ⟨a, ev.mono a⟩ b c⟩
/-- the last part -/
theorem lastE {e : E} (so : StoOk T.toTx X.K Z ρ H S) (ev : EnvOk T.toTx X.K Z ρ S H env σ) (h : PE3 T X.K (stl (evE e cf env S)) Z ρ S H Q (WE W σ)) : tE T X W cf e σ H Q := ⟨Z, env, ρ, S, so, ev, h.stl⟩
theorem stepT {e : E} {k : Bool → Sto → R Va} {Q' : Bool → Hp → Prop} (so : StoOk T.toTx X.K Z ρ H S) (ev : EnvOk T.toTx X.K Z ρ S H env σ) (h : PE3 T X.K ((evT e cf env S).bind k) Z ρ S H Q (WE W σ))
    (q : ∀ v S' H', At T X Z env ρ σ S H S' H' → PE3 T X.K (k v S') Z ρ S' H' Q (WE W σ) → Q' v H') : tT T X W cf e σ H Q' :=
  ⟨Z, env, ρ, S, so, ev, (PG3.bindE h).mono fun v S' H' ⟨a, c⟩ => q v S' H' ⟨a, ev.mono a⟩ c⟩
theorem stepTG {e : E} {α : Type} {P : α → Sto → Hp → Prop} {k : Bool → Sto → R α} {Q' : Bool → Hp → Prop} (so : StoOk T.toTx X.K Z ρ H S) (ev : EnvOk T.toTx X.K Z ρ S H env σ) (h : PG3 T X.K P ((evT e cf env S).bind k) Z ρ S H (WE W σ))
    (q : ∀ v S' H', At T X Z env ρ σ S H S' H' → PG3 T X.K P (k v S') Z ρ S' H' (WE W σ) → Q' v H') : tT T X W cf e σ H Q' :=
  ⟨Z, env, ρ, S, so, ev, (PG3.bind h).mono fun v S' H' ⟨a, c⟩ => q v S' H' ⟨a, ev.mono a⟩ c⟩
theorem stepL {es : List E} {k : List Va → Sto → R Va} {Q' : List V → Hp → Prop} (so : StoOk T.toTx X.K Z ρ H S) (ev : EnvOk T.toTx X.K Z ρ S H env σ) (h : PE3 T X.K ((evL es cf env S).bind k) Z ρ S H Q (WE W σ))
    (q : ∀ vs xs S' H', At T X Z env ρ σ S H S' H' → RelWs T.toTx X.K Z ρ S' H' vs xs → PE3 T X.K (k vs S') Z ρ S' H' Q (WE W σ) → Q' xs H') : tL T X W cf es σ H Q' :=
  ⟨Z, env, ρ, S, so, ev, (PG3.bindE h).mono fun v S' H' ⟨a, c⟩ xs r _ => q v xs S' H' ⟨a, ev.mono a⟩ r c⟩
theorem stepLG {es : List E} {α : Type} {P : α → Sto → Hp → Prop} {k : List Va → Sto → R α} {Q' : List V → Hp → Prop} (so : StoOk T.toTx X.K Z ρ H S) (ev : EnvOk T.toTx X.K Z ρ S H env σ) (h : PG3 T X.K P ((evL es cf env S).bind k) Z ρ S H (WE W σ))
    (q : ∀ vs xs S' H', At T X Z env ρ σ S H S' H' → RelWs T.toTx X.K Z ρ S' H' vs xs → PG3 T X.K P (k vs S') Z ρ S' H' (WE W σ) → Q' xs H') : tL T X W cf es σ H Q' :=
  ⟨Z, env, ρ, S, so, ev, (PG3.bind h).mono fun v S' H' ⟨a, c⟩ xs r _ => q v xs S' H' ⟨a, ev.mono a⟩ r c⟩
theorem stepLGn {es : List E} {α : Type} {P : α → Sto → Hp → Prop} {k : List Va → Sto → R α} {Q' : List V → Hp → Prop} (so : StoOk T.toTx X.K Z ρ H S) (ev : EnvOk T.toTx X.K Z ρ S H env σ) (h : PG3 T X.K P ((evL es cf env S).bind k) Z ρ S H (WE W σ))
    (q : ∀ vs xs S' H', At T X Z env ρ σ S H S' H' → RelWs T.toTx X.K Z ρ S' H' vs xs → vs.length = es.length → PG3 T X.K P (k vs S') Z ρ S' H' (WE W σ) → Q' xs H') : tL T X W cf es σ H Q' :=
  ⟨Z, env, ρ, S, so, ev, (PG3.bind h).mono fun v S' H' ⟨a, c⟩ xs r hl => q v xs S' H' ⟨a, ev.mono a⟩ r hl c⟩
/-- data at hand -/
theorem okD {x : D} {v : V} (so : StoOk T.toTx X.K Z ρ H S) (r : Rel T.toTx X.K (Live Z ρ S) H x v) (h : PE3 T X.K (.ok (.d x) S) Z ρ S H Q Ex) : Q v H := h v H (.refl so) r
theorem okI {i : Int} (so : StoOk T.toTx X.K Z ρ H S) (h : PE3 T X.K (.ok (.d (.int i)) S) Z ρ S H Q Ex) : Q (.int i) H := okD so (.int i) h
theorem okB {i : Bool} (so : StoOk T.toTx X.K Z ρ H S) (h : PE3 T X.K (.ok (.d (.bl i)) S) Z ρ S H Q Ex) : Q (.bl i) H := okD so (.bl i) h
theorem okW {v : Va} {x : V} (so : StoOk T.toTx X.K Z ρ H S) (r : RelW T.toTx X.K Z ρ S H v x) (h : PE3 T X.K (.ok v S) Z ρ S H Q Ex) : Q x H := by
  cases v with
  | f c => exact r.elim
  | d y => exact h x H (.refl so) r
  | r l => exact h x H (.refl so) r
theorem ofO_ok {o : Option D} (h : PE3 T X.K (R.ofO o S) Z ρ S H Q Ex) : ∃ x, o = some x ∧ PE3 T X.K (.ok (.d x) S) Z ρ S H Q Ex := by
  cases o with
  | none => exact h.elim
  | some x => exact ⟨x, rfl, h⟩
theorem relI {i : Int} {x : V} (r : RelW T.toTx X.K Z ρ S H (.d (.int i)) x) : x = .int i := by cases (show Rel _ _ _ _ _ _ from r); rfl
theorem relB {i : Bool} {x : V} (r : RelW T.toTx X.K Z ρ S H (.d (.bl i)) x) : x = .bl i := by cases (show Rel _ _ _ _ _ _ from r); rfl
theorem relS {i : Str} {x : V} (r : RelW T.toTx X.K Z ρ S H (.d (.str i)) x) : x = .str i := by cases (show Rel _ _ _ _ _ _ from r); rfl
theorem relN {x : V} (r : RelW T.toTx X.K Z ρ S H (.d .non) x) : x = .non := by cases (show Rel _ _ _ _ _ _ from r); rfl
end
end GS
/-! G: operators on values. -/
namespace GS
open PySem PySem.Spec PyProof.Rows L2 G
section
variable {T : Text} {X : Cx} {W : WX} {cf : Cfg} {k : Nat} {Z : Addr → Prop} {ρ : List Addr} {S S' : Sto} {σ : L2.St} {H : Hp} {Q Q' : VK} {pins : List (Addr × Obj)} {s : Shared} {va vb : Va} {x y : V} {v u : Value}
/-- a def's code runs, where what it raises is wished for at these slots -/
theorem runA {A : Around} {f : Addr} {sp : Sp} {vs : List V} {us : List Value} (F : FnR X.prog X.w X.K X.mg X.base (L2.CX X.prog X.w) k f sp) (hr : Room k A) (e0 : Env0 X.prog X.w X.K X.mg X.base A X.stack s H) (tk : Takes X W) (I : Inv X pins σ H s) (r : Vals vs us)
    (h : sp vs H Q (WE W σ)) : codeAny (model X.prog X.w) A (.call (.ref f) ⟨us, []⟩)
      (fun r s' => match r with | .ok (.ret v) => EP X pins σ Q v s' | .ok _ => False | .error e => X.xe e s') s :=
  codeAny_mono (F A X.stack s H us vs Q (WE W σ) hr e0 r h) fun res s' hq => match res, hq with
    | .error e, hq => passAt tk σ pins H s e s' I hq
    | .ok (.ret u), hq => I.after hq
    | .ok .next, hq => False.elim hq
    | .ok .brk, hq => False.elim hq
    | .ok .cont, hq => False.elim hq
/-- an own def runs, called with values -/
theorem runF (c : Cc T X W cf k) {f : Nat} {ds : List Va} {vs : List V} {us : List Value} (so : StoOk T.toTx X.K Z ρ H S) (rs : RelWs T.toTx X.K Z ρ S H ds vs) (I : Inv X pins σ H s) (r : Vals vs us)
    (h : PE3 T X.K (cf.call f ds S) Z ρ S H Q (WE W σ)) : wpAny (model X.prog X.w) X.A (call (.ref (T.fa f)) us) (EP X pins σ Q) X.xe s := by
  have hne : cf.call f ds S ≠ .bad := fun e => by rw [e] at h; exact h
  have F := c.fn f ⟨S, ds, hne⟩
  exact wpAny_call (runA F (c.room.mono (Nat.le_succ k)) I.env0 c.tk I r ⟨Z, ρ, S, ds, so, rs, h⟩)
theorem cmpBack {v : Value} {s' : Shared} {Q : VK} (h : EP X pins σ Q v s') : PySem.W.CmpBack (EP X pins σ Q) v s' := by
  obtain ⟨x, H', I, r, q⟩ := id h
  cases v with
  | notImplemented =>
    cases x <;> first
      | exact (nomatch (show (Value.notImplemented : Value) = _ from r))
      | (obtain ⟨_, e⟩ := (show ∃ _, _ from r); cases e)
  | _ => exact h
/-- an instance that stands in the heap -/
theorem instOf {a C dx : Addr} {fs : List (Str × V)} (I : Inv X pins σ H s) (e : H a = some (.ins C dx fs)) : ∃ ox od, PySem.W.InstAt s.heap a ox C od := by
  obtain ⟨mA, O, _⟩ := ins_get I.hok e
  obtain ⟨od, h, _⟩ := O.look
  exact ⟨_, _, h⟩
theorem ownB (c : Cc T X W cf k) {o : Bop} {ca cb : Nat} {fa fb : List (Nat × D)} (so : StoOk T.toTx X.K Z ρ H S) (ra : RelW T.toTx X.K Z ρ S H va x) (rb : RelW T.toTx X.K Z ρ S H vb y)
    (ea : clsV va S = some (ca, fa)) (eb : clsV vb S = some (cb, fb)) (ec : cb = ca) (I : Inv X pins σ H s) (rx : RelV x v) (ry : RelV y u)
    (h : PE3 T X.K (ownV cf ca (opNo o) [va, vb] S) Z ρ S H Q (WE W σ)) : wpAny (model X.prog X.w) X.A (binaryOp (bOf o) v u) (EP X pins σ Q) X.xe s := by
  subst ec
  unfold ownV at h
  split at h
  case h_2 => exact h.elim
  case h_1 f ho =>
  rw [c.P] at ho
  obtain ⟨p, dx, fvs, rfl, hp, _⟩ := cls_of so ra ea
  obtain ⟨p', dx', fvs', rfl, hp', _⟩ := cls_of so rb eb
  obtain rfl : v = Value.ref p := rx
  obtain rfl : u = Value.ref p' := ry
  obtain ⟨ox, od, i1⟩ := instOf I hp
  obtain ⟨ox', od', i2⟩ := instOf I hp'
  obtain ⟨m, fr⟩ := I.fr
  have run : wpAny (model X.prog X.w) X.A (call (.ref (T.fa f)) [.ref p, .ref p']) (PySem.W.CmpBack (EP X pins σ Q)) X.xe s :=
    thn (runF c so (ds := [va, vb]) (vs := [.ref p, .ref p']) ⟨ra, rb, trivial⟩ I (.cons rfl (.cons rfl .nil)) h) fun _ _ => cmpBack
  have own := c.fx.op _ _ _ ho
  cases o with
  | add => exact PySem.W.binop_K (op := .Add) fr I.ok.mod.kin i1 i2.type own.1 own.2.1 own.2.2 run
  | mul => exact PySem.W.binop_K (op := .Mult) fr I.ok.mod.kin i1 i2.type own.1 own.2.1 own.2.2 run
  | _ => exact own.elim
theorem catL (so : StoOk T.toTx X.K Z ρ H S) (ra : RelW T.toTx X.K Z ρ S H va x) (rb : RelW T.toTx X.K Z ρ S H vb y) (I : Inv X pins σ H s) (rx : RelV x v) (ry : RelV y u)
    (h : PE3 T X.K (catV va vb S) Z ρ S H Q (WE W σ)) : wpAny (model X.prog X.w) X.A (binaryOp .Add v u) (EP X pins σ Q) X.xe s := by
  unfold catV at h
  split at h
  case h_2 => exact h.elim
  case h_1 xs ys ea eb =>
  obtain ⟨p, ps, rfl, rp, hp⟩ := seq_of so ra ea
  obtain ⟨q, qs, rfl, rq, hq⟩ := seq_of so rb eb
  obtain rfl : v = Value.ref p := rx
  obtain rfl : u = Value.ref q := ry
  replace hp : SqL X.K H p ps := by rcases hp with ⟨e, _⟩ | ⟨_, e⟩; exact (Bool.noConfusion e); exact e
  replace hq : SqL X.K H q qs := by rcases hq with ⟨e, _⟩ | ⟨_, e⟩; exact (Bool.noConfusion e); exact e
  obtain ⟨its, r1, ⟨o1, n1, g1, c1, d1, t1⟩, z1⟩ := I.list hp
  obtain ⟨its2, r2, ⟨o2, n2, g2, c2, d2, t2⟩, z2⟩ := I.list hq
  unfold fl at h
  split at h
  case isFalse => exact h.elim
  case isTrue hz =>
  have hz' : ps.length + qs.length ≤ sizeLine := by rw [← ll, ← rp.1, ← rq.1, ← List.length_append]; exact hz
  obtain ⟨cl1, dd1, da1, sl1⟩ := o1
  obtain ⟨cl2, dd2, da2, sl2⟩ := o2
  simp only at c1 t1 c2 t2
  subst c1 t1 c2 t2
  have l1 := r1.length
  have l2 := r2.length
  have hw := list_addW p q its.toArray its2.toArray n1 n2 dd1 dd2 sl1 sl2 (by simp only [List.size_toArray]; omega)
  refine concat_meets ⟨_, g1, rfl⟩ ⟨_, g2, rfl⟩ noFill_list_add seq_list_add
    PySem.F.slot_list_add PySem.F.entry_list_add (PySem.F.args_list_add_2 _ _) hw ⟨g1, g2, ?_⟩
  have ea : its.toArray ++ its2.toArray = (its ++ its2).toArray := by simp
  rw [ea]
  have n := I.hok.fresh (Nat.le_refl s.heap.objs.size)
  refine ⟨.ref _, _, I.laid (t' := s.toks) (o := .lst (ps ++ qs)) (fun b ob e => Heap.get?_push_of_some _ e) (Nat.le_refl _) ?_, rfl, fresh_list so (rp.append rq) n h⟩
  exact ⟨by rw [List.length_append]; exact hz', _, 0, r1.append r2, Heap.get?_push_size _ rfl⟩
theorem binR_ok (c : Cc T X W cf k) {o : Bop} (so : StoOk T.toTx X.K Z ρ H S) (ra : RelW T.toTx X.K Z ρ S H va x) (rb : RelW T.toTx X.K Z ρ S H vb y) (I : Inv X pins σ H s) (rx : RelV x v) (ry : RelV y u)
    (h : PE3 T X.K (binR cf o va vb S) Z ρ S H Q (WE W σ)) : wpAny (model X.prog X.w) X.A (binaryOp (bOf o) v u) (EP X pins σ Q) X.xe s := by
  unfold binR at h
  split at h
  case h_1 ca fa ea =>
    split at h
    case h_2 => exact h.elim
    case h_1 cb fb eb =>
    split at h
    case isFalse => exact h.elim
    case isTrue ec => exact ownB c so ra rb ea eb ec I rx ry h
  case h_2 =>
    cases o with
    | add => exact catL so ra rb I rx ry h
    | _ => exact h.elim
theorem binV_ok (c : Cc T X W cf k) {o : Bop} (so : StoOk T.toTx X.K Z ρ H S) (ra : RelW T.toTx X.K Z ρ S H va x) (rb : RelW T.toTx X.K Z ρ S H vb y) (I : Inv X pins σ H s) (rx : RelV x v) (ry : RelV y u)
    (h : PE3 T X.K (binV cf o va vb S) Z ρ S H Q (WE W σ)) : wpAny (model X.prog X.w) X.A (binaryOp (bOf o) v u) (EP X pins σ Q) X.xe s := by
  unfold binV at h
  split at h
  · obtain rfl := relI ra
    obtain rfl := relI rb
    obtain ⟨d, e, h⟩ := ofO_ok h
    obtain ⟨j, e2, rfl⟩ := Option.map_eq_some_iff.mp e
    exact iop_ok e2 I rx ry (okI so h)
  · obtain rfl := relI ra
    obtain rfl := relB rb
    cases o with
    | add => exact op_add_ib _ _ _ _ _ _ _ _ _ I rx ry ⟨_, _, rfl, rfl, okI so h⟩
    | _ => exact h.elim
  · obtain rfl := relS ra
    obtain rfl := relS rb
    cases o with
    | add =>
      simp only [addS] at h
      split at h
      case isFalse => exact h.elim
      case isTrue hz => exact op_add_str _ _ _ _ _ _ _ _ _ I rx ry ⟨_, _, rfl, rfl, by rw [← ll]; exact hz, okD so (.str _) h⟩
    | _ => exact h.elim
  · exact binR_ok c so ra rb I rx ry h
end
end GS
/-! G: comparisons, truth, subscripts, slices. -/
namespace GS
open PySem PySem.Spec PyProof.Rows L2 G
section
variable {T : Text} {X : Cx} {W : WX} {cf : Cfg} {k : Nat} {Z : Addr → Prop} {ρ : List Addr} {S S' : Sto} {σ : L2.St} {H : Hp} {Q Q' : VK} {pins : List (Addr × Obj)} {s : Shared} {va vb : Va} {x y : V} {v u : Value}
theorem dat_dp {d : D} (so : StoOk T.toTx X.K Z ρ H S) (ra : RelW T.toTx X.K Z ρ S H va x) (e : datV va S = some d) (p : G.plain d = true) : Dp X.K H x (toP d) := by
  cases va with
  | d d' => cases e; exact dp_of _ _ p ra
  | f c => exact ra.elim
  | r l =>
    obtain ⟨q, a, rfl⟩ := ra
    have e' : (match S[l]? with | some (.lst xs) => some (D.lst xs) | _ => none) = some d := e
    split at e'
    case h_2 => cases e'
    case h_1 xs hs =>
    cases e'
    obtain ⟨vs, hp, r⟩ := so.ok l _ q hs a
    exact .lst (.of hp) (dps_of xs vs (by simpa [G.plain] using p) r.1 r.2)
theorem neg_pe {r : R Va} {Ex : XK} (h : PE3 T X.K (negV r) Z ρ S H Q Ex) : PE3 T X.K r Z ρ S H (fun v H1 => ∃ b, v = .bl b ∧ Q (.bl (!b)) H1) Ex := by
  cases r with
  | bad => exact h
  | ex c fs S1 => exact h
  | ok v S1 =>
    cases v with
    | r l => exact h.elim
    | f ce => exact h.elim
    | d x =>
      cases x with
      | bl b =>
        intro y H1 ex rel
        cases rel
        exact ⟨b, rfl, h _ H1 ex (.bl _)⟩
      | _ => exact h.elim
theorem eqV_ok (c : Cc T X W cf k) {neg : Bool} (so : StoOk T.toTx X.K Z ρ H S) (ra : RelW T.toTx X.K Z ρ S H va x) (rb : RelW T.toTx X.K Z ρ S H vb y) (I : Inv X pins σ H s) (rx : RelV x v) (ry : RelV y u)
    (h : PE3 T X.K (G.eqV cf neg va vb S) Z ρ S H Q (WE W σ)) : wpAny (model X.prog X.w) X.A (compareOp (if neg then .NotEq else .Eq) v u) (EP X pins σ Q) X.xe s := by
  unfold G.eqV at h
  split at h
  case h_1 ca fa ea =>
    split at h
    case h_2 => exact h.elim
    case h_1 cb fb eb =>
    split at h
    case isFalse => exact h.elim
    case isTrue ec =>
    subst ec
    obtain ⟨p, dx, fvs, rfl, hp, _⟩ := cls_of so ra ea
    obtain ⟨p', dx', fvs', rfl, hp', _⟩ := cls_of so rb eb
    obtain rfl : v = Value.ref p := rx
    obtain rfl : u = Value.ref p' := ry
    obtain ⟨ox, od, i1⟩ := instOf I hp
    obtain ⟨ox', od', i2⟩ := instOf I hp'
    obtain ⟨m, fr⟩ := I.fr
    cases ho : cf.P.opm cb 3 with
    | none =>
      unfold ownV at h
      rw [ho] at h
      cases neg <;> exact h.elim
    | some f =>
      have ow : ownV cf cb 3 [va, vb] S = cf.call f [va, vb] S := by unfold ownV; rw [ho]
      rw [ow] at h
      rw [c.P] at ho
      obtain ⟨o1, o2, o3⟩ := c.fx.op _ _ _ ho
      cases neg with
      | false =>
        have run : wpAny (model X.prog X.w) X.A (call (.ref (T.fa f)) [.ref p, .ref p']) (PySem.W.CmpBack (EP X pins σ Q)) X.xe s := thn (runF c so (ds := [va, vb]) (vs := [.ref p, .ref p']) ⟨ra, rb, trivial⟩ I (.cons rfl (.cons rfl .nil)) h) fun _ _ => cmpBack
        show wpAny _ _ (compareOp .Eq _ _) _ _ _
        unfold compareOp
        exact PySem.W.cmp_K (op := .Eq) (tb := .ref (T.ca cb)) c.room.units0 fr I.ok.mod.kin i1 i2.type (by simp [PySem.W.notFirst]) o1 o2 run
      | true =>
        have hne : cf.call f [va, vb] S ≠ .bad := fun e => by rw [e] at h; exact h
        have F := c.fn f ⟨S, _, hne⟩
        have h2 := neg_pe (X := X) h
        have e0 : Env0 X.prog X.w X.K X.mg X.base X.A.in1 X.stack s H := by
          have e := I.env0
          exact ⟨e.frames, e.mod, e.bs, e.bsz, e.funs, e.frf, e.hok, e.bare⟩
        show wpAny _ _ (compareOp .NotEq _ _) _ _ _
        refine GX.ne_own (Nat.lt_of_le_of_lt (Nat.le_add_right _ _) (by have := c.room.un; omega : X.A.units + 1 + 64 < cLine)) I.kIn i1 i2 o3 o1 o2 (c.fx.cli cb (c.fx.opc _ _ _ ho)).2.2.2 ?_
        refine wpAny_call (codeAny_mono (runA F c.room.in1 e0 c.tk I (vs := [V.ref p, V.ref p']) (us := [Value.ref p, Value.ref p']) (.cons rfl (.cons rfl .nil)) ⟨Z, ρ, S, [va, vb], so, ⟨ra, rb, trivial⟩, h2⟩) fun r s' z => ?_)
        cases r with
        | error er => exact z
        | ok fl =>
          cases fl with
          | ret w =>
            obtain ⟨y, H1, I1, r1, b, e1, q⟩ := z
            subst e1
            cases r1
            exact ⟨b, rfl, .bl _, H1, I1, rfl, q⟩
          | next => exact z.elim
          | brk => exact z.elim
          | cont => exact z.elim
  case h_2 =>
    split at h
    case h_2 => exact h.elim
    case h_1 d1 d2 e1 e2 =>
    split at h
    case isFalse => exact h.elim
    case isTrue hs =>
    have hs' := Bool.and_eq_true_iff.mp hs
    have p1 := (Bool.and_eq_true_iff.mp hs'.1).1
    have p2 := (Bool.and_eq_true_iff.mp hs'.2).1
    have q := okB so h
    rw [← eqv_of d1 d2 p1 p2] at q
    cases neg with
    | false => exact op_eqD c.room.units _ _ _ _ _ _ _ _ _ I rx ry ⟨_, _, dat_dp so ra e1 p1, dat_dp so rb e2 p2, shp_of hs'.1, shp_of hs'.2, q⟩
    | true => exact op_neD c.room.units _ _ _ _ _ _ _ _ _ I rx ry ⟨_, _, dat_dp so ra e1 p1, dat_dp so rb e2 p2, shp_of hs'.1, shp_of hs'.2, q⟩
theorem rel_flat {M : Addr → Prop} {d : D} {v : V} (r : Rel T.toTx X.K M H d v) (f : flatD d = true) : L2.flatV v = true := by
  cases r <;> first | rfl | cases f
theorem rels_flat {M : Addr → Prop} {xs : List D} {vs : List V} (r : RelL T.toTx X.K M H xs vs) (f : xs.all flatD = true) : vs.all L2.flatV = true := by
  rw [List.all_eq_true] at f ⊢
  intro v hv
  obtain ⟨i, hi⟩ := List.getElem?_of_mem hv
  have hl : i < xs.length := by rw [r.1]; exact (List.getElem?_eq_some_iff.mp hi).1
  exact rel_flat (r.2 i _ v (List.getElem?_eq_getElem hl) hi) (f _ (List.getElem_mem hl))
theorem eq_flat {M : Addr → Prop} {d e : D} {v w : V} (r : Rel T.toTx X.K M H d v) (q : Rel T.toTx X.K M H e w) (f : flatD d = true) (g : flatD e = true) : L2.eqV v w = eqD d e := by
  cases r <;> cases q <;> first | (simp [L2.eqV, eqD]; done) | exact absurd f Bool.false_ne_true | exact absurd g Bool.false_ne_true
theorem any_flat {M : Addr → Prop} {d : D} {v : V} (r : Rel T.toTx X.K M H d v) (f : flatD d = true) : ∀ {xs : List D} {vs : List V}, RelL T.toTx X.K M H xs vs → xs.all flatD = true → L2.inV v vs = xs.any fun y => eqD y d
  | [], vs, q, _ => by
    cases vs with
    | nil => rfl
    | cons _ _ => have := q.1; simp at this
  | x :: xs, vs, q, g => by
    obtain ⟨w, ws, rfl, h, l', r'⟩ := vs_tail q.1 q.2
    have g' : flatD x = true ∧ xs.all flatD = true := by simpa using g
    have ih := any_flat r f (xs := xs) (vs := ws) ⟨l', r'⟩ g'.2
    unfold L2.inV at ih ⊢
    rw [List.any_cons, List.any_cons, eq_flat h r g'.1 f, ih]
theorem inV_ok {neg : Bool} (so : StoOk T.toTx X.K Z ρ H S) (ra : RelW T.toTx X.K Z ρ S H va x) (rb : RelW T.toTx X.K Z ρ S H vb y) (I : Inv X pins σ H s) (rx : RelV x v) (ry : RelV y u)
    (h : PE3 T X.K (G.inV neg va vb S) Z ρ S H Q (WE W σ)) : wpAny (model X.prog X.w) X.A (compareOp (if neg then .NotIn else .In) v u) (EP X pins σ Q) X.xe s := by
  unfold G.inV at h
  split at h
  case h_2 => exact h.elim
  case h_1 d _ b xs eb =>
  split at h
  case isFalse => exact h.elim
  case isTrue hf =>
  have hf' := Bool.and_eq_true_iff.mp hf
  obtain ⟨p, vs, rfl, rp, hp⟩ := seq_of so rb eb
  have hq : SqL X.K H p vs ∨ SqT X.K H p vs := hp.elim (fun z => .inr z.2) fun z => .inl z.2
  have q := okB so h
  have e := any_flat (show Rel _ _ _ _ _ _ from ra) hf'.1 rp hf'.2
  cases neg with
  | false => exact op_in_seq _ _ _ _ _ _ _ _ _ I rx ry ⟨p, vs, rfl, hq, rel_flat (show Rel _ _ _ _ _ _ from ra) hf'.1, rels_flat rp hf'.2, by rw [e]; exact q⟩
  | true => exact op_notIn_seq _ _ _ _ _ _ _ _ _ I rx ry ⟨p, vs, rfl, hq, rel_flat (show Rel _ _ _ _ _ _ from ra) hf'.1, rels_flat rp hf'.2, by rw [e]; exact q⟩
theorem isV_ok {neg : Bool} (so : StoOk T.toTx X.K Z ρ H S) (ra : RelW T.toTx X.K Z ρ S H va x) (rb : RelW T.toTx X.K Z ρ S H vb y) (I : Inv X pins σ H s) (rx : RelV x v) (ry : RelV y u)
    (h : PE3 T X.K (isV2 neg va vb S) Z ρ S H Q (WE W σ)) : wpAny (model X.prog X.w) X.A (compareOp (if neg then .IsNot else .Is) v u) (EP X pins σ Q) X.xe s := by
  unfold isV2 at h
  split at h
  case h_3 => exact h.elim
  case h_1 d =>
    obtain rfl := relN rb
    have e : isN d = decide (x = .non) := by
      have r : Rel _ _ _ _ _ _ := ra
      cases r <;> simp [isN]
    have q := okB so h
    rw [e] at q
    cases neg with
    | false => exact op_isN _ _ _ _ _ _ _ _ _ I rx ry ⟨rfl, q⟩
    | true => exact op_notN _ _ _ _ _ _ _ _ _ I rx ry ⟨rfl, q⟩
  case h_2 b1 b2 _ =>
    obtain rfl := relB ra
    obtain rfl := relB rb
    have q := okB so h
    cases neg with
    | false => exact op_isBl _ _ _ _ _ _ _ _ _ I rx ry ⟨_, _, rfl, rfl, q⟩
    | true => exact op_notBl _ _ _ _ _ _ _ _ _ I rx ry ⟨_, _, rfl, rfl, q⟩
theorem ordV_ok {o : Cop} (so : StoOk T.toTx X.K Z ρ H S) (ra : RelW T.toTx X.K Z ρ S H va x) (rb : RelW T.toTx X.K Z ρ S H vb y) (I : Inv X pins σ H s) (rx : RelV x v) (ry : RelV y u)
    (h : PE3 T X.K (ordV o va vb S) Z ρ S H Q (WE W σ)) : wpAny (model X.prog X.w) X.A (compareOp (cOf o) v u) (EP X pins σ Q) X.xe s := by
  unfold ordV at h
  split at h
  case h_2 => exact h.elim
  case h_1 i j =>
    obtain rfl := relI ra
    obtain rfl := relI rb
    obtain ⟨d, e, h⟩ := ofO_ok h
    obtain ⟨b, e2, rfl⟩ := Option.map_eq_some_iff.mp e
    exact cmpI_ok e2 I rx ry (okB so h)
theorem cmpV_ok (c : Cc T X W cf k) {o : Cop} (so : StoOk T.toTx X.K Z ρ H S) (ra : RelW T.toTx X.K Z ρ S H va x) (rb : RelW T.toTx X.K Z ρ S H vb y) (I : Inv X pins σ H s) (rx : RelV x v) (ry : RelV y u)
    (h : PE3 T X.K (cmpV cf o va vb S) Z ρ S H Q (WE W σ)) : wpAny (model X.prog X.w) X.A (compareOp (cOf o) v u) (EP X pins σ Q) X.xe s := by
  cases o with
  | eq => exact eqV_ok c (neg := false) so ra rb I rx ry h
  | ne => exact eqV_ok c (neg := true) so ra rb I rx ry h
  | in_ => exact inV_ok (neg := false) so ra rb I rx ry h
  | nin => exact inV_ok (neg := true) so ra rb I rx ry h
  | is_ => exact isV_ok (neg := false) so ra rb I rx ry h
  | isn => exact isV_ok (neg := true) so ra rb I rx ry h
  | lt => exact ordV_ok (o := .lt) so ra rb I rx ry h
  | le => exact ordV_ok (o := .le) so ra rb I rx ry h
  | gt => exact ordV_ok (o := .gt) so ra rb I rx ry h
  | ge => exact ordV_ok (o := .ge) so ra rb I rx ry h
/-- what a comparison's value is: a bool (own == aside, there is none) -/
theorem truV_ok {b : Bool} (so : StoOk T.toTx X.K Z ρ H S) (ra : RelW T.toTx X.K Z ρ S H va x) (e : truV va S = some b) : TruV X.K x H b := by
  unfold truV at e
  split at e
  · obtain rfl := relN ra; cases e; rfl
  · obtain rfl := relB ra; cases e; rfl
  · obtain rfl := relI ra; cases e; rfl
  · split at e
    case h_2 => cases e
    case h_1 b' xs es =>
    cases e
    obtain ⟨p, vs, rfl, rp, hp⟩ := seq_of so ra es
    have hv : xs.isEmpty = vs.isEmpty := by
      have := rp.1
      cases xs <;> cases vs <;> simp_all
    rw [hv]
    exact hp.elim (fun z => .inr (.inl ⟨vs, z.2, rfl⟩)) fun z => .inl ⟨vs, z.2, rfl⟩
theorem atI_of {xs : List D} {vs : List V} {M : Addr → Prop} {i : Int} {d : D} (r : RelL T.toTx X.K M H xs vs) (e : ati xs i = some d) : ∃ v, atI vs i = some v ∧ Rel T.toTx X.K M H d v := by
  unfold ati at e
  by_cases h0 : 0 ≤ i
  · rw [if_pos h0] at e
    obtain ⟨v, e2, q⟩ := r.get e
    refine ⟨v, ?_, q⟩
    have := atI_nat e2
    rwa [Int.toNat_of_nonneg h0] at this
  · rw [if_neg h0] at e
    split at e
    case isFalse => cases e
    case isTrue h1 =>
    obtain ⟨v, e2, q⟩ := r.get e
    refine ⟨v, ?_, q⟩
    have hl := r.1
    unfold atI ixN
    rw [if_neg h0, if_pos (by omega)]
    rw [hl] at e2
    exact e2
theorem idx_ok (so : StoOk T.toTx X.K Z ρ H S) (ra : RelW T.toTx X.K Z ρ S H va x) (rb : RelW T.toTx X.K Z ρ S H vb y) {E : XK} (h : PE3 T X.K (idxV va vb S) Z ρ S H Q E) : rIx X.K x y H Q := by
  unfold idxV at h
  split at h
  case h_2 => exact h.elim
  case h_1 b xs i es =>
  obtain ⟨p, vs, rfl, rp, hp⟩ := seq_of so ra es
  obtain rfl := relI rb
  obtain ⟨d, e, h⟩ := ofO_ok h
  obtain ⟨w, e2, q⟩ := atI_of rp e
  rcases hp with ⟨_, hp⟩ | ⟨_, hp⟩
  · exact .inr (.inl ⟨p, vs, i, w, rfl, rfl, hp, e2, okD so q h⟩)
  · exact .inl ⟨p, vs, i, w, rfl, rfl, hp, e2, okD so q h⟩
end
end GS
/-! G: built-in functions on values. -/
namespace GS
open PySem PySem.Spec PyProof.Rows L2 G
theorem maxI_mem : ∀ (m : Int) (l : List Int), maxI m l ∈ m :: l
  | m, [] => by simp [maxI]
  | m, x :: r => by
    have := maxI_mem (if m < x then x else m) r
    unfold maxI
    rcases List.mem_cons.mp this with e | e
    · rw [e]
      split <;> simp
    · simp [e]
theorem maxI_ge : ∀ (m : Int) (l : List Int), ∀ y ∈ m :: l, y ≤ maxI m l
  | m, [] => by simp [maxI]
  | m, x :: r => by
    have h := maxI_ge (if m < x then x else m) r
    intro y hy
    unfold maxI
    have h0 := h _ List.mem_cons_self
    rcases List.mem_cons.mp hy with rfl | hy
    · split at h0 <;> split <;> omega
    · rcases List.mem_cons.mp hy with rfl | hy
      · split at h0 <;> split <;> omega
      · exact h y (List.mem_cons_of_mem _ hy)
theorem minI_mem : ∀ (m : Int) (l : List Int), minI m l ∈ m :: l
  | m, [] => by simp [minI]
  | m, x :: r => by
    have := minI_mem (if x < m then x else m) r
    unfold minI
    rcases List.mem_cons.mp this with e | e
    · rw [e]
      split <;> simp
    · simp [e]
theorem minI_le : ∀ (m : Int) (l : List Int), ∀ y ∈ m :: l, minI m l ≤ y
  | m, [] => by simp [minI]
  | m, x :: r => by
    have h := minI_le (if x < m then x else m) r
    intro y hy
    unfold minI
    have h0 := h _ List.mem_cons_self
    rcases List.mem_cons.mp hy with rfl | hy
    · split at h0 <;> split <;> omega
    · rcases List.mem_cons.mp hy with rfl | hy
      · split at h0 <;> split <;> omega
      · exact h y (List.mem_cons_of_mem _ hy)
section
variable {T : Text} {X : Cx} {W : WX} {cf : Cfg} {k : Nat} {Z : Addr → Prop} {ρ : List Addr} {S S' : Sto} {σ : L2.St} {H : Hp} {Q Q' : VK} {pins : List (Addr × Obj)} {s : Shared} {va vb : Va} {x y : V} {v u : Value} {Ex : XK}
theorem intsD_of {M : Addr → Prop} : ∀ {xs : List D} {l : List Int} {vs : List V}, intsD xs = some l → RelL T.toTx X.K M H xs vs → vs = l.map V.int
  | [], l, vs, e, r => by
    cases e
    cases vs with
    | nil => rfl
    | cons _ _ => have := r.1; simp at this
  | d :: ds, l, vs, e, r => by
    obtain ⟨w, ws, rfl, h, l', r'⟩ := vs_tail r.1 r.2
    cases d with
    | int i =>
      have e' : (match intsD ds with | some l => some (i :: l) | none => none) = some l := e
      split at e'
      case h_2 => cases e'
      case h_1 l2 e2 =>
      cases e'
      cases h
      rw [intsD_of e2 (vs := ws) ⟨l', r'⟩, List.map_cons]
    | _ => cases e
theorem boolsD_of {M : Addr → Prop} : ∀ {xs : List D} {l : List Bool} {vs : List V}, boolsD xs = some l → RelL T.toTx X.K M H xs vs → vs = l.map V.bl
  | [], l, vs, e, r => by
    cases e
    cases vs with
    | nil => rfl
    | cons _ _ => have := r.1; simp at this
  | d :: ds, l, vs, e, r => by
    obtain ⟨w, ws, rfl, h, l', r'⟩ := vs_tail r.1 r.2
    cases d with
    | bl i =>
      have e' : (match boolsD ds with | some l => some (i :: l) | none => none) = some l := e
      split at e'
      case h_2 => cases e'
      case h_1 l2 e2 =>
      cases e'
      cases h
      rw [boolsD_of e2 (vs := ws) ⟨l', r'⟩, List.map_cons]
    | _ => cases e
/-- a call of a built-in thing by values -/
abbrev Calls1 (X : Cx) (pins : List (Addr × Obj)) (σ : L2.St) (Q : VK) (s : Shared) (f : Value) (us : List Value) : Prop := wpAny (model X.prog X.w) X.A (call f us) (EP X pins σ Q) X.xe s
theorem minL_ok (hc : X.calm = true) {us : List Value} (so : StoOk T.toTx X.K Z ρ H S) (ra : RelW T.toTx X.K Z ρ S H va x) (I : Inv X pins σ H s) (r : Vals [x] us) (h : PE3 T X.K (minL va S) Z ρ S H Q Ex) : Calls1 X pins σ Q s (.builtin "min") us := by
  unfold minL at h
  split at h
  case h_2 => exact h.elim
  case h_1 xs es =>
  split at h
  case h_2 => exact h.elim
  case h_1 i l el =>
  obtain ⟨p, vs, rfl, rp, hp⟩ := seq_of so ra es
  rcases hp with ⟨e, _⟩ | ⟨_, hp⟩
  · cases e
  · have e := intsD_of el rp
    subst e
    refine cr_min hc _ _ _ _ _ _ _ I r ⟨p, _, rfl, hp, by simp, fun m h1 h2 => ?_⟩
    have e : m = minI i l := Int.le_antisymm (h2 _ (minI_mem i l)) (minI_le i l m h1)
    rw [e]
    exact okI so h
theorem maxL_ok (hc : X.calm = true) {us : List Value} (so : StoOk T.toTx X.K Z ρ H S) (ra : RelW T.toTx X.K Z ρ S H va x) (I : Inv X pins σ H s) (r : Vals [x] us) (h : PE3 T X.K (maxL va S) Z ρ S H Q Ex) : Calls1 X pins σ Q s (.builtin "max") us := by
  unfold maxL at h
  split at h
  case h_2 => exact h.elim
  case h_1 xs es =>
  split at h
  case h_2 => exact h.elim
  case h_1 i l el =>
  obtain ⟨p, vs, rfl, rp, hp⟩ := seq_of so ra es
  rcases hp with ⟨e, _⟩ | ⟨_, hp⟩
  · cases e
  · have e := intsD_of el rp
    subst e
    refine cr_max hc _ _ _ _ _ _ _ I r ⟨p, _, rfl, hp, by simp, fun m h1 h2 => ?_⟩
    have e : m = maxI i l := Int.le_antisymm (maxI_ge i l m h1) (h2 _ (maxI_mem i l))
    rw [e]
    exact okI so h
theorem sumV_ok (hc : X.calm = true) {us : List Value} (so : StoOk T.toTx X.K Z ρ H S) (ra : RelW T.toTx X.K Z ρ S H va x) (I : Inv X pins σ H s) (r : Vals [x] us) (h : PE3 T X.K (sumV va S) Z ρ S H Q Ex) : Calls1 X pins σ Q s (.builtin "sum") us := by
  unfold sumV at h
  split at h
  case h_2 => exact h.elim
  case h_1 b xs es =>
  split at h
  case h_2 => exact h.elim
  case h_1 l el =>
  obtain ⟨p, vs, rfl, rp, hp⟩ := seq_of so ra es
  have e := intsD_of el rp
  subst e
  have q := okI so h
  rcases hp with ⟨_, hp⟩ | ⟨_, hp⟩
  · obtain ⟨its, rv, ht, _⟩ := I.tuple hp
    rw [Vals.ref1 r]
    obtain ⟨xs', e⟩ := rv.ints.allInts.items
    have hn : numsOf (intItems xs').toList = l := by rw [← e]; exact rv.ints.numsOf
    rw [nums_intItems] at hn
    rw [e] at ht
    refine PySem.W.ktm_sumG (I.ok.hd hc) ht fun h' tk t' hk => ⟨.int _, H, I.kept hk, ⟨_, rfl⟩, ?_⟩
    rw [preSum_eq, List.take_of_length_le (by simp), hn]
    exact q
  · exact cr_sum hc _ _ _ _ _ _ _ I r ⟨p, _, rfl, hp, q⟩
theorem anyV_ok (hc : X.calm = true) {us : List Value} (so : StoOk T.toTx X.K Z ρ H S) (ra : RelW T.toTx X.K Z ρ S H va x) (I : Inv X pins σ H s) (r : Vals [x] us) (h : PE3 T X.K (anyV va S) Z ρ S H Q Ex) : Calls1 X pins σ Q s (.builtin "any") us := by
  unfold anyV at h
  split at h
  case h_2 => exact h.elim
  case h_1 xs es =>
  split at h
  case h_2 => exact h.elim
  case h_1 l el =>
  obtain ⟨p, vs, rfl, rp, hp⟩ := seq_of so ra es
  have e := boolsD_of el rp
  subst e
  rcases hp with ⟨e, _⟩ | ⟨_, hp⟩
  · cases e
  · exact cr_any hc _ _ _ _ _ _ _ I r ⟨p, _, rfl, hp, okB so h⟩
theorem allV_ok (hc : X.calm = true) {us : List Value} (so : StoOk T.toTx X.K Z ρ H S) (ra : RelW T.toTx X.K Z ρ S H va x) (I : Inv X pins σ H s) (r : Vals [x] us) (h : PE3 T X.K (allV va S) Z ρ S H Q Ex) : Calls1 X pins σ Q s (.builtin "all") us := by
  unfold allV at h
  split at h
  case h_2 => exact h.elim
  case h_1 xs es =>
  split at h
  case h_2 => exact h.elim
  case h_1 l el =>
  obtain ⟨p, vs, rfl, rp, hp⟩ := seq_of so ra es
  have e := boolsD_of el rp
  subst e
  rcases hp with ⟨e, _⟩ | ⟨_, hp⟩
  · cases e
  · exact cr_all hc _ _ _ _ _ _ _ I r ⟨p, _, rfl, hp, okB so h⟩
theorem listV_ok {us : List Value} (so : StoOk T.toTx X.K Z ρ H S) (ra : RelW T.toTx X.K Z ρ S H va x) (I : Inv X pins σ H s) (r : Vals [x] us) (h : PE3 T X.K (listV va S) Z ρ S H Q Ex) : Calls1 X pins σ Q s (.type "list") us := by
  unfold listV at h
  split at h
  case h_2 => exact h.elim
  case h_1 b xs es =>
  obtain ⟨p, vs, rfl, rp, hp⟩ := seq_of so ra es
  exact call_list_of _ _ _ _ _ _ _ I r ⟨p, vs, rfl, hp.elim (fun z => .inr z.2) fun z => .inl z.2, fun l hl => fresh_list so rp hl h⟩
theorem tup_rel {p : Addr} {xs : List D} {vs : List V} (so : StoOk T.toTx X.K Z ρ H S) (ra : RelW T.toTx X.K Z ρ S H va (.ref p)) (es : seqV va S = some (true, xs)) (h : PE3 T X.K (.ok (.d (.tup xs)) S) Z ρ S H Q Ex) : Q (.ref p) H := by
  cases va with
  | d d =>
    cases d <;> first | cases es; done | skip
    · cases es
      exact okD so ra h
  | f c => exact ra.elim
  | r l =>
    have e' : (match S[l]? with | some (.lst xs) => some (false, xs) | _ => none) = some (true, xs) := es
    split at e' <;> cases e'
theorem tupV_ok {us : List Value} (so : StoOk T.toTx X.K Z ρ H S) (ra : RelW T.toTx X.K Z ρ S H va x) (I : Inv X pins σ H s) (r : Vals [x] us) (h : PE3 T X.K (tupV va S) Z ρ S H Q Ex) : Calls1 X pins σ Q s (.type "tuple") us := by
  unfold tupV at h
  split at h
  case h_2 => exact h.elim
  case h_1 b xs es =>
  obtain ⟨p, vs, rfl, rp, hp⟩ := seq_of so ra es
  refine call_tuple_of _ _ _ _ _ _ _ I r ⟨p, vs, rfl, ?_⟩
  rcases hp with ⟨e, hp⟩ | ⟨_, hp⟩
  · subst e
    exact .inr ⟨hp, tup_rel (vs := vs) so ra es h⟩
  · exact .inl ⟨hp, fun l hl => fresh_tup so rp hl h⟩
/-- len -/
theorem runF1 (c : Cc T X W cf k) {f : Nat} {ds : List Va} {vs : List V} {us : List Value} (so : StoOk T.toTx X.K Z ρ H S) (rs : RelWs T.toTx X.K Z ρ S H ds vs) (I : Inv X pins σ H s) (r : Vals vs us)
    (h : PE3 T X.K (cf.call f ds S) Z ρ S H Q (WE W σ)) : wpAny (model X.prog X.w) X.A.in1 (call (.ref (T.fa f)) us) (EP X pins σ Q) X.xe s := by
  have hne : cf.call f ds S ≠ .bad := fun e => by rw [e] at h; exact h
  have F := c.fn f ⟨S, ds, hne⟩
  exact wpAny_call (runA F c.room.in1 I.env0.in1 c.tk I r ⟨Z, ρ, S, ds, so, rs, h⟩)
theorem lenV_ok (c : Cc T X W cf k) {us : List Value} (so : StoOk T.toTx X.K Z ρ H S) (ra : RelW T.toTx X.K Z ρ S H va x) (I : Inv X pins σ H s) (r : Vals [x] us) (h : PE3 T X.K (lenV cf va S) Z ρ S H Q (WE W σ)) : Calls1 X pins σ Q s (.builtin "len") us := by
  unfold lenV at h
  split at h
  case h_1 ca fs ec =>
    obtain ⟨p, dx, fvs, rfl, hp, _⟩ := cls_of so ra ec
    rw [Vals.ref1 r]
    obtain ⟨ox, od, i1⟩ := instOf I hp
    obtain ⟨m, fr⟩ := I.fr
    split at h
    case h_2 => exact h.elim
    case h_1 i S2 eo =>
    split at h
    case isFalse => exact h.elim
    case isTrue hi =>
    unfold ownV at eo
    split at eo
    case h_2 => cases eo
    case h_1 f ho =>
    rw [c.P] at ho
    have own := c.fx.op _ _ _ ho
    refine PySem.W.len_K fr I.ok.mod.kin i1 own.1 own.2 (thn (runF1 c (Q := fun y H' => y = .int i ∧ Q (.int i) H') so (ds := [va]) (vs := [.ref p]) ⟨ra, trivial⟩ I (.cons rfl .nil) ?_) ?_)
    · rw [eo]
      intro y H' e r'
      obtain rfl := relI r'
      exact ⟨rfl, h (.int i) H' e (.int i)⟩
    · rintro v s' ⟨y, H', I', rv, rfl, q⟩
      obtain ⟨t, rfl⟩ := rv
      have e2 : ((LL : Nat) : Int) = 16777216 := rfl
      exact ⟨⟨hi.1, by omega⟩, .int i, H', I'.tok _, ⟨_, rfl⟩, q⟩
  case h_2 =>
    unfold ofSeq at h
    split at h
    case h_2 => exact h.elim
    case h_1 b xs es =>
    obtain ⟨p, vs, rfl, rp, hp⟩ := seq_of so ra es
    refine call_len_seq _ _ _ _ _ _ _ I r ⟨p, vs, rfl, hp.elim (fun z => .inr z.2) fun z => .inl z.2, ?_⟩
    rw [← rp.1]
    exact okI so h
theorem vals3 {a b d : V} {us : List Value} (r : Vals [a, b, d] us) : ∃ u v w, us = [u, v, w] ∧ RelV a u ∧ RelV b v ∧ RelV d w := by
  cases r with
  | cons r1 t =>
    obtain ⟨v, w, e, r2, r3⟩ := vals2 t
    exact ⟨_, v, w, by rw [e], r1, r2, r3⟩
theorem max3_ok (hc : X.calm = true) {a b d : Int} {us : List Value} (I : Inv X pins σ H s) (r : Vals [.int a, .int b, .int d] us) (q : Q (.int (maxI a [b, d])) H) : Calls1 X pins σ Q s (.builtin "max") us := by
  obtain ⟨_, _, _, rfl, ⟨t, rfl⟩, ⟨u, rfl⟩, ⟨w, rfl⟩⟩ := vals3 r
  refine max_three_ints (I.ok.hd hc) fun h' tk kp => ⟨.int (maxI a [b, d]), H, I.kept kp, ?_, q⟩
  simp only [maxI]
  by_cases h1 : a < b
  · by_cases h2 : b < d <;> simp only [h1, h2, gt_iff_lt, if_true, if_false] <;> exact ⟨_, rfl⟩
  · by_cases h2 : a < d <;> simp only [h1, h2, gt_iff_lt, if_true, if_false] <;> exact ⟨_, rfl⟩
end
end GS
/-! G: slices, attributes, isinstance, methods of lists. -/
namespace GS
open PySem PySem.Spec PyProof.Rows L2 G
/-! ### t[::-1] -/
section
variable {prog : Program} {w : World} {A : Around} {E : Value → Shared → Prop} {s : Shared}
theorem sliceApplied_rev {sl : Addr} {c : Value} {n : Nat} {Q : Int × Int × Nat → Shared → Prop} (hs : s.heap.IsSliceOf sl .none .none c) (pc : IsPart c (some (-1)))
    (h : Q ((n : Int) - 1, -1, n) s) : wpAny (model prog w) A (Builtin.Slice.sliceApplied (.ref sl) (pure (n : Int))) Q E s := by
  obtain ⟨os, ho, hcl, hd⟩ := id hs
  unfold Builtin.Slice.sliceApplied Builtin.Slice.sliceFields
  refine wpAny_bind (wpAny_bind (wpAny_field ho hd (x := .none) rfl ?_))
  refine wpAny_bind (wpAny_field ho hd (x := .none) rfl ?_)
  refine wpAny_bind (wpAny_field ho hd (x := c) rfl ?_)
  refine wpAny_pure ?_
  refine wpAny_bind (HT.slicePart_ pc ?_)
  show wpAny _ _ (if ((-1 : Int) == 0) = true then _ else _) _ _ s
  rw [if_neg (by decide)]
  refine wpAny_bind (HT.slicePart_ .none ?_)
  refine wpAny_bind (HT.slicePart_ .none ?_)
  refine wpAny_bind (wpAny_pure ?_)
  have e : Builtin.Slice.sliceAdjust none none (-1) (n : Int) = ((n : Int) - 1, -1) := rfl
  have e2 : Builtin.Slice.slicePlaces ((n : Int) - 1) (-1) (-1) = n := by
    unfold Builtin.Slice.slicePlaces
    have h1 : ¬ ((-1 : Int) > 0) := by decide
    have h2 : (-(-1 : Int)) = 1 := by decide
    simp only [h1, if_false, h2, Int.ediv_one]
    split <;> omega
  show wpAny _ _ (match Builtin.Slice.sliceAdjust none none (-1) (n : Int) with | (lo, hi) => pure (lo, (-1 : Int), Builtin.Slice.slicePlaces lo hi (-1))) _ _ s
  rw [e]
  show wpAny _ _ (pure ((n : Int) - 1, (-1 : Int), Builtin.Slice.slicePlaces ((n : Int) - 1) (-1) (-1))) _ _ s
  rw [e2]
  exact wpAny_pure h
theorem fmap_congr {α β : Type} {f g : α → Option β} : ∀ {l : List α}, (∀ x ∈ l, f x = g x) → l.filterMap f = l.filterMap g
  | [], _ => rfl
  | x :: l, h => by
    rw [List.filterMap_cons, List.filterMap_cons, h x List.mem_cons_self, fmap_congr (l := l) fun y hy => h y (List.mem_cons_of_mem _ hy)]
theorem pick_rev (xs : Array Value) : ((List.range xs.size).filterMap fun (m : Nat) => xs[((xs.size : Int) - 1 + (m : Int) * -1).toNat]?).toArray = xs.toList.reverse.toArray := by
  congr 1
  have e : ∀ m ∈ List.range xs.size, xs[((xs.size : Int) - 1 + (m : Int) * -1).toNat]? = xs[xs.size - 1 - m]? := fun m hm => by
    have := List.mem_range.mp hm
    congr 1
    omega
  rw [fmap_congr e]
  have e2 := PySem.W.krv_all xs
  have e3 : (List.range xs.size).filterMap (fun m => xs[xs.size - 1 - m]?) = ((List.range xs.size).map fun k => xs.size - 1 - k).filterMap (xs[·]?) := by
    rw [List.filterMap_map]; rfl
  rw [e3, PySem.W.krv_range, List.filterMap_reverse, e2]
theorem getItem_tuple_rev {t sl : Addr} {items : Array Value} {c : Value} {Q : Value → Shared → Prop} (ht : IsTup s.heap t items) (hs : s.heap.IsSliceOf sl .none .none c) (pc : IsPart c (some (-1)))
    (h : Q (.ref s.heap.objs.size) { s with heap := s.heap.push { cls := .type "tuple", data := .seq items.toList.reverse.toArray } }) (hsz : items.size ≤ sizeLine) : wpAny (model prog w) A (getItem (.ref t) (.ref sl)) Q E s := by
  obtain ⟨os, ho, hcl, hd⟩ := id hs
  have hT : s.TypeIs (.ref sl) "slice" := ⟨os, ho, hcl⟩
  have hz : sizeOk (.seq items.toList.reverse.toArray) := by
    show items.toList.reverse.toArray.size ≤ sizeLine
    rw [List.size_toArray, List.length_reverse, Array.length_toList]
    exact hsz
  unfold getItem
  refine wpAny_holding ?_
  refine wpAny_bind (wpAny_sequenceKey ht.typeIs (by decide) ?_)
  have slot := PyProof.Rows.slot_tuple_getitem
  refine wpAny_bind (wpAny_callSpecial?_slot (name := Str.ofString "__getitem__") ht.typeIs slot ?_)
  refine wpAny_call_entry slot ht.typeIs entry_tuple_getitem ?_ (args_tuple_getitem _ _)
  show wpAny _ _ (Builtin.Tuple.tupleItemsOf (.ref t) >>= _) _ _ s
  refine wpAny_bind (tupleItemsOf_ ht ?_)
  refine wpAny_bind (wpAny_typeOf hT ?_)
  rw [if_pos (by decide)]
  refine wpAny_bind (sliceApplied_rev hs pc ?_)
  show wpAny _ _ (if ((items.size : Int) - 1 == 0 && (-1 : Int) == 1 && items.size == items.size) = true then _ else _) _ _ s
  have hno : ¬ (((items.size : Int) - 1 == 0 && (-1 : Int) == 1 && items.size == items.size) = true) := by
    intro q
    rw [Bool.and_eq_true, Bool.and_eq_true] at q
    exact absurd q.1.2 (by decide)
  rw [if_neg hno, pick_rev]
  first
    | exact wpAny_bind (m := Builtin.Tuple.tupleExact _) (wpAny_newObj_type (wpAny_pure ⟨_, rfl, wpAny_pure h⟩) hz)
    | exact wpAny_bind (m := Builtin.Tuple.tupleExact _) (wpAny_newObj_type (wpAny_bind (wpAny_pure (wpAny_pure ⟨_, rfl, wpAny_pure h⟩))) hz)
    | exact wpAny_bind (wpAny_bind (m := Builtin.Tuple.tupleExact _) (wpAny_newObj_type (wpAny_pure (wpAny_pure ⟨_, rfl, wpAny_pure h⟩)) hz))
    | exact wpAny_bind (wpAny_bind (m := Builtin.Tuple.tupleExact _) (wpAny_newObj_type (wpAny_pure ⟨_, rfl, wpAny_pure h⟩) hz))
end
/-- xs[::-1] of a list or of a tuple -/
def tRev (K : PySem.W.Frag) (te : TE) : TE := fun σ H Q => te σ H fun x H1 => ∃ a xs, x = .ref a ∧ ((SqL K H1 a xs ∧ ∀ p, H1 p = none → Q (.ref p) (upd H1 p (.lst xs.reverse))) ∨ (SqT K H1 a xs ∧ ∀ p, H1 p = none → Q (.ref p) (upd H1 p (.tup xs.reverse))))
theorem pe_rev {X : Cx} {e : Expr} {te : TE} {k : Nat} {p1 p2 p3 pos : Pos} (he : PE X e te) : PE X (.Subscript e (.Slice none none (some (.UnaryOp .USub (.Constant (.int 1) k p1) p2)) p3) pos) (tRev X.K te) := by
  refine ⟨fun pins s σ H Q I h => Subscript_ (thn (he.run pins s σ H _ I h) ?_)⟩
  rintro v s1 ⟨x, H1, I1, r1, a, xs, rfl, hx⟩
  obtain rfl : v = Value.ref a := r1
  have hst : PO X (some (.UnaryOp .USub (.Constant (.int 1) k p1) p2)) (tPart (tUn (rU fun i => .int (-i)) (tC (.int 1)))) := po_some (pe_un un_neg pe_int)
  refine wpAny_Slice (thn (po_none.run pins s1 σ H1 (fun o H2 => o = none ∧ H1 = H2) I1 ⟨rfl, rfl⟩) ?_)
  rintro vl s2 ⟨l, H2, I2, pl, el, rfl⟩
  refine thn (po_none.run pins s2 σ H1 (fun o H3 => o = none ∧ H1 = H3) I2 ⟨rfl, rfl⟩) ?_
  rintro vu s3 ⟨u, H3, I3, pu, eu, rfl⟩
  refine thn (hst.run pins s3 σ H1 (fun o H4 => o = some (-1) ∧ H1 = H4) I3 ⟨1, rfl, -1, rfl, rfl, rfl⟩) ?_
  rintro vs s4 ⟨o, H4, I4, ps, eo, rfl⟩
  subst el eu eo
  cases pl
  cases pu
  have I5 : Inv X pins σ H1 { s4 with heap := s4.heap.push { cls := .type "slice", data := .fields #[.none, .none, vs] } } := I4.kept (t' := s4.toks) fun b ob q => Heap.get?_push_of_some _ q
  have n5 := I5.hok.fresh (Nat.le_refl _)
  rcases hx with ⟨hx, q⟩ | ⟨hx, q⟩
  · obtain ⟨its, r, ht, hz⟩ := I5.list hx
    have hlen := r.length
    refine tail_any (ops := [.ref a, .ref s4.heap.objs.size]) ht.isList.typeIs (PySem.slot_list_getitem.lookup) ?_ (by with_unfolding_all rfl)
    refine wpAny_getItem_list_slice ht.isList (Heap.IsSliceOf.new _ .none .none vs) .none .none ps (by decide) ?_ (by rw [List.size_toArray]; omega)
    rw [PySem.W.krv_pick]
    refine ⟨.ref _, _, I5.laid (t' := s4.toks) (o := .lst xs.reverse) (fun b ob e => Heap.get?_push_of_some _ e) (Nat.le_refl _) ?_, rfl, q _ n5⟩
    exact ⟨by rw [List.length_reverse]; exact hz, _, 0, r.reverse, Heap.get?_push_size _ rfl⟩
  · obtain ⟨its, r, ht, hz⟩ := I5.tuple hx
    have hlen := r.length
    refine tail_any (ops := [.ref a, .ref s4.heap.objs.size]) ht.typeIs (PyProof.Rows.slot_tuple_getitem.lookup) ?_ (by with_unfolding_all rfl)
    refine getItem_tuple_rev ht (Heap.IsSliceOf.new _ .none .none vs) ps ?_ (by rw [List.size_toArray]; omega)
    refine ⟨.ref _, _, I5.laid (t' := s4.toks) (o := .tup xs.reverse) (fun b ob e => Heap.get?_push_of_some _ e) (Nat.le_refl _) ?_, rfl, q _ n5⟩
    exact ⟨by rw [List.length_reverse]; exact hz, _, r.reverse, IsTup.new _ _⟩
section
variable {T : Text} {X : Cx} {W : WX} {cf : Cfg} {k : Nat} {Z : Addr → Prop} {ρ : List Addr} {S S' : Sto} {σ : L2.St} {H : Hp} {Q Q' : VK} {pins : List (Addr × Obj)} {s : Shared} {va vb vc : Va} {x y z : V} {v u : Value} {Ex : XK}
theorem rev_ok (so : StoOk T.toTx X.K Z ρ H S) (ra : RelW T.toTx X.K Z ρ S H va x) (h : PE3 T X.K (revV va S) Z ρ S H Q Ex) :
    ∃ a xs, x = .ref a ∧ ((SqL X.K H a xs ∧ ∀ p, H p = none → Q (.ref p) (upd H p (.lst xs.reverse))) ∨ (SqT X.K H a xs ∧ ∀ p, H p = none → Q (.ref p) (upd H p (.tup xs.reverse)))) := by
  unfold revV at h
  split at h
  case h_3 => exact h.elim
  case h_1 xs es =>
    obtain ⟨p, vs, rfl, rp, hp⟩ := seq_of so ra es
    rcases hp with ⟨e, _⟩ | ⟨_, hp⟩
    · cases e
    · exact ⟨p, vs, rfl, .inl ⟨hp, fun q hq => fresh_list so rp.reverse hq h⟩⟩
  case h_2 xs es =>
    obtain ⟨p, vs, rfl, rp, hp⟩ := seq_of so ra es
    rcases hp with ⟨_, hp⟩ | ⟨e, _⟩
    · exact ⟨p, vs, rfl, .inr ⟨hp, fun q hq => fresh_tup so rp.reverse hq h⟩⟩
    · cases e
theorem clip_sIx (n d : Nat) (o : Option Int) : clip n d o = HT.sIx n d o := by
  cases o <;> rfl
theorem cut_rel {M : Addr → Prop} {xs : List D} {vs : List V} (r : RelL T.toTx X.K M H xs vs) (lo hi : Option Int) : RelL T.toTx X.K M H (cut xs lo hi) (cutV vs lo hi) := by
  unfold cut cutV
  rw [clip_sIx, clip_sIx, r.1]
  exact (r.drop _).take _
/-- an end of a slice -/
def EndIs (e : E) (x : V) (o : Option Int) : Prop := (e = .con .non ∧ o = none) ∨ (e ≠ .con .non ∧ ∃ i, x = .int i ∧ o = some i)
theorem end_of {e : E} {o : Option Int} (ra : RelW T.toTx X.K Z ρ S H va x) (h : endE e va = some o) : EndIs e x o := by
  unfold endE at h
  split at h
  · cases h; exact .inl ⟨rfl, rfl⟩
  · rename_i hn
    split at h
    · cases h; exact .inr ⟨hn, _, relI ra, rfl⟩
    · cases h
theorem slc_ok {l u : Option Int} (so : StoOk T.toTx X.K Z ρ H S) (ra : RelW T.toTx X.K Z ρ S H va x) (h : PE3 T X.K (slcV va l u S) Z ρ S H Q Ex) : rSlL X.K x l u H Q ∨ rSlT X.K x l u H Q := by
  unfold slcV at h
  split at h
  case h_3 => exact h.elim
  case h_1 xs es =>
    obtain ⟨p, vs, rfl, rp, hp⟩ := seq_of so ra es
    rcases hp with ⟨e, _⟩ | ⟨_, hp⟩
    · cases e
    · exact .inl ⟨p, vs, rfl, hp, fun q hq => fresh_list so (cut_rel rp l u) hq h⟩
  case h_2 xs es =>
    split at h
    case isTrue => exact h.elim
    case isFalse hn =>
    obtain ⟨p, vs, rfl, rp, hp⟩ := seq_of so ra es
    rcases hp with ⟨_, hp⟩ | ⟨e, _⟩
    · refine .inr ⟨p, vs, rfl, hp, ?_, fun q hq => fresh_tup so (cut_rel rp l u) hq h⟩
      rw [← clip_sIx, ← clip_sIx, ← rp.1]
      exact hn
    · cases e
theorem fl_lookup {t : Tx} {K : PySem.W.Frag} {M : Addr → Prop} (inj : ∀ f g, t.nm.fld f = t.nm.fld g → f = g) {f : Nat} {d : D} : ∀ {fs : List (Nat × D)} {fvs : List (Str × V)}, RelF t K M H fs fvs → fs.lookup f = some d → ∃ v, fvs.lookup (t.nm.fld f) = some v ∧ Rel t K M H d v
  | [], _, _, e => by cases e
  | (g, d') :: fs, [], r, _ => by have := r.1; simp at this
  | (g, d') :: fs, (n, w) :: fvs, r, e => by
    have hk : n = t.nm.fld g := by have := r.1; simp at this; exact this.1
    have r' : RelF t K M H fs fvs := ⟨by have := r.1; simp at this; simpa using this.2, fun i q v a b => r.2 (i + 1) q v (by simpa using a) (by simpa using b)⟩
    by_cases hf : f = g
    · subst hf
      simp at e
      subst e
      exact ⟨w, by simp [hk], r.2 0 (f, d') (n, w) rfl rfl⟩
    · have hne : t.nm.fld f ≠ n := fun z => hf (inj f g (z.trans hk))
      have hb : (f == g) = false := by simpa using hf
      have hb2 : (t.nm.fld f == n) = false := by simpa using hne
      rw [List.lookup_cons, hb] at e
      obtain ⟨v, e2, q⟩ := fl_lookup inj r' e
      exact ⟨v, by rw [List.lookup_cons, hb2]; exact e2, q⟩
theorem fld_ok (c : Cc T X W cf k) {f : Nat} (of : T.nm.okl f = true) (so : StoOk T.toTx X.K Z ρ H S) (ra : RelW T.toTx X.K Z ρ S H va x) (h : PE3 T X.K (fldV cf.P va f S) Z ρ S H Q Ex) :
    ∃ a C dx fs v, x = .ref a ∧ H a = some (.ins C dx fs) ∧ Cls X.K C ∧ NoAttr X.K C (T.nm.fld f) ∧ fs.lookup (T.nm.fld f) = some v ∧ Q v H := by
  unfold fldV at h
  split at h
  case h_2 => exact h.elim
  case h_1 ca fs ec =>
  split at h
  case isFalse => exact h.elim
  case isTrue hi =>
  obtain ⟨g, hg⟩ := Option.isSome_iff_exists.mp hi
  rw [c.P] at hg
  have oc := (c.fx.mke _ _ hg).1
  obtain ⟨d, e, h⟩ := ofO_ok h
  obtain ⟨p, dx, fvs, rfl, hp, rf⟩ := cls_of so ra ec
  obtain ⟨w, e2, q⟩ := fl_lookup c.fx.inj rf e
  exact ⟨p, _, dx, fvs, w, rfl, hp, (c.fx.cl _ oc).2, c.fx.na _ _ oc of, e2, okD so q h⟩
/-! ### isinstance -/
def tyVal (T : Text) : Ty → V
  | .int => .ty "int" | .bool => .ty "bool" | .str => .ty "str" | .list => .ty "list" | .tuple => .ty "tuple" | .cls c => .ref (T.ca c)
def tyU (T : Text) : Ty → Value
  | .int => .type "int" | .bool => .type "bool" | .str => .type "str" | .list => .type "list" | .tuple => .type "tuple" | .cls c => .ref (T.ca c)
def tvOf (T : Text) : D → Value
  | .non => .type "NoneType" | .bl _ => .type "bool" | .int _ => .type "int" | .str _ => .type "str" | .tup _ => .type "tuple" | .lst _ => .type "list" | .obj c _ => .ref (T.ca c) | .cls _ => .none
def tyOk (T : Text) : Ty → Bool
  | .cls c => T.nm.okc c
  | _ => true
theorem clsV_of (T : Text) (t : Ty) : ClsV (tyVal T t) (tyU T t) := by
  cases t <;> first | exact .ty _ | exact .own _
theorem tyRel (T : Text) (t : Ty) : RelV (tyVal T t) (tyU T t) := by cases t <;> rfl
theorem kit_one (c : Cc T X W cf k) {d : D} {t : Ty} (kd : knownD T.P d = true) (kt : tyOk T t = true) : PySem.W.kitOne X.K (tvOf T d) (tyU T t) = some (tyD d t T.P) := by
  cases d with
  | cls _ => cases kd
  | obj cc fs =>
    obtain ⟨g, hg⟩ := Option.isSome_iff_exists.mp kd
    have oc := (c.fx.mke _ _ hg).1
    cases t with
    | cls kk => exact c.fx.ty _ _ oc kt
    | _ => exact c.fx.tyb _ oc _ (by simp)
  | non => cases t <;> first | exact c.fx.tyo _ kt _ (by simp) | exact kit_ty (r := true) (by decide +kernel) | exact kit_ty (r := false) (by decide +kernel)
  | bl _ => cases t <;> first | exact c.fx.tyo _ kt _ (by simp) | exact kit_ty (r := true) (by decide +kernel) | exact kit_ty (r := false) (by decide +kernel)
  | int _ => cases t <;> first | exact c.fx.tyo _ kt _ (by simp) | exact kit_ty (r := true) (by decide +kernel) | exact kit_ty (r := false) (by decide +kernel)
  | str _ => cases t <;> first | exact c.fx.tyo _ kt _ (by simp) | exact kit_ty (r := true) (by decide +kernel) | exact kit_ty (r := false) (by decide +kernel)
  | tup _ => cases t <;> first | exact c.fx.tyo _ kt _ (by simp) | exact kit_ty (r := true) (by decide +kernel) | exact kit_ty (r := false) (by decide +kernel)
  | lst _ => cases t <;> first | exact c.fx.tyo _ kt _ (by simp) | exact kit_ty (r := true) (by decide +kernel) | exact kit_ty (r := false) (by decide +kernel)
theorem kit_any (c : Cc T X W cf k) {d : D} (kd : knownD T.P d = true) : ∀ {ts : List Ty}, ts.all (tyOk T) = true → PySem.W.kitAny X.K (tvOf T d) (ts.map (tyU T)) = some (ts.any fun t => tyD d t T.P)
  | [], _ => rfl
  | t :: ts, h => by
    have h' : tyOk T t = true ∧ ts.all (tyOk T) = true := by simpa using h
    rw [List.map_cons, List.any_cons]
    refine kitAny_cons (kit_one c kd h'.1) (fun e => ?_) fun e => by rw [e, Bool.true_or]
    rw [e, Bool.false_or]
    exact kit_any c kd h'.2
theorem tyx_of (c : Cc T X W cf k) {M : Addr → Prop} {d : D} (kd : knownD T.P d = true) (r : Rel T.toTx X.K M H d x) : TyX X.K H x (tvOf T d) := by
  cases r with
  | non => exact .base .non
  | bl b => exact .base (.bl b)
  | int i => exact .base (.int i)
  | str s => exact .base (.str s)
  | tup h l r =>
    rcases h with ⟨h | ⟨o, h⟩, _⟩ | h
    · exact .base (.tup h)
    · exact .fTuple h
    · rcases h with h | ⟨o, its, n, e, cl, _⟩
      · exact (no_rd h).elim
      · exact .kTuple e cl
  | lst h l r =>
    rcases h with ⟨h | ⟨o, h⟩, _⟩ | h
    · exact .base (.lst h)
    · exact .base (.frz h)
    · rcases h with h | ⟨o, its, n, e, cl, _⟩
      · exact (no_rd h).elim
      · exact .kList e cl
  | obj h n kk r =>
    obtain ⟨g, hg⟩ := Option.isSome_iff_exists.mp kd
    have oc := (c.fx.mke _ _ hg).1
    obtain ⟨q1, q2, q3, q4⟩ := c.fx.cli _ oc
    exact .base (.ins h (c.fx.cl _ oc).2 q1 q2 q3 q4)
  | cls _ => cases kd
theorem isV_ty (c : Cc T X W cf k) {ts : List Ty} (so : StoOk T.toTx X.K Z ρ H S) (ra : RelW T.toTx X.K Z ρ S H va x) (h : PE3 T X.K (isV cf.P va ts S) Z ρ S H Q Ex) :
    ∃ d, knownD T.P d = true ∧ TyX X.K H x (tvOf T d) ∧ PE3 T X.K (.ok (.d (.bl (ts.any fun t => tyD d t T.P))) S) Z ρ S H Q Ex := by
  have fin : ∀ {d : D}, PE3 T X.K (isD cf.P d ts S) Z ρ S H Q Ex → knownD T.P d = true ∧ PE3 T X.K (.ok (.d (.bl (ts.any fun t => tyD d t T.P))) S) Z ρ S H Q Ex := fun {d} h => by
    unfold isD at h
    rw [c.P] at h
    split at h
    case isFalse => exact h.elim
    case isTrue hk => exact ⟨hk, h⟩
  unfold isV at h
  split at h
  case h_1 d =>
    obtain ⟨kd, h⟩ := fin h
    exact ⟨d, kd, tyx_of c kd ra, h⟩
  case h_3 => exact h.elim
  case h_2 l =>
    obtain ⟨p, a, rfl⟩ := ra
    split at h
    case h_1 xs hs =>
      obtain ⟨vs, hp, _⟩ := so.ok l _ p hs a
      obtain ⟨kd, h⟩ := fin h
      exact ⟨.lst xs, kd, .base (.lst hp), h⟩
    case h_2 ca fs hs =>
      obtain ⟨dx, fvs, hp, _⟩ := so.ok l _ p hs a
      obtain ⟨kd, h⟩ := fin h
      obtain ⟨g, hg⟩ := Option.isSome_iff_exists.mp kd
      have oc := (c.fx.mke _ _ hg).1
      obtain ⟨q1, q2, q3, q4⟩ := c.fx.cli _ oc
      exact ⟨.obj ca fs, kd, .base (.ins hp (c.fx.cl _ oc).2 q1 q2 q3 q4), h⟩
    case h_3 => exact h.elim
end
end GS
/-! G: each form of expression, by its parts. -/
namespace GS
open PySem PySem.Spec PyProof.Rows L2 G ClX
section
variable {T : Text} {X : Cx} {W : WX} {cf : Cfg} {k : Nat}
def visB (sc : Scope) (x : Str) : Bool := match sc.names.lookup x with
  | some .local => true
  | some .cell => true
  | some .free => true
  | _ => false
def dbgB (x : Str) : Bool := !(x == ("__debug__" : Str)) && !(x == ("__classdict__" : Str))
def varB (N : List Str) (sc : Scope) (i : Nat) (x : Str) : Bool := decide (N[i]? = some x) && visB sc x && dbgB x
def gloB (sc : Scope) (x : Str) : Bool := decide (sc.names.lookup x = some .globalImplicit) && dbgB x
def conB : D → Const → Bool
  | .non, .none => true
  | .bl b, .bool c => b == c
  | .int i, .int j => decide (i = j)
  | .str s, .str t => decide (s = t)
  | _, _ => false
theorem vis_of {sc : Scope} {x : Str} (h : visB sc x = true) : Vis sc x := by
  unfold visB at h
  split at h
  · exact .inl (by assumption)
  · exact .inr (.inl (by assumption))
  · exact .inr (.inr (by assumption))
  · cases h
theorem dbg_of {x : Str} (h : dbgB x = true) : (x == ("__debug__" : Str)) = false ∧ (x == ("__classdict__" : Str)) = false := by
  have h' := Bool.and_eq_true_iff.mp h
  exact ⟨by simpa using h'.1, by simpa using h'.2⟩
theorem glo_of {x : Str} (h : gloB X.env.scope x = true) : Gl X x ∧ (x == ("__debug__" : Str)) = false := by
  have h' := Bool.and_eq_true_iff.mp h
  have e : X.env.scope.names.lookup x = some .globalImplicit := of_decide_eq_true h'.1
  exact ⟨e, (dbg_of h'.2).1⟩
theorem pe_v {i : Nat} {x : Str} {pos : Pos} (h : varB X.N X.env.scope i x = true) : PE X (.Name x pos) (tVar i) := by
  have h' := Bool.and_eq_true_iff.mp h
  have h2 := Bool.and_eq_true_iff.mp h'.1
  exact pe_var (of_decide_eq_true h2.1) (vis_of h2.2) (dbg_of h'.2).1 (dbg_of h'.2).2
theorem s_var {i : Nat} {x : Str} {pos : Pos} (h : varB X.N X.env.scope i x = true) : PE X (.Name x pos) (tE T X W cf (.var i)) := by
  refine peImp (pe_v h) fun σ H Q ⟨Z, env, ρ, S, so, ev, q⟩ => ?_
  rw [evE] at q
  split at q
  case h_2 => exact q.elim
  case h_1 v he =>
  obtain ⟨x, e, r⟩ := ev.2 i v he
  exact ⟨x, e, okW so r q⟩
theorem s_con {d : D} {c : Const} {j : Nat} {pos : Pos} (h : conB d c = true) : PE X (.Constant c j pos) (tE T X W cf (.con d)) := by
  unfold conB at h
  split at h
  · exact peImp pe_non fun σ H Q ⟨Z, env, ρ, S, so, ev, q⟩ => by rw [evE] at q; exact okD so .non q
  · rename_i b b'
    have e : b = b' := by simpa using h
    subst e
    exact peImp pe_bl fun σ H Q ⟨Z, env, ρ, S, so, ev, q⟩ => by rw [evE] at q; exact okD so (.bl b) q
  · rename_i b b'
    have e : b = b' := of_decide_eq_true h
    subst e
    exact peImp pe_int fun σ H Q ⟨Z, env, ρ, S, so, ev, q⟩ => by rw [evE] at q; exact okD so (.int b) q
  · rename_i b b'
    have e : b = b' := of_decide_eq_true h
    subst e
    exact peImp pe_str fun σ H Q ⟨Z, env, ρ, S, so, ev, q⟩ => by rw [evE] at q; exact okD so (.str b) q
  · cases h
theorem s_glb (c : Cc T X W cf k) {g : Nat} {x : Str} {pos : Pos} (ok : T.nm.okg g = true) (e : x = T.nm.gnm g) (h : gloB X.env.scope x = true) : PE X (.Name x pos) (tE T X W cf (.glb g)) := by
  subst e
  obtain ⟨d, v, u, e1, e2, r, q⟩ := c.fx.gl g ok
  refine peImp (pe_glob (glo_of h).1 e2 r (glo_of h).2) fun σ H Q ⟨Z, env, ρ, S, so, ev, z⟩ => ?_
  rw [evE, c.P, e1] at z
  exact okD so (q _ _) z
variable {a b d : E} {p q r : Expr} {pos : Pos}
theorem s_bin (c : Cc T X W cf k) {o : Bop} (ha : PE X p (tE T X W cf a)) (hb : PE X q (tE T X W cf b)) : PE X (.BinOp p (bOf o) q pos) (tE T X W cf (.bin o a b)) := by
  refine ⟨fun pins s σ H Q I ⟨Z, env, ρ, S, so, ev, h⟩ => ?_⟩
  rw [evE] at h
  refine wpAny_BinOp (binT ha hb I (R := fun x y H' => ∃ va vb S', StoOk T.toTx X.K Z ρ H' S' ∧ RelW T.toTx X.K Z ρ S' H' va x ∧ RelW T.toTx X.K Z ρ S' H' vb y ∧ PE3 T X.K (binV cf o va vb S') Z ρ S' H' Q (WE W σ))
    (stepE so ev h fun va x S1 H1 a1 r1 h1 => stepE a1.sto a1.env h1 fun vb y S2 H2 a2 r2 h2 => ⟨va, vb, S2, a2.sto, r1.mono a2.ext, r2, h2⟩) ?_)
  rintro v u s2 x y H2 I2 rx ry ⟨va, vb, S2, so2, r1, r2, h2⟩
  exact binV_ok c so2 r1 r2 I2 rx ry h2
theorem s_neg (ha : PE X p (tE T X W cf a)) : PE X (.UnaryOp .USub p pos) (tE T X W cf (.neg a)) := by
  refine peImp (pe_un un_neg ha) fun σ H Q ⟨Z, env, ρ, S, so, ev, h⟩ => ?_
  rw [evE] at h
  refine stepE so ev h fun va x S1 H1 a1 r1 h1 => ?_
  split at h1
  case h_2 => exact h1.elim
  case h_1 i => exact ⟨i, relI r1, okI a1.sto h1⟩
theorem s_inv (ha : PE X p (tE T X W cf a)) : PE X (.UnaryOp .Invert p pos) (tE T X W cf (.inv a)) := by
  refine peImp (pe_un un_inv ha) fun σ H Q ⟨Z, env, ρ, S, so, ev, h⟩ => ?_
  rw [evE] at h
  refine stepE so ev h fun va x S1 H1 a1 r1 h1 => ?_
  split at h1
  case h_2 => exact h1.elim
  case h_1 i =>
    have q := okI a1.sto h1
    have e : (-i - 1 : Int) = Builtin.bitNot i := by unfold Builtin.bitNot; omega
    rw [e] at q
    exact ⟨i, relI r1, q⟩
theorem s_cmp (c : Cc T X W cf k) {o : Cop} (ha : PE X p (tE T X W cf a)) (hb : PE X q (tE T X W cf b)) (hm : behindInMarks (cOf o) q = false) : PE X (.Compare p [cOf o] [q] pos) (tE T X W cf (.cmp o a b)) := by
  refine ⟨fun pins s σ H Q I ⟨Z, env, ρ, S, so, ev, h⟩ => ?_⟩
  rw [evE] at h
  refine wpAny_Compare1 (binT ha hb I (R := fun x y H' => ∃ va vb S', StoOk T.toTx X.K Z ρ H' S' ∧ RelW T.toTx X.K Z ρ S' H' va x ∧ RelW T.toTx X.K Z ρ S' H' vb y ∧ PE3 T X.K (cmpV cf o va vb S') Z ρ S' H' Q (WE W σ))
    (stepE so ev h fun va x S1 H1 a1 r1 h1 => stepE a1.sto a1.env h1 fun vb y S2 H2 a2 r2 h2 => ⟨va, vb, S2, a2.sto, r1.mono a2.ext, r2, h2⟩) ?_) hm
  rintro v u s2 x y H2 I2 rx ry ⟨va, vb, S2, so2, r1, r2, h2⟩
  exact cmpV_ok c so2 r1 r2 I2 rx ry h2
theorem chV_of {o : Cop} {va vb : Va} {S : Sto} (h : chV cf o va vb S ≠ .bad) : clsV va S = none ∧ chV cf o va vb S = cmpV cf o va vb S := by
  unfold chV at h ⊢
  cases e : clsV va S with
  | none => exact ⟨rfl, rfl⟩
  | some _ => rw [e] at h; exact (h rfl).elim
/-- a comparison's answer is a bool; it raises nothing -/
theorem cmp_bool (c : Cc T X W cf k) {o : Cop} {va vb : Va} {S : Sto} (hnc : clsV va S = none) (h : cmpV cf o va vb S ≠ .bad) : ∃ b, cmpV cf o va vb S = .ok (.d (.bl b)) S := by
  have eqv : ∀ neg, G.eqV cf neg va vb S ≠ .bad → ∃ b, G.eqV cf neg va vb S = .ok (.d (.bl b)) S := fun neg h => by
    unfold G.eqV at h ⊢
    split
    case h_1 ca fa ea =>
      rw [ea] at hnc
      cases hnc
    case h_2 ea =>
      rw [ea] at h
      simp only at h
      split at h
      case h_2 => exact (h rfl).elim
      case h_1 d1 d2 e1 e2 =>
        split at h
        case isFalse => exact (h rfl).elim
        case isTrue hs => exact ⟨_, by rw [if_pos hs]⟩
  have inv : ∀ neg, G.inV neg va vb S ≠ .bad → ∃ b, G.inV neg va vb S = .ok (.d (.bl b)) S := fun neg h => by
    unfold G.inV at h ⊢
    split at h
    case h_2 => exact (h rfl).elim
    case h_1 d _ b xs eb =>
      split at h
      case isFalse => exact (h rfl).elim
      case isTrue hf => exact ⟨_, by simp only [eb, if_pos hf]; rfl⟩
  have isv : ∀ neg, isV2 neg va vb S ≠ .bad → ∃ b, isV2 neg va vb S = .ok (.d (.bl b)) S := fun neg h => by
    unfold isV2 at h ⊢
    split at h
    case h_3 => exact (h rfl).elim
    · exact ⟨_, rfl⟩
    · exact ⟨_, rfl⟩
  have ord : ∀ o, ordV o va vb S ≠ .bad → ∃ b, ordV o va vb S = .ok (.d (.bl b)) S := fun o h => by
    unfold ordV at h ⊢
    split at h
    case h_2 => exact (h rfl).elim
    · rename_i i j _
      cases e : cmpI o i j with
      | none => rw [e] at h; exact (h rfl).elim
      | some b => exact ⟨b, by simp only [R.ofO, Option.map_some]⟩
  cases o with
  | eq => exact eqv _ h
  | ne => exact eqv _ h
  | in_ => exact inv _ h
  | nin => exact inv _ h
  | is_ => exact isv _ h
  | isn => exact isv _ h
  | lt => exact ord _ h
  | le => exact ord _ h
  | gt => exact ord _ h
  | ge => exact ord _ h
theorem ne_bad {rr : R Va} {Z : Addr → Prop} {ρ : List Addr} {S : Sto} {H : Hp} {Q : VK} {Ex : XK} (h : PE3 T X.K rr Z ρ S H Q Ex) : rr ≠ .bad := fun e => by rw [e] at h; exact h
theorem tru_ne {rr : R Va} {Z : Addr → Prop} {ρ : List Addr} {S : Sto} {H : Hp} {P : Bool → Sto → Hp → Prop} {Ex : XK} (h : PG3 T X.K P (tru rr) Z ρ S H Ex) : rr ≠ .bad := fun e => by rw [e] at h; exact h
/-- stl of a comparison -/
theorem stl_bool {o : Bool} {S : Sto} : G.stl (.ok (.d (.bl o)) S) = .ok (.d (.bl o)) S := rfl
/-- a test of a value -/
theorem truStep {rr : R Va} {Z : Addr → Prop} {ρ : List Addr} {S : Sto} {H : Hp} {Q : Bool → Hp → Prop} {Ex : XK} (h : PG3 T X.K (fun b _ H' => Q b H') (tru (G.stl rr)) Z ρ S H Ex) :
    PE3 T X.K rr Z ρ S H (fun x H' => ∃ b, TruV X.K x H' b ∧ Q b H') Ex := by
  refine PE3.stl ?_
  generalize hr : G.stl rr = t at h
  cases t with
  | bad => exact h
  | ex c fs S' => exact h
  | ok v S' =>
    have h' : PG3 T X.K (fun b _ H' => Q b H') (match truV v S' with | some b => .ok b S' | none => .bad) Z ρ S H Ex := h
    cases e : truV v S' with
    | none => rw [e] at h'; exact h'.elim
    | some b =>
      rw [e] at h'
      cases v with
      | f c => exact (stl_nf hr).elim
      | d x => exact fun y H' ex rel => ⟨b, truV_ok ex.sto rel e, h' H' ex⟩
      | r l => exact fun y H' ex rel => ⟨b, truV_ok ex.sto rel e, h' H' ex⟩
theorem s_tst (he : ∀ whole, isTrue p X.env whole = (do let v ← whole; standAt p.pos; holding [v] (truthy v))) (ha : PE X p (tE T X W cf a)) :
    PT X p (fun σ H Q => ∃ Z env ρ S, StoOk T.toTx X.K Z ρ H S ∧ EnvOk T.toTx X.K Z ρ S H env σ ∧ PG3 T X.K (fun b _ H' => Q b H') (tru (G.stl (evE a cf env S))) Z ρ S H (WE W σ)) :=
  ptImp (pt_truth ha he) fun σ H Q ⟨Z, env, ρ, S, so, ev, h⟩ => ⟨Z, env, ρ, S, so, ev, truStep h⟩
/-- a comparison as a test -/
theorem s_cmpT (c : Cc T X W cf k) {o : Cop} (ha : PE X p (tE T X W cf a)) (hb : PE X q (tE T X W cf b)) (hm : behindInMarks (cOf o) q = false) :
    PT X (.Compare p [cOf o] [q] pos) (fun σ H Q => ∃ Z env ρ S, StoOk T.toTx X.K Z ρ H S ∧ EnvOk T.toTx X.K Z ρ S H env σ ∧ PG3 T X.K (fun b _ H' => Q b H') (tru (G.stl (evE (.cmp o a b) cf env S))) Z ρ S H (WE W σ)) := by
  refine ⟨fun pins s σ H Q I ⟨Z, env, ρ, S, so, ev, h⟩ => ?_⟩
  have h := truStep h
  rw [evE] at h
  refine wpAny_isTrue_Compare1 (thn (ha.run pins s σ H (fun x H' => ∃ va S', At T X Z env ρ σ S H S' H' ∧ RelW T.toTx X.K Z ρ S' H' va x ∧ PE3 T X.K ((G.stl (evE b cf env S')).bind fun vb S2 => cmpV cf o va vb S2) Z ρ S' H' (fun x H' => ∃ b, TruV X.K x H' b ∧ Q b H') (WE W σ))
    I (stepE so ev h fun va x S1 H1 a1 r1 h1 => ⟨va, S1, a1, r1, h1⟩)) ?_) hm
  rintro v s1 ⟨x, H1, I1, rx, va, S1, a1, r1, h1⟩
  refine thn (hb.run pins s1 σ H1 (fun y H' => ∃ vb S', At T X Z env ρ σ S1 H1 S' H' ∧ RelW T.toTx X.K Z ρ S' H' vb y ∧ PE3 T X.K (cmpV cf o va vb S') Z ρ S' H' (fun x H' => ∃ b, TruV X.K x H' b ∧ Q b H') (WE W σ))
    I1 (stepE a1.sto a1.env h1 fun vb y S2 H2 a2 r2 h2 => ⟨vb, S2, a2, r2, h2⟩)) ?_
  rintro u s2 ⟨y, H2, I2, ry, vb, S2, a2, r2, h2⟩
  refine thn (cmpV_ok c a2.sto (r1.mono a2.ext) r2 I2 rx ry h2) ?_
  rintro cc s3 ⟨z, H3, I3, rz, bb, tv, hq⟩
  exact tru_ok _ _ _ _ _ _ _ I3 rz ⟨bb, tv, hq⟩
/-- a op b op' c -/
theorem s_chn (c : Cc T X W cf k) {o o' : Cop} (ha : PE X p (tE T X W cf a)) (hb : PE X q (tE T X W cf b)) (hc : PE X r (tE T X W cf d)) (hm : lastMarks [cOf o, cOf o'] [q, r] = false) :
    PE X (.Compare p [cOf o, cOf o'] [q, r] pos) (tE T X W cf (.chn o o' a b d)) := by
  refine ⟨fun pins s σ H Q I ⟨Z, env, ρ, S, so, ev, h⟩ => ?_⟩
  rw [evE] at h
  refine Compare_chain (thn (ha.run pins s σ H (fun x H' => ∃ va S', At T X Z env ρ σ S H S' H' ∧ RelW T.toTx X.K Z ρ S' H' va x ∧ PE3 T X.K ((G.stl (evE b cf env S')).bind fun vb S2 => (chV cf o va vb S2).bind fun k S3 => (match k with
        | .d (.bl true) => (G.stl (evE d cf env S3)).bind fun vc S4 => cmpV cf o' vb vc S4
        | .d (.bl false) => .ok (.d (.bl false)) S3
        | _ => .bad)) Z ρ S' H' Q (WE W σ))
    I (stepE so ev h fun va x S1 H1 a1 r1 h1 => ⟨va, S1, a1, r1, h1⟩)) ?_) hm
  rintro v s1 ⟨x, H1, I1, rx, va, S1, a1, r1, h1⟩
  refine chain_link (thn (hb.run pins s1 σ H1 (fun y H' => ∃ vb S', At T X Z env ρ σ S1 H1 S' H' ∧ RelW T.toTx X.K Z ρ S' H' vb y ∧ PE3 T X.K ((chV cf o va vb S').bind fun k S3 => (match k with
        | .d (.bl true) => (G.stl (evE d cf env S3)).bind fun vc S4 => cmpV cf o' vb vc S4
        | .d (.bl false) => .ok (.d (.bl false)) S3
        | _ => .bad)) Z ρ S' H' Q (WE W σ))
    I1 (stepE a1.sto a1.env h1 fun vb y S2 H2 a2 r2 h2 => ⟨vb, S2, a2, r2, h2⟩)) ?_)
  rintro u s2 ⟨y, H2, I2, ry, vb, S2, a2, r2, h2⟩
  have hch : chV cf o va vb S2 ≠ .bad := fun e => by rw [e] at h2; exact h2
  obtain ⟨hnc, hce⟩ := chV_of hch
  rw [hce] at h2
  have hne : cmpV cf o va vb S2 ≠ .bad := fun e => by rw [e] at h2; exact h2
  obtain ⟨bb, eb⟩ := cmp_bool c hnc hne
  rw [eb] at h2
  have first : PE3 T X.K (cmpV cf o va vb S2) Z ρ S2 H2 (fun z H' => z = .bl bb ∧ Ext T.toTx X.K Z ρ S2 H2 ρ S2 H') (WE W σ) := by
    rw [eb]
    intro z H' ex rel
    exact ⟨relB rel, ex⟩
  refine thn (cmpV_ok c a2.sto (r1.mono a2.ext) r2 I2 rx ry first) ?_
  rintro cc s3 ⟨z, H3, I3, rz, rfl, ex⟩
  obtain rfl : cc = Value.bool bb := rz
  refine wpAny_truthy_bool ?_
  cases bb with
  | false => exact ite_ff ⟨.bl false, H3, I3, rfl, h2 (.bl false) H3 ex (.bl false)⟩
  | true =>
    have h3 : PE3 T X.K ((G.stl (evE d cf env S2)).bind fun vc S4 => cmpV cf o' vb vc S4) Z ρ S2 H3 Q (WE W σ) := PE3.base ex h2
    refine ite_tt (chain_last (thn (hc.run pins s3 σ H3 (fun w H' => ∃ vc S', At T X Z env ρ σ S2 H3 S' H' ∧ RelW T.toTx X.K Z ρ S' H' vc w ∧ PE3 T X.K (cmpV cf o' vb vc S') Z ρ S' H' Q (WE W σ)) I3
      (stepE ex.sto (a2.env.mono ex) h3 fun vc w S4 H4 a4 r4 h4 => ⟨vc, S4, a4, r4, h4⟩)) ?_))
    rintro w s4 ⟨z', H4, I4, r4, vc, S4, a4, rr, h4⟩
    exact cmpV_ok c a4.sto ((r2.mono ex).mono a4.ext) rr I4 ry r4 h4
theorem s_chnT (c : Cc T X W cf k) {o o' : Cop} (ha : PE X p (tE T X W cf a)) (hb : PE X q (tE T X W cf b)) (hc : PE X r (tE T X W cf d)) (hm : lastMarks [cOf o, cOf o'] [q, r] = false) :
    PT X (.Compare p [cOf o, cOf o'] [q, r] pos) (fun σ H Q => ∃ Z env ρ S, StoOk T.toTx X.K Z ρ H S ∧ EnvOk T.toTx X.K Z ρ S H env σ ∧ PG3 T X.K (fun b _ H' => Q b H') (tru (G.stl (evE (.chn o o' a b d) cf env S))) Z ρ S H (WE W σ)) := by
  refine ⟨fun pins s σ H Q I ⟨Z, env, ρ, S, so, ev, h⟩ => ?_⟩
  have h := truStep h
  rw [evE] at h
  refine isTrue_chain (thn (ha.run pins s σ H (fun x H' => ∃ va S', At T X Z env ρ σ S H S' H' ∧ RelW T.toTx X.K Z ρ S' H' va x ∧ PE3 T X.K ((G.stl (evE b cf env S')).bind fun vb S2 => (chV cf o va vb S2).bind fun k S3 => (match k with
        | .d (.bl true) => (G.stl (evE d cf env S3)).bind fun vc S4 => cmpV cf o' vb vc S4
        | .d (.bl false) => .ok (.d (.bl false)) S3
        | _ => .bad)) Z ρ S' H' (fun x H' => ∃ b, TruV X.K x H' b ∧ Q b H') (WE W σ))
    I (stepE so ev h fun va x S1 H1 a1 r1 h1 => ⟨va, S1, a1, r1, h1⟩)) ?_) hm
  rintro v s1 ⟨x, H1, I1, rx, va, S1, a1, r1, h1⟩
  refine test_link (thn (hb.run pins s1 σ H1 (fun y H' => ∃ vb S', At T X Z env ρ σ S1 H1 S' H' ∧ RelW T.toTx X.K Z ρ S' H' vb y ∧ PE3 T X.K ((chV cf o va vb S').bind fun k S3 => (match k with
        | .d (.bl true) => (G.stl (evE d cf env S3)).bind fun vc S4 => cmpV cf o' vb vc S4
        | .d (.bl false) => .ok (.d (.bl false)) S3
        | _ => .bad)) Z ρ S' H' (fun x H' => ∃ b, TruV X.K x H' b ∧ Q b H') (WE W σ))
    I1 (stepE a1.sto a1.env h1 fun vb y S2 H2 a2 r2 h2 => ⟨vb, S2, a2, r2, h2⟩)) ?_)
  rintro u s2 ⟨y, H2, I2, ry, vb, S2, a2, r2, h2⟩
  have hch : chV cf o va vb S2 ≠ .bad := fun e => by rw [e] at h2; exact h2
  obtain ⟨hnc, hce⟩ := chV_of hch
  rw [hce] at h2
  have hne : cmpV cf o va vb S2 ≠ .bad := fun e => by rw [e] at h2; exact h2
  obtain ⟨bb, eb⟩ := cmp_bool c hnc hne
  rw [eb] at h2
  have first : PE3 T X.K (cmpV cf o va vb S2) Z ρ S2 H2 (fun z H' => z = .bl bb ∧ Ext T.toTx X.K Z ρ S2 H2 ρ S2 H') (WE W σ) := by
    rw [eb]
    intro z H' ex rel
    exact ⟨relB rel, ex⟩
  refine thn (cmpV_ok c a2.sto (r1.mono a2.ext) r2 I2 rx ry first) ?_
  rintro cc s3 ⟨z, H3, I3, rz, rfl, ex⟩
  obtain rfl : cc = Value.bool bb := rz
  refine wpAny_truthy_bool ?_
  cases bb with
  | false =>
    obtain ⟨b', tv, q⟩ := h2 (.bl false) H3 ex (.bl false)
    have e : b' = false := tv
    subst e
    exact ite_ff ⟨H3, I3, q⟩
  | true =>
    have h3 : PE3 T X.K ((G.stl (evE d cf env S2)).bind fun vc S4 => cmpV cf o' vb vc S4) Z ρ S2 H3 (fun x H' => ∃ b, TruV X.K x H' b ∧ Q b H') (WE W σ) := PE3.base ex h2
    refine ite_tt (test_last (thn (hc.run pins s3 σ H3 (fun w H' => ∃ vc S', At T X Z env ρ σ S2 H3 S' H' ∧ RelW T.toTx X.K Z ρ S' H' vc w ∧ PE3 T X.K (cmpV cf o' vb vc S') Z ρ S' H' (fun x H' => ∃ b, TruV X.K x H' b ∧ Q b H') (WE W σ)) I3
      (stepE ex.sto (a2.env.mono ex) h3 fun vc w S4 H4 a4 r4 h4 => ⟨vc, S4, a4, r4, h4⟩)) ?_))
    rintro w s4 ⟨z', H4, I4, r4, vc, S4, a4, rr, h4⟩
    refine thn (cmpV_ok c a4.sto ((r2.mono ex).mono a4.ext) rr I4 ry r4 h4) ?_
    rintro cc s5 ⟨z5, H5, I5, r5, b5, tv, q5⟩
    exact tru_ok _ _ _ _ _ _ _ I5 r5 ⟨b5, tv, q5⟩
end
end GS
/-! G: more forms of expressions. -/
namespace GS
open PySem PySem.Spec PyProof.Rows L2 G ClX
section
variable {T : Text} {X : Cx} {W : WX} {cf : Cfg} {k : Nat} {a b d : E} {p q r : Expr} {pos : Pos}
/-! ### not, and, or, if -/
theorem s_not (ha : PT X p (tT T X W cf a)) (hv : PE X (.UnaryOp .Not p pos) (tE T X W cf (.not a))) : True := trivial
theorem s_and {rest : List Expr} (ha : PE X p (tE T X W cf a)) (hb : PE X (.BoolOp .And (q :: rest) pos) (tE T X W cf b)) : PE X (.BoolOp .And (p :: q :: rest) pos) (tE T X W cf (.and a b)) := by
  refine peImp (pe_and ha hb) fun σ H Q ⟨Z, env, ρ, S, so, ev, h⟩ => ?_
  rw [evE] at h
  refine stepE so ev h fun va x S1 H1 a1 r1 h1 => ?_
  split at h1
  case h_1 => exact ⟨true, relB r1, lastE a1.sto a1.env h1⟩
  case h_2 => exact ⟨false, relB r1, okB a1.sto h1⟩
  case h_3 => exact h1.elim
theorem s_or {rest : List Expr} (ha : PE X p (tE T X W cf a)) (hb : PE X (.BoolOp .Or (q :: rest) pos) (tE T X W cf b)) : PE X (.BoolOp .Or (p :: q :: rest) pos) (tE T X W cf (.or a b)) := by
  refine peImp (pe_or ha hb) fun σ H Q ⟨Z, env, ρ, S, so, ev, h⟩ => ?_
  rw [evE] at h
  refine stepE so ev h fun va x S1 H1 a1 r1 h1 => ?_
  split at h1
  case h_1 => exact ⟨false, relB r1, lastE a1.sto a1.env h1⟩
  case h_2 => exact ⟨true, relB r1, okB a1.sto h1⟩
  case h_3 => exact h1.elim
theorem s_andT {rest : List Expr} (ha : PT X p (tT T X W cf a)) (hb : PT X (.BoolOp .And (q :: rest) pos) (tT T X W cf b)) : PT X (.BoolOp .And (p :: q :: rest) pos) (tT T X W cf (.and a b)) := by
  have hw : PW X (.BoolOp .And (q :: rest) pos) (tT T X W cf b) := ⟨fun _ pins s σ H Q I h => hb.run pins s σ H Q I h⟩
  refine ptImp (pw_and ha hw).pt fun σ H Q ⟨Z, env, ρ, S, so, ev, h⟩ => ?_
  rw [evT] at h
  refine stepTG so ev h fun v S1 H1 a1 h1 => ?_
  cases v with
  | true => exact ⟨Z, env, ρ, S1, a1.sto, a1.env, h1⟩
  | false => exact h1 H1 (.refl a1.sto)
theorem s_orT {rest : List Expr} (ha : PT X p (tT T X W cf a)) (hb : PT X (.BoolOp .Or (q :: rest) pos) (tT T X W cf b)) : PT X (.BoolOp .Or (p :: q :: rest) pos) (tT T X W cf (.or a b)) := by
  have hw : PW X (.BoolOp .Or (q :: rest) pos) (tT T X W cf b) := ⟨fun _ pins s σ H Q I h => hb.run pins s σ H Q I h⟩
  refine ptImp (pw_or ha hw).pt fun σ H Q ⟨Z, env, ρ, S, so, ev, h⟩ => ?_
  rw [evT] at h
  refine stepTG so ev h fun v S1 H1 a1 h1 => ?_
  cases v with
  | true => exact h1 H1 (.refl a1.sto)
  | false => exact ⟨Z, env, ρ, S1, a1.sto, a1.env, h1⟩
theorem s_oneT {op : BoolOp} (ha : PT X p (tT T X W cf a)) : PT X (.BoolOp op [p] pos) (tT T X W cf a) := by
  cases op with
  | And => exact (pw_and1 ha).pt
  | Or => exact (pw_or1 ha).pt
theorem s_notT (ha : PT X p (tT T X W cf a)) : PT X (.UnaryOp .Not p pos) (tT T X W cf (.not a)) := by
  refine ptImp (pt_not ha) fun σ H Q ⟨Z, env, ρ, S, so, ev, h⟩ => ?_
  rw [evT] at h
  exact stepTG so ev h fun v S1 H1 a1 h1 => h1 H1 (.refl a1.sto)
theorem s_ife {c : E} {pc : Expr} (hc : PT X pc (tT T X W cf c)) (ha : PE X p (tE T X W cf a)) (hb : PE X q (tE T X W cf b)) : PE X (.IfExp pc p q pos) (tE T X W cf (.ife c a b)) := by
  refine peImp (pe_ifExp hc ha hb) fun σ H Q ⟨Z, env, ρ, S, so, ev, h⟩ => ?_
  rw [evE] at h
  refine stepT so ev h fun v S1 H1 a1 h1 => ?_
  cases v with
  | true => exact iteT (lastE a1.sto a1.env h1)
  | false => exact iteF (lastE a1.sto a1.env h1)
/-- not as a value: whatever is behind it, by truth -/
theorem s_notE (ha : PE X p (tE T X W cf a)) : PE X (.UnaryOp .Not p pos) (tE T X W cf (.not a)) := by
  refine ⟨fun pins s σ H Q I ⟨Z, env, ρ, S, so, ev, h⟩ => ?_⟩
  rw [evE] at h
  have h' : PG3 T X.K (fun b S' H' => PE3 T X.K (.ok (.d (.bl (!b))) S') Z ρ S' H' Q (WE W σ) ∧ StoOk T.toTx X.K Z ρ H' S') (tru (G.stl (evE a cf env S))) Z ρ S H (WE W σ) :=
    (PG3.bindE h).mono fun v S' H' z => ⟨z.2, z.1.sto⟩
  have h2 : PG3 T X.K (fun b _ H' => Q (.bl (!b)) H') (tru (G.stl (evE a cf env S))) Z ρ S H (WE W σ) := h'.mono fun v S' H' z => okB z.2 z.1
  refine UnaryOp_ (thn (ha.run pins s σ H _ I ⟨Z, env, ρ, S, so, ev, truStep h2⟩) ?_)
  rintro v s1 ⟨x, H1, I1, rx, bb, tv, hq⟩
  have nt := tru_ok (X := X) pins s1 σ H1 x v (fun k H' => Q (.bl (!k)) H') I1 rx ⟨bb, tv, hq⟩
  exact not_of (thn nt fun z s2 ⟨H2, I2, q2⟩ => ⟨.bl (!z), H2, I2, rfl, q2⟩)
/-! ### displays, subscripts -/
theorem dats_rel {Z : Addr → Prop} {ρ : List Addr} {S : Sto} {H : Hp} : ∀ {vs : List Va} {xs : List V} {l : List D}, RelWs T.toTx X.K Z ρ S H vs xs → dats vs = some l → RelL T.toTx X.K (Live Z ρ S) H l xs
  | [], [], _, _, e => by cases e; exact .nil
  | [], _ :: _, _, h, _ => h.elim
  | v :: vs, [], _, h, _ => h.elim
  | v :: vs, x :: xs, l, h, e => by
    cases v with
    | d y =>
      have e' : (match dats vs with | some l => some (y :: l) | none => none) = some l := e
      split at e'
      case h_2 => cases e'
      case h_1 l2 e2 =>
      cases e'
      exact .cons h.1 (dats_rel h.2 e2)
    | r _ => cases e
    | f _ => cases e
theorem s_tup {es : List E} {ps : List Expr} {x1 : Nat} (h : PA X ps (tL T X W cf es)) : PE X (.Tuple ps x1 pos) (tE T X W cf (.tup es)) := by
  refine peImp (pe_tup h) fun σ H Q ⟨Z, env, ρ, S, so, ev, h⟩ => ?_
  rw [evE] at h
  refine stepL so ev h fun vs xs S1 H1 a1 r1 h1 => ?_
  split at h1
  case h_2 => exact h1.elim
  case h_1 l el =>
  split at h1
  case isFalse => exact h1.elim
  case isTrue hz =>
  have r := dats_rel r1 el
  exact ⟨by rw [← ll, ← r.1]; exact hz, fun t ht => fresh_tup a1.sto r ht h1⟩
theorem s_lst {es : List E} {ps : List Expr} (h : PA X ps (tL T X W cf es)) : PE X (.List ps pos) (tE T X W cf (.lst es)) := by
  refine peImp (pe_lst h) fun σ H Q ⟨Z, env, ρ, S, so, ev, h⟩ => ?_
  rw [evE] at h
  refine stepL so ev h fun vs xs S1 H1 a1 r1 h1 => ?_
  split at h1
  case h_2 => exact h1.elim
  case h_1 l el =>
  split at h1
  case isFalse => exact h1.elim
  case isTrue hz =>
  have r := dats_rel r1 el
  exact ⟨by rw [← ll, ← r.1]; exact hz, fun t ht => fresh_list a1.sto r ht h1⟩
theorem s_nil : PA X [] (tL T X W cf []) := paImp pa_nil fun σ H Q ⟨Z, env, ρ, S, so, ev, h⟩ => by
  rw [evL] at h
  exact h H (.refl so) [] trivial rfl
def nostar : Expr → Bool
  | .Starred _ _ => false
  | _ => true
theorem star_of {ps : List Expr} {env : Env} (h : nostar p = true) : starEach (p :: ps) env = (false, eval p env) :: starEach ps env := by
  cases p <;> first | rfl | cases h
theorem s_cons {e : E} {es : List E} {ps : List Expr} (hn : nostar p = true) (he : PE X p (tE T X W cf e)) (hr : PA X ps (tL T X W cf es)) : PA X (p :: ps) (tL T X W cf (e :: es)) := by
  refine paImp (pa_cons he hr (star_of hn)) fun σ H Q ⟨Z, env, ρ, S, so, ev, h⟩ => ?_
  rw [evL] at h
  refine stepG so ev h fun v x S1 H1 a1 r1 h1 => ?_
  exact stepLGn a1.sto a1.env h1 fun vs xs S2 H2 a2 r2 hl h2 => h2 H2 (.refl a2.sto) (x :: xs) ⟨r1.mono a2.ext, r2⟩ (by rw [List.length_cons, List.length_cons, hl])
theorem plain_of : ∀ {ps : List Expr} {env : Env} {pos : Pos}, ps.all nostar = true → (backTo pos (starEach ps env)).any (·.1) = false
  | [], _, _, _ => rfl
  | p :: ps, env, pos, h => by
    have h' : nostar p = true ∧ ps.all nostar = true := by simpa using h
    rw [star_of h'.1]
    show (false || (backTo pos (starEach ps env)).any (·.1)) = false
    rw [plain_of h'.2]; rfl
theorem few_of : ∀ {ps : List Expr} {env : Env} {pos : Pos}, ps.all nostar = true → (backTo pos (starEach ps env)).all (fun x => !x.1) = true
  | [], _, _, _ => rfl
  | p :: ps, env, pos, h => by
    have h' : nostar p = true ∧ ps.all nostar = true := by simpa using h
    rw [star_of h'.1]
    show (true && (backTo pos (starEach ps env)).all (fun x => !x.1)) = true
    rw [few_of h'.2]; rfl
def noslice : Expr → Bool
  | .Slice _ _ _ _ => false
  | _ => true
theorem plainIx_of (h : noslice p = true) : PlainIx p := by
  cases p <;> first | exact fun _ _ => rfl | cases h
theorem s_idx (ha : PE X p (tE T X W cf a)) (hb : PE X q (tE T X W cf b)) (hs : noslice q = true) : PE X (.Subscript p q pos) (tE T X W cf (.idx a b)) := by
  refine peImp (pe_ix ix_seq ha hb (plainIx_of hs)) fun σ H Q ⟨Z, env, ρ, S, so, ev, h⟩ => ?_
  rw [evE] at h
  exact stepE so ev h fun va x S1 H1 a1 r1 h1 => stepE a1.sto a1.env h1 fun vb y S2 H2 a2 r2 h2 => idx_ok a2.sto (r1.mono a2.ext) r2 h2
theorem s_rev {kk : Nat} {p1 p2 p3 : Pos} (ha : PE X p (tE T X W cf a)) : PE X (.Subscript p (.Slice none none (some (.UnaryOp .USub (.Constant (.int 1) kk p1) p2)) p3) pos) (tE T X W cf (.rev a)) := by
  refine peImp (pe_rev ha) fun σ H Q ⟨Z, env, ρ, S, so, ev, h⟩ => ?_
  rw [evE] at h
  exact stepE so ev h fun va x S1 H1 a1 r1 h1 => rev_ok a1.sto r1 h1
/-- a part of a slice -/
theorem s_part (e : E) {o : Option Expr} (h : (o = none ∧ e = .con .non) ∨ ∃ q, o = some q ∧ e ≠ .con .non ∧ PE X q (tE T X W cf e)) : PO X o (fun σ H Q => ∃ Z env ρ S, StoOk T.toTx X.K Z ρ H S ∧ EnvOk T.toTx X.K Z ρ S H env σ ∧
    PE3 T X.K (G.stl (evE e cf env S)) Z ρ S H (fun x H' => ∃ u, EndIs e x u ∧ Q u H') (WE W σ)) := by
  rcases h with ⟨rfl, rfl⟩ | ⟨q, rfl, hne, hq⟩
  · refine ⟨fun pins s σ H Q I ⟨Z, env, ρ, S, so, ev, h⟩ => po_none.run pins s σ H Q I ?_⟩
    rw [evE] at h
    obtain ⟨u, e, q⟩ := okD so .non h
    rcases e with ⟨_, rfl⟩ | ⟨e, _⟩
    · exact q
    · exact (e rfl).elim
  · refine ⟨fun pins s σ H Q I ⟨Z, env, ρ, S, so, ev, h⟩ => (po_some hq).run pins s σ H Q I ?_⟩
    refine ⟨Z, env, ρ, S, so, ev, h.stl.mono ?_⟩
    rintro x H' ⟨u, e, hQ⟩
    rcases e with ⟨e, _⟩ | ⟨_, i, e1, rfl⟩
    · exact (hne e).elim
    · exact ⟨i, e1, hQ⟩
theorem s_slc {lo hi : E} {l u : Option Expr} {p2 : Pos} (ha : PE X p (tE T X W cf a)) (hl : (l = none ∧ lo = .con .non) ∨ ∃ q, l = some q ∧ lo ≠ .con .non ∧ PE X q (tE T X W cf lo)) (hu : (u = none ∧ hi = .con .non) ∨ ∃ q, u = some q ∧ hi ≠ .con .non ∧ PE X q (tE T X W cf hi)) :
    PE X (.Subscript p (.Slice l u none p2) pos) (tE T X W cf (.slc a lo hi)) := by
  refine peImp (pe_slice (sl_list.or sl_tup) ha (s_part lo hl) (s_part hi hu)) fun σ H Q ⟨Z, env, ρ, S, so, ev, h⟩ => ?_
  rw [evE] at h
  refine stepE so ev h fun va x S1 H1 a1 r1 h1 => ?_
  refine ⟨Z, env, ρ, S1, a1.sto, a1.env, (PE3.bind h1).mono ?_⟩
  rintro y H2 ⟨vl, S2, _, e2, r2, h2⟩
  split at h2
  case h_1 => exact h2.elim
  case h_2 l' el =>
  refine ⟨l', end_of r2 el, Z, env, ρ, S2, e2.sto, a1.env.mono e2, (PE3.bind h2).mono ?_⟩
  rintro z H3 ⟨vh, S3, _, e3, r3, h3⟩
  split at h3
  case h_1 => exact h3.elim
  case h_2 u' eu => exact ⟨u', end_of r3 eu, slc_ok e3.sto ((r1.mono e2).mono e3) h3⟩
/-! ### attributes, calls -/
def nocall : Expr → Bool
  | .Call _ _ _ _ => false
  | _ => true
theorem base_of {f : Str} {env : Env} {w : Sem Value} (h : nocall p = true) : attributeBase p f env w = w := by
  cases p <;> first | rfl | cases h
/-- no bare call -/
def nosup : Expr → Bool
  | .Call _ [] [] _ => false
  | _ => true
theorem base_sup {f : Str} {env : Env} {w : Sem Value} (h : nosup p = true) : attributeBase p f env w = w := by
  cases p with
  | Call g as ks q =>
    cases as with
    | nil =>
      cases ks with
      | nil => cases h
      | cons _ _ => cases g <;> rfl
    | cons _ _ => cases g <;> rfl
  | _ => rfl
theorem s_fld (c : Cc T X W cf k) {f : Nat} {x : Str} (of : T.nm.okl f = true) (e : x = T.nm.fld f) (hn : nosup p = true) (ha : PE X p (tE T X W cf a)) : PE X (.Attribute p x pos) (tE T X W cf (.fld a f)) := by
  subst e
  refine peImp (pe_fld ha (base_sup hn)) fun σ H Q ⟨Z, env, ρ, S, so, ev, h⟩ => ?_
  rw [evE] at h
  exact stepE so ev h fun va x S1 H1 a1 r1 h1 => fld_ok c of a1.sto r1 h1
theorem no_name : ∀ x ∈ bnames, x ≠ ("__name__" : Str) ∧ (x == ("__debug__" : Str)) = false := by decide +kernel
/-- a call of a builtin by its name, by values -/
theorem s_blt (c : Cc T X W cf k) {x : Str} {f : Value} {ps : List Expr} {es : List E} {p0 : Pos} {e : E} (hx : x ∈ bnames) (hv : bootBuiltins x = some f) (ht : (∃ i, f = .builtin i) ∨ ∃ n, f = .type n) (hg : gloB X.env.scope x = true) (hs : (p :: ps).all nostar = true) (hl : PA X (p :: ps) (tL T X W cf es))
    (h : ∀ (pins : List (Addr × Obj)) (s : Shared) (σ : L2.St) (H : Hp) (Q : VK) (Z : Addr → Prop) (env : Frm) (ρ : List Addr) (S : Sto), StoOk T.toTx X.K Z ρ H S → EnvOk T.toTx X.K Z ρ S H env σ → PE3 T X.K (evE e cf env S) Z ρ S H Q (WE W σ) →
      tL T X W cf es σ H fun xs H' => ∀ s' us, Inv X pins σ H' s' → Vals xs us → wpAny (model X.prog X.w) X.A (call f us) (EP X pins σ Q) X.xe s') :
    PE X (.Call (.Name x p0) (p :: ps) [] pos) (tE T X W cf e) := by
  have hs' : nostar p = true ∧ ps.all nostar = true := by simpa using hs
  refine ⟨fun pins s σ H Q I ⟨Z, env, ρ, S, so, ev, q⟩ => ?_⟩
  refine wpAny_Call_Name_kw (ld_blt I (glo_of hg).1 (c.fx.blt x hx) hv ?_ (no_name x hx).1 (no_name x hx).2)
  have run := hl.run pos pins s σ H _ I (h pins s σ H Q Z env ρ S so ev q)
  rcases ht with ⟨i, rfl⟩ | ⟨n, rfl⟩
  · exact PyProof.Rows.callWith_builtin1 (thn run fun us s1 ⟨vs, H1, I1, r1, q1⟩ => q1 s1 us I1 r1) (star_of hs'.1) (plain_of hs'.2)
  · exact PyProof.Rows.callWith_type1 (thn run fun us s1 ⟨vs, H1, I1, r1, q1⟩ => q1 s1 us I1 r1) (star_of hs'.1) (plain_of hs'.2)
theorem s_call (c : Cc T X W cf k) {f : Nat} {x : Str} {ps : List Expr} {es : List E} {p0 : Pos} (of : T.nm.okf f = true) (e : x = T.nm.fnm f) (hg : gloB X.env.scope x = true) (hs : (p :: ps).all nostar = true) (hl : PA X (p :: ps) (tL T X W cf es)) :
    PE X (.Call (.Name x p0) (p :: ps) [] pos) (tE T X W cf (.call f es)) := by
  subst e
  have hs' : nostar p = true ∧ ps.all nostar = true := by simpa using hs
  refine ⟨fun pins s σ H Q I ⟨Z, env, ρ, S, so, ev, h⟩ => ?_⟩
  rw [evE] at h
  refine wpAny_Call_Name_kw (ld_glob I (glo_of hg).1 (c.fx.fn f of).1 ?_ (glo_of hg).2)
  refine PySem.W.callWith_K (h₀ := X.base) I.ok.mod.kin (c.fx.fn f of).2 (thn (hl.run pos pins s σ H
    (fun xs H' => ∃ vs S', StoOk T.toTx X.K Z ρ H' S' ∧ RelWs T.toTx X.K Z ρ S' H' vs xs ∧ PE3 T X.K (cf.call f vs S') Z ρ S' H' Q (WE W σ)) I (stepL so ev h fun vs xs S1 H1 a1 r1 h1 => ⟨vs, S1, a1.sto, r1, h1⟩)) ?_) (star_of hs'.1) (plain_of hs'.2)
  rintro us s1 ⟨xs, H1, I1, rv, vs, S1, so1, r1, h1⟩
  exact ⟨I1.kIn, runF c so1 r1 I1 rv h1⟩
theorem s_call0 (c : Cc T X W cf k) {f : Nat} {x : Str} {p0 : Pos} (of : T.nm.okf f = true) (e : x = T.nm.fnm f) (hg : gloB X.env.scope x = true) : PE X (.Call (.Name x p0) [] [] pos) (tE T X W cf (.call f [])) := by
  subst e
  refine ⟨fun pins s σ H Q I ⟨Z, env, ρ, S, so, ev, h⟩ => ?_⟩
  rw [evE, evL] at h
  refine wpAny_Call_Name_kw (ld_glob I (glo_of hg).1 (c.fx.fn f of).1 ?_ (glo_of hg).2)
  exact PySem.W.callWith_K0 I.kIn (c.fx.fn f of).2 (runF (us := []) (vs := []) (ds := []) c so trivial I .nil h)
end
end GS
/-! G: calls that make, methods, builtins. -/
namespace GS
open PySem PySem.Spec PyProof.Rows L2 G ClX
section
variable {t : Tx} {K : PySem.W.Frag} {Z : Addr → Prop} {ρ ρ' : List Addr} {S S' : Sto} {H H' : Hp}
theorem live_take (hl : ρ.length = S.length) {e : List Addr} (q : Addr) (h : Live Z ρ (S'.take S.length) q) : Live Z (ρ ++ e) S' q := by
  rcases h with h | ⟨l, c, a, b, lv⟩
  · exact .inl h
  · have hlt : l < ρ.length := (List.getElem?_eq_some_iff.mp a).1
    rw [List.getElem?_take_of_lt (by omega)] at b
    exact .inr ⟨l, c, by rw [List.getElem?_append_left hlt]; exact a, b, lv⟩
/-- the new cells are let go -/
theorem Ext.take (hl : ρ.length = S.length) {e : List Addr} (x : Ext t K Z ρ S H (ρ ++ e) S' H') : Ext t K Z ρ S H ρ (S'.take S.length) H' := by
  have hl' : (ρ ++ e).length = S'.length := x.sto.len
  rw [List.length_append] at hl'
  have sb : Sub (Live Z ρ (S'.take S.length)) (Live Z (ρ ++ e) S') H' := fun q h => .inl (live_take hl q h)
  refine ⟨x.stay, fun q h => x.sub q (live_take hl q h), ⟨by rw [List.length_take]; omega, (List.nodup_append.mp x.sto.nd).1, fun l c p a b => ?_, fun p z => ⟨(x.sto.hid p z).1, fun m => (x.sto.hid p z).2 (List.mem_append_left _ m)⟩⟩, ⟨[], by simp⟩, x.hid⟩
  have hlt : l < ρ.length := (List.getElem?_eq_some_iff.mp b).1
  rw [List.getElem?_take_of_lt (by omega)] at a
  have z := x.sto.ok l c p a (by rw [List.getElem?_append_left hlt]; exact b)
  cases c with
  | lst xs => obtain ⟨vs, e, r⟩ := z; exact ⟨vs, e, r.mono (.refl _ _) sb⟩
  | ins c fs => obtain ⟨dx, fvs, e, r⟩ := z; exact ⟨dx, fvs, e, r.mono (.refl _ _) sb⟩
  | dead => exact z
theorem take_sub (hl : ρ.length = S.length) {e : List Addr} : Sub (Live Z ρ (S'.take S.length)) (Live Z (ρ ++ e) S') H' := fun q h => .inl (live_take hl q h)
/-- a new cell as a step -/
theorem Ext.snoc {c : Ce} {p : Addr} {o : HO} (so : StoOk t K Z ρ H S) (n : H p = none) (new : CellOk t K (Live Z (ρ ++ [p]) (S ++ [c])) (upd H p o) c p) : Ext t K Z ρ S H (ρ ++ [p]) (S ++ [c]) (upd H p o) :=
  ⟨fun q u e _ => (upd_ne (ne_of_none e n)).trans e, sub_snoc so n, so.snoc n new, ⟨[p], rfl⟩, fun q z => upd_ne fun e => by
    obtain ⟨u, w⟩ := (so.hid q z).1
    rw [e, n] at w; cases w⟩
end
section
variable {T : Text} {X : Cx} {W : WX} {cf : Cfg} {k : Nat} {Z : Addr → Prop} {ρ : List Addr} {S S' : Sto} {σ : L2.St} {H : Hp} {Q Q' : VK} {pins : List (Addr × Obj)} {s : Shared} {a b d : E} {p q r : Expr} {pos : Pos}
theorem ExcD.take {e : List Addr} {c : Nat} {fs : List D} {dd : Option Addr} {H' : Hp} (hl : ρ.length = S.length) (h : ExcD T X.K Z (ρ ++ e) S' H' c fs dd) : ExcD T X.K Z ρ (S'.take S.length) H' c fs dd := by
  obtain ⟨ns, e1, e2, h⟩ := h
  refine ⟨ns, e1, e2, ?_⟩
  rcases h with h | ⟨d2, fvs, e3, e4, h⟩
  · exact .inl h
  · exact .inr ⟨d2, fvs, e3, e4, fun f x el => let ⟨v, e5, r⟩ := h f x el; ⟨v, e5, r.mono (.refl _ _) (take_sub hl)⟩⟩
theorem runMake (c : Cc T X W cf k) {cc f : Nat} (hf : T.P.ini cc = some f) {ds : List Va} {vs : List V} {us : List Value} (so : StoOk T.toTx X.K Z ρ H S) (rs : RelWs T.toTx X.K Z ρ S H ds vs) (I : Inv X pins σ H s) (r : Vals vs us)
    (h : PE3 T X.K (mkV cf cc ds S) Z ρ S H Q (WE W σ)) : wpAny (model X.prog X.w) X.A (call (.ref (T.ca cc)) us) (EP X pins σ Q) X.xe s := by
  obtain ⟨oc, M⟩ := c.fx.mke _ _ hf
  have hl : ρ.length = S.length := so.len
  have nx : H (s.heap.objs.size + 1) = none := I.hok.fresh (Nat.le_succ _)
  have nd : H s.heap.objs.size = none := I.hok.fresh (Nat.le_refl _)
  have I2 := Inv.made (C := T.ca cc) I
  have e1 : Ext T.toTx X.K Z ρ S H ρ S (upd H s.heap.objs.size (.own (s.heap.objs.size + 1))) := Ext.new so nd
  have nx1 : (upd H s.heap.objs.size (.own (s.heap.objs.size + 1))) (s.heap.objs.size + 1) = none := by
    rw [upd_ne (Nat.succ_ne_self _)]; exact nx
  have e2 : Ext T.toTx X.K Z ρ S H (ρ ++ [s.heap.objs.size + 1]) (S ++ [.ins cc []]) (upd (upd H s.heap.objs.size (.own (s.heap.objs.size + 1))) (s.heap.objs.size + 1) (.ins (T.ca cc) s.heap.objs.size [])) :=
    e1.trans (Ext.snoc e1.sto nx1 ⟨_, [], upd_same, rfl, fun i q v a => by simp at a⟩)
  have r2 : Vals (V.ref (s.heap.objs.size + 1) :: vs) (Value.ref (s.heap.objs.size + 1) :: us) := .cons rfl r
  unfold mkV at h
  rw [c.P, hf] at h
  simp only at h
  have hne : cf.call f (.r S.length :: ds) (S ++ [.ins cc []]) ≠ .bad := fun e => by rw [e] at h; exact h
  have F := c.fn f ⟨_, _, hne⟩
  have sp : spC T X.K cf.call f (V.ref (s.heap.objs.size + 1) :: vs) (upd (upd H s.heap.objs.size (.own (s.heap.objs.size + 1))) (s.heap.objs.size + 1) (.ins (T.ca cc) s.heap.objs.size []))
      (fun v H' => v = .non ∧ Q (.ref (s.heap.objs.size + 1)) H') (WE W σ) := by
    refine ⟨Z, _, _, .r S.length :: ds, e2.sto, ⟨⟨_, by rw [← hl]; simp, rfl⟩, rs.mono e2⟩, ?_⟩
    generalize cf.call f (.r S.length :: ds) (S ++ [.ins cc []]) = r0 at h
    cases r0 with
    | bad => exact h.elim
    | ex kk fs S2 =>
      intro dd H3 e3 ed
      obtain ⟨ee, he⟩ := (e2.trans e3).pre
      exact h dd H3 (Ext.take hl (e2.trans e3)) (ExcD.take hl ed)
    | ok v S2 =>
      cases v with
      | d y =>
        cases y with
        | non =>
          simp only at h
          intro y H3 e3 rel
          refine ⟨relN rel, ?_⟩
          cases hc : S2[S.length]? with
          | none => rw [hc] at h; exact h.elim
          | some ce =>
            rw [hc] at h
            cases ce with
            | ins c' fs =>
              simp only at h
              split at h
              case isFalse => exact h.elim
              case isTrue e =>
              subst e
              have e4 := e2.trans e3
              have hl2 : (ρ ++ [s.heap.objs.size + 1]).length = S2.length := e3.sto.len
              have hS : S2.take S.length ++ [.ins c' fs] = S2 := by
                have h3 : S.length < S2.length := (List.getElem?_eq_some_iff.mp hc).1
                have h4 : S2[S.length] = .ins c' fs := (List.getElem?_eq_some_iff.mp hc).2
                rw [← h4, List.take_append_getElem h3, List.take_of_length_le (by simp at hl2; omega)]
              refine h _ H3 nx e4.stay (fun q lv => e4.sub q (live_take hl q lv)) e4.hid ?_
              rw [hS]
              exact e3.sto
            | lst _ => exact h.elim
            | dead => exact h.elim
        | _ => exact h.elim
      | r _ => exact h.elim
      | f _ => exact h.elim
  refine wpAny_call (make_map (f := T.fa f) I.kIn M.makes M.init (beq_iff_eq.mp M.fn) (codeAny_mono (F _ X.stack _ _ _ _ _ _ (c.room.make (T.ca cc) us []) (I2.env0.make (T.ca cc) us []) r2 sp) ?_))
  intro res s' hq
  cases res with
  | error e => exact passAt c.tk σ pins _ _ e s' I2 hq
  | ok fl =>
    cases fl with
    | ret u =>
      obtain ⟨v, H', I3, rv, ev, q3⟩ := I2.after hq
      subst ev
      exact ⟨rv, ⟨V.ref (s.heap.objs.size + 1), H', I3, rfl, q3⟩⟩
    | next => exact False.elim hq
    | brk => exact False.elim hq
    | cont => exact False.elim hq
theorem mk_ini {cc : Nat} {ds : List Va} {Ex : XK} (c : Cc T X W cf k) (h : PE3 T X.K (mkV cf cc ds S) Z ρ S H Q Ex) : ∃ f, T.P.ini cc = some f := by
  unfold mkV at h
  rw [c.P] at h
  split at h
  · exact ⟨_, by assumption⟩
  · exact h.elim
theorem s_mk (c : Cc T X W cf k) {cc : Nat} {x : Str} {ps : List Expr} {es : List E} {p0 : Pos} (ok : T.nm.okc cc = true) (e : x = T.nm.cnm cc) (hg : gloB X.env.scope x = true) (hs : (p :: ps).all nostar = true) (hi : (T.P.ini cc).isSome = true) (hl : PA X (p :: ps) (tL T X W cf es)) :
    PE X (.Call (.Name x p0) (p :: ps) [] pos) (tE T X W cf (.mk cc es)) := by
  subst e
  have hs' : nostar p = true ∧ ps.all nostar = true := by simpa using hs
  obtain ⟨f, hf⟩ := Option.isSome_iff_exists.mp hi
  refine ⟨fun pins s σ H Q I ⟨Z, env, ρ, S, so, ev, h⟩ => ?_⟩
  rw [evE] at h
  refine wpAny_Call_Name_kw (ld_glob I (glo_of hg).1 (c.fx.cl cc ok).1 ?_ (glo_of hg).2)
  refine PySem.W.callWith_K (h₀ := X.base) I.ok.mod.kin (c.fx.mke _ _ hf).2.kp (thn (hl.run pos pins s σ H
    (fun xs H' => ∃ vs S', StoOk T.toTx X.K Z ρ H' S' ∧ RelWs T.toTx X.K Z ρ S' H' vs xs ∧ PE3 T X.K (mkV cf cc vs S') Z ρ S' H' Q (WE W σ)) I (stepL so ev h fun vs xs S1 H1 a1 r1 h1 => ⟨vs, S1, a1.sto, r1, h1⟩)) ?_) (star_of hs'.1) (plain_of hs'.2)
  rintro us s1 ⟨xs, H1, I1, rv, vs, S1, so1, r1, h1⟩
  exact ⟨I1.kIn, runMake c hf so1 r1 I1 rv h1⟩
theorem s_mkv (c : Cc T X W cf k) {i cc : Nat} {x : Str} {ps : List Expr} {es : List E} {p0 : Pos} (hv : varB X.N X.env.scope i x = true) (hs : (p :: ps).all nostar = true) (hi : (T.P.ini cc).isSome = true) (hl : PA X (p :: ps) (tL T X W cf es)) :
    PE X (.Call (.Name x p0) (p :: ps) [] pos) (tE T X W cf (.mkv i cc es)) := by
  have hs' : nostar p = true ∧ ps.all nostar = true := by simpa using hs
  obtain ⟨f, hf⟩ := Option.isSome_iff_exists.mp hi
  refine ⟨fun pins s σ H Q I ⟨Z, env, ρ, S, so, ev, h⟩ => ?_⟩
  rw [evE] at h
  split at h
  case h_2 => exact h.elim
  case h_1 c' he =>
  split at h
  case isFalse => exact h.elim
  case isTrue e =>
  subst e
  obtain ⟨y, ey, ry⟩ := ev.2 i _ he
  have ey' : y = .ref (T.ca c') := by cases (show Rel _ _ _ _ _ _ from ry); rfl
  subst ey'
  refine wpAny_Call_Name_kw (thn ((pe_v hv).run pins s σ H (fun v H' => v = .ref (T.ca c') ∧ H' = H) I ⟨_, ey, rfl, rfl⟩) ?_)
  rintro u s0 ⟨_, H0, I0, ru, rfl, rfl⟩
  obtain rfl : u = Value.ref (T.ca c') := ru
  refine PySem.W.callWith_K (h₀ := X.base) I0.ok.mod.kin (c.fx.mke _ _ hf).2.kp (thn (hl.run pos pins s0 σ H0
    (fun xs H' => ∃ vs S', StoOk T.toTx X.K Z ρ H' S' ∧ RelWs T.toTx X.K Z ρ S' H' vs xs ∧ PE3 T X.K (mkV cf c' vs S') Z ρ S' H' Q (WE W σ)) I0 (stepL so ev h fun vs xs S1 H1 a1 r1 h1 => ⟨vs, S1, a1.sto, r1, h1⟩)) ?_) (star_of hs'.1) (plain_of hs'.2)
  rintro us s1 ⟨xs, H1, I1, rv, vs, S1, so1, r1, h1⟩
  exact ⟨I1.kIn, runMake c hf so1 r1 I1 rv h1⟩
end
end GS
/-! G: method calls. -/
namespace GS
open PySem PySem.Spec PyProof.Rows L2 G ClX
def plO (o : Expr) (env : Env) : Sem Bool := do return (← importBound o env).getD true
theorem meth_form {o : Expr} {m : Str} {apos pos : Pos} {args : List Expr} {env : Env} (hn : nocall o = true) (hs : args.all nostar = true) (hl : args.length < 30) (hp : (apos.endLine == pos.line) = true) :
    eval (.Call (.Attribute o m apos) args [] pos) env = (do
      let ov ← eval o env
      standAt apos.atName
      let (f, first) ← holding [ov] (getMethod ov m (plO o env))
      callWith pos f first (backTo pos (starEach args env)) (backToKw pos (keywordEach [] env))) := by
  have e1 : eval (.Call (.Attribute o m apos) args [] pos) env = (do
      let ov ← attributeBase o m env (eval o env)
      standAt apos.atName
      methodCall o m apos pos env ov (args.length + ([] : List Keyword).length) (backTo pos (starEach args env)) (backToKw pos (keywordEach [] env))) := by
    with_unfolding_all rfl
  rw [e1, base_of hn]
  have e2 : methodCallForm (args.length + ([] : List Keyword).length) (backTo pos (starEach args env)) (backToKw pos (keywordEach [] env)) = true := by
    unfold methodCallForm
    rw [few_of hs]
    have e3 : (backToKw pos (keywordEach [] env)) = [] := rfl
    rw [e3]
    simp only [List.all_nil, List.isEmpty_nil, if_true, List.length_nil, Bool.true_and]
    exact decide_eq_true (by omega)
  congr 1
  funext ov
  congr 1
  funext _
  unfold methodCall calleeOf methodCallPos
  rw [e2]
  simp only [if_true, hp, Bool.not_true, Bool.false_or]
  congr 1
section
variable {T : Text} {X : Cx} {W : WX} {cf : Cfg} {k : Nat} {a b d : E} {p q r : Expr} {pos apos : Pos}
theorem s_met (c : Cc T X W cf k) {cc f : Nat} {m : Str} {ps : List Expr} {es : List E} (ok : T.nm.okm cc f = true) (e : m = T.nm.mnm f) (nf : ∀ g, T.nm.fld g ≠ m) (hn : nocall r = true) (hs : (p :: ps).all nostar = true) (hlen : (p :: ps).length < 30) (hp : (apos.endLine == pos.line) = true)
    (ho : PE X r (tE T X W cf a)) (hl : PA X (p :: ps) (tL T X W cf es)) : PE X (.Call (.Attribute r m apos) (p :: ps) [] pos) (tE T X W cf (.met cc f a es)) := by
  subst e
  have hs' : nostar p = true ∧ ps.all nostar = true := by simpa using hs
  obtain ⟨oc, M⟩ := c.fx.me _ _ ok
  refine ⟨fun pins s σ H Q I ⟨Z, env, ρ, S, so, ev, h⟩ => ?_⟩
  rw [evE] at h
  refine PySem.W.methodCall_KW (pl := plO r X.env) (thn (ho.run pins s σ H (fun x H' => ∃ va S' c' fs, At T X Z env ρ σ S H S' H' ∧ RelW T.toTx X.K Z ρ S' H' va x ∧ clsV va S' = some (c', fs) ∧ c' = cc ∧ PE3 T X.K ((evL es cf env S').bind fun vs S2 => cf.call f (va :: vs) S2) Z ρ S' H' Q (WE W σ)) I
    (stepE so ev h fun va x S1 H1 a1 r1 h1 => ?_)) ?_) (meth_form hn hs hlen hp)
  · split at h1
    case h_2 => exact h1.elim
    case h_1 c' fs ec =>
    split at h1
    case isFalse => exact h1.elim
    case isTrue e => exact ⟨va, S1, c', fs, a1, r1, ec, e, h1⟩
  · rintro u s1 ⟨x, H1, I1, rx, va, S1, c', fs, a1, r1, ec, rfl, h1⟩
    obtain ⟨ad, dx, fvs, rfl, hp1, rf⟩ := cls_of a1.sto r1 ec
    obtain rfl : u = Value.ref ad := rx
    have nl : fvs.lookup (T.nm.mnm f) = none := by
      cases hl2 : fvs.lookup (T.nm.mnm f) with
      | none => rfl
      | some v =>
        exfalso
        have hm : T.nm.mnm f ∈ fvs.map (·.1) := by
          have : ∀ (l : List (Str × V)), l.lookup (T.nm.mnm f) = some v → T.nm.mnm f ∈ l.map (·.1) := by
            intro l
            induction l with
            | nil => intro e; cases e
            | cons q l ih =>
              intro e
              rw [List.lookup_cons] at e
              split at e
              · rename_i hq
                simp [(beq_iff_eq.mp hq)]
              · exact List.mem_cons_of_mem _ (ih e)
          exact this _ hl2
        rw [rf.1] at hm
        obtain ⟨g, _, hg⟩ := List.mem_map.mp hm
        exact nf _ hg
    refine getmeth_ok I1 hp1 (c.fx.cl _ oc).2 M nl ?_
    refine PySem.W.callWith_K (first := [.ref ad]) (h₀ := X.base) I.ok.mod.kin M.kp (thn (hl.run pos pins s1 σ H1
      (fun xs H' => ∃ vs S', StoOk T.toTx X.K Z ρ H' S' ∧ RelWs T.toTx X.K Z ρ S' H' (va :: vs) (.ref ad :: xs) ∧ PE3 T X.K (cf.call f (va :: vs) S') Z ρ S' H' Q (WE W σ)) I1
      (stepL a1.sto a1.env h1 fun vs xs S2 H2 a2 r2 h2 => ⟨vs, S2, a2.sto, ⟨r1.mono a2.ext, r2⟩, h2⟩)) ?_) (star_of hs'.1) (plain_of hs'.2)
    rintro us s2 ⟨xs, H2, I2, rv, vs, S2, so2, r2, h2⟩
    exact ⟨I2.kIn, runF (us := .ref ad :: us) c so2 r2 I2 (.cons rfl rv) h2⟩
theorem s_met0 (c : Cc T X W cf k) {cc f : Nat} {m : Str} (ok : T.nm.okm cc f = true) (e : m = T.nm.mnm f) (nf : ∀ g, T.nm.fld g ≠ m) (hn : nocall r = true) (hp : (apos.endLine == pos.line) = true)
    (ho : PE X r (tE T X W cf a)) : PE X (.Call (.Attribute r m apos) [] [] pos) (tE T X W cf (.met cc f a [])) := by
  subst e
  obtain ⟨oc, M⟩ := c.fx.me _ _ ok
  refine ⟨fun pins s σ H Q I ⟨Z, env, ρ, S, so, ev, h⟩ => ?_⟩
  rw [evE] at h
  refine PySem.W.methodCall_KW (pl := plO r X.env) (thn (ho.run pins s σ H (fun x H' => ∃ va S' c' fs, At T X Z env ρ σ S H S' H' ∧ RelW T.toTx X.K Z ρ S' H' va x ∧ clsV va S' = some (c', fs) ∧ c' = cc ∧ PE3 T X.K ((evL [] cf env S').bind fun vs S2 => cf.call f (va :: vs) S2) Z ρ S' H' Q (WE W σ)) I
    (stepE so ev h fun va x S1 H1 a1 r1 h1 => ?_)) ?_) (meth_form hn rfl (by decide) hp)
  · split at h1
    case h_2 => exact h1.elim
    case h_1 c' fs ec =>
    split at h1
    case isFalse => exact h1.elim
    case isTrue e => exact ⟨va, S1, c', fs, a1, r1, ec, e, h1⟩
  · rintro u s1 ⟨x, H1, I1, rx, va, S1, c', fs, a1, r1, ec, rfl, h1⟩
    obtain ⟨ad, dx, fvs, rfl, hp1, rf⟩ := cls_of a1.sto r1 ec
    obtain rfl : u = Value.ref ad := rx
    have nl : fvs.lookup (T.nm.mnm f) = none := by
      cases hl2 : fvs.lookup (T.nm.mnm f) with
      | none => rfl
      | some v =>
        exfalso
        have hm : T.nm.mnm f ∈ fvs.map (·.1) := by
          have : ∀ (l : List (Str × V)), l.lookup (T.nm.mnm f) = some v → T.nm.mnm f ∈ l.map (·.1) := by
            intro l
            induction l with
            | nil => intro e; cases e
            | cons q l ih =>
              intro e
              rw [List.lookup_cons] at e
              split at e
              · rename_i hq
                simp [(beq_iff_eq.mp hq)]
              · exact List.mem_cons_of_mem _ (ih e)
          exact this _ hl2
        rw [rf.1] at hm
        obtain ⟨g, _, hg⟩ := List.mem_map.mp hm
        exact nf _ hg
    refine getmeth_ok I1 hp1 (c.fx.cl _ oc).2 M nl ?_
    rw [evL] at h1
    exact PySem.W.callWith_K0 (first := [.ref ad]) I1.kIn M.kp (runF (us := [.ref ad]) (vs := [.ref ad]) (ds := [va]) c a1.sto ⟨r1, trivial⟩ I1 (.cons rfl .nil) h1)
/-- C.m(..), m a classmethod -/
theorem s_cm (c : Cc T X W cf k) {cc f : Nat} {m x : Str} {ps : List Expr} {es : List E} {p0 : Pos} (ok : T.nm.okk cc f = true) (e : m = T.nm.mnm f) (ex : x = T.nm.cnm cc) (hg : gloB X.env.scope x = true) (hs : (p :: ps).all nostar = true) (hlen : (p :: ps).length < 30) (hp : (apos.endLine == pos.line) = true)
    (hl : PA X (p :: ps) (tL T X W cf es)) : PE X (.Call (.Attribute (.Name x p0) m apos) (p :: ps) [] pos) (tE T X W cf (.cm cc f es)) := by
  subst e ex
  have hs' : nostar p = true ∧ ps.all nostar = true := by simpa using hs
  obtain ⟨oc, mc, rec, cr, cm⟩ := c.fx.cm _ _ ok
  refine ⟨fun pins s σ H Q I ⟨Z, env, ρ, S, so, ev, h⟩ => ?_⟩
  rw [evE] at h
  refine PySem.W.methodCall_KW (pl := plO (.Name (T.nm.cnm cc) p0) X.env) (ld_glob I (glo_of hg).1 (c.fx.cl cc oc).1 ?_ (glo_of hg).2) (meth_form rfl hs hlen hp)
  refine getmethcm_ok I cr cm fun s2 I2 => ?_
  refine callwith_cm I2 (base_none I (Nat.le_refl _)) cm.fi (thn (hl.run pos _ s2 σ H
      (fun xs H' => ∃ vs S', StoOk T.toTx X.K Z ρ H' S' ∧ RelWs T.toTx X.K Z ρ S' H' (.d (.cls cc) :: vs) (.ref (T.ca cc) :: xs) ∧ PE3 T X.K (cf.call f (.d (.cls cc) :: vs) S') Z ρ S' H' Q (WE W σ)) I2
      (stepL so ev h fun vs xs S2 H2 a2 r2 h2 => ⟨vs, S2, a2.sto, ⟨.cls cc, r2⟩, h2⟩)) ?_) (star_of hs'.1) (plain_of hs'.2)
  rintro us s3 ⟨xs, H3, I3, rv, vs, S3, so3, r3, h3⟩
  have hne : cf.call f (.d (.cls cc) :: vs) S3 ≠ .bad := ne_bad h3
  have z := runA (c.fn f ⟨_, _, hne⟩) (c.room.mono (Nat.le_succ k)) I3.env0 c.tk I3 (us := .ref (T.ca cc) :: us) (vs := .ref (T.ca cc) :: xs) (.cons rfl rv) ⟨Z, ρ, S3, _, so3, r3, h3⟩
  exact ⟨⟨pin_at I3, I3.kIn⟩, thn (wpAny_call (PySem.W.method_call (pin_at I3) z)) fun _ _ y => unpinE y⟩
end
end GS
/-! G: methods of lists, built-in functions, isinstance. -/
namespace GS
open PySem PySem.Spec PyProof.Rows L2 G ClX
section
variable {T : Text} {X : Cx} {W : WX} {cf : Cfg} {k : Nat} {Z : Addr → Prop} {ρ : List Addr} {S S' : Sto} {σ : L2.St} {H : Hp} {Q Q' : VK} {va vb : Va} {vs : List Va} {x y : V} {xs : List V} {Ex : XK} {a b d : E} {p q r : Expr} {pos apos : Pos}
theorem cell_of {l : Nat} {ys : List D} (so : StoOk T.toTx X.K Z ρ H S) (ra : RelW T.toTx X.K Z ρ S H (.r l) x) (hs : S[l]? = some (.lst ys)) : ∃ p ws, x = .ref p ∧ ρ[l]? = some p ∧ H p = some (.lst ws) ∧ RelL T.toTx X.K (Live Z ρ S) H ys ws := by
  obtain ⟨p, a, rfl⟩ := ra
  obtain ⟨ws, e, r⟩ := so.ok l _ p hs a
  exact ⟨p, ws, rfl, a, e, r⟩
theorem cellL_of {l : Nat} {f : List D → R Va} (h : PE3 T X.K (cellL S l f) Z ρ S H Q Ex) : ∃ ys, S[l]? = some (.lst ys) ∧ PE3 T X.K (f ys) Z ρ S H Q Ex := by
  unfold cellL at h
  split at h
  · exact ⟨_, by assumption, h⟩
  · exact h.elim
/-- a list written, None given back -/
theorem okWrite {l : Nat} {p : Addr} {ys : List D} {c : Ce} {zs : List D} {ws : List V} (so : StoOk T.toTx X.K Z ρ H S) (a : ρ[l]? = some p) (hs : S[l]? = some c) (lv : Ce.live c = true) (r : RelL T.toTx X.K (Live Z ρ S) H zs ws)
    (h : PE3 T X.K (.ok (.d .non) (S.set l (.lst zs))) Z ρ S H Q Ex) : Q .non (upd H p (.lst ws)) := h .non _ (Ext.writeL so a hs lv r) .non
theorem app_ok (so : StoOk T.toTx X.K Z ρ H S) (ra : RelW T.toTx X.K Z ρ S H va x) (rs : RelWs T.toTx X.K Z ρ S H vs xs) (h : PE3 T X.K (appV va vs S) Z ρ S H Q Ex) : rAppend x xs H Q := by
  unfold appV at h
  split at h
  case h_2 => exact h.elim
  case h_1 l d =>
  obtain ⟨ys, hs, h⟩ := cellL_of h
  split at h
  case isFalse => exact h.elim
  case isTrue hz =>
  obtain ⟨p, ws, rfl, ha, hp, rl⟩ := cell_of so ra hs
  match xs, rs with
  | [z], rs =>
    exact ⟨p, ws, z, rfl, rfl, hp, by rw [← ll, ← rl.1]; exact hz, okWrite (ys := ys) so ha hs rfl (rl.snoc rs.1) h⟩
theorem pop_ok (so : StoOk T.toTx X.K Z ρ H S) (ra : RelW T.toTx X.K Z ρ S H va x) (rs : RelWs T.toTx X.K Z ρ S H vs xs) (h : PE3 T X.K (popV va vs S) Z ρ S H Q Ex) : rPop x xs H Q := by
  unfold popV at h
  split at h
  case h_2 => exact h.elim
  case h_1 l =>
  obtain ⟨ys, hs, h⟩ := cellL_of h
  split at h
  case h_2 => exact h.elim
  case h_1 d hd =>
  obtain ⟨p, ws, rfl, ha, hp, rl⟩ := cell_of so ra hs
  match xs, rs with
  | [], rs =>
    obtain ⟨w, e, rw'⟩ := rl.get hd
    rw [rl.1] at e
    have rd : RelL T.toTx X.K (Live Z ρ S) H ys.dropLast ws.dropLast := by
      rw [List.dropLast_eq_take, List.dropLast_eq_take, rl.1]
      exact rl.take _
    have ex := Ext.writeL so ha hs rfl rd
    exact ⟨p, ws, w, rfl, rfl, hp, e, h w _ ex (rw'.mono ex.stay ex.sub)⟩
theorem rvs_ok (so : StoOk T.toTx X.K Z ρ H S) (ra : RelW T.toTx X.K Z ρ S H va x) (rs : RelWs T.toTx X.K Z ρ S H vs xs) (h : PE3 T X.K (rvsV va vs S) Z ρ S H Q Ex) : rReverse x xs H Q := by
  unfold rvsV at h
  split at h
  case h_2 => exact h.elim
  case h_1 l =>
  obtain ⟨ys, hs, h⟩ := cellL_of h
  obtain ⟨p, ws, rfl, ha, hp, rl⟩ := cell_of so ra hs
  match xs, rs with
  | [], rs => exact ⟨p, ws, rfl, rfl, hp, okWrite (ys := ys) so ha hs rfl rl.reverse h⟩
theorem relL_erase {M : Addr → Prop} {ys : List D} {ws : List V} (r : RelL T.toTx X.K M H ys ws) (i : Nat) : RelL T.toTx X.K M H (ys.eraseIdx i) (ws.eraseIdx i) := by
  rw [List.eraseIdx_eq_take_drop_succ, List.eraseIdx_eq_take_drop_succ]
  exact (r.take i).append (r.drop (i + 1))
theorem popAt_ok (so : StoOk T.toTx X.K Z ρ H S) (ra : RelW T.toTx X.K Z ρ S H va x) (rs : RelWs T.toTx X.K Z ρ S H vs xs) (h : PE3 T X.K (popAtV va vs S) Z ρ S H Q Ex) : rPopAt x xs H Q := by
  unfold popAtV at h
  split at h
  case h_2 => exact h.elim
  case h_1 l i =>
  obtain ⟨ys, hs, h⟩ := cellL_of h
  split at h
  case isFalse => exact h.elim
  case isTrue hi =>
  split at h
  case h_2 => exact h.elim
  case h_1 d hd =>
  obtain ⟨p, ws, rfl, ha, hp, rl⟩ := cell_of so ra hs
  match xs, rs with
  | [z], rs =>
    obtain rfl := relI rs.1
    obtain ⟨w, e, rw'⟩ := rl.get hd
    have hlt : i.toNat < ws.length := (List.getElem?_eq_some_iff.mp e).1
    have ex := Ext.writeL so ha hs rfl (relL_erase rl i.toNat)
    have hlt2 : i < (ws.length : Int) := by omega
    have e1 : seqIndex? i ws.length = some i.toNat := by
      have := atI_get (atI_nat e)
      rw [Int.toNat_of_nonneg hi.1] at this
      obtain ⟨j, e1, _⟩ := this
      rw [e1]
      unfold seqIndex? at e1
      split at e1
      · omega
      · have e1' : (if (decide (0 ≤ i) && decide (i < (ws.length : Int))) = true then some i.toNat else none) = some j := e1
        rw [if_pos (by simp; omega)] at e1'
        exact e1'.symm
    have e63 : (2 : Int) ^ 63 = 9223372036854775808 := by decide
    exact ⟨p, ws, i, i.toNat, w, rfl, rfl, hp, by rw [e63]; omega, by rw [e63]; omega, e1, e, h w _ ex (rw'.mono ex.stay ex.sub)⟩
theorem ins_ok (so : StoOk T.toTx X.K Z ρ H S) (ra : RelW T.toTx X.K Z ρ S H va x) (rs : RelWs T.toTx X.K Z ρ S H vs xs) (h : PE3 T X.K (insV va vs S) Z ρ S H Q Ex) :
    ∃ (l : Addr) (ws : List V) (i : Int) (y : V), x = .ref l ∧ xs = [.int i, y] ∧ H l = some (.lst ws) ∧ ws.length < sizeLine ∧ 0 ≤ i ∧ i < 2 ^ 63 ∧ Q .non (upd H l (.lst (ws.take i.toNat ++ [y] ++ ws.drop i.toNat))) := by
  unfold insV at h
  split at h
  case h_2 => exact h.elim
  case h_1 l i d =>
  obtain ⟨ys, hs, h⟩ := cellL_of h
  split at h
  case isFalse => exact h.elim
  case isTrue hz =>
  obtain ⟨p, ws, rfl, ha, hp, rl⟩ := cell_of so ra hs
  match xs, rs with
  | [z, w], rs =>
    obtain rfl := relI rs.1
    have e63 : (2 : Int) ^ 63 = 9223372036854775808 := by decide
    refine ⟨p, ws, i, w, rfl, rfl, hp, by rw [← ll, ← rl.1]; exact hz.1, hz.2.1, by rw [e63]; omega, ?_⟩
    exact okWrite (ys := ys) so ha hs rfl (((rl.take _).append (.cons rs.2.1 .nil)).append (rl.drop _)) h
theorem cnt_ok (so : StoOk T.toTx X.K Z ρ H S) (ra : RelW T.toTx X.K Z ρ S H va x) (rs : RelWs T.toTx X.K Z ρ S H vs xs) (h : PE3 T X.K (cntV va vs S) Z ρ S H Q Ex) : rCntI X.K x xs H Q := by
  unfold cntV at h
  split at h
  case h_2 => exact h.elim
  case h_1 ys i es =>
  split at h
  case h_2 => exact h.elim
  case h_1 l el =>
  obtain ⟨p, ws, rfl, rp, hp⟩ := seq_of so ra es
  rcases hp with ⟨e, _⟩ | ⟨_, hp⟩
  · cases e
  · have e := intsD_of el rp
    subst e
    match xs, rs with
    | [z], rs =>
      obtain rfl := relI rs.1
      exact ⟨p, l, i, rfl, rfl, hp, okI so h⟩
/-- the receiver's type -/
theorem rcv_ty {m : Bm} (so : StoOk T.toTx X.K Z ρ H S) (ra : RelW T.toTx X.K Z ρ S H va x) (h : rcvB m va S = true) (hm : m ≠ .bitlen) : tyV X.K "list" x H := by
  have h' : ∃ ys, seqV va S = some (false, ys) := by
    unfold rcvB at h
    split at h
    · exact (hm rfl).elim
    · exact (hm rfl).elim
    · split at h
      · exact ⟨_, by assumption⟩
      · cases h
  obtain ⟨ys, e⟩ := h'
  obtain ⟨p, ws, rfl, rp, hp⟩ := seq_of so ra e
  rcases hp with ⟨e, _⟩ | ⟨_, hp⟩
  · cases e
  · exact .inl ⟨rfl, ws, hp⟩
/-- a method with arguments, of a list -/
theorem s_bm1 {m : Bm} {name : Str} {id : String} {ps : List Expr} {es : List E} {rr : V → List V → Hp → VK → Prop} (slot : Slot "list" name id) (hty : typeOf (.builtin id) = pure (.type "method_descriptor")) (hm : MtR X id rr) (hne : m ≠ .bitlen)
    (hr : ∀ {Z : Addr → Prop} {ρ : List Addr} {S : Sto} {H : Hp} {va : Va} {vs : List Va} {x : V} {xs : List V} {Q : VK} {Ex : XK}, StoOk T.toTx X.K Z ρ H S → RelW T.toTx X.K Z ρ S H va x → RelWs T.toTx X.K Z ρ S H vs xs → PE3 T X.K (bmV m va vs S) Z ρ S H Q Ex → rr x xs H Q)
    (hn : nocall r = true) (hs : (p :: ps).all nostar = true) (hlen : (p :: ps).length < 30) (hp : (apos.endLine == pos.line) = true)
    (ho : PE X r (tE T X W cf a)) (hl : PA X (p :: ps) (tL T X W cf es)) : PE X (.Call (.Attribute r name apos) (p :: ps) [] pos) (tE T X W cf (.bm m a es)) := by
  have hs' : nostar p = true ∧ ps.all nostar = true := by simpa using hs
  have few : ((backTo pos (starEach (p :: ps) X.env)).all (fun x => !x.1) && (backToKw pos (keywordEach [] X.env)).all (fun x => x.1.isSome)
      && decide ((p :: ps).length + ([] : List Keyword).length + (if ([] : List Keyword).isEmpty then 0 else 1) < 30)) = true := by
    rw [few_of hs]
    show (true && true && decide _) = true
    exact decide_eq_true (by simpa using hlen)
  refine peImp (pe_bm PySem.F.plainAttrs_list slot hty hm ho hl (base_of hn) few hp (star_of hs'.1) (plain_of hs'.2)) fun σ H Q ⟨Z, env, ρ, S, so, ev, h⟩ => ?_
  rw [evE] at h
  refine stepE so ev h fun va x S1 H1 a1 r1 h1 => ?_
  split at h1
  case isFalse => exact h1.elim
  case isTrue hb =>
  exact ⟨rcv_ty a1.sto r1 hb hne, stepL a1.sto a1.env h1 fun vs xs S2 H2 a2 r2 h2 => hr a2.sto (r1.mono a2.ext) r2 h2⟩
theorem s_bm0 {m : Bm} {name : Str} {id : String} {rr : V → List V → Hp → VK → Prop} (slot : Slot "list" name id) (hty : typeOf (.builtin id) = pure (.type "method_descriptor")) (hm : MtR X id rr) (hne : m ≠ .bitlen)
    (hr : ∀ {Z : Addr → Prop} {ρ : List Addr} {S : Sto} {H : Hp} {va : Va} {vs : List Va} {x : V} {xs : List V} {Q : VK} {Ex : XK}, StoOk T.toTx X.K Z ρ H S → RelW T.toTx X.K Z ρ S H va x → RelWs T.toTx X.K Z ρ S H vs xs → PE3 T X.K (bmV m va vs S) Z ρ S H Q Ex → rr x xs H Q)
    (hn : nocall r = true) (hp : (apos.endLine == pos.line) = true) (ho : PE X r (tE T X W cf a)) : PE X (.Call (.Attribute r name apos) [] [] pos) (tE T X W cf (.bm m a [])) := by
  refine peImp (pe_bm0 PySem.F.plainAttrs_list slot hty hm ho (base_of hn) hp) fun σ H Q ⟨Z, env, ρ, S, so, ev, h⟩ => ?_
  rw [evE] at h
  refine stepE so ev h fun va x S1 H1 a1 r1 h1 => ?_
  split at h1
  case isFalse => exact h1.elim
  case isTrue hb =>
  rw [evL] at h1
  exact ⟨rcv_ty a1.sto r1 hb hne, hr a1.sto r1 (vs := []) (xs := []) trivial h1⟩
theorem s_bits (hn : nocall r = true) (hp : (apos.endLine == pos.line) = true) (ho : PE X r (tE T X W cf a)) : PE X (.Call (.Attribute r "bit_length" apos) [] [] pos) (tE T X W cf (.bm .bitlen a [])) := by
  refine peImp (pe_bits ho (base_of hn) hp) fun σ H Q ⟨Z, env, ρ, S, so, ev, h⟩ => ?_
  rw [evE] at h
  refine stepE so ev h fun va x S1 H1 a1 r1 h1 => ?_
  split at h1
  case isFalse => exact h1.elim
  case isTrue hb =>
  rw [evL] at h1
  have h2 : PE3 T X.K (bitV va [] S1) Z ρ S1 H1 Q (WE W σ) := h1
  unfold bitV at h2
  split at h2
  case h_2 => exact h2.elim
  case h_1 i _ => exact ⟨i, relI r1, okI a1.sto h2⟩
def bmN : Bm → Str
  | .append => "append" | .pop => "pop" | .popAt => "pop" | .insert => "insert" | .reverse => "reverse" | .extend => "extend" | .count => "count" | .index => "index" | .bitlen => "bit_length"
def bmA : Bm → Nat
  | .append => 1 | .pop => 0 | .popAt => 1 | .insert => 2 | .reverse => 0 | .count => 1 | .bitlen => 0 | _ => 99
theorem s_bm {m : Bm} {name : Str} {ps : List Expr} {es : List E} (en : name = bmN m) (el : ps.length = bmA m) (hn : nocall r = true) (hs : ps.all nostar = true) (hlen : ps.length < 30) (hp : (apos.endLine == pos.line) = true)
    (ho : PE X r (tE T X W cf a)) (hl : PA X ps (tL T X W cf es)) (hz : ps = [] → es = []) : PE X (.Call (.Attribute r name apos) ps [] pos) (tE T X W cf (.bm m a es)) := by
  subst en
  cases ps with
  | nil =>
    have e := hz rfl
    subst e
    cases m with
    | pop => exact s_bm0 (m := .pop) PySem.F.slot_list_pop PySem.F.type_list_pop mt_pop (fun z => nomatch z) pop_ok hn hp ho
    | reverse => exact s_bm0 (m := .reverse) PySem.F.slot_list_reverse PySem.F.type_list_reverse mt_reverse (fun z => nomatch z) rvs_ok hn hp ho
    | bitlen => exact s_bits hn hp ho
    | _ => cases el
  | cons p ps =>
    cases m with
    | append => exact s_bm1 (m := .append) PySem.F.slot_list_append PySem.F.type_list_append mt_append (fun z => nomatch z) app_ok hn hs hlen hp ho hl
    | popAt => exact s_bm1 (m := .popAt) PySem.F.slot_list_pop PySem.F.type_list_pop mt_popAt (fun z => nomatch z) popAt_ok hn hs hlen hp ho hl
    | insert => exact s_bm1 (m := .insert) PySem.F.slot_list_insert PySem.F.type_list_insert mt_insert (fun z => nomatch z) ins_ok hn hs hlen hp ho hl
    | count => exact s_bm1 (m := .count) PySem.F.slot_list_count PySem.F.type_list_count mt_lcount (fun z => nomatch z) cnt_ok hn hs hlen hp ho hl
    | pop => simp [bmA] at el
    | reverse => simp [bmA] at el
    | bitlen => simp [bmA] at el
    | extend => rw [el] at hlen; exact absurd hlen (by decide)
    | index => rw [el] at hlen; exact absurd hlen (by decide)
end
end GS
/-! G: sorted of ints, of tuples of ints, any length, out of a list or a tuple. -/
namespace GSort
open PySem PySem.Spec PyProof.Rows SrtO
/-- v is a tuple of these ints -/
def IsTI (h : Heap) (v : Value) (ns : List Int) : Prop := ∃ a items, v = .ref a ∧ IsTup h a items ∧ IntsAre items.toList ns
def kOf (h : Heap) : Value → List Int
  | .ref a => (match h.get? a with
    | some o => (match o.data with
      | .seq its _ => its.toList.map iv
      | _ => [])
    | none => [])
  | _ => []
theorem IsTI.k {h : Heap} {v : Value} {ns : List Int} (x : IsTI h v ns) : kOf h v = ns := by
  obtain ⟨a, items, rfl, ⟨o, ho, hc, n, hd⟩, hi⟩ := x
  unfold kOf
  simp only [ho, hd]
  exact iv_ints hi
theorem IsTI.keeps {h h' : Heap} {v : Value} {ns : List Int} (x : IsTI h v ns) (k : ∀ b o, v = .ref b → h.get? b = some o → h'.get? b = some o) : IsTI h' v ns := by
  obtain ⟨a, items, rfl, ⟨o, ho, r⟩, hi⟩ := x
  exact ⟨a, items, rfl, ⟨o, k a o rfl ho, r⟩, hi⟩
theorem IsTI.type {M : Model} {h : Heap} {v : Value} {ns : List Int} (x : IsTI h v ns) : PySem.W.Looks M h (typeOf v) (.type "tuple") := by
  obtain ⟨a, items, rfl, ⟨o, ho, hc, n, hd⟩, hi⟩ := x
  rw [← hc]
  exact (PySem.W.Looks.ld ho).andThen .now
section
variable {prog : Program} {w : World} {A : Around} {E : Value → Shared → Prop} {s : Shared}
theorem lex_zip {b fin : Bool} {Q : Bool → Shared → Prop} : ∀ {xs ys : List Value} {ns ms : List Int} (i : Nat), IntsAre xs ns → IntsAre ys ms → fin = decide (ns.length < ms.length) → Q (HT.lexLt ns ms) s → PySem.W.KatLex prog w A b fin Q (xs.zip ys) i s
  | _, _, _, _, i, .nil, .nil, e, h => PySem.W.kat_nil (by rw [e]; exact h)
  | _, _, _, _, i, .nil, .cons m t r, e, h => PySem.W.kat_nil (by rw [e]; exact h)
  | _, _, _, _, i, .cons n t r, .nil, e, h => PySem.W.kat_nil (by rw [e]; exact h)
  | _, _, _, _, i, .cons n t r, .cons m u r', e, h => by
    rename_i xs ns ys ms
    rw [List.zip_cons_cons]
    refine PySem.W.kat_cons (SeqAt.EqAt.int_int n t m u prog w _ _ ?_)
    refine PySem.W.kat_go (fun e1 => ?_) (fun e1 => ?_)
    · have ex : n = m := by simpa using e1
      refine PySem.W.kat_yes (lex_zip (i + 1) r r' (by rw [e]; simp) ?_)
      rw [HT.lexLt_cons, if_pos ex] at h
      exact h
    · have ex : ¬ n = m := by simpa using e1
      rw [HT.lexLt_cons, if_neg ex] at h
      exact PySem.W.kat_no (TS.oneLt_ints _ h)
theorem lt_tuples {b : Bool} {v u : Value} {ns ms : List Int} {Q : Bool → Shared → Prop} (hv : IsTI s.heap v ns) (hu : IsTI s.heap u ms) (h : Q (HT.lexLt ns ms) s) : wpAny (model prog w) A (keyLt' (tuples' b) v u) Q E s := by
  obtain ⟨a, i1, rfl, ⟨o1, h1, c1, n1, d1⟩, r1⟩ := hv
  obtain ⟨a2, i2, rfl, ⟨o2, h2, c2, n2, d2⟩, r2⟩ := hu
  refine PySem.W.kat_lt h1 d1 h2 d2 (lex_zip 0 r1 r2 ?_ h)
  have e1 := r1.length
  have e2 := r2.length
  rw [← Array.length_toList, ← Array.length_toList, e1, e2]
theorem lt_general {v u : Value} {ns ms : List Int} {Q : Bool → Shared → Prop} (hc : A.units < cLine) (hv : IsTI s.heap v ns) (hu : IsTI s.heap u ms) (h : Q (HT.lexLt ns ms) s) : wpAny (model prog w) A (keyLt' general' v u) Q E s := by
  obtain ⟨a, i1, rfl, t1, r1⟩ := hv
  obtain ⟨a2, i2, rfl, t2, r2⟩ := hu
  show wpAny (model prog w) A (oneLt' false (.ref a) (.ref a2)) Q E s
  exact PySem.W.kat_one _ _ (HT.lt_tupInts (Q := PySem.W.BoolBack Q) t1 t2 r1 r2 hc h)
theorem lt_one {v u : Value} {ns ms : List Int} {Q : Bool → Shared → Prop} (hc : A.units < cLine) (hv : IsTI s.heap v ns) (hu : IsTI s.heap u ms) (h : Q (HT.lexLt ns ms) s) : wpAny (model prog w) A (keyLt' oneType' v u) Q E s := by
  obtain ⟨a, i1, rfl, ⟨⟨cls, dd, data, sl⟩, h1, c1, n1, d1⟩, r1⟩ := hv
  obtain ⟨a2, i2, rfl, ⟨⟨cls2, dd2, data2, sl2⟩, h2, c2, n2, d2⟩, r2⟩ := hu
  simp only at c1 d1 c2 d2
  subst c1 d1 c2 d2
  rw [keyLt'_oneType, oneLt'_eq]
  simp only [if_true]
  refine wpAny_bind (wpAny_cRoomFor hc ?_)
  have ty : s.TypeIs (.ref a) "tuple" := ⟨_, h1, rfl⟩
  have hw := HT.tuple_lt_ints a a2 i1 i2 n1 n2 dd dd2 sl sl2 _ _ r1 r2
  refine wpAny_bind (wpAny_callSpecialIfBound?_slot ty PySem.F.slot_tuple_lt
    (call_meets PySem.F.slot_tuple_lt ty PySem.F.entry_tuple_lt (PySem.F.args_tuple_lt_2 _ _) hw ⟨h1, h2, ?_⟩))
  exact wpAny_truthy_bool h
/-- the first items -/
def fst? (h : Heap) : Value → Option Value
  | .ref a => (match h.get? a with
    | some o => (match o.data with
      | .seq its _ => its[0]?
      | _ => none)
    | none => none)
  | _ => none
theorem firsts {M : Model} : ∀ (vs : List Value) {Q : List (Option Value) → Shared → Prop}, (∀ v ∈ vs, ∃ ns, IsTI s.heap v ns) → Q (vs.map (fst? s.heap)) s → wpAny M A (vs.mapM firstOfTuple') Q E s
  | [], _, _, h => by rw [List.mapM_nil]; exact wpAny_pure h
  | v :: vs, Q, t, h => by
    obtain ⟨ns, a, items, rfl, ⟨o, ho, hc, n, hd⟩, hi⟩ := t v List.mem_cons_self
    rw [List.mapM_cons]
    refine wpAny_bind ?_
    rw [PySem.W.kas_first_eq]
    refine wpAny_bind (PySem.W.Looks.here (show PySem.W.Looks M s.heap (typeOf (.ref a)) o.cls from (PySem.W.Looks.ld ho).andThen .now) ?_)
    rw [hc, if_neg (by first | decide | simp)]
    refine wpAny_bind (listItems_at ho hd (wpAny_pure ?_))
    have e : fst? s.heap (.ref a) = items[0]? := by
      unfold fst?
      simp only [ho, hd]
    rw [← e]
    exact wpAny_bind (firsts vs (Q := fun bs s' => wpAny M A (pure (fst? s.heap (.ref a) :: bs)) Q E s') (fun u hu => t u (List.mem_cons_of_mem _ hu)) (wpAny_pure h))
theorem fst_int {v : Value} {ns : List Int} {f : Value} (x : IsTI s.heap v ns) (e : fst? s.heap v = some f) : ∃ i t, f = Value.int i t := by
  obtain ⟨a, items, rfl, ⟨o, ho, hc, n, hd⟩, hi⟩ := x
  unfold fst? at e
  simp only [ho, hd] at e
  have hm : f ∈ items.toList := by
    have := Array.mem_of_getElem? e
    exact Array.mem_toList_iff.mpr this
  exact ints_mem hi f hm
/-- the kind of such keys: one of three -/
theorem kind {M : Model} {vs : List Value} (h2 : 2 ≤ vs.length) (t : ∀ v ∈ vs, ∃ ns, IsTI s.heap v ns) : ∃ κ, (κ = tuples' true ∨ κ = general' ∨ κ = oneType') ∧ ∀ (Q : SortKind → Shared → Prop), Q κ s → wpAny M A (keyKind' vs.toArray) Q E s := by
  have ty : ∀ v ∈ vs, PySem.W.Looks M s.heap (typeOf v) (.type "tuple") := fun v hv => (t v hv).choose_spec.type
  by_cases hall : (vs.map (fst? s.heap)).toArray.all (fun x => x.isSome) = true
  · refine ⟨tuples' true, .inl rfl, fun Q hq => ?_⟩
    rw [keyKind'_eq, List.mapM_toArray, map_eq_pure_bind]
    refine wpAny_bind (wpAny_bind (firsts vs t (wpAny_pure ?_)))
    rw [if_pos hall]
    refine wpAny_bind (wpAny_rule ?_)
    obtain ⟨v0, vr, rfl⟩ : ∃ v0 vr, vs = v0 :: vr := by
      match vs, h2 with
      | v0 :: vr, _ => exact ⟨v0, vr, rfl⟩
    have hs : ∀ v ∈ v0 :: vr, ∃ f, fst? s.heap v = some f := fun v hv => by
      have := List.all_eq_true.mp (show ((v0 :: vr).map (fst? s.heap)).all (fun x => x.isSome) = true by simpa using hall) (fst? s.heap v) (List.mem_map.mpr ⟨v, hv, rfl⟩)
      exact Option.isSome_iff_exists.mp this
    have hf : ∀ f ∈ (v0 :: vr).filterMap (fst? s.heap), PySem.W.Looks M s.heap (typeOf f) (.type "int") := fun f hf => by
      obtain ⟨v, hv, e⟩ := List.mem_filterMap.mp hf
      obtain ⟨i, tk, rfl⟩ := fst_int (t v hv).choose_spec e
      exact PySem.W.Looks.now
    obtain ⟨f0, e0⟩ := hs v0 List.mem_cons_self
    have ef : (((v0 :: vr).map (fst? s.heap)).toArray.filterMap id) = ((v0 :: vr).filterMap (fst? s.heap)).toArray := by
      rw [List.filterMap_toArray, List.filterMap_map]; rfl
    rw [ef, oneTypeOnly'_eq, List.mapM_toArray, map_eq_pure_bind]
    refine wpAny_bind (wpAny_bind (wpAny_bind (PySem.W.kas_mapM (r := .type "int") _ (fun v hv Q' hq => (hf v hv).here hq) (wpAny_pure ?_))))
    have h0 : (List.map (fun _ => Value.type "int") ((v0 :: vr).filterMap (fst? s.heap))).toArray[0]? = some (.type "int") := by
      rw [List.filterMap_cons, e0]; simp
    have hall2 : ((List.map (fun _ => Value.type "int") ((v0 :: vr).filterMap (fst? s.heap))).toArray.all fun x => x == Value.type "int") = true := by
      simp only [List.all_toArray, List.all_map, List.all_eq_true]
      intro _ _
      rfl
    rw [h0]
    simp only [hall2, if_true]
    refine wpAny_pure (wpAny_pure ?_)
    have e : (Value.type "int" != Value.type "tuple") = true := by first | decide +kernel | rfl | decide
    simp only [Option.any_some, e]
    exact hq
  · by_cases hfst : (((vs.map (fst? s.heap)).toArray[0]?.bind id).isSome) = true
    · refine ⟨general', .inr (.inl rfl), fun Q hq => ?_⟩
      rw [keyKind'_eq, List.mapM_toArray, map_eq_pure_bind]
      refine wpAny_bind (wpAny_bind (firsts vs t (wpAny_pure ?_)))
      rw [if_neg hall]
      rw [if_pos hfst]
      exact wpAny_pure hq
    · refine ⟨oneType', .inr (.inr rfl), fun Q hq => ?_⟩
      rw [keyKind'_eq, List.mapM_toArray, map_eq_pure_bind]
      refine wpAny_bind (wpAny_bind (firsts vs t (wpAny_pure ?_)))
      rw [if_neg hall]
      rw [if_neg hfst]
      obtain ⟨v0, vr, rfl⟩ : ∃ v0 vr, vs = v0 :: vr := by
        match vs, h2 with
        | v0 :: vr, _ => exact ⟨v0, vr, rfl⟩
      rw [oneTypeOnly'_eq, List.mapM_toArray, map_eq_pure_bind]
      refine wpAny_bind (wpAny_bind (wpAny_bind (PySem.W.kas_mapM (r := .type "tuple") _ (fun v hv Q' hq => (ty v hv).here hq) (wpAny_pure ?_))))
      have h0 : (List.map (fun _ => Value.type "tuple") (v0 :: vr)).toArray[0]? = some (.type "tuple") := by simp
      have hall2 : ((List.map (fun _ => Value.type "tuple") (v0 :: vr)).toArray.all fun x => x == Value.type "tuple") = true := by
        simp only [List.all_toArray, List.all_map, List.all_eq_true]
        intro _ _
        rfl
      rw [h0]
      simp only [hall2, if_true]
      exact wpAny_pure (wpAny_pure hq)
theorem sortable {a : Addr} {vs : List Value} (h2 : 2 ≤ vs.length) (hc : A.units < cLine) (t : ∀ v ∈ vs, ∃ ns, IsTI s.heap v ns) (ha : ∀ v ∈ vs, v ≠ .ref a) : SortableO prog w A s a vs fun v u => HT.lexLt (kOf s.heap v) (kOf s.heap u) := by
  intro h' keep
  have t' : ∀ v ∈ vs, ∃ ns, IsTI h' v ns ∧ kOf s.heap v = ns := fun v hm => by
    obtain ⟨ns, x⟩ := t v hm
    exact ⟨ns, x.keeps fun b o e g => keep b o (fun z => ha v hm (by rw [e, z])) g, x.k⟩
  obtain ⟨κ, hk, run⟩ := kind (s := { s with heap := h' }) (A := A) (E := fun _ _ => False) (M := model prog w) h2 fun v hv => ⟨_, (t' v hv).choose_spec.1⟩
  refine ⟨κ, fun Q E hq => wpAny_mono (run Q hq) (fun _ _ x => x) fun _ _ x => x.elim, ?_⟩
  intro p q hp hq
  obtain ⟨n1, x1, e1⟩ := t' p.1 hp
  obtain ⟨n2, x2, e2⟩ := t' q.1 hq
  show wpAny (model prog w) A (keyLt' κ p.1 q.1) (fun r s' => s' = { s with heap := h' } ∧ r = HT.lexLt (kOf s.heap p.1) (kOf s.heap q.1)) (fun _ _ => False) { s with heap := h' }
  rw [e1, e2]
  rcases hk with rfl | rfl | rfl
  · exact lt_tuples (s := { s with heap := h' }) x1 x2 ⟨rfl, rfl⟩
  · exact lt_general (s := { s with heap := h' }) hc x1 x2 ⟨rfl, rfl⟩
  · exact lt_one (s := { s with heap := h' }) hc x1 x2 ⟨rfl, rfl⟩
end
end GSort
/-! G: sorted(..) on values. -/
namespace GSort
open PySem PySem.Spec PyProof.Rows SrtO
section
variable {prog : Program} {w : World} {A : Around} {E : Value → Shared → Prop} {s : Shared}
theorem collect_tup {l : Addr} {vs : List Value} {Q : List Value → Shared → Prop} (hl : IsTup s.heap l vs.toArray)
    (h : Q vs { s with heap := (s.heap.push (seqObj "list" #[] 0)).update s.heap.objs.size (Obj.mapSeq (· ++ vs.toArray)) }) (hsz : vs.length ≤ sizeLine) : wpAny (model prog w) A (collect (.ref l)) Q E s := by
  obtain ⟨o, ho, hc, n, hd⟩ := id hl
  unfold collect
  refine wpAny_bind (wpAny_runValue (codeAny_builtin entry_proto_collect' ?_))
  show wpAny _ _ (do again (.builtin "list.__iadd__" ⟨[← newList [], .ref l], []⟩)) _ _ s
  refine wpAny_bind (wpAny_newList ?_)
  refine wpAny_pure ⟨Code.quiet_builtin _ (by decide +kernel), codeAny_builtin entry_list_iadd' ?_⟩
  show wpAny _ _ (Builtin.List.listExtendWith (.ref s.heap.objs.size) (.ref l) (.ref s.heap.objs.size)) _ _ { s with heap := s.heap.push (seqObj "list" #[] 0) }
  unfold Builtin.List.listExtendWith
  have hp : (s.heap.push (seqObj "list" #[] 0)).get? l = some o := Heap.get?_push_of_some _ ho
  have hn : (s.heap.push (seqObj "list" #[] 0)).get? s.heap.objs.size = some (seqObj "list" #[] 0) := Heap.get?_push_size _ rfl
  refine wpAny_bind (wpAny_typeOf (T := "tuple") ⟨o, hp, hc⟩ ?_)
  rw [if_pos (by first | rfl | decide | simp)]
  refine wpAny_bind (listItems_at hp hd ?_)
  refine wpAny_bind (listItems_at (xs := #[]) (n := 0) hn rfl ?_)
  rw [if_neg (by simp)]
  refine wpAny_bind (listUpdate_at (xs := #[]) (n := 0) hn rfl ?_ (Nat.zero_le _) ?_)
  · refine wpAny_pure ?_
    show wpAny (model prog w) A (do
        let o ← load s.heap.objs.size
        match o.data with
        | .seq xs _ => pure xs.toList
        | _ => unsupported "internal:collect") Q E { s with heap := (s.heap.push (seqObj "list" #[] 0)).update s.heap.objs.size (Obj.mapSeq (· ++ vs.toArray)) }
    refine wpAny_bind (wpAny_load (get?_update_seq hn _) ?_)
    show wpAny _ _ (pure ((#[] : Array Value) ++ vs.toArray).toList) Q E _
    have e : ((#[] : Array Value) ++ vs.toArray).toList = vs := by simp
    rw [e]
    exact wpAny_pure h
  · show (#[] ++ vs.toArray).size ≤ sizeLine + 1
    simp only [Array.size_append, List.size_toArray, List.length_nil]
    omega
/-- sorted(t), t a tuple -/
theorem sorted_tup {l : Addr} {vs : List Value} {ltv : Value → Value → Bool} {Q : Value → Shared → Prop} (O : Swo ltv) (hl : IsTup s.heap l vs.toArray) (hz : vs.length ≤ sizeLine)
    (hS : 2 ≤ vs.length → ∀ (h₁ : Heap) (a : Addr), h₁.get? a = some (seqObj "list" vs.toArray 0) → (∀ b o, s.heap.get? b = some o → b ≠ a ∧ h₁.get? b = some o) → SortableO prog w A.in1.in1 { s with heap := h₁ } a vs ltv)
    (h : ∀ out : List Value, Srtd ltv out → Stb ltv out vs → Q (.ref (s.heap.objs.size + 1)) { s with heap := sortedAll s.heap vs out.toArray }) : wpAny (model prog w) A (call (.builtin "sorted") [.ref l]) Q E s := by
  refine Calls.call_function_entry kind_sorted plain_sorted entry_sorted (args_sorted1 _) ?_
  unfold Builtin.«sorted»
  refine wpAny_bind (m := checkCount "sorted" 1 1 _) (wpAny_pure ?_)
  refine wpAny_bind (collect_tup hl ?_ hz)
  refine wpAny_bind (wpAny_newList ?_ hz)
  generalize hm : (s.heap.push (seqObj "list" #[] 0)).update s.heap.objs.size (Obj.mapSeq (· ++ vs.toArray)) = hp
  have hsz : hp.objs.size = s.heap.objs.size + 1 := by
    rw [← hm, Heap.size_update, size_push']
  have hoL : (hp.push (seqObj "list" vs.toArray 0)).get? (s.heap.objs.size + 1) = some (seqObj "list" vs.toArray 0) := by
    rw [← hsz]
    exact Heap.get?_push_size _ rfl
  have keep : ∀ b o, s.heap.get? b = some o → b ≠ s.heap.objs.size + 1 ∧ (hp.push (seqObj "list" vs.toArray 0)).get? b = some o := fun b o q => by
    have hlt : b < s.heap.objs.size := Heap.lt_size q
    refine ⟨Nat.ne_of_lt (Nat.lt_succ_of_lt hlt), Heap.get?_push_of_some _ ?_⟩
    rw [← hm, Heap.get?_update_ne _ _ _ _ (Nat.ne_of_lt hlt)]
    exact Heap.get?_push_of_some _ q
  have eq : (hp.push (seqObj "list" vs.toArray 0)) = ((s.heap.push (seqObj "list" #[] 0)).update s.heap.objs.size (Obj.mapSeq (· ++ vs.toArray))).push (seqObj "list" vs.toArray 0) := by rw [hm]
  show wpAny _ _ _ _ _ { s with heap := hp.push (seqObj "list" vs.toArray 0) }
  rw [hsz]
  refine wpAny_bind (wpAny_holding (wpAny_call_entry slot_list_sort ⟨_, hoL, rfl⟩ entry_list_sort
    (list_sort_ord O hoL hz (fun h2 => hS h2 _ _ hoL keep) ?_) (args_list_sort _)))
  intro out hs hb
  refine ⟨_, rfl, wpAny_pure ⟨_, rfl, ?_⟩⟩
  have z := h out hs hb
  unfold sortedAll at z
  rw [← eq] at z
  exact z
end
end GSort
/-! G: sorted(..) by the relation. -/
namespace GS
open PySem PySem.Spec PyProof.Rows L2 G
theorem uniq {α : Type} {r : α → α → Prop} (as : ∀ a b, r a b → r b a → a = b) : ∀ {l m : List α}, l.Perm m → l.Pairwise r → m.Pairwise r → l = m
  | [], m, p, _, _ => by
    have := p.length_eq
    cases m with
    | nil => rfl
    | cons _ _ => simp at this
  | a :: l, [], p, _, _ => by have := p.length_eq; simp at this
  | a :: l, b :: m, p, hl, hm => by
    have e : a = b := by
      have h1 : a ∈ b :: m := p.mem_iff.mp List.mem_cons_self
      have h2 : b ∈ a :: l := p.mem_iff.mpr List.mem_cons_self
      rcases List.mem_cons.mp h1 with e | h1
      · exact e
      · rcases List.mem_cons.mp h2 with e | h2
        · exact e.symm
        · exact as a b ((List.pairwise_cons.mp hl).1 b h2) ((List.pairwise_cons.mp hm).1 a h1)
    subst e
    rw [uniq as ((List.perm_cons a).mp p) (List.pairwise_cons.mp hl).2 (List.pairwise_cons.mp hm).2]
theorem insI_perm (x : Int) : ∀ l : List Int, (insI x l).Perm (x :: l)
  | [] => .refl _
  | y :: r => by
    unfold insI
    split
    · exact .refl _
    · exact ((insI_perm x r).cons y).trans (.swap x y r)
theorem sortI_perm : ∀ l : List Int, (sortI l).Perm l
  | [] => .refl _
  | x :: r => (insI_perm x (sortI r)).trans ((sortI_perm r).cons x)
theorem insI_srt (x : Int) : ∀ l : List Int, l.Pairwise (· ≤ ·) → (insI x l).Pairwise (· ≤ ·)
  | [], _ => List.pairwise_singleton _ _
  | y :: r, h => by
    have h' := List.pairwise_cons.mp h
    unfold insI
    split
    · rename_i hx
      exact List.pairwise_cons.mpr ⟨fun z hz => by
        rcases List.mem_cons.mp hz with rfl | hz
        · exact hx
        · exact Int.le_trans hx (h'.1 z hz), h⟩
    · rename_i hx
      exact List.pairwise_cons.mpr ⟨fun z hz => by
        rcases List.mem_cons.mp ((insI_perm x r).mem_iff.mp hz) with rfl | hz
        · omega
        · exact h'.1 z hz, insI_srt x r h'.2⟩
theorem sortI_srt : ∀ l : List Int, (sortI l).Pairwise (· ≤ ·)
  | [] => .nil
  | x :: r => insI_srt x _ (sortI_srt r)
theorem lex_eq : ∀ x y : List Int, G.lexLt x y = HT.lexLt x y
  | [], [] => rfl
  | [], _ :: _ => rfl
  | _ :: _, [] => rfl
  | x :: xs, y :: ys => by
    unfold G.lexLt HT.lexLt
    rw [lex_eq xs ys]
theorem lex_anti : ∀ x y : List Int, HT.lexLt x y = false → HT.lexLt y x = false → x = y
  | [], [], _, _ => rfl
  | [], _ :: _, h, _ => by cases h
  | _ :: _, [], _, h => by cases h
  | x :: xs, y :: ys, h1, h2 => by
    rw [HT.lexLt_cons] at h1 h2
    by_cases e : x = y
    · rw [if_pos e] at h1
      rw [if_pos e.symm] at h2
      rw [e, lex_anti xs ys h1 h2]
    · rw [if_neg e] at h1
      rw [if_neg (Ne.symm e)] at h2
      have a := of_decide_eq_false h1
      have b := of_decide_eq_false h2
      omega
abbrev lexR (x y : List Int) : Prop := HT.lexLt y x = false
theorem insT_perm (x : List Int) : ∀ l : List (List Int), (insT x l).Perm (x :: l)
  | [] => .refl _
  | y :: r => by
    unfold insT
    split
    · exact ((insT_perm x r).cons y).trans (.swap x y r)
    · exact .refl _
theorem sortT_perm : ∀ l : List (List Int), (sortT l).Perm l
  | [] => .refl _
  | x :: r => (insT_perm x (sortT r)).trans ((sortT_perm r).cons x)
theorem insT_srt (x : List Int) : ∀ l : List (List Int), l.Pairwise lexR → (insT x l).Pairwise lexR
  | [], _ => List.pairwise_singleton _ _
  | y :: r, h => by
    have h' := List.pairwise_cons.mp h
    unfold insT
    split
    · rename_i hx
      rw [lex_eq] at hx
      refine List.pairwise_cons.mpr ⟨fun z hz => ?_, insT_srt x r h'.2⟩
      rcases List.mem_cons.mp ((insT_perm x r).mem_iff.mp hz) with rfl | hz
      · exact NtL.lex_asym _ _ hx
      · exact h'.1 z hz
    · rename_i hx
      rw [lex_eq] at hx
      have hx' : HT.lexLt y x = false := by simpa using hx
      refine List.pairwise_cons.mpr ⟨fun z hz => ?_, h⟩
      rcases List.mem_cons.mp hz with rfl | hz
      · exact hx'
      · exact NtL.lex_tr _ _ _ hx' (h'.1 z hz)
theorem sortT_srt : ∀ l : List (List Int), (sortT l).Pairwise lexR
  | [] => .nil
  | x :: r => insT_srt x _ (sortT_srt r)
section
variable {T : Text} {X : Cx} {W : WX} {cf : Cfg} {k : Nat} {Z : Addr → Prop} {ρ : List Addr} {S S' : Sto} {σ : L2.St} {H : Hp} {Q Q' : VK} {pins : List (Addr × Obj)} {s : Shared} {va vb : Va} {x y : V} {v u : Value} {Ex : XK}
theorem rel_ints {M : Addr → Prop} : ∀ l : List Int, RelL T.toTx X.K M H (dI l) (l.map V.int)
  | [] => .nil
  | i :: l => .cons (.int i) (rel_ints l)
theorem tints_of {M : Addr → Prop} : ∀ {xs : List D} {l : List (List Int)} {vs : List V}, tintsD xs = some l → RelL T.toTx X.K M H xs vs → xs = dT l
  | [], l, vs, e, r => by cases e; rfl
  | d :: ds, l, vs, e, r => by
    obtain ⟨w, ws, rfl, h, l', r'⟩ := vs_tail r.1 r.2
    cases d with
    | tup ys =>
      have e' : (match intsD ys, tintsD ds with | some i, some l => some (i :: l) | _, _ => none) = some l := e
      split at e'
      case h_2 => cases e'
      case h_1 i l2 e1 e2 =>
      cases e'
      have q := tints_of e2 (vs := ws) ⟨l', r'⟩
      have hy : ys = dI i := by
        have : ∀ {ys : List D} {i : List Int}, intsD ys = some i → ys = dI i := by
          intro ys
          induction ys with
          | nil => intro i e; cases e; rfl
          | cons d ds ih =>
            intro i e
            cases d with
            | int j =>
              have e' : (match intsD ds with | some l => some (j :: l) | none => none) = some i := e
              split at e'
              case h_2 => cases e'
              case h_1 l2 e2 =>
              cases e'
              rw [ih e2]; rfl
            | _ => cases e
        exact this e1
      rw [q, hy]
      rfl
    | _ => cases e
/-- an item of such a list, in the heap -/
theorem tup_ti {M : Addr → Prop} {t : List Int} {v : V} {u : Value} (I : Inv X pins σ H s) (r : Rel T.toTx X.K M H (.tup (dI t)) v) (q : RelV v u) : GSort.IsTI s.heap u t := by
  cases r with
  | tup h l r =>
    rename_i p vs
    obtain rfl : u = Value.ref p := q
    have hs := h.sq
    obtain ⟨its, rv, ht, _⟩ := I.tuple hs
    have e : vs = t.map V.int := by
      have hi : intsD (dI t) = some t := by
        have : ∀ t : List Int, intsD (dI t) = some t := by
          intro t
          induction t with
          | nil => rfl
          | cons i t ih => show (match intsD (dI t) with | some l => some (i :: l) | none => none) = _; rw [ih]
        exact this t
      exact intsD_of hi ⟨l, r⟩
    subst e
    exact ⟨p, _, rfl, ht, rv.ints⟩
def toV : Value → V
  | .ref a => .ref a
  | _ => .non
/-- the sorted list of tuples, related -/
theorem sorted_rel {l : List (List Int)} {vs : List V} {its out : List Value} (so : StoOk T.toTx X.K Z ρ H S) (I : Inv X pins σ H s) (r : RelL T.toTx X.K (Live Z ρ S) H (dT l) vs) (rv : Vals vs its)
    (hs : SrtO.Srtd (fun v u => HT.lexLt (GSort.kOf s.heap v) (GSort.kOf s.heap u)) out) (hp : out.Perm its) : ∃ ws, RelL T.toTx X.K (Live Z ρ S) H (dT (sortT l)) ws ∧ Vals ws out := by
  have hl : l.length = vs.length := by have := r.1; simpa [dT] using this
  have hti : ∀ (i : Nat) t v u, l[i]? = some t → vs[i]? = some v → its[i]? = some u → GSort.IsTI s.heap u t ∧ Rel T.toTx X.K (Live Z ρ S) H (.tup (dI t)) v ∧ RelV v u := fun i t v u a b c => by
    have rr := r.2 i (.tup (dI t)) v (by simp [dT, a]) b
    have rq : RelV v u := by
      obtain ⟨u', e, q⟩ := rv.get b
      rw [c] at e; cases e
      exact q
    exact ⟨tup_ti I rr rq, rr, rq⟩
  have hk : its.map (GSort.kOf s.heap) = l := by
    refine List.ext_getElem? fun i => ?_
    rw [List.getElem?_map]
    cases hi : its[i]? with
    | none =>
      have : l[i]? = none := by
        rw [List.getElem?_eq_none_iff] at hi ⊢
        have := rv.length
        omega
      rw [this]; rfl
    | some u =>
      have h1 : i < its.length := (List.getElem?_eq_some_iff.mp hi).1
      have h2 : i < l.length := by have := rv.length; omega
      have h3 : i < vs.length := by omega
      have z := hti i l[i] vs[i] u (List.getElem?_eq_getElem h2) (List.getElem?_eq_getElem h3) hi
      rw [List.getElem?_eq_getElem h2]
      show some _ = some _
      rw [z.1.k]
  have ho : out.map (GSort.kOf s.heap) = sortT l := by
    refine uniq (r := lexR) (fun a b h1 h2 => (lex_anti b a h1 h2).symm) ?_ ?_ (sortT_srt l)
    · have p1 := hp.map (GSort.kOf s.heap)
      rw [hk] at p1
      exact p1.trans (sortT_perm l).symm
    · exact List.pairwise_map.mpr hs
  have hout : ∀ u ∈ out, ∃ t v, GSort.kOf s.heap u = t ∧ Rel T.toTx X.K (Live Z ρ S) H (.tup (dI t)) v ∧ RelV v u := fun u hu => by
    obtain ⟨i, hi⟩ := List.getElem?_of_mem (hp.mem_iff.mp hu)
    have h1 : i < its.length := (List.getElem?_eq_some_iff.mp hi).1
    have h2 : i < l.length := by have := rv.length; omega
    have h3 : i < vs.length := by omega
    have z := hti i l[i] vs[i] u (List.getElem?_eq_getElem h2) (List.getElem?_eq_getElem h3) hi
    exact ⟨l[i], vs[i], z.1.k, z.2.1, z.2.2⟩
  rw [← ho]
  clear ho hp hs
  induction out with
  | nil => exact ⟨[], .nil, .nil⟩
  | cons u out ih =>
    obtain ⟨ws, r1, r2⟩ := ih fun w hw => hout w (List.mem_cons_of_mem _ hw)
    obtain ⟨t, v, e, q1, q2⟩ := hout u List.mem_cons_self
    refine ⟨v :: ws, ?_, .cons q2 r2⟩
    rw [List.map_cons, e]
    exact .cons q1 r1
theorem sortV_ok (c : Cc T X W cf k) {us : List Value} (so : StoOk T.toTx X.K Z ρ H S) (ra : RelW T.toTx X.K Z ρ S H va x) (I : Inv X pins σ H s) (r : Vals [x] us) (h : PE3 T X.K (sortV va S) Z ρ S H Q Ex) : Calls1 X pins σ Q s (.builtin "sorted") us := by
  have hun : X.A.in1.in1.units < cLine := by have := c.room.units; show X.A.units + 1 + 1 < cLine; omega
  unfold sortV at h
  split at h
  case h_2 => exact h.elim
  case h_1 b xs es =>
  obtain ⟨p, vs, rfl, rp, hp⟩ := seq_of so ra es
  split at h
  case h_2 => exact h.elim
  case h_1 l el =>
  unfold sortD at el
  split at el
  case h_1 ns en =>
    cases el
    have e := intsD_of en rp
    subst e
    have fin : ∀ (ns' : List Int), ns'.Perm ns → ns'.Pairwise (· ≤ ·) → ∀ p, H p = none → Q (.ref p) (upd H p (.lst (ns'.map V.int))) := fun ns' p1 p2 p n => by
      have e : ns' = sortI ns := uniq (fun a b h1 h2 => Int.le_antisymm h1 h2) (p1.trans (sortI_perm ns).symm) p2 (sortI_srt ns)
      subst e
      exact fresh_list so (rel_ints _) n h
    rcases hp with ⟨_, hp⟩ | ⟨_, hp⟩
    · obtain ⟨its, rv, hl, hz⟩ := I.tuple hp
      rw [Vals.ref1 r]
      have hi := rv.ints
      refine GSort.sorted_tup SrtO.swo_int hl (by rw [← rv.length]; exact hz) (fun h2 h₁ a' _ _ => SrtO.ints_sortable hi h2) fun out h1 h2 => ?_
      obtain ⟨k1, k2, k3⟩ := SrtO.ints_out hi h1 h2
      obtain ⟨ep, he⟩ := PyProof.Rows.sortedAll_at s.heap its out.toArray
      have hlen : ((out.map SrtO.iv).map V.int).length ≤ sizeLine := by
        rw [List.length_map, k2.length_eq]
        rw [List.length_map] at hz
        exact hz
      refine ⟨.ref _, upd H (s.heap.objs.size + 1) (.lst ((out.map SrtO.iv).map V.int)), I.laid (t' := s.toks) (fun _ _ => PyProof.Rows.sortedAll_old) (Nat.le_succ _) ⟨hlen, out, ep, vals_of_ints k1, he⟩, rfl, ?_⟩
      exact fin _ k2 k3 _ (I.hok.fresh (Nat.le_succ _))
    · exact cr_sortedI _ _ _ _ _ _ _ I r ⟨p, _, rfl, hp, fun ns' p' h1 h2 hn => fin ns' h1 h2 p' hn⟩
  case h_2 =>
    split at el
    case h_2 => cases el
    case h_1 ts et =>
    cases el
    have ex := tints_of et rp
    subst ex
    have main : ∀ (its : List Value), Vals vs its → vs.length ≤ sizeLine → (∀ v ∈ its, ∃ ns, GSort.IsTI s.heap v ns) ∧ ∀ out : List Value, SrtO.Srtd (fun v u => HT.lexLt (GSort.kOf s.heap v) (GSort.kOf s.heap u)) out → out.Perm its →
        EP X pins σ Q (.ref (s.heap.objs.size + 1)) { s with heap := sortedAll s.heap its out.toArray } := fun its rv hz => by
      refine ⟨fun v hv => ?_, fun out hs hpm => ?_⟩
      · obtain ⟨i, hi⟩ := List.getElem?_of_mem hv
        have h1 : i < its.length := (List.getElem?_eq_some_iff.mp hi).1
        have h2 : i < vs.length := by have := rv.length; omega
        have h3 : i < ts.length := by have := rp.1; simp [dT] at this; omega
        obtain ⟨u', e, q⟩ := rv.get (List.getElem?_eq_getElem h2)
        rw [hi] at e; cases e
        exact ⟨_, tup_ti I (rp.2 i (.tup (dI ts[i])) vs[i] (by simp [dT, h3]) (List.getElem?_eq_getElem h2)) q⟩
      · obtain ⟨ws, rw1, rw2⟩ := sorted_rel so I rp rv hs hpm
        obtain ⟨ep, he⟩ := PyProof.Rows.sortedAll_at s.heap its out.toArray
        have hlen : ws.length ≤ sizeLine := by
          rw [rw2.length, hpm.length_eq, ← rv.length]; exact hz
        refine ⟨.ref _, upd H (s.heap.objs.size + 1) (.lst ws), I.laid (t' := s.toks) (fun _ _ => PyProof.Rows.sortedAll_old) (Nat.le_succ _) ⟨hlen, out, ep, rw2, he⟩, rfl, ?_⟩
        exact fresh_list so rw1 (I.hok.fresh (Nat.le_succ _)) h
    have srt : ∀ (its : List Value), (∀ v ∈ its, ∃ ns, GSort.IsTI s.heap v ns) → 2 ≤ its.length → ∀ (h₁ : Heap) (a : Addr), h₁.get? a = some (seqObj "list" its.toArray 0) → (∀ b o, s.heap.get? b = some o → b ≠ a ∧ h₁.get? b = some o) →
        SrtO.SortableO X.prog X.w X.A.in1.in1 { s with heap := h₁ } a its fun v u => HT.lexLt (GSort.kOf s.heap v) (GSort.kOf s.heap u) := fun its ht h2 h₁ a ha kk => by
      have ht' : ∀ v ∈ its, ∃ ns, GSort.IsTI h₁ v ns ∧ GSort.kOf s.heap v = ns := fun v hv => by
        obtain ⟨ns, x⟩ := ht v hv
        exact ⟨ns, x.keeps fun b o _ e => (kk b o e).2, x.k⟩
      have z := GSort.sortable (prog := X.prog) (w := X.w) (A := X.A.in1.in1) (s := { s with heap := h₁ }) (a := a) (vs := its) h2 hun (fun v hv => let ⟨ns, x, _⟩ := ht' v hv; ⟨ns, x⟩) fun v hv e => by
        obtain ⟨ns, x, _⟩ := ht' v hv
        obtain ⟨a', items, rfl, ⟨o, ho, hc, _⟩, _⟩ := x
        cases e
        rw [ha] at ho
        cases ho
        exact absurd (Value.type.inj hc) (by decide)
      intro h' keep
      obtain ⟨κ, g1, g2⟩ := z h' keep
      refine ⟨κ, g1, fun p q hp hq => ?_⟩
      have e1 : GSort.kOf h₁ p.1 = GSort.kOf s.heap p.1 := by
        obtain ⟨ns, x, e⟩ := ht' p.1 hp
        rw [x.k, e]
      have e2 : GSort.kOf h₁ q.1 = GSort.kOf s.heap q.1 := by
        obtain ⟨ns, x, e⟩ := ht' q.1 hq
        rw [x.k, e]
      have z2 := g2 p q hp hq
      simp only [SrtO.lt2, e1, e2] at z2
      exact z2
    rcases hp with ⟨_, hp⟩ | ⟨_, hp⟩
    · obtain ⟨its, rv, hl, hz⟩ := I.tuple hp
      rw [Vals.ref1 r]
      obtain ⟨m1, m2⟩ := main its rv hz
      exact GSort.sorted_tup (NtL.swo_lexL (GSort.kOf s.heap)) hl (by rw [← rv.length]; exact hz) (srt its m1) fun out h1 h2 => m2 out h1 h2.perm
    · obtain ⟨its, rv, hl, hz⟩ := I.list hp
      rw [Vals.ref1 r]
      obtain ⟨m1, m2⟩ := main its rv hz
      exact SrtO.sorted_ord (NtL.swo_lexL (GSort.kOf s.heap)) hl.isList (by rw [← rv.length]; exact hz) (srt its m1) fun out h1 h2 => m2 out h1 h2.perm
end
end GS
/-! G: a call with one fresh object, that is forgotten behind it. -/
namespace GS
open PySem PySem.Spec PyProof.Rows L2 G
section
variable {T : Text} {X : Cx} {W : WX} {cf : Cfg} {k : Nat} {p : Expr} {pos : Pos} {e : E}
theorem s_callF (c : Cc T X W cf k) {f : Nat} {x : Str} {p0 : Pos} (of : T.nm.okf f = true) (ex : x = T.nm.fnm f) (hg : gloB X.env.scope x = true) (hs : nostar p = true) (he : PE X p (tE T X W cf e)) :
    PE X (.Call (.Name x p0) [p] [] pos) (tE T X W cf (.callF f e)) := by
  subst ex
  refine ⟨fun pins s σ H Q I ⟨Z, env, ρ, S, so, ev, h⟩ => ?_⟩
  rw [evE] at h
  have hp : PA X [p] (tCons (tE T X W cf e) tNil) := pa_cons he pa_nil (star_of hs)
  refine wpAny_Call_Name_kw (ld_glob I (glo_of hg).1 (c.fx.fn f of).1 ?_ (glo_of hg).2)
  refine PySem.W.callWith_K (h₀ := X.base) I.ok.mod.kin (c.fx.fn f of).2 (thn (hp.run pos pins s σ H
    (fun xs H1 => ∃ (q : Addr) (ce : Ce) (S1 : Sto), xs = [.ref q] ∧ Ext T.toTx X.K Z ρ S H (ρ ++ [q]) (S1 ++ [ce]) H1 ∧ S1.length = S.length ∧ PE3 T X.K (frsV S1.length (cf.call f [.r S1.length] (S1 ++ [ce]))) Z ρ S H Q (WE W σ)) I ?_) ?_) (star_of hs) (plain_of rfl)
  · refine ⟨Z, env, ρ, S, so, ev, ?_⟩
    cases hr : evE e cf env S with
    | bad => rw [hr] at h; exact h
    | ex cc fs S1 => rw [hr] at h; exact h
    | ok v S1 =>
      rw [hr] at h
      cases v with
      | d _ => exact h.elim
      | r _ => exact h.elim
      | f ce =>
        intro q H1 hn st su hi so1
        have hl : S1.length = S.length := by
          have a := so1.len
          have b := so.len
          simp only [List.length_append, List.length_cons, List.length_nil] at a
          omega
        refine ⟨q, ce, S1, rfl, ⟨st, fun u hu => ?_, so1, ⟨[q], rfl⟩, hi⟩, hl, h⟩
        rcases hu with hu | ⟨l, d, a, b, lv⟩
        · exact .inl (.inl hu)
        · by_cases hl2 : l < ρ.length
          · rw [List.getElem?_append_left hl2] at a
            have hl3 : l < S1.length := by rw [hl, ← so.len]; exact hl2
            rw [List.getElem?_append_left hl3] at b
            exact su u (.inr ⟨l, d, a, b, lv⟩)
          · rw [List.getElem?_append_right (by omega)] at a
            have e1 : u ∈ [q] := List.mem_of_getElem? a
            simp at e1
            subst e1
            exact .inr hn
  · rintro us s1 ⟨xs, H1, I1, rv, q, ce, S1, rfl, x1, hl, h1⟩
    refine ⟨I1.kIn, runF c x1.sto (ds := [.r S1.length]) (vs := [V.ref q]) ⟨⟨q, by rw [hl, ← so.len]; simp, rfl⟩, trivial⟩ I1 rv ?_⟩
    cases hr : cf.call f [.r S1.length] (S1 ++ [ce]) with
    | bad => rw [hr] at h1; exact h1
    | ex cc fs S2 =>
      rw [hr] at h1
      intro d H2 x2 xd
      have h2 : PX T X.K Z ρ S H (WE W σ) cc fs (S2.take S.length) := by rw [← hl]; exact h1
      exact h2 d H2 (Ext.take so.len (x1.trans x2)) (ExcD.take so.len xd)
    | ok v S2 =>
      rw [hr] at h1
      cases v with
      | r _ => exact h1.elim
      | f _ => exact h1.elim
      | d y =>
        intro w H2 x2 rel
        have h2 : PV T X.K Z ρ S H Q (S2.take S.length) (.d y) := by rw [← hl]; exact h1
        exact h2 w H2 (Ext.take so.len (x1.trans x2)) (Rel.mono rel (.refl _ _) (take_sub so.len))
theorem lrg_rel {M : Addr → Prop} {H : Hp} (n : Nat) : RelL T.toTx X.K M H ((List.range n).map fun (k : Nat) => D.int k) (rgV 0 n) := by
  have e1 : ((List.range n).map fun (k : Nat) => D.int k) = dI ((List.range n).map fun (k : Nat) => (k : Int)) := by simp [dI, Function.comp_def]
  have e2 : rgV 0 n = ((List.range n).map fun (k : Nat) => (k : Int)).map V.int := by
    unfold rgV
    rw [List.map_map, show ((n : Int) - 0).toNat = n by omega]
    congr 1
    funext i
    simp
  rw [e1, e2]
  exact rel_ints _
theorem s_lrg (c : Cc T X W cf k) {x y : Str} {p0 p1 pos2 : Pos} (ex : x = "list") (ey : y = "range") (hg : gloB X.env.scope x = true) (hg2 : gloB X.env.scope y = true) (hs : nostar p = true) (he : PE X p (tE T X W cf e)) :
    PE X (.Call (.Name x p0) [.Call (.Name y p1) [p] [] pos2] [] pos) (tE T X W cf (.lrg e)) := by
  subst ex ey
  refine peImp (pe_listRg c.calm (glo_of hg).1 (c.fx.blt _ (by decide +kernel)) (prg_1 (glo_of hg2).1 (c.fx.blt _ (by decide +kernel)) he (star_of hs)) (star_of rfl)) fun σ H Q ⟨Z, env, ρ, S, so, ev, h⟩ => ?_
  rw [evE] at h
  refine stepE so ev h fun va v S1 H1 a1 r1 h1 => ?_
  unfold lrgV at h1
  split at h1
  case h_2 => exact h1.elim
  case h_1 b =>
  split at h1
  case isFalse => exact h1.elim
  case isTrue hb =>
  obtain rfl := relI r1
  obtain ⟨n, rfl⟩ : ∃ n : Nat, b = n := ⟨b.toNat, by omega⟩
  refine ⟨_, rfl, RgOk.of_le (by omega) (by omega) (by omega) (by omega), fun q hq => ?_⟩
  rw [Int.toNat_natCast] at h1
  exact fresh_list a1.sto (lrg_rel n) hq h1
end
end GS
/-! G: calls of builtins, isinstance. -/
namespace GS
open PySem PySem.Spec PyProof.Rows L2 G ClX
def biN : Bi → Str
  | .len => "len" | .min => "min" | .max => "max" | .sum => "sum" | .any => "any" | .all => "all" | .abs => "abs" | .int => "int" | .bool => "bool" | .list => "list" | .tuple => "tuple" | .sorted => "sorted" | .iter => "iter"
def biF : Bi → Value
  | .len => .builtin "len" | .min => .builtin "min" | .max => .builtin "max" | .sum => .builtin "sum" | .any => .builtin "any" | .all => .builtin "all" | .abs => .builtin "abs" | .int => .type "int" | .bool => .type "bool" | .list => .type "list" | .tuple => .type "tuple"
  | .sorted => .builtin "sorted" | .iter => .builtin "iter"
theorem bi_boot : ∀ b : Bi, bootBuiltins (biN b) = some (biF b) := by intro b; cases b <;> decide +kernel
theorem bi_in : ∀ b : Bi, biN b ∈ bnames := by intro b; cases b <;> decide +kernel
theorem bi_kind : ∀ b : Bi, (∃ i, biF b = .builtin i) ∨ ∃ n, biF b = .type n := by intro b; cases b <;> first | exact .inl ⟨_, rfl⟩ | exact .inr ⟨_, rfl⟩
section
variable {T : Text} {X : Cx} {W : WX} {cf : Cfg} {k : Nat} {Z : Addr → Prop} {ρ : List Addr} {S S' : Sto} {σ : L2.St} {H : Hp} {Q Q' : VK} {pins : List (Addr × Obj)} {s : Shared} {vs : List Va} {xs : List V} {us : List Value} {a b d : E} {p q r : Expr} {pos apos : Pos}
theorem one_of {va : Va} (rs : RelWs T.toTx X.K Z ρ S H [va] xs) : ∃ x, xs = [x] ∧ RelW T.toTx X.K Z ρ S H va x := by
  match xs, rs with
  | [x], rs => exact ⟨x, rfl, rs.1⟩
theorem biV_ok (c : Cc T X W cf k) {b : Bi} (so : StoOk T.toTx X.K Z ρ H S) (rs : RelWs T.toTx X.K Z ρ S H vs xs) (I : Inv X pins σ H s) (r : Vals xs us) (h : PE3 T X.K (biV cf b vs S) Z ρ S H Q (WE W σ)) : Calls1 X pins σ Q s (biF b) us := by
  unfold biV at h
  split at h
  · obtain ⟨x, rfl, ra⟩ := one_of rs; exact lenV_ok c so ra I r h
  · obtain ⟨x, rfl, ra⟩ := one_of rs; exact minL_ok c.calm so ra I r h
  · obtain ⟨x, rfl, ra⟩ := one_of rs; exact maxL_ok c.calm so ra I r h
  · match xs, rs with
    | [x, y], rs =>
      obtain rfl := relI rs.1
      obtain rfl := relI rs.2.1
      exact call_min2 c.calm _ _ _ _ _ _ _ I r ⟨_, _, rfl, okI so h⟩
  · match xs, rs with
    | [x, y], rs =>
      obtain rfl := relI rs.1
      obtain rfl := relI rs.2.1
      exact call_max2 c.calm _ _ _ _ _ _ _ I r ⟨_, _, rfl, okI so h⟩
  · match xs, rs with
    | [x, y, z], rs =>
      obtain rfl := relI rs.1
      obtain rfl := relI rs.2.1
      obtain rfl := relI rs.2.2.1
      exact max3_ok c.calm I r (okI so h)
  · obtain ⟨x, rfl, ra⟩ := one_of rs; exact sumV_ok c.calm so ra I r h
  · obtain ⟨x, rfl, ra⟩ := one_of rs; exact anyV_ok c.calm so ra I r h
  · obtain ⟨x, rfl, ra⟩ := one_of rs; exact allV_ok c.calm so ra I r h
  · obtain ⟨x, rfl, ra⟩ := one_of rs
    obtain rfl := relI ra
    exact call_abs _ _ _ _ _ _ _ I r ⟨_, rfl, okI so h⟩
  · obtain ⟨x, rfl, ra⟩ := one_of rs
    obtain rfl := relI ra
    exact call_int1 _ _ _ _ _ _ _ I r (.inl ⟨_, rfl, okI so h⟩)
  · obtain ⟨x, rfl, ra⟩ := one_of rs
    obtain rfl := relB ra
    exact call_int1 _ _ _ _ _ _ _ I r (.inr ⟨_, rfl, okI so h⟩)
  · obtain ⟨x, rfl, ra⟩ := one_of rs
    obtain rfl := relI ra
    exact call_bool1 _ _ _ _ _ _ _ I r (.inl ⟨_, rfl, okB so h⟩)
  · obtain ⟨x, rfl, ra⟩ := one_of rs; exact listV_ok so ra I r h
  · obtain ⟨x, rfl, ra⟩ := one_of rs; exact tupV_ok so ra I r h
  · obtain ⟨x, rfl, ra⟩ := one_of rs; exact sortV_ok c so ra I r h
  · exact h.elim
theorem s_bi (c : Cc T X W cf k) {b : Bi} {x : Str} {ps : List Expr} {es : List E} {p0 : Pos} (e : x = biN b) (hg : gloB X.env.scope x = true) (hs : (p :: ps).all nostar = true) (hl : PA X (p :: ps) (tL T X W cf es)) :
    PE X (.Call (.Name x p0) (p :: ps) [] pos) (tE T X W cf (.bi b es)) := by
  subst e
  refine s_blt c (bi_in b) (bi_boot b) (bi_kind b) hg hs hl fun pins s σ H Q Z env ρ S so ev h => ?_
  rw [evE] at h
  exact stepL so ev h fun vs xs S1 H1 a1 r1 h1 s' us I r => biV_ok c a1.sto r1 I r h1
/-! ### isinstance -/
def tyB (Nm : Names) (sc : Scope) : Ty → Expr → Bool
  | .int, .Name x _ => decide (x = "int") && gloB sc x
  | .bool, .Name x _ => decide (x = "bool") && gloB sc x
  | .str, .Name x _ => decide (x = "str") && gloB sc x
  | .list, .Name x _ => decide (x = "list") && gloB sc x
  | .tuple, .Name x _ => decide (x = "tuple") && gloB sc x
  | .cls c, .Name x _ => Nm.okc c && decide (x = Nm.cnm c) && gloB sc x
  | _, _ => false
theorem ty_pe (c : Cc T X W cf k) {t : Ty} (h : tyB T.nm X.env.scope t p = true) : PE X p (tC (tyVal T t)) ∧ tyOk T t = true ∧ nostar p = true := by
  have blt : ∀ {x : Str} {pos : Pos} {n : String} {y : Str}, (decide (x = y) && gloB X.env.scope x) = true → y ∈ bnames → bootBuiltins y = some (.type n) → PE X (.Name x pos) (tC (.ty n)) := fun {x pos n y} h hy hv => by
    have h' := Bool.and_eq_true_iff.mp h
    have e : x = y := of_decide_eq_true h'.1
    subst e
    exact pe_bltn (glo_of h'.2).1 (c.fx.blt _ hy) hv rfl (no_name _ hy).1 (no_name _ hy).2
  unfold tyB at h
  split at h
  · exact ⟨blt h (by decide +kernel) (by decide +kernel), rfl, rfl⟩
  · exact ⟨blt h (by decide +kernel) (by decide +kernel), rfl, rfl⟩
  · exact ⟨blt h (by decide +kernel) (by decide +kernel), rfl, rfl⟩
  · exact ⟨blt h (by decide +kernel) (by decide +kernel), rfl, rfl⟩
  · exact ⟨blt h (by decide +kernel) (by decide +kernel), rfl, rfl⟩
  · rename_i cc x pos
    have h' := Bool.and_eq_true_iff.mp h
    have h2 := Bool.and_eq_true_iff.mp h'.1
    have e : x = T.nm.cnm cc := of_decide_eq_true h2.2
    subst e
    exact ⟨pe_glob (glo_of h'.2).1 (c.fx.cl cc h2.1).1 rfl (glo_of h'.2).2, h2.1, rfl⟩
  · cases h
def tysB (Nm : Names) (sc : Scope) : List Ty → List Expr → Bool
  | [], [] => true
  | t :: ts, p :: ps => tyB Nm sc t p && tysB Nm sc ts ps
  | _, _ => false
def tCs : List V → TA := fun vs _ H Q => Q vs H
theorem tys_pa (c : Cc T X W cf k) : ∀ {ts : List Ty} {ps : List Expr}, tysB T.nm X.env.scope ts ps = true → PA X ps (tCs (ts.map (tyVal T))) ∧ ts.all (tyOk T) = true
  | [], [], _ => ⟨paImp pa_nil fun σ H Q h => h, rfl⟩
  | t :: ts, p :: ps, h => by
    have h' := Bool.and_eq_true_iff.mp h
    obtain ⟨h1, h2, h3⟩ := ty_pe c h'.1
    obtain ⟨g1, g2⟩ := tys_pa c h'.2
    exact ⟨paImp (pa_cons h1 g1 (star_of h3)) fun σ H Q h => h, by rw [List.all_cons, h2, g2]; rfl⟩
  | [], _ :: _, h => by cases h
  | _ :: _, [], h => by cases h
theorem clsVs (T : Text) : ∀ ts : List Ty, Paired ClsV (ts.map (tyVal T)) (ts.map (tyU T))
  | [] => .nil
  | t :: ts => .cons (clsV_of T t) (clsVs T ts)
theorem TyX.up {K : PySem.W.Frag} {x : V} {t : Value} {pp : Addr} {o : HO} (h : TyX K H x t) (n : H pp = none) : TyX K (upd H pp o) x t := by
  have up : ∀ {q : Addr} {u : HO}, H q = some u → upd H pp o q = some u := fun {q u} e => (upd_ne (ne_of_none e n)).trans e
  cases h with
  | base h =>
    refine .base ?_
    cases h with
    | non => exact .non
    | bl x => exact .bl x
    | int i => exact .int i
    | str x => exact .str x
    | flt x => exact .flt x
    | lst e => exact .lst (up e)
    | frz e => exact .frz (up e)
    | tup e => exact .tup (up e)
    | dK e => exact .dK (up e)
    | dT e => exact .dT (up e)
    | ins e a b c d f => exact .ins (up e) a b c d f
  | byt b => exact .byt b
  | set e => exact .set (up e)
  | kList e c => exact .kList e c
  | kTuple e c => exact .kTuple e c
  | kDict e c => exact .kDict e c
  | fTuple e => exact .fTuple (up e)
  | fDict e => exact .fDict (up e)
theorem s_isi1 (c : Cc T X W cf k) {t : Ty} {p0 : Pos} {x : Str} (ex : x = "isinstance") (hg : gloB X.env.scope x = true) (hn : nostar p = true) (ht : tyB T.nm X.env.scope t q = true) (ha : PE X p (tE T X W cf a)) :
    PE X (.Call (.Name x p0) [p, q] [] pos) (tE T X W cf (.isi a [t])) := by
  subst ex
  obtain ⟨h1, h2, h3⟩ := ty_pe c ht
  refine peImp (pe_callB call_isi (glo_of hg).1 (c.fx.blt _ (by decide +kernel)) (by decide +kernel) (pa_cons ha (pa_cons h1 pa_nil (star_of h3)) (star_of hn)) (by decide +kernel) (by decide +kernel) (star_of hn) (plain_of (by rw [List.all_cons, h3]; rfl))) fun σ H Q ⟨Z, env, ρ, S, so, ev, h⟩ => ?_
  rw [evE] at h
  refine stepE so ev h fun va x S1 H1 a1 r1 hh => ?_
  obtain ⟨d, kd, ty, hh⟩ := isV_ty c a1.sto r1 hh
  refine ⟨x, tyVal T t, tvOf T d, tyU T t, _, rfl, clsV_of T t, ty, kit_one c kd h2, ?_⟩
  have q := okB a1.sto hh
  simpa using q
theorem s_isiT (c : Cc T X W cf k) {ts : List Ty} {p0 pt : Pos} {x : Str} {qs : List Expr} {kk : Nat} (ex : x = "isinstance") (hg : gloB X.env.scope x = true) (hn : nostar p = true) (hz : ts.length ≤ 100) (ht : tysB T.nm X.env.scope ts qs = true) (ha : PE X p (tE T X W cf a)) :
    PE X (.Call (.Name x p0) [p, .Tuple qs kk pt] [] pos) (tE T X W cf (.isi a ts)) := by
  subst ex
  obtain ⟨h1, h2⟩ := tys_pa c ht
  refine peImp (pe_callB call_isiT (glo_of hg).1 (c.fx.blt _ (by decide +kernel)) (by decide +kernel) (pa_cons ha (pa_cons (pe_tup h1) pa_nil (star_of rfl)) (star_of hn)) (by decide +kernel) (by decide +kernel) (star_of hn) (plain_of rfl)) fun σ H Q ⟨Z, env, ρ, S, so, ev, h⟩ => ?_
  rw [evE] at h
  refine stepE so ev h fun va x S1 H1 a1 r1 hh => ?_
  obtain ⟨d, kd, ty, hh⟩ := isV_ty c a1.sto r1 hh
  refine ⟨by rw [List.length_map, sizeLine_eq]; omega, fun tp hp => ?_⟩
  refine ⟨x, tp, ts.map (tyVal T), tvOf T d, ts.map (tyU T), _, rfl, upd_same, clsVs T ts, TyX.up ty hp, kit_any c kd h2, ?_⟩
  exact hh (.bl _) _ (Ext.new a1.sto hp) (.bl _)
end
end GS
/-! G: targets, what is walked. -/
namespace GS
open PySem PySem.Spec PyProof.Rows L2 G ClX
/-! ### targets -/
def gNs : List Nat → TGs
  | [] => gNil
  | i :: is => gCons (gName i) (gNs is)
def gT (K : PySem.W.Frag) : Tg → TG
  | .nm i => gName i
  | .tp is => gTup K is.length (gNs is)
def locB (sc : Scope) (x : Str) : Bool := match sc.names.lookup x with
  | some .local => true
  | some .cell => true
  | _ => false
def nameB (fnB : Str → Bool) (N : List Str) (sc : Scope) (i : Nat) (x : Str) : Bool := decide (N[i]? = some x) && (locB sc x && (fnB x || decide (sc.names.lookup x = some .local)))
def namesB (fnB : Str → Bool) (N : List Str) (sc : Scope) : List Nat → List Expr → Bool
  | [], [] => true
  | i :: is, .Name x _ :: es => nameB fnB N sc i x && namesB fnB N sc is es
  | _, _ => false
def tgB (fnB : Str → Bool) (N : List Str) (sc : Scope) : Tg → Expr → Bool
  | .nm i, .Name x _ => nameB fnB N sc i x
  | .tp is, .Tuple es _ _ => namesB fnB N sc is es && (match is with | [] => false | _ => true)
  | _, _ => false
section
variable {X : Cx} {fnB : Str → Bool}
theorem name_of {i : Nat} {x : Str} (hf : ∀ x, fnB x = true → X.fn x = true) (h : nameB fnB X.N X.env.scope i x = true) : X.N[i]? = some x ∧ Loc X.env.scope x ∧ (X.fn x = true ∨ X.env.scope.names.lookup x = some .local) := by
  have h1 := Bool.and_eq_true_iff.mp h
  have h2 := Bool.and_eq_true_iff.mp h1.2
  refine ⟨of_decide_eq_true h1.1, ?_, ?_⟩
  · have h3 := h2.1
    unfold locB at h3
    split at h3
    · exact .inl (by assumption)
    · exact .inr (by assumption)
    · cases h3
  · rcases Bool.or_eq_true_iff.mp h2.2 with h | h
    · exact .inl (hf x h)
    · exact .inr (of_decide_eq_true h)
theorem pgs_of (hN : X.N.Nodup) (hf : ∀ x, fnB x = true → X.fn x = true) : ∀ {is : List Nat} {es : List Expr}, namesB fnB X.N X.env.scope is es = true → PGs X es (gNs is)
  | [], [], _ => pgs_nil
  | i :: is, e :: es, h => by
    cases e with
    | Name x pos =>
      have h1 := Bool.and_eq_true_iff.mp h
      obtain ⟨a, b, c⟩ := name_of hf h1.1
      exact pgs_cons (pg_name hN a b c) (pgs_of hN hf h1.2)
    | _ => cases h
  | [], _ :: _, h => by cases h
  | _ :: _, [], h => by cases h
theorem names_len : ∀ {is : List Nat} {es : List Expr} {N : List Str} {sc : Scope}, namesB fnB N sc is es = true → es.length = is.length
  | [], [], _, _, _ => rfl
  | i :: is, e :: es, N, sc, h => by
    cases e with
    | Name x pos =>
      have h1 := Bool.and_eq_true_iff.mp h
      rw [List.length_cons, List.length_cons, names_len h1.2]
    | _ => cases h
  | [], _ :: _, _, _, h => by cases h
  | _ :: _, [], _, _, h => by cases h
theorem each_of {env : Env} {N : List Str} {sc : Scope} : ∀ {is : List Nat} {es : List Expr}, namesB fnB N sc is es = true → (assignEach es env).length = es.length ∧ List.findIdx? (fun x => x.1) (assignEach es env) = none
  | [], [], _ => ⟨rfl, rfl⟩
  | i :: is, e :: es, h => by
    cases e with
    | Name x pos =>
      have h1 := Bool.and_eq_true_iff.mp h
      obtain ⟨a, b⟩ := each_of (env := env) h1.2
      have e : assignEach (.Name x pos :: es) env = (false, assign (.Name x pos) env) :: assignEach es env := rfl
      rw [e]
      refine ⟨by rw [List.length_cons, List.length_cons, a], ?_⟩
      rw [List.findIdx?_cons, b]
      rfl
    | _ => cases h
  | [], _ :: _, h => by cases h
  | _ :: _, [], h => by cases h
theorem pg_of (hN : X.N.Nodup) (hc : X.calm = true) (hf : ∀ x, fnB x = true → X.fn x = true) {t : Tg} {p : Expr} (h : tgB fnB X.N X.env.scope t p = true) : PG X p (gT X.K t) := by
  cases t with
  | nm i =>
    cases p with
    | Name x pos =>
      obtain ⟨a, b, c⟩ := name_of hf h
      exact pg_name hN a b c
    | _ => cases h
  | tp is =>
    cases p with
    | Tuple es kk pos =>
      have h1 := Bool.and_eq_true_iff.mp h
      have hl := names_len h1.1
      have hg := pgs_of hN hf h1.1
      have hne : es ≠ [] := fun e => by
        rw [e] at hl
        cases is with
        | nil => exact absurd h1.2 Bool.false_ne_true
        | cons _ _ => simp at hl
      show PG X (.Tuple es kk pos) (gTup X.K is.length (gNs is))
      rw [← hl]
      cases es with
      | nil => exact (hne rfl).elim
      | cons e es => exact pg_tup hc hg (hn := (each_of h1.1).1) (hst := (each_of h1.1).2)
    | _ => cases h
end
/-! ### slots of targets -/
theorem wipe_comm {σ : L2.St} {i : Nat} {v : Option V} : ∀ {vs : List Nat}, i ∉ vs → L2.wipe (σ.set i v) vs = (L2.wipe σ vs).set i v
  | [], _ => rfl
  | w :: ws, h => by
    have h' : i ≠ w ∧ i ∉ ws := by simpa using h
    unfold L2.wipe
    rw [wipe_comm h'.2, List.set_comm _ _ h'.1]
theorem wipe_set {σ : L2.St} {i : Nat} {v : Option V} : ∀ {vs : List Nat}, i ∈ vs → L2.wipe (σ.set i v) vs = L2.wipe σ vs
  | [], h => by simp at h
  | w :: ws, h => by
    unfold L2.wipe
    by_cases hi : i ∈ ws
    · rw [wipe_set hi]
    · have e : i = w := by
        rcases List.mem_cons.mp h with e | h
        · exact e
        · exact (hi h).elim
      subst e
      rw [wipe_comm hi, List.set_set]
def tgIn : Tg → List Nat → Bool
  | .nm i, vs => decide (i ∈ vs)
  | .tp is, vs => is.all fun i => decide (i ∈ vs)
section
variable {T : Text} {X : Cx} {Z : Addr → Prop} {ρ : List Addr} {S : Sto} {H : Hp} {env env' : Frm} {σ : L2.St} {vs : List Nat}
theorem gNs_ok : ∀ {is : List Nat} {xs : List D} {ws : List V} {env env' : Frm} {σ : L2.St} {Q : L2.St → Hp → Prop}, setTs is xs env = some env' → EnvOk T.toTx X.K Z ρ S H env σ → RelL T.toTx X.K (Live Z ρ S) H xs ws →
    (∀ σ', EnvOk T.toTx X.K Z ρ S H env' σ' → ((is.all fun i => decide (i ∈ vs)) = true → L2.wipe σ' vs = L2.wipe σ vs) → Q σ' H) → gNs is ws σ H Q
  | [], [], ws, env, env', σ, Q, e, ev, r, q => by
    cases e
    cases ws with
    | nil => exact ⟨rfl, q σ ev fun _ => rfl⟩
    | cons _ _ => have := r.1; simp at this
  | i :: is, x :: xs, ws, env, env', σ, Q, e, ev, r, q => by
    obtain ⟨w, ws', rfl, h, l', r'⟩ := vs_tail r.1 r.2
    refine ⟨w, ws', rfl, ?_⟩
    show gNs is ws' (σ.set i (some w)) H Q
    have e' : setTs is xs (env.set i (some (.d x))) = some env' := e
    refine gNs_ok e' (ev.set (a := .d x) h i) ⟨l', r'⟩ fun σ' ev' hw => q σ' ev' fun ha => ?_
    have ha' : i ∈ vs ∧ (is.all fun i => decide (i ∈ vs)) = true := by
      rw [List.all_cons, Bool.and_eq_true] at ha
      exact ⟨of_decide_eq_true ha.1, ha.2⟩
    rw [hw ha'.2, wipe_set ha'.1]
  | [], _ :: _, _, _, _, _, _, e, _, _, _ => by cases e
  | _ :: _, [], _, _, _, _, _, e, _, _, _ => by cases e
theorem gT_ok {t : Tg} {x : D} {v : V} {Q : L2.St → Hp → Prop} (e : setT t x env = some env') (ev : EnvOk T.toTx X.K Z ρ S H env σ) (r : Rel T.toTx X.K (Live Z ρ S) H x v)
    (q : ∀ σ', EnvOk T.toTx X.K Z ρ S H env' σ' → (tgIn t vs = true → L2.wipe σ' vs = L2.wipe σ vs) → Q σ' H) : gT X.K t v σ H Q := by
  cases t with
  | nm i =>
    cases e
    exact q _ (ev.set (a := .d x) r i) fun h => wipe_set (of_decide_eq_true h)
  | tp is =>
    cases x with
    | tup xs =>
      cases r with
      | tup h l r =>
        rename_i p ws
        have hl : xs.length = is.length := by
          have : ∀ {is : List Nat} {xs : List D} {env : Frm}, setTs is xs env = some env' → xs.length = is.length := by
            intro is
            induction is with
            | nil => intro xs env e; cases xs with
              | nil => rfl
              | cons _ _ => cases e
            | cons i is ih => intro xs env e; cases xs with
              | nil => cases e
              | cons x xs => rw [List.length_cons, List.length_cons, ih e]
          exact this e
        refine ⟨p, ws, rfl, h.sq, by rw [← l, hl], ?_⟩
        exact gNs_ok (vs := vs) e ev ⟨l, r⟩ q
    | _ => cases e
end
/-! ### sources -/
section
variable {T : Text} {X : Cx} {W : WX} {cf : Cfg} {k : Nat} {a b d : E} {p q r tg : Expr} {pos : Pos} {Z : Addr → Prop} {ρ : List Addr} {S : Sto} {H : Hp}
theorem it_list {pins : List (Addr × Obj)} {σ : L2.St} {s : Shared} {R : It → Hp → Prop} {Ex : Value → Shared → Prop} {a : Addr} {xs : List V} (I : Inv X pins σ H s) (hq : SqL X.K H a xs) (h : R (Itl X.K a) H) :
    wpAny (model X.prog X.w) X.A (pyIter (.ref a)) (PIE X pins σ tg R) Ex s := by
  obtain ⟨its, rv, pl, hz⟩ := I.list hq
  refine wpAny_pyIter_list pl.isList ?_
  have I2 := I.kept (t' := s.toks) (h' := s.heap.push { cls := .type "list_iterator", data := .fields #[.ref a, .int 0 0] }) fun b o e => Heap.get?_push_of_some _ e
  refine ⟨s.heap.objs.size, [s.heap.objs.size], _, _, H, rfl, I2, turn_list a _, ⟨_, Heap.get?_push_size _ rfl, rfl, rfl⟩, ?_, h⟩
  intro b hb
  obtain rfl : b = s.heap.objs.size := by simpa using hb
  exact I.fpOk (Nat.le_refl _) (I.hok.fresh (Nat.le_refl _))
theorem it_tuple {pins : List (Addr × Obj)} {σ : L2.St} {s : Shared} {R : It → Hp → Prop} {Ex : Value → Shared → Prop} {a : Addr} {xs : List V} (I : Inv X pins σ H s) (hq : SqT X.K H a xs) (h : R (Itt X.K a) H) :
    wpAny (model X.prog X.w) X.A (pyIter (.ref a)) (PIE X pins σ tg R) Ex s := by
  obtain ⟨its, rv, pl, hz⟩ := I.tuple hq
  refine wpAny_pyIter_tuple (show s.heap.IsTuple a its.toArray from pl) ?_
  have I2 := I.kept (t' := s.toks) (h' := s.heap.push { cls := .type "tuple_iterator", data := .fields #[.ref a, .int 0 0] }) fun b o e => Heap.get?_push_of_some _ e
  refine ⟨s.heap.objs.size, [s.heap.objs.size], _, _, H, rfl, I2, turn_tuple a _, ⟨_, Heap.get?_push_size _ rfl, rfl, rfl⟩, ?_, h⟩
  intro b hb
  obtain rfl : b = s.heap.objs.size := by simpa using hb
  exact I.fpOk (Nat.le_refl _) (I.hok.fresh (Nat.le_refl _))
end
end GS
/-! G: sources. -/
namespace GS
open PySem PySem.Spec PyProof.Rows L2 G ClX
section
variable {T : Text} {X : Cx} {W : WX} {cf : Cfg} {k : Nat} {a b d : E} {p q r tg : Expr} {pos : Pos} {Z : Addr → Prop} {ρ : List Addr} {S : Sto} {H : Hp}
theorem walks_list {xs : List D} {ws : List V} {ad : Addr} (h : SL X.K (Live Z ρ S) H ad ws) (l : xs.length = ws.length) (r : ∀ (i : Nat) x v, xs[i]? = some x → ws[i]? = some v → Rel T.toTx X.K (Live Z ρ S) H x v) : Walks T X Z ρ S H xs (Itl X.K ad) := by
  intro M H1 st sb hM i
  have h1 := (h.mono st sb).sq
  refine ⟨fun e => ⟨ws, h1, by rw [← l]; exact List.getElem?_eq_none_iff.mp e⟩, fun x e => ?_⟩
  have hi : i < ws.length := by rw [← l]; exact (List.getElem?_eq_some_iff.mp e).1
  have hw := List.getElem?_eq_getElem hi
  refine ⟨⟨ws, _, h1, hw⟩, fun y H2 hy => ?_⟩
  obtain ⟨rfl, hy⟩ := hy
  have e2 := hy ws h1
  exact ⟨.inl rfl, (r i x y e e2).mono st sb⟩
theorem walks_tuple {xs : List D} {ws : List V} {ad : Addr} (h : ST X.K (Live Z ρ S) H ad ws) (l : xs.length = ws.length) (r : ∀ (i : Nat) x v, xs[i]? = some x → ws[i]? = some v → Rel T.toTx X.K (Live Z ρ S) H x v) : Walks T X Z ρ S H xs (Itt X.K ad) := by
  intro M H1 st sb hM i
  have h1 := (h.mono st sb).sq
  refine ⟨fun e => ⟨ws, h1, by rw [← l]; exact List.getElem?_eq_none_iff.mp e⟩, fun x e => ?_⟩
  have hi : i < ws.length := by rw [← l]; exact (List.getElem?_eq_some_iff.mp e).1
  have hw := List.getElem?_eq_getElem hi
  refine ⟨⟨ws, _, h1, hw⟩, fun y H2 hy => ?_⟩
  obtain ⟨rfl, hy⟩ := hy
  have e2 := hy ws h1
  exact ⟨.inl rfl, (r i x y e e2).mono st sb⟩
theorem walks_rng (lo c : Int) (n : Nat) : Walks T X Z ρ S H (rngI lo c n) (Itc lo c n) := by
  intro M H1 st sb hM i
  unfold rngI
  refine ⟨fun e => ?_, fun x e => ?_⟩
  · have := List.getElem?_eq_none_iff.mp e
    simp only [List.length_map, List.length_range] at this
    exact this
  · have hi := (List.getElem?_eq_some_iff.mp e).1
    simp only [List.length_map, List.length_range] at hi
    rw [List.getElem?_map, List.getElem?_range hi] at e
    simp only [Option.map_some, Option.some.injEq] at e
    subst e
    refine ⟨hi, fun y H2 hy => ?_⟩
    obtain ⟨rfl, rfl⟩ := hy
    exact ⟨.inl rfl, .int _⟩
theorem walks_rng1 (lo : Int) (n : Nat) : Walks T X Z ρ S H ((List.range n).map fun (k : Nat) => D.int (lo + k)) (Itr lo n) := by
  intro M H1 st sb hM i
  refine ⟨fun e => ?_, fun x e => ?_⟩
  · have := List.getElem?_eq_none_iff.mp e
    simp only [List.length_map, List.length_range] at this
    exact this
  · have hi := (List.getElem?_eq_some_iff.mp e).1
    simp only [List.length_map, List.length_range] at hi
    rw [List.getElem?_map, List.getElem?_range hi] at e
    simp only [Option.map_some, Option.some.injEq] at e
    subst e
    refine ⟨hi, fun y H2 hy => ?_⟩
    obtain ⟨rfl, rfl⟩ := hy
    exact ⟨.inl rfl, .int _⟩
/-- any value that is walked -/
theorem s_src (ev0 : ∀ cf env S, evI a cf env S = (G.stl (evE a cf env S)).bind fun v S1 => srcV v S1) (ha : PE X p (tE T X W cf a)) : PI X tg p (tI T X W cf a) := by
  refine ⟨fun pins s σ H R I ⟨Z, env, ρ, S, so, ev, h⟩ => ?_⟩
  rw [ev0] at h
  refine thn (ha.run pins s σ H (fun x H' => ∃ v S', At T X Z env ρ σ S H S' H' ∧ RelW T.toTx X.K Z ρ S' H' v x ∧ PG3 T X.K (fun s S' H' => ∀ J, SrcOk T X Z ρ S' H' J s → R J H') (srcV v S') Z ρ S' H' (WE W σ)) I
    (stepG so ev h fun v x S1 H1 a1 r1 h1 => ⟨v, S1, a1, r1, h1⟩)) ?_
  rintro u s1 ⟨x, H1, I1, rx, v, S1, a1, r1, h1⟩
  unfold srcV at h1
  split at h1
  · rename_i l
    split at h1
    case h_2 => exact h1.elim
    case h_1 ys hs =>
    obtain ⟨ad, e, rfl⟩ := r1
    obtain ⟨ws, hp, rl⟩ := a1.sto.ok l _ ad hs e
    obtain rfl : u = Value.ref ad := rx
    exact it_list I1 (SqL.of hp) (h1 H1 (.refl a1.sto) _ ⟨ad, e, rfl⟩)
  · rename_i hn
    split at h1
    case h_2 => exact h1.elim
    case h_1 bb xs es =>
    cases v with
    | f c => exact r1.elim
    | r l => exact (hn l rfl).elim
    | d y =>
      cases y with
      | tup ys =>
        cases es
        cases r1 with
        | tup hh l r =>
          rename_i ad ws
          obtain rfl : u = Value.ref ad := rx
          exact it_tuple I1 hh.sq (h1 H1 (.refl a1.sto) _ (walks_tuple hh l r))
      | lst ys =>
        cases es
        cases r1 with
        | lst hh l r =>
          rename_i ad ws
          obtain rfl : u = Value.ref ad := rx
          exact it_list I1 hh.sq (h1 H1 (.refl a1.sto) _ (walks_list hh l r))
      | _ => cases es
/-- range(..) -/
theorem s_rng (c : Cc T X W cf k) {x : Str} {p0 : Pos} {ps : List Expr} {es : List E} (ex : x = "range") (hg : gloB X.env.scope x = true) (hs : ps.all nostar = true) (hn : ps.length = 1 ∨ ps.length = 2 ∨ ps.length = 3) (hes : es.length = ps.length) (hl : PA X ps (tL T X W cf es)) :
    PI X tg (.Call (.Name x p0) ps [] pos) (tI T X W cf (.rng es)) := by
  subst ex
  have hm := c.fx.blt "range" (by decide +kernel)
  have e62 : (2 : Int) ^ 62 = 4611686018427387904 := by decide
  have bnd_of : ∀ {i : Int}, bnd i = true → -1073741824 < i ∧ i < 1073741824 := fun h => of_decide_eq_true h
  have run : ∀ {σ : L2.St} {H : Hp} {R : It → Hp → Prop}, tI T X W cf (.rng es) σ H R → tL T X W cf es σ H fun xs H' => ∃ Z ρ S, StoOk T.toTx X.K Z ρ H' S ∧ ∃ vs, RelWs T.toTx X.K Z ρ S H' vs xs ∧ vs.length = ps.length ∧
      PG3 T X.K (fun s S' H' => ∀ J, SrcOk T X Z ρ S' H' J s → R J H') (rngV vs S) Z ρ S H' (WE W σ) := fun {σ H R} ⟨Z, env, ρ, S, so, ev, h⟩ => by
    rw [evI] at h
    exact stepLGn so ev h fun vs xs S1 H1 a1 r1 hl h1 => ⟨Z, ρ, S1, a1.sto, vs, r1, by rw [hl, hes], h1⟩
  match ps, hn with
  | [p], _ =>
    have h1 : nostar p = true := by simpa using hs
    refine piImp (pi_range1 (glo_of hg).1 hm hl (star_of h1)) fun σ H R h => ?_
    obtain ⟨Z, env, ρ, S, so, ev, q⟩ := run h
    refine ⟨Z, env, ρ, S, so, ev, q.mono fun vs S' H' z xs rs hz => ?_⟩
    obtain ⟨Z1, ρ1, S1, so1, vs1, rs1, hlen, h1⟩ := z xs rs hz
    unfold rngV at h1
    split at h1
    · rename_i b
      match xs, rs1 with
      | [x], rs1 =>
        split at h1
        case isFalse => exact h1.elim
        case isTrue hb =>
        obtain ⟨b1, b2⟩ := bnd_of hb
        refine ⟨_, by rw [relI rs1.1], by rw [e62]; omega, by rw [e62]; omega, h1 _ (.refl so1) _ ?_⟩
        have := walks_rng1 (T := T) (X := X) (Z := Z1) (ρ := ρ1) (S := S1) (H := H') 0 b.toNat
        simp only [Int.zero_add] at this
        exact this
    · simp at hlen
    · simp at hlen
    · exact h1.elim
  | [p, q], _ =>
    have h1 : nostar p = true ∧ nostar q = true := by simpa using hs
    refine piImp (pi_range2 (glo_of hg).1 hm hl (by rw [star_of h1.1, star_of h1.2]; rfl) (by rw [star_of h1.2]; rfl)) fun σ H R h => ?_
    obtain ⟨Z, env, ρ, S, so, ev, q⟩ := run h
    refine ⟨Z, env, ρ, S, so, ev, q.mono fun vs S' H' z xs rs hz => ?_⟩
    obtain ⟨Z1, ρ1, S1, so1, vs1, rs1, hlen, h1⟩ := z xs rs hz
    unfold rngV at h1
    split at h1
    · simp at hlen
    · rename_i b b'
      match xs, rs1 with
      | [x, y], rs1 =>
        split at h1
        case isFalse => exact h1.elim
        case isTrue hb =>
        have hb' := Bool.and_eq_true_iff.mp hb
        obtain ⟨b1, b2⟩ := bnd_of hb'.1
        obtain ⟨b3, b4⟩ := bnd_of hb'.2
        refine ⟨_, _, by rw [relI rs1.1, relI rs1.2.1], ⟨by rw [e62]; omega, by rw [e62]; omega, by rw [e62]; omega, by rw [e62]; omega⟩, h1 _ (.refl so1) _ ?_⟩
        exact walks_rng1 (T := T) (X := X) (Z := Z1) (ρ := ρ1) (S := S1) (H := H') b (b' - b).toNat
    · simp at hlen
    · exact h1.elim
  | [p, q, r], _ =>
    have h1 : nostar p = true ∧ nostar q = true ∧ nostar r = true := by simpa using hs
    refine piImp (pi_range3 (glo_of hg).1 hm hl (star_of h1.1) (plain_of (by simp [h1.2.1, h1.2.2]))) fun σ H R h => ?_
    obtain ⟨Z, env, ρ, S, so, ev, q⟩ := run h
    refine ⟨Z, env, ρ, S, so, ev, q.mono fun vs S' H' z xs rs hz => ?_⟩
    obtain ⟨Z1, ρ1, S1, so1, vs1, rs1, hlen, h1⟩ := z xs rs hz
    unfold rngV at h1
    split at h1
    · simp at hlen
    · simp at hlen
    · rename_i b b' b''
      match xs, rs1 with
      | [x, y, z], rs1 =>
        split at h1
        case isFalse => exact h1.elim
        case isTrue hb =>
        have hb' := Bool.and_eq_true_iff.mp hb
        have hb2 := Bool.and_eq_true_iff.mp hb'.2
        have hb3 := Bool.and_eq_true_iff.mp hb2.2
        refine ⟨_, _, _, _, by rw [relI rs1.1, relI rs1.2.1, relI rs1.2.2.1], ⟨of_decide_eq_true hb'.1, of_decide_eq_true hb2.1, hb3.1, of_decide_eq_true hb3.2⟩, h1 _ (.refl so1) _ ?_⟩
        exact walks_rng (T := T) (X := X) (Z := Z1) (ρ := ρ1) (S := S1) (H := H') b b'' (rngN b b' b'')
    · exact h1.elim
end
end GS
/-! G: comprehensions. -/
namespace GS
open PySem PySem.Spec PyProof.Rows L2 G ClX
abbrev hidD (Z : Addr → Prop) (D : Addr) : Addr → Prop := fun q => Z q ∨ q = D
/-- within a comprehension: S1, H1 at its start; D its list -/
structure InC (T : Text) (X : Cx) (Z : Addr → Prop) (D : Addr) (ρ : List Addr) (S1 : Sto) (H1 : Hp) (S' : Sto) (H : Hp) : Prop where
  stay : Stay (Live Z ρ S1) H1 H
  sub : Sub (Live (hidD Z D) ρ S') (Live Z ρ S1) H1
  hid : ∀ q, Z q → H q = H1 q
  sto : StoOk T.toTx X.K (hidD Z D) ρ H S'
section
variable {T : Text} {X : Cx} {Z : Addr → Prop} {D : Addr} {ρ : List Addr} {S S1 S2 S' : Sto} {H H1 H2 : Hp} {env : Frm} {σ : L2.St} {p : Addr} {o : HO}
theorem live_hid {q : Addr} (h : Live Z ρ S q) : Live (hidD Z D) ρ S q := h.elim (fun z => .inl (.inl z)) .inr
theorem live_unhid {q : Addr} (h : Live (hidD Z D) ρ S q) : Live Z ρ S q ∨ q = D := h.elim (fun z => z.elim (fun z => .inl (.inl z)) .inr) fun z => .inl (.inr z)
/-- a hidden object's contents change -/
theorem sto_hid (so : StoOk T.toTx X.K (hidD Z D) ρ H S) : StoOk T.toTx X.K (hidD Z D) ρ (upd H D o) S := by
  have nD : D ∉ ρ := (so.hid D (.inr rfl)).2
  have st : Stay (Live (hidD Z D) ρ S) H (upd H D o) := fun q u e n => by
    rw [upd_ne fun z => n (.inl (.inr z))]; exact e
  refine ⟨so.len, so.nd, fun l c q a b => ?_, fun q z => ⟨?_, (so.hid q z).2⟩⟩
  · have hq : q ≠ D := fun z => nD (by rw [← z]; exact List.mem_of_getElem? b)
    have z := so.ok l c q a b
    cases c with
    | lst xs => obtain ⟨vs, e, r⟩ := z; exact ⟨vs, by rw [upd_ne hq]; exact e, r.mono st (.refl _ _)⟩
    | ins c fs => obtain ⟨dx, fvs, e, r⟩ := z; exact ⟨dx, fvs, by rw [upd_ne hq]; exact e, r.mono st (.refl _ _)⟩
    | dead => obtain ⟨u, e⟩ := z; exact ⟨u, by rw [upd_ne hq]; exact e⟩
  · by_cases e : q = D
    · exact ⟨o, by rw [e]; exact upd_same⟩
    · rw [upd_ne e]; exact (so.hid q z).1
/-- a new object becomes hidden -/
theorem sto_start (so : StoOk T.toTx X.K Z ρ H S) (n : H D = none) : StoOk T.toTx X.K (hidD Z D) ρ (upd H D o) S := by
  have nD : D ∉ ρ := not_mem so n
  have st : Stay (Live Z ρ S) H (upd H D o) := fun q u e _ => (upd_ne (ne_of_none e n)).trans e
  have sb : Sub (Live (hidD Z D) ρ S) (Live Z ρ S) H := fun q h => (live_unhid h).elim .inl fun e => .inr (by rw [e]; exact n)
  refine ⟨so.len, so.nd, fun l c q a b => ?_, fun q z => ?_⟩
  · have hq : q ≠ D := fun z => nD (by rw [← z]; exact List.mem_of_getElem? b)
    have z := so.ok l c q a b
    cases c with
    | lst xs => obtain ⟨vs, e, r⟩ := z; exact ⟨vs, by rw [upd_ne hq]; exact e, r.mono st sb⟩
    | ins c fs => obtain ⟨dx, fvs, e, r⟩ := z; exact ⟨dx, fvs, by rw [upd_ne hq]; exact e, r.mono st sb⟩
    | dead => obtain ⟨u, e⟩ := z; exact ⟨u, by rw [upd_ne hq]; exact e⟩
  · rcases z with z | rfl
    · obtain ⟨⟨u, e⟩, n2⟩ := so.hid q z
      exact ⟨⟨u, (upd_ne (ne_of_none e n)).trans e⟩, n2⟩
    · exact ⟨⟨o, upd_same⟩, nD⟩
theorem InC.start (so : StoOk T.toTx X.K Z ρ H1 S1) (n : H1 D = none) : InC T X Z D ρ S1 H1 S1 (upd H1 D o) :=
  ⟨fun q u e _ => (upd_ne (ne_of_none e n)).trans e, fun q h => (live_unhid h).elim .inl fun e => .inr (by rw [e]; exact n), (fun q z => upd_ne fun e => by
    obtain ⟨u, w⟩ := (so.hid q z).1
    rw [e, n] at w; cases w), sto_start so n⟩
/-- a step within -/
theorem InC.step (i : InC T X Z D ρ S1 H1 S H) (e : Ext T.toTx X.K (hidD Z D) ρ S H ρ S2 H2) : InC T X Z D ρ S1 H1 S2 H2 :=
  ⟨(fun q o a n => e.stay q o (i.stay q o a n) fun z => (i.sub q z).elim n fun w => by rw [a] at w; cases w),
   (fun q h => (e.sub q h).elim (i.sub q) fun z => by
    by_cases hl : Live Z ρ S1 q
    · exact .inl hl
    · cases w : H1 q with
      | none => exact .inr rfl
      | some o => rw [i.stay q o w hl] at z; cases z),
   fun q z => (e.hid q (.inl z)).trans (i.hid q z), e.sto⟩
theorem InC.put (i : InC T X Z D ρ S1 H1 S H) (n : H1 D = none) : InC T X Z D ρ S1 H1 S (upd H D o) :=
  ⟨fun q u a m => by rw [upd_ne (ne_of_none a n)]; exact i.stay q u a m, i.sub, (fun q z => by
    have hq : q ≠ D := fun e => by
      have := i.hid q z
      obtain ⟨u, w⟩ := (i.sto.hid q (.inl z)).1
      rw [this, e, n] at w; cases w
    rw [upd_ne hq]; exact i.hid q z), sto_hid i.sto⟩
theorem InC.envOk (i : InC T X Z D ρ S1 H1 S H) (ev : EnvOk T.toTx X.K Z ρ S1 H1 env σ) : EnvOk T.toTx X.K (hidD Z D) ρ S H env σ := ⟨ev.1, fun j a e => by
  obtain ⟨v, b, r⟩ := ev.2 j a e
  refine ⟨v, b, ?_⟩
  cases a with
  | d x => exact Rel.mono r i.stay i.sub
  | r l => exact r
  | f c => exact r⟩
theorem InC.new (i : InC T X Z D ρ S1 H1 S H) (hh : H2 = H ∨ ∃ p o, H p = none ∧ H2 = upd H p o) : Ext T.toTx X.K (hidD Z D) ρ S H ρ S H2 := by
  rcases hh with rfl | ⟨p, o, n, rfl⟩
  · exact .refl i.sto
  · exact Ext.new i.sto n
/-- the end: D is a fresh list -/
theorem InC.fin {Q : VK} {rs : List G.D} {ws : List V} (i : InC T X Z D ρ S1 H1 S H) (so : StoOk T.toTx X.K Z ρ H1 S1) (n : H1 D = none) (hD : H D = some (.lst ws)) (r : RelL T.toTx X.K (Live (hidD Z D) ρ S) H rs ws)
    (h : PV T X.K Z ρ S1 H1 Q S (.f (.lst rs))) : Q (.ref D) H := by
  have nD : D ∉ ρ := (i.sto.hid D (.inr rfl)).2
  have hl : ρ.length = S.length := i.sto.len
  have sb : ∀ q, Live Z (ρ ++ [D]) (S ++ [.lst rs]) q → Live (hidD Z D) ρ S q := fun q w => by
    rcases w with w | ⟨l, c, a, b, lv⟩
    · exact .inl (.inl w)
    · by_cases hlt : l < ρ.length
      · rw [List.getElem?_append_left hlt] at a
        rw [List.getElem?_append_left (by omega)] at b
        exact .inr ⟨l, c, a, b, lv⟩
      · rw [List.getElem?_append_right (by omega)] at a
        have : q ∈ [D] := List.mem_of_getElem? a
        exact .inl (.inr (by simpa using this))
  have sb' : Sub (Live Z (ρ ++ [D]) (S ++ [.lst rs])) (Live (hidD Z D) ρ S) H := fun q w => .inl (sb q w)
  refine h D H n i.stay (fun q lv => i.sub q (live_hid lv)) i.hid ⟨by simp [hl], ?_, fun l c q a b => ?_, fun q z => ⟨(i.sto.hid q (.inl z)).1, ?_⟩⟩
  · exact List.nodup_append.mpr ⟨i.sto.nd, by simp, fun a ha b hb => by
      have e : b = D := by simpa using hb
      subst e
      intro z
      exact nD (z ▸ ha)⟩
  · by_cases hlt : l < S.length
    · rw [List.getElem?_append_left hlt] at a
      rw [List.getElem?_append_left (by omega)] at b
      have z := i.sto.ok l c q a b
      cases c with
      | lst xs => obtain ⟨vs, e, r⟩ := z; exact ⟨vs, e, r.mono (.refl _ _) sb'⟩
      | ins c fs => obtain ⟨dx, fvs, e, r⟩ := z; exact ⟨dx, fvs, e, r.mono (.refl _ _) sb'⟩
      | dead => exact z
    · rw [List.getElem?_append_right (by omega)] at a b
      have h1 : c ∈ [Ce.lst rs] := List.mem_of_getElem? a
      have h2 : q ∈ [D] := List.mem_of_getElem? b
      simp at h1 h2
      subst h1; subst h2
      exact ⟨ws, hD, r.mono (.refl _ _) sb'⟩
  · have hq : q ≠ D := fun e => by
      have := i.hid q z
      obtain ⟨u, w⟩ := (i.sto.hid q (.inl z)).1
      rw [this, e, n] at w; cases w
    simp [(i.sto.hid q (.inl z)).2, hq]
end
/-! ### the turns of a walk -/
/-- from turn i at store S the rest gives r, ending at S4; the turns' items by J -/
structure Turns (T : Text) (X : Cx) (Z : Addr → Prop) (ρ : List Addr) (S1 : Sto) (H1 : Hp) (J : It) (step : G.D → Sto → R (List G.D)) (S4 : Sto) (N : Nat) (P : Nat → Sto → List G.D → Prop) : Prop where
  run : ∀ i S r, P i S r → ∀ (Z' : Addr → Prop) H, Stay (Live Z ρ S1) H1 H → Sub (Live Z' ρ S) (Live Z ρ S1) H1 → StoOk T.toTx X.K Z' ρ H S →
    (J.stop i H ∧ r = [] ∧ S = S4) ∨ (i < N ∧ J.go i H ∧ ∀ x H', J.yld i H x H' → (H' = H ∨ ∃ p o, H p = none ∧ H' = upd H p o) ∧
      ∃ d o S2 r2, Rel T.toTx X.K (Live Z' ρ S) H' d x ∧ step d S = .ok o S2 ∧ P (i + 1) S2 r2 ∧ r = o ++ r2)
theorem bind_ok {α β : Type} {q : R α} {k : α → Sto → R β} {b : β} {S : Sto} (h : q.bind k = .ok b S) : ∃ a S', q = .ok a S' ∧ k a S' = .ok b S := by
  cases q with
  | ok a S' => exact ⟨a, S', rfl, h⟩
  | ex _ _ _ => cases h
  | bad => cases h
theorem nox_ok {α : Type} {q : R α} {a : α} {S : Sto} (h : q.nox = .ok a S) : q = .ok a S := by
  cases q with
  | ok a S' => exact h
  | ex _ _ _ => cases h
  | bad => cases h
section
variable {T : Text} {X : Cx} {Z : Addr → Prop} {ρ : List Addr} {S1 S4 : Sto} {H1 : Hp} {J : It} {step : G.D → Sto → R (List G.D)} {r : List G.D}
theorem turns_of {src : Src} (hJ : SrcOk T X Z ρ S1 H1 J src) (h : kloopS step src S1 = .ok r S4) : ∃ N P, Turns T X Z ρ S1 H1 J step S4 N P ∧ P 0 S1 r := by
  cases src with
  | fix xs =>
    refine ⟨xs.length, fun i S r => kloop step (xs.drop i) S = .ok r S4, ⟨fun i S r hp Z' H st sb so => ?_⟩, h⟩
    obtain ⟨w1, w2⟩ := hJ (Live Z' ρ S) H st sb (fun q hq => so.live hq) i
    cases hx : xs[i]? with
    | none =>
      have : xs.drop i = [] := List.drop_eq_nil_of_le (List.getElem?_eq_none_iff.mp hx)
      rw [this] at hp
      have hp' : R.ok ([] : List G.D) S = .ok r S4 := hp
      cases hp'
      exact .inl ⟨w1 hx, rfl, rfl⟩
    | some d =>
      have hi := (List.getElem?_eq_some_iff.mp hx).1
      rw [List.drop_eq_getElem_cons hi, (List.getElem?_eq_some_iff.mp hx).2] at hp
      obtain ⟨o, S2, e1, e2⟩ := bind_ok (show (step d S).bind (fun o S1 => (kloop step (xs.drop (i + 1)) S1).bind fun r S2 => .ok (o ++ r) S2) = .ok r S4 from hp)
      obtain ⟨r2, S3, e3, e4⟩ := bind_ok e2
      cases e4
      obtain ⟨g, y⟩ := w2 d hx
      exact .inr ⟨hi, g, fun x H' hy => ⟨(y x H' hy).1, d, o, S2, r2, (y x H' hy).2, e1, e3, rfl⟩⟩
  | cel l n =>
    obtain ⟨p, ep, rfl⟩ := hJ
    refine ⟨n, fun i S r => i ≤ n ∧ kloopC step l n (n - i) S = .ok r S4, ⟨fun i S r hp Z' H st sb so => ?_⟩, Nat.zero_le _, by rw [Nat.sub_zero]; exact h⟩
    obtain ⟨hi, hp⟩ := hp
    by_cases hlt : i < n
    · obtain ⟨k, hk⟩ : ∃ k, n - i = k + 1 := ⟨n - i - 1, by omega⟩
      rw [hk] at hp
      unfold kloopC at hp
      split at hp
      case h_2 => cases hp
      case h_1 ys hs =>
      split at hp
      case isFalse => cases hp
      case isTrue hn =>
      have ei : n - (k + 1) = i := by omega
      rw [ei] at hp
      split at hp
      case h_2 => cases hp
      case h_1 d hd =>
      obtain ⟨o, S2, e1, e2⟩ := bind_ok hp
      obtain ⟨r2, S3, e3, e4⟩ := bind_ok e2
      cases e4
      obtain ⟨ws, hH, rl⟩ := so.ok l _ p hs ep
      obtain ⟨w, ew, rw'⟩ := rl.get hd
      refine .inr ⟨hlt, ⟨ws, w, .of hH, ew⟩, fun x H' hy => ?_⟩
      obtain ⟨rfl, hy⟩ := hy
      have := hy ws (.of hH)
      rw [ew] at this
      cases this
      exact ⟨.inl rfl, d, o, S2, r2, rw', e1, ⟨hlt, by rw [← e3]; congr 1; omega⟩, rfl⟩
    · have e : i = n := by omega
      subst e
      rw [Nat.sub_self] at hp
      unfold kloopC at hp
      split at hp
      case h_2 => cases hp
      case h_1 ys hs =>
      split at hp
      case isFalse => cases hp
      case isTrue hn =>
      cases hp
      obtain ⟨ws, hH, rl⟩ := so.ok l _ p hs ep
      exact .inl ⟨⟨ws, .of hH, by rw [← rl.1, hn]; exact Nat.le_refl _⟩, rfl, rfl⟩
end
end GS
/-! G: comprehensions of one clause. -/
namespace GS
open PySem PySem.Spec PyProof.Rows L2 G ClX
/-- nothing may leave -/
abbrev noW : WX := fun _ _ _ _ => False
section
variable {T : Text} {X : Cx} {W : WX} {cf : Cfg} {k : Nat}
theorem wipe_wipe {σ : L2.St} : ∀ vs : List Nat, L2.wipe (L2.wipe σ vs) vs = L2.wipe σ vs := by
  have : ∀ (vs ws : List Nat) (σ : L2.St), (∀ i ∈ ws, i ∈ vs) → L2.wipe (L2.wipe σ ws) vs = L2.wipe σ vs := by
    intro vs ws
    induction ws with
    | nil => intro σ _; rfl
    | cons w ws ih =>
      intro σ h
      show L2.wipe ((L2.wipe σ ws).set w none) vs = _
      rw [wipe_set (h w List.mem_cons_self)]
      exact ih σ fun i hi => h i (List.mem_cons_of_mem _ hi)
  exact fun vs => this vs vs σ fun i hi => hi
theorem stay_put {Z : Addr → Prop} {ρ : List Addr} {S : Sto} {H : Hp} {L : Addr} {o : HO} : Stay (Live (hidD Z L) ρ S) H (upd H L o) := fun q u e n => by
  rw [upd_ne fun z => n (.inl (.inr z))]; exact e
theorem row_ok {Z : Addr → Prop} {ρ : List Addr} {S : Sto} {H : Hp} {Q : VK} {Ex : XK} {rr : R (List G.D)} (h : PE3 T X.K (rr.nox.bind rowV) Z ρ S H Q Ex) : ∃ r S4, rr = .ok r S4 ∧ r.length ≤ LL ∧ PV T X.K Z ρ S H Q S4 (.f (.lst r)) := by
  cases rr with
  | bad => exact h.elim
  | ex _ _ _ => exact h.elim
  | ok r S4 =>
    have h' : PE3 T X.K (rowV r S4) Z ρ S H Q Ex := h
    unfold rowV at h'
    split at h'
    · exact ⟨r, S4, rfl, by assumption, h'⟩
    · exact h'.elim
/-- the element of a turn: what its test and its value give -/
def eltStep (cc e : E) (cf : Cfg) (env' : Frm) (S' : Sto) : R (List G.D) := (evT cc cf env' S').nox.bind fun b S2 => (match b with
  | true => (G.stl (evE e cf env' S2)).nox.bind fun v S3 => (match v with
    | .d y => .ok [y] S3
    | _ => .bad)
  | false => .ok [] S2)
/-- what a turn's element does to the list at L -/
theorem elt_read {cc e : E} {Z : Addr → Prop} {L : Addr} {ρ : List Addr} {S S2 : Sto} {H : Hp} {env' : Frm} {σ2 : L2.St} {o : List G.D} {da : List G.D} {wa : List V} {Nx : Hp → Prop}
    (so : StoOk T.toTx X.K (hidD Z L) ρ H S) (ev : EnvOk T.toTx X.K (hidD Z L) ρ S H env' σ2) (est : eltStep cc e cf env' S = .ok o S2) (hD : H L = some (.lst wa)) (rl : RelL T.toTx X.K (Live (hidD Z L) ρ S) H da wa)
    (hz : (da ++ o).length ≤ LL)
    (nx : ∀ H4, Ext T.toTx X.K (hidD Z L) ρ S H ρ S2 H4 → (o = [] → Nx H4) ∧ ∀ y, o = [y] → ∀ y', RelL T.toTx X.K (Live (hidD Z L) ρ S2) (upd H4 L (.lst (wa ++ [y']))) (da ++ [y]) (wa ++ [y']) → Nx (upd H4 L (.lst (wa ++ [y'])))) :
    tT T X noW cf cc σ2 H fun b H3 => if b = true then tE T X noW cf e σ2 H3 (fun y H4 => ∃ acc, H4 L = some (.lst acc) ∧ acc.length < sizeLine ∧ Nx (upd H4 L (.lst (acc ++ [y])))) else Nx H3 := by
  unfold eltStep at est
  obtain ⟨b, S3, e1, e2⟩ := bind_ok est
  have e1' := nox_ok e1
  refine ⟨hidD Z L, env', ρ, S, so, ev, ?_⟩
  rw [e1']
  intro H3 ex
  cases b with
  | false =>
    have e2' : R.ok ([] : List G.D) S3 = .ok o S2 := e2
    cases e2'
    exact iteF ((nx H3 ex).1 rfl)
  | true =>
    refine iteT ?_
    obtain ⟨v, S5, e3, e4⟩ := bind_ok e2
    have e3' := nox_ok e3
    refine ⟨hidD Z L, env', ρ, S3, ex.sto, ev.mono ex, PE3.stl ?_⟩
    rw [e3']
    cases v with
    | f c => cases e4
    | r l => cases e4
    | d y =>
      have e4' : R.ok [y] S5 = .ok o S2 := e4
      cases e4'
      intro y' H4 ex2 rel
      have e5 := ex.trans ex2
      have hL : H4 L = some (.lst wa) := by rw [e5.hid L (.inr rfl)]; exact hD
      refine ⟨wa, hL, ?_, (nx H4 e5).2 y rfl y' ?_⟩
      · rw [← ll, ← rl.1]
        simp at hz
        omega
      · have r1 := (rl.mono e5.stay e5.sub).snoc (show Rel _ _ _ _ _ _ from rel)
        exact r1.mono stay_put (.refl _ _)
theorem elt_len {cc e : E} {env' : Frm} {S S2 : Sto} {o : List G.D} (est : eltStep cc e cf env' S = .ok o S2) : o = [] ∨ ∃ y, o = [y] := by
  unfold eltStep at est
  obtain ⟨b, S3, e1, e2⟩ := bind_ok est
  cases b with
  | false =>
    have e2' : R.ok ([] : List G.D) S3 = .ok o S2 := e2
    cases e2'
    exact .inl rfl
  | true =>
    obtain ⟨v, S5, e3, e4⟩ := bind_ok e2
    cases v with
    | f c => cases e4
    | r l => cases e4
    | d y =>
      have e4' : R.ok [y] S5 = .ok o S2 := e4
      cases e4'
      exact .inr ⟨y, rfl⟩
theorem comp_read {own : List Nat} {t : Tg} {src cc e : E} (hin : tgIn t own = true) {σ : L2.St} {H : Hp} {Q : VK} (h : tE T X W cf (.comp own t src cc e) σ H Q) : tLc (tI T X W cf src) (gT X.K t) (tT T X noW cf cc) (tE T X noW cf e) own σ H Q := by
  obtain ⟨Z, env, ρ, S, so, ev, h⟩ := h
  rw [evE] at h
  refine ⟨Z, env, ρ, S, so, ev, (PG3.bindE h).mono ?_⟩
  rintro s S1 H1 ⟨e1, h1⟩ J hJ L hL
  have so1 := e1.sto
  have ev1 := ev.mono e1
  obtain ⟨r, S4, hk, hz, fin⟩ := row_ok h1
  obtain ⟨N, P, tn, p0⟩ := turns_of hJ hk
  refine ⟨fun i m H => m = N - i ∧ ∃ S' r' da wa, P i S' r' ∧ InC T X Z L ρ S1 H1 S' H ∧ H L = some (.lst wa) ∧ RelL T.toTx X.K (Live (hidD Z L) ρ S') H da wa ∧ da ++ r' = r, ⟨N, by simp, S1, r, [], [], p0, .start so1 hL, upd_same, .nil, rfl⟩, ?_⟩
  rintro i m H' ⟨rfl, S', r', da, wa, pp, ic, hD, rl, er⟩
  rcases tn.run i S' r' pp (hidD Z L) H' ic.stay ic.sub ic.sto with ⟨st, rfl, rfl⟩ | ⟨hi, go, turn⟩
  · rw [List.append_nil] at er
    subst er
    exact .inl ⟨st, ic.fin so1 hL hD rl fin⟩
  · refine .inr ⟨go, fun H2 => ∃ S2 r2 da2 wa2, P (i + 1) S2 r2 ∧ InC T X Z L ρ S1 H1 S2 H2 ∧ H2 L = some (.lst wa2) ∧ RelL T.toTx X.K (Live (hidD Z L) ρ S2) H2 da2 wa2 ∧ da2 ++ r2 = r, fun H2 hn => ⟨N - (i + 1), by omega, rfl, hn⟩, fun x H2 hy => ?_⟩
    obtain ⟨hnew, d, o, S2, r2, rel, est, p2, er2⟩ := turn x H2 hy
    have en := ic.new hnew
    have i2 := ic.step en
    cases hs : setT t d (G.wipe env own) with
    | none => rw [hs] at est; cases est
    | some env' =>
      rw [hs] at est
      have est' : eltStep cc e cf env' S' = .ok o S2 := est
      refine gT_ok (vs := own) hs (i2.envOk (ev1.wipe own)) rel fun σ2 ev2 hw => ⟨?_, ?_⟩
      · rw [hw hin, wipe_wipe]
      · have hD2 : H2 L = some (.lst wa) := by rw [en.hid L (.inr rfl)]; exact hD
        have rl2 := rl.mono en.stay en.sub
        have hz2 : (da ++ o).length ≤ LL := by
          rw [← er, er2, ← List.append_assoc, List.length_append] at hz
          omega
        refine elt_read i2.sto ev2 est' hD2 rl2 hz2 fun H4 e4 => ⟨fun eo => ?_, fun y eo y' r3 => ?_⟩
        · subst eo
          exact ⟨S2, r2, da, wa, p2, i2.step e4, by rw [e4.hid L (.inr rfl)]; exact hD2, rl2.mono e4.stay e4.sub, by rw [← er, er2]; rfl⟩
        · subst eo
          exact ⟨S2, r2, da ++ [y], wa ++ [y'], p2, (i2.step e4).put hL, upd_same, r3, by rw [← er, er2, List.append_assoc]⟩
end
end GS
/-! G: comprehensions of two clauses. -/
namespace GS
open PySem PySem.Spec PyProof.Rows L2 G ClX
theorem yes_of {σ : L2.St} {H : Hp} {A B : Hp → Prop} (h : A H) : tYes σ H fun b H3 => if b = true then A H3 else B H3 := (iteT h : if true = true then A H else B H)
theorem stay_step {M M' : Addr → Prop} {H1 H H2 : Hp} (st : Stay M H1 H) (sb : Sub M' M H1) (st2 : Stay M' H H2) : Stay M H1 H2 := fun q o a n => st2 q o (st q o a n) fun z => (sb q z).elim n fun w => by rw [a] at w; cases w
theorem sub_step {M M' M2 : Addr → Prop} {H1 H : Hp} (st : Stay M H1 H) (sb : Sub M' M H1) (sb2 : Sub M2 M' H) : Sub M2 M H1 := fun q h => (sb2 q h).elim (sb q) fun z => by
  by_cases hl : M q
  · exact .inl hl
  · cases w : H1 q with
    | none => exact .inr rfl
    | some o => rw [st q o w hl] at z; cases z
section
variable {T : Text} {X : Cx} {W : WX} {cf : Cfg} {k : Nat}
theorem comp2_read {own own1 : List Nat} {t t1 : Tg} {src src1 cc e : E} (hin : tgIn t own = true) (hin1 : tgIn t1 own1 = true) {σ : L2.St} {H : Hp} {Q : VK} (h : tE T X W cf (.comp2 own t src own1 t1 src1 cc e) σ H Q) :
    tLc2 (tI T X W cf src) (gT X.K t) tYes (tI T X noW cf src1) (gT X.K t1) (tT T X noW cf cc) (tE T X noW cf e) own own1 σ H Q := by
  obtain ⟨Z, env, ρ, S, so, ev, h⟩ := h
  rw [evE] at h
  refine ⟨Z, env, ρ, S, so, ev, (PG3.bindE h).mono ?_⟩
  rintro s S1 H1 ⟨e1, h1⟩ J hJ L hL
  have so1 := e1.sto
  have ev1 := ev.mono e1
  obtain ⟨r, S4, hk, hz, fin⟩ := row_ok h1
  obtain ⟨N, P, tn, p0⟩ := turns_of hJ hk
  refine ⟨fun i m H => m = N - i ∧ ∃ S' r' da wa, P i S' r' ∧ InC T X Z L ρ S1 H1 S' H ∧ H L = some (.lst wa) ∧ RelL T.toTx X.K (Live (hidD Z L) ρ S') H da wa ∧ da ++ r' = r, ⟨N, by simp, S1, r, [], [], p0, .start so1 hL, upd_same, .nil, rfl⟩, ?_⟩
  rintro i m H' ⟨rfl, S', r', da, wa, pp, ic, hD, rl, er⟩
  rcases tn.run i S' r' pp (hidD Z L) H' ic.stay ic.sub ic.sto with ⟨st, rfl, rfl⟩ | ⟨hi, go, turn⟩
  · rw [List.append_nil] at er
    subst er
    exact .inl ⟨st, ic.fin so1 hL hD rl fin⟩
  · refine .inr ⟨go, fun H2 => ∃ S2 r2 da2 wa2, P (i + 1) S2 r2 ∧ InC T X Z L ρ S1 H1 S2 H2 ∧ H2 L = some (.lst wa2) ∧ RelL T.toTx X.K (Live (hidD Z L) ρ S2) H2 da2 wa2 ∧ da2 ++ r2 = r, fun H2 hn => ⟨N - (i + 1), by omega, rfl, hn⟩, fun x H2 hy => ?_⟩
    obtain ⟨hnew, d, o, S2, r2, rel, est, p2, er2⟩ := turn x H2 hy
    have en := ic.new hnew
    have i2 := ic.step en
    cases hs : setT t d (G.wipe env own) with
    | none => rw [hs] at est; cases est
    | some env1 =>
      rw [hs] at est
      obtain ⟨s1, S3, ei, est⟩ := bind_ok est
      have ei' := nox_ok ei
      have hD2 : H2 L = some (.lst wa) := by rw [en.hid L (.inr rfl)]; exact hD
      have rl2 := rl.mono en.stay en.sub
      refine gT_ok (vs := own) hs (i2.envOk (ev1.wipe own)) rel fun σ2 ev2 hw => ⟨by rw [hw hin, wipe_wipe], yes_of ?_⟩
      refine ⟨hidD Z L, env1, ρ, S', i2.sto, ev2, ?_⟩
      rw [ei']
      intro H3 e3 J1 hJ1
      have i3 := i2.step e3
      have hD3 : H3 L = some (.lst wa) := by rw [e3.hid L (.inr rfl)]; exact hD2
      have rl3 := rl2.mono e3.stay e3.sub
      have ev3 := ev2.mono e3
      obtain ⟨N1, P1, tn1, q0⟩ := turns_of hJ1 est
      refine ⟨fun j m H => m = N1 - j ∧ ∃ S5 r1 da5 wa5, P1 j S5 r1 ∧ InC T X Z L ρ S1 H1 S5 H ∧ Stay (Live (hidD Z L) ρ S3) H3 H ∧ Sub (Live (hidD Z L) ρ S5) (Live (hidD Z L) ρ S3) H3 ∧ H L = some (.lst wa5) ∧ RelL T.toTx X.K (Live (hidD Z L) ρ S5) H da5 wa5 ∧ da5 ++ (r1 ++ r2) = r,
        ⟨N1, by simp, S3, o, da, wa, q0, i3, .refl _ _, .refl _ _, hD3, rl3, by rw [← er, er2]⟩, ?_⟩
      rintro j m H5 ⟨rfl, S5, r1, da5, wa5, pp5, ic5, st5, sb5, hD5, rl5, er5⟩
      rcases tn1.run j S5 r1 pp5 (hidD Z L) H5 st5 sb5 ic5.sto with ⟨stp, rfl, rfl⟩ | ⟨hj, go1, turn1⟩
      · exact .inl ⟨stp, S5, r2, da5, wa5, p2, ic5, hD5, rl5, by simpa using er5⟩
      · refine .inr ⟨go1, fun H6 => ∃ S6 r6 da6 wa6, P1 (j + 1) S6 r6 ∧ InC T X Z L ρ S1 H1 S6 H6 ∧ Stay (Live (hidD Z L) ρ S3) H3 H6 ∧ Sub (Live (hidD Z L) ρ S6) (Live (hidD Z L) ρ S3) H3 ∧ H6 L = some (.lst wa6) ∧ RelL T.toTx X.K (Live (hidD Z L) ρ S6) H6 da6 wa6 ∧ da6 ++ (r6 ++ r2) = r,
          fun H6 hn => ⟨N1 - (j + 1), by omega, rfl, hn⟩, fun y H6 hy1 => ?_⟩
        obtain ⟨hnew1, d1, o1, S6, r6, rel1, est1, p6, er6⟩ := turn1 y H6 hy1
        have en1 := ic5.new hnew1
        have i6 := ic5.step en1
        cases hs1 : setT t1 d1 (G.wipe env1 own1) with
        | none => rw [hs1] at est1; cases est1
        | some env2 =>
          rw [hs1] at est1
          have est' : eltStep cc e cf env2 S5 = .ok o1 S6 := est1
          have evb : EnvOk T.toTx X.K (hidD Z L) ρ S5 H6 env1 σ2 := ⟨ev3.1, fun jj a ea => by
            obtain ⟨v, b, rr⟩ := ev3.2 jj a ea
            refine ⟨v, b, ?_⟩
            cases a with
            | d x => exact (Rel.mono rr st5 sb5).mono en1.stay en1.sub
            | r l => exact rr
            | f c => exact rr⟩
          have hD6 : H6 L = some (.lst wa5) := by rw [en1.hid L (.inr rfl)]; exact hD5
          have rl6 := rl5.mono en1.stay en1.sub
          have st6 := stay_step st5 sb5 en1.stay
          have sb6 := sub_step st5 sb5 en1.sub
          have hz2 : (da5 ++ o1).length ≤ LL := by
            rw [← er5, er6, List.append_assoc, ← List.append_assoc, List.length_append] at hz
            omega
          refine gT_ok (vs := own1) hs1 (evb.wipe own1) rel1 fun σ3 ev4 hw1 => ⟨by rw [hw1 hin1, wipe_wipe], ?_⟩
          refine elt_read i6.sto ev4 est' hD6 rl6 hz2 fun H7 e7 => ⟨fun eo => ?_, fun yy eo y' r3 => ?_⟩
          · subst eo
            exact ⟨S6, r6, da5, wa5, p6, i6.step e7, stay_step st6 sb6 e7.stay, sub_step st6 sb6 e7.sub, by rw [e7.hid L (.inr rfl)]; exact hD6, rl6.mono e7.stay e7.sub, by rw [← er5, er6]; rfl⟩
          · subst eo
            exact ⟨S6, r6, da5 ++ [yy], wa5 ++ [y'], p6, (i6.step e7).put hL, stay_step (stay_step st6 sb6 e7.stay) (sub_step st6 sb6 e7.sub) stay_put, sub_step st6 sb6 e7.sub, upd_same, r3, by rw [← er5, er6]; simp⟩
end
end GS
/-! G: statements. -/
namespace GS
open PySem PySem.Spec PyProof.Rows L2 G ClX
section
variable (T : Text) (X : Cx)
/-- what a statement's end gives -/
def PS3 (r : RS) (Z : Addr → Prop) (ρ : List Addr) (S : Sto) (H : Hp) (De : Ends) (W : WX) : Prop := match r with
  | .ok .nx env' S' => ∀ ρ' σ' H', Ext T.toTx X.K Z ρ S H ρ' S' H' → EnvOk T.toTx X.K Z ρ' S' H' env' σ' → De.nx σ' H'
  | .ok .bk env' S' => ∀ ρ' σ' H', Ext T.toTx X.K Z ρ S H ρ' S' H' → EnvOk T.toTx X.K Z ρ' S' H' env' σ' → De.bk σ' H'
  | .ok .ct env' S' => ∀ ρ' σ' H', Ext T.toTx X.K Z ρ S H ρ' S' H' → EnvOk T.toTx X.K Z ρ' S' H' env' σ' → De.ct σ' H'
  | .ok (.rt v) _ S' => ∀ ρ1 S1 H1, Ext T.toTx X.K Z ρ S H ρ1 S1 H1 → PV T X.K Z ρ1 S1 H1 De.rt S' v
  | .ex c fs env' S' => ∀ ρ1 S1 H1 σ1, Ext T.toTx X.K Z ρ S H ρ1 S1 H1 → EnvOk T.toTx X.K Z ρ1 S1 H1 env' σ1 → PX T X.K Z ρ1 S1 H1 (WE W σ1) c fs S'
  | .bad => False
def tS (W : WX) (cf : Cfg) (s : Sm) : TS := fun De σ H => ∃ Z env ρ S, StoOk T.toTx X.K Z ρ H S ∧ EnvOk T.toTx X.K Z ρ S H env σ ∧ PS3 T X (exS s cf env S) Z ρ S H De W
def tSs (W : WX) (cf : Cfg) (ss : List Sm) : TS := fun De σ H => ∃ Z env ρ S, StoOk T.toTx X.K Z ρ H S ∧ EnvOk T.toTx X.K Z ρ S H env σ ∧ PS3 T X (exSs ss cf env S) Z ρ S H De W
end
section
variable {T : Text} {X : Cx} {W : WX} {cf : Cfg} {k : Nat} {Z : Addr → Prop} {ρ ρ1 : List Addr} {S S1 S' : Sto} {σ : L2.St} {H H1 : Hp} {env : Frm} {De : Ends}
theorem PS3.base {r : RS} (x : Ext T.toTx X.K Z ρ S H ρ1 S1 H1) (h : PS3 T X r Z ρ S H De W) : PS3 T X r Z ρ1 S1 H1 De W := by
  cases r with
  | bad => exact h
  | ex c fs env' S' => exact fun ρ2 S2 H2 σ2 e ev => h ρ2 S2 H2 σ2 (x.trans e) ev
  | ok o env' S' =>
    cases o with
    | nx => exact fun ρ2 σ2 H2 e ev => h ρ2 σ2 H2 (x.trans e) ev
    | bk => exact fun ρ2 σ2 H2 e ev => h ρ2 σ2 H2 (x.trans e) ev
    | ct => exact fun ρ2 σ2 H2 e ev => h ρ2 σ2 H2 (x.trans e) ev
    | rt v => exact fun ρ2 S2 H2 e => h ρ2 S2 H2 (x.trans e)
/-- the state as it is, as what follows -/
theorem PS3.here {env' : Frm} {σ' : L2.St} {H' : Hp} (h : PS3 T X (.ok .nx env' S') Z ρ S H De W) (e : Ext T.toTx X.K Z ρ S H ρ1 S' H') (ev : EnvOk T.toTx X.K Z ρ1 S' H' env' σ') : De.nx σ' H' := h ρ1 σ' H' e ev
/-- the same what follows, other ends -/
theorem PS3.ends {r : RS} {D2 : Ends} (h : PS3 T X r Z ρ S H De W) (n : ∀ env' S', r = .ok .nx env' S' → ∀ ρ' σ' H', Ext T.toTx X.K Z ρ S H ρ' S' H' → EnvOk T.toTx X.K Z ρ' S' H' env' σ' → D2.nx σ' H')
    (b : De.bk = D2.bk) (c : De.ct = D2.ct) (t : De.rt = D2.rt) : PS3 T X r Z ρ S H D2 W := by
  cases r with
  | bad => exact h
  | ex c fs env' S' => exact h
  | ok o env' S' =>
    cases o with
    | nx => exact n env' S' rfl
    | bk => intro ρ' σ' H' e ev; rw [← b]; exact h ρ' σ' H' e ev
    | ct => intro ρ' σ' H' e ev; rw [← c]; exact h ρ' σ' H' e ev
    | rt v => intro ρ2 S2 H2 e; rw [← t]; exact h ρ2 S2 H2 e
theorem stepS {e : E} {kk : Va → Sto → RS} {Q' : VK} (so : StoOk T.toTx X.K Z ρ H S) (ev : EnvOk T.toTx X.K Z ρ S H env σ) (h : PS3 T X ((G.stl (evE e cf env S)).st env kk) Z ρ S H De W)
    (q : ∀ v x S' H', At T X Z env ρ σ S H S' H' → RelW T.toTx X.K Z ρ S' H' v x → PS3 T X (kk v S') Z ρ S' H' De W → Q' x H') : tE T X W cf e σ H Q' := by
  refine ⟨Z, env, ρ, S, so, ev, PE3.stl ?_⟩
  cases hr : G.stl (evE e cf env S) with
  | bad => rw [hr] at h; exact h
  | ex c fs S' =>
    rw [hr] at h
    exact h ρ S H σ (.refl so) ev
  | ok v S' =>
    rw [hr] at h
    have fin : ∀ y H', Ext T.toTx X.K Z ρ S H ρ S' H' → RelW T.toTx X.K Z ρ S' H' v y → Q' y H' := fun y H' ex rel => q v y S' H' ⟨ex, ev.mono ex⟩ rel (PS3.base ex h)
    cases v with
    | f c => exact (stl_nf hr).elim
    | d x => exact fin
    | r l => exact fin
theorem stepST {e : E} {kk : Bool → Sto → RS} {Q' : Bool → Hp → Prop} (so : StoOk T.toTx X.K Z ρ H S) (ev : EnvOk T.toTx X.K Z ρ S H env σ) (h : PS3 T X ((evT e cf env S).st env kk) Z ρ S H De W)
    (q : ∀ v S' H', At T X Z env ρ σ S H S' H' → PS3 T X (kk v S') Z ρ S' H' De W → Q' v H') : tT T X W cf e σ H Q' := by
  refine ⟨Z, env, ρ, S, so, ev, ?_⟩
  cases hr : evT e cf env S with
  | bad => rw [hr] at h; exact h
  | ex c fs S' =>
    rw [hr] at h
    exact h ρ S H σ (.refl so) ev
  | ok v S' =>
    rw [hr] at h
    exact fun H' ex => q v S' H' ⟨ex, ev.mono ex⟩ (PS3.base ex h)
theorem stepSI {e : E} {kk : Src → Sto → RS} {Q' : It → Hp → Prop} (so : StoOk T.toTx X.K Z ρ H S) (ev : EnvOk T.toTx X.K Z ρ S H env σ) (h : PS3 T X ((evI e cf env S).st env kk) Z ρ S H De W)
    (q : ∀ s S' H' J, At T X Z env ρ σ S H S' H' → SrcOk T X Z ρ S' H' J s → PS3 T X (kk s S') Z ρ S' H' De W → Q' J H') : tI T X W cf e σ H Q' := by
  refine ⟨Z, env, ρ, S, so, ev, ?_⟩
  cases hr : evI e cf env S with
  | bad => rw [hr] at h; exact h
  | ex c fs S' =>
    rw [hr] at h
    exact h ρ S H σ (.refl so) ev
  | ok v S' =>
    rw [hr] at h
    exact fun H' ex J hJ => q v S' H' J ⟨ex, ev.mono ex⟩ hJ (PS3.base ex h)
/-! ### blocks -/
theorem s_ssnil : PSs X [] (tSs T X W cf []) := pssImp pss_nil fun De σ H ⟨Z, env, ρ, S, so, ev, h⟩ => by
  rw [exSs] at h
  exact h.here (.refl so) ev
theorem s_sscons {s : Sm} {ss : List Sm} {st : Stmt} {sts : List Stmt} (h1 : PS X st (tS T X W cf s)) (h2 : PSs X sts (tSs T X W cf ss)) : PSs X (st :: sts) (tSs T X W cf (s :: ss)) := by
  refine pssImp (pss_cons h1 h2) fun De σ H ⟨Z, env, ρ, S, so, ev, h⟩ => ⟨Z, env, ρ, S, so, ev, ?_⟩
  rw [exSs] at h
  cases hr : exS s cf env S with
  | bad => rw [hr] at h; exact h
  | ex c fs env' S' => rw [hr] at h; exact h
  | ok o env' S' =>
    rw [hr] at h
    cases o with
    | nx => exact fun ρ' σ' H' e ev' => ⟨Z, env', ρ', S', e.sto, ev', PS3.base e h⟩
    | bk => exact h
    | ct => exact h
    | rt v => exact h
/-- a ghost: a cell's list becomes data -/
theorem s_frz {i : Nat} {ss : List Sm} {sts : List Stmt} (h2 : PSs X sts (tSs T X W cf ss)) : PSs X sts (tSs T X W cf (.frz i :: ss)) := by
  refine pssImp h2 fun De σ H ⟨Z, env, ρ, S, so, ev, h⟩ => ?_
  cases he : env[i]? with
  | none => rw [exSs, exS, he] at h; exact h.elim
  | some oa =>
  cases oa with
  | none => rw [exSs, exS, he] at h; exact h.elim
  | some a =>
  cases a with
  | f c => rw [exSs, exS, he] at h; exact h.elim
  | d x => rw [exSs, exS, he] at h; exact ⟨Z, env, ρ, S, so, ev, h⟩
  | r l =>
  cases hc : S[l]? with
  | none => rw [exSs, exS, he] at h; simp only [hc] at h; exact h.elim
  | some c =>
  cases hf : c.fz with
  | none => rw [exSs, exS, he] at h; simp only [hc, hf] at h; exact h.elim
  | some x =>
    rw [exSs, exS, he] at h
    simp only [hc, hf] at h
    have h' : PS3 T X (exSs ss cf (env.set i (some (.d x))) (S.set l .dead)) Z ρ S H De W := h
    obtain ⟨v, ev1, p, ep, rfl⟩ := ev.2 i _ he
    have lv : Ce.live c = true := by cases c <;> first | rfl | cases hf
    have hp : Live Z ρ S p := .inr ⟨l, c, ep, hc, lv⟩
    have sb : Sub (Live Z ρ (S.set l .dead)) (Live Z ρ S) H := fun q w => by
      rcases w with w | ⟨j, d, x, y, z⟩
      · exact .inl (.inl w)
      · by_cases e : l = j
        · subst e
          rw [ep] at x; cases x
          exact .inl hp
        · rw [List.getElem?_set_ne e] at y
          exact .inl (.inr ⟨j, d, x, y, z⟩)
    have nl : ¬ Live Z ρ (S.set l .dead) p := fun w => by
      rcases w with w | ⟨j, d, x, y, z⟩
      · exact (so.hid p w).2 (List.mem_of_getElem? ep)
      · have e : l = j := so.inj ep x
        subst e
        rw [List.getElem?_set] at y
        simp only [if_pos] at y
        split at y
        · cases y; cases z
        · cases y
    have cell := so.ok l c p hc ep
    have ex : Ext T.toTx X.K Z ρ S H ρ (S.set l .dead) H := by
      refine ⟨.refl _ _, sb, ⟨by rw [List.length_set]; exact so.len, so.nd, fun j d q x y => ?_, so.hid⟩, ⟨[], by simp⟩, fun _ _ => rfl⟩
      by_cases e : l = j
      · subst e
        rw [ep] at y; cases y
        rw [List.getElem?_set] at x
        simp only [if_pos] at x
        split at x
        · cases x
          cases c with
          | lst xs => obtain ⟨vs, e, _⟩ := cell; exact ⟨_, e⟩
          | ins k fs => obtain ⟨dx, fvs, e, _⟩ := cell; exact ⟨_, e⟩
          | dead => exact cell
        · cases x
      · rw [List.getElem?_set_ne e] at x
        have z := so.ok j d q x y
        cases d with
        | lst xs => obtain ⟨vs, e, r⟩ := z; exact ⟨vs, e, r.mono (.refl _ _) sb⟩
        | ins k fs => obtain ⟨dx, fvs, e, r⟩ := z; exact ⟨dx, fvs, e, r.mono (.refl _ _) sb⟩
        | dead => exact z
    have rel : Rel T.toTx X.K (Live Z ρ (S.set l .dead)) H x (.ref p) := by
      cases c with
      | lst xs =>
        cases hf
        obtain ⟨vs, e, r⟩ := cell
        have r' := r.mono (.refl _ _) sb
        exact .lst (.inl ⟨.inl e, nl⟩) r'.1 r'.2
      | ins k fs =>
        cases hf
        obtain ⟨dx, fvs, e, r⟩ := cell
        have r' := r.mono (.refl _ _) sb
        exact .obj e nl r'.1 r'.2
      | dead => cases hf
    have ev2 := (ev.mono ex).set (a := .d x) rel i
    have es : σ.set i (some (.ref p)) = σ := by
      refine List.ext_getElem? fun j => ?_
      by_cases hj : i = j
      · subst hj
        rw [List.getElem?_set]
        simp only [if_pos]
        split
        · exact ev1.symm
        · rename_i hlt
          rw [List.getElem?_eq_none (by omega)] at ev1
          cases ev1
      · rw [List.getElem?_set_ne hj]
    rw [es] at ev2
    exact ⟨Z, _, ρ, _, ex.sto, ev2, PS3.base ex h'⟩
end
end GS
/-! G: each statement. -/
namespace GS
open PySem PySem.Spec PyProof.Rows L2 G ClX
/-- .. of a def's body -/
structure Cs (T : Text) (X : Cx) (W : WX) (cf : Cfg) (k : Nat) : Prop extends Cc T X W cf k where
  po : PassesOwn (model X.prog X.w) X.A X.env X.xe
  fnA : ∀ x, X.fn x = true
  lv : 1 ≤ k
  stk : X.stack = X.env :: X.outer
  frm : X.env.frame = some X.env.locals
def nocomp : Expr → Bool
  | .ListComp _ _ _ _ => false
  | .SetComp _ _ _ _ => false
  | .DictComp _ _ _ _ _ => false
  | _ => true
theorem swaps_no {p : Expr} (h : nocomp p = true) (t : Option Expr) (l : Nat) (env : Env) : swapsWith p t l env = pure false := by
  cases p <;> first | rfl | cases h
theorem swaps_att {p o : Expr} {f : Str} {pp : Pos} (l : Nat) (env : Env) : swapsWith p (some (.Attribute o f pp)) l env = pure false := by
  cases p <;> rfl
theorem swaps_sub {p o i : Expr} {pp : Pos} (l : Nat) (env : Env) : swapsWith p (some (.Subscript o i pp)) l env = pure false := by
  cases p <;> rfl
theorem swaps_tup {p : Expr} {es : List Expr} {kk : Nat} {pp : Pos} (l : Nat) (env : Env) : swapsWith p (some (.Tuple es kk pp)) l env = pure false := by
  cases p <;> rfl
def notup : Expr → Bool
  | .Tuple _ _ _ => false
  | _ => true
section
variable {T : Text} {X : Cx} {W : WX} {cf : Cfg} {k : Nat} {a b d e : E} {p q r : Expr} {pos : Pos}
/-- a name is given a value -/
theorem s_asgN (c : Cs T X W cf k) {i : Nat} {x : Str} {px : Pos} (hn : nameB (fun _ => true) X.N X.env.scope i x = true) (hs : swapsWith p (some (.Name x px)) pos.line X.env = pure false) (he : PE X p (tE T X W cf e)) : PS X (.Assign [.Name x px] p pos) (tS T X W cf (.asg (.nm i) e)) := by
  obtain ⟨h1, h2, h3⟩ := name_of (X := X) (fun x _ => c.fnA x) hn
  refine psImp (ps_set c.nd h1 h2 he hs h3) fun De σ H ⟨Z, env, ρ, S, so, ev, h⟩ => ?_
  rw [exS] at h
  exact stepS so ev h fun v x S1 H1 a1 r1 hp => hp.here (.refl a1.sto) (a1.env.set r1 i)
/-- .. a comprehension on the same line -/
theorem asg_read {i : Nat} {te : TE} {De : Ends} {σ : L2.St} {H : Hp} (hte : ∀ Q, tE T X W cf e σ H Q → te σ H Q) (h : tS T X W cf (.asg (.nm i) e) De σ H) : tAsg te (gName i) De σ H := by
  obtain ⟨Z, env, ρ, S, so, ev, h⟩ := h
  rw [exS] at h
  exact hte _ (stepS so ev h fun v x S1 H1 a1 r1 hp => hp.here (.refl a1.sto) (a1.env.set r1 i))
theorem own_read {i : Nat} {te : TE} {De : Ends} {σ : L2.St} {H : Hp} (hte : ∀ Q, tE T X W cf e σ H Q → te σ H Q) (h : tS T X W cf (.own i e) De σ H) : tAsg te (gName i) De σ H := by
  obtain ⟨Z, env, ρ, S, so, ev, h⟩ := h
  rw [exS] at h
  refine hte _ ⟨Z, env, ρ, S, so, ev, ?_⟩
  cases hr : evE e cf env S with
  | bad => rw [hr] at h; exact h
  | ex c fs S' =>
    rw [hr] at h
    exact h ρ S H σ (.refl so) ev
  | ok v S' =>
    rw [hr] at h
    cases v with
    | d x => exact h.elim
    | r l => exact h.elim
    | f cc =>
      intro pp H' n st su hi so'
      have hl : ρ.length = S'.length := by have := so'.len; simp at this; exact this
      have ex : Ext T.toTx X.K Z ρ S H (ρ ++ [pp]) (S' ++ [cc]) H' := by
        refine ⟨st, fun q w => ?_, so', ⟨[pp], rfl⟩, hi⟩
        rcases w with w | ⟨j, d, x, y, z⟩
        · exact .inl (.inl w)
        · by_cases hj : j < ρ.length
          · rw [List.getElem?_append_left hj] at x
            rw [List.getElem?_append_left (by omega)] at y
            exact su q (.inr ⟨j, d, x, y, z⟩)
          · rw [List.getElem?_append_right (by omega)] at x
            have : q ∈ [pp] := List.mem_of_getElem? x
            have e : q = pp := by simpa using this
            exact .inr (by rw [e]; exact n)
      have rel : RelW T.toTx X.K Z (ρ ++ [pp]) (S' ++ [cc]) H' (.r S'.length) (.ref pp) := ⟨pp, by rw [← hl]; simp, rfl⟩
      have ev' := (ev.mono ex).set rel i
      cases cc with
      | dead => exact False.elim (show False from h)
      | lst xs =>
        have h' : PS3 T X (.ok .nx (env.set i (some (.r S'.length))) (S' ++ [.lst xs])) Z ρ S H De W := h
        exact h' _ _ _ ex ev'
      | ins k fs =>
        have h' : PS3 T X (.ok .nx (env.set i (some (.r S'.length))) (S' ++ [.ins k fs])) Z ρ S H De W := h
        exact h' _ _ _ ex ev'
theorem s_ownN (c : Cs T X W cf k) {i : Nat} {x : Str} {px : Pos} (hn : nameB (fun _ => true) X.N X.env.scope i x = true) (hs : swapsWith p (some (.Name x px)) pos.line X.env = pure false) (he : PE X p (tE T X W cf e)) : PS X (.Assign [.Name x px] p pos) (tS T X W cf (.own i e)) := by
  obtain ⟨h1, h2, h3⟩ := name_of (X := X) (fun x _ => c.fnA x) hn
  exact psImp (ps_set c.nd h1 h2 he hs h3) fun De σ H h => own_read (fun Q q => q) h
theorem s_asgT (c : Cs T X W cf k) {is : List Nat} {es : List Expr} {kk : Nat} {px : Pos} (hn : tgB (fun _ => true) X.N X.env.scope (.tp is) (.Tuple es kk px) = true) (ht : notup p = true) (he : PE X p (tE T X W cf e)) :
    PS X (.Assign [.Tuple es kk px] p pos) (tS T X W cf (.asg (.tp is) e)) := by
  have hg := pg_of (X := X) c.nd c.calm (fun x _ => c.fnA x) hn
  have hw : swappedStores [.Tuple es kk px] p X.env = pure none := by cases p <;> first | rfl | cases ht
  have hsw : swapsWithSole [.Tuple es kk px] p pos.line X.env = pure false := by cases p <;> rfl
  refine psImp (ps_asg he hg hsw hw) fun De σ H ⟨Z, env, ρ, S, so, ev, h⟩ => ?_
  rw [exS] at h
  refine stepS so ev h fun v x S1 H1 a1 r1 hp => ?_
  cases v with
  | f cc => exact r1.elim
  | r l => exact hp.elim
  | d y =>
    have hp' : PS3 T X (match setT (.tp is) y env with | some env' => .ok .nx env' S1 | none => .bad) Z ρ S1 H1 De W := hp
    cases hs : setT (.tp is) y env with
    | none => rw [hs] at hp'; exact hp'.elim
    | some env' =>
      rw [hs] at hp'
      exact gT_ok (vs := []) hs a1.env r1 fun σ' ev' _ => hp'.here (.refl a1.sto) ev'
theorem s_ex (he : PE X p (tE T X W cf e)) (hc : nocomp p = true) : PS X (.Expr p pos) (tS T X W cf (.ex e)) := by
  refine psImp (ps_expr he (swaps_no hc _ _ _)) fun De σ H ⟨Z, env, ρ, S, so, ev, h⟩ => ?_
  rw [exS] at h
  exact stepS so ev h fun v x S1 H1 a1 r1 hp => hp.here (.refl a1.sto) a1.env
theorem s_ret (he : PE X p (tE T X W cf e)) : PS X (.Return (some p) pos) (tS T X W cf (.ret e)) := by
  refine psImp (ps_ret he) fun De σ H ⟨Z, env, ρ, S, so, ev, h⟩ => ?_
  rw [exS] at h
  refine ⟨Z, env, ρ, S, so, ev, ?_⟩
  cases hr : evE e cf env S with
  | bad => rw [hr] at h; exact h
  | ex c fs S' => rw [hr] at h; exact h ρ S H σ (.refl so) ev
  | ok v S' => rw [hr] at h; exact h ρ S H (.refl so)
theorem s_retn : PS X (.Return none pos) (tS T X W cf .retn) := psImp ps_retN fun De σ H ⟨Z, env, ρ, S, so, ev, h⟩ => by
  rw [exS] at h
  exact h ρ S H (.refl so) .non H (.refl so) .non
theorem s_bk : PS X (.Break pos) (tS T X W cf .bk) := psImp ps_break fun De σ H ⟨Z, env, ρ, S, so, ev, h⟩ => by
  rw [exS] at h
  exact h ρ σ H (.refl so) ev
theorem s_ct : PS X (.Continue pos) (tS T X W cf .ct) := psImp ps_continue fun De σ H ⟨Z, env, ρ, S, so, ev, h⟩ => by
  rw [exS] at h
  exact h ρ σ H (.refl so) ev
theorem s_pass : PS X (.Pass pos) (tS T X W cf .pass) := psImp ps_pass fun De σ H ⟨Z, env, ρ, S, so, ev, h⟩ => by
  rw [exS] at h
  exact h.here (.refl so) ev
theorem s_bad {st : Stmt} : PS X st (tS T X W cf .bad) := psImp ps_never fun De σ H ⟨Z, env, ρ, S, so, ev, h⟩ => by
  rw [exS] at h
  exact h
theorem s_ite {cc : E} {sa sb : List Sm} {pc : Expr} {pa pb : List Stmt} (hc : PT X pc (tT T X W cf cc)) (ha : PSs X pa (tSs T X W cf sa)) (hb : PSs X pb (tSs T X W cf sb)) : PS X (.If pc pa pb pos) (tS T X W cf (.ite cc sa sb)) := by
  refine psImp (ps_if hc ha hb) fun De σ H ⟨Z, env, ρ, S, so, ev, h⟩ => ?_
  rw [exS] at h
  refine stepST so ev h fun v S1 H1 a1 hp => ?_
  cases v with
  | true => exact iteT ⟨Z, env, ρ, S1, a1.sto, a1.env, hp⟩
  | false => exact iteF ⟨Z, env, ρ, S1, a1.sto, a1.env, hp⟩
/-! ### stores -/
theorem s_sub {o i : E} {po pi : Expr} {tp : Pos} (he : PE X p (tE T X W cf e)) (ho : PE X po (tE T X W cf o)) (hi : PE X pi (tE T X W cf i)) (hs : noslice pi = true) : PS X (.Assign [.Subscript po pi tp] p pos) (tS T X W cf (.sub o i e)) := by
  have hg : PG X (.Subscript po pi tp) (gSub (tE T X W cf o) (tE T X W cf i) rSetL) := pg_sub ho hi set_list (by intro v; cases pi <;> first | rfl | cases hs)
  have hw : swappedStores [.Subscript po pi tp] p X.env = pure none := by cases p <;> rfl
  have hsw : swapsWithSole [.Subscript po pi tp] p pos.line X.env = pure false := by cases p <;> rfl
  refine psImp (ps_asg he hg hsw hw) fun De σ H ⟨Z, env, ρ, S, so, ev, h⟩ => ?_
  rw [exS] at h
  refine stepS so ev h fun v x S1 H1 a1 r1 h1 => ?_
  refine stepS a1.sto a1.env h1 fun vo y S2 H2 a2 r2 h2 => ?_
  refine stepS a2.sto a2.env h2 fun vi z S3 H3 a3 r3 h3 => ?_
  cases v with
  | f cc => exact r1.elim
  | r l => exact h3.elim
  | d dx =>
    have h3' : PS3 T X (match subV vo vi dx S3 with | some S4 => .ok .nx env S4 | none => .bad) Z ρ S3 H3 De W := h3
    have r1' := (r1.mono a2.ext).mono a3.ext
    have r2' := r2.mono a3.ext
    cases hsv : subV vo vi dx S3 with
    | none => rw [hsv] at h3'; exact h3'.elim
    | some S4 =>
      rw [hsv] at h3'
      unfold subV at hsv
      split at hsv
      case h_2 => cases hsv
      case h_1 l kk =>
      split at hsv
      case h_2 => cases hsv
      case h_1 xs hxs =>
      split at hsv
      case isFalse => cases hsv
      case isTrue hk =>
      cases hsv
      obtain ⟨pp, ws, rfl, ep, hp, rl⟩ := cell_of a3.sto r2' hxs
      obtain rfl := relI r3
      refine ⟨pp, ws, kk, kk.toNat, rfl, rfl, hp, ?_, ?_⟩
      · unfold ixN
        rw [if_pos hk.1, if_pos (by have := rl.1; omega)]
      · exact h3'.here (Ext.writeL a3.sto ep hxs rfl (rl.set r1' kk.toNat)) (a3.env.mono (Ext.writeL a3.sto ep hxs rfl (rl.set r1' kk.toNat)))
theorem ip_of {o : Bop} (ho : bAug o = true) : PIp X (bOf o) (fun x y H Q => ∃ i j kk, x = .int i ∧ y = .int j ∧ iop o i j = some kk ∧ Q (.int kk) H) := by
  intro pins s σ H x y v u Q I rx ry h
  obtain ⟨i, j, kk, rfl, rfl, e, q⟩ := h
  exact iip_ok ho e I rx ry q
theorem s_aug (c : Cs T X W cf k) {i : Nat} {x : Str} {px : Pos} {o : Bop} (ho : bAug o = true) (hn : nameB (fun _ => true) X.N X.env.scope i x = true) (he : PE X p (tE T X W cf e)) : PS X (.AugAssign (.Name x px) (bOf o) p pos) (tS T X W cf (.aug i o e)) := by
  obtain ⟨h1, h2, h3⟩ := name_of (X := X) (fun x _ => c.fnA x) hn
  refine psImp (ps_aug c.nd h1 h2 he (ip_of ho) h3) fun De σ H ⟨Z, env, ρ, S, so, ev, h⟩ => ?_
  rw [exS] at h
  split at h
  case h_2 => exact h.elim
  case h_1 av he' =>
  obtain ⟨y, ey, ry⟩ := ev.2 i _ he'
  obtain rfl := relI ry
  refine ⟨_, ey, stepS so ev h fun v z S1 H1 a1 r1 hp => ?_⟩
  split at hp
  case h_2 => exact hp.elim
  case h_1 bv =>
  obtain rfl := relI r1
  split at hp
  case h_2 => exact hp.elim
  case h_1 kk hk =>
  exact ⟨_, _, _, rfl, rfl, hk, hp.here (.refl a1.sto) (a1.env.set (a := .d (.int kk)) (.int kk) i)⟩
theorem get_list : PGet X (fun o i H Q => ∃ pp xs kk v, o = .ref pp ∧ i = .int kk ∧ 0 ≤ kk ∧ SqL X.K H pp xs ∧ xs[kk.toNat]? = some v ∧ Q v H) := by
  intro pins s σ H o i ov iv Q I ro ri h
  obtain ⟨pp, xs, kk, v, rfl, rfl, h0, hq, hv, q⟩ := h
  obtain rfl : ov = Value.ref pp := ro
  obtain ⟨t, rfl⟩ := ri
  obtain ⟨its, rv, pl, hz⟩ := I.list hq
  obtain ⟨w, ew, rw'⟩ := rv.get hv
  have hlt : kk.toNat < xs.length := (List.getElem?_eq_some_iff.mp hv).1
  have hn := line63
  have e63 : (2 : Int) ^ 63 = 9223372036854775808 := by decide
  have e63n : (2 : Nat) ^ 63 = 9223372036854775808 := by decide
  rw [e63n] at hn
  refine wpAny_getItem_list pl.isList h0 (by rw [e63]; omega) (by simpa using ew) ⟨v, H, I, rw', q⟩
theorem s_augS {o i : E} {po pi : Expr} {tp : Pos} {op : Bop} (hop : bAug op = true) (he : PE X p (tE T X W cf e)) (ho : PE X po (tE T X W cf o)) (hi : PE X pi (tE T X W cf i)) (hs : noslice pi = true) :
    PS X (.AugAssign (.Subscript po pi tp) (bOf op) p pos) (tS T X W cf (.augS o i op e)) := by
  refine psImp (ps_augS ho hi get_list he (ip_of hop) set_list (by intro _ _ _; cases pi <;> first | rfl | cases hs)) fun De σ H ⟨Z, env, ρ, S, so, ev, h⟩ => ?_
  rw [exS] at h
  refine stepS so ev h fun va x S1 H1 a1 r1 h1 => ?_
  refine stepS a1.sto a1.env h1 fun vi y S2 H2 a2 r2 h2 => ?_
  split at h2
  case h_2 => exact h2.elim
  case h_1 l kk =>
  split at h2
  case h_2 => exact h2.elim
  case h_1 xv hg =>
  unfold getC at hg
  split at hg
  case h_2 => cases hg
  case h_1 xs hxs =>
  split at hg
  case isFalse => cases hg
  case isTrue hk =>
  have r1' := r1.mono a2.ext
  obtain ⟨pp, ws, rfl, ep, hp, rl⟩ := cell_of a2.sto r1' hxs
  obtain rfl := relI r2
  obtain ⟨w, ew, rw'⟩ := rl.get hg
  have ew' : w = .int xv := by cases rw'; rfl
  subst ew'
  refine ⟨pp, ws, kk, _, rfl, rfl, hk, .of hp, ew, ?_⟩
  refine stepS a2.sto a2.env h2 fun v z S4 H4 a4 r4 h4 => ?_
  split at h4
  case h_2 => exact h4.elim
  case h_1 bv =>
  obtain rfl := relI r4
  split at h4
  case h_2 => exact h4.elim
  case h_1 zz hz =>
  refine ⟨_, _, _, rfl, rfl, hz, ?_⟩
  split at h4
  case h_2 => exact h4.elim
  case h_1 S5 hsv =>
  unfold subV at hsv
  simp only at hsv
  split at hsv
  case h_2 => cases hsv
  case h_1 ys hys =>
  split at hsv
  case isFalse => cases hsv
  case isTrue hk2 =>
  cases hsv
  obtain ⟨p2, ws2, e2, ep2, hp2, rl2⟩ := cell_of a4.sto (r1'.mono a4.ext) hys
  cases e2
  refine ⟨pp, ws2, kk, kk.toNat, rfl, rfl, hp2, ?_, ?_⟩
  · unfold ixN
    rw [if_pos hk2.1, if_pos (by have := rl2.1; omega)]
  · have ex := Ext.writeL a4.sto ep2 hys rfl (rl2.set (.int zz) kk.toNat)
    exact h4.here ex (a4.env.mono ex)
/-! ### attributes -/
theorem putF_rel {t : Tx} {K : PySem.W.Frag} {M : Addr → Prop} {H : Hp} (inj : ∀ f g, t.nm.fld f = t.nm.fld g → f = g) {f : Nat} {x : G.D} {v : V} (r : Rel t K M H x v) : ∀ {fs : List (Nat × G.D)} {fvs : List (Str × V)}, RelF t K M H fs fvs → RelF t K M H (putFl f x fs) (putF (t.nm.fld f) v fvs)
  | [], [], _ => ⟨rfl, fun i q w a b => by
    cases i with
    | zero => cases a; cases b; exact r
    | succ i => simp [putFl] at a⟩
  | [], _ :: _, h => by have := h.1; simp at this
  | _ :: _, [], h => by have := h.1; simp at this
  | (g, y) :: fs, (n, w) :: fvs, h => by
    have hk : n = t.nm.fld g := by have := h.1; simp at this; exact this.1
    have h' : RelF t K M H fs fvs := ⟨by have := h.1; simp at this; simpa using this.2, fun i q v a b => h.2 (i + 1) q v (by simpa using a) (by simpa using b)⟩
    have ih := putF_rel inj (f := f) r h'
    unfold putFl putF
    by_cases hf : g = f
    · subst hf
      rw [if_pos rfl, if_pos hk]
      refine ⟨by have := h.1; simpa using this, fun i q v a b => ?_⟩
      cases i with
      | zero => cases a; cases b; exact r
      | succ i => exact h.2 (i + 1) q v (by simpa using a) (by simpa using b)
    · have hn : ¬ n = t.nm.fld f := fun z => hf (inj g f (hk.symm.trans z))
      rw [if_neg hf, if_neg hn]
      refine ⟨by rw [List.map_cons, List.map_cons, ih.1, hk], fun i q v a b => ?_⟩
      cases i with
      | zero => cases a; cases b; exact h.2 0 _ _ rfl rfl
      | succ i => exact ih.2 i q v (by simpa using a) (by simpa using b)
theorem s_fldS (c : Cs T X W cf k) {o : E} {po : Expr} {f : Nat} {x : Str} {tp : Pos} (of : T.nm.okl f = true) (ex : x = T.nm.fld f) (he : PE X p (tE T X W cf e)) (ho : PE X po (tE T X W cf o)) : PS X (.Assign [.Attribute po x tp] p pos) (tS T X W cf (.fld o f e)) := by
  subst ex
  refine psImp (ps_fld ho he (swaps_att _ _)) fun De σ H ⟨Z, env, ρ, S, so, ev, h⟩ => ?_
  rw [exS] at h
  refine stepS so ev h fun v y S1 H1 a1 r1 h1 => ?_
  refine stepS a1.sto a1.env h1 fun vo z S2 H2 a2 r2 h2 => ?_
  split at h2
  case h_2 => exact h2.elim
  case h_1 dx l =>
  split at h2
  case h_2 => exact h2.elim
  case h_1 cc fs hs =>
  split at h2
  case isFalse => exact h2.elim
  case isTrue hz =>
  obtain ⟨g, hg⟩ := Option.isSome_iff_exists.mp hz.2
  rw [c.P] at hg
  have oc := (c.fx.mke _ _ hg).1
  obtain ⟨pp, ep, rfl⟩ := r2
  obtain ⟨ax, fvs, hp, rf⟩ := a2.sto.ok l _ pp hs ep
  have hl : fvs.length = fs.length := by have := congrArg List.length rf.1; simpa using this
  refine ⟨pp, _, ax, fvs, rfl, hp, (c.fx.cl _ oc).2, c.fx.na _ _ oc of, by omega, ?_⟩
  have rf' := putF_rel c.fx.inj (f := f) (show Rel _ _ _ _ _ _ from r1.mono a2.ext) rf
  have e3 : Ext T.toTx X.K Z ρ S2 H2 ρ (S2.set l (.ins cc (putFl f dx fs))) (upd H2 pp (.ins (T.ca cc) ax (putF (T.nm.fld f) y fvs))) := by
    refine Ext.write a2.sto ep hs rfl ⟨ax, _, upd_same, rf'.mono (fun q u e n => (upd_ne (fun z => n (by rw [z]; exact .inr ⟨l, _, ep, hs, rfl⟩))).trans e) (.refl _ _)⟩
  exact h2.here e3 (a2.env.mono e3)
end
end GS
/-! G: an __init__ that stores its arguments, field by field. -/
namespace GX
open PySem PySem.Spec PyProof.Rows L2 G GS
def iniB (N : List Str) (sc : Scope) : Nat → List Str → List Stmt → Bool
  | i, f :: fs, .Assign [.Attribute (.Name x _) y _] (.Name z _) _ :: sts => varB N sc 0 x && (varB N sc i z && (decide (y = f) && iniB N sc (i + 1) fs sts))
  | _, [], [] => true
  | _, _, _ => false
section
variable {X : Cx}
/-- the stores behind the first -/
def tRest (K : PySem.W.Frag) (i : Nat) (fs : List Str) : TS := fun D σ H => ∃ (a C dx : Addr) (acc : List (Str × V)) (ys : List V), σ[0]? = some (some (.ref a)) ∧ XcC K C ∧ NoF K C fs ∧ H a = some (exo a C (some dx)) ∧ H dx = some (exd dx acc) ∧ dx ≠ a ∧ acc.length + fs.length ≤ 900 ∧
  ys.length = fs.length ∧ (∀ (j : Nat) (y : V), ys[j]? = some y → σ[i + j]? = some (some y)) ∧ ∀ H', H' dx = some (exd dx (accF fs ys acc)) → (∀ b, b ≠ dx → H' b = H b) → D.nx σ H'
theorem pss_rest : ∀ (fs : List Str) (sts : List Stmt) (i : Nat), iniB X.N X.env.scope i fs sts = true → PSs X sts (tRest X.K i fs)
  | [], sts, i, h => by
    cases sts with
    | cons _ _ => simp [iniB] at h
    | nil =>
      refine pssImp pss_nil fun D σ H ⟨a, C, dx, acc, ys, h0, T, hn, ha, hd, ne, hl, hy, hv, q⟩ => ?_
      refine q H ?_ fun _ _ => rfl
      cases ys with
      | nil => exact hd
      | cons _ _ => simp at hy
  | f :: fs, sts, i, h => by
    cases sts with
    | nil => simp [iniB] at h
    | cons st sts =>
      unfold iniB at h
      split at h
      case h_1 =>
        rename_i f2 fs2 x px y py z pz pos sts2 e1 e2
        obtain ⟨rfl, rfl⟩ := List.cons.inj e1
        obtain ⟨rfl, rfl⟩ := List.cons.inj e2
        simp only [Bool.and_eq_true, decide_eq_true_eq] at h
        obtain ⟨h1, h2, rfl, h3⟩ := h
        refine pssImp (pss_cons (ps_put (pe_v h1) (pe_v h2) (swaps_att _ _)) (pss_rest fs sts _ h3)) fun D σ H ⟨a, C, dx, acc, ys, h0, T, hn, ha, hd, ne, hl, hy, hv, q⟩ => ?_
        cases ys with
        | nil => simp at hy
        | cons yv ys =>
          refine ⟨yv, hv 0 yv rfl, .ref a, h0, a, C, rfl, T, hn _ (by simp), .inr ⟨dx, acc, ha, hd, by simp at hl; omega, ?_⟩⟩
          refine ⟨a, C, dx, _, ys, h0, T, fun g hg => hn g (by simp [hg]), by rw [upd_ne (Ne.symm ne)]; exact ha, upd_same, ne, by simp at hl ⊢; omega, by simpa using hy, fun j y e => ?_, fun H' e1 e2 => q H' e1 fun b hb => by rw [e2 b hb, upd_ne hb]⟩
          have := hv (j + 1) y e
          rw [← this]
          congr 1
          omega
      case h_2 => rename_i e _; cases e
      case h_3 => cases h
def tFirst (K : PySem.W.Frag) (fs : List Str) : TS := fun D σ H => ∃ (a C : Addr) (ys : List V), σ[0]? = some (some (.ref a)) ∧ XcC K C ∧ NoF K C fs ∧ H a = some (exo a C none) ∧ fs.length ≤ 900 ∧
  ys.length = fs.length ∧ (∀ (j : Nat) (y : V), ys[j]? = some y → σ[1 + j]? = some (some y)) ∧ ∀ dx H', H dx = none → dx ≠ a → H' a = some (exo a C (some dx)) → H' dx = some (exd dx (accF fs ys [])) → (∀ b, b ≠ a → b ≠ dx → H' b = H b) → D.nx σ H'
theorem pss_first {fs : List Str} {sts : List Stmt} (hz : fs ≠ []) (h : iniB X.N X.env.scope 1 fs sts = true) : PSs X sts (tFirst X.K fs) := by
  cases fs with
  | nil => exact (hz rfl).elim
  | cons f fs =>
    cases sts with
    | nil => simp [iniB] at h
    | cons st sts =>
      unfold iniB at h
      split at h
      case h_1 =>
        rename_i f2 fs2 x px y py z pz pos sts2 e1 e2
        obtain ⟨rfl, rfl⟩ := List.cons.inj e1
        obtain ⟨rfl, rfl⟩ := List.cons.inj e2
        simp only [Bool.and_eq_true, decide_eq_true_eq] at h
        obtain ⟨h1, h2, rfl, h3⟩ := h
        refine pssImp (pss_cons (ps_put (pe_v h1) (pe_v h2) (swaps_att _ _)) (pss_rest fs sts 2 h3)) fun D σ H ⟨a, C, ys, h0, T, hn, ha, hl, hy, hv, q⟩ => ?_
        cases ys with
        | nil => simp at hy
        | cons yv ys =>
          refine ⟨yv, hv 0 yv rfl, .ref a, h0, a, C, rfl, T, hn _ (by simp), .inl ⟨ha, fun dx nd ne => ?_⟩⟩
          refine ⟨a, C, dx, _, ys, h0, T, fun g hg => hn g (by simp [hg]), upd_same, by rw [upd_ne ne, upd_same], ne, by simp at hl ⊢; omega, by simpa using hy, fun j y e => ?_, fun H' e1 e2 => q dx H' nd ne (by rw [e2 a (Ne.symm ne), upd_same]) e1 fun b hb hc => by rw [e2 b hc, upd_ne hb, upd_ne hc]⟩
          have := hv (j + 1) y e
          rw [← this]
          congr 1
          omega
      case h_2 => rename_i e _; cases e
      case h_3 => cases h
end
theorem ini_ok {P : Program} {w : World} {K : PySem.W.Frag} {mg : Str → Option Value} {base : Heap} {x qual : Str} {st : Stmt} {f : Addr} {fd : FuncData} {N ps : List Str} {fs : List Str} (F : Fun K x qual st f fd) (Sc : FnScope N ps (defScope st)) (hz : fs ≠ []) (hl : ps.length = fs.length + 1) (hs : fs.length ≤ 900)
    (hc : iniB N (defScope st) 1 fs (defBody st) = true) : FnOk P w K mg base (L2.CX P w) (0 + 1) f fd ps (spI K fs) := by
  refine F.okX Sc (fun vs H Q E ⟨a, C, ys, e, h, _⟩ => by rw [e, List.length_cons, h, hl]) fun cdv A outer s H vs Q E hr hsp => ?_
  obtain ⟨a, C, ys, rfl, hy, T, hn, ha, q⟩ := hsp
  refine ⟨_, pss_first hz hc, a, C, ys, rfl, T, hn, ha, hs, hy, fun j y e => ?_, q⟩
  have hj := (List.getElem?_eq_some_iff.mp e).1
  have e1 : 1 + j = j + 1 := Nat.add_comm _ _
  show (L2.start N (V.ref a :: ys))[1 + j]? = _
  unfold L2.start
  rw [e1, List.getElem?_append_left (by simp; omega), List.getElem?_map, List.getElem?_cons_succ, e]
  rfl
end GX
/-! G: raise. -/
namespace GS
open PySem PySem.Spec PyProof.Rows L2 G GX
theorem acc_out {g : Str} : ∀ (fs : List Str) (ys : List V) (acc : List (Str × V)), g ∉ fs → (accF fs ys acc).lookup g = acc.lookup g
  | [], _, _, _ => by simp [accF]
  | _ :: _, [], _, _ => by simp [accF]
  | f :: fs, y :: ys, acc, h => by
    rw [accF, acc_out fs ys _ fun z => h (by simp [z]), lookup_put, if_neg fun z => h (by simp [z])]
theorem acc_in {t : Tx} {K : PySem.W.Frag} {M : Addr → Prop} {H : Hp} {f : Nat} {x : D} (inj : ∀ f g, t.nm.fld f = t.nm.fld g → f = g) : ∀ (ns : List Nat) (l : List D) (ys : List V) (acc : List (Str × V)), ns.Nodup → ns.length = l.length → RelL t K M H l ys → (ns.zip l).lookup f = some x →
    ∃ v, (accF (ns.map t.nm.fld) ys acc).lookup (t.nm.fld f) = some v ∧ Rel t K M H x v
  | [], _, _, _, _, _, _, h => by simp at h
  | n :: ns, [], _, _, _, h, _, _ => by simp at h
  | n :: ns, d :: l, [], _, _, _, r, _ => by have := r.1; simp at this
  | n :: ns, d :: l, y :: ys, acc, nd, hl, r, h => by
    rw [List.zip_cons_cons, List.lookup_cons] at h
    obtain ⟨n1, n2⟩ := List.nodup_cons.mp nd
    rw [List.map_cons, accF]
    by_cases e : f = n
    · subst e
      simp at h
      subst h
      refine ⟨y, ?_, r.2 0 d y rfl rfl⟩
      rw [acc_out _ _ _ (fun z => ?_), lookup_put, if_pos rfl]
      obtain ⟨m, hm, e⟩ := List.mem_map.mp z
      exact n1 (inj _ _ e ▸ hm)
    · have e2 : (f == n) = false := by simpa using e
      rw [e2] at h
      exact acc_in inj ns l ys _ n2 (by simpa using hl) ⟨by have := r.1; simpa using this, fun i a b ea eb => r.2 (i + 1) a b ea eb⟩ h
section
variable {T : Text} {X : Cx} {W : WX} {cf : Cfg} {k : Nat} {Z : Addr → Prop} {ρ : List Addr} {S : Sto} {σ : L2.St} {H : Hp} {env : Frm} {De : Ends} {p : Expr} {pos : Pos}
theorem stepSL {es : List E} {kk : List Va → Sto → RS} {Q' : List V → Hp → Prop} (so : StoOk T.toTx X.K Z ρ H S) (ev : EnvOk T.toTx X.K Z ρ S H env σ) (h : PS3 T X ((evL es cf env S).st env kk) Z ρ S H De W)
    (q : ∀ vs xs S' H', At T X Z env ρ σ S H S' H' → RelWs T.toTx X.K Z ρ S' H' vs xs → vs.length = es.length → PS3 T X (kk vs S') Z ρ S' H' De W → Q' xs H') : tL T X W cf es σ H Q' := by
  refine ⟨Z, env, ρ, S, so, ev, ?_⟩
  cases hr : evL es cf env S with
  | bad => rw [hr] at h; exact h
  | ex c fs S' => rw [hr] at h; exact h ρ S H σ (.refl so) ev
  | ok vs S' =>
    rw [hr] at h
    exact fun H' e xs r hl => q vs xs S' H' ⟨e, ev.mono e⟩ r hl (PS3.base e h)
theorem s_rse (c : Cs T X W cf k) (hk : 1 ≤ k) {cc : Nat} {ns : List Nat} {x : Str} {ps : List Expr} {es : List E} {p0 pos2 : Pos} (hx : T.P.xfl cc = some ns) (e : x = T.nm.cnm cc) (hg : gloB X.env.scope x = true) (hs : (p :: ps).all nostar = true) (hz : es.length ≤ 100) (hl : PA X (p :: ps) (tL T X W cf es)) :
    PS X (.Raise (some (.Call (.Name x p0) (p :: ps) [] pos)) none pos2) (tS T X W cf (.rse cc es)) := by
  subst e
  obtain ⟨hok, nd, hne, E⟩ := c.fx.xc cc ns hx
  obtain ⟨fI, fd, ps', iC, tI, hb, F1⟩ := E.ini
  have hs' : nostar p = true ∧ ps.all nostar = true := by simpa using hs
  refine psImp (ps_raise c.calm c.tk (pmk_own2 (CX := L2.CX X.prog X.w) (k := 1) E.x iC tI (F1 _ _ _ _) (c.room.mono (by omega)) hb .nil (fun _ _ _ _ _ _ _ z => by
    obtain ⟨_, _, _, _, _, _, _, _, _, _, _, _, z⟩ := z
    exact z.elim) (glo_of hg).1 (c.fx.xm cc hok) hl (glo_of hg).2 (star_of hs'.1) (plain_of hs'.2))) fun De σ H ⟨Z, env, ρ, S, so, ev, h⟩ => ?_
  rw [exS] at h
  refine stepSL so ev h fun vs xs S1 H1 a1 r1 hl1 h1 => ?_
  split at h1
  case h_2 => exact h1.elim
  case h_1 l el =>
  rw [c.P, hx] at h1
  simp only at h1
  split at h1
  case isFalse => exact h1.elim
  case isTrue hn =>
  have r := dats_rel r1 el
  have hxl : xs.length = ns.length := by rw [← r.1, hn]
  have hvl : xs.length ≤ 1000 := by rw [← r1.length, hl1]; omega
  refine ⟨hvl, fun a ha => ⟨a, T.ca cc, xs, by rw [List.append_nil], by rw [List.length_map, hxl], E.x, E.no, upd_same, fun dx H' hd ne h2 h3 h4 => ?_⟩⟩
  have hd1 : H1 dx = none := by rw [upd_ne ne] at hd; exact hd
  refine ⟨rfl, dx, _, h2, h3, hd1, ?_⟩
  have eq : upd (L2.del H' a) dx (.xd (accF (ns.map T.nm.fld) xs [])) = upd H1 dx (.xd (accF (ns.map T.nm.fld) xs [])) := by
    funext b
    by_cases hb1 : b = dx
    · rw [hb1, upd_same, upd_same]
    · rw [upd_ne hb1, upd_ne hb1]
      by_cases hb2 : b = a
      · rw [hb2, del_same, ha]
      · rw [del_ne hb2, h4 b hb2 hb1, upd_ne hb2]
  rw [eq]
  have x : Ext T.toTx X.K Z ρ S1 H1 ρ S1 (upd H1 dx (.xd (accF (ns.map T.nm.fld) xs []))) := Ext.new a1.sto hd1
  refine h1 ρ S1 H1 σ (.refl a1.sto) a1.env (some dx) _ x ⟨ns, hx, hn, .inr ⟨dx, _, rfl, upd_same, fun f d hlk => ?_⟩⟩
  exact acc_in c.fx.inj ns l xs [] nd hn (r.mono x.stay x.sub) hlk
end
end GS
/-! G: try with clauses, with and without a name. -/
namespace GX
open PySem PySem.Spec PyProof.Rows L2
abbrev Cl := Value × Option Nat × (Addr → Value → Option Addr → TS)
def endsX (i : Nat) (D : Ends) : Ends := { nx := fun σ' H' => D.nx (σ'.set i none) H', rt := D.rt, bk := fun σ' H' => D.bk (σ'.set i none) H', ct := fun σ' H' => D.ct (σ'.set i none) H' }
/-- what the clauses wish -/
def wM (K : PySem.W.Frag) (Wout : WX) (D : Ends) : List Cl → WX
  | [] => Wout
  | (c, none, ts) :: r => fun cls d σ H => ∃ b, PySem.W.exmOne K cls c = some b ∧ (b = true → ∀ a, H a = none → ts a cls d D σ H) ∧ (b = false → wM K Wout D r cls d σ H)
  | (c, some i, ts) :: r => fun cls d σ H => ∃ b, PySem.W.exmOne K cls c = some b ∧ (b = true → ∀ a, H a = none → ts a cls d (endsX i D) (σ.set i (some (.ref a))) H) ∧ (b = false → wM K Wout D r cls d σ H)
def SuOk (X : Cx) (suite : List Stmt) (ts : Addr → Value → Option Addr → TS) : Prop := ∀ (a : Addr) (oe : Obj) (cls : Value) (d : Option Addr) (pn : List (Addr × Obj)), Zc cls d oe → (∃ vs, oe.data = .fields vs) → PSs (X.suite a ((a, oe) :: pn)) suite (ts a cls d)
inductive ClsOk (X : Cx) : List ExceptHandler → List Cl → Prop
  | nil : ClsOk X [] []
  | bare {x : Str} {c : Value} {ts : Addr → Value → Option Addr → TS} {b₀ : Stmt} {suite : List Stmt} {np pos' : Pos} {hds : List ExceptHandler} {l : List Cl} (hc : Names X x c) (hsu : SuOk X (b₀ :: suite) ts) (r : ClsOk X hds l) :
      ClsOk X (.ExceptHandler (some (.Name x np)) none (b₀ :: suite) pos' :: hds) ((c, none, ts) :: l)
  | named {x n : Str} {c : Value} {i : Nat} {ts : Addr → Value → Option Addr → TS} {b₀ : Stmt} {suite : List Stmt} {np pos' : Pos} {hds : List ExceptHandler} {l : List Cl} (hi : X.N[i]? = some n) (hln : X.env.kindOf n = some .local) (hc : Names X x c) (hsu : SuOk X (b₀ :: suite) ts) (r : ClsOk X hds l) :
      ClsOk X (.ExceptHandler (some (.Name x np)) (some n) (b₀ :: suite) pos' :: hds) ((c, some i, ts) :: l)
section
variable {X : Cx} {body : List Stmt} {h₀ : ExceptHandler} {hds : List ExceptHandler} {l : List Cl} {pos : Pos} {tb : WX → TS} {Wout : WX}
theorem ps_tryM (hs : X.stack = X.env :: X.outer) (hf : X.env.frame = some X.env.locals) (hN : X.N.Nodup) (tk : Takes X Wout)
    (hb : ∀ (W : WX) (pn : List (Addr × Obj)) (xe : Value → Shared → Prop), Takes (X.tr pn xe) W → PassesOwn (model X.prog X.w) X.A X.env xe → PSs (X.tr pn xe) body (tb W))
    (hh : ClsOk X (h₀ :: hds) l) : PS X (.Try body (h₀ :: hds) [] [] pos) (fun D σ H => tb (wM X.K Wout D l) D σ H) := by
  refine ⟨fun pins s σ H D I h => ?_⟩
  have okX := I.ok
  have fr : X.A.frames = some (X.env :: X.outer) := by rw [okX.frames, hs]
  refine wpAny_Try_except ?_
  refine wpAny_mono ((hb (wM X.K Wout D l) (X.pn ++ pins) (fun e v₁ => wpAny (model X.prog X.w) X.A (noteFrame e X.env) (fun _ v₂ => wpAny (model X.prog X.w) X.A (setFlight e none) (fun _ v₃ =>
    wpAny (model X.prog X.w) X.A (handleBy e X.env (h₀ :: hds)) (SP X pins D) X.xe v₃) X.xe v₂) X.xe v₁) (fun u t' xx => ?_) PassesOwn.looking).run [] s σ H D (I.toTry _) h) (fun f t1 hsp => ?_) (fun e t1 he => he)
  · -- caught
    obtain ⟨a, G, tI, ps', σ1, H1, cls, d, rfl, J0, nb, up, sky, na, os, ag, w⟩ := xx
    have J : Inv X pins σ1 H1 tI := J0.ofTry okX
    have sky1 : Sky G (X.env :: X.outer) a (Zc cls d) X.env.locals t'.heap := by rw [← hs]; exact sky
    show wpAny (model X.prog X.w) X.A (noteFrame (.ref a) X.env) _ _ _
    refine Sky.land Zc.steady fr hf sky1 fun g3 fy3 up3 => ?_
    have L3 : Inv X pins σ1 H1 { t' with heap := g3 } := J.landed nb fy3.1 (up.trans up3) os ag
    obtain ⟨o3, w3, e3, z3, d3⟩ := fy3.there
    have nfr : a ∉ frs (X.env :: X.outer) := fun hm => by
      obtain ⟨_, o', e', hnf⟩ := fy3.2.2.1.mem hm
      rw [e3] at e'; cases e'
      exact hnf _ d3
    have nL : a ≠ X.env.locals := fun z => nfr (List.mem_filterMap.mpr ⟨X.env, List.mem_cons_self, by rw [hf, z]⟩)
    have nF : a ∉ X.fs := fun hm => by
      obtain ⟨e, he, q⟩ := List.mem_filterMap.mp hm
      exact nfr (List.mem_filterMap.mpr ⟨e, List.mem_cons_of_mem _ he, q⟩)
    have U3 := L3.suite e3 d3 na nL nF
    have LT : PySem.W.Looks (model X.prog X.w) g3 (typeOf (.ref a)) cls := fun A Q E s k q => wpAny_typeOf_ref (k _ _ e3) (by rw [z3.1]; exact q)
    have ask : ∀ {x : Str} {np : Pos} {c : Value} {Q : Value → Shared → Prop} {E : Value → Shared → Prop}, Names X x c → Q c { t' with heap := g3 } → wpAny (model X.prog X.w) (X.A.mark (some (.ref a))) (eval (.Name x np) X.env) Q E { t' with heap := g3 } := fun {x np c Q E} hc q => by
      obtain ⟨hg, hdb, hm | ⟨hm, hv, hnn⟩⟩ := hc
      · exact ld_glob (X := X.suite a ((a, o3) :: (X.pn ++ pins))) U3 hg hm q hdb
      · exact ld_blt (X := X.suite a ((a, o3) :: (X.pn ++ pins))) U3 hg hm hv q hnn hdb
    have go : ∀ {hds' : List ExceptHandler} {l' : List Cl}, ClsOk X hds' l' → wM X.K Wout D l' cls d σ1 H1 → wpAny (model X.prog X.w) X.A (handleBy (.ref a) X.env hds') (SP X pins D) X.xe { t' with heap := g3 } := by
      intro hds' l' hk
      induction hk with
      | nil =>
        intro w
        refine wpAny_handleBy_nil ?_
        obtain ⟨k1, k2, k3, oe, vs, Tb, oT, ts', he, hz, hd, hT, hr⟩ := id fy3
        unfold PySem.passOn
        refine wpAny_bind (wpAny_field he hd hT ?_)
        rw [if_neg (show ¬ ((Value.ref Tb == Value.none) = true) from by simp)]
        have fin : wpAny (model X.prog X.w) X.A (setFlight (.ref a) X.env.frame) (fun _ v4 => wpAny (model X.prog X.w) X.A (throw (.ref a) : Sem Flow) (SP X pins D) X.xe v4) X.xe { t' with heap := g3 } := by
          rw [hf]
          refine HandSPX.setFlight_upZ fy3 fun g4 hh4 up4 => wpAny_throw (tk _ _ ?_)
          exact ⟨a, G, tI, pins, σ1, H1, cls, d, rfl, J, nb, (up.trans up3).trans up4, .inr (.inr (by rw [hs]; exact hh4)), na, os, ag, w⟩
        first
          | exact wpAny_bind (wpAny_pure (wpAny_bind fin))
          | exact wpAny_bind fin
      | bare hc hsu r ih =>
        intro w
        obtain ⟨b, hb1, yes, no⟩ := w
        refine wpAny_handleBy_cons (codeAny_handlers_test ?_) (by intro q; cases q)
        refine ask hc ((PySem.W.exm_one (M := model X.prog X.w) (L3.kIn) LT hb1).here ?_)
        cases b with
        | false => exact ih (no rfl)
        | true =>
          refine codeAny_handlers_suite ?_
          refine HandSPX.lands_againZ fy3 fun g4 fy4 up4 => ?_
          have L4 : Inv X pins σ1 H1 { t' with heap := g4 } := J.landed nb fy4.1 ((up.trans up3).trans up4) os ag
          obtain ⟨o4, w4, e4, z4, d4⟩ := fy4.there
          have U4 := L4.suite e4 d4 na nL nF
          refine wpAny_mono ((hsu a o4 cls d (X.pn ++ pins) z4 ⟨_, d4⟩).run [] _ _ H1 _ U4 (yes rfl a na)) (fun f v6 hsp => ?_) (fun _ _ z => False.elim z)
          cases f with
          | ret u =>
            obtain ⟨v6, σ6, H6, U6, r6, q6⟩ := hsp
            exact ⟨_, _, _, U6.unsuite okX, r6, q6⟩
          | next => obtain ⟨σ6, H6, U6, q6⟩ := hsp; exact ⟨_, _, U6.unsuite okX, q6⟩
          | brk => obtain ⟨σ6, H6, U6, q6⟩ := hsp; exact ⟨_, _, U6.unsuite okX, q6⟩
          | cont => obtain ⟨σ6, H6, U6, q6⟩ := hsp; exact ⟨_, _, U6.unsuite okX, q6⟩
      | @named x n c i ts b₀ suite np pos' hds2 l2 hi hln hc hsu r ih =>
        intro w
        obtain ⟨b, hb1, yes, no⟩ := w
        refine wpAny_handleBy_cons (codeAny_handlers_test ?_) (by intro q; cases q)
        refine ask hc ((PySem.W.exm_one (M := model X.prog X.w) (L3.kIn) LT hb1).here ?_)
        cases b with
        | false => exact ih (no rfl)
        | true =>
          refine codeAny_handlers_suite_as ?_
          refine HandSPX.lands_againZ fy3 fun g4 fy4 up4 => ?_
          have L4 : Inv X pins σ1 H1 { t' with heap := g4 } := J.landed nb fy4.1 ((up.trans up3).trans up4) os ag
          obtain ⟨o4, w4, e4, z4, d4⟩ := fy4.there
          have U4 := L4.suite e4 d4 na nL nF
          have hloc : Loc X.env.scope n := .inl hln
          refine store_ok (X := X.suite a ((a, o4) :: (X.pn ++ pins))) (v := .ref a) U4 hN hi hloc rfl (fun v5 U5 => ?_) (.inr hln)
          refine wpAny_mono ((hsu a o4 cls d (X.pn ++ pins) z4 ⟨_, d4⟩).run [] v5 _ H1 _ U5 (yes rfl a na)) (fun f v6 hsp => ?_) (fun _ _ z => False.elim z)
          have gone : ∀ {σ6 : L2.St} {H6 : Hp} {Q : Shared → Prop}, Inv (X.suite a ((a, o4) :: (X.pn ++ pins))) [] σ6 H6 v6 → (∀ v7, Inv X pins (σ6.set i none) H6 v7 → Q v7) →
              wpAny (model X.prog X.w) X.A (do bindName X.env n .none; unbindBehindTheSuite X.env n pos') (fun _ v7 => Q v7) X.xe v6 := fun {σ6 H6 Q} U6 hq => gone_ok (U6.unsuite okX) hN hi hln hq
          cases f with
          | ret u =>
            obtain ⟨r6', σ6, H6, U6, r6, q6⟩ := hsp
            exact gone U6 fun v7 J7 => ⟨_, _, _, J7, r6, q6⟩
          | next => obtain ⟨σ6, H6, U6, q6⟩ := hsp; exact gone U6 fun v7 J7 => ⟨_, _, J7, q6⟩
          | brk => obtain ⟨σ6, H6, U6, q6⟩ := hsp; exact gone U6 fun v7 J7 => ⟨_, _, J7, q6⟩
          | cont => obtain ⟨σ6, H6, U6, q6⟩ := hsp; exact gone U6 fun v7 J7 => ⟨_, _, J7, q6⟩
    exact go hh w
  · cases f with
    | ret u =>
      obtain ⟨v, σ1, H1, J1, r, q⟩ := hsp
      exact ⟨v, σ1, H1, J1.ofTry okX, r, q⟩
    | next =>
      obtain ⟨σ1, H1, J1, q⟩ := hsp
      exact wpAny_execs_nil ⟨σ1, H1, J1.ofTry okX, q⟩
    | brk =>
      obtain ⟨σ1, H1, J1, q⟩ := hsp
      exact ⟨σ1, H1, J1.ofTry okX, q⟩
    | cont =>
      obtain ⟨σ1, H1, J1, q⟩ := hsp
      exact ⟨σ1, H1, J1.ofTry okX, q⟩
end
end GX
/-! G: what an except suite may say. -/
namespace GS
open PySem PySem.Spec PyProof.Rows L2 G GX
/-- isinstance of the caught error -/
def rIsX (K : PySem.W.Frag) (C a : Addr) (d : Option Addr) : List V → Hp → VK → Prop := fun xs H Q => ∃ (c : V) (cv : Value) (b : Bool) (dd : Addr) (fs : List (Str × V)), xs = [.ref a, c] ∧ ClsV c cv ∧ PySem.W.kitOne K (.ref C) cv = some b ∧ d = some dd ∧ H dd = some (.xd fs) ∧ Q (.bl b) H
theorem call_isX {X : Cx} {a C : Addr} {d : Option Addr} {oe : Obj} {pn : List (Addr × Obj)} {fl : List Str} (E : ErrC X.K C fl) (hz : Zc (.ref C) d oe) (hf : ∃ vs, oe.data = .fields vs) : CallR (X.suite a ((a, oe) :: pn)) (.builtin "isinstance") (rIsX X.K C a d) := by
  intro pins s σ H xs us Q I r h
  obtain ⟨c, cv, b, dd, fs, rfl, kc, e, rfl, hd, q⟩ := h
  obtain ⟨u1, u2, rfl, r1, r2⟩ := vals2 r
  obtain rfl : u2 = cv := kc.eq r2
  obtain rfl : u1 = Value.ref a := r1
  obtain ⟨hget, _⟩ := I.pin (a, oe) (List.mem_append.mpr (.inl List.mem_cons_self))
  obtain ⟨vs, hv⟩ := hf
  have hx : ObjOk X.prog X.w H s.heap dd (.xd fs) := I.hok dd _ hd
  obtain ⟨mA, hns, _⟩ := hx
  obtain ⟨od, ho, _⟩ := lookIn_ns hns
  have J : PySem.W.InstAt s.heap a oe C (some od) := ⟨hget, hz.1, by unfold PySem.W.notCls; rw [hv] <;> rfl, by rw [hz.2]; exact ho⟩
  obtain ⟨cd, hcd, _⟩ := PySem.W.any_some E.rd.hdC
  exact PySem.W.kia_one (PySem.W.kitx_exc (by rw [hcd]; rfl) E.rd.ga E.rd.gg E.rd.exC E.ic.1 E.ic.2.1 E.ic.2.2.1 E.ic.2.2.2) I.kIn J e (fun z => nomatch z) fun tk => ⟨.bl b, H, I.kept (t' := tk) fun _ _ z => z, rfl, q⟩
/-- plain parts -/
def hA (Nm : Names) (N : List Str) (sc : Scope) (oi : Option Nat) : E → Expr → Bool
  | .con d, .Constant c _ _ => conB d c
  | .xf f, .Attribute (.Name x _) y _ => (match oi with
    | some i => varB N sc i x && decide (y = Nm.fld f)
    | none => false)
  | .xi k, .Call (.Name x _) [.Name y _, .Name z _] [] _ => (match oi with
    | some i => decide (x = "isinstance") && (gloB sc x && (varB N sc i y && (Nm.okx k && (decide (z = Nm.cnm k) && gloB sc z))))
    | none => false)
  | _, _ => false
def hAs (Nm : Names) (N : List Str) (sc : Scope) (oi : Option Nat) : List E → List Expr → Bool
  | [], [] => true
  | e :: es, p :: ps => hA Nm N sc oi e p && hAs Nm N sc oi es ps
  | _, _ => false
def hE (Nm : Names) (N : List Str) (sc : Scope) (oi : Option Nat) : E → Expr → Bool
  | .lst es, .List ps _ => hAs Nm N sc oi es ps
  | .tup es, .Tuple ps _ _ => hAs Nm N sc oi es ps
  | e, p => hA Nm N sc oi e p
def hS (Nm : Names) (N : List Str) (sc : Scope) (oi : Option Nat) : List Sm → List Stmt → Bool
  | [], [] => true
  | .asg (.nm j) e :: ss, .Assign [.Name x _] p _ :: sts => nameB (fun _ => true) N sc j x && (decide (oi ≠ some j) && (hE Nm N sc oi e p && (nocomp p && hS Nm N sc oi ss sts)))
  | .ret e :: _, .Return (some p) _ :: _ => hE Nm N sc oi e p
  | .pass :: ss, .Pass _ :: sts => hS Nm N sc oi ss sts
  | _, _ => false
def withX (cf : Cfg) (c : Nat) (fs : List D) : Cfg := { cf with xc := some (c, fs) }
/-- the caught error, as G knows it -/
structure Hx (T : Text) (K : PySem.W.Frag) (oi : Option Nat) (a : Addr) (cls : Value) (d : Option Addr) (Z : Addr → Prop) (ρ : List Addr) (S : Sto) (H : Hp) (σ : L2.St) (c : Nat) (fs : List D) : Prop where
  ec : cls = .ref (T.ca c)
  ex : ExcD T K Z ρ S H c fs d
  at_ : ∀ i, oi = some i → σ[i]? = some (some (.ref a))
section
variable {T : Text} {X : Cx} {cf : Cfg} {oi : Option Nat} {a : Addr} {cls : Value} {d : Option Addr} {oe : Obj} {pn : List (Addr × Obj)}
/-- readings in a suite -/
def tHE (T : Text) (X : Cx) (cf : Cfg) (oi : Option Nat) (a : Addr) (cls : Value) (d : Option Addr) (e : E) : TE := fun σ H Q => ∃ Z env ρ S c fs, StoOk T.toTx X.K Z ρ H S ∧ EnvOk T.toTx X.K Z ρ S H env σ ∧ Hx T X.K oi a cls d Z ρ S H σ c fs ∧ PE3 T X.K (evE e (withX cf c fs) env S) Z ρ S H Q (fun _ _ _ => False)
def tHL (T : Text) (X : Cx) (cf : Cfg) (oi : Option Nat) (a : Addr) (cls : Value) (d : Option Addr) (es : List E) : TA := fun σ H Q => ∃ Z env ρ S c fs l, StoOk T.toTx X.K Z ρ H S ∧ EnvOk T.toTx X.K Z ρ S H env σ ∧ Hx T X.K oi a cls d Z ρ S H σ c fs ∧
  evL es (withX cf c fs) env S = .ok (l.map Va.d) S ∧ ∀ H1 vs, Ext T.toTx X.K Z ρ S H ρ S H1 → RelL T.toTx X.K (Live Z ρ S) H1 l vs → Q vs H1
def tHS (T : Text) (X : Cx) (cf : Cfg) (oi : Option Nat) (ss : List Sm) (a : Addr) (cls : Value) (d : Option Addr) : TS := fun De σ H => ∃ Z env ρ S c fs, StoOk T.toTx X.K Z ρ H S ∧ EnvOk T.toTx X.K Z ρ S H env σ ∧ Hx T X.K oi a cls d Z ρ S H σ c fs ∧ PS3 T X (exSs ss (withX cf c fs) env S) Z ρ S H De (fun _ _ _ _ => False)
theorem pe_out {X : Cx} {e : Expr} {t : TE} (h : ∀ σ H Q, ¬ t σ H Q) : PE X e t := ⟨fun _ _ σ H Q _ q => (h σ H Q q).elim⟩
/-- a plain part: data, or nothing -/
theorem hA_ev {Nm : Names} {N : List Str} {sc : Scope} {e : E} {p : Expr} (h : hA Nm N sc oi e p = true) (cf : Cfg) (env : Frm) (S : Sto) : (∃ x, evE e cf env S = .ok (.d x) S) ∨ evE e cf env S = .bad := by
  unfold hA at h
  split at h
  · exact .inl ⟨_, by rw [evE]⟩
  · rw [evE]
    split
    · split
      · unfold R.ofO
        split
        · exact .inl ⟨_, rfl⟩
        · exact .inr rfl
      · exact .inr rfl
    · exact .inr rfl
  · rw [evE]
    split
    · exact .inl ⟨_, rfl⟩
    · exact .inr rfl
  · cases h
theorem s_hA (fx : Fx T X.K X.mg) (hP : cf.P = T.P) (hz : Zc cls d oe) (hf : ∃ vs, oe.data = .fields vs) {e : E} {p : Expr} (h : hA T.nm X.N X.env.scope oi e p = true) : PE (X.suite a ((a, oe) :: pn)) p (tHE T X cf oi a cls d e) := by
  unfold hA at h
  split at h
  · refine peImp (s_con (T := T) (X := X.suite a ((a, oe) :: pn)) (W := fun _ _ _ _ => False) (cf := cf) h) fun σ H Q ⟨Z, env, ρ, S, c, fs, so, ev, hx, q⟩ => ⟨Z, env, ρ, S, so, ev, ?_⟩
    rw [evE] at q ⊢
    exact q
  · rename_i f x px y py
    split at h
    case h_2 => cases h
    case h_1 i =>
    rw [Bool.and_eq_true, decide_eq_true_eq] at h
    obtain ⟨h1, rfl⟩ := h
    by_cases hc : ∃ c ns, T.P.xfl c = some ns ∧ cls = .ref (T.ca c) ∧ f ∈ ns
    · obtain ⟨c0, ns0, e0, ec0, hm⟩ := hc
      obtain ⟨_, _, _, E0⟩ := fx.xc c0 ns0 e0
      refine peImp (pe_xf (n := T.nm.fld f) E0.rd (E0.no _ (List.mem_map.mpr ⟨f, hm, rfl⟩)) hz hf (pe_v (X := X.suite a ((a, oe) :: pn)) h1) rfl) fun σ H Q ⟨Z, env, ρ, S, c, fs, so, ev, hx, q⟩ => ?_
      refine ⟨.ref a, hx.at_ i rfl, rfl, ec0, ?_⟩
      obtain ⟨ns, e1, hl, hd⟩ := hx.ex
      rw [evE] at q
      simp only [withX, hP, e1] at q
      cases hk : (ns.zip fs).lookup f with
      | none => rw [hk] at q; exact q.elim
      | some v0 =>
        rw [hk] at q
        rcases hd with ⟨rfl, _⟩ | ⟨dd, fvs, ed, hdd, hv⟩
        · cases hk
        · obtain ⟨v, ev1, rv⟩ := hv f v0 hk
          exact ⟨dd, fvs, v, ed, hdd, ev1, q v H (.refl so) rv⟩
    · refine pe_out fun σ H Q ⟨Z, env, ρ, S, c, fs, so, ev, hx, q⟩ => ?_
      obtain ⟨ns, e1, hl, hd⟩ := hx.ex
      rw [evE] at q
      simp only [withX, hP, e1] at q
      cases hk : (ns.zip fs).lookup f with
      | none => rw [hk] at q; exact q
      | some v0 =>
        refine hc ⟨c, ns, e1, hx.ec, ?_⟩
        have : ∀ (l : List Nat) (m : List D), (l.zip m).lookup f = some v0 → f ∈ l := by
          intro l
          induction l with
          | nil => intro m z; simp at z
          | cons b l ih =>
            intro m z
            cases m with
            | nil => simp at z
            | cons u m =>
              rw [List.zip_cons_cons, List.lookup_cons] at z
              by_cases e : f = b
              · subst e; simp
              · have e2 : (f == b) = false := by simpa using e
                rw [e2] at z
                exact List.mem_cons_of_mem _ (ih m z)
        exact this ns fs hk
  · rename_i kk x px y py z pz pos
    split at h
    case h_2 => cases h
    case h_1 i =>
    simp only [Bool.and_eq_true, decide_eq_true_eq] at h
    obtain ⟨rfl, h1, h2, h3, rfl, h4⟩ := h
    by_cases hc : ∃ c ns, T.P.xfl c = some ns ∧ cls = .ref (T.ca c)
    · obtain ⟨c0, ns0, e0, ec0⟩ := hc
      obtain ⟨_, _, _, E0⟩ := fx.xc c0 ns0 e0
      have hz0 : Zc (.ref (T.ca c0)) d oe := by rw [← ec0]; exact hz
      have pc : PE (X.suite a ((a, oe) :: pn)) (.Name (T.nm.cnm kk) pz) (tC (.ref (T.ca kk))) := pe_glob (glo_of (X := X.suite a ((a, oe) :: pn)) h4).1 (fx.xm kk h3) rfl (glo_of (X := X.suite a ((a, oe) :: pn)) h4).2
      refine peImp (pe_callB (call_isX E0 hz0 hf) (glo_of (X := X.suite a ((a, oe) :: pn)) h1).1 (fx.blt _ (by decide +kernel)) (by decide +kernel) (pa_cons (pe_v (X := X.suite a ((a, oe) :: pn)) h2) (pa_cons pc pa_nil (star_of rfl)) (star_of rfl)) (by decide +kernel) (by decide +kernel) (star_of rfl) (plain_of rfl)) fun σ H Q ⟨Z, env, ρ, S, c, fs, so, ev, hx, q⟩ => ?_
      obtain ⟨ns, e1, hl, hd⟩ := hx.ex
      have ne := (fx.xc c ns e1).2.2.1
      rcases hd with ⟨rfl, _⟩ | ⟨dd, fvs, ed, hdd, hv⟩
      · exact (ne rfl).elim
      · rw [evE] at q
        simp only [withX, hP] at q
        have ec : (Value.ref (T.ca c0)) = .ref (T.ca c) := ec0.symm.trans hx.ec
        refine ⟨.ref a, hx.at_ i rfl, ?_⟩
        refine ⟨.ref (T.ca kk), .ref (T.ca kk), T.P.sup c kk, dd, fvs, rfl, .own _, ?_, ed, hdd, q (.bl _) H (.refl so) (.bl _)⟩
        rw [ec]
        exact (fx.xs c ns kk e1 h3).2
    · refine pe_out fun σ H Q ⟨Z, env, ρ, S, c, fs, so, ev, hx, q⟩ => ?_
      obtain ⟨ns, e1, _, _⟩ := hx.ex
      exact hc ⟨c, ns, e1, hx.ec⟩
  · cases h
end
end GS
/-! G: except suites. -/
namespace GS
open PySem PySem.Spec PyProof.Rows L2 G GX
section
variable {T : Text} {K : PySem.W.Frag} {Z : Addr → Prop} {ρ ρ' : List Addr} {S S' : Sto} {H H' : Hp}
theorem xd_stay {dd : Addr} {fvs : List (Str × V)} (so : StoOk T.toTx K Z ρ H S) (x : Ext T.toTx K Z ρ S H ρ' S' H') (h : H dd = some (.xd fvs)) : H' dd = some (.xd fvs) := by
  by_cases z : Live Z ρ S dd
  · rcases z with z | ⟨l, c, e1, e2, e3⟩
    · exact (x.hid dd z).trans h
    · have := so.ok l c dd e2 e1
      cases c with
      | lst xs => obtain ⟨vs, e, _⟩ := this; rw [h] at e; cases e
      | ins c fs => obtain ⟨dx, fv, e, _⟩ := this; rw [h] at e; cases e
      | dead => cases e3
  · exact x.stay dd _ h z
theorem ExcD.up {c : Nat} {fs : List D} {d : Option Addr} (so : StoOk T.toTx K Z ρ H S) (x : Ext T.toTx K Z ρ S H ρ' S' H') (h : ExcD T K Z ρ S H c fs d) : ExcD T K Z ρ' S' H' c fs d := by
  obtain ⟨ns, e, hl, hd⟩ := h
  refine ⟨ns, e, hl, ?_⟩
  rcases hd with hd | ⟨dd, fvs, ed, e2, hv⟩
  · exact .inl hd
  · refine .inr ⟨dd, fvs, ed, xd_stay so x e2, fun f y hk => ?_⟩
    obtain ⟨v, a, r⟩ := hv f y hk
    exact ⟨v, a, r.mono x.stay x.sub⟩
theorem Hx.up {oi : Option Nat} {a : Addr} {cls : Value} {d : Option Addr} {σ : L2.St} {c : Nat} {fs : List D} (h : Hx T K oi a cls d Z ρ S H σ c fs) (so : StoOk T.toTx K Z ρ H S) (x : Ext T.toTx K Z ρ S H ρ' S' H') : Hx T K oi a cls d Z ρ' S' H' σ c fs := ⟨h.ec, h.ex.up so x, h.at_⟩
end
theorem hA_star {Nm : Names} {N : List Str} {sc : Scope} {oi : Option Nat} {e : E} {p : Expr} (h : hA Nm N sc oi e p = true) : nostar p = true := by
  unfold hA at h
  split at h
  · rfl
  · rfl
  · rfl
  · cases h
theorem dats_map : ∀ l : List D, dats (l.map Va.d) = some l
  | [] => rfl
  | x :: l => by
    rw [List.map_cons, dats, dats_map l]
section
variable {T : Text} {X : Cx} {cf : Cfg} {oi : Option Nat} {a : Addr} {cls : Value} {d : Option Addr} {oe : Obj} {pn : List (Addr × Obj)}
theorem hAs_ev {Nm : Names} {N : List Str} {sc : Scope} (cf : Cfg) (env : Frm) (S : Sto) : ∀ {es : List E} {ps : List Expr}, hAs Nm N sc oi es ps = true → (∃ l : List D, evL es cf env S = .ok (l.map Va.d) S) ∨ evL es cf env S = .bad
  | [], [], _ => .inl ⟨[], by rw [evL]; rfl⟩
  | [], _ :: _, h => by simp [hAs] at h
  | _ :: _, [], h => by simp [hAs] at h
  | e :: es, p :: ps, h => by
    simp only [hAs, Bool.and_eq_true] at h
    rw [evL]
    rcases hA_ev h.1 cf env S with ⟨x, e1⟩ | e1
    · rw [e1]
      simp only [G.stl, R.bind]
      rcases hAs_ev cf env S h.2 with ⟨l, e2⟩ | e2
      · rw [e2]
        exact .inl ⟨x :: l, rfl⟩
      · rw [e2]
        exact .inr rfl
    · rw [e1]
      exact .inr rfl
theorem s_hL (fx : Fx T X.K X.mg) (hP : cf.P = T.P) (hz : Zc cls d oe) (hf : ∃ vs, oe.data = .fields vs) : ∀ {es : List E} {ps : List Expr}, hAs T.nm X.N X.env.scope oi es ps = true → ps.all nostar = true ∧ PA (X.suite a ((a, oe) :: pn)) ps (tHL T X cf oi a cls d es)
  | [], [], _ => ⟨rfl, paImp pa_nil fun σ H Q ⟨Z, env, ρ, S, c, fs, l, so, ev, hx, e, q⟩ => by
    rw [evL] at e
    cases l with
    | nil => exact q H [] (.refl so) .nil
    | cons _ _ => cases e⟩
  | [], _ :: _, h => by simp [hAs] at h
  | _ :: _, [], h => by simp [hAs] at h
  | e :: es, p :: ps, h => by
    simp only [hAs, Bool.and_eq_true] at h
    obtain ⟨i1, i2⟩ := s_hL fx hP hz hf (es := es) (ps := ps) h.2
    have hn := hA_star h.1
    refine ⟨by rw [List.all_cons, hn, i1]; rfl, ?_⟩
    refine paImp (pa_cons (s_hA fx hP hz hf h.1) i2 (star_of hn)) fun σ H Q ⟨Z, env, ρ, S, c, fs, l, so, ev, hx, e1, q⟩ => ?_
    rw [evL] at e1
    rcases hA_ev h.1 (withX cf c fs) env S with ⟨x, e2⟩ | e2
    · rw [e2] at e1
      simp only [G.stl, R.bind] at e1
      rcases hAs_ev (withX cf c fs) env S h.2 with ⟨m, e3⟩ | e3
      · rw [e3] at e1
        have e4 : l = x :: m := by
          have : (x :: m).map Va.d = l.map Va.d := by injection e1
          exact (List.map_inj_right fun _ _ z => by injection z).mp this.symm
        subst e4
        refine ⟨Z, env, ρ, S, c, fs, so, ev, hx, ?_⟩
        rw [e2]
        intro v H1 ex rv
        refine ⟨Z, env, ρ, S, c, fs, m, ex.sto, ev.mono ex, hx.up so ex, e3, fun H2 vs ex2 r2 => ?_⟩
        exact q H2 (v :: vs) (ex.trans ex2) (.cons (rv.mono ex2) r2)
      · rw [e3] at e1
        cases e1
    · rw [e2] at e1
      cases e1
theorem s_hE (fx : Fx T X.K X.mg) (hP : cf.P = T.P) (hz : Zc cls d oe) (hf : ∃ vs, oe.data = .fields vs) {e : E} {p : Expr} (h : hE T.nm X.N X.env.scope oi e p = true) : PE (X.suite a ((a, oe) :: pn)) p (tHE T X cf oi a cls d e) := by
  unfold hE at h
  split at h
  · refine peImp (pe_lst (s_hL fx hP hz hf h).2) fun σ H Q ⟨Z, env, ρ, S, c, fs, so, ev, hx, q⟩ => ?_
    rw [evE] at q
    rcases hAs_ev (withX cf c fs) env S h with ⟨l, e3⟩ | e3
    · rw [e3] at q
      simp only [R.bind, dats_map] at q
      split at q
      · rename_i hz2
        exact ⟨Z, env, ρ, S, c, fs, l, so, ev, hx, e3, fun H1 vs ex r => ⟨by rw [← ll, ← r.1]; exact hz2, fun p hp => fresh_list ex.sto r hp (PV.base ex q)⟩⟩
      · exact q.elim
    · rw [e3] at q
      exact q.elim
  · refine peImp (pe_tup (s_hL fx hP hz hf h).2) fun σ H Q ⟨Z, env, ρ, S, c, fs, so, ev, hx, q⟩ => ?_
    rw [evE] at q
    rcases hAs_ev (withX cf c fs) env S h with ⟨l, e3⟩ | e3
    · rw [e3] at q
      simp only [R.bind, dats_map] at q
      split at q
      · rename_i hz2
        exact ⟨Z, env, ρ, S, c, fs, l, so, ev, hx, e3, fun H1 vs ex r => ⟨by rw [← ll, ← r.1]; exact hz2, fun p hp => fresh_tup ex.sto r hp (PV.base ex q)⟩⟩
      · exact q.elim
    · rw [e3] at q
      exact q.elim
  · exact s_hA fx hP hz hf h
theorem s_hS (fx : Fx T X.K X.mg) (hP : cf.P = T.P) (nd : X.N.Nodup) (fnA : ∀ x, X.fn x = true) (hz : Zc cls d oe) (hf : ∃ vs, oe.data = .fields vs) : ∀ {ss : List Sm} {sts : List Stmt}, hS T.nm X.N X.env.scope oi ss sts = true → PSs (X.suite a ((a, oe) :: pn)) sts (tHS T X cf oi ss a cls d) := by
  intro ss
  induction ss with
  | nil =>
    intro sts h
    cases sts with
    | cons _ _ => simp [hS] at h
    | nil =>
      refine pssImp pss_nil fun De σ H ⟨Z, env, ρ, S, c, fs, so, ev, hx, h⟩ => ?_
      rw [exSs] at h
      exact h ρ σ H (.refl so) ev
  | cons s ss ih =>
    intro sts h
    unfold hS at h
    split at h
    · rename_i z; cases z
    · rename_i j e ss2 x px p pos sts2 z
      obtain ⟨rfl, rfl⟩ := List.cons.inj z
      simp only [Bool.and_eq_true, decide_eq_true_eq] at h
      obtain ⟨hn, hj, he, hc, hr⟩ := h
      obtain ⟨h1, h2, h3⟩ := name_of (X := X) (fun x _ => fnA x) hn
      refine pssImp (pss_cons (ps_set (X := X.suite a ((a, oe) :: pn)) nd h1 h2 (s_hE fx hP hz hf he) (swaps_no hc _ _ _) h3) (ih hr)) fun De σ H ⟨Z, env, ρ, S, c, fs, so, ev, hx, h⟩ => ?_
      have eq : exSs (.asg (.nm j) e :: ss) (withX cf c fs) env S = (G.stl (evE e (withX cf c fs) env S)).st env fun v S1 => exSs ss (withX cf c fs) (env.set j (some v)) S1 := by
        rw [exSs, exS]
        cases G.stl (evE e (withX cf c fs) env S) <;> rfl
      rw [eq] at h
      refine ⟨Z, env, ρ, S, c, fs, so, ev, hx, PE3.stl ?_⟩
      cases hr : G.stl (evE e (withX cf c fs) env S) with
      | bad => rw [hr] at h; exact h
      | ex c1 fs1 S1 => rw [hr] at h; exact h ρ S H σ (.refl so) ev
      | ok v S1 =>
        rw [hr] at h
        have fin : ∀ y H1, Ext T.toTx X.K Z ρ S H ρ S1 H1 → RelW T.toTx X.K Z ρ S1 H1 v y → tHS T X cf oi ss a cls d De (σ.set j (some y)) H1 := fun y H1 ex rel => by
          refine ⟨Z, _, ρ, S1, c, fs, ex.sto, (ev.mono ex).set rel j, ⟨hx.ec, hx.ex.up so ex, fun i hi => ?_⟩, PS3.base ex h⟩
          rw [List.getElem?_set_ne (fun z => hj (by rw [hi, z]))]
          exact hx.at_ i hi
        cases v with
        | f c => exact (stl_nf hr).elim
        | d x => exact fin
        | r l => exact fin
    · rename_i e ss2 p pos sts2 z
      obtain ⟨rfl, rfl⟩ := List.cons.inj z
      refine pssImp (pss_cons (ps_ret (s_hE fx hP hz hf h)) pss_never) fun De σ H ⟨Z, env, ρ, S, c, fs, so, ev, hx, h⟩ => ?_
      have eq : exSs (.ret e :: ss) (withX cf c fs) env S = (evE e (withX cf c fs) env S).st env fun v S1 => .ok (.rt v) env S1 := by
        rw [exSs, exS]
        cases evE e (withX cf c fs) env S <;> rfl
      rw [eq] at h
      refine ⟨Z, env, ρ, S, c, fs, so, ev, hx, ?_⟩
      cases hr : evE e (withX cf c fs) env S with
      | bad => rw [hr] at h; exact h
      | ex c1 fs1 S1 => rw [hr] at h; exact h ρ S H σ (.refl so) ev
      | ok v S1 => rw [hr] at h; exact h ρ S H (.refl so)
    · rename_i ss2 pos sts2 z
      obtain ⟨rfl, rfl⟩ := List.cons.inj z
      refine pssImp (pss_cons ps_pass (ih h)) fun De σ H ⟨Z, env, ρ, S, c, fs, so, ev, hx, h⟩ => ?_
      rw [exSs, exS] at h
      exact ⟨Z, env, ρ, S, c, fs, so, ev, hx, h⟩
    · cases h
end
end GS
/-! G: try. -/
namespace GS
open PySem PySem.Spec PyProof.Rows L2 G GX
def chkHs (Nm : Names) (N : List Str) (sc : Scope) : List Sm → List ExceptHandler → Bool
  | [], [] => true
  | .cl c none ss :: r, .ExceptHandler (some (.Name x _)) none (b₀ :: suite) _ :: hds => Nm.okx c && (decide (x = Nm.cnm c) && (gloB sc x && (hS Nm N sc none ss (b₀ :: suite) && chkHs Nm N sc r hds)))
  | .cl c (some i) ss :: r, .ExceptHandler (some (.Name x _)) (some n) (b₀ :: suite) _ :: hds => Nm.okx c && (decide (x = Nm.cnm c) && (gloB sc x && (decide (N[i]? = some n) && (decide (sc.names.lookup n = some .local) && (hS Nm N sc (some i) ss (b₀ :: suite) && chkHs Nm N sc r hds)))))
  | _, _ => false
def NoEx (r : RS) : Prop := match r with
  | .ex _ _ _ _ => False
  | _ => True
theorem hE_nx {Nm : Names} {N : List Str} {sc : Scope} {oi : Option Nat} {e : E} {p : Expr} (h : hE Nm N sc oi e p = true) (cf : Cfg) (env : Frm) (S : Sto) : ∀ c fs S1, evE e cf env S ≠ .ex c fs S1 := by
  intro c fs S1 z
  unfold hE at h
  split at h
  · rw [evE] at z
    rcases hAs_ev cf env S h with ⟨l, e3⟩ | e3 <;> rw [e3] at z
    · simp only [R.bind, dats_map] at z
      split at z <;> cases z
    · cases z
  · rw [evE] at z
    rcases hAs_ev cf env S h with ⟨l, e3⟩ | e3 <;> rw [e3] at z
    · simp only [R.bind, dats_map] at z
      split at z <;> cases z
    · cases z
  · rcases hA_ev h cf env S with ⟨x, e3⟩ | e3 <;> rw [e3] at z <;> cases z
theorem stl_nx {r : R Va} (h : ∀ c fs S1, r ≠ .ex c fs S1) : ∀ c fs S1, G.stl r ≠ .ex c fs S1 := by
  intro c fs S1 z
  cases r with
  | bad => cases z
  | ex c0 f0 S0 => exact h c0 f0 S0 rfl
  | ok v S0 =>
    cases v with
    | d x => cases z
    | r l => cases z
    | f ce =>
      unfold G.stl at z
      cases ce <;> cases z
theorem hS_nx {Nm : Names} {N : List Str} {sc : Scope} {oi : Option Nat} (cf : Cfg) : ∀ {ss : List Sm} {sts : List Stmt}, hS Nm N sc oi ss sts = true → ∀ (env : Frm) (S : Sto), NoEx (exSs ss cf env S) := by
  intro ss
  induction ss with
  | nil =>
    intro sts h env S
    rw [exSs]
    trivial
  | cons s ss ih =>
    intro sts h env S
    unfold hS at h
    split at h
    · rename_i z; cases z
    · rename_i j e ss2 x px p pos sts2 z
      obtain ⟨rfl, rfl⟩ := List.cons.inj z
      simp only [Bool.and_eq_true, decide_eq_true_eq] at h
      obtain ⟨hn, hj, he, hc, hr⟩ := h
      rw [exSs, exS]
      have := stl_nx (hE_nx he cf env S)
      cases hr2 : G.stl (evE e cf env S) with
      | bad => trivial
      | ex c fs S1 => exact (this c fs S1 hr2).elim
      | ok v S1 => exact ih hr _ _
    · rename_i e ss2 p pos sts2 z
      obtain ⟨rfl, rfl⟩ := List.cons.inj z
      rw [exSs, exS]
      have := hE_nx h cf env S
      cases hr2 : evE e cf env S with
      | bad => trivial
      | ex c fs S1 => exact (this c fs S1 hr2).elim
      | ok v S1 => trivial
    · rename_i ss2 pos sts2 z
      obtain ⟨rfl, rfl⟩ := List.cons.inj z
      rw [exSs, exS]
      exact ih h _ _
    · cases h
section
variable {T : Text} {X : Cx} {W : WX} {cf : Cfg} {k : Nat} {Z : Addr → Prop} {ρ : List Addr} {S : Sto} {σ : L2.St} {H : Hp} {De : Ends} {r : RS}
theorem ps3_noW (h : PS3 T X r Z ρ S H De W) (n : NoEx r) : PS3 T X r Z ρ S H De (fun _ _ _ _ => False) := by
  cases r with
  | bad => exact h
  | ex c fs e S1 => exact n.elim
  | ok o e S1 => cases o <;> exact h
theorem ps3_ends {i : Nat} (h : PS3 T X (setX (some i) r) Z ρ S H De W) (n : NoEx r) : PS3 T X r Z ρ S H (endsX i De) (fun _ _ _ _ => False) := by
  cases r with
  | bad => exact h
  | ex c fs e S1 => exact n.elim
  | ok o e S1 =>
    cases o with
    | rt v => exact h
    | nx => exact fun ρ' σ' H' x ev => h ρ' _ H' x (ev.unset i none)
    | bk => exact fun ρ' σ' H' x ev => h ρ' _ H' x (ev.unset i none)
    | ct => exact fun ρ' σ' H' x ev => h ρ' _ H' x (ev.unset i none)
def clsOf (T : Text) (X : Cx) (cf : Cfg) : List Sm → List Cl
  | .cl c x ss :: r => (.ref (T.ca c), x, tHS T X cf x ss) :: clsOf T X cf r
  | _ => []
theorem clsOf_ok (c : Cs T X W cf k) : ∀ {hs : List Sm} {hds : List ExceptHandler}, chkHs T.nm X.N X.env.scope hs hds = true → ClsOk X hds (clsOf T X cf hs) := by
  intro hs
  induction hs with
  | nil =>
    intro hds h
    cases hds with
    | nil => exact .nil
    | cons _ _ => simp [chkHs] at h
  | cons s hs ih =>
    intro hds h
    unfold chkHs at h
    split at h
    · rename_i z; cases z
    · rename_i cc ss r x px b₀ suite pos hds2 z
      obtain ⟨rfl, rfl⟩ := List.cons.inj z
      simp only [Bool.and_eq_true, decide_eq_true_eq] at h
      obtain ⟨h1, rfl, h2, h3, h4⟩ := h
      exact .bare ⟨(glo_of h2).1, (glo_of h2).2, .inl (c.fx.xm cc h1)⟩ (fun a oe cls d pn hz hf => s_hS c.fx c.P c.nd c.fnA hz hf h3) (ih h4)
    · rename_i cc i ss r x px n b₀ suite pos hds2 z
      obtain ⟨rfl, rfl⟩ := List.cons.inj z
      simp only [Bool.and_eq_true, decide_eq_true_eq] at h
      obtain ⟨h1, rfl, h2, h5, h6, h3, h4⟩ := h
      exact .named h5 h6 ⟨(glo_of h2).1, (glo_of h2).2, .inl (c.fx.xm cc h1)⟩ (fun a oe cls d pn hz hf => s_hS c.fx c.P c.nd c.fnA hz hf h3) (ih h4)
    · cases h
/-- the clauses' wish, by what G's clauses give -/
theorem wM_of (c : Cs T X W cf k) {k0 : Nat} {fs : List D} {d : Option Addr} {e : Frm} (so : StoOk T.toTx X.K Z ρ H S) (ev : EnvOk T.toTx X.K Z ρ S H e σ) (xd : ExcD T X.K Z ρ S H k0 fs d) : ∀ {hs : List Sm} {hds : List ExceptHandler}, chkHs T.nm X.N X.env.scope hs hds = true →
    PS3 T X (exHs hs k0 fs cf e S) Z ρ S H De W → wM X.K W De (clsOf T X cf hs) (.ref (T.ca k0)) d σ H := by
  obtain ⟨ns, hx, _, _⟩ := id xd
  intro hs
  induction hs with
  | nil =>
    intro hds _ h
    rw [exHs] at h
    exact h ρ S H σ (.refl so) ev d H (.refl so) xd
  | cons s hs ih =>
    intro hds h q
    unfold chkHs at h
    split at h
    · rename_i z; cases z
    · rename_i cc ss r x px b₀ suite pos hds2 z
      obtain ⟨rfl, rfl⟩ := List.cons.inj z
      simp only [Bool.and_eq_true, decide_eq_true_eq] at h
      obtain ⟨h1, rfl, h2, h3, h4⟩ := h
      rw [exHs, show cf.P.sup k0 cc = T.P.sup k0 cc from by rw [c.P]] at q
      refine ⟨T.P.sup k0 cc, (c.fx.xs k0 ns cc hx h1).1, fun hb a ha => ?_, fun hb => ?_⟩
      · rw [hb, if_pos rfl, show okX none e = true from rfl, if_pos rfl] at q
        refine ⟨Z, e, ρ, S, k0, fs, so, ev, ⟨rfl, xd, fun i z => by cases z⟩, ?_⟩
        exact ps3_noW (W := W) q (hS_nx _ h3 _ _)
      · rw [hb] at q
        exact ih h4 q
    · rename_i cc i ss r x px n b₀ suite pos hds2 z
      obtain ⟨rfl, rfl⟩ := List.cons.inj z
      simp only [Bool.and_eq_true, decide_eq_true_eq] at h
      obtain ⟨h1, rfl, h2, h5, h6, h3, h4⟩ := h
      rw [exHs, show cf.P.sup k0 cc = T.P.sup k0 cc from by rw [c.P]] at q
      refine ⟨T.P.sup k0 cc, (c.fx.xs k0 ns cc hx h1).1, fun hb a ha => ?_, fun hb => ?_⟩
      · rw [hb, if_pos rfl] at q
        by_cases hl : i < e.length
        · have ho : okX (some i) e = true := decide_eq_true hl
          rw [ho, if_pos rfl] at q
          refine ⟨Z, e.set i none, ρ, S, k0, fs, so, ev.unset i _, ⟨rfl, xd, fun j hj => ?_⟩, ?_⟩
          · cases hj
            rw [List.getElem?_set_self (by rw [← ev.1]; exact hl)]
          · exact ps3_ends (W := W) q (hS_nx _ h3 _ _)
        · have ho : okX (some i) e = false := decide_eq_false hl
          rw [ho] at q
          exact q.elim
      · rw [hb] at q
        exact ih h4 q
    · cases h
theorem s_try (c : Cs T X W cf k) {body hs : List Sm} {bs : List Stmt} {h₀ : ExceptHandler} {hds : List ExceptHandler} {pos : Pos} (hb : ∀ (W1 : WX) (pn : List (Addr × Obj)) (xe : Value → Shared → Prop), Cs T (X.tr pn xe) W1 cf k → PSs (X.tr pn xe) bs (tSs T (X.tr pn xe) W1 cf body))
    (hh : chkHs T.nm X.N X.env.scope hs (h₀ :: hds) = true) : PS X (.Try bs (h₀ :: hds) [] [] pos) (tS T X W cf (.tr body hs)) := by
  refine psImp (ps_tryM (tb := fun W1 => tSs T X W1 cf body) c.stk c.frm c.nd c.tk (fun W1 pn xe tk po => hb W1 pn xe
    { P := c.P, nd := c.nd, calm := c.calm, tk := tk, xc := c.xc, room := c.room, fx := c.fx, fn := c.fn, po := po, fnA := c.fnA, lv := c.lv, stk := c.stk, frm := c.frm }) (clsOf_ok c hh)) fun De σ H ⟨Z, env, ρ, S, so, ev, h⟩ => ?_
  rw [exS] at h
  refine ⟨Z, env, ρ, S, so, ev, ?_⟩
  cases hr : exSs body cf env S with
  | bad => rw [hr] at h; exact h
  | ok o e1 S1 => rw [hr] at h; cases o <;> exact h
  | ex k0 fs e1 S1 =>
    rw [hr] at h
    intro ρ1 S2 H1 σ1 x1 ev1 d H2 x2 xd
    exact wM_of c x2.sto (ev1.mono x2) xd hh (PS3.base (x1.trans x2) h)
end
end GS
/-! G: loops. -/
namespace GS
open PySem PySem.Spec PyProof.Rows L2 G ClX
section
variable {T : Text} {X : Cx} {W : WX} {cf : Cfg} {k : Nat} {a b d e : E} {p q : Expr} {pos : Pos}
/-- the body of a for at an item -/
def bodyAt (t : Tg) (body : List Sm) (cf : Cfg) (x : G.D) (env : Frm) (S : Sto) : RS := match setT t x env with
  | some env' => exSs body cf env' S
  | none => .bad
/-- what a turn leaves to be done: r is the result of the whole rest -/
def After (P : Frm → Sto → Prop) (r rb : RS) : Prop := match rb with
  | .ok .nx e S => P e S
  | .ok .ct e S => P e S
  | .ok .bk e S => r = .ok .nx e S
  | rb => r = rb
structure FTurns (T : Text) (X : Cx) (Z : Addr → Prop) (ρ1 : List Addr) (S1 : Sto) (H1 : Hp) (J : It) (body : G.D → Frm → Sto → RS) (r : RS) (N : Nat) (P : Nat → Frm → Sto → Prop) : Prop where
  run : ∀ i env S, P i env S → ∀ ρ H, Ext T.toTx X.K Z ρ1 S1 H1 ρ S H → r ≠ .bad →
    (J.stop i H ∧ r = .ok .nx env S) ∨ (i < N ∧ J.go i H ∧ ∀ x H', J.yld i H x H' → (H' = H ∨ ∃ p o, H p = none ∧ H' = upd H p o) ∧
      ∃ d, Rel T.toTx X.K (Live Z ρ S) H' d x ∧ After (P (i + 1)) r (body d env S))
theorem fturns_of {t : Tg} {body : List Sm} {Z : Addr → Prop} {ρ1 : List Addr} {S1 : Sto} {H1 : Hp} {J : It} {src : Src} {env : Frm} (hJ : SrcOk T X Z ρ1 S1 H1 J src) :
    ∃ N P, FTurns T X Z ρ1 S1 H1 J (bodyAt t body cf) (floopS (bodyAt t body cf) src env S1) N P ∧ P 0 env S1 := by
  cases src with
  | fix xs =>
    refine ⟨xs.length, fun i env' S => floop (bodyAt t body cf) (xs.drop i) env' S = floop (bodyAt t body cf) xs env S1, ⟨fun i env' S hp ρ H ex hb => ?_⟩, rfl⟩
    show _ ∨ _
    have hr : floopS (bodyAt t body cf) (.fix xs) env S1 = floop (bodyAt t body cf) xs env S1 := rfl
    rw [hr] at hb ⊢
    generalize floop (bodyAt t body cf) xs env S1 = r at hp hb
    obtain ⟨w1, w2⟩ := hJ (Live Z ρ S) H ex.stay ex.sub (fun q hq => ex.sto.live hq) i
    cases hx : xs[i]? with
    | none =>
      have : xs.drop i = [] := List.drop_eq_nil_of_le (List.getElem?_eq_none_iff.mp hx)
      rw [this] at hp
      exact .inl ⟨w1 hx, hp.symm⟩
    | some dd =>
      have hi := (List.getElem?_eq_some_iff.mp hx).1
      rw [List.drop_eq_getElem_cons hi, (List.getElem?_eq_some_iff.mp hx).2, floop] at hp
      obtain ⟨g, y⟩ := w2 dd hx
      refine .inr ⟨hi, g, fun x H' hy => ⟨(y x H' hy).1, dd, (y x H' hy).2, ?_⟩⟩
      unfold After
      split at hp
      · first | exact hp | (rename_i e1; rw [e1]; exact hp)
      · first | exact hp | (rename_i e1; rw [e1]; exact hp)
      · first | exact hp.symm | (rename_i e1; rw [e1]; exact hp.symm)
      · rename_i n1 n2 n3
        generalize bodyAt t body cf dd env' S = rb at *
        cases rb with
        | bad => exact hp.symm
        | ex _ _ _ _ => exact hp.symm
        | ok o _ _ =>
          cases o with
          | nx => exact (n1 _ _ rfl).elim
          | ct => exact (n2 _ _ rfl).elim
          | bk => exact (n3 _ _ rfl).elim
          | rt _ => exact hp.symm
  | cel l n =>
    obtain ⟨pp, ep, rfl⟩ := hJ
    refine ⟨n, fun i env' S => i ≤ n ∧ floopC (bodyAt t body cf) l n (n - i) env' S = floopC (bodyAt t body cf) l n n env S1, ⟨fun i env' S hp ρ H ex hb => ?_⟩, Nat.zero_le _, by rw [Nat.sub_zero]⟩
    have hr : floopS (bodyAt t body cf) (.cel l n) env S1 = floopC (bodyAt t body cf) l n n env S1 := rfl
    rw [hr] at hb ⊢
    generalize floopC (bodyAt t body cf) l n n env S1 = r at hp hb
    obtain ⟨hi, hp⟩ := hp
    have ep' := ex.get ep
    by_cases hlt : i < n
    · obtain ⟨kk, hk⟩ : ∃ kk, n - i = kk + 1 := ⟨n - i - 1, by omega⟩
      rw [hk] at hp
      unfold floopC at hp
      cases hs : S[l]? with
      | none => rw [hs] at hp; exact (hb hp.symm).elim
      | some c =>
      rw [hs] at hp
      cases c with
      | ins _ _ => exact (hb hp.symm).elim
      | dead => exact (hb hp.symm).elim
      | lst ys =>
      simp only at hp
      by_cases hn : ys.length = n
      · rw [if_pos hn] at hp
        have ei : n - (kk + 1) = i := by omega
        rw [ei] at hp
        obtain ⟨ws, hH, rl⟩ := ex.sto.ok l _ pp hs ep'
        have hd := List.getElem?_eq_getElem (show i < ys.length by omega)
        rw [hd] at hp
        simp only at hp
        obtain ⟨w, ew, rw'⟩ := rl.get hd
        refine .inr ⟨hlt, ⟨ws, w, .of hH, ew⟩, fun x H' hy => ?_⟩
        obtain ⟨rfl, hy⟩ := hy
        have := hy ws (.of hH)
        rw [ew] at this
        cases this
        refine ⟨.inl rfl, _, rw', ?_⟩
        have ek : n - (i + 1) = kk := by omega
        unfold After
        split at hp
        · first | exact ⟨hlt, by rw [ek]; exact hp⟩ | (rename_i e1; rw [e1]; exact ⟨hlt, by rw [ek]; exact hp⟩)
        · first | exact ⟨hlt, by rw [ek]; exact hp⟩ | (rename_i e1; rw [e1]; exact ⟨hlt, by rw [ek]; exact hp⟩)
        · first | exact hp.symm | (rename_i e1; rw [e1]; exact hp.symm)
        · rename_i n1 n2 n3
          generalize bodyAt t body cf ys[i] env' S = rb at *
          cases rb with
          | bad => exact hp.symm
          | ex _ _ _ _ => exact hp.symm
          | ok o _ _ =>
            cases o with
            | nx => exact (n1 _ _ rfl).elim
            | ct => exact (n2 _ _ rfl).elim
            | bk => exact (n3 _ _ rfl).elim
            | rt _ => exact hp.symm
      · rw [if_neg hn] at hp; exact (hb hp.symm).elim
    · have e : i = n := by omega
      subst e
      rw [Nat.sub_self] at hp
      unfold floopC at hp
      cases hs : S[l]? with
      | none => rw [hs] at hp; exact (hb hp.symm).elim
      | some c =>
      rw [hs] at hp
      cases c with
      | ins _ _ => exact (hb hp.symm).elim
      | dead => exact (hb hp.symm).elim
      | lst ys =>
      simp only at hp
      by_cases hn : ys.length = i
      · rw [if_pos hn] at hp
        obtain ⟨ws, hH, rl⟩ := ex.sto.ok l _ pp hs ep'
        exact .inl ⟨⟨ws, .of hH, by rw [← rl.1, hn]; exact Nat.le_refl _⟩, hp.symm⟩
      · rw [if_neg hn] at hp; exact (hb hp.symm).elim
/-- the body's ends, by what comes after -/
theorem after_ends {P : Frm → Sto → Prop} {r rb : RS} {Z : Addr → Prop} {ρ1 ρ : List Addr} {S1 S : Sto} {H1 H : Hp} {De : Ends} {N : L2.St → Hp → Prop} (ha : After P r rb) (hr : PS3 T X r Z ρ1 S1 H1 De W) (ex : Ext T.toTx X.K Z ρ1 S1 H1 ρ S H)
    (nx : ∀ e' S', P e' S' → ∀ ρ' σ' H', Ext T.toTx X.K Z ρ1 S1 H1 ρ' S' H' → EnvOk T.toTx X.K Z ρ' S' H' e' σ' → N σ' H') : PS3 T X rb Z ρ S H { De with nx := N, ct := N, bk := De.nx } W := by
  cases rb with
  | bad =>
    have e : r = .bad := ha
    rw [e] at hr
    exact hr
  | ex c fs env' S' =>
    have e : r = .ex c fs env' S' := ha
    rw [e] at hr
    exact PS3.base (De := De) ex hr
  | ok o env' S' =>
    cases o with
    | nx => exact fun ρ' σ' H' e2 ev => nx env' S' ha ρ' σ' H' (ex.trans e2) ev
    | ct => exact fun ρ' σ' H' e2 ev => nx env' S' ha ρ' σ' H' (ex.trans e2) ev
    | bk =>
      have e : r = .ok .nx env' S' := ha
      rw [e] at hr
      exact fun ρ' σ' H' e2 ev => hr ρ' σ' H' (ex.trans e2) ev
    | rt v =>
      have e : r = .ok (.rt v) env' S' := ha
      rw [e] at hr
      exact fun ρ' S2 H2 e2 => hr ρ' S2 H2 (ex.trans e2)
theorem s_for (c : Cs T X W cf k) {t : Tg} {src : E} {body : List Sm} {tg iter : Expr} {pb : List Stmt} (ht : tgB (fun _ => true) X.N X.env.scope t tg = true) (hs : ∀ x, foldedSetIterable iter X.env x = pure x) (hi : PI X tg iter (tI T X W cf src)) (hb : PSs X pb (tSs T X W cf body)) :
    PS X (.For tg iter pb [] pos) (tS T X W cf (.for_ t src body)) := by
  have hg := pg_of (X := X) c.nd c.calm (fun x _ => c.fnA x) ht
  refine psImp (ps_for c.po c.calm hi hg hb hs) fun De σ H ⟨Z, env, ρ, S, so, ev, h⟩ => ?_
  rw [exS] at h
  refine stepSI so ev h fun s S1 H1 J a1 hJ h1 => ?_
  have h1' : PS3 T X (floopS (bodyAt t body cf) s env S1) Z ρ S1 H1 De W := h1
  obtain ⟨N, P, tn, p0⟩ := fturns_of (cf := cf) (t := t) (body := body) (env := env) hJ
  generalize floopS (bodyAt t body cf) s env S1 = r at h1' tn
  have hne : r ≠ .bad := fun e => by rw [e] at h1'; exact h1'
  refine ⟨fun i m σ' H' => m = N - i ∧ ∃ env' S' ρ', P i env' S' ∧ Ext T.toTx X.K Z ρ S1 H1 ρ' S' H' ∧ EnvOk T.toTx X.K Z ρ' S' H' env' σ', ⟨N, by simp, env, S1, ρ, p0, .refl a1.sto, a1.env⟩, ?_⟩
  rintro i m σ' H' ⟨rfl, env', S', ρ', pp, ex, ev'⟩
  rcases tn.run i env' S' pp ρ' H' ex hne with ⟨st, er⟩ | ⟨hlt, go, turn⟩
  · rw [er] at h1'
    exact .inl ⟨st, h1'.here ex ev'⟩
  · refine .inr ⟨go, fun σ2 H2 => ∃ env2 S2 ρ2, P (i + 1) env2 S2 ∧ Ext T.toTx X.K Z ρ S1 H1 ρ2 S2 H2 ∧ EnvOk T.toTx X.K Z ρ2 S2 H2 env2 σ2, fun σ2 H2 hn => ⟨N - (i + 1), by omega, rfl, hn⟩, fun x H2 hy => ?_⟩
    obtain ⟨hnew, dd, rel, ha⟩ := turn x H2 hy
    have en : Ext T.toTx X.K Z ρ' S' H' ρ' S' H2 := by
      rcases hnew with rfl | ⟨p, o, n, rfl⟩
      · exact .refl ex.sto
      · exact Ext.new ex.sto n
    cases hst : setT t dd env' with
    | none =>
      have : bodyAt t body cf dd env' S' = .bad := by unfold bodyAt; rw [hst]
      rw [this] at ha
      exact (hne ha).elim
    | some env2 =>
      have eb : bodyAt t body cf dd env' S' = exSs body cf env2 S' := by unfold bodyAt; rw [hst]
      rw [eb] at ha
      refine gT_ok (vs := []) hst (ev'.mono en) rel fun σ2 ev2 _ => ⟨Z, env2, ρ', S', en.sto, ev2, ?_⟩
      exact after_ends ha h1' (ex.trans en) fun e' S2 p2 ρ2 σ3 H3 e3 ev3 => ⟨e', S2, ρ2, p2, e3, ev3⟩
/-! ### while -/
theorem s_whl (c : Cs T X W cf k) {cc : E} {body : List Sm} {pc : Expr} {pb : List Stmt} (hc : PT X pc (tT T X W cf cc)) (hb : PSs X pb (tSs T X W cf body)) : PS X (.While pc pb [] pos) (tS T X W cf (.whl cc body)) := by
  refine psImp (ps_while c.po hc hb) fun De σ H ⟨Z, env, ρ, S, so, ev, h⟩ => ?_
  rw [exS] at h
  generalize WL = n at h
  generalize hr : wloop (fun env S => evT cc cf env S) (fun env S => exSs body cf env S) n env S = r at h
  have hne : r ≠ .bad := fun e => by rw [e] at h; exact h
  refine ⟨fun m σ' H' => ∃ env' S' ρ', wloop (fun env S => evT cc cf env S) (fun env S => exSs body cf env S) m env' S' = r ∧ Ext T.toTx X.K Z ρ S H ρ' S' H' ∧ EnvOk T.toTx X.K Z ρ' S' H' env' σ', ⟨n, env, S, ρ, hr, .refl so, ev⟩, ?_⟩
  rintro m σ' H' ⟨env', S', ρ', er, ex, ev'⟩
  cases m with
  | zero => exact (hne er.symm).elim
  | succ m =>
    rw [wloop] at er
    refine ⟨Z, env', ρ', S', ex.sto, ev', ?_⟩
    cases ht : evT cc cf env' S' with
    | bad => rw [ht] at er; exact (hne er.symm).elim
    | ex c' fs S1 =>
      rw [ht] at er
      have er' : RS.ex c' fs env' S1 = r := er
      rw [← er'] at h
      exact h ρ' S' H' σ' ex ev'
    | ok v S1 =>
      rw [ht] at er
      intro H1 e1
      have ex1 := ex.trans e1
      have ev1 := ev'.mono e1
      cases v with
      | false =>
        have er' : RS.ok .nx env' S1 = r := er
        rw [← er'] at h
        exact iteF (h.here ex1 ev1)
      | true =>
        have er' : (match exSs body cf env' S1 with
          | .ok .nx e S2 => wloop (fun env S => evT cc cf env S) (fun env S => exSs body cf env S) m e S2
          | .ok .ct e S2 => wloop (fun env S => evT cc cf env S) (fun env S => exSs body cf env S) m e S2
          | .ok .bk e S2 => .ok .nx e S2
          | r => r) = r := er
        refine iteT ⟨fun σ2 H2 => ∃ env2 S2 ρ2, wloop (fun env S => evT cc cf env S) (fun env S => exSs body cf env S) m env2 S2 = r ∧ Ext T.toTx X.K Z ρ S H ρ2 S2 H2 ∧ EnvOk T.toTx X.K Z ρ2 S2 H2 env2 σ2, fun σ2 H2 hn => ⟨m, Nat.lt_succ_self m, hn⟩, Z, env', ρ', S1, ex1.sto, ev1, ?_⟩
        refine after_ends (P := fun e' S' => wloop (fun env S => evT cc cf env S) (fun env S => exSs body cf env S) m e' S' = r) ?_ h ex1 fun e' S2 p2 ρ2 σ3 H3 e3 ev3 => ⟨e', S2, ρ2, p2, e3, ev3⟩
        generalize exSs body cf env' S1 = rb at er' ⊢
        cases rb with
        | bad => exact er'.symm
        | ex _ _ _ _ => exact er'.symm
        | ok o _ _ =>
          cases o with
          | nx => exact er'
          | ct => exact er'
          | bk => exact er'.symm
          | rt _ => exact er'.symm
end
end GS
/-! G: the checker. -/
namespace GS
open PySem PySem.Spec PyProof.Rows L2 G ClX
def ownP (N : List Str) (own : List Nat) : List (Str × Nat) := own.map fun i => ((N[i]?).getD "", i)
def trueC : E → Bool
  | .con (.bl true) => true
  | _ => false
def noneC : E → Bool
  | .con .non => true
  | _ => false
def nosetB : Expr → Bool
  | .Set _ _ _ => false
  | _ => true
def isTest : Expr → Bool
  | .UnaryOp .Not _ _ => true
  | .BoolOp _ _ _ => true
  | .IfExp _ _ _ _ => true
  | .Compare _ _ _ _ => true
  | _ => false
def capB (x : Str) (scope : Scope) : Bool := scope.names.any fun (n, k) => n == x && (k == .local || k == .cell)
def lineB (a b : Pos) : Bool := a.line == b.line
def lcB (sc : Scope) (x : Str) (px : Pos) : Expr → Bool
  | .ListComp _ _ scope pos' => decide (sc.names.lookup x = some .local) && (lineB px pos' && !(capB x scope))
  | _ => false
def nswB (sc : Scope) (x : Str) (px : Pos) : Expr → Bool
  | .ListComp _ _ scope pos' => !(decide (sc.names.lookup x = some .local) && (lineB px pos' && !(capB x scope)))
  | _ => false
def memB (x : Str) (scope : Scope) : Bool := scope.names.lookup x == some .cell
section
variable (Nm : Names) (P : Prg)
mutual
def chkE : Nat → E → Expr → List Str → Scope → Bool
  | 0, _, _, _, _ => false
  | n + 1, e, p, N, sc => (match e with
    | .var i => (match p with
      | .Name x _ => varB N sc i x
      | _ => false)
    | .con d => (match p with
      | .Constant c _ _ => conB d c
      | _ => false)
    | .glb g => (match p with
      | .Name x _ => Nm.okg g && (decide (x = Nm.gnm g) && gloB sc x)
      | _ => false)
    | .bin o a b => (match p with
      | .BinOp l op r _ => decide (op = bOf o) && (chkE n a l N sc && chkE n b r N sc)
      | _ => false)
    | .neg a => (match p with
      | .UnaryOp .USub l _ => chkE n a l N sc
      | _ => false)
    | .inv a => (match p with
      | .UnaryOp .Invert l _ => chkE n a l N sc
      | _ => false)
    | .cmp o a b => (match p with
      | .Compare l [op] [r] _ => decide (op = cOf o) && (!behindInMarks (cOf o) r && (chkE n a l N sc && chkE n b r N sc))
      | _ => false)
    | .chn o o' a b c => (match p with
      | .Compare l [op, op'] [r, r'] _ => decide (op = cOf o) && (decide (op' = cOf o') && (!lastMarks [cOf o, cOf o'] [r, r'] && (chkE n a l N sc && (chkE n b r N sc && chkE n c r' N sc))))
      | _ => false)
    | .not a => (match p with
      | .UnaryOp .Not l _ => chkE n a l N sc
      | _ => false)
    | .and a b => (match p with
      | .BoolOp .And [l, r] _ => chkE n a l N sc && chkE n b r N sc
      | .BoolOp .And (l :: r :: r' :: rest) pos => chkE n a l N sc && chkE n b (.BoolOp .And (r :: r' :: rest) pos) N sc
      | _ => false)
    | .or a b => (match p with
      | .BoolOp .Or [l, r] _ => chkE n a l N sc && chkE n b r N sc
      | .BoolOp .Or (l :: r :: r' :: rest) pos => chkE n a l N sc && chkE n b (.BoolOp .Or (r :: r' :: rest) pos) N sc
      | _ => false)
    | .ife c a b => (match p with
      | .IfExp t l r _ => chkT n c t N sc && (chkE n a l N sc && chkE n b r N sc)
      | _ => false)
    | .tup xs => (match p with
      | .Tuple es _ _ => chkL n xs es N sc
      | _ => false)
    | .lst xs => (match p with
      | .List es _ => chkL n xs es N sc
      | _ => false)
    | .idx a i => (match p with
      | .Subscript l r _ => noslice r && (chkE n a l N sc && chkE n i r N sc)
      | _ => false)
    | .slc a lo hi => (match p with
      | .Subscript l (.Slice lo' hi' none _) _ => chkE n a l N sc && ((match lo' with | none => noneC lo | some q => !noneC lo && chkE n lo q N sc) && (match hi' with | none => noneC hi | some q => !noneC hi && chkE n hi q N sc))
      | _ => false)
    | .rev a => (match p with
      | .Subscript l (.Slice none none (some (.UnaryOp .USub (.Constant (.int i) _ _) _)) _) _ => decide (i = 1) && chkE n a l N sc
      | _ => false)
    | .fld a f => (match p with
      | .Attribute l x _ => Nm.okl f && (decide (x = Nm.fld f) && (nosup l && chkE n a l N sc))
      | _ => false)
    | .lrg a => (match p with
      | .Call (.Name x _) [.Call (.Name y _) [q] [] _] [] _ => decide (x = "list") && (decide (y = "range") && (gloB sc x && (gloB sc y && (nostar q && chkE n a q N sc))))
      | _ => false)
    | .callF f a => (match p with
      | .Call (.Name x _) [q] [] _ => Nm.okf f && (decide (x = Nm.fnm f) && (gloB sc x && (nostar q && chkE n a q N sc)))
      | _ => false)
    | .call f xs => (match p with
      | .Call (.Name x _) es [] _ => Nm.okf f && (decide (x = Nm.fnm f) && (gloB sc x && (es.all nostar && chkL n xs es N sc)))
      | _ => false)
    | .mk c xs => (match p with
      | .Call (.Name x _) (e :: es) [] _ => Nm.okc c && (decide (x = Nm.cnm c) && (gloB sc x && ((e :: es).all nostar && ((P.ini c).isSome && chkL n xs (e :: es) N sc))))
      | _ => false)
    | .mkv i c xs => (match p with
      | .Call (.Name x _) (e :: es) [] _ => varB N sc i x && ((e :: es).all nostar && ((P.ini c).isSome && chkL n xs (e :: es) N sc))
      | _ => false)
    | .cm c f xs => (match p with
      | .Call (.Attribute (.Name x _) m apos) (e :: es) [] pos => Nm.okk c f && (decide (m = Nm.mnm f) && (decide (x = Nm.cnm c) && (gloB sc x && ((e :: es).all nostar && (decide ((e :: es).length < 30) && ((apos.endLine == pos.line) && chkL n xs (e :: es) N sc))))))
      | _ => false)
    | .met c f a xs => (match p with
      | .Call (.Attribute l m apos) es [] pos => Nm.okm c f && (decide (m = Nm.mnm f) && (nocall l && (es.all nostar && (decide (es.length < 30) && ((apos.endLine == pos.line) && (chkE n a l N sc && chkL n xs es N sc))))))
      | _ => false)
    | .bi b xs => (match p with
      | .Call (.Name x _) (e :: es) [] _ => decide (x = biN b) && (gloB sc x && ((e :: es).all nostar && chkL n xs (e :: es) N sc))
      | _ => false)
    | .isi a ts => (match p with
      | .Call (.Name x _) [l, .Tuple qs _ _] [] _ => decide (x = "isinstance") && (gloB sc x && (nostar l && (decide (ts.length ≤ 100) && (tysB Nm sc ts qs && chkE n a l N sc))))
      | .Call (.Name x _) [l, q] [] _ => (match ts with
        | [t] => decide (x = "isinstance") && (gloB sc x && (nostar l && (tyB Nm sc t q && chkE n a l N sc)))
        | _ => false)
      | _ => false)
    | .bm m a xs => (match p with
      | .Call (.Attribute l x apos) es [] pos => decide (x = bmN m) && (decide (es.length = bmA m) && (nocall l && (es.all nostar && (decide (es.length < 30) && ((apos.endLine == pos.line) && (chkE n a l N sc && chkL n xs es N sc))))))
      | _ => false)
    | .comp own t src c e => (match p with
      | .ListComp elt [⟨tg, iter, ifs, as⟩] scope _ => decide (as = 0) && (blkC N sc scope (ownP N own) && (tgB (fun x => memB x scope) N (L2.relS scope sc) t tg && (tgIn t own && (nosetB iter && (chkI n src iter N sc &&
          ((match ifs with | [] => trueC c | [q] => chkT n c q N (L2.relS scope sc) | _ => false) && chkE n e elt N (L2.relS scope sc)))))))
      | _ => false)
    | .comp2 own t src own1 t1 src1 c e => (match p with
      | .ListComp elt [⟨tg, iter, ifs, as⟩, ⟨tg1, iter1, ifs1, as1⟩] scope _ => decide (as = 0) && (decide (as1 = 0) && (blkC N sc scope (ownP N own) && ((own1.all fun i => decide (i ∈ own)) && (tgB (fun x => memB x scope) N (L2.relS scope sc) t tg && (tgIn t own && (nosetB iter && (chkI n src iter N sc &&
          ((match ifs with | [] => true | _ => false) && (tgB (fun x => memB x scope) N (L2.relS scope sc) t1 tg1 && (tgIn t1 own1 && (nosetB iter1 && (chkI n src1 iter1 N (L2.relS scope sc) &&
          ((match ifs1 with | [] => trueC c | [q] => chkT n c q N (L2.relS scope sc) | _ => false) && chkE n e elt N (L2.relS scope sc))))))))))))))
      | _ => false)
    | _ => false)
def chkT : Nat → E → Expr → List Str → Scope → Bool
  | 0, _, _, _, _ => false
  | n + 1, e, p, N, sc => (match p with
    | .UnaryOp .Not l _ => (match e with
      | .not a => chkT n a l N sc
      | _ => false)
    | .BoolOp .And [l, r] _ => (match e with
      | .and a b => chkT n a l N sc && chkT n b r N sc
      | _ => false)
    | .BoolOp .And (l :: r :: r' :: rest) pos => (match e with
      | .and a b => chkT n a l N sc && chkT n b (.BoolOp .And (r :: r' :: rest) pos) N sc
      | _ => false)
    | .BoolOp .Or [l, r] _ => (match e with
      | .or a b => chkT n a l N sc && chkT n b r N sc
      | _ => false)
    | .BoolOp .Or (l :: r :: r' :: rest) pos => (match e with
      | .or a b => chkT n a l N sc && chkT n b (.BoolOp .Or (r :: r' :: rest) pos) N sc
      | _ => false)
    | .Compare l [op] [r] _ => (match e with
      | .cmp o a b => decide (op = cOf o) && (!behindInMarks (cOf o) r && (chkE n a l N sc && chkE n b r N sc))
      | _ => false)
    | .Compare l [op, op'] [r, r'] _ => (match e with
      | .chn o o' a b c => decide (op = cOf o) && (decide (op' = cOf o') && (!lastMarks [cOf o, cOf o'] [r, r'] && (chkE n a l N sc && (chkE n b r N sc && chkE n c r' N sc))))
      | _ => false)
    | p => !isTest p && ((match e with
      | .not _ => false
      | .and _ _ => false
      | .or _ _ => false
      | .ife _ _ _ => false
      | _ => true) && chkE n e p N sc))
def chkL : Nat → List E → List Expr → List Str → Scope → Bool
  | 0, _, _, _, _ => false
  | n + 1, es, ps, N, sc => (match es, ps with
    | [], [] => true
    | e :: es, p :: ps => nostar p && (chkE n e p N sc && chkL n es ps N sc)
    | _, _ => false)
def chkI : Nat → E → Expr → List Str → Scope → Bool
  | 0, _, _, _, _ => false
  | n + 1, e, p, N, sc => (match e with
    | .rng xs => (match p with
      | .Call (.Name x _) ps [] _ => decide (x = "range") && (gloB sc x && (ps.all nostar && ((decide (ps.length = 1) || (decide (ps.length = 2) || decide (ps.length = 3))) && (decide (xs.length = ps.length) && chkL n xs ps N sc))))
      | _ => false)
    | .zip _ _ => false
    | .enm _ => false
    | e => chkE n e p N sc)
end
/-- statements; ghosts stand for none -/
def chkSs : Nat → List Sm → List Stmt → List Str → Scope → Bool
  | 0, _, _, _, _ => false
  | n + 1, ss, sts, N, sc => (match ss with
    | [] => (match sts with
      | [] => true
      | _ => false)
    | .frz _ :: ss => chkSs n ss sts N sc
    | .bad :: _ => true
    | s :: ss => (match sts with
      | [] => false
      | st :: sts => chkSs n ss sts N sc && (match s with
        | .asg (.nm i) e => (match st with
          | .Assign [.Name x px] p pos => nameB (fun _ => true) N sc i x && (chkE Nm P n e p N sc && (nocomp p || (nswB sc x px p || lcB sc x px p)))
          | _ => false)
        | .own i e => (match st with
          | .Assign [.Name x px] p pos => nameB (fun _ => true) N sc i x && (chkE Nm P n e p N sc && (nocomp p || (nswB sc x px p || lcB sc x px p)))
          | _ => false)
        | .asg (.tp is) e => (match st with
          | .Assign [.Tuple es kk px] p _ => tgB (fun _ => true) N sc (.tp is) (.Tuple es kk px) && (notup p && chkE Nm P n e p N sc)
          | _ => false)
        | .sub o i e => (match st with
          | .Assign [.Subscript l r _] p _ => noslice r && (chkE Nm P n e p N sc && (chkE Nm P n o l N sc && chkE Nm P n i r N sc))
          | _ => false)
        | .fld o f e => (match st with
          | .Assign [.Attribute l x _] p _ => Nm.okl f && (decide (x = Nm.fld f) && (chkE Nm P n e p N sc && chkE Nm P n o l N sc))
          | _ => false)
        | .aug i o e => (match st with
          | .AugAssign (.Name x _) op p _ => bAug o && (decide (op = bOf o) && (nameB (fun _ => true) N sc i x && chkE Nm P n e p N sc))
          | _ => false)
        | .augS o i op e => (match st with
          | .AugAssign (.Subscript l r _) op' p _ => bAug op && (decide (op' = bOf op) && (noslice r && (chkE Nm P n e p N sc && (chkE Nm P n o l N sc && chkE Nm P n i r N sc))))
          | _ => false)
        | .ex e => (match st with
          | .Expr p _ => nocomp p && chkE Nm P n e p N sc
          | _ => false)
        | .ite c a b => (match st with
          | .If p l r _ => chkT Nm P n c p N sc && (chkSs n a l N sc && chkSs n b r N sc)
          | _ => false)
        | .for_ t src body => (match st with
          | .For tg iter l [] _ => tgB (fun _ => true) N sc t tg && (nosetB iter && (chkI Nm P n src iter N sc && chkSs n body l N sc))
          | _ => false)
        | .whl c body => (match st with
          | .While p l [] _ => chkT Nm P n c p N sc && chkSs n body l N sc
          | _ => false)
        | .ret e => (match st with
          | .Return (some p) _ => chkE Nm P n e p N sc
          | _ => false)
        | .retn => (match st with
          | .Return none _ => true
          | _ => false)
        | .bk => (match st with
          | .Break _ => true
          | _ => false)
        | .ct => (match st with
          | .Continue _ => true
          | _ => false)
        | .pass => (match st with
          | .Pass _ => true
          | _ => false)
        | .rse c es => (match st with
          | .Raise (some (.Call (.Name x _) (p :: ps) [] _)) none _ => (P.xfl c).isSome && (decide (x = Nm.cnm c) && (gloB sc x && ((p :: ps).all nostar && (Nat.ble es.length 100 && chkL Nm P n es (p :: ps) N sc))))
          | _ => false)
        | .tr body hs => (match st with
          | .Try bs (h₀ :: hds) [] [] _ => chkSs n body bs N sc && chkHs Nm N sc hs (h₀ :: hds)
          | _ => false)
        | _ => false)))
end
end GS
/-! G: what the checker passes is sound: expressions. -/
namespace GS
open PySem PySem.Spec PyProof.Rows L2 G ClX
theorem Cc.blk {T : Text} {X : Cx} {W : WX} {cf : Cfg} {k : Nat} (c : Cc T X W cf k) (s : Shared) (H : Hp) (scope : Scope) (env : Env) (fp : List Addr) : Cc T (X.blk s H scope env fp) noW cf k :=
  ⟨c.P, c.nd, c.calm, takes0, c.xc, c.room, c.fx, c.fn⟩
theorem ptsImp {X : Cx} {es : List Expr} {t t' : TT} (h : PTs X es t) (i : ∀ σ H Q, t' σ H Q → t σ H Q) : PTs X es t' := ⟨fun pins s σ H Q I q => h.run pins s σ H Q I (i σ H Q q)⟩
theorem noneC_of {e : E} (h : noneC e = true) : e = .con .non := by
  unfold noneC at h
  split at h
  · rfl
  · cases h
theorem noneC_no {e : E} (h : (!noneC e) = true) : e ≠ .con .non := fun z => by
  rw [z] at h
  cases h
theorem trueC_of {e : E} (h : trueC e = true) : e = .con (.bl true) := by
  unfold trueC at h
  split at h
  · rfl
  · cases h
theorem noset_of {p : Expr} {env : Env} (h : nosetB p = true) : ∀ x, foldedSetIterable p env x = pure x := by
  intro x
  cases p <;> first | rfl | cases h
theorem evI_no {e : E} (h1 : ∀ xs, e ≠ .rng xs) (h2 : ∀ a b, e ≠ .zip a b) (h3 : ∀ a, e ≠ .enm a) : ∀ cf env S, evI e cf env S = (G.stl (evE e cf env S)).bind fun v S1 => srcV v S1 := by
  intro cf env S
  rw [evI]
  · exact h1
  · exact h2
  · exact h3
theorem evT_no {e : E} (h1 : ∀ a, e ≠ .not a) (h2 : ∀ a b, e ≠ .and a b) (h3 : ∀ a b, e ≠ .or a b) (h4 : ∀ c a b, e ≠ .ife c a b) : ∀ cf env S, evT e cf env S = tru (G.stl (evE e cf env S)) := by
  intro cf env S
  rw [evT]
  · exact h1
  · exact h2
  · exact h3
  · exact h4
theorem test_no {p : Expr} {env : Env} (h : (!isTest p) = true) (h0 : ∀ l q, p ≠ .UnaryOp .Not l q) : ∀ whole, isTrue p env whole = (do let v ← whole; standAt p.pos; holding [v] (truthy v)) := by
  intro whole
  cases p <;> first | rfl | exact absurd (show (false : Bool) = true from h) Bool.false_ne_true | skip
  rename_i op l q
  cases op <;> first | rfl | exact absurd (show (false : Bool) = true from h) Bool.false_ne_true
theorem ownP_snd (N : List Str) (own : List Nat) : (ownP N own).map (·.2) = own := by
  unfold ownP
  rw [List.map_map]
  exact (List.map_congr_left fun _ _ => rfl).trans (List.map_id own)
def SndE (T : Text) (n : Nat) : Prop := ∀ (e : E) (p : Expr) (X : Cx) (W : WX) (cf : Cfg) (k : Nat), Cc T X W cf k → chkE T.nm T.P n e p X.N X.env.scope = true → PE X p (tE T X W cf e)
def SndT (T : Text) (n : Nat) : Prop := ∀ (e : E) (p : Expr) (X : Cx) (W : WX) (cf : Cfg) (k : Nat), Cc T X W cf k → chkT T.nm T.P n e p X.N X.env.scope = true → PT X p (tT T X W cf e)
def SndL (T : Text) (n : Nat) : Prop := ∀ (es : List E) (ps : List Expr) (X : Cx) (W : WX) (cf : Cfg) (k : Nat), Cc T X W cf k → chkL T.nm T.P n es ps X.N X.env.scope = true → PA X ps (tL T X W cf es)
def SndI (T : Text) (n : Nat) : Prop := ∀ (e : E) (p tg : Expr) (X : Cx) (W : WX) (cf : Cfg) (k : Nat), Cc T X W cf k → chkI T.nm T.P n e p X.N X.env.scope = true → PI X tg p (tI T X W cf e)
theorem sndL_succ {T : Text} {n : Nat} (hE : SndE T n) (hL : SndL T n) : SndL T (n + 1) := by
  intro es ps X W cf k c h
  cases es with
  | nil =>
    cases ps with
    | nil => exact s_nil
    | cons _ _ => exact absurd h (by simp [chkL])
  | cons e es =>
    cases ps with
    | nil => exact absurd h (by simp [chkL])
    | cons p ps =>
      simp only [chkL, Bool.and_eq_true] at h
      exact s_cons h.1 (hE e p X W cf k c h.2.1) (hL es ps X W cf k c h.2.2)
theorem sndI_succ {T : Text} {n : Nat} (hE : SndE T n) (hL : SndL T n) : SndI T (n + 1) := by
  intro e p tg X W cf k c h
  by_cases h1 : ∃ xs, e = .rng xs
  · obtain ⟨xs, rfl⟩ := h1
    simp only [chkI] at h
    split at h
    case h_2 => cases h
    case h_1 x px ps pos =>
    simp only [Bool.and_eq_true, decide_eq_true_eq, Bool.or_eq_true] at h
    exact s_rng c h.1 h.2.1 h.2.2.1 h.2.2.2.1 h.2.2.2.2.1 (hL xs ps X W cf k c h.2.2.2.2.2)
  by_cases h2 : ∃ a b, e = .zip a b
  · obtain ⟨a, b, rfl⟩ := h2
    exact absurd h (by simp [chkI])
  by_cases h3 : ∃ a, e = .enm a
  · obtain ⟨a, rfl⟩ := h3
    exact absurd h (by simp [chkI])
  · have h' : chkE T.nm T.P n e p X.N X.env.scope = true := by
      cases e <;> first | exact (h1 ⟨_, rfl⟩).elim | exact (h2 ⟨_, _, rfl⟩).elim | exact (h3 ⟨_, rfl⟩).elim | exact h
    exact s_src (evI_no (fun xs z => h1 ⟨xs, z⟩) (fun a b z => h2 ⟨a, b, z⟩) fun a z => h3 ⟨a, z⟩) (hE e p X W cf k c h')
theorem sndT_succ {T : Text} {n : Nat} (hE : SndE T n) (hT : SndT T n) : SndT T (n + 1) := by
  intro e p X W cf k c h
  unfold chkT at h
  split at h
  · split at h
    · exact s_notT (hT _ _ X W cf k c h)
    · cases h
  · split at h
    · simp only [Bool.and_eq_true] at h
      exact s_andT (hT _ _ X W cf k c h.1) (s_oneT (hT _ _ X W cf k c h.2))
    · cases h
  · split at h
    · simp only [Bool.and_eq_true] at h
      exact s_andT (hT _ _ X W cf k c h.1) (hT _ _ X W cf k c h.2)
    · cases h
  · split at h
    · simp only [Bool.and_eq_true] at h
      exact s_orT (hT _ _ X W cf k c h.1) (s_oneT (hT _ _ X W cf k c h.2))
    · cases h
  · split at h
    · simp only [Bool.and_eq_true] at h
      exact s_orT (hT _ _ X W cf k c h.1) (hT _ _ X W cf k c h.2)
    · cases h
  · split at h
    · simp only [Bool.and_eq_true, decide_eq_true_eq] at h
      obtain ⟨rfl, h1, h2, h3⟩ := h
      refine ptImp (s_cmpT c (hE _ _ X W cf k c h2) (hE _ _ X W cf k c h3) (by simpa using h1)) fun σ H Q ⟨Z, env, ρ, S, so, ev, q⟩ => ⟨Z, env, ρ, S, so, ev, ?_⟩
      rw [evT_no (by intro _ z; cases z) (by intro _ _ z; cases z) (by intro _ _ z; cases z) (by intro _ _ _ z; cases z)] at q
      exact q
    · cases h
  · split at h
    · simp only [Bool.and_eq_true, decide_eq_true_eq] at h
      obtain ⟨rfl, rfl, h1, h2, h3, h4⟩ := h
      refine ptImp (s_chnT c (hE _ _ X W cf k c h2) (hE _ _ X W cf k c h3) (hE _ _ X W cf k c h4) (by simpa using h1)) fun σ H Q ⟨Z, env, ρ, S, so, ev, q⟩ => ⟨Z, env, ρ, S, so, ev, ?_⟩
      rw [evT_no (by intro _ z; cases z) (by intro _ _ z; cases z) (by intro _ _ z; cases z) (by intro _ _ _ z; cases z)] at q
      exact q
    · cases h
  · simp only [Bool.and_eq_true] at h
    obtain ⟨h1, h2, h3⟩ := h
    have he : ∀ whole, isTrue p X.env whole = (do let v ← whole; standAt p.pos; holding [v] (truthy v)) := by
      refine test_no h1 fun l q z => ?_
      rw [z] at h1
      exact absurd (show (false : Bool) = true from h1) Bool.false_ne_true
    refine ptImp (s_tst he (hE _ _ X W cf k c h3)) fun σ H Q ⟨Z, env, ρ, S, so, ev, q⟩ => ⟨Z, env, ρ, S, so, ev, ?_⟩
    rw [evT_no (fun _ z => by rw [z] at h2; cases h2) (fun _ _ z => by rw [z] at h2; cases h2) (fun _ _ z => by rw [z] at h2; cases h2) (fun _ _ _ z => by rw [z] at h2; cases h2)] at q
    exact q
end GS
/-! G: what the checker passes is sound: expressions, all. -/
namespace GS
open PySem PySem.Spec PyProof.Rows L2 G ClX
theorem pts_of {T : Text} {X : Cx} {cf : Cfg} {c : E} {ifs : List Expr} {F : Expr → Bool} (h : (match ifs with | [] => trueC c | [q] => F q | _ => false) = true) (hT : ∀ q, F q = true → PT X q (tT T X noW cf c)) : PTs X ifs (tT T X noW cf c) := by
  split at h
  · have e := trueC_of h
    subst e
    refine ptsImp pts_nil fun σ H Q ⟨Z, env, ρ, S, so, ev, q⟩ => ?_
    rw [evT_no (by intro _ z; cases z) (by intro _ _ z; cases z) (by intro _ _ z; cases z) (by intro _ _ _ z; cases z), evE] at q
    exact q H (.refl so)
  · exact pts_one (hT _ h)
  · cases h
theorem sndE_succ {T : Text} {n : Nat} (hE : SndE T n) (hT : SndT T n) (hL : SndL T n) (hI : SndI T n) : SndE T (n + 1) := by
  intro e p X W cf k c h
  cases e with
  | var i =>
    simp only [chkE] at h
    split at h
    case h_2 => cases h
    case h_1 => exact s_var h
  | con d =>
    simp only [chkE] at h
    split at h
    case h_2 => cases h
    case h_1 => exact s_con h
  | glb g =>
    simp only [chkE] at h
    split at h
    case h_2 => cases h
    case h_1 =>
    simp only [Bool.and_eq_true, decide_eq_true_eq] at h
    exact s_glb c h.1 h.2.1 h.2.2
  | bin o a b =>
    simp only [chkE] at h
    split at h
    case h_2 => cases h
    case h_1 =>
    simp only [Bool.and_eq_true, decide_eq_true_eq] at h
    obtain ⟨rfl, h1, h2⟩ := h
    exact s_bin c (hE _ _ X W cf k c h1) (hE _ _ X W cf k c h2)
  | neg a =>
    simp only [chkE] at h
    split at h
    case h_2 => cases h
    case h_1 => exact s_neg (hE _ _ X W cf k c h)
  | inv a =>
    simp only [chkE] at h
    split at h
    case h_2 => cases h
    case h_1 => exact s_inv (hE _ _ X W cf k c h)
  | cmp o a b =>
    simp only [chkE] at h
    split at h
    case h_2 => cases h
    case h_1 =>
    simp only [Bool.and_eq_true, decide_eq_true_eq] at h
    obtain ⟨rfl, h1, h2, h3⟩ := h
    exact s_cmp c (hE _ _ X W cf k c h2) (hE _ _ X W cf k c h3) (by simpa using h1)
  | chn o o' a b d =>
    simp only [chkE] at h
    split at h
    case h_2 => cases h
    case h_1 =>
    simp only [Bool.and_eq_true, decide_eq_true_eq] at h
    obtain ⟨rfl, rfl, h1, h2, h3, h4⟩ := h
    exact s_chn c (hE _ _ X W cf k c h2) (hE _ _ X W cf k c h3) (hE _ _ X W cf k c h4) (by simpa using h1)
  | not a =>
    simp only [chkE] at h
    split at h
    case h_2 => cases h
    case h_1 => exact s_notE (hE _ _ X W cf k c h)
  | and a b =>
    simp only [chkE] at h
    split at h
    · simp only [Bool.and_eq_true] at h
      exact s_and (hE _ _ X W cf k c h.1) (pe_one (hE _ _ X W cf k c h.2))
    · simp only [Bool.and_eq_true] at h
      exact s_and (hE _ _ X W cf k c h.1) (hE _ _ X W cf k c h.2)
    · cases h
  | or a b =>
    simp only [chkE] at h
    split at h
    · simp only [Bool.and_eq_true] at h
      exact s_or (hE _ _ X W cf k c h.1) (pe_one (hE _ _ X W cf k c h.2))
    · simp only [Bool.and_eq_true] at h
      exact s_or (hE _ _ X W cf k c h.1) (hE _ _ X W cf k c h.2)
    · cases h
  | ife cc a b =>
    simp only [chkE] at h
    split at h
    case h_2 => cases h
    case h_1 =>
    simp only [Bool.and_eq_true] at h
    exact s_ife (hT _ _ X W cf k c h.1) (hE _ _ X W cf k c h.2.1) (hE _ _ X W cf k c h.2.2)
  | tup xs =>
    simp only [chkE] at h
    split at h
    case h_2 => cases h
    case h_1 => exact s_tup (hL _ _ X W cf k c h)
  | lst xs =>
    simp only [chkE] at h
    split at h
    case h_2 => cases h
    case h_1 => exact s_lst (hL _ _ X W cf k c h)
  | idx a i =>
    simp only [chkE] at h
    split at h
    case h_2 => cases h
    case h_1 =>
    simp only [Bool.and_eq_true] at h
    exact s_idx (hE _ _ X W cf k c h.2.1) (hE _ _ X W cf k c h.2.2) h.1
  | slc a lo hi =>
    simp only [chkE] at h
    split at h
    case h_2 => cases h
    case h_1 l lo' hi' _ _ =>
    simp only [Bool.and_eq_true] at h
    obtain ⟨h1, h2, h3⟩ := h
    refine s_slc (hE _ _ X W cf k c h1) ?_ ?_
    · split at h2
      · exact .inl ⟨rfl, noneC_of h2⟩
      · simp only [Bool.and_eq_true] at h2
        exact .inr ⟨_, rfl, noneC_no h2.1, hE _ _ X W cf k c h2.2⟩
    · split at h3
      · exact .inl ⟨rfl, noneC_of h3⟩
      · simp only [Bool.and_eq_true] at h3
        exact .inr ⟨_, rfl, noneC_no h3.1, hE _ _ X W cf k c h3.2⟩
  | rev a =>
    simp only [chkE] at h
    split at h
    case h_2 => cases h
    case h_1 =>
    simp only [Bool.and_eq_true, decide_eq_true_eq] at h
    obtain ⟨rfl, h1⟩ := h
    exact s_rev (hE _ _ X W cf k c h1)
  | fld a f =>
    simp only [chkE] at h
    split at h
    case h_2 => cases h
    case h_1 =>
    simp only [Bool.and_eq_true, decide_eq_true_eq] at h
    exact s_fld c h.1 h.2.1 h.2.2.1 (hE _ _ X W cf k c h.2.2.2)
  | lrg a =>
    simp only [chkE] at h
    split at h
    case h_2 => cases h
    case h_1 =>
    simp only [Bool.and_eq_true, decide_eq_true_eq] at h
    exact s_lrg c h.1 h.2.1 h.2.2.1 h.2.2.2.1 h.2.2.2.2.1 (hE _ _ X W cf k c h.2.2.2.2.2)
  | callF f a =>
    simp only [chkE] at h
    split at h
    case h_2 => cases h
    case h_1 =>
    simp only [Bool.and_eq_true, decide_eq_true_eq] at h
    exact s_callF c h.1 h.2.1 h.2.2.1 h.2.2.2.1 (hE _ _ X W cf k c h.2.2.2.2)
  | call f xs =>
    simp only [chkE] at h
    split at h
    case h_2 => cases h
    case h_1 x px es pos =>
    simp only [Bool.and_eq_true, decide_eq_true_eq] at h
    obtain ⟨h1, h2, h3, h4, h5⟩ := h
    have hl := hL _ _ X W cf k c h5
    cases es with
    | cons p ps => exact s_call c h1 h2 h3 h4 hl
    | nil =>
      cases n with
      | zero => exact absurd h5 (by simp [chkL])
      | succ m =>
        cases xs with
        | nil => exact s_call0 c h1 h2 h3
        | cons _ _ => exact absurd h5 (by simp [chkL])
  | mk cc xs =>
    simp only [chkE] at h
    split at h
    case h_2 => cases h
    case h_1 =>
    simp only [Bool.and_eq_true, decide_eq_true_eq] at h
    obtain ⟨h1, h2, h3, h4, h5, h6⟩ := h
    exact s_mk c h1 h2 h3 h4 h5 (hL _ _ X W cf k c h6)
  | mkv i cc xs =>
    simp only [chkE] at h
    split at h
    case h_2 => cases h
    case h_1 =>
    simp only [Bool.and_eq_true] at h
    obtain ⟨h1, h2, h3, h4⟩ := h
    exact s_mkv c h1 h2 h3 (hL _ _ X W cf k c h4)
  | cm cc f xs =>
    simp only [chkE] at h
    split at h
    case h_2 => cases h
    case h_1 =>
    simp only [Bool.and_eq_true, decide_eq_true_eq] at h
    obtain ⟨h1, h2, h3, h4, h5, h6, h7, h8⟩ := h
    exact s_cm c h1 h2 h3 h4 h5 h6 h7 (hL _ _ X W cf k c h8)
  | met cc f a xs =>
    simp only [chkE] at h
    split at h
    case h_2 => cases h
    case h_1 l m apos es pos =>
    simp only [Bool.and_eq_true, decide_eq_true_eq] at h
    obtain ⟨h1, h2, h3, h4, h5, h6, h7, h8⟩ := h
    have nf : ∀ g, T.nm.fld g ≠ m := by
      rw [h2]
      exact c.fx.nf _ _ h1
    cases es with
    | cons p ps => exact s_met c h1 h2 nf h3 h4 h5 h6 (hE _ _ X W cf k c h7) (hL _ _ X W cf k c h8)
    | nil =>
      cases n with
      | zero => exact absurd h8 (by simp [chkL])
      | succ m' =>
        cases xs with
        | nil => exact s_met0 c h1 h2 nf h3 h6 (hE _ _ X W cf k c h7)
        | cons _ _ => exact absurd h8 (by simp [chkL])
  | bi b xs =>
    simp only [chkE] at h
    split at h
    case h_2 => cases h
    case h_1 =>
    simp only [Bool.and_eq_true, decide_eq_true_eq] at h
    exact s_bi c h.1 h.2.1 h.2.2.1 (hL _ _ X W cf k c h.2.2.2)
  | isi a ts =>
    simp only [chkE] at h
    split at h
    · simp only [Bool.and_eq_true, decide_eq_true_eq] at h
      obtain ⟨h1, h2, h3, h4, h5, h6⟩ := h
      exact s_isiT c h1 h2 h3 h4 h5 (hE _ _ X W cf k c h6)
    · split at h
      · simp only [Bool.and_eq_true, decide_eq_true_eq] at h
        obtain ⟨h1, h2, h3, h4, h5⟩ := h
        exact s_isi1 c h1 h2 h3 h4 (hE _ _ X W cf k c h5)
      · cases h
    · cases h
  | bm m a xs =>
    simp only [chkE] at h
    split at h
    case h_2 => cases h
    case h_1 l x apos es pos =>
    simp only [Bool.and_eq_true, decide_eq_true_eq] at h
    obtain ⟨h1, h2, h3, h4, h5, h6, h7, h8⟩ := h
    refine s_bm h1 h2 h3 h4 h5 h6 (hE _ _ X W cf k c h7) (hL _ _ X W cf k c h8) fun z => ?_
    subst z
    cases n with
    | zero => exact absurd h8 (by simp [chkL])
    | succ m' =>
      cases xs with
      | nil => rfl
      | cons _ _ => exact absurd h8 (by simp [chkL])
  | comp own t src cc e =>
    simp only [chkE] at h
    split at h
    case h_2 => cases h
    case h_1 elt tg iter ifs as scope pos =>
    simp only [Bool.and_eq_true, decide_eq_true_eq] at h
    obtain ⟨rfl, h1, h2, h3, h4, h5, h6, h7⟩ := h
    have r := pe_lc (elt := elt) (ifs := ifs) (te := tE T X noW cf e) (tt := tT T X noW cf cc) (g := gT X.K t) (own := ownP X.N own) (pos := pos) c.calm c.nd (hI src iter tg X W cf k c h5) (blkOk_by h1) (fun s H C cl fp => pg_of (X := X.blk s H scope (compEnvC scope cl C X.env) fp) (t := t) (fnB := fun x => memB x scope) c.nd c.calm (fun x z => z) h2)
      (fun s H C cl fp => pts_of (X := X.blk s H scope (compEnvC scope cl C X.env) fp) (T := T) (cf := cf) h6 fun q hq => hT cc q (X.blk s H scope (compEnvC scope cl C X.env) fp) noW cf k (c.blk s H scope _ fp) hq)
      (fun s H C cl fp => hE e elt (X.blk s H scope (compEnvC scope cl C X.env) fp) noW cf k (c.blk s H scope _ fp) h7) (noset_of h4)
    rw [ownP_snd] at r
    exact peImp r fun σ H Q hh => comp_read h3 hh
  | comp2 own t src own1 t1 src1 cc e =>
    simp only [chkE] at h
    split at h
    case h_2 => cases h
    case h_1 elt tg iter ifs as tg1 iter1 ifs1 as1 scope pos =>
    simp only [Bool.and_eq_true, decide_eq_true_eq] at h
    obtain ⟨rfl, rfl, h1, h2, h3, h4, h5, h6, h7, h8, h9, h10, h11, h12, h13⟩ := h
    have hnil : ifs = [] := by
      cases ifs with
      | nil => rfl
      | cons _ _ => cases h7
    subst hnil
    have hv : ∀ i ∈ own1, i ∈ (ownP X.N own).map (·.2) := fun i hi => by
      rw [ownP_snd]
      exact of_decide_eq_true (List.all_eq_true.mp h2 i hi)
    have r := pe_lc2 (elt := elt) (ifs := []) (ifs1 := ifs1) (te := tE T X noW cf e) (tt := tYes) (tt1 := tT T X noW cf cc) (g := gT X.K t) (g1 := gT X.K t1) (wi1 := tI T X noW cf src1) (own := ownP X.N own) (vs1 := own1) (pos := pos) c.calm c.nd (hI src iter tg X W cf k c h6) (blkOk_by h1) hv (fun s H C cl fp => pg_of (X := X.blk s H scope (compEnvC scope cl C X.env) fp) (t := t) (fnB := fun x => memB x scope) c.nd c.calm (fun x z => z) h3)
      (fun _ _ _ _ _ => pts_nil) (fun s H C cl fp => hI src1 iter1 tg1 (X.blk s H scope (compEnvC scope cl C X.env) fp) noW cf k (c.blk s H scope _ fp) h11)
      (fun s H C cl fp => pg_of (X := X.blk s H scope (compEnvC scope cl C X.env) fp) (t := t1) (fnB := fun x => memB x scope) c.nd c.calm (fun x z => z) h8)
      (fun s H C cl fp => pts_of (X := X.blk s H scope (compEnvC scope cl C X.env) fp) (T := T) (cf := cf) h12 fun q hq => hT cc q (X.blk s H scope (compEnvC scope cl C X.env) fp) noW cf k (c.blk s H scope _ fp) hq)
      (fun s H C cl fp => hE e elt (X.blk s H scope (compEnvC scope cl C X.env) fp) noW cf k (c.blk s H scope _ fp) h13) (noset_of h5) (fun env x => noset_of h10 x)
    rw [ownP_snd] at r
    exact peImp r fun σ H Q hh => comp2_read h4 h9 hh
  | rng _ => simp [chkE] at h
  | zip _ _ => simp [chkE] at h
  | enm _ => simp [chkE] at h
  | xf _ => simp [chkE] at h
  | xi _ => simp [chkE] at h
  | bad => simp [chkE] at h
theorem snd_all (T : Text) : ∀ n, SndE T n ∧ SndT T n ∧ SndL T n ∧ SndI T n
  | 0 => ⟨fun _ _ _ _ _ _ _ h => by simp [chkE] at h, fun _ _ _ _ _ _ _ h => by simp [chkT] at h, fun _ _ _ _ _ _ _ h => by simp [chkL] at h, fun _ _ _ _ _ _ _ _ h => by simp [chkI] at h⟩
  | n + 1 => by
    obtain ⟨h1, h2, h3, h4⟩ := snd_all T n
    exact ⟨sndE_succ h1 h2 h3 h4, sndT_succ h1 h2, sndL_succ h1 h3, sndI_succ h1 h3⟩
end GS
/-! G: what the checker passes is sound: statements. -/
namespace GS
open PySem PySem.Spec PyProof.Rows L2 G ClX
theorem sw_of {X : Cx} {x : Str} {px pos' : Pos} {scope : Scope} {l : Nat} (hk : X.env.scope.kind = .function) (h1 : X.env.scope.names.lookup x = some .local) (h2 : lineB px pos' = true) (h3 : (!(capB x scope)) = true) {elt : Expr} {gs : List Comprehension} :
    swapsWith (.ListComp elt gs scope pos') (some (.Name x px)) l X.env = pure true :=
  sw_true hk h1 h2 (by
    have e : capB x scope = false := by simpa using h3
    exact e)
theorem sw_no {X : Cx} {x : Str} {px : Pos} {p : Expr} (hk : X.env.scope.kind = .function) (h : nswB X.env.scope x px p = true) (l : Nat) : swapsWith p (some (.Name x px)) l X.env = pure false := by
  unfold nswB at h
  split at h
  case h_2 => cases h
  case h_1 elt gs scope pos' =>
  have hb : X.env.blockKind = .function := by unfold Env.blockKind; rw [hk]; rfl
  have e : (X.env.kindOf x == some .local && px.line == (Expr.ListComp elt gs scope pos').pos.line && !(scope.names.any fun (n, k) => n == x && (k == .local || k == .cell))) = false := by
    have h2 : (decide (X.env.scope.names.lookup x = some .local) && (lineB px pos' && !(capB x scope))) = false := by simpa only [Bool.not_eq_true'] using h
    have h3 : (X.env.kindOf x == some .local) = decide (X.env.scope.names.lookup x = some .local) := by
      show (X.env.scope.names.lookup x == some .local) = _
      by_cases q : X.env.scope.names.lookup x = some .local
      · rw [q]; rfl
      · rw [decide_eq_false q]
        exact beq_eq_false_iff_ne.mpr q
    rw [h3, Bool.and_assoc]
    exact h2
  unfold swapsWith
  simp only [hb]
  show (pure ((true && X.env.kindOf x == some .local) && _ && _) : Sem Bool) = _
  rw [Bool.true_and]
  exact congrArg pure e
/-- a name is given a comprehension, on one line -/
theorem set_lc {T : Text} {n : Nat} {X : Cx} {W : WX} {cf : Cfg} {k : Nat} (c : Cs T X W cf k) (hk : X.env.scope.kind = .function) {e : E} {i : Nat} {x : Str} {px pos : Pos} {elt : Expr} {gs : List Comprehension} {scope : Scope} {pos' : Pos} (hn : nameB (fun _ => true) X.N X.env.scope i x = true)
    (h : chkE T.nm T.P n e (.ListComp elt gs scope pos') X.N X.env.scope = true) (h1 : X.env.scope.names.lookup x = some .local) (h2 : lineB px pos' = true) (h3 : (!(capB x scope)) = true) :
    ∃ te, (∀ σ H Q, tE T X W cf e σ H Q → te σ H Q) ∧ PS X (.Assign [.Name x px] (.ListComp elt gs scope pos') pos) (tAsg te (gName i)) := by
  obtain ⟨n1, n2, n3⟩ := name_of (X := X) (fun x _ => c.fnA x) hn
  cases n with
  | zero => simp [chkE] at h
  | succ n =>
  obtain ⟨hE, hT, hL, hI⟩ := snd_all T n
  cases e with
  | comp own t src cc e =>
    simp only [chkE] at h
    split at h
    case h_2 => cases h
    case h_1 elt' tg iter ifs as scope' pos2 heq =>
    cases heq
    simp only [Bool.and_eq_true, decide_eq_true_eq] at h
    obtain ⟨rfl, g1, g2, g3, g4, g5, g6, g7⟩ := h
    have r := ps_setLc (elt := elt) (ifs := ifs) (te := tE T X noW cf e) (tt := tT T X noW cf cc) (g := gT X.K t) (own := ownP X.N own) (pos := pos') (spos := pos) (py := px) c.calm c.nd n1 h1 (sw_of hk h1 h2 h3) (hI src iter tg X W cf k c.toCc g5) (blkOk_by g1)
      (fun s H C cl fp => pg_of (X := X.blk s H scope (compEnvC scope cl C X.env) fp) (t := t) (fnB := fun x => memB x scope) c.nd c.calm (fun x z => z) g2)
      (fun s H C cl fp => pts_of (X := X.blk s H scope (compEnvC scope cl C X.env) fp) (T := T) (cf := cf) g6 fun q hq => hT cc q (X.blk s H scope (compEnvC scope cl C X.env) fp) noW cf k (c.toCc.blk s H scope _ fp) hq)
      (fun s H C cl fp => hE e elt (X.blk s H scope (compEnvC scope cl C X.env) fp) noW cf k (c.toCc.blk s H scope _ fp) g7) (noset_of g4)
    rw [ownP_snd] at r
    exact ⟨_, fun σ H Q hh => comp_read g3 hh, r⟩
  | comp2 own t src own1 t1 src1 cc e =>
    simp only [chkE] at h
    split at h
    case h_2 => cases h
    case h_1 elt' tg iter ifs as tg1 iter1 ifs1 as1 scope' pos2 heq =>
    cases heq
    simp only [Bool.and_eq_true, decide_eq_true_eq] at h
    obtain ⟨rfl, rfl, g1, g2, g3, g4, g5, g6, g7, g8, g9, g10, g11, g12, g13⟩ := h
    have hnil : ifs = [] := by
      cases ifs with
      | nil => rfl
      | cons _ _ => cases g7
    subst hnil
    have hv : ∀ i ∈ own1, i ∈ (ownP X.N own).map (·.2) := fun i hi => by
      rw [ownP_snd]
      exact of_decide_eq_true (List.all_eq_true.mp g2 i hi)
    have r := ps_setLc2 (elt := elt) (ifs := []) (ifs1 := ifs1) (te := tE T X noW cf e) (tt := tYes) (tt1 := tT T X noW cf cc) (g := gT X.K t) (g1 := gT X.K t1) (wi1 := tI T X noW cf src1) (own := ownP X.N own) (vs1 := own1) (pos := pos') (spos := pos) (py := px)
      c.calm c.nd n1 h1 (sw_of hk h1 h2 h3) (hI src iter tg X W cf k c.toCc g6) (blkOk_by g1) hv (fun s H C cl fp => pg_of (X := X.blk s H scope (compEnvC scope cl C X.env) fp) (t := t) (fnB := fun x => memB x scope) c.nd c.calm (fun x z => z) g3)
      (fun _ _ _ _ _ => pts_nil) (fun s H C cl fp => hI src1 iter1 tg1 (X.blk s H scope (compEnvC scope cl C X.env) fp) noW cf k (c.toCc.blk s H scope _ fp) g11)
      (fun s H C cl fp => pg_of (X := X.blk s H scope (compEnvC scope cl C X.env) fp) (t := t1) (fnB := fun x => memB x scope) c.nd c.calm (fun x z => z) g8)
      (fun s H C cl fp => pts_of (X := X.blk s H scope (compEnvC scope cl C X.env) fp) (T := T) (cf := cf) g12 fun q hq => hT cc q (X.blk s H scope (compEnvC scope cl C X.env) fp) noW cf k (c.toCc.blk s H scope _ fp) hq)
      (fun s H C cl fp => hE e elt (X.blk s H scope (compEnvC scope cl C X.env) fp) noW cf k (c.toCc.blk s H scope _ fp) g13) (noset_of g5) (fun env x => noset_of g10 x)
    rw [ownP_snd] at r
    exact ⟨_, fun σ H Q hh => comp2_read g4 g9 hh, r⟩
  | _ => simp [chkE] at h
theorem asg_any {T : Text} {n : Nat} {X : Cx} {W : WX} {cf : Cfg} {k : Nat} (c : Cs T X W cf k) (hk : X.env.scope.kind = .function) {e : E} {i : Nat} {x : Str} {px pos : Pos} {p : Expr} (hn : nameB (fun _ => true) X.N X.env.scope i x = true)
    (h : chkE T.nm T.P n e p X.N X.env.scope = true) (h2 : (nocomp p || (nswB X.env.scope x px p || lcB X.env.scope x px p)) = true) : PS X (.Assign [.Name x px] p pos) (tS T X W cf (.asg (.nm i) e)) ∧ PS X (.Assign [.Name x px] p pos) (tS T X W cf (.own i e)) := by
  by_cases hc : nocomp p = true
  · have he := (snd_all T n).1 e p X W cf k c.toCc h
    exact ⟨s_asgN c hn (swaps_no hc _ _ _) he, s_ownN c hn (swaps_no hc _ _ _) he⟩
  rw [Bool.eq_false_iff.mpr hc, Bool.false_or] at h2
  by_cases hw : nswB X.env.scope x px p = true
  · have he := (snd_all T n).1 e p X W cf k c.toCc h
    have hs := sw_no (X := X) hk hw pos.line
    exact ⟨s_asgN c hn hs he, s_ownN c hn hs he⟩
  · rw [Bool.eq_false_iff.mpr hw, Bool.false_or] at h2
    unfold lcB at h2
    split at h2
    case h_2 => cases h2
    case h_1 elt gs scope pos' =>
    simp only [Bool.and_eq_true, decide_eq_true_eq] at h2
    obtain ⟨te, r1, r2⟩ := set_lc (pos := pos) c hk hn h h2.1 h2.2.1 h2.2.2
    exact ⟨psImp r2 fun De σ H q => asg_read (fun Q z => r1 σ H Q z) q, psImp r2 fun De σ H q => own_read (fun Q z => r1 σ H Q z) q⟩
theorem s_ssbad {T : Text} {X : Cx} {W : WX} {cf : Cfg} {ss : List Sm} {sts : List Stmt} : PSs X sts (tSs T X W cf (.bad :: ss)) := pssImp pss_never fun De σ H ⟨Z, env, ρ, S, so, ev, h⟩ => by
  rw [exSs, exS] at h
  exact h
theorem snd_ss (T : Text) : ∀ (n : Nat) (ss : List Sm) (sts : List Stmt) (X : Cx) (W : WX) (cf : Cfg) (k : Nat), Cs T X W cf k → X.env.scope.kind = .function → chkSs T.nm T.P n ss sts X.N X.env.scope = true → PSs X sts (tSs T X W cf ss)
  | 0, _, _, _, _, _, _, _, _, h => by simp [chkSs] at h
  | n + 1, ss, sts, X, W, cf, k, c, hk, h => by
    obtain ⟨hE, hT, hL, hI⟩ := snd_all T n
    have ih := snd_ss T n
    cases ss with
    | nil =>
      cases sts with
      | nil => exact s_ssnil
      | cons _ _ => simp [chkSs] at h
    | cons s ss =>
      by_cases hf : ∃ i, s = .frz i
      · obtain ⟨i, rfl⟩ := hf
        simp only [chkSs] at h
        exact s_frz (ih ss sts X W cf k c hk h)
      by_cases hb : s = .bad
      · subst hb
        exact s_ssbad
      cases sts with
      | nil =>
        cases s <;> first | exact (hf ⟨_, rfl⟩).elim | exact (hb rfl).elim | (simp [chkSs] at h)
      | cons st sts =>
      suffices hs : chkSs T.nm T.P n ss sts X.N X.env.scope = true ∧ PS X st (tS T X W cf s) from s_sscons hs.2 (ih ss sts X W cf k c hk hs.1)
      cases s with
      | frz i => exact (hf ⟨i, rfl⟩).elim
      | bad => exact (hb rfl).elim
      | asg t e =>
        cases t with
        | nm i =>
          simp only [chkSs] at h
          rw [Bool.and_eq_true] at h
          obtain ⟨h0, h⟩ := h
          refine ⟨h0, ?_⟩
          split at h
          case h_2 => cases h
          case h_1 x px p pos =>
          rw [Bool.and_eq_true, Bool.and_eq_true] at h
          exact (asg_any c hk h.1 h.2.1 h.2.2).1
        | tp is =>
          simp only [chkSs] at h
          rw [Bool.and_eq_true] at h
          obtain ⟨h0, h⟩ := h
          refine ⟨h0, ?_⟩
          split at h
          case h_2 => cases h
          case h_1 =>
          rw [Bool.and_eq_true, Bool.and_eq_true] at h
          exact s_asgT c h.1 h.2.1 (hE _ _ X W cf k c.toCc h.2.2)
      | own i e =>
        simp only [chkSs] at h
        rw [Bool.and_eq_true] at h
        obtain ⟨h0, h⟩ := h
        refine ⟨h0, ?_⟩
        split at h
        case h_2 => cases h
        case h_1 x px p pos =>
        rw [Bool.and_eq_true, Bool.and_eq_true] at h
        exact (asg_any c hk h.1 h.2.1 h.2.2).2
      | sub o i e =>
        simp only [chkSs] at h
        rw [Bool.and_eq_true] at h
        obtain ⟨h0, h⟩ := h
        refine ⟨h0, ?_⟩
        split at h
        case h_2 => cases h
        case h_1 =>
        simp only [Bool.and_eq_true] at h
        exact s_sub (hE _ _ X W cf k c.toCc h.2.1) (hE _ _ X W cf k c.toCc h.2.2.1) (hE _ _ X W cf k c.toCc h.2.2.2) h.1
      | fld o f e =>
        simp only [chkSs] at h
        rw [Bool.and_eq_true] at h
        obtain ⟨h0, h⟩ := h
        refine ⟨h0, ?_⟩
        split at h
        case h_2 => cases h
        case h_1 =>
        simp only [Bool.and_eq_true, decide_eq_true_eq] at h
        exact s_fldS c h.1 h.2.1 (hE _ _ X W cf k c.toCc h.2.2.1) (hE _ _ X W cf k c.toCc h.2.2.2)
      | aug i o e =>
        simp only [chkSs] at h
        rw [Bool.and_eq_true] at h
        obtain ⟨h0, h⟩ := h
        refine ⟨h0, ?_⟩
        split at h
        case h_2 => cases h
        case h_1 =>
        simp only [Bool.and_eq_true, decide_eq_true_eq] at h
        obtain ⟨h1, rfl, h2, h3⟩ := h
        exact s_aug c h1 h2 (hE _ _ X W cf k c.toCc h3)
      | augS o i op e =>
        simp only [chkSs] at h
        rw [Bool.and_eq_true] at h
        obtain ⟨h0, h⟩ := h
        refine ⟨h0, ?_⟩
        split at h
        case h_2 => cases h
        case h_1 =>
        simp only [Bool.and_eq_true, decide_eq_true_eq] at h
        obtain ⟨h1, rfl, h2, h3, h4, h5⟩ := h
        exact s_augS h1 (hE _ _ X W cf k c.toCc h3) (hE _ _ X W cf k c.toCc h4) (hE _ _ X W cf k c.toCc h5) h2
      | ex e =>
        simp only [chkSs] at h
        rw [Bool.and_eq_true] at h
        obtain ⟨h0, h⟩ := h
        refine ⟨h0, ?_⟩
        split at h
        case h_2 => cases h
        case h_1 =>
        rw [Bool.and_eq_true] at h
        exact s_ex (hE _ _ X W cf k c.toCc h.2) h.1
      | ite cc a b =>
        simp only [chkSs] at h
        rw [Bool.and_eq_true] at h
        obtain ⟨h0, h⟩ := h
        refine ⟨h0, ?_⟩
        split at h
        case h_2 => cases h
        case h_1 =>
        rw [Bool.and_eq_true, Bool.and_eq_true] at h
        exact s_ite (hT _ _ X W cf k c.toCc h.1) (ih _ _ X W cf k c hk h.2.1) (ih _ _ X W cf k c hk h.2.2)
      | for_ t src body =>
        simp only [chkSs] at h
        rw [Bool.and_eq_true] at h
        obtain ⟨h0, h⟩ := h
        refine ⟨h0, ?_⟩
        split at h
        case h_2 => cases h
        case h_1 =>
        simp only [Bool.and_eq_true] at h
        exact s_for c h.1 (noset_of h.2.1) (hI _ _ _ X W cf k c.toCc h.2.2.1) (ih _ _ X W cf k c hk h.2.2.2)
      | whl cc body =>
        simp only [chkSs] at h
        rw [Bool.and_eq_true] at h
        obtain ⟨h0, h⟩ := h
        refine ⟨h0, ?_⟩
        split at h
        case h_2 => cases h
        case h_1 =>
        rw [Bool.and_eq_true] at h
        exact s_whl c (hT _ _ X W cf k c.toCc h.1) (ih _ _ X W cf k c hk h.2)
      | ret e =>
        simp only [chkSs] at h
        rw [Bool.and_eq_true] at h
        obtain ⟨h0, h⟩ := h
        refine ⟨h0, ?_⟩
        split at h
        case h_2 => cases h
        case h_1 => exact s_ret (hE _ _ X W cf k c.toCc h)
      | retn =>
        simp only [chkSs] at h
        rw [Bool.and_eq_true] at h
        obtain ⟨h0, h⟩ := h
        refine ⟨h0, ?_⟩
        split at h
        case h_2 => cases h
        case h_1 => exact s_retn
      | bk =>
        simp only [chkSs] at h
        rw [Bool.and_eq_true] at h
        obtain ⟨h0, h⟩ := h
        refine ⟨h0, ?_⟩
        split at h
        case h_2 => cases h
        case h_1 => exact s_bk
      | ct =>
        simp only [chkSs] at h
        rw [Bool.and_eq_true] at h
        obtain ⟨h0, h⟩ := h
        refine ⟨h0, ?_⟩
        split at h
        case h_2 => cases h
        case h_1 => exact s_ct
      | pass =>
        simp only [chkSs] at h
        rw [Bool.and_eq_true] at h
        obtain ⟨h0, h⟩ := h
        refine ⟨h0, ?_⟩
        split at h
        case h_2 => cases h
        case h_1 => exact s_pass
      | rse cc es =>
        simp only [chkSs] at h
        rw [Bool.and_eq_true] at h
        obtain ⟨h0, h⟩ := h
        refine ⟨h0, ?_⟩
        split at h
        case h_2 => cases h
        case h_1 =>
        simp only [Bool.and_eq_true, decide_eq_true_eq] at h
        obtain ⟨ns, hx⟩ := Option.isSome_iff_exists.mp h.1
        exact s_rse c c.lv hx h.2.1 h.2.2.1 h.2.2.2.1 (Nat.le_of_ble_eq_true h.2.2.2.2.1) (hL _ _ X W cf k c.toCc h.2.2.2.2.2)
      | tr body hs =>
        simp only [chkSs] at h
        rw [Bool.and_eq_true] at h
        obtain ⟨h0, h⟩ := h
        refine ⟨h0, ?_⟩
        split at h
        case h_2 => cases h
        case h_1 =>
        rw [Bool.and_eq_true] at h
        exact s_try c (fun W1 pn xe c1 => ih _ _ (X.tr pn xe) W1 cf k c1 hk h.1) h.2
      | cl _ _ _ => simp [chkSs] at h
end GS
/-! G: defs. -/
namespace GS
open PySem PySem.Spec PyProof.Rows L2 G ClX
section
variable {t : Tx} {K : PySem.W.Frag} {Z : Addr → Prop} {ρ e : List Addr} {S S' : Sto} {H H' : Hp} {l : Nat} {p : Addr} {c : Ce}
/-- of the later cells one alone is kept -/
theorem StoOk.pick (h : StoOk t K Z (ρ ++ e) H S') (hl : ρ.length = S.length) (hlt : S.length ≤ l) (ep : (ρ ++ e)[l]? = some p) (ec : S'[l]? = some c) : StoOk t K Z (ρ ++ [p]) H (S'.take S.length ++ [c]) := by
  have hL := h.len
  rw [List.length_append] at hL
  have hk : (S'.take S.length).length = S.length := by rw [List.length_take]; omega
  have hp : p ∉ ρ := fun m => by
    obtain ⟨j, hj⟩ := List.getElem?_of_mem m
    have hj1 : j < ρ.length := (List.getElem?_eq_some_iff.mp hj).1
    have : j = l := nd_ix h.nd (by rw [List.getElem?_append_left hj1]; exact hj) ep
    omega
  have sb : ∀ q, Live Z (ρ ++ [p]) (S'.take S.length ++ [c]) q → Live Z (ρ ++ e) S' q := fun q w => by
    rcases w with w | ⟨j, d, x, y, z⟩
    · exact .inl w
    · by_cases hj : j < ρ.length
      · rw [List.getElem?_append_left hj] at x
        rw [List.getElem?_append_left (by omega), List.getElem?_take_of_lt (by omega)] at y
        exact .inr ⟨j, d, by rw [List.getElem?_append_left hj]; exact x, y, z⟩
      · rw [List.getElem?_append_right (by omega)] at x y
        have e1 : q ∈ [p] := List.mem_of_getElem? x
        have e2 : d ∈ [c] := List.mem_of_getElem? y
        simp at e1 e2
        subst e1; subst e2
        exact .inr ⟨l, d, ep, ec, z⟩
  have sb' : Sub (Live Z (ρ ++ [p]) (S'.take S.length ++ [c])) (Live Z (ρ ++ e) S') H := fun q w => .inl (sb q w)
  have up : ∀ {d : Ce} {q : Addr}, CellOk t K (Live Z (ρ ++ e) S') H d q → CellOk t K (Live Z (ρ ++ [p]) (S'.take S.length ++ [c])) H d q := fun {d q} z => by
    cases d with
    | lst xs => obtain ⟨vs, e, r⟩ := z; exact ⟨vs, e, r.mono (.refl _ _) sb'⟩
    | ins k fs => obtain ⟨dx, fvs, e, r⟩ := z; exact ⟨dx, fvs, e, r.mono (.refl _ _) sb'⟩
    | dead => exact z
  refine ⟨by simp [hl, hk], ?_, fun j d q x y => ?_, fun q z => ⟨(h.hid q z).1, ?_⟩⟩
  · exact List.nodup_append.mpr ⟨(List.nodup_append.mp h.nd).1, by simp, fun a ha b hb => by
      have e : b = p := by simpa using hb
      subst e
      intro z
      exact hp (z ▸ ha)⟩
  · by_cases hj : j < ρ.length
    · rw [List.getElem?_append_left hj] at y
      rw [List.getElem?_append_left (by omega), List.getElem?_take_of_lt (by omega)] at x
      exact up (h.ok j d q x (by rw [List.getElem?_append_left hj]; exact y))
    · rw [List.getElem?_append_right (by omega)] at x y
      have e1 : q ∈ [p] := List.mem_of_getElem? y
      have e2 : d ∈ [c] := List.mem_of_getElem? x
      simp at e1 e2
      subst e1; subst e2
      exact up (h.ok l d q ec ep)
  · have n := (h.hid q z).2
    have h1 : q ∉ ρ := fun m => n (List.mem_append_left _ m)
    have h2 : q ≠ p := fun e => n (by rw [e]; exact List.mem_of_getElem? ep)
    simp [h1, h2]
end
section
variable {T : Text} {X : Cx} {Z : Addr → Prop} {ρ : List Addr} {S : Sto} {H : Hp} {Q : VK} {Ex : XK}
/-- a body's end is the def's -/
theorem fin_ok {r : RS} (so : StoOk T.toTx X.K Z ρ H S) (h : PE3 T X.K (fin S.length r) Z ρ S H Q Ex) : PS3 T X r Z ρ S H { nx := fun _ H' => Q .non H', rt := Q } (fun c d _ H' => Ex c d H') := by
  have hl := so.len
  cases r with
  | bad => exact h
  | ex c fs env' S' =>
    intro ρ1 S1 H1 σ1 e1 ev d H' e2 ed
    obtain ⟨ee, rfl⟩ := e1.pre
    exact h d H' (Ext.take hl (e1.trans e2)) (ExcD.take hl ed)
  | ok o env' S' =>
    cases o with
    | nx =>
      intro ρ' σ' H' e ev
      obtain ⟨ee, rfl⟩ := e.pre
      exact h .non H' (Ext.take hl e) .non
    | bk => exact h.elim
    | ct => exact h.elim
    | rt v =>
      intro ρ1 S1 H1 e1
      obtain ⟨ee, rfl⟩ := e1.pre
      cases v with
      | d x =>
        intro y H' e2 rel
        exact h y H' (Ext.take hl (e1.trans e2)) (Rel.mono rel (.refl _ _) (take_sub hl))
      | r l =>
        intro y H' e2 rel
        obtain ⟨p, ep, rfl⟩ := rel
        have h' : PE3 T X.K (if l < S.length then .ok (.r l) (S'.take S.length) else (match S'[l]? with | some .dead => .bad | some c => .ok (.f c) (S'.take S.length) | none => .bad)) Z ρ S H Q Ex := h
        have e3 := e1.trans e2
        by_cases hlt : l < S.length
        · rw [if_pos hlt] at h'
          refine h' (.ref p) H' (Ext.take hl e3) ⟨p, ?_, rfl⟩
          rw [List.getElem?_append_left (by omega)] at ep
          exact ep
        · rw [if_neg hlt] at h'
          have lq : ∀ c, S'[l]? = some c → Ce.live c = true → PE3 T X.K (.ok (.f c) (S'.take S.length)) Z ρ S H Q Ex → Q (.ref p) H' := fun c ec lv hq => by
            have np : H p = none := by
              rcases e3.sub p (.inr ⟨l, c, ep, ec, lv⟩) with w | w
              · rcases w with w | ⟨j, d, x, y, z⟩
                · exact ((e3.sto.hid p w).2 (List.mem_of_getElem? ep)).elim
                · have hj : j < ρ.length := (List.getElem?_eq_some_iff.mp x).1
                  have : j = l := nd_ix e3.sto.nd (by rw [List.getElem?_append_left hj]; exact x) ep
                  omega
              · exact w
            exact hq p H' np e3.stay (Ext.take hl e3).sub e3.hid (StoOk.pick e3.sto hl (by omega) ep ec)
          cases ec : S'[l]? with
          | none => rw [ec] at h'; exact h'.elim
          | some c =>
            rw [ec] at h'
            cases c with
            | dead => exact h'.elim
            | lst xs => exact lq _ ec rfl h'
            | ins k fs => exact lq _ ec rfl h'
      | f c =>
        intro p H' n st su hi so'
        have h' : PE3 T X.K (.ok (.f c) (S'.take S.length)) Z ρ S H Q Ex := h
        have so1 := e1.sto
        have hL1 := so1.len
        have hL' := so'.len
        simp only [List.length_append, List.length_cons, List.length_nil] at hL' hL1
        have np : H p = none := by
          cases w : H p with
          | none => rfl
          | some o =>
            by_cases hp : Live Z ρ S p
            · have : Live Z (ρ ++ ee) S1 p ∨ True := .inr trivial
              rcases hp with hz | ⟨j, d, x, y, z⟩
              · obtain ⟨u, hu⟩ := (so1.hid p hz).1
                rw [n] at hu; cases hu
              · obtain ⟨u, hu⟩ := so1.any_ (e1.get x)
                rw [n] at hu; cases hu
            · have := e1.stay p o w hp
              rw [n] at this; cases this
        have sb : Sub (Live Z ρ (S'.take S.length)) (Live Z ρ S) H := fun q w => by
          have : Live Z (ρ ++ ee) S' q := live_take hl q w
          exact sub_step e1.stay e1.sub su q this
        have hS : S'.take S.length = (S' ++ [c]).take S.length := by rw [List.take_append_of_le_length (by omega)]
        have ee' : ρ ++ ee ++ [p] = ρ ++ (ee ++ [p]) := by rw [List.append_assoc]
        rw [ee'] at so'
        refine h' p H' np (stay_step e1.stay e1.sub st) sb (fun q z => (hi q z).trans (e1.hid q z)) ?_
        rw [hS]
        refine StoOk.pick (l := S'.length) so' hl (by omega) ?_ (by simp)
        rw [← ee', List.getElem?_append_right (by simp only [List.length_append]; omega)]
        simp only [List.length_append]
        have : S'.length - (ρ.length + ee.length) = 0 := by omega
        rw [this]
        rfl
end
theorem start_ok {T : Text} {K : PySem.W.Frag} {Z : Addr → Prop} {ρ : List Addr} {S : Sto} {H : Hp} {fn : Fn} {N : List Str} {ds : List Va} {vs : List V} (rs : RelWs T.toTx K Z ρ S H ds vs) (hn : fn.nl = N.length) : EnvOk T.toTx K Z ρ S H (env0 fn ds) (start N vs) := by
  have hl := rs.length
  refine ⟨by simp [env0, L2.start, hl, hn], fun i a e => ?_⟩
  unfold env0 at e
  unfold L2.start
  by_cases hi : i < ds.length
  · rw [List.getElem?_append_left (by simpa using hi), List.getElem?_map] at e
    rw [List.getElem?_append_left (by simpa [← hl] using hi), List.getElem?_map]
    have hi2 : i < vs.length := by omega
    rw [List.getElem?_eq_getElem hi] at e
    simp only [Option.map_some, Option.some.injEq] at e
    rw [List.getElem?_eq_getElem hi2]
    refine ⟨vs[i], rfl, ?_⟩
    have : ∀ {as : List Va} {ws : List V} (i : Nat) (a : Va) (w : V), RelWs T.toTx K Z ρ S H as ws → as[i]? = some a → ws[i]? = some w → RelW T.toTx K Z ρ S H a w := by
      intro as
      induction as with
      | nil => intro ws i a w _ e _; simp at e
      | cons x xs ih =>
        intro ws i a w r e1 e2
        cases ws with
        | nil => exact r.elim
        | cons y ys =>
          cases i with
          | zero => simp at e1 e2; subst e1; subst e2; exact r.1
          | succ i => exact ih i a w r.2 (by simpa using e1) (by simpa using e2)
    exact this i a vs[i] rs (by rw [List.getElem?_eq_getElem hi, e]) (List.getElem?_eq_getElem hi2)
  · rw [List.getElem?_append_right (by simpa using hi)] at e
    have := List.mem_of_getElem? e
    simp at this
/-- a def of the text, checked -/
structure DefOk (T : Text) (K : PySem.W.Frag) (f : Nat) (fn : Fn) : Prop where
  ex : ∃ x qual st fd N ps fuel, Fun K x qual st (T.fa f) fd ∧ FnScope N ps (defScope st) ∧ Binds K fd ps [] ∧ fn.np = ps.length ∧ fn.nl = N.length ∧ chkSs T.nm T.P fuel fn.body (defBody st) N (defScope st) = true
/-- one def, the others given -/
theorem def_fnok {T : Text} {P : Program} {w : World} {K : PySem.W.Frag} {mg : Str → Option Value} {base : Heap} {tab : Nat → Option Fn} (fx : Fx T K mg) (n f : Nat) (ih : ∀ g, FnR P w K mg base (L2.CX P w) (2 * n + 1) (T.fa g) (spC T K (G.run T.P tab n) g))
    {fn : Fn} {x qual : Str} {st : Stmt} {fd : FuncData} {N ps : List Str} {fuel : Nat} (ht : tab f = some fn) (F : Fun K x qual st (T.fa f) fd) (Sc : FnScope N ps (defScope st)) (h1 : fn.np = ps.length) (h2 : fn.nl = N.length) (hc : chkSs T.nm T.P fuel fn.body (defBody st) N (defScope st) = true) :
    FnOk P w K mg base (L2.CX P w) ((2 * n + 2) + 1) (T.fa f) fd ps (spC T K (G.run T.P tab (n + 1)) f) := by
  have len : ∀ vs H Q E, spC T K (G.run T.P tab (n + 1)) f vs H Q E → vs.length = ps.length := fun vs H Q E ⟨Z, ρ, S, ds, so, rs, h⟩ => by
    unfold G.run at h
    rw [ht] at h
    simp only at h
    split at h
    · rename_i e; rw [← rs.length, e, h1]
    · exact h.elim
  refine F.okX Sc len fun cdv A outer s H vs Q E hr hsp => ?_
  obtain ⟨Z, ρ, S, ds, so, rs, h⟩ := hsp
  unfold G.run at h
  rw [ht] at h
  simp only at h
  split at h
  case isFalse => exact h.elim
  case isTrue hd =>
  have cs : Cs T (cxOf (L2.CX P w) P w K mg base N qual (defScope st) (T.fa f) cdv A outer s H E) (fun c d _ H' => E c d H') ⟨T.P, G.run T.P tab n, none⟩ (2 * n + 1) :=
    { P := rfl, nd := Sc.nd, calm := rfl, tk := takes_of rfl rfl rfl rfl, xc := rfl, room := hr, fx := fx, fn := fun g _ => ih g, po := passes_of rfl, fnA := fun _ => rfl, lv := by omega, stk := rfl, frm := rfl }
  refine ⟨_, snd_ss T fuel fn.body (defBody st) _ _ _ (2 * n + 1) cs Sc.kind hc, Z, env0 fn ds, ρ, S, so, start_ok rs h2, ?_⟩
  exact fin_ok so h
/-- all defs keep what their runs give -/
theorem defs_ok {T : Text} {P : Program} {w : World} {K : PySem.W.Frag} {mg : Str → Option Value} {base : Heap} {tab : Nat → Option Fn} (fx : Fx T K mg) (dk : ∀ f fn, tab f = some fn → DefOk T K f fn) :
    ∀ (n f : Nat), FnR P w K mg base (L2.CX P w) (2 * n + 1) (T.fa f) (spC T K (G.run T.P tab n) f)
  | 0, f => fun A outer s H us vs Q E hr e0 r hs => by
    obtain ⟨Z, ρ, S, ds, so, rs, h⟩ := hs
    exact h.elim
  | n + 1, f => by
    cases ht : tab f with
    | none =>
      intro A outer s H us vs Q E hr e0 r hs
      obtain ⟨Z, ρ, S, ds, so, rs, h⟩ := hs
      unfold G.run at h
      rw [ht] at h
      exact h.elim
    | some fn =>
      obtain ⟨x, qual, st, fd, N, ps, fuel, F, Sc, hb, h1, h2, hc⟩ := (dk f fn ht).ex
      have FR := (def_fnok (P := P) (w := w) (base := base) fx n f (fun g => defs_ok fx dk n g) ht F Sc h1 h2 hc).raw (dvs := []) (ds := []) hb .nil
      have e : 2 * (n + 1) + 1 = (2 * n + 2) + 1 := by omega
      rw [e]
      exact FR.imp fun vs H Q E q => by rw [List.append_nil]; exact q
end GS
/-! G: the text as a table; what the head must tell, as one Bool. -/
namespace GS
open PySem PySem.Spec PyProof.Rows L2 G ClX
section
variable (t : Tb)
def Tb.text (K : PySem.W.Frag) : Text := { ca := t.ca K, nm := t.nms, P := t.prg, fa := t.fa K }
def Tb.tab : Nat → Option Fn := mkTab (t.fns.map Row.fn)
/-- what needs no heap -/
def Tb.wf : Bool := decide t.flds.Nodup && ((t.flds.all fun x => decide (x.cps.size < 100)) && ((t.fns.all fun r => match r.wh with
    | .me _ m => decide (m.cps.size < 100) && !t.flds.contains m
    | _ => true) && ((t.cls.zipIdx.all fun q => match q.1.2 with
    | some f => (match t.whAt f with
      | some (.me c m) => decide (c = q.2) && decide (m = "__init__")
      | _ => false)
    | none => true) && ((t.opm.all fun q => Nat.blt q.1 t.cls.length && (match t.whAt q.2.2, opName q.2.1 with
    | some (.me c m), some x => decide (c = q.1) && decide (m = x)
    | _, _ => false)) && (t.con.all fun q => isCon q.2)))))
/-- .. without the heap -/
def Tb.wf2 : Bool := t.xcs.zipIdx.all fun q => q.1.fs.isEmpty || (decide q.1.fs.Nodup && (Nat.ble q.1.fs.length 900 && (match q.1.ini with
    | some f => (match t.fns[f]? with
      | some r => (match r.wh with
        | .me c m => decide (c = t.cls.length + q.2) && (decide (m = "__init__") && (decide (r.ps.length = q.1.fs.length + 1) && GX.iniB r.N (defScope r.st) 1 (q.1.fs.map (nmAt t.flds)) (defBody r.st)))
        | _ => false)
      | none => false)
    | none => false)))
end
theorem nmAt_lt {l : List Str} {i : Nat} (h : i < l.length) : nmAt l i = l[i] := by unfold nmAt; rw [List.getElem?_eq_getElem h]; rfl
theorem nmAt_ge {l : List Str} {i : Nat} (h : l.length ≤ i) : nmAt l i = pad i := by unfold nmAt; rw [List.getElem?_eq_none h]; rfl
theorem pad_size (i : Nat) : (pad i).cps.size = i + 100 := by simp [pad]
theorem nmAt_inj {l : List Str} (nd : l.Nodup) (sm : ∀ x ∈ l, x.cps.size < 100) {i j : Nat} (e : nmAt l i = nmAt l j) : i = j := by
  by_cases hi : i < l.length
  · by_cases hj : j < l.length
    · rw [nmAt_lt hi, nmAt_lt hj] at e
      exact (List.getElem?_inj hi nd).mp (by rw [List.getElem?_eq_getElem hi, List.getElem?_eq_getElem hj, e])
    · rw [nmAt_lt hi, nmAt_ge (by omega)] at e
      have h1 := sm _ (List.getElem_mem hi)
      rw [e, pad_size] at h1
      omega
  · by_cases hj : j < l.length
    · rw [nmAt_ge (by omega), nmAt_lt hj] at e
      have h1 := sm _ (List.getElem_mem hj)
      rw [← e, pad_size] at h1
      omega
    · rw [nmAt_ge (by omega), nmAt_ge (by omega)] at e
      have := congrArg (fun s : Str => s.cps.size) e
      simp only [pad_size] at this
      omega
theorem nmAt_out {l : List Str} {m : Str} (h1 : m.cps.size < 100) (h2 : l.contains m = false) (i : Nat) : nmAt l i ≠ m := fun e => by
  by_cases hi : i < l.length
  · rw [nmAt_lt hi] at e
    have : m ∈ l := e ▸ List.getElem_mem hi
    rw [List.contains_iff_mem.mpr this] at h2
    cases h2
  · rw [nmAt_ge (by omega)] at e
    rw [← e, pad_size] at h1
    omega
section
variable {t : Tb} {K : PySem.W.Frag} {h : Heap} {mg : Str → Option Value}
theorem Tb.cn_lt {c : Nat} (hc : c < t.cls.length) : t.cn c = (t.cls[c]).1 := by
  unfold Tb.cn
  rw [nmAt_lt (by simp; omega), List.getElem_append_left (by simpa using hc), List.getElem_map]
theorem Tb.blt {a b : Nat} (h : Nat.blt a b = true) : a < b := Nat.le_of_ble_eq_true h
theorem Tb.cls_ (ex : t.ex K = true) {c : Nat} (hc : t.nms.okc c = true) : clsB t K (t.cn c) = true ∧ (∀ f, t.prg.ini c = some f → (He.Fa.mkr (t.cn c)).ok K = true) := by
  have hl := Tb.blt hc
  obtain ⟨_, h⟩ := He.ba ex
  obtain ⟨_, h⟩ := He.ba h
  obtain ⟨_, h⟩ := He.ba h
  obtain ⟨h, _⟩ := He.ba h
  obtain ⟨h1, h2⟩ := He.ba (List.all_eq_true.mp h _ (List.getElem_mem hl))
  rw [Tb.cn_lt hl]
  refine ⟨h1, fun f e => ?_⟩
  have e2 : (t.cls[c]).2 = some f := by
    have e3 : ((t.cls.map (·.2))[c]?).bind id = some f := e
    rw [List.getElem?_map, List.getElem?_eq_getElem hl] at e3
    exact e3
  rw [e2] at h2
  exact h2
theorem Tb.wh_ (ex : t.ex K = true) {f : Nat} {q : Wh} (e : t.whAt f = some q) : whB t K q = true := by
  obtain ⟨_, h⟩ := He.ba ex
  obtain ⟨_, h⟩ := He.ba h
  obtain ⟨h, _⟩ := He.ba h
  unfold Tb.whAt at e
  cases hr : t.fns[f]? with
  | none => rw [hr] at e; cases e
  | some r =>
    rw [hr] at e
    cases e
    exact List.all_eq_true.mp h r (List.mem_of_getElem? hr)
theorem Tb.fa_ {f : Nat} {q : Wh} (e : t.whAt f = some q) : t.fa K f = t.wa K q := by
  unfold Tb.fa
  rw [e]
theorem Wh.me_of {c : Nat} {q : Option Wh} (h : Wh.isMe c q = true) : ∃ m, q = some (.me c m) := by
  cases q with
  | none => cases h
  | some q =>
    cases q with
    | gl x => cases h
    | cm a m => cases h
    | me a m =>
      have : a = c := beq_iff_eq.mp (show (a == c) = true from h)
      subst this
      exact ⟨m, rfl⟩
theorem Wh.cm_of {c : Nat} {q : Option Wh} (h : Wh.isCm c q = true) : ∃ m, q = some (.cm c m) := by
  cases q with
  | none => cases h
  | some q =>
    cases q with
    | gl x => cases h
    | me a m => cases h
    | cm a m =>
      have : a = c := beq_iff_eq.mp (show (a == c) = true from h)
      subst this
      exact ⟨m, rfl⟩
theorem Tb.wfMe (wf : t.wf = true) {f c : Nat} {m : Str} (e : t.whAt f = some (.me c m)) : m.cps.size < 100 ∧ t.flds.contains m = false := by
  obtain ⟨_, h⟩ := He.ba wf
  obtain ⟨_, h⟩ := He.ba h
  obtain ⟨h, _⟩ := He.ba h
  unfold Tb.whAt at e
  cases hr : t.fns[f]? with
  | none => rw [hr] at e; cases e
  | some r =>
    rw [hr] at e
    have e2 : r.wh = .me c m := Option.some.inj e
    have h2 := List.all_eq_true.mp h r (List.mem_of_getElem? hr)
    rw [e2] at h2
    obtain ⟨h3, h4⟩ := He.ba h2
    exact ⟨of_decide_eq_true h3, by simpa using h4⟩
theorem Tb.wfIni (wf : t.wf = true) {c f : Nat} (e : t.prg.ini c = some f) : t.nms.okc c = true ∧ t.whAt f = some (.me c "__init__") := by
  obtain ⟨_, h⟩ := He.ba wf
  obtain ⟨_, h⟩ := He.ba h
  obtain ⟨_, h⟩ := He.ba h
  obtain ⟨h, _⟩ := He.ba h
  have e1 : ((t.cls.map (·.2))[c]?).bind id = some f := e
  rw [List.getElem?_map] at e1
  cases hr : t.cls[c]? with
  | none => rw [hr] at e1; cases e1
  | some r =>
    rw [hr] at e1
    have e2 : r.2 = some f := e1
    have hl := (List.getElem?_eq_some_iff.mp hr).1
    refine ⟨Nat.ble_eq_true_of_le hl, ?_⟩
    have hm : (r, c) ∈ t.cls.zipIdx := by
      rw [List.mem_zipIdx_iff_getElem?]
      exact hr
    have h2 := List.all_eq_true.mp h _ hm
    simp only [e2] at h2
    cases hw : t.whAt f with
    | none => rw [hw] at h2; cases h2
    | some q =>
      rw [hw] at h2
      cases q with
      | gl x => cases h2
      | cm a m => cases h2
      | me a m =>
        obtain ⟨h3, h4⟩ := He.ba h2
        rw [of_decide_eq_true h3, of_decide_eq_true h4]
theorem Tb.wfOp (wf : t.wf = true) {c o f : Nat} (e : t.prg.opm c o = some f) : (c, o, f) ∈ t.opm ∧ t.nms.okc c = true ∧ ∃ x, opName o = some x ∧ t.whAt f = some (.me c x) := by
  obtain ⟨_, h⟩ := He.ba wf
  obtain ⟨_, h⟩ := He.ba h
  obtain ⟨_, h⟩ := He.ba h
  obtain ⟨_, h⟩ := He.ba h
  obtain ⟨h, _⟩ := He.ba h
  have e1 : (t.opm.find? fun q => q.1 == c && q.2.1 == o).map (·.2.2) = some f := e
  cases hf : t.opm.find? fun q => q.1 == c && q.2.1 == o with
  | none => rw [hf] at e1; cases e1
  | some q =>
    rw [hf] at e1
    have e2 : q.2.2 = f := Option.some.inj e1
    have hm := List.mem_of_find?_eq_some hf
    have hp := List.find?_some hf
    obtain ⟨h1, h2⟩ := He.ba hp
    obtain ⟨qc, qo, qf⟩ := q
    have ec : qc = c := beq_iff_eq.mp h1
    have eo : qo = o := beq_iff_eq.mp h2
    have ef : qf = f := e2
    subst ec; subst eo; subst ef
    obtain ⟨h3, h4⟩ := He.ba (List.all_eq_true.mp h _ hm)
    refine ⟨hm, h3, ?_⟩
    simp only at h4
    cases hw : t.whAt qf with
    | none => rw [hw] at h4; cases h4
    | some q =>
      rw [hw] at h4
      cases ho : opName qo with
      | none => rw [ho] at h4; cases q <;> cases h4
      | some x =>
        rw [ho] at h4
        cases q with
        | gl x => cases h4
        | cm a m => cases h4
        | me a m =>
          obtain ⟨h5, h6⟩ := He.ba h4
          exact ⟨x, rfl, by rw [of_decide_eq_true h5, of_decide_eq_true h6]⟩
theorem conRel {T : Tx} {K : PySem.W.Frag} {h : Heap} {mg : Str → Option Value} {x : Str} {d : D} (X : K.In h) (G : h.Ns mainGlobals mg) (c : (conFa x d).ok K = true) (hd : isCon d = true) : ∃ v u, mg x = some u ∧ RelV v u ∧ ∀ M H, Rel T K M H d v := by
  cases d with
  | int i => obtain ⟨w, e⟩ := He.int_ok X G c; exact ⟨.int i, _, e, ⟨w, rfl⟩, fun M H => .int i⟩
  | str z => obtain ⟨w, e⟩ := He.str_ok X G c; exact ⟨.str z, _, e, ⟨w, rfl⟩, fun M H => .str z⟩
  | _ => cases hd
/-- all that the checker leans on -/
theorem Tb.fx {t : Tb} {K : PySem.W.Frag} {h : Heap} {mg : Str → Option Value} (X : K.In h) (G : h.Ns mainGlobals mg) (wf : t.wf = true) (ex : t.ex K = true) (xm : ∀ c, t.nms.okx c = true → mg (t.cn c) = some (.ref (t.ca K c)))
    (xc : ∀ c ns, t.prg.xfl c = some ns → t.nms.okx c = true ∧ ns.Nodup ∧ ns ≠ [] ∧ GX.ErrC K (t.ca K c) (ns.map t.nms.fld))
    (xs : ∀ c ns k, t.prg.xfl c = some ns → t.nms.okx k = true → PySem.W.exmOne K (.ref (t.ca K c)) (.ref (t.ca K k)) = some (t.prg.sup c k) ∧ PySem.W.kitOne K (.ref (t.ca K c)) (.ref (t.ca K k)) = some (t.prg.sup c k)) : Fx (t.text K) K mg where
  xm := xm
  xc := xc
  xs := xs
  blt := fun x hx => He.free_ok X G (List.all_eq_true.mp (He.ba ex).1 x hx)
  gl := fun g hg => by
    have hl := Tb.blt hg
    obtain ⟨_, h⟩ := He.ba ex
    obtain ⟨h1, _⟩ := He.ba h
    obtain ⟨_, w⟩ := He.ba wf
    obtain ⟨_, w⟩ := He.ba w
    obtain ⟨_, w⟩ := He.ba w
    obtain ⟨_, w⟩ := He.ba w
    obtain ⟨_, w⟩ := He.ba w
    obtain ⟨v, u, a, b, c⟩ := conRel (T := (t.text K).toTx) X G (List.all_eq_true.mp h1 _ (List.getElem_mem hl)) (List.all_eq_true.mp w _ (List.getElem_mem hl))
    refine ⟨(t.con[g]).2, v, u, ?_, ?_, b, c⟩
    · show (t.con.map (·.2))[g]? = _
      rw [List.getElem?_map, List.getElem?_eq_getElem hl]; rfl
    · show mg (nmAt (t.con.map (·.1)) g) = _
      rw [nmAt_lt (by simpa using hl), List.getElem_map]
      exact a
  fn := fun f hf => by
    have h1 : Wh.isGl (t.whAt f) = true := hf
    cases hw : t.whAt f with
    | none => rw [hw] at h1; cases h1
    | some q =>
      rw [hw] at h1
      cases q with
      | me c m => cases h1
      | cm c m => cases h1
      | gl x =>
        obtain ⟨h2, h3⟩ := He.ba (Tb.wh_ ex hw)
        have e1 : (t.text K).nm.fnm f = x := by show Wh.nm (t.whAt f) = x; rw [hw]; rfl
        have e2 : (t.text K).fa f = He.ga K x := Tb.fa_ hw
        rw [e1, e2]
        exact ⟨He.glo_ok X G h2, He.keep_ok h3⟩
  cl := fun c hc => by
    obtain ⟨h1, h2⟩ := He.ba (Tb.cls_ ex hc).1
    obtain ⟨h2, _⟩ := He.ba h2
    exact ⟨He.glo_ok X G h1, He.cls_ok h2⟩
  mke := fun c f e => by
    obtain ⟨h1, h2⟩ := Tb.wfIni wf e
    have e2 : (t.text K).fa f = He.ma K (t.ca K c) "__init__" := Tb.fa_ h2
    rw [e2]
    exact ⟨h1, He.mkr_ok ((Tb.cls_ ex h1).2 f e)⟩
  na := fun c f hc hf => by
    have hl := Tb.blt hf
    obtain ⟨_, h2⟩ := He.ba (Tb.cls_ ex hc).1
    obtain ⟨_, h2⟩ := He.ba h2
    obtain ⟨h2, _⟩ := He.ba h2
    have := List.all_eq_true.mp h2 _ (List.getElem_mem hl)
    show NoAttr K (He.ga K (t.cn c)) (nmAt t.flds f)
    rw [nmAt_lt hl]
    exact He.noat_ok this
  me := fun c f hm => by
    obtain ⟨h1, h2⟩ := He.ba hm
    obtain ⟨m, e⟩ := Wh.me_of h2
    have e1 : (t.text K).nm.mnm f = m := by show Wh.nm (t.whAt f) = m; rw [e]; rfl
    have e2 : (t.text K).fa f = He.ma K (t.ca K c) m := Tb.fa_ e
    rw [e1, e2]
    exact ⟨h1, He.meth_ok (Tb.wh_ ex e)⟩
  nf := fun c f hm g => by
    obtain ⟨h1, h2⟩ := He.ba hm
    obtain ⟨m, e⟩ := Wh.me_of h2
    have e1 : (t.text K).nm.mnm f = m := by show Wh.nm (t.whAt f) = m; rw [e]; rfl
    rw [e1]
    obtain ⟨a, b⟩ := Tb.wfMe wf e
    exact nmAt_out a b g
  cm := fun c f hm => by
    obtain ⟨h1, h2⟩ := He.ba hm
    obtain ⟨m, e⟩ := Wh.cm_of h2
    have e1 : (t.text K).nm.mnm f = m := by show Wh.nm (t.whAt f) = m; rw [e]; rfl
    have e2 : (t.text K).fa f = He5.wf K (t.ca K c) "classmethod" m := Tb.fa_ e
    rw [e1, e2]
    obtain ⟨a, b⟩ := He.ba (Tb.wh_ ex e)
    obtain ⟨b, d⟩ := He.ba b
    obtain ⟨d, g⟩ := He.ba d
    exact ⟨h1, .type "type", He.ma K (t.ca K c) m, ⟨d, He.eqO_ok g⟩, He5.cmet_of a b⟩
  op := fun c o f e => by
    obtain ⟨hm, hc, x, ho, hw⟩ := Tb.wfOp wf e
    have e2 : (t.text K).fa f = He.ma K (t.ca K c) x := Tb.fa_ hw
    have M : Meth K (t.ca K c) x (He.ma K (t.ca K c) x) := He.meth_ok (Tb.wh_ ex hw)
    obtain ⟨_, h⟩ := He.ba ex
    obtain ⟨_, h⟩ := He.ba h
    obtain ⟨_, h⟩ := He.ba h
    obtain ⟨_, h⟩ := He.ba h
    obtain ⟨h, _⟩ := He.ba h
    have hs := List.all_eq_true.mp h _ hm
    rw [e2]
    have ne : ∀ {n}, o = n + 4 → PySem.W.selfFirst K (t.ca K c) = true := fun {n} e => by
      subst e
      rcases Bool.or_eq_true_iff.mp hs with z | z
      · exact absurd z (by simp)
      · rw [if_neg (by simp)] at z
        exact z
    have n3 : o = 3 → PySem.W.findIn K (.ref (t.ca K c)) "__ne__" = some (some (.builtin "object.__ne__")) := fun e => by
      subst e
      rcases Bool.or_eq_true_iff.mp hs with z | z
      · exact absurd z (by simp)
      · rw [if_pos (by simp)] at z
        exact He.eqO_ok z
    unfold opName at ho
    split at ho
    · cases ho; exact ⟨M.at_, M.fn⟩
    · cases ho; exact ⟨M.at_, M.fn, n3 rfl⟩
    · cases ho; exact ⟨ne rfl, M.at_, M.fn⟩
    · cases ho; exact ⟨ne rfl, M.at_, M.fn⟩
    · cases ho
  opc := fun c o f e => (Tb.wfOp wf e).2.1
  inj := fun f g e => nmAt_inj (of_decide_eq_true (He.ba wf).1) (fun x hx => of_decide_eq_true (List.all_eq_true.mp (He.ba (He.ba wf).2).1 x hx)) e
  ty := fun c k hc hk => by
    obtain ⟨_, h⟩ := He.ba ex
    obtain ⟨_, h⟩ := He.ba h
    obtain ⟨_, h⟩ := He.ba h
    obtain ⟨_, h⟩ := He.ba h
    obtain ⟨_, h⟩ := He.ba h
    exact of_decide_eq_true (List.all_eq_true.mp (List.all_eq_true.mp h c (List.mem_range.mpr (Tb.blt hc))) k (List.mem_range.mpr (Tb.blt hk)))
  tyb := fun c hc n hn => by
    obtain ⟨_, h⟩ := He.ba (Tb.cls_ ex hc).1
    obtain ⟨_, h⟩ := He.ba h
    obtain ⟨_, h⟩ := He.ba h
    obtain ⟨h, _⟩ := He.ba h
    exact of_decide_eq_true (List.all_eq_true.mp h n hn)
  tyo := fun c hc n hn => by
    obtain ⟨_, h⟩ := He.ba (Tb.cls_ ex hc).1
    obtain ⟨_, h⟩ := He.ba h
    obtain ⟨_, h⟩ := He.ba h
    obtain ⟨_, h⟩ := He.ba h
    obtain ⟨h, _⟩ := He.ba h
    exact of_decide_eq_true (List.all_eq_true.mp h n hn)
  cli := fun c hc => by
    obtain ⟨_, h⟩ := He.ba (Tb.cls_ ex hc).1
    obtain ⟨_, h⟩ := He.ba h
    obtain ⟨_, h⟩ := He.ba h
    obtain ⟨_, h⟩ := He.ba h
    obtain ⟨_, h⟩ := He.ba h
    obtain ⟨h1, h⟩ := He.ba h
    obtain ⟨h2, h⟩ := He.ba h
    obtain ⟨h3, h4⟩ := He.ba h
    exact ⟨He.eqO_ok h1, He.eqO_ok h2, of_decide_eq_true h3, of_decide_eq_true h4⟩
end
/-- each def's row keeps to its text -/
structure RowOk (t : Tb) (fuel : Nat) (r : Row) : Prop where
  sc : FnScope r.N r.ps (defScope r.st)
  bd : ∀ (kV doc pm : Value) (an : Option Addr) (cdv ct : Value) (us : List Value), us.length = r.ps.length → bindArgs (PySem.W.fnOf r.name r.qual (defArgs r.st) (defBody r.st) (defScope r.st) .none kV doc pm an cdv ct) ⟨us, []⟩ = pure (r.ps.zip us)
  np : r.fn.np = r.ps.length
  nl : r.fn.nl = r.N.length
  ck : chkSs t.nms t.prg fuel r.fn.body (defBody r.st) r.N (defScope r.st) = true
theorem SaysW.ex {t : Tb} {K : PySem.W.Frag} (c : SaysW t K) : t.ex K = true := (He.ba (congrArg (fun z : He.AlD => z.1) c)).1
theorem SaysW.fun_ {t : Tb} {K : PySem.W.Frag} (c : SaysW t K) {f : Nat} {r : Row} (h : t.fns[f]? = some r) : ∃ fd, FunD K r.name r.qual (defArgs r.st) (defBody r.st) (defScope r.st) [] [] (t.fa K f) fd := by
  have c2 := (He.ba (He.ba (show (t.ex K && (t.ex2 K && t.fns.all fun r => (r.defA t).ok K)) = true from congrArg (fun z : He.AlD => z.1) c)).2).2
  have e : t.fns.map (fun r => He5.fnA K (t.wa K r.wh)) = t.fns.map fun r => (r.defA t).val := congrArg (fun z : He.AlD => z.2) c
  have e2 : (t.fns.map (fun r => He5.fnA K (t.wa K r.wh)))[f]? = (t.fns.map fun r => (r.defA t).val)[f]? := by rw [e]
  rw [List.getElem?_map, List.getElem?_map, h] at e2
  have e3 : t.fa K f = t.wa K r.wh := Tb.fa_ (by unfold Tb.whAt; rw [h]; rfl)
  rw [e3]
  exact He5.DefA.funD (d := r.defA t) (Option.some.inj e2) (List.all_eq_true.mp c2 r (List.mem_of_getElem? h))
theorem SaysW.ex2 {t : Tb} {K : PySem.W.Frag} (c : SaysW t K) : t.ex2 K = true := (He.ba (He.ba (show (t.ex K && (t.ex2 K && t.fns.all fun r => (r.defA t).ok K)) = true from congrArg (fun z : He.AlD => z.1) c)).2).1
theorem lookup_mem {α : Type} {c : Nat} {v : α} : ∀ {l : List (Nat × α)}, l.lookup c = some v → (c, v) ∈ l
  | [], h => by simp at h
  | (a, b) :: l, h => by
    rw [List.lookup_cons] at h
    by_cases e : c = a
    · subst e
      simp at h
      subst h
      exact List.mem_cons_self
    · have e2 : (c == a) = false := by simpa using e
      rw [e2] at h
      exact List.mem_cons_of_mem _ (lookup_mem h)
theorem Tb.xfl_of {t : Tb} {c : Nat} {ns : List Nat} (h : t.prg.xfl c = some ns) : ∃ q j, t.xcs[j]? = some q ∧ c = t.cls.length + j ∧ q.fs = ns ∧ ns ≠ [] := by
  have h1 : t.xfl.lookup c = some ns := h
  have h2 := lookup_mem h1
  unfold Tb.xfl at h2
  obtain ⟨q, hq, e⟩ := List.mem_filterMap.mp h2
  rw [List.mem_zipIdx_iff_getElem?] at hq
  split at e
  · cases e
  · rename_i hn
    injection e with e
    injection e with e1 e2
    refine ⟨q.1, q.2, hq, e1.symm, e2, fun z => hn ?_⟩
    rw [e2, z]; rfl
theorem Tb.xn {t : Tb} {j : Nat} {q : XRow} (h : t.xcs[j]? = some q) : t.cn (t.cls.length + j) = q.x := by
  have hj := (List.getElem?_eq_some_iff.mp h).1
  unfold Tb.cn
  rw [nmAt_lt (by simp; omega), List.getElem_append_right (by simp)]
  simp only [List.length_map, Nat.add_sub_cancel_left, List.getElem_map]
  rw [(List.getElem?_eq_some_iff.mp h).2]
theorem Tb.okx_of {t : Tb} {c : Nat} (h : t.nms.okx c = true) : ∃ q j, t.xcs[j]? = some q ∧ c = t.cls.length + j := by
  obtain ⟨h1, h2⟩ := He.ba h
  have h1 := Nat.le_of_ble_eq_true h1
  have h2 := Tb.blt h2
  refine ⟨t.xcs[c - t.cls.length], c - t.cls.length, List.getElem?_eq_getElem (by omega), by omega⟩
theorem Tb.okx_mk {t : Tb} {j : Nat} {q : XRow} (h : t.xcs[j]? = some q) : t.nms.okx (t.cls.length + j) = true := by
  have hj := (List.getElem?_eq_some_iff.mp h).1
  show (Nat.ble t.cls.length (t.cls.length + j) && Nat.blt (t.cls.length + j) (t.cls.length + t.xcs.length)) = true
  rw [Nat.ble_eq_true_of_le (by omega), show Nat.blt (t.cls.length + j) (t.cls.length + t.xcs.length) = true from Nat.ble_eq_true_of_le (by omega)]
  rfl
theorem Tb.fxx {t : Tb} {K : PySem.W.Frag} {h : Heap} {mg : Str → Option Value} {fuel : Nat} (X : K.In h) (Gm : h.Ns mainGlobals mg) (wf : t.wf = true) (wf2 : t.wf2 = true) (c : SaysW t K) (ok : ∀ r ∈ t.fns, RowOk t fuel r) : Fx (t.text K) K mg := by
  have row : ∀ {j : Nat} {q : XRow}, t.xcs[j]? = some q → t.xB K q = true ∧ (q.fs.isEmpty = false → ∀ (m : Nat) (u : XRow), t.xcs[m]? = some u → PySem.W.kitOne K (.ref (He.ga K q.x)) (.ref (He.ga K u.x)) = some (t.prg.sup (t.cls.length + j) (t.cls.length + m))) := fun {j q} hq => by
    have hm : (q, j) ∈ t.xcs.zipIdx := by rw [List.mem_zipIdx_iff_getElem?]; exact hq
    obtain ⟨a, b⟩ := He.ba (List.all_eq_true.mp c.ex2 _ hm)
    refine ⟨a, fun hn m u hu => ?_⟩
    have hm2 : (u, m) ∈ t.xcs.zipIdx := by rw [List.mem_zipIdx_iff_getElem?]; exact hu
    rcases Bool.or_eq_true_iff.mp b with z | z
    · simp only at z
      rw [hn] at z; cases z
    · exact of_decide_eq_true (List.all_eq_true.mp z _ hm2)
  have cae : ∀ {j : Nat} {q : XRow}, t.xcs[j]? = some q → t.ca K (t.cls.length + j) = He.ga K q.x := fun {j q} hq => by
    unfold Tb.ca
    rw [Tb.xn hq]
  have full : ∀ {q : XRow}, q.fs ≠ [] → q.fs.isEmpty = false := fun {q} hn => by
    cases e : q.fs with
    | nil => exact (hn e).elim
    | cons _ _ => rfl
  refine Tb.fx X Gm wf c.ex (fun k hk => ?_) (fun k ns hk => ?_) fun k ns m hk hm => ?_
  · obtain ⟨q, j, hq, rfl⟩ := Tb.okx_of hk
    rw [cae hq, Tb.xn hq]
    exact He.glo_ok X Gm (He.ba (row hq).1).1
  · obtain ⟨q, j, hq, rfl, rfl, hne⟩ := Tb.xfl_of hk
    have hm : (q, j) ∈ t.xcs.zipIdx := by rw [List.mem_zipIdx_iff_getElem?]; exact hq
    have w := List.all_eq_true.mp wf2 _ hm
    simp only at w
    rw [full hne, Bool.false_or] at w
    obtain ⟨w1, w⟩ := He.ba w
    obtain ⟨w2, w⟩ := He.ba w
    refine ⟨Tb.okx_mk hq, of_decide_eq_true w1, hne, ?_⟩
    have b := (He.ba (row hq).1).2
    rw [full hne, Bool.false_or] at b
    obtain ⟨b1, b⟩ := He.ba b
    obtain ⟨b2, b⟩ := He.ba b
    obtain ⟨b3, b⟩ := He.ba b
    obtain ⟨b4, b⟩ := He.ba b
    obtain ⟨b5, b6⟩ := He.ba b4
    obtain ⟨b7, b8⟩ := He.ba b6
    obtain ⟨b9, b10⟩ := He.ba b8
    cases hi : q.ini with
    | none => rw [hi] at w; cases w
    | some f =>
      rw [hi] at w
      simp only at w
      cases hr : t.fns[f]? with
      | none => rw [hr] at w; cases w
      | some r =>
        rw [hr] at w
        simp only at w
        split at w
        case h_2 => cases w
        case h_1 cc mm hw =>
        simp only [Bool.and_eq_true, decide_eq_true_eq] at w
        obtain ⟨rfl, rfl, w3, w4⟩ := w
        have hwh : t.whAt f = some (.me (t.cls.length + j) "__init__") := by unfold Tb.whAt; rw [hr, ← hw]; rfl
        obtain ⟨fd, F⟩ := c.fun_ hr
        have R := ok r (List.mem_of_getElem? hr)
        have M : (He.Fa.meth (t.cn (t.cls.length + j)) "__init__").ok K = true := Tb.wh_ c.ex hwh
        rw [Tb.xn hq] at M
        have M2 : Meth K (He.ga K q.x) "__init__" (He.ma K (He.ga K q.x) "__init__") := He.meth_ok M
        have fae : t.fa K f = He.ma K (He.ga K q.x) "__init__" := by
          rw [Tb.fa_ hwh]
          show He.ma K (t.ca K (t.cls.length + j)) "__init__" = _
          rw [cae hq]
        rw [cae hq]
        refine ⟨GX.xcB_ok b1, fun g hg => ?_, xfB_ok b3, ⟨He.eqO_ok b5, He.eqO_ok b7, of_decide_eq_true b9, of_decide_eq_true b10⟩, ?_⟩
        · obtain ⟨n, hn, rfl⟩ := List.mem_map.mp hg
          exact He.eqO_ok (List.all_eq_true.mp b2 n hn)
        · rw [fae] at F
          refine ⟨_, fd, r.ps, M2.at_, beq_iff_eq.mp M2.fn, F.bindsN R.bd, fun P w mg base => ?_⟩
          exact GX.ini_ok (He5.fun_of F) R.sc (by simpa using hne) (by rw [w3, List.length_map]) (by rw [List.length_map]; exact Nat.le_of_ble_eq_true w2) w4
  · obtain ⟨q, j, hq, rfl, rfl, hne⟩ := Tb.xfl_of hk
    obtain ⟨u, m, hu, rfl⟩ := Tb.okx_of hm
    rw [cae hq, cae hu]
    have k1 := (row hq).2 (full hne) m u hu
    have b := (He.ba (row hq).1).2
    rw [full hne, Bool.false_or] at b
    obtain ⟨b1, b⟩ := He.ba b
    obtain ⟨b2, b⟩ := He.ba b
    obtain ⟨b3, b⟩ := He.ba b
    obtain ⟨b4, b⟩ := He.ba b
    have hm2 : (u, m) ∈ t.xcs.zipIdx := by rw [List.mem_zipIdx_iff_getElem?]; exact hu
    have e := of_decide_eq_true (List.all_eq_true.mp b _ hm2)
    exact ⟨e.trans k1, k1⟩
theorem SaysW.defs {t : Tb} {K : PySem.W.Frag} {fuel : Nat} (c : SaysW t K) (ok : ∀ r ∈ t.fns, RowOk t fuel r) : ∀ f fn, t.tab f = some fn → DefOk (t.text K) K f fn := fun f fn e => by
  have e : (t.fns.map Row.fn)[f]? = some fn := e
  rw [List.getElem?_map] at e
  cases hr : t.fns[f]? with
  | none => rw [hr] at e; cases e
  | some r =>
    rw [hr] at e
    cases e
    obtain ⟨fd, F⟩ := c.fun_ hr
    have R := ok r (List.mem_of_getElem? hr)
    exact ⟨⟨r.name, r.qual, r.st, fd, r.N, r.ps, fuel, He5.fun_of F, R.sc, F.bindsN R.bd, R.np, R.nl, R.ck⟩⟩
/-- the law's def: what its run gives, the call gives -/
theorem ints_rel {t : Tx} {K : PySem.W.Frag} {H : Hp} {ns : List Int} : ∀ (i : Nat) x v, (dI ns)[i]? = some x → (ns.map V.int)[i]? = some v → Rel t K (Live (fun _ => False) [] []) H x v := fun i x v a b => by
  unfold dI at a
  rw [List.getElem?_map] at a b
  cases e : ns[i]? with
  | none => rw [e] at a; cases a
  | some k =>
    rw [e] at a b
    cases a; cases b
    exact .int k
def spLaw (K : PySem.W.Frag) (n : Nat) : Sp := fun vs H Q _ => ∃ (a : Addr) (ns : List Int), vs = [.ref a] ∧ ns.length ≤ n ∧ SqL K H a (ns.map V.int) ∧ ∀ H', Q (.bl true) H'
theorem law_ok {t : Tb} {fuel most n f : Nat} {P : Program} {w : World} {K : PySem.W.Frag} {mg : Str → Option Value} {h base : Heap} {r : Row} {fd : FuncData} (X : K.In h) (Gm : h.Ns mainGlobals mg) (wf : t.wf = true) (wf2 : t.wf2 = true) (c : SaysW t K) (ok : ∀ r ∈ t.fns, RowOk t fuel r)
    (hr : t.fns[f]? = some r) (F : FunD K r.name r.qual (defArgs r.st) (defBody r.st) (defScope r.st) [] [] (t.fa K f) fd) (holds : ∀ ns : List Int, ns.length ≤ most → ∃ S, G.run t.prg t.tab (n + 1) f [.d (.lst (dI ns))] [] = .ok (.d (.bl true)) S) :
    FnOk P w K mg base (L2.CX P w) (2 * n + 3) (t.fa K f) fd r.ps (spLaw K most) := by
  have fx : Fx (t.text K) K mg := Tb.fxx X Gm wf wf2 c ok
  have R := ok r (List.mem_of_getElem? hr)
  have ht : t.tab f = some r.fn := by show (t.fns.map Row.fn)[f]? = _; rw [List.getElem?_map, hr]; rfl
  have FO := def_fnok (P := P) (w := w) (base := base) fx n f (fun g => defs_ok (P := P) (w := w) (base := base) fx (c.defs ok) n g) ht (He5.fun_of F) R.sc R.np R.nl R.ck
  refine FO.imp fun vs H Q E hs => ?_
  obtain ⟨a, ns, rfl, hl, hS, hQ⟩ := hs
  obtain ⟨S, e⟩ := holds ns hl
  refine ⟨fun _ => False, [], [], [.d (.lst (dI ns))], ⟨rfl, .nil, fun l c p e => by simp at e, fun p z => z.elim⟩, ⟨?_, trivial⟩, ?_⟩
  · refine Rel.lst (vs := ns.map V.int) ?_ (by simp [dI]) ints_rel
    rcases hS with z | z
    · refine .inl ⟨z, fun q => ?_⟩
      rcases q with q | ⟨l, c, e, _⟩
      · exact q
      · simp at e
    · exact .inr (.inr z)
  · rw [show (t.text K).P = t.prg from rfl, e]
    intro y H' _ rel
    cases rel
    exact hQ H'
/-- the end of a law over such a head -/
theorem walkG {lw : PySem.W.OpenLaw} {most k : Nat} {q : Program} {ls : List Str} {XP : (Str → Option Value) → Heap → Prop} {d : DefRec} {gr : Nat} {t : Tb}
    (h1 : lw.most = some most) (h2 : most ≤ sizeLine) (h3 : d.params.defaults = []) (hr : Room k callerA)
    (hF : ∀ (w : World) (mg : Str → Option Value) (fa : Addr) (h : Heap) (K : PySem.W.Frag), K.In h → SaysW t K → h.Ns mainGlobals mg → mg d.name = some (.ref fa) →
      ∃ fd : FuncData, (∀ (s : Shared) (u : Value), BindsTo s fd ⟨[u], []⟩ [("script", u)]) ∧ ∀ base : Heap, K.In base → base.Ns mainGlobals mg → FnOk lw.prog w K mg base (L2.CX lw.prog w) k fa fd ["script"] (spLaw K most)) :
    PySem.W.WalkO q ls XP (hookW gr t).says lw.row.toRowW d [] (fun f vs => PySem.call f vs) := by
  refine Att.attach_call h1 h3 fun w s0 s1 mg mb fa o pm cd doc a vs ns Gm Y ho hd hcd hmg hob hin hlen hg => ?_
  obtain ⟨K, KX, c⟩ := Y
  obtain ⟨fd, hb, hf⟩ := hF w mg fa _ K KX c Gm.T.g hmg
  refine law_call KX Gm.T.g Gm.T.b Gm.T.builtins Gm.T.nolimit hg hob hin (Nat.le_trans hlen h2) hr hf hb ?_ ?_
  · exact fun H _ hS => ⟨a, ns, rfl, hlen, hS, fun _ => rfl⟩
  · rintro H e s' ⟨_, _, _, _, _, _, _, _, _, _, _, _, z⟩
    exact z
end GS
/-! M: rules for runs of G. -/
namespace G
theorem evE_def (e : E) (cf : Cfg) (env : Frm) (S : Sto) (r : R Va) (h : evE e cf env S = r) : stl (evE e cf env S) = stl r := by rw [h]
/-! ### rows of ints -/
def dN (l : List Nat) : List D := l.map fun (n : Nat) => D.int n
@[simp] theorem dN_nil : dN [] = [] := rfl
@[simp] theorem dN_cons (x : Nat) (l : List Nat) : dN (x :: l) = .int x :: dN l := rfl
@[simp] theorem dN_length (l : List Nat) : (dN l).length = l.length := by simp [dN]
@[simp] theorem dI_length (l : List Int) : (dI l).length = l.length := by simp [dI]
@[simp] theorem dN_app (a b : List Nat) : dN a ++ dN b = dN (a ++ b) := by simp [dN]
@[simp] theorem dI_app (a b : List Int) : dI a ++ dI b = dI (a ++ b) := by simp [dI]
theorem dN_get (l : List Nat) (i : Nat) : (dN l)[i]? = l[i]?.map fun (n : Nat) => D.int n := by simp [dN]
theorem dI_get (l : List Int) (i : Nat) : (dI l)[i]? = l[i]?.map D.int := by simp [dI]
theorem dN_dI (l : List Nat) : dN l = dI (l.map fun (n : Nat) => (n : Int)) := by simp [dN, dI]
@[simp] theorem intsD_dI (l : List Int) : intsD (dI l) = some l := by
  induction l with
  | nil => rfl
  | cons x r ih =>
    show intsD (.int x :: dI r) = _
    simp [intsD, ih]
@[simp] theorem intsD_dN (l : List Nat) : intsD (dN l) = some (l.map fun (n : Nat) => (n : Int)) := by rw [dN_dI, intsD_dI]
theorem dI_inj {a b : List Int} (h : dI a = dI b) : a = b := by
  have := congrArg intsD h
  simpa using this
/-! ### == of rows of ints -/
@[simp] theorem eqDs_dI (a b : List Int) : eqDs (dI a) (dI b) = decide (a = b) := by
  induction a generalizing b with
  | nil => cases b <;> simp [dI, eqDs]
  | cons x r ih =>
    cases b with
    | nil => simp [dI, eqDs]
    | cons y s =>
      show (eqD (.int x) (.int y) && eqDs (dI r) (dI s)) = _
      rw [ih, eqD]
      by_cases h : x = y <;> simp [h]
@[simp] theorem plains_dI (a : List Int) : plains (dI a) = true := by
  induction a with
  | nil => rfl
  | cons x r ih =>
    show (plain (.int x) && plains (dI r)) = true
    rw [ih]; rfl
@[simp] theorem deps_dI (a : List Int) : deps (dI a) = 0 := by
  induction a with
  | nil => rfl
  | cons x r ih =>
    show max (dep (.int x)) (deps (dI r)) = 0
    rw [ih]; rfl
/-! ### ints that are natural -/
section
open PySem.Builtin
theorem or_nat (a b : Nat) : bitOr (a : Int) (b : Int) = ((a ||| b : Nat) : Int) := by
  unfold bitOr bitAnd bitNot
  have h1 : ¬ (0 : Int) ≤ -(a : Int) - 1 := by omega
  have h2 : ¬ (0 : Int) ≤ -(b : Int) - 1 := by omega
  have e1 : (-(-(a : Int) - 1) - 1).toNat = a := by omega
  have e2 : (-(-(b : Int) - 1) - 1).toNat = b := by omega
  rw [decide_eq_false h1, decide_eq_false h2]
  simp only [e1, e2]
  omega
theorem and_nat (a b : Nat) : bitAnd (a : Int) (b : Int) = ((a &&& b : Nat) : Int) := by
  unfold bitAnd
  simp
theorem and_or (a b : Nat) : (a ||| b) = (a ^^^ b) + (a &&& b) := by
  induction a using Nat.strongRecOn generalizing b with
  | _ a ih =>
    by_cases h : a = 0
    · subst h; simp
    · have e := ih (a / 2) (by omega) (b / 2)
      rw [← Nat.or_div_two, ← Nat.xor_div_two, ← Nat.and_div_two] at e
      have h1 := Nat.or_mod_two_eq_one (a := a) (b := b)
      have h2 := Nat.xor_mod_two_eq_one (a := a) (b := b)
      have h3 := Nat.and_mod_two_eq_one (a := a) (b := b)
      omega
theorem xor_nat (a b : Nat) : bitXor (a : Int) (b : Int) = ((a ^^^ b : Nat) : Int) := by
  unfold bitXor
  rw [or_nat, and_nat, and_or]
  omega
end
/-! ### statements -/
theorem exSs_nil (cf : Cfg) (env : Frm) (S : Sto) : exSs [] cf env S = .ok .nx env S := by rw [exSs]
theorem exSs_ok {s : Sm} {ss : List Sm} {cf : Cfg} {env e : Frm} {S S1 : Sto} (h : exS s cf env S = .ok .nx e S1) : exSs (s :: ss) cf env S = exSs ss cf e S1 := by rw [exSs, h]
theorem exSs_rt {s : Sm} {ss : List Sm} {cf : Cfg} {env e : Frm} {S S1 : Sto} {v : Va} (h : exS s cf env S = .ok (.rt v) e S1) : exSs (s :: ss) cf env S = .ok (.rt v) e S1 := by rw [exSs, h]
/-- a loop by an invariant -/
theorem floop_inv {body : D → Frm → Sto → RS} (Inv : Nat → Frm → Sto → Prop) : ∀ (xs : List D) (k : Nat) (env : Frm) (S : Sto),
    (∀ i x env S, xs[i]? = some x → Inv (k + i) env S → ∃ env' S', (body x env S = .ok .nx env' S' ∨ body x env S = .ok .ct env' S') ∧ Inv (k + i + 1) env' S') → Inv k env S →
    ∃ env' S', floop body xs env S = .ok .nx env' S' ∧ Inv (k + xs.length) env' S'
  | [], k, env, S, _, h0 => ⟨env, S, rfl, h0⟩
  | x :: xs, k, env, S, st, h0 => by
    obtain ⟨e1, S1, hb, h1⟩ := st 0 x env S rfl h0
    obtain ⟨e2, S2, hl, h2⟩ := floop_inv Inv xs (k + 1) e1 S1 (fun i y env S hy hi => by
      have e : k + (i + 1) = k + 1 + i := by omega
      have := st (i + 1) y env S hy (by rw [e]; exact hi)
      rw [e] at this
      exact this) h1
    refine ⟨e2, S2, ?_, ?_⟩
    · rw [floop]
      rcases hb with hb | hb
      · rw [hb]; exact hl
      · rw [hb]; exact hl
    · rw [List.length_cons]
      have e : k + (xs.length + 1) = k + 1 + xs.length := by omega
      rw [e]; exact h2
theorem for_inv {t : Tg} {src : E} {body ss : List Sm} {cf : Cfg} {env : Frm} {S S1 : Sto} {xs : List D} (hs : evI src cf env S = .ok (.fix xs) S1) (Inv : Nat → Frm → Sto → Prop) (h0 : Inv 0 env S1)
    (st : ∀ i x env S, xs[i]? = some x → Inv i env S → ∃ e1 env' S', setT t x env = some e1 ∧ (exSs body cf e1 S = .ok .nx env' S' ∨ exSs body cf e1 S = .ok .ct env' S') ∧ Inv (i + 1) env' S') :
    ∃ env' S', Inv xs.length env' S' ∧ exSs (.for_ t src body :: ss) cf env S = exSs ss cf env' S' := by
  obtain ⟨e, S', h1, h2⟩ := floop_inv (body := fun x env S => match setT t x env with
    | some env' => exSs body cf env' S
    | none => .bad) Inv xs 0 env S1 (fun i x env S hx hi => by
      rw [Nat.zero_add] at hi ⊢
      obtain ⟨e1, e2, S2, q1, q2, q3⟩ := st i x env S hx hi
      exact ⟨e2, S2, by simp only [q1]; exact q2, q3⟩) h0
  rw [Nat.zero_add] at h2
  refine ⟨e, S', h2, ?_⟩
  have e3 : exS (.for_ t src body) cf env S = .ok .nx e S' := by
    rw [exS, hs]
    exact h1
  exact exSs_ok e3
/-! ### comprehensions -/
theorem kloop_flat {step : D → Sto → R (List D)} {S : Sto} {g : D → List D} : ∀ {xs : List D}, (∀ x ∈ xs, step x S = .ok (g x) S) → kloop step xs S = .ok (xs.flatMap g) S
  | [], _ => rfl
  | x :: xs, h => by
    rw [kloop, h x (by simp)]
    simp only [R.bind]
    rw [kloop_flat fun y hy => h y (by simp [hy])]
    simp
theorem kloop_map {α : Type} {step : D → Sto → R (List D)} {S : Sto} {l : List α} {φ : α → D} {g : α → List D} (h : ∀ a ∈ l, step (φ a) S = .ok (g a) S) : kloop step (l.map φ) S = .ok (l.flatMap g) S := by
  induction l with
  | nil => rfl
  | cons x r ih =>
    rw [List.map_cons, kloop, h x (by simp)]
    simp only [R.bind]
    rw [ih fun y hy => h y (by simp [hy])]
    simp
theorem comp_flat {α : Type} {own : List Nat} {i : Nat} {src c e : E} {cf : Cfg} {env : Frm} {S S1 : Sto} (l : List α) (φ : α → D) (p : α → Bool) (ψ : α → D) (hs : evI src cf env S = .ok (.fix (l.map φ)) S1)
    (hc : ∀ a ∈ l, evT c cf ((wipe env own).set i (some (.d (φ a)))) S1 = .ok (p a) S1) (he : ∀ a ∈ l, p a = true → stl (evE e cf ((wipe env own).set i (some (.d (φ a)))) S1) = .ok (.d (ψ a)) S1) (hl : l.length ≤ LL) :
    evE (.comp own (.nm i) src c e) cf env S = .ok (.f (.lst ((l.filter p).map ψ))) S1 := by
  rw [evE, hs]
  simp only [R.bind, kloopS]
  rw [kloop_map (g := fun a => if p a then [ψ a] else []) fun a ha => ?_]
  · have e1 : (l.flatMap fun a => if p a then [ψ a] else []) = (l.filter p).map ψ := by
      clear hs hc he hl
      induction l with
      | nil => rfl
      | cons x r ih =>
        rw [List.flatMap_cons, ih, List.filter_cons]
        cases p x <;> simp
    rw [e1]
    have : ((l.filter p).map ψ).length ≤ LL := by
      rw [List.length_map]
      exact Nat.le_trans (List.length_filter_le _ _) hl
    simp only [R.nox, R.bind, rowV, if_pos this]
  · simp only [setT, hc a ha]
    cases hp : p a with
    | false => simp [R.nox, R.bind]
    | true => simp [R.nox, R.bind, he a ha hp]
theorem evT_true (cf : Cfg) (env : Frm) (S : Sto) : evT (.con (.bl true)) cf env S = .ok true S := by
  simp [evT, evE, stl, tru, truV]
theorem comp_map {α : Type} {own : List Nat} {i : Nat} {src e : E} {cf : Cfg} {env : Frm} {S S1 : Sto} (l : List α) (φ : α → D) (ψ : α → D) (hs : evI src cf env S = .ok (.fix (l.map φ)) S1)
    (he : ∀ a ∈ l, stl (evE e cf ((wipe env own).set i (some (.d (φ a)))) S1) = .ok (.d (ψ a)) S1) (hl : l.length ≤ LL) :
    evE (.comp own (.nm i) src (.con (.bl true)) e) cf env S = .ok (.f (.lst (l.map ψ))) S1 := by
  have h := comp_flat (own := own) (i := i) (e := e) l φ (fun _ => true) ψ hs (fun a _ => evT_true _ _ _) (fun a ha _ => he a ha) hl
  have e1 : l.filter (fun _ => true) = l := List.filter_eq_self.mpr fun _ _ => rfl
  rw [e1] at h
  exact h
/-! ### sources -/
theorem evI_rng1 {a : E} {cf : Cfg} {env : Frm} {S S1 : Sto} {n : Nat} (h : stl (evE a cf env S) = .ok (.d (.int n)) S1) (hn : n < 1073741824) : evI (.rng [a]) cf env S = .ok (.fix ((List.range n).map fun (k : Nat) => D.int k)) S1 := by
  have hb : bnd (n : Int) = true := by unfold bnd; simp; omega
  rw [evI, evL, h]
  simp [R.bind, evL, rngV, hb]
theorem rngV2 {S : Sto} {a b : Int} (ha : bnd a = true) (hb : bnd b = true) : rngV [.d (.int a), .d (.int b)] S = .ok (.fix ((List.range (b - a).toNat).map fun (k : Nat) => D.int (a + k))) S := by
  simp [rngV, ha, hb]
theorem bnd_nat {k : Nat} (h : k < 1073741824) : bnd (k : Int) = true := by
  unfold bnd
  exact decide_eq_true ⟨by omega, by omega⟩
theorem evI_rng2 {a b : E} {cf : Cfg} {env : Frm} {S S1 S2 : Sto} {lo n : Nat} (h : stl (evE a cf env S) = .ok (.d (.int lo)) S1) (h2 : stl (evE b cf env S1) = .ok (.d (.int n)) S2) (hl : lo < 1073741824) (hn : n < 1073741824) :
    evI (.rng [a, b]) cf env S = .ok (.fix ((List.range (n - lo)).map fun (k : Nat) => D.int ((lo + k : Nat) : Int))) S2 := by
  have e : ((n : Int) - (lo : Int)).toNat = n - lo := by omega
  rw [evI, evL, h, R.bind, evL, h2]
  simp only [R.bind, evL]
  rw [rngV2 (bnd_nat hl) (bnd_nat hn), e]
  rfl
theorem evI_rng3 {a b c : E} {cf : Cfg} {env : Frm} {S S1 S2 S3 : Sto} {va vb vc : Va} {r : R Src} (h1 : stl (evE a cf env S) = .ok va S1) (h2 : stl (evE b cf env S1) = .ok vb S2) (h3 : stl (evE c cf env S2) = .ok vc S3) (hr : rngV [va, vb, vc] S3 = r) : evI (.rng [a, b, c]) cf env S = r := by
  subst hr
  rw [evI, evL, h1, R.bind, evL, h2, R.bind, evL, h3, R.bind, evL]
  simp only [R.bind]
end G
/-! M: simp rules. -/
namespace G
/-! kept closed: the simplifier does not look in -/
def pw (t : Nat) : Nat := 2 ^ t
def shl (a t : Nat) : Nat := a * 2 ^ t
def shr (a t : Nat) : Nat := a / 2 ^ t
def md (a t : Nat) : Nat := a % t
theorem le_LL {k : Nat} (h : k ≤ 16777216) : k ≤ LL := h
section
variable {α β : Type} (a : α) (S S1 S2 : Sto) (cf : Cfg) (env : Frm) (v w : Va) (x y : D) (i j : Int) (k l n : Nat) (e e1 e2 e3 : E) (es : List E) (xs ys : List D) (b : Bool) (c f : Nat) (fs : List (Nat × D))
@[simp] theorem bind_ok (k : α → Sto → R β) : (R.ok a S).bind k = k a S := rfl
@[simp] theorem bind_bad (k : α → Sto → R β) : (R.bad : R α).bind k = .bad := rfl
@[simp] theorem st_ok (k : α → Sto → RS) : (R.ok a S).st env k = k a S := rfl
@[simp] theorem nox_ok : (R.ok a S).nox = R.ok a S := rfl
@[simp] theorem stl_d : stl (.ok (.d x) S) = .ok (.d x) S := rfl
@[simp] theorem stl_r : stl (.ok (.r l) S) = .ok (.r l) S := rfl
@[simp] theorem stl_l : stl (.ok (.f (.lst xs)) S) = .ok (.d (.lst xs)) S := rfl
@[simp] theorem stl_i : stl (.ok (.f (.ins c fs)) S) = .ok (.d (.obj c fs)) S := rfl
@[simp] theorem tru_ok : tru (.ok v S) = (match truV v S with
  | some b => .ok b S
  | none => .bad) := rfl
@[simp] theorem truV_n : truV (.d .non) S = some false := rfl
@[simp] theorem truV_b : truV (.d (.bl b)) S = some b := rfl
@[simp] theorem truV_i : truV (.d (.int i)) S = some (i != 0) := rfl
@[simp] theorem truV_t : truV (.d (.tup xs)) S = some (!xs.isEmpty) := rfl
@[simp] theorem truV_l : truV (.d (.lst xs)) S = some (!xs.isEmpty) := rfl
@[simp] theorem ofO_s : R.ofO (some x) S = .ok (.d x) S := rfl
@[simp] theorem seqV_t : seqV (.d (.tup xs)) S = some (true, xs) := rfl
@[simp] theorem seqV_l : seqV (.d (.lst xs)) S = some (false, xs) := rfl
@[simp] theorem seqV_f : seqV (.f (.lst xs)) S = some (false, xs) := rfl
@[simp] theorem seqV_r : seqV (.r l) S = (match S[l]? with
    | some (.lst xs) => some (false, xs)
    | _ => none) := rfl
@[simp] theorem seqV_i : seqV (.d (.int i)) S = none := rfl
@[simp] theorem seqV_b : seqV (.d (.bl b)) S = none := rfl
@[simp] theorem seqV_o : seqV (.d (.obj c fs)) S = none := rfl
@[simp] theorem clsV_o : clsV (.d (.obj c fs)) S = some (c, fs) := rfl
@[simp] theorem clsV_f : clsV (.f (.ins c fs)) S = some (c, fs) := rfl
@[simp] theorem clsV_r : clsV (.r l) S = (match S[l]? with
    | some (.ins c fs) => some (c, fs)
    | _ => none) := rfl
@[simp] theorem clsV_i : clsV (.d (.int i)) S = none := rfl
@[simp] theorem clsV_b : clsV (.d (.bl b)) S = none := rfl
@[simp] theorem clsV_n : clsV (.d .non) S = none := rfl
@[simp] theorem clsV_l : clsV (.d (.lst xs)) S = none := rfl
@[simp] theorem clsV_t : clsV (.d (.tup xs)) S = none := rfl
@[simp] theorem datV_d : datV (.d x) S = some x := rfl
@[simp] theorem datV_r : datV (.r l) S = (match S[l]? with
    | some (.lst xs) => some (.lst xs)
    | _ => none) := rfl
@[simp] theorem dats_nil : dats [] = some [] := rfl
@[simp] theorem dats_cons (r : List Va) : dats (.d x :: r) = (match dats r with
    | some l => some (x :: l)
    | none => none) := rfl
/-! expressions -/
@[simp] theorem e_con : evE (.con x) cf env S = .ok (.d x) S := by rw [evE] <;> rfl
@[simp] theorem e_glb : evE (.glb n) cf env S = R.ofO (cf.P.con n) S := by rw [evE] <;> rfl
theorem e_var {i : Nat} {v : Va} (h : env[i]? = some (some v)) : evE (.var i) cf env S = .ok v S := by rw [evE, h]
@[simp] theorem e_var' (i : Nat) : evE (.var i) cf env S = (match env[i]? with
    | some (some v) => .ok v S
    | _ => .bad) := by rw [evE] <;> rfl
/-! what follows a part, lazily -/
def binK2 (cf : Cfg) (o : Bop) (va : Va) (vb : Va) (S2 : Sto) : R Va := binV cf o va vb S2
def binK (o : Bop) (e1 : E) (cf : Cfg) (env : Frm) (va : Va) (S1 : Sto) : R Va := (stl (evE e1 cf env S1)).bind (binK2 cf o va)
@[simp] theorem binK2_ap (o : Bop) : binK2 cf o v w S = binV cf o v w S := rfl
@[simp] theorem binK_ap (o : Bop) : binK o e1 cf env v S = (stl (evE e1 cf env S)).bind (binK2 cf o v) := rfl
@[simp] theorem e_bin (o : Bop) : evE (.bin o e e1) cf env S = (stl (evE e cf env S)).bind (binK o e1 cf env) := by rw [evE] <;> rfl
def negK (va : Va) (S1 : Sto) : R Va := match va with
    | .d (.int i) => .ok (.d (.int (-i))) S1
    | _ => .bad
@[simp] theorem negK_ap : negK (.d (.int i)) S = .ok (.d (.int (-i))) S := rfl
@[simp] theorem e_neg : evE (.neg e) cf env S = (stl (evE e cf env S)).bind negK := by rw [evE] <;> rfl
def cmpK2 (cf : Cfg) (o : Cop) (va : Va) (vb : Va) (S2 : Sto) : R Va := cmpV cf o va vb S2
def cmpK (o : Cop) (e1 : E) (cf : Cfg) (env : Frm) (va : Va) (S1 : Sto) : R Va := (stl (evE e1 cf env S1)).bind (cmpK2 cf o va)
@[simp] theorem cmpK2_ap (o : Cop) : cmpK2 cf o v w S = cmpV cf o v w S := rfl
@[simp] theorem cmpK_ap (o : Cop) : cmpK o e1 cf env v S = (stl (evE e1 cf env S)).bind (cmpK2 cf o v) := rfl
@[simp] theorem e_cmp (o : Cop) : evE (.cmp o e e1) cf env S = (stl (evE e cf env S)).bind (cmpK o e1 cf env) := by rw [evE] <;> rfl
def chnK3 (cf : Cfg) (o' : Cop) (e2 : E) (env : Frm) (vb : Va) (k : Va) (S3 : Sto) : R Va := match k with
        | .d (.bl true) => (stl (evE e2 cf env S3)).bind (cmpK2 cf o' vb)
        | .d (.bl false) => .ok (.d (.bl false)) S3
        | _ => .bad
def chnK2 (cf : Cfg) (o o' : Cop) (e2 : E) (env : Frm) (va : Va) (vb : Va) (S2 : Sto) : R Va := (chV cf o va vb S2).bind (chnK3 cf o' e2 env vb)
def chnK (o o' : Cop) (e1 e2 : E) (cf : Cfg) (env : Frm) (va : Va) (S1 : Sto) : R Va := (stl (evE e1 cf env S1)).bind (chnK2 cf o o' e2 env va)
@[simp] theorem chnK3_t (o' : Cop) : chnK3 cf o' e2 env v (.d (.bl true)) S = (stl (evE e2 cf env S)).bind (cmpK2 cf o' v) := rfl
@[simp] theorem chnK3_f (o' : Cop) : chnK3 cf o' e2 env v (.d (.bl false)) S = .ok (.d (.bl false)) S := rfl
@[simp] theorem chnK2_ap (o o' : Cop) : chnK2 cf o o' e2 env v w S = (chV cf o v w S).bind (chnK3 cf o' e2 env w) := rfl
@[simp] theorem chV_i (o : Cop) : chV cf o (.d (.int i)) w S = cmpV cf o (.d (.int i)) w S := rfl
@[simp] theorem chV_l (o : Cop) : chV cf o (.d (.lst xs)) w S = cmpV cf o (.d (.lst xs)) w S := rfl
@[simp] theorem chV_t (o : Cop) : chV cf o (.d (.tup xs)) w S = cmpV cf o (.d (.tup xs)) w S := rfl
@[simp] theorem chV_n (o : Cop) : chV cf o (.d .non) w S = cmpV cf o (.d .non) w S := rfl
@[simp] theorem chV_b (o : Cop) : chV cf o (.d (.bl b)) w S = cmpV cf o (.d (.bl b)) w S := rfl
@[simp] theorem chnK_ap (o o' : Cop) : chnK o o' e1 e2 cf env v S = (stl (evE e1 cf env S)).bind (chnK2 cf o o' e2 env v) := rfl
@[simp] theorem e_chn (o o' : Cop) : evE (.chn o o' e e1 e2) cf env S = (stl (evE e cf env S)).bind (chnK o o' e1 e2 cf env) := by
  rw [evE] <;> rfl
def notK (b : Bool) (S1 : Sto) : R Va := .ok (.d (.bl (!b))) S1
@[simp] theorem notK_ap : notK b S = .ok (.d (.bl (!b))) S := rfl
@[simp] theorem e_not : evE (.not e) cf env S = (tru (stl (evE e cf env S))).bind notK := by rw [evE] <;> rfl
def andK (e1 : E) (cf : Cfg) (env : Frm) (va : Va) (S1 : Sto) : R Va := match va with
    | .d (.bl true) => stl (evE e1 cf env S1)
    | .d (.bl false) => .ok (.d (.bl false)) S1
    | _ => .bad
@[simp] theorem andK_t : andK e1 cf env (.d (.bl true)) S = stl (evE e1 cf env S) := rfl
@[simp] theorem andK_f : andK e1 cf env (.d (.bl false)) S = .ok (.d (.bl false)) S := rfl
@[simp] theorem e_and : evE (.and e e1) cf env S = (stl (evE e cf env S)).bind (andK e1 cf env) := by rw [evE] <;> rfl
def orK (e1 : E) (cf : Cfg) (env : Frm) (va : Va) (S1 : Sto) : R Va := match va with
    | .d (.bl false) => stl (evE e1 cf env S1)
    | .d (.bl true) => .ok (.d (.bl true)) S1
    | _ => .bad
@[simp] theorem orK_f : orK e1 cf env (.d (.bl false)) S = stl (evE e1 cf env S) := rfl
@[simp] theorem orK_t : orK e1 cf env (.d (.bl true)) S = .ok (.d (.bl true)) S := rfl
@[simp] theorem e_or : evE (.or e e1) cf env S = (stl (evE e cf env S)).bind (orK e1 cf env) := by rw [evE] <;> rfl
def ifeK (e1 e2 : E) (cf : Cfg) (env : Frm) (k : Bool) (S1 : Sto) : R Va := match k with
    | true => stl (evE e1 cf env S1)
    | false => stl (evE e2 cf env S1)
@[simp] theorem ifeK_t : ifeK e1 e2 cf env true S = stl (evE e1 cf env S) := rfl
@[simp] theorem ifeK_f : ifeK e1 e2 cf env false S = stl (evE e2 cf env S) := rfl
@[simp] theorem e_ife : evE (.ife e e1 e2) cf env S = (evT e cf env S).bind (ifeK e1 e2 cf env) := by rw [evE] <;> rfl
def tupK (vs : List Va) (S1 : Sto) : R Va := match dats vs with
    | some l => if l.length ≤ LL then .ok (.d (.tup l)) S1 else .bad
    | none => .bad
@[simp] theorem tupK_ap (vs : List Va) : tupK vs S = (match dats vs with
    | some l => if l.length ≤ LL then .ok (.d (.tup l)) S else .bad
    | none => .bad) := rfl
@[simp] theorem e_tup : evE (.tup es) cf env S = (evL es cf env S).bind tupK := by rw [evE] <;> rfl
def lstK (vs : List Va) (S1 : Sto) : R Va := match dats vs with
    | some l => if l.length ≤ LL then .ok (.f (.lst l)) S1 else .bad
    | none => .bad
@[simp] theorem lstK_ap (vs : List Va) : lstK vs S = (match dats vs with
    | some l => if l.length ≤ LL then .ok (.f (.lst l)) S else .bad
    | none => .bad) := rfl
@[simp] theorem e_lst : evE (.lst es) cf env S = (evL es cf env S).bind lstK := by rw [evE] <;> rfl
def idxK2 (va : Va) (vi : Va) (S2 : Sto) : R Va := idxV va vi S2
def idxK (e1 : E) (cf : Cfg) (env : Frm) (va : Va) (S1 : Sto) : R Va := (stl (evE e1 cf env S1)).bind (idxK2 va)
@[simp] theorem idxK2_ap : idxK2 v w S = idxV v w S := rfl
@[simp] theorem idxK_ap : idxK e1 cf env v S = (stl (evE e1 cf env S)).bind (idxK2 v) := rfl
@[simp] theorem e_idx : evE (.idx e e1) cf env S = (stl (evE e cf env S)).bind (idxK e1 cf env) := by rw [evE] <;> rfl
def slcK3 (e2 : E) (va : Va) (l : Option Int) (vh : Va) (S3 : Sto) : R Va := match endE e2 vh with
        | none => .bad
        | some u => slcV va l u S3
def slcK2 (e1 e2 : E) (cf : Cfg) (env : Frm) (va : Va) (vl : Va) (S2 : Sto) : R Va := match endE e1 vl with
      | none => .bad
      | some l => (stl (evE e2 cf env S2)).bind (slcK3 e2 va l)
def slcK (e1 e2 : E) (cf : Cfg) (env : Frm) (va : Va) (S1 : Sto) : R Va := (stl (evE e1 cf env S1)).bind (slcK2 e1 e2 cf env va)
@[simp] theorem slcK3_ap (q : Option Int) : slcK3 e2 v q w S = (match endE e2 w with
        | none => .bad
        | some u => slcV v q u S) := rfl
@[simp] theorem slcK2_ap : slcK2 e1 e2 cf env v w S = (match endE e1 w with
      | none => .bad
      | some l => (stl (evE e2 cf env S)).bind (slcK3 e2 v l)) := rfl
@[simp] theorem slcK_ap : slcK e1 e2 cf env v S = (stl (evE e1 cf env S)).bind (slcK2 e1 e2 cf env v) := rfl
@[simp] theorem e_slc : evE (.slc e e1 e2) cf env S = (stl (evE e cf env S)).bind (slcK e1 e2 cf env) := by rw [evE] <;> rfl
@[simp] theorem e_rev : evE (.rev e) cf env S = (stl (evE e cf env S)).bind revV := by rw [evE] <;> rfl
def fldVK (P : Prg) (f : Nat) (va : Va) (S1 : Sto) : R Va := fldV P va f S1
@[simp] theorem fldVK_ap (P : Prg) : fldVK P f v S = fldV P v f S := rfl
@[simp] theorem e_fld : evE (.fld e f) cf env S = (stl (evE e cf env S)).bind (fldVK cf.P f) := by rw [evE] <;> rfl
@[simp] theorem e_call : evE (.call f es) cf env S = (evL es cf env S).bind (cf.call f) := by rw [evE] <;> rfl
@[simp] theorem e_lrg : evE (.lrg e) cf env S = (stl (evE e cf env S)).bind lrgV := by rw [evE] <;> rfl
theorem lrgV_n (h : n ≤ 16777216) : lrgV (.d (.int n)) S = .ok (.f (.lst ((List.range n).map fun (k : Nat) => D.int k))) S := by
  unfold lrgV
  simp
  omega
@[simp] theorem e_callF (f : Nat) : evE (.callF f e) cf env S = (match evE e cf env S with
    | .ok (.f c) S1 => frsV S1.length (cf.call f [.r S1.length] (S1 ++ [c]))
    | .ok _ _ => .bad
    | .ex c fs S1 => .ex c fs S1
    | .bad => .bad) := by rw [evE] <;> rfl
@[simp] theorem e_mk : evE (.mk c es) cf env S = (evL es cf env S).bind (mkV cf c) := by rw [evE] <;> rfl
def cmK (cf : Cfg) (c f : Nat) (vs : List Va) (S1 : Sto) : R Va := cf.call f (.d (.cls c) :: vs) S1
@[simp] theorem cmK_ap (vs : List Va) : cmK cf c f vs S = cf.call f (.d (.cls c) :: vs) S := rfl
@[simp] theorem e_cm : evE (.cm c f es) cf env S = (evL es cf env S).bind (cmK cf c f) := by rw [evE] <;> rfl
@[simp] theorem e_mkv (q : Nat) : evE (.mkv q c es) cf env S = (match env[q]? with
    | some (some (.d (.cls c'))) => if c' = c then (evL es cf env S).bind (mkV cf c) else .bad
    | _ => .bad) := by rw [evE] <;> rfl
def metK2 (cf : Cfg) (f : Nat) (va : Va) (vs : List Va) (S2 : Sto) : R Va := cf.call f (va :: vs) S2
def metK (cf : Cfg) (env : Frm) (c f : Nat) (es : List E) (va : Va) (S1 : Sto) : R Va := match clsV va S1 with
    | some (c', _) => if c' = c then (evL es cf env S1).bind (metK2 cf f va) else .bad
    | none => .bad
@[simp] theorem metK2_ap (vs : List Va) : metK2 cf f v vs S = cf.call f (v :: vs) S := rfl
@[simp] theorem metK_ap : metK cf env c f es v S = (match clsV v S with
    | some (c', _) => if c' = c then (evL es cf env S).bind (metK2 cf f v) else .bad
    | none => .bad) := rfl
@[simp] theorem e_met : evE (.met c f e es) cf env S = (stl (evE e cf env S)).bind (metK cf env c f es) := by rw [evE] <;> rfl
@[simp] theorem e_bi (q : Bi) : evE (.bi q es) cf env S = (evL es cf env S).bind (biV cf q) := by rw [evE] <;> rfl
def isiK (P : Prg) (ts : List Ty) (va : Va) (S1 : Sto) : R Va := isV P va ts S1
@[simp] theorem isiK_ap (P : Prg) (ts : List Ty) : isiK P ts v S = isV P v ts S := rfl
@[simp] theorem e_isi (ts : List Ty) : evE (.isi e ts) cf env S = (stl (evE e cf env S)).bind (isiK cf.P ts) := by rw [evE] <;> rfl
def bmK2 (m : Bm) (va : Va) (vs : List Va) (S2 : Sto) : R Va := bmV m va vs S2
def bmK (m : Bm) (es : List E) (cf : Cfg) (env : Frm) (va : Va) (S1 : Sto) : R Va := if rcvB m va S1 then (evL es cf env S1).bind (bmK2 m va) else .bad
@[simp] theorem bmK2_ap (m : Bm) (vs : List Va) : bmK2 m v vs S = bmV m v vs S := rfl
@[simp] theorem bmK_ap (m : Bm) : bmK m es cf env v S = if rcvB m v S then (evL es cf env S).bind (bmK2 m v) else .bad := rfl
@[simp] theorem e_bm (m : Bm) : evE (.bm m e es) cf env S = (stl (evE e cf env S)).bind (bmK m es cf env) := by rw [evE] <;> rfl
@[simp] theorem l_nil : evL [] cf env S = .ok [] S := by rw [evL] <;> rfl
def consK2 (v : Va) (vs : List Va) (S2 : Sto) : R (List Va) := .ok (v :: vs) S2
def consK (es : List E) (cf : Cfg) (env : Frm) (v : Va) (S1 : Sto) : R (List Va) := (evL es cf env S1).bind (consK2 v)
@[simp] theorem consK2_ap (vs : List Va) : consK2 v vs S = .ok (v :: vs) S := rfl
@[simp] theorem consK_ap : consK es cf env v S = (evL es cf env S).bind (consK2 v) := rfl
@[simp] theorem l_cons : evL (e :: es) cf env S = (stl (evE e cf env S)).bind (consK es cf env) := by rw [evL] <;> rfl
/-! tests -/
def tnotK (b : Bool) (S1 : Sto) : R Bool := .ok (!b) S1
@[simp] theorem tnotK_ap : tnotK b S = .ok (!b) S := rfl
@[simp] theorem t_not : evT (.not e) cf env S = (evT e cf env S).bind tnotK := by rw [evT] <;> rfl
def tandK (e1 : E) (cf : Cfg) (env : Frm) (k : Bool) (S1 : Sto) : R Bool := match k with
    | true => evT e1 cf env S1
    | false => .ok false S1
@[simp] theorem tandK_t : tandK e1 cf env true S = evT e1 cf env S := rfl
@[simp] theorem tandK_f : tandK e1 cf env false S = .ok false S := rfl
@[simp] theorem t_and : evT (.and e e1) cf env S = (evT e cf env S).bind (tandK e1 cf env) := by rw [evT] <;> rfl
def torK (e1 : E) (cf : Cfg) (env : Frm) (k : Bool) (S1 : Sto) : R Bool := match k with
    | true => .ok true S1
    | false => evT e1 cf env S1
@[simp] theorem torK_t : torK e1 cf env true S = .ok true S := rfl
@[simp] theorem torK_f : torK e1 cf env false S = evT e1 cf env S := rfl
@[simp] theorem t_or : evT (.or e e1) cf env S = (evT e cf env S).bind (torK e1 cf env) := by rw [evT] <;> rfl
@[simp] theorem t_var (i : Nat) : evT (.var i) cf env S = tru (stl (evE (.var i) cf env S)) := by rw [evT] <;> intros <;> contradiction
@[simp] theorem t_con : evT (.con x) cf env S = tru (stl (evE (.con x) cf env S)) := by rw [evT] <;> intros <;> contradiction
@[simp] theorem t_bin (o : Bop) : evT (.bin o e e1) cf env S = tru (stl (evE (.bin o e e1) cf env S)) := by rw [evT] <;> intros <;> contradiction
@[simp] theorem t_cmp (o : Cop) : evT (.cmp o e e1) cf env S = tru (stl (evE (.cmp o e e1) cf env S)) := by rw [evT] <;> intros <;> contradiction
@[simp] theorem t_chn (o o' : Cop) : evT (.chn o o' e e1 e2) cf env S = tru (stl (evE (.chn o o' e e1 e2) cf env S)) := by rw [evT] <;> intros <;> contradiction
@[simp] theorem t_idx : evT (.idx e e1) cf env S = tru (stl (evE (.idx e e1) cf env S)) := by rw [evT] <;> intros <;> contradiction
@[simp] theorem t_fld : evT (.fld e f) cf env S = tru (stl (evE (.fld e f) cf env S)) := by rw [evT] <;> intros <;> contradiction
@[simp] theorem t_callF (f : Nat) : evT (.callF f e) cf env S = tru (stl (evE (.callF f e) cf env S)) := by rw [evT] <;> intros <;> contradiction
@[simp] theorem t_call : evT (.call f es) cf env S = tru (stl (evE (.call f es) cf env S)) := by rw [evT] <;> intros <;> contradiction
@[simp] theorem t_bi (q : Bi) : evT (.bi q es) cf env S = tru (stl (evE (.bi q es) cf env S)) := by rw [evT] <;> intros <;> contradiction
@[simp] theorem t_isi (ts : List Ty) : evT (.isi e ts) cf env S = tru (stl (evE (.isi e ts) cf env S)) := by rw [evT] <;> intros <;> contradiction
@[simp] theorem i_var (i : Nat) : evI (.var i) cf env S = (stl (evE (.var i) cf env S)).bind srcV := by rw [evI] <;> intros <;> contradiction
@[simp] theorem i_fld : evI (.fld e f) cf env S = (stl (evE (.fld e f) cf env S)).bind srcV := by rw [evI] <;> intros <;> contradiction
@[simp] theorem i_call : evI (.call f es) cf env S = (stl (evE (.call f es) cf env S)).bind srcV := by rw [evI] <;> intros <;> contradiction
@[simp] theorem i_rev : evI (.rev e) cf env S = (stl (evE (.rev e) cf env S)).bind srcV := by rw [evI] <;> intros <;> contradiction
@[simp] theorem i_rng : evI (.rng es) cf env S = (evL es cf env S).bind rngV := by rw [evI] <;> rfl
@[simp] theorem srcV_l : srcV (.d (.lst xs)) S = .ok (.fix xs) S := rfl
@[simp] theorem srcV_t : srcV (.d (.tup xs)) S = .ok (.fix xs) S := rfl
/-! operators -/
@[simp] theorem bin_ii (o : Bop) : binV cf o (.d (.int i)) (.d (.int j)) S = R.ofO ((iop o i j).map D.int) S := rfl
@[simp] theorem bin_ib (o : Bop) : binV cf o (.d (.int i)) (.d (.bl b)) S = addB o i b S := rfl
@[simp] theorem bin_ll : binV cf .add (.d (.lst xs)) (.d (.lst ys)) S = fl (xs ++ ys) S := rfl
@[simp] theorem iop_add : iop .add i j = some (i + j) := rfl
@[simp] theorem iop_sub : iop .sub i j = some (i - j) := rfl
@[simp] theorem iop_or (a b : Nat) : iop .or a b = some ((a ||| b : Nat) : Int) := by rw [← or_nat]; rfl
@[simp] theorem iop_xor (a b : Nat) : iop .xor a b = some ((a ^^^ b : Nat) : Int) := by rw [← xor_nat]; rfl
@[simp] theorem iop_and (a b : Nat) : iop .and a b = some ((a &&& b : Nat) : Int) := by rw [← and_nat]; rfl
theorem iop_and1 (a : Nat) : iop .and (a : Int) 1 = some ((md a 2 : Nat) : Int) := by
  have h := iop_and a 1
  rw [Nat.and_one_is_mod] at h
  exact h
theorem iop_shl1 (t : Nat) (h : t ≤ 1000000) : iop .shl 1 (t : Int) = some ((pw t : Nat) : Int) := by
  have hs : small 1 = true := by decide
  show (if 0 ≤ (t : Int) ∧ (t : Int) ≤ 1000000 ∧ small 1 = true then some ((1 : Int) * 2 ^ (t : Int).toNat) else none) = _
  rw [if_pos ⟨by omega, by omega, hs⟩]
  simp [pw]
theorem iop_shl (a t : Nat) (ha : a < 2 ^ 60) (h : t ≤ 1000000) : iop .shl (a : Int) (t : Int) = some ((shl a t : Nat) : Int) := by
  have hs : small (a : Int) = true := by unfold small; simp; omega
  show (if 0 ≤ (t : Int) ∧ (t : Int) ≤ 1000000 ∧ small (a : Int) = true then some ((a : Int) * 2 ^ (t : Int).toNat) else none) = _
  rw [if_pos ⟨by omega, by omega, hs⟩]
  simp [shl]
theorem iop_shr (a t : Nat) : iop .shr (a : Int) (t : Int) = some ((shr a t : Nat) : Int) := by
  show (if 0 ≤ (t : Int) then some ((a : Int) / 2 ^ (t : Int).toNat) else none) = _
  rw [if_pos (by omega)]
  simp [shr]
@[simp] theorem iop_mod (k : Nat) (h : 0 < k) : iop .mod i (k : Int) = some (i % k) := by
  show (if 0 < (k : Int) then some (i % (k : Int)) else none) = _
  rw [if_pos (by omega)]
@[simp] theorem cmp_lt : cmpV cf .lt (.d (.int i)) (.d (.int j)) S = .ok (.d (.bl (decide (i < j)))) S := rfl
@[simp] theorem cmp_le : cmpV cf .le (.d (.int i)) (.d (.int j)) S = .ok (.d (.bl (decide (i ≤ j)))) S := rfl
@[simp] theorem cmp_gt : cmpV cf .gt (.d (.int i)) (.d (.int j)) S = .ok (.d (.bl (decide (j < i)))) S := rfl
@[simp] theorem cmp_ge : cmpV cf .ge (.d (.int i)) (.d (.int j)) S = .ok (.d (.bl (decide (j ≤ i)))) S := rfl
@[simp] theorem cmp_eq : cmpV cf .eq (.d (.int i)) (.d (.int j)) S = .ok (.d (.bl (decide (i = j)))) S := by
  simp [cmpV, eqV, shp, plain, dep, eqD, BEq.beq]
@[simp] theorem cmp_ne : cmpV cf .ne (.d (.int i)) (.d (.int j)) S = .ok (.d (.bl (!decide (i = j)))) S := by
  simp [cmpV, eqV, shp, plain, dep, eqD, BEq.beq]
@[simp] theorem cmp_eqL (a b : List Int) : cmpV cf .eq (.d (.lst (dI a))) (.d (.lst (dI b))) S = .ok (.d (.bl (decide (a = b)))) S := by
  simp [cmpV, eqV, shp, plain, dep, eqD]
@[simp] theorem cmp_neL (a b : List Int) : cmpV cf .ne (.d (.lst (dI a))) (.d (.lst (dI b))) S = .ok (.d (.bl (!decide (a = b)))) S := by
  simp [cmpV, eqV, shp, plain, dep, eqD]
@[simp] theorem cmp_eqT (a b : List Int) : cmpV cf .eq (.d (.tup (dI a))) (.d (.tup (dI b))) S = .ok (.d (.bl (decide (a = b)))) S := by
  simp [cmpV, eqV, shp, plain, dep, eqD]
@[simp] theorem cmp_neT (a b : List Int) : cmpV cf .ne (.d (.tup (dI a))) (.d (.tup (dI b))) S = .ok (.d (.bl (!decide (a = b)))) S := by
  simp [cmpV, eqV, shp, plain, dep, eqD]
@[simp] theorem cmp_isn : cmpV cf .is_ (.d x) (.d .non) S = .ok (.d (.bl (isN x))) S := by
  cases x <;> rfl
@[simp] theorem cmp_isnn : cmpV cf .isn (.d x) (.d .non) S = .ok (.d (.bl (!isN x))) S := by
  cases x <;> rfl
@[simp] theorem idx_l : idxV (.d (.lst xs)) (.d (.int i)) S = R.ofO (ati xs i) S := rfl
@[simp] theorem idx_t : idxV (.d (.tup xs)) (.d (.int i)) S = R.ofO (ati xs i) S := rfl
@[simp] theorem idx_r : idxV (.r l) (.d (.int i)) S = (match S[l]? with
    | some (.lst xs) => R.ofO (ati xs i) S
    | _ => .bad) := by
  simp only [idxV, seqV_r]
  cases S[l]? with
  | none => rfl
  | some c => cases c <;> rfl
@[simp] theorem ati_nat : ati xs (k : Int) = xs[k]? := by unfold ati; simp
@[simp] theorem ati_0 : ati xs 0 = xs[0]? := by unfold ati; simp
@[simp] theorem ati_1 : ati xs 1 = xs[1]? := by unfold ati; simp
/-! builtins -/
@[simp] theorem bi_lenD (h : clsV (.d x) S = none) : biV cf .len [.d x] S = ofSeq (.d x) S fun xs => .ok (.d (.int xs.length)) S := by
  show lenV cf (.d x) S = _
  unfold lenV
  rw [h]
@[simp] theorem bi_len_l : biV cf .len [.d (.lst xs)] S = .ok (.d (.int xs.length)) S := rfl
@[simp] theorem bi_len_t : biV cf .len [.d (.tup xs)] S = .ok (.d (.int xs.length)) S := rfl
theorem bi_len_r (h : S[l]? = some (.lst xs)) : biV cf .len [.r l] S = .ok (.d (.int xs.length)) S := by
  show lenV cf (.r l) S = _
  simp [lenV, ofSeq, h]
@[simp] theorem bi_tup_l : biV cf .tuple [.d (.lst xs)] S = .ok (.d (.tup xs)) S := rfl
@[simp] theorem bi_tup_t : biV cf .tuple [.d (.tup xs)] S = .ok (.d (.tup xs)) S := rfl
@[simp] theorem bi_lst_l : biV cf .list [.d (.lst xs)] S = .ok (.f (.lst xs)) S := rfl
@[simp] theorem bi_lst_t : biV cf .list [.d (.tup xs)] S = .ok (.f (.lst xs)) S := rfl
@[simp] theorem bi_int : biV cf .int [.d (.int i)] S = .ok (.d (.int i)) S := rfl
@[simp] theorem bi_min2 : biV cf .min [.d (.int i), .d (.int j)] S = .ok (.d (.int (if j < i then j else i))) S := rfl
@[simp] theorem bi_max2 : biV cf .max [.d (.int i), .d (.int j)] S = .ok (.d (.int (if i < j then j else i))) S := rfl
@[simp] theorem bi_sum_l (q : List Int) : biV cf .sum [.d (.lst (dI q))] S = .ok (.d (.int q.sum)) S := by
  have e : ∀ v, biV cf .sum [v] S = sumV v S := fun v => by cases v with
    | d x => cases x <;> rfl
    | _ => rfl
  rw [e]
  simp [sumV]
@[simp] theorem bi_sum_t (q : List Int) : biV cf .sum [.d (.tup (dI q))] S = .ok (.d (.int q.sum)) S := by
  have e : ∀ v, biV cf .sum [v] S = sumV v S := fun v => by cases v with
    | d x => cases x <;> rfl
    | _ => rfl
  rw [e]
  simp [sumV]
theorem bi_max_l {q : List Int} {i : Int} : biV cf .max [.d (.lst (dI (i :: q)))] S = .ok (.d (.int (maxI i q))) S := by
  have e : ∀ v, biV cf .max [v] S = maxL v S := fun v => by cases v with
    | d x => cases x <;> rfl
    | _ => rfl
  rw [e]
  simp [maxL]
theorem bi_min_l {q : List Int} {i : Int} : biV cf .min [.d (.lst (dI (i :: q)))] S = .ok (.d (.int (minI i q))) S := by
  have e : ∀ v, biV cf .min [v] S = minL v S := fun v => by cases v with
    | d x => cases x <;> rfl
    | _ => rfl
  rw [e]
  simp [minL]
@[simp] theorem isV_i (P : Prg) (ts : List Ty) : isV P (.d (.int i)) ts S = .ok (.d (.bl (ts.any fun t => tyD (.int i) t P))) S := rfl
@[simp] theorem isV_b (P : Prg) (ts : List Ty) : isV P (.d (.bl b)) ts S = .ok (.d (.bl (ts.any fun t => tyD (.bl b) t P))) S := rfl
@[simp] theorem isV_t (P : Prg) (ts : List Ty) : isV P (.d (.tup xs)) ts S = .ok (.d (.bl (ts.any fun t => tyD (.tup xs) t P))) S := rfl
@[simp] theorem isV_l (P : Prg) (ts : List Ty) : isV P (.d (.lst xs)) ts S = .ok (.d (.bl (ts.any fun t => tyD (.lst xs) t P))) S := rfl
@[simp] theorem tyD_ii (P : Prg) : tyD (.int i) .int P = true := rfl
@[simp] theorem tyD_ib (P : Prg) : tyD (.int i) .bool P = false := rfl
@[simp] theorem tyD_tt (P : Prg) : tyD (.tup xs) .tuple P = true := rfl
@[simp] theorem tyD_ll (P : Prg) : tyD (.lst xs) .list P = true := rfl
@[simp] theorem tyD_tl (P : Prg) : tyD (.tup xs) .list P = false := rfl
@[simp] theorem tyD_lt (P : Prg) : tyD (.lst xs) .tuple P = false := rfl
/-! statements -/
@[simp] theorem y_nil : exSs [] cf env S = .ok .nx env S := by rw [exSs]
def asgK (i : Nat) (env : Frm) (cf : Cfg) (ss : List Sm) (v : Va) (S1 : Sto) : RS := exSs ss cf (env.set i (some v)) S1
@[simp] theorem asgK_ap (i : Nat) (ss : List Sm) : asgK i env cf ss v S = exSs ss cf (env.set i (some v)) S := rfl
@[simp] theorem y_asg (i : Nat) (ss : List Sm) : exSs (.asg (.nm i) e :: ss) cf env S = (stl (evE e cf env S)).st env (asgK i env cf ss) := by
  rw [exSs, exS]
  cases stl (evE e cf env S) <;> rfl
def retK (env : Frm) (v : Va) (S1 : Sto) : RS := .ok (.rt v) env S1
@[simp] theorem retK_ap : retK env v S = .ok (.rt v) env S := rfl
@[simp] theorem y_ret (ss : List Sm) : exSs (.ret e :: ss) cf env S = (evE e cf env S).st env (retK env) := by
  rw [exSs, exS]
  cases evE e cf env S <;> rfl
def exK (env : Frm) (cf : Cfg) (ss : List Sm) (_ : Va) (S1 : Sto) : RS := exSs ss cf env S1
@[simp] theorem exK_ap (ss : List Sm) : exK env cf ss v S = exSs ss cf env S := rfl
@[simp] theorem y_ex (ss : List Sm) : exSs (.ex e :: ss) cf env S = (stl (evE e cf env S)).st env (exK env cf ss) := by
  rw [exSs, exS]
  cases stl (evE e cf env S) <;> rfl
/-- behind one branch -/
def andThen (r : RS) (cf : Cfg) (ss : List Sm) : RS := match r with
  | .ok .nx e S1 => exSs ss cf e S1
  | r => r
@[simp] theorem andThen_nx (ss : List Sm) : andThen (.ok .nx env S) cf ss = exSs ss cf env S := rfl
@[simp] theorem andThen_rt (ss : List Sm) : andThen (.ok (.rt v) env S) cf ss = .ok (.rt v) env S := rfl
/-- one branch, the rest behind it -/
def iteK (p q : List Sm) (env : Frm) (cf : Cfg) (ss : List Sm) (k : Bool) (S1 : Sto) : RS := match k with
  | true => andThen (exSs p cf env S1) cf ss
  | false => andThen (exSs q cf env S1) cf ss
@[simp] theorem iteK_t (p q ss : List Sm) : iteK p q env cf ss true S = andThen (exSs p cf env S) cf ss := rfl
@[simp] theorem iteK_f (p q ss : List Sm) : iteK p q env cf ss false S = andThen (exSs q cf env S) cf ss := rfl
@[simp] theorem y_ite (p q ss : List Sm) : exSs (.ite e p q :: ss) cf env S = (evT e cf env S).st env (iteK p q env cf ss) := by
  rw [exSs, exS]
  cases evT e cf env S with
  | ok b S1 => cases b <;> rfl
  | _ => rfl
/-- a fresh list in a new cell -/
def ownK (i : Nat) (env : Frm) (cf : Cfg) (ss : List Sm) (v : Va) (S1 : Sto) : RS := match v with
  | .f (.lst xs) => exSs ss cf (env.set i (some (.r S1.length))) (S1 ++ [.lst xs])
  | .f (.ins c fs) => exSs ss cf (env.set i (some (.r S1.length))) (S1 ++ [.ins c fs])
  | _ => .bad
@[simp] theorem ownK_l (i : Nat) (ss : List Sm) : ownK i env cf ss (.f (.lst xs)) S = exSs ss cf (env.set i (some (.r S.length))) (S ++ [.lst xs]) := rfl
@[simp] theorem y_own (i : Nat) (ss : List Sm) : exSs (.own i e :: ss) cf env S = (evE e cf env S).st env (ownK i env cf ss) := by
  rw [exSs, exS]
  cases evE e cf env S with
  | ok v S1 =>
    cases v with
    | f c => cases c <;> rfl
    | _ => rfl
  | _ => rfl
def frzK (i : Nat) (env : Frm) (cf : Cfg) (S : Sto) (ss : List Sm) : Option (Option Va) → RS
  | some (some (.r l)) => (match S[l]? with
    | some (.lst xs) => exSs ss cf (env.set i (some (.d (.lst xs)))) (S.set l .dead)
    | some (.ins c fs) => exSs ss cf (env.set i (some (.d (.obj c fs)))) (S.set l .dead)
    | _ => .bad)
  | some (some (.d _)) => exSs ss cf env S
  | _ => .bad
@[simp] theorem frzK_r (i : Nat) (ss : List Sm) : frzK i env cf S ss (some (some (.r l))) = (match S[l]? with
    | some (.lst xs) => exSs ss cf (env.set i (some (.d (.lst xs)))) (S.set l .dead)
    | some (.ins c fs) => exSs ss cf (env.set i (some (.d (.obj c fs)))) (S.set l .dead)
    | _ => .bad) := rfl
@[simp] theorem frzK_d (i : Nat) (ss : List Sm) : frzK i env cf S ss (some (some (.d x))) = exSs ss cf env S := rfl
@[simp] theorem y_frz (i : Nat) (ss : List Sm) : exSs (.frz i :: ss) cf env S = frzK i env cf S ss (env[i]?) := by
  rw [exSs, exS]
  cases env[i]? with
  | none => rfl
  | some a =>
    cases a with
    | none => rfl
    | some v =>
      cases v with
      | d x => rfl
      | f c => rfl
      | r l =>
        show (match (match S[l]? with
          | some c => (match c.fz with
            | some x => .ok .nx (env.set i (some (.d x))) (S.set l .dead)
            | none => .bad)
          | none => .bad : RS) with
          | .ok .nx e S1 => exSs ss cf e S1
          | r => r) = _
        rw [frzK]
        cases S[l]? with
        | none => rfl
        | some c => cases c <;> rfl
/-- a store at an index -/
def subK (env : Frm) (cf : Cfg) (ss : List Sm) (v vo vi : Va) (S3 : Sto) : RS := match v with
  | .d x => (match subV vo vi x S3 with
    | some S4 => exSs ss cf env S4
    | none => .bad)
  | _ => .bad
@[simp] theorem subK_d (ss : List Sm) : subK env cf ss (.d x) v w S = (match subV v w x S with
    | some S4 => exSs ss cf env S4
    | none => .bad) := rfl
def subK2 (e2 : E) (env : Frm) (cf : Cfg) (ss : List Sm) (v vo : Va) (S2 : Sto) : RS := (stl (evE e2 cf env S2)).st env (subK env cf ss v vo)
def subK1 (e1 e2 : E) (env : Frm) (cf : Cfg) (ss : List Sm) (v : Va) (S1 : Sto) : RS := (stl (evE e1 cf env S1)).st env (subK2 e2 env cf ss v)
@[simp] theorem subK2_ap (ss : List Sm) : subK2 e2 env cf ss v w S = (stl (evE e2 cf env S)).st env (subK env cf ss v w) := rfl
@[simp] theorem subK1_ap (ss : List Sm) : subK1 e1 e2 env cf ss v S = (stl (evE e1 cf env S)).st env (subK2 e2 env cf ss v) := rfl
@[simp] theorem y_sub (ss : List Sm) : exSs (.sub e1 e2 e :: ss) cf env S = (stl (evE e cf env S)).st env (subK1 e1 e2 env cf ss) := by
  rw [exSs, exS]
  unfold subK1 subK2
  cases stl (evE e cf env S) with
  | ok v S1 =>
    simp only [R.st]
    cases stl (evE e1 cf env S1) with
    | ok vo S2 =>
      simp only [R.st]
      cases stl (evE e2 cf env S2) with
      | ok vi S3 =>
        simp only [R.st]
        cases v with
        | d x =>
          simp only [subK]
          cases subV vo vi x S3 <;> rfl
        | _ => rfl
      | _ => rfl
    | _ => rfl
  | _ => rfl
@[simp] theorem subV_r : subV (.r l) (.d (.int (k : Int))) x S = (match S[l]? with
    | some (.lst xs) => if k < xs.length then some (S.set l (.lst (xs.set k x))) else none
    | _ => none) := by
  simp only [subV]
  cases e : S[l]? with
  | none => simp [e]
  | some c => cases c <;> simp [e]
@[simp] theorem bm_app : bmV .append (.r l) [.d x] S = (match S[l]? with
    | some (.lst xs) => if xs.length < LL then .ok (.d .non) (S.set l (.lst (xs ++ [x]))) else .bad
    | _ => .bad) := by
  show appV (.r l) [.d x] S = _
  simp only [appV, cellL]
  all_goals
    cases S[l]? with
    | none => rfl
    | some c => cases c <;> rfl
@[simp] theorem bm_pop : bmV .pop (.r l) [] S = (match S[l]? with
    | some (.lst xs) => (match xs[xs.length - 1]? with
      | some y => .ok (.d y) (S.set l (.lst xs.dropLast))
      | none => .bad)
    | _ => .bad) := by
  show popV (.r l) [] S = _
  simp only [popV, cellL]
  all_goals
    cases S[l]? with
    | none => rfl
    | some c => cases c <;> rfl
@[simp] theorem bm_rvs : bmV .reverse (.r l) [] S = (match S[l]? with
    | some (.lst xs) => .ok (.d .non) (S.set l (.lst xs.reverse))
    | _ => .bad) := by
  show rvsV (.r l) [] S = _
  simp only [rvsV, cellL]
  all_goals
    cases S[l]? with
    | none => rfl
    | some c => cases c <;> rfl
@[simp] theorem bm_cnt (q : List Int) : bmV .count (.d (.lst (dI q))) [.d (.int i)] S = .ok (.d (.int (q.count i : Nat))) S := by
  show cntV (.d (.lst (dI q))) [.d (.int i)] S = _
  simp [cntV]
@[simp] theorem rcv_app : rcvB .append (.r l) S = (match S[l]? with
    | some (.lst _) => true
    | _ => false) := by
  simp only [rcvB, seqV_r]
  cases S[l]? with
  | none => rfl
  | some c => cases c <;> rfl
@[simp] theorem rcv_pop : rcvB .pop (.r l) S = (match S[l]? with
    | some (.lst _) => true
    | _ => false) := by
  simp only [rcvB, seqV_r]
  cases S[l]? with
  | none => rfl
  | some c => cases c <;> rfl
@[simp] theorem rcv_rvs : rcvB .reverse (.r l) S = (match S[l]? with
    | some (.lst _) => true
    | _ => false) := by
  simp only [rcvB, seqV_r]
  cases S[l]? with
  | none => rfl
  | some c => cases c <;> rfl
@[simp] theorem rcv_cnt : rcvB .count (.d (.lst xs)) S = true := rfl
/-- a field's store -/
def fldK (f : Nat) (env : Frm) (cf : Cfg) (ss : List Sm) (v vo : Va) (S2 : Sto) : RS := match v, vo with
  | .d x, .r l => (match S2[l]? with
    | some (.ins c fs) => if fs.length < 500 ∧ (cf.P.ini c).isSome = true then exSs ss cf env (S2.set l (.ins c (putFl f x fs))) else .bad
    | _ => .bad)
  | _, _ => .bad
@[simp] theorem fldK_d (ss : List Sm) : fldK f env cf ss (.d x) (.r l) S = (match S[l]? with
    | some (.ins c fs) => if fs.length < 500 ∧ (cf.P.ini c).isSome = true then exSs ss cf env (S.set l (.ins c (putFl f x fs))) else .bad
    | _ => .bad) := rfl
def fldK1 (e1 : E) (f : Nat) (env : Frm) (cf : Cfg) (ss : List Sm) (v : Va) (S1 : Sto) : RS := (stl (evE e1 cf env S1)).st env (fldK f env cf ss v)
@[simp] theorem fldK1_ap (ss : List Sm) : fldK1 e1 f env cf ss v S = (stl (evE e1 cf env S)).st env (fldK f env cf ss v) := rfl
@[simp] theorem y_fld (ss : List Sm) : exSs (.fld e1 f e :: ss) cf env S = (stl (evE e cf env S)).st env (fldK1 e1 f env cf ss) := by
  rw [exSs, exS]
  unfold fldK1
  cases stl (evE e cf env S) with
  | ok v S1 =>
    simp only [R.st]
    cases stl (evE e1 cf env S1) with
    | ok vo S2 =>
      simp only [R.st]
      cases v with
      | d x =>
        cases vo with
        | r l =>
          simp only [fldK]
          cases S2[l]? with
          | none => rfl
          | some c =>
            cases c with
            | ins c fs =>
              by_cases h : fs.length < 500 ∧ (cf.P.ini c).isSome = true
              · simp only [if_pos h]
              · simp only [if_neg h]
            | _ => rfl
        | _ => rfl
      | _ => rfl
    | _ => rfl
  | _ => rfl
@[simp] theorem fin_rt : fin n (.ok (.rt (.d x)) env S) = .ok (.d x) (S.take n) := rfl
@[simp] theorem fin_rf (c : Ce) : fin n (.ok (.rt (.f c)) env S) = .ok (.f c) (S.take n) := rfl
@[simp] theorem fin_nx : fin n (.ok .nx env S) = .ok (.d .non) (S.take n) := rfl
end
/-- a loop, whatever stands around it -/
theorem for_use {C : RS → Prop} {t : Tg} {src : E} {body ss : List Sm} {cf : Cfg} {env : Frm} {S S1 : Sto} {xs : List D} (hs : evI src cf env S = .ok (.fix xs) S1) (Inv : Nat → Frm → Sto → Prop) (h0 : Inv 0 env S1)
    (st : ∀ i x env S, xs[i]? = some x → Inv i env S → ∃ e1 env' S', setT t x env = some e1 ∧ (exSs body cf e1 S = .ok .nx env' S' ∨ exSs body cf e1 S = .ok .ct env' S') ∧ Inv (i + 1) env' S')
    (k : ∀ env' S', Inv xs.length env' S' → C (exSs ss cf env' S')) : C (exSs (.for_ t src body :: ss) cf env S) := by
  obtain ⟨env', S', h1, h2⟩ := for_inv (ss := ss) hs Inv h0 st
  rw [h2]
  exact k env' S' h1
/-- a call -/
theorem run_of {P : Prg} {T : Nat → Option Fn} {n f : Nat} {fn : Fn} {vs : List Va} {S : Sto} (h : T f = some fn) (hl : vs.length = fn.np) : run P T (n + 1) f vs S = fin S.length (exSs fn.body ⟨P, run P T n, none⟩ (env0 fn vs) S) := by
  rw [run, h]
  simp only [if_pos hl]
end G
/-! M: lots as numbers; orders. -/
namespace G
theorem take_succ {α : Type} {l : List α} {i : Nat} {y : α} (h : l[i]? = some y) : l.take (i + 1) = l.take i ++ [y] := by
  rw [List.take_add_one, h]; rfl
theorem dN_at {l : List Nat} {i : Nat} {x : D} (h : (dN l)[i]? = some x) : ∃ y, l[i]? = some y ∧ x = .int (y : Nat) := by
  rw [dN_get] at h
  cases e : l[i]? with
  | none => rw [e] at h; cases h
  | some y => rw [e] at h; cases h; exact ⟨y, rfl, rfl⟩
theorem map_at {α : Type} {f : α → D} {l : List α} {i : Nat} {x : D} (h : (l.map f)[i]? = some x) : ∃ y, l[i]? = some y ∧ x = f y := by
  rw [List.getElem?_map] at h
  cases e : l[i]? with
  | none => rw [e] at h; cases h
  | some y => rw [e] at h; cases h; exact ⟨y, rfl, rfl⟩
theorem range_at {n i y : Nat} (h : (List.range n)[i]? = some y) : y = i ∧ i < n := by
  rw [List.getElem?_eq_some_iff] at h
  obtain ⟨h1, h2⟩ := h
  rw [List.length_range] at h1
  rw [List.getElem_range] at h2
  exact ⟨h2.symm, h1⟩
theorem rng_at {α : Type} {f : Nat → α} {k x : Nat} (h : x < k) : ((List.range k).map f)[x]? = some (f x) := by
  simp [h]
/-! ### bits -/
theorem md_bit (m t : Nat) : md (shr m t) 2 = (m.testBit t).toNat := by
  unfold md shr
  rw [Nat.testBit_eq_decide_div_mod_eq]
  have : m / 2 ^ t % 2 = 0 ∨ m / 2 ^ t % 2 = 1 := by omega
  rcases this with h | h <;> simp [h]
/-- the number of a lot -/
def numOf (l : List Nat) : Nat := l.foldl (fun a t => a ||| pw t) 0
theorem foldl_bit (l : List Nat) (a t : Nat) : (l.foldl (fun a t => a ||| pw t) a).testBit t = (a.testBit t || decide (t ∈ l)) := by
  induction l generalizing a with
  | nil => simp
  | cons x r ih =>
    rw [List.foldl_cons, ih, Nat.testBit_or]
    unfold pw
    rw [Nat.testBit_two_pow]
    by_cases h : x = t
    · subst h; simp
    · have h2 : ¬ t = x := fun e => h e.symm
      simp [h, h2]
theorem numOf_bit (l : List Nat) (t : Nat) : (numOf l).testBit t = decide (t ∈ l) := by
  unfold numOf
  rw [foldl_bit]
  simp
/-- the things of a number -/
def lotN (m : Nat) : List Nat := (List.range 12).filter fun t => m.testBit t
theorem lotN_mem {m t : Nat} : t ∈ lotN m ↔ t < 12 ∧ m.testBit t = true := by
  unfold lotN
  simp
theorem lotN_nodup (m : Nat) : (lotN m).Nodup := List.Nodup.sublist List.filter_sublist List.nodup_range
theorem bit_lt {m k t : Nat} (h : m < 2 ^ k) (hb : m.testBit t = true) : t < k := by
  by_cases ht : t < k
  · exact ht
  · have := Nat.testBit_lt_two_pow (Nat.lt_of_lt_of_le h (Nat.pow_le_pow_right (by decide) (by omega : k ≤ t)))
    rw [this] at hb
    cases hb
theorem numOf_eq {l : List Nat} {m : Nat} (h : ∀ t, t ∈ l ↔ m.testBit t = true) : numOf l = m := by
  apply Nat.eq_of_testBit_eq
  intro t
  rw [numOf_bit]
  by_cases ht : m.testBit t = true
  · rw [ht]; simpa using (h t).mpr ht
  · rw [Bool.not_eq_true] at ht
    rw [ht, decide_eq_false]
    intro hm
    rw [(h t).mp hm] at ht
    cases ht
theorem lotN_num {m : Nat} (h : m < 2 ^ 12) : numOf (lotN m) = m := numOf_eq fun t => by
  rw [lotN_mem]
  exact ⟨fun q => q.2, fun q => ⟨bit_lt h q, q⟩⟩
theorem pw_lt {a b : Nat} (h : a < b) : pw a < pw b := Nat.pow_lt_pow_right (by decide) h
theorem pw_le {a b : Nat} (h : a ≤ b) : pw a ≤ pw b := Nat.pow_le_pow_right (by decide) h
theorem pw_pos (a : Nat) : 0 < pw a := Nat.pow_pos (by decide)
theorem xor_lt {a b k : Nat} (ha : a < pw k) (hb : b < pw k) : a ^^^ b < pw k := Nat.xor_lt_two_pow ha hb
/-! ### sorted -/
def lotI (m : Nat) : List Int := (lotN m).map fun (t : Nat) => (t : Int)
theorem dN_lot (m : Nat) : dN (lotN m) = dI (lotI m) := dN_dI _
/-- a number's lot as data -/
def lotD (m : Nat) : D := .tup (dN (lotN m))
def insM (x : Nat) : List Nat → List Nat
  | [] => [x]
  | y :: r => if lexLt (lotI y) (lotI x) then y :: insM x r else x :: y :: r
def srtM : List Nat → List Nat
  | [] => []
  | x :: r => insM x (srtM r)
theorem insM_perm (x : Nat) : ∀ l : List Nat, (insM x l).Perm (x :: l)
  | [] => .refl _
  | y :: r => by
    unfold insM
    split
    · exact ((insM_perm x r).cons y).trans (.swap _ _ _)
    · exact .refl _
theorem srtM_perm : ∀ l : List Nat, (srtM l).Perm l
  | [] => .refl _
  | x :: r => (insM_perm x (srtM r)).trans ((srtM_perm r).cons x)
theorem insT_M (x : Nat) : ∀ l : List Nat, insT (lotI x) (l.map lotI) = (insM x l).map lotI
  | [] => rfl
  | y :: r => by
    unfold insM
    rw [List.map_cons]
    unfold insT
    split
    · rw [insT_M x r]; rfl
    · rfl
theorem sortT_M : ∀ l : List Nat, sortT (l.map lotI) = (srtM l).map lotI
  | [] => rfl
  | x :: r => by
    rw [List.map_cons, sortT, sortT_M r, insT_M]; rfl
theorem tintsD_M : ∀ l : List Nat, tintsD (l.map lotD) = some (l.map lotI)
  | [] => rfl
  | x :: r => by
    rw [List.map_cons]
    unfold lotD
    rw [tintsD, dN_lot, intsD_dI]
    have := tintsD_M r
    unfold lotD at this
    rw [this]; rfl
theorem dT_M (l : List Nat) : dT (l.map lotI) = l.map lotD := by
  unfold dT lotD
  rw [List.map_map]
  congr 1
  funext m
  rw [dN_lot]; rfl
theorem sortD_M (l : List Nat) : sortD (l.map lotD) = some ((srtM l).map lotD) := by
  unfold sortD
  cases l with
  | nil => rfl
  | cons x r =>
    have e : intsD ((x :: r).map lotD) = none := rfl
    rw [e]
    simp only [tintsD_M, sortT_M, dT_M]
theorem insI_perm (x : Int) : ∀ l : List Int, (insI x l).Perm (x :: l)
  | [] => .refl _
  | y :: r => by
    unfold insI
    split
    · exact .refl _
    · exact ((insI_perm x r).cons y).trans (.swap _ _ _)
theorem sortI_perm : ∀ l : List Int, (sortI l).Perm l
  | [] => .refl _
  | x :: r => (insI_perm x (sortI r)).trans ((sortI_perm r).cons x)
def insN (x : Nat) : List Nat → List Nat
  | [] => [x]
  | y :: r => if x ≤ y then x :: y :: r else y :: insN x r
def srtN : List Nat → List Nat
  | [] => []
  | x :: r => insN x (srtN r)
theorem insN_perm (x : Nat) : ∀ l : List Nat, (insN x l).Perm (x :: l)
  | [] => .refl _
  | y :: r => by
    unfold insN
    split
    · exact .refl _
    · exact ((insN_perm x r).cons y).trans (.swap _ _ _)
theorem srtN_perm : ∀ l : List Nat, (srtN l).Perm l
  | [] => .refl _
  | x :: r => (insN_perm x (srtN r)).trans ((srtN_perm r).cons x)
theorem insI_N (x : Nat) : ∀ l : List Nat, insI (x : Int) (l.map fun (t : Nat) => (t : Int)) = (insN x l).map fun (t : Nat) => (t : Int)
  | [] => rfl
  | y :: r => by
    unfold insN
    rw [List.map_cons]
    unfold insI
    by_cases h : x ≤ y
    · rw [if_pos h, if_pos (by omega)]; rfl
    · rw [if_neg h, if_neg (by omega), insI_N x r]; rfl
theorem sortI_N : ∀ l : List Nat, sortI (l.map fun (t : Nat) => (t : Int)) = (srtN l).map fun (t : Nat) => (t : Int)
  | [] => rfl
  | x :: r => by
    rw [List.map_cons, sortI, sortI_N r, insI_N]; rfl
theorem sortD_N (l : List Nat) : sortD (dN l) = some (dN (srtN l)) := by
  unfold sortD
  rw [intsD_dN]
  simp only [sortI_N, dN_dI]
@[simp] theorem bi_srt_M (cf : Cfg) (l : List Nat) (S : Sto) : biV cf .sorted [.d (.lst (l.map lotD))] S = .ok (.f (.lst ((srtM l).map lotD))) S := by
  show sortV (.d (.lst (l.map lotD))) S = _
  simp [sortV, sortD_M]
@[simp] theorem bi_srt_N (cf : Cfg) (l : List Nat) (S : Sto) : biV cf .sorted [.d (.lst (dN l))] S = .ok (.f (.lst (dN (srtN l)))) S := by
  show sortV (.d (.lst (dN l))) S = _
  simp [sortV, sortD_N]
@[simp] theorem bi_srt_Nt (cf : Cfg) (l : List Nat) (S : Sto) : biV cf .sorted [.d (.tup (dN l))] S = .ok (.f (.lst (dN (srtN l)))) S := by
  show sortV (.d (.tup (dN l))) S = _
  simp [sortV, sortD_N]
/-! ### depths, as they are computed -/
def dpF (n : Nat) (L : List Nat) : Nat → Nat → Nat
  | 0, x => if x ∈ L then 0 else n + 1
  | t + 1, x => min (dpF n L t x) (dpF n L t (x ^^^ pw t) + 1)
theorem min_cast (a b : Nat) : (if (b : Int) + 1 < a then (b : Int) + 1 else a) = ((min a (b + 1) : Nat) : Int) := by
  split <;> omega
theorem filt_range {p : Nat → Bool} {a b : Nat} (h : a ≤ b) (hp : ∀ t, a ≤ t → p t = false) : (List.range b).filter p = (List.range a).filter p := by
  obtain ⟨c, rfl⟩ := Nat.exists_eq_add_of_le h
  rw [List.range_add, List.filter_append]
  have : ((List.range c).map (a + ·)).filter p = [] := by
    rw [List.filter_eq_nil_iff]
    intro x hx
    obtain ⟨y, _, rfl⟩ := List.mem_map.mp hx
    rw [hp _ (by omega)]
    simp
  rw [this, List.append_nil]
theorem lot_bits {m : Nat} (h : m < 2 ^ 12) : (List.range (PySem.Builtin.Int.intBits (m : Int))).filter (fun t => m.testBit t) = lotN m := by
  have hb : m < 2 ^ PySem.Builtin.Int.intBits (m : Int) := by
    unfold PySem.Builtin.Int.intBits
    by_cases hm : m = 0
    · subst hm; simp
    · have e : ((m : Int) == 0) = false := by simp; omega
      rw [e]
      simp only [Bool.false_eq_true, if_false]
      rw [Int.natAbs_natCast]
      exact Nat.lt_log2_self
  have off : ∀ k, m < 2 ^ k → ∀ t, k ≤ t → m.testBit t = false := fun k hk t ht => Nat.testBit_lt_two_pow (Nat.lt_of_lt_of_le hk (Nat.pow_le_pow_right (by decide) ht))
  unfold lotN
  rcases Nat.le_total (PySem.Builtin.Int.intBits (m : Int)) 12 with q | q
  · exact (filt_range q (off _ hb)).symm
  · exact filt_range q (off _ h)
theorem intBits_small {m : Nat} (h : m < 2 ^ 12) : PySem.Builtin.Int.intBits (m : Int) ≤ 12 := by
  unfold PySem.Builtin.Int.intBits
  by_cases hm : m = 0
  · subst hm; simp
  · have e : ((m : Int) == 0) = false := by simp; omega
    rw [e]
    simp only [Bool.false_eq_true, if_false]
    rw [Int.natAbs_natCast]
    have := (Nat.log2_lt hm).mpr h
    omega
theorem lotN_lt {m t k : Nat} (h : m < pw k) (ht : t ∈ lotN m) : t < k := bit_lt h (lotN_mem.mp ht).2
theorem pw12 {m k : Nat} (h : m < pw k) (hk : k ≤ 12) : m < 2 ^ 12 := Nat.lt_of_lt_of_le h (pw_le hk)
/-- a row that stands for m -/
def RowD (n m : Nat) (x : D) : Prop := ∃ l : List Nat, (x = .tup (dN l) ∨ x = .lst (dN l)) ∧ l.Nodup ∧ (∀ t ∈ l, t < n) ∧ numOf l = m
theorem rowD_lot {n m : Nat} (h : m < pw n) (hn : n ≤ 12) : RowD n m (lotD m) := ⟨lotN m, .inl rfl, lotN_nodup m, fun t ht => lotN_lt h ht, lotN_num (pw12 h hn)⟩
theorem rowD_rev {n m : Nat} (h : m < pw n) (hn : n ≤ 12) : RowD n m (.lst (dN (lotN m).reverse)) :=
  ⟨(lotN m).reverse, .inr rfl, List.pairwise_reverse.mpr ((lotN_nodup m).imp Ne.symm), fun t ht => lotN_lt h (List.mem_reverse.mp ht), by
    refine numOf_eq fun t => ?_
    rw [List.mem_reverse, lotN_mem]
    exact ⟨fun q => q.2, fun q => ⟨bit_lt (pw12 h hn) q, q⟩⟩⟩
theorem numOf_lt {l : List Nat} {n : Nat} (h : ∀ t ∈ l, t < n) : numOf l < pw n := by
  refine Nat.lt_pow_two_of_testBit _ fun t ht => ?_
  rw [numOf_bit, decide_eq_false]
  intro hm
  have := h t hm
  omega
/-! ### a family -/
def insL (n : Nat) (L : List Nat) : List D := (List.range (pw n)).map fun x => .bl (decide (x ∈ L))
def depI (n : Nat) (L : List Nat) : List Nat := (List.range (pw n)).map fun x => dpF n L n x
/-! ### cells at the end of the store -/
section
variable {S r : Sto} {a b c : Ce}
@[simp] theorem at0 : (S ++ a :: r)[S.length]? = some a := by simp
@[simp] theorem at1 : (S ++ a :: b :: r)[S.length + 1]? = some b := by
  rw [List.getElem?_append_right (by omega)]
  have : S.length + 1 - S.length = 1 := by omega
  rw [this]; rfl
@[simp] theorem set0 : (S ++ a :: r).set S.length c = S ++ c :: r := by
  rw [List.set_append_right _ _ (Nat.le_refl _), Nat.sub_self]; rfl
@[simp] theorem set1 : (S ++ a :: b :: r).set (S.length + 1) c = S ++ a :: c :: r := by
  rw [List.set_append_right _ _ (by omega)]
  have : S.length + 1 - S.length = 1 := by omega
  rw [this]; rfl
@[simp] theorem take0 : (S ++ r).take S.length = S := by simp
@[simp] theorem take1 : (S ++ a :: r).take (S.length + 1) = S ++ [a] := by
  rw [List.take_append]
  have : S.length + 1 - S.length = 1 := by omega
  rw [this, List.take_of_length_le (by omega)]
  simp
@[simp] theorem fin_own (env : Frm) (xs : List D) : fin S.length (.ok (.rt (.r S.length)) env (S ++ .lst xs :: r)) = .ok (.f (.lst xs)) S := by
  show (if S.length < S.length then R.ok (Va.r S.length) ((S ++ Ce.lst xs :: r).take S.length) else (match (S ++ Ce.lst xs :: r)[S.length]? with
    | some .dead => .bad
    | some c => .ok (.f c) ((S ++ Ce.lst xs :: r).take S.length)
    | none => .bad)) = _
  rw [if_neg (Nat.lt_irrefl _), at0, take0]
end
theorem set_range {α : Type} {f : Nat → α} {k x : Nat} {v : α} (h : x < k) : ((List.range k).map f).set x v = (List.range k).map fun y => if y = x then v else f y := by
  apply List.ext_getElem?
  intro i
  rw [List.getElem?_set, List.getElem?_map, List.getElem?_map]
  by_cases e : x = i
  · subst e
    simp [h]
  · rw [if_neg e]
    by_cases hi : i < k
    · rw [List.getElem?_range hi]
      have : ¬ i = x := fun q => e q.symm
      simp [this]
    · rw [List.getElem?_eq_none (by simp; omega)]; rfl
/-- rows that stand for ms -/
def Rows (n : Nat) (ms : List Nat) (rows : List D) : Prop := rows.length = ms.length ∧ ∀ (i m : Nat), ms[i]? = some m → ∃ x, rows[i]? = some x ∧ RowD n m x
theorem rows_map {n : Nat} {ms : List Nat} {f : Nat → D} (h : ∀ m ∈ ms, RowD n m (f m)) : Rows n ms (ms.map f) := ⟨by simp, fun i m e => ⟨f m, by rw [List.getElem?_map, e]; rfl, h m (List.mem_of_getElem? e)⟩⟩
theorem lt_LL {k : Nat} (h : k < 16777216) : k < LL := h
theorem nodup_take {l : List Nat} (nd : l.Nodup) {i y : Nat} (hy : l[i]? = some y) : y ∉ l.take i := fun hm => by
  obtain ⟨j, hj⟩ := List.mem_iff_getElem?.mp hm
  have hj1 : j < i := by
    by_cases q : j < i
    · exact q
    · rw [List.getElem?_eq_none (by rw [List.length_take]; omega)] at hj; cases hj
  rw [List.getElem?_take_of_lt hj1] at hj
  have := (List.getElem?_inj (List.getElem?_eq_some_iff.mp hj).1 nd).mp (hj.trans hy.symm)
  omega
theorem insL_congr {n : Nat} {L L' : List Nat} (h : ∀ x, x ∈ L ↔ x ∈ L') : insL n L = insL n L' := by
  unfold insL
  congr 1
  funext x
  simp [h x]
theorem dpF_congr {n : Nat} {L L' : List Nat} (h : ∀ x, x ∈ L ↔ x ∈ L') : ∀ t x, dpF n L t x = dpF n L' t x
  | 0, x => by simp only [dpF, h x]
  | t + 1, x => by simp only [dpF, dpF_congr h t]
theorem depI_congr {n : Nat} {L L' : List Nat} (h : ∀ x, x ∈ L ↔ x ∈ L') : depI n L = depI n L' := by
  unfold depI
  congr 1
  funext x
  exact dpF_congr h n x
theorem nd_len {k : Nat} {ms : List Nat} (nd : ms.Nodup) (hm : ∀ m ∈ ms, m < pw k) : ms.length ≤ pw k := by
  have := nd.length_le_of_subset (l₂ := List.range (pw k)) (fun m h => List.mem_range.mpr (hm m h))
  rwa [List.length_range] at this
/-! ### greatest, least, sum -/
def mxN : List Nat → Nat
  | [] => 0
  | x :: r => max x (mxN r)
theorem maxI_N (r : List Nat) (m : Nat) : maxI (m : Int) (r.map fun (t : Nat) => (t : Int)) = ((max m (mxN r) : Nat) : Int) := by
  induction r generalizing m with
  | nil => simp [maxI, mxN]
  | cons x r ih =>
    rw [List.map_cons, maxI]
    by_cases h : m < x
    · rw [if_pos (by omega), ih]
      congr 1
      simp only [mxN]
      omega
    · rw [if_neg (by omega), ih]
      congr 1
      simp only [mxN]
      omega
theorem bi_max_N (cf : Cfg) {q : List Nat} (h : q ≠ []) (S : Sto) : biV cf .max [.d (.lst (dN q))] S = .ok (.d (.int (mxN q : Nat))) S := by
  cases q with
  | nil => exact (h rfl).elim
  | cons x r =>
    rw [dN_dI, List.map_cons, bi_max_l, maxI_N]
    rfl
theorem le_mxN {l : List Nat} {x : Nat} (h : x ∈ l) : x ≤ mxN l := by
  induction l with
  | nil => cases h
  | cons y r ih =>
    simp only [mxN]
    rcases List.mem_cons.mp h with rfl | h
    · omega
    · have := ih h
      omega
theorem mxN_mem {l : List Nat} (h : l ≠ []) : mxN l ∈ l := by
  induction l with
  | nil => exact (h rfl).elim
  | cons y r ih =>
    simp only [mxN]
    by_cases hr : r = []
    · subst hr; simp [mxN]
    · have := ih hr
      rcases Nat.le_total y (mxN r) with q | q
      · rw [Nat.max_eq_right q]; exact List.mem_cons_of_mem _ this
      · rw [Nat.max_eq_left q]; exact List.mem_cons_self
/-- the least of a row (0 of none) -/
def mnN : List Nat → Nat
  | [] => 0
  | [x] => x
  | x :: y :: r => min x (mnN (y :: r))
theorem minI_N (r : List Nat) (m : Nat) : minI (m : Int) (r.map fun (t : Nat) => (t : Int)) = ((mnN (m :: r) : Nat) : Int) := by
  induction r generalizing m with
  | nil => simp [minI, mnN]
  | cons x r ih =>
    rw [List.map_cons, minI]
    have e : ∀ m, mnN (min m x :: r) = mnN (m :: x :: r) := fun m => by
      cases r with
      | nil => simp [mnN]
      | cons y r => simp only [mnN]; omega
    by_cases h : x < m
    · rw [if_pos (by omega), ih]
      congr 1
      rw [← e m, Nat.min_eq_right (by omega)]
    · rw [if_neg (by omega), ih]
      congr 1
      rw [← e m, Nat.min_eq_left (by omega)]
theorem bi_min_N (cf : Cfg) {q : List Nat} (h : q ≠ []) (S : Sto) : biV cf .min [.d (.lst (dN q))] S = .ok (.d (.int (mnN q : Nat))) S := by
  cases q with
  | nil => exact (h rfl).elim
  | cons x r =>
    rw [dN_dI, List.map_cons, bi_min_l, minI_N]
theorem mnN_mem {l : List Nat} (h : l ≠ []) : mnN l ∈ l := by
  induction l with
  | nil => exact (h rfl).elim
  | cons y r ih =>
    cases r with
    | nil => simp [mnN]
    | cons z r =>
      have := ih (by simp)
      simp only [mnN]
      rcases Nat.le_total y (mnN (z :: r)) with q | q
      · rw [Nat.min_eq_left q]; exact List.mem_cons_self
      · rw [Nat.min_eq_right q]; exact List.mem_cons_of_mem _ this
theorem mnN_le {l : List Nat} {x : Nat} (h : x ∈ l) : mnN l ≤ x := by
  induction l with
  | nil => cases h
  | cons y r ih =>
    cases r with
    | nil => simp at h; subst h; simp [mnN]
    | cons z r =>
      simp only [mnN]
      rcases List.mem_cons.mp h with rfl | h
      · omega
      · have := ih h
        omega
theorem sum_cast (l : List Nat) : (l.map fun (t : Nat) => (t : Int)).sum = ((l.sum : Nat) : Int) := by
  induction l with
  | nil => rfl
  | cons x r ih => simp [ih]
@[simp] theorem bi_sum_N (cf : Cfg) (q : List Nat) (S : Sto) : biV cf .sum [.d (.lst (dN q))] S = .ok (.d (.int (q.sum : Nat))) S := by
  rw [dN_dI, bi_sum_l, sum_cast]
@[simp] theorem bi_sum_Nt (cf : Cfg) (q : List Nat) (S : Sto) : biV cf .sum [.d (.tup (dN q))] S = .ok (.d (.int (q.sum : Nat))) S := by
  rw [dN_dI, bi_sum_t, sum_cast]
theorem cast_inj {a b : List Nat} : (a.map fun (t : Nat) => (t : Int)) = (b.map fun (t : Nat) => (t : Int)) ↔ a = b := by
  constructor
  · intro h
    induction a generalizing b with
    | nil => cases b with
      | nil => rfl
      | cons y s => cases h
    | cons x r ih =>
      cases b with
      | nil => cases h
      | cons y s =>
        simp only [List.map_cons, List.cons.injEq] at h
        rw [ih h.2, show x = y by omega]
  · rintro rfl; rfl
@[simp] theorem cmp_eqN (cf : Cfg) (a b : List Nat) (S : Sto) : cmpV cf .eq (.d (.lst (dN a))) (.d (.lst (dN b))) S = .ok (.d (.bl (decide (a = b)))) S := by
  rw [dN_dI, dN_dI, cmp_eqL]; simp only [cast_inj]
@[simp] theorem cmp_neN (cf : Cfg) (a b : List Nat) (S : Sto) : cmpV cf .ne (.d (.lst (dN a))) (.d (.lst (dN b))) S = .ok (.d (.bl (!decide (a = b)))) S := by
  rw [dN_dI, dN_dI, cmp_neL]; simp only [cast_inj]
@[simp] theorem cmp_eqNt (cf : Cfg) (a b : List Nat) (S : Sto) : cmpV cf .eq (.d (.tup (dN a))) (.d (.tup (dN b))) S = .ok (.d (.bl (decide (a = b)))) S := by
  rw [dN_dI, dN_dI, cmp_eqT]; simp only [cast_inj]
@[simp] theorem cmp_neNt (cf : Cfg) (a b : List Nat) (S : Sto) : cmpV cf .ne (.d (.tup (dN a))) (.d (.tup (dN b))) S = .ok (.d (.bl (!decide (a = b)))) S := by
  rw [dN_dI, dN_dI, cmp_neT]; simp only [cast_inj]
theorem count_cast (l : List Nat) (k : Nat) : (l.map fun (t : Nat) => (t : Int)).count (k : Int) = l.count k := by
  induction l with
  | nil => rfl
  | cons x r ih =>
    rw [List.map_cons, List.count_cons, List.count_cons, ih]
    congr 1
    by_cases h : x = k
    · simp [h]
    · have : ¬ (x : Int) = k := by omega
      simp [h, this]
@[simp] theorem bm_cntN (q : List Nat) (k : Nat) (S : Sto) : bmV .count (.d (.lst (dN q))) [.d (.int k)] S = .ok (.d (.int (q.count k : Nat))) S := by
  rw [dN_dI, bm_cnt, count_cast]
/-- how often each number from 0 to the greatest stands in l -/
def hist (l : List Nat) : List Nat := (List.range (mxN l + 1)).map fun j => l.count j
theorem dN_set (l : List Nat) (i v : Nat) : (dN l).set i (.int v) = dN (l.set i v) := by simp [dN]
/-! ### more rules -/
theorem y_augS {a i e : E} {o : Bop} {ss : List Sm} {cf : Cfg} {env : Frm} {S : Sto} {l k : Nat} {xs : List D} {x b z : Int} (ha : stl (evE a cf env S) = .ok (.r l) S) (hi : stl (evE i cf env S) = .ok (.d (.int (k : Nat))) S) (hx : S[l]? = some (.lst xs))
    (hk : xs[k]? = some (.int x)) (he : stl (evE e cf env S) = .ok (.d (.int b)) S) (ho : iop o x b = some z) : exSs (.augS a i o e :: ss) cf env S = exSs ss cf env (S.set l (.lst (xs.set k (.int z)))) := by
  have hl : k < xs.length := (List.getElem?_eq_some_iff.mp hk).1
  have hg : getC S l (k : Int) = some (.int x) := by
    unfold getC
    simp [hx, hk]
  refine exSs_ok ?_
  rw [exS, ha]
  simp only [st_ok, hi, hg, he, ho]
  rw [subV_r, hx]
  simp only [if_pos hl]
theorem comp2_map {α β : Type} {own own1 : List Nat} {i j : Nat} {src src1 e : E} {cf : Cfg} {env : Frm} {S S1 : Sto} (l : List α) (φ : α → D) (l1 : List β) (φ1 : β → D) (ψ : α → β → D) (hs : evI src cf env S = .ok (.fix (l.map φ)) S1)
    (hs1 : ∀ a ∈ l, evI src1 cf ((wipe env own).set i (some (.d (φ a)))) S1 = .ok (.fix (l1.map φ1)) S1)
    (he : ∀ a ∈ l, ∀ b ∈ l1, stl (evE e cf ((wipe ((wipe env own).set i (some (.d (φ a)))) own1).set j (some (.d (φ1 b)))) S1) = .ok (.d (ψ a b)) S1) (hl : l.length * l1.length ≤ LL) :
    evE (.comp2 own (.nm i) src own1 (.nm j) src1 (.con (.bl true)) e) cf env S = .ok (.f (.lst (l.flatMap fun a => l1.map (ψ a)))) S1 := by
  rw [evE, hs]
  simp only [R.bind, kloopS]
  rw [kloop_map (g := fun a => l1.map (ψ a)) fun a ha => ?_]
  · have e1 : (l.flatMap fun a => l1.map (ψ a)).length = l.length * l1.length := by
      rw [List.length_flatMap]
      clear hs hs1 he hl
      induction l with
      | nil => simp
      | cons x r ih =>
        simp only [List.length_map] at ih
        simp [ih, Nat.succ_mul, Nat.add_comm]
    have h2 : (l.flatMap fun a => l1.map (ψ a)).length ≤ LL := by rw [e1]; exact hl
    simp only [R.nox, R.bind, rowV, if_pos h2]
  · simp only [setT, hs1 a ha, R.nox, R.bind, kloopS]
    rw [kloop_map (g := fun b => [ψ a b]) fun b hb => ?_]
    · congr 1
      clear hs hs1 he hl ha
      induction l1 with
      | nil => rfl
      | cons x r ih => rw [List.flatMap_cons, ih]; rfl
    · simp only [setT, evT_true, R.nox, R.bind, he a ha b hb]
/-- a loop that may end early with a value -/
theorem for_ret {C : RS → Prop} {t : Tg} {src : E} {body ss : List Sm} {cf : Cfg} {env : Frm} {S S1 : Sto} {xs : List D} (hs : evI src cf env S = .ok (.fix xs) S1) (Inv : Nat → Frm → Sto → Prop) (Done : Va → Frm → Sto → Prop) (h0 : Inv 0 env S1)
    (st : ∀ i x env S, xs[i]? = some x → Inv i env S → ∃ e1, setT t x env = some e1 ∧ ((∃ env' S', (exSs body cf e1 S = .ok .nx env' S' ∨ exSs body cf e1 S = .ok .ct env' S') ∧ Inv (i + 1) env' S') ∨ ∃ v env' S', exSs body cf e1 S = .ok (.rt v) env' S' ∧ Done v env' S'))
    (k : ∀ env' S', Inv xs.length env' S' → C (exSs ss cf env' S')) (kd : ∀ v env' S', Done v env' S' → C (.ok (.rt v) env' S')) : C (exSs (.for_ t src body :: ss) cf env S) := by
  have key : ∀ (ys : List D) (m : Nat) (env : Frm) (S : Sto), (∀ i, ys[i]? = xs[m + i]?) → m + ys.length = xs.length → Inv m env S →
      (∃ env' S', floop (fun x env S => match setT t x env with
        | some env' => exSs body cf env' S
        | none => .bad) ys env S = .ok .nx env' S' ∧ Inv xs.length env' S') ∨ ∃ v env' S', floop (fun x env S => match setT t x env with
        | some env' => exSs body cf env' S
        | none => .bad) ys env S = .ok (.rt v) env' S' ∧ Done v env' S' := by
    intro ys
    induction ys with
    | nil => exact fun m env S _ e hi => .inl ⟨env, S, rfl, by simp at e; rw [← e]; exact hi⟩
    | cons y r ih =>
      intro m env S hx hm hi
      obtain ⟨e1, q1, q2⟩ := st m y env S (by have := hx 0; simpa using this.symm) hi
      rcases q2 with ⟨e2, S2, q3, q4⟩ | ⟨v, e2, S2, q3, q4⟩
      · have h3 := ih (m + 1) e2 S2 (fun i => by have := hx (i + 1); simp only [List.getElem?_cons_succ] at this; rw [this]; congr 1; omega) (by simp at hm; omega) q4
        rw [floop]
        simp only [q1]
        rcases q3 with q3 | q3 <;> rw [q3] <;> exact h3
      · refine .inr ⟨v, e2, S2, ?_, q4⟩
        rw [floop]
        simp only [q1, q3]
  rcases key xs 0 env S1 (fun i => by rw [Nat.zero_add]) (by simp) h0 with ⟨e2, S2, q1, q2⟩ | ⟨v, e2, S2, q1, q2⟩
  · have e3 : exS (.for_ t src body) cf env S = .ok .nx e2 S2 := by
      rw [exS, hs]
      exact q1
    rw [exSs_ok e3]
    exact k _ _ q2
  · have e3 : exS (.for_ t src body) cf env S = .ok (.rt v) e2 S2 := by
      rw [exS, hs]
      exact q1
    rw [exSs_rt e3]
    exact kd _ _ _ q2
theorem iop_mul {a b : Nat} (h : a < 2 ^ 60) : iop .mul (a : Int) (b : Int) = some ((a : Int) * b) := by
  have hs : small (a : Int) = true := by unfold small; simp; omega
  show (if (small (a : Int) || small (b : Int)) = true then some ((a : Int) * b) else none) = _
  rw [hs, Bool.true_or, if_pos rfl]
/-! ### sums -/
def sm : Nat → (Nat → Nat) → Nat
  | 0, _ => 0
  | n + 1, f => sm n f + f n
/-- the turns (i', j') ahead of (i, j), i' + j' = k -/
def cvP (a b : List Nat) (i j k : Nat) : Nat := sm i (fun i' => sm b.length fun j' => if i' + j' = k then a.getD i' 0 * b.getD j' 0 else 0) + sm j fun j' => if i + j' = k then a.getD i 0 * b.getD j' 0 else 0
theorem cvP_next (a b : List Nat) (i k : Nat) : cvP a b i b.length k = cvP a b (i + 1) 0 k := by simp [cvP, sm]
theorem cvP_step (a b : List Nat) (i j k : Nat) : cvP a b i (j + 1) k = if k = i + j then cvP a b i j (i + j) + a.getD i 0 * b.getD j 0 else cvP a b i j k := by
  by_cases h : k = i + j
  · subst h
    simp [cvP, sm, Nat.add_assoc]
  · have : ¬ i + j = k := fun e => h e.symm
    simp [cvP, sm, h, this]
def mulN (a b : List Nat) : List Nat := if a = [] ∨ b = [] then [] else (List.range (a.length + b.length - 1)).map (cvP a b a.length 0)
/-- lengthened by noughts -/
def padN (a : List Nat) (m : Nat) : List Nat := a ++ List.replicate (m - a.length) 0
def addN (a b : List Nat) : List Nat := (List.range (max a.length b.length)).map fun j => (padN a (max a.length b.length)).getD j 0 + (padN b (max a.length b.length)).getD j 0
theorem padN_len {a : List Nat} {m : Nat} (h : a.length ≤ m) : (padN a m).length = m := by
  unfold padN
  simp
  omega
theorem getD_at {l : List Nat} {i : Nat} (h : i < l.length) : (dN l)[i]? = some (.int (l.getD i 0 : Nat)) := by
  rw [dN_get, List.getD_eq_getElem?_getD, List.getElem?_eq_getElem h]; rfl
theorem map_const {α β : Type} (l : List α) (c : β) : (l.map fun _ => c) = List.replicate l.length c := by
  induction l with
  | nil => rfl
  | cons x r ih => simp [ih, List.replicate_succ]
theorem dN_zeros (k : Nat) : ((List.range k).map fun _ => D.int ((0 : Nat) : Int)) = dN (List.replicate k 0) := by
  rw [map_const, List.length_range]
  simp [dN]
/-- one turn's end -/
def Turn (r : RS) (Q : Frm → Sto → Prop) : Prop := ∃ env' S', (r = .ok .nx env' S' ∨ r = .ok .ct env' S') ∧ Q env' S'
theorem Turn.of {r : RS} {Q : Frm → Sto → Prop} {env' : Frm} {S' : Sto} (h : r = .ok .nx env' S') (q : Q env' S') : Turn r Q := ⟨env', S', .inl h, q⟩
theorem for_turn {C : RS → Prop} {t : Tg} {src : E} {body ss : List Sm} {cf : Cfg} {env : Frm} {S S1 : Sto} {xs : List D} (hs : evI src cf env S = .ok (.fix xs) S1) (Inv : Nat → Frm → Sto → Prop) (h0 : Inv 0 env S1)
    (st : ∀ i x env S, xs[i]? = some x → Inv i env S → ∃ e1, setT t x env = some e1 ∧ Turn (exSs body cf e1 S) (Inv (i + 1)))
    (k : ∀ env' S', Inv xs.length env' S' → C (exSs ss cf env' S')) : C (exSs (.for_ t src body :: ss) cf env S) :=
  for_use hs Inv h0 (fun i x env S hx hi => by
    obtain ⟨e1, q1, e2, S2, q2, q3⟩ := st i x env S hx hi
    exact ⟨e1, e2, S2, q1, q2, q3⟩) k
theorem iop_mulR (i j : Int) (h : small j = true) : iop .mul i j = some (i * j) := by
  show (if (small i || small j) = true then some (i * j) else none) = _
  rw [h, Bool.or_true, if_pos rfl]
theorem iop_modI (i j : Int) (h : 0 < j) : iop .mod i j = some (i % j) := by
  show (if 0 < j then some (i % j) else none) = _
  rw [if_pos h]
theorem iop_fdivI (i j : Int) (h : 0 < j) (h2 : j < 1073741824) : iop .fdiv i j = some (i / j) := by
  show (if 0 < j ∧ j < 1073741824 then some (i / j) else none) = _
  rw [if_pos ⟨h, h2⟩]
@[simp] theorem take1c {c : Ce} {S r : Sto} : (c :: (S ++ r)).take (S.length + 1) = c :: S := by
  rw [List.take_succ_cons, List.take_left]
@[simp] theorem fin_own1 {c : Ce} {S r : Sto} (env : Frm) (xs : List D) : fin (S.length + 1) (.ok (.rt (.r (S.length + 1))) env (c :: (S ++ .lst xs :: r))) = .ok (.f (.lst xs)) (c :: S) := by
  show (if S.length + 1 < S.length + 1 then R.ok (Va.r (S.length + 1)) ((c :: (S ++ Ce.lst xs :: r)).take (S.length + 1)) else (match (c :: (S ++ Ce.lst xs :: r))[S.length + 1]? with
    | some .dead => .bad
    | some k => .ok (.f k) ((c :: (S ++ Ce.lst xs :: r)).take (S.length + 1))
    | none => .bad)) = _
  rw [if_neg (Nat.lt_irrefl _), List.getElem?_cons_succ, at0, take1c]
end G
/-! M: depths are least numbers of things apart. -/
namespace G
def pc (m : Nat) : Nat := (lotN m).length
theorem pc_all : ((List.range 1024).all fun m => m == 0 || (pc (m &&& (m - 1)) + 1 == pc m && Nat.blt (m &&& (m - 1)) 1024)) = true := by decide +kernel
theorem pc_step {m : Nat} (h : m < 1024) (h0 : m ≠ 0) : pc (m &&& (m - 1)) + 1 = pc m ∧ (m &&& (m - 1)) < 1024 := by
  have := List.all_eq_true.mp pc_all m (List.mem_range.mpr h)
  rcases Bool.or_eq_true_iff.mp this with q | q
  · exact (h0 (beq_iff_eq.mp q)).elim
  · obtain ⟨a, b⟩ := Bool.and_eq_true_iff.mp q
    exact ⟨beq_iff_eq.mp a, Nat.le_of_ble_eq_true b⟩
theorem pc_zero : pc 0 = 0 := by decide
theorem pc_le (m : Nat) : pc m ≤ 12 := by
  unfold pc lotN
  exact Nat.le_trans (List.length_filter_le _ _) (by rw [List.length_range]; omega)
theorem top_all : ((List.range 10).all fun t => (List.range (2 ^ t)).all fun e => ((2 ^ t + e) ^^^ 2 ^ t == e) && pc (2 ^ t + e) == pc e + 1) = true := by decide +kernel
theorem top_bit {t e : Nat} (ht : t < 10) (he : e < pw t) : (pw t + e) ^^^ pw t = e ∧ pc (pw t + e) = pc e + 1 := by
  have h := List.all_eq_true.mp (List.all_eq_true.mp top_all t (List.mem_range.mpr ht)) e (List.mem_range.mpr he)
  obtain ⟨a, b⟩ := Bool.and_eq_true_iff.mp h
  exact ⟨beq_iff_eq.mp a, beq_iff_eq.mp b⟩
theorem top_bit' {t e : Nat} (ht : t < 10) (he : e < pw t) : e ^^^ pw t = pw t + e := by
  have h := (top_bit ht he).1
  have : e ^^^ pw t = ((pw t + e) ^^^ pw t) ^^^ pw t := by rw [h]
  rw [this, Nat.xor_assoc, Nat.xor_self, Nat.xor_zero]
theorem pc_lt {d k : Nat} (h : d < pw k) : pc d ≤ k := by
  have := (lotN_nodup d).length_le_of_subset (l₂ := List.range k) (fun t ht => List.mem_range.mpr (lotN_lt h ht))
  rwa [List.length_range] at this
theorem pw_succ (t : Nat) : pw (t + 1) = pw t + pw t := by unfold pw; rw [Nat.pow_succ]; omega
/-- the least number of things apart -/
structure IsMin (v : Nat) (L : List Nat) (x : Nat) : Prop where
  got : ∃ m ∈ L, v = pc (x ^^^ m)
  least : ∀ m ∈ L, v ≤ pc (x ^^^ m)
theorem IsMin.uniq {v w : Nat} {L : List Nat} {x : Nat} (a : IsMin v L x) (b : IsMin w L x) : v = w := by
  obtain ⟨m, hm, e⟩ := a.got
  obtain ⟨m', hm', e'⟩ := b.got
  have h1 := a.least m' hm'
  have h2 := b.least m hm
  omega
theorem IsMin.congr {v : Nat} {L L' : List Nat} {x : Nat} (a : IsMin v L x) (h : ∀ m, m ∈ L ↔ m ∈ L') : IsMin v L' x := by
  obtain ⟨m, hm, e⟩ := a.got
  exact ⟨⟨m, (h m).mp hm, e⟩, fun m hm => a.least m ((h m).mpr hm)⟩
theorem dp_ok (k : Nat) (L : List Nat) (hk : k ≤ 10) : ∀ t, t ≤ k → ∀ x, (∀ m ∈ L, x ^^^ m < pw t → dpF k L t x ≤ pc (x ^^^ m)) ∧ dpF k L t x ≤ k + 1 ∧ (dpF k L t x = k + 1 ∨ ∃ m ∈ L, x ^^^ m < pw t ∧ dpF k L t x = pc (x ^^^ m))
  | 0, _, x => by
    have h0 : ∀ m, x ^^^ m < pw 0 → x = m := fun m h => by
      have e : x ^^^ m = 0 := by have : pw 0 = 1 := rfl; omega
      have h2 := congrArg (· ^^^ m) e
      simpa [Nat.xor_assoc] using h2
    simp only [dpF]
    by_cases hx : x ∈ L
    · rw [if_pos hx]
      exact ⟨fun _ _ _ => Nat.zero_le _, by omega, .inr ⟨x, hx, by rw [Nat.xor_self]; exact pw_pos 0, by rw [Nat.xor_self, pc_zero]⟩⟩
    · rw [if_neg hx]
      exact ⟨fun m hm h => (hx (h0 m h ▸ hm)).elim, by omega, .inl rfl⟩
  | t + 1, ht, x => by
    obtain ⟨a1, a2, a3⟩ := dp_ok k L hk t (by omega) x
    obtain ⟨b1, b2, b3⟩ := dp_ok k L hk t (by omega) (x ^^^ pw t)
    have sw : ∀ m, (x ^^^ pw t) ^^^ m = (x ^^^ m) ^^^ pw t := fun m => by rw [Nat.xor_assoc, Nat.xor_comm (pw t) m, ← Nat.xor_assoc]
    simp only [dpF]
    refine ⟨fun m hm h => ?_, by omega, ?_⟩
    · by_cases hl : x ^^^ m < pw t
      · have := a1 m hm hl; omega
      · obtain ⟨e, he⟩ : ∃ e, x ^^^ m = pw t + e := ⟨(x ^^^ m) - pw t, by omega⟩
        rw [pw_succ] at h
        have he2 : e < pw t := by omega
        obtain ⟨c1, c2⟩ := top_bit (by omega) he2
        have := b1 m hm (by rw [sw, he, c1]; exact he2)
        rw [sw, he, c1] at this
        rw [he, c2]
        omega
    · rcases Nat.le_total (dpF k L t x) (dpF k L t (x ^^^ pw t) + 1) with q | q
      · rw [Nat.min_eq_left q]
        rcases a3 with a3 | ⟨m, hm, h1, h2⟩
        · exact .inl a3
        · exact .inr ⟨m, hm, by have := pw_lt (show t < t + 1 by omega); omega, h2⟩
      · rw [Nat.min_eq_right q]
        rcases b3 with b3 | ⟨m, hm, h1, h2⟩
        · left; omega
        · right
          rw [sw] at h1 h2
          obtain ⟨e, he⟩ : ∃ e, e = (x ^^^ m) ^^^ pw t := ⟨_, rfl⟩
          rw [← he] at h1 h2
          have hx : x ^^^ m = pw t + e := by
            have h3 : (x ^^^ m) = e ^^^ pw t := by rw [he, Nat.xor_assoc, Nat.xor_self, Nat.xor_zero]
            rw [h3, top_bit' (by omega) h1]
          refine ⟨m, hm, by rw [hx, pw_succ]; omega, ?_⟩
          rw [h2, hx, (top_bit (by omega) h1).2]
/-- a family's depth at x is the least number of things apart -/
theorem dp_min {k : Nat} {L : List Nat} (hk : k ≤ 10) (hL : ∀ m ∈ L, m < pw k) (ne : L ≠ []) {x : Nat} (hx : x < pw k) : IsMin (dpF k L k x) L x := by
  obtain ⟨a1, a2, a3⟩ := dp_ok k L hk k (Nat.le_refl _) x
  have lt : ∀ m ∈ L, x ^^^ m < pw k := fun m hm => xor_lt hx (hL m hm)
  refine ⟨?_, fun m hm => a1 m hm (lt m hm)⟩
  rcases a3 with a3 | ⟨m, hm, _, h⟩
  · cases L with
    | nil => exact (ne rfl).elim
    | cons m r =>
      have h1 := a1 m (by simp) (lt m (by simp))
      have h2 := pc_lt (lt m (by simp))
      omega
  · exact ⟨m, hm, h⟩
/-- by looking at all -/
def lev (k : Nat) (ms : List Nat) : List Nat := (List.range (pw k)).map fun x => mnN (ms.map fun m => pc (x ^^^ m))
theorem mn_min {ms : List Nat} (ne : ms ≠ []) (x : Nat) : IsMin (mnN (ms.map fun m => pc (x ^^^ m))) ms x := by
  have h := mnN_mem (l := ms.map fun m => pc (x ^^^ m)) (by simpa using ne)
  obtain ⟨m, hm, e⟩ := List.mem_map.mp h
  exact ⟨⟨m, hm, e.symm⟩, fun m hm => mnN_le (List.mem_map.mpr ⟨m, hm, rfl⟩)⟩
theorem dep_lev {k : Nat} {L ms : List Nat} (hk : k ≤ 10) (hL : ∀ m ∈ L, m < pw k) (ne : ms ≠ []) (h : ∀ m, m ∈ L ↔ m ∈ ms) : depI k L = lev k ms := by
  have ne2 : L ≠ [] := fun e => by
    cases ms with
    | nil => exact ne rfl
    | cons m r =>
      have := (h m).mpr (by simp)
      rw [e] at this
      cases this
  unfold depI lev
  refine List.map_congr_left fun x hx => ?_
  exact (dp_min hk hL ne2 (List.mem_range.mp hx)).uniq ((mn_min ne x).congr fun m => (h m).symm)
end G
/-! M: families side by side; rows of counts. -/
namespace G
/-! ### bits side by side -/
theorem or_join {k u : Nat} (h : u < pw k) (v : Nat) : u ||| shl v k = u + v * pw k := by
  have := Nat.shiftLeft_add_eq_or_of_lt (a := v) (b := u) (i := k) h
  rw [Nat.shiftLeft_eq] at this
  unfold shl pw
  rw [Nat.or_comm, ← this, Nat.add_comm]
theorem join_bit {k u : Nat} (h : u < pw k) (v i : Nat) : (u + v * pw k).testBit i = if i < k then u.testBit i else v.testBit (i - k) := by
  rw [← or_join h]
  have e : shl v k = v <<< k := (Nat.shiftLeft_eq v k).symm
  rw [e, Nat.testBit_or, Nat.testBit_shiftLeft]
  by_cases hi : i < k
  · have : ¬ k ≤ i := by omega
    simp [hi, this]
  · have h1 : u.testBit i = false := Nat.testBit_lt_two_pow (Nat.lt_of_lt_of_le h (pw_le (by omega)))
    have : k ≤ i := by omega
    simp [hi, h1, this]
theorem join_xor {k x a : Nat} (hx : x < pw k) (ha : a < pw k) (y b : Nat) : (x + y * pw k) ^^^ (a + b * pw k) = (x ^^^ a) + (y ^^^ b) * pw k := by
  apply Nat.eq_of_testBit_eq
  intro i
  rw [Nat.testBit_xor, join_bit hx, join_bit ha, join_bit (xor_lt hx ha)]
  by_cases hi : i < k <;> simp [hi, Nat.testBit_xor]
theorem pw_add (a b : Nat) : pw (a + b) = pw a * pw b := Nat.pow_add 2 a b
theorem join_lt {k j u v : Nat} (hu : u < pw k) (hv : v < pw j) : u + v * pw k < pw (k + j) := by
  rw [pw_add]
  have h1 : v + 1 ≤ pw j := hv
  have h2 := Nat.mul_le_mul_left (pw k) h1
  rw [Nat.mul_add, Nat.mul_one, Nat.mul_comm (pw k) v] at h2
  omega
theorem pc_join {k u : Nat} (hu : u < pw k) : ∀ j, k + j ≤ 10 → ∀ v, v < pw j → pc (u + v * pw k) = pc u + pc v
  | 0, _, v, hv => by
    have : pw 0 = 1 := rfl
    have : v = 0 := by omega
    subst this
    simp [pc_zero]
  | j + 1, hj, v, hv => by
    by_cases h : v < pw j
    · exact pc_join hu j (by omega) v h
    · obtain ⟨e, he⟩ : ∃ e, v = pw j + e := ⟨v - pw j, by omega⟩
      rw [pw_succ] at hv
      have h2 : e < pw j := by omega
      subst he
      have h3 := pc_join hu j (by omega) e h2
      have h4 := (top_bit (t := k + j) (by omega) (join_lt hu h2)).2
      have h5 := (top_bit (t := j) (by omega) h2).2
      have h6 : u + (pw j + e) * pw k = pw (k + j) + (u + e * pw k) := by
        rw [pw_add, Nat.add_mul, Nat.mul_comm (pw j)]; omega
      rw [h6, h4, h3, h5]
      omega
/-! ### families side by side -/
def prodN (k : Nat) (A B : List Nat) : List Nat := A.flatMap fun a => B.map fun b => a ||| shl b k
theorem prod_mem {k : Nat} {A B : List Nat} (hA : ∀ a ∈ A, a < pw k) {m : Nat} : m ∈ prodN k A B ↔ ∃ a ∈ A, ∃ b ∈ B, m = a + b * pw k := by
  unfold prodN
  rw [List.mem_flatMap]
  constructor
  · rintro ⟨a, ha, h⟩
    obtain ⟨b, hb, e⟩ := List.mem_map.mp h
    exact ⟨a, ha, b, hb, by rw [← e, or_join (hA a ha)]⟩
  · rintro ⟨a, ha, b, hb, e⟩
    exact ⟨a, ha, List.mem_map.mpr ⟨b, hb, by rw [e, or_join (hA a ha)]⟩⟩
theorem prod_lt {k k2 : Nat} {A B : List Nat} (hA : ∀ a ∈ A, a < pw k) (hB : ∀ b ∈ B, b < pw k2) : ∀ m ∈ prodN k A B, m < pw (k + k2) := fun m hm => by
  obtain ⟨a, ha, b, hb, e⟩ := (prod_mem hA).mp hm
  rw [e]
  exact join_lt (hA a ha) (hB b hb)
theorem join_inj {k a a' b b' : Nat} (ha : a < pw k) (ha' : a' < pw k) (e : a + b * pw k = a' + b' * pw k) : a = a' ∧ b = b' := by
  have hp := pw_pos k
  have h1 : (a + b * pw k) % pw k = a := by rw [Nat.add_mul_mod_self_right, Nat.mod_eq_of_lt ha]
  have h2 : (a' + b' * pw k) % pw k = a' := by rw [Nat.add_mul_mod_self_right, Nat.mod_eq_of_lt ha']
  have h3 : (a + b * pw k) / pw k = b := by rw [Nat.add_mul_div_right _ _ hp, Nat.div_eq_of_lt ha, Nat.zero_add]
  have h4 : (a' + b' * pw k) / pw k = b' := by rw [Nat.add_mul_div_right _ _ hp, Nat.div_eq_of_lt ha', Nat.zero_add]
  rw [e] at h1 h3
  exact ⟨h1.symm.trans h2, h3.symm.trans h4⟩
theorem prod_nodup {k : Nat} {A B : List Nat} (hA : ∀ a ∈ A, a < pw k) (nA : A.Nodup) (nB : B.Nodup) : (prodN k A B).Nodup := by
  unfold prodN
  refine List.pairwise_flatMap.mpr ⟨fun a ha => ?_, ?_⟩
  · refine List.pairwise_map.mpr (nB.imp fun hbc e => hbc ?_)
    rw [or_join (hA a ha), or_join (hA a ha)] at e
    exact (join_inj (hA a ha) (hA a ha) e).2
  · refine List.Pairwise.imp_of_mem ?_ nA
    intro a a' ha ha' hne x hx y hy e
    obtain ⟨b, _, rfl⟩ := List.mem_map.mp hx
    obtain ⟨b', _, rfl⟩ := List.mem_map.mp hy
    rw [or_join (hA a ha), or_join (hA a' ha')] at e
    exact hne (join_inj (hA a ha) (hA a' ha') e).1
theorem prod_ne {k : Nat} {A B : List Nat} (nA : A ≠ []) (nB : B ≠ []) : prodN k A B ≠ [] := by
  cases A with
  | nil => exact (nA rfl).elim
  | cons a r =>
    cases B with
    | nil => exact (nB rfl).elim
    | cons b s => simp [prodN]
/-- the depth side by side is the sum -/
theorem prod_dep {k k2 : Nat} {A B L : List Nat} (hk : k + k2 ≤ 10) (hA : ∀ a ∈ A, a < pw k) (hB : ∀ b ∈ B, b < pw k2) (nA : A ≠ []) (nB : B ≠ []) (hL : ∀ m, m ∈ L ↔ m ∈ prodN k A B) {x y : Nat} (hx : x < pw k) (hy : y < pw k2) :
    dpF (k + k2) L (k + k2) (x + y * pw k) = dpF k A k x + dpF k2 B k2 y := by
  have nL : L ≠ [] := fun e => by
    have hn := prod_ne (k := k) nA nB
    cases hp : prodN k A B with
    | nil => exact hn hp
    | cons m r =>
      have := (hL m).mpr (by rw [hp]; simp)
      rw [e] at this
      cases this
  have h1 := dp_min hk (L := L) (fun m hm => prod_lt hA hB m ((hL m).mp hm)) nL (join_lt hx hy)
  have hA1 := dp_min (by omega) hA nA hx
  have hB1 := dp_min (by omega) hB nB hy
  refine h1.uniq ?_
  have val : ∀ a ∈ A, ∀ b ∈ B, pc ((x + y * pw k) ^^^ (a + b * pw k)) = pc (x ^^^ a) + pc (y ^^^ b) := fun a ha b hb => by
    rw [join_xor hx (hA a ha), pc_join (xor_lt hx (hA a ha)) k2 hk _ (xor_lt hy (hB b hb))]
  obtain ⟨a, ha, ea⟩ := hA1.got
  obtain ⟨b, hb, eb⟩ := hB1.got
  refine ⟨⟨a + b * pw k, (hL _).mpr ((prod_mem hA).mpr ⟨a, ha, b, hb, rfl⟩), by rw [val a ha b hb, ← ea, ← eb]⟩, fun m hm => ?_⟩
  obtain ⟨a, ha, b, hb, e⟩ := (prod_mem hA).mp ((hL m).mp hm)
  rw [e, val a ha b hb]
  have := hA1.least a ha
  have := hB1.least b hb
  omega
/-! ### two rows, each with each -/
def each (a b : List Nat) : List Nat := b.flatMap fun y => a.map fun x => x + y
theorem range_mul (n : Nat) : ∀ m, List.range (n * m) = (List.range m).flatMap fun y => (List.range n).map fun x => x + y * n
  | 0 => by simp
  | m + 1 => by
    rw [Nat.mul_succ, List.range_add, range_mul n m, List.range_succ, List.flatMap_append]
    congr 1
    simp only [List.flatMap_cons, List.flatMap_nil, List.append_nil]
    refine List.map_congr_left fun x _ => ?_
    rw [Nat.mul_comm n m, Nat.add_comm]
theorem flat_congr {α β : Type} {f g : α → List β} : ∀ {l : List α}, (∀ x ∈ l, f x = g x) → l.flatMap f = l.flatMap g
  | [], _ => rfl
  | x :: r, h => by
    rw [List.flatMap_cons, List.flatMap_cons, h x (by simp), flat_congr fun y hy => h y (by simp [hy])]
theorem prod_depI {k k2 : Nat} {A B L : List Nat} (hk : k + k2 ≤ 10) (hA : ∀ a ∈ A, a < pw k) (hB : ∀ b ∈ B, b < pw k2) (nA : A ≠ []) (nB : B ≠ []) (hL : ∀ m, m ∈ L ↔ m ∈ prodN k A B) : depI (k + k2) L = each (depI k A) (depI k2 B) := by
  unfold depI each
  rw [pw_add, range_mul, List.map_flatMap, List.flatMap_map]
  refine flat_congr fun y hy => ?_
  rw [List.map_map, List.map_map]
  refine List.map_congr_left fun x hx => ?_
  exact prod_dep hk hA hB nA nB hL (List.mem_range.mp hx) (List.mem_range.mp hy)
theorem each_len (a b : List Nat) : (each a b).length = a.length * b.length := by
  unfold each
  induction b with
  | nil => simp
  | cons y r ih => rw [List.flatMap_cons, List.length_append, ih]; simp [Nat.mul_succ, Nat.add_comm]
theorem each_sum (a b : List Nat) : (each a b).sum = a.sum * b.length + b.sum * a.length := by
  unfold each
  induction b with
  | nil => simp
  | cons y r ih =>
    rw [List.flatMap_cons, List.sum_append, ih]
    have : ∀ l : List Nat, (l.map fun x => x + y).sum = l.sum + y * l.length := fun l => by
      induction l with
      | nil => simp
      | cons x r ih => simp [ih, Nat.mul_succ]; omega
    rw [this]
    simp [Nat.mul_succ, Nat.add_mul]
    omega
theorem mx_perm {a b : List Nat} (h : a.Perm b) : mxN a = mxN b := by
  induction h with
  | nil => rfl
  | cons x _ ih => simp [mxN, ih]
  | swap x y l => simp only [mxN]; omega
  | trans _ _ h1 h2 => exact h1.trans h2
theorem hist_perm {a b : List Nat} (h : a.Perm b) : hist a = hist b := by
  unfold hist
  rw [mx_perm h]
  refine List.map_congr_left fun j _ => ?_
  exact h.count_eq j
theorem each_cons (x : Nat) (a b : List Nat) : (each (x :: a) b).Perm ((b.map fun y => x + y) ++ each a b) := by
  unfold each
  induction b with
  | nil => exact .refl _
  | cons y r ih =>
    rw [List.flatMap_cons, List.flatMap_cons, List.map_cons, List.map_cons, List.cons_append, List.cons_append]
    refine .cons _ ?_
    refine (ih.append_left _).trans ?_
    rw [← List.append_assoc, ← List.append_assoc]
    exact (List.perm_append_comm).append_right _
theorem each_comm (a b : List Nat) : (each a b).Perm (each b a) := by
  induction a with
  | nil =>
    have : each [] b = [] := by unfold each; simp
    rw [this]
    exact .refl _
  | cons x r ih =>
    refine (each_cons x r b).trans ?_
    have : each b (x :: r) = (b.map fun y => x + y) ++ each b r := by
      unfold each
      rw [List.flatMap_cons]
      congr 1
      refine List.map_congr_left fun y _ => Nat.add_comm _ _
    rw [this]
    exact ih.append_left _
theorem each_mem {a b : List Nat} {z : Nat} : z ∈ each a b ↔ ∃ x ∈ a, ∃ y ∈ b, z = x + y := by
  unfold each
  rw [List.mem_flatMap]
  constructor
  · rintro ⟨y, hy, h⟩
    obtain ⟨x, hx, e⟩ := List.mem_map.mp h
    exact ⟨x, hx, y, hy, e.symm⟩
  · rintro ⟨x, hx, y, hy, e⟩
    exact ⟨y, hy, List.mem_map.mpr ⟨x, hx, e.symm⟩⟩
theorem each_mx {a b : List Nat} (na : a ≠ []) (nb : b ≠ []) : mxN (each a b) = mxN a + mxN b := by
  have h1 : mxN a + mxN b ∈ each a b := each_mem.mpr ⟨_, mxN_mem na, _, mxN_mem nb, rfl⟩
  have h2 := le_mxN h1
  have h3 := mxN_mem (l := each a b) (fun e => by rw [e] at h1; cases h1)
  obtain ⟨x, hx, y, hy, e⟩ := each_mem.mp h3
  have := le_mxN hx
  have := le_mxN hy
  omega
/-! ### counts -/
theorem sm_congr {f g : Nat → Nat} : ∀ {n : Nat}, (∀ i, i < n → f i = g i) → sm n f = sm n g
  | 0, _ => rfl
  | n + 1, h => by rw [sm, sm, sm_congr (n := n) fun i hi => h i (by omega), h n (by omega)]
theorem sm_add (f g : Nat → Nat) : ∀ n, sm n (fun i => f i + g i) = sm n f + sm n g
  | 0 => rfl
  | n + 1 => by simp only [sm, sm_add f g n]; omega
theorem sm_zero : ∀ n, sm n (fun _ => 0) = 0
  | 0 => rfl
  | n + 1 => by simp only [sm, sm_zero n]
theorem sm_one (c : Nat) (v : Nat → Nat) : ∀ n, sm n (fun i => if i = c then v i else 0) = if c < n then v c else 0
  | 0 => rfl
  | n + 1 => by
    simp only [sm, sm_one c v n]
    by_cases h : c < n
    · have : ¬ n = c := by omega
      simp [h, this, Nat.lt_succ_of_lt h]
    · by_cases h2 : n = c
      · subst h2; simp
      · have : ¬ c < n + 1 := by omega
        simp [h, h2, this]
theorem hist_len (l : List Nat) : (hist l).length = mxN l + 1 := by simp [hist]
theorem hist_at (l : List Nat) (j : Nat) : (hist l).getD j 0 = l.count j := by
  unfold hist
  rw [List.getD_eq_getElem?_getD]
  by_cases h : j < mxN l + 1
  · rw [rng_at h]; rfl
  · rw [List.getElem?_eq_none (by simp; omega)]
    have : j ∉ l := fun hm => by have := le_mxN hm; omega
    rw [List.count_eq_zero.mpr this]; rfl
theorem hist_ne (l : List Nat) : hist l ≠ [] := fun e => by
  have := congrArg List.length e
  rw [hist_len] at this
  simp at this
theorem count_shift (a : List Nat) (y j : Nat) : (a.map fun x => x + y).count j = if y ≤ j then a.count (j - y) else 0 := by
  induction a with
  | nil => simp
  | cons x r ih =>
    rw [List.map_cons, List.count_cons, ih, List.count_cons]
    by_cases h : y ≤ j
    · rw [if_pos h, if_pos h]
      congr 1
      by_cases h2 : x + y = j
      · have : x = j - y := by omega
        simp [this, Nat.sub_add_cancel h]
      · have : ¬ x = j - y := by omega
        simp [h2, this]
    · rw [if_neg h, if_neg h]
      have : ¬ x + y = j := by omega
      simp [this]
/-- the turned-out rows of counts, multiplied -/
theorem conv_count (a : List Nat) (la lb j : Nat) (ha : ∀ x ∈ a, x < la) : ∀ b : List Nat, (∀ y ∈ b, y < lb) → sm la (fun i => sm lb fun i' => if i + i' = j then a.count i * b.count i' else 0) = (each a b).count j
  | [], _ => by
    have : (fun i => sm lb fun i' => if i + i' = j then a.count i * ([] : List Nat).count i' else 0) = fun _ => 0 := by
      funext i
      rw [show (fun i' => if i + i' = j then a.count i * ([] : List Nat).count i' else 0) = fun _ => 0 from by funext i'; simp]
      exact sm_zero lb
    rw [this, sm_zero]
    simp [each]
  | y :: r, hb => by
    have ih := conv_count a la lb j ha r fun z hz => hb z (by simp [hz])
    have hy := hb y (by simp)
    unfold each at ih ⊢
    rw [List.flatMap_cons, List.count_append, ← ih, count_shift]
    have e1 : ∀ i, (fun i' => if i + i' = j then a.count i * (y :: r).count i' else 0) = fun i' => (if i + i' = j then a.count i * r.count i' else 0) + (if i' = y then (if i + i' = j then a.count i else 0) else 0) := fun i => by
      funext i'
      rw [List.count_cons]
      by_cases h1 : i + i' = j
      · by_cases h2 : i' = y
        · subst h2; simp [h1, Nat.mul_add]
        · have : ¬ y = i' := fun q => h2 q.symm
          simp [h1, h2, this]
      · simp [h1]
    have e2 : (fun i => sm lb fun i' => if i + i' = j then a.count i * (y :: r).count i' else 0) = fun i => (sm lb fun i' => if i + i' = j then a.count i * r.count i' else 0) + (if i + y = j then a.count i else 0) := by
      funext i
      rw [e1 i, sm_add, sm_one y (fun i' => if i + i' = j then a.count i else 0), if_pos hy]
    rw [e2, sm_add, Nat.add_comm]
    congr 1
    by_cases h : y ≤ j
    · rw [if_pos h]
      have e3 : (fun i => if i + y = j then a.count i else 0) = fun i => if i = j - y then a.count i else 0 := by
        funext i
        by_cases q : i + y = j
        · have : i = j - y := by omega
          simp [this, Nat.sub_add_cancel h]
        · have : ¬ i = j - y := by omega
          simp [q, this]
      rw [e3, sm_one]
      by_cases hl : j - y < la
      · rw [if_pos hl]
      · rw [if_neg hl]
        exact (List.count_eq_zero.mpr fun hm => hl (ha _ hm)).symm ▸ rfl
    · rw [if_neg h]
      have e3 : (fun i => if i + y = j then a.count i else 0) = fun _ => 0 := by
        funext i
        have : ¬ i + y = j := by omega
        simp [this]
      rw [e3, sm_zero]
theorem hist_each {a b : List Nat} (na : a ≠ []) (nb : b ≠ []) : hist (each a b) = mulN (hist a) (hist b) := by
  unfold mulN
  rw [if_neg (by simp [hist_ne])]
  unfold hist
  rw [each_mx na nb]
  simp only [List.length_map, List.length_range]
  rw [show mxN a + 1 + (mxN b + 1) - 1 = mxN a + mxN b + 1 by omega]
  refine List.map_congr_left fun j _ => ?_
  rw [← conv_count a (mxN a + 1) (mxN b + 1) j (fun x hx => by have := le_mxN hx; omega) b fun y hy => by have := le_mxN hy; omega]
  have h1 := hist_at a
  have h2 := hist_at b
  have h3 := hist_len b
  unfold hist at h1 h2 h3
  unfold cvP
  simp only [sm, Nat.add_zero, h1, h2, h3]
theorem hist_sum (l : List Nat) : (hist l).sum = l.length := by
  have key : ∀ n, (∀ x ∈ l, x < n) → ((List.range n).map fun j => l.count j).sum = l.length := by
    intro n hn
    induction l with
    | nil => simp [map_const]
    | cons x r ih =>
      have h1 := ih fun y hy => hn y (by simp [hy])
      have h2 := hn x (by simp)
      have e : ∀ m, ((List.range m).map fun j => (x :: r).count j).sum = ((List.range m).map fun j => r.count j).sum + if x < m then 1 else 0 := by
        intro m
        induction m with
        | zero => simp
        | succ m ihm =>
          rw [List.range_succ, List.map_append, List.map_append, List.sum_append, List.sum_append, ihm]
          simp only [List.map_cons, List.map_nil, List.sum_cons, List.sum_nil, List.count_cons]
          by_cases q : x < m
          · have : ¬ x = m := by omega
            simp [q, this, Nat.lt_succ_of_lt q]; omega
          · by_cases q2 : x = m
            · subst q2; simp; omega
            · have : ¬ x < m + 1 := by omega
              simp [q, q2, this]
      rw [e, h1, if_pos h2]; rfl
  exact key _ fun x hx => by have := le_mxN hx; omega
theorem hist_last {l : List Nat} (h : l ≠ []) : 1 ≤ (hist l).getD (mxN l) 0 := by
  rw [hist_at]
  exact List.count_pos_iff.mpr (mxN_mem h)
end G
/-! M: parity, flips, families of some sizes. -/
namespace G
theorem pc_countP (a : Nat) : pc a = (List.range 12).countP fun t => a.testBit t := by
  unfold pc lotN
  rw [List.countP_eq_length_filter]
theorem bits_add (a b : Nat) (l : List Nat) : (l.countP fun t => a.testBit t) + (l.countP fun t => b.testBit t) = (l.countP fun t => (a ^^^ b).testBit t) + 2 * l.countP fun t => (a &&& b).testBit t := by
  induction l with
  | nil => rfl
  | cons t r ih =>
    simp only [List.countP_cons, Nat.testBit_xor, Nat.testBit_and] at ih ⊢
    cases a.testBit t <;> cases b.testBit t <;> simp <;> omega
theorem pc_add (a b : Nat) : pc a + pc b = pc (a ^^^ b) + 2 * pc (a &&& b) := by
  simp only [pc_countP]
  exact bits_add a b _
theorem pc_tri (a b : Nat) : pc (a ^^^ b) ≤ pc a + pc b := by have := pc_add a b; omega
theorem pc_par (a b : Nat) : pc (a ^^^ b) % 2 = (pc a + pc b) % 2 := by have := pc_add a b; omega
theorem xor_back (x m : Nat) : x ^^^ (x ^^^ m) = m := by rw [← Nat.xor_assoc, Nat.xor_self, Nat.zero_xor]
theorem pc_dist (x m : Nat) : pc m ≤ pc x + pc (x ^^^ m) ∧ pc x ≤ pc m + pc (x ^^^ m) := by
  have h1 := pc_tri x (x ^^^ m)
  rw [xor_back] at h1
  have h2 := pc_tri m (x ^^^ m)
  rw [Nat.xor_comm x m, xor_back, Nat.xor_comm m x] at h2
  exact ⟨h1, h2⟩
theorem pc_eq_zero {d : Nat} (h : d < 2 ^ 12) (h0 : pc d = 0) : d = 0 := by
  apply Nat.eq_of_testBit_eq
  intro t
  rw [Nat.zero_testBit]
  have hn : lotN d = [] := List.length_eq_zero_iff.mp h0
  cases hb : d.testBit t with
  | false => rfl
  | true =>
    have : t ∈ lotN d := lotN_mem.mpr ⟨bit_lt h hb, hb⟩
    rw [hn] at this
    cases this
theorem pc_pw {t : Nat} (h : t < 10) : pc (pw t) = 1 := by
  have := (top_bit (e := 0) h (pw_pos t)).2
  simpa [pc_zero] using this
theorem flip_bit (x t : Nat) (h : t < 10) : (x.testBit t = false → pc (x ^^^ pw t) = pc x + 1) ∧ (x.testBit t = true → pc x = pc (x ^^^ pw t) + 1) := by
  have ha := pc_add x (pw t)
  rw [pc_pw h] at ha
  constructor
  · intro hb
    have : x &&& pw t = 0 := by
      apply Nat.eq_of_testBit_eq
      intro i
      unfold pw
      rw [Nat.testBit_and, Nat.testBit_two_pow, Nat.zero_testBit]
      by_cases e : t = i
      · subst e; simp [hb]
      · simp [e]
    rw [this, pc_zero] at ha
    omega
  · intro hb
    have : x &&& pw t = pw t := by
      apply Nat.eq_of_testBit_eq
      intro i
      unfold pw
      rw [Nat.testBit_and, Nat.testBit_two_pow]
      by_cases e : t = i
      · subst e; simp [hb]
      · simp [e]
    rw [this, pc_pw h] at ha
    omega
theorem up {k : Nat} (hk : k ≤ 10) : ∀ d x, x < pw k → pc x + d ≤ k → ∃ m, m < pw k ∧ pc m = pc x + d ∧ pc (x ^^^ m) = d
  | 0, x, hx, _ => ⟨x, hx, rfl, by rw [Nat.xor_self, pc_zero]⟩
  | d + 1, x, hx, h => by
    obtain ⟨t, ht, hb⟩ : ∃ t, t < k ∧ x.testBit t = false := by
      refine Classical.byContradiction fun hn => ?_
      have hall : ∀ t, t < k → x.testBit t = true := fun t ht => by
        cases hb : x.testBit t with
        | true => rfl
        | false => exact (hn ⟨t, ht, hb⟩).elim
      have := (List.nodup_range (n := k)).length_le_of_subset (l₂ := lotN x) fun t ht => lotN_mem.mpr ⟨by have := List.mem_range.mp ht; omega, hall t (List.mem_range.mp ht)⟩
      rw [List.length_range] at this
      have h2 : (lotN x).length = pc x := rfl
      omega
    have h1 := (flip_bit x t (by omega)).1 hb
    obtain ⟨m, h2, h3, h4⟩ := up hk d (x ^^^ pw t) (xor_lt hx (pw_lt ht)) (by omega)
    have h5 := pc_dist x m
    have h6 := pc_tri (pw t) ((x ^^^ pw t) ^^^ m)
    have e : pw t ^^^ ((x ^^^ pw t) ^^^ m) = x ^^^ m := by
      rw [← Nat.xor_assoc, Nat.xor_comm x (pw t), xor_back]
    rw [e, pc_pw (by omega), h4] at h6
    exact ⟨m, h2, by omega, by omega⟩
theorem down {k : Nat} (hk : k ≤ 10) : ∀ d x, x < pw k → d ≤ pc x → ∃ m, m < pw k ∧ pc m + d = pc x ∧ pc (x ^^^ m) = d
  | 0, x, hx, _ => ⟨x, hx, rfl, by rw [Nat.xor_self, pc_zero]⟩
  | d + 1, x, hx, h => by
    obtain ⟨t, hm⟩ : ∃ t, t ∈ lotN x := by
      cases hl : lotN x with
      | nil =>
        have : pc x = 0 := by unfold pc; rw [hl]; rfl
        omega
      | cons t r => exact ⟨t, by simp⟩
    have hb := (lotN_mem.mp hm).2
    have ht := lotN_lt hx hm
    have h1 := (flip_bit x t (by omega)).2 hb
    obtain ⟨m, h2, h3, h4⟩ := down hk d (x ^^^ pw t) (xor_lt hx (pw_lt ht)) (by omega)
    have h5 := pc_dist x m
    have h6 := pc_tri (pw t) ((x ^^^ pw t) ^^^ m)
    have e : pw t ^^^ ((x ^^^ pw t) ^^^ m) = x ^^^ m := by
      rw [← Nat.xor_assoc, Nat.xor_comm x (pw t), xor_back]
    rw [e, pc_pw (by omega), h4] at h6
    exact ⟨m, h2, by omega, by omega⟩
/-- depths of the family of all lots of some sizes -/
theorem siz_min {k lo hi : Nat} {L : List Nat} (hk : k ≤ 10) (hlo : lo ≤ k) (hle : lo ≤ hi) (hL : ∀ m, m ∈ L ↔ m < pw k ∧ lo ≤ pc m ∧ pc m ≤ hi) {x : Nat} (hx : x < pw k) : IsMin (max (lo - pc x) (pc x - hi)) L x := by
  refine ⟨?_, fun m hm => ?_⟩
  · by_cases h1 : pc x < lo
    · obtain ⟨m, a, b, c⟩ := up hk (lo - pc x) x hx (by omega)
      exact ⟨m, (hL m).mpr ⟨a, by omega, by omega⟩, by rw [c]; omega⟩
    · obtain ⟨m, a, b, c⟩ := down hk (pc x - hi) x hx (by omega)
      exact ⟨m, (hL m).mpr ⟨a, by omega, by omega⟩, by rw [c]; omega⟩
  · have := (hL m).mp hm
    have := pc_dist x m
    omega
theorem depI_by {k : Nat} {L : List Nat} (hk : k ≤ 10) (hL : ∀ m ∈ L, m < pw k) (ne : L ≠ []) {f : Nat → Nat} (h : ∀ x, x < pw k → IsMin (f x) L x) : depI k L = (List.range (pw k)).map f := by
  unfold depI
  exact List.map_congr_left fun x hx => (dp_min hk hL ne (List.mem_range.mp hx)).uniq (h x (List.mem_range.mp hx))
/-- as many noughts as lots -/
theorem count0 {k : Nat} {L : List Nat} (hk : k ≤ 10) (nd : L.Nodup) (hL : ∀ m ∈ L, m < pw k) (ne : L ≠ []) : (depI k L).count 0 = L.length := by
  have e : (depI k L).count 0 = ((List.range (pw k)).filter fun x => dpF k L k x == 0).length := by
    unfold depI
    rw [List.count_eq_countP, List.countP_map, List.countP_eq_length_filter]
    rfl
  have hz : ∀ x, x < pw k → (dpF k L k x = 0 ↔ x ∈ L) := fun x hx => by
    have hm := dp_min hk hL ne hx
    constructor
    · intro h0
      obtain ⟨m, hm2, e⟩ := hm.got
      have hd : x ^^^ m = 0 := pc_eq_zero (pw12 (xor_lt hx (hL m hm2)) (by omega)) (by omega)
      have := congrArg (x ^^^ ·) hd
      simp only [xor_back, Nat.xor_zero] at this
      exact this ▸ hm2
    · intro hx2
      have := hm.least x hx2
      rw [Nat.xor_self, pc_zero] at this
      omega
  rw [e]
  refine Nat.le_antisymm ?_ ?_
  · refine (List.Nodup.sublist List.filter_sublist List.nodup_range).length_le_of_subset fun x hx => ?_
    obtain ⟨h1, h2⟩ := List.mem_filter.mp hx
    exact (hz x (List.mem_range.mp h1)).mp (beq_iff_eq.mp h2)
  · refine nd.length_le_of_subset fun x hx => ?_
    exact List.mem_filter.mpr ⟨List.mem_range.mpr (hL x hx), beq_iff_eq.mpr ((hz x (hL x hx)).mpr hx)⟩
/-! ### a row of a triangle -/
def pasS (row : List Nat) : List Nat := 1 :: ((List.range (row.length - 1)).map fun t => row.getD t 0 + row.getD (t + 1) 0) ++ [1]
def pas : Nat → List Nat
  | 0 => [1]
  | n + 1 => pasS (pas n)
theorem pas_len : ∀ n, (pas n).length = n + 1
  | 0 => rfl
  | n + 1 => by simp [pas, pasS, pas_len n]
def dueN (lo hi : Nat) : Nat → List Nat
  | 0 => []
  | m + 1 => addN (dueN lo hi m) (List.replicate (max (lo - m) (m - hi)) 0 ++ [(pas 8).getD m 0])
def P8 : List Nat := [0, 1, 1, 2, 1, 2, 2, 3, 1, 2, 2, 3, 2, 3, 3, 4, 1, 2, 2, 3, 2, 3, 3, 4, 2, 3, 3, 4, 3, 4, 4, 5, 1, 2, 2, 3, 2, 3, 3, 4, 2, 3, 3, 4, 3, 4, 4, 5, 2, 3, 3, 4, 3, 4, 4, 5, 3, 4, 4, 5, 4, 5, 5, 6, 1, 2, 2, 3, 2, 3, 3, 4, 2, 3, 3, 4, 3, 4, 4, 5, 2, 3, 3, 4, 3, 4, 4, 5, 3, 4, 4, 5, 4, 5, 5, 6, 2, 3, 3, 4, 3, 4, 4, 5, 3, 4, 4, 5, 4, 5, 5, 6, 3, 4, 4, 5, 4, 5, 5, 6, 4, 5, 5, 6, 5, 6, 6, 7, 1, 2, 2, 3, 2, 3, 3, 4, 2, 3, 3, 4, 3, 4, 4, 5, 2, 3, 3, 4, 3, 4, 4, 5, 3, 4, 4, 5, 4, 5, 5, 6, 2, 3, 3, 4, 3, 4, 4, 5, 3, 4, 4, 5, 4, 5, 5, 6, 3, 4, 4, 5, 4, 5, 5, 6, 4, 5, 5, 6, 5, 6, 6, 7, 2, 3, 3, 4, 3, 4, 4, 5, 3, 4, 4, 5, 4, 5, 5, 6, 3, 4, 4, 5, 4, 5, 5, 6, 4, 5, 5, 6, 5, 6, 6, 7, 3, 4, 4, 5, 4, 5, 5, 6, 4, 5, 5, 6, 5, 6, 6, 7, 4, 5, 5, 6, 5, 6, 6, 7, 5, 6, 6, 7, 6, 7, 7, 8]
theorem p8 : (List.range (pw 8)).map pc = P8 := by decide +kernel
def mulSum (l : List Nat) : Nat := ((List.range l.length).map fun j => j * l.getD j 0).sum
theorem due_all : ((List.range 9).all fun lo => (List.range 9).all fun hi => !(Nat.ble lo hi) || (decide (hist (P8.map fun p => max (lo - p) (p - hi)) = dueN lo hi 9) && (Nat.beq (dueN lo hi 9).sum 256 && Nat.beq (P8.map fun p => max (lo - p) (p - hi)).sum (mulSum (dueN lo hi 9))))) = true := by decide +kernel
theorem even_all : hist (P8.map fun p => p % 2) = [128, 128] ∧ (P8.map fun p => p % 2).sum = 128 := by decide +kernel
theorem par_all : ((List.range 6).all fun k => (List.range 2).all fun b => Nat.beq k 0 || Nat.beq ((List.range (pw k)).countP fun x => (pc x + b) % 2 == 0) (pw (k - 1))) = true := by decide +kernel
theorem par_all2 : ((List.range 6).all fun k => (List.range 2).all fun b => Nat.beq k 0 || Nat.beq ((List.range (pw k)).countP fun x => (pc x + b) % 2 == 1) (pw (k - 1))) = true := by decide +kernel
end G
/-! M: while; sorted lots are told by their set; exchange. -/
namespace G
theorem whl_use {C : RS → Prop} {c : E} {body ss : List Sm} {cf : Cfg} {env : Frm} {S : Sto} (Inv : Nat → Frm → Sto → Prop) (N : Nat) (hN : N < 1048576) (h0 : Inv N env S)
    (st : ∀ m env S, Inv m env S → (∃ S1, evT c cf env S = .ok false S1 ∧ C (exSs ss cf env S1)) ∨ ∃ S1 env' S' m', evT c cf env S = .ok true S1 ∧ exSs body cf env S1 = .ok .nx env' S' ∧ m' < m ∧ Inv m' env' S') : C (exSs (.whl c body :: ss) cf env S) := by
  have key : ∀ (f m : Nat) (env : Frm) (S : Sto), m < f → Inv m env S → ∃ env' S', wloop (fun env S => evT c cf env S) (fun env S => exSs body cf env S) f env S = .ok .nx env' S' ∧ C (exSs ss cf env' S') := by
    intro f
    induction f with
    | zero => exact fun m env S h _ => absurd h (Nat.not_lt_zero m)
    | succ f ih =>
      intro m env S hm hi
      rcases st m env S hi with ⟨S1, e1, q⟩ | ⟨S1, env1, S2, m1, e1, e2, hlt, hi2⟩
      · exact ⟨env, S1, by rw [wloop, e1]; rfl, q⟩
      · obtain ⟨env2, S3, e3, q⟩ := ih m1 env1 S2 (by omega) hi2
        refine ⟨env2, S3, ?_, q⟩
        rw [wloop, e1]
        simp only [R.st, e2]
        exact e3
  obtain ⟨env1, S1, e, q⟩ := key 1048576 N env S hN h0
  have e3 : exS (.whl c body) cf env S = .ok .nx env1 S1 := by
    rw [exS]
    exact e
  rw [exSs_ok e3]
  exact q
def augK (i : Nat) (o : Bop) (a : Int) (env : Frm) (cf : Cfg) (ss : List Sm) (v : Va) (S1 : Sto) : RS := match v with
  | .d (.int b) => (match iop o a b with
    | some k => exSs ss cf (env.set i (some (.d (.int k)))) S1
    | none => .bad)
  | _ => .bad
@[simp] theorem augK_i (i : Nat) (o : Bop) (a b : Int) (env : Frm) (cf : Cfg) (ss : List Sm) (S : Sto) : augK i o a env cf ss (.d (.int b)) S = (match iop o a b with
    | some k => exSs ss cf (env.set i (some (.d (.int k)))) S
    | none => .bad) := rfl
theorem y_aug {i : Nat} {o : Bop} {e : E} {ss : List Sm} {cf : Cfg} {env : Frm} {S : Sto} {a : Int} (h : env[i]? = some (some (.d (.int a)))) : exSs (.aug i o e :: ss) cf env S = (stl (evE e cf env S)).st env (augK i o a env cf ss) := by
  rw [exSs, exS, h]
  cases stl (evE e cf env S) with
  | ok v S1 =>
    cases v with
    | d x =>
      cases x with
      | int b =>
        simp only [R.st, augK]
        cases iop o a b <;> rfl
      | _ => rfl
    | _ => rfl
  | _ => rfl
/-! ### sorted -/
theorem lex_irr : ∀ a : List Int, lexLt a a = false
  | [] => rfl
  | x :: r => by
    have := lex_irr r
    unfold lexLt
    simp [this]
theorem lex_asym : ∀ a b : List Int, lexLt a b = true → lexLt b a = false
  | [], [], h => by cases h
  | [], _ :: _, _ => rfl
  | _ :: _, [], h => by simp [lexLt] at h
  | x :: r, y :: s, h => by
    unfold lexLt at h ⊢
    have ih := lex_asym r s
    by_cases h1 : x < y
    · have : ¬ y < x := by omega
      have h2 : ¬ y = x := by omega
      simp [this, h2]
    · by_cases h2 : x = y
      · subst h2
        simp at h ⊢
        exact ih h
      · simp [h1, h2] at h
theorem lex_total : ∀ a b : List Int, lexLt a b = false → lexLt b a = false → a = b
  | [], [], _, _ => rfl
  | [], _ :: _, h, _ => by simp [lexLt] at h
  | _ :: _, [], _, h => by simp [lexLt] at h
  | x :: r, y :: s, h, g => by
    unfold lexLt at h g
    by_cases h1 : x < y
    · simp [h1] at h
      exact absurd h.1 (by omega)
    · by_cases h2 : y < x
      · simp [h2] at g
        exact absurd g.1 (by omega)
      · have e : x = y := by omega
        subst e
        simp at h g
        rw [lex_total r s h g]
theorem lex_trans : ∀ a b c : List Int, lexLt b a = false → lexLt c b = false → lexLt c a = false
  | [], b, c, h1, h2 => by cases c <;> simp [lexLt]
  | x :: r, [], c, h1, h2 => by simp [lexLt] at h1
  | x :: r, y :: s, [], h1, h2 => by simp [lexLt] at h2
  | x :: r, y :: s, z :: t, h1, h2 => by
    unfold lexLt at h1 h2 ⊢
    have ih := lex_trans r s t
    by_cases a1 : y < x
    · simp [a1] at h1
      exact absurd h1.1 (by omega)
    · by_cases a2 : z < y
      · simp [a2] at h2
        exact absurd h2.1 (by omega)
      · have a3 : ¬ z < x := by omega
        by_cases e1 : z = x
        · have e2 : y = x := by omega
          have e3 : z = y := by omega
          subst e2; subst e3
          simp at h1 h2 ⊢
          exact ih h1 h2
        · simp [a3, e1]
def SrtL : List Nat → Prop := List.Pairwise fun x y => lexLt (lotI y) (lotI x) = false
theorem insM_srt (x : Nat) : ∀ l : List Nat, SrtL l → SrtL (insM x l)
  | [], _ => by simp [insM, SrtL]
  | y :: r, h => by
    obtain ⟨h1, h2⟩ := List.pairwise_cons.mp h
    unfold insM
    split
    · rename_i q
      refine List.pairwise_cons.mpr ⟨fun z hz => ?_, insM_srt x r h2⟩
      rcases List.mem_cons.mp ((insM_perm x r).mem_iff.mp hz) with rfl | hz
      · exact lex_asym _ _ q
      · exact h1 z hz
    · rename_i q
      rw [Bool.not_eq_true] at q
      refine List.pairwise_cons.mpr ⟨fun z hz => ?_, h⟩
      rcases List.mem_cons.mp hz with rfl | hz
      · exact q
      · exact lex_trans _ _ _ q (h1 z hz)
theorem srtM_srt : ∀ l : List Nat, SrtL (srtM l)
  | [] => .nil
  | x :: r => insM_srt x _ (srtM_srt r)
theorem lotI_inj {a b : Nat} (ha : a < 2 ^ 12) (hb : b < 2 ^ 12) (h : lotI a = lotI b) : a = b := by
  have : lotN a = lotN b := cast_inj.mp h
  rw [← lotN_num ha, ← lotN_num hb, this]
theorem srt_uniq : ∀ {a b : List Nat}, (∀ m ∈ a, m < 2 ^ 12) → a.Perm b → SrtL a → SrtL b → a = b
  | [], b, _, p, _, _ => by rw [p.nil_eq]
  | x :: r, [], _, p, _, _ => by exact absurd p.length_eq (by simp)
  | x :: r, y :: s, hm, p, ha, hb => by
    obtain ⟨a1, a2⟩ := List.pairwise_cons.mp ha
    obtain ⟨b1, b2⟩ := List.pairwise_cons.mp hb
    have e : x = y := by
      by_cases h : x = y
      · exact h
      · have h1 : y ∈ r := by
          rcases List.mem_cons.mp (p.mem_iff.mpr (by simp : y ∈ y :: s)) with z | z
          · exact absurd z.symm h
          · exact z
        have h2 : x ∈ s := by
          rcases List.mem_cons.mp (p.mem_iff.mp (by simp : x ∈ x :: r)) with z | z
          · exact absurd z h
          · exact z
        exact lotI_inj (hm x (by simp)) (hm y (by simp [h1])) (lex_total _ _ (b1 x h2) (a1 y h1))
    subst e
    rw [srt_uniq (fun m h => hm m (by simp [h])) (List.perm_cons x |>.mp p) a2 b2]
theorem srtM_eq {a b : List Nat} (hm : ∀ m ∈ a, m < 2 ^ 12) (p : a.Perm b) : srtM a = srtM b :=
  srt_uniq (fun m h => hm m ((srtM_perm a).mem_iff.mp h)) ((srtM_perm a).trans (p.trans (srtM_perm b).symm)) (srtM_srt a) (srtM_srt b)
theorem perm_of {a b : List Nat} (na : a.Nodup) (nb : b.Nodup) (h : ∀ x, x ∈ a ↔ x ∈ b) : a.Perm b := (List.perm_ext_iff_of_nodup na nb).mpr h
/-- the same set, the same sorted row -/
theorem srtM_set {a b : List Nat} (hm : ∀ m ∈ a, m < 2 ^ 12) (na : a.Nodup) (nb : b.Nodup) (h : ∀ x, x ∈ a ↔ x ∈ b) : srtM a = srtM b := srtM_eq hm (perm_of na nb h)
/-! ### exchange -/
def Gt (A : Nat → Prop) : Prop := ∀ a b, A a → A b → ∀ t, (a ^^^ b).testBit t = true → A (a ^^^ pw t) ∨ ∃ u, u ≠ t ∧ (a ^^^ b).testBit u = true ∧ A (a ^^^ pw t ^^^ pw u)
theorem bit_pw (t i : Nat) : (pw t).testBit i = decide (t = i) := by
  unfold pw
  rw [Nat.testBit_two_pow]
def Sm2 (A B : Nat → Prop) (x : Nat) : Prop := ∃ a b, A a ∧ B b ∧ x = a ^^^ b
theorem sum_step {A B : Nat → Prop} {k : Nat} (hk : k ≤ 10) (lA : ∀ a, A a → a < pw k) (lB : ∀ b, B b → b < pw k) (gA : Gt A) (gB : Gt B) {x a2 b2 t : Nat} (h2A : A a2) (h2B : B b2) (ht : (x ^^^ (a2 ^^^ b2)).testBit t = true) :
    ∀ (n a b r : Nat), A a → B b → a ^^^ b = x ^^^ pw t ^^^ pw r → pc (a ^^^ a2) + pc (b ^^^ b2) ≤ n → Sm2 A B (x ^^^ pw t) ∨ ∃ u, u ≠ t ∧ (x ^^^ (a2 ^^^ b2)).testBit u = true ∧ Sm2 A B (x ^^^ pw t ^^^ pw u) := by
  intro n
  induction n with
  | zero =>
    intro a b r ha hb e hn
    by_cases hr : r ≠ t ∧ (x ^^^ (a2 ^^^ b2)).testBit r = true
    · exact .inr ⟨r, hr.1, hr.2, a, b, ha, hb, e.symm⟩
    · exfalso
      have z1 : a ^^^ a2 = 0 := pc_eq_zero (pw12 (xor_lt (lA a ha) (lA _ h2A)) (by omega)) (by omega)
      have z2 : b ^^^ b2 = 0 := pc_eq_zero (pw12 (xor_lt (lB b hb) (lB _ h2B)) (by omega)) (by omega)
      have y1 : ((a ^^^ b) ^^^ (a2 ^^^ b2)).testBit r = false := by
        have : (a ^^^ b) ^^^ (a2 ^^^ b2) = (a ^^^ a2) ^^^ (b ^^^ b2) := by ac_rfl
        rw [this, z1, z2]
        simp
      rw [e] at y1
      simp only [Nat.testBit_xor, bit_pw] at y1 hr ht
      by_cases q : r = t
      · subst q
        simp at y1
        simp [y1] at ht
      · have q2 : ¬ t = r := fun z => q z.symm
        simp [q2] at y1
        simp [q, y1] at hr
  | succ n ih =>
    intro a b r ha hb e hn
    by_cases hr : r ≠ t ∧ (x ^^^ (a2 ^^^ b2)).testBit r = true
    · exact .inr ⟨r, hr.1, hr.2, a, b, ha, hb, e.symm⟩
    · have y1 : ((a ^^^ a2) ^^^ (b ^^^ b2)).testBit r = true := by
        have e2 : (a ^^^ a2) ^^^ (b ^^^ b2) = (a ^^^ b) ^^^ (a2 ^^^ b2) := by ac_rfl
        rw [e2, e]
        simp only [Nat.testBit_xor, bit_pw] at hr ht ⊢
        by_cases q : r = t
        · subst q
          simp [ht]
        · have q2 : ¬ t = r := fun z => q z.symm
          simp [q] at hr
          simp [q2, hr]
      have l1 := xor_lt (lA a ha) (lA _ h2A)
      have l2 := xor_lt (lB b hb) (lB _ h2B)
      have lt10 : ∀ {m i : Nat}, m < pw k → m.testBit i = true → i < 10 := fun hm hi => Nat.lt_of_lt_of_le (bit_lt hm hi) hk
      by_cases hA : (a ^^^ a2).testBit r = true
      · rcases gA a a2 ha h2A r hA with q | ⟨s, hs, hsb, q⟩
        · left
          refine ⟨_, b, q, hb, ?_⟩
          rw [show a ^^^ pw r ^^^ b = a ^^^ b ^^^ pw r by ac_rfl, e, Nat.xor_assoc (x ^^^ pw t), Nat.xor_self, Nat.xor_zero]
        · have f1 := (flip_bit (a ^^^ a2) r (lt10 l1 hA)).2 hA
          have hsb2 : (a ^^^ a2 ^^^ pw r).testBit s = true := by
            have : ¬ r = s := fun z => hs z.symm
            rw [Nat.testBit_xor, hsb, bit_pw]
            simp [this]
          have f2 := (flip_bit (a ^^^ a2 ^^^ pw r) s (lt10 l1 hsb)).2 hsb2
          refine ih (a ^^^ pw r ^^^ pw s) b s q hb ?_ ?_
          · rw [show a ^^^ pw r ^^^ pw s ^^^ b = a ^^^ b ^^^ pw r ^^^ pw s by ac_rfl, e, Nat.xor_assoc (x ^^^ pw t), Nat.xor_self, Nat.xor_zero]
          · have : (a ^^^ pw r ^^^ pw s) ^^^ a2 = a ^^^ a2 ^^^ pw r ^^^ pw s := by ac_rfl
            rw [this]
            omega
      · have hB : (b ^^^ b2).testBit r = true := by
          rw [Bool.not_eq_true] at hA
          rw [Nat.testBit_xor, hA] at y1
          simpa using y1
        rcases gB b b2 hb h2B r hB with q | ⟨s, hs, hsb, q⟩
        · left
          refine ⟨a, _, ha, q, ?_⟩
          rw [← Nat.xor_assoc, e, Nat.xor_assoc (x ^^^ pw t), Nat.xor_self, Nat.xor_zero]
        · have f1 := (flip_bit (b ^^^ b2) r (lt10 l2 hB)).2 hB
          have hsb2 : (b ^^^ b2 ^^^ pw r).testBit s = true := by
            have : ¬ r = s := fun z => hs z.symm
            rw [Nat.testBit_xor, hsb, bit_pw]
            simp [this]
          have f2 := (flip_bit (b ^^^ b2 ^^^ pw r) s (lt10 l2 hsb)).2 hsb2
          refine ih a (b ^^^ pw r ^^^ pw s) s ha q ?_ ?_
          · rw [← Nat.xor_assoc, ← Nat.xor_assoc, e, Nat.xor_assoc (x ^^^ pw t), Nat.xor_self, Nat.xor_zero]
          · have : (b ^^^ pw r ^^^ pw s) ^^^ b2 = b ^^^ b2 ^^^ pw r ^^^ pw s := by ac_rfl
            rw [this]
            omega
/-- the sum of two families with the exchange has the exchange -/
theorem sum_gt {A B : Nat → Prop} {k : Nat} (hk : k ≤ 10) (lA : ∀ a, A a → a < pw k) (lB : ∀ b, B b → b < pw k) (gA : Gt A) (gB : Gt B) : Gt (Sm2 A B) := by
  rintro x y ⟨a, b, ha, hb, rfl⟩ ⟨a2, b2, h2A, h2B, rfl⟩ t ht
  refine sum_step hk lA lB gA gB h2A h2B ht _ a b t ha hb ?_ (Nat.le_refl _)
  rw [Nat.xor_assoc (a ^^^ b), Nat.xor_self, Nat.xor_zero]
/-- all lots of some sizes have the exchange -/
theorem siz_gt {k lo hi : Nat} (hk : k ≤ 10) : Gt fun x => x < pw k ∧ lo ≤ pc x ∧ pc x ≤ hi := by
  rintro a b ⟨ha, ha1, ha2⟩ ⟨hb, hb1, hb2⟩ t ht
  have l1 := xor_lt ha hb
  have htk : t < k := bit_lt l1 ht
  have hp : a ^^^ pw t < pw k := xor_lt ha (pw_lt htk)
  by_cases hat : a.testBit t = true
  · have f := (flip_bit a t (by omega)).2 hat
    by_cases hlo : lo ≤ pc (a ^^^ pw t)
    · exact .inl ⟨hp, hlo, by omega⟩
    · -- a thing of b that a lacks
      have hbt : b.testBit t = false := by
        rw [Nat.testBit_xor, hat] at ht
        simpa using ht
      obtain ⟨u, hu1, hu2⟩ : ∃ u, b.testBit u = true ∧ a.testBit u = false := by
        refine Classical.byContradiction fun hn => ?_
        have sub : ∀ u, u ∈ lotN b → u ∈ lotN (a ^^^ pw t) := fun u hu => by
          obtain ⟨h1, h2⟩ := lotN_mem.mp hu
          refine lotN_mem.mpr ⟨h1, ?_⟩
          have h3 : a.testBit u = true := by
            cases q : a.testBit u with
            | true => rfl
            | false => exact (hn ⟨u, h2, q⟩).elim
          have h4 : ¬ t = u := fun z => by rw [z, h2] at hbt; cases hbt
          rw [Nat.testBit_xor, h3, bit_pw]
          simp [h4]
        have := (lotN_nodup b).length_le_of_subset (l₂ := lotN (a ^^^ pw t)) sub
        have e1 : (lotN b).length = pc b := rfl
        have e2 : (lotN (a ^^^ pw t)).length = pc (a ^^^ pw t) := rfl
        omega
      have hut : ¬ t = u := fun z => by rw [z, hu1] at hbt; cases hbt
      have huk : u < k := bit_lt hb hu1
      have hab : (a ^^^ pw t).testBit u = false := by
        rw [Nat.testBit_xor, hu2, bit_pw]
        simp [hut]
      have f2 := (flip_bit (a ^^^ pw t) u (by omega)).1 hab
      refine .inr ⟨u, fun z => hut z.symm, by rw [Nat.testBit_xor, hu1, hu2]; rfl, xor_lt hp (pw_lt huk), by omega, by omega⟩
  · rw [Bool.not_eq_true] at hat
    have f := (flip_bit a t (by omega)).1 hat
    by_cases hhi : pc (a ^^^ pw t) ≤ hi
    · exact .inl ⟨hp, by omega, hhi⟩
    · have hbt : b.testBit t = true := by
        rw [Nat.testBit_xor, hat] at ht
        simpa using ht
      obtain ⟨u, hu1, hu2⟩ : ∃ u, a.testBit u = true ∧ b.testBit u = false := by
        refine Classical.byContradiction fun hn => ?_
        have sub : ∀ u, u ∈ lotN (a ^^^ pw t) → u ∈ lotN b := fun u hu => by
          obtain ⟨h1, h2⟩ := lotN_mem.mp hu
          refine lotN_mem.mpr ⟨h1, ?_⟩
          by_cases h4 : t = u
          · rw [← h4]; exact hbt
          · rw [Nat.testBit_xor, bit_pw] at h2
            simp [h4] at h2
            cases q : b.testBit u with
            | true => rfl
            | false => exact (hn ⟨u, h2, q⟩).elim
        have := (lotN_nodup (a ^^^ pw t)).length_le_of_subset (l₂ := lotN b) sub
        have e1 : (lotN b).length = pc b := rfl
        have e2 : (lotN (a ^^^ pw t)).length = pc (a ^^^ pw t) := rfl
        omega
      have hut : ¬ t = u := fun z => by rw [z, hu2] at hbt; cases hbt
      have huk : u < k := bit_lt ha hu1
      have hab : (a ^^^ pw t).testBit u = true := by
        rw [Nat.testBit_xor, hu1, bit_pw]
        simp [hut]
      have f2 := (flip_bit (a ^^^ pw t) u (by omega)).2 hab
      refine .inr ⟨u, fun z => hut z.symm, by rw [Nat.testBit_xor, hu1, hu2]; rfl, xor_lt hp (pw_lt huk), by omega, by omega⟩
end G
/-! M: rows of lots compared; families within a depth. -/
namespace G
theorem eq_lots : ∀ a b : List Nat, (∀ m ∈ a, m < 2 ^ 12) → (∀ m ∈ b, m < 2 ^ 12) → eqDs (a.map lotD) (b.map lotD) = decide (a = b)
  | [], [], _, _ => by simp [eqDs]
  | [], _ :: _, _, _ => by simp [eqDs]
  | _ :: _, [], _, _ => by simp [eqDs]
  | x :: a, y :: b, h1, h2 => by
    rw [List.map_cons, List.map_cons, eqDs, eq_lots a b (fun m h => h1 m (by simp [h])) (fun m h => h2 m (by simp [h]))]
    have e : eqD (lotD x) (lotD y) = decide (x = y) := by
      unfold lotD
      rw [dN_lot, dN_lot, eqD, eqDs_dI]
      by_cases q : x = y
      · subst q; simp
      · have : ¬ lotI x = lotI y := fun z => q (lotI_inj (h1 x (by simp)) (h2 y (by simp)) z)
        simp [q, this]
    rw [e]
    by_cases q : x = y <;> simp [q]
theorem plain_lots : ∀ a : List Nat, plains (a.map lotD) = true
  | [] => rfl
  | x :: a => by
    rw [List.map_cons, plains, plain_lots a]
    unfold lotD
    rw [dN_lot, plain, plains_dI]
    rfl
theorem dep_lots : ∀ a : List Nat, deps (a.map lotD) ≤ 1
  | [] => by simp [deps]
  | x :: a => by
    rw [List.map_cons, deps]
    have := dep_lots a
    unfold lotD at this ⊢
    rw [dN_lot, dep, deps_dI]
    omega
theorem shp_lots (a : List Nat) : shp (.tup (a.map lotD)) = true ∧ shp (.lst (a.map lotD)) = true := by
  have h1 := plain_lots a
  have h2 := dep_lots a
  unfold shp
  rw [plain, plain, h1, dep, dep]
  constructor
  · simp; omega
  · simp; omega
theorem cmp_lotsT (cf : Cfg) {a b : List Nat} (h1 : ∀ m ∈ a, m < 2 ^ 12) (h2 : ∀ m ∈ b, m < 2 ^ 12) (S : Sto) : cmpV cf .eq (.d (.tup (a.map lotD))) (.d (.tup (b.map lotD))) S = .ok (.d (.bl (decide (a = b)))) S := by
  have s1 := (shp_lots a).1
  have s2 := (shp_lots b).1
  show eqV cf false (.d (.tup (a.map lotD))) (.d (.tup (b.map lotD))) S = _
  simp only [eqV, clsV, datV, s1, s2, Bool.and_self, if_true]
  rw [eqD, eq_lots a b h1 h2]
  rfl
/-! ### within a depth -/
def bal (k : Nat) (L : List Nat) (d : Nat) : List Nat := (List.range (pw k)).filter fun x => decide (dpF k L k x ≤ d)
def sumL (k : Nat) (A B : List Nat) : List Nat := (List.range (pw k)).filter fun z => decide (∃ a ∈ A, ∃ b ∈ B, z = a ^^^ b)
def szL (k lo hi : Nat) : List Nat := (List.range (pw k)).filter fun x => decide (lo ≤ pc x ∧ pc x ≤ hi)
theorem szL_mem {k lo hi x : Nat} : x ∈ szL k lo hi ↔ x < pw k ∧ lo ≤ pc x ∧ pc x ≤ hi := by
  unfold szL
  rw [List.mem_filter, List.mem_range, decide_eq_true_eq]
theorem bal_mem {k d x : Nat} {L : List Nat} : x ∈ bal k L d ↔ x < pw k ∧ dpF k L k x ≤ d := by
  unfold bal
  rw [List.mem_filter, List.mem_range, decide_eq_true_eq]
theorem sumL_mem {k x : Nat} {A B : List Nat} (hA : ∀ a ∈ A, a < pw k) (hB : ∀ b ∈ B, b < pw k) : x ∈ sumL k A B ↔ Sm2 (· ∈ A) (· ∈ B) x := by
  unfold sumL Sm2
  rw [List.mem_filter, List.mem_range, decide_eq_true_eq]
  constructor
  · rintro ⟨_, a, ha, b, hb, e⟩
    exact ⟨a, b, ha, hb, e⟩
  · rintro ⟨a, b, ha, hb, e⟩
    exact ⟨by rw [e]; exact xor_lt (hA a ha) (hB b hb), a, ha, b, hb, e⟩
theorem filt_nd (k : Nat) (p : Nat → Bool) : ((List.range (pw k)).filter p).Nodup := List.Nodup.sublist List.filter_sublist List.nodup_range
theorem filt_lt {k : Nat} {p : Nat → Bool} : ∀ m ∈ (List.range (pw k)).filter p, m < pw k := fun m h => List.mem_range.mp (List.mem_filter.mp h).1
section
variable {k : Nat} {L : List Nat} (hk : k ≤ 10) (hL : ∀ m ∈ L, m < pw k) (ne : L ≠ [])
include hk hL ne
theorem bal_iff {d x : Nat} (hx : x < pw k) : x ∈ bal k L d ↔ ∃ m ∈ L, pc (x ^^^ m) ≤ d := by
  rw [bal_mem]
  have hm := dp_min hk hL ne hx
  constructor
  · rintro ⟨_, h⟩
    obtain ⟨m, h1, h2⟩ := hm.got
    exact ⟨m, h1, by omega⟩
  · rintro ⟨m, h1, h2⟩
    exact ⟨hx, Nat.le_trans (hm.least m h1) h2⟩
theorem bal_in {d m : Nat} (h : m ∈ L) : m ∈ bal k L d := (bal_iff hk hL ne (hL m h)).mpr ⟨m, h, by rw [Nat.xor_self, pc_zero]; omega⟩
theorem bal_ne {d : Nat} : bal k L d ≠ [] := fun e => by
  cases L with
  | nil => exact ne rfl
  | cons m r =>
    have := bal_in hk hL ne (d := d) (m := m) (by simp)
    rw [e] at this
    cases this
/-- a sum with the lots of sizes up to d -/
theorem bal_sum {d x : Nat} : x ∈ bal k L d ↔ Sm2 (· ∈ L) (· ∈ szL k 0 d) x := by
  constructor
  · intro h
    have hx := (bal_mem.mp h).1
    obtain ⟨m, h1, h2⟩ := (bal_iff hk hL ne hx).mp h
    exact ⟨m, m ^^^ x, h1, szL_mem.mpr ⟨xor_lt (hL m h1) hx, by omega, by rw [Nat.xor_comm]; exact h2⟩, (xor_back m x).symm⟩
  · rintro ⟨m, y, h1, h2, rfl⟩
    obtain ⟨y1, _, y2⟩ := szL_mem.mp h2
    refine (bal_iff hk hL ne (xor_lt (hL m h1) y1)).mpr ⟨m, h1, ?_⟩
    rw [Nat.xor_comm m y, Nat.xor_assoc, Nat.xor_self, Nat.xor_zero]
    exact y2
/-- depths in a family within a depth -/
theorem bal_min {d x : Nat} (hx : x < pw k) : IsMin (dpF k L k x - d) (bal k L d) x := by
  have hm := dp_min hk hL ne hx
  obtain ⟨m, h1, h2⟩ := hm.got
  refine ⟨?_, fun z hz => ?_⟩
  · obtain ⟨w, w1, w2, w3⟩ := down hk (dpF k L k x - d) (x ^^^ m) (xor_lt hx (hL m h1)) (by omega)
    refine ⟨m ^^^ w, (bal_iff hk hL ne (xor_lt (hL m h1) w1)).mpr ⟨m, h1, ?_⟩, ?_⟩
    · rw [Nat.xor_comm m w, Nat.xor_assoc, Nat.xor_self, Nat.xor_zero]
      omega
    · rw [← Nat.xor_assoc, w3]
  · have hz1 := (bal_mem.mp hz).1
    obtain ⟨m2, h3, h4⟩ := (bal_iff hk hL ne hz1).mp hz
    have t := pc_tri (x ^^^ z) (z ^^^ m2)
    have e : (x ^^^ z) ^^^ (z ^^^ m2) = x ^^^ m2 := by rw [Nat.xor_assoc, ← Nat.xor_assoc z z, Nat.xor_self, Nat.zero_xor]
    rw [e] at t
    have := hm.least m2 h3
    omega
theorem bal_dep {d x : Nat} (hx : x < pw k) {W : List Nat} (hW : ∀ m, m ∈ W ↔ m ∈ bal k L d) : dpF k W k x = dpF k L k x - d := by
  have lW : ∀ m ∈ W, m < pw k := fun m h => (bal_mem.mp ((hW m).mp h)).1
  have nW : W ≠ [] := fun e => by
    cases hb : bal k L d with
    | nil => exact bal_ne hk hL ne hb
    | cons m r =>
      have := (hW m).mpr (by rw [hb]; simp)
      rw [e] at this
      cases this
  exact (dp_min hk lW nW hx).uniq ((bal_min hk hL ne hx).congr fun m => (hW m).symm)
theorem bal_bal {d e x : Nat} {W : List Nat} (hW : ∀ m, m ∈ W ↔ m ∈ bal k L d) : x ∈ bal k W e ↔ x ∈ bal k L (d + e) := by
  rw [bal_mem, bal_mem]
  constructor
  · rintro ⟨h1, h2⟩
    rw [bal_dep hk hL ne h1 hW] at h2
    exact ⟨h1, by omega⟩
  · rintro ⟨h1, h2⟩
    refine ⟨h1, ?_⟩
    rw [bal_dep hk hL ne h1 hW]
    omega
theorem dep_zero {x : Nat} (hx : x < pw k) : dpF k L k x = 0 ↔ x ∈ L := by
  have hm := dp_min hk hL ne hx
  constructor
  · intro h0
    obtain ⟨m, hm2, e⟩ := hm.got
    have hd : x ^^^ m = 0 := pc_eq_zero (pw12 (xor_lt hx (hL m hm2)) (by omega)) (by omega)
    have := congrArg (x ^^^ ·) hd
    simp only [xor_back, Nat.xor_zero] at this
    exact this ▸ hm2
  · intro hx2
    have := hm.least x hx2
    rw [Nat.xor_self, pc_zero] at this
    omega
theorem bal_zero {x : Nat} : x ∈ bal k L 0 ↔ x ∈ L := by
  rw [bal_mem]
  constructor
  · rintro ⟨h1, h2⟩
    exact (dep_zero hk hL ne h1).mp (by omega)
  · intro h
    exact ⟨hL x h, by have := (dep_zero hk hL ne (hL x h)).mpr h; omega⟩
theorem bal_gt {d : Nat} (g : Gt (· ∈ L)) : Gt (· ∈ bal k L d) := by
  have h := sum_gt (k := k) hk hL (fun b h => (szL_mem.mp h).1) g (B := (· ∈ szL k 0 d)) (by
    have := siz_gt (k := k) (lo := 0) (hi := d) hk
    intro a b ha hb t ht
    rcases this a b (szL_mem.mp ha) (szL_mem.mp hb) t ht with q | ⟨u, q1, q2, q3⟩
    · exact .inl (szL_mem.mpr q)
    · exact .inr ⟨u, q1, q2, szL_mem.mpr q3⟩)
  intro a b ha hb t ht
  rcases h a b ((bal_sum hk hL ne).mp ha) ((bal_sum hk hL ne).mp hb) t ht with q | ⟨u, q1, q2, q3⟩
  · exact .inl ((bal_sum hk hL ne).mpr q)
  · exact .inr ⟨u, q1, q2, (bal_sum hk hL ne).mpr q3⟩
omit ne in
theorem sph_gt {lo hi : Nat} (g : Gt (· ∈ L)) : Gt (· ∈ sumL k L (szL k lo hi)) := by
  have h := sum_gt (k := k) hk hL (fun b h => (szL_mem.mp h).1) g (B := (· ∈ szL k lo hi)) (by
    have := siz_gt (k := k) (lo := lo) (hi := hi) hk
    intro a b ha hb t ht
    rcases this a b (szL_mem.mp ha) (szL_mem.mp hb) t ht with q | ⟨u, q1, q2, q3⟩
    · exact .inl (szL_mem.mpr q)
    · exact .inr ⟨u, q1, q2, szL_mem.mpr q3⟩)
  have m := fun x => sumL_mem (k := k) (x := x) hL (B := szL k lo hi) fun b h => (szL_mem.mp h).1
  intro a b ha hb t ht
  rcases h a b ((m a).mp ha) ((m b).mp hb) t ht with q | ⟨u, q1, q2, q3⟩
  · exact .inl ((m _).mpr q)
  · exact .inr ⟨u, q1, q2, (m _).mpr q3⟩
end
/-- just at a gap -/
theorem sph_iff {k d x : Nat} {L : List Nat} (hL : ∀ m ∈ L, m < pw k) (hx : x < pw k) : x ∈ sumL k L (szL k d d) ↔ ∃ m ∈ L, pc (m ^^^ x) = d := by
  rw [sumL_mem hL fun b h => (szL_mem.mp h).1]
  constructor
  · rintro ⟨m, y, h1, h2, rfl⟩
    obtain ⟨y1, y2, y3⟩ := szL_mem.mp h2
    refine ⟨m, h1, ?_⟩
    rw [xor_back]
    omega
  · rintro ⟨m, h1, h2⟩
    exact ⟨m, m ^^^ x, h1, szL_mem.mpr ⟨xor_lt (hL m h1) hx, by omega, by omega⟩, (xor_back m x).symm⟩
theorem gt_congr {A B : Nat → Prop} (h : ∀ x, A x ↔ B x) (g : Gt A) : Gt B := by
  have : A = B := funext fun x => propext (h x)
  rw [← this]
  exact g
end G
/-! M: rules for exceptions; fit and clash; exchange as masks. -/
namespace G
section
variable {α β : Type} (S S1 : Sto) (cf : Cfg) (env : Frm) (c : Nat) (fs : List D) (e : E) (es : List E) (b b2 : Bool)
@[simp] theorem bind_ex (k : α → Sto → R β) : (R.ex c fs S : R α).bind k = .ex c fs S := rfl
@[simp] theorem st_ex (k : α → Sto → RS) : (R.ex c fs S : R α).st env k = .ex c fs env S := rfl
@[simp] theorem stl_ex : stl (.ex c fs S) = .ex c fs S := rfl
@[simp] theorem tru_ex : tru (.ex c fs S) = .ex c fs S := rfl
@[simp] theorem fin_ex (n : Nat) : fin n (.ex c fs env S) = .ex c fs (S.take n) := rfl
@[simp] theorem andThen_ex (ss : List Sm) : andThen (.ex c fs env S) cf ss = .ex c fs env S := rfl
def rseK (c : Nat) (env : Frm) (cf : Cfg) (vs : List Va) (S1 : Sto) : RS := match dats vs with
  | some l => (match cf.P.xfl c with
    | some ns => if ns.length = l.length then .ex c l env S1 else .bad
    | none => .bad)
  | none => .bad
@[simp] theorem rseK_ap (vs : List Va) : rseK c env cf vs S = (match dats vs with
  | some l => (match cf.P.xfl c with
    | some ns => if ns.length = l.length then .ex c l env S else .bad
    | none => .bad)
  | none => .bad) := rfl
@[simp] theorem y_rse (ss : List Sm) : exSs (.rse c es :: ss) cf env S = (evL es cf env S).st env (rseK c env cf) := by
  rw [exSs, exS]
  cases evL es cf env S with
  | ok vs S1 =>
    simp only [R.st, rseK]
    cases dats vs with
    | none => rfl
    | some l =>
      cases cf.P.xfl c with
      | none => rfl
      | some ns =>
        dsimp only
        by_cases h : ns.length = l.length
        · rw [if_pos h]
        · rw [if_neg h]
  | _ => rfl
theorem y_tr_ex {body hs ss : List Sm} {cf : Cfg} {env e2 : Frm} {S S1 : Sto} {k : Nat} {fs : List D} (h : exSs body cf env S = .ex k fs e2 S1) : exSs (.tr body hs :: ss) cf env S = andThen (exHs hs k fs cf e2 S1) cf ss := by
  rw [exSs, exS, h]
  dsimp only
  cases exHs hs k fs cf e2 S1 with
  | ok o e S2 => cases o <;> rfl
  | _ => rfl
theorem y_tr_ok {body hs ss : List Sm} {cf : Cfg} {env e2 : Frm} {S S1 : Sto} (h : exSs body cf env S = .ok .nx e2 S1) : exSs (.tr body hs :: ss) cf env S = exSs ss cf e2 S1 := by
  rw [exSs, exS, h]
def invK (va : Va) (S1 : Sto) : R Va := match va with
    | .d (.int i) => .ok (.d (.int (-i - 1))) S1
    | _ => .bad
@[simp] theorem invK_ap (i : Int) : invK (.d (.int i)) S = .ok (.d (.int (-i - 1))) S := rfl
@[simp] theorem e_inv : evE (.inv e) cf env S = (stl (evE e cf env S)).bind invK := by rw [evE] <;> rfl
@[simp] theorem cmp_neB : cmpV cf .ne (.d (.bl b)) (.d (.bl b2)) S = .ok (.d (.bl (!(b == b2)))) S := by
  simp [cmpV, eqV, shp, plain, dep, eqD]
@[simp] theorem cmp_eqB : cmpV cf .eq (.d (.bl b)) (.d (.bl b2)) S = .ok (.d (.bl (b == b2))) S := by
  simp [cmpV, eqV, shp, plain, dep, eqD]
@[simp] theorem y_ct (ss : List Sm) : exSs (.ct :: ss) cf env S = .ok .ct env S := by
  rw [exSs, exS]
@[simp] theorem andThen_ct (ss : List Sm) : andThen (.ok .ct env S) cf ss = .ok .ct env S := rfl
end
theorem iop_andn (a s : Nat) : iop .and (a : Int) (-(s : Int) - 1) = some ((a : Int) - (a &&& s : Nat)) := by
  show some (PySem.Builtin.bitAnd (a : Int) (-(s : Int) - 1)) = _
  have h1 : (0 : Int) ≤ a := by omega
  have h2 : ¬ (0 : Int) ≤ -(s : Int) - 1 := by omega
  unfold PySem.Builtin.bitAnd PySem.Builtin.bitNot
  rw [decide_eq_true h1, decide_eq_false h2]
  have e2 : (-(-(s : Int) - 1) - 1).toNat = s := by omega
  simp only [e2, Int.toNat_natCast]
/-! ### fit -/
def nearL (k : Nat) (L : List Nat) (x : Nat) : List Nat := L.filter fun r => decide (pc (r ^^^ x) = dpF k L k x)
def holdsB (k : Nat) (A B : List Nat) (x : Nat) : Bool := (nearL k B x).all fun r => A.any fun l => decide ((l ^^^ x) &&& (r ^^^ x) = l ^^^ x)
def fitB (k : Nat) (L W : List Nat) (x : Nat) : Bool :=
  if dpF k L k x = dpF k W k x then decide (nearL k L x = nearL k W x)
  else if dpF k L k x + 1 = dpF k W k x then holdsB k L W x
  else if dpF k W k x + 1 = dpF k L k x then holdsB k W L x
  else false
theorem fit_self (k : Nat) (L : List Nat) (x : Nat) : fitB k L L x = true := by simp [fitB]
theorem holds_sub {k : Nat} {A B : List Nat} (h : ∀ m ∈ B, m ∈ A) (x : Nat) : holdsB k A B x = true := by
  unfold holdsB
  rw [List.all_eq_true]
  intro r hr
  rw [List.any_eq_true]
  exact ⟨r, h r (List.mem_filter.mp hr).1, by simp⟩
theorem near0 {k : Nat} {L : List Nat} {x : Nat} (hk : k ≤ 10) (hL : ∀ m ∈ L, m < pw k) (hx : x < pw k) (nd : L.Nodup) (h0 : dpF k L k x = 0) (hm : x ∈ L) : nearL k L x = [x] := by
  have h : nearL k L x = L.filter fun r => decide (r = x) := by
    unfold nearL
    apply List.filter_congr
    intro r hr
    rw [h0]
    congr 1
    apply propext
    constructor
    · intro e
      have hd : r ^^^ x = 0 := pc_eq_zero (pw12 (xor_lt (hL r hr) hx) (by omega)) e
      have := congrArg (r ^^^ ·) hd
      simp only [xor_back, Nat.xor_zero] at this
      exact this.symm
    · rintro rfl
      rw [Nat.xor_self, pc_zero]
  rw [h]
  clear h h0 hL
  induction L with
  | nil => cases hm
  | cons y r ih =>
    rw [List.nodup_cons] at nd
    by_cases e : y = x
    · subst e
      rw [List.filter_cons_of_pos (by simp)]
      have : r.filter (fun r => decide (r = y)) = [] := by
        rw [List.filter_eq_nil_iff]
        intro z hz e
        rw [decide_eq_true_eq] at e
        exact nd.1 (e ▸ hz)
      rw [this]
    · rw [List.filter_cons_of_neg (by simpa using e)]
      exact ih nd.2 (by rcases List.mem_cons.mp hm with q | q; exact (e q.symm).elim; exact q)
theorem fit_up {k : Nat} {L W : List Nat} {x : Nat} (hk : k ≤ 10) (hL : ∀ m ∈ L, m < pw k) (hW : ∀ m ∈ W, m < pw k) (neL : L ≠ []) (nL : L.Nodup) (nW : W.Nodup) (hx : x < pw k) (sub : ∀ m ∈ L, m ∈ W) (hd : dpF k W k x = dpF k L k x - 1) :
    fitB k L W x = true ∧ fitB k W L x = true := by
  by_cases h0 : dpF k L k x = 0
  · have hm : x ∈ L := (dep_zero hk hL neL hx).mp h0
    have w0 : dpF k W k x = 0 := by omega
    have e1 := near0 hk hL hx nL h0 hm
    have e2 := near0 hk hW hx nW w0 (sub x hm)
    unfold fitB
    rw [e1, e2, h0, w0]
    simp
  · have e1 := holds_sub (k := k) sub x
    have n1 : ¬ dpF k L k x = dpF k W k x := by omega
    have n2 : ¬ dpF k L k x + 1 = dpF k W k x := by omega
    have n3 : dpF k W k x + 1 = dpF k L k x := by omega
    have n4 : ¬ dpF k W k x = dpF k L k x := by omega
    unfold fitB
    rw [if_neg n1, if_neg n2, if_pos n3, if_neg n4, if_pos n3, e1]
    exact ⟨rfl, rfl⟩
theorem fit_far {k : Nat} {L W : List Nat} {x : Nat} (hd : dpF k W k x + 2 ≤ dpF k L k x) : fitB k L W x = false ∧ fitB k W L x = false := by
  unfold fitB
  rw [if_neg (by omega), if_neg (by omega), if_neg (by omega), if_neg (by omega), if_neg (by omega), if_neg (by omega)]
  exact ⟨rfl, rfl⟩
/-! ### exchange as masks -/
/-- the partners of t from a -/
def pmN (k : Nat) (L : List Nat) (a t : Nat) : Nat := numOf ((List.range k).filter fun u => if u = t then decide (a ^^^ pw t ∈ L) else decide (a ^^^ pw t ^^^ pw u ∈ L))
theorem pm_bit {k a t u : Nat} {L : List Nat} : (pmN k L a t).testBit u = true ↔ u < k ∧ (if u = t then a ^^^ pw t ∈ L else a ^^^ pw t ^^^ pw u ∈ L) := by
  unfold pmN
  rw [numOf_bit, decide_eq_true_eq, List.mem_filter, List.mem_range]
  by_cases h : u = t
  · rw [if_pos h, if_pos h, decide_eq_true_eq]
  · rw [if_neg h, if_neg h, decide_eq_true_eq]
theorem pm_gt {k a b t : Nat} {L : List Nat} (hL : ∀ m ∈ L, m < pw k) (g : Gt (· ∈ L)) (ha : a ∈ L) (hb : b ∈ L) (ht : (a ^^^ b).testBit t = true) : pmN k L a t &&& (a ^^^ b) ≠ 0 := by
  have lt : ∀ u, (a ^^^ b).testBit u = true → u < k := fun u h => bit_lt (xor_lt (hL a ha) (hL b hb)) h
  have key : ∃ u, (pmN k L a t).testBit u = true ∧ (a ^^^ b).testBit u = true := by
    rcases g a b ha hb t ht with q | ⟨u, q1, q2, q3⟩
    · exact ⟨t, pm_bit.mpr ⟨lt t ht, by rw [if_pos rfl]; exact q⟩, ht⟩
    · exact ⟨u, pm_bit.mpr ⟨lt u q2, by rw [if_neg q1]; exact q3⟩, q2⟩
  obtain ⟨u, h1, h2⟩ := key
  intro e
  have := congrArg (fun z => z.testBit u) e
  simp only [Nat.testBit_and, h1, h2, Nat.zero_testBit] at this
  cases this
end G
/-! M: breaks. -/
namespace G
def Brk (k : Nat) (L : List Nat) (a b t : Nat) : Prop := (a ^^^ b).testBit t = true ∧ pmN k L a t &&& (a ^^^ b) = 0
instance (k : Nat) (L : List Nat) (a b t : Nat) : Decidable (Brk k L a b t) := inferInstanceAs (Decidable (_ ∧ _))
/-- no break of a gap from lo to hi -/
def NoBrk (k : Nat) (L : List Nat) (lo hi : Nat) : Prop := ∀ a ∈ L, ∀ b ∈ L, lo ≤ pc (a ^^^ b) → pc (a ^^^ b) ≤ hi → ∀ t, t < k → ¬ Brk k L a b t
theorem NoBrk.congr {k lo hi : Nat} {L L' : List Nat} (h : ∀ x, x ∈ L ↔ x ∈ L') (n : NoBrk k L lo hi) : NoBrk k L' lo hi := fun a ha b hb h1 h2 t ht hn => by
  refine n a ((h a).mpr ha) b ((h b).mpr hb) h1 h2 t ht ⟨hn.1, ?_⟩
  have e : pmN k L a t = pmN k L' a t := by
    unfold pmN
    congr 2
    funext u
    simp only [h]
  rw [e]
  exact hn.2
theorem pm_congr {k a t : Nat} {L L' : List Nat} (h : ∀ x, x ∈ L ↔ x ∈ L') : pmN k L a t = pmN k L' a t := by
  unfold pmN
  congr 2
  funext u
  simp only [h]
/-- not a break: an answer -/
theorem no_brk {k a b t : Nat} {L : List Nat} (ha : a < pw k) (hb : b < pw k) (ht : (a ^^^ b).testBit t = true) (h : ¬ Brk k L a b t) : a ^^^ pw t ∈ L ∨ ∃ u, u ≠ t ∧ (a ^^^ b).testBit u = true ∧ a ^^^ pw t ^^^ pw u ∈ L := by
  have hne : pmN k L a t &&& (a ^^^ b) ≠ 0 := fun e => h ⟨ht, e⟩
  obtain ⟨u, hu⟩ := Nat.exists_testBit_of_ne_zero hne
  rw [Nat.testBit_and, Bool.and_eq_true] at hu
  obtain ⟨h1, h2⟩ := hu
  obtain ⟨_, h3⟩ := pm_bit.mp h1
  by_cases e : u = t
  · rw [if_pos e] at h3; exact .inl h3
  · rw [if_neg e] at h3; exact .inr ⟨u, e, h2, h3⟩
theorem brk_no {k a b t : Nat} {L : List Nat} (ha : a < pw k) (hb : b < pw k) (h : Brk k L a b t) : a ^^^ pw t ∉ L ∧ ∀ u, u ≠ t → (a ^^^ b).testBit u = true → a ^^^ pw t ^^^ pw u ∉ L := by
  have lt : ∀ u, (a ^^^ b).testBit u = true → u < k := fun u hu => bit_lt (xor_lt ha hb) hu
  constructor
  · intro hin
    have hb2 : (pmN k L a t).testBit t = true := pm_bit.mpr ⟨lt t h.1, by rw [if_pos rfl]; exact hin⟩
    have := congrArg (fun z => z.testBit t) h.2
    simp only [Nat.testBit_and, hb2, h.1, Nat.zero_testBit] at this
    cases this
  · intro u hu hut hin
    have hb2 : (pmN k L a t).testBit u = true := pm_bit.mpr ⟨lt u hut, by rw [if_neg hu]; exact hin⟩
    have := congrArg (fun z => z.testBit u) h.2
    simp only [Nat.testBit_and, hb2, hut, Nat.zero_testBit] at this
    cases this
theorem xor_flip {a b : Nat} (h : a ^^^ b = 0) : a = b := by
  have := congrArg (a ^^^ ·) h
  simp only [xor_back, Nat.xor_zero] at this
  exact this.symm
theorem pc_bit {k s t : Nat} (hk : k ≤ 10) (hs : s < pw k) (ht : s.testBit t = true) : pc s = pc (s ^^^ pw t) + 1 ∧ s ^^^ pw t < pw k ∧ (s ^^^ pw t).testBit t = false ∧ ∀ u, u ≠ t → (s ^^^ pw t).testBit u = s.testBit u := by
  have htk := bit_lt hs ht
  refine ⟨(flip_bit s t (by omega)).2 ht, xor_lt hs (pw_lt htk), ?_, fun u hu => ?_⟩
  · rw [Nat.testBit_xor, ht, bit_pw]; simp
  · rw [Nat.testBit_xor, bit_pw]
    have : ¬ t = u := fun e => hu e.symm
    simp [this]
theorem pc0 {k s : Nat} (hk : k ≤ 10) (hs : s < pw k) (h : pc s = 0) : s = 0 := pc_eq_zero (pw12 hs (by omega)) h
theorem pc_has {k s : Nat} (hk : k ≤ 10) (hs : s < pw k) (h : 0 < pc s) : ∃ t, s.testBit t = true := by
  apply Nat.exists_testBit_of_ne_zero
  intro e
  rw [e, pc_zero] at h
  omega
/-- breaks have gaps of 3 or more -/
theorem brk_three {k a b t : Nat} {L : List Nat} (hk : k ≤ 10) (ha : a < pw k) (hb : b < pw k) (iB : b ∈ L) (h : Brk k L a b t) : 3 ≤ pc (a ^^^ b) := by
  have hs := xor_lt ha hb
  obtain ⟨n1, n2⟩ := brk_no ha hb h
  obtain ⟨p1, p2, p3, p4⟩ := pc_bit hk hs h.1
  have e1 : a ^^^ (a ^^^ b) = b := xor_back a b
  rcases Nat.lt_or_ge (pc (a ^^^ b)) 3 with q | q
  · exfalso
    by_cases z : pc (a ^^^ b ^^^ pw t) = 0
    · have := xor_flip (pc0 hk p2 z)
      rw [← this, e1] at n1
      exact n1 iB
    · obtain ⟨u, hu⟩ := pc_has hk p2 (by omega)
      obtain ⟨q1, q2, q3, q4⟩ := pc_bit hk p2 hu
      have hut : u ≠ t := fun e => by rw [e, p3] at hu; cases hu
      have z2 := xor_flip (pc0 hk q2 (by omega))
      have hu2 := (p4 u hut).symm.trans hu
      have n3 := n2 u hut hu2
      have e2 : a ^^^ pw t ^^^ pw u = b := by
        rw [← z2, ← Nat.xor_assoc, ← Nat.xor_assoc]
        have e3 : a ^^^ pw t ^^^ a ^^^ b ^^^ pw t = b := by
          rw [Nat.xor_comm a (pw t), Nat.xor_assoc (pw t) a a, Nat.xor_self, Nat.xor_zero, Nat.xor_comm (pw t) b, Nat.xor_assoc, Nat.xor_self, Nat.xor_zero]
        exact e3
      rw [e2] at n3
      exact n3 iB
  · exact q
theorem gt_nobrk {k : Nat} {L : List Nat} (hk : k ≤ 10) (hL : ∀ m ∈ L, m < pw k) : NoBrk k L 1 k ↔ ∀ a ∈ L, ∀ b ∈ L, ∀ t, ¬ Brk k L a b t := by
  constructor
  · intro h a ha b hb t hn
    have hs := xor_lt (hL a ha) (hL b hb)
    have ht := bit_lt hs hn.1
    refine h a ha b hb ?_ (pc_lt hs) t ht hn
    rcases Nat.eq_zero_or_pos (pc (a ^^^ b)) with z | z
    · exfalso
      have : t ∈ lotN (a ^^^ b) := lotN_mem.mpr ⟨by omega, hn.1⟩
      unfold pc at z
      rw [List.length_eq_zero_iff.mp z] at this
      cases this
    · exact z
  · intro h a ha b hb _ _ t _
    exact h a ha b hb t
end G
/-! M: breaks of the least gap. -/
namespace G
theorem pc_sub {p s : Nat} (h : p &&& s = p) : pc (p ^^^ s) + pc p = pc s := by
  have := pc_add p s
  rw [h] at this
  omega
theorem sub_bit {p s u : Nat} (h : p &&& s = p) (hu : p.testBit u = true) : s.testBit u = true := by
  have e := congrArg (fun z => z.testBit u) h
  simp only [Nat.testBit_and, hu, Bool.true_and] at e
  exact e
theorem sub_of {p s : Nat} (h : ∀ u, p.testBit u = true → s.testBit u = true) : p &&& s = p := by
  apply Nat.eq_of_testBit_eq
  intro u
  rw [Nat.testBit_and]
  cases q : p.testBit u with
  | false => rfl
  | true => rw [h u q]; rfl
theorem sub_ne {k p s : Nat} (hk : k ≤ 10) (hp : p < pw k) (hs : s < pw k) (h : p &&& s = p) (n : p ≠ s) : pc p < pc s := by
  have e := pc_sub h
  have : pc (p ^^^ s) ≠ 0 := fun z => n (xor_flip (pc0 hk (xor_lt hp hs) z))
  omega
section
variable {k a b t : Nat} {L : List Nat} (hk : k ≤ 10) (hL : ∀ m ∈ L, m < pw k) (iA : a ∈ L) (iB : b ∈ L) (hb : Brk k L a b t) (hn : NoBrk k L 1 (pc (a ^^^ b) - 1))
include hk hL iA iB hb hn
theorem lg_not {x : Nat} (hx : x ∈ L) (hs : (x ^^^ a) &&& (a ^^^ b) = x ^^^ a) (hne : x ^^^ a ≠ a ^^^ b) : (x ^^^ a).testBit t = false := by
  have la := hL a iA
  have lb := hL b iB
  have lx := hL x hx
  cases q : (x ^^^ a).testBit t with
  | false => rfl
  | true =>
    exfalso
    have e : a ^^^ x = x ^^^ a := Nat.xor_comm a x
    have h1 := sub_ne hk (xor_lt lx la) (xor_lt la lb) hs hne
    have h2 : 0 < pc (x ^^^ a) := by
      obtain ⟨p1, _⟩ := pc_bit hk (xor_lt lx la) q
      omega
    have h3 := hn a iA x hx (by rw [e]; omega) (by rw [e]; omega) t (bit_lt (xor_lt la lb) hb.1)
    obtain ⟨n1, n2⟩ := brk_no la lb hb
    rcases no_brk la lx (by rw [e]; exact q) h3 with z | ⟨u, u1, u2, u3⟩
    · exact n1 z
    · rw [e] at u2
      exact n2 u u1 (sub_bit hs u2) u3
theorem lg_two {x : Nat} (hx : x ∈ L) (hs : (x ^^^ a) &&& (a ^^^ b) = x ^^^ a) (h0 : x ^^^ a ≠ 0) (hne : x ^^^ a ≠ a ^^^ b) : pc (a ^^^ b) ≤ pc (x ^^^ a) + 2 := by
  have la := hL a iA
  have lb := hL b iB
  have lx := hL x hx
  have ht := lg_not hk hL iA iB hb hn hx hs hne
  have e : x ^^^ b = (x ^^^ a) ^^^ (a ^^^ b) := by rw [Nat.xor_assoc, xor_back]
  have h1 := pc_sub hs
  have h2 := sub_ne hk (xor_lt lx la) (xor_lt la lb) hs hne
  have h0' : 0 < pc (x ^^^ a) := by
    rcases Nat.eq_zero_or_pos (pc (x ^^^ a)) with z | z
    · exact (h0 (pc0 hk (xor_lt lx la) z)).elim
    · exact z
  have bt : (x ^^^ b).testBit t = true := by
    rw [e, Nat.testBit_xor, ht, hb.1]; rfl
  have h3 := hn x hx b iB (by rw [e]; omega) (by rw [e]; omega) t (bit_lt (xor_lt la lb) hb.1)
  -- what an answer gives
  have key : ∀ y, y ∈ L → (y ^^^ a).testBit t = true → (∀ u, (y ^^^ a).testBit u = true → (a ^^^ b).testBit u = true) → y ^^^ a = a ^^^ b := fun y hy h5 h6 => by
    rcases Nat.decEq (y ^^^ a) (a ^^^ b) with z | z
    · have := lg_not hk hL iA iB hb hn hy (sub_of h6) z
      rw [this] at h5
      cases h5
    · exact z
  have tk : t < k := bit_lt (xor_lt la lb) hb.1
  have f1 := flip_bit (x ^^^ a) t (by omega)
  have eq1 : x ^^^ pw t ^^^ a = x ^^^ a ^^^ pw t := by rw [Nat.xor_assoc, Nat.xor_comm (pw t) a, ← Nat.xor_assoc]
  rcases no_brk lx lb bt h3 with z | ⟨u, u1, u2, u3⟩
  · have := key _ z (by rw [eq1, Nat.testBit_xor, ht, bit_pw]; simp) fun u hu => by
      rw [eq1, Nat.testBit_xor, bit_pw] at hu
      by_cases q : t = u
      · subst q; exact hb.1
      · rw [decide_eq_false q, Bool.xor_false] at hu
        exact sub_bit hs hu
    rw [← this, eq1]
    have := f1.1 ht
    omega
  · have eq2 : x ^^^ pw t ^^^ pw u ^^^ a = x ^^^ a ^^^ pw t ^^^ pw u := by
      rw [Nat.xor_assoc (x ^^^ pw t), Nat.xor_comm (pw u) a, ← Nat.xor_assoc, eq1]
    have ht2 : ¬ u = t := u1
    have u2' : (x ^^^ a).testBit u = false ∧ (a ^^^ b).testBit u = true ∨ (x ^^^ a).testBit u = true ∧ (a ^^^ b).testBit u = false := by
      rw [e, Nat.testBit_xor] at u2
      cases q1 : (x ^^^ a).testBit u <;> cases q2 : (a ^^^ b).testBit u <;> simp [q1, q2] at u2 ⊢
    have hsu : (a ^^^ b).testBit u = true ∧ (x ^^^ a).testBit u = false := by
      rcases u2' with q | q
      · exact ⟨q.2, q.1⟩
      · have := sub_bit hs q.1
        rw [q.2] at this
        cases this
    have := key _ u3 (by rw [eq2, Nat.testBit_xor, Nat.testBit_xor, ht, bit_pw, bit_pw]; simp [ht2]) fun w hw => by
      rw [eq2, Nat.testBit_xor, Nat.testBit_xor, bit_pw, bit_pw] at hw
      by_cases q : t = w
      · subst q; exact hb.1
      · by_cases q2 : u = w
        · subst q2; exact hsu.1
        · rw [decide_eq_false q, decide_eq_false q2, Bool.xor_false, Bool.xor_false] at hw
          exact sub_bit hs hw
    rw [← this, eq2]
    have uk : u < k := bit_lt (xor_lt la lb) hsu.1
    have g1 := f1.1 ht
    have g2 := (flip_bit (x ^^^ a ^^^ pw t) u (by omega)).1 (by rw [Nat.testBit_xor, hsu.2, bit_pw]; simp; exact fun q => ht2 q.symm)
    omega
theorem lg_five {x : Nat} (hx : x ∈ L) (hs : (x ^^^ a) &&& (a ^^^ b) = x ^^^ a) (h0 : x ^^^ a ≠ 0) (hne : x ^^^ a ≠ a ^^^ b) : pc (a ^^^ b) ≤ 4 := by
  have la := hL a iA
  have lb := hL b iB
  have lx := hL x hx
  have ht := lg_not hk hL iA iB hb hn hx hs hne
  have h2 := sub_ne hk (xor_lt lx la) (xor_lt la lb) hs hne
  have h0' : 0 < pc (x ^^^ a) := by
    rcases Nat.eq_zero_or_pos (pc (x ^^^ a)) with z | z
    · exact (h0 (pc0 hk (xor_lt lx la) z)).elim
    · exact z
  obtain ⟨y, hy⟩ := pc_has hk (xor_lt lx la) h0'
  have yk := bit_lt (xor_lt lx la) hy
  have e : a ^^^ x = x ^^^ a := Nat.xor_comm a x
  have h3 := hn a iA x hx (by rw [e]; omega) (by rw [e]; omega) y yk
  have ty : ¬ y = t := fun q => by rw [q, ht] at hy; cases hy
  have tk : t < k := bit_lt (xor_lt la lb) hb.1
  have z0 : pc 0 = 0 := pc_zero
  have g1 := (flip_bit 0 y (by omega)).1 (Nat.zero_testBit y)
  rw [Nat.zero_xor] at g1
  rcases no_brk la lx (by rw [e]; exact hy) h3 with z | ⟨u, u1, u2, u3⟩
  · have eq : a ^^^ pw y ^^^ a = pw y := by rw [Nat.xor_comm a, Nat.xor_assoc, Nat.xor_self, Nat.xor_zero]
    have := lg_two hk hL iA iB hb hn z (by
      rw [eq]
      exact sub_of fun w hw => by
        rw [bit_pw, decide_eq_true_eq] at hw
        subst hw
        exact sub_bit hs hy) (by rw [eq]; intro q; have := pw_pos y; omega) (by
      rw [eq]
      intro q
      have := hb.1
      rw [← q, bit_pw, decide_eq_true_eq] at this
      exact ty this)
    rw [eq] at this
    omega
  · rw [e] at u2
    have uk := bit_lt (xor_lt lx la) u2
    have tu : ¬ u = t := fun q => by rw [q, ht] at u2; cases u2
    have eq : a ^^^ pw y ^^^ pw u ^^^ a = pw y ^^^ pw u := by rw [Nat.xor_comm _ a, ← Nat.xor_assoc, ← Nat.xor_assoc, Nat.xor_self, Nat.zero_xor]
    have g2 := (flip_bit (pw y) u (by omega)).1 (by rw [bit_pw]; simp; exact fun q => u1 q.symm)
    have := lg_two hk hL iA iB hb hn u3 (by
      rw [eq]
      exact sub_of fun w hw => by
        rw [Nat.testBit_xor, bit_pw, bit_pw] at hw
        by_cases q1 : y = w
        · subst q1; exact sub_bit hs hy
        · by_cases q2 : u = w
          · subst q2; exact sub_bit hs u2
          · simp [q1, q2] at hw) (by
      rw [eq]
      intro q
      rw [q, z0] at g2
      omega) (by
      rw [eq]
      intro q
      have := hb.1
      rw [← q, Nat.testBit_xor, bit_pw, bit_pw] at this
      simp [ty, tu] at this)
    rw [eq] at this
    omega
/-- three and two of four -/
theorem lg_four (h4 : pc (a ^^^ b) = 4) {x : Nat} (hx : x ∈ L) (hs : (x ^^^ a) &&& (a ^^^ b) = x ^^^ a) (h3 : pc (x ^^^ a) = 3) {z : Nat} : (z ∈ L ∧ (z ^^^ a) &&& (a ^^^ b) = z ^^^ a ∧ pc (z ^^^ a) = 2) ↔ ∃ y ∈ lotN (x ^^^ a), z = x ^^^ pw y := by
  have la := hL a iA
  have lb := hL b iB
  have lx := hL x hx
  have hne : x ^^^ a ≠ a ^^^ b := fun q => by rw [q] at h3; omega
  have ht := lg_not hk hL iA iB hb hn hx hs hne
  have lp := xor_lt lx la
  have ls := xor_lt la lb
  have tk : t < k := bit_lt ls hb.1
  constructor
  · rintro ⟨hz, hzs, hz2⟩
    have lz := hL z hz
    have htz := lg_not hk hL iA iB hb hn hz hzs fun q => by rw [q] at hz2; omega
    -- x ^ a is the span without t
    have e1 : (x ^^^ a) ^^^ (a ^^^ b) = pw t := by
      have h5 := pc_sub hs
      have bt : ((x ^^^ a) ^^^ (a ^^^ b)).testBit t = true := by rw [Nat.testBit_xor, ht, hb.1]; rfl
      obtain ⟨p1, p2, _⟩ := pc_bit hk (xor_lt lp ls) bt
      exact xor_flip (pc0 hk p2 (by omega))
    have hsub : (z ^^^ a) &&& (x ^^^ a) = z ^^^ a := sub_of fun u hu => by
      have h6 := sub_bit hzs hu
      have h7 : ((x ^^^ a) ^^^ (a ^^^ b)).testBit u = decide (t = u) := by rw [e1, bit_pw]
      rw [Nat.testBit_xor, h6] at h7
      have : ¬ t = u := fun q => by rw [← q, htz] at hu; cases hu
      rw [decide_eq_false this] at h7
      cases q : (x ^^^ a).testBit u with
      | true => rfl
      | false => rw [q] at h7; cases h7
    have h8 := pc_sub hsub
    obtain ⟨y, hy⟩ := pc_has hk (xor_lt (xor_lt lz la) lp) (by omega : 0 < pc ((z ^^^ a) ^^^ (x ^^^ a)))
    obtain ⟨p1, p2, _⟩ := pc_bit hk (xor_lt (xor_lt lz la) lp) hy
    have e2 := xor_flip (pc0 hk p2 (by omega))
    have e3 : (z ^^^ a) ^^^ (x ^^^ a) = z ^^^ x := by rw [Nat.xor_comm x a, Nat.xor_assoc, xor_back]
    have hyx : (x ^^^ a).testBit y = true := by
      rw [Nat.testBit_xor] at hy
      cases q : (x ^^^ a).testBit y with
      | true => rfl
      | false =>
        rw [q] at hy
        cases q2 : (z ^^^ a).testBit y with
        | false => rw [q2] at hy; cases hy
        | true => rw [sub_bit hsub q2] at q; cases q
    refine ⟨y, lotN_mem.mpr ⟨by have := bit_lt lp hyx; omega, hyx⟩, ?_⟩
    rw [← e2, e3, Nat.xor_comm z x, xor_back]
  · rintro ⟨y, hy, rfl⟩
    have hy := (lotN_mem.mp hy).2
    have yk := bit_lt lp hy
    have eq1 : x ^^^ pw y ^^^ a = x ^^^ a ^^^ pw y := by rw [Nat.xor_assoc, Nat.xor_comm (pw y) a, ← Nat.xor_assoc]
    have g1 := (flip_bit (x ^^^ a) y (by omega)).2 hy
    have hsub : (x ^^^ a ^^^ pw y) &&& (a ^^^ b) = x ^^^ a ^^^ pw y := sub_of fun u hu => by
      rw [Nat.testBit_xor, bit_pw] at hu
      by_cases q : y = u
      · subst q; exact sub_bit hs hy
      · rw [decide_eq_false q, Bool.xor_false] at hu
        exact sub_bit hs hu
    refine ⟨?_, by rw [eq1]; exact hsub, by rw [eq1]; omega⟩
    have h5 := hn x hx a iA (by omega) (by omega) y yk
    rcases no_brk lx la hy h5 with q | ⟨u, u1, u2, u3⟩
    · exact q
    · exfalso
      have uk := bit_lt lp u2
      have eq2 : x ^^^ pw y ^^^ pw u ^^^ a = x ^^^ a ^^^ pw y ^^^ pw u := by
        rw [Nat.xor_assoc (x ^^^ pw y), Nat.xor_comm (pw u) a, ← Nat.xor_assoc, eq1]
      have g2 := (flip_bit (x ^^^ a ^^^ pw y) u (by omega)).2 (by rw [Nat.testBit_xor, u2, bit_pw]; simp; exact fun q => u1 q.symm)
      have := lg_two hk hL iA iB hb hn u3 (by
        rw [eq2]
        exact sub_of fun w hw => by
          rw [Nat.testBit_xor, bit_pw] at hw
          by_cases q : u = w
          · subst q; exact sub_bit hs u2
          · rw [decide_eq_false q, Bool.xor_false] at hw
            exact sub_bit hsub hw) (by
        rw [eq2]
        intro q
        rw [q, pc_zero] at g2
        omega) (by
        rw [eq2]
        intro q
        rw [q] at g2
        omega)
      rw [eq2] at this
      omega
end
end G
/-! M: rules for insert and pop at a place. -/
namespace G
section
variable (S : Sto) (l k : Nat) (x : D) (xs : List D)
theorem bm_ins (h : S[l]? = some (.lst xs)) (hl : xs.length < LL) (hk : k < 1073741824) : bmV .insert (.r l) [.d (.int (k : Nat)), .d x] S = .ok (.d .non) (S.set l (.lst (xs.take k ++ [x] ++ xs.drop k))) := by
  show insV (.r l) [.d (.int (k : Nat)), .d x] S = _
  simp only [insV, cellL, h]
  rw [if_pos ⟨hl, by omega, by omega⟩]
  simp
theorem bm_popAt (h : S[l]? = some (.lst xs)) (hk : k < xs.length) (hb : k < 1073741824) {y : D} (hy : xs[k]? = some y) : bmV .popAt (.r l) [.d (.int (k : Nat))] S = .ok (.d y) (S.set l (.lst (xs.eraseIdx k))) := by
  show popAtV (.r l) [.d (.int (k : Nat))] S = _
  simp only [popAtV, cellL, h]
  rw [if_pos ⟨by omega, by omega, by omega⟩]
  simp [hy]
@[simp] theorem rcv_ins : rcvB .insert (.r l) S = (match S[l]? with
    | some (.lst _) => true
    | _ => false) := by
  simp only [rcvB, seqV_r]
  cases S[l]? with
  | none => rfl
  | some c => cases c <;> rfl
@[simp] theorem rcv_popAt : rcvB .popAt (.r l) S = (match S[l]? with
    | some (.lst _) => true
    | _ => false) := by
  simp only [rcvB, seqV_r]
  cases S[l]? with
  | none => rfl
  | some c => cases c <;> rfl
end
end G
/-! M: data equal to itself. -/
namespace G
mutual
theorem eqD_self : ∀ x : D, plain x = true → eqD x x = true
  | .non, _ => rfl
  | .bl b, _ => by simp [eqD]
  | .int i, _ => by simp [eqD]
  | .str s, _ => by simp [eqD]
  | .tup xs, h => by
    rw [eqD]
    exact eqDs_self xs (by rw [plain] at h; exact h)
  | .lst xs, h => by
    rw [eqD]
    exact eqDs_self xs (by rw [plain] at h; exact h)
  | .obj _ _, h => by cases h
  | .cls _, h => by cases h
theorem eqDs_self : ∀ xs : List D, plains xs = true → eqDs xs xs = true
  | [], _ => by rw [eqDs]
  | x :: r, h => by
    rw [plains, Bool.and_eq_true] at h
    rw [eqDs, eqD_self x h.1, eqDs_self r h.2]
    rfl
end
theorem plain_cls {x : D} (h : plain x = true) (S : Sto) : clsV (.d x) S = none := by
  cases x <;> first | rfl | cases h
theorem cmp_self {x : D} (h : shp x = true) (cf : Cfg) (S : Sto) : cmpV cf .ne (.d x) (.d x) S = .ok (.d (.bl false)) S ∧ cmpV cf .eq (.d x) (.d x) S = .ok (.d (.bl true)) S ∧ chV cf .eq (.d x) (.d x) S = .ok (.d (.bl true)) S := by
  have hp : plain x = true := by
    unfold shp at h
    exact (Bool.and_eq_true_iff.mp h).1
  have e1 := eqD_self x hp
  have e2 := plain_cls hp S
  have q1 : eqV cf true (.d x) (.d x) S = .ok (.d (.bl false)) S := by
    unfold eqV
    rw [e2]
    simp [h, e1]
  have q2 : eqV cf false (.d x) (.d x) S = .ok (.d (.bl true)) S := by
    unfold eqV
    rw [e2]
    simp [h, e1]
  refine ⟨q1, q2, ?_⟩
  unfold chV
  rw [e2]
  exact q2
theorem ati_last {l : List Nat} (h : l ≠ []) : ati (dN l) (-1) = some (.int (l.getD (l.length - 1) 0 : Nat)) := by
  have hl : 0 < l.length := List.length_pos_iff.mpr h
  unfold ati
  rw [dN_length]
  have e1 : ¬ (0 : Int) ≤ -1 := by omega
  have e2 : (0 : Int) ≤ -1 + (l.length : Int) := by omega
  have e3 : (-1 + (l.length : Int)).toNat = l.length - 1 := by omega
  rw [if_neg e1, if_pos e2, e3]
  exact getD_at (by omega)
theorem shp_two {w : PySem.Str} {e : D} (hw : plain (.str w) = true) (he : plain e = true) (hd : dep e ≤ 38) : shp (.tup [.str w, e]) = true := by
  have d0 : dep (.str w) = 0 := by simp [dep]
  have e1 : plain (.tup [.str w, e]) = true := by
    rw [plain, plains, plains, plains, hw, he]; rfl
  have e2 : dep (.tup [.str w, e]) ≤ 40 := by
    rw [dep, deps, deps, deps, d0]
    omega
  unfold shp
  rw [e1, decide_eq_true e2]
  rfl
end G
namespace K07
open G
theorem run_is_int (n : Nat) (i : Int) (S : Sto) : run P T (n + 1) n_is_int [.d (.int i)] S = .ok (.d (.bl true)) S := by
  rw [run_of t_is_int rfl]
  simp [f_is_int, env0]
theorem run_is_size (n : Nat) (k : Nat) (h1 : 1 ≤ k) (h2 : k ≤ 10) (S : Sto) : run P T (n + 2) n__is_size [.d (.int k)] S = .ok (.d (.bl true)) S := by
  rw [run_of t__is_size rfl]
  have e1 : (1 : Int) ≤ k := by omega
  have e2 : (k : Int) ≤ 10 := by omega
  simp [f__is_size, env0, run_is_int, e1, e2]
theorem run_number_of (n : Nat) (l : List Nat) (h : ∀ x ∈ l, x ≤ 1000000) (S : Sto) : run P T (n + 1) n__number_of [.d (.tup (dN l))] S = .ok (.d (.int (numOf l))) S := by
  rw [run_of t__number_of rfl]
  simp [f__number_of, env0]
  refine for_use (C := fun r => fin _ r = _) (S1 := S) (xs := dN l) (by simp) (fun i env S0 => S0 = S ∧ ∃ t, env = [some (.d (.tup (dN l))), some (.d (.int (((l.take i).foldl (fun a t => a ||| pw t) 0 : Nat) : Int))), t]) ⟨rfl, none, rfl⟩ ?_ ?_
  · rintro i x env S0 hx ⟨rfl, t, rfl⟩
    obtain ⟨y, hl, rfl⟩ := dN_at hx
    have hy := h y (List.mem_of_getElem? hl)
    refine ⟨_, _, _, rfl, .inl (by simp [iop_shl1 y hy]; rfl), rfl, some (.d (.int (y : Nat))), ?_⟩
    rw [take_succ hl]
    simp
  · rintro env S0 ⟨rfl, t, rfl⟩
    simp [numOf]
theorem run_number_of_lot (n m : Nat) (h : m < 2 ^ 12) (S : Sto) : run P T (n + 1) n__number_of [.d (lotD m)] S = .ok (.d (.int m)) S := by
  have := run_number_of n (lotN m) (fun x hx => by have := (lotN_mem.mp hx).1; omega) S
  rw [lotN_num h] at this
  exact this
theorem toNat_ne (b : Bool) : (((b.toNat : Nat) : Int) != 0) = b := by cases b <;> rfl
theorem run_lot_of (n m : Nat) (h : m < 2 ^ 12) (S : Sto) : run P T (n + 1) n__lot_of [.d (.int m)] S = .ok (.d (lotD m)) S := by
  rw [run_of t__lot_of rfl]
  have hb := intBits_small h
  have e := comp_flat (own := [1]) (i := 1) (src := .rng [.bm .bitlen (.var 0) []]) (c := .bin .and (.bin .shr (.var 0) (.var 1)) (.con (.int 1))) (e := .var 1) (cf := ⟨P, run P T n, none⟩) (env := [some (.d (.int m)), none]) (S := S) (S1 := S)
    (List.range (PySem.Builtin.Int.intBits (m : Int))) (fun t => .int (t : Nat)) (fun t => m.testBit t) (fun t => .int (t : Nat)) (evI_rng1 (by simp [rcvB, bmV, bitV]) (by omega))
    (fun t _ => by simp [wipe, iop_shr, iop_and1, md_bit, toNat_ne]) (fun t _ _ => by simp [wipe]) (le_LL (by rw [List.length_range]; omega))
  rw [lot_bits h] at e
  simp [f__lot_of, env0, e, lotD, dN]
theorem tup_list {x : D} {l : List Nat} (h : x = .tup (dN l) ∨ x = .lst (dN l)) : (∀ S, isV P (.d x) [.tuple, .list] S = .ok (.d (.bl true)) S) ∧ ∀ S, srcV (.d x) S = .ok (.fix (dN l)) S := by
  rcases h with rfl | rfl
  · exact ⟨fun S => by simp, fun S => rfl⟩
  · exact ⟨fun S => by simp, fun S => rfl⟩
theorem run_number_or_none (n k m : Nat) (x : D) (hx : RowD k m x) (hk : k ≤ 1000000) (S : Sto) : run P T (n + 2) n__number_or_none [.d x, .d (.int k)] S = .ok (.d (.int m)) S := by
  obtain ⟨l, hl, nd, lt, rfl⟩ := hx
  obtain ⟨h1, h2⟩ := tup_list hl
  rw [run_of t__number_or_none rfl]
  simp [f__number_or_none, env0, h1]
  refine for_use (C := fun r => fin _ r = _) (S1 := S) (xs := dN l) (by simp [h2]) (fun i env S0 => S0 = S ∧ ∃ t, env = [some (.d x), some (.d (.int k)), some (.d (.int ((numOf (l.take i) : Nat) : Int))), t]) ⟨rfl, none, rfl⟩ ?_ ?_
  · rintro i x env S0 hx ⟨rfl, t, rfl⟩
    obtain ⟨y, hy, rfl⟩ := dN_at hx
    have hk2 := lt y (List.mem_of_getElem? hy)
    have n1 : y ∉ l.take i := fun hm => by
      obtain ⟨j, hj⟩ := List.mem_iff_getElem?.mp hm
      have hj1 : j < i := by
        by_cases q : j < i
        · exact q
        · rw [List.getElem?_eq_none (by rw [List.length_take]; omega)] at hj; cases hj
      rw [List.getElem?_take_of_lt hj1] at hj
      have := (List.getElem?_inj (List.getElem?_eq_some_iff.mp hj).1 nd).mp (hj.trans hy.symm)
      omega
    have e1 : ¬ ((y : Int) < 0) := by omega
    have e2 : ¬ ((k : Int) ≤ y) := by omega
    have e3 : (numOf (l.take i)).testBit y = false := by rw [numOf_bit]; simp [n1]
    refine ⟨_, _, _, rfl, .inl (by simp [run_is_int, e1, e2, iop_shr, iop_and1, md_bit, e3, iop_shl1 y (by omega)]; rfl), rfl, some (.d (.int (y : Nat))), ?_⟩
    rw [take_succ hy]
    simp [numOf]
  · rintro env S0 ⟨rfl, t, rfl⟩
    simp
theorem run_numbers_of (n k : Nat) (ms : List Nat) (rows : List D) (x : D) (hx : x = .tup rows ∨ x = .lst rows) (hr : Rows k ms rows) (h1 : 1 ≤ k) (h2 : k ≤ 10) (nd : ms.Nodup) (hm : ∀ m ∈ ms, m < pw k) (ne : ms ≠ []) (S : Sto) :
    run P T (n + 3) n__numbers_of [.d (.int k), .d x] S = .ok (.f (.lst (dN ms))) S := by
  have hp : pw k ≤ 1024 := pw_le (b := 10) h2
  have hb : 0 < ms.length := List.length_pos_iff.mpr ne
  have hml : ms.length ≤ 1024 := by
    have : ms.length ≤ pw k := by
      have := nd.length_le_of_subset (l₂ := List.range (pw k)) (fun m h => List.mem_range.mpr (hm m h))
      rwa [List.length_range] at this
    omega
  have i1 : ∀ S, isV P (.d x) [.tuple, .list] S = .ok (.d (.bl true)) S := fun S => by rcases hx with rfl | rfl <;> simp
  have i2 : ∀ cf S, biV cf .len [.d x] S = .ok (.d (.int ms.length)) S := fun cf S => by rcases hx with rfl | rfl <;> simp [hr.1]
  have i3 : ∀ (i m : Nat) (S : Sto), ms[i]? = some m → ∃ y, idxV (.d x) (.d (.int i)) S = .ok (.d y) S ∧ RowD k m y := fun i m S e => by
    obtain ⟨y, e1, e2⟩ := hr.2 i m e
    exact ⟨y, by rcases hx with rfl | rfl <;> simp [e1], e2⟩
  have e0 : ¬ ((ms.length : Int) = 0) := by omega
  have ec := comp_map (own := [5]) (i := 5) (src := .rng [.bin .shl (.con (.int 1)) (.var 0)]) (e := .con (.bl false)) (cf := ⟨P, run P T (n + 2), none⟩) (env := [some (.d (.int k)), some (.d x), some (.r S.length), none, none, none]) (S := S ++ [.lst []]) (S1 := S ++ [.lst []])
    (List.range (pw k)) (fun t => .int (t : Nat)) (fun _ => .bl false) (evI_rng1 (by simp [iop_shl1 k (by omega)]) (by omega)) (fun t _ => by simp) (le_LL (by rw [List.length_range]; omega))
  rw [run_of t__numbers_of rfl]
  simp [f__numbers_of, env0, run_is_size n k h1 h2, i1, i2, e0, ne, ec]
  refine for_use (C := fun r => fin _ r = _) (S1 := S ++ [.lst [], .lst ((List.range (pw k)).map fun _ => .bl false)]) (xs := (List.range ms.length).map fun (i : Nat) => D.int i) (evI_rng1 (by simp [i2]) (by omega))
    (fun i env S0 => S0 = S ++ [.lst (dN (ms.take i)), .lst ((List.range (pw k)).map fun y => .bl (decide (y ∈ ms.take i)))] ∧ ∃ t u, env = [some (.d (.int k)), some (.d x), some (.r S.length), some (.r (S.length + 1)), t, u]) ⟨?_, none, none, rfl⟩ ?_ ?_
  · simp
  · rintro i y env S0 hy ⟨rfl, t, u, rfl⟩
    obtain ⟨j, hj, rfl⟩ := map_at hy
    obtain ⟨rfl, hi⟩ := range_at hj
    obtain ⟨m, em⟩ : ∃ m, ms[j]? = some m := ⟨_, List.getElem?_eq_getElem hi⟩
    obtain ⟨y, e1, e2⟩ := hr.2 j m em
    have e3 : ∀ S, idxV (.d x) (.d (.int j)) S = .ok (.d y) S := fun S => by rcases hx with rfl | rfl <;> simp [e1]
    have hmk := hm m (List.mem_of_getElem? em)
    have n1 := nodup_take nd em
    have n2 : min j ms.length < LL := lt_LL (by omega)
    refine ⟨_, _, _, rfl, .inl (by simp [e3, run_number_or_none n k m y e2 (by omega), rng_at hmk, n1, isN, set_range hmk, hmk, n2]; rfl), ?_, some (.d (.int (j : Nat))), some (.d (.int (m : Nat))), rfl⟩
    rw [take_succ em]
    simp
    refine ⟨by simp [dN], fun a _ => ?_⟩
    by_cases h : a = m <;> simp [h]
  · rintro env S0 ⟨rfl, t, u, rfl⟩
    simp
theorem run_depths_of (n k : Nat) (L : List Nat) (h2 : k ≤ 10) (S : Sto) : run P T (n + 1) n__depths_of [.d (.int k), .d (.lst (insL k L))] S = .ok (.d (.lst (dN (depI k L)))) S := by
  have hp : pw k ≤ 1024 := pw_le (b := 10) h2
  rw [run_of t__depths_of rfl]
  have ec := comp_map (own := [4]) (i := 4) (src := .var 1) (e := .ife (.var 4) (.con (.int 0)) (.bin .add (.var 0) (.con (.int 1)))) (cf := ⟨P, run P T n, none⟩) (env := [some (.d (.int k)), some (.d (.lst (insL k L))), none, none, none, none]) (S := S) (S1 := S)
    (List.range (pw k)) (fun x => .bl (decide (x ∈ L))) (fun x => .int (dpF k L 0 x : Nat)) (by simp [insL]) (fun x _ => by by_cases h : x ∈ L <;> simp [wipe, h, dpF]) (le_LL (by rw [List.length_range]; omega))
  simp [f__depths_of, env0, ec]
  refine for_use (C := fun r => fin _ r = _) (S1 := S) (xs := (List.range k).map fun (i : Nat) => D.int i) (evI_rng1 (by simp) (by omega))
    (fun i env S0 => S0 = S ∧ ∃ t, env = [some (.d (.int k)), some (.d (.lst (insL k L))), some (.d (.lst ((List.range (pw k)).map fun x => .int (dpF k L i x : Nat)))), t, none, none]) ⟨rfl, none, rfl⟩ ?_ ?_
  · rintro i y env S0 hy ⟨rfl, t, rfl⟩
    obtain ⟨j, hj, rfl⟩ := map_at hy
    obtain ⟨rfl, hi⟩ := range_at hj
    have ec := comp_map (own := [5]) (i := 5) (src := .rng [.bin .shl (.con (.int 1)) (.var 0)]) (e := .bi .min [.idx (.var 2) (.var 5), .bin .add (.idx (.var 2) (.bin .xor (.var 5) (.bin .shl (.con (.int 1)) (.var 3)))) (.con (.int 1))]) (cf := ⟨P, run P T n, none⟩)
      (env := [some (.d (.int k)), some (.d (.lst (insL k L))), some (.d (.lst ((List.range (pw k)).map fun x => .int (dpF k L j x : Nat)))), some (.d (.int j)), none, none]) (S := S0) (S1 := S0)
      (List.range (pw k)) (fun x => .int (x : Nat)) (fun x => .int (dpF k L (j + 1) x : Nat)) (evI_rng1 (by simp [iop_shl1 k (by omega)]) (by omega))
      (fun x hx => by
        have hx2 := List.mem_range.mp hx
        simp [wipe, iop_shl1 j (by omega), rng_at hx2, rng_at (xor_lt hx2 (pw_lt hi)), dpF, min_cast]) (le_LL (by rw [List.length_range]; omega))
    exact ⟨_, _, _, rfl, .inl (by simp [ec]; rfl), rfl, _, rfl⟩
  · rintro env S0 ⟨rfl, t, rfl⟩
    simp [depI, dN]
/-- a family's attributes -/
def famF (k : Nat) (L : List Nat) : List (Nat × D) := [(fl_size, .int k), (fl_lots, .tup (L.map lotD)), (fl__numbers, .tup (dN L)), (fl__inside, .lst (insL k L)), (fl__depths, .lst (dN (depI k L))), (fl__searched, .bl false), (fl__first, .non)]
def famD (k : Nat) (L : List Nat) : D := .obj c_Family (famF k L)
theorem run_init (n k : Nat) (ms : List Nat) (rows : List D) (x : D) (hx : x = .tup rows ∨ x = .lst rows) (hr : Rows k ms rows) (h1 : 1 ≤ k) (h2 : k ≤ 10) (nd : ms.Nodup) (hm : ∀ m ∈ ms, m < pw k) (ne : ms ≠ []) (S : Sto) :
    run P T (n + 4) n_Family___init__ [.r S.length, .d (.int k), .d x] (S ++ [.ins c_Family []]) = .ok (.d .non) (S ++ [.ins c_Family (famF k (srtM ms))]) := by
  have hp : pw k ≤ 1024 := pw_le (b := 10) h2
  have hml : ms.length ≤ 1024 := by
    have : ms.length ≤ pw k := by
      have := nd.length_le_of_subset (l₂ := List.range (pw k)) (fun m h => List.mem_range.mpr (hm m h))
      rwa [List.length_range] at this
    omega
  rw [run_of t_Family___init__ rfl]
  have ec := comp_map (own := [5]) (i := 5) (src := .rng [.bin .shl (.con (.int 1)) (.var 1)]) (e := .con (.bl false)) (cf := ⟨P, run P T (n + 3), none⟩) (env := [some (.r S.length), some (.d (.int k)), some (.d x), some (.d (.lst (dN ms))), none, none, none]) (S := S ++ [.ins c_Family []]) (S1 := S ++ [.ins c_Family []])
    (List.range (pw k)) (fun t => .int (t : Nat)) (fun _ => .bl false) (evI_rng1 (by simp [iop_shl1 k (by omega)]) (by omega)) (fun t _ => by simp) (le_LL (by rw [List.length_range]; omega))
  simp [f_Family___init__, env0, run_numbers_of n k ms rows x hx hr h1 h2 nd hm ne, ec]
  refine for_use (C := fun r => fin _ r = _) (S1 := S ++ [.ins c_Family [], .lst ((List.range (pw k)).map fun _ => .bl false)]) (xs := dN ms) (by simp)
    (fun i env S0 => S0 = S ++ [.ins c_Family [], .lst ((List.range (pw k)).map fun y => .bl (decide (y ∈ ms.take i)))] ∧ ∃ t, env = [some (.r S.length), some (.d (.int k)), some (.d x), some (.d (.lst (dN ms))), some (.r (S.length + 1)), t, none]) ⟨by simp, none, rfl⟩ ?_ ?_
  · rintro i y env S0 hy ⟨rfl, t, rfl⟩
    obtain ⟨m, em, rfl⟩ := dN_at hy
    have hmk := hm m (List.mem_of_getElem? em)
    refine ⟨_, _, _, rfl, .inl (by simp [set_range hmk, hmk]; rfl), ?_, some (.d (.int (m : Nat))), rfl⟩
    rw [take_succ em]
    simp
    intro a _
    by_cases h : a = m <;> simp [h]
  · rintro env S0 ⟨rfl, t, rfl⟩
    have em : ((List.range (pw k)).map fun y => D.bl (decide (y ∈ ms.take (dN ms).length))) = insL k (srtM ms) := by
      rw [dN_length, List.take_length]
      exact insL_congr fun x => (srtM_perm ms).mem_iff.symm
    rw [em]
    have hL : (srtM ms).length = ms.length := (srtM_perm ms).length_eq
    have e2 := comp_map (own := [5]) (i := 5) (src := .var 3) (e := .call n__lot_of [.var 5]) (cf := ⟨P, run P T (n + 3), none⟩) (env := [some (.r S.length), some (.d (.int k)), some (.d x), some (.d (.lst (dN ms))), some (.d (.lst (insL k (srtM ms)))), t, none]) (S := S ++ [.ins c_Family [(fl_size, .int k)], .dead]) (S1 := S ++ [.ins c_Family [(fl_size, .int k)], .dead])
      ms (fun t => .int (t : Nat)) lotD (by simp [dN]) (fun m h => by simp [wipe, run_lot_of _ m (pw12 (hm m h) (by omega))]) (le_LL (by omega))
    have e3 := comp_map (own := [6]) (i := 6) (src := .fld (.var 0) fl_lots) (e := .call n__number_of [.var 6]) (cf := ⟨P, run P T (n + 3), none⟩) (env := [some (.r S.length), some (.d (.int k)), some (.d x), some (.d (.lst (dN ms))), some (.d (.lst (insL k (srtM ms)))), t, none])
      (S := S ++ [.ins c_Family [(fl_size, .int k), (fl_lots, .tup ((srtM ms).map lotD))], .dead]) (S1 := S ++ [.ins c_Family [(fl_size, .int k), (fl_lots, .tup ((srtM ms).map lotD))], .dead])
      (srtM ms) lotD (fun t => .int (t : Nat)) (by simp [fldV, List.lookup, fl_size, fl_lots, fl__numbers, fl__inside, fl__depths, fl__searched, fl__first, c_Family]) (fun m h => by
        have := hm m ((srtM_perm ms).mem_iff.mp h)
        simp [wipe, run_number_of_lot _ m (pw12 this (by omega))]) (le_LL (by omega))
    simp only [fl_size, fl_lots, fl__numbers, fl__inside, fl__depths, fl__searched, fl__first, c_Family] at e2 e3
    simp only [fl_size, fl_lots, fl__numbers, fl__inside, fl__depths, fl__searched, fl__first, c_Family]
    rw [show (srtM ms).map (fun (t : Nat) => D.int t) = dN (srtM ms) from rfl] at e3
    simp [putFl, e2, e3, run_depths_of _ k (srtM ms) h2, famF, fl_size, fl_lots, fl__numbers, fl__inside, fl__depths, fl__searched, fl__first, c_Family]
theorem mk_family (n k : Nat) (ms : List Nat) (rows : List D) (x : D) (hx : x = .tup rows ∨ x = .lst rows) (hr : Rows k ms rows) (h1 : 1 ≤ k) (h2 : k ≤ 10) (nd : ms.Nodup) (hm : ∀ m ∈ ms, m < pw k) (ne : ms ≠ []) (S : Sto) :
    mkV ⟨P, run P T (n + 4), none⟩ c_Family [.d (.int k), .d x] S = .ok (.f (.ins c_Family (famF k (srtM ms)))) S := by
  unfold mkV
  simp [run_init n k ms rows x hx hr h1 h2 nd hm ne]
theorem run_from_numbers (n k : Nat) (ms : List Nat) (h1 : 1 ≤ k) (h2 : k ≤ 10) (nd : ms.Nodup) (hm : ∀ m ∈ ms, m < pw k) (ne : ms ≠ []) (S : Sto) :
    run P T (n + 5) n__from_numbers [.d (.int k), .d (.lst (dN ms))] S = .ok (.f (.ins c_Family (famF k (srtM ms)))) S := by
  have hp : pw k ≤ 1024 := pw_le (b := 10) h2
  have hml := nd_len nd hm
  rw [run_of t__from_numbers rfl]
  have e2 := comp_map (own := [2]) (i := 2) (src := .var 1) (e := .call n__lot_of [.var 2]) (cf := ⟨P, run P T (n + 4), none⟩) (env := [some (.d (.int k)), some (.d (.lst (dN ms))), none]) (S := S) (S1 := S)
      ms (fun t => .int (t : Nat)) lotD (by simp [dN]) (fun m h => by simp [wipe, run_lot_of _ m (pw12 (hm m h) (by omega))]) (le_LL (by omega))
  simp [f__from_numbers, env0, e2, mk_family n k ms (ms.map lotD) _ (.inr rfl) (rows_map fun m h => rowD_lot (hm m h) (by omega)) h1 h2 nd hm ne]
end K07
namespace K07
open G
/-- a family's attributes, whether searched or not -/
def famX (k : Nat) (L : List Nat) (s : Bool) (f : D) : List (Nat × D) := [(fl_size, .int k), (fl_lots, .tup (L.map lotD)), (fl__numbers, .tup (dN L)), (fl__inside, .lst (insL k L)), (fl__depths, .lst (dN (depI k L))), (fl__searched, .bl s), (fl__first, f)]
theorem famF_X (k : Nat) (L : List Nat) : famF k L = famX k L false .non := rfl
/-- a family, as data or in a cell -/
structure Fm (x : Va) (S : Sto) (k : Nat) (L : List Nat) : Prop where
  cl : ∃ s f, clsV x S = some (c_Family, famX k L s f)
  nf : ∀ ce, x ≠ .f ce
section
variable {x : Va} {S : Sto} {k : Nat} {L : List Nat}
theorem Fm.stl (h : Fm x S k L) (S1 : Sto) : stl (.ok x S1) = .ok x S1 := by
  cases x with
  | d x => rfl
  | r l => rfl
  | f ce => exact (h.nf ce rfl).elim
theorem Fm.of (s : Bool) (f : D) : Fm (.d (.obj c_Family (famX k L s f))) S k L := ⟨⟨s, f, rfl⟩, fun _ z => by cases z⟩
theorem Fm.data : Fm (.d (.obj c_Family (famF k L))) S k L := Fm.of false .non
theorem Fm.cell {l : Nat} {s : Bool} {f : D} (h : S[l]? = some (.ins c_Family (famX k L s f))) : Fm (.r l) S k L := ⟨⟨s, f, by rw [clsV_r, h]⟩, fun _ z => by cases z⟩
theorem fx_size (h : Fm x S k L) : fldV P x fl_size S = .ok (.d (.int k)) S := by
  obtain ⟨s, f, e⟩ := h.cl
  simp [fldV, e, famX, List.lookup, fl_size, fl_lots, fl__numbers, fl__inside, fl__depths, fl__searched, fl__first, c_Family]
theorem fx_lots (h : Fm x S k L) : fldV P x fl_lots S = .ok (.d (.tup (L.map lotD))) S := by
  obtain ⟨s, f, e⟩ := h.cl
  simp [fldV, e, famX, List.lookup, fl_size, fl_lots, fl__numbers, fl__inside, fl__depths, fl__searched, fl__first, c_Family]
theorem fx_numbers (h : Fm x S k L) : fldV P x fl__numbers S = .ok (.d (.tup (dN L))) S := by
  obtain ⟨s, f, e⟩ := h.cl
  simp [fldV, e, famX, List.lookup, fl_size, fl_lots, fl__numbers, fl__inside, fl__depths, fl__searched, fl__first, c_Family]
theorem fx_inside (h : Fm x S k L) : fldV P x fl__inside S = .ok (.d (.lst (insL k L))) S := by
  obtain ⟨s, f, e⟩ := h.cl
  simp [fldV, e, famX, List.lookup, fl_size, fl_lots, fl__numbers, fl__inside, fl__depths, fl__searched, fl__first, c_Family]
theorem fx_depths (h : Fm x S k L) : fldV P x fl__depths S = .ok (.d (.lst (dN (depI k L)))) S := by
  obtain ⟨s, f, e⟩ := h.cl
  simp [fldV, e, famX, List.lookup, fl_size, fl_lots, fl__numbers, fl__inside, fl__depths, fl__searched, fl__first, c_Family]
theorem isi_fx (h : Fm x S k L) : isV P x [.cls c_Family] S = .ok (.d (.bl true)) S := by
  obtain ⟨s, f, e⟩ := h.cl
  cases x with
  | d x =>
    cases x with
    | obj c fs =>
      simp at e
      obtain ⟨rfl, rfl⟩ := e
      simp [isV, isD, knownD, tyD, c_Family]
    | _ => cases e
  | r l =>
    rw [clsV_r] at e
    simp only [isV]
    cases hc : S[l]? with
    | none => rw [hc] at e; cases e
    | some ce =>
      rw [hc] at e
      cases ce with
      | ins c fs =>
        simp at e
        obtain ⟨rfl, rfl⟩ := e
        simp [isD, knownD, tyD, c_Family]
      | _ => cases e
  | f ce => exact (h.nf ce rfl).elim
end
theorem dep_ne {k : Nat} {L : List Nat} : depI k L ≠ [] := by
  have := pw_pos k
  intro h
  have := congrArg List.length h
  simp [depI] at this
  omega
theorem dep_at {k x : Nat} {L : List Nat} (h : x < pw k) : (depI k L)[x]? = some (dpF k L k x) := rng_at h
theorem dep_len (k : Nat) (L : List Nat) : (depI k L).length = pw k := by simp [depI]
theorem run_weight (n m : Nat) (hm : m < 1024) (S : Sto) : run P T (n + 1) n__weight [.d (.int m)] S = .ok (.d (.int (pc m : Nat))) S := by
  rw [run_of t__weight rfl]
  simp only [f__weight, env0]
  simp
  refine whl_use (C := fun r => fin _ r = _) (fun w env S0 => S0 = S ∧ ∃ j c : Nat, env = [some (.d (.int j)), some (.d (.int c))] ∧ j < 1024 ∧ pc j = w ∧ c + w = pc m) (pc m) (by have := pc_le m; omega) ⟨rfl, m, 0, rfl, hm, rfl, by omega⟩ ?_
  rintro w env S0 ⟨rfl, j, c, rfl, hj, hw, hc⟩
  by_cases h0 : j = 0
  · subst h0
    rw [pc_zero] at hw
    refine .inl ⟨S0, by simp, ?_⟩
    have : c = pc m := by omega
    simp [this]
  · obtain ⟨p1, p2⟩ := pc_step hj h0
    have e1 : (j : Int) - 1 = ((j - 1 : Nat) : Int) := by omega
    have e0 : ¬ (j : Int) = 0 := by omega
    refine .inr ⟨S0, [some (.d (.int ((j &&& (j - 1) : Nat) : Int))), some (.d (.int ((c + 1 : Nat) : Int)))], S0, pc (j &&& (j - 1)), by simp [e0, h0], ?_, by omega, rfl, _, _, rfl, p2, rfl, by omega⟩
    simp [e1]
    rw [y_aug (a := (c : Nat)) rfl]
    simp
end K07
namespace K07
open G
/-- a lot given as a tuple of its things, in any order -/
structure LotOk (k : Nat) (l : List Nat) : Prop where
  nd : l.Nodup
  lt : ∀ t ∈ l, t < k
theorem eqD_ii (a b : Nat) : eqD (.int a) (.int b) = decide (a = b) := by
  by_cases h : a = b
  · subst h; simp [eqD]
  · have : ¬ (a : Int) = b := by omega
    simp [eqD, h, this]
theorem in_no {x : Nat} {l : List Nat} (h : x ∉ l) (cf : Cfg) (S : Sto) : cmpV cf .in_ (.d (.int x)) (.d (.tup (dN l))) S = .ok (.d (.bl false)) S := by
  show inV false (.d (.int x)) (.d (.tup (dN l))) S = .ok (.d (.bl false)) S
  have h1 : (dN l).all flatD = true := by
    rw [List.all_eq_true]
    intro y hy
    obtain ⟨z, _, rfl⟩ := List.mem_map.mp hy
    rfl
  have h2 : ((dN l).any fun y => eqD y (.int x)) = false := by
    rw [List.any_eq_false]
    intro y hy
    obtain ⟨z, hz, rfl⟩ := List.mem_map.mp hy
    rw [eqD_ii]
    have : z ≠ x := fun e => h (e ▸ hz)
    simp [this]
  simp only [inV, seqV_t, h1, h2, flatD]
  simp
theorem slc_pre {l : List Nat} {i : Nat} (h : i < l.length) (S : Sto) : slcV (.d (.tup (dN l))) none (some (i : Int)) S = .ok (.d (.tup (dN (l.take i)))) S := by
  have c0 : clip (dN l).length 0 none = 0 := rfl
  have c1 : clip (dN l).length (dN l).length (some (i : Int)) = i := by
    show (if (i : Int) < 0 then ((i : Int) + ((dN l).length : Nat)).toNat else min (i : Int).toNat (dN l).length) = i
    rw [if_neg (by omega), dN_length]
    omega
  show (if clip (dN l).length 0 none = 0 ∧ clip (dN l).length (dN l).length (some (i : Int)) = (dN l).length then R.bad else R.ok (Va.d (D.tup (cut (dN l) none (some (i : Int))))) S) = _
  rw [if_neg (by rw [c1, dN_length]; omega)]
  unfold cut
  rw [c0, c1]
  simp [dN, List.map_take]
theorem run_wrong_place (n k : Nat) (l : List Nat) (ok : LotOk k l) (hk : k ≤ 12) (S : Sto) : run P T (n + 2) n__wrong_place [.d (.tup (dN l)), .d (.int k)] S = .ok (.d (.int (-1))) S := by
  have hl : l.length ≤ k := by
    have := ok.nd.length_le_of_subset (l₂ := List.range k) (fun m h => List.mem_range.mpr (ok.lt m h))
    rwa [List.length_range] at this
  rw [run_of t__wrong_place rfl]
  simp only [f__wrong_place, env0]
  refine for_use (C := fun r => fin _ r = _) (S1 := S) (xs := (List.range l.length).map fun (i : Nat) => D.int i) (evI_rng1 (by simp) (by omega))
    (fun i env S0 => S0 = S ∧ ∃ t u, env = [some (.d (.tup (dN l))), some (.d (.int k)), t, u]) ⟨rfl, none, none, rfl⟩ ?_ ?_
  · rintro i y env S0 hy ⟨rfl, t, u, rfl⟩
    obtain ⟨j, hj, rfl⟩ := map_at hy
    obtain ⟨rfl, hi⟩ := range_at hj
    obtain ⟨m, em⟩ : ∃ m, l[j]? = some m := ⟨_, List.getElem?_eq_getElem hi⟩
    have hm := ok.lt m (List.mem_of_getElem? em)
    have e1 : ¬ ((m : Int) < 0) := by omega
    have e2 : ¬ ((k : Int) ≤ m) := by omega
    have e3 : (dN l)[j]? = some (.int (m : Nat)) := by rw [dN_get, em]; rfl
    have e4 := fun cf => in_no (nodup_take ok.nd em) cf S0
    refine ⟨_, _, _, rfl, .inl (by simp [e3, run_is_int, e1, e2, isN, endE, slc_pre hi, e4] <;> rfl), rfl, some (.d (.int (j : Nat))), some (.d (.int (m : Nat))), rfl⟩
  · rintro env S0 ⟨rfl, t, u, rfl⟩
    simp
theorem run_checked (n k : Nat) (l : List Nat) (ok : LotOk k l) (hk : k ≤ 12) (S : Sto) : run P T (n + 3) n__checked [.d (.tup (dN l)), .d (.int k)] S = .ok (.d (.tup (dN (srtN l)))) S := by
  rw [run_of t__checked rfl]
  simp [f__checked, env0, run_wrong_place n k l ok hk]
theorem run_lot_of_pub (n k : Nat) (l : List Nat) (ok : LotOk k l) (hk : k ≤ 12) (S : Sto) : run P T (n + 4) n_lot_of [.d (.tup (dN l)), .d (.int k)] S = .ok (.d (.tup (dN (srtN l)))) S := by
  rw [run_of t_lot_of rfl]
  simp [f_lot_of, env0, run_checked n k l ok hk]
theorem numOf_perm {l l' : List Nat} (h : l.Perm l') : numOf l = numOf l' := numOf_eq fun t => by
  rw [numOf_bit]
  simp [h.mem_iff]
theorem run_number_in (n k : Nat) (L l : List Nat) (ok : LotOk k l) (hk : k ≤ 12) {x : Va} {S : Sto} (h0 : Fm x S k L) : run P T (n + 5) n__number_in [x, .d (.tup (dN l))] S = .ok (.d (.int (numOf l : Nat))) S := by
  have h := run_number_of (n + 3) (srtN l) (fun x hx => by have := ok.lt x ((srtN_perm l).mem_iff.mp hx); omega) S
  rw [numOf_perm (srtN_perm l)] at h
  rw [run_of t__number_in rfl]
  simp [f__number_in, env0, h0.stl, fx_size h0, run_lot_of_pub n k l ok hk, h]
end K07
namespace K07
open G
theorem small_lit {i : Int} (h : i.natAbs < 2 ^ 64) : small i = true := decide_eq_true h
theorem iop_pow18 : iop .pow 10 18 = some 1000000000000000000 := by decide +kernel
/-- the draws out of a script -/
theorem run_law_draws (n : Nat) (ns : List Int) (hl : ns.length ≤ 63) : ∃ ds : List Int, run P T (n + 1) n__law_draws [.d (.lst (dI ns))] [] = .ok (.f (.lst (dI ds))) [] := by
  suffices h : ∃ ds : List Int, ∃ env : Frm, exSs f__law_draws.body ⟨P, run P T n, none⟩ (env0 f__law_draws [.d (.lst (dI ns))]) [] = .ok (.rt (.r 0)) env [.lst (dI ds)] by
    obtain ⟨ds, env, h⟩ := h
    refine ⟨ds, ?_⟩
    rw [run_of t__law_draws rfl, h]
    rfl
  simp [f__law_draws, env0]
  have hmin : (if (63 : Int) < (ns.length : Int) then (63 : Int) else ns.length) = ((ns.length : Nat) : Int) := if_neg (by omega)
  refine for_turn (C := fun r => ∃ ds : List Int, ∃ env, r = RS.ok (.rt (.r 0)) env [.lst (dI ds)]) (S1 := [.lst []]) (xs := (List.range ns.length).map fun (i : Nat) => D.int i) (evI_rng1 (by simp [hmin]) (by omega))
    (fun i env S0 => ∃ ds : List Int, ds.length ≤ 60 * i ∧ S0 = [.lst (dI ds)] ∧ ∃ t c k u, env = [some (.d (.lst (dI ns))), some (.r 0), t, c, k, u]) ⟨[], by simp, rfl, none, none, none, none, rfl⟩ ?_ ?_
  · rintro i y env S0 hy ⟨ds, hds, rfl, t, c, k, u, rfl⟩
    obtain ⟨j, hj, rfl⟩ := map_at hy
    obtain ⟨rfl, hi⟩ := range_at hj
    obtain ⟨m, em⟩ : ∃ m, ns[j]? = some m := ⟨_, List.getElem?_eq_getElem hi⟩
    have e3 : (dI ns)[j]? = some (.int m) := by rw [dI_get, em]; rfl
    refine ⟨_, rfl, ?_⟩
    -- both ways on, from a cell's number
    have go : ∀ (cell : Int), Turn (exSs [.ite (.cmp .ge (.var 3) (.bin .pow (.con (.int 10)) (.con (.int 18)))) [.for_ (.nm 4) (.rng [.con (.int 60)]) [.ite (.cmp .gt (.var 3) (.con (.int 0))) [.ex (.bm .append (.var 1) [.bin .mod (.bi .int [.var 3]) (.con (.int 24))]), .asg (.nm 3) (.bin .fdiv (.var 3) (.con (.int 24)))] []]] [.asg (.nm 5) (.bin .mod (.bi .int [.bin .add (.bin .add (.bin .mul (.var 3) (.con (.int 69621))) (.bin .mul (.var 2) (.con (.int 40692)))) (.con (.int 3))]) (.con (.int 2147483647))), .for_ (.nm 4) (.rng [.con (.int 6)]) [.asg (.nm 5) (.bin .mod (.bi .int [.bin .add (.bin .add (.bin .add (.bin .mul (.var 5) (.var 5)) (.bin .mul (.var 4) (.con (.int 48271)))) (.var 2)) (.con (.int 5))]) (.con (.int 2147483563))), .ex (.bm .append (.var 1) [.var 5])]]]
        ⟨P, run P T n, none⟩ [some (.d (.lst (dI ns))), some (.r 0), some (.d (.int j)), some (.d (.int cell)), k, u] [.lst (dI ds)]) (fun env S0 => ∃ ds : List Int, ds.length ≤ 60 * (j + 1) ∧ S0 = [.lst (dI ds)] ∧ ∃ t c k u, env = [some (.d (.lst (dI ns))), some (.r 0), t, c, k, u]) := fun cell => by
      by_cases hc : (1000000000000000000 : Int) ≤ cell
      · simp [iop_pow18, hc]
        refine for_turn (C := fun r => Turn (andThen r _ _) _) (S1 := [.lst (dI ds)]) (xs := (List.range 60).map fun (i : Nat) => D.int i) (evI_rng1 (by simp) (by omega))
          (fun i env S0 => ∃ ds : List Int, ds.length ≤ 60 * j + i ∧ S0 = [.lst (dI ds)] ∧ ∃ (c : Int) (k u : Option Va), env = [some (.d (.lst (dI ns))), some (.r 0), some (.d (.int j)), some (.d (.int c)), k, u]) ⟨ds, by omega, rfl, cell, k, u, rfl⟩ ?_ ?_
        · rintro i2 y2 env S0 hy2 ⟨ds, hds, rfl, c, k, u, rfl⟩
          obtain ⟨j2, hj2, rfl⟩ := map_at hy2
          obtain ⟨rfl, hi2⟩ := range_at hj2
          refine ⟨_, rfl, ?_⟩
          by_cases hp : 0 < c
          · have hlen : ds.length < LL := lt_LL (by omega)
            refine .of (by simp [hp, iop_modI, iop_fdivI, hlen] <;> first | rfl | exact ⟨rfl, rfl⟩) ?_
            exact ⟨ds ++ [c % 24], by simp; omega, by simp [dI], c / 24, _, u, rfl⟩
          · refine .of (by simp [hp] <;> first | rfl | exact ⟨rfl, rfl⟩) ?_
            exact ⟨ds, by omega, rfl, c, _, u, rfl⟩
        · rintro env S0 ⟨ds, hds, rfl, c, k, u, rfl⟩
          refine .of (by simp <;> first | rfl | exact ⟨rfl, rfl⟩) ?_
          exact ⟨ds, by simp at hds; omega, rfl, _, _, _, _, rfl⟩
      · simp [iop_pow18, hc, iop_mulR, small_lit, iop_modI]
        refine for_turn (C := fun r => Turn (andThen r _ _) _) (S1 := [.lst (dI ds)]) (xs := (List.range 6).map fun (i : Nat) => D.int i) (evI_rng1 (by simp) (by omega))
          (fun i env S0 => ∃ ds : List Int, ds.length ≤ 60 * j + i ∧ S0 = [.lst (dI ds)] ∧ ∃ (c v : Int) (k : Option Va), env = [some (.d (.lst (dI ns))), some (.r 0), some (.d (.int j)), some (.d (.int c)), k, some (.d (.int v))] ∧ 0 ≤ v ∧ v < 2147483647) ⟨ds, by omega, rfl, cell, _, k, rfl, Int.emod_nonneg _ (by decide), Int.emod_lt_of_pos _ (by decide)⟩ ?_ ?_
        · rintro i2 y2 env S0 hy2 ⟨ds, hds, rfl, c, v, k, rfl, hv1, hv2⟩
          obtain ⟨j2, hj2, rfl⟩ := map_at hy2
          obtain ⟨rfl, hi2⟩ := range_at hj2
          refine ⟨_, rfl, ?_⟩
          have hlen : ds.length < LL := lt_LL (by omega)
          have hsm : small v = true := decide_eq_true (by omega)
          refine .of (by simp [iop_mulR, hsm, small_lit, iop_modI, hlen] <;> first | rfl | exact ⟨rfl, rfl⟩) ?_
          exact ⟨ds ++ [_], by simp; omega, by simp [dI]; rfl, c, _, _, rfl, Int.emod_nonneg _ (by decide), Int.lt_of_lt_of_le (Int.emod_lt_of_pos _ (by decide)) (by decide)⟩
        · rintro env S0 ⟨ds, hds, rfl, c, v, k, rfl, _⟩
          refine .of (by simp <;> first | rfl | exact ⟨rfl, rfl⟩) ?_
          exact ⟨ds, by simp at hds; omega, rfl, _, _, _, _, rfl⟩
    by_cases hm : m < 0
    · have g := go (1 - m)
      simp at g
      simp [e3, hm]
      exact g
    · have g := go m
      simp at g
      simp [e3, hm]
      exact g
  · rintro env S0 ⟨ds, hds, rfl, t, c, k, u, rfl⟩
    refine ⟨ds.reverse, [some (.d (.lst (dI ns))), some (.r 0), t, c, k, u], ?_⟩
    simp [dI]
theorem run_take (n : Nat) (many : Int) (h : 0 < many) (ds : List Int) (R : Sto) : ∃ (v : Nat) (ds' : List Int), (v : Int) < many ∧ run P T (n + 1) n__law_take [.r 0, .d (.int many)] (.lst (dI ds) :: R) = .ok (.d (.int v)) (.lst (dI ds') :: R) := by
  rw [run_of t__law_take rfl]
  have hl : ∀ cf, biV cf .len [.r 0] (.lst (dI ds) :: R) = .ok (.d (.int (ds.length : Nat))) (.lst (dI ds) :: R) := fun cf => by
    have := bi_len_r (.lst (dI ds) :: R) cf 0 (dI ds) rfl
    rw [dI_length] at this
    exact this
  by_cases hd : ds = []
  · subst hd
    refine ⟨0, [], by omega, ?_⟩
    simp [f__law_take, env0, hl]
  · have hp : 0 < ds.length := List.length_pos_iff.mpr hd
    obtain ⟨x, hx⟩ : ∃ x, ds[ds.length - 1]? = some x := ⟨_, List.getElem?_eq_getElem (by omega)⟩
    have hx2 : (dI ds)[(dI ds).length - 1]? = some (.int x) := by rw [dI_length, dI_get, hx]; rfl
    have hx3 : (dI ds)[ds.length - 1]? = some (.int x) := by rw [dI_get, hx]; rfl
    have hn := Int.emod_nonneg x (b := many) (by omega)
    have hlt := Int.emod_lt_of_pos x h
    refine ⟨(x % many).toNat, ds.dropLast, by omega, ?_⟩
    have e0 : ¬ ((ds.length : Int) = 0) := by omega
    have e1 : (((x % many).toNat : Nat) : Int) = x % many := by omega
    have e2 : (dI ds).dropLast = dI ds.dropLast := by simp [dI, List.map_dropLast]
    rw [e1]
    simp [f__law_take, env0, hl, e0, hd, hx3, iop_modI x many h, e2]
end K07
namespace K07
open G
/-! bits -/
theorem run_bits (n m : Nat) (h : m < 1024) (S : Sto) : run P T (n + 1) n__law_bits [.d (.int m)] S = .ok (.d (.int (pc m : Nat))) S := by
  rw [run_of t__law_bits rfl]
  simp only [f__law_bits, env0]
  refine for_ret (C := fun r => fin _ r = _) (S1 := S) (xs := (List.range 12).map fun (i : Nat) => D.int i) (evI_rng1 (by simp) (by omega))
    (fun i env S0 => S0 = S ∧ ∃ (k : Nat) (t : Option Va), env = [some (.d (.int k)), t] ∧ k < 1024 ∧ pc k + i = pc m) (fun v env S0 => S0 = S ∧ v = .d (.int (pc m : Nat))) ⟨rfl, m, none, rfl, h, rfl⟩ ?_ ?_ ?_
  · rintro i y env S0 hy ⟨rfl, k, t, rfl, h1, h2⟩
    obtain ⟨j, hj, rfl⟩ := map_at hy
    obtain ⟨rfl, hi⟩ := range_at hj
    refine ⟨_, rfl, ?_⟩
    by_cases hk : k = 0
    · subst hk
      refine .inr ⟨.d (.int j), _, S0, by simp; rfl, rfl, ?_⟩
      rw [pc_zero, Nat.zero_add] at h2
      rw [h2]
    · obtain ⟨p1, p2⟩ := pc_step h1 hk
      have e0 : ¬ ((k : Int) = 0) := by omega
      have e1 : (k : Int) - 1 = ((k - 1 : Nat) : Int) := by omega
      refine .inl ⟨[some (.d (.int ((k &&& (k - 1) : Nat) : Int))), some (.d (.int j))], S0, .inl ?_, rfl, k &&& (k - 1), _, rfl, p2, ?_⟩
      · simp [e0, hk, e1]
      · omega
  · rintro env S0 ⟨rfl, k, t, rfl, h1, h2⟩
    have := pc_le m
    simp at h2
    have e : pc m = 12 := by omega
    simp [e]
  · rintro v env S0 ⟨rfl, rfl⟩
    simp
theorem run_law_lot (n m : Nat) (S : Sto) : run P T (n + 1) n__law_lot [.d (.int m)] S = .ok (.d (lotD m)) S := by
  rw [run_of t__law_lot rfl]
  have e := comp_flat (own := [1]) (i := 1) (src := .rng [.con (.int 12)]) (c := .cmp .eq (.bin .and (.bin .shr (.var 0) (.var 1)) (.con (.int 1))) (.con (.int 1))) (e := .var 1) (cf := ⟨P, run P T n, none⟩) (env := [some (.d (.int m)), none]) (S := S) (S1 := S)
    (List.range 12) (fun t => .int (t : Nat)) (fun t => m.testBit t) (fun t => .int (t : Nat)) (evI_rng1 (by simp) (by omega))
    (fun t _ => by cases hb : m.testBit t <;> simp [wipe, iop_shr, iop_and1, md_bit, hb]) (fun t _ _ => by simp [wipe]) (le_LL (by rw [List.length_range]; omega))
  simp [f__law_lot, env0, e, lotD, dN, lotN]
theorem run_law_lots (n : Nat) (ms : List Nat) (hl : ms.length ≤ 4096) (S : Sto) : run P T (n + 2) n__law_lots [.d (.lst (dN ms))] S = .ok (.f (.lst ((srtM ms).map lotD))) S := by
  rw [run_of t__law_lots rfl]
  have e := comp_map (own := [1]) (i := 1) (src := .var 0) (e := .call n__law_lot [.var 1]) (cf := ⟨P, run P T (n + 1), none⟩) (env := [some (.d (.lst (dN ms))), none]) (S := S) (S1 := S)
    ms (fun t => .int (t : Nat)) lotD (by simp [dN]) (fun m _ => by simp [wipe, run_law_lot]) (le_LL (by omega))
  simp [f__law_lots, env0, e]
theorem run_law_int (n : Nat) (i : Int) (S : Sto) : run P T (n + 1) n__law_int [.d (.int i)] S = .ok (.d (.bl true)) S := by
  rw [run_of t__law_int rfl]
  simp [f__law_int, env0]
end K07
namespace K07
open G
/-- a row of masks of a size -/
structure Msk (k : Nat) (ms : List Nat) : Prop where
  nd : ms.Nodup
  lt : ∀ m ∈ ms, m < pw k
theorem Msk.filt (k : Nat) (p : Nat → Bool) : Msk k ((List.range (pw k)).filter p) := ⟨List.Nodup.sublist List.filter_sublist List.nodup_range, fun m hm => List.mem_range.mp (List.mem_filter.mp hm).1⟩
theorem Msk.perm {k : Nat} {a b : List Nat} (h : Msk k a) (p : b.Perm a) : Msk k b := ⟨(p.nodup_iff).mpr h.nd, fun m hm => h.lt m (p.mem_iff.mp hm)⟩
theorem Msk.len {k : Nat} {a : List Nat} (h : Msk k a) : a.length ≤ pw k := nd_len h.nd h.lt
theorem run_listed (n k : Nat) (p : Nat → Bool) (hk : k ≤ 1024) (S : Sto) : run P T (n + 1) n__law_listed [.d (.lst ((List.range k).map fun x => .bl (p x)))] S = .ok (.f (.lst (dN ((List.range k).filter p)))) S := by
  rw [run_of t__law_listed rfl]
  have e := comp_flat (own := [1]) (i := 1) (src := .rng [.bi .len [.var 0]]) (c := .idx (.var 0) (.var 1)) (e := .var 1) (cf := ⟨P, run P T n, none⟩) (env := [some (.d (.lst ((List.range k).map fun x => .bl (p x)))), none]) (S := S) (S1 := S)
    (List.range k) (fun t => .int (t : Nat)) p (fun t => .int (t : Nat)) (evI_rng1 (by simp) (by omega))
    (fun t ht => by simp [wipe, rng_at (List.mem_range.mp ht)]) (fun t _ _ => by simp [wipe]) (le_LL (by rw [List.length_range]; omega))
  rw [show ((List.range k).filter p).map (fun (t : Nat) => D.int t) = dN ((List.range k).filter p) from rfl] at e
  simp [f__law_listed, env0, e]
theorem run_inside (n k : Nat) (ms : List Nat) (hk : k ≤ 10) (hm : ∀ m ∈ ms, m < pw k) (S : Sto) : run P T (n + 1) n__law_inside [.d (.int k), .d (.lst (dN ms))] S = .ok (.f (.lst (insL k ms))) S := by
  have hp : pw k ≤ 1024 := pw_le (b := 10) hk
  rw [run_of t__law_inside rfl]
  have ec := comp_map (own := [3]) (i := 3) (src := .rng [.bin .shl (.con (.int 1)) (.var 0)]) (e := .con (.bl false)) (cf := ⟨P, run P T n, none⟩) (env := [some (.d (.int k)), some (.d (.lst (dN ms))), none, none]) (S := S) (S1 := S)
    (List.range (pw k)) (fun t => .int (t : Nat)) (fun _ => .bl false) (evI_rng1 (by simp [iop_shl1 k (by omega)]) (by omega)) (fun t _ => by simp) (le_LL (by rw [List.length_range]; omega))
  simp [f__law_inside, env0, ec]
  refine for_turn (C := fun r => fin _ r = _) (S1 := S ++ [.lst ((List.range (pw k)).map fun _ => .bl false)]) (xs := dN ms) (by simp)
    (fun i env S0 => S0 = S ++ [.lst ((List.range (pw k)).map fun y => .bl (decide (y ∈ ms.take i)))] ∧ ∃ t, env = [some (.d (.int k)), some (.d (.lst (dN ms))), some (.r S.length), t]) ⟨by simp, none, rfl⟩ ?_ ?_
  · rintro i y env S0 hy ⟨rfl, t, rfl⟩
    obtain ⟨m, em, rfl⟩ := dN_at hy
    have hmk := hm m (List.mem_of_getElem? em)
    refine ⟨_, rfl, ?_⟩
    refine .of (by simp [set_range hmk, hmk] <;> first | rfl | exact ⟨rfl, rfl⟩) ?_
    refine ⟨?_, some (.d (.int (m : Nat))), rfl⟩
    rw [take_succ em]
    simp
    intro a _
    by_cases h : a = m <;> simp [h]
  · rintro env S0 ⟨rfl, t, rfl⟩
    rw [dN_length, List.take_length]
    simp [insL]
theorem run_sized (n k : Nat) (lo hi : Int) (hk : k ≤ 10) (S : Sto) : run P T (n + 2) n__law_sized [.d (.int k), .d (.int lo), .d (.int hi)] S = .ok (.f (.lst (dN ((List.range (pw k)).filter fun m => decide (lo ≤ (pc m : Int) ∧ (pc m : Int) ≤ hi))))) S := by
  have hp : pw k ≤ 1024 := pw_le (b := 10) hk
  rw [run_of t__law_sized rfl]
  have e := comp_map (own := [4]) (i := 4) (src := .rng [.bin .shl (.con (.int 1)) (.var 0)]) (e := .chn .le .le (.var 1) (.call n__law_bits [.var 4]) (.var 2)) (cf := ⟨P, run P T (n + 1), none⟩) (env := [some (.d (.int k)), some (.d (.int lo)), some (.d (.int hi)), none, none]) (S := S) (S1 := S)
    (List.range (pw k)) (fun t => .int (t : Nat)) (fun m => .bl (decide (lo ≤ (pc m : Int) ∧ (pc m : Int) ≤ hi))) (evI_rng1 (by simp [iop_shl1 k (by omega)]) (by omega))
    (fun m hm => by
      have hm2 := List.mem_range.mp hm
      by_cases h : lo ≤ (pc m : Int) <;> simp [wipe, run_bits _ m (by omega), h]) (le_LL (by rw [List.length_range]; omega))
  simp [f__law_sized, env0, e, run_listed n (pw k) _ hp]
theorem run_turned (n : Nat) (ms : List Nat) (lot : Nat) (hl : ms.length ≤ 4096) (S : Sto) : run P T (n + 1) n__law_turned [.d (.lst (dN ms)), .d (.int lot)] S = .ok (.f (.lst (dN (srtN (ms.map fun m => m ^^^ lot))))) S := by
  rw [run_of t__law_turned rfl]
  have e := comp_map (own := [2]) (i := 2) (src := .var 0) (e := .bin .xor (.var 2) (.var 1)) (cf := ⟨P, run P T n, none⟩) (env := [some (.d (.lst (dN ms))), some (.d (.int lot)), none]) (S := S) (S1 := S)
    ms (fun t => .int (t : Nat)) (fun m => .int ((m ^^^ lot : Nat) : Int)) (by simp [dN]) (fun m _ => by simp [wipe]) (le_LL (by omega))
  rw [show (ms.map fun m => D.int ((m ^^^ lot : Nat) : Int)) = dN (ms.map fun m => m ^^^ lot) by simp [dN, Function.comp_def]] at e
  simp [f__law_turned, env0, e]
theorem xor_cancel {a b c : Nat} (h : a ^^^ c = b ^^^ c) : a = b := by
  have := congrArg (· ^^^ c) h
  simpa [Nat.xor_assoc] using this
theorem nodup_map {f : Nat → Nat} (hf : ∀ a b, f a = f b → a = b) {l : List Nat} (h : l.Nodup) : (l.map f).Nodup := by
  refine List.pairwise_map.mpr (h.imp fun hab e => hab (hf _ _ e))
theorem Msk.turn {k lot : Nat} {ms : List Nat} (h : Msk k ms) (hl : lot < pw k) : Msk k (srtN (ms.map fun m => m ^^^ lot)) :=
  Msk.perm (a := ms.map fun m => m ^^^ lot) ⟨nodup_map (fun a b e => xor_cancel e) h.nd, fun m hm => by
    obtain ⟨x, hx, rfl⟩ := List.mem_map.mp hm
    exact xor_lt (h.lt x hx) hl⟩ (srtN_perm _)
theorem run_joined (n k : Nat) (ms os : List Nat) (hk : k ≤ 10) (h1 : ∀ m ∈ ms, m < pw k) (h2 : ∀ m ∈ os, m < pw k) (S : Sto) : ∃ rs, Msk k rs ∧ run P T (n + 2) n__law_joined [.d (.int k), .d (.lst (dN ms)), .d (.lst (dN os))] S = .ok (.f (.lst (dN rs))) S := by
  have hp : pw k ≤ 1024 := pw_le (b := 10) hk
  suffices h : ∃ p : Nat → Bool, run P T (n + 2) n__law_joined [.d (.int k), .d (.lst (dN ms)), .d (.lst (dN os))] S = .ok (.f (.lst (dN ((List.range (pw k)).filter p)))) S by
    obtain ⟨p, h⟩ := h
    exact ⟨_, Msk.filt k p, h⟩
  rw [run_of t__law_joined rfl]
  have hi := run_inside n k [] hk (fun m h => nomatch h) S
  rw [dN_nil] at hi
  simp [f__law_joined, env0, hi]
  refine for_turn (C := fun r => ∃ p, fin _ r = G.R.ok (.f (.lst (dN ((List.range (pw k)).filter p)))) S) (S1 := S ++ [.lst (insL k [])]) (xs := dN ms) (by simp)
    (fun i env S0 => ∃ (p : Nat → Bool) (t u : Option Va), S0 = S ++ [.lst ((List.range (pw k)).map fun x => .bl (p x))] ∧ env = [some (.d (.int k)), some (.d (.lst (dN ms))), some (.d (.lst (dN os))), some (.r S.length), t, u]) ⟨fun x => decide (x ∈ ([] : List Nat)), none, none, rfl, rfl⟩ ?_ ?_
  · rintro i y env S0 hy ⟨p, t, u, rfl, rfl⟩
    obtain ⟨m, em, rfl⟩ := dN_at hy
    have hmk := h1 m (List.mem_of_getElem? em)
    refine ⟨_, rfl, ?_⟩
    refine for_turn (C := fun r => Turn r _) (S1 := S ++ [.lst ((List.range (pw k)).map fun x => .bl (p x))]) (xs := dN os) (by simp)
      (fun i env S0 => ∃ (p : Nat → Bool) (u : Option Va), S0 = S ++ [.lst ((List.range (pw k)).map fun x => .bl (p x))] ∧ env = [some (.d (.int k)), some (.d (.lst (dN ms))), some (.d (.lst (dN os))), some (.r S.length), some (.d (.int m)), u]) ⟨p, u, rfl, rfl⟩ ?_ ?_
    · rintro i y env S0 hy ⟨p, u, rfl, rfl⟩
      obtain ⟨o, eo, rfl⟩ := dN_at hy
      have hok := h2 o (List.mem_of_getElem? eo)
      have hx := xor_lt hmk hok
      refine ⟨_, rfl, ?_⟩
      refine .of (by simp [set_range hx, hx] <;> first | rfl | exact ⟨rfl, rfl⟩) ?_
      refine ⟨fun y => if y = m ^^^ o then true else p y, _, ?_, rfl⟩
      congr 4
      funext y
      by_cases h : y = m ^^^ o <;> simp [h]
    · rintro env S0 ⟨p, u, rfl, rfl⟩
      refine .of (by rw [y_nil]) ?_
      exact ⟨p, _, _, rfl, rfl⟩
  · rintro env S0 ⟨p, t, u, rfl, rfl⟩
    refine ⟨p, ?_⟩
    simp [run_listed (n) (pw k) p hp]
end K07
namespace K07
open G
def pD (p : Nat × Nat) : D := .tup [.int p.1, .int p.2]
def Lnk (k : Nat) (ls : List (Nat × Nat)) : Prop := ls.length ≤ 200 ∧ ∀ p ∈ ls, p.1 < k ∧ p.2 < k
theorem Lnk.snoc {k c : Nat} {ls : List (Nat × Nat)} {p : Nat × Nat} (h : ∀ q ∈ ls, q.1 < k ∧ q.2 < k) (hp : p.1 < k ∧ p.2 < k) : ∀ q ∈ ls ++ [p], q.1 < k ∧ q.2 < k := fun q hq => by
  rcases List.mem_append.mp hq with hq | hq
  · exact h q hq
  · rw [List.mem_singleton.mp hq]; exact hp
def WebInv (k w : Nat) (R : Sto) (i : Nat) (env : Frm) (S0 : Sto) : Prop := ∃ (ls : List (Nat × Nat)) (ds : List Int) (t u : Option Va), ls.length ≤ 20 * i ∧ (∀ p ∈ ls, p.1 < k ∧ p.2 < k) ∧ S0 = .lst (dI ds) :: (R ++ [.lst (ls.map pD)]) ∧ env = [some (.r 0), some (.d (.int k)), some (.r (R.length + 1)), some (.d (.int w)), t, u]
def WebOk (k : Nat) (R : Sto) (r : RS) : Prop := ∃ ls ds', Lnk k ls ∧ ∃ env, r = .ok (.rt (.r (R.length + 1))) env (.lst (dI ds') :: (R ++ [.lst (ls.map pD)]))
theorem run_web (n k : Nat) (hk : k ≤ 10) (ds : List Int) (R : Sto) : ∃ ls ds', Lnk k ls ∧ run P T (n + 2) n__law_web [.r 0, .d (.int k)] (.lst (dI ds) :: R) = .ok (.f (.lst (ls.map pD))) (.lst (dI ds') :: R) := by
  suffices h : WebOk k R (exSs f__law_web.body ⟨P, run P T (n + 1), none⟩ (env0 f__law_web [.r 0, .d (.int k)]) (.lst (dI ds) :: R)) by
    obtain ⟨ls, ds', h1, env, h⟩ := h
    refine ⟨ls, ds', h1, ?_⟩
    rw [run_of t__law_web rfl, h]
    exact fin_own1 env _
  obtain ⟨w, ds1, hw, e1⟩ := run_take n 4 (by decide) ds (R ++ [.lst []])
  simp [f__law_web, env0, e1]
  refine for_turn (C := WebOk k R) (S1 := .lst (dI ds1) :: (R ++ [.lst []])) (xs := (List.range (k - 1)).map fun (i : Nat) => D.int ((1 + i : Nat) : Int)) (evI_rng2 (by simp; rfl) (by simp) (by omega) (by omega))
    (WebInv k w R) ⟨[], ds1, none, none, by simp, by simp, rfl, rfl⟩ ?_ ?_
  · rintro i yy env S0 hyy ⟨ls, ds, t, u, hl, hp, rfl, rfl⟩
    obtain ⟨j, hj, rfl⟩ := map_at hyy
    obtain ⟨rfl, hi⟩ := range_at hj
    obtain ⟨y, hy⟩ : ∃ y, y = 1 + j := ⟨_, rfl⟩
    rw [← hy]
    refine ⟨_, rfl, ?_⟩
    by_cases hw1 : w = 1
    · subst hw1
      obtain ⟨v, ds2, hv, e2⟩ := run_take n (y : Int) (by omega) ds (R ++ [.lst (ls.map pD)])
      have hlen : ls.length < LL := lt_LL (by omega)
      have h2 : 2 ≤ LL := le_LL (by omega)
      refine .of (by simp [e2, hlen, h2] <;> first | rfl | exact ⟨rfl, rfl⟩) ?_
      refine ⟨ls ++ [(v, y)], ds2, _, _, by simp; omega, Lnk.snoc (c := 0) hp ⟨by show v < k; omega, by show y < k; omega⟩, ?_, rfl⟩
      simp [pD]
    · have e0 : ¬ ((w : Int) = 1) := by omega
      simp [e0, hw1]
      refine for_turn (C := fun r => Turn (andThen r _ _) _) (S1 := .lst (dI ds) :: (R ++ [.lst (ls.map pD)])) (xs := (List.range y).map fun (i : Nat) => D.int i) (evI_rng1 (by simp) (by omega))
        (fun i2 env S0 => ∃ (ls : List (Nat × Nat)) (ds : List Int) (u : Option Va), ls.length ≤ 20 * j + i2 ∧ (∀ p ∈ ls, p.1 < k ∧ p.2 < k) ∧ S0 = .lst (dI ds) :: (R ++ [.lst (ls.map pD)]) ∧ env = [some (.r 0), some (.d (.int k)), some (.r (R.length + 1)), some (.d (.int w)), some (.d (.int y)), u]) ⟨ls, ds, u, by omega, hp, rfl, rfl⟩ ?_ ?_
      · rintro i2 yy env S0 hyy ⟨ls, ds, u, hl, hp, rfl, rfl⟩
        obtain ⟨j2, hj2, rfl⟩ := map_at hyy
        obtain ⟨rfl, hi2⟩ := range_at hj2
        refine ⟨_, rfl, ?_⟩
        obtain ⟨v, ds2, hv, e2⟩ := run_take n 5 (by decide) ds (R ++ [.lst (ls.map pD)])
        have hlen : ls.length < LL := lt_LL (by omega)
        have h2 : 2 ≤ LL := le_LL (by omega)
        by_cases hg : w < v
        · have hg2 : (w : Int) < v := by omega
          refine .of (by simp [e2, hlen, h2, hg, hg2] <;> first | rfl | exact ⟨rfl, rfl⟩) ?_
          refine ⟨ls ++ [(j2, y)], ds2, _, by simp; omega, Lnk.snoc (c := 0) hp ⟨by show j2 < k; omega, by show y < k; omega⟩, ?_, rfl⟩
          simp [pD]
        · have hg2 : ¬ (w : Int) < v := by omega
          refine .of (by simp [e2, hlen, h2, hg, hg2] <;> first | rfl | exact ⟨rfl, rfl⟩) ?_
          exact ⟨ls, ds2, _, by omega, hp, rfl, rfl⟩
      · rintro env S0 ⟨ls, ds, u, hl, hp, rfl, rfl⟩
        refine .of (by simp <;> first | rfl | exact ⟨rfl, rfl⟩) ?_
        exact ⟨ls, ds, _, _, by simp at hl; omega, hp, rfl, rfl⟩
  · rintro env S0 ⟨ls, ds, t, u, hl, hp, rfl, rfl⟩
    refine ⟨ls, ds, ⟨by simp at hl; omega, hp⟩, [some (.r 0), some (.d (.int k)), some (.r (R.length + 1)), some (.d (.int w)), t, u], ?_⟩
    simp
theorem and_le {a b : Nat} (h : a &&& b = b) : b ≤ a := by
  rw [← h]; exact Nat.and_le_left
def PairInv (k : Nat) (ls : List (Nat × Nat)) (S : Sto) (i : Nat) (env : Frm) (S0 : Sto) : Prop := ∃ (p : Nat → Bool) (t g l b : Option Va), S0 = S ++ [.lst ((List.range (1 + i)).map fun x => .bl (p x))] ∧ env = [some (.d (.int k)), some (.d (.lst (ls.map pD))), some (.r S.length), t, g, l, b]
theorem run_paired (n k : Nat) (ls : List (Nat × Nat)) (hk : k ≤ 10) (hl : Lnk k ls) (S : Sto) : ∃ rs, Msk k rs ∧ run P T (n + 2) n__law_paired [.d (.int k), .d (.lst (ls.map pD))] S = .ok (.f (.lst (dN rs))) S := by
  have hp : pw k ≤ 1024 := pw_le (b := 10) hk
  have hp0 := pw_pos k
  suffices h : ∃ p : Nat → Bool, run P T (n + 2) n__law_paired [.d (.int k), .d (.lst (ls.map pD))] S = .ok (.f (.lst (dN ((List.range (pw k)).filter p)))) S by
    obtain ⟨p, h⟩ := h
    exact ⟨_, Msk.filt k p, h⟩
  have h1L : 1 ≤ LL := le_LL (by omega)
  rw [run_of t__law_paired rfl]
  simp [f__law_paired, env0, h1L]
  refine for_turn (C := fun r => ∃ p, fin _ r = G.R.ok (.f (.lst (dN ((List.range (pw k)).filter p)))) S) (S1 := S ++ [.lst [.bl true]]) (xs := (List.range (pw k - 1)).map fun (i : Nat) => D.int ((1 + i : Nat) : Int)) (evI_rng2 (by simp; rfl) (by simp [iop_shl1 k (by omega)]) (by omega) (by omega))
    (PairInv k ls S) ⟨fun _ => true, none, none, none, none, rfl, rfl⟩ ?_ ?_
  · rintro i yy env S0 hyy ⟨p, t, g, l, b, rfl, rfl⟩
    obtain ⟨j, hj, rfl⟩ := map_at hyy
    obtain ⟨rfl, hi⟩ := range_at hj
    obtain ⟨y, hy⟩ : ∃ y, y = 1 + j := ⟨_, rfl⟩
    rw [← hy]
    refine ⟨_, rfl, ?_⟩
    simp
    refine for_turn (C := fun r => Turn r _) (S1 := S ++ [.lst ((List.range y).map fun x => .bl (p x))]) (xs := ls.map pD) (by simp)
      (fun i env S0 => ∃ (q : Bool) (l b : Option Va), S0 = S ++ [.lst ((List.range y).map fun x => .bl (p x))] ∧ env = [some (.d (.int k)), some (.d (.lst (ls.map pD))), some (.r S.length), some (.d (.int y)), some (.d (.bl q)), l, b]) ⟨false, l, b, rfl, rfl⟩ ?_ ?_
    · rintro i y2 env S0 hy2 ⟨q, l, b, rfl, rfl⟩
      obtain ⟨⟨a, c⟩, hac, rfl⟩ := map_at hy2
      obtain ⟨ha, hc⟩ := hl.2 _ (List.mem_of_getElem? hac)
      simp only at ha hc
      have pa := pw_lt ha
      have pc := pw_lt hc
      refine ⟨_, rfl, ?_⟩
      obtain ⟨B, hB⟩ : ∃ B, B = pw a + pw c := ⟨_, rfl⟩
      have eb : ((pw a : Int) + (pw c : Int)) = (B : Nat) := by omega
      have pa0 := pw_pos a
      have ea := iop_shl1 a (by omega)
      have ec := iop_shl1 c (by omega)
      have h2 : iop .shl 2 (c : Int) = some ((shl 2 c : Nat) : Int) := iop_shl 2 c (by omega) (by omega)
      by_cases h1 : y &&& B = B
      · have hle := and_le h1
        obtain ⟨Z, hZ⟩ : ∃ Z, Z = y - B := ⟨_, rfl⟩
        have e3 : (y : Int) - (B : Int) = (Z : Nat) := by omega
        have e4 : ((List.range y).map fun x => D.bl (p x))[Z]? = some (.bl (p Z)) := rng_at (by omega)
        by_cases h3 : y < shl 2 c
        · cases h4 : p Z with
          | true =>
            rw [h4] at e4
            refine .of (by simp [pD, ea, ec, eb, h1, h2, h3, e3, e4] <;> first | rfl | exact ⟨rfl, rfl⟩) ?_
            exact ⟨true, _, _, rfl, rfl⟩
          | false =>
            rw [h4] at e4
            refine .of (by simp [pD, ea, ec, eb, h1, h2, h3, e3, e4] <;> first | rfl | exact ⟨rfl, rfl⟩) ?_
            exact ⟨q, _, _, rfl, rfl⟩
        · refine .of (by simp [pD, ea, ec, eb, h1, h2, h3] <;> first | rfl | exact ⟨rfl, rfl⟩) ?_
          exact ⟨q, _, _, rfl, rfl⟩
      · have h1' : ¬ (((y &&& B : Nat) : Int) = (B : Int)) := by omega
        refine .of (by simp [pD, ea, ec, eb, h1, h1'] <;> first | rfl | exact ⟨rfl, rfl⟩) ?_
        exact ⟨q, _, _, rfl, rfl⟩
    · rintro env S0 ⟨q, l, b, rfl, rfl⟩
      have hlen : y < LL := lt_LL (by omega)
      refine .of (by simp [hlen] <;> first | rfl | exact ⟨rfl, rfl⟩) ?_
      refine ⟨fun x => if x = y then q else p x, _, _, _, _, ?_, rfl⟩
      rw [← Nat.add_assoc, ← hy, List.range_succ, List.map_append]
      congr 4
      · refine List.map_congr_left fun x hx => ?_
        have := List.mem_range.mp hx
        have hne : ¬ x = y := by omega
        simp [hne]
      · simp
  · rintro env S0 ⟨p, t, g, l, b, rfl, rfl⟩
    refine ⟨p, ?_⟩
    have e : 1 + ((List.range (pw k - 1)).map fun (i : Nat) => D.int ((1 + i : Nat) : Int)).length = pw k := by
      rw [List.length_map, List.length_range]; omega
    rw [e]
    simp [run_listed n (pw k) p hp]
end K07
namespace K07
open G
theorem lowmask (k : Nat) (hk : k ≤ 20) (x : Nat) : iop .and (x : Int) ((pw k : Int) - 1) = some ((x &&& (pw k - 1) : Nat) : Int) := by
  have := pw_pos k
  have e : (pw k : Int) - 1 = ((pw k - 1 : Nat) : Int) := by omega
  rw [e, iop_and]
theorem lowmask_lt (k x : Nat) : x &&& (pw k - 1) < pw k := by
  have := pw_pos k
  exact Nat.lt_of_le_of_lt Nat.and_le_right (by omega)
theorem sizedE (n k : Nat) (lo hi : Int) (hk : k ≤ 10) (S : Sto) : ∃ rs, Msk k rs ∧ run P T (n + 2) n__law_sized [.d (.int k), .d (.int lo), .d (.int hi)] S = .ok (.f (.lst (dN rs))) S := ⟨_, Msk.filt k _, run_sized n k lo hi hk S⟩
theorem run_made (n k : Nat) (h1 : 1 ≤ k) (hk : k ≤ 10) (ds : List Int) (R : Sto) : ∃ ms ds', Msk k ms ∧ run P T (n + 3) n__law_made [.r 0, .d (.int k)] (.lst (dI ds) :: R) = .ok (.d (.lst (dN ms))) (.lst (dI ds') :: R) := by
  have h2L : 2 ≤ LL := le_LL (by omega)
  obtain ⟨w, ds1, hw, e1⟩ := run_take (n + 1) 6 (by decide) ds R
  rw [run_of t__law_made rfl]
  by_cases hz : w = 0 ∨ w = 3
  · obtain ⟨lo, ds2, hlo, e2⟩ := run_take (n + 1) ((k : Int) + 1) (by omega) ds1 R
    obtain ⟨v, ds3, hv, e3⟩ := run_take (n + 1) ((k : Int) + 1 - lo) (by omega) ds2 R
    obtain ⟨rs, hr, e4⟩ := sizedE n k lo ((lo : Int) + v) hk (.lst (dI ds3) :: R)
    rcases hz with rfl | rfl
    · exact ⟨rs, ds3, hr, by simp [f__law_made, env0, e1, e2, e3, e4]⟩
    · obtain ⟨v, ds4, hv, e5⟩ := run_take (n + 1) 24 (by decide) ds3 R
      obtain ⟨q, hq⟩ : ∃ q, q = v &&& (pw k - 1) := ⟨_, rfl⟩
      have e6 := lowmask k (by omega) v
      rw [← hq] at e6
      have hql : q < pw k := hq ▸ lowmask_lt k v
      obtain ⟨rs2, hr2, e7⟩ := run_joined n k rs [0, q] hk hr.lt (fun m h => by
        rcases List.mem_cons.mp h with rfl | h
        · exact pw_pos k
        · rw [List.mem_singleton.mp h]; exact hql) (.lst (dI ds4) :: R)
      have e8 : dN [0, q] = [.int 0, .int (q : Nat)] := rfl
      rw [e8] at e7
      exact ⟨rs2, ds4, hr2, by simp [f__law_made, env0, e1, e2, e3, e4, e5, iop_shl1 k (by omega), e6, h2L, e7]⟩
  · obtain ⟨ls, ds2, hl, e2⟩ := run_web n k hk ds1 R
    obtain ⟨rs, hr, e3⟩ := run_paired n k ls hk hl (.lst (dI ds2) :: R)
    have w0 : ¬ ((w : Int) = 0) := by omega
    have w3 : ¬ ((w : Int) = 3) := by omega
    have w0' : ¬ w = 0 := by omega
    have w3' : ¬ w = 3 := by omega
    by_cases h4 : 4 ≤ w
    · have w4 : (4 : Int) ≤ w := by omega
      obtain ⟨lo, ds3, hlo, e4⟩ := run_take (n + 1) 2 (by decide) ds2 R
      obtain ⟨os, ho, e5⟩ := sizedE n k lo 1 hk (.lst (dI ds3) :: R)
      obtain ⟨rs2, hr2, e6⟩ := run_joined n k rs os hk hr.lt ho.lt (.lst (dI ds3) :: R)
      exact ⟨rs2, ds3, hr2, by simp [f__law_made, env0, e1, w0, w3, w0', w3', e2, e3, w4, h4, e4, e5, e6]⟩
    · have w4 : ¬ (4 : Int) ≤ w := by omega
      exact ⟨rs, ds2, hr, by simp [f__law_made, env0, e1, w0, w3, w0', w3', e2, e3, w4, h4]⟩
theorem iop_mulL (i j : Int) (h : small i = true) : iop .mul i j = some (i * j) := by
  show (if (small i || small j) = true then some (i * j) else none) = _
  rw [h, Bool.true_or, if_pos rfl]
/-- two draws, one number within a size -/
theorem draw2 (n k : Nat) (hk : k ≤ 10) (ds : List Int) (R : Sto) : ∃ (x y z q : Nat) (ds1 ds2 : List Int), q < pw k ∧ run P T (n + 1) n__law_take [.r 0, .d (.int 24)] (.lst (dI ds) :: R) = .ok (.d (.int x)) (.lst (dI ds1) :: R) ∧
    run P T (n + 1) n__law_take [.r 0, .d (.int 3)] (.lst (dI ds1) :: R) = .ok (.d (.int y)) (.lst (dI ds2) :: R) ∧ iop .mul 24 (y : Int) = some (24 * (y : Int)) ∧ (x : Int) + 24 * (y : Int) = (z : Nat) ∧ iop .and (z : Int) ((pw k : Int) - 1) = some (q : Nat) := by
  obtain ⟨x, ds1, hx, e1⟩ := run_take n 24 (by decide) ds R
  obtain ⟨y, ds2, hy, e2⟩ := run_take n 3 (by decide) ds1 R
  exact ⟨x, y, x + 24 * y, (x + 24 * y) &&& (pw k - 1), ds1, ds2, lowmask_lt k _, e1, e2, iop_mulL _ _ (by decide), by omega, lowmask k (by omega) _⟩
def FamInv (most k w : Nat) (m : D) (R : Sto) (_ : Nat) (env : Frm) (S0 : Sto) : Prop := ∃ (p : Nat → Bool) (ds : List Int) (c d : Option Va), S0 = .lst (dI ds) :: (R ++ [.lst ((List.range (pw k)).map fun x => .bl (p x))]) ∧
  env = [some (.r 0), some (.d (.int most)), some (.d (.int k)), some (.d (.int w)), some (.d m), some (.r (R.length + 1)), c, d, none]
def FamEnd (k : Nat) (R : Sto) (r : G.R Va) : Prop := ∃ ms ds', Msk k ms ∧ ms ≠ [] ∧ r = .ok (.f (.lst [.int k, .lst (dN ms)])) (.lst (dI ds') :: R)
theorem fam_tail (n most k w : Nat) (hk : k ≤ 10) (ms : List Nat) (hm : Msk k ms) (ds : List Int) (u c d : Option Va) (R : Sto) : ∃ ms' ds' env, Msk k ms' ∧ ms' ≠ [] ∧
    exSs (f__law_family.body.drop 5) ⟨P, run P T (n + 3), none⟩ [some (.r 0), some (.d (.int most)), some (.d (.int k)), some (.d (.int w)), some (.d (.lst (dN ms))), u, c, d, none] (.lst (dI ds) :: R) = .ok (.rt (.f (.lst [.int k, .lst (dN ms')]))) env (.lst (dI ds') :: R) := by
  have h2L : 2 ≤ LL := le_LL (by omega)
  have h1L : 1 ≤ LL := le_LL (by omega)
  obtain ⟨x, y, z, q, ds1, ds2, hq, e1, e2, e3, e4, e5⟩ := draw2 (n + 2) k hk ds R
  have hp : pw k ≤ 1024 := pw_le (b := 10) hk
  have hl := hm.len
  have e6 := run_turned (n + 2) ms q (by omega) (.lst (dI ds2) :: R)
  have ht := hm.turn hq
  by_cases he : srtN (ms.map fun m => m ^^^ q) = []
  · rw [he] at e6
    refine ⟨[q], ds2, [some (.r 0), some (.d (.int most)), some (.d (.int k)), some (.d (.int w)), some (.d (.lst [.int (q : Nat)])), u, c, d, some (.d (.int q))], ⟨by simp, fun m h => by rw [List.mem_singleton.mp h]; exact hq⟩, by simp, ?_⟩
    simp [f__law_family, e1, e2, e3, e4, iop_shl1 k (by omega), e5, e6, h1L, h2L]
  · refine ⟨srtN (ms.map fun m => m ^^^ q), ds2, [some (.r 0), some (.d (.int most)), some (.d (.int k)), some (.d (.int w)), some (.d (.lst (dN (srtN (ms.map fun m => m ^^^ q))))), u, c, d, some (.d (.int q))], ht, he, ?_⟩
    generalize srtN (ms.map fun m => m ^^^ q) = ts at he e6
    simp [f__law_family, e1, e2, e3, e4, iop_shl1 k (by omega), e5, e6, h1L, h2L, he]
/-- a family's masks as the law draws them: a size, masks, none twice -/
theorem run_law_family (n : Nat) (most : Nat) (h1 : 1 ≤ most) (h2 : most ≤ 6) (ds : List Int) (R : Sto) : ∃ k, 1 ≤ k ∧ k ≤ most ∧ FamEnd k R (run P T (n + 4) n__law_family [.r 0, .d (.int most)] (.lst (dI ds) :: R)) := by
  have h8L : 8 ≤ LL := le_LL (by omega)
  have h2L : 2 ≤ LL := le_LL (by omega)
  have h1L : 1 ≤ LL := le_LL (by omega)
  obtain ⟨v, ds1, hv, e1⟩ := run_take (n + 2) 8 (by decide) ds R
  obtain ⟨z, hz, ez⟩ : ∃ z : Nat, 1 ≤ z ∧ ([D.int 2, .int 1, .int 3, .int 2, .int 4, .int 3, .int 0, .int 5] : List D)[v]? = some (.int ((z - 1 : Nat) : Int)) := by
    have : v < 8 := by omega
    match v, this with
    | 0, _ => exact ⟨3, by omega, rfl⟩
    | 1, _ => exact ⟨2, by omega, rfl⟩
    | 2, _ => exact ⟨4, by omega, rfl⟩
    | 3, _ => exact ⟨3, by omega, rfl⟩
    | 4, _ => exact ⟨5, by omega, rfl⟩
    | 5, _ => exact ⟨4, by omega, rfl⟩
    | 6, _ => exact ⟨1, by omega, rfl⟩
    | 7, _ => exact ⟨6, by omega, rfl⟩
  obtain ⟨y, hy⟩ : ∃ y : Nat, y = z - 1 := ⟨_, rfl⟩
  rw [← hy] at ez
  obtain ⟨k, hk⟩ : ∃ k, k = min z most := ⟨_, rfl⟩
  have ez2 : (1 : Int) + (y : Int) = (z : Nat) := by omega
  have ek : (if (most : Int) < z then (most : Int) else z) = (k : Nat) := by split <;> omega
  have ek2 : ∀ cf S, biV cf .min [.d (.int z), .d (.int most)] S = .ok (.d (.int k)) S := fun cf S => by rw [bi_min2, ek]
  have hk1 : 1 ≤ k := by omega
  have hk2 : k ≤ 10 := by omega
  refine ⟨k, hk1, by omega, ?_⟩
  obtain ⟨w, ds2, hw, e2⟩ := run_take (n + 2) 6 (by decide) ds1 R
  obtain ⟨ms, ds3, hm, e3⟩ := run_made n k hk1 hk2 ds2 R
  rw [run_of t__law_family rfl]
  by_cases h4 : 4 ≤ w
  · have w4 : (4 : Int) ≤ w := by omega
    have e4 := run_inside (n + 2) k ms hk2 hm.lt (.lst (dI ds3) :: R)
    obtain ⟨c, hc⟩ : ∃ c : Nat, c = 1 + (w - 4) * 3 := ⟨_, rfl⟩
    have ec : (1 : Int) + ((w : Int) - 4) * 3 = (c : Nat) := by omega
    have hp : pw k ≤ 1024 := pw_le (b := 10) hk2
    simp [-bi_min2, f__law_family, env0, e1, h8L, ez, ez2, ek2, e2, e3, w4, h4, e4]
    refine for_turn (C := fun r => FamEnd k R (fin _ (andThen r _ _))) (S1 := .lst (dI ds3) :: (R ++ [.lst (insL k ms)])) (xs := (List.range c).map fun (i : Nat) => D.int i) (evI_rng1 (by simp [iop_mulR, small_lit, ec]) (by omega))
      (FamInv most k w (.lst (dN ms)) R) ⟨fun x => decide (x ∈ ms), ds3, none, none, rfl, rfl⟩ ?_ ?_
    · rintro i yy env S0 hyy ⟨p, ds, a, b, rfl, rfl⟩
      obtain ⟨j, hj, rfl⟩ := map_at hyy
      refine ⟨_, rfl, ?_⟩
      obtain ⟨x, y, z, q, ds1, ds2, hq, f1, f2, f3, f4, f5⟩ := draw2 (n + 2) k hk2 ds (R ++ [.lst ((List.range (pw k)).map fun x => .bl (p x))])
      refine .of (by simp [f1, f2, f3, f4, f5, iop_shl1 k (by omega), rng_at hq, hq, set_range hq] <;> first | rfl | exact ⟨rfl, rfl⟩) ?_
      refine ⟨fun x => if x = q then !p q else p x, ds2, _, _, ?_, rfl⟩
      congr 4
      refine List.map_congr_left fun x _ => ?_
      by_cases h : x = q <;> simp [h]
    · rintro env S0 ⟨p, ds, a, b, rfl, rfl⟩
      have f1 := run_listed (n + 2) (pw k) p hp (.lst (dI ds) :: (R ++ [.dead]))
      obtain ⟨ms2, ds4, env, hm2, hn, e⟩ := fam_tail n most k w hk2 _ (Msk.filt k p) ds (some (.d (.lst ((List.range (pw k)).map fun x => .bl (p x))))) a b (R ++ [.dead])
      simp only [f__law_family, List.drop] at e
      refine ⟨ms2, ds4, hm2, hn, ?_⟩
      simp at e
      simp [f1]
      rw [e]
      simp
  · have w4 : ¬ (4 : Int) ≤ w := by omega
    obtain ⟨ms2, ds4, env, hm2, hn, e⟩ := fam_tail n most k w hk2 ms hm ds3 none none none R
    simp only [f__law_family, List.drop] at e
    refine ⟨ms2, ds4, hm2, hn, ?_⟩
    have h5 : exSs f__law_family.body ⟨P, run P T (n + 3), none⟩ (env0 f__law_family [.r 0, .d (.int most)]) (.lst (dI ds) :: R) = exSs (f__law_family.body.drop 5) ⟨P, run P T (n + 3), none⟩ [some (.r 0), some (.d (.int most)), some (.d (.int k)), some (.d (.int w)), some (.d (.lst (dN ms))), none, none, none, none] (.lst (dI ds3) :: R) := by
      simp [-bi_min2, f__law_family, env0, e1, h8L, ez, ez2, ek2, e2, e3, w4, h4]
    rw [h5]
    simp only [f__law_family, List.drop]
    rw [e]
    simp
end K07
namespace K07
open G
theorem lt10 {k m : Nat} (hk : k ≤ 10) (h : m < pw k) : m < 1024 := Nat.lt_of_lt_of_le h (pw_le (b := 10) hk)
theorem rev_l (xs : List D) (S : Sto) : revV (.d (.lst xs)) S = .ok (.f (.lst xs.reverse)) S := rfl
theorem rev_t (xs : List D) (S : Sto) : revV (.d (.tup xs)) S = .ok (.d (.tup xs.reverse)) S := rfl
theorem dN_rev (l : List Nat) : (dN l).reverse = dN l.reverse := by simp [dN]
theorem pw_or (m t u : Nat) : (m ||| pw t).testBit u = (m.testBit u || decide (t = u)) := by
  rw [Nat.testBit_or, bit_pw]
theorem run_partner (n k a t : Nat) (L : List Nat) (hk : k ≤ 10) (ha : a < pw k) (ht : t < k) {v : Va} {S : Sto} (hv : Fm v S k L) :
    run P T (n + 1) n__partner_mask [v, .d (.int a), .d (.int t)] S = .ok (.d (.int (pmN k L a t : Nat))) S := by
  have hs := xor_lt ha (pw_lt ht)
  have e0 : (insL k L)[a ^^^ pw t]? = some (.bl (decide (a ^^^ pw t ∈ L))) := rng_at hs
  rw [run_of t__partner_mask rfl]
  obtain ⟨m0, hm0, em0⟩ : ∃ m0 : Nat, (∀ u, m0.testBit u = true ↔ u = t ∧ a ^^^ pw t ∈ L) ∧ evE (.ife (.idx (.fld (.var 0) 3) (.var 3)) (.bin .shl (.con (.int 1)) (.var 2)) (.con (.int 0))) ⟨P, run P T n, none⟩ [some v, some (.d (.int a)), some (.d (.int t)), some (.d (.int (a ^^^ pw t : Nat))), none, none] S = .ok (.d (.int m0)) S := by
    by_cases h : a ^^^ pw t ∈ L
    · refine ⟨pw t, fun u => ?_, by simp [hv.stl, fx_inside hv, e0, h, iop_shl1 t (by omega)]⟩
      rw [bit_pw, decide_eq_true_eq]
      exact ⟨fun e => ⟨e.symm, h⟩, fun e => e.1.symm⟩
    · refine ⟨0, fun u => ?_, by simp [hv.stl, fx_inside hv, e0, h]⟩
      rw [Nat.zero_testBit]
      exact ⟨fun e => Bool.noConfusion e, fun e => (h e.2).elim⟩
  simp [f__partner_mask, env0, -e_ife, iop_shl1 t (by omega), em0]
  refine for_turn (C := fun r => fin _ r = _) (S1 := S) (xs := (List.range k).map fun (i : Nat) => D.int i) (evI_rng1 (by simp [hv.stl, fx_size hv]) (by omega))
    (fun i env S0 => S0 = S ∧ ∃ (m : Nat) (o : Option Va), env = [some v, some (.d (.int a)), some (.d (.int t)), some (.d (.int (a ^^^ pw t : Nat))), some (.d (.int m)), o] ∧ ∀ u, m.testBit u = true ↔ (u = t ∧ a ^^^ pw t ∈ L) ∨ (u < i ∧ u ≠ t ∧ a ^^^ pw t ^^^ pw u ∈ L)) ⟨rfl, m0, none, rfl, fun u => by rw [hm0 u]; simp⟩ ?_ ?_
  · rintro i y env S0 hy ⟨rfl, m, o, rfl, hb⟩
    obtain ⟨j, hj, rfl⟩ := map_at hy
    obtain ⟨rfl, hi⟩ := range_at hj
    have hx := xor_lt hs (pw_lt hi)
    have e1 : (insL k L)[a ^^^ pw t ^^^ pw j]? = some (.bl (decide (a ^^^ pw t ^^^ pw j ∈ L))) := rng_at hx
    have ej := iop_shl1 j (by omega)
    refine ⟨_, rfl, ?_⟩
    by_cases hjt : j = t
    · subst hjt
      refine .of (by simp <;> first | rfl | exact ⟨rfl, rfl⟩) ⟨rfl, m, _, rfl, fun u => ?_⟩
      rw [hb u]
      refine or_congr Iff.rfl ⟨fun ⟨h1, h2⟩ => ⟨by omega, h2⟩, fun ⟨h1, h2, h3⟩ => ⟨by omega, h2, h3⟩⟩
    · have hjt' : ¬ (j : Int) = t := by omega
      by_cases hin : a ^^^ pw t ^^^ pw j ∈ L
      · refine .of (by simp [hjt, hjt', hv.stl, fx_inside hv, e1, hin, ej] <;> first | rfl | exact ⟨rfl, rfl⟩) ⟨rfl, m ||| pw j, _, rfl, fun u => ?_⟩
        rw [pw_or, Bool.or_eq_true, hb u, decide_eq_true_eq]
        constructor
        · rintro ((h | ⟨h1, h2, h3⟩) | h)
          · exact .inl h
          · exact .inr ⟨by omega, h2, h3⟩
          · subst h
            exact .inr ⟨by omega, hjt, hin⟩
        · rintro (h | ⟨h1, h2, h3⟩)
          · exact .inl (.inl h)
          · by_cases e : j = u
            · exact .inr e
            · exact .inl (.inr ⟨by omega, h2, h3⟩)
      · refine .of (by simp [hjt, hjt', hv.stl, fx_inside hv, e1, hin, ej] <;> first | rfl | exact ⟨rfl, rfl⟩) ⟨rfl, m, _, rfl, fun u => ?_⟩
        rw [hb u]
        refine or_congr Iff.rfl ⟨fun ⟨h1, h2⟩ => ⟨by omega, h2⟩, fun ⟨h1, h2, h3⟩ => ⟨?_, h2, h3⟩⟩
        rcases Nat.lt_or_ge u j with q | q
        · exact q
        · have : u = j := by omega
          subst this
          exact (hin h3).elim
  · rintro env S0 ⟨rfl, m, o, rfl, hb⟩
    have : m = pmN k L a t := by
      apply Nat.eq_of_testBit_eq
      intro u
      apply Bool.eq_iff_iff.mpr
      rw [hb u, pm_bit]
      simp only [List.length_map, List.length_range]
      by_cases e : u = t
      · subst e
        simp [ht]
      · simp [e]
    simp [this]
theorem idxR {f : Nat → Nat} {k t : Nat} (h : t < k) (S : Sto) : idxV (.d (.lst ((List.range k).map fun u => D.int (f u : Nat)))) (.d (.int (t : Nat))) S = .ok (.d (.int (f t : Nat))) S := by
  rw [idx_l, ati_nat, rng_at h]; rfl
theorem take_all (S : Sto) (l : Nat) (c : Ce) : (S.set l c).take S.length = S.set l c := List.take_of_length_le (by simp)
theorem put6 (k : Nat) (L : List Nat) (s : Bool) (f x : D) : putFl 6 x (famX k L s f) = famX k L s x := by
  simp [famX, putFl, fl_size, fl_lots, fl__numbers, fl__inside, fl__depths, fl__searched, fl__first]
theorem put5 (k : Nat) (L : List Nat) (s t : Bool) (f : D) : putFl 5 (.bl t) (famX k L s f) = famX k L t f := by
  simp [famX, putFl, fl_size, fl_lots, fl__numbers, fl__inside, fl__depths, fl__searched, fl__first]
theorem famX_len (k : Nat) (L : List Nat) (s : Bool) (f : D) : (famX k L s f).length = 7 := rfl
theorem fx_5 {S : Sto} {l k : Nat} {L : List Nat} {s : Bool} {f : D} (h : S[l]? = some (.ins 0 (famX k L s f))) : fldV P (.r l) 5 S = .ok (.d (.bl s)) S := by
  simp [fldV, h, famX, List.lookup, fl_size, fl_lots, fl__numbers, fl__inside, fl__depths, fl__searched, fl__first]
theorem fx_6 {S : Sto} {l k : Nat} {L : List Nat} {s : Bool} {f : D} (h : S[l]? = some (.ins 0 (famX k L s f))) : fldV P (.r l) 6 S = .ok (.d f) S := by
  simp [fldV, h, famX, List.lookup, fl_size, fl_lots, fl__numbers, fl__inside, fl__depths, fl__searched, fl__first]
theorem sum_all : ((List.range 1024).all fun m => ((lotN m).map pw).sum == m) = true := by decide +kernel
theorem sum_lot {m : Nat} (h : m < 1024) : ((lotN m).map pw).sum = m := by
  have := sum_all
  rw [List.all_eq_true] at this
  exact eq_of_beq (this m (List.mem_range.mpr h))
theorem run_law_number (n m : Nat) (h : m < 1024) (S : Sto) : run P T (n + 1) n__law_number [.d (lotD m)] S = .ok (.d (.int m)) S := by
  rw [run_of t__law_number rfl]
  simp only [f__law_number, env0]
  simp [lotD]
  refine for_turn (C := fun r => fin _ r = _) (S1 := S) (xs := dN (lotN m)) (by simp)
    (fun i env S0 => S0 = S ∧ ∃ t, env = [some (.d (.tup (dN (lotN m)))), some (.d (.int ((((lotN m).take i).map pw).sum : Nat))), t]) ⟨rfl, none, rfl⟩ ?_ ?_
  · rintro i y env S0 hy ⟨rfl, t, rfl⟩
    obtain ⟨u, eu, rfl⟩ := dN_at hy
    have hu := (lotN_mem.mp (List.mem_of_getElem? eu)).1
    refine ⟨_, rfl, ?_⟩
    rw [y_aug (a := ((((lotN m).take i).map pw).sum : Nat)) rfl]
    refine .of (by
      simp [iop_shl1 u (by omega)]
      first | rfl | exact ⟨rfl, rfl⟩) ⟨rfl, some (.d (.int u)), ?_⟩
    rw [take_succ eu]
    simp
  · rintro env S0 ⟨rfl, t, rfl⟩
    simp [sum_lot h]
theorem lot_ok {k m : Nat} (h : m < pw k) : LotOk k (lotN m) := ⟨lotN_nodup m, fun t ht => lotN_lt h ht⟩
theorem lot_ok_rev {k m : Nat} (h : m < pw k) : LotOk k (lotN m).reverse := ⟨List.pairwise_reverse.mpr ((lotN_nodup m).imp Ne.symm), fun t ht => lotN_lt h (List.mem_reverse.mp ht)⟩
theorem lotN_num_rev {m : Nat} (h : m < 2 ^ 12) : numOf (lotN m).reverse = m := numOf_eq fun t => by
  rw [List.mem_reverse, lotN_mem]
  exact ⟨fun q => q.2, fun q => ⟨bit_lt h q, q⟩⟩
theorem rev_lot (m : Nat) (S : Sto) : revV (.d (lotD m)) S = .ok (.d (.tup (dN (lotN m).reverse))) S := by
  unfold lotD
  rw [rev_t, dN_rev]
/-- one turn's end, or the loop's -/
def TurnR (r : RS) (Q : Frm → Sto → Prop) (D : Va → Frm → Sto → Prop) : Prop := (∃ env' S', (r = .ok .nx env' S' ∨ r = .ok .ct env' S') ∧ Q env' S') ∨ ∃ v env' S', r = .ok (.rt v) env' S' ∧ D v env' S'
theorem isV_s (s : PySem.Str) (ts : List Ty) (S : Sto) : isV P (.d (.str s)) ts S = .ok (.d (.bl (ts.any fun t => tyD (.str s) t P))) S := rfl
theorem isV_n (ts : List Ty) (S : Sto) : isV P (.d .non) ts S = .ok (.d (.bl (ts.any fun t => tyD .non t P))) S := rfl
@[simp] theorem e_xf (f : Nat) (cf : Cfg) (env : Frm) (S : Sto) : evE (.xf f) cf env S = (match cf.xc with
    | some (c, fs) => (match cf.P.xfl c with
      | some ns => R.ofO ((ns.zip fs).lookup f) S
      | none => .bad)
    | none => .bad) := by rw [evE] <;> rfl
@[simp] theorem e_xi (k : Nat) (cf : Cfg) (env : Frm) (S : Sto) : evE (.xi k) cf env S = (match cf.xc with
    | some (c, _) => .ok (.d (.bl (cf.P.sup c k))) S
    | none => .bad) := by rw [evE] <;> rfl
@[simp] theorem ownK_i (i : Nat) (env : Frm) (cf : Cfg) (ss : List Sm) (c : Nat) (fs : List (Nat × D)) (S : Sto) : ownK i env cf ss (.f (.ins c fs)) S = exSs ss cf (env.set i (some (.r S.length))) (S ++ [.ins c fs]) := rfl
end K07
namespace K07
open G
/-- an entry that is no thing of a size -/
def BadE (k : Nat) (e : D) : Prop := flatD e = true ∧ ((∃ i : Int, e = .int i ∧ (i < 0 ∨ (k : Int) ≤ i)) ∨ ((∀ n S, run P T (n + 1) n_is_int [.d e] S = .ok (.d (.bl false)) S)))
theorem isint_b (b : Bool) (n : Nat) (S : Sto) : run P T (n + 1) n_is_int [.d (.bl b)] S = .ok (.d (.bl false)) S := by
  rw [run_of t_is_int rfl]
  simp [f_is_int, env0, tyD]
theorem isint_s (s : PySem.Str) (n : Nat) (S : Sto) : run P T (n + 1) n_is_int [.d (.str s)] S = .ok (.d (.bl false)) S := by
  rw [run_of t_is_int rfl]
  simp [f_is_int, env0, tyD, isV_s]
theorem isint_n (n : Nat) (S : Sto) : run P T (n + 1) n_is_int [.d .non] S = .ok (.d (.bl false)) S := by
  rw [run_of t_is_int rfl]
  simp [f_is_int, env0, tyD, isV_n]
theorem isint_t (xs : List D) (n : Nat) (S : Sto) : run P T (n + 1) n_is_int [.d (.tup xs)] S = .ok (.d (.bl false)) S := by
  rw [run_of t_is_int rfl]
  simp [f_is_int, env0, tyD]
theorem bad_i {k : Nat} {i : Int} (h : i < 0 ∨ (k : Int) ≤ i) : BadE k (.int i) := ⟨rfl, .inl ⟨i, rfl, h⟩⟩
theorem bad_b {k : Nat} (b : Bool) : BadE k (.bl b) := ⟨rfl, .inr (isint_b b)⟩
theorem bad_s {k : Nat} (s : PySem.Str) : BadE k (.str s) := ⟨rfl, .inr (isint_s s)⟩
theorem bad_n {k : Nat} : BadE k .non := ⟨rfl, .inr isint_n⟩
/-- a row given as a tuple or a list -/
def Seq (x : D) (xs : List D) : Prop := x = .tup xs ∨ x = .lst xs
theorem Seq.isi {x : D} {xs : List D} (h : Seq x xs) (S : Sto) : isV P (.d x) [.tuple, .list] S = .ok (.d (.bl true)) S := by rcases h with rfl | rfl <;> simp
theorem Seq.len {x : D} {xs : List D} (h : Seq x xs) (cf : Cfg) (S : Sto) : biV cf .len [.d x] S = .ok (.d (.int xs.length)) S := by rcases h with rfl | rfl <;> simp
theorem Seq.idx {x : D} {xs : List D} (h : Seq x xs) (i : Nat) (S : Sto) : idxV (.d x) (.d (.int i)) S = R.ofO xs[i]? S := by rcases h with rfl | rfl <;> simp
theorem Seq.src {x : D} {xs : List D} (h : Seq x xs) (S : Sto) : srcV (.d x) S = .ok (.fix xs) S := by rcases h with rfl | rfl <;> rfl
theorem cut_pre {xs : List D} {i : Nat} (h : i < xs.length) : cut xs none (some (i : Int)) = xs.take i := by
  have c1 : clip xs.length xs.length (some (i : Int)) = i := by
    show (if (i : Int) < 0 then ((i : Int) + (xs.length : Nat)).toNat else min (i : Int).toNat xs.length) = i
    rw [if_neg (by omega)]
    omega
  unfold cut
  rw [c1]
  simp [clip]
theorem Seq.slc {x : D} {xs : List D} (h : Seq x xs) {i : Nat} (hi : i < xs.length) (S : Sto) : ∃ y, stl (slcV (.d x) none (some (i : Int)) S) = .ok (.d y) S ∧ Seq y (xs.take i) := by
  rcases h with rfl | rfl
  · refine ⟨.tup (xs.take i), ?_, .inl rfl⟩
    have c1 : clip xs.length xs.length (some (i : Int)) = i := by
      show (if (i : Int) < 0 then ((i : Int) + (xs.length : Nat)).toNat else min (i : Int).toNat xs.length) = i
      rw [if_neg (by omega)]
      omega
    show stl (if clip xs.length 0 none = 0 ∧ clip xs.length xs.length (some (i : Int)) = xs.length then R.bad else R.ok (Va.d (D.tup (cut xs none (some (i : Int))))) S) = _
    rw [if_neg (by rw [c1]; omega), cut_pre hi]
    rfl
  · refine ⟨.lst (xs.take i), ?_, .inr rfl⟩
    show stl (.ok (.f (.lst (cut xs none (some (i : Int))))) S) = _
    rw [cut_pre hi]
    rfl
theorem flat_dN (l : List Nat) : (dN l).all flatD = true := by
  rw [List.all_eq_true]
  intro y hy
  obtain ⟨z, _, rfl⟩ := List.mem_map.mp hy
  rfl
theorem in_seq {y : D} {l : List Nat} (h : Seq y (dN l)) {e : D} (he : flatD e = true) (cf : Cfg) (S : Sto) : cmpV cf .in_ (.d e) (.d y) S = .ok (.d (.bl ((dN l).any fun y => eqD y e))) S := by
  show inV false (.d e) (.d y) S = _
  have e1 : ∃ b, seqV (.d y) S = some (b, dN l) := by rcases h with rfl | rfl <;> exact ⟨_, rfl⟩
  obtain ⟨b, e1⟩ := e1
  simp only [inV, e1, he, flat_dN]
  rfl
theorem any_nat (l : List Nat) (x : Nat) : ((dN l).any fun y => eqD y (.int x)) = decide (x ∈ l) := by
  by_cases h : x ∈ l
  · rw [decide_eq_true h, List.any_eq_true]
    exact ⟨.int x, List.mem_map.mpr ⟨x, h, rfl⟩, by rw [eqD_ii]; simp⟩
  · rw [decide_eq_false h, List.any_eq_false]
    intro y hy
    obtain ⟨z, hz, rfl⟩ := List.mem_map.mp hy
    rw [eqD_ii]
    have : z ≠ x := fun e => h (e ▸ hz)
    simp [this]
/-- how far a row is one of things: at the first wrong entry -/
structure Wrong (k : Nat) (xs : List D) (l : List Nat) (e : D) : Prop where
  ok : LotOk k l
  at_ : ∃ rest, xs = dN l ++ e :: rest
  bad : BadE k e ∨ ∃ t ∈ l, e = .int (t : Nat) ∧ t < k
theorem lot_len {k : Nat} {l : List Nat} (ok : LotOk k l) : l.length ≤ k := by
  have := ok.nd.length_le_of_subset (l₂ := List.range k) (fun m h => List.mem_range.mpr (ok.lt m h))
  rwa [List.length_range] at this
def WInv (x : D) (k : Nat) (S : Sto) (_ : Nat) (env : Frm) (S0 : Sto) : Prop := S0 = S ∧ ∃ t u, env = [some (.d x), some (.d (.int k)), t, u]
theorem wp_step (n k : Nat) (x : D) (xs : List D) (hx : Seq x xs) (l : List Nat) (ok : LotOk k l) (j : Nat) (hj : j < l.length) (hxl : ∃ r, xs = dN l ++ r) (t u : Option Va) (S : Sto) :
    exSs [.asg (.nm 3) (.idx (.var 0) (.var 2)), .ite (.or (.not (.call n_is_int [.var 3])) (.or (.cmp .lt (.var 3) (.con (.int 0))) (.and (.cmp .isn (.var 1) (.con .non)) (.cmp .ge (.var 3) (.var 1))))) [.ret (.var 2)] [], .ite (.cmp .in_ (.var 3) (.slc (.var 0) (.con .non) (.var 2))) [.ret (.var 2)] []] ⟨P, run P T (n + 1), none⟩ [some (.d x), some (.d (.int k)), some (.d (.int j)), u] S
      = .ok .nx [some (.d x), some (.d (.int k)), some (.d (.int j)), some (.d (.int (l.getD j 0 : Nat)))] S := by
  obtain ⟨r, rfl⟩ := hxl
  obtain ⟨m, em⟩ : ∃ m, l[j]? = some m := ⟨_, List.getElem?_eq_getElem hj⟩
  have hm := ok.lt m (List.mem_of_getElem? em)
  have e1 : ¬ ((m : Int) < 0) := by omega
  have e2 : ¬ ((k : Int) ≤ m) := by omega
  have e2' : ¬ k ≤ m := by omega
  have e3 : (dN l ++ r)[j]? = some (.int (m : Nat)) := by rw [List.getElem?_append_left (by rw [dN_length]; exact hj), dN_get, em]; rfl
  obtain ⟨y, s1, s2⟩ := hx.slc (i := j) (by rw [List.length_append, dN_length]; omega) S
  have e4 : (dN l ++ r).take j = dN (l.take j) := by
    rw [List.take_append_of_le_length (by rw [dN_length]; omega)]
    simp [dN, List.map_take]
  rw [e4] at s2
  have e5 := fun cf => in_seq s2 (e := .int (m : Nat)) rfl cf S
  rw [any_nat, decide_eq_false (nodup_take ok.nd em)] at e5
  have eg : l.getD j 0 = m := by rw [List.getD_eq_getElem?_getD, em]; rfl
  rw [eg]
  simp [hx.idx, e3, run_is_int, e1, e2, e2', isN, endE, s1, e5]
theorem run_wp_ok (n k : Nat) (x : D) (l : List Nat) (hx : Seq x (dN l)) (ok : LotOk k l) (hk : k ≤ 12) (S : Sto) : run P T (n + 2) n__wrong_place [.d x, .d (.int k)] S = .ok (.d (.int (-1))) S := by
  have hl := lot_len ok
  rw [run_of t__wrong_place rfl]
  simp only [f__wrong_place, env0]
  refine for_turn (C := fun r => fin _ r = _) (S1 := S) (xs := (List.range l.length).map fun (i : Nat) => D.int i) (evI_rng1 (by simp [hx.len]) (by omega)) (WInv x k S) ⟨rfl, none, none, rfl⟩ ?_ ?_
  · rintro i y env S0 hy ⟨rfl, t, u, rfl⟩
    obtain ⟨j, hj, rfl⟩ := map_at hy
    obtain ⟨rfl, hi⟩ := range_at hj
    exact ⟨_, rfl, .of (wp_step n k x (dN l) hx l ok j hi ⟨[], by simp⟩ t u S0) ⟨rfl, _, _, rfl⟩⟩
  · rintro env S0 ⟨rfl, t, u, rfl⟩
    simp
theorem run_wp_bad (n k : Nat) (x : D) (xs : List D) (l : List Nat) (e : D) (hx : Seq x xs) (hw : Wrong k xs l e) (hk : k ≤ 12) (hlen : xs.length ≤ 100) (S : Sto) : run P T (n + 2) n__wrong_place [.d x, .d (.int k)] S = .ok (.d (.int (l.length : Nat))) S := by
  obtain ⟨ok, ⟨rest, rfl⟩, bad⟩ := hw
  rw [run_of t__wrong_place rfl]
  simp only [f__wrong_place, env0]
  refine for_ret (C := fun r => fin _ r = _) (S1 := S) (xs := (List.range (dN l ++ e :: rest).length).map fun (i : Nat) => D.int i) (evI_rng1 (by simp only [l_cons, l_nil, e_bi, e_var']; simp [hx.len]) (by omega)) (fun i env S0 => i ≤ l.length ∧ WInv x k S i env S0) (fun v _ S0 => S0 = S ∧ v = .d (.int (l.length : Nat))) ⟨Nat.zero_le _, rfl, none, none, rfl⟩ ?_ ?_ ?_
  · rintro i y env S0 hy ⟨hi, rfl, t, u, rfl⟩
    obtain ⟨j, hj, rfl⟩ := map_at hy
    obtain ⟨rfl, _⟩ := range_at hj
    refine ⟨_, rfl, ?_⟩
    by_cases hjl : j < l.length
    · exact .inl ⟨_, _, .inl (wp_step n k x _ hx l ok j hjl ⟨e :: rest, rfl⟩ t u S0), by omega, rfl, _, _, rfl⟩
    · have ej : j = l.length := by omega
      subst ej
      have e3 : (dN l ++ e :: rest)[l.length]? = some e := by
        rw [List.getElem?_append_right (by rw [dN_length]; exact Nat.le_refl _), dN_length, Nat.sub_self]
        rfl
      refine .inr ⟨.d (.int (l.length : Nat)), [some (.d x), some (.d (.int k)), some (.d (.int (l.length : Nat))), some (.d e)], S0, ?_, rfl, rfl⟩
      rcases bad with ⟨_, ⟨i, rfl, hi⟩ | hb⟩ | ⟨t, ht, rfl, htk⟩
      · rcases hi with hi | hi
        · simp [hx.idx, e3, run_is_int, hi]
        · by_cases h0 : i < 0
          · simp [hx.idx, e3, run_is_int, h0]
          · simp [hx.idx, e3, run_is_int, h0, hi, isN]
      · have := hb n S0
        simp [hx.idx, e3, this]
      · obtain ⟨y, s1, s2⟩ := hx.slc (i := l.length) (by rw [List.length_append, dN_length]; simp) S0
        have e4 : (dN l ++ D.int (t : Nat) :: rest).take l.length = dN l := by
          rw [List.take_append_of_le_length (by rw [dN_length]; exact Nat.le_refl _), List.take_of_length_le (by rw [dN_length]; exact Nat.le_refl _)]
        rw [e4] at s2
        have e5 := fun cf => in_seq s2 (e := .int (t : Nat)) rfl cf S0
        rw [any_nat, decide_eq_true ht] at e5
        have e1 : ¬ ((t : Int) < 0) := by omega
        have e2 : ¬ ((k : Int) ≤ t) := by omega
        have e2' : ¬ k ≤ t := by omega
        simp [hx.idx, e3, run_is_int, e1, e2, e2', isN, endE, s1, e5]
  · rintro env S0 ⟨hi, rfl, t, u, rfl⟩
    simp at hi
    omega
  · rintro v env S0 ⟨rfl, rfl⟩
    simp
end K07
namespace K07
open G
/-- what a given lot is: right with its number, or wrong at a place -/
def Right (k : Nat) (x : D) (m : Nat) : Prop := ∃ l, Seq x (dN l) ∧ LotOk k l ∧ numOf l = m
def WrongAt (k : Nat) (x : D) (p : Int) : Prop := (p = -1 ∧ ∃ i : Int, x = .int i) ∨ ∃ xs l e, Seq x xs ∧ Wrong k xs l e ∧ xs.length ≤ 100 ∧ p = (l.length : Nat)
theorem run_checked_ok (n k : Nat) (x : D) (l : List Nat) (hx : Seq x (dN l)) (ok : LotOk k l) (hk : k ≤ 12) (S : Sto) : run P T (n + 3) n__checked [.d x, .d (.int k)] S = .ok (.d (.tup (dN (srtN l)))) S := by
  have e1 := run_wp_ok n k x l hx ok hk S
  have e2 := hx.isi S
  rw [run_of t__checked rfl]
  rcases hx with rfl | rfl <;> simp [f__checked, env0, e1, e2]
theorem run_checked_bad (n k : Nat) (x : D) (p : Int) (hw : WrongAt k x p) (hk : k ≤ 12) (S : Sto) : run P T (n + 3) n__checked [.d x, .d (.int k)] S = .ex 1 [.int p] S := by
  rw [run_of t__checked rfl]
  rcases hw with ⟨rfl, i, rfl⟩ | ⟨xs, l, e, hx, hw, hl, rfl⟩
  · simp [f__checked, env0, tyD]
  · have e1 := run_wp_bad n k x xs l e hx hw hk hl S
    have e2 := hx.isi S
    simp [f__checked, env0, e1, e2]
theorem run_in_ok (n k : Nat) (L : List Nat) (x : D) (m : Nat) (h : Right k x m) (hk : k ≤ 12) {v : Va} {S : Sto} (hv : Fm v S k L) : run P T (n + 5) n__number_in [v, .d x] S = .ok (.d (.int m)) S := by
  obtain ⟨l, hx, ok, rfl⟩ := h
  have e1 := run_checked_ok n k x l hx ok hk S
  have e2 := run_number_of (n + 3) (srtN l) (fun x hx => by have := ok.lt x ((srtN_perm l).mem_iff.mp hx); omega) S
  rw [numOf_perm (srtN_perm l)] at e2
  have e3 : run P T (n + 4) n_lot_of [.d x, .d (.int k)] S = .ok (.d (.tup (dN (srtN l)))) S := by
    rw [run_of t_lot_of rfl]
    simp [f_lot_of, env0, e1]
  rw [run_of t__number_in rfl]
  simp [f__number_in, env0, hv.stl, fx_size hv, e3, e2]
theorem run_in_bad (n k : Nat) (L : List Nat) (x : D) (p : Int) (h : WrongAt k x p) (hk : k ≤ 12) {v : Va} {S : Sto} (hv : Fm v S k L) : run P T (n + 5) n__number_in [v, .d x] S = .ex 1 [.int p] S := by
  have e1 := run_checked_bad n k x p h hk S
  have e3 : run P T (n + 4) n_lot_of [.d x, .d (.int k)] S = .ex 1 [.int p] S := by
    rw [run_of t_lot_of rfl]
    simp [f_lot_of, env0, e1]
  rw [run_of t__number_in rfl]
  simp [f__number_in, env0, hv.stl, fx_size hv, e3]
/-- what a given thing is -/
def BadT (k : Nat) (e : D) : Prop := ∀ n S, run P T (n + 2) n_check_thing [.d e, .d (.int k)] S = .ex 2 [e] S
theorem badT {k : Nat} {e : D} (h : BadE k e) : BadT k e := fun n S => by
  rw [run_of t_check_thing rfl]
  obtain ⟨_, ⟨i, rfl, hi | hi⟩ | hb⟩ := h
  · simp [f_check_thing, env0, run_is_int, hi]
  · by_cases h0 : i < 0
    · simp [f_check_thing, env0, run_is_int, h0]
    · simp [f_check_thing, env0, run_is_int, h0, hi]
  · have := hb n S
    simp [f_check_thing, env0, this]
theorem run_thing_ok (n k t : Nat) (h : t < k) (S : Sto) : run P T (n + 2) n_check_thing [.d (.int t), .d (.int k)] S = .ok (.d (.int t)) S := by
  have e1 : ¬ ((t : Int) < 0) := by omega
  have e2 : ¬ ((k : Int) ≤ t) := by omega
  have e2' : ¬ k ≤ t := by omega
  rw [run_of t_check_thing rfl]
  simp [f_check_thing, env0, run_is_int, e1, e2, e2']
theorem run_inside_ok (n k x : Nat) (L : List Nat) (hx : x < pw k) (h : x ∈ L) {v : Va} {S : Sto} (hv : Fm v S k L) : run P T (n + 1) n__needs_inside [v, .d (.int x)] S = .ok (.d .non) S := by
  have e0 : (insL k L)[x]? = some (.bl (decide (x ∈ L))) := rng_at hx
  rw [run_of t__needs_inside rfl]
  simp [f__needs_inside, env0, hv.stl, fx_inside hv, e0, h]
theorem run_inside_no (n k x : Nat) (L : List Nat) (hk : k ≤ 10) (hx : x < pw k) (h : x ∉ L) {v : Va} {S : Sto} (hv : Fm v S k L) : run P T (n + 2) n__needs_inside [v, .d (.int x)] S = .ex 3 [lotD x] S := by
  have e0 : (insL k L)[x]? = some (.bl (decide (x ∈ L))) := rng_at hx
  have e1 := run_lot_of n x (pw12 hx (by omega)) S
  rw [run_of t__needs_inside rfl]
  simp [f__needs_inside, env0, hv.stl, fx_inside hv, e0, h, e1]
theorem ite_lit {α : Type} {a b : α} : (if (1 : Nat) = 1 then a else b) = a := rfl
/-- the two lots and a thing apart -/
theorem run_two_ok (n k : Nat) (L : List Nat) (x y : D) (a b t : Nat) (hk : k ≤ 10) (hx : Right k x a) (hy : Right k y b) (ha : a < pw k) (hb : b < pw k) (ht : t < k) (hbt : (a ^^^ b).testBit t = true) (iA : a ∈ L) (iB : b ∈ L) {v : Va} {S : Sto} (hv : Fm v S k L) :
    run P T (n + 6) n__break_numbers [v, .d x, .d y, .d (.int t)] S = .ok (.d (.tup [.int a, .int b])) S := by
  have h2L : 2 ≤ LL := le_LL (by omega)
  have e1 := run_in_ok n k L x a hx (by omega) hv
  have e2 := run_in_ok n k L y b hy (by omega) hv
  have e3 := run_thing_ok (n + 3) k t ht S
  have e4 := run_inside_ok (n + 4) k a L ha iA hv
  have e5 := run_inside_ok (n + 4) k b L hb iB hv
  have hbit := md_bit (a ^^^ b) t
  rw [hbt] at hbit
  rw [run_of t__break_numbers rfl]
  simp [f__break_numbers, env0, hv.stl, fx_size hv, e1, e2, e3, iop_shr, iop_and1, hbit, e4, e5, h2L]
theorem run_two_x (n k : Nat) (L : List Nat) (x y t : D) (p : Int) (hk : k ≤ 10) (hx : WrongAt k x p) {v : Va} {S : Sto} (hv : Fm v S k L) :
    run P T (n + 6) n__break_numbers [v, .d x, .d y, .d t] S = .ex 1 [.int p] S := by
  have e1 := run_in_bad n k L x p hx (by omega) hv
  rw [run_of t__break_numbers rfl]
  simp [f__break_numbers, env0, hv.stl, e1]
theorem run_two_y (n k : Nat) (L : List Nat) (x y t : D) (a : Nat) (p : Int) (hk : k ≤ 10) (hx : Right k x a) (hy : WrongAt k y p) {v : Va} {S : Sto} (hv : Fm v S k L) :
    run P T (n + 6) n__break_numbers [v, .d x, .d y, .d t] S = .ex 1 [.int p] S := by
  have e1 := run_in_ok n k L x a hx (by omega) hv
  have e2 := run_in_bad n k L y p hy (by omega) hv
  rw [run_of t__break_numbers rfl]
  simp [f__break_numbers, env0, hv.stl, e1, e2]
theorem run_two_t (n k : Nat) (L : List Nat) (x y t : D) (a b : Nat) (hk : k ≤ 10) (hx : Right k x a) (hy : Right k y b) (ht : BadT k t) {v : Va} {S : Sto} (hv : Fm v S k L) :
    run P T (n + 6) n__break_numbers [v, .d x, .d y, .d t] S = .ex 2 [t] S := by
  have e1 := run_in_ok n k L x a hx (by omega) hv
  have e2 := run_in_ok n k L y b hy (by omega) hv
  have e3 := ht (n + 3) S
  rw [run_of t__break_numbers rfl]
  simp [f__break_numbers, env0, hv.stl, fx_size hv, e1, e2, e3]
theorem run_two_s (n k : Nat) (L : List Nat) (x y : D) (a b t : Nat) (hk : k ≤ 10) (hx : Right k x a) (hy : Right k y b) (ht : t < k) (hbt : (a ^^^ b).testBit t = false) {v : Va} {S : Sto} (hv : Fm v S k L) :
    run P T (n + 6) n__break_numbers [v, .d x, .d y, .d (.int t)] S = .ex 2 [.int t] S := by
  have e1 := run_in_ok n k L x a hx (by omega) hv
  have e2 := run_in_ok n k L y b hy (by omega) hv
  have e3 := run_thing_ok (n + 3) k t ht S
  have hbit := md_bit (a ^^^ b) t
  rw [hbt] at hbit
  rw [run_of t__break_numbers rfl]
  simp [f__break_numbers, env0, hv.stl, fx_size hv, e1, e2, e3, iop_shr, iop_and1, hbit]
theorem run_two_a (n k : Nat) (L : List Nat) (x y : D) (a b t : Nat) (hk : k ≤ 10) (hx : Right k x a) (hy : Right k y b) (ha : a < pw k) (ht : t < k) (hbt : (a ^^^ b).testBit t = true) (iA : a ∉ L) {v : Va} {S : Sto} (hv : Fm v S k L) :
    run P T (n + 6) n__break_numbers [v, .d x, .d y, .d (.int t)] S = .ex 3 [lotD a] S := by
  have e1 := run_in_ok n k L x a hx (by omega) hv
  have e2 := run_in_ok n k L y b hy (by omega) hv
  have e3 := run_thing_ok (n + 3) k t ht S
  have e4 := run_inside_no (n + 3) k a L hk ha iA hv
  have hbit := md_bit (a ^^^ b) t
  rw [hbt] at hbit
  rw [run_of t__break_numbers rfl]
  simp [f__break_numbers, env0, hv.stl, fx_size hv, e1, e2, e3, iop_shr, iop_and1, hbit, e4]
theorem run_two_b (n k : Nat) (L : List Nat) (x y : D) (a b t : Nat) (hk : k ≤ 10) (hx : Right k x a) (hy : Right k y b) (ha : a < pw k) (hb : b < pw k) (ht : t < k) (hbt : (a ^^^ b).testBit t = true) (iA : a ∈ L) (iB : b ∉ L) {v : Va} {S : Sto} (hv : Fm v S k L) :
    run P T (n + 6) n__break_numbers [v, .d x, .d y, .d (.int t)] S = .ex 3 [lotD b] S := by
  have e1 := run_in_ok n k L x a hx (by omega) hv
  have e2 := run_in_ok n k L y b hy (by omega) hv
  have e3 := run_thing_ok (n + 3) k t ht S
  have e4 := run_inside_ok (n + 4) k a L ha iA hv
  have e5 := run_inside_no (n + 3) k b L hk hb iB hv
  have hbit := md_bit (a ^^^ b) t
  rw [hbt] at hbit
  rw [run_of t__break_numbers rfl]
  simp [f__break_numbers, env0, hv.stl, fx_size hv, e1, e2, e3, iop_shr, iop_and1, hbit, e4, e5]
end K07
namespace K07
open G
def FI1 (k : Nat) (L : List Nat) (lo hi : Nat) (v : Va) (S : Sto) (i : Nat) (env : Frm) (S0 : Sto) : Prop := S0 = S ∧ (∀ a ∈ L.take i, ∀ b ∈ L, lo ≤ pc (a ^^^ b) → pc (a ^^^ b) ≤ hi → ∀ t, t < k → ¬ Brk k L a b t) ∧ ∃ a b c d e, env = [some v, some (.d (.int lo)), some (.d (.int hi)), a, b, c, d, e]
def FI2 (k : Nat) (L : List Nat) (lo hi l : Nat) (M : List D) (v : Va) (S : Sto) (i : Nat) (env : Frm) (S0 : Sto) : Prop := S0 = S ∧ (∀ b ∈ L.take i, lo ≤ pc (l ^^^ b) → pc (l ^^^ b) ≤ hi → ∀ t, t < k → ¬ Brk k L l b t) ∧ ∃ c d e, env = [some v, some (.d (.int lo)), some (.d (.int hi)), some (.d (.int l)), some (.d (.lst M)), c, d, e]
def FI3 (k : Nat) (L : List Nat) (lo hi l r : Nat) (M : List D) (v : Va) (S : Sto) (i : Nat) (env : Frm) (S0 : Sto) : Prop := S0 = S ∧ (∀ t, t < i → ¬ Brk k L l r t) ∧ ∃ e, env = [some v, some (.d (.int lo)), some (.d (.int hi)), some (.d (.int l)), some (.d (.lst M)), some (.d (.int r)), some (.d (.int (l ^^^ r : Nat))), e]
def FDone (k : Nat) (L : List Nat) (lo hi : Nat) (S : Sto) (y : Va) (_ : Frm) (S0 : Sto) : Prop := S0 = S ∧ (∃ z, y = .d z ∧ isN z = false) ∧ ¬ NoBrk k L lo hi
theorem run_first (n k lo hi : Nat) (L : List Nat) (hk : k ≤ 10) (hL : ∀ m ∈ L, m < pw k) {v : Va} {S : Sto} (hv : Fm v S k L) :
    ∃ z, run P T (n + 2) n__first_break [v, .d (.int lo), .d (.int hi)] S = .ok (.d z) S ∧ (isN z = true ↔ NoBrk k L lo hi) := by
  have h3L : 3 ≤ LL := le_LL (by omega)
  rw [run_of t__first_break rfl]
  simp only [f__first_break, env0]
  refine for_ret (C := fun r => ∃ z, fin _ r = R.ok (.d z) S ∧ (isN z = true ↔ NoBrk k L lo hi)) (S1 := S) (xs := dN L) (by simp [hv.stl, fx_numbers hv]) (FI1 k L lo hi v S) (FDone k L lo hi S) ⟨rfl, by simp, none, none, none, none, none, rfl⟩ ?_ ?_ ?_
  · rintro i y env S0 hy ⟨rfl, hF, a, b, c, d, e, rfl⟩
    obtain ⟨l, el, rfl⟩ := dN_at hy
    have hl := List.mem_of_getElem? el
    have hlk := hL l hl
    refine ⟨_, rfl, ?_⟩
    have e1 := comp_map (own := [7]) (i := 7) (src := .rng [.fld (.var 0) 0]) (e := .call n__partner_mask [.var 0, .var 3, .var 7]) (cf := ⟨P, run P T (n + 1), none⟩) (env := [some v, some (.d (.int lo)), some (.d (.int hi)), some (.d (.int l)), b, c, d, e]) (S := S0) (S1 := S0)
      (List.range k) (fun t => .int (t : Nat)) (fun t => .int (pmN k L l t : Nat)) (evI_rng1 (by simp [hv.stl, fx_size hv]) (by omega)) (fun t ht => by simp [wipe, hv.stl, run_partner n k l t L hk hlk (List.mem_range.mp ht) hv]) (le_LL (by rw [List.length_range]; omega))
    simp [e1]
    obtain ⟨M, hM⟩ : ∃ M, M = (List.range k).map fun t => D.int (pmN k L l t : Nat) := ⟨_, rfl⟩
    have hMi : ∀ t, t < k → M[t]? = some (.int (pmN k L l t : Nat)) := fun t ht => by rw [hM]; exact rng_at ht
    rw [← hM]
    refine for_ret (C := fun r => TurnR r (FI1 k L lo hi v S0 (i + 1)) (FDone k L lo hi S0)) (S1 := S0) (xs := dN L) (by simp [hv.stl, fx_numbers hv]) (FI2 k L lo hi l M v S0) (FDone k L lo hi S0) ⟨rfl, by simp, c, d, e, rfl⟩ ?_ ?_ ?_
    · rintro j y env S1 hy ⟨rfl, hG, c, d, e, rfl⟩
      obtain ⟨r, er, rfl⟩ := dN_at hy
      have hr := List.mem_of_getElem? er
      have hrk := hL r hr
      have hw := run_weight n (l ^^^ r) (lt10 hk (xor_lt hlk hrk)) S1
      refine ⟨_, rfl, ?_⟩
      by_cases hz : lo ≤ pc (l ^^^ r) ∧ pc (l ^^^ r) ≤ hi
      · have q1 : (lo : Int) ≤ (pc (l ^^^ r) : Nat) := by omega
        have q2 : ((pc (l ^^^ r) : Nat) : Int) ≤ hi := by omega
        simp [hw, q1, q2, hz.1, hz.2]
        refine for_ret (C := fun r' => TurnR r' (FI2 k L lo hi l M v S1 (j + 1)) (FDone k L lo hi S1)) (S1 := S1) (xs := (List.range k).map fun (i : Nat) => D.int i) (evI_rng1 (by simp [hv.stl, fx_size hv]) (by omega)) (FI3 k L lo hi l r M v S1) (FDone k L lo hi S1) ⟨rfl, by simp, e, rfl⟩ ?_ ?_ ?_
        · rintro u y env S2 hy ⟨rfl, hT, e, rfl⟩
          obtain ⟨t, ht, rfl⟩ := map_at hy
          obtain ⟨rfl, htk⟩ := range_at ht
          refine ⟨_, rfl, ?_⟩
          have hb := md_bit (l ^^^ r) t
          by_cases hbk : Brk k L l r t
          · have hbt := hbk.1
            rw [hbt] at hb
            have q3 := run_lot_of n l (pw12 hlk (by omega)) S2
            have q4 := run_lot_of n r (pw12 hrk (by omega)) S2
            refine .inr ⟨.d (.tup [lotD l, lotD r, .int t]), _, S2, by
              simp [iop_shr, iop_and1, hb, hMi t htk, hbk.2, q3, q4, h3L]
              all_goals first | rfl | ((repeat' apply And.intro) <;> rfl), rfl, ⟨_, rfl, rfl⟩, fun hn => hn l hl r hr hz.1 hz.2 t htk hbk⟩
          · refine .inl ⟨_, _, .inl (by
              cases hbt : (l ^^^ r).testBit t with
              | false =>
                rw [hbt] at hb
                simp [iop_shr, iop_and1, hb]
                all_goals first | rfl | ((repeat' apply And.intro) <;> rfl)
              | true =>
                rw [hbt] at hb
                have hne : ¬ pmN k L l t &&& (l ^^^ r) = 0 := fun z => hbk ⟨hbt, z⟩
                have hne' : ¬ ((pmN k L l t &&& (l ^^^ r) : Nat) : Int) = 0 := by omega
                simp [iop_shr, iop_and1, hb, hMi t htk, hne, hne']
                all_goals first | rfl | ((repeat' apply And.intro) <;> rfl)), rfl, fun w hw2 => ?_, _, rfl⟩
            by_cases q : w = t
            · subst q; exact hbk
            · exact hT w (by omega)
        · rintro env S2 ⟨rfl, hT, e, rfl⟩
          rw [List.length_map, List.length_range] at hT
          refine .inl ⟨_, _, .inl (by rw [y_nil]), rfl, fun b hb => ?_, _, _, _, rfl⟩
          rw [take_succ er] at hb
          rcases List.mem_append.mp hb with hb | hb
          · exact hG b hb
          · rw [List.mem_singleton.mp hb]
            exact fun _ _ => hT
        · rintro y env S2 ⟨rfl, ⟨z, rfl, hz2⟩, hn⟩
          exact .inr ⟨_, _, _, rfl, rfl, ⟨z, rfl, hz2⟩, hn⟩
      · refine .inl ⟨_, _, .inr (by
          by_cases q : lo ≤ pc (l ^^^ r)
          · have q1 : (lo : Int) ≤ (pc (l ^^^ r) : Nat) := by omega
            have q2 : ¬ pc (l ^^^ r) ≤ hi := fun z => hz ⟨q, z⟩
            have q3 : ¬ ((pc (l ^^^ r) : Nat) : Int) ≤ hi := by omega
            simp [hw, q, q1, q2, q3]
            all_goals first | rfl | ((repeat' apply And.intro) <;> rfl)
          · have q1 : ¬ (lo : Int) ≤ (pc (l ^^^ r) : Nat) := by omega
            simp [hw, q, q1]
            all_goals first | rfl | ((repeat' apply And.intro) <;> rfl)), rfl, fun b hb => ?_, _, _, _, rfl⟩
        rw [take_succ er] at hb
        rcases List.mem_append.mp hb with hb | hb
        · exact hG b hb
        · rw [List.mem_singleton.mp hb]
          exact fun h1 h2 => (hz ⟨h1, h2⟩).elim
    · rintro env S1 ⟨rfl, hG, c, d, e, rfl⟩
      rw [dN_length, List.take_length] at hG
      refine .inl ⟨_, _, .inl (by rw [y_nil]), rfl, fun a ha => ?_, _, _, _, _, _, rfl⟩
      rw [take_succ el] at ha
      rcases List.mem_append.mp ha with ha | ha
      · exact hF a ha
      · rw [List.mem_singleton.mp ha]; exact hG
    · rintro y env S1 ⟨rfl, ⟨z, rfl, hz⟩, hn⟩
      exact .inr ⟨_, _, _, rfl, rfl, ⟨z, rfl, hz⟩, hn⟩
  · rintro env S0 ⟨rfl, hF, a, b, c, d, e, rfl⟩
    rw [dN_length, List.take_length] at hF
    exact ⟨.non, by simp, fun _ => hF, fun _ => rfl⟩
  · rintro y env S0 ⟨rfl, ⟨z, rfl, hz⟩, hn⟩
    exact ⟨z, by simp, fun h => (by rw [hz] at h; cases h), fun h => (hn h).elim⟩
theorem run_find (n k l : Nat) (L : List Nat) (hk : k ≤ 10) (hL : ∀ m ∈ L, m < pw k) {S : Sto} {f : D} (h : S[l]? = some (.ins c_Family (famX k L false f))) :
    ∃ z, run P T (n + 3) n_find_break [.r l] S = .ok (.d z) (S.set l (.ins c_Family (famX k L true z))) ∧ (isN z = true ↔ NoBrk k L 1 k) := by
  have hv := Fm.cell h
  have hl : l < S.length := (List.getElem?_eq_some_iff.mp h).1
  obtain ⟨z, e1, hz⟩ := run_first n k 1 k L hk hL hv
  rw [show ((1 : Nat) : Int) = 1 from rfl] at e1
  have e2 := fx_size hv
  have e3 := fx_5 h
  refine ⟨z, ?_, hz⟩
  have h2 : (S.set l (.ins 0 (famX k L true z)))[l]? = some (.ins 0 (famX k L true z)) := by simp [hl]
  have e5 := fx_6 h2
  simp only [c_Family] at h
  have h3 := (List.getElem?_eq_some_iff.mp h).2
  rw [run_of t_find_break rfl]
  simp [f_find_break, env0, e3, e2, e1, h3, hl, famX_len, put6, put5, e5, c_Family, take_all]
theorem run_near (n k : Nat) (L : List Nat) (hk : k ≤ 10) (hL : ∀ m ∈ L, m < pw k) {v : Va} {S : Sto} (hv : Fm v S k L) :
    ∃ z, run P T (n + 3) n_near_break [v] S = .ok (.d z) S ∧ (isN z = true ↔ NoBrk k L 3 4) := by
  obtain ⟨z, e1, hz⟩ := run_first n k 3 4 L hk hL hv
  rw [show ((3 : Nat) : Int) = 3 from rfl, show ((4 : Nat) : Int) = 4 from rfl] at e1
  refine ⟨z, ?_, hz⟩
  rw [run_of t_near_break rfl]
  simp [f_near_break, env0, hv.stl, e1]
end K07
namespace K07
open G
def asgTK (is : List Nat) (env : Frm) (cf : Cfg) (ss : List Sm) (v : Va) (S1 : Sto) : RS := match v with
  | .d x => (match setT (.tp is) x env with
    | some env' => exSs ss cf env' S1
    | none => .bad)
  | _ => .bad
@[simp] theorem asgTK_ap (is : List Nat) (env : Frm) (cf : Cfg) (ss : List Sm) (x : D) (S : Sto) : asgTK is env cf ss (.d x) S = (match setT (.tp is) x env with
    | some env' => exSs ss cf env' S
    | none => .bad) := rfl
@[simp] theorem y_asgT (is : List Nat) (e : E) (cf : Cfg) (env : Frm) (ss : List Sm) (S : Sto) : exSs (.asg (.tp is) e :: ss) cf env S = (stl (evE e cf env S)).st env (asgTK is env cf ss) := by
  rw [exSs, exS]
  cases stl (evE e cf env S) with
  | ok v S1 =>
    cases v with
    | d x =>
      simp only [R.st, asgTK]
      cases setT (.tp is) x env <;> rfl
    | _ => rfl
  | _ => rfl
@[simp] theorem setT_2 (i j : Nat) (x y : D) (env : Frm) : setT (.tp [i, j]) (.tup [x, y]) env = some ((env.set i (some (.d x))).set j (some (.d y))) := rfl
theorem bi_min5 (m : Nat) : (if (5 : Int) < (m : Int) then (5 : Int) else (m : Int)) = ((min m 5 : Nat) : Int) := by
  split <;> omega
structure Args (k : Nat) (x y : D) (a b t : Nat) : Prop where
  rx : Right k x a
  ry : Right k y b
  la : a < pw k
  lb : b < pw k
  lt : t < k
  bt : (a ^^^ b).testBit t = true
theorem run_sort_ok (n k : Nat) (L : List Nat) (x y : D) (a b t : Nat) (hk : k ≤ 10) (hL : ∀ m ∈ L, m < pw k) (h : Args k x y a b t) (iA : a ∈ L) (iB : b ∈ L) (hb : Brk k L a b t) (hn : NoBrk k L 1 (pc (a ^^^ b) - 1)) {v : Va} {S : Sto} (hv : Fm v S k L) :
    run P T (n + 7) n_break_sort [v, .d x, .d y, .d (.int t)] S = .ok (.d (.int (min (pc (a ^^^ b)) 5 : Nat))) S := by
  have e1 := run_two_ok n k L x y a b t hk h.rx h.ry h.la h.lb h.lt h.bt iA iB hv
  have e2 := run_weight (n + 5) (a ^^^ b) (lt10 hk (xor_lt h.la h.lb)) S
  have e3 := run_partner (n + 5) k a t L hk h.la h.lt hv
  obtain ⟨z, e4, hz⟩ := run_first (n + 4) k 1 (pc (a ^^^ b) - 1) L hk hL hv
  have hzt := hz.mpr hn
  have h3 := brk_three hk h.la h.lb iB hb
  rw [show ((1 : Nat) : Int) = 1 from rfl, show ((pc (a ^^^ b) - 1 : Nat) : Int) = ((pc (a ^^^ b) : Nat) : Int) - 1 by omega] at e4
  have e5 := hb.2
  have e6 := bi_min5 (pc (a ^^^ b))
  rw [run_of t_break_sort rfl]
  simp [f_break_sort, env0, hv.stl, e1, e2, e3, e5, e4, hzt, e6]
theorem run_sort_gap (n k : Nat) (L : List Nat) (x y : D) (a b t : Nat) (hk : k ≤ 10) (hL : ∀ m ∈ L, m < pw k) (h : Args k x y a b t) (iA : a ∈ L) (iB : b ∈ L) (hb : ¬ (Brk k L a b t ∧ NoBrk k L 1 (pc (a ^^^ b) - 1))) {v : Va} {S : Sto} (hv : Fm v S k L) :
    run P T (n + 7) n_break_sort [v, .d x, .d y, .d (.int t)] S = .ex 4 [.str "gap"] S := by
  have e1 := run_two_ok n k L x y a b t hk h.rx h.ry h.la h.lb h.lt h.bt iA iB hv
  have e2 := run_weight (n + 5) (a ^^^ b) (lt10 hk (xor_lt h.la h.lb)) S
  have e3 := run_partner (n + 5) k a t L hk h.la h.lt hv
  rw [run_of t_break_sort rfl]
  by_cases hbk : Brk k L a b t
  · obtain ⟨z, e4, hz⟩ := run_first (n + 4) k 1 (pc (a ^^^ b) - 1) L hk hL hv
    have hzf : isN z = false := by
      cases q : isN z with
      | false => rfl
      | true => exact (hb ⟨hbk, hz.mp q⟩).elim
    have h3 := brk_three hk h.la h.lb iB hbk
    rw [show ((1 : Nat) : Int) = 1 from rfl, show ((pc (a ^^^ b) - 1 : Nat) : Int) = ((pc (a ^^^ b) : Nat) : Int) - 1 by omega] at e4
    have e5 := hbk.2
    simp [f_break_sort, env0, hv.stl, e1, e2, e3, e5, e4, hzf]
  · have hne : ¬ pmN k L a t &&& (a ^^^ b) = 0 := fun z => hbk ⟨h.bt, z⟩
    have hne' : (((pmN k L a t &&& (a ^^^ b) : Nat) : Int) != 0) = true := by
      rw [bne_iff_ne]
      omega
    simp [f_break_sort, env0, hv.stl, e1, e2, e3, hne']
theorem run_sort_ex (n : Nat) (x y t : D) (c : Nat) (fs : List D) {v : Va} {S : Sto} (hv : ∀ S1, stl (.ok v S1) = .ok v S1) (h : run P T (n + 1) n__break_numbers [v, .d x, .d y, .d t] S = .ex c fs S) :
    run P T (n + 2) n_break_sort [v, .d x, .d y, .d t] S = .ex c fs S := by
  rw [run_of t_break_sort rfl]
  simp [f_break_sort, env0, hv, h]
theorem run_partners (n k : Nat) (L : List Nat) (x y : D) (a b t : Nat) (hk : k ≤ 10) (hL : ∀ m ∈ L, m < pw k) (h : Args k x y a b t) (iA : a ∈ L) (iB : b ∈ L) {v : Va} {S : Sto} (hv : Fm v S k L) :
    run P T (n + 7) n_partners [v, .d x, .d y, .d (.int t)] S = .ok (.f (.lst (dN (lotN (pmN k L a t &&& (a ^^^ b)))))) S := by
  have e1 := run_two_ok n k L x y a b t hk h.rx h.ry h.la h.lb h.lt h.bt iA iB hv
  have e3 := run_partner (n + 5) k a t L hk h.la h.lt hv
  have hlt : pmN k L a t &&& (a ^^^ b) < 2 ^ 12 := by
    have h1 := Nat.and_le_right (n := pmN k L a t) (m := a ^^^ b)
    have h2 := pw12 (xor_lt h.la h.lb) (by omega : k ≤ 12)
    omega
  have e4 := run_lot_of (n + 5) _ hlt S
  rw [run_of t_partners rfl]
  simp [f_partners, env0, hv.stl, e1, e3, e4, lotD]
theorem toldx_hs (cf : Cfg) (hP : cf.P = P) (a b c d : Va) (w : PySem.Str) (e : D) (x : Nat) (S : Sto) (hx : (x = 1 ∧ w = "lot") ∨ (x = 2 ∧ w = "thing") ∨ (x = 3 ∧ w = "inside") ∨ (x = 4 ∧ w = "number")) :
    exHs [.cl 1 (some 5) [.asg (.nm 4) (.tup [.con (.str "lot"), .xf 7])], .cl 2 (some 5) [.asg (.nm 4) (.tup [.con (.str "thing"), .xf 8])], .cl 3 (some 5) [.asg (.nm 4) (.tup [.con (.str "inside"), .xf 9])], .cl 4 (some 5) [.asg (.nm 4) (.tup [.con (.str "number"), .xf 10])]] x [e] cf [some a, some b, some c, some d, some (.d .non), none] S
      = .ok .nx [some a, some b, some c, some d, some (.d (.tup [.str w, e])), none] S := by
  have h2L : 2 ≤ LL := le_LL (by omega)
  rcases hx with ⟨rfl, rfl⟩ | ⟨rfl, rfl⟩ | ⟨rfl, rfl⟩ | ⟨rfl, rfl⟩ <;> simp [exHs, hP, okX, clrX, setX, List.lookup, h2L]
theorem run_law_sort_ok (n : Nat) (x y t z : D) {v : Va} {S : Sto} (hv : ∀ S1, stl (.ok v S1) = .ok v S1) (h : run P T (n + 1) n_break_sort [v, .d x, .d y, .d t] S = .ok (.d z) S) :
    run P T (n + 2) n__law_sort [v, .d x, .d y, .d t] S = .ok (.d z) S := by
  rw [run_of t__law_sort rfl]
  simp only [f__law_sort, env0]
  simp
  rw [y_tr_ok (e2 := [some v, some (.d x), some (.d y), some (.d t), some (.d z), none]) (S1 := S) (by simp [hv, h])]
  simp
theorem run_law_sort_ex (n : Nat) (x y t e : D) (c : Nat) (w : PySem.Str) {v : Va} {S : Sto} (hv : ∀ S1, stl (.ok v S1) = .ok v S1) (hx : (c = 1 ∧ w = "lot") ∨ (c = 2 ∧ w = "thing") ∨ (c = 3 ∧ w = "inside") ∨ (c = 4 ∧ w = "number"))
    (h : run P T (n + 1) n_break_sort [v, .d x, .d y, .d t] S = .ex c [e] S) :
    run P T (n + 2) n__law_sort [v, .d x, .d y, .d t] S = .ok (.d (.tup [.str w, e])) S := by
  rw [run_of t__law_sort rfl]
  simp only [f__law_sort, env0]
  simp
  rw [y_tr_ex (e2 := [some v, some (.d x), some (.d y), some (.d t), some (.d .non), none]) (S1 := S) (k := c) (fs := [e]) (by simp [hv, h]), toldx_hs _ rfl _ _ _ _ w e c S hx]
  simp
end K07
namespace K07
open G
def brkD (a b t : Nat) (h : Bool) (p : Nat) : D := .lst [.int a, .int b, .int t, .bl h, .int p]
def rowB (k : Nat) (ms : List Nat) (a b : Nat) : List D := (lotN (a ^^^ b)).map fun t => brkD a b t (decide (Brk k ms a b t)) (pc (a ^^^ b))
def rowA (k : Nat) (ms : List Nat) (a : Nat) : List D := ms.flatMap (rowB k ms a)
def rowsD (k : Nat) (ms : List Nat) : List D := ms.flatMap (rowA k ms)
theorem flat_len {α β : Type} {f : α → List β} {c : Nat} : ∀ {l : List α}, (∀ x ∈ l, (f x).length ≤ c) → (l.flatMap f).length ≤ l.length * c
  | [], _ => by simp
  | x :: r, h => by
    have h1 := h x (by simp)
    have h2 := flat_len (l := r) fun y hy => h y (by simp [hy])
    rw [List.flatMap_cons, List.length_append, List.length_cons, Nat.succ_mul]
    omega
theorem rowB_len (k : Nat) (ms : List Nat) (a b : Nat) : (rowB k ms a b).length ≤ 12 := by
  unfold rowB
  rw [List.length_map]
  exact pc_le _
theorem rowA_len (k : Nat) (ms l : List Nat) (a : Nat) : (l.flatMap (rowB k ms a)).length ≤ l.length * 12 := flat_len fun b _ => rowB_len k ms a b
theorem rowsD_len (k : Nat) (ms l : List Nat) : (l.flatMap (rowA k ms)).length ≤ l.length * (ms.length * 12) := flat_len fun a _ => rowA_len k ms ms a
theorem take_len {α : Type} (l : List α) (i : Nat) : (l.take i).length ≤ l.length := by rw [List.length_take]; omega
/-- held or not -/
theorem held_brk {k a b t : Nat} {ms : List Nat} (ha : a < pw k) (hb : b < pw k) (hk : k ≤ 10) (ht : (a ^^^ b).testBit t = true) (h : Bool) (e : h = true ↔ (a ^^^ pw t ∈ ms ∨ ∃ u ∈ lotN (a ^^^ b), u ≠ t ∧ a ^^^ pw t ^^^ pw u ∈ ms)) : (!h) = decide (Brk k ms a b t) := by
  by_cases q : Brk k ms a b t
  · obtain ⟨n1, n2⟩ := brk_no ha hb q
    rw [decide_eq_true q]
    cases h with
    | false => rfl
    | true =>
      rcases e.mp rfl with z | ⟨u, hu, z1, z2⟩
      · exact (n1 z).elim
      · exact (n2 u z1 (lotN_mem.mp hu).2 z2).elim
  · rw [decide_eq_false q]
    have : h = true := e.mpr (by
      rcases no_brk ha hb ht q with z | ⟨u, z1, z2, z3⟩
      · exact .inl z
      · exact .inr ⟨u, lotN_mem.mpr ⟨by have := bit_lt (xor_lt ha hb) z2; omega, z2⟩, z1, z3⟩)
    rw [this]; rfl
def AI1 (k : Nat) (ms : List Nat) (S : Sto) (i : Nat) (env : Frm) (S0 : Sto) : Prop := S0 = S ++ [.lst ((ms.take i).flatMap (rowA k ms))] ∧ ∃ a b c d e f g, env = [some (.d (.int k)), some (.d (.lst (dN ms))), some (.d (.lst (insL k ms))), some (.r S.length), a, b, c, d, e, f, g]
def AI2 (k a i : Nat) (ms : List Nat) (S : Sto) (j : Nat) (env : Frm) (S0 : Sto) : Prop := S0 = S ++ [.lst ((ms.take i).flatMap (rowA k ms) ++ (ms.take j).flatMap (rowB k ms a))] ∧ ∃ b c d e f g, env = [some (.d (.int k)), some (.d (.lst (dN ms))), some (.d (.lst (insL k ms))), some (.r S.length), some (.d (.int a)), b, c, d, e, f, g]
def AI3 (k a b i j : Nat) (ms : List Nat) (S : Sto) (q : Nat) (env : Frm) (S0 : Sto) : Prop := S0 = S ++ [.lst ((ms.take i).flatMap (rowA k ms) ++ (ms.take j).flatMap (rowB k ms a) ++ (rowB k ms a b).take q)] ∧ ∃ d e f g, env = [some (.d (.int k)), some (.d (.lst (dN ms))), some (.d (.lst (insL k ms))), some (.r S.length), some (.d (.int a)), some (.d (.int b)), some (.d (.int (a ^^^ b : Nat))), d, e, f, g]
def AI4 (k a b t : Nat) (ms : List Nat) (W : Sto) (r : Nat) (q : Nat) (env : Frm) (S0 : Sto) : Prop := S0 = W ∧ ∃ (h : Bool) (g : Option Va), (h = true ↔ (a ^^^ pw t ∈ ms ∨ ∃ u ∈ (lotN (a ^^^ b)).take q, u ≠ t ∧ a ^^^ pw t ^^^ pw u ∈ ms)) ∧ env = [some (.d (.int k)), some (.d (.lst (dN ms))), some (.d (.lst (insL k ms))), some (.r r), some (.d (.int a)), some (.d (.int b)), some (.d (.int (a ^^^ b : Nat))), some (.d (.int t)), some (.d (.int (a ^^^ pw t : Nat))), some (.d (.bl h)), g]
theorem run_all (n k : Nat) (ms : List Nat) (hk : k ≤ 10) (hm : ∀ m ∈ ms, m < pw k) (hl : ms.length ≤ 128) (S : Sto) : run P T (n + 2) n__law_all [.d (.int k), .d (.lst (dN ms))] S = .ok (.f (.lst (rowsD k ms))) S := by
  have h5L : 5 ≤ LL := le_LL (by omega)
  have hi := run_inside n k ms hk hm S
  rw [run_of t__law_all rfl]
  simp [f__law_all, env0, hi]
  refine for_turn (C := fun r => fin _ r = _) (S1 := S ++ [.lst []]) (xs := dN ms) (by simp) (AI1 k ms S) ⟨by simp, none, none, none, none, none, none, none, rfl⟩ ?_ ?_
  · rintro i y env S0 hy ⟨rfl, a0, b0, c, d, e, f, g, rfl⟩
    obtain ⟨a, ea, rfl⟩ := dN_at hy
    have ha := hm a (List.mem_of_getElem? ea)
    refine ⟨_, rfl, ?_⟩
    refine for_turn (C := fun r => Turn r _) (S1 := S ++ [.lst ((ms.take i).flatMap (rowA k ms))]) (xs := dN ms) (by simp) (AI2 k a i ms S) ⟨by simp, b0, c, d, e, f, g, rfl⟩ ?_ ?_
    · rintro j y env S0 hy ⟨rfl, b0, c, d, e, f, g, rfl⟩
      obtain ⟨b, eb, rfl⟩ := dN_at hy
      have hb := hm b (List.mem_of_getElem? eb)
      have hs := xor_lt ha hb
      refine ⟨_, rfl, ?_⟩
      obtain ⟨X, hX⟩ : ∃ X, X = (ms.take i).flatMap (rowA k ms) ++ (ms.take j).flatMap (rowB k ms a) := ⟨_, rfl⟩
      have hXl : X.length ≤ 400000 := by
        rw [hX, List.length_append]
        have h1 := rowsD_len k ms (ms.take i)
        have h2 := rowA_len k ms (ms.take j) a
        have h3 := take_len ms i
        have h4 := take_len ms j
        have h5 : (ms.take i).length * (ms.length * 12) ≤ 128 * (128 * 12) := Nat.mul_le_mul (by omega) (by omega)
        omega
      rw [← hX]
      have el := run_law_lot n (a ^^^ b) (S ++ [.lst X])
      simp
      refine for_turn (C := fun r => Turn r _) (S1 := S ++ [.lst X]) (xs := dN (lotN (a ^^^ b))) (by simp [el, lotD]) (AI3 k a b i j ms S) ⟨by rw [← hX]; simp, d, e, f, g, rfl⟩ ?_ ?_
      · rintro q y env S0 hy ⟨rfl, d, e, f, g, rfl⟩
        obtain ⟨t, et, rfl⟩ := dN_at hy
        have htm := lotN_mem.mp (List.mem_of_getElem? et)
        have tk := bit_lt hs htm.2
        have h2 := xor_lt ha (pw_lt tk)
        refine ⟨_, rfl, ?_⟩
        rw [← hX]
        obtain ⟨Y, hY⟩ : ∃ Y, Y = X ++ (rowB k ms a b).take q := ⟨_, rfl⟩
        have hYl : Y.length < LL := lt_LL (by
          rw [hY, List.length_append]
          have := take_len (rowB k ms a b) q
          have := rowB_len k ms a b
          omega)
        rw [← hY]
        have e0 : (insL k ms)[a ^^^ pw t]? = some (.bl (decide (a ^^^ pw t ∈ ms))) := rng_at h2
        have el2 := run_law_lot n (a ^^^ b) (S ++ [.lst Y])
        simp [iop_shl1 t (by omega), e0]
        refine for_turn (C := fun r => Turn r _) (S1 := S ++ [.lst Y]) (xs := dN (lotN (a ^^^ b))) (by simp [el2, lotD]) (AI4 k a b t ms (S ++ [.lst Y]) S.length) ⟨rfl, decide (a ^^^ pw t ∈ ms), g, by simp, rfl⟩ ?_ ?_
        · rintro w y env S0 hy ⟨rfl, h, g, hh, rfl⟩
          obtain ⟨u, eu, rfl⟩ := dN_at hy
          have hum := lotN_mem.mp (List.mem_of_getElem? eu)
          have uk := bit_lt hs hum.2
          have h3 := xor_lt h2 (pw_lt uk)
          have e1 : (insL k ms)[a ^^^ pw t ^^^ pw u]? = some (.bl (decide (a ^^^ pw t ^^^ pw u ∈ ms))) := rng_at h3
          refine ⟨_, rfl, ?_⟩
          by_cases hq : u ≠ t ∧ a ^^^ pw t ^^^ pw u ∈ ms
          · have q1 : ¬ (u : Int) = t := by have := hq.1; omega
            refine .of (by
              simp [q1, hq.1, e1, hq.2, iop_shl1 u (by omega)]
              all_goals first | rfl | ((repeat' apply And.intro) <;> rfl)) ⟨rfl, true, _, ?_, rfl⟩
            rw [take_succ eu]
            exact ⟨fun _ => .inr ⟨u, by simp, hq⟩, fun _ => rfl⟩
          · refine .of (by
              by_cases q : u = t
              · subst q
                simp
                all_goals first | rfl | ((repeat' apply And.intro) <;> rfl)
              · have q1 : ¬ (u : Int) = t := by omega
                have q2 : ¬ a ^^^ pw t ^^^ pw u ∈ ms := fun z => hq ⟨q, z⟩
                simp [q, q1, e1, q2, iop_shl1 u (by omega)]
                all_goals first | rfl | ((repeat' apply And.intro) <;> rfl)) ⟨rfl, h, some (.d (.int u)), ?_, rfl⟩
            rw [hh, take_succ eu]
            refine or_congr Iff.rfl ⟨fun ⟨v, h1, h2⟩ => ⟨v, by simp [h1], h2⟩, fun ⟨v, h1, h2⟩ => ?_⟩
            rcases List.mem_append.mp h1 with h1 | h1
            · exact ⟨v, h1, h2⟩
            · rw [List.mem_singleton.mp h1] at h2
              exact (hq h2).elim
        · rintro env S0 ⟨rfl, h, g, hh, rfl⟩
          rw [dN_length, List.take_length] at hh
          have e2 := held_brk ha hb hk htm.2 h hh
          have e3 := run_bits n (a ^^^ b) (lt10 hk hs) (S ++ [.lst Y])
          refine .of (by
            simp [e2, e3, h5L, hYl, -decide_not]
            all_goals first | rfl | ((repeat' apply And.intro) <;> rfl)) ⟨?_, _, _, _, _, rfl⟩
          have e4 : (rowB k ms a b)[q]? = some (brkD a b t (decide (Brk k ms a b t)) (pc (a ^^^ b))) := by
            unfold rowB
            rw [List.getElem?_map, et]
            rfl
          rw [take_succ e4, ← hX, ← List.append_assoc, ← hY]
          rfl
      · rintro env S0 ⟨rfl, d, e, f, g, rfl⟩
        refine .of (by rw [y_nil]) ⟨?_, _, _, _, _, _, _, rfl⟩
        have e1 : (dN (lotN (a ^^^ b))).length = (rowB k ms a b).length := by unfold rowB; simp
        rw [e1, List.take_length, take_succ eb, List.flatMap_append]
        simp
    · rintro env S0 ⟨rfl, b0, c, d, e, f, g, rfl⟩
      refine .of (by rw [y_nil]) ⟨?_, _, _, _, _, _, _, _, rfl⟩
      rw [dN_length, List.take_length, take_succ ea, List.flatMap_append]
      simp [rowA]
  · rintro env S0 ⟨rfl, a0, b0, c, d, e, f, g, rfl⟩
    rw [dN_length, List.take_length]
    simp [rowsD]
end K07
namespace K07
open G
/-- strictly between -/
def btw (a s : Nat) (x : Nat) : Bool := decide ((x ^^^ a) &&& s = x ^^^ a) && (decide (x ^^^ a ≠ 0) && decide (x ^^^ a ≠ s))
def szs (a s : Nat) (l : List Nat) : List Nat := (l.filter (btw a s)).map fun x => pc (x ^^^ a)
theorem szs_snoc {a s x : Nat} {l : List Nat} : szs a s (l ++ [x]) = if btw a s x then szs a s l ++ [pc (x ^^^ a)] else szs a s l := by
  unfold szs
  rw [List.filter_append, List.map_append]
  by_cases h : btw a s x = true
  · rw [List.filter_cons_of_pos h, if_pos h]; rfl
  · rw [List.filter_cons_of_neg h, if_neg h]; simp
theorem count_map {l : List Nat} {f : Nat → Nat} {v : Nat} : (l.map f).count v = (l.filter fun x => decide (f x = v)).length := by
  induction l with
  | nil => rfl
  | cons x r ih =>
    rw [List.map_cons, List.count_cons, ih]
    by_cases h : f x = v
    · rw [List.filter_cons_of_pos (by simpa using h)]
      simp [h]
    · rw [List.filter_cons_of_neg (by simpa using h)]
      simp [h]
theorem nin_N (cf : Cfg) (l : List Nat) (x : Nat) (S : Sto) : cmpV cf .nin (.d (.int x)) (.d (.lst (dN l))) S = .ok (.d (.bl (!decide (x ∈ l)))) S := by
  show inV true (.d (.int x)) (.d (.lst (dN l))) S = _
  simp only [inV, seqV_l, flat_dN, any_nat]
  rfl
theorem fzero (cf : Cfg) (a s : Nat) (S : Sto) : cmpV cf .eq (.d (.int ((a : Int) - ((a &&& s : Nat) : Int)))) (.d (.int 0)) S = .ok (.d (.bl (decide (a &&& s = a)))) S := by
  rw [cmp_eq]
  have : decide (((a : Int) - ((a &&& s : Nat) : Int)) = 0) = decide (a &&& s = a) := decide_eq_decide.mpr (by
    have := Nat.and_le_left (n := a) (m := s)
    omega)
  rw [this]
theorem pw_inj {y z : Nat} (h : pw y = pw z) : y = z := by
  rcases Nat.lt_trichotomy y z with q | q | q
  · have := pw_lt q
    omega
  · exact q
  · have := pw_lt q
    omega
theorem run_shape (n k : Nat) (L : List Nat) (a b t : Nat) (hk : k ≤ 10) (hL : Msk k L) (iA : a ∈ L) (iB : b ∈ L) (hb : Brk k L a b t) (hn : NoBrk k L 1 (pc (a ^^^ b) - 1)) {v : Va} {S : Sto} (hv : Fm v S k L) (hv2 : ∀ R, Fm v (S ++ R) k L) :
    run P T (n + 2) n__law_shape [v, .d (.int a), .d (.int b), .d (.int t)] S = .ok (.d (.bl true)) S := by
  have la := hL.lt a iA
  have lb := hL.lt b iB
  have ls := xor_lt la lb
  have hlen := hL.len
  have hp : pw k ≤ 1024 := pw_le (b := 10) hk
  have tk := bit_lt ls hb.1
  have e1 := run_bits n (a ^^^ b) (lt10 hk ls) S
  obtain ⟨s, hs⟩ : ∃ s, s = a ^^^ b := ⟨_, rfl⟩
  have h0L : 0 ≤ LL := Nat.zero_le _
  rw [run_of t__law_shape rfl]
  simp [f__law_shape, env0, ← hs]
  rw [← hs] at e1 ls
  simp [e1]
  refine for_turn (C := fun r => fin _ r = _) (S1 := S ++ [.lst []]) (xs := L.map lotD) (by simp [hv.stl, fx_lots (hv2 [.lst []])])
    (fun i env S0 => S0 = S ++ [.lst (dN (szs a s (L.take i)))] ∧ ∃ e f, env = [some v, some (.d (.int a)), some (.d (.int b)), some (.d (.int t)), some (.d (.int s)), some (.d (.int (pc s : Nat))), some (.r S.length), e, f]) ⟨by simp [szs], none, none, rfl⟩ ?_ ?_
  · rintro i y env S0 hy ⟨rfl, e, f, rfl⟩
    obtain ⟨x, ex, rfl⟩ := map_at hy
    have hx := List.mem_of_getElem? ex
    have lx := hL.lt x hx
    have lp := xor_lt lx la
    have q1 := run_law_number n x (lt10 hk lx) (S ++ [.lst (dN (szs a s (L.take i)))])
    have q2 := run_bits n (x ^^^ a) (lt10 hk lp) (S ++ [.lst (dN (szs a s (L.take i)))])
    have hl3 : (szs a s (L.take i)).length < LL := lt_LL (by
      unfold szs
      rw [List.length_map]
      have h1 := List.length_filter_le (btw a s) (L.take i)
      have h2 := take_len L i
      omega)
    refine ⟨_, rfl, ?_⟩
    rw [take_succ ex, szs_snoc]
    obtain ⟨p, hp2⟩ : ∃ p, p = x ^^^ a := ⟨_, rfl⟩
    unfold btw
    generalize szs a s (L.take i) = Z at q1 q2 hl3
    have ia0 : iop .and 0 (-(s : Int) - 1) = some 0 := by
      have := iop_andn 0 s
      simpa using this
    have ias : iop .and (s : Int) (-(s : Int) - 1) = some 0 := by
      have := iop_andn s s
      rw [Nat.and_self] at this
      rw [this]
      simp
    by_cases h1 : p &&& s = p
    · have iap : iop .and (p : Int) (-(s : Int) - 1) = some 0 := by
        have := iop_andn p s
        rw [h1] at this
        rw [this]
        simp
      by_cases h2 : p = 0
      · rw [← hp2] at q2 ⊢
        refine .of (by
          simp [q1, ← hp2, h2, ia0]
          all_goals first | rfl | ((repeat' apply And.intro) <;> rfl)) ⟨by simp [h2], _, _, rfl⟩
      · by_cases h3 : p = s
        · rw [← hp2] at q2 ⊢
          have h2' : ¬ (s : Int) = 0 := by omega
          have h2'' : ¬ s = 0 := by omega
          refine .of (by
            simp [q1, ← hp2, ias, h3, h2', h2'']
            all_goals first | rfl | ((repeat' apply And.intro) <;> rfl)) ⟨by simp [h3], _, _, rfl⟩
        · have g1 := lg_not hk hL.lt iA iB hb hn hx (by rw [← hs, ← hp2]; exact h1) (by rw [← hs, ← hp2]; exact h3)
          have g2 := lg_two hk hL.lt iA iB hb hn hx (by rw [← hs, ← hp2]; exact h1) (by rw [← hp2]; exact h2) (by rw [← hs, ← hp2]; exact h3)
          rw [← hp2] at g1 g2 q2 ⊢
          rw [← hs] at g2
          have h2' : ¬ (p : Int) = 0 := by omega
          have h3' : ¬ (p : Int) = s := by omega
          have hbit := md_bit p t
          rw [g1] at hbit
          have g2' : ¬ ((pc p : Nat) : Int) < ((pc s : Nat) : Int) - 2 := by omega
          refine .of (by
            simp [q1, ← hp2, iap, h2, h2', h3, h3', iop_shr, iop_and1, hbit, q2, g2', hl3]
            all_goals first | rfl | ((repeat' apply And.intro) <;> rfl)) ⟨?_, _, _, rfl⟩
          simp [h1, h2, h3, dN]
    · rw [← hp2] at q2 ⊢
      have hne : ¬ ((p : Int) - ((p &&& s : Nat) : Int)) = 0 := by
        have := Nat.and_le_left (n := p) (m := s)
        omega
      have iap := iop_andn p s
      generalize (p : Int) - ((p &&& s : Nat) : Int) = w at hne iap
      refine .of (by
        simp [q1, ← hp2, iap, hne]
        all_goals first | rfl | ((repeat' apply And.intro) <;> rfl)) ⟨by simp [h1], _, _, rfl⟩
  · rintro env S0 ⟨rfl, e, f, rfl⟩
    rw [List.length_map, List.take_length]
    have bt : ∀ x, x ∈ L.filter (btw a s) ↔ x ∈ L ∧ (x ^^^ a) &&& s = x ^^^ a ∧ x ^^^ a ≠ 0 ∧ x ^^^ a ≠ s := fun x => by
      rw [List.mem_filter]
      simp [btw]
    by_cases h5 : 5 ≤ pc s
    · have : szs a s L = [] := by
        unfold szs
        rw [List.map_eq_nil_iff, List.eq_nil_iff_forall_not_mem]
        intro x hx
        obtain ⟨x1, x2, x3, x4⟩ := (bt x).mp hx
        have := lg_five hk hL.lt iA iB hb hn x1 (by rw [← hs]; exact x2) x3 (by rw [← hs]; exact x4)
        rw [← hs] at this
        omega
      have h5' : (5 : Int) ≤ (pc s : Nat) := by omega
      simp [this, h5, h5']
    · have h5' : ¬ (5 : Int) ≤ (pc s : Nat) := by omega
      by_cases h4 : pc s = 4
      · have q3 := nin_N ⟨P, run P T (n + 1), none⟩ (szs a s L) 3 (S ++ [.dead])
        rw [show ((3 : Nat) : Int) = 3 from rfl] at q3
        by_cases h3 : 3 ∈ szs a s L
        · have hc : (szs a s L).count 2 = 3 := by
            unfold szs at h3 ⊢
            obtain ⟨x, hx, x3⟩ := List.mem_map.mp h3
            obtain ⟨x1, x2, x4, x5⟩ := (bt x).mp hx
            rw [count_map, List.filter_filter]
            have key := fun z => lg_four hk hL.lt iA iB hb hn (by rw [← hs]; exact h4) x1 (by rw [← hs]; exact x2) x3 (z := z)
            have p : (L.filter fun z => decide (pc (z ^^^ a) = 2) && btw a s z).Perm ((lotN (x ^^^ a)).map fun y => x ^^^ pw y) := perm_of (List.Nodup.sublist List.filter_sublist hL.nd) (nodup_map (fun y z e => by
                have e2 := congrArg (x ^^^ ·) e
                simp only [xor_back] at e2
                exact pw_inj e2) (lotN_nodup _)) fun z => by
              rw [List.mem_filter, List.mem_map]
              have kz := key z
              rw [← hs] at kz
              constructor
              · rintro ⟨z1, z2⟩
                simp [btw] at z2
                obtain ⟨y, y1, y2⟩ := kz.mp ⟨z1, z2.2.1, z2.1⟩
                exact ⟨y, y1, y2.symm⟩
              · rintro ⟨y, y1, y2⟩
                obtain ⟨z1, z2, z3⟩ := kz.mpr ⟨y, y1, y2.symm⟩
                refine ⟨z1, ?_⟩
                have n0 : z ^^^ a ≠ 0 := fun q => by rw [q, pc_zero] at z3; omega
                have n1 : z ^^^ a ≠ s := fun q => by rw [q] at z3; omega
                simp [btw, z2, z3, n0, n1]
            rw [p.length_eq, List.length_map]
            exact x3
          have q4 := bm_cntN (szs a s L) 2 (S ++ [.dead])
          rw [hc, show ((2 : Nat) : Int) = 2 from rfl, show ((3 : Nat) : Int) = 3 from rfl] at q4
          simp [h5', h4, q3, h3, q4]
        · rw [decide_eq_false h3] at q3
          simp [h5', h4, q3]
      · have h4' : ¬ ((pc s : Nat) : Int) = 4 := by omega
        simp [h5, h5', h4, h4']
end K07
namespace K07
open G
theorem dN_erase : ∀ (l : List Nat) (i : Nat), (dN l).eraseIdx i = dN (l.eraseIdx i)
  | [], _ => rfl
  | x :: r, 0 => rfl
  | x :: r, i + 1 => by
    rw [dN_cons, List.eraseIdx_cons_succ, dN_erase r i, List.eraseIdx_cons_succ, dN_cons]
theorem erase_perm {l : List Nat} {i x : Nat} (h : l[i]? = some x) : (x :: l.eraseIdx i).Perm l := by
  induction l generalizing i with
  | nil => cases h
  | cons y r ih =>
    cases i with
    | zero => cases h; exact .refl _
    | succ i =>
      rw [List.eraseIdx_cons_succ]
      exact (List.Perm.swap y x _).trans ((ih h).cons y)
def MixInv (l : List Nat) (R : Sto) (i : Nat) (env : Frm) (S0 : Sto) : Prop := ∃ (r f : List Nat) (ds : List Int) (t : Option Va), (f ++ r).Perm l ∧ r.length + i = l.length ∧ f.length = i ∧ S0 = .lst (dI ds) :: (R ++ [.lst (dN r), .lst (dN f)]) ∧ env = [some (.r 0), some (.d (.tup (dN l))), some (.r (R.length + 1)), some (.r (R.length + 2)), t]
def MixEnd (l : List Nat) (R : Sto) (r : G.R Va) : Prop := ∃ (l' : List Nat) (ds' : List Int), l'.Perm l ∧ r = .ok (.f (.lst (dN l'))) (.lst (dI ds') :: R)
theorem app2_0 {α : Type} (R : List α) (a b c : α) : (a :: (R ++ [b, c]))[R.length + 1]? = some b := by simp
theorem app2_1 {α : Type} (R : List α) (a b c : α) : (a :: (R ++ [b, c]))[R.length + 2]? = some c := by simp
theorem set2_0 {α : Type} (R : List α) (a b c x : α) : (a :: (R ++ [b, c])).set (R.length + 1) x = a :: (R ++ [x, c]) := by simp
theorem set2_1 {α : Type} (R : List α) (a b c x : α) : (a :: (R ++ [b, c])).set (R.length + 2) x = a :: (R ++ [b, x]) := by
  simp
theorem run_mixed (n : Nat) (l : List Nat) (hl : l.length ≤ 100) (ds : List Int) (R : Sto) : MixEnd l R (run P T (n + 2) n__law_mixed [.r 0, .d (.tup (dN l))] (.lst (dI ds) :: R)) := by
  rw [run_of t__law_mixed rfl]
  simp [f__law_mixed, env0]
  refine for_turn (C := fun r => MixEnd l R (fin _ r)) (S1 := .lst (dI ds) :: (R ++ [.lst (dN l), .lst []])) (xs := (List.range l.length).map fun (i : Nat) => D.int i) (evI_rng1 (by simp) (by omega)) (MixInv l R) ⟨l, [], ds, none, .refl _, by simp, rfl, rfl, rfl⟩ ?_ ?_
  · rintro i y env S0 hy ⟨r, f, ds, t, hp, hr, hf, rfl, rfl⟩
    obtain ⟨j, hj, rfl⟩ := map_at hy
    obtain ⟨rfl, hi⟩ := range_at hj
    refine ⟨_, rfl, ?_⟩
    obtain ⟨v, ds2, hv, e1⟩ := run_take n (r.length : Nat) (by omega) ds (R ++ [.lst (dN r), .lst (dN f)])
    have hv2 : v < r.length := by omega
    obtain ⟨x, ex⟩ : ∃ x, r[v]? = some x := ⟨_, List.getElem?_eq_getElem hv2⟩
    have ex2 : (dN r)[v]? = some (.int (x : Nat)) := by rw [dN_get, ex]; rfl
    have e2 := bm_popAt (.lst (dI ds2) :: (R ++ [.lst (dN r), .lst (dN f)])) (R.length + 1) v (dN r) (app2_0 _ _ _ _) (by rw [dN_length]; exact hv2) (by omega) ex2
    rw [set2_0, dN_erase] at e2
    have hfl : f.length < LL := lt_LL (by omega)
    have e3 := fun cf => bi_len_r (cf := cf) (h := app2_0 R (.lst (dI ds)) (.lst (dN r)) (.lst (dN f)))
    rw [dN_length] at e3
    refine .of (by
      simp [e3, e1, e2, hfl]
      all_goals first | rfl | ((repeat' apply And.intro) <;> rfl)) ⟨r.eraseIdx v, f ++ [x], ds2, some (.d (.int j)), ?_, ?_, by simp [hf], by simp [dN], rfl⟩
    · have := erase_perm ex
      rw [List.append_assoc]
      exact (List.Perm.append_left f (by simpa using this)).trans hp
    · rw [List.length_eraseIdx_of_lt hv2]
      omega
  · rintro env S0 ⟨r, f, ds, t, hp, hr, hf, rfl, rfl⟩
    rw [List.length_map, List.length_range] at hr
    have hr0 : r = [] := List.length_eq_zero_iff.mp (by omega)
    subst hr0
    rw [List.append_nil] at hp
    refine ⟨f, ds, hp, ?_⟩
    simp [fin]
end K07
namespace K07
open G
/-! a spoilt lot -/
theorem lot_take {k m i : Nat} (h : m < pw k) : LotOk k ((lotN m).take i) := ⟨List.Nodup.sublist (List.take_sublist i _) (lotN_nodup m), fun t ht => lotN_lt h (List.mem_of_mem_take ht)⟩
theorem iop_pow20 : iop .pow 10 20 = some 100000000000000000000 := by decide +kernel
def SpEnd (k : Nat) (R : Sto) (r : G.R Va) : Prop := ∃ (xs : List D) (l : List Nat) (e : D) (ds' : List Int), Wrong k xs l e ∧ xs.length ≤ 100 ∧ shp e = true ∧ r = .ok (.f (.lst [.lst xs, .int (l.length : Nat)])) (.lst (dI ds') :: R)
theorem ins1 {α : Type} (R : List α) (a b x : α) : (a :: (R ++ [b])).set (R.length + 1) x = a :: (R ++ [x]) := by simp
theorem app1 {α : Type} (R : List α) (a b : α) : (a :: (R ++ [b]))[R.length + 1]? = some b := by simp
theorem run_spoilt (n k m : Nat) (hk : k ≤ 10) (h : m < pw k) (ds : List Int) (R : Sto) : SpEnd k R (run P T (n + 2) n__law_spoilt [.r 0, .d (.int k), .d (.int m)] (.lst (dI ds) :: R)) := by
  have h8L : 8 ≤ LL := le_LL (by omega)
  have h2L : 2 ≤ LL := le_LL (by omega)
  have hl : (lotN m).length ≤ 12 := pc_le m
  have hlL : (lotN m).length < LL := lt_LL (by omega)
  have hlL2 : (dN (lotN m)).length < LL := by rw [dN_length]; exact hlL
  have e0 := run_law_lot n m (.lst (dI ds) :: R)
  obtain ⟨a, ds1, ha, e1⟩ := run_take n (((lotN m).length : Nat) + 1 : Int) (by omega) ds (R ++ [.lst (dN (lotN m))])
  obtain ⟨w, ds2, hw, e2⟩ := run_take n 8 (by decide) ds1 (R ++ [.lst (dN (lotN m))])
  have hal : a ≤ (lotN m).length := by omega
  have e3 := fun cf => bi_len_r (cf := cf) (h := app1 R (.lst (dI ds)) (.lst (dN (lotN m))))
  rw [show (dN (lotN m)).length = (lotN m).length from dN_length _] at e3
  rw [run_of t__law_spoilt rfl]
  have ins := fun x => bm_ins (.lst (dI ds2) :: (R ++ [.lst (dN (lotN m))])) (R.length + 1) a x (dN (lotN m)) (app1 _ _ _) hlL2 (by omega)
  simp only [ins1] at ins
  have tk : (dN (lotN m)).take a = dN ((lotN m).take a) := by simp [dN, List.map_take]
  have len : ∀ x, ((dN (lotN m)).take a ++ [x] ++ (dN (lotN m)).drop a).length ≤ 100 := fun x => by
    have : (dN (lotN m)).length ≤ 12 := by rw [dN_length]; exact hl
    simp
    omega
  have fin1 : ∀ e, (BadE k e ∨ ∃ t ∈ (lotN m).take a, e = .int (t : Nat) ∧ t < k) → Wrong k ((dN (lotN m)).take a ++ [e] ++ (dN (lotN m)).drop a) ((lotN m).take a) e := fun e he => ⟨lot_take h, ⟨(dN (lotN m)).drop a, by rw [tk]; simp⟩, he⟩
  have la : ((lotN m).take a).length = a := by rw [List.length_take]; omega
  by_cases hc : 6 ≤ w ∧ 0 < a
  · have c1 : (6 : Int) ≤ w := by omega
    have c2 : (0 : Int) < a := by omega
    obtain ⟨t, et⟩ : ∃ t, (lotN m)[0]? = some t := ⟨_, List.getElem?_eq_getElem (by omega)⟩
    have et2 : (dN (lotN m))[0]? = some (.int (t : Nat)) := by rw [dN_get, et]; rfl
    have tm : t ∈ (lotN m).take a := List.mem_of_getElem? (i := 0) (by rw [List.getElem?_take_of_lt hc.2]; exact et)
    refine ⟨_, (lotN m).take a, .int t, ds2, fin1 (.int t) (.inr ⟨t, tm, rfl, (lot_take h).lt t tm⟩), len _, rfl, ?_⟩
    rw [la]
    have i1 := ins (.int t)
    generalize (dN (lotN m)).take a ++ [D.int (t : Nat)] ++ (dN (lotN m)).drop a = XS at i1
    simp [f__law_spoilt, env0, e0, lotD, e3, e1, e2, c1, c2, hc.1, hc.2, et2, i1, h2L]
  · have c1 : ¬ ((6 : Int) ≤ w ∧ (0 : Int) < a) := by omega
    obtain ⟨e, he, hb, hs⟩ : ∃ e, ([D.int k, .int (-1), .bl true, .non, .str "0", .int 100000000000000000000, .int ((k : Int) + 1), .int (-2)] : List D)[w]? = some e ∧ BadE k e ∧ shp e = true := by
      have : w < 8 := by omega
      match w, this with
      | 0, _ => exact ⟨_, rfl, bad_i (.inr (by omega)), rfl⟩
      | 1, _ => exact ⟨_, rfl, bad_i (.inl (by omega)), rfl⟩
      | 2, _ => exact ⟨_, rfl, bad_b _, rfl⟩
      | 3, _ => exact ⟨_, rfl, bad_n, rfl⟩
      | 4, _ => exact ⟨_, rfl, bad_s _, by decide +kernel⟩
      | 5, _ => exact ⟨_, rfl, bad_i (.inr (by
          have : (k : Int) ≤ 10 := by omega
          omega)), rfl⟩
      | 6, _ => exact ⟨_, rfl, bad_i (.inr (by omega)), rfl⟩
      | 7, _ => exact ⟨_, rfl, bad_i (.inl (by omega)), rfl⟩
    refine ⟨_, (lotN m).take a, e, ds2, fin1 e (.inl hb), len _, hs, ?_⟩
    rw [la]
    have i1 := ins e
    generalize (dN (lotN m)).take a ++ [e] ++ (dN (lotN m)).drop a = XS at i1
    by_cases c2 : 6 ≤ w
    · have c3 : (6 : Int) ≤ w := by omega
      have c4 : ¬ (0 : Int) < a := by omega
      have c5 : ¬ 0 < a := by omega
      have a0 : a = 0 := by omega
      simp [f__law_spoilt, env0, e0, lotD, e3, e1, e2, c2, c3, c4, c5, h8L, iop_pow20, he, i1, h2L]
    · have c3 : ¬ (6 : Int) ≤ w := by omega
      simp [f__law_spoilt, env0, e0, lotD, e3, e1, e2, c2, c3, h8L, iop_pow20, he, i1, h2L]
end K07
namespace K07
open G
/-- two draws, a number within a size -/
theorem draw6 (n k : Nat) (hk : k ≤ 10) (q : Nat) (hq : 0 < q) (hq2 : q < 2 ^ 60) (ds : List Int) (R : Sto) : ∃ (x y z w : Nat) (ds1 ds2 : List Int), w < pw k ∧ run P T (n + 1) n__law_take [.r 0, .d (.int 24)] (.lst (dI ds) :: R) = .ok (.d (.int x)) (.lst (dI ds1) :: R) ∧
    run P T (n + 1) n__law_take [.r 0, .d (.int (q : Nat))] (.lst (dI ds1) :: R) = .ok (.d (.int y)) (.lst (dI ds2) :: R) ∧ iop .mul 24 (y : Int) = some (24 * (y : Int)) ∧ (x : Int) + 24 * (y : Int) = (z : Nat) ∧ iop .and (z : Int) ((pw k : Int) - 1) = some (w : Nat) := by
  obtain ⟨x, ds1, hx, e1⟩ := run_take n 24 (by decide) ds R
  obtain ⟨y, ds2, hy, e2⟩ := run_take n (q : Nat) (by omega) ds1 R
  exact ⟨x, y, x + 24 * y, (x + 24 * y) &&& (pw k - 1), ds1, ds2, lowmask_lt k _, e1, e2, iop_mulL _ _ (by decide), by omega, lowmask k (by omega) _⟩
theorem in_false (cf : Cfg) (m : Nat) (p : Nat → Bool) (S : Sto) : cmpV cf .in_ (.d (.bl false)) (.d (.lst ((List.range m).map fun x => .bl (p x)))) S = .ok (.d (.bl (decide (∃ x, x < m ∧ p x = false)))) S := by
  show inV false (.d (.bl false)) (.d (.lst ((List.range m).map fun x => .bl (p x)))) S = _
  have h1 : ((List.range m).map fun x => D.bl (p x)).all flatD = true := by
    rw [List.all_eq_true]
    intro y hy
    obtain ⟨z, _, rfl⟩ := List.mem_map.mp hy
    rfl
  have h2 : (((List.range m).map fun x => D.bl (p x)).any fun y => eqD y (.bl false)) = decide (∃ x, x < m ∧ p x = false) := by
    by_cases h : ∃ x, x < m ∧ p x = false
    · rw [decide_eq_true h, List.any_eq_true]
      obtain ⟨x, hx, e⟩ := h
      exact ⟨.bl (p x), List.mem_map.mpr ⟨x, List.mem_range.mpr hx, rfl⟩, by rw [e]; simp [eqD]⟩
    · rw [decide_eq_false h, List.any_eq_false]
      intro y hy
      obtain ⟨z, hz, rfl⟩ := List.mem_map.mp hy
      have : p z = true := by
        cases q : p z with
        | true => rfl
        | false => exact (h ⟨z, List.mem_range.mp hz, q⟩).elim
      rw [this]
      simp [eqD]
  simp only [inV, seqV_l, h1, h2, flatD]
  rfl
def AnyInv (k : Nat) (R : Sto) (i : Nat) (env : Frm) (S0 : Sto) : Prop := ∃ (p : Nat → Bool) (ds : List Int) (t u : Option Va), (0 < i → ∃ x, x < pw k ∧ p x = true) ∧ S0 = .lst (dI ds) :: (R ++ [.lst ((List.range (pw k)).map fun x => .bl (p x))]) ∧ env = [some (.r 0), some (.d (.int 4)), some (.d (.int k)), some (.r (R.length + 1)), t, u, none]
def AnyEnd (R : Sto) (r : G.R Va) : Prop := ∃ k, 1 ≤ k ∧ k ≤ 7 ∧ FamEnd k R r
theorem run_any (n : Nat) (ds : List Int) (R : Sto) : ∃ k, 1 ≤ k ∧ k ≤ 4 ∧ FamEnd k R (run P T (n + 2) n__law_any [.r 0, .d (.int 4)] (.lst (dI ds) :: R)) := by
  have h2L : 2 ≤ LL := le_LL (by omega)
  obtain ⟨v, ds1, hv, e1⟩ := run_take n 4 (by decide) ds R
  refine ⟨v + 1, by omega, by omega, ?_⟩
  obtain ⟨k, hk⟩ : ∃ k, k = v + 1 := ⟨_, rfl⟩
  rw [← hk]
  have ek : (1 : Int) + (v : Int) = (k : Nat) := by omega
  have hp : pw k ≤ 16 := pw_le (b := 4) (by omega)
  have sh := iop_shl1 k (by omega)
  rw [run_of t__law_any rfl]
  have ec := comp_map (own := [5]) (i := 5) (src := .rng [.bin .shl (.con (.int 1)) (.var 2)]) (e := .con (.bl false)) (cf := ⟨P, run P T (n + 1), none⟩) (env := [some (.r 0), some (.d (.int 4)), some (.d (.int k)), none, none, none, none]) (S := .lst (dI ds1) :: R) (S1 := .lst (dI ds1) :: R)
    (List.range (pw k)) (fun t => .int (t : Nat)) (fun _ => .bl false) (evI_rng1 (by simp [sh]) (by omega)) (fun t _ => by simp) (le_LL (by rw [List.length_range]; omega))
  simp [f__law_any, env0, e1, ek, ec]
  obtain ⟨c, ds2, hc, e2⟩ := run_take n 12 (by decide) ds1 (R ++ [.lst ((List.range (pw k)).map fun _ => .bl false)])
  obtain ⟨cc, hcc⟩ : ∃ cc : Nat, cc = 1 + c := ⟨_, rfl⟩
  have ec1 : (1 : Int) + (c : Int) = (cc : Nat) := by omega
  refine for_turn (C := fun r => FamEnd k R (fin _ r)) (S1 := .lst (dI ds2) :: (R ++ [.lst ((List.range (pw k)).map fun _ => .bl false)])) (xs := (List.range cc).map fun (i : Nat) => D.int i) (evI_rng1 (by simp [e2, ec1]) (by omega)) (AnyInv k R) ⟨fun _ => false, ds2, none, none, fun h => absurd h (Nat.lt_irrefl 0), rfl, rfl⟩ ?_ ?_
  · rintro i y env S0 hy ⟨p, ds, t, u, hpx, rfl, rfl⟩
    obtain ⟨j, hj, rfl⟩ := map_at hy
    obtain ⟨rfl, hi⟩ := range_at hj
    refine ⟨_, rfl, ?_⟩
    obtain ⟨x, y, z, w, ds3, ds4, hw, q1, q2, q3, q4, q5⟩ := draw6 n k (by omega) 3 (by omega) (by omega) ds (R ++ [.lst ((List.range (pw k)).map fun x => .bl (p x))])
    rw [show ((3 : Nat) : Int) = 3 from rfl] at q2
    refine .of (by
      simp [q1, q2, q3, q4, sh, q5, set_range hw, hw]
      all_goals first | rfl | ((repeat' apply And.intro) <;> rfl)) ⟨fun y => if y = w then true else p y, ds4, some (.d (.int j)), some (.d (.int w)), fun _ => ⟨w, hw, by simp⟩, ?_, rfl⟩
    congr 5
    funext y
    by_cases q : y = w <;> simp [q]
  · rintro env S0 ⟨p, ds, t, u, hpx, rfl, rfl⟩
    rw [List.length_map, List.length_range] at hpx
    obtain ⟨x0, hx0, px0⟩ := hpx (by omega)
    obtain ⟨w, ds3, hw, q1⟩ := run_take n 4 (by decide) ds (R ++ [.dead])
    have key : ∀ (p2 : Nat → Bool) (o5 o6 : Option Va), (∃ x, x < pw k ∧ p2 x = true) → evE (.comp [5] (.nm 5) (.rng [.bin .shl (.con (.int 1)) (.var 2)]) (.idx (.var 3) (.var 5)) (.var 5)) ⟨P, run P T (n + 1), none⟩ [some (.r 0), some (.d (.int 4)), some (.d (.int k)), some (.d (.lst ((List.range (pw k)).map fun x => .bl (p2 x)))), t, o5, o6] (.lst (dI ds3) :: (R ++ [.dead])) = .ok (.f (.lst (dN ((List.range (pw k)).filter p2)))) (.lst (dI ds3) :: (R ++ [.dead])) := fun p2 o5 o6 _ =>
      comp_flat (own := [5]) (i := 5) (List.range (pw k)) (fun t => .int (t : Nat)) p2 (fun t => .int (t : Nat)) (evI_rng1 (by simp [sh]) (by omega)) (fun t ht => by simp [wipe, rng_at (List.mem_range.mp ht)]) (fun t _ _ => by simp [wipe]) (le_LL (by rw [List.length_range]; omega))
    have ne2 : ∀ p2 : Nat → Bool, (∃ x, x < pw k ∧ p2 x = true) → (List.range (pw k)).filter p2 ≠ [] := fun p2 ⟨x, hx, e⟩ q => by
      have : x ∈ (List.range (pw k)).filter p2 := List.mem_filter.mpr ⟨List.mem_range.mpr hx, e⟩
      rw [q] at this
      cases this
    have inF := fun cf S => in_false cf (pw k) p S
    by_cases hf : w = 3 ∧ ∃ x, x < pw k ∧ p x = false
    · obtain ⟨x1, hx1, px1⟩ := hf.2
      have e3 := comp_map (own := [6]) (i := 6) (src := .var 3) (e := .not (.var 6)) (cf := ⟨P, run P T (n + 1), none⟩) (env := [some (.r 0), some (.d (.int 4)), some (.d (.int k)), some (.d (.lst ((List.range (pw k)).map fun x => .bl (p x)))), t, u, none]) (S := .lst (dI ds3) :: (R ++ [.dead])) (S1 := .lst (dI ds3) :: (R ++ [.dead]))
        (List.range (pw k)) (fun x => .bl (p x)) (fun x => .bl (!p x)) (by simp) (fun x _ => by simp [wipe]) (le_LL (by rw [List.length_range]; omega))
      have hq : ∃ x, x < pw k ∧ (!p x) = true := ⟨x1, hx1, by rw [px1]; rfl⟩
      have e4 := key (fun x => !p x) u none hq
      have w3 : (w : Int) = 3 := by omega
      have inF2 := inF ⟨P, run P T (n + 1), none⟩ (.lst (dI ds3) :: (R ++ [.dead]))
      rw [decide_eq_true hf.2] at inF2
      refine ⟨_, ds3, Msk.filt k fun x => !p x, ne2 _ hq, ?_⟩
      simp [q1, w3, hf.1, inF2, e3, e4, h2L]
    · have e4 := key p u none ⟨x0, hx0, px0⟩
      refine ⟨_, ds3, Msk.filt k p, ne2 _ ⟨x0, hx0, px0⟩, ?_⟩
      by_cases w3 : w = 3
      · have w3' : (w : Int) = 3 := by omega
        have inF2 := inF ⟨P, run P T (n + 1), none⟩ (.lst (dI ds3) :: (R ++ [.dead]))
        rw [decide_eq_false fun q => hf ⟨w3, q⟩] at inF2
        simp [q1, w3, w3', inF2, e4, h2L]
      · have w3' : ¬ (w : Int) = 3 := by omega
        simp [q1, w3, w3', e4, h2L]
end K07
namespace K07
open G
theorem nin_r (cf : Cfg) (l : List Nat) (x i : Nat) (S : Sto) (h : S[i]? = some (.lst (dN l))) : cmpV cf .nin (.d (.int x)) (.r i) S = .ok (.d (.bl (!decide (x ∈ l)))) S := by
  show inV true (.d (.int x)) (.r i) S = _
  simp only [inV, seqV_r, h, flat_dN, any_nat]
  rfl
/-- the masks as they grow -/
structure Bm (m i : Nat) (ms : List Nat) : Prop where
  ok : Msk m ms
  ne : ms ≠ []
  len : ms.length ≤ i + 2
def BwQ (m sz W i : Nat) (R : Sto) (env : Frm) (S0 : Sto) : Prop := ∃ (ms : List Nat) (ds : List Int) (t u : Option Va), Bm m i ms ∧ S0 = .lst (dI ds) :: (R ++ [.lst (dN ms)]) ∧ env = [some (.r 0), some (.d (.int m)), some (.d (.int sz)), some (.d (.int W)), some (.r (R.length + 1)), t, u, none, none]
def bwBody : List Sm := [.asg (.nm 6) (.bin .xor (.var 3) (.bin .shl (.con (.int 1)) (.call n__law_take [.var 0, .var 1]))), .ite (.cmp .gt (.call n__law_take [.var 0, .con (.int 3)]) (.con (.int 0))) [.asg (.nm 6) (.bin .and (.var 6) (.inv (.bin .shl (.con (.int 1)) (.call n__law_take [.var 0, .var 1]))))] [],
  .ite (.cmp .eq (.call n__law_take [.var 0, .con (.int 8)]) (.con (.int 7))) [.asg (.nm 6) (.bin .and (.bin .add (.call n__law_take [.var 0, .con (.int 24)]) (.bin .mul (.con (.int 24)) (.call n__law_take [.var 0, .con (.int 6)]))) (.var 3))] [], .ite (.cmp .nin (.var 6) (.var 4)) [.ex (.bm .append (.var 4) [.var 6])] []]
section
variable (n m sz W i j : Nat) (R : Sto) (hm : m ≤ 10) (hm1 : 1 ≤ m) (hW : (pw m : Int) - 1 = (W : Nat)) (hi : i < 10)
include hm hi
theorem bw4 (ms : List Nat) (ds : List Int) (lot : Nat) (h : Bm m i ms) (hl : lot < pw m) : Turn (exSs (bwBody.drop 3) ⟨P, run P T (n + 1), none⟩ [some (.r 0), some (.d (.int m)), some (.d (.int sz)), some (.d (.int W)), some (.r (R.length + 1)), some (.d (.int j)), some (.d (.int lot)), none, none] (.lst (dI ds) :: (R ++ [.lst (dN ms)]))) (BwQ m sz W (i + 1) R) := by
  have e1 := fun cf => nin_r cf ms lot (R.length + 1) (.lst (dI ds) :: (R ++ [.lst (dN ms)])) (by simp)
  have h2 := h.len
  by_cases q : lot ∈ ms
  · refine .of (by
      simp [bwBody, e1, q]
      all_goals first | rfl | ((repeat' apply And.intro) <;> rfl)) ⟨ms, ds, _, _, ⟨h.ok, h.ne, by omega⟩, rfl, rfl⟩
  · have hL : ms.length < LL := lt_LL (by omega)
    refine .of (by
      simp [bwBody, e1, q, hL]
      all_goals first | rfl | ((repeat' apply And.intro) <;> rfl)) ⟨ms ++ [lot], ds, _, _, ⟨⟨?_, fun x hx => ?_⟩, by simp, by simp; omega⟩, by simp [dN], rfl⟩
    · rw [List.nodup_append]
      refine ⟨h.ok.nd, by simp, fun a ha b hb e => ?_⟩
      rw [List.mem_singleton.mp hb] at e
      exact q (e ▸ ha)
    · rcases List.mem_append.mp hx with hx | hx
      · exact h.ok.lt x hx
      · rw [List.mem_singleton.mp hx]; exact hl
include hW
theorem bw3 (ms : List Nat) (ds : List Int) (lot : Nat) (h : Bm m i ms) (hl : lot < pw m) : Turn (exSs (bwBody.drop 2) ⟨P, run P T (n + 1), none⟩ [some (.r 0), some (.d (.int m)), some (.d (.int sz)), some (.d (.int W)), some (.r (R.length + 1)), some (.d (.int j)), some (.d (.int lot)), none, none] (.lst (dI ds) :: (R ++ [.lst (dN ms)]))) (BwQ m sz W (i + 1) R) := by
  obtain ⟨v, ds1, hv, e1⟩ := run_take n 8 (by decide) ds (R ++ [.lst (dN ms)])
  by_cases q : v = 7
  · have q' : (v : Int) = 7 := by omega
    obtain ⟨x, y, z, w, ds2, ds3, hw, q1, q2, q3, q4, q5⟩ := draw6 n m hm 6 (by omega) (by omega) ds1 (R ++ [.lst (dN ms)])
    rw [show ((6 : Nat) : Int) = 6 from rfl] at q2
    rw [hW] at q5
    have fin := bw4 n m sz W i j R hm hi ms ds3 w h hw
    simp [bwBody] at fin
    simp [bwBody, e1, q, q', q1, q2, q3, q4, q5]
    exact fin
  · have q' : ¬ (v : Int) = 7 := by omega
    have fin := bw4 n m sz W i j R hm hi ms ds1 lot h hl
    simp [bwBody] at fin
    simp [bwBody, e1, q, q']
    exact fin
include hm1
theorem bw2 (ms : List Nat) (ds : List Int) (lot : Nat) (h : Bm m i ms) (hl : lot < pw m) : Turn (exSs (bwBody.drop 1) ⟨P, run P T (n + 1), none⟩ [some (.r 0), some (.d (.int m)), some (.d (.int sz)), some (.d (.int W)), some (.r (R.length + 1)), some (.d (.int j)), some (.d (.int lot)), none, none] (.lst (dI ds) :: (R ++ [.lst (dN ms)]))) (BwQ m sz W (i + 1) R) := by
  obtain ⟨v, ds1, hv, e1⟩ := run_take n 3 (by decide) ds (R ++ [.lst (dN ms)])
  by_cases q : 0 < v
  · have q' : (0 : Int) < v := by omega
    obtain ⟨u, ds2, hu, e2⟩ := run_take n (m : Nat) (by omega) ds1 (R ++ [.lst (dN ms)])
    have hle := Nat.and_le_left (n := lot) (m := pw u)
    have e3 := iop_andn lot (pw u)
    obtain ⟨x, hx⟩ : ∃ x : Nat, (lot : Int) - ((lot &&& pw u : Nat) : Int) = (x : Nat) := ⟨lot - (lot &&& pw u), by omega⟩
    rw [hx] at e3
    have fin := bw3 n m sz W i j R hm hW hi ms ds2 x h (by omega)
    simp [bwBody] at fin
    simp [bwBody, e1, q, q', e2, iop_shl1 u (by omega), e3]
    exact fin
  · have q' : ¬ (0 : Int) < v := by omega
    have q0 : v = 0 := by omega
    have fin := bw3 n m sz W i j R hm hW hi ms ds1 lot h hl
    simp [bwBody] at fin
    simp [bwBody, e1, q, q', q0]
    exact fin
theorem bw1 (ms : List Nat) (ds : List Int) (u : Option Va) (h : Bm m i ms) : Turn (exSs bwBody ⟨P, run P T (n + 1), none⟩ [some (.r 0), some (.d (.int m)), some (.d (.int sz)), some (.d (.int W)), some (.r (R.length + 1)), some (.d (.int j)), u, none, none] (.lst (dI ds) :: (R ++ [.lst (dN ms)]))) (BwQ m sz W (i + 1) R) := by
  obtain ⟨v, ds1, hv, e1⟩ := run_take n (m : Nat) (by omega) ds (R ++ [.lst (dN ms)])
  have hvm : v < m := by omega
  have hWl : W < pw m := by omega
  have fin := bw2 n m sz W i j R hm hm1 hW hi ms ds1 (W ^^^ pw v) h (xor_lt hWl (pw_lt hvm))
  simp [bwBody] at fin
  simp [bwBody, e1, iop_shl1 v (by omega)]
  exact fin
end
end K07
namespace K07
open G
theorem dbl_msk {m : Nat} {ms : List Nat} (h : Msk m ms) : Msk (m + 1) (ms ++ ms.map fun x => x + pw m) := by
  refine ⟨?_, fun x hx => ?_⟩
  · rw [List.nodup_append]
    refine ⟨h.nd, nodup_map (fun a b e => by omega) h.nd, fun a ha b hb e => ?_⟩
    obtain ⟨c, hc, rfl⟩ := List.mem_map.mp hb
    have := h.lt a ha
    omega
  · rw [pw_succ]
    rcases List.mem_append.mp hx with hx | hx
    · have := h.lt x hx
      omega
    · obtain ⟨c, hc, rfl⟩ := List.mem_map.mp hx
      have := h.lt c hc
      omega
def BwEnd (R : Sto) (r : G.R Va) : Prop := ∃ k ms ds', 1 ≤ k ∧ k ≤ 7 ∧ Msk k ms ∧ ms ≠ [] ∧ ms.length ≤ 128 ∧ r = .ok (.f (.lst [.int k, .lst (dN ms)])) (.lst (dI ds') :: R)
theorem bw_tail (n m k : Nat) (hk1 : 1 ≤ k) (hk : k ≤ 7) (ms : List Nat) (hm : Msk k ms) (ne : ms ≠ []) (ds : List Int) (W : Nat) (a b c : Option Va) (R : Sto) : BwEnd R (fin (R.length + 1) (exSs (f__law_between.body.drop 7) ⟨P, run P T (n + 1), none⟩ [some (.r 0), some (.d (.int m)), some (.d (.int k)), some (.d (.int W)), some (.d (.lst (dN ms))), a, b, none, c] (.lst (dI ds) :: (R ++ [.dead])))) := by
  have h2L : 2 ≤ LL := le_LL (by omega)
  have hp : pw k ≤ 128 := pw_le (b := 7) hk
  have hl := hm.len
  obtain ⟨x, y, z, w, ds2, ds3, hw, q1, q2, q3, q4, q5⟩ := draw6 n k (by omega) 6 (by omega) (by omega) ds (R ++ [.dead])
  rw [show ((6 : Nat) : Int) = 6 from rfl] at q2
  have e1 := run_turned n ms w (by omega) (.lst (dI ds3) :: (R ++ [.dead]))
  have ht := hm.turn hw
  have hne : srtN (ms.map fun m => m ^^^ w) ≠ [] := fun e => ne (by
    have p := srtN_perm (ms.map fun m => m ^^^ w)
    rw [e] at p
    exact List.map_eq_nil_iff.mp p.symm.eq_nil)
  refine ⟨k, _, ds3, hk1, hk, ht, hne, by have := ht.len; omega, ?_⟩
  generalize srtN (ms.map fun m => m ^^^ w) = ts at e1
  simp [f__law_between, q1, q2, q3, q4, iop_shl1 k (by omega), q5, e1, h2L]
theorem run_between (n : Nat) (ds : List Int) (R : Sto) : BwEnd R (run P T (n + 2) n__law_between [.r 0] (.lst (dI ds) :: R)) := by
  have h2L : 2 ≤ LL := le_LL (by omega)
  obtain ⟨v, ds1, hv, e1⟩ := run_take n 5 (by decide) ds R
  obtain ⟨m, hm⟩ : ∃ m, m = 3 + v := ⟨_, rfl⟩
  have em : (3 : Int) + (v : Int) = (m : Nat) := by omega
  have hm7 : m ≤ 7 := by omega
  obtain ⟨u, ds2, hu, e2⟩ := run_take n 2 (by decide) ds1 R
  obtain ⟨k, hk⟩ : ∃ k, k = min 7 (m + u) := ⟨_, rfl⟩
  have ek : (if ((m : Int) + (u : Int)) < 7 then ((m : Int) + (u : Int)) else 7) = (k : Nat) := by split <;> omega
  have emin : ∀ cf S, biV cf .min [.d (.int 7), .d (.int ((m : Int) + (u : Int)))] S = .ok (.d (.int (k : Nat))) S := fun cf S => by rw [bi_min2, ek]
  obtain ⟨W, hW⟩ : ∃ W : Nat, (pw m : Int) - 1 = (W : Nat) := ⟨pw m - 1, by have := pw_pos m; omega⟩
  have hWl : W < pw m := by omega
  have pm8 : pw 3 ≤ pw m := pw_le (by omega)
  have p3 : pw 3 = 8 := rfl
  rw [run_of t__law_between rfl]
  simp [f__law_between, env0, e1, em, e2, emin, iop_shl1 m (by omega), hW, h2L, -bi_min2]
  obtain ⟨c, ds3, hc, e3⟩ := run_take n 8 (by decide) ds2 (R ++ [.lst [.int 0, .int (W : Nat)]])
  refine for_turn (C := fun r => BwEnd R (fin _ r)) (S1 := .lst (dI ds3) :: (R ++ [.lst (dN [0, W])])) (xs := (List.range c).map fun (i : Nat) => D.int i) (evI_rng1 (by simp [e3]) (by omega)) (fun i env S0 => BwQ m k W (min i c) R env S0) ⟨[0, W], ds3, none, none, ⟨⟨by simp; omega, fun x hx => ?_⟩, by simp, by simp⟩, rfl, rfl⟩ ?_ ?_
  · rcases List.mem_cons.mp hx with rfl | hx
    · exact pw_pos m
    · rw [List.mem_singleton.mp hx]; exact hWl
  · rintro i y env S0 hy ⟨ms, ds, t, u, hb, rfl, rfl⟩
    obtain ⟨j, hj, rfl⟩ := map_at hy
    obtain ⟨rfl, hi⟩ := range_at hj
    refine ⟨_, rfl, ?_⟩
    have := bw1 n m k W j j R (by omega) (by omega) hW (by omega) ms ds u (by rw [show min j c = j by omega] at hb; exact hb)
    rw [show min (j + 1) c = j + 1 by omega]
    exact this
  · rintro env S0 ⟨ms, ds, t, u, hb, rfl, rfl⟩
    rw [List.length_map, List.length_range, Nat.min_self] at hb
    have hbl := hb.len
    by_cases hkm : m < k
    · have hkm' : (m : Int) < k := by omega
      obtain ⟨w, ds4, hw, e4⟩ := run_take n 2 (by decide) ds (R ++ [.dead])
      have km : k = m + 1 := by omega
      by_cases hw1 : w = 1
      · have hw1' : (w : Int) = 1 := by omega
        have e5 := comp_map (own := [8]) (i := 8) (src := .var 4) (e := .bin .add (.var 8) (.bin .shl (.con (.int 1)) (.var 1))) (cf := ⟨P, run P T (n + 1), none⟩) (env := [some (.r 0), some (.d (.int m)), some (.d (.int k)), some (.d (.int W)), some (.d (.lst (dN ms))), t, u, none, none]) (S := .lst (dI ds4) :: (R ++ [.dead])) (S1 := .lst (dI ds4) :: (R ++ [.dead]))
          ms (fun t => .int (t : Nat)) (fun x => .int (x + pw m : Nat)) (by simp [dN]) (fun x _ => by simp [wipe, iop_shl1 m (by omega)]) (le_LL (by omega))
        have eN : (ms.map fun x => D.int (x + pw m : Nat)) = dN (ms.map fun x => x + pw m) := by simp [dN, Function.comp_def]
        rw [eN] at e5
        have hd := dbl_msk hb.ok
        rw [← km] at hd
        have hlen : ms.length + (ms.map fun x => x + pw m).length ≤ LL := le_LL (by simp; omega)
        have fin := bw_tail n m k (by omega) (by omega) (ms ++ ms.map fun x => x + pw m) hd (by simp [hb.ne]) ds4 W t u none R
        simp [f__law_between] at fin
        generalize (ms.map fun x => x + pw m) = DD at *
        simp [hkm, hkm', e4, hw1, hw1', e5, fl, hlen]
        exact fin
      · have hw1' : ¬ (w : Int) = 1 := by omega
        have ok2 : Msk k ms := ⟨hb.ok.nd, fun x hx => Nat.lt_of_lt_of_le (hb.ok.lt x hx) (pw_le (by omega))⟩
        have fin := bw_tail n m k (by omega) (by omega) ms ok2 hb.ne ds4 W t u none R
        simp [f__law_between] at fin
        simp [hkm, hkm', e4, hw1, hw1']
        exact fin
    · have hkm' : ¬ (m : Int) < k := by omega
      have km : k = m := by omega
      have fin := bw_tail n m k (by omega) (by omega) ms (km ▸ hb.ok) hb.ne ds W t u none R
      simp [f__law_between] at fin
      simp [hkm, hkm']
      exact fin
end K07
namespace K07
open G
theorem right_lot {k m : Nat} (hk : k ≤ 12) (h : m < pw k) : Right k (lotD m) m := ⟨lotN m, .inl rfl, lot_ok h, lotN_num (pw12 h hk)⟩
theorem right_rev {k m : Nat} (hk : k ≤ 12) (h : m < pw k) : Right k (.tup (dN (lotN m).reverse)) m := ⟨(lotN m).reverse, .inl rfl, lot_ok_rev h, lotN_num_rev (pw12 h hk)⟩
theorem right_mix {k m : Nat} {l : List Nat} (hk : k ≤ 12) (h : m < pw k) (p : l.Perm (lotN m)) : Right k (.lst (dN l)) m := ⟨l, .inr rfl, ⟨(p.nodup_iff).mpr (lotN_nodup m), fun t ht => lotN_lt h (p.mem_iff.mp ht)⟩, by rw [numOf_perm p]; exact lotN_num (pw12 h hk)⟩
section
variable (n : Nat) {k : Nat} {L : List Nat} {v : Va} {S : Sto} (hk : k ≤ 10) (hv : Fm v S k L)
include hk hv
theorem ls_x {x : D} {p : Int} (y t : D) (hx : WrongAt k x p) : run P T (n + 8) n__law_sort [v, .d x, .d y, .d t] S = .ok (.d (.tup [.str "lot", .int p])) S :=
  run_law_sort_ex (n + 6) x y t (.int p) 1 "lot" hv.stl (.inl ⟨rfl, rfl⟩) (run_sort_ex (n + 5) x y t 1 [.int p] hv.stl (run_two_x n k L x y t p hk hx hv))
theorem ls_y {x y : D} {a : Nat} {p : Int} (t : D) (hx : Right k x a) (hy : WrongAt k y p) : run P T (n + 8) n__law_sort [v, .d x, .d y, .d t] S = .ok (.d (.tup [.str "lot", .int p])) S :=
  run_law_sort_ex (n + 6) x y t (.int p) 1 "lot" hv.stl (.inl ⟨rfl, rfl⟩) (run_sort_ex (n + 5) x y t 1 [.int p] hv.stl (run_two_y n k L x y t a p hk hx hy hv))
theorem ls_t {x y t : D} {a b : Nat} (hx : Right k x a) (hy : Right k y b) (ht : BadT k t) : run P T (n + 8) n__law_sort [v, .d x, .d y, .d t] S = .ok (.d (.tup [.str "thing", t])) S :=
  run_law_sort_ex (n + 6) x y t t 2 "thing" hv.stl (.inr (.inl ⟨rfl, rfl⟩)) (run_sort_ex (n + 5) x y t 2 [t] hv.stl (run_two_t n k L x y t a b hk hx hy ht hv))
theorem ls_s {x y : D} {a b t : Nat} (hx : Right k x a) (hy : Right k y b) (ht : t < k) (hbt : (a ^^^ b).testBit t = false) : run P T (n + 8) n__law_sort [v, .d x, .d y, .d (.int t)] S = .ok (.d (.tup [.str "thing", .int t])) S :=
  run_law_sort_ex (n + 6) x y (.int t) (.int t) 2 "thing" hv.stl (.inr (.inl ⟨rfl, rfl⟩)) (run_sort_ex (n + 5) x y (.int t) 2 [.int t] hv.stl (run_two_s n k L x y a b t hk hx hy ht hbt hv))
theorem ls_a {x y : D} {a b t : Nat} (h : Args k x y a b t) (iA : a ∉ L) : run P T (n + 8) n__law_sort [v, .d x, .d y, .d (.int t)] S = .ok (.d (.tup [.str "inside", lotD a])) S :=
  run_law_sort_ex (n + 6) x y (.int t) (lotD a) 3 "inside" hv.stl (.inr (.inr (.inl ⟨rfl, rfl⟩))) (run_sort_ex (n + 5) x y (.int t) 3 [lotD a] hv.stl (run_two_a n k L x y a b t hk h.rx h.ry h.la h.lt h.bt iA hv))
theorem ls_b {x y : D} {a b t : Nat} (h : Args k x y a b t) (iA : a ∈ L) (iB : b ∉ L) : run P T (n + 8) n__law_sort [v, .d x, .d y, .d (.int t)] S = .ok (.d (.tup [.str "inside", lotD b])) S :=
  run_law_sort_ex (n + 6) x y (.int t) (lotD b) 3 "inside" hv.stl (.inr (.inr (.inl ⟨rfl, rfl⟩))) (run_sort_ex (n + 5) x y (.int t) 3 [lotD b] hv.stl (run_two_b n k L x y a b t hk h.rx h.ry h.la h.lb h.lt h.bt iA iB hv))
theorem ls_gap (hL : ∀ m ∈ L, m < pw k) {x y : D} {a b t : Nat} (h : Args k x y a b t) (iA : a ∈ L) (iB : b ∈ L) (hb : ¬ (Brk k L a b t ∧ NoBrk k L 1 (pc (a ^^^ b) - 1))) : run P T (n + 9) n__law_sort [v, .d x, .d y, .d (.int t)] S = .ok (.d (.tup [.str "number", .str "gap"])) S :=
  run_law_sort_ex (n + 7) x y (.int t) (.str "gap") 4 "number" hv.stl (.inr (.inr (.inr ⟨rfl, rfl⟩))) (run_sort_gap (n + 1) k L x y a b t hk hL h iA iB hb hv)
theorem ls_ok (hL : ∀ m ∈ L, m < pw k) {x y : D} {a b t : Nat} (h : Args k x y a b t) (iA : a ∈ L) (iB : b ∈ L) (hb : Brk k L a b t) (hn : NoBrk k L 1 (pc (a ^^^ b) - 1)) : run P T (n + 9) n__law_sort [v, .d x, .d y, .d (.int t)] S = .ok (.d (.int (min (pc (a ^^^ b)) 5 : Nat))) S :=
  run_law_sort_ok (n + 7) x y (.int t) _ hv.stl (run_sort_ok (n + 1) k L x y a b t hk hL h iA iB hb hn hv)
end
theorem pl_lot : plain (.str "lot") = true := by decide +kernel
theorem pl_thing : plain (.str "thing") = true := by decide +kernel
theorem pl_inside : plain (.str "inside") = true := by decide +kernel
theorem pl_number : plain (.str "number") = true := by decide +kernel
theorem pl_gap : plain (.str "gap") = true := by decide +kernel
theorem pl_lotD (m : Nat) : plain (lotD m) = true ∧ dep (lotD m) ≤ 38 := by
  unfold lotD
  rw [dN_lot]
  rw [plain, plains_dI, dep, deps_dI]
  exact ⟨rfl, by omega⟩
theorem shp_i {w : PySem.Str} (hw : plain (.str w) = true) (i : Int) : shp (.tup [.str w, .int i]) = true := shp_two hw rfl (by simp [dep])
end K07
namespace K07
open G
theorem idx_lot0 {z t : Nat} (h : (lotN z)[0]? = some t) (S : Sto) : idxV (.d (lotD z)) (.d (.int 0)) S = .ok (.d (.int t)) S := by
  unfold lotD
  rw [idx_t, ati_0, dN_get, h]
  rfl
theorem lot_first {k z : Nat} (hk : k ≤ 10) (hz : z < pw k) (h : z ≠ 0) : ∃ t, (lotN z)[0]? = some t ∧ z.testBit t = true := by
  have hp : 0 < pc z := by
    rcases Nat.eq_zero_or_pos (pc z) with q | q
    · exact (h (pc0 hk hz q)).elim
    · exact q
  have e : (lotN z)[0]? = some (lotN z)[0] := List.getElem?_eq_getElem hp
  exact ⟨_, e, (lotN_mem.mp (List.mem_of_getElem? e)).2⟩
theorem run_refusals (n k : Nat) (ms L : List Nat) (k1 : 1 ≤ k) (hk : k ≤ 7) (hm : Msk k ms) (ne : ms ≠ []) (hLm : ∀ x, x ∈ L ↔ x ∈ ms) {v : Va} (hv : ∀ S, Fm v S k L) (ds : List Int) (R : Sto) :
    ∃ ds', run P T (n + 9) n__law_refusals [.r 0, .d (.int k), .d (.lst (dN ms)), v] (.lst (dI ds) :: R) = .ok (.d (.bl true)) (.lst (dI ds') :: R) := by
  have k10 : k ≤ 10 := by omega
  have k12 : k ≤ 12 := by omega
  have h2L : 2 ≤ LL := le_LL (by omega)
  have h4L : 4 ≤ LL := le_LL (by omega)
  have hp : pw k ≤ 128 := pw_le (b := 7) hk
  have hpos := pw_pos k
  have hlen : 0 < ms.length := List.length_pos_iff.mpr ne
  obtain ⟨m0, em0⟩ : ∃ m0, ms[0]? = some m0 := ⟨_, List.getElem?_eq_getElem hlen⟩
  have im0 := List.mem_of_getElem? em0
  have lm0 := hm.lt m0 im0
  have em0' : (dN ms)[0]? = some (.int (m0 : Nat)) := by rw [dN_get, em0]; rfl
  have emz := ati_last ne
  obtain ⟨mz, hmz⟩ : ∃ mz, mz = ms.getD (ms.length - 1) 0 := ⟨_, rfl⟩
  rw [← hmz] at emz
  have imz : mz ∈ ms := by
    rw [hmz, List.getD_eq_getElem?_getD, List.getElem?_eq_getElem (by omega)]
    exact List.getElem_mem _
  have lmz := hm.lt mz imz
  obtain ⟨x, ds1, hx, e1⟩ := run_take (n + 7) (pw k : Nat) (by omega) ds R
  obtain ⟨xs, l, e, ds2, hw, hl100, hse, e2⟩ := run_spoilt (n + 6) k x k10 (by omega) ds1 R
  obtain ⟨w, ds3, hw4, e3⟩ := run_take (n + 7) 4 (by decide) ds2 R
  obtain ⟨wr, ewr, bwr, pwr, dwr⟩ : ∃ wr, ([D.int k, .int (-1), .non, .bl true] : List D)[w]? = some wr ∧ BadE k wr ∧ plain wr = true ∧ dep wr ≤ 38 := by
    have : w < 4 := by omega
    match w, this with
    | 0, _ => exact ⟨_, rfl, bad_i (.inr (by omega)), rfl, by simp [dep]⟩
    | 1, _ => exact ⟨_, rfl, bad_i (.inl (by omega)), rfl, by simp [dep]⟩
    | 2, _ => exact ⟨_, rfl, bad_n, rfl, by simp [dep]⟩
    | 3, _ => exact ⟨_, rfl, bad_b _, rfl, by simp [dep]⟩
  obtain ⟨S2, hS2⟩ : ∃ S2 : Sto, S2 = .lst (dI ds3) :: R := ⟨_, rfl⟩
  have hv2 := hv S2
  have e0 := fun S => run_law_lot (n + 7) m0 S
  have ez := fun S => run_law_lot (n + 7) mz S
  have wa : WrongAt k (.lst xs) (l.length : Nat) := .inr ⟨xs, l, e, .inr rfl, hw, hl100, rfl⟩
  have w5 : WrongAt k (.int 5) (-1) := .inl ⟨rfl, 5, rfl⟩
  have r0 := right_lot k12 lm0
  have s1 := ls_x n k10 hv2 (.int 5) wr wa
  have s2 := ls_y n k10 hv2 wr r0 wa
  have s3 := ls_y n k10 hv2 (.int 0) r0 w5
  have c1 := fun cf => (cmp_self (shp_i pl_lot (l.length : Nat)) cf S2).1
  have c2 := fun cf => (cmp_self (shp_i pl_lot (-1)) cf S2).1
  obtain ⟨p, hp2⟩ : ∃ p : Nat, p = l.length := ⟨_, rfl⟩
  rw [← hp2] at e2 s1 s2 c1
  have hvs := hv2.stl
  refine ⟨ds3, ?_⟩
  rw [run_of t__law_refusals rfl]
  simp [f__law_refusals, env0, em0', e0, iop_shl1 k (by omega), e1, e2, e3, h2L, h4L, ewr, hvs, ← hS2, s1, c1, s2, s3, c2]
  refine for_turn (C := fun r => fin _ r = _) (S1 := S2) (xs := (List.range k).map fun (i : Nat) => D.int i) (evI_rng1 (by simp) (by omega))
    (fun i env S0 => S0 = S2 ∧ ∃ t, env = [some (.r 0), some (.d (.int k)), some (.d (.lst (dN ms))), some v, some (.d (lotD m0)), some (.d (.lst [.lst xs, .int p])), some (.d wr), t, none, none, none, none]) ⟨rfl, none, rfl⟩ ?_ ?_
  · rintro i y env S0 hy ⟨rfl, t, rfl⟩
    obtain ⟨j, hj, rfl⟩ := map_at hy
    obtain ⟨rfl, hj⟩ := range_at hj
    have hb := md_bit (m0 ^^^ mz) j
    refine ⟨_, rfl, ?_⟩
    cases hbt : (m0 ^^^ mz).testBit j with
    | true =>
      rw [hbt] at hb
      refine .of (by
        simp [em0', emz, iop_shr, iop_and1, hb]
        all_goals first | rfl | ((repeat' apply And.intro) <;> rfl)) ⟨rfl, _, rfl⟩
    | false =>
      rw [hbt] at hb
      have s4 := ls_s n k10 hv2 r0 (right_lot k12 lmz) hj hbt
      have c3 := fun cf => (cmp_self (shp_i pl_thing (j : Nat)) cf S0).1
      refine .of (by
        simp [em0', emz, iop_shr, iop_and1, hb, hvs, ez, s4, h2L, c3]
        all_goals first | rfl | ((repeat' apply And.intro) <;> rfl)) ⟨rfl, _, rfl⟩
  · rintro env S0 ⟨rfl, t, rfl⟩
    have q1 := run_inside (n + 7) k ms k10 hm.lt S0
    have q2 := fun t => comp_flat (own := [11]) (i := 11) (src := .rng [.bin .shl (.con (.int 1)) (.var 1)]) (c := .not (.idx (.var 8) (.var 11))) (e := .var 11) (cf := ⟨P, run P T (n + 8), none⟩) (env := [some (.r 0), some (.d (.int k)), some (.d (.lst (dN ms))), some v, some (.d (lotD m0)), some (.d (.lst [.lst xs, .int p])), some (.d wr), t, some (.d (.lst (insL k ms))), none, none, none]) (S := S0) (S1 := S0)
      (List.range (pw k)) (fun t => .int (t : Nat)) (fun x => !decide (x ∈ ms)) (fun t => .int (t : Nat)) (evI_rng1 (by simp [iop_shl1 k (by omega)]) (by omega))
      (fun x hx => by
        have e0 : (insL k ms)[x]? = some (.bl (decide (x ∈ ms))) := rng_at (List.mem_range.mp hx)
        simp [wipe, e0]) (fun t _ _ => by simp [wipe]) (le_LL (by rw [List.length_range]; omega))
    have q3 : ((List.range (pw k)).filter fun x => !decide (x ∈ ms)).map (fun (t : Nat) => D.int t) = dN ((List.range (pw k)).filter fun x => !decide (x ∈ ms)) := rfl
    rw [q3] at q2
    obtain ⟨F, hF⟩ : ∃ F, F = (List.range (pw k)).filter fun x => !decide (x ∈ ms) := ⟨_, rfl⟩
    rw [← hF] at q2
    have c4 := fun cf S => (cmp_self (shp_i pl_thing 0) cf S)
    by_cases hF0 : F = []
    · have s5 := ls_s n k10 hv2 r0 r0 (t := 0) (by omega) (by rw [Nat.xor_self]; rfl)
      rw [show ((0 : Nat) : Int) = 0 from rfl] at s5
      rw [hF0] at q2
      simp [q1, q2, hvs, s5, h2L, c4]
      exact List.take_of_length_le (by rw [hS2]; simp)
    · obtain ⟨f0, r, rfl⟩ := List.exists_cons_of_ne_nil hF0
      have if0 : f0 ∈ (List.range (pw k)).filter fun x => !decide (x ∈ ms) := by rw [← hF]; simp
      have lf0 : f0 < pw k := List.mem_range.mp (List.mem_filter.mp if0).1
      have nf0 : f0 ∉ ms := by
        have := (List.mem_filter.mp if0).2
        simpa using this
      have hne : f0 ^^^ m0 ≠ 0 := fun q => nf0 (by rw [xor_flip q]; exact im0)
      obtain ⟨t0, et0, bt0⟩ := lot_first k10 (xor_lt lf0 lm0) hne
      have t0k := bit_lt (xor_lt lf0 lm0) bt0
      have rf := right_lot k12 lf0
      have rr := right_rev k12 lf0
      have iL : m0 ∈ L := (hLm m0).mpr im0
      have nL : f0 ∉ L := fun q => nf0 ((hLm f0).mp q)
      have s5 := ls_t n k10 hv2 rf r0 (badT bwr)
      have s6 := ls_s n k10 hv2 rf rf (t := 0) (by omega) (by rw [Nat.xor_self]; rfl)
      rw [show ((0 : Nat) : Int) = 0 from rfl] at s6
      have s7 := ls_b n k10 hv2 ⟨r0, rr, lm0, lf0, t0k, by rw [Nat.xor_comm]; exact bt0⟩ iL nL
      have s8 := ls_a n k10 hv2 ⟨rr, r0, lf0, lm0, t0k, bt0⟩ nL
      have c5 := fun cf S => (cmp_self (shp_two pl_thing pwr dwr) cf S)
      have c6 := fun cf S => (cmp_self (shp_two pl_inside (pl_lotD f0).1 (pl_lotD f0).2) cf S)
      have el := fun S => run_law_lot (n + 7) f0 S
      have el2 := fun S => run_law_lot (n + 7) (f0 ^^^ m0) S
      have ei := fun S => idx_lot0 et0 S
      have hz : ¬ ((r.length : Int) + 1 = 0) := by omega
      simp [q1, q2, em0', el, hvs, s5, h2L, c5, s6, c4, el2, ei, rev_lot, s7, c6, s8, hz]
      exact List.take_of_length_le (by rw [hS2]; simp)
end K07
namespace K07
open G
def trip (ms : List Nat) : List (Nat × Nat × Nat) := ms.flatMap fun a => ms.flatMap fun b => (lotN (a ^^^ b)).map fun t => (a, b, t)
def brkB (k : Nat) (ms : List Nat) (q : Nat × Nat × Nat) : Bool := decide (Brk k ms q.1 q.2.1 q.2.2)
def gapQ (q : Nat × Nat × Nat) : Nat := pc (q.1 ^^^ q.2.1)
def rowQ (k : Nat) (ms : List Nat) (q : Nat × Nat × Nat) : D := brkD q.1 q.2.1 q.2.2 (brkB k ms q) (gapQ q)
theorem rows_trip (k : Nat) (ms : List Nat) : rowsD k ms = (trip ms).map (rowQ k ms) := by
  unfold rowsD trip rowA rowB
  rw [List.map_flatMap]
  congr 1
  funext a
  rw [List.map_flatMap]
  congr 1
  funext b
  rw [List.map_map]
  rfl
theorem trip_mem {ms : List Nat} {a b t : Nat} : (a, b, t) ∈ trip ms ↔ a ∈ ms ∧ b ∈ ms ∧ t ∈ lotN (a ^^^ b) := by
  unfold trip
  rw [List.mem_flatMap]
  constructor
  · rintro ⟨x, hx, h⟩
    obtain ⟨y, hy, h⟩ := List.mem_flatMap.mp h
    obtain ⟨u, hu, e⟩ := List.mem_map.mp h
    cases e
    exact ⟨hx, hy, hu⟩
  · rintro ⟨h1, h2, h3⟩
    exact ⟨a, h1, List.mem_flatMap.mpr ⟨b, h2, List.mem_map.mpr ⟨t, h3, rfl⟩⟩⟩
def gapsN (k : Nat) (ms : List Nat) : List Nat := ((trip ms).filter (brkB k ms)).map gapQ
def leastN (k : Nat) (ms : List Nat) : Nat := mnN (gapsN k ms ++ [99])
section
variable {k : Nat} {ms L : List Nat} (hk : k ≤ 7) (hm : Msk k ms) (hLm : ∀ x, x ∈ L ↔ x ∈ ms)
include hk hm
theorem gap_mem {a b t : Nat} (ha : a ∈ ms) (hb : b ∈ ms) (h : Brk k ms a b t) : pc (a ^^^ b) ∈ gapsN k ms := by
  have hs := xor_lt (hm.lt a ha) (hm.lt b hb)
  refine List.mem_map.mpr ⟨(a, b, t), List.mem_filter.mpr ⟨trip_mem.mpr ⟨ha, hb, lotN_mem.mpr ⟨by have := bit_lt hs h.1; omega, h.1⟩⟩, decide_eq_true h⟩, rfl⟩
theorem least_le {a b t : Nat} (ha : a ∈ ms) (hb : b ∈ ms) (h : Brk k ms a b t) : leastN k ms ≤ pc (a ^^^ b) := mnN_le (List.mem_append.mpr (.inl (gap_mem hk hm ha hb h)))
omit hk hm in
theorem least_got : leastN k ms = 99 ∨ ∃ a b t, a ∈ ms ∧ b ∈ ms ∧ Brk k ms a b t ∧ pc (a ^^^ b) = leastN k ms := by
  have h := mnN_mem (l := gapsN k ms ++ [99]) (by simp)
  rcases List.mem_append.mp h with h | h
  · right
    obtain ⟨⟨a, b, t⟩, hq, e⟩ := List.mem_map.mp h
    obtain ⟨h1, h2⟩ := List.mem_filter.mp hq
    obtain ⟨h3, h4, _⟩ := trip_mem.mp h1
    exact ⟨a, b, t, h3, h4, of_decide_eq_true h2, e⟩
  · exact .inl (List.mem_singleton.mp h)
theorem least_three : 3 ≤ leastN k ms := by
  rcases least_got (k := k) (ms := ms) with h | ⟨a, b, t, h1, h2, h3, h4⟩
  · omega
  · rw [← h4]
    exact brk_three (by omega) (hm.lt a h1) (hm.lt b h2) h2 h3
include hLm
omit hk hm in
theorem brk_L {a b t : Nat} : Brk k L a b t ↔ Brk k ms a b t := by
  unfold Brk
  rw [pm_congr hLm]
omit hk in
theorem hL_lt : ∀ m ∈ L, m < pw k := fun m h => hm.lt m ((hLm m).mp h)
theorem find_iff : NoBrk k L 1 k ↔ leastN k ms = 99 := by
  rw [gt_nobrk (by omega) (hL_lt hm hLm)]
  constructor
  · intro h
    rcases least_got (k := k) (ms := ms) with q | ⟨a, b, t, h1, h2, h3, h4⟩
    · exact q
    · exact (h a ((hLm a).mpr h1) b ((hLm b).mpr h2) t ((brk_L hLm).mpr h3)).elim
  · intro h a ha b hb t hn
    have h1 := least_le hk hm ((hLm a).mp ha) ((hLm b).mp hb) ((brk_L hLm).mp hn)
    have h2 := pc_le (a ^^^ b)
    omega
theorem near_iff : NoBrk k L 3 4 ↔ 4 < leastN k ms := by
  constructor
  · intro h
    rcases least_got (k := k) (ms := ms) with q | ⟨a, b, t, h1, h2, h3, h4⟩
    · omega
    · have h5 := least_three hk hm
      rcases Nat.lt_or_ge 4 (leastN k ms) with q | q
      · exact q
      · exact (h a ((hLm a).mpr h1) b ((hLm b).mpr h2) (by omega) (by omega) t (bit_lt (xor_lt (hm.lt a h1) (hm.lt b h2)) h3.1) ((brk_L hLm).mpr h3)).elim
  · intro h a ha b hb h1 h2 t _ hn
    have := least_le hk hm ((hLm a).mp ha) ((hLm b).mp hb) ((brk_L hLm).mp hn)
    omega
theorem least_no : NoBrk k L 1 (leastN k ms - 1) := fun a ha b hb h1 h2 t _ hn => by
  have := least_le hk hm ((hLm a).mp ha) ((hLm b).mp hb) ((brk_L hLm).mp hn)
  have := least_three hk hm
  omega
theorem least_far {a b t : Nat} (ha : a ∈ ms) (hb : b ∈ ms) (h : Brk k ms a b t) (hne : pc (a ^^^ b) ≠ leastN k ms) : ¬ NoBrk k L 1 (pc (a ^^^ b) - 1) := by
  intro hn
  have h1 := least_le hk hm ha hb h
  rcases least_got (k := k) (ms := ms) with q | ⟨c, d, u, h3, h4, h5, h6⟩
  · have := pc_le (a ^^^ b)
    omega
  · have := least_three hk hm
    exact hn c ((hLm c).mpr h3) d ((hLm d).mpr h4) (by omega) (by omega) u (bit_lt (xor_lt (hm.lt c h3) (hm.lt d h4)) h5.1) ((brk_L hLm).mpr h5)
end
theorem lot_nil {z : Nat} (hz : z < 2 ^ 12) : lotN z = [] ↔ z = 0 := by
  constructor
  · intro h
    have := lotN_num hz
    rw [h] at this
    exact this.symm
  · rintro rfl
    decide
end K07
namespace K07
open G
def lookS : List Sm := [.asg (.nm 14) (.call 11 [.var 1, .call 12 [.idx (.var 13) (.con (.int 0))]]), .asg (.nm 15) (.call 12 [.idx (.var 13) (.con (.int 1))]), .asg (.nm 16) (.call 13 [.var 6, .var 14, .var 15, .idx (.var 13) (.con (.int 2))]), .asg (.nm 17) (.tup [.con (.str "number"), .con (.str "gap")]), .ite (.and (.idx (.var 13) (.con (.int 3))) (.cmp .eq (.idx (.var 13) (.con (.int 4))) (.var 9))) [.asg (.nm 17) (.bi .min [.var 9, .con (.int 5)]), .ite (.or (.not (.call 14 [.var 16])) (.not (.call 15 [.var 6, .idx (.var 13) (.con (.int 0)), .idx (.var 13) (.con (.int 1)), .idx (.var 13) (.con (.int 2))]))) [.ret (.con (.bl false))] []] [], .ite (.or (.cmp .ne (.var 16) (.var 17)) (.cmp .ne (.cmp .eq (.call 16 [.var 6, .var 14, .var 15, .idx (.var 13) (.con (.int 2))]) (.lst [])) (.idx (.var 13) (.con (.int 3))))) [.ret (.con (.bl false))] []]
theorem at2 {x0 x1 x2 x3 x4 : D} : ati [x0, x1, x2, x3, x4] 2 = some x2 ∧ ati [x0, x1, x2, x3, x4] 3 = some x3 ∧ ati [x0, x1, x2, x3, x4] 4 = some x4 := ⟨rfl, rfl, rfl⟩
theorem cmp_empty (cf : Cfg) (l : List Nat) (S : Sto) : cmpV cf .eq (.d (.lst (dN l))) (.d (.lst [])) S = .ok (.d (.bl (decide (l = [])))) S := by
  have := cmp_eqN cf l [] S
  rwa [dN_nil] at this
theorem look (n k : Nat) (ms L : List Nat) (hk : k ≤ 7) (hm : Msk k ms) (hL : Msk k L) (hLm : ∀ x, x ∈ L ↔ x ∈ ms) {v : Va} (hv : ∀ S, Fm v S k L) (a b t : Nat) (ha : a ∈ ms) (hb : b ∈ ms) (ht : t ∈ lotN (a ^^^ b)) (ds : List Int) (R : Sto) (o0 o2 o3 o4 o5 o7 o8 o10 o11 o12 o14 o15 o16 o17 : Option Va) :
    ∃ ds' p14 p15 p16 p17, exSs lookS ⟨P, run P T (n + 9), none⟩ [o0, some (.r 0), o2, o3, o4, o5, some v, o7, o8, some (.d (.int (leastN k ms : Nat))), o10, o11, o12, some (.d (brkD a b t (decide (Brk k ms a b t)) (pc (a ^^^ b)))), o14, o15, o16, o17] (.lst (dI ds) :: R)
      = .ok .nx [o0, some (.r 0), o2, o3, o4, o5, some v, o7, o8, some (.d (.int (leastN k ms : Nat))), o10, o11, o12, some (.d (brkD a b t (decide (Brk k ms a b t)) (pc (a ^^^ b)))), p14, p15, p16, p17] (.lst (dI ds') :: R) := by
  have k10 : k ≤ 10 := by omega
  have k12 : k ≤ 12 := by omega
  have h2L : 2 ≤ LL := le_LL (by omega)
  have h0L : 0 ≤ LL := Nat.zero_le _
  have la := hm.lt a ha
  have lb := hm.lt b hb
  have iA := (hLm a).mpr ha
  have iB := (hLm b).mpr hb
  have bt := (lotN_mem.mp ht).2
  have ls := xor_lt la lb
  have tk := bit_lt ls bt
  have e0 := run_law_lot (n + 8) a (.lst (dI ds) :: R)
  obtain ⟨l', ds', hp, e1⟩ := run_mixed (n + 7) (lotN a) (by have := pc_le a; unfold pc at this; omega) ds R
  rw [show D.tup (dN (lotN a)) = lotD a from rfl] at e1
  obtain ⟨S2, hS2⟩ : ∃ S2 : Sto, S2 = .lst (dI ds') :: R := ⟨_, rfl⟩
  rw [← hS2] at e1
  have hv2 := hv S2
  have hvs := hv2.stl
  have e2 := run_law_lot (n + 8) b S2
  have args : Args k (.lst (dN l')) (lotD b) a b t := ⟨right_mix k12 la hp, right_lot k12 lb, la, lb, tk, bt⟩
  have e3 := run_partners (n + 2) k L (.lst (dN l')) (lotD b) a b t k10 hL.lt args iA iB hv2
  have hz : lotN (pmN k L a t &&& (a ^^^ b)) = [] ↔ Brk k ms a b t := by
    rw [lot_nil (by
      have h1 := Nat.and_le_right (n := pmN k L a t) (m := a ^^^ b)
      have h2 := pw12 ls (by omega : k ≤ 12)
      omega), ← brk_L hLm]
    exact ⟨fun h => ⟨bt, h⟩, fun h => h.2⟩
  have e4 := fun cf => cmp_empty cf (lotN (pmN k L a t &&& (a ^^^ b))) S2
  generalize lotN (pmN k L a t &&& (a ^^^ b)) = Z at e3 e4 hz
  have cg := fun cf => (cmp_self (shp_two (w := "number") (e := .str "gap") pl_number pl_gap (by simp [dep])) cf S2).1
  by_cases hbk : Brk k ms a b t
  · have hbL := (brk_L hLm).mpr hbk
    rw [decide_eq_true (hz.mpr hbk)] at e4
    by_cases hl : pc (a ^^^ b) = leastN k ms
    · have hn := least_no hk hm hLm
      rw [← hl] at hn
      have e5 := ls_ok n k10 hv2 hL.lt args iA iB hbL hn
      have e6 := run_law_int (n + 8) (min (pc (a ^^^ b)) 5 : Nat) S2
      have e7 := run_shape (n + 7) k L a b t k10 hL iA iB hbL hn hv2 (fun R2 => hv (S2 ++ R2))
      have e8 := bi_min5 (leastN k ms)
      have e9 : ∀ cf S, biV cf .min [.d (.int (leastN k ms : Nat)), .d (.int 5)] S = .ok (.d (.int (min (leastN k ms) 5 : Nat))) S := fun cf S => by rw [bi_min2, e8]
      rw [hl] at e5 e6
      generalize leastN k ms = lst at *
      refine ⟨ds', _, _, _, _, by
        rw [← hS2]
        simp [lookS, brkD, hbk, e0, e1, e2, hvs, at2, e5, h2L, hl, e9, e6, e7, e3, e4, h0L, -bi_min2]
        all_goals first | rfl | ((repeat' apply And.intro) <;> rfl)⟩
    · have e5 := ls_gap n k10 hv2 hL.lt args iA iB (fun h => least_far hk hm hLm ha hb hbk hl h.2)
      have hl' : ¬ ((pc (a ^^^ b) : Nat) : Int) = (leastN k ms : Nat) := by omega
      generalize leastN k ms = lst at *
      refine ⟨ds', _, _, _, _, by
        rw [← hS2]
        simp [lookS, brkD, hbk, e0, e1, e2, hvs, at2, e5, h2L, hl, hl', cg, e3, e4, h0L]
        all_goals first | rfl | ((repeat' apply And.intro) <;> rfl)⟩
  · rw [decide_eq_false fun h => hbk (hz.mp h)] at e4
    have e5 := ls_gap n k10 hv2 hL.lt args iA iB (fun h => hbk ((brk_L hLm).mp h.1))
    refine ⟨ds', _, _, _, _, by
      rw [← hS2]
      simp [lookS, brkD, hbk, e0, e1, e2, hvs, at2, e5, h2L, cg, e3, e4, h0L]
      all_goals first | rfl | ((repeat' apply And.intro) <;> rfl)⟩
end K07
namespace K07
open G
def LawEnd (r : RS) : Prop := ∃ S, fin 0 r = .ok (.d (.bl true)) S
def rowS : List Sm := [.aug 11 .add (.con (.int 1)), .ite (.idx (.var 13) (.con (.int 3))) [.asg (.nm 12) (.bin .sub (.var 12) (.con (.int 1)))] [], .ite (.or (.and (.idx (.var 13) (.con (.int 3))) (.cmp .ge (.var 12) (.con (.int 0)))) (.and (.not (.idx (.var 13) (.con (.int 3)))) (.cmp .eq (.bin .mod (.bi .int [.var 11]) (.var 10)) (.con (.int 0))))) lookS []]
def LI (k : Nat) (ms : List Nat) (v : Va) (x0 x2 x3 x7 x8 : Va) (st : Int) (_ : Nat) (env : Frm) (S0 : Sto) : Prop := ∃ (ds : List Int) (i1 i2 : Int) (o13 o14 o15 o16 o17 : Option Va), S0 = [.lst (dI ds), .dead] ∧ env = [some x0, some (.r 0), some x2, some x3, some (.d (.int k)), some (.d (.lst (dN ms))), some v, some x7, some x8, some (.d (.int (leastN k ms : Nat))), some (.d (.int st)), some (.d (.int i1)), some (.d (.int i2)), o13, o14, o15, o16, o17]
theorem row_turn (n k : Nat) (ms L : List Nat) (hk : k ≤ 7) (hm : Msk k ms) (hL : Msk k L) (hLm : ∀ x, x ∈ L ↔ x ∈ ms) {v : Va} (hv : ∀ S, Fm v S k L) (a b t : Nat) (ha : a ∈ ms) (hb : b ∈ ms) (ht : t ∈ lotN (a ^^^ b)) (x0 x2 x3 x7 x8 : Va) (st i1 i2 : Int) (hst : 0 < st) (ds : List Int) (o14 o15 o16 o17 : Option Va) (i : Nat) :
    Turn (exSs rowS ⟨P, run P T (n + 9), none⟩ [some x0, some (.r 0), some x2, some x3, some (.d (.int k)), some (.d (.lst (dN ms))), some v, some x7, some x8, some (.d (.int (leastN k ms : Nat))), some (.d (.int st)), some (.d (.int i1)), some (.d (.int i2)), some (.d (brkD a b t (decide (Brk k ms a b t)) (pc (a ^^^ b)))), o14, o15, o16, o17] [.lst (dI ds), .dead]) (LI k ms v x0 x2 x3 x7 x8 st i) := by
  obtain ⟨j1, hj1⟩ : ∃ j1, i1 + 1 = j1 := ⟨_, rfl⟩
  obtain ⟨j2, hj2⟩ : ∃ j2, i2 - 1 = j2 := ⟨_, rfl⟩
  have em := iop_modI j1 st hst
  obtain ⟨r, hr⟩ : ∃ r, j1 % st = r := ⟨_, rfl⟩
  rw [hr] at em
  have e3 : idxV (.d (brkD a b t (decide (Brk k ms a b t)) (pc (a ^^^ b)))) (.d (.int 3)) [.lst (dI ds), .dead] = .ok (.d (.bl (decide (Brk k ms a b t)))) [.lst (dI ds), .dead] := rfl
  obtain ⟨ds', p14, p15, p16, p17, el⟩ := look n k ms L hk hm hL hLm hv a b t ha hb ht ds [.dead] (some x0) (some x2) (some x3) (some (.d (.int k))) (some (.d (.lst (dN ms)))) (some x7) (some x8) (some (.d (.int st))) (some (.d (.int j1))) (some (.d (.int (if Brk k ms a b t then j2 else i2)))) o14 o15 o16 o17
  generalize brkD a b t (decide (Brk k ms a b t)) (pc (a ^^^ b)) = rw0 at *
  unfold rowS
  rw [y_aug (a := i1) rfl]
  by_cases hbk : Brk k ms a b t
  · rw [decide_eq_true hbk] at e3
    rw [if_pos hbk] at el
    by_cases h2 : 0 ≤ j2
    · refine .of (by
        simp [hj1, e3, hj2, h2, el]
        all_goals first | rfl | ((repeat' apply And.intro) <;> rfl)) ⟨ds', j1, j2, _, _, _, _, _, rfl, rfl⟩
    · refine .of (by
        simp [hj1, e3, hj2, h2]
        all_goals first | rfl | ((repeat' apply And.intro) <;> rfl)) ⟨ds, j1, j2, _, _, _, _, _, rfl, rfl⟩
  · rw [decide_eq_false hbk] at e3
    rw [if_neg hbk] at el
    by_cases h2 : r = 0
    · subst h2
      refine .of (by
        simp [hj1, e3, em, el]
        all_goals first | rfl | ((repeat' apply And.intro) <;> rfl)) ⟨ds', j1, i2, _, _, _, _, _, rfl, rfl⟩
    · refine .of (by
        simp [hj1, e3, em, h2]
        all_goals first | rfl | ((repeat' apply And.intro) <;> rfl)) ⟨ds, j1, i2, _, _, _, _, _, rfl, rfl⟩
theorem add_99 (cf : Cfg) (g : List Nat) (h : g.length ≤ 400000) (S : Sto) : binV cf .add (.d (.lst (dN g))) (.d (.lst [.int 99])) S = .ok (.f (.lst (dN (g ++ [99])))) S := by
  show fl (dN g ++ [.int 99]) S = _
  have e : dN g ++ [D.int 99] = dN (g ++ [99]) := by simp [dN]
  rw [e]
  unfold fl
  rw [if_pos (le_LL (by rw [dN_length, List.length_append]; simp; omega))]
theorem st2 (n k : Nat) (ms : List Nat) (k1 : 1 ≤ k) (hk : k ≤ 7) (hm : Msk k ms) (ne : ms ≠ []) (x0 x2 x3 : Va) (ds : List Int) :
    LawEnd (exSs (f_law.body.drop 5) ⟨P, run P T (n + 9), none⟩ [some x0, some (.r 0), some x2, some x3, some (.d (.int k)), some (.d (.lst (dN ms))), none, none, none, none, none, none, none, none, none, none, none, none] [.lst (dI ds)]) := by
  have k10 : k ≤ 10 := by omega
  have hp : pw k ≤ 128 := pw_le (b := 7) hk
  have hml := hm.len
  have h1L : 1 ≤ LL := le_LL (by omega)
  have lt12 : ∀ m ∈ ms, m < 2 ^ 12 := fun m h => pw12 (hm.lt m h) (by omega)
  have hL : Msk k (srtM ms) := hm.perm (srtM_perm ms)
  have hLm : ∀ x, x ∈ srtM ms ↔ x ∈ ms := fun x => (srtM_perm ms).mem_iff
  have nL : srtM ms ≠ [] := fun e => ne (by have p := srtM_perm ms; rw [e] at p; exact p.symm.eq_nil)
  have e1 := run_law_lots (n + 7) ms (by omega) [.lst (dI ds)]
  have e2 := mk_family (n + 5) k (srtM ms) ((srtM ms).map lotD) (.lst ((srtM ms).map lotD)) (.inr rfl) (rows_map (f := lotD) fun m h => rowD_lot (hL.lt m h) (by omega)) k1 k10 hL.nd hL.lt nL [.lst (dI ds)]
  rw [← srtM_eq lt12 (srtM_perm ms).symm] at e2
  obtain ⟨L, hLe⟩ : ∃ L, L = srtM ms := ⟨_, rfl⟩
  rw [← hLe] at e1 e2 hL hLm nL
  obtain ⟨S2, hS2⟩ : ∃ S2 : Sto, S2 = [.lst (dI ds), .ins 0 (famF k L)] := ⟨_, rfl⟩
  have e3 := run_all (n + 7) k ms k10 hm.lt (by omega) S2
  have hrl : (rowsD k ms).length ≤ 200000 := by
    have h1 := rowsD_len k ms ms
    have h2 : ms.length * (ms.length * 12) ≤ 128 * (128 * 12) := Nat.mul_le_mul (by omega) (by omega)
    unfold rowsD
    omega
  have htl : (trip ms).length ≤ 200000 := by
    have := hrl
    rw [rows_trip, List.length_map] at this
    exact this
  have e4 := comp_flat (own := [13]) (i := 13) (src := .var 7) (c := .idx (.var 13) (.con (.int 3))) (e := .idx (.var 13) (.con (.int 4))) (cf := ⟨P, run P T (n + 9), none⟩) (env := [some x0, some (.r 0), some x2, some x3, some (.d (.int k)), some (.d (.lst (dN ms))), some (.r 1), some (.d (.lst (rowsD k ms))), none, none, none, none, none, none, none, none, none, none]) (S := S2) (S1 := S2)
    (trip ms) (rowQ k ms) (brkB k ms) (fun q => .int (gapQ q : Nat)) (by simp [rows_trip]) (fun q _ => by simp [wipe, rowQ, brkD, at2]) (fun q _ _ => by simp [wipe, rowQ, brkD, at2]) (le_LL (by omega))
  rw [show (((trip ms).filter (brkB k ms)).map fun q => D.int (gapQ q : Nat)) = dN (gapsN k ms) by simp [dN, gapsN, Function.comp_def]] at e4
  have hgl : (gapsN k ms).length ≤ 400000 := by
    unfold gapsN
    rw [List.length_map]
    have := List.length_filter_le (brkB k ms) (trip ms)
    omega
  have e5 := fun cf => add_99 cf (gapsN k ms) hgl S2
  have e6 := fun cf => bi_min_N cf (q := gapsN k ms ++ [99]) (by simp) S2
  rw [show mnN (gapsN k ms ++ [99]) = leastN k ms from rfl] at e6
  obtain ⟨z, e7, hz⟩ := run_find (n + 6) k 1 L k10 hL.lt (S := S2) (f := .non) (by rw [hS2]; rfl)
  obtain ⟨S3, hS3⟩ : ∃ S3 : Sto, S3 = [.lst (dI ds), .ins 0 (famX k L true z)] := ⟨_, rfl⟩
  rw [show S2.set 1 (.ins c_Family (famX k L true z)) = S3 by rw [hS2, hS3]; rfl] at e7
  have hzb : isN z = decide (leastN k ms = 99) := by
    have := find_iff hk hm hLm
    cases q : isN z with
    | true => exact (decide_eq_true (this.mp (hz.mp q))).symm
    | false =>
      refine (decide_eq_false fun h => ?_).symm
      rw [hz.mpr (this.mpr h)] at q
      cases q
  have h3 := least_three hk hm (ms := ms)
  have h3' : ¬ ((leastN k ms : Nat) : Int) < 3 := by omega
  have hv : ∀ S, Fm (.d (.obj c_Family (famX k L true z))) S k L := fun S => Fm.of true z
  obtain ⟨y, e8, hy⟩ := run_near (n + 6) k L k10 hL.lt (hv [.lst (dI ds), .dead])
  have hyb : isN y = decide (4 < leastN k ms) := by
    have := near_iff hk hm hLm
    cases q : isN y with
    | true => exact (decide_eq_true (this.mp (hy.mp q))).symm
    | false =>
      refine (decide_eq_false fun h => ?_).symm
      rw [hy.mpr (this.mpr h)] at q
      cases q
  have d1 : decide (((leastN k ms : Nat) : Int) = 99) = decide (leastN k ms = 99) := decide_eq_decide.mpr (by omega)
  have d2 : decide ((4 : Int) < ((leastN k ms : Nat) : Int)) = decide (4 < leastN k ms) := decide_eq_decide.mpr (by omega)
  obtain ⟨st, hst⟩ : ∃ st : Int, st = 1 + ((rowsD k ms).length : Int) / 10 := ⟨_, rfl⟩
  have hst0 : 0 < st := by omega
  have e9 := iop_fdivI ((rowsD k ms).length : Int) 10 (by decide) (by decide)
  obtain ⟨at_, ds2, _, e10⟩ := run_take (n + 8) st hst0 ds [.dead]
  simp only [c_Family] at e2 e7 e8
  have tail : ∀ (x7 x8 : Va) (i1 i2 : Int), x7 = .d (.lst (rowsD k ms)) → LawEnd (exSs (f_law.body.drop 15) ⟨P, run P T (n + 9), none⟩ [some x0, some (.r 0), some x2, some x3, some (.d (.int k)), some (.d (.lst (dN ms))), some (.d (.obj c_Family (famX k L true z))), some x7, some x8, some (.d (.int (leastN k ms : Nat))), some (.d (.int st)), some (.d (.int i1)), some (.d (.int i2)), none, none, none, none, none] [.lst (dI ds2), .dead]) := by
    rintro x7 x8 i1 i2 rfl
    show LawEnd (exSs (.for_ (.nm 13) (.var 7) rowS :: [.ret (.call 17 [.var 1, .var 4, .var 5, .var 6])]) _ _ _)
    refine for_turn (C := LawEnd) (S1 := [.lst (dI ds2), .dead]) (xs := rowsD k ms) (by simp) (LI k ms (.d (.obj c_Family (famX k L true z))) x0 x2 x3 (.d (.lst (rowsD k ms))) x8 st) ⟨ds2, i1, i2, none, none, none, none, none, rfl, rfl⟩ ?_ ?_
    · rintro i y env S0 hy ⟨ds, i1, i2, o13, o14, o15, o16, o17, rfl, rfl⟩
      rw [rows_trip] at hy
      obtain ⟨⟨a, b, t⟩, hq, rfl⟩ := map_at hy
      obtain ⟨ha, hb, ht⟩ := trip_mem.mp (List.mem_of_getElem? hq)
      refine ⟨_, rfl, ?_⟩
      exact row_turn n k ms L hk hm hL hLm hv a b t ha hb ht x0 x2 x3 _ x8 st i1 i2 hst0 ds o14 o15 o16 o17 (i + 1)
    · rintro env S0 ⟨ds, i1, i2, o13, o14, o15, o16, o17, rfl, rfl⟩
      obtain ⟨ds', er⟩ := run_refusals n k ms L k1 hk hm ne hLm hv ds [.dead]
      simp only [c_Family] at er
      exact ⟨_, by simp [er]; rfl⟩
  have tl := tail (.d (.lst (rowsD k ms))) (.d (.lst (dN (gapsN k ms)))) (at_ : Int) 6 rfl
  simp [f_law, c_Family] at tl
  simp [f_law, e1, e2, ← hS2, e3, e4, e5, h1L, e6, -bin_ll]
  simp [e7, hzb, d1, h3, h3', hS3, e8, hyb, d2]
  simp [e9, ← hst, e10]
  exact tl
theorem law_true (n : Nat) (ns : List Int) (hl : ns.length ≤ 63) : ∃ S, run P T (n + 10) 0 [.d (.lst (dI ns))] [] = .ok (.d (.bl true)) S := by
  suffices h : LawEnd (exSs f_law.body ⟨P, run P T (n + 9), none⟩ (env0 f_law [.d (.lst (dI ns))]) []) by
    obtain ⟨S, h⟩ := h
    refine ⟨S, ?_⟩
    rw [run_of t_law rfl]
    exact h
  obtain ⟨ds0, e0⟩ := run_law_draws (n + 8) ns hl
  obtain ⟨w, ds1, hw, e1⟩ := run_take (n + 8) 6 (by decide) ds0 []
  by_cases h3 : 3 ≤ w
  · have h3' : (3 : Int) ≤ w := by omega
    obtain ⟨k, ms, ds2, k1, k7, hm, ne, _, e2⟩ := run_between (n + 7) ds1 []
    have fin := st2 n k ms k1 k7 hm ne (.d (.lst (dI ns))) (.d (.int w)) (.d (.lst [.int k, .lst (dN ms)])) ds2
    simp [f_law] at fin
    simp [f_law, env0, e0, e1, h3, h3', e2]
    exact fin
  · have h3' : ¬ (3 : Int) ≤ w := by omega
    by_cases h2 : w = 2
    · have h2' : (w : Int) = 2 := by omega
      obtain ⟨k, k1, k4, ms, ds2, hm, ne, e2⟩ := run_any (n + 7) ds1 []
      have fin := st2 n k ms k1 (by omega) hm ne (.d (.lst (dI ns))) (.d (.int w)) (.d (.lst [.int k, .lst (dN ms)])) ds2
      simp [f_law] at fin
      subst h2
      simp [f_law, env0, e0, e1, e2]
      exact fin
    · have h2' : ¬ (w : Int) = 2 := by omega
      obtain ⟨k, k1, k5, ms, ds2, hm, ne, e2⟩ := run_law_family (n + 5) 5 (by omega) (by omega) ds1 []
      rw [show ((5 : Nat) : Int) = 5 from rfl] at e2
      have fin := st2 n k ms k1 (by omega) hm ne (.d (.lst (dI ns))) (.d (.int w)) (.d (.lst [.int k, .lst (dN ms)])) ds2
      simp [f_law] at fin
      simp [f_law, env0, e0, e1, h3, h3', h2, h2', e2]
      exact fin
end K07
/-! K07: the rows checked; the law's statement by `run`. -/
namespace K07
open PySem PySem.Spec PyProof.Rows L2 G GS
theorem wf : tb.wf = true := by decide +kernel
theorem wf2 : tb.wf2 = true := by decide +kernel
theorem ok_law : RowOk tb 200 r_law := ⟨⟨rfl, rfl, rfl, by decide +kernel, rfl, by decide +kernel, by decide +kernel⟩, fun _ _ _ _ _ _ us hl => match us, hl with | [_], _ => rfl, rfl, rfl, by decide +kernel⟩
theorem ok__law_draws : RowOk tb 200 r__law_draws := ⟨⟨rfl, rfl, rfl, by decide +kernel, rfl, by decide +kernel, by decide +kernel⟩, fun _ _ _ _ _ _ us hl => match us, hl with | [_], _ => rfl, rfl, rfl, by decide +kernel⟩
theorem ok__law_take : RowOk tb 200 r__law_take := ⟨⟨rfl, rfl, rfl, by decide +kernel, rfl, by decide +kernel, by decide +kernel⟩, fun _ _ _ _ _ _ us hl => match us, hl with | [_, _], _ => rfl, rfl, rfl, by decide +kernel⟩
theorem ok__law_between : RowOk tb 200 r__law_between := ⟨⟨rfl, rfl, rfl, by decide +kernel, rfl, by decide +kernel, by decide +kernel⟩, fun _ _ _ _ _ _ us hl => match us, hl with | [_], _ => rfl, rfl, rfl, by decide +kernel⟩
theorem ok__law_any : RowOk tb 200 r__law_any := ⟨⟨rfl, rfl, rfl, by decide +kernel, rfl, by decide +kernel, by decide +kernel⟩, fun _ _ _ _ _ _ us hl => match us, hl with | [_, _], _ => rfl, rfl, rfl, by decide +kernel⟩
theorem ok__law_family : RowOk tb 200 r__law_family := ⟨⟨rfl, rfl, rfl, by decide +kernel, rfl, by decide +kernel, by decide +kernel⟩, fun _ _ _ _ _ _ us hl => match us, hl with | [_, _], _ => rfl, rfl, rfl, by decide +kernel⟩
theorem ok_Family___init__ : RowOk tb 200 r_Family___init__ := ⟨⟨rfl, rfl, rfl, by decide +kernel, rfl, by decide +kernel, by decide +kernel⟩, fun _ _ _ _ _ _ us hl => match us, hl with | [_, _, _], _ => rfl, rfl, rfl, by decide +kernel⟩
theorem ok__law_lots : RowOk tb 200 r__law_lots := ⟨⟨rfl, rfl, rfl, by decide +kernel, rfl, by decide +kernel, by decide +kernel⟩, fun _ _ _ _ _ _ us hl => match us, hl with | [_], _ => rfl, rfl, rfl, by decide +kernel⟩
theorem ok__law_all : RowOk tb 200 r__law_all := ⟨⟨rfl, rfl, rfl, by decide +kernel, rfl, by decide +kernel, by decide +kernel⟩, fun _ _ _ _ _ _ us hl => match us, hl with | [_, _], _ => rfl, rfl, rfl, by decide +kernel⟩
theorem ok_find_break : RowOk tb 200 r_find_break := ⟨⟨rfl, rfl, rfl, by decide +kernel, rfl, by decide +kernel, by decide +kernel⟩, fun _ _ _ _ _ _ us hl => match us, hl with | [_], _ => rfl, rfl, rfl, by decide +kernel⟩
theorem ok_near_break : RowOk tb 200 r_near_break := ⟨⟨rfl, rfl, rfl, by decide +kernel, rfl, by decide +kernel, by decide +kernel⟩, fun _ _ _ _ _ _ us hl => match us, hl with | [_], _ => rfl, rfl, rfl, by decide +kernel⟩
theorem ok__law_mixed : RowOk tb 200 r__law_mixed := ⟨⟨rfl, rfl, rfl, by decide +kernel, rfl, by decide +kernel, by decide +kernel⟩, fun _ _ _ _ _ _ us hl => match us, hl with | [_, _], _ => rfl, rfl, rfl, by decide +kernel⟩
theorem ok__law_lot : RowOk tb 200 r__law_lot := ⟨⟨rfl, rfl, rfl, by decide +kernel, rfl, by decide +kernel, by decide +kernel⟩, fun _ _ _ _ _ _ us hl => match us, hl with | [_], _ => rfl, rfl, rfl, by decide +kernel⟩
theorem ok__law_sort : RowOk tb 200 r__law_sort := ⟨⟨rfl, rfl, rfl, by decide +kernel, rfl, by decide +kernel, by decide +kernel⟩, fun _ _ _ _ _ _ us hl => match us, hl with | [_, _, _, _], _ => rfl, rfl, rfl, by decide +kernel⟩
theorem ok__law_int : RowOk tb 200 r__law_int := ⟨⟨rfl, rfl, rfl, by decide +kernel, rfl, by decide +kernel, by decide +kernel⟩, fun _ _ _ _ _ _ us hl => match us, hl with | [_], _ => rfl, rfl, rfl, by decide +kernel⟩
theorem ok__law_shape : RowOk tb 200 r__law_shape := ⟨⟨rfl, rfl, rfl, by decide +kernel, rfl, by decide +kernel, by decide +kernel⟩, fun _ _ _ _ _ _ us hl => match us, hl with | [_, _, _, _], _ => rfl, rfl, rfl, by decide +kernel⟩
theorem ok_partners : RowOk tb 200 r_partners := ⟨⟨rfl, rfl, rfl, by decide +kernel, rfl, by decide +kernel, by decide +kernel⟩, fun _ _ _ _ _ _ us hl => match us, hl with | [_, _, _, _], _ => rfl, rfl, rfl, by decide +kernel⟩
theorem ok__law_refusals : RowOk tb 200 r__law_refusals := ⟨⟨rfl, rfl, rfl, by decide +kernel, rfl, by decide +kernel, by decide +kernel⟩, fun _ _ _ _ _ _ us hl => match us, hl with | [_, _, _, _], _ => rfl, rfl, rfl, by decide +kernel⟩
theorem ok__law_turned : RowOk tb 200 r__law_turned := ⟨⟨rfl, rfl, rfl, by decide +kernel, rfl, by decide +kernel, by decide +kernel⟩, fun _ _ _ _ _ _ us hl => match us, hl with | [_, _], _ => rfl, rfl, rfl, by decide +kernel⟩
theorem ok__law_made : RowOk tb 200 r__law_made := ⟨⟨rfl, rfl, rfl, by decide +kernel, rfl, by decide +kernel, by decide +kernel⟩, fun _ _ _ _ _ _ us hl => match us, hl with | [_, _], _ => rfl, rfl, rfl, by decide +kernel⟩
theorem ok__law_inside : RowOk tb 200 r__law_inside := ⟨⟨rfl, rfl, rfl, by decide +kernel, rfl, by decide +kernel, by decide +kernel⟩, fun _ _ _ _ _ _ us hl => match us, hl with | [_, _], _ => rfl, rfl, rfl, by decide +kernel⟩
theorem ok__law_listed : RowOk tb 200 r__law_listed := ⟨⟨rfl, rfl, rfl, by decide +kernel, rfl, by decide +kernel, by decide +kernel⟩, fun _ _ _ _ _ _ us hl => match us, hl with | [_], _ => rfl, rfl, rfl, by decide +kernel⟩
theorem ok__numbers_of : RowOk tb 200 r__numbers_of := ⟨⟨rfl, rfl, rfl, by decide +kernel, rfl, by decide +kernel, by decide +kernel⟩, fun _ _ _ _ _ _ us hl => match us, hl with | [_, _], _ => rfl, rfl, rfl, by decide +kernel⟩
theorem ok__lot_of : RowOk tb 200 r__lot_of := ⟨⟨rfl, rfl, rfl, by decide +kernel, rfl, by decide +kernel, by decide +kernel⟩, fun _ _ _ _ _ _ us hl => match us, hl with | [_], _ => rfl, rfl, rfl, by decide +kernel⟩
theorem ok__number_of : RowOk tb 200 r__number_of := ⟨⟨rfl, rfl, rfl, by decide +kernel, rfl, by decide +kernel, by decide +kernel⟩, fun _ _ _ _ _ _ us hl => match us, hl with | [_], _ => rfl, rfl, rfl, by decide +kernel⟩
theorem ok__depths_of : RowOk tb 200 r__depths_of := ⟨⟨rfl, rfl, rfl, by decide +kernel, rfl, by decide +kernel, by decide +kernel⟩, fun _ _ _ _ _ _ us hl => match us, hl with | [_, _], _ => rfl, rfl, rfl, by decide +kernel⟩
theorem ok__law_bits : RowOk tb 200 r__law_bits := ⟨⟨rfl, rfl, rfl, by decide +kernel, rfl, by decide +kernel, by decide +kernel⟩, fun _ _ _ _ _ _ us hl => match us, hl with | [_], _ => rfl, rfl, rfl, by decide +kernel⟩
theorem ok__first_break : RowOk tb 200 r__first_break := ⟨⟨rfl, rfl, rfl, by decide +kernel, rfl, by decide +kernel, by decide +kernel⟩, fun _ _ _ _ _ _ us hl => match us, hl with | [_, _, _], _ => rfl, rfl, rfl, by decide +kernel⟩
theorem ok_break_sort : RowOk tb 200 r_break_sort := ⟨⟨rfl, rfl, rfl, by decide +kernel, rfl, by decide +kernel, by decide +kernel⟩, fun _ _ _ _ _ _ us hl => match us, hl with | [_, _, _, _], _ => rfl, rfl, rfl, by decide +kernel⟩
theorem ok_BadLot___init__ : RowOk tb 200 r_BadLot___init__ := ⟨⟨rfl, rfl, rfl, by decide +kernel, rfl, by decide +kernel, by decide +kernel⟩, fun _ _ _ _ _ _ us hl => match us, hl with | [_, _], _ => rfl, rfl, rfl, by decide +kernel⟩
theorem ok_BadThing___init__ : RowOk tb 200 r_BadThing___init__ := ⟨⟨rfl, rfl, rfl, by decide +kernel, rfl, by decide +kernel, by decide +kernel⟩, fun _ _ _ _ _ _ us hl => match us, hl with | [_, _], _ => rfl, rfl, rfl, by decide +kernel⟩
theorem ok_NotInside___init__ : RowOk tb 200 r_NotInside___init__ := ⟨⟨rfl, rfl, rfl, by decide +kernel, rfl, by decide +kernel, by decide +kernel⟩, fun _ _ _ _ _ _ us hl => match us, hl with | [_, _], _ => rfl, rfl, rfl, by decide +kernel⟩
theorem ok_BadNumber___init__ : RowOk tb 200 r_BadNumber___init__ := ⟨⟨rfl, rfl, rfl, by decide +kernel, rfl, by decide +kernel, by decide +kernel⟩, fun _ _ _ _ _ _ us hl => match us, hl with | [_, _], _ => rfl, rfl, rfl, by decide +kernel⟩
theorem ok__law_number : RowOk tb 200 r__law_number := ⟨⟨rfl, rfl, rfl, by decide +kernel, rfl, by decide +kernel, by decide +kernel⟩, fun _ _ _ _ _ _ us hl => match us, hl with | [_], _ => rfl, rfl, rfl, by decide +kernel⟩
theorem ok__break_numbers : RowOk tb 200 r__break_numbers := ⟨⟨rfl, rfl, rfl, by decide +kernel, rfl, by decide +kernel, by decide +kernel⟩, fun _ _ _ _ _ _ us hl => match us, hl with | [_, _, _, _], _ => rfl, rfl, rfl, by decide +kernel⟩
theorem ok__partner_mask : RowOk tb 200 r__partner_mask := ⟨⟨rfl, rfl, rfl, by decide +kernel, rfl, by decide +kernel, by decide +kernel⟩, fun _ _ _ _ _ _ us hl => match us, hl with | [_, _, _], _ => rfl, rfl, rfl, by decide +kernel⟩
theorem ok__law_spoilt : RowOk tb 200 r__law_spoilt := ⟨⟨rfl, rfl, rfl, by decide +kernel, rfl, by decide +kernel, by decide +kernel⟩, fun _ _ _ _ _ _ us hl => match us, hl with | [_, _, _], _ => rfl, rfl, rfl, by decide +kernel⟩
theorem ok__law_sized : RowOk tb 200 r__law_sized := ⟨⟨rfl, rfl, rfl, by decide +kernel, rfl, by decide +kernel, by decide +kernel⟩, fun _ _ _ _ _ _ us hl => match us, hl with | [_, _, _], _ => rfl, rfl, rfl, by decide +kernel⟩
theorem ok__law_paired : RowOk tb 200 r__law_paired := ⟨⟨rfl, rfl, rfl, by decide +kernel, rfl, by decide +kernel, by decide +kernel⟩, fun _ _ _ _ _ _ us hl => match us, hl with | [_, _], _ => rfl, rfl, rfl, by decide +kernel⟩
theorem ok__law_web : RowOk tb 200 r__law_web := ⟨⟨rfl, rfl, rfl, by decide +kernel, rfl, by decide +kernel, by decide +kernel⟩, fun _ _ _ _ _ _ us hl => match us, hl with | [_, _], _ => rfl, rfl, rfl, by decide +kernel⟩
theorem ok__law_joined : RowOk tb 200 r__law_joined := ⟨⟨rfl, rfl, rfl, by decide +kernel, rfl, by decide +kernel, by decide +kernel⟩, fun _ _ _ _ _ _ us hl => match us, hl with | [_, _, _], _ => rfl, rfl, rfl, by decide +kernel⟩
theorem ok__is_size : RowOk tb 200 r__is_size := ⟨⟨rfl, rfl, rfl, by decide +kernel, rfl, by decide +kernel, by decide +kernel⟩, fun _ _ _ _ _ _ us hl => match us, hl with | [_], _ => rfl, rfl, rfl, by decide +kernel⟩
theorem ok_BadFamily___init__ : RowOk tb 200 r_BadFamily___init__ := ⟨⟨rfl, rfl, rfl, by decide +kernel, rfl, by decide +kernel, by decide +kernel⟩, fun _ _ _ _ _ _ us hl => match us, hl with | [_, _], _ => rfl, rfl, rfl, by decide +kernel⟩
theorem ok__number_or_none : RowOk tb 200 r__number_or_none := ⟨⟨rfl, rfl, rfl, by decide +kernel, rfl, by decide +kernel, by decide +kernel⟩, fun _ _ _ _ _ _ us hl => match us, hl with | [_, _], _ => rfl, rfl, rfl, by decide +kernel⟩
theorem ok__weight : RowOk tb 200 r__weight := ⟨⟨rfl, rfl, rfl, by decide +kernel, rfl, by decide +kernel, by decide +kernel⟩, fun _ _ _ _ _ _ us hl => match us, hl with | [_], _ => rfl, rfl, rfl, by decide +kernel⟩
theorem ok__number_in : RowOk tb 200 r__number_in := ⟨⟨rfl, rfl, rfl, by decide +kernel, rfl, by decide +kernel, by decide +kernel⟩, fun _ _ _ _ _ _ us hl => match us, hl with | [_, _], _ => rfl, rfl, rfl, by decide +kernel⟩
theorem ok_check_thing : RowOk tb 200 r_check_thing := ⟨⟨rfl, rfl, rfl, by decide +kernel, rfl, by decide +kernel, by decide +kernel⟩, fun _ _ _ _ _ _ us hl => match us, hl with | [_, _], _ => rfl, rfl, rfl, by decide +kernel⟩
theorem ok__needs_inside : RowOk tb 200 r__needs_inside := ⟨⟨rfl, rfl, rfl, by decide +kernel, rfl, by decide +kernel, by decide +kernel⟩, fun _ _ _ _ _ _ us hl => match us, hl with | [_, _], _ => rfl, rfl, rfl, by decide +kernel⟩
theorem ok_is_int : RowOk tb 200 r_is_int := ⟨⟨rfl, rfl, rfl, by decide +kernel, rfl, by decide +kernel, by decide +kernel⟩, fun _ _ _ _ _ _ us hl => match us, hl with | [_], _ => rfl, rfl, rfl, by decide +kernel⟩
theorem ok_lot_of : RowOk tb 200 r_lot_of := ⟨⟨rfl, rfl, rfl, by decide +kernel, rfl, by decide +kernel, by decide +kernel⟩, fun _ _ _ _ _ _ us hl => match us, hl with | [_, _], _ => rfl, rfl, rfl, by decide +kernel⟩
theorem ok__checked : RowOk tb 200 r__checked := ⟨⟨rfl, rfl, rfl, by decide +kernel, rfl, by decide +kernel, by decide +kernel⟩, fun _ _ _ _ _ _ us hl => match us, hl with | [_, _], _ => rfl, rfl, rfl, by decide +kernel⟩
theorem ok__wrong_place : RowOk tb 200 r__wrong_place := ⟨⟨rfl, rfl, rfl, by decide +kernel, rfl, by decide +kernel, by decide +kernel⟩, fun _ _ _ _ _ _ us hl => match us, hl with | [_, _], _ => rfl, rfl, rfl, by decide +kernel⟩
theorem ok_Family___len__ : RowOk tb 200 r_Family___len__ := ⟨⟨rfl, rfl, rfl, by decide +kernel, rfl, by decide +kernel, by decide +kernel⟩, fun _ _ _ _ _ _ us hl => match us, hl with | [_], _ => rfl, rfl, rfl, by decide +kernel⟩
theorem ok_Family___eq__ : RowOk tb 200 r_Family___eq__ := ⟨⟨rfl, rfl, rfl, by decide +kernel, rfl, by decide +kernel, by decide +kernel⟩, fun _ _ _ _ _ _ us hl => match us, hl with | [_, _], _ => rfl, rfl, rfl, by decide +kernel⟩
theorem ok_Family___add__ : RowOk tb 200 r_Family___add__ := ⟨⟨rfl, rfl, rfl, by decide +kernel, rfl, by decide +kernel, by decide +kernel⟩, fun _ _ _ _ _ _ us hl => match us, hl with | [_, _], _ => rfl, rfl, rfl, by decide +kernel⟩
theorem ok_Family___mul__ : RowOk tb 200 r_Family___mul__ := ⟨⟨rfl, rfl, rfl, by decide +kernel, rfl, by decide +kernel, by decide +kernel⟩, fun _ _ _ _ _ _ us hl => match us, hl with | [_, _], _ => rfl, rfl, rfl, by decide +kernel⟩
theorem ok_OtherSize___init__ : RowOk tb 200 r_OtherSize___init__ := ⟨⟨rfl, rfl, rfl, by decide +kernel, rfl, by decide +kernel, by decide +kernel⟩, fun _ _ _ _ _ _ us hl => match us, hl with | [_, _], _ => rfl, rfl, rfl, by decide +kernel⟩
theorem ok__from_numbers : RowOk tb 200 r__from_numbers := ⟨⟨rfl, rfl, rfl, by decide +kernel, rfl, by decide +kernel, by decide +kernel⟩, fun _ _ _ _ _ _ us hl => match us, hl with | [_, _], _ => rfl, rfl, rfl, by decide +kernel⟩
theorem ok_TooMany___init__ : RowOk tb 200 r_TooMany___init__ := ⟨⟨rfl, rfl, rfl, by decide +kernel, rfl, by decide +kernel, by decide +kernel⟩, fun _ _ _ _ _ _ us hl => match us, hl with | [_, _], _ => rfl, rfl, rfl, by decide +kernel⟩
theorem ok : ∀ r ∈ tb.fns, RowOk tb 200 r := fun r h => by
  simp only [tb, List.mem_cons, List.not_mem_nil, or_false] at h
  rcases h with rfl | rfl | rfl | rfl | rfl | rfl | rfl | rfl | rfl | rfl | rfl | rfl | rfl | rfl | rfl | rfl | rfl | rfl | rfl | rfl | rfl | rfl | rfl | rfl | rfl | rfl | rfl | rfl | rfl | rfl | rfl | rfl | rfl | rfl | rfl | rfl | rfl | rfl | rfl | rfl | rfl | rfl | rfl | rfl | rfl | rfl | rfl | rfl | rfl | rfl | rfl | rfl | rfl | rfl | rfl | rfl | rfl | rfl | rfl
  · exact ok_law
  · exact ok__law_draws
  · exact ok__law_take
  · exact ok__law_between
  · exact ok__law_any
  · exact ok__law_family
  · exact ok_Family___init__
  · exact ok__law_lots
  · exact ok__law_all
  · exact ok_find_break
  · exact ok_near_break
  · exact ok__law_mixed
  · exact ok__law_lot
  · exact ok__law_sort
  · exact ok__law_int
  · exact ok__law_shape
  · exact ok_partners
  · exact ok__law_refusals
  · exact ok__law_turned
  · exact ok__law_made
  · exact ok__law_inside
  · exact ok__law_listed
  · exact ok__numbers_of
  · exact ok__lot_of
  · exact ok__number_of
  · exact ok__depths_of
  · exact ok__law_bits
  · exact ok__first_break
  · exact ok_break_sort
  · exact ok_BadLot___init__
  · exact ok_BadThing___init__
  · exact ok_NotInside___init__
  · exact ok_BadNumber___init__
  · exact ok__law_number
  · exact ok__break_numbers
  · exact ok__partner_mask
  · exact ok__law_spoilt
  · exact ok__law_sized
  · exact ok__law_paired
  · exact ok__law_web
  · exact ok__law_joined
  · exact ok__is_size
  · exact ok_BadFamily___init__
  · exact ok__number_or_none
  · exact ok__weight
  · exact ok__number_in
  · exact ok_check_thing
  · exact ok__needs_inside
  · exact ok_is_int
  · exact ok_lot_of
  · exact ok__checked
  · exact ok__wrong_place
  · exact ok_Family___len__
  · exact ok_Family___eq__
  · exact ok_Family___add__
  · exact ok_Family___mul__
  · exact ok_OtherSize___init__
  · exact ok__from_numbers
  · exact ok_TooMany___init__
theorem prg_eq : tb.prg = P := rfl
theorem tab_eq : tb.tab = T := rfl
end K07
open PySem PySem.W PySem.Calls PyProof.Rows
theorem K07.holds (n : Nat) (hr : L2.Room (2 * n + 3) PySem.callerA) (hh : ∀ ns : List Int, ns.length ≤ 63 → ∃ S, G.run K07.P K07.T (n + 1) 0 [.d (.lst (G.dI ns))] [] = .ok (.d (.bl true)) S) : PySem.Challenge.rw_answeredturns_k07_breaks_of_the_least_ga.Holds := by
  w_on; o_law
  refine HandSHeadRun.head_any (r := OpenLaw.row PySem.Challenge.rw_answeredturns_k07_breaks_of_the_least_ga) (q := view (OpenLaw.row PySem.Challenge.rw_answeredturns_k07_breaks_of_the_least_ga).prog [64]) (H := K07.hk0) (ob := K07.ob0) (M := 20000) (loose := K07.names) (d := HandSHeadRun.topDef (OpenLaw.row PySem.Challenge.rw_answeredturns_k07_breaks_of_the_least_ga).prog 64) (kwd := []) K07.ob_eq0
    (by kernel_rfl) (fun s => by kernel_rfl) K07.run0 (by kernel_rfl) (by kernel_rfl) (by kernel_rfl) (by rfl) (by first | assumption | decide +kernel) (by decide +kernel) ⟨rfl, rfl, rfl, rfl, rfl, by decide +kernel⟩ ?hw ?hc
  case hw => w_witness2
  case hc =>
    refine GS.walkG (lw := PySem.Challenge.rw_answeredturns_k07_breaks_of_the_least_ga) (most := 63) (k := 2 * n + 3) rfl (by decide) (by kernel_rfl) hr ?_
    intro w mg fa h K KX c Gm hmg0
    have hmg : mg ("law" : PySem.Str) = some (.ref fa) := by
      have e : (HandSHeadRun.topDef (OpenLaw.row PySem.Challenge.rw_answeredturns_k07_breaks_of_the_least_ga).prog 64).name = ("law" : PySem.Str) := by kernel_rfl
      rw [← e]
      exact hmg0
    obtain ⟨fd, F⟩ := c.fun_ (f := 0) (r := K07.r_law) rfl
    have e0 := (GS.Tb.fxx KX Gm K07.wf K07.wf2 c K07.ok).fn 0 rfl
    have e1 : fa = K07.tb.fa K 0 := by
      have e2 := hmg.symm.trans e0.1
      cases e2
      rfl
    subst e1
    have b := L2.FunD.bindsA (ps := ["script"]) F fun _ _ _ _ _ _ us hl => match us, hl with | [_], _ => rfl
    exact ⟨fd, fun s v => b s [v] rfl, fun base _ _ => GS.law_ok (n := n) KX Gm K07.wf K07.wf2 c K07.ok (r := K07.r_law) rfl F hh⟩
/-- the law holds -/
theorem PySem.Challenge.cw_answeredturns_k07_breaks_of_the_least_ga_holds : PySem.Challenge.rw_answeredturns_k07_breaks_of_the_least_ga.Holds := by
  exact K07.holds 9 ⟨rfl, by decide, by decide⟩ fun ns h => K07.law_true 0 ns h
