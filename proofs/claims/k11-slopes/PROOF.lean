import PyProof.Rows.All
import Wide.All
import OpenK.AllK
import Wide.FinOn
import HandS.ForExc
import HandS.SortRule
import KE.SortData
import KE.DataMinMax
import HandS.Style
import HandS.TupAny
import HandS.Deep
import HandS.Wide
import HandS.IsInst
import HandS.ExcIs
import HandS.TupMul
import HandS.TupLe
import HandS.SetFor
import HandS.Dict
import HandS.Comp
import HandS.Iter
import HandS.Zip
import KE.GoesEnum
import HandS.NoneIn
import HandS.More
import HandS.Text
import HandS.Defaults
import HandS.HeadHook4
import HandS.EndBits
import HandS.HeadEnd
import HandS.Head2
import KE.OsSortAny
import PySem.Challenge.RW_glideways_k11_whole_slopes
set_option Elab.async false
set_option linter.all false
set_option maxRecDepth 100000
set_option maxHeartbeats 0
set_option exponentiation.threshold 100000
section
/-! C1: plain data, an own small language and its plain interpreter. -/
namespace GW
open PySem (Str)

/-! ### data -/
inductive D where
  | non
  | bl (b : Bool)
  | int (i : Int)
  | str (s : Str)
  | tup (xs : List D)
  | lst (xs : List D)
  | dic (kvs : List (Str × D))
  | exc (c : Nat)
  | ins (c : Nat) (fs : List (Str × Bool × D))

instance : Inhabited D := ⟨.non⟩

def D.isIns : D → Bool
  | .ins .. => true
  | _ => false

mutual
def D.eqv : D → D → Bool
  | .non, .non => true
  | .bl a, .bl b => a == b
  | .bl a, .int b => (if a then 1 else 0) == b
  | .int a, .bl b => a == (if b then 1 else 0)
  | .int a, .int b => a == b
  | .str a, .str b => a == b
  | .tup xs, .tup ys => D.eqvs xs ys
  | .lst xs, .lst ys => D.eqvs xs ys
  | _, _ => false
def D.eqvs : List D → List D → Bool
  | [], [] => true
  | x :: xs, y :: ys => D.eqv x y && D.eqvs xs ys
  | _, _ => false
end
mutual
/-- how deep; what is no plain data is too deep -/
def D.dep : D → Nat
  | .non => 0
  | .bl _ => 0
  | .int _ => 0
  | .str s => if PySem.PyData.strOk s then 0 else 100
  | .tup xs => D.deps xs + 1
  | .lst xs => D.deps xs + 1
  | .dic _ => 100
  | .exc _ => 100
  | .ins _ _ => 100
def D.deps : List D → Nat
  | [] => 0
  | x :: xs => max (D.dep x) (D.deps xs)
end
def D.dic? : D → Option (List (Str × D))
  | .dic kvs => some kvs
  | _ => none

/-! ### slots -/
inductive Sl where
  | no | fz (d : D) | ow (d : D)
abbrev Env := List Sl
def isOw : Sl → Bool
  | .ow _ => true
  | _ => false
def getS (ρ : Env) (i : Nat) : Sl := match ρ[i]? with
  | some s => s
  | none => .no

/-! ### results -/
inductive Out (α : Type) where
  | ok (a : α) (ρ : Env)
  | exn (c : Nat) (ρ : Env)
  | bad
def Out.bind {α β : Type} : Out α → (α → Env → Out β) → Out β
  | .ok a ρ, k => k a ρ
  | .exn c ρ, _ => .exn c ρ
  | .bad, _ => .bad
def Out.of {α : Type} (o : Option α) (ρ : Env) : Out α := match o with
  | some a => .ok a ρ
  | none => .bad
inductive Flow where
  | nx (ρ : Env)
  | rt (d : D) (own : Bool) (ρ : Env)
  | bk (ρ : Env)
  | ct (ρ : Env)
  | exn (c : Nat) (ρ : Env)
  | bad
inductive Res where
  | ok (d : D) (own : Bool) (self : D)
  | exn (c : Nat) (self : D)
  | bad

/-! ### the language -/
inductive BOp where | add | sub | mul | fdiv | mod | pow
inductive COp where | lt | le | gt | ge | eq | ne | is_ | isnot | in_ | nin
inductive Ty where | int | bool | str | tuple | list | valueError | exc (c : Nat)
inductive Bi where | len | abs | str | int | list | tuple | sorted | sset | all | any | sum | min | max | dict
inductive Mt where | count | index | join | split | partition | get | items
inductive Bo where | len | ix | eq | ne | in_ | nin | list | count | index
inductive Pl where | sl (i : Nat) | fld (i : Nat) (f : Str)
inductive Tg where | nm (i : Nat) | tp (is : List Nat)

inductive Px where
  | var (i : Nat)
  | mov (i : Nat)
  | int (i : Int)
  | bl (b : Bool)
  | non
  | str (s : Str)
  | glo (g : Nat)
  | fld (i : Nat) (f : Str)
  | tup (es : List Px)
  | lst (es : List Px)
  | dct (ks : List Str) (es : List Px)
  | bin (o : BOp) (a b : Px)
  | neg (a : Px)
  | cmp (o : COp) (a b : Px)
  | chain (o1 o2 : COp) (a b c : Px)
  | conj (es : List Px)
  | disj (es : List Px)
  | nt (a : Px)
  | ife (t a b : Px)
  | ix (a i : Px)
  | dix (a i : Px)
  | gix (g : Nat) (i : Px)
  | sl (a : Px) (lo hi : List Px)
  | rev (a : Px)
  | call (f : Nat) (es : List Px)
  | bi (b : Bi) (es : List Px)
  | isi (a : Px) (t : Ty)
  | mt (m : Mt) (a : Px) (es : List Px)
  | bop (o : Bo) (p : Pl) (es : List Px)
  | pop (p : Pl)
  | mcall (f : Nat) (i : Nat) (es : List Px)
  | make (c : Nat) (f : Nat) (es : List Px)
  | rng (es : List Px)
  | zip (a b : Px)
  | enum (a : Px)
  | lc (own : List Nat) (tg : Tg) (it : Px) (cond : List Px) (e : Px)

inductive Ps where
  | asg (i : Nat) (e : Px)
  | asgT (is : List Nat) (e : Px)
  | par (is : List Nat) (es : List Px)
  | exp (e : Px)
  | app (p : Pl) (e : Px)
  | ext (p : Pl) (e : Px)
  | insr (p : Pl) (k e : Px)
  | setk (p : Pl) (k v : Px)
  | setf (i : Nat) (f : Str) (e : Px)
  | ite (c : Px) (a b : List Ps)
  | forS (tg : Tg) (it : Px) (b : List Ps)
  | whl (c : Px) (b : List Ps)
  | ret (e : Px)
  | retN
  | raise (c : Nat)
  | tryK (body : List Ps) (c : Nat) (n k : Nat)
  | brk
  | cont
  | pass

/-! ### what operations tell -/
def lineD : Nat := 16777216
/-- a place of a sequence, from the end where it is below 0 -/
def ixN (n : Nat) (i : Int) : Option Nat := if 0 ≤ i then (if i < n then some i.toNat else none) else if -(n : Int) ≤ i then some (i + n).toNat else none
def ixL {α : Type} (xs : List α) (i : Int) : Option α := (ixN xs.length i).bind fun j => xs[j]?
/-- an end of a slice -/
def cutN (n d : Nat) : Option Int → Nat
  | none => d
  | some i => if i < 0 then (i + n).toNat else min i.toNat n
def cutL {α : Type} (xs : List α) (lo hi : Option Int) : List α := (xs.drop (cutN xs.length 0 lo)).take (cutN xs.length xs.length hi - cutN xs.length 0 lo)
def okI (i : Int) : Bool := decide (-(2 ^ 62) < i) && decide (i < 2 ^ 62)

def binv : BOp → D → D → Option (D × Bool)
  | .add, .int i, .int j => some (.int (i + j), false)
  | .add, .str x, .str y => if x.length + y.length ≤ lineD then some (.str (x ++ y), false) else none
  | .add, .lst xs, .lst ys => if xs.length + ys.length ≤ lineD then some (.lst (xs ++ ys), true) else none
  | .add, .tup xs, .tup ys => if xs.length + ys.length ≤ lineD then some (.tup (xs ++ ys), false) else none
  | .sub, .int i, .int j => some (.int (i - j), false)
  | .mul, .int i, .int j => if i.natAbs.log2 + j.natAbs.log2 < 100000000 then some (.int (i * j), false) else none
  | .mul, .lst xs, .int j => if okI j && decide (xs.length * j.toNat ≤ lineD) then some (.lst ((List.replicate j.toNat xs).flatten), true) else none
  | .mul, .tup xs, .int j => if !xs.isEmpty && (decide (2 ≤ j) && (decide (j ≤ 1000) && decide (xs.length ≤ 1000))) then some (.tup ((List.replicate j.toNat xs).flatten), false) else none
  | .fdiv, .int i, .int j => if j != 0 && decide (j.natAbs.log2 < 9000) then some (.int (i.fdiv j), false) else none
  | .mod, .int i, .int j => if j != 0 then some (.int (i.fmod j), false) else none
  | .pow, .int i, .int j => if decide (0 ≤ j) && decide (j ≤ 1000) && decide (i.natAbs < 18446744073709551616) then some (.int (i ^ j.toNat), false) else none
  | _, _, _ => none
def deep (x y : D) : Bool := decide (x.dep ≤ 60) && decide (y.dep ≤ 60)
def cmpv : COp → D → D → Option Bool
  | .lt, .int i, .int j => some (decide (i < j))
  | .le, .int i, .int j => some (decide (i ≤ j))
  | .gt, .int i, .int j => some (decide (j < i))
  | .ge, .int i, .int j => some (decide (j ≤ i))
  | .eq, x, y => if deep x y then some (x.eqv y) else none
  | .ne, x, y => if deep x y then some (!x.eqv y) else none
  | .is_, x, .non => some (match x with | .non => true | _ => false)
  | .isnot, x, .non => some (match x with | .non => false | _ => true)
  | .is_, .bl a, .bl b => some (a == b)
  | .isnot, .bl a, .bl b => some (!(a == b))
  | .in_, x, .lst ys => if deep x (.lst ys) then some (ys.any fun y => y.eqv x) else none
  | .nin, x, .lst ys => if deep x (.lst ys) then some (!ys.any fun y => y.eqv x) else none
  | .in_, x, .tup ys => if deep x (.tup ys) then some (ys.any fun y => y.eqv x) else none
  | .nin, x, .tup ys => if deep x (.tup ys) then some (!ys.any fun y => y.eqv x) else none
  | .in_, .str k, .dic kvs => some (kvs.lookup k).isSome
  | .nin, .str k, .dic kvs => some (!(kvs.lookup k).isSome)
  | _, _, _ => none
def ixv : D → D → Option D
  | .lst xs, .int i => ixL xs i
  | .tup xs, .int i => ixL xs i
  | .str z, .int i => if z.length ≤ lineD then (ixL z.cps.toList i).map fun c => .str ⟨#[c]⟩ else none
  | _, _ => none
def dixv : D → D → Option D
  | .dic kvs, .str k => kvs.lookup k
  | _, _ => none
/-- a part of a slice that may be left out -/
def partv : List D → Option (Option Int)
  | [] => some none
  | [.int i] => some (some i)
  | _ => none
def slv (a : D) (lo hi : Option Int) : Option (D × Bool) := match a with
  | .lst xs => some (.lst (cutL xs lo hi), true)
  | .tup xs => some (.tup (cutL xs lo hi), false)
  | .str z => if z.length ≤ lineD then some (.str ⟨(cutL z.cps.toList lo hi).toArray⟩, false) else none
  | _ => none
def revv : D → Option (D × Bool)
  | .lst xs => some (.lst xs.reverse, true)
  | _ => none
def boolsv : List D → Option (List Bool)
  | [] => some []
  | .bl b :: r => (boolsv r).map (b :: ·)
  | _ :: _ => none
def intsv : List D → Option (List Int)
  | [] => some []
  | .int b :: r => (intsv r).map (b :: ·)
  | _ :: _ => none
/-! ### plain data as the library's -/
mutual
def D.py : D → PySem.PyData
  | .non => .none
  | .bl b => .bool b
  | .int i => .int i
  | .str s => .str s
  | .tup xs => .tuple (D.pys xs)
  | .lst xs => .list (D.pys xs)
  | .dic _ => .none
  | .exc _ => .none
  | .ins _ _ => .none
def D.pys : List D → List PySem.PyData
  | [] => []
  | x :: xs => D.py x :: D.pys xs
end
/-- may be sorted: all alike, all tuples with an item or none of them a tuple or None -/
def tupNE : D → Bool
  | .tup (_ :: _) => true
  | _ => false
def noTup : D → Bool
  | .non => false
  | .tup _ => false
  | _ => true
def alikeD (xs : List D) : Bool := (xs.all fun x => xs.all fun y => PySem.W.alike x.py y.py) && decide (D.deps xs ≤ 50)
def okSort (xs : List D) : Bool := alikeD xs && ((xs.all tupNE) || (xs.all noTup))
/-- the first of the least -/
def minD' (x : D) (xs : List D) : D := xs.foldl (fun a y => if PySem.W.dataLt y.py a.py then y else a) x
/-- two ints -/
def p2? : D → Option (Int × Int)
  | .tup [.int i, .int j] => some (i, j)
  | _ => none
def kD (d : D) : Int × Int := (p2? d).getD (0, 0)
def insB {α : Type} (lt : α → α → Bool) (x : α) : List α → List α
  | [] => [x]
  | y :: l => if lt y x then y :: insB lt x l else x :: y :: l
/-- sorted, like ones as they stood -/
def sortB {α : Type} (lt : α → α → Bool) : List α → List α
  | [] => []
  | x :: l => insB lt x (sortB lt l)
def ltD (x y : D) : Bool := SrtO.lexB (kD x) (kD y)
def biv : Bi → List D → Option (D × Bool)
  | .len, [.lst xs] => some (.int xs.length, false)
  | .len, [.tup xs] => some (.int xs.length, false)
  | .len, [.str z] => if z.length ≤ lineD then some (.int z.length, false) else none
  | .abs, [.int i] => some (.int (if i < 0 then -i else i), false)
  | .str, [.int i] => if i.natAbs.log2 < 1920 then some (.str (toString i), false) else none
  | .list, [.lst xs] => some (.lst xs, true)
  | .list, [.tup xs] => some (.lst xs, true)
  | .sorted, [.lst xs] => if xs.all fun x => (p2? x).isSome then some (.lst (sortB ltD xs), true) else if okSort xs then some (.lst (xs.mergeSort (PySem.W.dataLe false D.py)), true) else none
  | .min, [.lst (x :: xs)] => if alikeD (x :: xs) && ((x :: xs).all fun y => match y with | .non => false | _ => true) then some (minD' x xs, false) else none
  | .tuple, [.lst xs] => some (.tup xs, false)
  | .tuple, [.tup xs] => some (.tup xs, false)
  | .all, [.lst xs] => (boolsv xs).map fun bs => (.bl (bs.all id), false)
  | .any, [.lst xs] => (boolsv xs).map fun bs => (.bl (bs.any id), false)
  | _, _ => none
/-- is a thing of a type; sub: the classes of refusals -/
def isiv (sub : Nat → Nat → Option Bool) : D → Ty → Option Bool
  | .exc c, .valueError => (sub c c).map fun _ => true
  | _, .valueError => none
  | .non, .exc _ => none
  | .non, _ => some false
  | .bl _, .int => some true
  | .bl _, .bool => some true
  | .bl _, .exc _ => none
  | .bl _, _ => some false
  | .int _, .int => some true
  | .int _, .exc _ => none
  | .int _, _ => some false
  | .str _, .str => some true
  | .str _, .exc _ => none
  | .str _, _ => some false
  | .tup _, .tuple => some true
  | .tup _, .exc _ => none
  | .tup _, _ => some false
  | .lst _, .list => some true
  | .lst _, .exc _ => none
  | .lst _, _ => some false
  | .exc c, .exc k => sub c k
  | .exc _, _ => none
  | _, _ => none
def countv (x : D) (xs : List D) : Nat := (xs.filter fun y => y.eqv x).length
def indexv (x : D) : List D → Nat → Option Nat
  | [], _ => none
  | y :: ys, i => if y.eqv x then some i else indexv x ys (i + 1)
def mtv : Mt → D → List D → Option (D × Bool)
  | .count, .lst xs, [x] => if deep x (.lst xs) then some (.int (countv x xs), false) else none
  | .index, .lst xs, [x] => if deep x (.lst xs) then (indexv x xs 0).map fun (i : Nat) => (.int i, false) else none
  | .get, .dic kvs, [.str k, d] => some ((kvs.lookup k).getD d, false)
  | _, _, _ => none
/-- of what a method is -/
def mtTy : Mt → D → Bool
  | .count, .lst _ => true
  | .index, .lst _ => true
  | .join, .str _ => true
  | .split, .str _ => true
  | .partition, .str _ => true
  | .get, .dic _ => true
  | .items, .dic _ => true
  | _, _ => false
def bov : Bo → D → List D → Option (D × Bool)
  | .len, d, [] => biv .len [d]
  | .ix, .lst xs, [.int i] => (ixL xs i).map (·, false)
  | .eq, d, [x] => (cmpv .eq d x).map (.bl ·, false)
  | .ne, d, [x] => (cmpv .ne d x).map (.bl ·, false)
  | .in_, d, [x] => (cmpv .in_ x d).map (.bl ·, false)
  | .nin, d, [x] => (cmpv .nin x d).map (.bl ·, false)
  | .list, d, [] => biv .list [d]
  | .count, d, [x] => mtv .count d [x]
  | .index, d, [x] => mtv .index d [x]
  | _, _, _ => none
/-- what a loop goes through -/
def itemsv : D → Option (List D)
  | .lst xs => some xs
  | .tup xs => some xs
  | .str z => some (z.cps.toList.map fun c => .str ⟨#[c]⟩)
  | _ => none
def rngv : List D → Option (List D)
  | [.int j] => if okI j then some ((List.range j.toNat).map fun (k : Nat) => .int k) else none
  | [.int i, .int j] => if okI i && okI j then some ((List.range (j - i).toNat).map fun (k : Nat) => .int (i + k)) else none
  | _ => none
def pairD : D → D → D := fun x y => .tup [x, y]
def zipv : D → D → Option (List D)
  | .lst xs, .lst ys => some (List.zipWith pairD xs ys)
  | .tup xs, .tup ys => some (List.zipWith pairD xs ys)
  | _, _ => none
def enumFrom : Nat → List D → List D
  | _, [] => []
  | n, x :: xs => .tup [.int n, x] :: enumFrom (n + 1) xs
def enumv : D → Option (List D)
  | .lst xs => some (enumFrom 0 xs)
  | .tup xs => some (enumFrom 0 xs)
  | _ => none

/-! ### places -/
def fget (f : Str) : List (Str × Bool × D) → Option (Bool × D)
  | [] => none
  | (g, x) :: r => if g == f then some x else fget f r
def dput (k : Str) (v : D) (kvs : List (Str × D)) : List (Str × D) := if kvs.any fun x => x.1 == k then kvs.map fun x => if x.1 == k then (x.1, v) else x else kvs ++ [(k, v)]
def fput (f : Str) (x : Bool × D) : List (Str × Bool × D) → List (Str × Bool × D)
  | [] => [(f, x)]
  | (g, y) :: r => if g == f then (g, x) :: r else (g, y) :: fput f x r
/-- what stands at a place, only looked at -/
def peek (ρ : Env) : Pl → Option D
  | .sl i => match getS ρ i with
    | .fz d => some d
    | .ow (.ins _ _) => none
    | .ow d => some d
    | .no => none
  | .fld i f => match getS ρ i with
    | .ow (.ins _ fs) => (fget f fs).map (·.2)
    | _ => none
/-- what stands at a place and may be changed -/
def peekO (ρ : Env) : Pl → Option D
  | .sl i => match getS ρ i with
    | .ow (.ins _ _) => none
    | .ow d => some d
    | _ => none
  | .fld i f => match getS ρ i with
    | .ow (.ins _ fs) => match fget f fs with
      | some (true, d) => some d
      | _ => none
    | _ => none
def poke (ρ : Env) (d : D) : Pl → Env
  | .sl i => ρ.set i (.ow d)
  | .fld i f => match getS ρ i with
    | .ow (.ins c fs) => ρ.set i (.ow (.ins c (fput f (true, d) fs)))
    | _ => ρ

def Tg.slots : Tg → List Nat
  | .nm i => [i]
  | .tp is => is

/-! ### the interpreter -/
/-- what runs around: calls, a global name's worth, the turns of a while at most -/
structure Rt where
  call : Nat → D → List D → Res
  glob : Nat → Option D
  sub : Nat → Nat → Option Bool
  turns : Nat
  /-- slot 0 holds the instance whose method runs -/
  meth : Bool
/-- where a value is put to others' use -/
def Out.frz : Out (D × Bool) → Out D
  | .ok x ρ => if x.2 && x.1.isIns then .bad else .ok x.1 ρ
  | .exn c ρ => .exn c ρ
  | .bad => .bad
def setTs : Env → List Nat → List D → Option Env
  | ρ, [], [] => some ρ
  | ρ, i :: is, d :: ds => setTs (ρ.set i (.fz d)) is ds
  | _, _, _ => none
def setTg (ρ : Env) : Tg → D → Option Env
  | .nm i, d => some (ρ.set i (.fz d))
  | .tp is, .tup ds => setTs ρ is ds
  | .tp _, _ => none
def wipeE (ρ : Env) : List Nat → Env
  | [] => ρ
  | i :: is => (wipeE ρ is).set i .no
/-- a comprehension's turns: none where one is not told, some none where it is left out -/
def collect (f : D → Option (Option D)) : List D → Option (List D)
  | [] => some []
  | x :: xs => match f x with
    | none => none
    | some none => collect f xs
    | some (some y) => (collect f xs).map (y :: ·)

mutual
/-- m: nothing that stands may be changed -/
def ev (R : Rt) (m : Bool) : Px → Env → Out (D × Bool)
  | .var i, ρ => match getS ρ i with
    | .fz d => .ok (d, false) ρ
    | .ow d => if m || d.isIns then .bad else .ok (d, false) (ρ.set i (.fz d))
    | .no => .bad
  | .mov i, ρ => match getS ρ i with
    | .fz d => .ok (d, false) ρ
    | .ow d => if m then .bad else .ok (d, true) (ρ.set i .no)
    | .no => .bad
  | .int i, ρ => .ok (.int i, false) ρ
  | .bl b, ρ => .ok (.bl b, false) ρ
  | .non, ρ => .ok (.non, false) ρ
  | .str s, ρ => .ok (.str s, false) ρ
  | .glo g, ρ => match R.glob g with
    | some d => .ok (d, false) ρ
    | none => .bad
  | .fld i f, ρ => match getS ρ i with
    | .ow (.ins c fs) => match fget f fs with
      | some (false, d) => .ok (d, false) ρ
      | some (true, d) => if m then .bad else .ok (d, false) (ρ.set i (.ow (.ins c (fput f (false, d) fs))))
      | none => .bad
    | _ => .bad
  | .tup es, ρ => (evs R m es ρ).bind fun ds ρ => .ok (.tup ds, false) ρ
  | .lst es, ρ => (evs R m es ρ).bind fun ds ρ => .ok (.lst ds, true) ρ
  | .dct ks es, ρ => (evs R m es ρ).bind fun ds ρ => if ks.length == ds.length then .ok (.dic (ks.zip ds), true) ρ else .bad
  | .bin o a b, ρ => (ev R m a ρ).frz.bind fun x ρ => (ev R m b ρ).frz.bind fun y ρ => Out.of (binv o x y) ρ
  | .neg a, ρ => (ev R m a ρ).bind fun x ρ => match x.1 with
    | .int i => .ok (.int (-i), false) ρ
    | _ => .bad
  | .cmp o a b, ρ => (ev R m a ρ).frz.bind fun x ρ => (ev R m b ρ).frz.bind fun y ρ => (Out.of (cmpv o x y) ρ).bind fun c ρ => .ok (.bl c, false) ρ
  | .chain o1 o2 a b c, ρ => (ev R m a ρ).frz.bind fun x ρ => (ev R m b ρ).frz.bind fun y ρ => (Out.of (cmpv o1 x y) ρ).bind fun k ρ =>
      if k then (ev R m c ρ).frz.bind fun z ρ => (Out.of (cmpv o2 y z) ρ).bind fun k ρ => .ok (.bl k, false) ρ else .ok (.bl false, false) ρ
  | .conj es, ρ => evAnd R m es ρ
  | .disj es, ρ => evOr R m es ρ
  | .nt a, ρ => (ev R m a ρ).bind fun x ρ => match x.1 with
    | .bl b => .ok (.bl (!b), false) ρ
    | _ => .bad
  | .ife t a b, ρ => (ev R m t ρ).bind fun x ρ => match x.1 with
    | .bl true => ev R m a ρ
    | .bl false => ev R m b ρ
    | _ => .bad
  | .ix a i, ρ => (ev R m a ρ).frz.bind fun x ρ => (ev R m i ρ).frz.bind fun y ρ => (Out.of (ixv x y) ρ).bind fun d ρ => .ok (d, false) ρ
  | .gix g i, ρ => (ev R m i ρ).frz.bind fun y ρ => match R.glob g with
    | some (.dic kvs) => (Out.of (dixv (.dic kvs) y) ρ).bind fun d ρ => .ok (d, false) ρ
    | _ => .bad
  | .dix a i, ρ => (ev R m a ρ).frz.bind fun x ρ => (ev R m i ρ).frz.bind fun y ρ => (Out.of (dixv x y) ρ).bind fun d ρ => .ok (d, false) ρ
  | .sl a lo hi, ρ => (ev R m a ρ).frz.bind fun x ρ => (evs R m lo ρ).bind fun l ρ => (Out.of (partv l) ρ).bind fun l ρ => (evs R m hi ρ).bind fun h ρ => (Out.of (partv h) ρ).bind fun h ρ => Out.of (slv x l h) ρ
  | .rev a, ρ => (ev R m a ρ).frz.bind fun x ρ => Out.of (revv x) ρ
  | .call f es, ρ => (evs R m es ρ).bind fun ds ρ => match R.call f .non ds with
    | .ok d o .non => .ok (d, o) ρ
    | .exn c .non => .exn c ρ
    | _ => .bad
  | .bi b es, ρ => (evs R m es ρ).bind fun ds ρ => Out.of (biv b ds) ρ
  | .isi a t, ρ => (ev R m a ρ).frz.bind fun x ρ => (Out.of (isiv R.sub x t) ρ).bind fun c ρ => .ok (.bl c, false) ρ
  | .mt k a es, ρ => (ev R m a ρ).frz.bind fun x ρ => if mtTy k x then (evs R m es ρ).bind fun ds ρ => Out.of (mtv k x ds) ρ else .bad
  | .bop o p es, ρ => match peek ρ p with
    | some _ => (evs R m es ρ).bind fun ds ρ => match peek ρ p with
      | some d => Out.of (bov o d ds) ρ
      | none => .bad
    | none => .bad
  | .pop p, ρ => if m then .bad else match peekO ρ p with
    | some (.lst xs) => match xs.getLast? with
      | some x => .ok (x, false) (poke ρ (.lst xs.dropLast) p)
      | none => .bad
    | _ => .bad
  | .mcall f i es, ρ => if m then .bad else (evs R m es ρ).bind fun ds ρ => match getS ρ i with
    | .ow (.ins c fs) => match R.call f (.ins c fs) ds with
      | .ok d o (.ins c fs) => .ok (d, o) (ρ.set i (.ow (.ins c fs)))
      | .exn c' (.ins c fs) => .exn c' (ρ.set i (.ow (.ins c fs)))
      | _ => .bad
    | _ => .bad
  | .make c f es, ρ => (evs R m es ρ).bind fun ds ρ => match R.call f (.ins c []) ds with
    | .ok .non false (.ins c fs) => .ok (.ins c fs, true) ρ
    | .exn c' _ => .exn c' ρ
    | _ => .bad
  | .rng es, ρ => (evs R m es ρ).bind fun ds ρ => match rngv ds with
    | some xs => .ok (.lst xs, false) ρ
    | none => .bad
  | .zip a b, ρ => (ev R m a ρ).frz.bind fun x ρ => (ev R m b ρ).frz.bind fun y ρ => match zipv x y with
    | some xs => .ok (.lst xs, false) ρ
    | none => .bad
  | .enum a, ρ => (ev R m a ρ).frz.bind fun x ρ => match enumv x with
    | some xs => .ok (.lst xs, false) ρ
    | none => .bad
  | .lc own tg it cond e, ρ => (ev R m it ρ).frz.bind fun x ρ => match itemsv x with
    | none => .bad
    | some xs => if own.any fun i => isOw (getS ρ i) then .bad else match collect (fun d => match setTg (wipeE ρ own) tg d with
        | none => none
        | some ρ1 => match evAnd R true cond ρ1 with
          | .ok (.bl true, _) _ => match (ev R true e ρ1).frz with
            | .ok y _ => some (some y)
            | _ => none
          | .ok (.bl false, _) _ => some none
          | _ => none) xs with
      | none => .bad
      | some ys => if ys.length ≤ lineD then .ok (.lst ys, true) ρ else .bad
def evs (R : Rt) (m : Bool) : List Px → Env → Out (List D)
  | [], ρ => .ok [] ρ
  | e :: es, ρ => (ev R m e ρ).frz.bind fun x ρ => (evs R m es ρ).bind fun ds ρ => .ok (x :: ds) ρ
def evAnd (R : Rt) (m : Bool) : List Px → Env → Out (D × Bool)
  | [], ρ => .ok (.bl true, false) ρ
  | e :: es, ρ => (ev R m e ρ).bind fun x ρ => match x.1 with
    | .bl true => evAnd R m es ρ
    | .bl false => .ok (.bl false, false) ρ
    | _ => .bad
def evOr (R : Rt) (m : Bool) : List Px → Env → Out (D × Bool)
  | [], ρ => .ok (.bl false, false) ρ
  | e :: es, ρ => (ev R m e ρ).bind fun x ρ => match x.1 with
    | .bl true => .ok (.bl true, false) ρ
    | .bl false => evOr R m es ρ
    | _ => .bad
end

def seqF : Flow → (Env → Flow) → Flow
  | .nx ρ, k => k ρ
  | r, _ => r
/-- behind an expression -/
def onOut {α : Type} : Out α → (α → Env → Flow) → Flow
  | .ok a ρ, k => k a ρ
  | .exn c ρ, _ => .exn c ρ
  | .bad, _ => .bad
def forL (f : D → Env → Flow) : List D → Env → Flow
  | [], ρ => .nx ρ
  | x :: xs, ρ => match f x ρ with
    | .nx ρ => forL f xs ρ
    | .ct ρ => forL f xs ρ
    | .bk ρ => .nx ρ
    | r => r
def whlL (c : Env → Out (D × Bool)) (b : Env → Flow) : Nat → Env → Flow
  | 0, _ => .bad
  | n + 1, ρ => match c ρ with
    | .ok (.bl true, _) ρ => match b ρ with
      | .nx ρ => whlL c b n ρ
      | .ct ρ => whlL c b n ρ
      | .bk ρ => .nx ρ
      | r => r
    | .ok (.bl false, _) ρ => .nx ρ
    | .exn c ρ => .exn c ρ
    | _ => .bad
/-- a value is stored at a name -/
def putV (ρ : Env) (i : Nat) (x : D × Bool) : Env := ρ.set i (if x.2 then .ow x.1 else .fz x.1)
def unpackv : D → Option (List D)
  | .tup xs => some xs
  | .lst xs => some xs
  | _ => none
def setPar : Env → List Nat → List D → Option Env
  | ρ, [], [] => some ρ
  | ρ, i :: is, d :: ds => (setPar ρ is ds).map fun ρ => ρ.set i (.fz d)
  | _, _, _ => none
/-- slots that may be stored to -/
def okS (R : Rt) (is : List Nat) : Bool := !(R.meth && is.contains 0)
mutual
def exec (R : Rt) : Ps → Env → Flow
  | .asg i e, ρ => onOut (ev R false e ρ) fun x ρ => if okS R [i] then .nx (putV ρ i x) else .bad
  | .asgT is e, ρ => onOut (ev R false e ρ).frz fun x ρ => match unpackv x with
    | some ds => match setTs ρ is ds with
      | some ρ => if okS R is then .nx ρ else .bad
      | none => .bad
    | none => .bad
  | .par is es, ρ => onOut (evs R false es ρ) fun ds ρ => match setPar ρ is ds with
    | some ρ => if okS R is then .nx ρ else .bad
    | none => .bad
  | .exp e, ρ => onOut (ev R false e ρ) fun _ ρ => .nx ρ
  | .app p e, ρ => match peekO ρ p with
    | some (.lst _) => onOut (ev R false e ρ).frz fun x ρ => match peekO ρ p with
      | some (.lst xs) => if xs.length < lineD then .nx (poke ρ (.lst (xs ++ [x])) p) else .bad
      | _ => .bad
    | _ => .bad
  | .ext p e, ρ => match peekO ρ p with
    | some (.lst _) => onOut (ev R false e ρ).frz fun x ρ => match peekO ρ p, x with
      | some (.lst xs), .lst ys => if xs.length + ys.length ≤ lineD then .nx (poke ρ (.lst (xs ++ ys)) p) else .bad
      | _, _ => .bad
    | _ => .bad
  | .insr p k e, ρ => match peekO ρ p with
    | some (.lst _) => onOut (ev R false k ρ).frz fun k ρ => onOut (ev R false e ρ).frz fun x ρ => match peekO ρ p, k with
      | some (.lst xs), .int i => if 0 ≤ i ∧ i < 2 ^ 63 ∧ xs.length < lineD then .nx (poke ρ (.lst (xs.take i.toNat ++ [x] ++ xs.drop i.toNat)) p) else .bad
      | _, _ => .bad
    | _ => .bad
  | .setk p k v, ρ => onOut (ev R false v ρ).frz fun v ρ => onOut (ev R false k ρ).frz fun k ρ => match peekO ρ p, k with
    | some (.dic kvs), .str k => if kvs.length < lineD then .nx (poke ρ (.dic (dput k v kvs)) p) else .bad
    | _, _ => .bad
  | .setf i f e, ρ => onOut (ev R false e ρ) fun x ρ => if x.1.isIns then .bad else match getS ρ i with
    | .ow (.ins c fs) => if fs.length < 900 then .nx (ρ.set i (.ow (.ins c (fput f (x.2, x.1) fs)))) else .bad
    | _ => .bad
  | .ite c a b, ρ => onOut (ev R false c ρ) fun x ρ => match x.1 with
    | .bl true => execs R a ρ
    | .bl false => execs R b ρ
    | _ => .bad
  | .forS tg it b, ρ => onOut (ev R false it ρ).frz fun x ρ => match itemsv x with
    | some xs => if okS R tg.slots then forL (fun d ρ => match setTg ρ tg d with
      | some ρ => execs R b ρ
      | none => .bad) xs ρ else .bad
    | none => .bad
  | .whl c b, ρ => whlL (ev R false c) (execs R b) R.turns ρ
  | .ret e, ρ => onOut (ev R false e ρ) fun x ρ => .rt x.1 x.2 ρ
  | .retN, ρ => .rt .non false ρ
  | .raise c, ρ => .exn c ρ
  | .tryK body c n k, ρ => match execs R body ρ with
    | .exn c' ρ => match R.sub c' c with
      | some true => if okS R [k, n] then .nx ((ρ.set k (.fz (.exc c'))).set n .no) else .bad
      | some false => .exn c' ρ
      | none => .bad
    | r => r
  | .brk, ρ => .bk ρ
  | .cont, ρ => .ct ρ
  | .pass, ρ => .nx ρ
def execs (R : Rt) : List Ps → Env → Flow
  | [], ρ => .nx ρ
  | s :: ss, ρ => match exec R s ρ with
    | .nx ρ => execs R ss ρ
    | r => r
end

/-! ### programs -/
structure Fn where
  name : Str
  qual : Str
  names : List Str
  pars : List Str
  meth : Bool
  body : List Ps
structure Prog where
  fns : List Fn
  glos : List (Str × D)
  excs : List Str
  sup : List (List Nat)       -- of each refusal: itself and those above it
  turns : Nat
def Prog.sub (G : Prog) (c k : Nat) : Option Bool := if c < G.excs.length ∧ k < G.excs.length then (match G.sup[c]? with
  | some l => some (l.contains k)
  | none => none) else none
def Fn.start (F : Fn) (self : D) (args : List D) : Env :=
  (if F.meth then [.ow self] else []) ++ args.map .fz ++ List.replicate (F.names.length - F.pars.length) .no
def selfOf (F : Fn) (ρ : Env) : Option D := if F.meth then (match getS ρ 0 with
    | .ow (.ins c fs) => some (.ins c fs)
    | _ => none) else some .non
def Flow.res (F : Fn) : Flow → Res
  | .nx ρ => match selfOf F ρ with
    | some s => .ok .non false s
    | none => .bad
  | .rt d o ρ => match selfOf F ρ with
    | some s => .ok d o s
    | none => .bad
  | .exn c ρ => match selfOf F ρ with
    | some s => .exn c s
    | none => .bad
  | _ => .bad
def Prog.rt (G : Prog) (call : Nat → D → List D → Res) (meth : Bool := false) : Rt := ⟨call, fun g => (G.glos[g]?).map (·.2), G.sub, G.turns, meth⟩
def runBody (G : Prog) (call : Nat → D → List D → Res) (F : Fn) (self : D) (args : List D) : Res :=
  if args.length + (if F.meth then 1 else 0) = F.pars.length then (execs (G.rt call F.meth) F.body (F.start self args)).res F else .bad
def run (G : Prog) : Nat → Nat → D → List D → Res
  | 0, _, _, _ => .bad
  | n + 1, f, self, args => match G.fns[f]? with
    | some F => runBody G (run G n) F self args
    | none => .bad
end GW
end

section
/-! C2: how data stand in the heap; what a state is; what is wanted behind code. -/
namespace GW
open PySem PySem.Spec PyProof.Rows L2

/-- where the classes stand: refusals; own classes -/
structure Cls where
  exc : Nat → Addr
  ins : Nat → Addr

/-- an exception of the class at c stands at a -/
def ExI (c a : Addr) : HO := .ext fun h => ∃ (oe : Obj) (vs : Array Value), h.get? a = some oe ∧ Zc (.ref c) none oe ∧ oe.data = .fields vs
/-- a dict with text keys that is only read -/
def DicR (K : PySem.W.Frag) (H : Hp) (a : Addr) (es : List (Key × V)) : Prop := Rd H a (.dK es)

mutual
def Rep (K : PySem.W.Frag) (A : Cls) (H : Hp) : D → V → Prop
  | .non, v => v = .non
  | .bl b, v => v = .bl b
  | .int i, v => v = .int i
  | .str s, v => v = .str s
  | .tup ds, v => ∃ a vs, v = .ref a ∧ SqT K H a vs ∧ Reps K A H ds vs
  | .lst ds, v => ∃ a vs, v = .ref a ∧ Rd H a (.lst vs) ∧ Reps K A H ds vs
  | .dic kvs, v => ∃ a es, v = .ref a ∧ DicR K H a es ∧ RepsK K A H kvs es
  | .exc c, v => ∃ a, v = .ref a ∧ H a = some (ExI (A.exc c) a)
  | .ins _ _, _ => False
def Reps (K : PySem.W.Frag) (A : Cls) (H : Hp) : List D → List V → Prop
  | [], vs => vs = []
  | d :: ds, vs => ∃ v r, vs = v :: r ∧ Rep K A H d v ∧ Reps K A H ds r
def RepsK (K : PySem.W.Frag) (A : Cls) (H : Hp) : List (Str × D) → List (Key × V) → Prop
  | [], es => es = []
  | (k, d) :: ds, es => ∃ v r, es = (.inr k, v) :: r ∧ Rep K A H d v ∧ RepsK K A H ds r
end

section
variable {K : PySem.W.Frag} {A : Cls} {H H' : Hp}
theorem Same.sqt {a : Addr} {xs : List V} (e : Same H H') (h : SqT K H a xs) : SqT K H' a xs := by
  rcases h with (h | ⟨o, h⟩) | h
  · exact .inl (.inl (e _ _ h))
  · exact .inl (.inr ⟨o, e _ _ h⟩)
  · exact .inr h
theorem Same.rd {a : Addr} {o : HO} (e : Same H H') (h : Rd H a o) : Rd H' a o := by
  rcases h with h | ⟨u, h⟩
  · exact .inl (e _ _ h)
  · exact .inr ⟨u, e _ _ h⟩
mutual
theorem Rep.mono (e : Same H H') : ∀ (d : D) (v : V), Rep K A H d v → Rep K A H' d v
  | .non, _, h => h
  | .bl _, _, h => h
  | .int _, _, h => h
  | .str _, _, h => h
  | .tup ds, v, h => by
    unfold Rep at h ⊢
    obtain ⟨a, vs, h1, h2, h3⟩ := h
    exact ⟨a, vs, h1, Same.sqt e h2, Reps.mono e ds vs h3⟩
  | .lst ds, v, h => by
    unfold Rep at h ⊢
    obtain ⟨a, vs, h1, h2, h3⟩ := h
    exact ⟨a, vs, h1, Same.rd e h2, Reps.mono e ds vs h3⟩
  | .dic kvs, v, h => by
    unfold Rep at h ⊢
    obtain ⟨a, vs, h1, h2, h3⟩ := h
    exact ⟨a, vs, h1, Same.rd e h2, RepsK.mono e kvs vs h3⟩
  | .exc c, v, h => by
    unfold Rep at h ⊢
    obtain ⟨a, h1, h2⟩ := h
    exact ⟨a, h1, e _ _ h2⟩
  | .ins _ _, v, h => by
    unfold Rep at h
    exact h.elim
theorem Reps.mono (e : Same H H') : ∀ (ds : List D) (vs : List V), Reps K A H ds vs → Reps K A H' ds vs
  | [], _, h => h
  | d :: ds, vs, h => by
    unfold Reps at h ⊢
    obtain ⟨v, r, h1, h2, h3⟩ := h
    exact ⟨v, r, h1, Rep.mono e d v h2, Reps.mono e ds r h3⟩
theorem RepsK.mono (e : Same H H') : ∀ (ds : List (Str × D)) (vs : List (Key × V)), RepsK K A H ds vs → RepsK K A H' ds vs
  | [], _, h => h
  | (k, d) :: ds, vs, h => by
    unfold RepsK at h ⊢
    obtain ⟨v, r, h1, h2, h3⟩ := h
    exact ⟨v, r, h1, Rep.mono e d v h2, RepsK.mono e ds r h3⟩
end
theorem Reps.len : ∀ {ds : List D} {vs : List V}, Reps K A H ds vs → vs.length = ds.length
  | [], _, h => by unfold Reps at h; subst h; rfl
  | d :: ds, vs, h => by
    unfold Reps at h
    obtain ⟨v, r, rfl, _, h3⟩ := h
    simp [Reps.len h3]
theorem Reps.get : ∀ {ds : List D} {vs : List V} {i : Nat} {d : D}, Reps K A H ds vs → ds[i]? = some d → ∃ v, vs[i]? = some v ∧ Rep K A H d v
  | [], _, i, d, _, e => by simp at e
  | d :: ds, vs, 0, d', h, e => by
    unfold Reps at h
    obtain ⟨v, r, rfl, h2, _⟩ := h
    simp at e; subst e
    exact ⟨v, rfl, h2⟩
  | d :: ds, vs, i + 1, d', h, e => by
    unfold Reps at h
    obtain ⟨v, r, rfl, _, h3⟩ := h
    exact Reps.get (i := i) h3 (by simpa using e)
theorem Reps.getV {ds : List D} {vs : List V} {i : Nat} {v : V} (h : Reps K A H ds vs) (e : vs[i]? = some v) : ∃ d, ds[i]? = some d ∧ Rep K A H d v := by
  have hl := h.len
  have hi : i < ds.length := by
    rcases Nat.lt_or_ge i vs.length with z | z
    · omega
    · rw [List.getElem?_eq_none z] at e; cases e
  obtain ⟨w, e2, r⟩ := h.get (List.getElem?_eq_getElem hi)
  rw [e] at e2; cases e2
  exact ⟨_, List.getElem?_eq_getElem hi, r⟩
theorem Reps.nil : Reps K A H [] [] := by unfold Reps; rfl
theorem Reps.cons {d : D} {v : V} {ds : List D} {vs : List V} (h : Rep K A H d v) (t : Reps K A H ds vs) : Reps K A H (d :: ds) (v :: vs) := by
  unfold Reps
  exact ⟨v, vs, rfl, h, t⟩
theorem Reps.app : ∀ {ds es : List D} {vs us : List V}, Reps K A H ds vs → Reps K A H es us → Reps K A H (ds ++ es) (vs ++ us)
  | [], _, _, _, h, t => by
    unfold Reps at h
    subst h
    exact t
  | d :: ds, es, vs, us, h, t => by
    unfold Reps at h
    obtain ⟨v, r, rfl, h2, h3⟩ := h
    exact Reps.cons h2 (Reps.app h3 t)
theorem Reps.one {d : D} {v : V} (h : Rep K A H d v) : Reps K A H [d] [v] := .cons h .nil
theorem Reps.take : ∀ {ds : List D} {vs : List V} (n : Nat), Reps K A H ds vs → Reps K A H (ds.take n) (vs.take n)
  | _, _, 0, _ => Reps.nil
  | [], vs, n + 1, h => by unfold Reps at h; subst h; exact Reps.nil
  | d :: ds, vs, n + 1, h => by
    unfold Reps at h
    obtain ⟨v, r, rfl, h2, h3⟩ := h
    exact Reps.cons h2 (Reps.take n h3)
theorem Reps.drop : ∀ {ds : List D} {vs : List V} (n : Nat), Reps K A H ds vs → Reps K A H (ds.drop n) (vs.drop n)
  | _, _, 0, h => h
  | [], vs, n + 1, h => by unfold Reps at h; subst h; exact Reps.nil
  | d :: ds, vs, n + 1, h => by
    unfold Reps at h
    obtain ⟨v, r, rfl, h2, h3⟩ := h
    exact Reps.drop n h3
end

/-- the entry: what stood fast, what must stay -/
structure Ent where
  S : Hp
  gh : Hp
  /-- what slot 0 must hold -/
  z : Option V

section
variable (K : PySem.W.Frag) (A : Cls)
/-- a list or dict of one's own at a: nobody else knows it -/
def Own1 (S H : Hp) : D → V → List Addr → Prop
  | .lst ds, v, fp => ∃ a vs, v = .ref a ∧ fp = [a] ∧ S a = none ∧ H a = some (.lst vs) ∧ Reps K A S ds vs
  | .dic kvs, v, fp => ∃ a es, v = .ref a ∧ fp = [a] ∧ S a = none ∧ H a = some (.dK es) ∧ RepsK K A S kvs es
  | _, _, _ => False
/-- an instance's attributes -/
def Flds (S H : Hp) : List (Str × Bool × D) → List (Str × V) → List Addr → Prop
  | [], es, fp => es = [] ∧ fp = []
  | (f, o, d) :: r, es, fp => ∃ v er fa fr, es = (f, v) :: er ∧ fp = fa ++ fr ∧ (if o = true then Own1 K A S H d v fa else fa = [] ∧ Rep K A S d v) ∧ Flds S H r er fr
def Own (S H : Hp) : D → V → List Addr → Prop
  | .ins c fs, v, fp => ∃ a dx es fr, v = .ref a ∧ fp = a :: dx :: fr ∧ S a = none ∧ S dx = none ∧ H a = some (.ins (A.ins c) dx es) ∧ H dx = some (.own a) ∧ Flds K A S H fs es fr ∧ fp.Nodup
  | d, v, fp => Own1 K A S H d v fp
def SlR (S H : Hp) : Sl → Option (Option V) → List Addr → Prop
  | .no, _, fp => fp = []
  | .fz d, x, fp => fp = [] ∧ ∃ v, x = some (some v) ∧ Rep K A S d v
  | .ow d, x, fp => ∃ v, x = some (some v) ∧ Own K A S H d v fp
structure Sta (E : Ent) (S H : Hp) (ρ : Env) (σ : L2.St) (fs : Nat → List Addr) : Prop where
  len : σ.length = ρ.length
  sub : Same S H
  slot : ∀ i, SlR K A S H (getS ρ i) σ[i]? (fs i)
  dis : ∀ i j, i ≠ j → ∀ a ∈ fs i, a ∉ fs j
  ghost : Same E.gh H
  s0 : Same E.S S
  new : ∀ i, ∀ a ∈ fs i, E.gh a = none
  snew : ∀ a o, S a = some o → E.S a = some o ∨ E.gh a = none
  z : ∀ v, E.z = some v → σ[0]? = some (some v)
/-- a value, told with whether nobody else knows it -/
def RV (S H : Hp) (x : D × Bool) (v : V) (fp : List Addr) : Prop := if x.2 = true then Own K A S H x.1 v fp else fp = [] ∧ Rep K A S x.1 v
/-- it is apart from all else -/
def Apart (E : Ent) (fs : Nat → List Addr) (fp : List Addr) : Prop := ∀ a ∈ fp, E.gh a = none ∧ ∀ i, a ∉ fs i
/-- what is wanted behind -/
def Post {α : Type} (W : WX) (E : Ent) (S : Hp) (σ : L2.St) (o : Out α) (k : α → Hp → Hp → (Nat → List Addr) → Env → Prop) : Prop := match o with
  | .ok a ρ => ∀ S' H' fs, Same S S' → Sta K A E S' H' ρ σ fs → k a S' H' fs ρ
  | .exn c ρ => ∀ S' H' fs, Same S S' → Sta K A E S' H' ρ σ fs → W (.ref (A.exc c)) none σ H'
  | .bad => False
/-- an expression that tells a value others may know -/
def tX (W : WX) (c : Env → Out D) : TE := fun σ H Q => ∃ E S ρ fs, Sta K A E S H ρ σ fs ∧ Post K A W E S σ (c ρ) fun d S' H' _ _ => ∀ v, Rep K A S' d v → Q v H'
def tO (W : WX) (c : Env → Out (D × Bool)) : TE := fun σ H Q => ∃ E S ρ fs, Sta K A E S H ρ σ fs ∧ Post K A W E S σ (c ρ) fun x S' H' fs' _ => ∀ v fp, RV K A S' H' x v fp → Apart E fs' fp → Q v H'
def tA (W : WX) (c : Env → Out (List D)) : TA := fun σ H Q => ∃ E S ρ fs, Sta K A E S H ρ σ fs ∧ Post K A W E S σ (c ρ) fun ds S' H' _ _ => ∀ vs, Reps K A S' ds vs → Q vs H'
def tT (W : WX) (c : Env → Out Bool) : TT := fun σ H Q => ∃ E S ρ fs, Sta K A E S H ρ σ fs ∧ Post K A W E S σ (c ρ) fun b _ H' _ _ => Q b H'
end

section
variable {K : PySem.W.Frag} {A : Cls} {W : WX} {E : Ent} {S S1 H H1 : Hp} {ρ : Env} {σ : L2.St} {fs : Nat → List Addr} {α β : Type}
theorem Post.mono {o : Out α} {k k' : α → Hp → Hp → (Nat → List Addr) → Env → Prop} (h : Post K A W E S σ o k) (q : ∀ a ρ S' H' fs, Same S S' → Sta K A E S' H' ρ σ fs → k a S' H' fs ρ → k' a S' H' fs ρ) : Post K A W E S σ o k' := by
  cases o with
  | ok a ρ => exact fun S' H' fs e s => q a ρ S' H' fs e s (h S' H' fs e s)
  | exn c ρ => exact h
  | bad => exact h
theorem Post.up {o : Out α} {k : α → Hp → Hp → (Nat → List Addr) → Env → Prop} (e : Same S S1) (h : Post K A W E S σ o k) : Post K A W E S1 σ o k := by
  cases o with
  | ok a ρ => exact fun S' H' fs e' s => h S' H' fs (e.trans e') s
  | exn c ρ => exact fun S' H' fs e' s => h S' H' fs (e.trans e') s
  | bad => exact h
theorem Post.bind {o : Out α} {f : α → Env → Out β} {k : β → Hp → Hp → (Nat → List Addr) → Env → Prop} (h : Post K A W E S σ (o.bind f) k) :
    Post K A W E S σ o fun a S' H' fs ρ => Post K A W E S' σ (f a ρ) k := by
  cases o with
  | ok a ρ => exact fun S' H' fs e s => Post.up e h
  | exn c ρ => exact h
  | bad => exact h
/-- a value told stands by itself -/
theorem Post.here {a : α} {k : α → Hp → Hp → (Nat → List Addr) → Env → Prop} (h : Post K A W E S σ (.ok a ρ) k) (s : Sta K A E S H ρ σ fs) : k a S H fs ρ := h S H fs (Same.refl S) s
theorem Out.bind_assoc {γ : Type} (o : Out α) (f : α → Env → Out β) (g : β → Env → Out γ) : (o.bind f).bind g = o.bind fun a ρ => (f a ρ).bind g := by
  cases o <;> rfl
theorem Out.bind_ok (o : Out α) : o.bind Out.ok = o := by cases o <;> rfl

theorem upd_same_of {a : Addr} {o : HO} (h : H a = none) : Same H (upd H a o) := fun b u e => by
  rw [upd_ne (ne_of_none e h)]
  exact e
theorem Own1.at (S H : Hp) : ∀ {d : D} {v : V} {fp : List Addr}, Own1 K A S H d v fp → ∀ a ∈ fp, S a = none ∧ ∃ o, H a = some o
  | .lst _, _, _, h, a, ha => by
    obtain ⟨b, vs, rfl, rfl, h1, h2, _⟩ := h
    have e : a = b := by simpa using ha
    subst e
    exact ⟨h1, _, h2⟩
  | .dic _, _, _, h, a, ha => by
    obtain ⟨b, vs, rfl, rfl, h1, h2, _⟩ := h
    have e : a = b := by simpa using ha
    subst e
    exact ⟨h1, _, h2⟩
  | .non, _, _, h, _, _ => h.elim
  | .bl _, _, _, h, _, _ => h.elim
  | .int _, _, _, h, _, _ => h.elim
  | .str _, _, _, h, _, _ => h.elim
  | .tup _, _, _, h, _, _ => h.elim
  | .exc _, _, _, h, _, _ => h.elim
  | .ins _ _, _, _, h, _, _ => h.elim
theorem Flds.at (S H : Hp) : ∀ {fs : List (Str × Bool × D)} {es : List (Str × V)} {fp : List Addr}, Flds K A S H fs es fp → ∀ a ∈ fp, S a = none ∧ ∃ o, H a = some o
  | [], _, _, h, a, ha => by
    obtain ⟨_, rfl⟩ := h
    simp at ha
  | (f, o, d) :: r, _, _, h, a, ha => by
    obtain ⟨v, er, fa, fr, rfl, rfl, h1, h2⟩ := h
    rcases List.mem_append.mp ha with ha | ha
    · cases o with
      | true =>
        rw [if_pos rfl] at h1
        exact Own1.at S H h1 a ha
      | false =>
        rw [if_neg (by simp)] at h1
        rw [h1.1] at ha
        simp at ha
    · exact Flds.at S H h2 a ha
theorem Own.at {d : D} {v : V} {fp : List Addr} (h : Own K A S H d v fp) : ∀ a ∈ fp, S a = none ∧ ∃ o, H a = some o := by
  cases d with
  | ins c fl =>
    obtain ⟨b, dx, es, fr, rfl, rfl, h1, h2, h3, h4, h5, _⟩ := h
    intro a ha
    rcases List.mem_cons.mp ha with rfl | ha
    · exact ⟨h1, _, h3⟩
    · rcases List.mem_cons.mp ha with rfl | ha
      · exact ⟨h2, _, h4⟩
      · exact Flds.at S H h5 a ha
  | non => exact Own1.at S H (show Own1 K A S H .non v fp from h)
  | bl b => exact Own1.at S H (show Own1 K A S H (.bl b) v fp from h)
  | int i => exact Own1.at S H (show Own1 K A S H (.int i) v fp from h)
  | str x => exact Own1.at S H (show Own1 K A S H (.str x) v fp from h)
  | tup xs => exact Own1.at S H (show Own1 K A S H (.tup xs) v fp from h)
  | lst xs => exact Own1.at S H (show Own1 K A S H (.lst xs) v fp from h)
  | dic xs => exact Own1.at S H (show Own1 K A S H (.dic xs) v fp from h)
  | exc x => exact Own1.at S H (show Own1 K A S H (.exc x) v fp from h)
/-- what is one's own stays so while its places stay and the rest grows -/
theorem Own1.keep {S' H' : Hp} (e : Same S S') : ∀ {d : D} {v : V} {fp : List Addr}, (∀ a ∈ fp, S' a = none ∧ H' a = H a) → Own1 K A S H d v fp → Own1 K A S' H' d v fp
  | .lst ds, _, _, k, h => by
    obtain ⟨b, vs, rfl, rfl, h1, h2, h3⟩ := h
    obtain ⟨k1, k2⟩ := k b (by simp)
    exact ⟨b, vs, rfl, rfl, k1, k2.trans h2, Reps.mono e _ _ h3⟩
  | .dic kvs, _, _, k, h => by
    obtain ⟨b, vs, rfl, rfl, h1, h2, h3⟩ := h
    obtain ⟨k1, k2⟩ := k b (by simp)
    exact ⟨b, vs, rfl, rfl, k1, k2.trans h2, RepsK.mono e _ _ h3⟩
  | .non, _, _, _, h => h
  | .bl _, _, _, _, h => h
  | .int _, _, _, _, h => h
  | .str _, _, _, _, h => h
  | .tup _, _, _, _, h => h
  | .exc _, _, _, _, h => h
  | .ins _ _, _, _, _, h => h
theorem Flds.keep {S' H' : Hp} (e : Same S S') : ∀ {fs : List (Str × Bool × D)} {es : List (Str × V)} {fp : List Addr}, (∀ a ∈ fp, S' a = none ∧ H' a = H a) → Flds K A S H fs es fp → Flds K A S' H' fs es fp
  | [], _, _, _, h => h
  | (f, o, d) :: r, _, _, k, h => by
    obtain ⟨v, er, fa, fr, rfl, rfl, h1, h2⟩ := h
    refine ⟨v, er, fa, fr, rfl, rfl, ?_, Flds.keep e (fun a ha => k a (List.mem_append_right _ ha)) h2⟩
    cases o with
    | true =>
      rw [if_pos rfl] at h1 ⊢
      exact Own1.keep e (fun a ha => k a (List.mem_append_left _ ha)) h1
    | false =>
      rw [if_neg (by simp)] at h1 ⊢
      exact ⟨h1.1, Rep.mono e _ _ h1.2⟩
theorem Own.keep {S' H' : Hp} (e : Same S S') {d : D} {v : V} {fp : List Addr} (k : ∀ a ∈ fp, S' a = none ∧ H' a = H a) (h : Own K A S H d v fp) : Own K A S' H' d v fp := by
  cases d with
  | ins c fl =>
    obtain ⟨b, dx, es, fr, rfl, rfl, h1, h2, h3, h4, h5, h6⟩ := h
    obtain ⟨k1, k2⟩ := k b (by simp)
    obtain ⟨k3, k4⟩ := k dx (by simp)
    exact ⟨b, dx, es, fr, rfl, rfl, k1, k3, k2.trans h3, k4.trans h4, Flds.keep e (fun a ha => k a (by simp [ha])) h5, h6⟩
  | non => exact (show Own1 K A S' H' .non v fp from Own1.keep e k (show Own1 K A S H .non v fp from h))
  | bl b => exact (show Own1 K A S' H' (.bl b) v fp from Own1.keep e k (show Own1 K A S H (.bl b) v fp from h))
  | int i => exact (show Own1 K A S' H' (.int i) v fp from Own1.keep e k (show Own1 K A S H (.int i) v fp from h))
  | str x => exact (show Own1 K A S' H' (.str x) v fp from Own1.keep e k (show Own1 K A S H (.str x) v fp from h))
  | tup xs => exact (show Own1 K A S' H' (.tup xs) v fp from Own1.keep e k (show Own1 K A S H (.tup xs) v fp from h))
  | lst xs => exact (show Own1 K A S' H' (.lst xs) v fp from Own1.keep e k (show Own1 K A S H (.lst xs) v fp from h))
  | dic xs => exact (show Own1 K A S' H' (.dic xs) v fp from Own1.keep e k (show Own1 K A S H (.dic xs) v fp from h))
  | exc x => exact (show Own1 K A S' H' (.exc x) v fp from Own1.keep e k (show Own1 K A S H (.exc x) v fp from h))
theorem SlR.keep {S' H' : Hp} (e : Same S S') {s : Sl} {x : Option (Option V)} {fp : List Addr} (k : ∀ a ∈ fp, S' a = none ∧ H' a = H a) (h : SlR K A S H s x fp) : SlR K A S' H' s x fp := by
  cases s with
  | no => exact h
  | fz d =>
    obtain ⟨h1, v, h2, h3⟩ := h
    exact ⟨h1, v, h2, Rep.mono e _ _ h3⟩
  | ow d =>
    obtain ⟨v, h1, h2⟩ := h
    exact ⟨v, h1, Own.keep e k h2⟩
theorem SlR.at {s : Sl} {x : Option (Option V)} {fp : List Addr} (h : SlR K A S H s x fp) : ∀ a ∈ fp, S a = none ∧ ∃ o, H a = some o := by
  cases s with
  | no =>
    have h' : fp = [] := h
    subst h'
    intro a ha
    simp at ha
  | fz d =>
    obtain ⟨rfl, _⟩ := h
    intro a ha
    simp at ha
  | ow d =>
    obtain ⟨v, _, h2⟩ := h
    exact h2.at
/-- the heap grew: all that stood stays, the fast part grew by new things -/
theorem Sta.grow {S' H' : Hp} (s : Sta K A E S H ρ σ fs) (e : Same S S') (eh : Same H H') (sub : Same S' H') (n : ∀ a o, S' a = some o → S a = some o ∨ H a = none) : Sta K A E S' H' ρ σ fs where
  len := s.len
  sub := sub
  slot := fun i => SlR.keep e (fun a ha => by
    obtain ⟨h1, o, h2⟩ := (s.slot i).at a ha
    refine ⟨?_, (eh _ _ h2).trans h2.symm⟩
    cases q : S' a with
    | none => rfl
    | some u =>
      rcases n a u q with z | z
      · rw [h1] at z; cases z
      · rw [h2] at z; cases z) (s.slot i)
  dis := s.dis
  ghost := s.ghost.trans eh
  s0 := s.s0.trans e
  new := s.new
  snew := fun a o q => by
    rcases n a o q with z | z
    · exact s.snew a o z
    · exact .inr (s.ghost.free z)
  z := s.z
/-- a new thing that is not known -/
theorem Sta.lay {a : Addr} {o : HO} (s : Sta K A E S H ρ σ fs) (h : H a = none) : Sta K A E S (upd H a o) ρ σ fs :=
  s.grow (Same.refl S) (upd_same_of h) (s.sub.trans (upd_same_of h)) fun _ _ q => .inl q
/-- a new thing that is known -/
theorem Sta.layS {a : Addr} {o : HO} (s : Sta K A E S H ρ σ fs) (h : H a = none) : Sta K A E (upd S a o) (upd H a o) ρ σ fs ∧ Same S (upd S a o) := by
  have h' : S a = none := s.sub.free h
  refine ⟨s.grow (upd_same_of h') (upd_same_of h) (fun b u q => ?_) fun b u q => ?_, upd_same_of h'⟩
  · by_cases e : b = a
    · subst e
      rw [upd_same] at q ⊢
      exact q
    · rw [upd_ne e] at q ⊢
      exact s.sub b u q
  · by_cases e : b = a
    · subst e
      exact .inr h
    · rw [upd_ne e] at q
      exact .inl q
/-- of one's own and apart, made known -/
theorem Sta.freeze {d : D} {v : V} {fp : List Addr} {a : Addr} {o : HO} (s : Sta K A E S H ρ σ fs) (ho : H a = some o) (hs : S a = none) (hg : E.gh a = none) (hf : ∀ i, a ∉ fs i) :
    Sta K A E (upd S a o) H ρ σ fs ∧ Same S (upd S a o) := by
  refine ⟨⟨s.len, fun b u q => ?_, fun i => SlR.keep (upd_same_of hs) (fun b hb => ?_) (s.slot i), s.dis, s.ghost, s.s0.trans (upd_same_of hs), s.new, fun b u q => ?_, s.z⟩, upd_same_of hs⟩
  · by_cases e : b = a
    · subst e
      rw [upd_same] at q
      rw [ho]
      exact q
    · rw [upd_ne e] at q
      exact s.sub b u q
  · have ne : b ≠ a := fun z => hf i (z ▸ hb)
    rw [upd_ne ne]
    exact ⟨((s.slot i).at b hb).1, rfl⟩
  · by_cases e : b = a
    · subst e
      exact .inr hg
    · rw [upd_ne e] at q
      exact s.snew b u q
theorem Sta.freezeV {x : D × Bool} {v : V} {fp : List Addr} (s : Sta K A E S H ρ σ fs) (r : RV K A S H x v fp) (ap : Apart E fs fp) (hx : (x.2 && x.1.isIns) = false) :
    ∃ S', Same S S' ∧ Sta K A E S' H ρ σ fs ∧ Rep K A S' x.1 v := by
  obtain ⟨d, o⟩ := x
  unfold RV at r
  cases o with
  | false =>
    rw [if_neg (by simp)] at r
    exact ⟨S, Same.refl S, s, r.2⟩
  | true =>
    rw [if_pos rfl] at r
    cases d with
    | lst ds =>
      obtain ⟨a, vs, rfl, rfl, h1, h2, h3⟩ := r
      obtain ⟨g, f⟩ := ap a (by simp)
      obtain ⟨s', e⟩ := s.freeze (d := .non) (v := .non) (fp := []) h2 h1 g f
      refine ⟨_, e, s', ?_⟩
      unfold Rep
      exact ⟨a, vs, rfl, .inl upd_same, Reps.mono e _ _ h3⟩
    | dic kvs =>
      obtain ⟨a, vs, rfl, rfl, h1, h2, h3⟩ := r
      obtain ⟨g, f⟩ := ap a (by simp)
      obtain ⟨s', e⟩ := s.freeze (d := .non) (v := .non) (fp := []) h2 h1 g f
      refine ⟨_, e, s', ?_⟩
      unfold Rep
      exact ⟨a, vs, rfl, .inl upd_same, RepsK.mono e _ _ h3⟩
    | ins c fl => simp [D.isIns] at hx
    | non => exact r.elim
    | bl _ => exact r.elim
    | int _ => exact r.elim
    | str _ => exact r.elim
    | tup _ => exact r.elim
    | exc _ => exact r.elim
/-- a value told, put to others' use -/
theorem _root_.L2.PE.frz {X : Cx} {e : Expr} {c : Env → Out (D × Bool)} (h : PE X e (tO K A W c)) : PE X e (tX K A W fun ρ => (c ρ).frz) := by
  refine ⟨fun pins s σ H Q I hw => h.run pins s σ H Q I ?_⟩
  obtain ⟨E, S, ρ, fs, st, p⟩ := hw
  refine ⟨E, S, ρ, fs, st, ?_⟩
  have p : Post K A W E S σ (c ρ).frz fun d S' H' _ _ => ∀ v, Rep K A S' d v → Q v H' := p
  cases q : c ρ with
  | ok x ρ' =>
    rw [q] at p
    intro S' H' fs' e s v fp r ap
    unfold Out.frz at p
    cases hx : (x.2 && x.1.isIns) with
    | true =>
      simp only [hx, if_true] at p
      exact p.elim
    | false =>
      simp only [hx] at p
      obtain ⟨S2, e2, s2, r2⟩ := s.freezeV r ap hx
      exact p S2 H' fs' (e.trans e2) s2 v r2
  | exn c' ρ' =>
    rw [q] at p
    exact p
  | bad =>
    rw [q] at p
    exact p.elim
theorem _root_.L2.PE.imp {X : Cx} {e : Expr} {t t' : TE} (h : PE X e t) (q : ∀ σ H Q, t' σ H Q → t σ H Q) : PE X e t' := ⟨fun pins s σ H Q I hw => h.run pins s σ H Q I (q σ H Q hw)⟩
theorem _root_.L2.PT.imp {X : Cx} {e : Expr} {t t' : TT} (h : PT X e t) (q : ∀ σ H Q, t' σ H Q → t σ H Q) : PT X e t' := ⟨fun pins s σ H Q I hw => h.run pins s σ H Q I (q σ H Q hw)⟩
theorem _root_.L2.PA.imp {X : Cx} {e : List Expr} {t t' : TA} (h : PA X e t) (q : ∀ σ H Q, t' σ H Q → t σ H Q) : PA X e t' := ⟨fun po pins s σ H Q I hw => h.run po pins s σ H Q I (q σ H Q hw)⟩
end
end GW
end

section
/-! C3: operations by values. -/
namespace GW
open PySem PySem.Spec PyProof.Rows L2

/-! ### plain data as the library's -/
mutual
theorem dep_shape : ∀ (d : D) (n : Nat), n < 100 → d.dep ≤ n → PyData.canLay0 d.py = true ∧ d.py.depth ≤ n
  | .non, _, _, _ => ⟨by simp [D.py, PyData.canLay0], by simp [D.py, PyData.depth]⟩
  | .bl _, _, _, _ => ⟨by simp [D.py, PyData.canLay0], by simp [D.py, PyData.depth]⟩
  | .int _, _, _, _ => ⟨by simp [D.py, PyData.canLay0], by simp [D.py, PyData.depth]⟩
  | .str s, n, hn, h => by
    unfold D.dep at h
    by_cases q : PySem.PyData.strOk s = true
    · exact ⟨by simp [D.py, PyData.canLay0, q], by simp [D.py, PyData.depth]⟩
    · rw [if_neg q] at h
      omega
  | .tup xs, n, hn, h => by
    unfold D.dep at h
    obtain ⟨h1, h2⟩ := deps_shape xs (n - 1) (by omega) (by omega)
    exact ⟨by simp [D.py, PyData.canLay0, h1], by simp only [D.py, PyData.depth]; omega⟩
  | .lst xs, n, hn, h => by
    unfold D.dep at h
    obtain ⟨h1, h2⟩ := deps_shape xs (n - 1) (by omega) (by omega)
    exact ⟨by simp [D.py, PyData.canLay0, h1], by simp only [D.py, PyData.depth]; omega⟩
  | .dic _, n, hn, h => by unfold D.dep at h; omega
  | .exc _, n, hn, h => by unfold D.dep at h; omega
  | .ins _ _, n, hn, h => by unfold D.dep at h; omega
theorem deps_shape : ∀ (ds : List D) (n : Nat), n < 100 → D.deps ds ≤ n → PyData.canLayAll0 (D.pys ds) = true ∧ PyData.depthAll (D.pys ds) ≤ n
  | [], _, _, _ => ⟨by simp [D.pys, PyData.canLayAll0], by simp [D.pys, PyData.depthAll]⟩
  | x :: xs, n, hn, h => by
    unfold D.deps at h
    obtain ⟨h1, h2⟩ := dep_shape x n hn (by omega)
    obtain ⟨h3, h4⟩ := deps_shape xs n hn (by omega)
    exact ⟨by simp [D.pys, PyData.canLayAll0, h1, h3], by simp only [D.pys, PyData.depthAll]; omega⟩
end
theorem shaped_of {d : D} (h : d.dep ≤ 60) : SeqAt.shaped d.py = true := by
  obtain ⟨h1, h2⟩ := dep_shape d 60 (by omega) h
  unfold SeqAt.shaped
  rw [h1, decide_eq_true (show d.py.depth ≤ 64 by omega)]
  rfl
section
variable {K : PySem.W.Frag} {A : Cls} {H : Hp}
mutual
theorem Rep.dp : ∀ (d : D) (v : V), d.dep < 100 → Rep K A H d v → Dp K H v d.py
  | .non, v, _, h => by unfold Rep at h; subst h; exact .non
  | .bl b, v, _, h => by unfold Rep at h; subst h; exact .bl b
  | .int i, v, _, h => by unfold Rep at h; subst h; exact .int i
  | .str s, v, _, h => by unfold Rep at h; subst h; exact .str s
  | .tup ds, v, q, h => by
    unfold Rep at h
    unfold D.dep at q
    obtain ⟨a, vs, rfl, h2, h3⟩ := h
    exact .tup h2 (Reps.dp ds vs (by omega) h3)
  | .lst ds, v, q, h => by
    unfold Rep at h
    unfold D.dep at q
    obtain ⟨a, vs, rfl, h2, h3⟩ := h
    exact .lst (.inl h2) (Reps.dp ds vs (by omega) h3)
  | .dic _, _, q, _ => by unfold D.dep at q; omega
  | .exc _, _, q, _ => by unfold D.dep at q; omega
  | .ins _ _, _, q, _ => by unfold D.dep at q; omega
theorem Reps.dp : ∀ (ds : List D) (vs : List V), D.deps ds < 100 → Reps K A H ds vs → DpAll K H vs (D.pys ds)
  | [], vs, _, h => by unfold Reps at h; subst h; exact .nil
  | d :: ds, vs, q, h => by
    unfold Reps at h
    unfold D.deps at q
    obtain ⟨v, r, rfl, h2, h3⟩ := h
    exact .cons (Rep.dp d v (by omega) h2) (Reps.dp ds r (by omega) h3)
end
end
mutual
theorem eqv_py : ∀ (d e : D), d.dep < 100 → e.dep < 100 → PyData.eqv d.py e.py = d.eqv e
  | .non, e, _, q => by cases e <;> first | (exfalso; unfold D.dep at q; omega) | rfl | (simp [D.py, PyData.eqv, D.eqv]; done)
  | .bl _, e, _, q => by cases e <;> first | (exfalso; unfold D.dep at q; omega) | rfl | (simp [D.py, PyData.eqv, D.eqv]; done)
  | .int _, e, _, q => by cases e <;> first | (exfalso; unfold D.dep at q; omega) | rfl | (simp [D.py, PyData.eqv, D.eqv]; done)
  | .str _, e, _, q => by cases e <;> first | (exfalso; unfold D.dep at q; omega) | rfl | (simp [D.py, PyData.eqv, D.eqv]; done)
  | .tup xs, e, p, q => by
    cases e with
    | tup ys =>
      unfold D.dep at p q
      simp only [D.py, PyData.eqv, D.eqv]
      exact eqvs_py xs ys (by omega) (by omega)
    | _ => first | (exfalso; unfold D.dep at q; omega) | rfl | (simp [D.py, PyData.eqv, D.eqv]; done)
  | .lst xs, e, p, q => by
    cases e with
    | lst ys =>
      unfold D.dep at p q
      simp only [D.py, PyData.eqv, D.eqv]
      exact eqvs_py xs ys (by omega) (by omega)
    | _ => first | (exfalso; unfold D.dep at q; omega) | rfl | (simp [D.py, PyData.eqv, D.eqv]; done)
  | .dic _, _, p, _ => by unfold D.dep at p; omega
  | .exc _, _, p, _ => by unfold D.dep at p; omega
  | .ins _ _, _, p, _ => by unfold D.dep at p; omega
theorem eqvs_py : ∀ (ds es : List D), D.deps ds < 100 → D.deps es < 100 → PyData.eqvAll (D.pys ds) (D.pys es) = D.eqvs ds es
  | [], [], _, _ => by simp [D.pys, PyData.eqvAll, D.eqvs]
  | [], _ :: _, _, _ => by simp [D.pys, PyData.eqvAll, D.eqvs]
  | _ :: _, [], _, _ => by simp [D.pys, PyData.eqvAll, D.eqvs]
  | x :: xs, y :: ys, p, q => by
    unfold D.deps at p q
    simp only [D.pys, PyData.eqvAll, D.eqvs]
    rw [eqv_py x y (by omega) (by omega), eqvs_py xs ys (by omega) (by omega)]
end
theorem any_py (x : D) (hx : x.dep < 100) : ∀ (ys : List D), D.deps ys < 100 → ((D.pys ys).any fun z => PyData.eqv z x.py) = ys.any fun y => y.eqv x
  | [], _ => by simp [D.pys]
  | y :: ys, h => by
    unfold D.deps at h
    simp only [D.pys, List.any_cons]
    rw [eqv_py y x (by omega) hx, any_py x hx ys (by omega)]

/-! ### what an operation asks -/
section
variable (K : PySem.W.Frag) (A : Cls)
/-- the state at an operation -/
def At (E : Ent) (S H : Hp) : Prop := ∃ ρ σ fs, Sta K A E S H ρ σ fs
/-- behind an operation that tells z: the rest stays -/
def Tells (z : D × Bool) (S H : Hp) (Q : VK) : Prop := ∀ S' H' v fp, Same S S' → Same H H' → Same S' H' → (∀ a o, S' a = some o → S a = some o ∨ H a = none) → RV K A S' H' z v fp → (∀ a ∈ fp, H a = none ∧ S' a = none) → Q v H'
def rO (c : D → D → Option (D × Bool)) : R2 := fun x y H Q => ∃ S dx dy, Same S H ∧ Rep K A S dx x ∧ Rep K A S dy y ∧ ∃ z, c dx dy = some z ∧ Tells K A z S H Q
def rC (c : D → D → Option Bool) : R2 := fun x y H Q => ∃ S dx dy, Same S H ∧ Rep K A S dx x ∧ Rep K A S dy y ∧ ∃ z, c dx dy = some z ∧ Q (.bl z) H
def rL (c : List D → Option (D × Bool)) : List V → Hp → VK → Prop := fun xs H Q => ∃ S ds, Same S H ∧ Reps K A S ds xs ∧ ∃ z, c ds = some z ∧ Tells K A z S H Q
end
section
variable {K : PySem.W.Frag} {A : Cls} {S H : Hp} {Q : VK}
/-- a plain value -/
theorem Tells.now {d : D} {v : V} (t : Tells K A (d, false) S H Q) (sub : Same S H) (r : Rep K A S d v) : Q v H :=
  t S H v [] (Same.refl S) (Same.refl H) sub (fun _ _ q => .inl q) (by unfold RV; rw [if_neg (by simp)]; exact ⟨rfl, r⟩) (by simp)
theorem Tells.nowB {z : D × Bool} {v : V} (t : Tells K A z S H Q) (hz : z.2 = false) (sub : Same S H) (r : Rep K A S z.1 v) : Q v H := by
  obtain ⟨d, o⟩ := z
  cases hz
  exact t.now sub r
/-- a new tuple -/
theorem Tells.tup {ds : List D} {vs : List V} (t : Tells K A (.tup ds, false) S H Q) (sub : Same S H) (r : Reps K A S ds vs) : ∀ p, H p = none → Q (.ref p) (upd H p (.tup vs)) := fun p hp => by
  have hs : S p = none := sub.free hp
  refine t (upd S p (.tup vs)) _ _ [] (upd_same_of hs) (upd_same_of hp) (fun b u q => ?_) (fun b u q => ?_) ?_ (by simp)
  · by_cases e : b = p
    · subst e; rw [upd_same] at q ⊢; exact q
    · rw [upd_ne e] at q ⊢; exact sub b u q
  · by_cases e : b = p
    · subst e; exact .inr hp
    · rw [upd_ne e] at q; exact .inl q
  · unfold RV
    rw [if_neg (by simp)]
    refine ⟨rfl, ?_⟩
    unfold Rep
    exact ⟨p, vs, rfl, SqT.of upd_same, Reps.mono (upd_same_of hs) _ _ r⟩
/-- a new list -/
theorem Tells.lst {ds : List D} {vs : List V} (t : Tells K A (.lst ds, true) S H Q) (sub : Same S H) (r : Reps K A S ds vs) : ∀ p, H p = none → Q (.ref p) (upd H p (.lst vs)) := fun p hp => by
  have hs : S p = none := sub.free hp
  refine t S _ _ [p] (Same.refl S) (upd_same_of hp) (sub.trans (upd_same_of hp)) (fun b u q => .inl q) ?_ (by simp [hp, hs])
  unfold RV
  rw [if_pos rfl]
  exact ⟨p, vs, rfl, rfl, hs, upd_same, r⟩
theorem Rep.int_inv {i : Int} {v : V} (h : Rep K A S (.int i) v) : v = .int i := by unfold Rep at h; exact h
theorem Rep.bl_inv {i : Bool} {v : V} (h : Rep K A S (.bl i) v) : v = .bl i := by unfold Rep at h; exact h
theorem Rep.str_inv {i : Str} {v : V} (h : Rep K A S (.str i) v) : v = .str i := by unfold Rep at h; exact h
theorem Rep.non_inv {v : V} (h : Rep K A S .non v) : v = .non := by unfold Rep at h; exact h
theorem Rep.tup_inv {ds : List D} {v : V} (h : Rep K A S (.tup ds) v) : ∃ a vs, v = .ref a ∧ SqT K S a vs ∧ Reps K A S ds vs := by unfold Rep at h; exact h
theorem Rep.lst_inv {ds : List D} {v : V} (h : Rep K A S (.lst ds) v) : ∃ a vs, v = .ref a ∧ Rd S a (.lst vs) ∧ Reps K A S ds vs := by unfold Rep at h; exact h
theorem Rep.int (i : Int) : Rep K A S (.int i) (.int i) := by unfold Rep; rfl
theorem Rep.bl (i : Bool) : Rep K A S (.bl i) (.bl i) := by unfold Rep; rfl
theorem Rep.str (i : Str) : Rep K A S (.str i) (.str i) := by unfold Rep; rfl
theorem Rep.non : Rep K A S .non .non := by unfold Rep; rfl
end

section
variable {X : Cx} {A : Cls} {pins : List (Addr × Obj)} {σ : L2.St} {H : Hp} {s : Shared} {l : Addr} {xs : List V}
theorem Inv.rdL (I : Inv X pins σ H s) (h : Rd H l (.lst xs)) : xs.length ≤ sizeLine ∧ ∃ (its : List Value) (n : Nat), Vals xs its ∧ xs.length = its.length ∧ s.heap.get? l = some { cls := .type "list", data := .seq its.toArray n } := by
  obtain ⟨z, its, n, r, e⟩ := h.ok I.hok
  exact ⟨z, its, n, r, r.length, e⟩
theorem lineD_eq : lineD = sizeLine := by rw [sizeLine_eq]; rfl
/-- list + list, any that is read -/
def rCatR : R2 := fun x y H Q => ∃ l b xs zs, x = .ref l ∧ y = .ref b ∧ Rd H l (.lst xs) ∧ Rd H b (.lst zs) ∧ xs.length + zs.length ≤ sizeLine ∧ ∀ p, H p = none → Q (.ref p) (upd H p (.lst (xs ++ zs)))
theorem op_catR : OpR X (binaryOp .Add) rCatR := by
  intro pins s σ H x y v u Q I rx ry h
  obtain ⟨l, b, xs, zs, rfl, rfl, hH, hB, hz, q⟩ := h
  cases rx
  cases ry
  obtain ⟨z, its, n, r, hl, e⟩ := Inv.rdL I hH
  obtain ⟨z2, its2, n2, r2, hl2, e2⟩ := Inv.rdL I hB
  refine PySem.P.add_list e e2 ?_ (by rw [List.size_toArray, List.size_toArray]; omega)
  have ea : its.toArray ++ its2.toArray = (its ++ its2).toArray := by simp
  rw [ea]
  refine ⟨.ref s.heap.objs.size, _, I.lnew (t' := s.toks) (r.append r2) (by rw [List.length_append]; omega), rfl, q _ (Inv.fresh I)⟩
end
end GW
end

section
/-! C4: the operations' rules; combining. -/
namespace GW
open PySem PySem.Spec PyProof.Rows L2

section
variable {X : Cx} {A : Cls} {W : WX}
theorem tells_of {E : Ent} {S H : Hp} {ρ : Env} {σ : L2.St} {fs : Nat → List Addr} {z : D × Bool} {Q : VK} (st : Sta X.K A E S H ρ σ fs) (k : ∀ S' H' v fp, Same S S' → Sta X.K A E S' H' ρ σ fs → RV X.K A S' H' z v fp → Apart E fs fp → Q v H') :
    Tells X.K A z S H Q := fun S' H' v fp e1 e2 e3 n r ap => by
  refine k S' H' v fp e1 (st.grow e1 e2 e3 n) r fun a ha => ⟨st.ghost.free (ap a ha).1, fun i hi => ?_⟩
  obtain ⟨_, o, h⟩ := (st.slot i).at a hi
  rw [(ap a ha).1] at h
  cases h

/-! ### operators -/
theorem op_add_ : OpR X (binaryOp .Add) (rO X.K A (binv .add)) := by
  intro pins s σ H x y v u Q I rx ry h
  obtain ⟨S, dx, dy, sub, hx, hy, z, hz, t⟩ := h
  unfold binv at hz
  split at hz <;> first | contradiction | skip
  · cases hz
    cases hx.int_inv
    cases hy.int_inv
    exact op_add pins s σ H _ _ v u Q I rx ry ⟨_, _, rfl, rfl, t.now sub (Rep.int _)⟩
  · split at hz <;> first | contradiction | skip
    rename_i hl
    cases hz
    cases hx.str_inv
    cases hy.str_inv
    exact op_add_str pins s σ H _ _ v u Q I rx ry ⟨_, _, rfl, rfl, lineD_eq ▸ hl, t.now sub (Rep.str _)⟩
  · split at hz <;> first | contradiction | skip
    rename_i hl
    cases hz
    obtain ⟨a, vs, rfl, h1, h2⟩ := hx.lst_inv
    obtain ⟨b, us, rfl, h3, h4⟩ := hy.lst_inv
    exact op_catR pins s σ H _ _ v u Q I rx ry ⟨a, b, vs, us, rfl, rfl, Same.rd sub h1, Same.rd sub h3, by rw [h2.len, h4.len]; exact lineD_eq ▸ hl, t.lst sub (h2.app h4)⟩
  · split at hz <;> first | contradiction | skip
    rename_i hl
    cases hz
    obtain ⟨a, vs, rfl, h1, h2⟩ := hx.tup_inv
    obtain ⟨b, us, rfl, h3, h4⟩ := hy.tup_inv
    refine op_catA pins s σ H _ _ v u Q I rx ry ⟨a, b, vs, us, rfl, rfl, Same.sqt sub h1, Same.sqt sub h3, by rw [h2.len, h4.len]; exact lineD_eq ▸ hl, fun e => ?_, fun _ e => ?_, fun _ _ p hp => t.tup sub (h2.app h4) p hp⟩
    · subst e
      have e2 : _ = [] := List.eq_nil_of_length_eq_zero h2.len.symm
      subst e2
      exact t.now sub hy
    · subst e
      have e2 : _ = [] := List.eq_nil_of_length_eq_zero h4.len.symm
      subst e2
      rw [List.append_nil] at t
      exact t.now sub hx
theorem op_sub_ : OpR X (binaryOp .Sub) (rO X.K A (binv .sub)) := by
  intro pins s σ H x y v u Q I rx ry h
  obtain ⟨S, dx, dy, sub, hx, hy, z, hz, t⟩ := h
  unfold binv at hz
  split at hz <;> first | contradiction | skip
  cases hz
  cases hx.int_inv
  cases hy.int_inv
  exact op_sub pins s σ H _ _ v u Q I rx ry ⟨_, _, rfl, rfl, t.now sub (Rep.int _)⟩
theorem op_repR {pins : List (Addr × Obj)} {s : Shared} {σ : L2.St} {H : Hp} {l : Addr} {xs : List V} {k : Int} {v u : Value} {Q : VK} (I : L2.Inv X pins σ H s) (rx : RelV (.ref l) v) (ry : RelV (.int k) u) (hH : Rd H l (.lst xs)) (h1 : -(2 ^ 63) ≤ k) (h2 : k < 2 ^ 63) (hz : xs.length * k.toNat ≤ sizeLine)
    (q : ∀ p, H p = none → Q (.ref p) (upd H p (.lst (List.replicate k.toNat xs).flatten))) : wpAny (model X.prog X.w) X.A (binaryOp .Mult v u) (EP X pins σ Q) X.xe s := by
  cases rx
  obtain ⟨t, rfl⟩ := ry
  obtain ⟨z, its, n, r, hl, e⟩ := Inv.rdL I hH
  have hlen : its.toArray.size * k.toNat ≤ sizeLine := by rw [List.size_toArray, ← hl]; exact hz
  have hcap : ¬ its.toArray.size * k.toNat > (2 ^ 63 - 1) / 8 := by
    have : (sizeLine : Nat) ≤ (2 ^ 63 - 1) / 8 := by decide
    omega
  have hfit : ¬ (!Builtin.List.listFitsIndex k) = true := by
    rw [fitsIndex_both h1 h2]
    exact Bool.false_ne_true
  have hlong : ¬ Builtin.List.listTooLong (its.toArray.size * k.toNat) = true := by
    rw [notLongL hlen]
    exact Bool.false_ne_true
  have hnew : List.foldl (fun x1 x2 => x1 ++ x2) #[] (List.replicate (if its.toArray.isEmpty = true then 0 else k.toNat) its.toArray) = (List.replicate k.toNat its).flatten.toArray := by
    have f0 : ∀ m : Nat, List.foldl (fun x1 x2 => x1 ++ x2) #[] (List.replicate m its.toArray) = (List.replicate m its).flatten.toArray := fun m => by
      have := foldl_rep its m []
      rw [List.nil_append] at this
      exact this
    rw [f0]
    cases its with
    | nil => simp
    | cons a r' => rw [if_neg (by simp)]
  refine wpAny_binaryOp_repeat_ref (T := "list") (U := "int") (by decide) ⟨_, e, rfl⟩ (fun s' => typeIs_int s' k t) noFill_list_mul F.fills_int_mul F.slot_int_rmul repeat_list F.slot_int_index.lookup
    (call_meets F.slot_int_rmul (typeIs_int s k t) F.entry_int_rmul (F.args_int_rmul_2 _ _) (int___rmul___int_list k t l its.toArray n)
      ⟨e, rfl, ⟨_, e, rfl⟩, call_meets F.slot_list_mul ⟨_, e, rfl⟩ F.entry_list_mul (F.args_list_mul_2 _ _) (AutoListH.list___mul___list_int_3 l its.toArray n k t hfit hcap hlong) ⟨e, ?_⟩⟩)
  rw [hnew]
  exact ⟨.ref _, _, I.lnew (t' := s.toks) (r.rep k.toNat) (by rw [PyProof.Rows.lm_len_rep_flat, Nat.mul_comm]; exact hz), rfl, q _ (Inv.fresh I)⟩
theorem Reps.rep {K : PySem.W.Frag} {S : Hp} {ds : List D} {vs : List V} (h : Reps K A S ds vs) : ∀ n : Nat, Reps K A S (List.replicate n ds).flatten (List.replicate n vs).flatten
  | 0 => Reps.nil
  | n + 1 => by
    rw [List.replicate_succ, List.replicate_succ, List.flatten_cons, List.flatten_cons]
    exact h.app (h.rep n)
theorem okI_of {j : Int} (h : okI j = true) : -(2 ^ 62) < j ∧ j < 2 ^ 62 := by
  unfold okI at h
  rw [Bool.and_eq_true] at h
  exact ⟨of_decide_eq_true h.1, of_decide_eq_true h.2⟩
theorem mulBig {i j : Int} (h3 : i.natAbs.log2 + j.natAbs.log2 < 100000000) : IntMulOk i j := by
  have b : ∀ x : Int, Builtin.Int.intBits x ≤ x.natAbs.log2 + 1 := fun x => by
    unfold Builtin.Int.intBits
    split <;> omega
  have h1 := b i
  have h2 := b j
  have e : bitsLine = 134217728 := by decide
  unfold IntMulOk
  intro z
  rw [Bool.and_eq_true] at z
  have z2 := z.2
  unfold Builtin.Int.intTooBig at z2
  have z3 := of_decide_eq_true z2
  rw [e] at z3
  omega
theorem op_mulX : OpR X (binaryOp .Mult) (rI (fun i j => i.natAbs.log2 + j.natAbs.log2 < 100000000) fun i j => .int (i * j)) := opI fun _ _ _ _ _ _ _ hc q => mul_int q (mulBig hc)
theorem op_mul_ : OpR X (binaryOp .Mult) (rO X.K A (binv .mul)) := by
  intro pins s σ H x y v u Q I rx ry h
  obtain ⟨S, dx, dy, sub, hx, hy, z, hz, t⟩ := h
  unfold binv at hz
  split at hz <;> first | contradiction | skip
  · split at hz <;> first | contradiction | skip
    rename_i hl
    cases hz
    cases hx.int_inv
    cases hy.int_inv
    exact op_mulX pins s σ H _ _ v u Q I rx ry ⟨_, _, rfl, rfl, hl, t.now sub (Rep.int _)⟩
  · split at hz <;> first | contradiction | skip
    rename_i hl
    cases hz
    obtain ⟨a, vs, rfl, h1, h2⟩ := hx.lst_inv
    cases hy.int_inv
    rw [Bool.and_eq_true] at hl
    obtain ⟨b1, b2⟩ := okI_of hl.1
    have b3 := of_decide_eq_true hl.2
    exact op_repR I rx ry (Same.rd sub h1) (by omega) (by omega) (by rw [h2.len]; exact lineD_eq ▸ b3) (t.lst sub (h2.rep _))
  · split at hz <;> first | contradiction | skip
    rename_i hl
    cases hz
    obtain ⟨a, vs, rfl, h1, h2⟩ := hx.tup_inv
    cases hy.int_inv
    simp only [Bool.and_eq_true, Bool.not_eq_true', decide_eq_true_eq] at hl
    obtain ⟨b0, b1, b2, b3⟩ := hl
    have hne : vs ≠ [] := fun e => by
      have := h2.len
      rw [e] at this
      simp at this
      rw [List.eq_nil_of_length_eq_zero this.symm] at b0
      cases b0
    exact op_repT pins s σ H _ _ v u Q I rx ry ⟨a, _, vs, rfl, rfl, Same.sqt sub h1, hne, b1, b2, by rw [h2.len]; exact b3, t.tup sub (h2.rep _)⟩
theorem op_fdiv_ : OpR X (binaryOp .FloorDiv) (rO X.K A (binv .fdiv)) := by
  intro pins s σ H x y v u Q I rx ry h
  obtain ⟨S, dx, dy, sub, hx, hy, z, hz, t⟩ := h
  unfold binv at hz
  split at hz <;> first | contradiction | skip
  split at hz <;> first | contradiction | skip
  rename_i hl
  cases hz
  cases hx.int_inv
  cases hy.int_inv
  rw [Bool.and_eq_true] at hl
  have h0 := hl.1
  rw [bne_iff_ne] at h0
  have hb := of_decide_eq_true hl.2
  obtain ⟨t1, rfl⟩ := rx
  obtain ⟨t2, rfl⟩ := ry
  exact floordiv_int h0 ⟨.int _, H, (I.tok _), ⟨_, rfl⟩, t.now sub (Rep.int _)⟩ (.inl (PyProof.noPylong_of_log2 hb))
theorem op_mod_ : OpR X (binaryOp .Mod) (rO X.K A (binv .mod)) := by
  intro pins s σ H x y v u Q I rx ry h
  obtain ⟨S, dx, dy, sub, hx, hy, z, hz, t⟩ := h
  unfold binv at hz
  split at hz <;> first | contradiction | skip
  split at hz <;> first | contradiction | skip
  rename_i hl
  cases hz
  cases hx.int_inv
  cases hy.int_inv
  have h0 := hl
  rw [bne_iff_ne] at h0
  exact op_modN pins s σ H _ _ v u Q I rx ry ⟨_, _, rfl, rfl, h0, t.now sub (Rep.int _)⟩
theorem op_pow_ : OpR X (binaryOp .Pow) (rO X.K A (binv .pow)) := by
  intro pins s σ H x y v u Q I rx ry h
  obtain ⟨S, dx, dy, sub, hx, hy, z, hz, t⟩ := h
  unfold binv at hz
  split at hz <;> first | contradiction | skip
  split at hz <;> first | contradiction | skip
  rename_i i j hl
  cases hz
  cases hx.int_inv
  cases hy.int_inv
  rw [Bool.and_eq_true, Bool.and_eq_true] at hl
  have h1 := of_decide_eq_true hl.1.1
  have h2 := of_decide_eq_true hl.1.2
  have h3 := of_decide_eq_true hl.2
  exact op_pow pins s σ H _ _ v u Q I rx ry ⟨_, _, rfl, rfl, ⟨h1, by omega, h3⟩, t.now sub (Rep.int _)⟩
def BOp.py : BOp → Operator
  | .add => .Add
  | .sub => .Sub
  | .mul => .Mult
  | .fdiv => .FloorDiv
  | .mod => .Mod
  | .pow => .Pow
theorem op_bin (o : BOp) : OpR X (binaryOp o.py) (rO X.K A (binv o)) := by
  cases o
  · exact op_add_
  · exact op_sub_
  · exact op_mul_
  · exact op_fdiv_
  · exact op_mod_
  · exact op_pow_

/-! ### comparisons -/
def COp.py : COp → CmpOp
  | .lt => .Lt
  | .le => .LtE
  | .gt => .Gt
  | .ge => .GtE
  | .eq => .Eq
  | .ne => .NotEq
  | .is_ => .Is
  | .isnot => .IsNot
  | .in_ => .In
  | .nin => .NotIn
theorem deep_of {x y : D} (h : deep x y = true) : x.dep ≤ 60 ∧ y.dep ≤ 60 := by
  unfold deep at h
  rw [Bool.and_eq_true] at h
  exact ⟨of_decide_eq_true h.1, of_decide_eq_true h.2⟩
theorem op_lt_ : OpR X (compareOp .Lt) (rC X.K A (cmpv .lt)) := by
  intro pins s σ H x y v u Q I rx ry h
  obtain ⟨S, dx, dy, sub, hx, hy, z, hz, t⟩ := h
  unfold cmpv at hz
  split at hz <;> first | contradiction | skip
  cases hz
  cases hx.int_inv
  cases hy.int_inv
  exact op_lt pins s σ H _ _ v u Q I rx ry ⟨_, _, rfl, rfl, t⟩
theorem op_le_ : OpR X (compareOp .LtE) (rC X.K A (cmpv .le)) := by
  intro pins s σ H x y v u Q I rx ry h
  obtain ⟨S, dx, dy, sub, hx, hy, z, hz, t⟩ := h
  unfold cmpv at hz
  split at hz <;> first | contradiction | skip
  cases hz
  cases hx.int_inv
  cases hy.int_inv
  exact op_le pins s σ H _ _ v u Q I rx ry ⟨_, _, rfl, rfl, t⟩
theorem op_gt_ : OpR X (compareOp .Gt) (rC X.K A (cmpv .gt)) := by
  intro pins s σ H x y v u Q I rx ry h
  obtain ⟨S, dx, dy, sub, hx, hy, z, hz, t⟩ := h
  unfold cmpv at hz
  split at hz <;> first | contradiction | skip
  cases hz
  cases hx.int_inv
  cases hy.int_inv
  exact op_gt pins s σ H _ _ v u Q I rx ry ⟨_, _, rfl, rfl, t⟩
theorem op_ge_ : OpR X (compareOp .GtE) (rC X.K A (cmpv .ge)) := by
  intro pins s σ H x y v u Q I rx ry h
  obtain ⟨S, dx, dy, sub, hx, hy, z, hz, t⟩ := h
  unfold cmpv at hz
  split at hz <;> first | contradiction | skip
  cases hz
  cases hx.int_inv
  cases hy.int_inv
  exact op_ge pins s σ H _ _ v u Q I rx ry ⟨_, _, rfl, rfl, t⟩
theorem op_eq_ (hu : X.A.units + 64 < cLine) : OpR X (compareOp .Eq) (rC X.K A (cmpv .eq)) := by
  intro pins s σ H x y v u Q I rx ry h
  obtain ⟨S, dx, dy, sub, hx, hy, z, hz, t⟩ := h
  unfold cmpv at hz
  split at hz <;> first | contradiction | skip
  split at hz <;> first | contradiction | skip
  rename_i hd
  cases hz
  obtain ⟨d1, d2⟩ := deep_of hd
  refine op_eqD hu pins s σ H _ _ v u Q I rx ry ⟨_, _, Rep.dp _ _ (by omega) (Rep.mono sub _ _ hx), Rep.dp _ _ (by omega) (Rep.mono sub _ _ hy), shaped_of d1, shaped_of d2, ?_⟩
  rw [eqv_py _ _ (by omega) (by omega)]
  exact t
theorem op_ne_ (hu : X.A.units + 64 < cLine) : OpR X (compareOp .NotEq) (rC X.K A (cmpv .ne)) := by
  intro pins s σ H x y v u Q I rx ry h
  obtain ⟨S, dx, dy, sub, hx, hy, z, hz, t⟩ := h
  unfold cmpv at hz
  split at hz <;> first | contradiction | skip
  split at hz <;> first | contradiction | skip
  rename_i hd
  cases hz
  obtain ⟨d1, d2⟩ := deep_of hd
  refine op_neD hu pins s σ H _ _ v u Q I rx ry ⟨_, _, Rep.dp _ _ (by omega) (Rep.mono sub _ _ hx), Rep.dp _ _ (by omega) (Rep.mono sub _ _ hy), shaped_of d1, shaped_of d2, ?_⟩
  rw [eqv_py _ _ (by omega) (by omega)]
  exact t
theorem rep_non_iff {K : PySem.W.Frag} {S : Hp} : ∀ {d : D} {v : V}, Rep K A S d v → decide (v = .non) = (match d with | .non => true | _ => false)
  | .non, _, h => by cases h.non_inv; rfl
  | .bl _, _, h => by cases h.bl_inv; rfl
  | .int _, _, h => by cases h.int_inv; rfl
  | .str _, _, h => by cases h.str_inv; rfl
  | .tup _, _, h => by obtain ⟨a, vs, rfl, _⟩ := h.tup_inv; rfl
  | .lst _, _, h => by obtain ⟨a, vs, rfl, _⟩ := h.lst_inv; rfl
  | .dic _, _, h => by unfold Rep at h; obtain ⟨a, vs, rfl, _⟩ := h; rfl
  | .exc _, _, h => by unfold Rep at h; obtain ⟨a, rfl, _⟩ := h; rfl
  | .ins _ _, _, h => by unfold Rep at h; exact h.elim
theorem non_not (d : D) : (!(match d with | .non => true | _ => false)) = (match d with | .non => false | _ => true) := by cases d <;> rfl
theorem op_is_ : OpR X (compareOp .Is) (rC X.K A (cmpv .is_)) := by
  intro pins s σ H x y v u Q I rx ry h
  obtain ⟨S, dx, dy, sub, hx, hy, z, hz, t⟩ := h
  unfold cmpv at hz
  split at hz <;> first | contradiction | skip
  · cases hz
    cases hy.non_inv
    refine op_isN pins s σ H _ _ v u Q I rx ry ⟨rfl, ?_⟩
    rw [rep_non_iff hx]
    exact t
  · cases hz
    cases hx.bl_inv
    cases hy.bl_inv
    refine op_isBl pins s σ H _ _ v u Q I rx ry ⟨_, _, rfl, rfl, ?_⟩
    rw [← Bool.beq_eq_decide_eq]
    exact t
theorem op_isnot_ : OpR X (compareOp .IsNot) (rC X.K A (cmpv .isnot)) := by
  intro pins s σ H x y v u Q I rx ry h
  obtain ⟨S, dx, dy, sub, hx, hy, z, hz, t⟩ := h
  unfold cmpv at hz
  split at hz <;> first | contradiction | skip
  · cases hz
    cases hy.non_inv
    refine op_notN pins s σ H _ _ v u Q I rx ry ⟨rfl, ?_⟩
    rw [rep_non_iff hx, non_not]
    exact t
  · cases hz
    cases hx.bl_inv
    cases hy.bl_inv
    refine op_isnot_bl pins s σ H _ _ v u Q I rx ry ⟨_, _, rfl, rfl, ?_⟩
    rw [← Bool.beq_eq_decide_eq]
    exact t
end
end GW
end

section
/-! C5: the facts of a program; in, count, index, len, isinstance. -/
namespace GW
open PySem PySem.Spec PyProof.Rows L2

/-- the built-in names a text may use -/
def bnames : List Str := ["len", "abs", "str", "int", "list", "tuple", "sorted", "set", "all", "any", "sum", "min", "max", "dict", "isinstance", "bool", "range", "zip", "enumerate", "ValueError"]
/-- what stands behind the top -/
structure Facts (G : Prog) (A : Cls) (fa : Nat → Addr) (fd : Nat → FuncData) (w : World) (K : PySem.W.Frag) (mg : Str → Option Value) : Prop where
  glo : ∀ (g : Nat) (x : Str) (d : D), G.glos[g]? = some (x, d) → D.dic? d = none → ∃ u v, mg x = some u ∧ RelV v u ∧ Rep K A (fun _ => none) d v
  dic : ∀ (g : Nat) (x : Str) (kvs : List (Str × D)), G.glos[g]? = some (x, .dic kvs) → ∃ a, mg x = some (.ref a) ∧ ∀ k d, kvs.lookup k = some d → ∃ v, KDct K w a k v ∧ Rep K A (fun _ => none) d v
  blt : ∀ x ∈ bnames, mg x = none
  fn : ∀ (f : Nat) (F : Fn), G.fns[f]? = some F → F.meth = false → mg F.name = some (.ref (fa f))
  fkp : ∀ (f : Nat) (F : Fn), G.fns[f]? = some F → PySem.W.keepIn K (.ref (fa f)) = true ∧ Binds K (fd f) F.pars []
  exc : ∀ (c : Nat) (x : Str), G.excs[c]? = some x → mg x = some (.ref (A.exc c)) ∧ PySem.W.keepIn K (.ref (A.exc c)) = true ∧ PySem.W.excIn K (A.exc c) [.type "ValueError", .type "Exception", .type "BaseException", .type "object"] "ValueError.__new__" = true ∧
    PySem.W.subIn K (.ref (A.exc c)) (.type "BaseException") = some true ∧ PySem.W.typeIn K (.ref (A.exc c)) = some (.type "type") ∧ ExcC K (A.exc c) ∧ PySem.W.kitOne K (.ref (A.exc c)) (.type "ValueError") = some true
  sub : ∀ c k b, G.sub c k = some b → PySem.W.kitOne K (.ref (A.exc c)) (.ref (A.exc k)) = some b ∧ PySem.W.exmOne K (.ref (A.exc c)) (.ref (A.exc k)) = some b
theorem Prog.sub_lt {G : Prog} {c k : Nat} {b : Bool} (h : G.sub c k = some b) : c < G.excs.length ∧ k < G.excs.length := by
  unfold Prog.sub at h
  split at h
  · assumption
  · cases h

theorem RepsK.val {K : PySem.W.Frag} {A : Cls} {S : Hp} {k : Str} : ∀ {kvs : List (Str × D)} {es : List (Key × V)}, RepsK K A S kvs es → match kvs.lookup k with
    | some d => ∃ v, valV es (.inr k) = some v ∧ Rep K A S d v
    | none => valV es (.inr k) = none
  | [], _, h => by
    unfold RepsK at h
    subst h
    rfl
  | (j, d) :: r, _, h => by
    unfold RepsK at h
    obtain ⟨v, er, rfl, h1, h2⟩ := h
    have ih := RepsK.val (k := k) h2
    by_cases e : k = j
    · subst e
      simp only [List.lookup, beq_self_eq_true]
      exact ⟨v, valV_pos rfl, h1⟩
    · have e1 : (k == j) = false := by simpa using e
      simp only [List.lookup, e1]
      rw [valV_neg (fun z => e (Sum.inr.inj z).symm)]
      exact ih
theorem RepsK.some {K : PySem.W.Frag} {A : Cls} {S : Hp} {k : Str} {kvs : List (Str × D)} {es : List (Key × V)} (h : RepsK K A S kvs es) : (valV es (.inr k)).isSome = (kvs.lookup k).isSome := by
  have q := h.val (k := k)
  cases e : kvs.lookup k with
  | none => rw [e] at q; rw [q]; rfl
  | some d => rw [e] at q; obtain ⟨v, q, _⟩ := q; rw [q]; rfl

section
variable {X : Cx} {A : Cls} {W : WX}
/-! ### in -/
theorem op_in_ (hu : X.A.units + 65 < cLine) : OpR X (compareOp .In) (rC X.K A (cmpv .in_)) := by
  intro pins s σ H x y v u Q I rx ry h
  obtain ⟨S, dx, dy, sub, hx, hy, z, hz, t⟩ := h
  unfold cmpv at hz
  split at hz <;> first | contradiction | skip
  · split at hz <;> first | contradiction | skip
    rename_i ys _ hd
    cases hz
    obtain ⟨d1, d2⟩ := deep_of hd
    have d3 : D.deps ys < 100 := by unfold D.dep at d2; omega
    obtain ⟨as, r1⟩ := Dp.reads I _ x v (Rep.dp _ _ (by omega) (Rep.mono sub _ _ hx)) rx
    obtain ⟨bs, r2⟩ := Dp.reads I _ y u (Rep.dp _ _ (by omega) (Rep.mono sub _ _ hy)) ry
    refine SeqAt.in_list_reads r2 r1 (SeqAt.canLay_of_shaped (shaped_of d2)) (SeqAt.canLay_of_shaped (shaped_of d1)) (room_in_shaped (shaped_of d1) hu) ⟨.bl _, H, I, rfl, ?_⟩
    rw [any_py _ (by omega) ys d3]
    exact t
  · split at hz <;> first | contradiction | skip
    rename_i ys _ hd
    cases hz
    obtain ⟨d1, d2⟩ := deep_of hd
    have d3 : D.deps ys < 100 := by unfold D.dep at d2; omega
    obtain ⟨as, r1⟩ := Dp.reads I _ x v (Rep.dp _ _ (by omega) (Rep.mono sub _ _ hx)) rx
    obtain ⟨bs, r2⟩ := Dp.reads I _ y u (Rep.dp _ _ (by omega) (Rep.mono sub _ _ hy)) ry
    refine SeqAt.in_tuple_reads r2 r1 (SeqAt.canLay_of_shaped (shaped_of d2)) (SeqAt.canLay_of_shaped (shaped_of d1)) (room_in_shaped (shaped_of d1) hu) ⟨.bl _, H, I, rfl, ?_⟩
    rw [any_py _ (by omega) ys d3]
    exact t
  · cases hz
    cases hx.str_inv
    unfold Rep at hy
    obtain ⟨a, es, rfl, h1, h2⟩ := hy
    cases ry
    refine d_in (X := X) (o := valV es (.inr _)) (by omega) I (.inl ⟨es, .inr _, Same.rd sub h1, rfl, rfl⟩) rx fun s' I' => ⟨.bl _, H, I', rfl, ?_⟩
    rw [h2.some]
    exact t
theorem op_nin_ (hu : X.A.units + 65 < cLine) : OpR X (compareOp .NotIn) (rC X.K A (cmpv .nin)) := by
  intro pins s σ H x y v u Q I rx ry h
  obtain ⟨S, dx, dy, sub, hx, hy, z, hz, t⟩ := h
  unfold cmpv at hz
  split at hz <;> first | contradiction | skip
  · split at hz <;> first | contradiction | skip
    rename_i ys _ hd
    cases hz
    obtain ⟨d1, d2⟩ := deep_of hd
    have d3 : D.deps ys < 100 := by unfold D.dep at d2; omega
    obtain ⟨as, r1⟩ := Dp.reads I _ x v (Rep.dp _ _ (by omega) (Rep.mono sub _ _ hx)) rx
    obtain ⟨bs, r2⟩ := Dp.reads I _ y u (Rep.dp _ _ (by omega) (Rep.mono sub _ _ hy)) ry
    refine SeqAt.notIn_list_reads r2 r1 (SeqAt.canLay_of_shaped (shaped_of d2)) (SeqAt.canLay_of_shaped (shaped_of d1)) (room_in_shaped (shaped_of d1) hu) ⟨.bl _, H, I, rfl, ?_⟩
    rw [any_py _ (by omega) ys d3]
    exact t
  · split at hz <;> first | contradiction | skip
    rename_i ys _ hd
    cases hz
    obtain ⟨d1, d2⟩ := deep_of hd
    have d3 : D.deps ys < 100 := by unfold D.dep at d2; omega
    obtain ⟨as, r1⟩ := Dp.reads I _ x v (Rep.dp _ _ (by omega) (Rep.mono sub _ _ hx)) rx
    obtain ⟨bs, r2⟩ := Dp.reads I _ y u (Rep.dp _ _ (by omega) (Rep.mono sub _ _ hy)) ry
    refine SeqAt.notIn_tuple_reads r2 r1 (SeqAt.canLay_of_shaped (shaped_of d2)) (SeqAt.canLay_of_shaped (shaped_of d1)) (room_in_shaped (shaped_of d1) hu) ⟨.bl _, H, I, rfl, ?_⟩
    rw [any_py _ (by omega) ys d3]
    exact t
  · cases hz
    cases hx.str_inv
    unfold Rep at hy
    obtain ⟨a, es, rfl, h1, h2⟩ := hy
    cases ry
    refine d_notIn (X := X) (o := valV es (.inr _)) (by omega) I (.inl ⟨es, .inr _, Same.rd sub h1, rfl, rfl⟩) rx fun s' I' => ⟨.bl _, H, I', rfl, ?_⟩
    rw [h2.some]
    exact t

/-! ### subscripts by values -/
def rX (K : PySem.W.Frag) (A : Cls) (c : D → D → Option D) : R2 := fun x y H Q => ∃ S dx dy, Same S H ∧ Rep K A S dx x ∧ Rep K A S dy y ∧ ∃ z, c dx dy = some z ∧ ∀ v, Rep K A S z v → Q v H
theorem ixL_at {α : Type} {xs : List α} {i : Int} {v : α} (h : ixL xs i = some v) : ∃ j, L2.ixN xs.length i = some j ∧ xs[j]? = some v := by
  unfold ixL at h
  cases e : ixN xs.length i with
  | none => rw [e] at h; cases h
  | some j => rw [e] at h; exact ⟨j, e, h⟩
theorem Reps.atI {K : PySem.W.Frag} {S : Hp} {ds : List D} {vs : List V} {i : Int} {d : D} (r : Reps K A S ds vs) (h : ixL ds i = some d) : ∃ v, L2.atI vs i = some v ∧ Rep K A S d v := by
  obtain ⟨j, h1, h2⟩ := ixL_at h
  obtain ⟨v, h3, h4⟩ := r.get h2
  refine ⟨v, ?_, h4⟩
  unfold L2.atI
  rw [r.len, h1]
  exact h3
theorem ix_seq_ (hu : X.A.units + 65 < cLine) : IxR X (rX X.K A ixv) := by
  intro value slice pins s σ H x y v u Q I rx ry h hs
  obtain ⟨S, dx, dy, sub, hx, hy, z, hz, t⟩ := h
  unfold ixv at hz
  split at hz <;> first | contradiction | skip
  · obtain ⟨a, vs, rfl, h1, h2⟩ := hx.lst_inv
    cases hy.int_inv
    obtain ⟨w', h3, h4⟩ := h2.atI hz
    exact ix_list value slice pins s σ H _ _ v u Q I rx ry ⟨a, vs, _, w', rfl, rfl, .inl (Same.rd sub h1), h3, t w' h4⟩ hs
  · obtain ⟨a, vs, rfl, h1, h2⟩ := hx.tup_inv
    cases hy.int_inv
    obtain ⟨w', h3, h4⟩ := h2.atI hz
    exact ix_tup value slice pins s σ H _ _ v u Q I rx ry ⟨a, vs, _, w', rfl, rfl, Same.sqt sub h1, h3, t w' h4⟩ hs
  · split at hz <;> first | contradiction | skip
    rename_i hl
    cases hx.str_inv
    cases hy.int_inv
    obtain ⟨c, hc, rfl⟩ := Option.map_eq_some_iff.mp hz
    obtain ⟨j, h1, h2⟩ := ixL_at hc
    refine ix_str value slice pins s σ H _ _ v u Q I rx ry ⟨_, _, c, rfl, rfl, lineD_eq ▸ hl, ?_, t _ (Rep.str _)⟩ hs
    unfold L2.atI
    rw [h1]
    exact h2

/-! ### calls by values -/
theorem cr_len : CallR X (.builtin "len") (rL X.K A (biv .len)) := by
  intro pins s σ H xs us Q I r h
  obtain ⟨S, ds, sub, hx, z, hz, t⟩ := h
  unfold biv at hz
  split at hz <;> first | contradiction | skip
  · cases hz
    unfold Reps at hx
    obtain ⟨v, r', rfl, h1, h2⟩ := hx
    unfold Reps at h2
    subst h2
    obtain ⟨a, vs, rfl, h3, h4⟩ := h1.lst_inv
    exact call_len pins s σ H _ us Q I r ⟨_, _, rfl, .inl ⟨vs, .inl (Same.rd sub h3), h4.len.symm⟩, t.now sub (Rep.int _)⟩
  · cases hz
    unfold Reps at hx
    obtain ⟨v, r', rfl, h1, h2⟩ := hx
    unfold Reps at h2
    subst h2
    obtain ⟨a, vs, rfl, h3, h4⟩ := h1.tup_inv
    exact call_len pins s σ H _ us Q I r ⟨_, _, rfl, .inr ⟨vs, Same.sqt sub h3, h4.len.symm⟩, t.now sub (Rep.int _)⟩
  · split at hz <;> first | contradiction | skip
    rename_i hl
    cases hz
    unfold Reps at hx
    obtain ⟨v, r', rfl, h1, h2⟩ := hx
    unfold Reps at h2
    subst h2
    cases h1.str_inv
    exact call_len pins s σ H _ us Q I r ⟨_, _, rfl, ⟨lineD_eq ▸ hl, rfl⟩, t.now sub (Rep.int _)⟩
theorem cr_abs : CallR X (.builtin "abs") (rL X.K A (biv .abs)) := by
  intro pins s σ H xs us Q I r h
  obtain ⟨S, ds, sub, hx, z, hz, t⟩ := h
  unfold biv at hz
  split at hz <;> first | contradiction | skip
  cases hz
  unfold Reps at hx
  obtain ⟨v, r', rfl, h1, h2⟩ := hx
  unfold Reps at h2
  subst h2
  cases h1.int_inv
  exact call_abs pins s σ H _ us Q I r ⟨_, rfl, t.now sub (Rep.int _)⟩

/-! ### methods by values -/
def rM (K : PySem.W.Frag) (A : Cls) (c : D → List D → Option (D × Bool)) : V → List V → Hp → VK → Prop := fun x xs H Q => ∃ S dx ds, Same S H ∧ Rep K A S dx x ∧ Reps K A S ds xs ∧ ∃ z, c dx ds = some z ∧ Tells K A z S H Q
theorem reps_one {K : PySem.W.Frag} {S : Hp} {d : D} {vs : List V} (h : Reps K A S [d] vs) : ∃ v, vs = [v] ∧ Rep K A S d v := by
  unfold Reps at h
  obtain ⟨v, r, rfl, h1, h2⟩ := h
  unfold Reps at h2
  subst h2
  exact ⟨v, rfl, h1⟩
theorem count_py (x : D) (hx : x.dep < 100) : ∀ (ys : List D), D.deps ys < 100 → (D.pys ys).countP (fun z => PyData.eqv z x.py) = countv x ys
  | [], _ => by simp [D.pys, countv]
  | y :: ys, h => by
    unfold D.deps at h
    have ih := count_py x hx ys (by omega)
    unfold countv at ih ⊢
    simp only [D.pys, List.countP_cons, List.filter_cons]
    rw [eqv_py y x (by omega) hx, ih]
    split <;> simp
theorem mt_count_ (hu : X.A.units + 65 < cLine) : MtR X "list.count" (rM X.K A (mtv .count)) := by
  intro pins s σ H x xs v us Q I rx rxs h
  obtain ⟨S, dx, ds, sub, hx, hy, z, hz, t⟩ := h
  unfold mtv at hz
  split at hz <;> first | contradiction | skip
  split at hz <;> first | contradiction | skip
  rename_i ys y _ hd
  cases hz
  obtain ⟨d1, d2⟩ := deep_of hd
  have d3 : D.deps ys < 100 := by unfold D.dep at d2; omega
  obtain ⟨w', rfl, hw⟩ := reps_one hy
  obtain ⟨a, vs, rfl, h1, h2⟩ := hx.lst_inv
  cases rx
  obtain ⟨u, rfl, ru⟩ := rxs.one
  obtain ⟨_, its, n, rv, hl, ho⟩ := Inv.rdL I (Same.rd sub h1)
  obtain ⟨bs, r1⟩ := Dp.reads I _ w' u (Rep.dp _ _ (by omega) (Rep.mono sub _ _ hw)) ru
  obtain ⟨as, r2⟩ := Dp.readsAll I _ _ its (Reps.dp _ _ d3 (Reps.mono sub _ _ h2)) rv
  have hc : PyData.canLayAll0 (D.pys ys) = true := by
    have q := SeqAt.canLay_of_shaped (shaped_of d2)
    simpa [D.py, PyData.canLay0] using q
  refine call_meets PySem.F.slot_list_count ⟨_, ho, rfl⟩ PySem.F.entry_list_count (PySem.F.args_list_count_2 _ _)
    (SeqAt.list_countAt a its.toArray n none #[] u (fun z => PyData.eqv (SeqAt.readOf s.heap z) y.py)) ⟨ho, SeqAt.items_eqAt (vs := its.toArray) r2 r1 hc (SeqAt.canLay_of_shaped (shaped_of d1)) (room_in_shaped (shaped_of d1) hu), ?_⟩
  refine ⟨.int _, H, I.tok _, ⟨_, rfl⟩, ?_⟩
  have e : List.countP (fun z => PyData.eqv (SeqAt.readOf s.heap z) y.py) its = countv y ys := by
    rw [← count_py y (by omega) ys d3, ← SeqAt.readsAll_map _ _ _ hc r2, List.countP_map]
    rfl
  show Q (.int ((List.countP (fun z => PyData.eqv (SeqAt.readOf s.heap z) y.py) its : Nat) : Int)) H
  rw [e]
  exact t.now sub (Rep.int _)
theorem indexv_at (x : D) (hx : x.dep < 100) : ∀ (ys : List D) (i j : Nat), D.deps ys < 100 → indexv x ys i = some j → ∃ k, j = i + k ∧ (∃ z, (D.pys ys)[k]? = some z ∧ PyData.eqv z x.py = true) ∧ ∀ (m : Nat) (z' : PyData), m < k → (D.pys ys)[m]? = some z' → PyData.eqv z' x.py = false
  | [], _, _, _, h => by simp [indexv] at h
  | y :: ys, i, j, hd, h => by
    unfold D.deps at hd
    unfold indexv at h
    split at h
    · rename_i e
      cases h
      refine ⟨0, rfl, ⟨y.py, by simp [D.pys], ?_⟩, fun m z' hm => absurd hm (Nat.not_lt_zero _)⟩
      rw [eqv_py y x (by omega) hx]
      exact e
    · rename_i e
      obtain ⟨k, rfl, ⟨z, h1, h2⟩, h3⟩ := indexv_at x hx ys (i + 1) j (by omega) h
      refine ⟨k + 1, by omega, ⟨z, by simpa [D.pys] using h1, h2⟩, fun m z' hm hz => ?_⟩
      cases m with
      | zero =>
        have : z' = y.py := by simpa [D.pys] using hz.symm
        subst this
        rw [eqv_py y x (by omega) hx]
        simpa using e
      | succ m => exact h3 m z' (by omega) (by simpa [D.pys] using hz)
theorem mt_index_ (hu : X.A.units + 65 < cLine) : MtR X "list.index" (rM X.K A (mtv .index)) := by
  intro pins s σ H x xs v us Q I rx rxs h
  obtain ⟨S, dx, ds, sub, hx, hy, z, hz, t⟩ := h
  unfold mtv at hz
  split at hz <;> first | contradiction | skip
  split at hz <;> first | contradiction | skip
  rename_i ys y _ hd
  obtain ⟨d1, d2⟩ := deep_of hd
  have d3 : D.deps ys < 100 := by unfold D.dep at d2; omega
  obtain ⟨j, hj, rfl⟩ := Option.map_eq_some_iff.mp hz
  obtain ⟨w', rfl, hw⟩ := reps_one hy
  obtain ⟨k, rfl, ⟨z, h1, h2⟩, h3⟩ := indexv_at y (by omega) ys 0 j d3 hj
  obtain ⟨a, vs, rfl, g1, g2⟩ := hx.lst_inv
  refine mt_indexD hu pins s σ H _ _ v us Q I rx rxs ⟨a, w', y.py, D.pys ys, k, z, rfl, rfl, .lst (.inl (Same.rd sub g1)) (Reps.dp _ _ d3 (Reps.mono sub _ _ g2)), Rep.dp _ _ (by omega) (Rep.mono sub _ _ hw), ?_, shaped_of d1, h1, h2, h3, ?_⟩
  · have q := shaped_of d2
    unfold D.py at q
    exact q
  · rw [Nat.zero_add] at t
    exact t.now sub (Rep.int _)

/-! ### isinstance -/
def tyN : D → Option String
  | .non => some "NoneType"
  | .bl _ => some "bool"
  | .int _ => some "int"
  | .str _ => some "str"
  | .tup _ => some "tuple"
  | .lst _ => some "list"
  | .dic _ => some "dict"
  | _ => none
def Ty.py : Ty → String
  | .int => "int"
  | .bool => "bool"
  | .str => "str"
  | .tuple => "tuple"
  | .list => "list"
  | .valueError => "ValueError"
  | .exc _ => ""
theorem rep_ty {K : PySem.W.Frag} {H : Hp} : ∀ {d : D} {v : V} {n : String}, Rep K A H d v → tyN d = some n → TyX K H v (.type n)
  | .non, _, _, h, e => by cases h.non_inv; cases e; exact .base .non
  | .bl b, _, _, h, e => by cases h.bl_inv; cases e; exact .base (.bl b)
  | .int i, _, _, h, e => by cases h.int_inv; cases e; exact .base (.int i)
  | .str i, _, _, h, e => by cases h.str_inv; cases e; exact .base (.str i)
  | .tup _, _, _, h, e => by
    obtain ⟨a, vs, rfl, h1, _⟩ := h.tup_inv
    cases e
    rcases h1 with (h1 | ⟨o, h1⟩) | ⟨o, its, n, h1, h2, _⟩
    · exact .base (.tup h1)
    · exact .fTuple h1
    · exact .kTuple h1 h2
  | .lst _, _, _, h, e => by
    obtain ⟨a, vs, rfl, h1, _⟩ := h.lst_inv
    cases e
    rcases h1 with h1 | ⟨o, h1⟩
    · exact .base (.lst h1)
    · exact .base (.frz h1)
  | .dic _, _, _, h, e => by
    unfold Rep at h
    obtain ⟨a, vs, rfl, h1, _⟩ := h
    cases e
    rcases h1 with h1 | ⟨o, h1⟩
    · exact .base (.dK h1)
    · exact .fDict h1
  | .exc _, _, _, _, e => by cases e
  | .ins _ _, _, _, _, e => by cases e
theorem kit_all : ∀ a ∈ ["NoneType", "bool", "int", "str", "tuple", "list", "dict"], ∀ b ∈ ["int", "bool", "str", "tuple", "list"], kitB a b = some (a == b || (a == "bool" && b == "int")) := by decide +kernel
/-- the class that an isinstance names -/
def ClsT (A : Cls) (t : Ty) (c : V) (u : Value) : Prop := match t with
  | .exc k => c = .ref (A.exc k) ∧ u = .ref (A.exc k)
  | t => c = .ty t.py ∧ u = .type t.py
def rIsD (G : Prog) (K : PySem.W.Frag) (A : Cls) (t : Ty) : List V → Hp → VK → Prop := fun xs H Q => ∃ S dx x c u b, xs = [x, c] ∧ Same S H ∧ Rep K A S dx x ∧ ClsT A t c u ∧ isiv G.sub dx t = some b ∧ Q (.bl b) H
theorem call_isD {G : Prog} {fa : Nat → Addr} {fd : Nat → FuncData} (Fc : Facts G A fa fd X.w X.K X.mg) (t : Ty) : CallR X (.builtin "isinstance") (rIsD G X.K A t) := by
  intro pins s σ H xs us Q I r h
  obtain ⟨S, dx, x, c, u, b, rfl, sub, hx, hc, hb, q⟩ := h
  have hx' := Rep.mono sub _ _ hx
  by_cases he : ∃ e, dx = .exc e
  · obtain ⟨e, rfl⟩ := he
    have key : e < G.excs.length → PySem.W.kitOne X.K (.ref (A.exc e)) u = some b → (c = V.ref (match t with | .exc k => A.exc k | _ => 0) ∨ ∃ n, c = .ty n) → (∀ w, RelV c w → w = u) → wpAny (model X.prog X.w) X.A (call (.builtin "isinstance") us) (EP X pins σ Q) X.xe s := by
      intro hlt hk _ hcu
      obtain ⟨nm, hn⟩ : ∃ nm, G.excs[e]? = some nm := ⟨_, List.getElem?_eq_getElem hlt⟩
      obtain ⟨_, _, _, _, _, C, _⟩ := Fc.exc e nm hn
      unfold Rep at hx'
      obtain ⟨a, rfl, ha⟩ := hx'
      obtain ⟨u1, u2, rfl, r1, r2⟩ := vals2 r
      cases (show u1 = Value.ref a from r1)
      cases hcu _ r2
      obtain ⟨⟨oe, vs, hg, hz, hd⟩, _, _⟩ := I.hok a _ ha
      have J : PySem.W.InstAt s.heap a oe (A.exc e) none := by
        obtain ⟨oc, od, oda, osl⟩ := oe
        obtain ⟨z1, z2⟩ := hz
        dsimp only at z1 z2 hd
        subst z1 z2 hd
        exact ⟨hg, rfl, rfl, trivial⟩
      exact PySem.W.kia_one (PySem.W.handS_kitx_exc C.hg C.hk C.hs C.hd C.ha C.hn C.ht C.hm) I.kIn J hk (fun z => nomatch z) fun tk => ⟨.bl b, H, I.tok tk, rfl, q⟩
    cases t with
    | exc k =>
      obtain ⟨rfl, rfl⟩ := hc
      have hb' : G.sub e k = some b := hb
      exact key (Prog.sub_lt hb').1 (Fc.sub e k b hb').1 (.inl rfl) (fun w hw => hw)
    | valueError =>
      obtain ⟨rfl, rfl⟩ := hc
      have hb' : (G.sub e e).map (fun _ => true) = some b := hb
      obtain ⟨b', h1, rfl⟩ := Option.map_eq_some_iff.mp hb'
      have hlt := (Prog.sub_lt h1).1
      obtain ⟨_, _, _, _, _, _, hk⟩ := Fc.exc e _ (List.getElem?_eq_getElem hlt)
      exact key hlt hk (.inr ⟨_, rfl⟩) (fun w hw => hw)
    | int => cases hb
    | bool => cases hb
    | str => cases hb
    | tuple => cases hb
    | list => cases hb
  · have main : ∀ n m, tyN dx = some n → n ∈ ["NoneType", "bool", "int", "str", "tuple", "list", "dict"] → m ∈ ["int", "bool", "str", "tuple", "list"] → c = .ty m → u = .type m → b = (n == m || (n == "bool" && m == "int")) → wpAny (model X.prog X.w) X.A (call (.builtin "isinstance") us) (EP X pins σ Q) X.xe s := by
      rintro n m h1 h2 h3 rfl rfl rfl
      exact call_isi pins s σ H _ us Q I r ⟨_, _, _, _, _, rfl, .ty m, rep_ty hx' h1, kit_ty (kit_all n h2 m h3), q⟩
    cases t with
    | exc k => cases dx <;> first | (exact absurd ⟨_, rfl⟩ he) | cases hb
    | valueError => cases dx <;> first | (exact absurd ⟨_, rfl⟩ he) | cases hb
    | int =>
      obtain ⟨rfl, rfl⟩ := hc
      cases dx <;> first | (exact absurd ⟨_, rfl⟩ he) | (cases hb; exact main _ _ rfl (by decide) (by decide) rfl rfl (by decide)) | cases hb
    | bool =>
      obtain ⟨rfl, rfl⟩ := hc
      cases dx <;> first | (exact absurd ⟨_, rfl⟩ he) | (cases hb; exact main _ _ rfl (by decide) (by decide) rfl rfl (by decide)) | cases hb
    | str =>
      obtain ⟨rfl, rfl⟩ := hc
      cases dx <;> first | (exact absurd ⟨_, rfl⟩ he) | (cases hb; exact main _ _ rfl (by decide) (by decide) rfl rfl (by decide)) | cases hb
    | tuple =>
      obtain ⟨rfl, rfl⟩ := hc
      cases dx <;> first | (exact absurd ⟨_, rfl⟩ he) | (cases hb; exact main _ _ rfl (by decide) (by decide) rfl rfl (by decide)) | cases hb
    | list =>
      obtain ⟨rfl, rfl⟩ := hc
      cases dx <;> first | (exact absurd ⟨_, rfl⟩ he) | (cases hb; exact main _ _ rfl (by decide) (by decide) rfl rfl (by decide)) | cases hb
end
end GW
end

section
/-! C6: more calls by values; the context; the constructs one by one. -/
namespace GW
open PySem PySem.Spec PyProof.Rows L2

section
variable {X : Cx} {A : Cls}
theorem boolsv_reps {K : PySem.W.Frag} {S : Hp} : ∀ {ds : List D} {bs : List Bool} {vs : List V}, boolsv ds = some bs → Reps K A S ds vs → vs = bs.map V.bl
  | [], bs, vs, h, r => by
    cases h
    unfold Reps at r
    exact r
  | d :: ds, bs, vs, h, r => by
    cases d with
    | bl b =>
      unfold boolsv at h
      obtain ⟨bs', h1, rfl⟩ := Option.map_eq_some_iff.mp h
      unfold Reps at r
      obtain ⟨v, r', rfl, h2, h3⟩ := r
      cases h2.bl_inv
      rw [boolsv_reps h1 h3]
      rfl
    | _ => cases h
theorem cr_all_ (hc : X.calm = true) : CallR X (.builtin "all") (rL X.K A (biv .all)) := by
  intro pins s σ H xs us Q I r h
  obtain ⟨S, ds, sub, hx, z, hz, t⟩ := h
  unfold biv at hz
  split at hz <;> first | contradiction | skip
  obtain ⟨bs, h1, rfl⟩ := Option.map_eq_some_iff.mp hz
  obtain ⟨v, rfl, hv⟩ := reps_one hx
  obtain ⟨a, vs, rfl, h3, h4⟩ := hv.lst_inv
  cases boolsv_reps h1 h4
  exact cr_all hc pins s σ H _ us Q I r ⟨a, bs, rfl, .inl (Same.rd sub h3), t.now sub (Rep.bl _)⟩
theorem cr_any_ (hc : X.calm = true) : CallR X (.builtin "any") (rL X.K A (biv .any)) := by
  intro pins s σ H xs us Q I r h
  obtain ⟨S, ds, sub, hx, z, hz, t⟩ := h
  unfold biv at hz
  split at hz <;> first | contradiction | skip
  obtain ⟨bs, h1, rfl⟩ := Option.map_eq_some_iff.mp hz
  obtain ⟨v, rfl, hv⟩ := reps_one hx
  obtain ⟨a, vs, rfl, h3, h4⟩ := hv.lst_inv
  cases boolsv_reps h1 h4
  exact cr_any hc pins s σ H _ us Q I r ⟨a, bs, rfl, .inl (Same.rd sub h3), t.now sub (Rep.bl _)⟩
theorem cr_str : CallR X (.type "str") (rL X.K A (biv .str)) := by
  intro pins s σ H xs us Q I r h
  obtain ⟨S, ds, sub, hx, z, hz, t⟩ := h
  unfold biv at hz
  split at hz <;> first | contradiction | skip
  split at hz <;> first | contradiction | skip
  rename_i hl
  cases hz
  obtain ⟨v, rfl, hv⟩ := reps_one hx
  cases hv.int_inv
  exact call_str_int pins s σ H _ us Q I r ⟨_, rfl, hl, t.now sub (Rep.str _)⟩
theorem cr_list : CallR X (.type "list") (rL X.K A (biv .list)) := by
  intro pins s σ H xs us Q I r h
  obtain ⟨S, ds, sub, hx, z, hz, t⟩ := h
  unfold biv at hz
  split at hz <;> first | contradiction | skip
  · cases hz
    obtain ⟨v, rfl, hv⟩ := reps_one hx
    obtain ⟨a, vs, rfl, h3, h4⟩ := hv.lst_inv
    exact call_list_of pins s σ H _ us Q I r ⟨a, vs, rfl, .inl (.inl (Same.rd sub h3)), t.lst sub h4⟩
  · cases hz
    obtain ⟨v, rfl, hv⟩ := reps_one hx
    obtain ⟨a, vs, rfl, h3, h4⟩ := hv.tup_inv
    exact call_list_of pins s σ H _ us Q I r ⟨a, vs, rfl, .inr (Same.sqt sub h3), t.lst sub h4⟩
theorem cr_tuple : CallR X (.type "tuple") (rL X.K A (biv .tuple)) := by
  intro pins s σ H xs us Q I r h
  obtain ⟨S, ds, sub, hx, z, hz, t⟩ := h
  unfold biv at hz
  split at hz <;> first | contradiction | skip
  · cases hz
    obtain ⟨v, rfl, hv⟩ := reps_one hx
    obtain ⟨a, vs, rfl, h3, h4⟩ := hv.lst_inv
    exact call_tuple_of pins s σ H _ us Q I r ⟨a, vs, rfl, .inl ⟨.inl (Same.rd sub h3), t.tup sub h4⟩⟩
  · cases hz
    obtain ⟨v, rfl, hv⟩ := reps_one hx
    have hv' := hv
    obtain ⟨a, vs, rfl, h3, h4⟩ := hv'.tup_inv
    exact call_tuple_of pins s σ H _ us Q I r ⟨a, vs, rfl, .inr ⟨Same.sqt sub h3, t.now sub hv⟩⟩
def Bi.py : Bi → Str
  | .len => "len"
  | .abs => "abs"
  | .str => "str"
  | .int => "int"
  | .list => "list"
  | .tuple => "tuple"
  | .sorted => "sorted"
  | .sset => "set"
  | .all => "all"
  | .any => "any"
  | .sum => "sum"
  | .min => "min"
  | .max => "max"
  | .dict => "dict"
def Bi.val : Bi → Value
  | .len => .builtin "len"
  | .abs => .builtin "abs"
  | .str => .type "str"
  | .int => .type "int"
  | .list => .type "list"
  | .tuple => .type "tuple"
  | .sorted => .builtin "sorted"
  | .sset => .type "set"
  | .all => .builtin "all"
  | .any => .builtin "any"
  | .sum => .builtin "sum"
  | .min => .builtin "min"
  | .max => .builtin "max"
  | .dict => .type "dict"
theorem Bi.boot (b : Bi) : bootBuiltins b.py = some b.val := by cases b <;> decide +kernel
theorem Bi.named (b : Bi) : b.py ∈ bnames := by cases b <;> decide +kernel
/-! ### sorted -/
theorem insB_srtd {α : Type} {lt : α → α → Bool} (O : SrtO.Swo lt) (x : α) : ∀ {l : List α}, SrtO.Srtd lt l → SrtO.Srtd lt (insB lt x l) ∧ ∀ z, z ∈ insB lt x l → z = x ∨ z ∈ l
  | [], _ => ⟨SrtO.srtd_one x, fun z hz => .inl (List.mem_singleton.mp hz)⟩
  | y :: l, h => by
    obtain ⟨i1, i2⟩ := insB_srtd O x (l := l) (List.pairwise_cons.mp h).2
    unfold insB
    split
    · rename_i e
      refine ⟨List.pairwise_cons.mpr ⟨fun z hz => ?_, i1⟩, fun z hz => ?_⟩
      · rcases i2 z hz with rfl | hz
        · exact O.asym y z e
        · exact SrtO.srtd_head h z hz
      · rcases List.mem_cons.mp hz with rfl | hz
        · exact .inr List.mem_cons_self
        · exact (i2 z hz).imp id fun m => List.mem_cons_of_mem _ m
    · rename_i e
      have e : lt y x = false := by simpa using e
      refine ⟨List.pairwise_cons.mpr ⟨fun z hz => ?_, h⟩, fun z hz => List.mem_cons.mp hz⟩
      rcases List.mem_cons.mp hz with rfl | hz
      · exact e
      · exact O.tr x y z e (SrtO.srtd_head h z hz)
theorem insB_stb {α : Type} {lt : α → α → Bool} (O : SrtO.Swo lt) (x : α) : ∀ (l : List α), SrtO.Stb lt (insB lt x l) (x :: l)
  | [] => SrtO.Stb.refl _
  | y :: l => by
    unfold insB
    split
    · rename_i e
      have a : SrtO.Stb lt (y :: insB lt x l) (y :: x :: l) := (SrtO.Stb.refl [y]).app (insB_stb O x l)
      refine a.trans ?_
      have b : SrtO.Stb lt ([y] ++ [x]) ([x] ++ [y]) := SrtO.Stb.swap O fun p hp q hq => by
        rw [List.mem_singleton.mp hp, List.mem_singleton.mp hq]
        exact e
      exact b.app (SrtO.Stb.refl l)
    · exact SrtO.Stb.refl _
theorem sortB_ok {α : Type} {lt : α → α → Bool} (O : SrtO.Swo lt) : ∀ (l : List α), SrtO.Srtd lt (sortB lt l) ∧ SrtO.Stb lt (sortB lt l) l
  | [] => ⟨List.Pairwise.nil, SrtO.Stb.refl _⟩
  | x :: l => by
    obtain ⟨h1, h2⟩ := sortB_ok O l
    exact ⟨(insB_srtd O x h1).1, (insB_stb O x (sortB lt l)).trans ((SrtO.Stb.refl [x]).app h2)⟩
/-- two lists go together -/
inductive Par {α β : Type} (R : α → β → Prop) : List α → List β → Prop
  | nil : Par R [] []
  | cons {x : α} {y : β} {xs : List α} {ys : List β} (h : R x y) (t : Par R xs ys) : Par R (x :: xs) (y :: ys)
theorem Par.ins {α β : Type} {R : α → β → Prop} {l1 : α → α → Bool} {l2 : β → β → Bool} (e : ∀ x y x' y', R x y → R x' y' → l1 x x' = l2 y y') {x : α} {y : β} (h : R x y) : ∀ {xs : List α} {ys : List β}, Par R xs ys → Par R (insB l1 x xs) (insB l2 y ys)
  | _, _, .nil => .cons h .nil
  | _, _, .cons (x := x') (y := y') h' t => by
    unfold insB
    rw [e _ _ _ _ h' h]
    split
    · exact .cons h' (Par.ins e h t)
    · exact .cons h (.cons h' t)
theorem Par.sort {α β : Type} {R : α → β → Prop} {l1 : α → α → Bool} {l2 : β → β → Bool} (e : ∀ x y x' y', R x y → R x' y' → l1 x x' = l2 y y') : ∀ {xs : List α} {ys : List β}, Par R xs ys → Par R (sortB l1 xs) (sortB l2 ys)
  | _, _, .nil => .nil
  | _, _, .cons h t => Par.ins e h (Par.sort e t)
theorem pair_uniq {h : Heap} {u : Value} {i j i' j' : Int} (p : Srt.IsPair h u i j) (q : Srt.IsPair h u i' j') : i = i' ∧ j = j' := by
  obtain ⟨a, o, t1, t2, n, rfl, ho, hc, hd⟩ := p
  obtain ⟨a', o', t1', t2', n', e, ho', hc', hd'⟩ := q
  cases e
  rw [ho] at ho'
  cases ho'
  rw [hd] at hd'
  injection hd' with d1 _
  have d2 : [Value.int i t1, Value.int j t2] = [Value.int i' t1', Value.int j' t2'] := congrArg Array.toList d1
  injection d2 with d3 d4
  injection d4 with d5 _
  injection d3 with d3 _
  injection d5 with d5 _
  exact ⟨d3, d5⟩
open Classical in
/-- the two ints that a value stands for -/
noncomputable def kV (h : Heap) (u : Value) : Int × Int := if z : ∃ p : Int × Int, Srt.IsPair h u p.1 p.2 then z.choose else (0, 0)
theorem kV_eq {h : Heap} {u : Value} {i j : Int} (p : Srt.IsPair h u i j) : kV h u = (i, j) := by
  have z : ∃ p : Int × Int, Srt.IsPair h u p.1 p.2 := ⟨(i, j), p⟩
  unfold kV
  rw [dif_pos z]
  obtain ⟨e1, e2⟩ := pair_uniq z.choose_spec p
  exact Prod.ext e1 e2
/-- a thing and what holds it -/
structure PairR (K : PySem.W.Frag) (A : Cls) (S : Hp) (h : Heap) (d : D) (u : Value) : Prop where
  rep : Rep K A S d (backV u)
  ref : ∃ a, u = Value.ref a
  pr : Srt.IsPair h u (kD d).1 (kD d).2
theorem Par.reps {K : PySem.W.Frag} {S : Hp} {h : Heap} : ∀ {ds : List D} {us : List Value}, Par (PairR K A S h) ds us → Reps K A S ds (us.map backV) ∧ ∀ u ∈ us, ∃ a, u = Value.ref a
  | _, _, .nil => ⟨by unfold Reps; rfl, fun u hu => absurd hu (by simp)⟩
  | _, _, .cons p t => by
    obtain ⟨h1, h2⟩ := Par.reps t
    refine ⟨?_, fun u hu => ?_⟩
    · unfold Reps
      exact ⟨_, _, rfl, p.rep, h1⟩
    · rcases List.mem_cons.mp hu with rfl | hu
      · exact p.ref
      · exact h2 u hu
theorem par_of {pins : List (Addr × Obj)} {σ : L2.St} {H S : Hp} {s : Shared} (I : Inv X pins σ H s) (sub : Same S H) : ∀ {ds : List D} {vs : List V} {us : List Value}, Reps X.K A S ds vs → Vals vs us → ((ds.all fun x => (p2? x).isSome) = true) → Par (PairR X.K A S s.heap) ds us
  | [], vs, us, r, v, _ => by
    unfold Reps at r
    subst r
    cases v
    exact .nil
  | d :: ds, vs, us, r, v, h => by
    unfold Reps at r
    obtain ⟨w, vs', rfl, r1, r2⟩ := r
    cases v with
    | @cons _ u _ us v1 v2 =>
      rw [List.all_cons, Bool.and_eq_true] at h
      refine .cons ?_ (par_of I sub r2 v2 h.2)
      have hp := h.1
      unfold p2? at hp
      split at hp <;> first | cases hp | skip
      rename_i i j
      obtain ⟨a, xs, rfl, g1, g2⟩ := r1.tup_inv
      obtain rfl : u = Value.ref a := v1
      obtain ⟨its, e1, ⟨o, e2, e3, n, e4⟩, _⟩ := I.tuple (Same.sqt sub g1)
      unfold Reps at g2
      obtain ⟨x1, xs1, rfl, q1, g2⟩ := g2
      unfold Reps at g2
      obtain ⟨x2, xs2, rfl, q2, g2⟩ := g2
      unfold Reps at g2
      subst g2
      cases q1.int_inv
      cases q2.int_inv
      obtain ⟨u1, u2, rfl, ⟨t1, rfl⟩, ⟨t2, rfl⟩⟩ := vals2 e1
      exact ⟨r1, ⟨a, rfl⟩, ⟨a, o, t1, t2, n, rfl, e2, e3, e4⟩⟩
/-! ### sorted, min of any alike data -/
/-- a thing and a value that stands for it -/
def StV (K : PySem.W.Frag) (A : Cls) (S : Hp) (u : Value) (d : D) : Prop := ∃ v, RelV v u ∧ Rep K A S d v
theorem each_of {K : PySem.W.Frag} {S : Hp} : ∀ {ds : List D} {vs : List V} {us : List Value}, Reps K A S ds vs → Vals vs us → PySem.W.EachIs (StV K A S) us ds
  | [], vs, us, r, v => by
    unfold Reps at r
    subst r
    cases v
    exact .nil
  | d :: ds, vs, us, r, v => by
    unfold Reps at r
    obtain ⟨w, vs', rfl, r1, r2⟩ := r
    cases v with
    | cons v1 v2 => exact .cons ⟨_, v1, r1⟩ (each_of r2 v2)
theorem each_back {K : PySem.W.Frag} {S : Hp} : ∀ {ds : List D} {us : List Value}, PySem.W.EachIs (StV K A S) us ds → ∃ vs, Reps K A S ds vs ∧ Vals vs us
  | _, _, .nil => ⟨[], by unfold Reps; rfl, .nil⟩
  | _, _, .cons ⟨v, h1, h2⟩ t => by
    obtain ⟨vs, g1, g2⟩ := each_back t
    refine ⟨v :: vs, ?_, .cons h1 g2⟩
    unfold Reps
    exact ⟨_, _, rfl, h2, g1⟩
theorem deps_mem {x : D} : ∀ {xs : List D}, x ∈ xs → D.dep x ≤ D.deps xs
  | y :: ys, h => by
    unfold D.deps
    rcases List.mem_cons.mp h with rfl | h
    · omega
    · have := deps_mem h
      omega
theorem alikeD_of {xs : List D} (h : alikeD xs = true) : (∀ x ∈ xs, ∀ y ∈ xs, PySem.W.alike x.py y.py = true) ∧ D.deps xs ≤ 50 := by
  unfold alikeD at h
  simp only [Bool.and_eq_true, List.all_eq_true, decide_eq_true_eq] at h
  exact h
theorem each_reads {pins : List (Addr × Obj)} {σ : L2.St} {H S : Hp} {s : Shared} (I : Inv X pins σ H s) (sub : Same S H) : ∀ {ds : List D} {us : List Value}, D.deps ds ≤ 50 → PySem.W.EachIs (StV X.K A S) us ds → PySem.W.EachIs (fun v b => ∃ as, Reads s.heap v (D.py b) as) us ds
  | _, _, _, .nil => .nil
  | d :: ds, u :: us, h, .cons ⟨v, h1, h2⟩ t => by
    unfold D.deps at h
    exact .cons (Dp.reads I _ _ _ (Rep.dp d v (by omega) (Rep.mono sub _ _ h2)) h1) (each_reads I sub (by omega) t)
theorem cr_sortedD (hu : X.A.units + 65 < cLine) {pins : List (Addr × Obj)} {σ : L2.St} {H S : Hp} {s : Shared} {Q : VK} {ds : List D} {vs : List V} {a : Addr} (I : Inv X pins σ H s) (sub : Same S H) (h3 : Rd S a (.lst vs)) (h4 : Reps X.K A S ds vs) (ok : okSort ds = true)
    (t : Tells X.K A (.lst (ds.mergeSort (PySem.W.dataLe false D.py)), true) S H Q) : wpAny (model X.prog X.w) X.A (call (.builtin "sorted") [.ref a]) (EP X pins σ Q) X.xe s := by
  obtain ⟨its, rv, hl, hz⟩ := I.list (.inl (Same.rd sub h3))
  have e := each_of h4 rv
  unfold okSort at ok
  rw [Bool.and_eq_true] at ok
  obtain ⟨h1, h2⟩ := alikeD_of ok.1
  have hal : PySem.W.AllAlike (ds.map D.py) := fun d hd d' hd' => by
    obtain ⟨x, hx, rfl⟩ := List.mem_map.mp hd
    obtain ⟨y, hy, rfl⟩ := List.mem_map.mp hd'
    exact h1 x hx y hy
  have hk : PySem.W.Sortable (ds.map D.py) := by
    have k := ok.2
    rw [Bool.or_eq_true, List.all_eq_true, List.all_eq_true] at k
    rcases k with k | k
    · refine .inl fun d hd => ?_
      obtain ⟨x, hx, rfl⟩ := List.mem_map.mp hd
      have := k x hx
      unfold tupNE at this
      split at this
      · exact ⟨_, _, rfl⟩
      · cases this
    · refine .inr fun d hd => ?_
      obtain ⟨x, hx, rfl⟩ := List.mem_map.mp hd
      have q := k x hx
      have q2 := deps_mem hx
      cases x with
      | non => cases q
      | tup _ => cases q
      | bl b => exact ⟨fun z => (by cases z), fun _ z => (by cases z)⟩
      | int b => exact ⟨fun z => (by cases z), fun _ z => (by cases z)⟩
      | str b => exact ⟨fun z => (by cases z), fun _ z => (by cases z)⟩
      | lst b => exact ⟨fun z => (by cases z), fun _ z => (by cases z)⟩
      | dic _ => unfold D.dep at q2; omega
      | exc _ => unfold D.dep at q2; omega
      | ins _ _ => unfold D.dep at q2; omega
  have hlen : ds.length ≤ sizeLine := by rw [← e.length, ← rv.length]; exact hz
  refine PySem.W.sorted_data (bs := ds) (enc := D.py) (R := StV X.K A S) hl.isList e (each_reads I sub h2 e) hal hk hlen (fun b hb => ?_) fun out ho hr => ?_
  · have q := deps_mem hb
    have := (dep_shape b 60 (by omega) (by omega)).2
    have := (dep_shape b 50 (by omega) (by omega)).2
    omega
  · obtain ⟨vs', g1, g2⟩ := each_back hr
    obtain ⟨ep, he'⟩ := PyProof.Rows.sortedAll_at s.heap its out.toArray
    have hlen' : vs'.length ≤ sizeLine := by rw [g2.length, ho]; exact hlen
    exact ⟨.ref _, upd H (s.heap.objs.size + 1) (.lst vs'), I.laid (t' := s.toks) (fun _ _ => PyProof.Rows.sortedAll_old) (Nat.le_succ _) ⟨hlen', out, ep, g2, he'⟩, rfl, t.lst sub g1 _ (I.hok.fresh (Nat.le_succ _))⟩
mutual
theorem py_inj : ∀ (d e : D), d.dep < 100 → e.dep < 100 → d.py = e.py → d = e
  | .non, e, _, q, h => by cases e <;> first | rfl | (exfalso; unfold D.dep at q; omega) | (unfold D.py at h; cases h)
  | .bl _, e, _, q, h => by cases e <;> first | (unfold D.py at h; cases h; rfl) | (unfold D.py at h; cases h)
  | .int _, e, _, q, h => by cases e <;> first | (unfold D.py at h; cases h; rfl) | (unfold D.py at h; cases h)
  | .str _, e, _, q, h => by cases e <;> first | (unfold D.py at h; cases h; rfl) | (unfold D.py at h; cases h)
  | .tup xs, e, p, q, h => by
    cases e with
    | tup ys =>
      unfold D.py at h
      unfold D.dep at p q
      injection h with h
      rw [pys_inj xs ys (by omega) (by omega) h]
    | _ => unfold D.py at h; cases h
  | .lst xs, e, p, q, h => by
    cases e with
    | lst ys =>
      unfold D.py at h
      unfold D.dep at p q
      injection h with h
      rw [pys_inj xs ys (by omega) (by omega) h]
    | _ => unfold D.py at h; cases h
  | .dic _, _, p, _, _ => by unfold D.dep at p; omega
  | .exc _, _, p, _, _ => by unfold D.dep at p; omega
  | .ins _ _, _, p, _, _ => by unfold D.dep at p; omega
theorem pys_inj : ∀ (ds es : List D), D.deps ds < 100 → D.deps es < 100 → D.pys ds = D.pys es → ds = es
  | [], [], _, _, _ => rfl
  | [], e :: es, _, _, h => by unfold D.pys at h; cases h
  | d :: ds, [], _, _, h => by unfold D.pys at h; cases h
  | d :: ds, e :: es, p, q, h => by
    unfold D.pys at h
    unfold D.deps at p q
    injection h with h1 h2
    rw [py_inj d e (by omega) (by omega) h1, pys_inj ds es (by omega) (by omega) h2]
end
theorem pys_map : ∀ (ds : List D), D.pys ds = ds.map D.py
  | [] => by unfold D.pys; rfl
  | d :: ds => by
    unfold D.pys
    rw [pys_map ds]
    rfl
theorem min_py : ∀ (xs : List D) (x : D), PySem.W.minD x.py (xs.map D.py) = (minD' x xs).py
  | [], x => rfl
  | y :: xs, x => by
    have ih := min_py xs
    unfold PySem.W.minD minD' at *
    rw [List.map_cons, List.foldl_cons, List.foldl_cons]
    rw [← ih]
    split <;> rfl
theorem min_in : ∀ (xs : List D) (x : D), minD' x xs ∈ x :: xs
  | [], x => List.mem_singleton.mpr rfl
  | y :: xs, x => by
    have ih := min_in xs
    unfold minD' at *
    rw [List.foldl_cons]
    rcases List.mem_cons.mp (ih (if PySem.W.dataLt y.py x.py then y else x)) with h | h
    · rw [h]
      split
      · exact List.mem_cons_of_mem _ List.mem_cons_self
      · exact List.mem_cons_self
    · exact List.mem_cons_of_mem _ (List.mem_cons_of_mem _ h)
theorem each_readsAll : ∀ {h : Heap} {us : List Value} {ds : List D}, PySem.W.EachIs (fun v b => ∃ as, Reads h v (D.py b) as) us ds → ∃ as, ReadsAll h us (ds.map D.py) as
  | _, _, _, .nil => ⟨[], .nil⟩
  | _, _, _, .cons ⟨as, h1⟩ t => by
    obtain ⟨bs, h2⟩ := each_readsAll t
    exact ⟨as ++ bs, .cons h1 h2⟩
theorem each_at {R : Value → D → Prop} : ∀ {us : List Value} {ds : List D}, PySem.W.EachIs R us ds → ∀ (i : Nat) (u : Value), us[i]? = some u → ∃ d, ds[i]? = some d ∧ R u d
  | _, _, .nil, i, u, h => by cases h
  | _, _, .cons h1 t, 0, u, h => by
    cases h
    exact ⟨_, rfl, h1⟩
  | _, _, .cons h1 t, i + 1, u, h => each_at t i u h
theorem cr_minD (hc : X.calm = true) (hu : X.A.units + 65 < cLine) : CallR X (.builtin "min") (rL X.K A (biv .min)) := by
  intro pins s σ H xs us Q I r h
  obtain ⟨S, ds, sub, hx, z, hz, t⟩ := h
  unfold biv at hz
  split at hz <;> first | contradiction | skip
  split at hz <;> first | contradiction | skip
  rename_i x0 xs0 _ hok
  cases hz
  obtain ⟨v, rfl, hv⟩ := reps_one hx
  obtain ⟨a, vs, rfl, h3, h4⟩ := hv.lst_inv
  obtain ⟨its, rv, hl, hz⟩ := I.list (.inl (Same.rd sub h3))
  rw [Vals.ref1 r]
  rw [Bool.and_eq_true] at hok
  obtain ⟨h1, h2⟩ := alikeD_of hok.1
  have e := each_of h4 rv
  have er := each_reads I sub h2 e
  obtain ⟨as, hr⟩ := each_readsAll er
  have hnn := hok.2
  rw [List.all_eq_true] at hnn
  have hal : PySem.W.AlikeAll ((x0 :: xs0).map D.py) := by
    refine ⟨fun d hd d' hd' => ?_, fun d hd => ?_⟩
    · obtain ⟨x, hx, rfl⟩ := List.mem_map.mp hd
      obtain ⟨y, hy, rfl⟩ := List.mem_map.mp hd'
      exact h1 x hx y hy
    · obtain ⟨x, hx, rfl⟩ := List.mem_map.mp hd
      have q := hnn x hx
      have q2 := deps_mem hx
      cases x with
      | non => cases q
      | dic _ => unfold D.dep at q2; omega
      | exc _ => unfold D.dep at q2; omega
      | ins _ _ => unfold D.dep at q2; omega
      | _ => intro z; unfold D.py at z; cases z
  have hdep : PyData.depthAll ((x0 :: xs0).map D.py) ≤ 50 := by
    have := (deps_shape (x0 :: xs0) 50 (by omega) h2).2
    rwa [pys_map] at this
  refine PySem.W.min_list_data (x := x0.py) (xs := xs0.map D.py) (as := as) (I.ok.hd hc) hl.isList (by simpa using hr) hal (by have : PyData.depthAll (x0.py :: xs0.map D.py) ≤ 50 := hdep; omega) fun i v h' tk bs hi hv' hk => ?_
  obtain ⟨d, hd, w, hw1, hw2⟩ := each_at e i v (by simpa using hi)
  obtain ⟨d2, hd2, as2, hr2⟩ := each_at er i v (by simpa using hi)
  rw [hd] at hd2
  cases hd2
  have hdm : d ∈ x0 :: xs0 := List.mem_of_getElem? hd
  have hmm := min_in xs0 x0
  rw [min_py] at hv'
  have eq : d.py = (minD' x0 xs0).py := PySem.W.alike_unique _ _ _ _ _ (h1 _ hdm _ hmm) (PyProof.Rows.Reads.keeps hk hr2) hv'
  have b1 := deps_mem hdm
  have b2 := deps_mem hmm
  have ed := py_inj d _ (by omega) (by omega) eq
  subst ed
  exact ⟨w, H, I.kept hk, hw1, t.now sub hw2⟩
theorem cr_sorted_ (hu : X.A.units + 65 < cLine) : CallR X (.builtin "sorted") (rL X.K A (biv .sorted)) := by
  intro pins s σ H xs us Q I r h
  obtain ⟨S, ds, sub, hx, z, hz, t⟩ := h
  unfold biv at hz
  split at hz <;> first | contradiction | skip
  split at hz
  rotate_left
  · split at hz <;> first | contradiction | skip
    rename_i hok
    cases hz
    obtain ⟨v, rfl, hv⟩ := reps_one hx
    obtain ⟨a, vs, rfl, h3, h4⟩ := hv.lst_inv
    rw [Vals.ref1 r]
    exact cr_sortedD hu I sub h3 h4 hok t
  rename_i hall
  cases hz
  obtain ⟨v, rfl, hv⟩ := reps_one hx
  obtain ⟨a, vs, rfl, h3, h4⟩ := hv.lst_inv
  obtain ⟨its, rv, hl, hz⟩ := I.list (.inl (Same.rd sub h3))
  obtain ⟨u, rfl, ru⟩ := vals1 r
  obtain rfl : u = Value.ref a := ru
  have pa := par_of (A := A) I sub h4 rv hall
  obtain ⟨_, e2⟩ := pa.reps
  refine SrtO.sorted_pairsO (k := kV s.heap) hl.isList (by rw [← rv.length]; exact hz) (fun v hv => ?_) fun h' d out h1 h2 kp hd hn => ?_
  · have key : ∀ {ds : List D} {us : List Value}, Par (PairR X.K A S s.heap) ds us → ∀ v ∈ us, ∃ i j, Srt.IsPair s.heap v i j := by
      intro ds us p
      induction p with
      | nil => intro v hv; exact absurd hv (by simp)
      | cons q _ ih =>
        intro v hv
        rcases List.mem_cons.mp hv with rfl | hv
        · exact ⟨_, _, q.pr⟩
        · exact ih v hv
    obtain ⟨i, j, p⟩ := key pa v hv
    rw [kV_eq p]
    exact p
  · have O := SrtO.swo_lex (kV s.heap)
    obtain ⟨k1, k2⟩ := sortB_ok O its
    have e : out = sortB (fun v u => SrtO.lexB (kV s.heap v) (kV s.heap u)) its := SrtO.stb_uniq O h1 k1 (h2.trans ⟨k2.perm.symm, fun x => (k2.cls x).symm⟩)
    have pb := Par.sort (l1 := ltD) (l2 := fun v u => SrtO.lexB (kV s.heap v) (kV s.heap u)) (fun x y x' y' g g' => by
        show SrtO.lexB (kD x) (kD x') = SrtO.lexB (kV s.heap y) (kV s.heap y')
        rw [kV_eq g.pr, kV_eq g'.pr]) pa
    rw [← e] at pb
    obtain ⟨r3, h3'⟩ := pb.reps
    obtain ⟨n, hn⟩ := hn
    exact ⟨.ref d, upd H d (.lst (out.map backV)), I.laid (t' := s.toks) kp hd ⟨by rw [List.length_map, h2.len, ← rv.length]; exact hz, out, n, vals_back h3', hn⟩, rfl, t.lst sub r3 d (I.hok.fresh hd)⟩
theorem cr_bi (hc : X.calm = true) (hu : X.A.units + 65 < cLine) (b : Bi) : CallR X b.val (rL X.K A (biv b)) := by
  have no : (∀ ds, biv b ds = none) → CallR X b.val (rL X.K A (biv b)) := fun hb pins s σ H xs us Q I r h => by
    obtain ⟨S, ds, sub, hx, z, hz, t⟩ := h
    rw [hb] at hz
    cases hz
  cases b
  · exact cr_len
  · exact cr_abs
  · exact cr_str
  · exact no fun ds => by unfold biv; rfl
  · exact cr_list
  · exact cr_tuple
  · exact cr_sorted_ hu
  · exact no fun ds => by unfold biv; rfl
  · exact cr_all_ hc
  · exact cr_any_ hc
  · exact no fun ds => by unfold biv; rfl
  · exact cr_minD hc hu
  · exact no fun ds => by unfold biv; rfl
  · exact no fun ds => by unfold biv; rfl
end

/-! ### the context -/
/-- what a def of the text promises: its interpreter's answer -/
def spF (K : PySem.W.Frag) (A : Cls) (call : Nat → D → List D → Res) (f : Nat) (F : Fn) : Sp := fun vs H Q E => vs.length = F.pars.length ∧ F.meth = false ∧ ∃ S ds, Same S H ∧ Reps K A S ds vs ∧ match call f .non ds with
  | .ok d o .non => Tells K A (d, o) S H Q
  | .exn c .non => ∀ H', Same H H' → E (.ref (A.exc c)) none H'
  | _ => False
structure Ctx (G : Prog) (A : Cls) (fa : Nat → Addr) (fd : Nat → FuncData) (call : Nat → D → List D → Res) (n : Nat) (X : Cx) (W : WX) : Prop where
  facts : Facts G A fa fd X.w X.K X.mg
  fnok : ∀ (f : Nat) (F : Fn), G.fns[f]? = some F → FnOk X.prog X.w X.K X.mg X.base (L2.CX X.prog X.w) n (fa f) (fd f) F.pars (spF X.K A call f F)
  room : Room n X.A
  calm : X.calm = true
  nd : X.N.Nodup
  tk : Takes X W
  po : PassesOwn (model X.prog X.w) X.A X.env X.xe

/-- a truth that an expression tells -/
def Out.tob (o : Out (D × Bool)) : Out Bool := o.bind fun x ρ => match x.1 with
  | .bl b => .ok b ρ
  | _ => .bad

section
variable {X : Cx} {A : Cls} {W : WX} {e a b c : Expr} {pos : Pos}
/-- an expression of a plain form as a test -/
theorem pt_of {c : Env → Out (D × Bool)} (h : PE X e (tO X.K A W c)) (he : ∀ whole, isTrue e X.env whole = (do let v ← whole; standAt e.pos; holding [v] (truthy v))) : PT X e (tT X.K A W fun ρ => (c ρ).tob) := by
  refine (pt_val h he).imp fun σ H Q hw => ?_
  obtain ⟨E, S, ρ, fs, st, p⟩ := hw
  refine ⟨E, S, ρ, fs, st, ?_⟩
  refine (Post.bind p).mono fun x ρ' S' H' fs' e1 st' q v fp r ap => ?_
  obtain ⟨d, o⟩ := x
  cases d with
  | bl b =>
    have q' : Q b H' := q S' H' fs' (Same.refl S') st'
    unfold RV at r
    cases o with
    | false =>
      rw [if_neg (by simp)] at r
      cases r.2.bl_inv
      exact ⟨b, rfl, q'⟩
    | true =>
      rw [if_pos rfl] at r
      exact r.elim
  | _ => exact (show False from q).elim
/-- a plain value -/
theorem snd_plain {d : D} {v : V} (h : PE X e (tC v)) (r : ∀ S, Rep X.K A S d v) : PE X e (tO X.K A W fun ρ => .ok (d, false) ρ) := by
  refine h.imp fun σ H Q hw => ?_
  obtain ⟨E, S, ρ, fs, st, p⟩ := hw
  exact p.here st v [] (by unfold RV; rw [if_neg (by simp)]; exact ⟨rfl, r S⟩) (fun a ha => by simp at ha)
theorem getS_set {ρ : Env} {i j : Nat} {s : Sl} : getS (ρ.set i s) j = if i = j then (if i < ρ.length then s else .no) else getS ρ j := by
  unfold getS
  rw [List.getElem?_set]
  by_cases h : i = j
  · subst h
    by_cases h2 : i < ρ.length
    · simp [h2]
    · simp [h2]
  · simp [h]
theorem getS_lt {ρ : Env} {i : Nat} {s : Sl} (h : getS ρ i = s) (hs : s ≠ .no) : i < ρ.length := by
  unfold getS at h
  cases e : ρ[i]? with
  | none => rw [e] at h; exact absurd h.symm hs
  | some x => exact (List.getElem?_eq_some_iff.mp e).1
/-- a slot's own value is taken out -/
theorem Sta.take {K : PySem.W.Frag} {E : Ent} {S H : Hp} {ρ : Env} {σ : L2.St} {fs : Nat → List Addr} {i : Nat} {d : D} (st : Sta K A E S H ρ σ fs) (h : getS ρ i = .ow d) :
    ∃ v, σ[i]? = some (some v) ∧ Own K A S H d v (fs i) ∧ Sta K A E S H (ρ.set i .no) σ (fun j => if j = i then [] else fs j) ∧ Apart E (fun j => if j = i then [] else fs j) (fs i) := by
  have q := st.slot i
  rw [h] at q
  obtain ⟨v, h1, h2⟩ := q
  refine ⟨v, h1, h2, ⟨by rw [List.length_set]; exact st.len, st.sub, fun j => ?_, fun j k hjk a ha => ?_, st.ghost, st.s0, fun j a ha => ?_, st.snew, st.z⟩, fun a ha => ⟨st.new i a ha, fun j hj => ?_⟩⟩
  · rw [getS_set]
    by_cases e : j = i
    · subst e
      rw [if_pos rfl, if_pos rfl, if_pos (getS_lt h (by intro z; cases z))]
      rfl
    · rw [if_neg (fun z => e z.symm), if_neg e]
      exact st.slot j
  · by_cases e : j = i
    · rw [if_pos e] at ha; simp at ha
    · rw [if_neg e] at ha
      by_cases e2 : k = i
      · rw [if_pos e2]; simp
      · rw [if_neg e2]
        exact st.dis j k hjk a ha
  · by_cases e : j = i
    · rw [if_pos e] at ha; simp at ha
    · rw [if_neg e] at ha
      exact st.new j a ha
  · replace hj : a ∈ (if j = i then [] else fs j) := hj
    by_cases e : j = i
    · rw [if_pos e] at hj; simp at hj
    · rw [if_neg e] at hj
      exact st.dis i j (fun z => e z.symm) a ha hj
theorem setZ {σ : L2.St} {i : Nat} {x : Option V} {w : V} {Z : Prop} (hz : i ≠ 0 ∨ Z) (h : σ[0]? = some (some w)) (q : Z → False) : (σ.set i x)[0]? = some (some w) := by
  rcases hz with hz | hz
  · rw [List.getElem?_set_ne hz]
    exact h
  · exact (q hz).elim
/-- a slot gets a value that others may know; nothing is its own by then -/
theorem Sta.put {K : PySem.W.Frag} {E : Ent} {S H : Hp} {ρ : Env} {σ : L2.St} {fs : Nat → List Addr} {i : Nat} {d : D} {v : V} (st : Sta K A E S H ρ σ fs) (hi : i < σ.length) (r : Rep K A S d v) (hz : i ≠ 0 ∨ E.z = none) :
    Sta K A E S H (ρ.set i (.fz d)) (σ.set i (some v)) (fun j => if j = i then [] else fs j) := by
  refine ⟨by rw [List.length_set, List.length_set]; exact st.len, st.sub, fun j => ?_, fun j k hjk a ha => ?_, st.ghost, st.s0, fun j a ha => ?_, st.snew, fun w hw => setZ hz (st.z w hw) (fun q => by rw [q] at hw; cases hw)⟩
  · rw [getS_set]
    by_cases e : j = i
    · subst e
      rw [if_pos rfl, if_pos rfl, if_pos (by rw [← st.len]; exact hi), List.getElem?_set_self hi]
      exact ⟨rfl, v, rfl, r⟩
    · rw [if_neg (fun z => e z.symm), if_neg e, List.getElem?_set_ne (fun z => e z.symm)]
      exact st.slot j
  · by_cases e : j = i
    · rw [if_pos e] at ha; simp at ha
    · rw [if_neg e] at ha
      by_cases e2 : k = i
      · rw [if_pos e2]; simp
      · rw [if_neg e2]
        exact st.dis j k hjk a ha
  · by_cases e : j = i
    · rw [if_pos e] at ha; simp at ha
    · rw [if_neg e] at ha
      exact st.new j a ha
/-- a slot gets a value of its own -/
theorem Sta.putO {K : PySem.W.Frag} {E : Ent} {S H : Hp} {ρ : Env} {σ : L2.St} {fs : Nat → List Addr} {i : Nat} {d : D} {v : V} {fp : List Addr} (st : Sta K A E S H ρ σ fs) (hi : i < σ.length) (r : Own K A S H d v fp) (ap : Apart E fs fp) (hz : i ≠ 0 ∨ E.z = none) :
    Sta K A E S H (ρ.set i (.ow d)) (σ.set i (some v)) (fun j => if j = i then fp else fs j) := by
  refine ⟨by rw [List.length_set, List.length_set]; exact st.len, st.sub, fun j => ?_, fun j k hjk a ha => ?_, st.ghost, st.s0, fun j a ha => ?_, st.snew, fun w hw => setZ hz (st.z w hw) (fun q => by rw [q] at hw; cases hw)⟩
  · rw [getS_set]
    by_cases e : j = i
    · subst e
      rw [if_pos rfl, if_pos rfl, if_pos (by rw [← st.len]; exact hi), List.getElem?_set_self hi]
      exact ⟨v, rfl, r⟩
    · rw [if_neg (fun z => e z.symm), if_neg e, List.getElem?_set_ne (fun z => e z.symm)]
      exact st.slot j
  · by_cases e : j = i
    · rw [if_pos e] at ha
      rw [if_neg (fun z => hjk (e.trans z.symm))]
      exact (ap a ha).2 k
    · rw [if_neg e] at ha
      by_cases e2 : k = i
      · rw [if_pos e2]
        exact fun z => (ap a z).2 j ha
      · rw [if_neg e2]
        exact st.dis j k hjk a ha
  · by_cases e : j = i
    · rw [if_pos e] at ha; exact (ap a ha).1
    · rw [if_neg e] at ha
      exact st.new j a ha
theorem set_same {σ : L2.St} {i : Nat} {v : V} (h : σ[i]? = some (some v)) : σ.set i (some v) = σ := by
  apply List.ext_getElem?
  intro j
  rw [List.getElem?_set]
  by_cases e : i = j
  · subst e
    obtain ⟨hl, q⟩ := List.getElem?_eq_some_iff.mp h
    rw [if_pos rfl, if_pos hl, h]
  · rw [if_neg e]
/-- .. the value that it held -/
theorem Sta.putS {K : PySem.W.Frag} {E : Ent} {S H : Hp} {ρ : Env} {σ : L2.St} {fs : Nat → List Addr} {i : Nat} {d : D} {v : V} (st : Sta K A E S H ρ σ fs) (h : σ[i]? = some (some v)) (r : Rep K A S d v) :
    Sta K A E S H (ρ.set i (.fz d)) σ (fun j => if j = i then [] else fs j) := by
  have st0 : Sta K A { E with z := none } S H ρ σ fs := ⟨st.len, st.sub, st.slot, st.dis, st.ghost, st.s0, st.new, st.snew, fun w hw => by cases hw⟩
  have q := st0.put (List.getElem?_eq_some_iff.mp h).1 r (.inr rfl)
  rw [set_same h] at q
  exact ⟨q.len, q.sub, q.slot, q.dis, q.ghost, q.s0, q.new, q.snew, st.z⟩
theorem set_set_env (ρ : Env) (i : Nat) (s t : Sl) : (ρ.set i s).set i t = ρ.set i t := by rw [List.set_set]
theorem snd_var {mt : Bool} {G : Prog} {call : Nat → D → List D → Res} {i : Nat} {m : Bool} (h : PE X e (tVar i)) : PE X e (tO X.K A W (ev (G.rt call mt) m (.var i))) := by
  refine h.imp fun σ H Q hw => ?_
  obtain ⟨E, S, ρ, fs, st, p⟩ := hw
  unfold ev at p
  have q := st.slot i
  cases hs : getS ρ i with
  | no => rw [hs] at p; exact p.elim
  | fz d =>
    rw [hs] at p q
    obtain ⟨_, v, h1, h2⟩ := q
    exact ⟨v, h1, p.here st v [] (by unfold RV; rw [if_neg (by simp)]; exact ⟨rfl, h2⟩) (fun a ha => by simp at ha)⟩
  | ow d =>
    rw [hs] at p
    dsimp only at p
    cases hm : (m || d.isIns) with
    | true => rw [hm, if_pos rfl] at p; exact p.elim
    | false =>
      rw [hm, if_neg (by simp)] at p
      rw [Bool.or_eq_false_iff] at hm
      obtain ⟨v, h1, h2, st2, ap⟩ := st.take hs
      obtain ⟨S', e1, st3, r3⟩ := st2.freezeV (x := (d, true)) (by unfold RV; rw [if_pos rfl]; exact h2) ap (by simp [hm.2])
      have st4 := st3.putS (i := i) (v := v) h1 r3
      rw [set_set_env] at st4
      exact ⟨v, h1, p S' H _ e1 st4 v [] (by unfold RV; rw [if_neg (by simp)]; exact ⟨rfl, r3⟩) (fun a ha => by simp at ha)⟩
theorem snd_mov {mt : Bool} {G : Prog} {call : Nat → D → List D → Res} {i : Nat} {m : Bool} (h : PE X e (tVar i)) : PE X e (tO X.K A W (ev (G.rt call mt) m (.mov i))) := by
  refine h.imp fun σ H Q hw => ?_
  obtain ⟨E, S, ρ, fs, st, p⟩ := hw
  unfold ev at p
  have q := st.slot i
  cases hs : getS ρ i with
  | no => rw [hs] at p; exact p.elim
  | fz d =>
    rw [hs] at p q
    obtain ⟨_, v, h1, h2⟩ := q
    exact ⟨v, h1, p.here st v [] (by unfold RV; rw [if_neg (by simp)]; exact ⟨rfl, h2⟩) (fun a ha => by simp at ha)⟩
  | ow d =>
    rw [hs] at p
    dsimp only at p
    cases hm : m with
    | true => rw [hm, if_pos rfl] at p; exact p.elim
    | false =>
      rw [hm, if_neg (by simp)] at p
      obtain ⟨v, h1, h2, st2, ap⟩ := st.take hs
      exact ⟨v, h1, p.here st2 v (fs i) (by unfold RV; rw [if_pos rfl]; exact h2) ap⟩
/-- two values, then an operation -/
theorem two {ca cb : Env → Out D} {σ : L2.St} {H : Hp} {Q : VK} {c : D → D → Option (D × Bool)} (hw : tO X.K A W (fun ρ => (ca ρ).bind fun x ρ => (cb ρ).bind fun y ρ => Out.of (c x y) ρ) σ H Q) :
    tX X.K A W ca σ H fun x H1 => tX X.K A W cb σ H1 fun y H2 => rO X.K A c x y H2 Q := by
  obtain ⟨E, S, ρ, fs, st, p⟩ := hw
  refine ⟨E, S, ρ, fs, st, (Post.bind p).mono fun dx ρ1 S1 H1 fs1 e1 st1 p1 x rx => ⟨E, S1, ρ1, fs1, st1, (Post.bind p1).mono fun dy ρ2 S2 H2 fs2 e2 st2 p2 y ry => ?_⟩⟩
  refine ⟨S2, dx, dy, st2.sub, Rep.mono e2 _ _ rx, ry, ?_⟩
  cases hz : c dx dy with
  | none => rw [hz] at p2; exact p2.elim
  | some z =>
    rw [hz] at p2
    exact ⟨z, rfl, tells_of st2 fun S' H' v fp e st' r ap => p2 S' H' fs2 e st' v fp r ap⟩
theorem twoX {ca cb : Env → Out D} {σ : L2.St} {H : Hp} {Q : VK} {c : D → D → Option D} (hw : tO X.K A W (fun ρ => (ca ρ).bind fun x ρ => (cb ρ).bind fun y ρ => (Out.of (c x y) ρ).bind fun d ρ => .ok (d, false) ρ) σ H Q) :
    tX X.K A W ca σ H fun x H1 => tX X.K A W cb σ H1 fun y H2 => rX X.K A c x y H2 Q := by
  obtain ⟨E, S, ρ, fs, st, p⟩ := hw
  refine ⟨E, S, ρ, fs, st, (Post.bind p).mono fun dx ρ1 S1 H1 fs1 e1 st1 p1 x rx => ⟨E, S1, ρ1, fs1, st1, (Post.bind p1).mono fun dy ρ2 S2 H2 fs2 e2 st2 p2 y ry => ?_⟩⟩
  refine ⟨S2, dx, dy, st2.sub, Rep.mono e2 _ _ rx, ry, ?_⟩
  cases hz : c dx dy with
  | none => rw [hz] at p2; exact p2.elim
  | some z =>
    rw [hz] at p2
    exact ⟨z, rfl, fun v r => Post.here p2 st2 v [] (by unfold RV; rw [if_neg (by simp)]; exact ⟨rfl, r⟩) (fun a ha => by simp at ha)⟩
theorem twoC {ca cb : Env → Out D} {σ : L2.St} {H : Hp} {Q : VK} {c : D → D → Option Bool} (hw : tO X.K A W (fun ρ => (ca ρ).bind fun x ρ => (cb ρ).bind fun y ρ => (Out.of (c x y) ρ).bind fun d ρ => .ok (.bl d, false) ρ) σ H Q) :
    tX X.K A W ca σ H fun x H1 => tX X.K A W cb σ H1 fun y H2 => rC X.K A c x y H2 Q := by
  obtain ⟨E, S, ρ, fs, st, p⟩ := hw
  refine ⟨E, S, ρ, fs, st, (Post.bind p).mono fun dx ρ1 S1 H1 fs1 e1 st1 p1 x rx => ⟨E, S1, ρ1, fs1, st1, (Post.bind p1).mono fun dy ρ2 S2 H2 fs2 e2 st2 p2 y ry => ?_⟩⟩
  refine ⟨S2, dx, dy, st2.sub, Rep.mono e2 _ _ rx, ry, ?_⟩
  cases hz : c dx dy with
  | none => rw [hz] at p2; exact p2.elim
  | some z =>
    rw [hz] at p2
    exact ⟨z, rfl, Post.here p2 st2 _ [] (by unfold RV; rw [if_neg (by simp)]; exact ⟨rfl, Rep.bl z⟩) (fun a ha => by simp at ha)⟩
theorem snd_bin {ca cb : Env → Out D} (o : BOp) (ha : PE X a (tX X.K A W ca)) (hb : PE X b (tX X.K A W cb)) : PE X (.BinOp a o.py b pos) (tO X.K A W fun ρ => (ca ρ).bind fun x ρ => (cb ρ).bind fun y ρ => Out.of (binv o x y) ρ) :=
  (pe_op (op_bin (A := A) o) ha hb).imp fun _ _ _ hw => two hw
theorem op_cmp (hu : X.A.units + 65 < cLine) (o : COp) : OpR X (compareOp o.py) (rC X.K A (cmpv o)) := by
  cases o
  · exact op_lt_
  · exact op_le_
  · exact op_gt_
  · exact op_ge_
  · exact op_eq_ (by omega)
  · exact op_ne_ (by omega)
  · exact op_is_
  · exact op_isnot_
  · exact op_in_ hu
  · exact op_nin_ hu
theorem snd_cmp {ca cb : Env → Out D} (hu : X.A.units + 65 < cLine) (o : COp) (hm : behindInMarks o.py b = false) (ha : PE X a (tX X.K A W ca)) (hb : PE X b (tX X.K A W cb)) :
    PE X (.Compare a [o.py] [b] pos) (tO X.K A W fun ρ => (ca ρ).bind fun x ρ => (cb ρ).bind fun y ρ => (Out.of (cmpv o x y) ρ).bind fun d ρ => .ok (.bl d, false) ρ) :=
  (pe_cmpR (op_cmp (A := A) hu o) ha hb hm).imp fun _ _ _ hw => twoC hw
theorem tob_cmp {ca cb : Env → Out D} {c : D → D → Option Bool} {ρ : Env} : (((ca ρ).bind fun x ρ => (cb ρ).bind fun y ρ => (Out.of (c x y) ρ).bind fun d ρ => .ok (.bl d, false) ρ) : Out (D × Bool)).tob = (ca ρ).bind fun x ρ => (cb ρ).bind fun y ρ => Out.of (c x y) ρ := by
  unfold Out.tob
  rw [Out.bind_assoc]
  congr 1
  funext x ρ
  rw [Out.bind_assoc]
  congr 1
  funext y ρ
  rw [Out.bind_assoc]
  cases c x y <;> rfl
theorem snd_cmpT {ca cb : Env → Out D} (hu : X.A.units + 65 < cLine) (o : COp) (hm : behindInMarks o.py b = false) (ha : PE X a (tX X.K A W ca)) (hb : PE X b (tX X.K A W cb)) :
    PT X (.Compare a [o.py] [b] pos) (tT X.K A W fun ρ => (ca ρ).bind fun x ρ => (cb ρ).bind fun y ρ => Out.of (cmpv o x y) ρ) := by
  refine (pt_cmpR (op_cmp (A := A) hu o) ha hb hm).imp fun σ H Q hw => ?_
  obtain ⟨E, S, ρ, fs, st, p⟩ := hw
  refine ⟨E, S, ρ, fs, st, (Post.bind p).mono fun dx ρ1 S1 H1 fs1 e1 st1 p1 x rx => ⟨E, S1, ρ1, fs1, st1, (Post.bind p1).mono fun dy ρ2 S2 H2 fs2 e2 st2 p2 y ry => ?_⟩⟩
  refine ⟨S2, dx, dy, st2.sub, Rep.mono e2 _ _ rx, ry, ?_⟩
  cases hz : cmpv o dx dy with
  | none => rw [hz] at p2; exact p2.elim
  | some z =>
    rw [hz] at p2
    exact ⟨z, rfl, z, rfl, Post.here p2 st2⟩
theorem snd_nt {ca : Env → Out (D × Bool)} (ha : PT X a (tT X.K A W fun ρ => (ca ρ).tob)) : PT X (.UnaryOp .Not a pos) (tT X.K A W fun ρ => ((ca ρ).tob).bind fun b ρ => .ok (!b) ρ) := by
  refine (pt_not ha).imp fun σ H Q hw => ?_
  obtain ⟨E, S, ρ, fs, st, p⟩ := hw
  exact ⟨E, S, ρ, fs, st, (Post.bind p).mono fun b ρ1 S1 H1 fs1 e1 st1 p1 => Post.here p1 st1⟩
/-- from a test back to a value: not x -/
theorem snd_ntE {ca : Env → Out (D × Bool)} (ha : PE X a (tO X.K A W ca)) : PE X (.UnaryOp .Not a pos) (tO X.K A W fun ρ => (ca ρ).bind fun x ρ => match x.1 with
    | .bl b => .ok (.bl (!b), false) ρ
    | _ => .bad) := by
  refine (pe_not ha).imp fun σ H Q hw => ?_
  obtain ⟨E, S, ρ, fs, st, p⟩ := hw
  refine ⟨E, S, ρ, fs, st, (Post.bind p).mono fun x ρ1 S1 H1 fs1 e1 st1 p1 v fp r ap => ?_⟩
  obtain ⟨d, o⟩ := x
  cases d with
  | bl b =>
    unfold RV at r
    cases o with
    | false =>
      rw [if_neg (by simp)] at r
      cases r.2.bl_inv
      exact ⟨b, rfl, Post.here p1 st1 _ [] (by unfold RV; rw [if_neg (by simp)]; exact ⟨rfl, Rep.bl _⟩) (fun a ha => by simp at ha)⟩
    | true =>
      rw [if_pos rfl] at r
      exact r.elim
  | _ => exact (show False from p1).elim
/-- a op b op c -/
def chainC (o1 o2 : COp) (ca cb cc : Env → Out D) : Env → Out (D × Bool) := fun ρ => (ca ρ).bind fun x ρ => (cb ρ).bind fun y ρ => (Out.of (cmpv o1 x y) ρ).bind fun k ρ =>
  if k then (cc ρ).bind fun z ρ => (Out.of (cmpv o2 y z) ρ).bind fun k ρ => .ok (.bl k, false) ρ else .ok (.bl false, false) ρ
theorem snd_chain {c : Expr} {ca cb cc : Env → Out D} (hu : X.A.units + 65 < cLine) (o1 o2 : COp) (hm : lastMarks [o1.py, o2.py] [b, c] = false) (ha : PE X a (tX X.K A W ca)) (hb : PE X b (tX X.K A W cb)) (hc : PE X c (tX X.K A W cc)) :
    PE X (.Compare a [o1.py, o2.py] [b, c] pos) (tO X.K A W (chainC o1 o2 ca cb cc)) := by
  refine (pe_chain (op_cmp (A := A) hu o1) (op_cmp (A := A) hu o2) ha hb hc hm).imp fun σ H Q hw => ?_
  obtain ⟨E, S, ρ, fs, st, p⟩ := hw
  refine ⟨E, S, ρ, fs, st, (Post.bind p).mono fun dx ρ1 S1 H1 fs1 e1 st1 p1 x rx => ⟨E, S1, ρ1, fs1, st1, (Post.bind p1).mono fun dy ρ2 S2 H2 fs2 e2 st2 p2 y ry => ?_⟩⟩
  refine ⟨S2, dx, dy, st2.sub, Rep.mono e2 _ _ rx, ry, ?_⟩
  cases hz : cmpv o1 dx dy with
  | none => rw [hz] at p2; exact p2.elim
  | some k =>
    rw [hz] at p2
    refine ⟨k, rfl, k, rfl, ?_⟩
    cases k with
    | false =>
      rw [if_neg (by decide)]
      exact Post.here p2 st2 _ [] (by unfold RV; rw [if_neg (by simp)]; exact ⟨rfl, Rep.bl _⟩) (fun a ha => by simp at ha)
    | true =>
      rw [if_pos rfl]
      have p2' : Post X.K A W E S2 σ ((cc ρ2).bind fun z ρ => (Out.of (cmpv o2 dy z) ρ).bind fun k ρ => (.ok (D.bl k, false) ρ : Out (D × Bool))) _ := p2
      refine ⟨E, S2, ρ2, fs2, st2, (Post.bind p2').mono fun dz ρ3 S3 H3 fs3 e3 st3 p3 z rz => ?_⟩
      refine ⟨S3, dy, dz, st3.sub, Rep.mono e3 _ _ ry, rz, ?_⟩
      cases hz2 : cmpv o2 dy dz with
      | none => rw [hz2] at p3; exact p3.elim
      | some k =>
        rw [hz2] at p3
        exact ⟨k, rfl, Post.here p3 st3 _ [] (by unfold RV; rw [if_neg (by simp)]; exact ⟨rfl, Rep.bl k⟩) (fun a ha => by simp at ha)⟩
theorem snd_chainT {c : Expr} {ca cb cc : Env → Out D} (hu : X.A.units + 65 < cLine) (o1 o2 : COp) (hm : lastMarks [o1.py, o2.py] [b, c] = false) (ha : PE X a (tX X.K A W ca)) (hb : PE X b (tX X.K A W cb)) (hc : PE X c (tX X.K A W cc)) :
    PT X (.Compare a [o1.py, o2.py] [b, c] pos) (tT X.K A W fun ρ => (chainC o1 o2 ca cb cc ρ).tob) := by
  refine (pt_chain (op_cmp (A := A) hu o1) (op_cmp (A := A) hu o2) ha hb hc hm).imp fun σ H Q hw => ?_
  obtain ⟨E, S, ρ, fs, st, p⟩ := hw
  have p : Post X.K A W E S σ (chainC o1 o2 ca cb cc ρ).tob _ := p
  unfold chainC Out.tob at p
  rw [Out.bind_assoc] at p
  refine ⟨E, S, ρ, fs, st, (Post.bind p).mono fun dx ρ1 S1 H1 fs1 e1 st1 p1 x rx => ?_⟩
  rw [Out.bind_assoc] at p1
  refine ⟨E, S1, ρ1, fs1, st1, (Post.bind p1).mono fun dy ρ2 S2 H2 fs2 e2 st2 p2 y ry => ?_⟩
  refine ⟨S2, dx, dy, st2.sub, Rep.mono e2 _ _ rx, ry, ?_⟩
  cases hz : cmpv o1 dx dy with
  | none => rw [hz] at p2; exact p2.elim
  | some k =>
    rw [hz] at p2
    refine ⟨k, rfl, k, rfl, ?_⟩
    cases k with
    | false =>
      rw [if_neg (by decide)]
      exact ⟨false, rfl, Post.here p2 st2⟩
    | true =>
      rw [if_pos rfl]
      have p2' : Post X.K A W E S2 σ (((cc ρ2).bind fun z ρ => (Out.of (cmpv o2 dy z) ρ).bind fun k ρ => (.ok (D.bl k, false) ρ : Out (D × Bool))).bind _) _ := p2
      rw [Out.bind_assoc] at p2'
      refine ⟨E, S2, ρ2, fs2, st2, (Post.bind p2').mono fun dz ρ3 S3 H3 fs3 e3 st3 p3 z rz => ?_⟩
      refine ⟨S3, dy, dz, st3.sub, Rep.mono e3 _ _ ry, rz, ?_⟩
      cases hz2 : cmpv o2 dy dz with
      | none => rw [hz2] at p3; exact p3.elim
      | some k =>
        rw [hz2] at p3
        exact ⟨k, rfl, k, rfl, Post.here p3 st3⟩
end
end GW
end

section
/-! C7: several expressions in a row; displays, calls, and, or. -/
namespace GW
open PySem PySem.Spec PyProof.Rows L2

def notStar : Expr → Bool
  | .Starred .. => false
  | _ => true
theorem star_of {e : Expr} {es : List Expr} {env : PySem.Env} (h : notStar e = true) : starEach (e :: es) env = (false, eval e env) :: starEach es env := by
  cases e <;> first | rfl | cases h

abbrev Code := Env → Out (D × Bool)
/-- one behind the other, each put to others' use -/
def evsC : List Code → Env → Out (List D)
  | [], ρ => .ok [] ρ
  | c :: cs, ρ => (c ρ).frz.bind fun x ρ => (evsC cs ρ).bind fun ds ρ => .ok (x :: ds) ρ
def andC : List Code → Env → Out (D × Bool)
  | [], ρ => .ok (.bl true, false) ρ
  | c :: cs, ρ => (c ρ).bind fun x ρ => match x.1 with
    | .bl true => andC cs ρ
    | .bl false => .ok (.bl false, false) ρ
    | _ => .bad
def orC : List Code → Env → Out (D × Bool)
  | [], ρ => .ok (.bl false, false) ρ
  | c :: cs, ρ => (c ρ).bind fun x ρ => match x.1 with
    | .bl true => .ok (.bl true, false) ρ
    | .bl false => orC cs ρ
    | _ => .bad
theorem evs_C {R : Rt} {m : Bool} : ∀ (es : List Px) (ρ : Env), evs R m es ρ = evsC (es.map (ev R m)) ρ
  | [], ρ => by unfold evs; rfl
  | e :: es, ρ => by
    unfold evs
    rw [List.map_cons]
    unfold evsC
    congr 1
    funext x ρ
    rw [evs_C es ρ]
theorem evAnd_C {R : Rt} {m : Bool} : ∀ (es : List Px) (ρ : Env), evAnd R m es ρ = andC (es.map (ev R m)) ρ
  | [], ρ => by unfold evAnd; rfl
  | e :: es, ρ => by
    unfold evAnd
    rw [List.map_cons]
    unfold andC
    congr 1
    funext x ρ
    obtain ⟨d, o⟩ := x
    cases d with
    | bl b => cases b <;> first | rfl | exact evAnd_C es ρ
    | _ => rfl
theorem evOr_C {R : Rt} {m : Bool} : ∀ (es : List Px) (ρ : Env), evOr R m es ρ = orC (es.map (ev R m)) ρ
  | [], ρ => by unfold evOr; rfl
  | e :: es, ρ => by
    unfold evOr
    rw [List.map_cons]
    unfold orC
    congr 1
    funext x ρ
    obtain ⟨d, o⟩ := x
    cases d with
    | bl b => cases b <;> first | rfl | exact evOr_C es ρ
    | _ => rfl
theorem evsC_len : ∀ {cs : List Code} {ρ ρ' : Env} {ds : List D}, evsC cs ρ = .ok ds ρ' → ds.length = cs.length
  | [], ρ, ρ', ds, h => by
    unfold evsC at h
    cases h
    rfl
  | c :: cs, ρ, ρ', ds, h => by
    unfold evsC at h
    cases h1 : (c ρ).frz with
    | ok x ρ1 =>
      rw [h1] at h
      dsimp only [Out.bind] at h
      cases h2 : evsC cs ρ1 with
      | ok ds2 ρ2 =>
        rw [h2] at h
        cases h
        simp [evsC_len h2]
      | exn c ρ => rw [h2] at h; cases h
      | bad => rw [h2] at h; cases h
    | exn c ρ => rw [h1] at h; cases h
    | bad => rw [h1] at h; cases h

/-- expressions and what they tell -/
inductive Alls (X : Cx) (A : Cls) (W : WX) : List Expr → List Code → Prop
  | nil : Alls X A W [] []
  | cons {e : Expr} {c : Code} {es : List Expr} {cs : List Code} : PE X e (tO X.K A W c) → PT X e (tT X.K A W fun ρ => (c ρ).tob) → notStar e = true → Alls X A W es cs → Alls X A W (e :: es) (c :: cs)
theorem Alls.len {X : Cx} {A : Cls} {W : WX} {es : List Expr} {cs : List Code} (h : Alls X A W es cs) : es.length = cs.length := by
  induction h with
  | nil => rfl
  | cons _ _ _ _ ih => simp [ih]
theorem Alls.stars {X : Cx} {A : Cls} {W : WX} {es : List Expr} {cs : List Code} {pos : Pos} {env : PySem.Env} (h : Alls X A W es cs) : (backTo pos (starEach es env)).any (·.1) = false := by
  induction h with
  | nil => rfl
  | cons _ _ hs _ ih =>
    rw [star_of hs]
    show (false || (backTo pos (starEach _ env)).any (·.1)) = false
    rw [ih]
    rfl

section
variable {X : Cx} {A : Cls} {W : WX} {e a b c : Expr} {pos : Pos}
theorem Post.bindE {K : PySem.W.Frag} {E : Ent} {S : Hp} {σ : L2.St} {α β : Type} {o : Out α} {f : α → Env → Out β} {k : β → Hp → Hp → (Nat → List Addr) → Env → Prop} (h : Post K A W E S σ (o.bind f) k) :
    Post K A W E S σ o fun a S' H' fs ρ => o = .ok a ρ ∧ Post K A W E S' σ (f a ρ) k := by
  cases o with
  | ok a ρ => exact fun S' H' fs e s => ⟨rfl, Post.up e h⟩
  | exn c ρ => exact h
  | bad => exact h
theorem Alls.pa {es : List Expr} {cs : List Code} (h : Alls X A W es cs) : PA X es (tA X.K A W (evsC cs)) := by
  induction h with
  | nil =>
    refine pa_nil.imp fun σ H Q hw => ?_
    obtain ⟨E, S, ρ, fs, st, p⟩ := hw
    exact Post.here p st [] Reps.nil
  | @cons e c es cs h1 h2 hs _ ih =>
    refine (pa_cons (h1.frz) ih (star_of hs)).imp fun σ H Q hw => ?_
    obtain ⟨E, S, ρ, fs, st, p⟩ := hw
    refine ⟨E, S, ρ, fs, st, (Post.bind p).mono fun dx ρ1 S1 H1 fs1 e1 st1 p1 x rx => ⟨E, S1, ρ1, fs1, st1, (Post.bind p1).mono fun ds ρ2 S2 H2 fs2 e2 st2 p2 vs rvs => ?_⟩⟩
    exact Post.here p2 st2 _ (Reps.cons (Rep.mono e2 _ _ rx) rvs)
theorem RV.plain {K : PySem.W.Frag} {S H : Hp} {d : D} {v : V} (r : Rep K A S d v) : RV K A S H (d, false) v [] := by
  unfold RV
  rw [if_neg (by simp)]
  exact ⟨rfl, r⟩
theorem Apart.nil {E : Ent} {fs : Nat → List Addr} : Apart E fs [] := fun a ha => by simp at ha
/-- a display of a tuple, a list -/
theorem snd_tup {es : List Expr} {cs : List Code} {k : Nat} (h : Alls X A W es cs) (hl : cs.length < 1000) : PE X (.Tuple es k pos) (tO X.K A W fun ρ => (evsC cs ρ).bind fun ds ρ => .ok (.tup ds, false) ρ) := by
  refine (pe_tup h.pa).imp fun σ H Q hw => ?_
  obtain ⟨E, S, ρ, fs, st, p⟩ := hw
  refine ⟨E, S, ρ, fs, st, (Post.bindE p).mono fun ds ρ1 S1 H1 fs1 e1 st1 ⟨q, p1⟩ vs r => ⟨?_, ?_⟩⟩
  · rw [r.len, evsC_len q]
    exact small1000 (by omega) |> Nat.le_of_lt
  · exact (tells_of (z := (.tup ds, false)) st1 fun S' H' v fp e st' r ap => p1 S' H' fs1 e st' v fp r ap).tup st1.sub r
theorem snd_lst {es : List Expr} {cs : List Code} (h : Alls X A W es cs) (hl : cs.length < 1000) : PE X (.List es pos) (tO X.K A W fun ρ => (evsC cs ρ).bind fun ds ρ => .ok (.lst ds, true) ρ) := by
  refine (pe_lst h.pa).imp fun σ H Q hw => ?_
  obtain ⟨E, S, ρ, fs, st, p⟩ := hw
  refine ⟨E, S, ρ, fs, st, (Post.bindE p).mono fun ds ρ1 S1 H1 fs1 e1 st1 ⟨q, p1⟩ vs r => ⟨?_, ?_⟩⟩
  · rw [r.len, evsC_len q]
    exact small1000 (by omega) |> Nat.le_of_lt
  · exact (tells_of (z := (.lst ds, true)) st1 fun S' H' v fp e st' r ap => p1 S' H' fs1 e st' v fp r ap).lst st1.sub r

/-! ### truths -/
theorem tob_bind {o : Out (D × Bool)} {β : Type} (F G : Env → Out β) : (o.bind fun x ρ => match x.1 with
    | .bl true => F ρ
    | .bl false => G ρ
    | _ => .bad) = o.tob.bind fun b ρ => if b = true then F ρ else G ρ := by
  cases o with
  | ok x ρ =>
    obtain ⟨d, w⟩ := x
    cases d with
    | bl b => cases b <;> rfl
    | _ => rfl
  | exn c ρ => rfl
  | bad => rfl
theorem andC_cons {c : Code} {cs : List Code} {ρ : Env} : andC (c :: cs) ρ = (c ρ).tob.bind fun b ρ => if b = true then andC cs ρ else .ok (.bl false, false) ρ := tob_bind _ _
theorem orC_cons {c : Code} {cs : List Code} {ρ : Env} : orC (c :: cs) ρ = (c ρ).tob.bind fun b ρ => if b = true then .ok (.bl true, false) ρ else orC cs ρ := tob_bind _ _
theorem tob_bind2 {α : Type} {o : Out α} {f : α → Env → Out (D × Bool)} : (o.bind f).tob = o.bind fun a ρ => (f a ρ).tob := Out.bind_assoc _ _ _
theorem tob_ite {b : Bool} {x y : Out (D × Bool)} : (if b = true then x else y).tob = if b = true then x.tob else y.tob := by cases b <;> rfl
/-- a value that is a truth -/
theorem PE.truth {c : Code} (h : PE X e (tO X.K A W c)) {σ : L2.St} {H : Hp} {E : Ent} {S : Hp} {ρ : Env} {fs : Nat → List Addr} {k : Bool → Hp → Hp → (Nat → List Addr) → Env → Prop} (st : Sta X.K A E S H ρ σ fs) {Q : VK}
    (p : Post X.K A W E S σ (c ρ).tob k) (q : ∀ b ρ' S' H' fs', Same S S' → Sta X.K A E S' H' ρ' σ fs' → k b S' H' fs' ρ' → Q (.bl b) H') : tO X.K A W c σ H Q := by
  refine ⟨E, S, ρ, fs, st, (Post.bind p).mono fun x ρ' S' H' fs' e1 st' p' v fp r ap => ?_⟩
  obtain ⟨d, o⟩ := x
  cases d with
  | bl b =>
    unfold RV at r
    cases o with
    | false =>
      rw [if_neg (by simp)] at r
      cases r.2.bl_inv
      exact q b ρ' S' H' fs' e1 st' (Post.here p' st')
    | true =>
      rw [if_pos rfl] at r
      exact r.elim
  | _ => exact (show False from p').elim
theorem and_pe : ∀ {es : List Expr} {cs : List Code}, Alls X A W es cs → es ≠ [] → PE X (.BoolOp .And es pos) (tO X.K A W (andC cs))
  | _, _, .nil, h => absurd rfl h
  | _, _, .cons (c := c) h1 h2 hs .nil, _ => by
    refine (pe_one h1).imp fun σ H Q hw => ?_
    obtain ⟨E, S, ρ, fs, st, p⟩ := hw
    rw [andC_cons] at p
    refine PE.truth h1 st (Post.bind p) fun b ρ' S' H' fs' e1 st' p' => ?_
    cases b with
    | true => exact Post.here p' st' _ [] (RV.plain (Rep.bl true)) Apart.nil
    | false => exact Post.here p' st' _ [] (RV.plain (Rep.bl false)) Apart.nil
  | _, _, .cons (c := c) h1 h2 hs (.cons g1 g2 gs gr), _ => by
    refine (pe_and h1 (and_pe (.cons g1 g2 gs gr) (by simp))).imp fun σ H Q hw => ?_
    obtain ⟨E, S, ρ, fs, st, p⟩ := hw
    rw [andC_cons] at p
    refine PE.truth h1 st (Post.bind p) fun b ρ' S' H' fs' e1 st' p' => ⟨b, rfl, ?_⟩
    cases b with
    | true =>
      rw [if_pos rfl] at p' ⊢
      exact ⟨E, S', ρ', fs', st', p'⟩
    | false => exact Post.here p' st' _ [] (RV.plain (Rep.bl false)) Apart.nil
theorem or_pe : ∀ {es : List Expr} {cs : List Code}, Alls X A W es cs → es ≠ [] → PE X (.BoolOp .Or es pos) (tO X.K A W (orC cs))
  | _, _, .nil, h => absurd rfl h
  | _, _, .cons (c := c) h1 h2 hs .nil, _ => by
    refine (pe_one h1).imp fun σ H Q hw => ?_
    obtain ⟨E, S, ρ, fs, st, p⟩ := hw
    rw [orC_cons] at p
    refine PE.truth h1 st (Post.bind p) fun b ρ' S' H' fs' e1 st' p' => ?_
    cases b with
    | true => exact Post.here p' st' _ [] (RV.plain (Rep.bl true)) Apart.nil
    | false => exact Post.here p' st' _ [] (RV.plain (Rep.bl false)) Apart.nil
  | _, _, .cons (c := c) h1 h2 hs (.cons g1 g2 gs gr), _ => by
    refine (pe_or h1 (or_pe (.cons g1 g2 gs gr) (by simp))).imp fun σ H Q hw => ?_
    obtain ⟨E, S, ρ, fs, st, p⟩ := hw
    rw [orC_cons] at p
    refine PE.truth h1 st (Post.bind p) fun b ρ' S' H' fs' e1 st' p' => ⟨b, rfl, ?_⟩
    cases b with
    | true => exact Post.here p' st' _ [] (RV.plain (Rep.bl true)) Apart.nil
    | false =>
      rw [if_neg (by simp)] at p' ⊢
      exact ⟨E, S', ρ', fs', st', p'⟩
theorem and_pw : ∀ {es : List Expr} {cs : List Code}, Alls X A W es cs → es ≠ [] → PW X (.BoolOp .And es pos) (tT X.K A W fun ρ => (andC cs ρ).tob)
  | _, _, .nil, h => absurd rfl h
  | _, _, .cons (c := c) h1 h2 hs .nil, _ => by
    have g := pw_and1 (pos := pos) h2
    refine ⟨fun wh pins s σ H Q I hw => g.run wh pins s σ H Q I ?_⟩
    obtain ⟨E, S, ρ, fs, st, p⟩ := hw
    dsimp only at p
    rw [andC_cons, tob_bind2] at p
    refine ⟨E, S, ρ, fs, st, (Post.bind p).mono fun b ρ' S' H' fs' e1 st' p' => ?_⟩
    cases b with
    | true => exact Post.here p' st'
    | false => exact Post.here p' st'
  | _, _, .cons (c := c) h1 h2 hs (.cons g1 g2 gs gr), _ => by
    have g := pw_and h2 (and_pw (.cons g1 g2 gs gr) (by simp))
    refine ⟨fun wh pins s σ H Q I hw => g.run wh pins s σ H Q I ?_⟩
    obtain ⟨E, S, ρ, fs, st, p⟩ := hw
    dsimp only at p
    rw [andC_cons, tob_bind2] at p
    refine ⟨E, S, ρ, fs, st, (Post.bind p).mono fun b ρ' S' H' fs' e1 st' p' => ?_⟩
    cases b with
    | true =>
      rw [if_pos rfl] at p' ⊢
      exact ⟨E, S', ρ', fs', st', p'⟩
    | false => exact Post.here p' st'
theorem or_pw : ∀ {es : List Expr} {cs : List Code}, Alls X A W es cs → es ≠ [] → PW X (.BoolOp .Or es pos) (tT X.K A W fun ρ => (orC cs ρ).tob)
  | _, _, .nil, h => absurd rfl h
  | _, _, .cons (c := c) h1 h2 hs .nil, _ => by
    have g := pw_or1 (pos := pos) h2
    refine ⟨fun wh pins s σ H Q I hw => g.run wh pins s σ H Q I ?_⟩
    obtain ⟨E, S, ρ, fs, st, p⟩ := hw
    dsimp only at p
    rw [orC_cons, tob_bind2] at p
    refine ⟨E, S, ρ, fs, st, (Post.bind p).mono fun b ρ' S' H' fs' e1 st' p' => ?_⟩
    cases b with
    | true => exact Post.here p' st'
    | false => exact Post.here p' st'
  | _, _, .cons (c := c) h1 h2 hs (.cons g1 g2 gs gr), _ => by
    have g := pw_or h2 (or_pw (.cons g1 g2 gs gr) (by simp))
    refine ⟨fun wh pins s σ H Q I hw => g.run wh pins s σ H Q I ?_⟩
    obtain ⟨E, S, ρ, fs, st, p⟩ := hw
    dsimp only at p
    rw [orC_cons, tob_bind2] at p
    refine ⟨E, S, ρ, fs, st, (Post.bind p).mono fun b ρ' S' H' fs' e1 st' p' => ?_⟩
    cases b with
    | true => exact Post.here p' st'
    | false =>
      rw [if_neg (by simp)] at p' ⊢
      exact ⟨E, S', ρ', fs', st', p'⟩
/-- a if t else b -/
theorem snd_ife {ct ca cb : Code} (ht : PT X c (tT X.K A W fun ρ => (ct ρ).tob)) (ha : PE X a (tO X.K A W ca)) (hb : PE X b (tO X.K A W cb)) : PE X (.IfExp c a b pos) (tO X.K A W fun ρ => (ct ρ).bind fun x ρ => match x.1 with
    | .bl true => ca ρ
    | .bl false => cb ρ
    | _ => .bad) := by
  refine (pe_ifExp ht ha hb).imp fun σ H Q hw => ?_
  obtain ⟨E, S, ρ, fs, st, p⟩ := hw
  dsimp only at p
  rw [tob_bind] at p
  refine ⟨E, S, ρ, fs, st, (Post.bind p).mono fun x ρ' S' H' fs' e1 st' p' => ?_⟩
  cases x with
  | true => exact ⟨E, S', ρ', fs', st', p'⟩
  | false => exact ⟨E, S', ρ', fs', st', p'⟩
theorem pt_ifExp {tc ta tb : TT} (hc : PT X c tc) (ha : PT X a ta) (hb : PT X b tb) : PT X (.IfExp c a b pos) (fun σ H Q => tc σ H fun k H1 => if k = true then ta σ H1 Q else tb σ H1 Q) := by
  refine ⟨fun pins s σ H Q I h => ?_⟩
  show wpAny _ _ (do if ← isTrue c X.env (eval c X.env) then isTrue a X.env (eval a X.env) else isTrue b X.env (eval b X.env)) _ _ _
  refine wpAny_bind (thn (hc.run pins s σ H _ I h) fun d s1 ⟨H1, I1, q1⟩ => ?_)
  cases d with
  | true => exact ha.run pins s1 σ H1 Q I1 q1
  | false => exact hb.run pins s1 σ H1 Q I1 q1
theorem snd_ifeT {ct ca cb : Code} (ht : PT X c (tT X.K A W fun ρ => (ct ρ).tob)) (ha : PT X a (tT X.K A W fun ρ => (ca ρ).tob)) (hb : PT X b (tT X.K A W fun ρ => (cb ρ).tob)) : PT X (.IfExp c a b pos) (tT X.K A W fun ρ => ((ct ρ).bind fun x ρ => match x.1 with
    | .bl true => ca ρ
    | .bl false => cb ρ
    | _ => .bad : Out (D × Bool)).tob) := by
  refine (pt_ifExp ht ha hb).imp fun σ H Q hw => ?_
  obtain ⟨E, S, ρ, fs, st, p⟩ := hw
  dsimp only at p
  rw [tob_bind, tob_bind2] at p
  refine ⟨E, S, ρ, fs, st, (Post.bind p).mono fun x ρ' S' H' fs' e1 st' p' => ?_⟩
  cases x with
  | true => exact ⟨E, S', ρ', fs', st', p'⟩
  | false => exact ⟨E, S', ρ', fs', st', p'⟩
theorem tob_nt {o : Out (D × Bool)} : (o.bind fun x ρ => match x.1 with
    | .bl b => .ok (.bl (!b), false) ρ
    | _ => .bad : Out (D × Bool)).tob = o.tob.bind fun b ρ => .ok (!b) ρ := by
  cases o with
  | ok x ρ =>
    obtain ⟨d, w⟩ := x
    cases d <;> rfl
  | exn c ρ => rfl
  | bad => rfl

/-! ### subscripts -/
def notSlice : Expr → Bool
  | .Slice .. => false
  | _ => true
theorem plainIx {b : Expr} (h : notSlice b = true) : PlainIx b := fun o i => by
  cases b <;> first | rfl | cases h
theorem snd_ix {ca cb : Env → Out D} (hu : X.A.units + 65 < cLine) (ha : PE X a (tX X.K A W ca)) (hb : PE X b (tX X.K A W cb)) (hs : notSlice b = true) :
    PE X (.Subscript a b pos) (tO X.K A W fun ρ => (ca ρ).bind fun x ρ => (cb ρ).bind fun y ρ => (Out.of (ixv x y) ρ).bind fun d ρ => .ok (d, false) ρ) :=
  (pe_ix (ix_seq_ (A := A) hu) ha hb (plainIx hs)).imp fun _ _ _ hw => twoX hw
theorem snd_neg {ca : Code} (ha : PE X a (tO X.K A W ca)) : PE X (.UnaryOp .USub a pos) (tO X.K A W fun ρ => (ca ρ).bind fun x ρ => match x.1 with
    | .int i => .ok (.int (-i), false) ρ
    | _ => .bad) := by
  refine (pe_un un_neg ha).imp fun σ H Q hw => ?_
  obtain ⟨E, S, ρ, fs, st, p⟩ := hw
  refine ⟨E, S, ρ, fs, st, (Post.bind p).mono fun x ρ1 S1 H1 fs1 e1 st1 p1 v fp r ap => ?_⟩
  obtain ⟨d, o⟩ := x
  cases d with
  | int i =>
    unfold RV at r
    cases o with
    | false =>
      rw [if_neg (by simp)] at r
      cases r.2.int_inv
      exact ⟨i, rfl, Post.here p1 st1 _ [] (RV.plain (Rep.int _)) Apart.nil⟩
    | true =>
      rw [if_pos rfl] at r
      exact r.elim
  | _ => exact (show False from p1).elim

/-! ### calls -/
def okN (x : Str) : Bool := !(x == ("__debug__" : Str)) && !(x == ("__classdict__" : Str)) && !(x == ("__name__" : Str))
theorem okN_dbg {x : Str} (h : okN x = true) : (x == ("__debug__" : Str)) = false := by
  unfold okN at h
  simp only [Bool.and_eq_true, Bool.not_eq_true'] at h
  exact h.1.1
theorem okN_cls {x : Str} (h : okN x = true) : (x == ("__classdict__" : Str)) = false := by
  unfold okN at h
  simp only [Bool.and_eq_true, Bool.not_eq_true'] at h
  exact h.1.2
theorem okN_nam {x : Str} (h : okN x = true) : x ≠ "__name__" := by
  unfold okN at h
  simp only [Bool.and_eq_true, Bool.not_eq_true'] at h
  intro z
  have q := h.2
  rw [z] at q
  exact absurd q (by decide +kernel)
theorem snd_call {G : Prog} {fa : Nat → Addr} {fd : Nat → FuncData} {call : Nat → D → List D → Res} {n f : Nat} {F : Fn} {p : Pos} {es : List Expr} {cs : List Code} (C : Ctx G A fa fd call n X W) (hf : G.fns[f]? = some F) (hm : F.meth = false) (hx : okN F.name = true) (hg : Gl X F.name)
    (hl : cs.length = F.pars.length) (h0 : es ≠ []) (h : Alls X A W es cs) : PE X (.Call (.Name F.name p) es [] pos) (tO X.K A W fun ρ => (evsC cs ρ).bind fun ds ρ => match call f .non ds with
    | .ok d o .non => .ok (d, o) ρ
    | .exn c .non => .exn c ρ
    | _ => .bad) := by
  obtain ⟨k1, k2⟩ := C.facts.fkp f F hf
  cases h with
  | nil => exact absurd rfl h0
  | @cons e c es cs h1 h2 hs hr =>
    refine (pe_callS (C.fnok f F hf) C.room hg (C.facts.fn f F hf hm) k1 k2 (fun σ => passAt C.tk σ) (Alls.pa (.cons h1 h2 hs hr)) (okN_dbg hx) (star_of hs) hr.stars).imp fun σ H Q hw => ?_
    obtain ⟨E, S, ρ, fs, st, p⟩ := hw
    refine ⟨E, S, ρ, fs, st, (Post.bindE p).mono fun ds ρ1 S1 H1 fs1 e1 st1 ⟨q, p1⟩ vs r => ⟨?_, hm, S1, ds, st1.sub, r, ?_⟩⟩
    · rw [r.len, evsC_len q]
      exact hl
    · cases hr : call f .non ds with
      | ok d o sf =>
        rw [hr] at p1
        cases sf with
        | non => exact tells_of st1 fun S' H' v fp e st' r ap => p1 S' H' fs1 e st' v fp r ap
        | _ => exact p1.elim
      | exn c sf =>
        rw [hr] at p1
        cases sf with
        | non =>
          intro H' e
          exact p1 S1 H' fs1 (Same.refl S1) (st1.grow (Same.refl S1) e (st1.sub.trans e) fun _ _ q => .inl q)
        | _ => exact p1.elim
      | bad => rw [hr] at p1; exact p1.elim
theorem onL {cs : List Code} {σ : L2.St} {H : Hp} {Q : VK} {c : List D → Option (D × Bool)} (hw : tO X.K A W (fun ρ => (evsC cs ρ).bind fun ds ρ => Out.of (c ds) ρ) σ H Q) : tA X.K A W (evsC cs) σ H fun xs H1 => rL X.K A c xs H1 Q := by
  obtain ⟨E, S, ρ, fs, st, p⟩ := hw
  refine ⟨E, S, ρ, fs, st, (Post.bind p).mono fun ds ρ1 S1 H1 fs1 e1 st1 p1 vs r => ⟨S1, ds, st1.sub, r, ?_⟩⟩
  cases hz : c ds with
  | none => rw [hz] at p1; exact p1.elim
  | some z =>
    rw [hz] at p1
    exact ⟨z, rfl, tells_of st1 fun S' H' v fp e st' r ap => p1 S' H' fs1 e st' v fp r ap⟩
theorem Bi.okN (b : Bi) : okN b.py = true := by cases b <;> decide +kernel
theorem snd_bi {G : Prog} {fa : Nat → Addr} {fd : Nat → FuncData} {call : Nat → D → List D → Res} {n : Nat} {p : Pos} {es : List Expr} {cs : List Code} (C : Ctx G A fa fd call n X W) (b : Bi) (hg : Gl X b.py) (h0 : es ≠ []) (h : Alls X A W es cs) :
    PE X (.Call (.Name b.py p) es [] pos) (tO X.K A W fun ρ => (evsC cs ρ).bind fun ds ρ => Out.of (biv b ds) ρ) := by
  cases h with
  | nil => exact absurd rfl h0
  | @cons e c es cs h1 h2 hs hr =>
    have hc := cr_bi (A := A) C.calm (by have := C.room.un; omega) b
    have hv := b.boot
    have hm := C.facts.blt _ b.named
    have pa := Alls.pa (.cons h1 h2 hs hr)
    have fin : PE X (.Call (.Name b.py p) (e :: es) [] pos) (tCB (rL X.K A (biv b)) (tA X.K A W (evsC (c :: cs)))) := by
      cases hb : b.val with
      | builtin id =>
        rw [hb] at hc hv
        exact pe_callB hc hg hm hv pa (okN_nam b.okN) (okN_dbg b.okN) (star_of hs) hr.stars
      | type T =>
        rw [hb] at hc hv
        exact pe_callTy hc hg hm hv pa (okN_nam b.okN) (okN_dbg b.okN) (star_of hs) hr.stars
      | _ => cases b <;> cases hb
    exact fin.imp fun σ H Q hw => onL hw
theorem snd_isi {G : Prog} {fa : Nat → Addr} {fd : Nat → FuncData} {call : Nat → D → List D → Res} {n : Nat} {p p2 : Pos} {ca : Env → Out D} (C : Ctx G A fa fd call n X W) (t : Ty) {x : Str} {c : V} {u : Value} (hg : Gl X "isinstance") (hs : notStar a = true) (ha : PE X a (tX X.K A W ca))
    (hx : PE X (.Name x p2) (tC c)) (hc : ClsT A t c u) : PE X (.Call (.Name "isinstance" p) [a, .Name x p2] [] pos) (tO X.K A W fun ρ => (ca ρ).bind fun d ρ => (Out.of (isiv G.sub d t) ρ).bind fun c ρ => .ok (.bl c, false) ρ) := by
  have s2 : starEach [Expr.Name x p2] X.env = (false, eval (.Name x p2) X.env) :: starEach [] X.env := rfl
  refine (pe_callB (call_isD C.facts t) hg (C.facts.blt _ (by decide +kernel)) (by decide +kernel) (pa_cons ha (pa_cons hx pa_nil s2) (star_of hs)) (by decide +kernel) (by decide +kernel) (star_of hs) rfl).imp fun σ H Q hw => ?_
  obtain ⟨E, S, ρ, fs, st, p⟩ := hw
  refine ⟨E, S, ρ, fs, st, (Post.bind p).mono fun d ρ1 S1 H1 fs1 e1 st1 p1 v r => ?_⟩
  cases hb : isiv G.sub d t with
  | none => rw [hb] at p1; exact p1.elim
  | some k =>
    rw [hb] at p1
    exact ⟨S1, d, v, c, u, k, rfl, st1.sub, r, hc, hb, Post.here p1 st1 _ [] (RV.plain (Rep.bl k)) Apart.nil⟩
end
end GW
end

section
/-! C8: what loops go through; comprehensions. -/
namespace GW
open PySem PySem.Spec PyProof.Rows L2 RZ

section
variable (K : PySem.W.Frag) (A : Cls)
/-- the iterator J gives out ds, while what stood at S stands -/
structure Walks (S : Hp) (ds : List D) (J : It) : Prop where
  go : ∀ i H d, Same S H → ds[i]? = some d → J.go i H
  stop : ∀ i H, Same S H → ds.length ≤ i → J.stop i H
  yld : ∀ i H x H' d Sc, Same S Sc → Same Sc H → J.yld i H x H' → ds[i]? = some d → ∃ S', Same Sc S' ∧ Same H H' ∧ Same S' H' ∧ (∀ a o, S' a = some o → Sc a = some o ∨ H a = none) ∧ Rep K A S' d x
def tI (W : WX) (c : Env → Out (List D)) : TI := fun σ H R => ∃ E S ρ fs, Sta K A E S H ρ σ fs ∧ Post K A W E S σ (c ρ) fun ds S' H' _ _ => ∀ J, Walks K A S' ds J → R J H'
end
theorem SqT.fun {X : Cx} : True := trivial
section
variable {X : Cx} {A : Cls} {W : WX} {e a b c tg : Expr} {pos : Pos}
theorem PI.imp {w w' : TI} (h : PI X tg e w) (q : ∀ σ H R, w' σ H R → w σ H R) : PI X tg e w' := ⟨fun pins s σ H R I hw => h.run pins s σ H R I (q σ H R hw)⟩
theorem PI.or {w w' : TI} (h : PI X tg e w) (h' : PI X tg e w') : PI X tg e (fun σ H R => w σ H R ∨ w' σ H R) := ⟨fun pins s σ H R I hw => hw.elim (h.run pins s σ H R I) (h'.run pins s σ H R I)⟩
/-- an iterator that lays nothing -/
theorem Walks.plain {K : PySem.W.Frag} {S : Hp} {ds : List D} {J : It} (h1 : ∀ i H d, Same S H → ds[i]? = some d → J.go i H) (h2 : ∀ i H, Same S H → ds.length ≤ i → J.stop i H)
    (h3 : ∀ i H x H' d, Same S H → J.yld i H x H' → ds[i]? = some d → H' = H ∧ Rep K A S d x) : Walks K A S ds J :=
  ⟨h1, h2, fun i H x H' d Sc e1 e2 y hd => by
    obtain ⟨rfl, r⟩ := h3 i H x H' d (e1.trans e2) y hd
    exact ⟨Sc, Same.refl _, Same.refl _, e2, fun _ _ q => .inl q, Rep.mono e1 _ _ r⟩⟩
theorem walks_list {K : PySem.W.Frag} {S : Hp} {l : Addr} {ds : List D} {vs : List V} (h : Rd S l (.lst vs)) (r : Reps K A S ds vs) : Walks K A S ds (Itl K l) := by
  refine Walks.plain (fun i H d e hd => ?_) (fun i H e hi => ⟨vs, .inl (Same.rd e h), by rw [r.len]; exact hi⟩) fun i H x H' d e y hd => ⟨y.1, ?_⟩
  · obtain ⟨v, hv, _⟩ := r.get hd
    exact ⟨vs, v, .inl (Same.rd e h), hv⟩
  · have q := y.2 vs (.inl (Same.rd e h))
    obtain ⟨v, hv, rv⟩ := r.get hd
    rw [hv] at q
    cases q
    exact rv
theorem walks_tup {K : PySem.W.Frag} {S : Hp} {l : Addr} {ds : List D} {vs : List V} (h : SqT K S l vs) (r : Reps K A S ds vs) : Walks K A S ds (Itt K l) := by
  refine Walks.plain (fun i H d e hd => ?_) (fun i H e hi => ⟨vs, Same.sqt e h, by rw [r.len]; exact hi⟩) fun i H x H' d e y hd => ⟨y.1, ?_⟩
  · obtain ⟨v, hv, _⟩ := r.get hd
    exact ⟨vs, v, Same.sqt e h, hv⟩
  · have q := y.2 vs (Same.sqt e h)
    obtain ⟨v, hv, rv⟩ := r.get hd
    rw [hv] at q
    cases q
    exact rv
theorem walks_str {K : PySem.W.Frag} {S : Hp} {z : Str} : Walks K A S (z.cps.toList.map fun c => D.str ⟨#[c]⟩) (Its z) := by
  refine Walks.plain (fun i H d e hd => ?_) (fun i H e hi => ?_) fun i H x H' d e y hd => ⟨y.1, ?_⟩
  · obtain ⟨q, _⟩ := List.getElem?_eq_some_iff.mp hd
    show i < z.cps.size
    simpa using q
  · show z.cps.size ≤ i
    simpa using hi
  · obtain ⟨c, hc, rfl⟩ := y.2
    rw [List.getElem?_map, Array.getElem?_toList, hc] at hd
    cases hd
    exact Rep.str _
theorem pi_of {ca : Env → Out D} (ha : PE X e (tX X.K A W ca)) : PI X tg e (tI X.K A W fun ρ => (ca ρ).bind fun x ρ => Out.of (itemsv x) ρ) := by
  have key : ∀ (pins : List (Addr × Obj)) (s : Shared) (σ : L2.St) (H : Hp) (R : It → Hp → Prop), L2.Inv X pins σ H s → tX X.K A W ca σ H (fun x H1 => (∃ a, x = .ref a ∧ (∃ xs, SqL X.K H1 a xs) ∧ R (Itl X.K a) H1) ∨ (∃ a, x = .ref a ∧ (∃ xs, SqT X.K H1 a xs) ∧ R (Itt X.K a) H1) ∨ ∃ z, x = .str z ∧ R (Its z) H1) →
      wpAny (model X.prog X.w) X.A (eval e X.env) (fun v s1 => wpAny (model X.prog X.w) X.A (pyIter v) (PIE X pins σ tg R) X.xe s1) X.xe s := by
    intro pins s σ H R I hw
    refine thn (ha.run pins s σ H _ I hw) fun v s1 ⟨x, H1, I1, r1, q1⟩ => ?_
    rcases q1 with q1 | q1 | q1
    · obtain ⟨a, rfl, ⟨xs, hq⟩, q⟩ := q1
      cases r1
      obtain ⟨its, rv, p, hz⟩ := I1.list hq
      refine wpAny_pyIter_list p.isList ?_
      refine ⟨s1.heap.objs.size, [s1.heap.objs.size], _, _, H1, rfl, I1.kept (t' := s1.toks) fun b o e => Heap.get?_push_of_some _ e, turn_list a _, ⟨_, Heap.get?_push_size _ rfl, rfl, rfl⟩, fun b hb => ?_, q⟩
      have e : b = s1.heap.objs.size := by simpa using hb
      subst e
      exact I1.fpOk (Nat.le_refl _) (I1.hok.fresh (Nat.le_refl _))
    · obtain ⟨a, rfl, ⟨xs, hq⟩, q⟩ := q1
      cases r1
      obtain ⟨its, rv, p, hz⟩ := I1.tuple hq
      refine wpAny_pyIter_tuple (show s1.heap.IsTuple a its.toArray from p) ?_
      refine ⟨s1.heap.objs.size, [s1.heap.objs.size], _, _, H1, rfl, I1.kept (t' := s1.toks) fun b o e => Heap.get?_push_of_some _ e, turn_tuple a _, ⟨_, Heap.get?_push_size _ rfl, rfl, rfl⟩, fun b hb => ?_, q⟩
      have e : b = s1.heap.objs.size := by simpa using hb
      subst e
      exact I1.fpOk (Nat.le_refl _) (I1.hok.fresh (Nat.le_refl _))
    · obtain ⟨x, rfl, q⟩ := q1
      obtain ⟨t, rfl⟩ := r1
      cases ha : x.cps.all (· < 128)
      · exact wpAny_pyIter_wide ha (pi_one (tk := s1.toks) I1 _ (turn_str _ x t "str_iterator" (.inr rfl)) ⟨_, Heap.get?_push_size _ rfl, rfl, rfl⟩ q)
      · exact wpAny_pyIter_ascii ha (pi_one (tk := s1.toks) I1 _ (turn_str _ x t "str_ascii_iterator" (.inl rfl)) ⟨_, Heap.get?_push_size _ rfl, rfl, rfl⟩ q)
  refine ⟨fun pins s σ H R I hw => key pins s σ H R I ?_⟩
  obtain ⟨E, S, ρ, fs, st, p⟩ := hw
  refine ⟨E, S, ρ, fs, st, (Post.bind p).mono fun d ρ1 S1 H1 fs1 e1 st1 p1 v r => ?_⟩
  cases d with
  | lst xs =>
    obtain ⟨l, vs, rfl, h1, h2⟩ := r.lst_inv
    exact .inl ⟨l, rfl, ⟨vs, .inl (Same.rd st1.sub h1)⟩, Post.here p1 st1 _ (walks_list h1 h2)⟩
  | tup xs =>
    obtain ⟨l, vs, rfl, h1, h2⟩ := r.tup_inv
    exact .inr (.inl ⟨l, rfl, ⟨vs, Same.sqt st1.sub h1⟩, Post.here p1 st1 _ (walks_tup h1 h2)⟩)
  | str z =>
    cases r.str_inv
    exact .inr (.inr ⟨z, rfl, Post.here p1 st1 _ walks_str⟩)
  | _ => exact (show False from p1).elim
theorem walks_rng {K : PySem.W.Frag} {S : Hp} (lo : Int) (n : Nat) : Walks K A S ((List.range n).map fun (k : Nat) => D.int (lo + k)) (Itr lo n) := by
  refine Walks.plain (fun i H d e hd => ?_) (fun i H e hi => ?_) fun i H x H' d e y hd => ⟨y.1, ?_⟩
  · obtain ⟨q, _⟩ := List.getElem?_eq_some_iff.mp hd
    show i < n
    simpa using q
  · show n ≤ i
    simpa using hi
  · rw [y.2]
    have q := (List.getElem?_eq_some_iff.mp hd).1
    have q' : i < n := by simpa using q
    rw [List.getElem?_map, List.getElem?_range q'] at hd
    cases hd
    exact Rep.int _
theorem pi_rng {p : Pos} {es : List Expr} {cs : List Code} {G : Prog} {fa : Nat → Addr} {fd : Nat → FuncData} {call : Nat → D → List D → Res} {n : Nat} (C : Ctx G A fa fd call n X W) (hg : Gl X "range") (h : Alls X A W es cs) (hl : es.length = 1 ∨ es.length = 2) :
    PI X tg (.Call (.Name "range" p) es [] pos) (tI X.K A W fun ρ => (evsC cs ρ).bind fun ds ρ => Out.of (rngv ds) ρ) := by
  have hm := C.facts.blt "range" (by decide +kernel)
  cases h with
  | nil => simp at hl
  | @cons e c es cs h1 h2 hs hr =>
    cases hr with
    | nil =>
      refine PI.imp (pi_range1 hg hm (Alls.pa (.cons h1 h2 hs .nil)) (star_of hs)) fun σ H R hw => ?_
      obtain ⟨E, S, ρ, fs, st, p⟩ := hw
      refine ⟨E, S, ρ, fs, st, (Post.bindE p).mono fun ds ρ1 S1 H1 fs1 e1 st1 ⟨q, p1⟩ vs r => ?_⟩
      have hlen := evsC_len q
      cases hz : rngv ds with
      | none => rw [hz] at p1; exact p1.elim
      | some xs =>
        rw [hz] at p1
        unfold rngv at hz
        split at hz <;> first | contradiction | skip
        · split at hz <;> first | contradiction | skip
          rename_i hok
          cases hz
          obtain ⟨v, rfl, rv⟩ := reps_one r
          cases rv.int_inv
          obtain ⟨b1, b2⟩ := okI_of hok
          refine ⟨_, rfl, by omega, by omega, Post.here p1 st1 _ ?_⟩
          have w : ∀ n : Nat, Walks X.K A S1 ((List.range n).map fun (k : Nat) => D.int k) (Itr 0 n) := fun n => by simpa using walks_rng (A := A) (K := X.K) (S := S1) 0 n
          exact w _
        · simp at hlen
    | @cons e2 c2 es2 cs2 g1 g2 gs gr =>
      cases gr with
      | cons _ _ _ _ => simp at hl
      | nil =>
        refine PI.imp (pi_range2 hg hm (Alls.pa (.cons h1 h2 hs (.cons g1 g2 gs .nil))) (by rw [star_of hs, star_of gs]; rfl) (by rw [star_of gs]; rfl)) fun σ H R hw => ?_
        obtain ⟨E, S, ρ, fs, st, p⟩ := hw
        refine ⟨E, S, ρ, fs, st, (Post.bindE p).mono fun ds ρ1 S1 H1 fs1 e1 st1 ⟨q, p1⟩ vs r => ?_⟩
        have hlen := evsC_len q
        cases hz : rngv ds with
        | none => rw [hz] at p1; exact p1.elim
        | some xs =>
          rw [hz] at p1
          unfold rngv at hz
          split at hz <;> first | contradiction | skip
          · simp at hlen
          · split at hz <;> first | contradiction | skip
            rename_i hok
            cases hz
            rw [Bool.and_eq_true] at hok
            obtain ⟨b1, b2⟩ := okI_of hok.1
            obtain ⟨b3, b4⟩ := okI_of hok.2
            unfold Reps at r
            obtain ⟨v, r', rfl, rv, r2⟩ := r
            obtain ⟨v2, rfl, rv2⟩ := reps_one r2
            cases rv.int_inv
            cases rv2.int_inv
            exact ⟨_, _, rfl, ⟨by omega, by omega, by omega, by omega⟩, Post.here p1 st1 _ (walks_rng _ _)⟩
theorem zipWith_get {α β γ : Type} {f : α → β → γ} : ∀ {xs : List α} {ys : List β} {i : Nat} {z : γ}, (List.zipWith f xs ys)[i]? = some z → ∃ x y, xs[i]? = some x ∧ ys[i]? = some y ∧ z = f x y := by
  intro xs ys i z h
  rw [List.getElem?_zipWith] at h
  cases hx : xs[i]? with
  | none => rw [hx] at h; cases h
  | some x =>
    cases hy : ys[i]? with
    | none => rw [hx, hy] at h; cases h
    | some y =>
      rw [hx, hy] at h
      exact ⟨x, y, rfl, rfl, by cases h; rfl⟩
/-- a pair given out, newly laid -/
theorem lay_pair {K : PySem.W.Frag} {Sc H : Hp} {T : Addr} {d1 d2 : D} {x y : V} (hT : H T = none) (sub : Same Sc H) (r1 : Rep K A Sc d1 x) (r2 : Rep K A Sc d2 y) :
    ∃ S', Same Sc S' ∧ Same H (upd H T (.tup [x, y])) ∧ Same S' (upd H T (.tup [x, y])) ∧ (∀ a o, S' a = some o → Sc a = some o ∨ H a = none) ∧ Rep K A S' (.tup [d1, d2]) (.ref T) := by
  have hs : Sc T = none := sub.free hT
  refine ⟨upd Sc T (.tup [x, y]), upd_same_of hs, upd_same_of hT, fun b u q => ?_, fun b u q => ?_, ?_⟩
  · by_cases e : b = T
    · subst e; rw [upd_same] at q ⊢; exact q
    · rw [upd_ne e] at q ⊢; exact sub b u q
  · by_cases e : b = T
    · subst e; exact .inr hT
    · rw [upd_ne e] at q; exact .inl q
  · unfold Rep
    exact ⟨T, _, rfl, SqT.of upd_same, Reps.mono (upd_same_of hs) _ _ (.cons r1 (.cons r2 .nil))⟩
theorem walks_zipL {K : PySem.W.Frag} {S : Hp} {a b : Addr} {xs ys : List D} {vs us : List V} (h1 : Rd S a (.lst vs)) (r1 : Reps K A S xs vs) (h2 : Rd S b (.lst us)) (r2 : Reps K A S ys us) : Walks K A S (List.zipWith pairD xs ys) (Itz K a b) := by
  refine ⟨fun i H d e hd => ?_, fun i H e hi => ⟨vs, us, .inl (Same.rd e h1), .inl (Same.rd e h2), ?_⟩, fun i H x H' d Sc e1 e2 y hd => ?_⟩
  · obtain ⟨d1, d2, g1, g2, _⟩ := zipWith_get hd
    obtain ⟨v, hv, _⟩ := r1.get g1
    obtain ⟨u, hu, _⟩ := r2.get g2
    exact ⟨vs, us, v, u, .inl (Same.rd e h1), .inl (Same.rd e h2), hv, hu⟩
  · rw [List.length_zipWith] at hi
    rw [r1.len, r2.len]
    omega
  · obtain ⟨d1, d2, g1, g2, rfl⟩ := zipWith_get hd
    obtain ⟨T, x', y', rfl, hT, rfl, q1, q2⟩ := y
    have z1 := q1 vs (.inl (Same.rd (e1.trans e2) h1))
    have z2 := q2 us (.inl (Same.rd (e1.trans e2) h2))
    obtain ⟨v, hv, rv⟩ := r1.get g1
    obtain ⟨u, hu, ru⟩ := r2.get g2
    rw [hv] at z1; cases z1
    rw [hu] at z2; cases z2
    exact lay_pair hT e2 (Rep.mono e1 _ _ rv) (Rep.mono e1 _ _ ru)
theorem walks_zipT {K : PySem.W.Frag} {S : Hp} {a b : Addr} {xs ys : List D} {vs us : List V} (h1 : SqT K S a vs) (r1 : Reps K A S xs vs) (h2 : SqT K S b us) (r2 : Reps K A S ys us) : Walks K A S (List.zipWith pairD xs ys) (ItzT K a b) := by
  refine ⟨fun i H d e hd => ?_, fun i H e hi => ⟨vs, us, Same.sqt e h1, Same.sqt e h2, ?_⟩, fun i H x H' d Sc e1 e2 y hd => ?_⟩
  · obtain ⟨d1, d2, g1, g2, _⟩ := zipWith_get hd
    obtain ⟨v, hv, _⟩ := r1.get g1
    obtain ⟨u, hu, _⟩ := r2.get g2
    exact ⟨vs, us, v, u, Same.sqt e h1, Same.sqt e h2, hv, hu⟩
  · rw [List.length_zipWith] at hi
    rw [r1.len, r2.len]
    omega
  · obtain ⟨d1, d2, g1, g2, rfl⟩ := zipWith_get hd
    obtain ⟨T, x', y', rfl, hT, rfl, q1, q2⟩ := y
    have z1 := q1 vs (Same.sqt (e1.trans e2) h1)
    have z2 := q2 us (Same.sqt (e1.trans e2) h2)
    obtain ⟨v, hv, rv⟩ := r1.get g1
    obtain ⟨u, hu, ru⟩ := r2.get g2
    rw [hv] at z1; cases z1
    rw [hu] at z2; cases z2
    exact lay_pair hT e2 (Rep.mono e1 _ _ rv) (Rep.mono e1 _ _ ru)
theorem pi_zip_ {p tpos : Pos} {elts : List Expr} {kk : Nat} {ca cb : Env → Out D} {G : Prog} {fa : Nat → Addr} {fd : Nat → FuncData} {call : Nat → D → List D → Res} {n : Nat} (C : Ctx G A fa fd call n X W) (hg : Gl X "zip")
    (ha : PE X a (tX X.K A W ca)) (hb : PE X b (tX X.K A W cb)) (hsa : notStar a = true) (hsb : notStar b = true) :
    PI X (.Tuple elts kk tpos) (.Call (.Name "zip" p) [a, b] [] pos) (tI X.K A W fun ρ => (ca ρ).bind fun x ρ => (cb ρ).bind fun y ρ => Out.of (zipv x y) ρ) := by
  have hm := C.facts.blt "zip" (by decide +kernel)
  refine PI.imp (pi_zipA hg hm (pa_cons ha (pa_cons hb pa_nil (star_of hsb)) (star_of hsa)) (star_of hsa) (by rw [star_of hsb]; rfl)) fun σ H R hw => ?_
  obtain ⟨E, S, ρ, fs, st, p⟩ := hw
  refine ⟨E, S, ρ, fs, st, (Post.bind p).mono fun d1 ρ1 S1 H1 fs1 e1 st1 p1 v1 r1 => ⟨E, S1, ρ1, fs1, st1, (Post.bind p1).mono fun d2 ρ2 S2 H2 fs2 e2 st2 p2 v2 r2 => ?_⟩⟩
  have r1 := Rep.mono e2 _ _ r1
  cases hz : zipv d1 d2 with
  | none => rw [hz] at p2; exact p2.elim
  | some xs =>
    rw [hz] at p2
    unfold zipv at hz
    split at hz <;> first | contradiction | skip
    · cases hz
      obtain ⟨a, vs, rfl, h1, h2⟩ := r1.lst_inv
      obtain ⟨b, us, rfl, h3, h4⟩ := r2.lst_inv
      exact ⟨a, b, vs, us, rfl, .inl ⟨.inl (Same.rd st2.sub h1), .inl (Same.rd st2.sub h3), Post.here p2 st2 _ (walks_zipL h1 h2 h3 h4)⟩⟩
    · cases hz
      obtain ⟨a, vs, rfl, h1, h2⟩ := r1.tup_inv
      obtain ⟨b, us, rfl, h3, h4⟩ := r2.tup_inv
      exact ⟨a, b, vs, us, rfl, .inr ⟨Same.sqt st2.sub h1, Same.sqt st2.sub h3, Post.here p2 st2 _ (walks_zipT h1 h2 h3 h4)⟩⟩

/-! ### comprehensions -/
theorem wipeE_get {ρ : Env} {j : Nat} : ∀ {own : List Nat}, getS (wipeE ρ own) j = if j ∈ own then .no else getS ρ j
  | [] => by unfold wipeE; simp
  | i :: is => by
    unfold wipeE
    rw [getS_set, wipeE_get (own := is)]
    by_cases e : i = j
    · subst e
      rw [if_pos rfl, if_pos (List.mem_cons_self)]
      split <;> rfl
    · rw [if_neg e]
      have ne : j ≠ i := fun z => e z.symm
      have : j ∈ i :: is ↔ j ∈ is := by simp [ne]
      simp only [this]
theorem wipeE_length (ρ : Env) : ∀ own : List Nat, (wipeE ρ own).length = ρ.length
  | [] => rfl
  | i :: is => by unfold wipeE; rw [List.length_set, wipeE_length ρ is]
theorem wipe_get {σ : L2.St} {j : Nat} : ∀ {vs : List Nat}, j ∉ vs → (wipe σ vs)[j]? = σ[j]?
  | [], _ => rfl
  | v :: vs, h => by
    unfold wipe
    rw [List.getElem?_set_ne (fun z => h (by simp [z]))]
    exact wipe_get (fun z => h (List.mem_cons_of_mem _ z))
theorem wipe_at {σ : L2.St} {j : Nat} : ∀ {vs : List Nat}, j ∈ vs → (wipe σ vs)[j]? = if j < σ.length then some none else none
  | v :: vs, h => by
    unfold wipe
    by_cases e : v = j
    · subst e
      by_cases hl : v < σ.length
      · rw [if_pos hl, List.getElem?_set_self (by rw [wipe_length]; exact hl)]
      · rw [if_neg hl, List.getElem?_eq_none (by rw [List.length_set, wipe_length]; omega)]
    · rw [List.getElem?_set_ne e]
      rcases List.mem_cons.mp h with z | z
      · exact absurd z.symm e
      · exact wipe_at z
theorem wipe_ext {σ τ : L2.St} {vs : List Nat} (hl : σ.length = τ.length) (h : ∀ j, j ∉ vs → σ[j]? = τ[j]?) : wipe σ vs = wipe τ vs := by
  apply List.ext_getElem?
  intro j
  by_cases e : j ∈ vs
  · rw [wipe_at e, wipe_at e, hl]
  · rw [wipe_get e, wipe_get e]
    exact h j e
/-- own names forgotten -/
theorem Sta.wipe {K : PySem.W.Frag} {E : Ent} {S H : Hp} {ρ : Env} {σ : L2.St} {fs : Nat → List Addr} {own : List Nat} (st : Sta K A E S H ρ σ fs) (hz : E.z = none) : Sta K A E S H (wipeE ρ own) (L2.wipe σ own) (fun j => if j ∈ own then [] else fs j) := by
  refine ⟨by rw [wipe_length, wipeE_length]; exact st.len, st.sub, fun j => ?_, fun j k hjk a ha => ?_, st.ghost, st.s0, fun j a ha => ?_, st.snew, fun w hw => by rw [hz] at hw; cases hw⟩
  · rw [wipeE_get]
    by_cases e : j ∈ own
    · rw [if_pos e, if_pos e]
      rfl
    · rw [if_neg e, if_neg e, wipe_get e]
      exact st.slot j
  · by_cases e : j ∈ own
    · rw [if_pos e] at ha; simp at ha
    · rw [if_neg e] at ha
      by_cases e2 : k ∈ own
      · rw [if_pos e2]; simp
      · rw [if_neg e2]
        exact st.dis j k hjk a ha
  · by_cases e : j ∈ own
    · rw [if_pos e] at ha; simp at ha
    · rw [if_neg e] at ha
      exact st.new j a ha
/-- a place that nobody knows may change -/
theorem Sta.aside {K : PySem.W.Frag} {E : Ent} {S H : Hp} {ρ : Env} {σ : L2.St} {fs : Nat → List Addr} {a : Addr} {o : HO} (st : Sta K A E S H ρ σ fs) (h1 : S a = none) (h2 : ∀ j, a ∉ fs j) (h3 : E.gh a = none) : Sta K A E S (upd H a o) ρ σ fs := by
  refine ⟨st.len, fun b u q => ?_, fun j => SlR.keep (Same.refl S) (fun b hb => ⟨((st.slot j).at b hb).1, upd_ne fun z => h2 j (z ▸ hb)⟩) (st.slot j), st.dis, fun b u q => ?_, st.s0, st.new, st.snew, st.z⟩
  · rw [upd_ne (fun z => by subst z; rw [h1] at q; cases q)]
    exact st.sub b u q
  · rw [upd_ne (fun z => by subst z; rw [h3] at q; cases q)]
    exact st.ghost b u q
/-- the entry of a comprehension's turn: all but what is somebody's own must stay -/
noncomputable def turnE (S H : Hp) (fs : Nat → List Addr) : Ent := ⟨S, fun a => open Classical in if ∃ j, a ∈ fs j then none else H a, none⟩
theorem turnE_in {S H : Hp} {fs : Nat → List Addr} {a : Addr} {j : Nat} (h : a ∈ fs j) : (turnE S H fs).gh a = none := by
  unfold turnE
  exact if_pos ⟨j, h⟩
theorem turnE_out {S H : Hp} {fs : Nat → List Addr} {a : Addr} (h : ∀ j, a ∉ fs j) : (turnE S H fs).gh a = H a := by
  unfold turnE
  exact if_neg fun ⟨j, z⟩ => h j z
theorem turnE_none {S H : Hp} {fs : Nat → List Addr} {a : Addr} (h : (turnE S H fs).gh a = none) : (∃ j, a ∈ fs j) ∨ H a = none := by
  by_cases q : ∃ j, a ∈ fs j
  · exact .inl q
  · exact .inr ((turnE_out (S := S) (H := H) fun j z => q ⟨j, z⟩).symm.trans h)
theorem Sta.enter {K : PySem.W.Frag} {E : Ent} {S H : Hp} {ρ : Env} {σ : L2.St} {fs : Nat → List Addr} (st : Sta K A E S H ρ σ fs) : Sta K A (turnE S H fs) S H ρ σ fs := by
  refine ⟨st.len, st.sub, st.slot, st.dis, fun a o q => ?_, Same.refl S, fun j a ha => turnE_in ha, fun a o q => .inl q, fun w hw => by cases hw⟩
  by_cases h : ∃ j, a ∈ fs j
  · obtain ⟨j, h⟩ := h
    rw [turnE_in h] at q
    cases q
  · rw [turnE_out fun j z => h ⟨j, z⟩] at q
    exact q
/-- behind the turn -/
theorem Sta.leave {K : PySem.W.Frag} {E : Ent} {S S' H H' : Hp} {ρ ρ1 : Env} {σ σ1 : L2.St} {fs fs' : Nat → List Addr} {own : List Nat} (st : Sta K A E S H ρ σ fs) (st' : Sta K A (turnE S H fs) S' H' ρ1 σ1 fs') (e : Same S S')
    (h1 : ∀ j, j ∉ own → getS ρ1 j = getS ρ j) (h2 : ∀ j, j ∉ own → σ1[j]? = σ[j]?) (h3 : ∀ j ∈ own, isOw (getS ρ j) = false) : Sta K A E S' H' ρ σ (fun j => if j ∈ own then [] else fs' j) := by
  refine ⟨st.len, st'.sub, fun j => ?_, fun j k hjk a ha => ?_, fun a o q => ?_, st.s0.trans e, fun j a ha => ?_, fun a o q => ?_, st.z⟩
  · by_cases eo : j ∈ own
    · rw [if_pos eo]
      have q := st.slot j
      have q3 := h3 j eo
      cases hs : getS ρ j with
      | no => rfl
      | fz d =>
        rw [hs] at q
        obtain ⟨_, v, z1, z2⟩ := q
        exact ⟨rfl, v, z1, Rep.mono e _ _ z2⟩
      | ow d => rw [hs] at q3; cases q3
    · rw [if_neg eo]
      have q := st'.slot j
      rw [h1 j eo, h2 j eo] at q
      exact q
  · by_cases eo : j ∈ own
    · rw [if_pos eo] at ha; simp at ha
    · rw [if_neg eo] at ha
      by_cases e2 : k ∈ own
      · rw [if_pos e2]; simp
      · rw [if_neg e2]
        exact st'.dis j k hjk a ha
  · refine st'.ghost a o ?_
    have hn : ∀ j, a ∉ fs j := fun j hj => by
      have z := st.new j a hj
      rw [q] at z
      cases z
    rw [turnE_out hn]
    exact st.ghost a o q
  · by_cases eo : j ∈ own
    · rw [if_pos eo] at ha; simp at ha
    · rw [if_neg eo] at ha
      rcases turnE_none (st'.new j a ha) with ⟨k, hk⟩ | z
      · exact st.new k a hk
      · exact st.ghost.free z
  · rcases st'.snew a o q with z | z
    · exact st.snew a o z
    · rcases turnE_none z with ⟨k, hk⟩ | z
      · exact .inr (st.new k a hk)
      · exact .inr (st.ghost.free z)
end
/-! ### enumerate of lists and tuples -/
set_option maxHeartbeats 1000000 in
theorem meets_enumerate_new0 {v : Value} {o : Obj} {H : Heap → Prop} (B : Begins v o H) :
    Meets (Builtin.«enumerate.__new__» ⟨[.type "enumerate", v], []⟩) (fun _ R s => H s.heap ∧
      R (.ok (.ret (.ref (s.heap.push o).objs.size))) { s with heap := (s.heap.push o).push { cls := .type "enumerate", data := .fields #[.none, .bool false, .ref s.heap.objs.size, rawInt 0, .none, .none] } }) :=
  .of_wp fun prog w A R s h => by
    obtain ⟨hp, g, d, tk, os⟩ := s; obtain ⟨h1, h⟩ := h
    have hsub := sub_enumerate
    have q1 : ∀ {A' : Around} {E : Value → Shared → Prop} {Q : Value → Shared → Prop}, Q (.ref hp.objs.size) ⟨hp.push o, g, d, tk, os⟩ → wpAny (model prog w) A' (pyIter v) Q E ⟨hp, g, d, tk, os⟩ :=
      fun q => B.iter prog w _ _ ⟨hp, g, d, tk, os⟩ _ h1 q
    wp_walk using q1
    refine wpAny_stack_any fun st => wpAny_pure ?_
    split
    · rename_i c _ _ _ _ _
      cases (c == Value.type "enumerate")
      · wp_walk using q1
        exact ⟨_, rfl, h⟩
      · wp_walk using q1
        exact ⟨_, rfl, h⟩
    · wp_walk using q1
      exact ⟨_, rfl, h⟩
theorem enum_begins0 {prog : Program} {w : World} {A : Around} {E : Value → Shared → Prop} {s : Shared} {v : Value} {o : Obj} {H : Heap → Prop} {Q : Value → Shared → Prop} (B : Begins v o H) (h1 : H s.heap)
    (h : ∀ h', IsEnum h' (s.heap.objs.size + 1) s.heap.objs.size 0 .none → h'.get? s.heap.objs.size = some o → h'.objs.size = s.heap.objs.size + 2 →
      (∀ b o, s.heap.get? b = some o → h'.get? b = some o) → Q (.ref (s.heap.objs.size + 1)) { s with heap := h' }) :
    wpAny (model prog w) A (PySem.call (.type "enumerate") [v]) Q E s := by
  refine callType_new F.called_enumerate (by decide) (F.typeCall_enumerate_1 _) (F.newCall_enumerate_1 _) (fun obj => F.args_object_init_2 obj _) F.entry_enumerate_new
    (meets_enumerate_new0 B) ⟨h1, ?_⟩
  have hz : (s.heap.push o).objs.size = s.heap.objs.size + 1 := Heap.size_push ..
  show _ ∧ _
  rw [hz]
  have he : IsEnum ((s.heap.push o).push { cls := .type "enumerate", data := .fields #[.none, .bool false, .ref s.heap.objs.size, rawInt 0, .none, .none] }) (s.heap.objs.size + 1) s.heap.objs.size 0 .none := by
    have := Heap.get?_push_size (s.heap.push o) (o := { cls := .type "enumerate", data := .fields #[.none, .bool false, .ref s.heap.objs.size, rawInt 0, .none, .none] }) rfl
    rw [hz] at this; exact this
  refine ⟨⟨_, he, rfl⟩, h _ he (Heap.get?_push_of_some _ (Heap.get?_push_size _ B.free)) (by rw [Heap.size_push, hz]) fun b o x => Heap.get?_push_of_some _ (Heap.get?_push_of_some _ x)⟩
/-- the tuple at a, each item in a new pair -/
def IteT (K : PySem.W.Frag) (a : Addr) : It :=
  ⟨fun i H => ∃ (xs : List V) (x : V), SqT K H a xs ∧ xs[i]? = some x, fun i H v H' => ∃ T x, v = .ref T ∧ H T = none ∧ H' = upd H T (.tup [.int (i : Nat), x]) ∧ ∀ xs, SqT K H a xs → xs[i]? = some x, fun i H => ∃ xs : List V, SqT K H a xs ∧ xs.length ≤ i⟩
theorem turn_enumT {P : Program} {w : World} {K : PySem.W.Frag} {elts : List Expr} {kk : Nat} {tpos : Pos} (a e it : Addr) :
    Turn P w K (.Tuple elts kk tpos) (IteT K a) [e, it] e (fun i h => (∃ old, IsEnum h e it ((i : Nat) : Int) old) ∧ h.IsTupleIter it a i ∧ e ≠ it ∧ a ≠ it ∧ e ≠ a) where
  mem := by simp
  obj := fun i h st b hb => by
    obtain ⟨⟨old, he⟩, ⟨o, ho, hc, hd⟩, _⟩ := st
    have e' : b = e ∨ b = it := by simpa using hb
    rcases e' with z | z
    · rw [z]; exact ⟨_, he, fun v q => nomatch q⟩
    · rw [z]; exact ⟨o, ho, fun v q => by rw [hd] at q; cases q⟩
  keep := fun i h h' st k => let ⟨⟨old, he⟩, hi, hne⟩ := st; ⟨⟨old, k e (by simp) _ he⟩, hi.at fun o q => k it (by simp) o q, hne⟩
  item := by
    intro X hP hw hK hc i pins s σ H E I hf st hg
    subst hP hw hK
    obtain ⟨⟨old, he⟩, hit, hne, hai, hea⟩ := st
    obtain ⟨xs, x, hq, hx⟩ := hg
    obtain ⟨its, rv, p, hz⟩ := I.tuple hq
    obtain ⟨u, hu, ru⟩ := rv.get hx
    have hel : e < s.heap.objs.size := Heap.lt_size he
    have hil : it < s.heap.objs.size := by obtain ⟨_, q, _⟩ := hit; exact Heap.lt_size q
    have hlt : i < its.toArray.size := by
      have q := List.getElem?_eq_some_iff.mp hu
      obtain ⟨q, _⟩ := q
      simpa using q
    refine wpAny_pyNext_enum_itemD (Draws.tuple (prog := X.prog) (w := X.w) (A := X.A.in1) (I.ok.hd hc) it a hai its.toArray) he ⟨hit, show s.heap.IsTuple a its.toArray from p⟩ hlt hne (by simp [hne, hea]) fun y h' tk hy ho hst hT hsz hk => ?_
    have ey : y = u := by
      have hu' : its.toArray[i]? = some u := by simpa using hu
      rw [hu'] at hy
      exact (Option.some.inj hy).symm
    subst ey
    refine ⟨_, rfl, wpAny_letOwnedTupleGo_enum (s := { s with heap := h', toks := tk + 1 }) ho fun h'' he' sb => ?_⟩
    have hT2 : h''.get? s.heap.objs.size = some { cls := .type "tuple", data := .seq #[.int i tk, y] } := (sb.2 _ (Nat.ne_of_gt hel)).trans hT
    have new : ObjOk X.prog X.w (upd H s.heap.objs.size (.tup [.int (i : Nat), x])) h'' s.heap.objs.size (.tup [.int (i : Nat), x]) :=
      ⟨by show 2 ≤ sizeLine; decide, [.int i tk, y], .cons ⟨_, rfl⟩ (.cons ru .nil), ⟨_, hT2, rfl, _, rfl⟩⟩
    have I1 : Inv X pins σ (upd H s.heap.objs.size (.tup [.int (i : Nat), x])) { s with heap := h'', toks := tk + 1 } :=
      I.turnedNew (ch := [e, it]) (fun b ob hb q => (sb.2 b (fun z => hb (by simp [z]))).trans (hk b ob (fun z => hb (by simp [z])) (fun z => hb (by simp [z])) q)) hf (Nat.le_refl _) new
    refine ⟨.ref s.heap.objs.size, _, I1, rfl, ⟨_, x, rfl, I.hok.fresh (Nat.le_refl _), rfl, fun ys hy => by rw [I.tuple_inj hy hq]; exact hx⟩, ⟨⟨y, ?_⟩, hst.1.at fun o q => (sb.2 it (Ne.symm hne)).trans q, hne, hai, hea⟩, fun b hb => ?_⟩
    · have e1 : ((i + 1 : Nat) : Int) = (i : Int) + 1 := by omega
      rw [e1]; exact he'
    · have hb' : b < s.heap.objs.size := by
        have e' : b = e ∨ b = it := by simpa using hb
        rcases e' with z | z
        · rw [z]; exact hel
        · rw [z]; exact hil
      rw [upd_ne (Nat.ne_of_lt hb')]
      exact (hf b hb).1
  done := by
    intro X hP hw hK hc i pins s σ H E I hf st hg
    subst hP hw hK
    obtain ⟨⟨old, he⟩, hit, hne, hai, hea⟩ := st
    obtain ⟨xs, hq, hx⟩ := hg
    obtain ⟨its, rv, p, hz⟩ := I.tuple hq
    obtain ⟨f0, f1, f2, f3, f4, f5⟩ := hf it (by simp)
    have hl := rv.length
    have D : Draws X.prog X.w X.A.in1 it [it, a] i (fun i v => False) (fun j h => j = i ∧ h.IsTupleIter it a j ∧ h.IsTuple a its.toArray) :=
      ⟨fun _ _ q => let ⟨o, ho, _⟩ := q.2.1; ⟨o, ho⟩, fun _ _ _ q hk => ⟨q.1, q.2.1.at fun o z => hk it (by simp) o z, q.2.2.at fun o z => hk a (by simp) o z⟩, fun j s Q E hi st hQ => absurd st.1 (Nat.ne_of_lt hi),
        fun s Q E st hE => wpAny_nextOf_tuple_end (I.ok.hd hc) st.2.1 st.2.2 (by simp; omega) hE⟩
    exact wpAny_pyNext_enum_endD D he ⟨rfl, hit, show s.heap.IsTuple a its.toArray from p⟩ fun h' eb => ⟨rfl, I.turned (t' := s.toks) (fun b o hb q => eb b o hb q) f0 f1 f3 f4 f5⟩
  self := fun A i s Q E st h => let ⟨⟨_, he⟩, _⟩ := st; wpAny_pyIter_enum he h
def iEnumA (K : PySem.W.Frag) (ta : TA) : TI := fun σ H R => ta σ H fun vs H1 => ∃ a xs, vs = [.ref a] ∧ ((SqL K H1 a xs ∧ R (Ite K a) H1) ∨ (SqT K H1 a xs ∧ R (IteT K a) H1))
theorem pi_enumA {X : Cx} {e : Expr} {ta : TA} {p pos tpos : Pos} {elts : List Expr} {kk : Nat} (hg : Gl X "enumerate") (hm : X.mg "enumerate" = none) (ha : PA X [e] ta) (hs : starEach [e] X.env = [(false, eval e X.env)] := by rfl) :
    PI X (.Tuple elts kk tpos) (.Call (.Name "enumerate" p) [e] [] pos) (iEnumA X.K ta) := by
  refine ⟨fun pins s σ H R I h => ?_⟩
  refine Call_ (ld_blt I hg hm boot_enumerate (PyProof.Rows.callWith_type1 (thn (ha.run pos pins s σ H _ I h) fun us s1 ⟨vs, H1, I1, r1, q1⟩ => ?_) hs rfl))
  obtain ⟨a, xs, ex, q1⟩ := q1
  subst ex
  cases r1 with
  | cons r rr =>
    cases rr
    cases r
    have fp : ∀ b ∈ [s1.heap.objs.size + 1, s1.heap.objs.size], FpOk X pins H1 b := fun b hb => by
      have e' : b = s1.heap.objs.size + 1 ∨ b = s1.heap.objs.size := by simpa using hb
      have hle : s1.heap.objs.size ≤ b := by
        rcases e' with z | z
        · rw [z]; exact Nat.le_add_right _ _
        · rw [z]; exact Nat.le_refl _
      exact I1.fpOk hle (I1.hok.fresh hle)
    rcases q1 with ⟨hq, q⟩ | ⟨hq, q⟩
    · obtain ⟨its, rv, p', hz⟩ := I1.list hq
      refine call_enumerate_list p'.isList fun h' he hit hsz hk => wpAny_pyIter_enum he ?_
      have I2 : Inv X pins σ H1 { s1 with heap := h' } := I1.kept (t' := s1.toks) hk
      exact ⟨s1.heap.objs.size + 1, [s1.heap.objs.size + 1, s1.heap.objs.size], _, _, H1, rfl, I2, turn_enum a (s1.heap.objs.size + 1) s1.heap.objs.size, ⟨⟨.none, he⟩, hit, Nat.succ_ne_self _⟩, fp, q⟩
    · obtain ⟨its, rv, p', hz⟩ := I1.tuple hq
      obtain ⟨o1, ho1, _⟩ := id p'
      have hlt := Heap.lt_size ho1
      refine enum_begins0 (begins_tuple a its.toArray) (show s1.heap.IsTuple a its.toArray from p') fun h' he hit hsz hk => wpAny_pyIter_enum he ?_
      have I2 : Inv X pins σ H1 { s1 with heap := h' } := I1.kept (t' := s1.toks) hk
      exact ⟨s1.heap.objs.size + 1, [s1.heap.objs.size + 1, s1.heap.objs.size], _, _, H1, rfl, I2, turn_enumT a (s1.heap.objs.size + 1) s1.heap.objs.size, ⟨⟨.none, he⟩, ⟨_, hit, rfl, rfl⟩, Nat.succ_ne_self _, Nat.ne_of_lt hlt, Nat.ne_of_gt (Nat.lt_succ_of_lt hlt)⟩, fp, q⟩
section
variable {A : Cls}
theorem enumFrom_get {i : Nat} {z : D} : ∀ {n : Nat} {xs : List D}, (enumFrom n xs)[i]? = some z → ∃ x, xs[i]? = some x ∧ z = pairD (.int ((n + i : Nat) : Int)) x
  | n, [], h => by cases h
  | n, x :: xs, h => by
    unfold enumFrom at h
    cases i with
    | zero => cases h; exact ⟨x, rfl, rfl⟩
    | succ i =>
      rw [List.getElem?_cons_succ] at h
      obtain ⟨y, h1, rfl⟩ := enumFrom_get h
      refine ⟨y, h1, ?_⟩
      have e : n + 1 + i = n + (i + 1) := by omega
      rw [e]
theorem enumFrom_len : ∀ {n : Nat} {xs : List D}, (enumFrom n xs).length = xs.length
  | n, [] => rfl
  | n, x :: xs => by unfold enumFrom; rw [List.length_cons, List.length_cons, enumFrom_len]
theorem walks_enumL {K : PySem.W.Frag} {S : Hp} {a : Addr} {xs : List D} {vs : List V} (h1 : Rd S a (.lst vs)) (r1 : Reps K A S xs vs) : Walks K A S (enumFrom 0 xs) (Ite K a) := by
  refine ⟨fun i H d e hd => ?_, fun i H e hi => ⟨vs, .inl (Same.rd e h1), ?_⟩, fun i H x H' d Sc e1 e2 y hd => ?_⟩
  · obtain ⟨d1, g1, _⟩ := enumFrom_get hd
    obtain ⟨v, hv, _⟩ := r1.get g1
    exact ⟨vs, v, .inl (Same.rd e h1), hv⟩
  · rw [enumFrom_len] at hi
    rw [r1.len]
    omega
  · obtain ⟨d1, g1, rfl⟩ := enumFrom_get hd
    obtain ⟨T, x', rfl, hT, rfl, q1⟩ := y
    have z1 := q1 vs (.inl (Same.rd (e1.trans e2) h1))
    obtain ⟨v, hv, rv⟩ := r1.get g1
    rw [hv] at z1; cases z1
    rw [Nat.zero_add]
    exact lay_pair hT e2 (Rep.int _) (Rep.mono e1 _ _ rv)
theorem walks_enumT {K : PySem.W.Frag} {S : Hp} {a : Addr} {xs : List D} {vs : List V} (h1 : SqT K S a vs) (r1 : Reps K A S xs vs) : Walks K A S (enumFrom 0 xs) (IteT K a) := by
  refine ⟨fun i H d e hd => ?_, fun i H e hi => ⟨vs, Same.sqt e h1, ?_⟩, fun i H x H' d Sc e1 e2 y hd => ?_⟩
  · obtain ⟨d1, g1, _⟩ := enumFrom_get hd
    obtain ⟨v, hv, _⟩ := r1.get g1
    exact ⟨vs, v, Same.sqt e h1, hv⟩
  · rw [enumFrom_len] at hi
    rw [r1.len]
    omega
  · obtain ⟨d1, g1, rfl⟩ := enumFrom_get hd
    obtain ⟨T, x', rfl, hT, rfl, q1⟩ := y
    have z1 := q1 vs (Same.sqt (e1.trans e2) h1)
    obtain ⟨v, hv, rv⟩ := r1.get g1
    rw [hv] at z1; cases z1
    rw [Nat.zero_add]
    exact lay_pair hT e2 (Rep.int _) (Rep.mono e1 _ _ rv)
theorem pi_enum_ {X : Cx} {W : WX} {a : Expr} {pos : Pos} {p tpos : Pos} {elts : List Expr} {kk : Nat} {ca : Env → Out D} {G : Prog} {fa : Nat → Addr} {fd : Nat → FuncData} {call : Nat → D → List D → Res} {n : Nat} (C : Ctx G A fa fd call n X W) (hg : Gl X "enumerate")
    (ha : PE X a (tX X.K A W ca)) (hsa : notStar a = true) :
    PI X (.Tuple elts kk tpos) (.Call (.Name "enumerate" p) [a] [] pos) (tI X.K A W fun ρ => (ca ρ).bind fun x ρ => Out.of (enumv x) ρ) := by
  have hm := C.facts.blt "enumerate" (by decide +kernel)
  refine PI.imp (pi_enumA hg hm (pa_cons ha pa_nil (star_of hsa)) (star_of hsa)) fun σ H R hw => ?_
  obtain ⟨E, S, ρ, fs, st, p⟩ := hw
  refine ⟨E, S, ρ, fs, st, (Post.bind p).mono fun d1 ρ1 S1 H1 fs1 e1 st1 p1 v1 r1 => ?_⟩
  cases hz : enumv d1 with
  | none => rw [hz] at p1; exact p1.elim
  | some xs =>
    rw [hz] at p1
    unfold enumv at hz
    split at hz <;> first | contradiction | skip
    · cases hz
      obtain ⟨a, vs, rfl, h1, h2⟩ := r1.lst_inv
      exact ⟨a, vs, rfl, .inl ⟨.inl (Same.rd st1.sub h1), Post.here p1 st1 _ (walks_enumL h1 h2)⟩⟩
    · cases hz
      obtain ⟨a, vs, rfl, h1, h2⟩ := r1.tup_inv
      exact ⟨a, vs, rfl, .inr ⟨Same.sqt st1.sub h1, Post.here p1 st1 _ (walks_enumT h1 h2)⟩⟩
end
end GW
end

section
/-! C9: targets; a comprehension. -/
namespace GW
open PySem PySem.Spec PyProof.Rows L2 RZ

section
variable {X : Cx} {A : Cls} {W : WX} {e a b c tg : Expr} {pos : Pos}
theorem Sta.put' {K : PySem.W.Frag} {E : Ent} {S H : Hp} {ρ : Env} {σ : L2.St} {fs : Nat → List Addr} {i : Nat} {d : D} {v : V} (st : Sta K A E S H ρ σ fs) (r : Rep K A S d v) (hz : i ≠ 0 ∨ E.z = none) :
    Sta K A E S H (ρ.set i (.fz d)) (σ.set i (some v)) (fun j => if j = i then [] else fs j) := by
  by_cases hi : i < σ.length
  · exact st.put hi r hz
  · have h1 : σ.set i (some v) = σ := List.set_eq_of_length_le (by omega)
    have h2 : ρ.set i (.fz d) = ρ := List.set_eq_of_length_le (by rw [← st.len]; omega)
    rw [h1, h2]
    have h3 : getS ρ i = .no := by
      unfold getS
      rw [List.getElem?_eq_none (by rw [← st.len]; omega)]
    refine ⟨st.len, st.sub, fun j => ?_, fun j k hjk a ha => ?_, st.ghost, st.s0, fun j a ha => ?_, st.snew, st.z⟩
    · by_cases e : j = i
      · subst e
        rw [if_pos rfl, h3]
        rfl
      · rw [if_neg e]
        exact st.slot j
    · by_cases e : j = i
      · rw [if_pos e] at ha; simp at ha
      · rw [if_neg e] at ha
        by_cases e2 : k = i
        · rw [if_pos e2]; simp
        · rw [if_neg e2]
          exact st.dis j k hjk a ha
    · by_cases e : j = i
      · rw [if_pos e] at ha; simp at ha
      · rw [if_neg e] at ha
        exact st.new j a ha
theorem Sta.putV {K : PySem.W.Frag} {E : Ent} {S H : Hp} {ρ : Env} {σ : L2.St} {fs : Nat → List Addr} {i : Nat} {x : D × Bool} {v : V} {fp : List Addr} (st : Sta K A E S H ρ σ fs) (r : RV K A S H x v fp) (ap : Apart E fs fp) (hz : i ≠ 0 ∨ E.z = none) :
    ∃ fs', Sta K A E S H (putV ρ i x) (σ.set i (some v)) fs' := by
  obtain ⟨d, o⟩ := x
  unfold RV at r
  unfold GW.putV
  cases o with
  | false =>
    rw [if_neg (by simp)] at r ⊢
    exact ⟨_, st.put' r.2 hz⟩
  | true =>
    rw [if_pos rfl] at r ⊢
    by_cases hi : i < σ.length
    · exact ⟨_, st.putO hi r ap hz⟩
    · have h1 : σ.set i (some v) = σ := List.set_eq_of_length_le (by omega)
      have h2 : ρ.set i (.ow d) = ρ := List.set_eq_of_length_le (by rw [← st.len]; omega)
      dsimp only
      rw [h1, h2]
      exact ⟨fs, st⟩

/-! ### targets -/
/-- the target tg stores as T does -/
def PGok (X : Cx) (A : Cls) (tg : Expr) (T : Tg) : Prop := ∃ g, PG X tg g ∧ ∀ E S H ρ σ fs d x ρ1 (Q : L2.St → Hp → Prop), Sta X.K A E S H ρ σ fs → Rep X.K A S d x → setTg ρ T d = some ρ1 → (0 ∉ T.slots ∨ E.z = none) →
  (∀ σ1 fs1, Sta X.K A E S H ρ1 σ1 fs1 → (∀ j, j ∉ T.slots → σ1[j]? = σ[j]?) → (∀ j, j ∉ T.slots → getS ρ1 j = getS ρ j) → σ1.length = σ.length → Q σ1 H) → g x σ H Q
theorem pgok_nm {i : Nat} {x : Str} (hN : X.N.Nodup) (hi : X.N[i]? = some x) (hx : Loc X.env.scope x) (hf : X.fn x = true ∨ X.env.scope.names.lookup x = some .local) : PGok X A (.Name x pos) (.nm i) := by
  refine ⟨gName i, pg_name hN hi hx hf, fun E S H ρ σ fs d v ρ1 Q st r h hz q => ?_⟩
  cases h
  refine q _ _ (st.put' r (hz.imp (fun z w => z (by simp [Tg.slots, w])) id)) (fun j hj => ?_) (fun j hj => ?_) (List.length_set ..)
  · exact List.getElem?_set_ne (fun z => hj (by simp [Tg.slots, z]))
  · rw [getS_set, if_neg (fun z => hj (by simp [Tg.slots, z]))]
/-- names, one by one -/
inductive Nms (X : Cx) : List Expr → List Nat → Prop
  | nil : Nms X [] []
  | cons {i : Nat} {x : Str} {pos : Pos} {es : List Expr} {is : List Nat} : X.N[i]? = some x → Loc X.env.scope x → (X.fn x = true ∨ X.env.scope.names.lookup x = some .local) → Nms X es is → Nms X (.Name x pos :: es) (i :: is)
def gNms : List Nat → TGs
  | [] => gNil
  | i :: is => gCons (gName i) (gNms is)
theorem Nms.pgs (hN : X.N.Nodup) {es : List Expr} {is : List Nat} (h : Nms X es is) : PGs X es (gNms is) := by
  induction h with
  | nil => exact pgs_nil
  | cons h1 h2 h3 _ ih => exact pgs_cons (pg_name hN h1 h2 h3) ih rfl
theorem Nms.len {es : List Expr} {is : List Nat} (h : Nms X es is) : (assignEach es X.env).length = is.length ∧ (assignEach es X.env).findIdx? (·.1) = none := by
  induction h with
  | nil => exact ⟨rfl, rfl⟩
  | cons _ _ _ _ ih =>
    refine ⟨?_, ?_⟩
    · show (assignEach _ X.env).length + 1 = _
      rw [ih.1]
      rfl
    · show List.findIdx? _ ((false, _) :: assignEach _ X.env) = none
      rw [List.findIdx?_cons, ih.2]
      rfl
theorem gNms_ok {K : PySem.W.Frag} {E : Ent} {S H : Hp} : ∀ {is : List Nat} {ρ ρ1 : Env} {σ : L2.St} {fs : Nat → List Addr} {ds : List D} {vs : List V} {Q : L2.St → Hp → Prop}, Sta K A E S H ρ σ fs → Reps K A S ds vs → setTs ρ is ds = some ρ1 → (0 ∉ is ∨ E.z = none) →
    (∀ σ1 fs1, Sta K A E S H ρ1 σ1 fs1 → (∀ j, j ∉ is → σ1[j]? = σ[j]?) → (∀ j, j ∉ is → getS ρ1 j = getS ρ j) → σ1.length = σ.length → Q σ1 H) → gNms is vs σ H Q
  | [], ρ, ρ1, σ, fs, ds, vs, Q, st, r, h, hz, q => by
    cases ds with
    | nil =>
      cases h
      unfold Reps at r
      exact ⟨r, q σ fs st (fun _ _ => rfl) (fun _ _ => rfl) rfl⟩
    | cons _ _ => cases h
  | i :: is, ρ, ρ1, σ, fs, ds, vs, Q, st, r, h, hz, q => by
    cases ds with
    | nil => cases h
    | cons d ds =>
      unfold Reps at r
      obtain ⟨v, r', rfl, h1, h2⟩ := r
      unfold setTs at h
      refine ⟨v, r', rfl, ?_⟩
      refine gNms_ok (st.put' (i := i) h1 (hz.imp (fun z w => z (by simp [w])) id)) h2 h (hz.imp (fun z w => z (List.mem_cons_of_mem _ w)) id) fun σ1 fs1 st1 k1 k2 k3 => q σ1 fs1 st1 (fun j hj => ?_) (fun j hj => ?_) (k3.trans (List.length_set ..))
      · rw [List.mem_cons, not_or] at hj
        rw [k1 j hj.2, List.getElem?_set_ne (fun z => hj.1 z.symm)]
      · rw [List.mem_cons, not_or] at hj
        rw [k2 j hj.2, getS_set, if_neg (fun z => hj.1 z.symm)]
theorem setTs_len : ∀ {is : List Nat} {ρ ρ1 : Env} {ds : List D}, setTs ρ is ds = some ρ1 → ds.length = is.length
  | [], _, _, ds, h => by
    cases ds with
    | nil => rfl
    | cons _ _ => cases h
  | i :: is, ρ, ρ1, ds, h => by
    cases ds with
    | nil => cases h
    | cons d ds =>
      unfold setTs at h
      simp [setTs_len h]
theorem pgok_tp {es : List Expr} {is : List Nat} {k : Nat} (hc : X.calm = true) (hN : X.N.Nodup) (h : Nms X es is) : PGok X A (.Tuple es k pos) (.tp is) := by
  refine ⟨_, pg_tup hc (h.pgs hN) h.len.1 h.len.2, fun E S H ρ σ fs d x ρ1 Q st r hs hz q => ?_⟩
  unfold setTg at hs
  cases d with
  | tup ds =>
    obtain ⟨a, vs, rfl, h1, h2⟩ := r.tup_inv
    exact ⟨a, vs, rfl, Same.sqt st.sub h1, by rw [h2.len, setTs_len hs], gNms_ok st h2 hs hz q⟩
  | _ => cases hs

/-! ### a comprehension -/
def lcF (R : Env → Out (D × Bool)) (Ce : Env → Out D) (tg : Tg) (ρ : Env) (own : List Nat) (d : D) : Option (Option D) := match setTg (wipeE ρ own) tg d with
  | none => none
  | some ρ1 => match R ρ1 with
    | .ok (.bl true, _) _ => match Ce ρ1 with
      | .ok y _ => some (some y)
      | _ => none
    | .ok (.bl false, _) _ => some none
    | _ => none
/-- what leaves the slots as they are -/
def Still {α : Type} (c : Env → Out α) : Prop := ∀ ρ x ρ', c ρ = .ok x ρ' → ρ' = ρ
/-- what a target's reading does, no entry of its own to keep -/
def TgR (K : PySem.W.Frag) (A : Cls) (T : Tg) (g : TG) : Prop := ∀ E S H ρ σ fs d x ρ1 (Q : L2.St → Hp → Prop), Sta K A E S H ρ σ fs → Rep K A S d x → setTg ρ T d = some ρ1 → E.z = none →
      (∀ σ1 fs1, Sta K A E S H ρ1 σ1 fs1 → (∀ j, j ∉ T.slots → σ1[j]? = σ[j]?) → (∀ j, j ∉ T.slots → getS ρ1 j = getS ρ j) → σ1.length = σ.length → Q σ1 H) → g x σ H Q
/-- one reading for all entries -/
theorem tgr_of {T : Tg} {tg : Expr} {scope : Scope} (hg : ∀ (s : Shared) (H : Hp) (C : Addr) (cl : List (Str × Addr)) (fp : List Addr), PGok (X.blk s H scope (compEnvC scope cl C X.env) fp) A tg T) :
    ∃ g : TG, (∀ (s : Shared) (H : Hp) (C : Addr) (cl : List (Str × Addr)) (fp : List Addr), PG (X.blk s H scope (compEnvC scope cl C X.env) fp) tg g) ∧ TgR X.K A T g := by
  refine ⟨fun x σ H Q => ∃ E S ρ fs d ρ1, Sta X.K A E S H ρ σ fs ∧ Rep X.K A S d x ∧ setTg ρ T d = some ρ1 ∧ E.z = none ∧ (∀ σ1 fs1, Sta X.K A E S H ρ1 σ1 fs1 → (∀ j, j ∉ T.slots → σ1[j]? = σ[j]?) → (∀ j, j ∉ T.slots → getS ρ1 j = getS ρ j) → σ1.length = σ.length → Q σ1 H),
      fun s H C cl fp => ?_, fun E S H ρ σ fs d x ρ1 Q st r h hz q => ⟨E, S, ρ, fs, d, ρ1, st, r, h, hz, q⟩⟩
  obtain ⟨g, h1, h2⟩ := hg s H C cl fp
  refine ⟨fun pins s σ H v u Q I r hw => h1.run pins s σ H v u Q I r ?_⟩
  obtain ⟨E, S, ρ, fs, d, ρ1, st, rp, hst, hz, q⟩ := hw
  exact h2 E S H ρ σ fs d v ρ1 Q st rp hst (.inr hz) q
def lcC (ci : Env → Out (List D)) (cc : Env → Out (D × Bool)) (ce : Env → Out D) (T : Tg) (own : List Nat) : Code := fun ρ => (ci ρ).bind fun xs ρ => if own.any fun i => isOw (getS ρ i) then .bad else match collect (lcF cc ce T ρ own) xs with
      | none => .bad
      | some ys => if ys.length ≤ lineD then .ok (.lst ys, true) ρ else .bad
theorem lc_imp {T : Tg} {ci : Env → Out (List D)} {cc : Env → Out (D × Bool)} {ce : Env → Out D} {own : List (Str × Nat)} {g : TG} (hg2 : TgR X.K A T g) (hT : ∀ j ∈ T.slots, j ∈ own.map (·.2)) (sc : Still cc) (se : Still ce) {σ : L2.St} {H : Hp} {Q : VK}
    (hw : tO X.K A W (lcC ci cc ce T (own.map (·.2))) σ H Q) : tLc (tI X.K A W ci) g (tT X.K A (fun _ _ _ _ => False) fun ρ => (cc ρ).tob) (tX X.K A (fun _ _ _ _ => False) ce) (own.map (·.2)) σ H Q := by
  obtain ⟨E, S, ρ, fs, st, p⟩ := hw
  refine ⟨E, S, ρ, fs, st, (Post.bind p).mono fun xs ρ1 S1 H1 fs1 e1 st1 p1 J wk D0 hD => ?_⟩
  -- the answer
  cases hown : (own.map (·.2)).any fun i => isOw (getS ρ1 i) with
  | true => rw [hown, if_pos rfl] at p1; exact p1.elim
  | false =>
  rw [hown, if_neg (by simp)] at p1
  cases hcol : collect (lcF cc ce T ρ1 (own.map (·.2))) xs with
  | none => rw [hcol] at p1; exact p1.elim
  | some ys =>
  rw [hcol] at p1
  dsimp only at p1
  by_cases hlen : ys.length ≤ lineD
  · rw [if_pos hlen] at p1
    have hno : ∀ j ∈ own.map (·.2), isOw (getS ρ1 j) = false := fun j hj => by
      have q := List.any_eq_false.mp hown j hj
      simpa using q
    -- the invariant: so many are told, the rest tells the rest
    let I : Nat → Hp → Prop := fun i Hc => i ≤ xs.length ∧ ∃ Sc fsc zs vs rest, Sta X.K A E Sc Hc ρ1 σ fsc ∧ Same S1 Sc ∧ Hc D0 = some (.lst vs) ∧ Sc D0 = none ∧ (∀ j, D0 ∉ fsc j) ∧ E.gh D0 = none ∧ Reps X.K A Sc zs vs ∧ collect (lcF cc ce T ρ1 (own.map (·.2))) (xs.drop i) = some rest ∧ zs ++ rest = ys
    refine ⟨fun i m Hc => m = xs.length - i ∧ I i Hc, ⟨_, rfl, Nat.zero_le _, S1, fs1, [], [], ys, st1.lay hD, Same.refl S1, upd_same, st1.sub.free hD, fun j hj => ?_, st1.ghost.free hD, Reps.nil, by simpa using hcol, rfl⟩, ?_⟩
    · obtain ⟨_, o, ho⟩ := (st1.slot j).at D0 hj
      rw [hD] at ho
      cases ho
    · rintro i m Hc ⟨rfl, hi, Sc, fsc, zs, vs, rest, stc, ec, hDc, hSD, hfD, hgD, rz, hcol', hzs⟩
      by_cases hlt : i < xs.length
      · right
        have hd : xs[i]? = some xs[i] := List.getElem?_eq_getElem hlt
        refine ⟨wk.go i Hc _ (ec.trans stc.sub) hd, I (i + 1), fun H' hI => ⟨xs.length - (i + 1), by omega, rfl, hI⟩, fun x H' hy => ?_⟩
        rw [List.drop_eq_getElem_cons hlt] at hcol'
        unfold collect at hcol'
        obtain ⟨S', f1, f2, f3, f4, rx⟩ := wk.yld i Hc x H' _ Sc ec stc.sub hy hd
        have stg := stc.grow f1 f2 f3 f4
        have hD' : H' D0 = some (.lst vs) := f2 _ _ hDc
        have hS' : S' D0 = none := by
          cases q : S' D0 with
          | none => rfl
          | some o =>
            rcases f4 _ _ q with z | z
            · rw [hSD] at z; cases z
            · rw [hDc] at z; cases z
        have rz' := Reps.mono f1 _ _ rz
        -- the turn's answer
        cases hF : lcF cc ce T ρ1 (own.map (·.2)) xs[i] with
        | none => rw [hF] at hcol'; cases hcol'
        | some z =>
          rw [hF] at hcol'
          unfold lcF at hF
          cases hset : setTg (wipeE ρ1 (own.map (·.2))) T xs[i] with
          | none => rw [hset] at hF; cases hF
          | some ρ2 =>
            rw [hset] at hF
            dsimp only at hF
            have stg0 : Sta X.K A { E with z := none } S' H' ρ1 σ fsc := ⟨stg.len, stg.sub, stg.slot, stg.dis, stg.ghost, stg.s0, stg.new, stg.snew, fun w hw => by cases hw⟩
            have stw := (stg0.wipe (own := own.map (·.2)) rfl).enter
            refine hg2 _ _ _ _ _ _ _ _ _ _ stw rx hset rfl fun σ2 fs2 st2 k1 k2 k3 => ?_
            have kσ : ∀ j, j ∉ own.map (·.2) → σ2[j]? = σ[j]? := fun j hj => by
              rw [k1 j (fun z => hj (hT j z)), wipe_get hj]
            have kρ : ∀ j, j ∉ own.map (·.2) → getS ρ2 j = getS ρ1 j := fun j hj => by
              rw [k2 j (fun z => hj (hT j z)), wipeE_get, if_neg hj]
            refine ⟨wipe_ext (by rw [k3, wipe_length]) kσ, ?_⟩
            -- back from the turn
            have back : ∀ {S4 H4 : Hp} {σ4 : L2.St} {fs4 : Nat → List Addr} {ρ4 : Env}, ρ4 = ρ2 → σ4 = σ2 → Same S' S4 → Sta X.K A (turnE S' H' fun j => if j ∈ own.map (·.2) then [] else fsc j) S4 H4 ρ4 σ4 fs4 →
                ∃ fs5, Sta X.K A E S4 H4 ρ1 σ fs5 ∧ H4 D0 = some (.lst vs) ∧ S4 D0 = none ∧ (∀ j, D0 ∉ fs5 j) := by
              rintro S4 H4 σ4 fs4 ρ4 rfl rfl e4 st4
              have st5 : Sta X.K A (turnE S' H' fsc) S4 H4 ρ4 σ4 fs4 := by
                have same : (turnE S' H' fun j => if j ∈ own.map (·.2) then [] else fsc j) = turnE S' H' fsc := by
                  have hq : ∀ j, (if j ∈ own.map (·.2) then [] else fsc j) = fsc j := fun j => by
                    by_cases eo : j ∈ own.map (·.2)
                    · rw [if_pos eo]
                      have q := stg.slot j
                      have q3 := hno j eo
                      cases hs : getS ρ1 j with
                      | no => rw [hs] at q; exact q.symm
                      | fz d => rw [hs] at q; exact q.1.symm
                      | ow d => rw [hs] at q3; cases q3
                    · rw [if_neg eo]
                  have hq' : (fun j => if j ∈ own.map (·.2) then [] else fsc j) = fsc := funext hq
                  rw [hq']
                rw [same] at st4
                exact st4
              have st6 := stg.leave (own := own.map (·.2)) st5 e4 kρ kσ hno
              have g0 : (turnE S' H' fsc).gh D0 = some (.lst vs) := by rw [turnE_out hfD]; exact hD'
              have gD := st5.ghost _ _ g0
              refine ⟨_, st6, gD, ?_, fun j hj => ?_⟩
              · cases q : S4 D0 with
                | none => rfl
                | some o =>
                  rcases st5.snew _ _ q with z | z
                  · have z' : S' D0 = some o := z
                    rw [hS'] at z'; cases z'
                  · rw [g0] at z; cases z
              · by_cases eo : j ∈ own.map (·.2)
                · rw [if_pos eo] at hj; simp at hj
                · rw [if_neg eo] at hj
                  have z := st5.new j D0 hj
                  rw [g0] at z
                  cases z
            -- the tests
            have run : Post X.K A (fun _ _ _ _ => False) (turnE S' H' fun j => if j ∈ own.map (·.2) then [] else fsc j) S' σ2 ((cc ρ2).tob) fun b S3 H3 fs3 ρ3 => if b = true then tX X.K A (fun _ _ _ _ => False) ce σ2 H3 (fun y H4 => ∃ acc, H4 D0 = some (.lst acc) ∧ acc.length < sizeLine ∧ I (i + 1) (upd H4 D0 (.lst (acc ++ [y])))) else I (i + 1) H3 := by
              cases hcc : cc ρ2 with
              | ok zb ρ3 =>
                have e3 := sc _ _ _ hcc
                rw [hcc] at hF
                obtain ⟨bd, bo⟩ := zb
                cases bd with
                | bl bb =>
                  cases bb with
                  | true =>
                    dsimp only at hF
                    intro S3 H3 fs3 es3 st3
                    rw [if_pos rfl]
                    refine ⟨_, S3, ρ3, fs3, st3, ?_⟩
                    rw [e3] at st3 ⊢
                    cases hce : ce ρ2 with
                    | ok y ρ4 =>
                      have e4 := se _ _ _ hce
                      rw [hce] at hF
                      cases hF
                      intro S4 H4 fs4 es4 st4 v ry
                      obtain ⟨fs5, st5, b1, b2, b3⟩ := back e4 rfl (es3.trans es4) st4
                      have hl : vs.length < sizeLine := by
                        obtain ⟨r2, _, rfl⟩ := Option.map_eq_some_iff.mp hcol'
                        have hz : (zs ++ y :: r2).length ≤ lineD := by rw [hzs]; exact hlen
                        rw [List.length_append, List.length_cons] at hz
                        rw [rz.len, ← lineD_eq]
                        omega
                      obtain ⟨r2, hr2, hr3⟩ := Option.map_eq_some_iff.mp hcol'
                      refine ⟨vs, b1, hl, by omega, S4, fs5, zs ++ [y], vs ++ [v], r2, st5.aside b2 b3 hgD, ec.trans (f1.trans (es3.trans es4)), upd_same, b2, b3, hgD, (Reps.mono (es3.trans es4) _ _ rz').app (.one ry), hr2, ?_⟩
                      rw [List.append_assoc]
                      show zs ++ (y :: r2) = ys
                      rw [hr3]
                      exact hzs
                    | exn _ _ => rw [hce] at hF; cases hF
                    | bad => rw [hce] at hF; cases hF
                  | false =>
                    dsimp only at hF
                    cases hF
                    intro S3 H3 fs3 es3 st3
                    rw [if_neg (by simp)]
                    obtain ⟨fs5, st5, b1, b2, b3⟩ := back e3 rfl es3 st3
                    exact ⟨by omega, S3, fs5, zs, vs, rest, st5, ec.trans (f1.trans es3), b1, b2, b3, hgD, Reps.mono es3 _ _ rz', hcol', hzs⟩
                | _ => cases hF
              | exn _ _ => rw [hcc] at hF; cases hF
              | bad => rw [hcc] at hF; cases hF
            exact ⟨_, S', ρ2, fs2, st2, run⟩
      · left
        have hii : i = xs.length := by omega
        subst hii
        rw [List.drop_length] at hcol'
        unfold collect at hcol'
        cases hcol'
        rw [List.append_nil] at hzs
        subst hzs
        refine ⟨wk.stop _ Hc (ec.trans stc.sub) (Nat.le_refl _), ?_⟩
        refine p1 Sc Hc fsc ec stc (.ref D0) [D0] ?_ ?_
        · unfold RV
          rw [if_pos rfl]
          exact ⟨D0, vs, rfl, rfl, hSD, hDc, rz⟩
        · intro a ha
          have e : a = D0 := by simpa using ha
          subst e
          exact ⟨hgD, hfD⟩
  · rw [if_neg hlen] at p1
    exact p1.elim
theorem snd_lc {T : Tg} {ci : Env → Out (List D)} {cc : Env → Out (D × Bool)} {ce : Env → Out D} {tg iter elt : Expr} {ifs : List Expr} {scope : Scope} {own : List (Str × Nat)} (hc : X.calm = true) (hN : X.N.Nodup) (hi : PI X tg iter (tI X.K A W ci)) (ok : BlkOk X.N X.env.scope scope own)
    (hg : ∀ (s : Shared) (H : Hp) (C : Addr) (cl : List (Str × Addr)) (fp : List Addr), PGok (X.blk s H scope (compEnvC scope cl C X.env) fp) A tg T)
    (ht : ∀ (s : Shared) (H : Hp) (C : Addr) (cl : List (Str × Addr)) (fp : List Addr), PTs (X.blk s H scope (compEnvC scope cl C X.env) fp) ifs (tT X.K A (fun _ _ _ _ => False) fun ρ => (cc ρ).tob))
    (he : ∀ (s : Shared) (H : Hp) (C : Addr) (cl : List (Str × Addr)) (fp : List Addr), PE (X.blk s H scope (compEnvC scope cl C X.env) fp) elt (tX X.K A (fun _ _ _ _ => False) ce)) (hs : ∀ x, foldedSetIterable iter X.env x = pure x)
    (hT : ∀ j ∈ T.slots, j ∈ own.map (·.2)) (sc : Still cc) (se : Still ce) :
    PE X (.ListComp elt [⟨tg, iter, ifs, 0⟩] scope pos) (tO X.K A W (lcC ci cc ce T (own.map (·.2)))) := by
  obtain ⟨g, hg1, hg2⟩ := tgr_of hg
  exact (pe_lc hc hN hi ok hg1 ht he hs).imp fun σ H Q hw => lc_imp hg2 hT sc se hw
theorem snd_setLc {T : Tg} {ci : Env → Out (List D)} {cc : Env → Out (D × Bool)} {ce : Env → Out D} {tg iter elt : Expr} {ifs : List Expr} {scope : Scope} {own : List (Str × Nat)} {i : Nat} {y : Str} {py spos : Pos} (hc : X.calm = true) (hN : X.N.Nodup) (hy : X.N[i]? = some y) (hyl : X.env.scope.names.lookup y = some .local)
    (hsw : swapsWith (.ListComp elt [⟨tg, iter, ifs, 0⟩] scope pos) (some (.Name y py)) spos.line X.env = pure true) (hi : PI X tg iter (tI X.K A W ci)) (ok : BlkOk X.N X.env.scope scope own)
    (hg : ∀ (s : Shared) (H : Hp) (C : Addr) (cl : List (Str × Addr)) (fp : List Addr), PGok (X.blk s H scope (compEnvC scope cl C X.env) fp) A tg T)
    (ht : ∀ (s : Shared) (H : Hp) (C : Addr) (cl : List (Str × Addr)) (fp : List Addr), PTs (X.blk s H scope (compEnvC scope cl C X.env) fp) ifs (tT X.K A (fun _ _ _ _ => False) fun ρ => (cc ρ).tob))
    (he : ∀ (s : Shared) (H : Hp) (C : Addr) (cl : List (Str × Addr)) (fp : List Addr), PE (X.blk s H scope (compEnvC scope cl C X.env) fp) elt (tX X.K A (fun _ _ _ _ => False) ce)) (hs : ∀ x, foldedSetIterable iter X.env x = pure x)
    (hT : ∀ j ∈ T.slots, j ∈ own.map (·.2)) (sc : Still cc) (se : Still ce) :
    PS X (.Assign [.Name y py] (.ListComp elt [⟨tg, iter, ifs, 0⟩] scope pos) spos) (tAsg (tO X.K A W (lcC ci cc ce T (own.map (·.2)))) (gName i)) := by
  obtain ⟨g, hg1, hg2⟩ := tgr_of hg
  have h := ps_setLc hc hN hy hyl hsw hi ok hg1 ht he hs
  exact ⟨fun pins s σ H D I hw => h.run pins s σ H D I (lc_imp hg2 hT sc se hw)⟩
end
end GW
end

section
/-! C10: statements. -/
namespace GW
open PySem PySem.Spec PyProof.Rows L2 RZ

section
variable (K : PySem.W.Frag) (A : Cls)
def PostS (W : WX) (E : Ent) (S : Hp) (f : GW.Flow) (D : Ends) : Prop := match f with
  | .nx ρ => ∀ S' H' σ fs, Same S S' → Sta K A E S' H' ρ σ fs → D.nx σ H'
  | .rt d o ρ => ∀ S' H' σ fs v fp, Same S S' → Sta K A E S' H' ρ σ fs → RV K A S' H' (d, o) v fp → Apart E fs fp → D.rt v H'
  | .bk ρ => ∀ S' H' σ fs, Same S S' → Sta K A E S' H' ρ σ fs → D.bk σ H'
  | .ct ρ => ∀ S' H' σ fs, Same S S' → Sta K A E S' H' ρ σ fs → D.ct σ H'
  | .exn c ρ => ∀ S' H' σ fs, Same S S' → Sta K A E S' H' ρ σ fs → W (.ref (A.exc c)) none σ H'
  | .bad => False
def tS (mt : Bool) (W : WX) (f : Env → GW.Flow) : TS := fun D σ H => ∃ E S ρ fs, (E.z = none ∨ mt = true) ∧ Sta K A E S H ρ σ fs ∧ PostS K A W E S (f ρ) D
end

section
variable {K : PySem.W.Frag} {A : Cls} {W : WX} {E : Ent} {S S1 H : Hp} {ρ : Env} {σ : L2.St} {fs : Nat → List Addr} {D : Ends} {α : Type}
theorem PostS.up {f : GW.Flow} (e : Same S S1) (h : PostS K A W E S f D) : PostS K A W E S1 f D := by
  cases f with
  | nx ρ => exact fun S' H' σ fs e' s => h S' H' σ fs (e.trans e') s
  | rt d o ρ => exact fun S' H' σ fs v fp e' s => h S' H' σ fs v fp (e.trans e') s
  | bk ρ => exact fun S' H' σ fs e' s => h S' H' σ fs (e.trans e') s
  | ct ρ => exact fun S' H' σ fs e' s => h S' H' σ fs (e.trans e') s
  | exn c ρ => exact fun S' H' σ fs e' s => h S' H' σ fs (e.trans e') s
  | bad => exact h
/-- behind an expression -/
theorem PostS.on {o : Out α} {k : α → Env → GW.Flow} (h : PostS K A W E S (onOut o k) D) : Post K A W E S σ o fun a S' H' fs ρ => PostS K A W E S' (k a ρ) D := by
  cases o with
  | ok a ρ => exact fun S' H' fs e s => PostS.up e h
  | exn c ρ => exact fun S' H' fs e s => h S' H' σ fs e s
  | bad => exact h
theorem PostS.nx (h : PostS K A W E S (.nx ρ) D) (st : Sta K A E S H ρ σ fs) : D.nx σ H := h S H σ fs (Same.refl S) st
theorem okS_of {R : Rt} {is : List Nat} {mt : Bool} (hm : R.meth = mt) (h : okS R is = true) (hz : E.z = none ∨ mt = true) : 0 ∉ is ∨ E.z = none := by
  unfold okS at h
  rcases hz with z | z
  · exact .inr z
  · rw [hm, z] at h
    refine .inl fun q => ?_
    simp only [Bool.true_and, Bool.not_eq_true', List.contains_eq_mem, decide_eq_false_iff_not] at h
    exact h q
end

section
variable {X : Cx} {A : Cls} {W : WX} {e a b c tg : Expr} {pos : Pos} {R : Rt} {mt : Bool}
theorem PS.imp {st : Stmt} {t t' : TS} (h : PS X st t) (q : ∀ D σ H, t' D σ H → t D σ H) : PS X st t' := ⟨fun pins s σ H D I hw => h.run pins s σ H D I (q D σ H hw)⟩
theorem PSs.imp {st : List Stmt} {t t' : TS} (h : PSs X st t) (q : ∀ D σ H, t' D σ H → t D σ H) : PSs X st t' := ⟨fun pins s σ H D I hw => h.run pins s σ H D I (q D σ H hw)⟩
def notComp : Expr → Bool
  | .ListComp .. => false
  | .SetComp .. => false
  | .DictComp .. => false
  | _ => true
theorem swaps_no {e : Expr} {t : Option Expr} {l : Nat} {env : PySem.Env} (h : notComp e = true) : swapsWith e t l env = pure false := by
  cases e <;> first | rfl | cases h
/-- x = e -/
theorem snd_asg_of {st : Stmt} {ce : Code} {i : Nat} (hm : R.meth = mt) (h : PS X st (tAsg (tO X.K A W ce) (gName i))) : PS X st (tS X.K A mt W fun ρ => onOut (ce ρ) fun x ρ => if okS R [i] then .nx (putV ρ i x) else .bad) := by
  refine PS.imp h fun D σ H hw => ?_
  obtain ⟨E, S, ρ, fs, hz, st, p⟩ := hw
  refine ⟨E, S, ρ, fs, st, (PostS.on p).mono fun x ρ1 S1 H1 fs1 e1 st1 p1 v fp r ap => ?_⟩
  cases hk : okS R [i] with
  | false => rw [hk, if_neg (by simp)] at p1; exact p1.elim
  | true =>
    rw [hk, if_pos rfl] at p1
    obtain ⟨fs', st'⟩ := st1.putV (i := i) r ap ((okS_of hm hk hz).imp (fun z q => z (by simp [q])) id)
    exact PostS.nx p1 st'
theorem snd_asg {ce : Code} {i : Nat} {x : Str} {p : Pos} (hm : R.meth = mt) (hN : X.N.Nodup) (hi : X.N[i]? = some x) (hx : Loc X.env.scope x) (hf : X.fn x = true ∨ X.env.scope.names.lookup x = some .local) (he : PE X e (tO X.K A W ce)) (hs : swapsWith e (some (.Name x p)) pos.line X.env = pure false) :
    PS X (.Assign [.Name x p] e pos) (tS X.K A mt W fun ρ => onOut (ce ρ) fun x ρ => if okS R [i] then .nx (putV ρ i x) else .bad) := snd_asg_of hm (ps_set hN hi hx he hs hf)
theorem PG.or {g g' : TG} (h : PG X tg g) (h' : PG X tg g') : PG X tg (fun v σ H Q => g v σ H Q ∨ g' v σ H Q) := ⟨fun pins s σ H v u Q I r hw => hw.elim (h.run pins s σ H v u Q I r) (h'.run pins s σ H v u Q I r)⟩
/-- a, b = e -/
theorem snd_asgT {ce : Env → Out D} {es : List Expr} {is : List Nat} {k : Nat} {p : Pos} (hm : R.meth = mt) (hc : X.calm = true) (hN : X.N.Nodup) (h : Nms X es is) (he : PE X e (tX X.K A W ce)) (hs : swapsWithSole [.Tuple es k p] e pos.line X.env = pure false) (hw : swappedStores [.Tuple es k p] e X.env = pure none) :
    PS X (.Assign [.Tuple es k p] e pos) (tS X.K A mt W fun ρ => onOut (ce ρ) fun x ρ => match unpackv x with
    | some ds => match setTs ρ is ds with
      | some ρ => if okS R is then .nx ρ else .bad
      | none => .bad
    | none => .bad) := by
  refine PS.imp (ps_asg he (PG.or (pg_tup hc (h.pgs hN) h.len.1 h.len.2) (pg_unl hc (h.pgs hN) h.len.1 h.len.2)) hs hw rfl) fun D σ H hw => ?_
  obtain ⟨E, S, ρ, fs, hz, st, p⟩ := hw
  refine ⟨E, S, ρ, fs, st, (PostS.on p).mono fun x ρ1 S1 H1 fs1 e1 st1 p1 v r => ?_⟩
  cases x with
  | tup ds =>
    cases hset : setTs ρ1 is ds with
    | none => unfold unpackv at p1; dsimp only at p1; rw [hset] at p1; exact p1.elim
    | some ρ2 =>
      unfold unpackv at p1; dsimp only at p1; rw [hset] at p1
      cases hk : okS R is with
      | false => rw [hk] at p1; exact p1.elim
      | true =>
        rw [hk] at p1
        obtain ⟨l, vs, rfl, h1, h2⟩ := r.tup_inv
        exact .inl ⟨l, vs, rfl, Same.sqt st1.sub h1, by rw [h2.len, setTs_len hset], gNms_ok st1 h2 hset (okS_of hm hk hz) fun σ1 fs2 st2 _ _ _ => PostS.nx p1 st2⟩
  | lst ds =>
    cases hset : setTs ρ1 is ds with
    | none => unfold unpackv at p1; dsimp only at p1; rw [hset] at p1; exact p1.elim
    | some ρ2 =>
      unfold unpackv at p1; dsimp only at p1; rw [hset] at p1
      cases hk : okS R is with
      | false => rw [hk] at p1; exact p1.elim
      | true =>
        rw [hk] at p1
        obtain ⟨l, vs, rfl, h1, h2⟩ := r.lst_inv
        exact .inr ⟨l, vs, rfl, .inl (Same.rd st1.sub h1), by rw [h2.len, setTs_len hset], gNms_ok st1 h2 hset (okS_of hm hk hz) fun σ1 fs2 st2 _ _ _ => PostS.nx p1 st2⟩
  | _ => exact (show False from p1).elim
/-- a, b = x, y -/
theorem snd_par2 {cs : List Code} {i j : Nat} {x y : Str} {px py pt : Pos} {kt k2 : Nat} {pt2 : Pos} (hm : R.meth = mt) (hc : X.calm = true) (hN : X.N.Nodup) (hi : X.N[i]? = some x) (hj : X.N[j]? = some y) (hij : i ≠ j) (hx : X.env.scope.names.lookup x = some .local) (hy : X.env.scope.names.lookup y = some .local)
    (h : Alls X A W [a, b] cs) (hw : swappedStores [.Tuple [.Name x px, .Name y py] kt pt] (.Tuple [a, b] k2 pt2) X.env = pure (some [x, y])) :
    PS X (.Assign [.Tuple [.Name x px, .Name y py] kt pt] (.Tuple [a, b] k2 pt2) pos) (tS X.K A mt W fun ρ => onOut (evsC cs ρ) fun ds ρ => match setPar ρ [i, j] ds with
    | some ρ => if okS R [i, j] then .nx ρ else .bad
    | none => .bad) := by
  refine PS.imp (ps_par hc hN hi hj hij hx hy h.pa hw rfl) fun D σ H hw => ?_
  obtain ⟨E, S, ρ, fs, hz, st, p⟩ := hw
  refine ⟨E, S, ρ, fs, st, (PostS.on p).mono fun ds ρ1 S1 H1 fs1 e1 st1 p1 vs r => ?_⟩
  cases ds with
  | nil => exact (show False from p1).elim
  | cons d1 ds =>
    cases ds with
    | nil => exact (show False from p1).elim
    | cons d2 ds =>
      cases ds with
      | cons _ _ => exact (show False from p1).elim
      | nil =>
        unfold Reps at r
        obtain ⟨v, r', rfl, r1, r2⟩ := r
        obtain ⟨w, rfl, r3⟩ := reps_one r2
        cases hk : okS R [i, j] with
        | false =>
          dsimp only [setPar, Option.map] at p1
          rw [hk] at p1
          exact p1.elim
        | true =>
          dsimp only [setPar, Option.map] at p1
          rw [hk] at p1
          have hz' := okS_of hm hk hz
          have z1 : i ≠ 0 ∨ E.z = none := hz'.imp (fun z q => z (by simp [q])) id
          have z2 : j ≠ 0 ∨ E.z = none := hz'.imp (fun z q => z (by simp [q])) id
          refine ⟨v, w, rfl, ?_⟩
          have s1 := st1.put' (i := j) r3 z2
          have s2 := s1.put' (i := i) r1 z1
          rw [List.set_comm _ _ hij]
          exact PostS.nx p1 s2
/-- an expression alone -/
theorem snd_exp {ce : Code} (he : PE X e (tO X.K A W ce)) (hs : notComp e = true) : PS X (.Expr e pos) (tS X.K A mt W fun ρ => onOut (ce ρ) fun _ ρ => .nx ρ) := by
  refine PS.imp (ps_expr he (swaps_no hs)) fun D σ H hw => ?_
  obtain ⟨E, S, ρ, fs, hz, st, p⟩ := hw
  exact ⟨E, S, ρ, fs, st, (PostS.on p).mono fun x ρ1 S1 H1 fs1 e1 st1 p1 v fp r ap => PostS.nx p1 st1⟩
theorem snd_ite {cc : Code} {sa sb : List Stmt} {fa fb : Env → GW.Flow} (hc : PT X c (tT X.K A W fun ρ => (cc ρ).tob)) (ha : PSs X sa (tS X.K A mt W fa)) (hb : PSs X sb (tS X.K A mt W fb)) : PS X (.If c sa sb pos) (tS X.K A mt W fun ρ => onOut (cc ρ) fun x ρ => match x.1 with
    | .bl true => fa ρ
    | .bl false => fb ρ
    | _ => .bad) := by
  refine PS.imp (ps_if hc ha hb) fun D σ H hw => ?_
  obtain ⟨E, S, ρ, fs, hz, st, p⟩ := hw
  have q : onOut (cc ρ) (fun x ρ => match x.1 with
    | .bl true => fa ρ
    | .bl false => fb ρ
    | _ => .bad) = onOut ((cc ρ).tob) fun b ρ => if b = true then fa ρ else fb ρ := by
    cases cc ρ with
    | ok x ρ =>
      obtain ⟨d, w⟩ := x
      cases d with
      | bl b => cases b <;> rfl
      | _ => rfl
    | exn c ρ => rfl
    | bad => rfl
  dsimp only at p
  rw [q] at p
  refine ⟨E, S, ρ, fs, st, (PostS.on p).mono fun b ρ1 S1 H1 fs1 e1 st1 p1 => ?_⟩
  cases b with
  | true => exact ⟨E, S1, ρ1, fs1, hz, st1, p1⟩
  | false => exact ⟨E, S1, ρ1, fs1, hz, st1, p1⟩
theorem snd_ret {ce : Code} (he : PE X e (tO X.K A W ce)) : PS X (.Return (some e) pos) (tS X.K A mt W fun ρ => onOut (ce ρ) fun x ρ => .rt x.1 x.2 ρ) := by
  refine PS.imp (ps_ret he) fun D σ H hw => ?_
  obtain ⟨E, S, ρ, fs, hz, st, p⟩ := hw
  exact ⟨E, S, ρ, fs, st, (PostS.on p).mono fun x ρ1 S1 H1 fs1 e1 st1 p1 v fp r ap => p1 S1 H1 σ fs1 v fp (Same.refl S1) st1 r ap⟩
theorem snd_retN : PS X (.Return none pos) (tS X.K A mt W fun ρ => .rt .non false ρ) := by
  refine PS.imp ps_retN fun D σ H hw => ?_
  obtain ⟨E, S, ρ, fs, hz, st, p⟩ := hw
  exact p S H σ fs .non [] (Same.refl S) st (RV.plain Rep.non) Apart.nil
theorem snd_pass : PS X (.Pass pos) (tS X.K A mt W fun ρ => .nx ρ) := by
  refine PS.imp ps_pass fun D σ H hw => ?_
  obtain ⟨E, S, ρ, fs, hz, st, p⟩ := hw
  exact PostS.nx p st
theorem snd_brk : PS X (.Break pos) (tS X.K A mt W fun ρ => .bk ρ) := by
  refine PS.imp ps_break fun D σ H hw => ?_
  obtain ⟨E, S, ρ, fs, hz, st, p⟩ := hw
  exact p S H σ fs (Same.refl S) st
theorem snd_cont : PS X (.Continue pos) (tS X.K A mt W fun ρ => .ct ρ) := by
  refine PS.imp ps_continue fun D σ H hw => ?_
  obtain ⟨E, S, ρ, fs, hz, st, p⟩ := hw
  exact p S H σ fs (Same.refl S) st
theorem snd_raise {G : Prog} {fa : Nat → Addr} {fd : Nat → FuncData} {call : Nat → D → List D → Res} {n k : Nat} {x m : Str} {j : Nat} {p p2 pos2 : Pos} (C : Ctx G A fa fd call n X W) (hk : G.excs[k]? = some x) (hg : Gl X x) (hx : okN x = true) :
    PS X (.Raise (some (.Call (.Name x p) [.Constant (.str m) j p2] [] pos2)) none pos) (tS X.K A mt W fun ρ => .exn k ρ) := by
  obtain ⟨h1, h2, h3, h4, h5, _⟩ := C.facts.exc k x hk
  refine PS.imp (ps_raise C.calm C.tk (pmk_own PySem.F.excBase_ValueError h3 h1 h2 (raises_own h4 h5) hg (okN_dbg hx))) fun D σ H hw => ?_
  obtain ⟨E, S, ρ, fs, hz, st, p⟩ := hw
  exact p S H σ fs (Same.refl S) st
/-- a block -/
theorem snd_nil : PSs X [] (tS X.K A mt W fun ρ => .nx ρ) := by
  refine PSs.imp pss_nil fun D σ H hw => ?_
  obtain ⟨E, S, ρ, fs, hz, st, p⟩ := hw
  exact PostS.nx p st
theorem snd_cons {st : Stmt} {sts : List Stmt} {f g : Env → GW.Flow} (h1 : PS X st (tS X.K A mt W f)) (h2 : PSs X sts (tS X.K A mt W g)) : PSs X (st :: sts) (tS X.K A mt W fun ρ => match f ρ with
    | .nx ρ => g ρ
    | r => r) := by
  refine PSs.imp (pss_cons h1 h2) fun D σ H hw => ?_
  obtain ⟨E, S, ρ, fs, hz, st, p⟩ := hw
  refine ⟨E, S, ρ, fs, hz, st, ?_⟩
  dsimp only at p
  cases hf : f ρ with
  | nx ρ1 =>
    rw [hf] at p
    exact fun S' H' σ' fs' e st' => ⟨E, S', ρ1, fs', hz, st', PostS.up e p⟩
  | rt d o ρ1 => rw [hf] at p; exact p
  | bk ρ1 => rw [hf] at p; exact p
  | ct ρ1 => rw [hf] at p; exact p
  | exn c ρ1 => rw [hf] at p; exact p
  | bad => rw [hf] at p; exact p

/-! ### loops -/
theorem forL_cons {f : D → Env → GW.Flow} {x : D} {xs : List D} {ρ : Env} : forL f (x :: xs) ρ = match f x ρ with
    | .nx ρ => forL f xs ρ
    | .ct ρ => forL f xs ρ
    | .bk ρ => .nx ρ
    | r => r := rfl
theorem snd_for {T : Tg} {ci : Env → Out (List D)} {body : List Stmt} {fb : Env → GW.Flow} {iter : Expr} (hm : R.meth = mt) (hp : PassesOwn (model X.prog X.w) X.A X.env X.xe) (hc : X.calm = true) (hi : PI X tg iter (tI X.K A W ci)) (hg : PGok X A tg T) (hb : PSs X body (tS X.K A mt W fb)) (hs : ∀ x, foldedSetIterable iter X.env x = pure x) :
    PS X (.For tg iter body [] pos) (tS X.K A mt W fun ρ => onOut (ci ρ) fun xs ρ => if okS R T.slots then forL (fun d ρ => match setTg ρ T d with
      | some ρ => fb ρ
      | none => .bad) xs ρ else .bad) := by
  obtain ⟨g, hg1, hg2⟩ := hg
  refine PS.imp (ps_for hp hc hi hg1 hb hs) fun D σ H hw => ?_
  obtain ⟨E, S, ρ, fs, hz, st, p⟩ := hw
  refine ⟨E, S, ρ, fs, st, (PostS.on p).mono fun xs ρ1 S1 H1 fs1 e1 st1 p1 J wk => ?_⟩
  cases hk : okS R T.slots with
  | false => rw [hk, if_neg (by simp)] at p1; exact p1.elim
  | true =>
  rw [hk, if_pos rfl] at p1
  have hz' := okS_of hm hk hz
  let F : GW.D → Env → GW.Flow := fun d ρ => match setTg ρ T d with
      | some ρ => fb ρ
      | none => GW.Flow.bad
  let I : Nat → L2.St → Hp → Prop := fun i σ H => i ≤ xs.length ∧ ∃ Sc ρc fsc, Sta X.K A E Sc H ρc σ fsc ∧ Same S1 Sc ∧ PostS X.K A W E Sc (forL F (xs.drop i) ρc) D
  refine ⟨fun i m σ H => m = xs.length - i ∧ I i σ H, ⟨_, rfl, Nat.zero_le _, S1, ρ1, fs1, st1, Same.refl S1, by simpa using p1⟩, ?_⟩
  rintro i m σ2 H2 ⟨rfl, hle, Sc, ρc, fsc, stc, ec, pc⟩
  by_cases hlt : i < xs.length
  · right
    have hd : xs[i]? = some xs[i] := List.getElem?_eq_getElem hlt
    refine ⟨wk.go i H2 _ (ec.trans stc.sub) hd, I (i + 1), fun σ' H' hI => ⟨xs.length - (i + 1), by omega, rfl, hI⟩, fun x H' hy => ?_⟩
    obtain ⟨S', f1, f2, f3, f4, rx⟩ := wk.yld i H2 x H' _ Sc ec stc.sub hy hd
    have stg := stc.grow f1 f2 f3 f4
    rw [List.drop_eq_getElem_cons hlt, forL_cons] at pc
    cases hset : setTg ρc T xs[i] with
    | none =>
      have hF : F xs[i] ρc = GW.Flow.bad := by show (match setTg ρc T xs[i] with | some ρ => fb ρ | none => GW.Flow.bad) = _; rw [hset]
      rw [hF] at pc
      exact pc.elim
    | some ρ2 =>
      have hF : F xs[i] ρc = fb ρ2 := by show (match setTg ρc T xs[i] with | some ρ => fb ρ | none => GW.Flow.bad) = _; rw [hset]
      rw [hF] at pc
      refine hg2 E S' H' ρc σ2 fsc _ x ρ2 _ stg rx hset hz' fun σ3 fs3 st3 _ _ _ => ⟨E, S', ρ2, fs3, hz, st3, ?_⟩
      have again : ∀ {ρ4 : Env} {S4 H4 : Hp} {σ4 : L2.St} {fs4 : Nat → List Addr}, Same S' S4 → Sta X.K A E S4 H4 ρ4 σ4 fs4 → PostS X.K A W E Sc (forL F (xs.drop (i + 1)) ρ4) D → I (i + 1) σ4 H4 := fun e4 s4 p4 => ⟨by omega, _, _, _, s4, ec.trans (f1.trans e4), PostS.up (f1.trans e4) p4⟩
      cases hb : fb ρ2 with
      | nx ρ4 => rw [hb] at pc; exact fun S4 H4 σ4 fs4 e4 s4 => again e4 s4 pc
      | ct ρ4 => rw [hb] at pc; exact fun S4 H4 σ4 fs4 e4 s4 => again e4 s4 pc
      | bk ρ4 => rw [hb] at pc; exact fun S4 H4 σ4 fs4 e4 s4 => pc S4 H4 σ4 fs4 (f1.trans e4) s4
      | rt d o ρ4 => rw [hb] at pc; exact fun S4 H4 σ4 fs4 v fp e4 s4 => pc S4 H4 σ4 fs4 v fp (f1.trans e4) s4
      | exn c ρ4 => rw [hb] at pc; exact fun S4 H4 σ4 fs4 e4 s4 => pc S4 H4 σ4 fs4 (f1.trans e4) s4
      | bad => rw [hb] at pc; exact pc.elim
  · left
    have hii : i = xs.length := by omega
    subst hii
    rw [List.drop_length] at pc
    exact ⟨wk.stop _ H2 (ec.trans stc.sub) (Nat.le_refl _), pc Sc H2 σ2 fsc (Same.refl _) stc⟩
theorem whlL_succ {c : Env → Out (D × Bool)} {b : Env → GW.Flow} {n : Nat} {ρ : Env} : whlL c b (n + 1) ρ = onOut ((c ρ).tob) fun k ρ => if k = true then (match b ρ with
      | .nx ρ => whlL c b n ρ
      | .ct ρ => whlL c b n ρ
      | .bk ρ => .nx ρ
      | r => r) else .nx ρ := by
  show (match c ρ with
    | .ok (.bl true, _) ρ => match b ρ with
      | .nx ρ => whlL c b n ρ
      | .ct ρ => whlL c b n ρ
      | .bk ρ => .nx ρ
      | r => r
    | .ok (.bl false, _) ρ => .nx ρ
    | .exn c ρ => .exn c ρ
    | _ => .bad) = _
  cases c ρ with
  | ok x ρ =>
    obtain ⟨d, w⟩ := x
    cases d with
    | bl k => cases k <;> rfl
    | _ => rfl
  | exn c ρ => rfl
  | bad => rfl
theorem snd_whl {cc : Code} {body : List Stmt} {fb : Env → GW.Flow} {N : Nat} (hp : PassesOwn (model X.prog X.w) X.A X.env X.xe) (hc : PT X c (tT X.K A W fun ρ => (cc ρ).tob)) (hb : PSs X body (tS X.K A mt W fb)) : PS X (.While c body [] pos) (tS X.K A mt W fun ρ => whlL cc fb N ρ) := by
  refine PS.imp (ps_while hp hc hb) fun D σ H hw => ?_
  obtain ⟨E, S, ρ, fs, hz, st, p⟩ := hw
  refine ⟨fun m σ H => ∃ Sc ρc fsc, Sta X.K A E Sc H ρc σ fsc ∧ PostS X.K A W E Sc (whlL cc fb m ρc) D, ⟨N, S, ρ, fs, st, p⟩, ?_⟩
  rintro m σ2 H2 ⟨Sc, ρc, fsc, stc, pc⟩
  cases m with
  | zero => exact pc.elim
  | succ m =>
    rw [whlL_succ] at pc
    refine ⟨E, Sc, ρc, fsc, stc, (PostS.on pc).mono fun k ρ3 S3 H3 fs3 e3 st3 p3 => ?_⟩
    cases k with
    | false => exact PostS.nx p3 st3
    | true =>
      rw [if_pos rfl] at p3 ⊢
      refine ⟨fun σ' H' => ∃ Sc ρc fsc, Sta X.K A E Sc H' ρc σ' fsc ∧ PostS X.K A W E Sc (whlL cc fb m ρc) D, fun σ' H' h => ⟨m, Nat.lt_succ_self m, h⟩, E, S3, ρ3, fs3, hz, st3, ?_⟩
      cases hb : fb ρ3 with
      | nx ρ4 => rw [hb] at p3; exact fun S4 H4 σ4 fs4 e4 s4 => ⟨_, _, _, s4, PostS.up e4 p3⟩
      | ct ρ4 => rw [hb] at p3; exact fun S4 H4 σ4 fs4 e4 s4 => ⟨_, _, _, s4, PostS.up e4 p3⟩
      | bk ρ4 => rw [hb] at p3; exact fun S4 H4 σ4 fs4 e4 s4 => p3 S4 H4 σ4 fs4 e4 s4
      | rt d o ρ4 => rw [hb] at p3; exact fun S4 H4 σ4 fs4 v fp e4 s4 => p3 S4 H4 σ4 fs4 v fp e4 s4
      | exn c ρ4 => rw [hb] at p3; exact fun S4 H4 σ4 fs4 e4 s4 => p3 S4 H4 σ4 fs4 e4 s4
      | bad => rw [hb] at p3; exact p3.elim
end
end GW
end

section
/-! C11: lists changed in place; an error caught and kept. -/
namespace GW
open PySem PySem.Spec PyProof.Rows L2 RZ

section
variable {X : Cx} {A : Cls} {W : WX} {e a b c tg : Expr} {pos : Pos} {R : Rt} {mt : Bool}
/-- a list of one's own in a slot may be changed -/
theorem Sta.mutL {K : PySem.W.Frag} {E : Ent} {S H : Hp} {ρ : Env} {σ : L2.St} {fs : Nat → List Addr} {i : Nat} {xs : List D} (st : Sta K A E S H ρ σ fs) (h : getS ρ i = .ow (.lst xs)) :
    ∃ a vs, σ[i]? = some (some (.ref a)) ∧ H a = some (.lst vs) ∧ Reps K A S xs vs ∧ ∀ ys us, Reps K A S ys us → Sta K A E S (upd H a (.lst us)) (ρ.set i (.ow (.lst ys))) σ fs := by
  have q := st.slot i
  rw [h] at q
  obtain ⟨v, h1, h2⟩ := q
  obtain ⟨a, vs, rfl, hf, h3, h4, h5⟩ := h2
  have ha : a ∈ fs i := by rw [hf]; simp
  refine ⟨a, vs, h1, h4, h5, fun ys us r => ⟨by rw [List.length_set]; exact st.len, fun b u q => ?_, fun j => ?_, st.dis, fun b u q => ?_, st.s0, st.new, st.snew, st.z⟩⟩
  · rw [upd_ne (fun z => by subst z; rw [h3] at q; cases q)]
    exact st.sub b u q
  · rw [getS_set]
    by_cases e : i = j
    · subst e
      rw [if_pos rfl, if_pos (getS_lt h (by intro z; cases z))]
      exact ⟨_, h1, a, us, rfl, hf, h3, upd_same, r⟩
    · rw [if_neg e]
      exact SlR.keep (Same.refl S) (fun b hb => ⟨((st.slot j).at b hb).1, upd_ne fun z => st.dis i j e a ha (z ▸ hb)⟩) (st.slot j)
  · rw [upd_ne (fun z => by subst z; rw [st.new i b ha] at q; cases q)]
    exact st.ghost b u q
theorem peekO_sl {ρ : Env} {i : Nat} {xs : List D} (h : peekO ρ (.sl i) = some (.lst xs)) : getS ρ i = .ow (.lst xs) := by
  dsimp only [peekO] at h
  cases hs : getS ρ i with
  | no => rw [hs] at h; cases h
  | fz d => rw [hs] at h; cases h
  | ow d =>
    rw [hs] at h
    cases d with
    | ins c fl => cases h
    | lst ys => cases h; rfl
    | _ => cases h
theorem peekO_any {ρ : Env} {p : Pl} {d : D} (h : peekO ρ p = some d) : (∃ xs, d = .lst xs) ∨ ¬ ∃ xs, d = .lst xs := by
  by_cases q : ∃ xs, d = .lst xs
  · exact .inl q
  · exact .inr q
theorem snd_app {ce : Env → Out D} {i : Nat} {x : Str} {p apos cpos : Pos} (hi : PE X (.Name x p) (tVar i)) (he : PE X e (tX X.K A W ce)) (hs : notStar e = true) (hl : (apos.endLine == cpos.line) = true) :
    PS X (.Expr (.Call (.Attribute (.Name x p) "append" apos) [e] [] cpos) pos) (tS X.K A mt W fun ρ => match peekO ρ (.sl i) with
    | some (.lst _) => onOut (ce ρ) fun x ρ => match peekO ρ (.sl i) with
      | some (.lst xs) => if xs.length < lineD then .nx (poke ρ (.lst (xs ++ [x])) (.sl i)) else .bad
      | _ => .bad
    | _ => .bad) := by
  have s1 : starEach [e] X.env = (false, eval e X.env) :: starEach [] X.env := star_of hs
  refine PS.imp (ps_expr (pe_bm PySem.F.plainAttrs_list PySem.F.slot_list_append PySem.F.type_list_append mt_append hi (pa_cons he pa_nil s1) rfl (by rw [s1]; rfl) hl s1 rfl) rfl) fun D σ H hw => ?_
  obtain ⟨E, S, ρ, fs, hz, st, p⟩ := hw
  dsimp only at p
  split at p <;> first | exact p.elim | skip
  rename_i _ xs0 hp0
  obtain ⟨l, vs0, g1, g2, _, _⟩ := st.mutL (peekO_sl hp0)
  refine ⟨.ref l, g1, .inl ⟨rfl, vs0, SqL.of g2⟩, E, S, ρ, fs, st, (PostS.on p).mono fun d ρ1 S1 H1 fs1 e1 st1 p1 y ry => ?_⟩
  split at p1 <;> first | exact p1.elim | skip
  rename_i _ xs hp1
  obtain ⟨l', vs, k1, k2, k3, k4⟩ := st1.mutL (peekO_sl hp1)
  rw [g1] at k1
  cases k1
  by_cases hlt : xs.length < lineD
  · rw [if_pos hlt] at p1
    exact ⟨l, vs, y, rfl, rfl, k2, by rw [k3.len, ← lineD_eq]; exact hlt, PostS.nx p1 (k4 _ _ (k3.app (.one ry)))⟩
  · rw [if_neg hlt] at p1
    exact p1.elim
/-- xs.extend(ys), ys any list that is read -/
def rExtendR : V → List V → Hp → VK → Prop := fun x vs H Q => ∃ l b xs zs, x = .ref l ∧ vs = [.ref b] ∧ H l = some (.lst xs) ∧ Rd H b (.lst zs) ∧ xs.length + zs.length ≤ sizeLine ∧ Q .non (upd H l (.lst (xs ++ zs)))
theorem mt_extendR : MtM X "list.extend" rExtendR := by
  intro pins s σ H x vs v us Q I rx rv h
  obtain ⟨l, b, xs, zs, rfl, rfl, hH, hB, hz, q⟩ := h
  cases rx
  obtain ⟨u, rfl, ru⟩ := rv.one
  cases ru
  obtain ⟨z, its, n, r, hl, e⟩ := I.lstM hH
  obtain ⟨z2, its2, n2, r2, hl2, e2⟩ := Inv.rdL I hB
  have hsz : its.toArray.size + its2.toArray.size ≤ sizeLine := by rw [List.size_toArray, List.size_toArray]; omega
  have hlong : ¬ (!its.toArray.isEmpty && Builtin.List.listTooLong (its.toArray.size + its2.toArray.size)) = true := by
    rw [notLongL hsz, Bool.and_false]
    exact Bool.false_ne_true
  refine call_meets F.slot_list_extend ⟨_, e, rfl⟩ F.entry_list_extend (F.args_list_extend_2 _ _)
    (AutoSeq1.list_extend_list_list_0 l its.toArray n b its2.toArray n2 hlong (by rw [List.size_toArray]; omega) (by omega)) ⟨e, e2, ?_⟩
  refine ⟨.non, _, I.lset (its' := its ++ its2) hH e (by simp) (r.append r2) ?_, rfl, q⟩
  rw [List.length_append]
  omega
theorem snd_ext {ce : Env → Out D} {i : Nat} {x : Str} {p apos cpos : Pos} (hi : PE X (.Name x p) (tVar i)) (he : PE X e (tX X.K A W ce)) (hs : notStar e = true) (hl : (apos.endLine == cpos.line) = true) :
    PS X (.Expr (.Call (.Attribute (.Name x p) "extend" apos) [e] [] cpos) pos) (tS X.K A mt W fun ρ => match peekO ρ (.sl i) with
    | some (.lst _) => onOut (ce ρ) fun x ρ => match peekO ρ (.sl i), x with
      | some (.lst xs), .lst ys => if xs.length + ys.length ≤ lineD then .nx (poke ρ (.lst (xs ++ ys)) (.sl i)) else .bad
      | _, _ => .bad
    | _ => .bad) := by
  have s1 : starEach [e] X.env = (false, eval e X.env) :: starEach [] X.env := star_of hs
  refine PS.imp (ps_expr (pe_bm PySem.F.plainAttrs_list PySem.F.slot_list_extend PySem.F.type_list_extend mt_extendR hi (pa_cons he pa_nil s1) rfl (by rw [s1]; rfl) hl s1 rfl) rfl) fun D σ H hw => ?_
  obtain ⟨E, S, ρ, fs, hz, st, p⟩ := hw
  dsimp only at p
  split at p <;> first | exact p.elim | skip
  rename_i _ xs0 hp0
  obtain ⟨l, vs0, g1, g2, _, _⟩ := st.mutL (peekO_sl hp0)
  refine ⟨.ref l, g1, .inl ⟨rfl, vs0, SqL.of g2⟩, E, S, ρ, fs, st, (PostS.on p).mono fun d ρ1 S1 H1 fs1 e1 st1 p1 y ry => ?_⟩
  split at p1 <;> first | exact p1.elim | skip
  rename_i _ _ xs ys hp1
  obtain ⟨l', vs, k1, k2, k3, k4⟩ := st1.mutL (peekO_sl hp1)
  rw [g1] at k1
  cases k1
  obtain ⟨b, us, rfl, m1, m2⟩ := ry.lst_inv
  by_cases hlt : xs.length + ys.length ≤ lineD
  · rw [if_pos hlt] at p1
    exact ⟨l, b, vs, us, rfl, rfl, k2, Same.rd st1.sub m1, by rw [k3.len, m2.len, ← lineD_eq]; exact hlt, PostS.nx p1 (k4 _ _ (k3.app m2))⟩
  · rw [if_neg hlt] at p1
    exact p1.elim
theorem Reps.drop_app {K : PySem.W.Frag} {S : Hp} {xs : List D} {vs : List V} {d : D} {y : V} (h : Reps K A S xs vs) (r : Rep K A S d y) (n : Nat) : Reps K A S (xs.take n ++ [d] ++ xs.drop n) (vs.take n ++ [y] ++ vs.drop n) :=
  ((h.take n).app (.one r)).app (h.drop n)
theorem snd_insr {ck ce : Env → Out D} {i : Nat} {x : Str} {p apos cpos : Pos} {k : Expr} (hi : PE X (.Name x p) (tVar i)) (hk : PE X k (tX X.K A W ck)) (he : PE X e (tX X.K A W ce)) (hsk : notStar k = true) (hs : notStar e = true) (hl : (apos.endLine == cpos.line) = true) :
    PS X (.Expr (.Call (.Attribute (.Name x p) "insert" apos) [k, e] [] cpos) pos) (tS X.K A mt W fun ρ => match peekO ρ (.sl i) with
    | some (.lst _) => onOut (ck ρ) fun k ρ => onOut (ce ρ) fun x ρ => match peekO ρ (.sl i), k with
      | some (.lst xs), .int j => if 0 ≤ j ∧ j < 2 ^ 63 ∧ xs.length < lineD then .nx (poke ρ (.lst (xs.take j.toNat ++ [x] ++ xs.drop j.toNat)) (.sl i)) else .bad
      | _, _ => .bad
    | _ => .bad) := by
  have s1 : starEach [e] X.env = (false, eval e X.env) :: starEach [] X.env := star_of hs
  have s2 : starEach [k, e] X.env = (false, eval k X.env) :: starEach [e] X.env := star_of hsk
  refine PS.imp (ps_expr (pe_bm PySem.F.plainAttrs_list PySem.F.slot_list_insert PySem.F.type_list_insert mt_insert hi (pa_cons hk (pa_cons he pa_nil s1) s2) rfl (by rw [s2, s1]; rfl) hl s2 (by rw [s1]; rfl)) rfl) fun D σ H hw => ?_
  obtain ⟨E, S, ρ, fs, hz, st, p⟩ := hw
  dsimp only at p
  split at p <;> first | exact p.elim | skip
  rename_i _ xs0 hp0
  obtain ⟨l, vs0, g1, g2, _, _⟩ := st.mutL (peekO_sl hp0)
  refine ⟨.ref l, g1, .inl ⟨rfl, vs0, SqL.of g2⟩, E, S, ρ, fs, st, (PostS.on p).mono fun dk ρ0 S0 H0 fs0 e0 st0 p0 yk rk => ⟨E, S0, ρ0, fs0, st0, (PostS.on p0).mono fun d ρ1 S1 H1 fs1 e1 st1 p1 y ry => ?_⟩⟩
  split at p1 <;> first | exact p1.elim | skip
  rename_i _ _ xs j hp1
  obtain ⟨l', vs, k1, k2, k3, k4⟩ := st1.mutL (peekO_sl hp1)
  rw [g1] at k1
  cases k1
  cases rk.int_inv
  by_cases hlt : 0 ≤ j ∧ j < 2 ^ 63 ∧ xs.length < lineD
  · rw [if_pos hlt] at p1
    exact ⟨l, vs, j, y, rfl, rfl, k2, by rw [k3.len, ← lineD_eq]; exact hlt.2.2, hlt.1, hlt.2.1, PostS.nx p1 (k4 _ _ (Reps.drop_app k3 ry _))⟩
  · rw [if_neg hlt] at p1
    exact p1.elim

/-! ### an error, caught and kept -/
/-- a thing of ours, untracked as yet, is tracked by what is true of it -/
theorem Inv.track {pins : List (Addr × Obj)} {σ : L2.St} {H : Hp} {s : Shared} {a : Addr} {φ : Heap → Prop} (I : L2.Inv X pins σ H s) (n0 : X.s_0.heap.get? a = none) (na : H a = none) (nL : a ≠ X.env.locals) (nC : ∀ x c, X.env.cells.lookup x = some c → c ≠ a) (nP : ∀ p ∈ X.pn ++ pins, p.1 ≠ a)
    (h1 : φ s.heap) (h2 : ∃ o, s.heap.get? a = some o) (h3 : ∀ k1 k2 : Heap, φ k1 → (∀ o, k1.get? a = some o → k2.get? a = some o) → φ k2) : L2.Inv X pins σ (upd H a (.ext φ)) s := by
  have ne0 : ∀ b o, X.s_0.heap.get? b = some o → b ≠ a := fun b o e z => by
    rw [z, n0] at e
    cases e
  refine ⟨I.ok, I.os, I.bare, ⟨I.base.keep, I.base.slot, fun b o e n hq => ?_, I.base.there, fun b xs e => ?_, fun b o u e => ?_, fun b ps e => ?_⟩, I.loc, I.cell, ?_, fun x c e => ?_, fun p hp => ?_, fun b u e => ?_, I.len⟩
  · rw [upd_ne (ne0 b o e)]
    exact I.base.free b o e n hq
  · have q := I.base.tups b xs e
    rw [upd_ne (fun z => by rw [z, na] at q; cases q)]
    exact q
  · have q := I.base.frzs b o u e
    rw [upd_ne (fun z => by rw [z, na] at q; cases q)]
    exact q
  · obtain ⟨m, q⟩ := I.base.tbls b ps e
    exact ⟨m, by rw [upd_ne (fun z => by rw [z, na] at q; cases q)]; exact q⟩
  · rw [upd_ne (fun z => nL z.symm)]
    exact I.free
  · rw [upd_ne (nC x c e)]
    exact I.freeC x c e
  · obtain ⟨e, n, ne, nf, d⟩ := I.pin p hp
    exact ⟨e, by rw [upd_ne (nP p hp)]; exact n, ne, nf, d⟩
  · by_cases hb : b = a
    · subst hb
      rw [upd_same] at e
      cases e
      exact ⟨h1, h2, h3⟩
    · rw [upd_ne hb] at e
      exact (I.hok b u e).stay (fun c v _ q => q) (fun c q => by rw [upd_ne (fun z => by rw [z, na] at q; cases q)]; exact q) fun c xs q => by rw [upd_ne (fun z => by rw [z, na] at q; cases q)]; exact q
/-- what 'except x as n: k = n' wishes of an exception of the body -/
def wKeep (K : PySem.W.Frag) (c : Value) (i k : Nat) (Wout : WX) (D : Ends) : WX := fun cls d σ H =>
  ∃ b, PySem.W.exmOne K cls c = some b ∧ (b = true → ∃ C, cls = .ref C ∧ d = none ∧ ∀ a, H a = none → D.nx ((σ.set k (some (.ref a))).set i none) (upd H a (ExI C a))) ∧ (b = false → Wout cls d σ H)
theorem ps_try_keep {x n y : Str} {c : Value} {i k : Nat} {body : List Stmt} {np pos pos' p1 p2 p3 : Pos} {tb : WX → TS} {Wout : WX} (hs : X.stack = X.env :: X.outer) (hf : X.env.frame = some X.env.locals) (hex : X.ex = []) (hN : X.N.Nodup) (hi : X.N[i]? = some n) (hln : X.env.kindOf n = some .local) (hk : X.N[k]? = some y) (hly : X.env.kindOf y = some .local) (hik : i ≠ k) (hdn : okN n = true) (hc : Names X x c) (tk : Takes X Wout)
    (hb : ∀ (W : WX) (pn : List (Addr × Obj)) (xe : Value → Shared → Prop), Takes (X.tr pn xe) W → PassesOwn (model X.prog X.w) X.A X.env xe → PSs (X.tr pn xe) body (tb W)) :
    PS X (.Try body [.ExceptHandler (some (.Name x np)) (some n) [.Assign [.Name y p1] (.Name n p2) p3] pos'] [] [] pos) (fun D σ H => tb (wKeep X.K c i k Wout D) D σ H) := by
  refine ⟨fun pins s σ H D I h => ?_⟩
  have ok := I.ok
  have hfr : X.A.frames = some (X.env :: X.outer) := by rw [ok.frames, hs]
  have hloc : Loc X.env.scope n := .inl hln
  refine wpAny_Try_except ?_
  refine wpAny_mono ((hb (wKeep X.K c i k Wout D) (X.pn ++ pins) (fun e s₁ => wpAny (model X.prog X.w) X.A (noteFrame e X.env) (fun _ s₂ => wpAny (model X.prog X.w) X.A (setFlight e none) (fun _ s₃ =>
    wpAny (model X.prog X.w) X.A (handleBy e X.env [.ExceptHandler (some (.Name x np)) (some n) [.Assign [.Name y p1] (.Name n p2) p3] pos']) (SP X pins D) X.xe s₃) X.xe s₂) X.xe s₁) (fun u s' xx => ?_) PassesOwn.looking).run [] s σ H D (I.toTry _) h) (fun f s1 hsp => ?_) (fun e s1 he => he)
  · -- the catch
    obtain ⟨a, B, sI, pins', σ', H', cls, d, rfl, J', nb, up, sky, na, os, ag, b, hb1, hyes, hno⟩ := xx
    have J : L2.Inv X pins σ' H' sI := J'.ofTry ok
    have sky' : Sky B (X.env :: X.outer) a (Zc cls d) X.env.locals s'.heap := by rw [← hs]; exact sky
    show wpAny (model X.prog X.w) X.A (noteFrame (.ref a) X.env) _ _ _
    refine Sky.land Zc.steady hfr hf sky' fun h3 fl3 up3 => ?_
    have J3 : L2.Inv X pins σ' H' { s' with heap := h3 } := J.landed nb fl3.1 (up.trans up3) os ag
    obtain ⟨oe3, vs3, he3, hz3, hd3⟩ := fl3.there
    have notFr : ∀ {h : Heap} {o : Obj} {vs : Array Value}, h.FunFrames B (X.env :: X.outer) → h.get? a = some o → o.data = .fields vs → a ∉ frs (X.env :: X.outer) := fun {h o vs} ff e dd hm => by
      obtain ⟨_, o', e', hnf⟩ := ff.mem hm
      rw [e] at e'; cases e'
      exact hnf _ dd
    have nfr := notFr fl3.2.2.1 he3 hd3
    have nL : a ≠ X.env.locals := fun z => nfr (List.mem_filterMap.mpr ⟨X.env, List.mem_cons_self, by rw [hf, z]⟩)
    have nF : a ∉ X.fs := fun hm => by
      obtain ⟨e, he, q⟩ := List.mem_filterMap.mp hm
      exact nfr (List.mem_filterMap.mpr ⟨e, List.mem_cons_of_mem _ he, q⟩)
    have S3 := J3.suite he3 hd3 na nL nF
    refine wpAny_handleBy_cons (codeAny_handlers_test ?_) (by intro q; cases q)
    have LT : PySem.W.Looks (model X.prog X.w) h3 (typeOf (.ref a)) cls := fun A Q E s k q => wpAny_typeOf_ref (k _ _ he3) (by rw [hz3.1]; exact q)
    have LM := PySem.W.exm_one (M := model X.prog X.w) (J3.kIn) LT hb1
    have test : ∀ {Q : Value → Shared → Prop} {E : Value → Shared → Prop}, Q c { s' with heap := h3 } → wpAny (model X.prog X.w) (X.A.mark (some (.ref a))) (eval (.Name x np) X.env) Q E { s' with heap := h3 } := fun {Q E} q => by
      obtain ⟨hg, hdbg, hm | ⟨hm, hv, hnn⟩⟩ := hc
      · exact ld_glob (X := X.suite a ((a, oe3) :: (X.pn ++ pins))) S3 hg hm q hdbg
      · exact ld_blt (X := X.suite a ((a, oe3) :: (X.pn ++ pins))) S3 hg hm hv q hnn hdbg
    -- the error is none of what stood
    have nI : sI.heap.get? a = none := by
      cases e : sI.heap.get? a with
      | none => rfl
      | some o =>
        have z := nb a o e (by rw [hs]; exact nfr)
        rw [fl3.2.1] at z
        cases z
    have n0 : X.s_0.heap.get? a = none := by
      cases e : X.s_0.heap.get? a with
      | none => rfl
      | some o =>
        obtain ⟨o', z⟩ := J.base.there a o e (by rw [hex]; exact fun z => nomatch z)
        rw [nI] at z
        cases z
    have nP : ∀ p ∈ X.pn ++ pins, p.1 ≠ a := fun p hp z => by
      have q := (J.pin p hp).1
      rw [z, nI] at q
      cases q
    refine test (LM.here ?_)
    cases b with
    | true =>
      obtain ⟨C, rfl, rfl, hy2⟩ := hyes rfl
      refine codeAny_handlers_suite_as ?_
      refine HandSPX.lands_againZ fl3 fun h4 fl4 up4 => ?_
      have J4 : L2.Inv X pins σ' H' { s' with heap := h4 } := J.landed nb fl4.1 ((up.trans up3).trans up4) os ag
      obtain ⟨oe4, vs4, he4, hz4, hd4⟩ := fl4.there
      have S4 := J4.suite he4 hd4 na nL nF
      refine store_ok (X := X.suite a ((a, oe4) :: (X.pn ++ pins))) (v := .ref a) S4 hN hi hloc rfl (fun s5 S5 => ?_) (.inr hln)
      have hlen : i < σ'.length := by
        have q := (List.getElem?_eq_some_iff.mp hi).1
        have q2 := J.len
        omega
      -- k = n
      have as : PSs (X.suite a ((a, oe4) :: (X.pn ++ pins))) [.Assign [.Name y p1] (.Name n p2) p3] (tAsg (tVar i) (gName k)) :=
        pss_one (ps_set (X := X.suite a ((a, oe4) :: (X.pn ++ pins))) hN hk (.inl hly) (pe_var (X := X.suite a ((a, oe4) :: (X.pn ++ pins))) hi (.inl hln) (okN_dbg hdn) (okN_cls hdn)) rfl (.inr hly))
      refine wpAny_mono (as.run [] s5 _ H' { nx := fun σ6 H6 => σ6 = (σ'.set i (some (.ref a))).set k (some (.ref a)) ∧ H6 = H', rt := fun _ _ => False } S5 ⟨.ref a, by rw [List.getElem?_set_self hlen], rfl, rfl⟩) (fun f s6 hsp => ?_) (fun _ _ z => False.elim z)
      cases f with
      | next =>
        obtain ⟨σ6, H6, S6, rfl, rfl⟩ := hsp
        obtain ⟨p6, _⟩ := S6.pin (a, oe4) (List.mem_append_left _ List.mem_cons_self)
        have U6 := S6.unsuite ok
        have nC : ∀ x c, X.env.cells.lookup x = some c → c ≠ a := fun x' c' e z => by
          obtain ⟨v, o, q1, q2⟩ := U6.cell x' c' e
          rw [z, p6] at q1
          cases q1
          rw [hd4] at q2
          cases q2
        have T6 := Inv.track (φ := fun h => ∃ (oe : Obj) (vs : Array Value), h.get? a = some oe ∧ Zc (.ref C) none oe ∧ oe.data = .fields vs) U6 n0 na nL nC nP ⟨oe4, vs4, p6, hz4, hd4⟩ ⟨oe4, p6⟩ fun k1 k2 ⟨o, v, q1, q2, q3⟩ kk => ⟨o, v, kk o q1, q2, q3⟩
        refine gone_ok T6 hN hi hln fun s7 J7 => ⟨_, _, J7, ?_⟩
        have hq := hy2 a na
        have e : (σ'.set k (some (V.ref a))).set i none = ((σ'.set i (some (.ref a))).set k (some (.ref a))).set i none := by
          rw [List.set_comm _ _ (fun z => hik z.symm), List.set_comm (some (V.ref a)) none (fun z => hik z.symm), List.set_set]
        rw [← e]
        exact hq
      | brk => obtain ⟨σ6, H6, S6, q6⟩ := hsp; exact False.elim q6
      | cont => obtain ⟨σ6, H6, S6, q6⟩ := hsp; exact False.elim q6
      | ret u => obtain ⟨v6, σ6, H6, S6, r6, q6⟩ := hsp; exact False.elim q6
    | false =>
      show wpAny _ X.A (handleBy (.ref a) X.env []) _ _ _
      refine wpAny_handleBy_nil ?_
      obtain ⟨k1, k2, k3, oe, vs, T, oT, ts', he, hz, hd, h1, hr⟩ := id fl3
      unfold PySem.passOn
      refine wpAny_bind (wpAny_field he hd h1 ?_)
      rw [if_neg (show ¬ ((Value.ref T == Value.none) = true) from by simp)]
      have fin : wpAny (model X.prog X.w) X.A (setFlight (.ref a) X.env.frame) (fun _ s4 => wpAny (model X.prog X.w) X.A (throw (.ref a) : Sem PySem.Flow) (SP X pins D) X.xe s4) X.xe { s' with heap := h3 } := by
        rw [hf]
        refine HandSPX.setFlight_upZ fl3 fun h4 hh4 up4 => wpAny_throw (tk _ _ ?_)
        exact ⟨a, B, sI, pins, σ', H', cls, d, rfl, J, nb, (up.trans up3).trans up4, .inr (.inr (by rw [hs]; exact hh4)), na, os, ag, hno rfl⟩
      first
        | exact wpAny_bind (wpAny_pure (wpAny_bind fin))
        | exact wpAny_bind fin
  · cases f with
    | next =>
      obtain ⟨σ', H', J', q⟩ := hsp
      exact wpAny_execs_nil ⟨σ', H', J'.ofTry ok, q⟩
    | brk =>
      obtain ⟨σ', H', J', q⟩ := hsp
      exact ⟨σ', H', J'.ofTry ok, q⟩
    | cont =>
      obtain ⟨σ', H', J', q⟩ := hsp
      exact ⟨σ', H', J'.ofTry ok, q⟩
    | ret u =>
      obtain ⟨v, σ', H', J', r, q⟩ := hsp
      exact ⟨v, σ', H', J'.ofTry ok, r, q⟩
/-- xs.pop() of a list of one's own -/
theorem snd_pop {i : Nat} {x : Str} {p apos cpos : Pos} (hi : PE X (.Name x p) (tVar i)) (hl : (apos.endLine == cpos.line) = true) :
    PE X (.Call (.Attribute (.Name x p) "pop" apos) [] [] cpos) (tO X.K A W fun ρ => match peekO ρ (.sl i) with
    | some (.lst xs) => match xs.getLast? with
      | some x => .ok (x, false) (poke ρ (.lst xs.dropLast) (.sl i))
      | none => .bad
    | _ => .bad) := by
  refine PE.imp (pe_bm0 PySem.F.plainAttrs_list PySem.F.slot_list_pop PySem.F.type_list_pop mt_pop hi rfl hl) fun σ H Q hw => ?_
  obtain ⟨E, S, ρ, fs, st, p⟩ := hw
  dsimp only at p
  split at p <;> first | exact p.elim | skip
  rename_i _ xs hp
  split at p <;> first | exact p.elim | skip
  rename_i _ y hy
  obtain ⟨l, vs, g1, g2, g3, g4⟩ := st.mutL (peekO_sl hp)
  have hy' : xs[xs.length - 1]? = some y := by rw [← List.getLast?_eq_getElem?]; exact hy
  obtain ⟨v, hv, rv⟩ := g3.get hy'
  have hd : Reps X.K A S xs.dropLast vs.dropLast := by
    rw [List.dropLast_eq_take, List.dropLast_eq_take, g3.len]
    exact g3.take _
  exact ⟨.ref l, g1, .inl ⟨rfl, vs, SqL.of g2⟩, l, vs, v, rfl, rfl, g2, by rw [g3.len]; exact hv, Post.here p (g4 _ _ hd) v [] (by unfold RV; rw [if_neg (by simp)]; exact ⟨rfl, rv⟩) (fun a ha => by simp at ha)⟩
end
end GW
end

section
/-! C12: what leaves the slots as they are; slices; what is only looked at. -/
namespace GW
open PySem PySem.Spec PyProof.Rows L2 RZ

/-! ### nothing changes -/
section
variable {α β : Type}
theorem Still.bind {c : Env → Out α} {f : α → Env → Out β} (h : Still c) (g : ∀ x, Still (f x)) : Still fun ρ => (c ρ).bind f := fun ρ y ρ' e => by
  dsimp only at e
  cases q : c ρ with
  | ok x ρ1 =>
    rw [q] at e
    have z := h ρ x ρ1 q
    have e' : f x ρ1 = .ok y ρ' := e
    rw [z] at e'
    exact g x ρ y ρ' e'
  | exn k ρ1 => rw [q] at e; cases e
  | bad => rw [q] at e; cases e
theorem Still.ok (a : α) : Still fun ρ => (Out.ok a ρ : Out α) := fun ρ x ρ' e => by cases e; rfl
theorem Still.bad : Still fun _ => (Out.bad : Out α) := fun ρ x ρ' e => by cases e
theorem Still.of (o : Option α) : Still fun ρ => Out.of o ρ := fun ρ x ρ' e => by
  cases o with
  | none => cases e
  | some a => cases e; rfl
theorem Still.frz {c : Code} (h : Still c) : Still fun ρ => (c ρ).frz := fun ρ x ρ' e => by
  dsimp only at e
  cases q : c ρ with
  | ok y ρ1 =>
    rw [q] at e
    dsimp only [Out.frz] at e
    split at e
    · cases e
    · cases e
      exact h ρ y _ q
  | exn k ρ1 => rw [q] at e; cases e
  | bad => rw [q] at e; cases e
theorem Still.ite {c : Env → Bool} {f g : Env → Out α} (h : Still f) (h' : Still g) : Still fun ρ => if c ρ = true then f ρ else g ρ := fun ρ x ρ' e => by
  dsimp only at e
  split at e
  · exact h ρ x ρ' e
  · exact h' ρ x ρ' e
end
mutual
theorem ev_still (R : Rt) : ∀ p : Px, Still (ev R true p)
  | .var i => fun ρ x ρ' e => by
    unfold ev at e
    split at e
    · cases e; rfl
    · rw [Bool.true_or, if_pos rfl] at e; cases e
    · cases e
  | .mov i => fun ρ x ρ' e => by
    unfold ev at e
    split at e
    · cases e; rfl
    · rw [if_pos rfl] at e; cases e
    · cases e
  | .int i => fun ρ x ρ' e => by unfold ev at e; cases e; rfl
  | .bl i => fun ρ x ρ' e => by unfold ev at e; cases e; rfl
  | .non => fun ρ x ρ' e => by unfold ev at e; cases e; rfl
  | .str i => fun ρ x ρ' e => by unfold ev at e; cases e; rfl
  | .glo g => fun ρ x ρ' e => by
    unfold ev at e
    split at e
    · cases e; rfl
    · cases e
  | .fld i f => fun ρ x ρ' e => by
    unfold ev at e
    split at e
    · split at e
      · cases e; rfl
      · rw [if_pos rfl] at e; cases e
      · cases e
    · cases e
  | .tup es => fun ρ x ρ' e => by
    unfold ev at e
    exact (Still.bind (evs_still R es) fun _ => Still.ok _) ρ x ρ' e
  | .lst es => fun ρ x ρ' e => by
    unfold ev at e
    exact (Still.bind (evs_still R es) fun _ => Still.ok _) ρ x ρ' e
  | .dct ks es => fun ρ x ρ' e => by
    unfold ev at e
    exact (Still.bind (evs_still R es) fun ds => Still.ite (c := fun _ => _) (Still.ok _) Still.bad) ρ x ρ' e
  | .bin o a b => fun ρ x ρ' e => by
    unfold ev at e
    exact (Still.bind (ev_still R a).frz fun _ => Still.bind (ev_still R b).frz fun _ => Still.of _) ρ x ρ' e
  | .neg a => fun ρ x ρ' e => by
    unfold ev at e
    refine (Still.bind (ev_still R a) fun y => ?_) ρ x ρ' e
    intro ρ x ρ' e
    split at e
    · cases e; rfl
    · cases e
  | .cmp o a b => fun ρ x ρ' e => by
    unfold ev at e
    exact (Still.bind (ev_still R a).frz fun _ => Still.bind (ev_still R b).frz fun _ => Still.bind (Still.of _) fun _ => Still.ok _) ρ x ρ' e
  | .chain o1 o2 a b c => fun ρ x ρ' e => by
    unfold ev at e
    refine (Still.bind (ev_still R a).frz fun _ => Still.bind (ev_still R b).frz fun _ => Still.bind (Still.of _) fun k => ?_) ρ x ρ' e
    exact Still.ite (c := fun _ => k) (Still.bind (ev_still R c).frz fun _ => Still.bind (Still.of _) fun _ => Still.ok _) (Still.ok _)
  | .conj es => fun ρ x ρ' e => by unfold ev at e; exact evAnd_still R es ρ x ρ' e
  | .disj es => fun ρ x ρ' e => by unfold ev at e; exact evOr_still R es ρ x ρ' e
  | .nt a => fun ρ x ρ' e => by
    unfold ev at e
    refine (Still.bind (ev_still R a) fun y => ?_) ρ x ρ' e
    intro ρ x ρ' e
    split at e
    · cases e; rfl
    · cases e
  | .ife t a b => fun ρ x ρ' e => by
    unfold ev at e
    refine (Still.bind (ev_still R t) fun y => ?_) ρ x ρ' e
    intro ρ x ρ' e
    split at e
    · exact ev_still R a ρ x ρ' e
    · exact ev_still R b ρ x ρ' e
    · cases e
  | .ix a i => fun ρ x ρ' e => by
    unfold ev at e
    exact (Still.bind (ev_still R a).frz fun _ => Still.bind (ev_still R i).frz fun _ => Still.bind (Still.of _) fun _ => Still.ok _) ρ x ρ' e
  | .gix g i => fun ρ x ρ' e => by
    unfold ev at e
    refine (Still.bind (ev_still R i).frz fun y => ?_) ρ x ρ' e
    intro ρ x ρ' e
    split at e
    · exact (Still.bind (Still.of _) fun _ => Still.ok _) ρ x ρ' e
    · cases e
  | .dix a i => fun ρ x ρ' e => by
    unfold ev at e
    exact (Still.bind (ev_still R a).frz fun _ => Still.bind (ev_still R i).frz fun _ => Still.bind (Still.of _) fun _ => Still.ok _) ρ x ρ' e
  | .sl a lo hi => fun ρ x ρ' e => by
    unfold ev at e
    exact (Still.bind (ev_still R a).frz fun _ => Still.bind (evs_still R lo) fun _ => Still.bind (Still.of _) fun _ => Still.bind (evs_still R hi) fun _ => Still.bind (Still.of _) fun _ => Still.of _) ρ x ρ' e
  | .rev a => fun ρ x ρ' e => by
    unfold ev at e
    exact (Still.bind (ev_still R a).frz fun _ => Still.of _) ρ x ρ' e
  | .call f es => fun ρ x ρ' e => by
    unfold ev at e
    refine (Still.bind (evs_still R es) fun _ => ?_) ρ x ρ' e
    intro ρ x ρ' e
    split at e <;> cases e
    rfl
  | .bi b es => fun ρ x ρ' e => by
    unfold ev at e
    exact (Still.bind (evs_still R es) fun _ => Still.of _) ρ x ρ' e
  | .isi a t => fun ρ x ρ' e => by
    unfold ev at e
    exact (Still.bind (ev_still R a).frz fun _ => Still.bind (Still.of _) fun _ => Still.ok _) ρ x ρ' e
  | .mt k a es => fun ρ x ρ' e => by
    unfold ev at e
    refine (Still.bind (ev_still R a).frz fun y => ?_) ρ x ρ' e
    exact Still.ite (c := fun _ => _) (Still.bind (evs_still R es) fun _ => Still.of _) Still.bad
  | .bop o p es => fun ρ x ρ' e => by
    unfold ev at e
    split at e <;> first | (cases e; done) | skip
    refine (Still.bind (evs_still R es) fun _ => ?_) ρ x ρ' e
    intro ρ x ρ' e
    dsimp only at e
    split at e
    · exact Still.of _ ρ x ρ' e
    · cases e
  | .pop p => fun ρ x ρ' e => by
    unfold ev at e
    rw [if_pos rfl] at e
    cases e
  | .mcall f i es => fun ρ x ρ' e => by
    unfold ev at e
    rw [if_pos rfl] at e
    cases e
  | .make c f es => fun ρ x ρ' e => by
    unfold ev at e
    refine (Still.bind (evs_still R es) fun _ => ?_) ρ x ρ' e
    intro ρ x ρ' e
    split at e <;> cases e
    rfl
  | .rng es => fun ρ x ρ' e => by
    unfold ev at e
    refine (Still.bind (evs_still R es) fun _ => ?_) ρ x ρ' e
    intro ρ x ρ' e
    split at e <;> cases e
    rfl
  | .zip a b => fun ρ x ρ' e => by
    unfold ev at e
    refine (Still.bind (ev_still R a).frz fun _ => Still.bind (ev_still R b).frz fun _ => ?_) ρ x ρ' e
    intro ρ x ρ' e
    split at e <;> cases e
    rfl
  | .enum a => fun ρ x ρ' e => by
    unfold ev at e
    refine (Still.bind (ev_still R a).frz fun _ => ?_) ρ x ρ' e
    intro ρ x ρ' e
    split at e <;> cases e
    rfl
  | .lc own tg it cond el => fun ρ x ρ' e => by
    unfold ev at e
    refine (Still.bind (ev_still R it).frz fun _ => ?_) ρ x ρ' e
    intro ρ x ρ' e
    dsimp only at e
    split at e
    · cases e
    · split at e
      · cases e
      · split at e
        · cases e
        · split at e <;> cases e
          rfl
theorem evs_still (R : Rt) : ∀ es : List Px, Still (evs R true es)
  | [] => fun ρ x ρ' e => by unfold evs at e; cases e; rfl
  | p :: ps => fun ρ x ρ' e => by
    unfold evs at e
    exact (Still.bind (ev_still R p).frz fun _ => Still.bind (evs_still R ps) fun _ => Still.ok _) ρ x ρ' e
theorem evAnd_still (R : Rt) : ∀ es : List Px, Still (evAnd R true es)
  | [] => fun ρ x ρ' e => by unfold evAnd at e; cases e; rfl
  | p :: ps => fun ρ x ρ' e => by
    unfold evAnd at e
    refine (Still.bind (ev_still R p) fun y => ?_) ρ x ρ' e
    intro ρ x ρ' e
    split at e
    · exact evAnd_still R ps ρ x ρ' e
    · cases e; rfl
    · cases e
theorem evOr_still (R : Rt) : ∀ es : List Px, Still (evOr R true es)
  | [] => fun ρ x ρ' e => by unfold evOr at e; cases e; rfl
  | p :: ps => fun ρ x ρ' e => by
    unfold evOr at e
    refine (Still.bind (ev_still R p) fun y => ?_) ρ x ρ' e
    intro ρ x ρ' e
    split at e
    · cases e; rfl
    · exact evOr_still R ps ρ x ρ' e
    · cases e
end

section
variable {X : Cx} {A : Cls} {W : WX} {e a b c tg : Expr} {pos : Pos}
/-! ### slices -/
theorem Reps.rev {K : PySem.W.Frag} {S : Hp} : ∀ {ds : List D} {vs : List V}, Reps K A S ds vs → Reps K A S ds.reverse vs.reverse
  | [], vs, h => by
    unfold Reps at h
    subst h
    exact Reps.nil
  | d :: ds, vs, h => by
    unfold Reps at h
    obtain ⟨v, r, rfl, h2, h3⟩ := h
    rw [List.reverse_cons, List.reverse_cons]
    exact (Reps.rev h3).app (.one h2)
theorem cutN_eq (n d : Nat) (o : Option Int) : cutN n d o = HT.sIx n d o := by cases o <;> rfl
theorem cutL_all {α : Type} {xs : List α} {lo hi : Option Int} (e : cutN xs.length 0 lo = 0 ∧ cutN xs.length xs.length hi = xs.length) : cutL xs lo hi = xs := by
  unfold cutL
  rw [e.1, e.2, List.drop_zero, Nat.sub_zero, List.take_length]
theorem cutL_len {α : Type} (xs : List α) (lo hi : Option Int) : (cutL xs lo hi).length ≤ xs.length := by
  unfold cutL
  rw [List.length_take, List.length_drop]
  omega
theorem Reps.cut {K : PySem.W.Frag} {S : Hp} {ds : List D} {vs : List V} (r : Reps K A S ds vs) (lo hi : Option Int) : Reps K A S (cutL ds lo hi) (cutV vs lo hi) := by
  unfold cutL cutV
  rw [← cutN_eq, ← cutN_eq, r.len]
  exact (r.drop _).take _
/-- the parts of a slice -/
inductive Parts (X : Cx) (A : Cls) (W : WX) : Option Expr → List Code → Prop
  | none : Parts X A W none []
  | some {e : Expr} {c : Code} : PE X e (tO X.K A W c) → Parts X A W (some e) [c]
def tPt (K : PySem.W.Frag) (A : Cls) (W : WX) (c : Env → Out (List D)) : TO := fun σ H Q => ∃ E S ρ fs, Sta K A E S H ρ σ fs ∧ Post K A W E S σ ((c ρ).bind fun l ρ => Out.of (partv l) ρ) fun o S' H' _ _ => Q o H'
theorem Parts.po {o : Option Expr} {cs : List Code} (h : Parts X A W o cs) : PO X o (tPt X.K A W (evsC cs)) := by
  cases h with
  | none =>
    refine ⟨fun pins s σ H Q I hw => po_none.run pins s σ H Q I ?_⟩
    obtain ⟨E, S, ρ, fs, st, p⟩ := hw
    exact Post.here (show Post X.K A W E S σ (Out.ok (Option.none : Option Int) ρ) _ from p) st
  | @some e c h =>
    refine ⟨fun pins s σ H Q I hw => (po_some h.frz).run pins s σ H Q I ?_⟩
    obtain ⟨E, S, ρ, fs, st, p⟩ := hw
    have e1 : ((evsC [c] ρ).bind fun l ρ => Out.of (partv l) ρ) = (c ρ).frz.bind fun d ρ => Out.of (partv [d]) ρ := by
      unfold evsC
      rw [Out.bind_assoc]
      rfl
    rw [e1] at p
    refine ⟨E, S, ρ, fs, st, (Post.bind p).mono fun d ρ1 S1 H1 fs1 e1 st1 p1 v r => ?_⟩
    cases d with
    | int i =>
      cases r.int_inv
      exact ⟨i, rfl, Post.here (show Post X.K A W E S1 σ (Out.ok (Option.some i) ρ1) _ from p1) st1⟩
    | _ => exact (show False from p1).elim
def rSl (K : PySem.W.Frag) (A : Cls) : V → Option Int → Option Int → Hp → VK → Prop := fun x lo hi H Q => ∃ S d z, Same S H ∧ Rep K A S d x ∧ slv d lo hi = some z ∧ Tells K A z S H Q
theorem sl_any : L2.SlR X (rSl X.K A) := by
  intro pins s σ H x v vl vu lo hi sl Q I rx hs pl pu h
  obtain ⟨S, d, z, sub, r, hz, t⟩ := h
  unfold slv at hz
  split at hz <;> first | contradiction | skip
  · cases hz
    obtain ⟨a, vs, rfl, h1, h2⟩ := r.lst_inv
    exact sl_list pins s σ H _ v vl vu lo hi sl Q I rx hs pl pu ⟨a, vs, rfl, .inl (Same.rd sub h1), t.lst sub (h2.cut lo hi)⟩
  · cases hz
    have r' := r
    obtain ⟨a, vs, rfl, h1, h2⟩ := r'.tup_inv
    refine sl_tupA pins s σ H _ v vl vu lo hi sl Q I rx hs pl pu ⟨a, vs, rfl, Same.sqt sub h1, fun e => ?_, fun _ => t.tup sub (h2.cut lo hi)⟩
    rw [← cutN_eq, ← cutN_eq, h2.len] at e
    rw [cutL_all e] at t
    exact t.now sub r
  · split at hz <;> first | contradiction | skip
    rename_i hl
    cases hz
    cases r.str_inv
    refine sl_str pins s σ H _ v vl vu lo hi sl Q I rx hs pl pu ⟨_, rfl, lineD_eq ▸ hl, ?_⟩
    have q := t.now sub (Rep.str _)
    unfold cutS
    unfold cutL at q
    rw [cutN_eq, cutN_eq] at q
    exact q
theorem snd_sl {ca : Env → Out D} {lo hi : Option Expr} {cl ch : List Code} {p2 : Pos} (ha : PE X a (tX X.K A W ca)) (hl : Parts X A W lo cl) (hh : Parts X A W hi ch) : PE X (.Subscript a (.Slice lo hi none p2) pos) (tO X.K A W fun ρ => (ca ρ).bind fun x ρ => (evsC cl ρ).bind fun l ρ => (Out.of (partv l) ρ).bind fun l ρ => (evsC ch ρ).bind fun h ρ => (Out.of (partv h) ρ).bind fun h ρ => Out.of (slv x l h) ρ) := by
  refine (pe_slice (sl_any (A := A)) ha hl.po hh.po).imp fun σ H Q hw => ?_
  obtain ⟨E, S, ρ, fs, st, p⟩ := hw
  refine ⟨E, S, ρ, fs, st, (Post.bind p).mono fun d ρ1 S1 H1 fs1 e1 st1 p1 v r => ⟨E, S1, ρ1, fs1, st1, ?_⟩⟩
  rw [← Out.bind_assoc] at p1
  refine (Post.bind p1).mono fun l ρ2 S2 H2 fs2 e2 st2 p2 => ⟨E, S2, ρ2, fs2, st2, ?_⟩
  rw [← Out.bind_assoc] at p2
  refine (Post.bind p2).mono fun h ρ3 S3 H3 fs3 e3 st3 p3 => ?_
  cases hz : slv d l h with
  | none => rw [hz] at p3; exact p3.elim
  | some z =>
    rw [hz] at p3
    exact ⟨S3, d, z, st3.sub, Rep.mono (e2.trans e3) _ _ r, hz, tells_of st3 fun S' H' v fp e st' r ap => p3 S' H' fs3 e st' v fp r ap⟩
theorem snd_rev {ca : Env → Out D} {k : Nat} {p1 p2 p3 : Pos} (ha : PE X a (tX X.K A W ca)) : PE X (.Subscript a (.Slice none none (some (.UnaryOp .USub (.Constant (.int 1) k p1) p2)) p3) pos) (tO X.K A W fun ρ => (ca ρ).bind fun x ρ => Out.of (revv x) ρ) := by
  refine (pe_revL ha).imp fun σ H Q hw => ?_
  obtain ⟨E, S, ρ, fs, st, p⟩ := hw
  refine ⟨E, S, ρ, fs, st, (Post.bind p).mono fun d ρ1 S1 H1 fs1 e1 st1 p1 v r => ?_⟩
  cases d with
  | lst ds =>
    obtain ⟨l, vs, rfl, h1, h2⟩ := r.lst_inv
    refine ⟨l, vs, rfl, .inl (Same.rd st1.sub h1), ?_⟩
    refine (tells_of (z := (.lst ds.reverse, true)) st1 fun S' H' v fp e st' r ap => p1 S' H' fs1 e st' v fp r ap).lst st1.sub ?_
    exact Reps.rev h2
  | _ => exact (show False from p1).elim
end
end GW
end

section
/-! C13: what is only looked at; which Python a text of the small language is; that it tells the same. -/
namespace GW
open PySem PySem.Spec PyProof.Rows L2 RZ

section
variable {X : Cx} {A : Cls} {W : WX} {e a b c tg : Expr} {pos : Pos}
theorem own_rep {K : PySem.W.Frag} {S H : Hp} {d : D} {v : V} {fp : List Addr} (sub : Same S H) (h : Own K A S H d v fp) (hi : d.isIns = false) : Rep K A H d v ∧ ∀ xs, d = .lst xs → ∃ a vs, v = .ref a ∧ Rd H a (.lst vs) ∧ Reps K A S xs vs := by
  cases d with
  | lst ds =>
    obtain ⟨a, vs, rfl, rfl, h1, h2, h3⟩ := h
    refine ⟨?_, fun xs e => ?_⟩
    · unfold Rep
      exact ⟨a, vs, rfl, .inl h2, Reps.mono sub _ _ h3⟩
    · cases e
      exact ⟨a, vs, rfl, .inl h2, h3⟩
  | dic kvs =>
    obtain ⟨a, vs, rfl, rfl, h1, h2, h3⟩ := h
    refine ⟨?_, fun xs e => by cases e⟩
    unfold Rep
    exact ⟨a, vs, rfl, .inl h2, RepsK.mono sub _ _ h3⟩
  | ins c fl => cases hi
  | non => exact (show False from h).elim
  | bl x => exact (show False from h).elim
  | int x => exact (show False from h).elim
  | str x => exact (show False from h).elim
  | tup x => exact (show False from h).elim
  | exc x => exact (show False from h).elim
theorem Sta.peek {K : PySem.W.Frag} {E : Ent} {S H : Hp} {ρ : Env} {σ : L2.St} {fs : Nat → List Addr} {i : Nat} {d : D} (st : Sta K A E S H ρ σ fs) (h : peek ρ (.sl i) = some d) :
    ∃ v, σ[i]? = some (some v) ∧ Rep K A H d v ∧ ∀ xs, d = .lst xs → ∃ a vs, v = .ref a ∧ Rd H a (.lst vs) ∧ Reps K A S xs vs := by
  dsimp only [GW.peek] at h
  have q := st.slot i
  cases hs : getS ρ i with
  | no => rw [hs] at h; cases h
  | fz d' =>
    rw [hs] at h q
    cases h
    obtain ⟨_, v, h1, h2⟩ := q
    refine ⟨v, h1, Rep.mono st.sub _ _ h2, fun xs e => ?_⟩
    subst e
    obtain ⟨a, vs, e, k1, k2⟩ := h2.lst_inv
    exact ⟨a, vs, e, Same.rd st.sub k1, k2⟩
  | ow d' =>
    rw [hs] at h q
    obtain ⟨v, h1, h2⟩ := q
    cases d' with
    | ins c fl => cases h
    | _ => cases h; exact ⟨v, h1, own_rep st.sub h2 rfl⟩
/-- behind a look that tells a plain value -/
theorem look_int {E : Ent} {S H : Hp} {ρ : Env} {σ : L2.St} {fs : Nat → List Addr} {Q : VK} {d : D} {v : V} (st : Sta X.K A E S H ρ σ fs) (hd : ∀ S' w, Rep X.K A S' d w → w = v) (p : ∀ S' H' fs', Same S S' → Sta X.K A E S' H' ρ σ fs' → Q v H') : Tells X.K A (d, false) H H Q := fun S' H' w fp e1 e2 e3 n r ap => by
  unfold RV at r
  rw [if_neg (by simp)] at r
  rw [hd _ _ r.2]
  exact p S H' fs (Same.refl S) (st.grow (Same.refl S) e2 (st.sub.trans e2) fun _ _ q => .inl q)
/-- two looks at a place, before and behind -/
def bopC (o : Bo) (i : Nat) (cs : List Code) : Code := fun ρ => match peek ρ (.sl i) with
    | some _ => (evsC cs ρ).bind fun ds ρ => match peek ρ (.sl i) with
      | some d => Out.of (bov o d ds) ρ
      | none => .bad
    | none => .bad
theorem bop_start {o : Bo} {i : Nat} {cs : List Code} {σ : L2.St} {H : Hp} {Q : VK} (hw : tO X.K A W (bopC o i cs) σ H Q) : ∃ v, σ[i]? = some (some v) ∧ ∃ E S ρ fs, Sta X.K A E S H ρ σ fs ∧ Post X.K A W E S σ (evsC cs ρ) fun ds S1 H1 fs1 ρ1 => ∃ d z, bov o d ds = some z ∧ Rep X.K A H1 d v ∧ (∀ xs, d = .lst xs → ∃ a vs, v = .ref a ∧ Rd H1 a (.lst vs) ∧ Reps X.K A S1 xs vs) ∧
    Sta X.K A E S1 H1 ρ1 σ fs1 ∧ ∀ S' H' fs' w fp, Same S1 S' → Sta X.K A E S' H' ρ1 σ fs' → RV X.K A S' H' z w fp → Apart E fs' fp → Q w H' := by
  obtain ⟨E, S, ρ, fs, st, p⟩ := hw
  unfold bopC at p
  cases hp : peek ρ (.sl i) with
  | none => rw [hp] at p; exact p.elim
  | some d0 =>
    rw [hp] at p
    obtain ⟨v, h1, _, _⟩ := st.peek hp
    refine ⟨v, h1, E, S, ρ, fs, st, (Post.bind p).mono fun ds ρ1 S1 H1 fs1 e1 st1 p1 => ?_⟩
    cases hp1 : peek ρ1 (.sl i) with
    | none => rw [hp1] at p1; exact p1.elim
    | some d =>
      rw [hp1] at p1
      obtain ⟨v', g1, g2, g3⟩ := st1.peek hp1
      rw [h1] at g1
      cases g1
      dsimp only at p1
      cases hz : bov o d ds with
      | none => rw [hz] at p1; exact p1.elim
      | some z =>
        rw [hz] at p1
        exact ⟨d, z, hz, g2, g3, st1, fun S' H' fs' w fp e s r ap => p1 S' H' fs' e s w fp r ap⟩
theorem snd_blen {i : Nat} {x : Str} {p p2 : Pos} {G : Prog} {fa : Nat → Addr} {fd : Nat → FuncData} {call : Nat → D → List D → Res} {n : Nat} (C : Ctx G A fa fd call n X W) (hg : Gl X "len") (hi : PE X (.Name x p2) (tVar i)) :
    PE X (.Call (.Name "len" p) [.Name x p2] [] pos) (tO X.K A W (bopC .len i [])) := by
  refine (pe_callB (cr_len (A := A)) hg (C.facts.blt _ (by decide +kernel)) (by decide +kernel) (pa_cons hi pa_nil) (by decide +kernel) (by decide +kernel)).imp fun σ H Q hw => ?_
  obtain ⟨v, h1, E, S, ρ, fs, st, p⟩ := bop_start hw
  obtain ⟨d, z, hz, h2, _, st1, q⟩ := Post.here (show Post X.K A W E S σ (Out.ok [] ρ) _ from p) st
  refine ⟨v, h1, H, [d], Same.refl H, .one h2, z, hz, ?_⟩
  obtain ⟨zd, zo⟩ := z
  have hzi : ∃ n : Int, zd = .int n ∧ zo = false := by
    have hz : biv .len [d] = some (zd, zo) := hz
    unfold biv at hz
    split at hz <;> first | contradiction | skip
    · cases hz; exact ⟨_, rfl, rfl⟩
    · cases hz; exact ⟨_, rfl, rfl⟩
    · split at hz <;> first | contradiction | skip
      cases hz; exact ⟨_, rfl, rfl⟩
  obtain ⟨n, rfl, rfl⟩ := hzi
  exact look_int st1 (v := .int n) (fun S' w r => r.int_inv) fun S' H' fs' e s => q S' H' fs' _ [] e s (RV.plain (Rep.int n)) Apart.nil
theorem evsC_one {c : Code} {ρ : Env} : evsC [c] ρ = (c ρ).frz.bind fun d ρ => .ok [d] ρ := by
  unfold evsC
  congr 1
theorem bov_ix {d y : D} {z : D × Bool} (h : bov .ix d [y] = some z) : ∃ xs i z', d = .lst xs ∧ y = .int i ∧ ixL xs i = some z' ∧ z = (z', false) := by
  unfold bov at h
  split at h <;> first | contradiction | skip
  rename_i xs i h1 
  obtain ⟨z', hz', rfl⟩ := Option.map_eq_some_iff.mp h
  cases h1
  exact ⟨_, _, z', rfl, rfl, hz', rfl⟩
theorem snd_bix {ce : Code} {i : Nat} {x : Str} {p2 : Pos} (hi : PE X (.Name x p2) (tVar i)) (hb : PE X b (tO X.K A W ce)) (hs : notSlice b = true) : PE X (.Subscript (.Name x p2) b pos) (tO X.K A W (bopC .ix i [ce])) := by
  refine (pe_ix ix_list hi hb.frz (plainIx hs)).imp fun σ H Q hw => ?_
  obtain ⟨v, h1, E, S, ρ, fs, st, p⟩ := bop_start hw
  rw [evsC_one] at p
  refine ⟨v, h1, E, S, ρ, fs, st, (Post.bind p).mono fun dj ρ1 S1 H1 fs1 e1 st1 p1 y ry => ?_⟩
  obtain ⟨d, z, hz, _, h3, _, q⟩ := Post.here p1 st1
  obtain ⟨xs, i, z', rfl, rfl, hz', rfl⟩ := bov_ix hz
  obtain ⟨l, vs, rfl, g1, g2⟩ := h3 _ rfl
  cases ry.int_inv
  obtain ⟨w, k1, k2⟩ := g2.atI hz'
  exact ⟨l, vs, _, w, rfl, rfl, .inl g1, k1, q S1 H1 fs1 w [] (Same.refl _) st1 (RV.plain k2) Apart.nil⟩
def Bo.cop : Bo → Option COp
  | .eq => some .eq
  | .ne => some .ne
  | _ => none
/-- a look compared with something -/
theorem snd_bcmp {ce : Code} {i : Nat} {x : Str} {p2 : Pos} {o : Bo} {k : COp} (hu : X.A.units + 65 < cLine) (ho : o.cop = some k) (hm : behindInMarks k.py b = false) (hi : PE X (.Name x p2) (tVar i)) (hb : PE X b (tO X.K A W ce)) :
    PE X (.Compare (.Name x p2) [k.py] [b] pos) (tO X.K A W (bopC o i [ce])) ∧ PT X (.Compare (.Name x p2) [k.py] [b] pos) (tT X.K A W fun ρ => (bopC o i [ce] ρ).tob) := by
  have hbv : ∀ d y, bov o d [y] = (cmpv k d y).map fun c => (.bl c, false) := fun d y => by
    cases o <;> cases ho <;> rfl
  have key : ∀ σ H Q, tO X.K A W (bopC o i [ce]) σ H Q → tOp (rC X.K A (cmpv k)) (tVar i) (tX X.K A W fun ρ => (ce ρ).frz) σ H Q := fun σ H Q hw => by
    obtain ⟨v, h1, E, S, ρ, fs, st, p⟩ := bop_start hw
    rw [evsC_one] at p
    refine ⟨v, h1, E, S, ρ, fs, st, (Post.bind p).mono fun dj ρ1 S1 H1 fs1 e1 st1 p1 y ry => ?_⟩
    obtain ⟨d, z, hz, h2, _, _, q⟩ := Post.here p1 st1
    rw [hbv] at hz
    obtain ⟨z', hz', rfl⟩ := Option.map_eq_some_iff.mp hz
    exact ⟨H1, d, dj, Same.refl _, h2, Rep.mono st1.sub _ _ ry, z', hz', q S1 H1 fs1 _ [] (Same.refl _) st1 (RV.plain (Rep.bl z')) Apart.nil⟩
  refine ⟨(pe_cmpR (op_cmp (A := A) hu k) hi hb.frz hm).imp key, (pt_cmpR (op_cmp (A := A) hu k) hi hb.frz hm).imp fun σ H Q hw => key σ H _ ?_⟩
  obtain ⟨E, S, ρ, fs, st, p⟩ := hw
  refine ⟨E, S, ρ, fs, st, (Post.bind p).mono fun x ρ' S' H' fs' e1 st' q v fp r ap => ?_⟩
  obtain ⟨d, o⟩ := x
  cases d with
  | bl b =>
    have q' : Q b H' := q S' H' fs' (Same.refl S') st'
    unfold RV at r
    cases o with
    | false =>
      rw [if_neg (by simp)] at r
      cases r.2.bl_inv
      exact ⟨b, rfl, q'⟩
    | true =>
      rw [if_pos rfl] at r
      exact r.elim
  | _ => exact (show False from q).elim
def Bo.kop : Bo → Option COp
  | .in_ => some .in_
  | .nin => some .nin
  | _ => none
/-- something sought in what is looked at -/
theorem snd_bin_ {ce : Code} {i : Nat} {x : Str} {p2 : Pos} {o : Bo} {k : COp} (hu : X.A.units + 65 < cLine) (ho : o.kop = some k) (hi : PE X (.Name x p2) (tVar i)) (ha : PE X a (tO X.K A W ce)) :
    PE X (.Compare a [k.py] [.Name x p2] pos) (tO X.K A W (bopC o i [ce])) ∧ PT X (.Compare a [k.py] [.Name x p2] pos) (tT X.K A W fun ρ => (bopC o i [ce] ρ).tob) := by
  have hbv : ∀ d y, bov o d [y] = (cmpv k y d).map fun c => (.bl c, false) := fun d y => by
    cases o <;> cases ho <;> rfl
  have key : ∀ σ H Q, tO X.K A W (bopC o i [ce]) σ H Q → tOp (rC X.K A (cmpv k)) (tX X.K A W fun ρ => (ce ρ).frz) (tVar i) σ H Q := fun σ H Q hw => by
    obtain ⟨v, h1, E, S, ρ, fs, st, p⟩ := bop_start hw
    rw [evsC_one] at p
    refine ⟨E, S, ρ, fs, st, (Post.bind p).mono fun dj ρ1 S1 H1 fs1 e1 st1 p1 y ry => ⟨v, h1, ?_⟩⟩
    obtain ⟨d, z, hz, h2, _, _, q⟩ := Post.here p1 st1
    rw [hbv] at hz
    obtain ⟨z', hz', rfl⟩ := Option.map_eq_some_iff.mp hz
    exact ⟨H1, dj, d, Same.refl _, Rep.mono st1.sub _ _ ry, h2, z', hz', q S1 H1 fs1 _ [] (Same.refl _) st1 (RV.plain (Rep.bl z')) Apart.nil⟩
  refine ⟨(pe_cmpR (op_cmp (A := A) hu k) ha.frz hi rfl).imp key, (pt_cmpR (op_cmp (A := A) hu k) ha.frz hi rfl).imp fun σ H Q hw => key σ H _ ?_⟩
  obtain ⟨E, S, ρ, fs, st, p⟩ := hw
  refine ⟨E, S, ρ, fs, st, (Post.bind p).mono fun x ρ' S' H' fs' e1 st' q v fp r ap => ?_⟩
  obtain ⟨d, o⟩ := x
  cases d with
  | bl b =>
    have q' : Q b H' := q S' H' fs' (Same.refl S') st'
    unfold RV at r
    cases o with
    | false =>
      rw [if_neg (by simp)] at r
      cases r.2.bl_inv
      exact ⟨b, rfl, q'⟩
    | true =>
      rw [if_pos rfl] at r
      exact r.elim
  | _ => exact (show False from q).elim

/-! ### methods that change nothing -/
def notCall : Expr → Bool
  | .Call .. => false
  | _ => true
theorem base_of {o : Expr} {name : Str} (h : notCall o = true) : attributeBase o name X.env (eval o X.env) = eval o X.env := by
  cases o <;> first | rfl | cases h
def Mt.py : Mt → Str
  | .count => "count"
  | .index => "index"
  | .join => "join"
  | .split => "split"
  | .partition => "partition"
  | .get => "get"
  | .items => "items"
theorem snd_mtL {ca ce : Code} {o : Expr} {k : Mt} {apos : Pos} (hk : k = .count ∨ k = .index) (hu : X.A.units + 65 < cLine) (ho : notCall o = true) (hl : (apos.endLine == pos.line) = true) (hs : notStar e = true) (ha : PE X o (tO X.K A W ca)) (he : PE X e (tO X.K A W ce)) :
    PE X (.Call (.Attribute o k.py apos) [e] [] pos) (tO X.K A W fun ρ => (ca ρ).frz.bind fun x ρ => if mtTy k x then (evsC [ce] ρ).bind fun ds ρ => Out.of (mtv k x ds) ρ else .bad) := by
  have s1 : starEach [e] X.env = (false, eval e X.env) :: starEach [] X.env := star_of hs
  have fin : ∀ σ H Q, tO X.K A W (fun ρ => (ca ρ).frz.bind fun x ρ => if mtTy k x then (evsC [ce] ρ).bind fun ds ρ => Out.of (mtv k x ds) ρ else .bad) σ H Q →
      tBM X.K "list" (rM X.K A (mtv k)) (tX X.K A W fun ρ => (ca ρ).frz) (tCons (tX X.K A W fun ρ => (ce ρ).frz) tNil) σ H Q := fun σ H Q hw => by
    obtain ⟨E, S, ρ, fs, st, p⟩ := hw
    refine ⟨E, S, ρ, fs, st, (Post.bind p).mono fun d ρ1 S1 H1 fs1 e1 st1 p1 v r => ?_⟩
    cases hm : mtTy k d with
    | false => rw [hm, if_neg (by simp)] at p1; exact p1.elim
    | true =>
      rw [hm, if_pos rfl, evsC_one, Out.bind_assoc] at p1
      have hd : ∃ xs, d = .lst xs := by
        rcases hk with rfl | rfl <;> (cases d <;> first | exact ⟨_, rfl⟩ | cases hm)
      obtain ⟨xs, rfl⟩ := hd
      obtain ⟨l, vs, rfl, g1, g2⟩ := r.lst_inv
      refine ⟨.inl ⟨rfl, vs, .inl (Same.rd st1.sub g1)⟩, E, S1, ρ1, fs1, st1, (Post.bind p1).mono fun dy ρ2 S2 H2 fs2 e2 st2 p2 y ry => ?_⟩
      have p2 : Post X.K A W E S2 σ (Out.of (mtv k (.lst xs) [dy]) ρ2) _ := p2
      cases hz : mtv k (.lst xs) [dy] with
      | none => rw [hz] at p2; exact p2.elim
      | some z =>
        rw [hz] at p2
        exact ⟨S2, .lst xs, [dy], st2.sub, Rep.mono e2 _ _ r, .one ry, z, hz, tells_of st2 fun S' H' v fp e st' r ap => p2 S' H' fs2 e st' v fp r ap⟩
  rcases hk with rfl | rfl
  · exact (pe_bm PySem.F.plainAttrs_list PySem.F.slot_list_count PySem.F.type_list_count (mt_count_ hu) ha.frz (pa_cons he.frz pa_nil s1) (base_of ho) (by rw [s1]; rfl) hl s1 rfl).imp fin
  · exact (pe_bm PySem.F.plainAttrs_list PySem.F.slot_list_index PySem.F.type_list_index (mt_index_ hu) ha.frz (pa_cons he.frz pa_nil s1) (base_of ho) (by rw [s1]; rfl) hl s1 rfl).imp fin
end
/-! ### a place laid aside while the rest is reckoned -/
section
variable {K : PySem.W.Frag} {A : Cls} {W : WX} {E : Ent} {S H : Hp} {ρ : Env} {σ : L2.St} {fs : Nat → List Addr} {a : Addr} {o : HO} {α : Type}
def holdE (E : Ent) (a : Addr) (o : HO) : Ent := ⟨E.S, upd E.gh a o, E.z⟩
theorem Sta.hold (st : Sta K A E S H ρ σ fs) (h : H a = none) : Sta K A (holdE E a o) S (upd H a o) ρ σ fs := by
  have hS : S a = none := st.sub.free h
  have hf : ∀ j b, b ∈ fs j → b ≠ a := fun j b hb e => by
    obtain ⟨u, hu⟩ := ((st.slot j).at b hb).2
    rw [e, h] at hu
    cases hu
  refine ⟨st.len, fun b u q => ?_, fun j => SlR.keep (Same.refl S) (fun b hb => ⟨((st.slot j).at b hb).1, upd_ne (hf j b hb)⟩) (st.slot j), st.dis, fun b u q => ?_, st.s0, fun j b hb => ?_, fun b u q => ?_, st.z⟩
  · rw [upd_ne (fun z => by subst z; rw [hS] at q; cases q)]
    exact st.sub b u q
  · by_cases e : b = a
    · subst e
      have q : upd E.gh b o b = some u := q
      rw [upd_same] at q ⊢
      exact q
    · have q : upd E.gh a o b = some u := q
      rw [upd_ne e] at q ⊢
      exact st.ghost b u q
  · show upd E.gh a o b = none
    rw [upd_ne (hf j b hb)]
    exact st.new j b hb
  · by_cases e : b = a
    · subst e
      rw [hS] at q
      cases q
    · rcases st.snew b u q with z | z
      · exact .inl z
      · refine .inr ?_
        show upd E.gh a o b = none
        rw [upd_ne e]
        exact z
theorem Sta.unhold (st : Sta K A (holdE E a o) S H ρ σ fs) (h : E.gh a = none) : Sta K A E S H ρ σ fs := by
  have g : ∀ b, upd E.gh a o b = none → E.gh b = none := fun b q => by
    by_cases e : b = a
    · subst e; exact h
    · rw [upd_ne e] at q
      exact q
  refine ⟨st.len, st.sub, st.slot, st.dis, fun b u q => st.ghost b u ?_, st.s0, fun j b hb => g b (st.new j b hb), fun b u q => ?_, st.z⟩
  · show upd E.gh a o b = some u
    rw [upd_ne (fun z => by subst z; rw [h] at q; cases q)]
    exact q
  · rcases st.snew b u q with z | z
    · exact .inl z
    · exact .inr (g b z)
theorem Post.hold {c : Out α} {k : α → Hp → Hp → (Nat → List Addr) → Env → Prop} (h : E.gh a = none) (hS : E.S a = none) (p : Post K A W E S σ c k) :
    Post K A W (holdE E a o) S σ c (fun x S' H' fs' ρ' => k x S' H' fs' ρ' ∧ Sta K A E S' H' ρ' σ fs' ∧ H' a = some o ∧ (∀ j, a ∉ fs' j) ∧ S' a = none) := by
  cases c with
  | ok x ρ =>
    refine fun S' H' fs' e st => ⟨p S' H' fs' e (st.unhold h), st.unhold h, st.ghost a o upd_same, fun j hj => ?_, ?_⟩
    · have q : upd E.gh a o a = none := st.new j a hj
      rw [upd_same] at q
      cases q
    · cases q : S' a with
      | none => rfl
      | some u =>
        rcases st.snew a u q with z | z
        · have z : E.S a = some u := z
          rw [hS] at z
          cases z
        · have z : upd E.gh a o a = none := z
          rw [upd_same] at z
          cases z
  | exn c ρ => exact fun S' H' fs' e st => p S' H' fs' e (st.unhold h)
  | bad => exact (show False from p).elim
end
/-! ### a display of a dict with written text keys -/
def keysB : List Str → List (Option Expr) → Bool
  | [], [] => true
  | k :: ks, some (.Constant (.str t) _ _) :: es => decide (t = k) && keysB ks es
  | _, _ => false
section
variable {X : Cx} {A : Cls} {W : WX} {e : Expr} {pos : Pos}
theorem keysB_len : ∀ {ks : List Str} {es : List (Option Expr)}, keysB ks es = true → es.length = ks.length ∧ es.all (·.isSome) = true
  | [], [], _ => ⟨rfl, rfl⟩
  | [], _ :: _, h => by cases h
  | _ :: _, [], h => by cases h
  | k :: ks, e :: es, h => by
    unfold keysB at h
    split at h <;> first | cases h | skip
    · rename_i hh
      cases hh
    · rename_i h1 h2
      cases h1
      cases h2
      rw [Bool.and_eq_true] at h
      obtain ⟨g1, g2⟩ := keysB_len h.2
      refine ⟨by rw [List.length_cons, List.length_cons, g1], ?_⟩
      rw [List.all_cons, g2]
      rfl
theorem pairs_ok {vals : List Expr} {cs : List Code} (h : Alls X A W vals cs) : ∀ {ks : List Str} {keys : List (Option Expr)}, keysB ks keys = true → keys.length = vals.length →
    ∃ trs, PPs X pos keys vals trs ∧ ∀ E S H ρ fs σ Q, Sta X.K A E S H ρ σ fs → Post X.K A W E S σ (evsC cs ρ) (fun ds S' H' _ _ => ∀ vs, Reps X.K A S' ds vs → Q ((ks.zip vs).map fun p => (V.str p.1, p.2)) H') → tPairs trs σ H Q := by
  induction h with
  | nil =>
    intro ks keys hk hl
    have e : keys = [] := List.eq_nil_of_length_eq_zero hl
    subst e
    refine ⟨[], pps_nil, fun E S H ρ fs σ Q st p => ?_⟩
    have h := Post.here p st [] Reps.nil
    rw [List.zip_nil_right] at h
    exact h
  | @cons v c vals cs h1 h2 hs _ ih =>
    intro ks keys hk hl
    cases keys with
    | nil => cases hl
    | cons k0 keys =>
      cases ks with
      | nil => cases hk
      | cons k ks =>
        unfold keysB at hk
        split at hk <;> first | cases hk | skip
        · rename_i hh
          cases hh
        · rename_i g1 g2
          cases g1
          cases g2
          rw [Bool.and_eq_true, decide_eq_true_eq] at hk
          obtain ⟨rfl, hk⟩ := hk
          obtain ⟨trs, hp, q⟩ := ih hk (by simpa using hl)
          refine ⟨(_, _) :: trs, pps_cons pe_str h1.frz hp, fun E S H ρ fs σ Q st p => ?_⟩
          refine ⟨E, S, ρ, fs, st, (Post.bind p).mono fun d ρ1 S1 H1 fs1 e1 st1 p1 y ry => ?_⟩
          refine q E S1 H1 ρ1 fs1 σ _ st1 ((Post.bind p1).mono fun ds ρ2 S2 H2 fs2 e2 st2 p2 vs r => ?_)
          exact Post.here p2 st2 (y :: vs) (.cons (Rep.mono e2 _ _ ry) r)
theorem put_new {es : List (Key × V)} {k : Key} {v : V} (h : k ∉ es.map (·.1)) : putK es k v = es ++ [(k, v)] := by
  unfold putK
  rw [if_neg]
  intro z
  obtain ⟨p, hp, e⟩ := List.any_eq_true.mp z
  exact h (List.mem_map.mpr ⟨p, hp, of_decide_eq_true e⟩)
theorem merge_new : ∀ {more es : List (Key × V)}, ((es ++ more).map (·.1)).Nodup → mergeK es more = es ++ more
  | [], es, _ => (List.append_nil es).symm
  | p :: more, es, h => by
    show mergeK (putK es p.1 p.2) more = _
    have hp : p.1 ∉ es.map (·.1) := fun z => by
      rw [List.map_append, List.nodup_append] at h
      exact h.2.2 _ z _ (by simp) rfl
    rw [put_new hp, merge_new (by rw [List.append_assoc]; exact h), List.append_assoc]
    rfl
theorem repsK_zip {K : PySem.W.Frag} {S : Hp} : ∀ {ks : List Str} {ds : List D} {vs : List V}, Reps K A S ds vs → RepsK K A S (ks.zip ds) ((ks.zip vs).map fun p => ((.inr p.1 : Key), p.2))
  | [], _, _, _ => by rw [List.zip_nil_left, List.zip_nil_left]; rfl
  | _ :: _, [], vs, r => by
    cases (show vs = [] from r)
    rfl
  | k :: ks, d :: ds, vs, r => by
    obtain ⟨v, vs', rfl, r1, r2⟩ := (show ∃ v r', vs = v :: r' ∧ Rep K A S d v ∧ Reps K A S ds r' from r)
    exact ⟨v, _, rfl, r1, repsK_zip r2⟩
theorem snd_dct {ks : List Str} {keys : List (Option Expr)} {vals : List Expr} {cs : List Code} (h : Alls X A W vals cs) (hk : keysB ks keys = true) (hl : keys.length = vals.length) (h0 : ks ≠ []) (h15 : ks.length ≤ 15) (hn : ks.Nodup) :
    PE X (.Dict keys vals pos) (tO X.K A W fun ρ => (evsC cs ρ).bind fun ds ρ => if ks.length == ds.length then .ok (.dic (ks.zip ds), true) ρ else .bad) := by
  obtain ⟨k1, k2⟩ := keysB_len hk
  obtain ⟨trs, hp, q⟩ := pairs_ok (pos := pos) h hk hl
  refine PE.imp (pe_disp hp k2 hl (fun z => h0 (List.eq_nil_of_length_eq_zero (by rw [← k1, z]; rfl))) (by rw [k1]; exact h15)) fun σ H Q hw => ?_
  obtain ⟨E, S, ρ, fs, st, p⟩ := hw
  intro a ha
  have g0 : E.gh a = none := st.ghost.free ha
  have s0 : E.S a = none := st.s0.free (st.sub.free ha)
  refine q (holdE E a (.dK [])) S _ ρ fs σ _ (st.hold ha) ((Post.hold g0 s0 (Post.bind p)).mono fun ds ρ1 S1 H1 fs1 e1 st1 p1 vs r => ?_)
  obtain ⟨p1, st2, h1, h2, h3⟩ := p1
  cases hb : ks.length == ds.length with
  | false => rw [hb, if_neg (by simp)] at p1; exact p1.elim
  | true =>
    rw [hb, if_pos rfl] at p1
    have e1 : (((ks.zip vs).map fun p => ((.inr p.1 : Key), p.2)).map (·.1)).Nodup := by
      rw [List.map_map]
      have e : ((·.1) ∘ fun p : Str × V => ((.inr p.1 : Key), p.2)) = (Sum.inr : Str → Key) ∘ Prod.fst := rfl
      rw [e, ← List.map_map, List.map_fst_zip]
      · exact List.Pairwise.map (Sum.inr : Str → Key) (fun a b hab z => hab (Sum.inr.inj z)) hn
      · have := r.len
        have hb : ks.length = ds.length := by simpa using hb
        omega
    refine ⟨h1, (ks.zip vs).map fun p => ((.inr p.1 : Key), p.2), ?_, ?_, ?_⟩
    · rw [List.map_map]
      rfl
    · rw [List.length_map, List.length_zip]
      omega
    · rw [merge_new (by rw [List.nil_append]; exact e1), List.nil_append]
      refine Post.here p1 (st2.aside (o := .dK ((ks.zip vs).map fun p => ((.inr p.1 : Key), p.2))) h3 h2 g0) (.ref a) [a] ?_ ?_
      · unfold RV
        rw [if_pos rfl]
        exact ⟨a, _, rfl, rfl, h3, upd_same, repsK_zip r⟩
      · intro b hb
        rw [List.mem_singleton.mp hb]
        exact ⟨g0, h2⟩
theorem snd_get {ca ck cd : Code} {o k d : Expr} {apos : Pos} (hu : X.A.units + 65 < cLine) (ho : notCall o = true) (hl : (apos.endLine == pos.line) = true) (hsk : notStar k = true) (hsd : notStar d = true) (ha : PE X o (tO X.K A W ca)) (hk : PE X k (tO X.K A W ck)) (hd : PE X d (tO X.K A W cd)) :
    PE X (.Call (.Attribute o "get" apos) [k, d] [] pos) (tO X.K A W fun ρ => (ca ρ).frz.bind fun x ρ => if mtTy .get x then (evsC [ck, cd] ρ).bind fun ds ρ => Out.of (mtv .get x ds) ρ else .bad) := by
  have s1 : starEach [d] X.env = (false, eval d X.env) :: starEach [] X.env := star_of hsd
  have s2 : starEach [k, d] X.env = (false, eval k X.env) :: starEach [d] X.env := star_of hsk
  have m : M2 X o "get" apos k d pos := ⟨base_of ho, by rw [s2, s1]; rfl, hl, by rw [s2, s1]; rfl⟩
  refine PE.imp (pe_dget2 (by omega) ha.frz hk.frz hd.frz m) fun σ H Q hw => ?_
  obtain ⟨E, S, ρ, fs, st, p⟩ := hw
  refine ⟨E, S, ρ, fs, st, (Post.bind p).mono fun x ρ1 S1 H1 fs1 e1 st1 p1 v r => ?_⟩
  cases hm : mtTy .get x with
  | false => rw [hm, if_neg (by simp)] at p1; exact p1.elim
  | true =>
    rw [hm, if_pos rfl] at p1
    have hx : ∃ kvs, x = .dic kvs := by cases x <;> first | exact ⟨_, rfl⟩ | cases hm
    obtain ⟨kvs, rfl⟩ := hx
    obtain ⟨a, es, rfl, g1, g2⟩ := (show ∃ a es, v = .ref a ∧ DicR X.K S1 a es ∧ RepsK X.K A S1 kvs es from r)
    refine ⟨a, rfl, .inl ⟨es, Same.rd st1.sub g1⟩, E, S1, ρ1, fs1, st1, ?_⟩
    have e : evsC [ck, cd] ρ1 = (ck ρ1).frz.bind fun x ρ => ((cd ρ).frz.bind fun y ρ => .ok [x, y] ρ) := by
      unfold evsC
      congr 1
      funext x ρ
      unfold evsC
      rw [Out.bind_assoc]
      congr 1
    rw [e] at p1
    rw [Out.bind_assoc] at p1
    refine (Post.bind p1).mono fun y ρ2 S2 H2 fs2 e2 st2 p2 yv ry => ?_
    rw [Out.bind_assoc] at p2
    refine ⟨E, S2, ρ2, fs2, st2, (Post.bind p2).mono fun z ρ3 S3 H3 fs3 e3 st3 p3 zv rz => ?_⟩
    have p3 : Post X.K A W E S3 σ (Out.of (mtv .get (.dic kvs) [y, z]) ρ3) _ := p3
    cases y with
    | str ky =>
      cases ry.str_inv
      have hv := RepsK.val (k := ky) g2
      refine ⟨valV es (.inr ky), .inl ⟨es, .inr ky, Same.rd st3.sub (Same.rd e3 (Same.rd e2 g1)), rfl, rfl⟩, ?_⟩
      have p3 : Post X.K A W E S3 σ (.ok ((kvs.lookup ky).getD z, false) ρ3) _ := p3
      cases hlk : kvs.lookup ky with
      | none =>
        rw [hlk] at hv p3
        rw [show valV es (.inr ky) = none from hv]
        exact Post.here p3 st3 zv [] (RV.plain rz) Apart.nil
      | some d0 =>
        rw [hlk] at hv p3
        obtain ⟨w, hw, rw_⟩ := hv
        rw [hw]
        exact Post.here p3 st3 w [] (RV.plain (Rep.mono (e2.trans e3) _ _ rw_)) Apart.nil
    | _ => exact (show False from p3).elim
end
end GW
end

section
/-! C14: an own term stands for an expression of the text: a check, and what it is good for. -/
namespace GW
open PySem PySem.Spec PyProof.Rows L2

/-! ### names -/
def visB (sc : Scope) (x : Str) : Bool := match sc.names.lookup x with
  | some .local => true
  | some .cell => true
  | some .free => true
  | _ => false
def locB (sc : Scope) (x : Str) : Bool := match sc.names.lookup x with
  | some .local => true
  | some .cell => true
  | _ => false
def lclB (sc : Scope) (x : Str) : Bool := match sc.names.lookup x with
  | some .local => true
  | _ => false
def gloB (sc : Scope) (x : Str) : Bool := match sc.names.lookup x with
  | some .globalImplicit => true
  | _ => false
theorem visB_ok {sc : Scope} {x : Str} (h : visB sc x = true) : Vis sc x := by
  unfold visB at h
  split at h <;> first | (exact .inl (by assumption)) | (exact .inr (.inl (by assumption))) | (exact .inr (.inr (by assumption))) | cases h
theorem locB_ok {sc : Scope} {x : Str} (h : locB sc x = true) : Loc sc x := by
  unfold locB at h
  split at h <;> first | (exact .inl (by assumption)) | (exact .inr (by assumption)) | cases h
theorem lclB_ok {sc : Scope} {x : Str} (h : lclB sc x = true) : sc.names.lookup x = some .local := by
  unfold lclB at h
  split at h <;> first | assumption | cases h
theorem gloB_ok {sc : Scope} {x : Str} (h : gloB sc x = true) : sc.names.lookup x = some .globalImplicit := by
  unfold gloB at h
  split at h <;> first | assumption | cases h
/-- a name that stands in slot i -/
def nameB (N : List Str) (sc : Scope) (i : Nat) : Expr → Bool
  | .Name x _ => decide (N[i]? = some x) && visB sc x && okN x
  | _ => false
/-- a name that is stored to -/
def namL (N : List Str) (sc : Scope) (i : Nat) : Expr → Bool
  | .Name x _ => decide (N[i]? = some x) && locB sc x
  | _ => false
def namsL (N : List Str) (sc : Scope) : List Nat → List Expr → Bool
  | [], [] => true
  | i :: is, e :: es => namL N sc i e && namsL N sc is es
  | _, _ => false
def tgB (N : List Str) (sc : Scope) : Tg → Expr → Bool
  | .nm i, e => namL N sc i e
  | .tp is, .Tuple es _ _ => namsL N sc is es
  | _, _ => false
/-- what goes through needs a tuple of targets -/
def tgFit : Px → Expr → Bool
  | .zip _ _, .Tuple _ _ _ => true
  | .zip _ _, _ => false
  | .enum _, .Tuple _ _ _ => true
  | .enum _, _ => false
  | _, _ => true
def notSet : Expr → Bool
  | .Set .. => false
  | _ => true
theorem folded_no {e : Expr} {env : PySem.Env} (h : notSet e = true) : ∀ x, foldedSetIterable e env x = pure x := by
  intro x
  cases e <;> first | rfl | cases h
def tyB (G : Prog) (sc : Scope) (t : Ty) (e : Expr) : Bool := match t with
  | .exc k => (match e with
    | .Name y _ => decide (G.excs[k]? = some y) && gloB sc y && okN y
    | _ => false)
  | t => (match e with
    | .Name y _ => decide (y = Str.ofString t.py) && gloB sc y
    | _ => false)

/-- slots with their names -/
def named (N : List Str) (own : List Nat) : List (Str × Nat) := own.map fun i => ((N[i]?).getD ("" : Str), i)
/-! ### the check -/
mutual
def chk (G : Prog) (N : List Str) : Px → Bool → Scope → Expr → Bool
  | .var i, _, sc, e => nameB N sc i e
  | .mov i, _, sc, e => nameB N sc i e
  | .int i, _, _, e => match e with
    | .Constant (.int j) _ _ => decide (j = i)
    | _ => false
  | .bl b, _, _, e => match e with
    | .Constant (.bool c) _ _ => decide (c = b)
    | _ => false
  | .non, _, _, e => match e with
    | .Constant .none _ _ => true
    | _ => false
  | .str s, _, _, e => match e with
    | .Constant (.str t) _ _ => decide (t = s)
    | _ => false
  | .glo g, _, sc, e => match e with
    | .Name x _ => gloB sc x && okN x && (match G.glos[g]? with
      | some (y, d) => decide (y = x) && (match D.dic? d with
        | none => true
        | some _ => false)
      | none => false)
    | _ => false
  | .tup es, _, sc, e => match e with
    | .Tuple xs _ _ => decide (es.length < 1000) && chks G N es sc xs
    | _ => false
  | .lst es, _, sc, e => match e with
    | .List xs _ => decide (es.length < 1000) && chks G N es sc xs
    | _ => false
  | .bin o a b, _, sc, e => match e with
    | .BinOp x p y _ => decide (p = o.py) && (chk G N a false sc x && chk G N b false sc y)
    | _ => false
  | .neg a, _, sc, e => match e with
    | .UnaryOp .USub x _ => chk G N a false sc x
    | _ => false
  | .cmp o a b, _, sc, e => match e with
    | .Compare x [p] [y] _ => decide (p = o.py) && !behindInMarks o.py y && (chk G N a false sc x && chk G N b false sc y)
    | _ => false
  | .chain o1 o2 a b c, _, sc, e => match e with
    | .Compare x [p, q] [y, z] _ => decide (p = o1.py) && (decide (q = o2.py) && (!lastMarks [o1.py, o2.py] [y, z] && (chk G N a false sc x && (chk G N b false sc y && chk G N c false sc z))))
    | _ => false
  | .conj es, _, sc, e => match e with
    | .BoolOp .And xs _ => !xs.isEmpty && chks G N es sc xs
    | _ => false
  | .disj es, _, sc, e => match e with
    | .BoolOp .Or xs _ => !xs.isEmpty && chks G N es sc xs
    | _ => false
  | .nt a, _, sc, e => match e with
    | .UnaryOp .Not x _ => chk G N a false sc x
    | _ => false
  | .ife t a b, _, sc, e => match e with
    | .IfExp z x y _ => chk G N t false sc z && (chk G N a false sc x && chk G N b false sc y)
    | _ => false
  | .ix a i, _, sc, e => match e with
    | .Subscript x y _ => notSlice y && (chk G N a false sc x && chk G N i false sc y)
    | _ => false
  | .gix g i, _, sc, e => match e with
    | .Subscript (.Name x _) y _ => notSlice y && gloB sc x && okN x && (match G.glos[g]? with
      | some (z, .dic _) => decide (z = x)
      | _ => false) && chk G N i false sc y
    | _ => false
  | .sl a lo hi, _, sc, e => match e with
    | .Subscript x (.Slice l h none _) _ => chk G N a false sc x && (chks G N lo sc l.toList && chks G N hi sc h.toList)
    | _ => false
  | .rev a, _, sc, e => match e with
    | .Subscript x (.Slice none none (some (.UnaryOp .USub (.Constant (.int 1) _ _) _)) _) _ => chk G N a false sc x
    | _ => false
  | .call f es, _, sc, e => match e with
    | .Call (.Name x _) xs [] _ => (match G.fns[f]? with
      | some F => !F.meth && decide (F.name = x) && decide (es.length = F.pars.length)
      | none => false) && okN x && gloB sc x && !xs.isEmpty && chks G N es sc xs
    | _ => false
  | .bi b es, _, sc, e => match e with
    | .Call (.Name x _) xs [] _ => decide (x = b.py) && gloB sc x && !xs.isEmpty && chks G N es sc xs
    | _ => false
  | .isi a t, _, sc, e => match e with
    | .Call (.Name f _) [x, y] [] _ => decide (f = "isinstance") && gloB sc f && notStar x && tyB G sc t y && chk G N a false sc x
    | _ => false
  | .dct ks es, _, sc, e => match e with
    | .Dict keys vals _ => keysB ks keys && decide (keys.length = vals.length) && !ks.isEmpty && decide (ks.length ≤ 15) && decide ks.Nodup && chks G N es sc vals
    | _ => false
  | .mt .get a es, _, sc, e => match e with
    | .Call (.Attribute o nm apos) [x, y] [] pos => decide (nm = "get") && notCall o && (apos.endLine == pos.line) && decide (es.length = 2) && (chk G N a false sc o && chks G N es sc [x, y])
    | _ => false
  | .mt k a es, _, sc, e => match e with
    | .Call (.Attribute o nm apos) [x] [] pos => (match k with
      | .count => true
      | .index => true
      | _ => false) && decide (nm = k.py) && notCall o && (apos.endLine == pos.line) && decide (es.length = 1) && (chk G N a false sc o && chks G N es sc [x])
    | _ => false
  | .bop .len (.sl i) es, _, sc, e => match e with
    | .Call (.Name x _) [y] [] _ => decide (x = "len") && gloB sc x && nameB N sc i y && es.isEmpty
    | _ => false
  | .bop .ix (.sl i) es, _, sc, e => match e with
    | .Subscript x y _ => nameB N sc i x && notSlice y && decide (es.length = 1) && chks G N es sc [y]
    | _ => false
  | .bop .eq (.sl i) es, _, sc, e => match e with
    | .Compare x [p] [y] _ => decide (p = COp.eq.py) && nameB N sc i x && !behindInMarks COp.eq.py y && decide (es.length = 1) && chks G N es sc [y]
    | _ => false
  | .bop .ne (.sl i) es, _, sc, e => match e with
    | .Compare x [p] [y] _ => decide (p = COp.ne.py) && nameB N sc i x && !behindInMarks COp.ne.py y && decide (es.length = 1) && chks G N es sc [y]
    | _ => false
  | .bop .in_ (.sl i) es, _, sc, e => match e with
    | .Compare y [p] [x] _ => decide (p = COp.in_.py) && nameB N sc i x && decide (es.length = 1) && chks G N es sc [y]
    | _ => false
  | .bop .nin (.sl i) es, _, sc, e => match e with
    | .Compare y [p] [x] _ => decide (p = COp.nin.py) && nameB N sc i x && decide (es.length = 1) && chks G N es sc [y]
    | _ => false
  | .pop (.sl i), _, sc, e => match e with
    | .Call (.Attribute o nm apos) [] [] pos => decide (nm = "pop") && nameB N sc i o && (apos.endLine == pos.line)
    | _ => false
  | .rng es, it, sc, e => match e with
    | .Call (.Name x _) xs [] _ => it && decide (x = "range") && gloB sc x && (decide (xs.length = 1) || decide (xs.length = 2)) && chks G N es sc xs
    | _ => false
  | .zip a b, it, sc, e => match e with
    | .Call (.Name f _) [x, y] [] _ => it && decide (f = "zip") && gloB sc f && notStar x && notStar y && (chk G N a false sc x && chk G N b false sc y)
    | _ => false
  | .enum a, it, sc, e => match e with
    | .Call (.Name f _) [x] [] _ => it && decide (f = "enumerate") && gloB sc f && notStar x && chk G N a false sc x
    | _ => false
  | .lc own tg it cond el, _, sc, e => match e with
    | .ListComp elt [⟨t, iter, ifs, 0⟩] scope _ => blkC N sc scope (named N own) && tgB N scope tg t && tgFit it t && notSet iter && (tg.slots.all fun i => own.contains i) && decide (cond.length ≤ 1) &&
        (chk G N it true sc iter && (chks G N cond (relS scope sc) ifs && chk G N el false (relS scope sc) elt))
    | _ => false
  | _, _, _, _ => false
def chks (G : Prog) (N : List Str) : List Px → Scope → List Expr → Bool
  | [], _, xs => xs.isEmpty
  | p :: ps, sc, xs => match xs with
    | x :: xs => notStar x && chk G N p false sc x && chks G N ps sc xs
    | [] => false
end
end GW
end

section
/-! C15: what passed the check is good (expressions). -/
namespace GW
open PySem PySem.Spec PyProof.Rows L2

section
variable {X : Cx} {A : Cls} {W : WX} {e : Expr} {c c' : Code}
theorem PE.cg (h : PE X e (tO X.K A W c)) (q : ∀ ρ, c' ρ = c ρ) : PE X e (tO X.K A W c') := by
  have z : c' = c := funext q
  rw [z]
  exact h
theorem PT.cg {c c' : Env → Out Bool} (h : PT X e (tT X.K A W c)) (q : ∀ ρ, c' ρ = c ρ) : PT X e (tT X.K A W c') := by
  have z : c' = c := funext q
  rw [z]
  exact h
/-- a value and a test -/
structure Sd (X : Cx) (A : Cls) (W : WX) (e : Expr) (c : Code) : Prop where
  pe : PE X e (tO X.K A W c)
  pt : PT X e (tT X.K A W fun ρ => (c ρ).tob)
theorem Sd.cg (h : Sd X A W e c) (q : ∀ ρ, c' ρ = c ρ) : Sd X A W e c' := by
  have z : c' = c := funext q
  rw [z]
  exact h
theorem Sd.of (h : PE X e (tO X.K A W c)) (he : ∀ whole, isTrue e X.env whole = (do let v ← whole; standAt e.pos; holding [v] (truthy v))) : Sd X A W e c := ⟨h, pt_of h he⟩
theorem Sd.frz (h : Sd X A W e c) : PE X e (tX X.K A W fun ρ => (c ρ).frz) := h.pe.frz
end
/-- where a text stands -/
structure Cn (G : Prog) (A : Cls) (fa : Nat → Addr) (fd : Nat → FuncData) (call : Nat → D → List D → Res) (n : Nat) (N : List Str) (sc : Scope) (X : Cx) (W : WX) : Prop where
  c : Ctx G A fa fd call n X W
  hN : X.N = N
  hsc : X.env.scope = sc
section
variable {G : Prog} {A : Cls} {fa : Nat → Addr} {fd : Nat → FuncData} {call : Nat → D → List D → Res} {n : Nat} {N : List Str} {sc : Scope} {X : Cx} {W : WX} {e : Expr} {mt m : Bool}
theorem Cn.gl (C : Cn G A fa fd call n N sc X W) {x : Str} (h : gloB sc x = true) : Gl X x := by
  show X.env.scope.names.lookup x = _
  rw [C.hsc]
  exact gloB_ok h
theorem Cn.var (C : Cn G A fa fd call n N sc X W) {i : Nat} (h : nameB N sc i e = true) : ∃ x p, e = .Name x p ∧ PE X e (tVar i) := by
  unfold nameB at h
  split at h <;> first | cases h | skip
  rename_i x p
  simp only [Bool.and_eq_true, decide_eq_true_eq] at h
  refine ⟨x, p, rfl, pe_var (by rw [C.hN]; exact h.1.1) (by rw [C.hsc]; exact visB_ok h.1.2) (okN_dbg h.2) (okN_cls h.2)⟩
theorem Cn.units (C : Cn G A fa fd call n N sc X W) : X.A.units + 65 < cLine := by
  have := C.c.room.un
  omega
/-- into a comprehension's block -/
theorem Cn.blk (C : Cn G A fa fd call n N sc X W) {scope : Scope} {s : Shared} {H : Hp} {a : Addr} {cl : List (Str × Addr)} {fp : List Addr} : Cn G A fa fd call n N (relS scope sc) (X.blk s H scope (compEnvC scope cl a X.env) fp) (fun _ _ _ _ => False) :=
  ⟨⟨C.c.facts, C.c.fnok, C.c.room, C.c.calm, C.c.nd, takes0, PassesOwn.never⟩, C.hN, by rw [← C.hsc]; rfl⟩
theorem isd_name {x : Str} {p : Pos} (h : PE X (.Name x p) (tO X.K A W c)) : Sd X A W (.Name x p) c := .of h fun _ => rfl
theorem glo_ok (C : Cn G A fa fd call n N sc X W) {g : Nat} {y : Str} {d : D} {p : Pos} (h : G.glos[g]? = some (y, d)) (hd : D.dic? d = none) (hg : gloB sc y = true) (ho : okN y = true) : Sd X A W (.Name y p) (ev (G.rt call mt) m (.glo g)) := by
  obtain ⟨u, v, h1, h2, h3⟩ := C.c.facts.glo g y d h hd
  refine isd_name (PE.cg (c := fun ρ => .ok (d, false) ρ) (snd_plain (v := v) (pe_glob (C.gl hg) h1 h2 (okN_dbg ho)) fun S => Rep.mono (fun _ _ z => by cases z) _ _ h3) fun ρ => ?_)
  unfold ev
  have : (G.rt call mt).glob g = some d := by
    show (G.glos[g]?).map (·.2) = _
    rw [h]
    rfl
  rw [this]
theorem ty_ok (C : Cn G A fa fd call n N sc X W) {t : Ty} (h : tyB G sc t e = true) : ∃ x p c u, e = .Name x p ∧ PE X e (tC c) ∧ ClsT A t c u := by
  have key : ∀ t : Ty, (∀ k, t ≠ .exc k) → ∀ y p, decide (y = Str.ofString t.py) && gloB sc y → ∃ c u, PE X (.Name y p) (tC c) ∧ ClsT A t c u := fun t ht y p h => by
    simp only [Bool.and_eq_true, decide_eq_true_eq] at h
    obtain ⟨rfl, hg⟩ := h
    have hb : bootBuiltins (Str.ofString t.py) = some (.type t.py) := by
      cases t <;> first | (decide +kernel) | exact absurd rfl (ht _)
    have hm : Str.ofString t.py ∈ bnames := by
      cases t <;> first | (decide +kernel) | exact absurd rfl (ht _)
    have hn : Str.ofString t.py ≠ "__name__" := by
      cases t <;> first | (decide +kernel) | exact absurd rfl (ht _)
    have hd : (Str.ofString t.py == ("__debug__" : Str)) = false := by
      cases t <;> first | (decide +kernel) | exact absurd rfl (ht _)
    refine ⟨.ty t.py, .type t.py, pe_bltn (C.gl hg) (C.c.facts.blt _ hm) hb rfl hn hd, ?_⟩
    cases t <;> first | exact ⟨rfl, rfl⟩ | exact absurd rfl (ht _)
  unfold tyB at h
  split at h
  · rename_i k
    split at h <;> first | cases h | skip
    rename_i y p
    simp only [Bool.and_eq_true, decide_eq_true_eq] at h
    obtain ⟨⟨h1, h2⟩, h3⟩ := h
    obtain ⟨g1, _⟩ := C.c.facts.exc k y h1
    exact ⟨y, p, .ref (A.exc k), .ref (A.exc k), rfl, pe_glob (C.gl h2) g1 rfl (okN_dbg h3), rfl, rfl⟩
  · rename_i hne
    split at h <;> first | cases h | skip
    rename_i y p
    obtain ⟨c, u, h1, h2⟩ := key t (fun k hk => hne k hk) y p h
    exact ⟨y, p, c, u, rfl, h1, h2⟩
/-- a scope's own names are the block's -/
def OwnN (sc : Scope) (env : PySem.Env) : Prop := ∀ x k, sc.names.lookup x = some k → k ≠ .free → env.scope.names.lookup x = some k
theorem OwnN.loc {sc : Scope} {env : PySem.Env} (h : OwnN sc env) {x : Str} (hl : Loc sc x) : Loc env.scope x := hl.imp (fun z => h _ _ z (by decide)) (fun z => h _ _ z (by decide))
theorem relS_keep {scope sc : Scope} {x : Str} {k : NameKind} (hk : k ≠ .free) : ∀ {names : List (Str × NameKind)}, names.lookup x = some k → (names.map fun (n, k) => if (k == NameKind.free && sc.kind == .function && sc.names.lookup n == some .cell) then (n, NameKind.cell) else (n, k)).lookup x = some k
  | [], h => by cases h
  | (n, j) :: r, h => by
    have ih := @relS_keep scope sc x k hk r
    show List.lookup x ((if (j == NameKind.free && sc.kind == .function && sc.names.lookup n == some .cell) = true then (n, NameKind.cell) else (n, j)) :: _) = _
    by_cases e : x = n
    · subst e
      rw [List.lookup_cons_self] at h
      cases h
      have hj : (k == NameKind.free) = false := by
        cases k <;> first | rfl | exact absurd rfl hk
      rw [hj]
      simp
    · have hne : (x == n) = false := by simpa using e
      rw [List.lookup_cons, hne] at h
      split
      · rw [List.lookup_cons, hne]; exact ih h
      · rw [List.lookup_cons, hne]; exact ih h
theorem own_self {env : PySem.Env} (h : env.scope = sc) : OwnN sc env := fun x k hx _ => by rw [h]; exact hx
theorem own_blk {scope : Scope} {cl : List (Str × Addr)} {a : Addr} {env : PySem.Env} : OwnN scope (compEnvC scope cl a env) := fun x k hx hk => relS_keep (scope := scope) (sc := env.scope) hk hx
theorem tgB_slots : ∀ {is : List Nat} {es : List Expr}, namsL N sc is es = true → X.N = N → OwnN sc X.env → (∀ x, sc.names.lookup x = some .cell → X.fn x = true) → Nms X es is
  | [], [], _, _, _, _ => .nil
  | i :: is, e :: es, h, hN, hs, hf => by
    unfold namsL at h
    rw [Bool.and_eq_true] at h
    obtain ⟨h1, h2⟩ := h
    unfold namL at h1
    split at h1 <;> first | cases h1 | skip
    simp only [Bool.and_eq_true, decide_eq_true_eq] at h1
    have hl := locB_ok h1.2
    refine .cons (by rw [hN]; exact h1.1) (hs.loc hl) ?_ (tgB_slots h2 hN hs hf)
    rcases hl with hl | hl
    · right; exact hs _ _ hl (by decide)
    · left; exact hf _ hl
  | [], _ :: _, h, _, _, _ => by cases h
  | _ :: _, [], h, _, _, _ => by cases h
theorem tgB_ok {T : Tg} {tg : Expr} (h : tgB N sc T tg = true) (hc : X.calm = true) (nd : X.N.Nodup) (hN : X.N = N) (hs : OwnN sc X.env) (hf : ∀ x, sc.names.lookup x = some .cell → X.fn x = true) : PGok X A tg T := by
  unfold tgB at h
  split at h
  · rename_i i
    unfold namL at h
    split at h <;> first | cases h | skip
    simp only [Bool.and_eq_true, decide_eq_true_eq] at h
    have hl := locB_ok h.2
    refine pgok_nm nd (by rw [hN]; exact h.1) (hs.loc hl) ?_
    rcases hl with hl | hl
    · right; exact hs _ _ hl (by decide)
    · left; exact hf _ hl
  · exact pgok_tp hc nd (tgB_slots h hN hs hf)
  · cases h

/-- a test of a comprehension -/
theorem pts_of {es : List Expr} {cs : List Code} (h : Alls X A W es cs) (hl : cs.length ≤ 1) : PTs X es (tT X.K A W fun ρ => (andC cs ρ).tob) := by
  cases h with
  | nil =>
    refine ⟨fun pins s σ H Q I hw => pts_nil.run pins s σ H Q I ?_⟩
    obtain ⟨E, S, ρ, fs, st, p⟩ := hw
    exact Post.here (show Post X.K A W E S σ (Out.ok true ρ) _ from p) st
  | @cons e c es cs h1 h2 hs hr =>
    cases hr with
    | cons => simp at hl
    | nil =>
      refine pts_one (PT.cg h2 fun ρ => ?_)
      show (andC [c] ρ).tob = _
      unfold andC
      cases hc : c ρ with
      | ok x ρ =>
        obtain ⟨d, o⟩ := x
        cases d with
        | bl b => cases b <;> rfl
        | _ => rfl
      | _ => rfl
/-- the codes of a list -/
abbrev cds (G : Prog) (call : Nat → D → List D → Res) (mt m : Bool) (es : List Px) : List Code := es.map (ev (G.rt call mt) m)
theorem iter_of {p : Px} (h : (match p with | .rng _ => true | .zip _ _ => true | .enum _ => true | _ => false) = false) : chk G N p true sc e = chk G N p false sc e := by
  cases p with
  | bop o q es => cases o <;> cases q <;> rfl
  | pop q => cases q <;> rfl
  | mt k a es => cases k <;> rfl
  | _ => first | rfl | cases h
theorem parts_of {o : Option Expr} {cs : List Code} (h : Alls X A W o.toList cs) : Parts X A W o cs := by
  cases o with
  | none =>
    cases h
    exact .none
  | some e =>
    cases h with
    | cons h1 _ _ hr =>
      cases hr
      exact .some h1
end
end GW
end

section
/-! C16: what passed the check is good: expressions, form by form. -/
namespace GW
open PySem PySem.Spec PyProof.Rows L2 RZ

section
variable (G : Prog) (A : Cls) (fa : Nat → Addr) (fd : Nat → FuncData) (call : Nat → D → List D → Res) (n : Nat) (N : List Str) (mt : Bool)
def P1 (p : Px) : Prop := ∀ (m : Bool) (X : Cx) (W : WX) (sc : Scope) (e : Expr), Cn G A fa fd call n N sc X W → chk G N p false sc e = true → Sd X A W e (ev (G.rt call mt) m p)
def P2 (p : Px) : Prop := ∀ (m : Bool) (X : Cx) (W : WX) (sc : Scope) (e tg : Expr), Cn G A fa fd call n N sc X W → chk G N p true sc e = true → tgFit p tg = true →
  PI X tg e (tI X.K A W fun ρ => (ev (G.rt call mt) m p ρ).frz.bind fun x ρ => Out.of (itemsv x) ρ)
def PL (es : List Px) : Prop := ∀ (m : Bool) (X : Cx) (W : WX) (sc : Scope) (xs : List Expr), Cn G A fa fd call n N sc X W → chks G N es sc xs = true → Alls X A W xs (cds G call mt m es)
end
section
variable {G : Prog} {A : Cls} {fa : Nat → Addr} {fd : Nat → FuncData} {call : Nat → D → List D → Res} {n : Nat} {N : List Str} {mt : Bool}
theorem s_var (i : Nat) : P1 G A fa fd call n N mt (.var i) := fun m X W sc e C h => by
  unfold chk at h
  obtain ⟨x, p, rfl, h1⟩ := C.var h
  exact isd_name (snd_var h1)
theorem s_mov (i : Nat) : P1 G A fa fd call n N mt (.mov i) := fun m X W sc e C h => by
  unfold chk at h
  obtain ⟨x, p, rfl, h1⟩ := C.var h
  exact isd_name (snd_mov h1)
theorem s_int (i : Int) : P1 G A fa fd call n N mt (.int i) := fun m X W sc e C h => by
  unfold chk at h
  split at h <;> first | cases h | skip
  rw [decide_eq_true_eq] at h
  subst h
  exact Sd.cg (Sd.of (snd_plain pe_int fun S => Rep.int _) fun _ => rfl) fun ρ => by (conv => lhs; unfold ev) <;> rfl
theorem s_bl (b : Bool) : P1 G A fa fd call n N mt (.bl b) := fun m X W sc e C h => by
  unfold chk at h
  split at h <;> first | cases h | skip
  rw [decide_eq_true_eq] at h
  subst h
  exact Sd.cg (Sd.of (snd_plain pe_bl fun S => Rep.bl _) fun _ => rfl) fun ρ => by (conv => lhs; unfold ev) <;> rfl
theorem s_non : P1 G A fa fd call n N mt .non := fun m X W sc e C h => by
  unfold chk at h
  split at h <;> first | cases h | skip
  exact Sd.cg (Sd.of (snd_plain pe_non fun S => Rep.non) fun _ => rfl) fun ρ => by (conv => lhs; unfold ev) <;> rfl
theorem s_str (s : Str) : P1 G A fa fd call n N mt (.str s) := fun m X W sc e C h => by
  unfold chk at h
  split at h <;> first | cases h | skip
  rw [decide_eq_true_eq] at h
  subst h
  exact Sd.cg (Sd.of (snd_plain pe_str fun S => Rep.str _) fun _ => rfl) fun ρ => by (conv => lhs; unfold ev) <;> rfl
theorem s_glo (g : Nat) : P1 G A fa fd call n N mt (.glo g) := fun m X W sc e C h => by
  unfold chk at h
  split at h <;> first | cases h | skip
  simp only [Bool.and_eq_true] at h
  obtain ⟨⟨h1, h2⟩, h3⟩ := h
  split at h3 <;> first | cases h3 | skip
  rename_i y d hg
  rw [Bool.and_eq_true, decide_eq_true_eq] at h3
  obtain ⟨rfl, h4⟩ := h3
  cases hd : D.dic? d with
  | none => exact glo_ok C hg hd h1 h2
  | some _ => rw [hd] at h4; cases h4
theorem cds_len {m : Bool} {es : List Px} : (cds G call mt m es).length = es.length := List.length_map ..
theorem s_tup {es : List Px} (ih : PL G A fa fd call n N mt es) : P1 G A fa fd call n N mt (.tup es) := fun m X W sc e C h => by
  unfold chk at h
  split at h <;> first | cases h | skip
  rw [Bool.and_eq_true, decide_eq_true_eq] at h
  exact Sd.cg (Sd.of (snd_tup (ih m X W sc _ C h.2) (by rw [cds_len]; exact h.1)) fun _ => rfl) fun ρ => by (conv => lhs; unfold ev; simp only [evs_C]) <;> rfl
theorem s_lst {es : List Px} (ih : PL G A fa fd call n N mt es) : P1 G A fa fd call n N mt (.lst es) := fun m X W sc e C h => by
  unfold chk at h
  split at h <;> first | cases h | skip
  rw [Bool.and_eq_true, decide_eq_true_eq] at h
  exact Sd.cg (Sd.of (snd_lst (ih m X W sc _ C h.2) (by rw [cds_len]; exact h.1)) fun _ => rfl) fun ρ => by (conv => lhs; unfold ev; simp only [evs_C]) <;> rfl
theorem s_bin {o : BOp} {a b : Px} (ha : P1 G A fa fd call n N mt a) (hb : P1 G A fa fd call n N mt b) : P1 G A fa fd call n N mt (.bin o a b) := fun m X W sc e C h => by
  unfold chk at h
  split at h <;> first | cases h | skip
  simp only [Bool.and_eq_true, decide_eq_true_eq] at h
  obtain ⟨rfl, h1, h2⟩ := h
  exact Sd.cg (Sd.of (snd_bin o (ha m X W sc _ C h1).frz (hb m X W sc _ C h2).frz) fun _ => rfl) fun ρ => by (conv => lhs; unfold ev) <;> rfl
theorem s_neg {a : Px} (ha : P1 G A fa fd call n N mt a) : P1 G A fa fd call n N mt (.neg a) := fun m X W sc e C h => by
  unfold chk at h
  split at h <;> first | cases h | skip
  exact Sd.cg (Sd.of (snd_neg (ha m X W sc _ C h).pe) fun _ => rfl) fun ρ => by (conv => lhs; unfold ev) <;> rfl
theorem s_cmp {o : COp} {a b : Px} (ha : P1 G A fa fd call n N mt a) (hb : P1 G A fa fd call n N mt b) : P1 G A fa fd call n N mt (.cmp o a b) := fun m X W sc e C h => by
  unfold chk at h
  split at h <;> first | cases h | skip
  simp only [Bool.and_eq_true, Bool.not_eq_true', decide_eq_true_eq] at h
  obtain ⟨⟨rfl, hm⟩, h1, h2⟩ := h
  refine Sd.cg (c := fun ρ => (ev (G.rt call mt) m a ρ).frz.bind fun x ρ => (ev (G.rt call mt) m b ρ).frz.bind fun y ρ => (Out.of (cmpv o x y) ρ).bind fun d ρ => .ok (.bl d, false) ρ) ⟨snd_cmp C.units o hm (ha m X W sc _ C h1).frz (hb m X W sc _ C h2).frz, ?_⟩ fun ρ => by (conv => lhs; unfold ev) <;> rfl
  exact PT.cg (snd_cmpT C.units o hm (ha m X W sc _ C h1).frz (hb m X W sc _ C h2).frz) fun ρ => tob_cmp (ca := fun ρ => (ev (G.rt call mt) m a ρ).frz) (cb := fun ρ => (ev (G.rt call mt) m b ρ).frz)
theorem s_chain {o1 o2 : COp} {a b c : Px} (ha : P1 G A fa fd call n N mt a) (hb : P1 G A fa fd call n N mt b) (hc : P1 G A fa fd call n N mt c) : P1 G A fa fd call n N mt (.chain o1 o2 a b c) := fun m X W sc e C h => by
  unfold chk at h
  split at h <;> first | cases h | skip
  simp only [Bool.and_eq_true, Bool.not_eq_true', decide_eq_true_eq] at h
  obtain ⟨rfl, rfl, hm, h1, h2, h3⟩ := h
  exact Sd.cg (c := chainC o1 o2 (fun ρ => (ev (G.rt call mt) m a ρ).frz) (fun ρ => (ev (G.rt call mt) m b ρ).frz) (fun ρ => (ev (G.rt call mt) m c ρ).frz))
    ⟨snd_chain C.units o1 o2 hm (ha m X W sc _ C h1).frz (hb m X W sc _ C h2).frz (hc m X W sc _ C h3).frz, snd_chainT C.units o1 o2 hm (ha m X W sc _ C h1).frz (hb m X W sc _ C h2).frz (hc m X W sc _ C h3).frz⟩ fun ρ => by (conv => lhs; unfold ev) <;> rfl
theorem ne_of {xs : List Expr} (h : (!xs.isEmpty) = true) : xs ≠ [] := by
  rintro rfl
  cases h
theorem s_conj {es : List Px} (ih : PL G A fa fd call n N mt es) : P1 G A fa fd call n N mt (.conj es) := fun m X W sc e C h => by
  unfold chk at h
  split at h <;> first | cases h | skip
  rw [Bool.and_eq_true] at h
  have al := ih m X W sc _ C h.2
  exact Sd.cg ⟨and_pe al (ne_of h.1), (and_pw al (ne_of h.1)).pt⟩ fun ρ => by (conv => lhs; unfold ev; simp only [evAnd_C]) <;> rfl
theorem s_disj {es : List Px} (ih : PL G A fa fd call n N mt es) : P1 G A fa fd call n N mt (.disj es) := fun m X W sc e C h => by
  unfold chk at h
  split at h <;> first | cases h | skip
  rw [Bool.and_eq_true] at h
  have al := ih m X W sc _ C h.2
  exact Sd.cg ⟨or_pe al (ne_of h.1), (or_pw al (ne_of h.1)).pt⟩ fun ρ => by (conv => lhs; unfold ev; simp only [evOr_C]) <;> rfl
theorem s_nt {a : Px} (ha : P1 G A fa fd call n N mt a) : P1 G A fa fd call n N mt (.nt a) := fun m X W sc e C h => by
  unfold chk at h
  split at h <;> first | cases h | skip
  have s := ha m X W sc _ C h
  refine Sd.cg (c := fun ρ => (ev (G.rt call mt) m a ρ).bind fun x ρ => match x.1 with
    | .bl b => .ok (.bl (!b), false) ρ
    | _ => .bad) ⟨snd_ntE s.pe, PT.cg (snd_nt s.pt) fun ρ => tob_nt⟩ fun ρ => by (conv => lhs; unfold ev) <;> rfl
theorem s_ife {t a b : Px} (ht : P1 G A fa fd call n N mt t) (ha : P1 G A fa fd call n N mt a) (hb : P1 G A fa fd call n N mt b) : P1 G A fa fd call n N mt (.ife t a b) := fun m X W sc e C h => by
  unfold chk at h
  split at h <;> first | cases h | skip
  simp only [Bool.and_eq_true] at h
  have st := ht m X W sc _ C h.1
  have sa := ha m X W sc _ C h.2.1
  have sb := hb m X W sc _ C h.2.2
  exact Sd.cg ⟨snd_ife st.pt sa.pe sb.pe, snd_ifeT st.pt sa.pt sb.pt⟩ fun ρ => by (conv => lhs; unfold ev) <;> rfl
theorem s_ix {a i : Px} (ha : P1 G A fa fd call n N mt a) (hi : P1 G A fa fd call n N mt i) : P1 G A fa fd call n N mt (.ix a i) := fun m X W sc e C h => by
  unfold chk at h
  split at h <;> first | cases h | skip
  simp only [Bool.and_eq_true] at h
  exact Sd.cg (Sd.of (snd_ix C.units (ha m X W sc _ C h.2.1).frz (hi m X W sc _ C h.2.2).frz h.1) fun _ => rfl) fun ρ => by (conv => lhs; unfold ev) <;> rfl
theorem snd_gix {X : Cx} {W : WX} {b : Expr} {x : Str} {p pos : Pos} {cb : Env → Out D} {g : Nat} {kvs : List (Str × D)} (C : Ctx G A fa fd call n X W) (hg : G.glos[g]? = some (x, .dic kvs)) (hx : Gl X x) (ho : okN x = true) (hb : PE X b (tX X.K A W cb)) (hs : notSlice b = true) :
    PE X (.Subscript (.Name x p) b pos) (tO X.K A W fun ρ => (cb ρ).bind fun y ρ => (Out.of (dixv (.dic kvs) y) ρ).bind fun d ρ => .ok (d, false) ρ) := by
  obtain ⟨a, h1, h2⟩ := C.facts.dic g x kvs hg
  refine (pe_ix ix_kdict (pe_glob (v := .ref a) hx h1 rfl (okN_dbg ho)) hb (plainIx hs)).imp fun σ H Q hw => ?_
  obtain ⟨E, S, ρ, fs, st, q⟩ := hw
  refine ⟨E, S, ρ, fs, st, (Post.bind q).mono fun dy ρ1 S1 H1 fs1 e1 st1 p1 y ry => ?_⟩
  cases dy with
  | str k =>
    cases ry.str_inv
    cases hl : kvs.lookup k with
    | none =>
      unfold dixv at p1
      dsimp only at p1
      rw [hl] at p1
      exact p1.elim
    | some d =>
      unfold dixv at p1
      dsimp only at p1
      rw [hl] at p1
      obtain ⟨v, k1, k2⟩ := h2 k d hl
      exact ⟨a, k, v, rfl, rfl, k1, Post.here (show Post X.K A W E S1 σ (Out.ok (d, false) ρ1) _ from p1) st1 v [] (RV.plain (Rep.mono (fun _ _ z => by cases z) _ _ k2)) Apart.nil⟩
  | _ => exact (show False from p1).elim
theorem s_gix {g : Nat} {i : Px} (hi : P1 G A fa fd call n N mt i) : P1 G A fa fd call n N mt (.gix g i) := fun m X W sc e C h => by
  unfold chk at h
  split at h <;> first | cases h | skip
  simp only [Bool.and_eq_true] at h
  obtain ⟨⟨⟨⟨h1, h2⟩, h3⟩, h4⟩, h5⟩ := h
  split at h4 <;> first | cases h4 | skip
  rename_i z kvs hg
  cases of_decide_eq_true h4
  refine Sd.cg (Sd.of (snd_gix C.c hg (C.gl h2) h3 (hi m X W sc _ C h5).frz h1) fun _ => rfl) fun ρ => ?_
  conv => lhs; unfold ev
  have hr : (G.rt call mt).glob g = some (.dic kvs) := by
    show (G.glos[g]?).map (·.2) = _
    rw [hg]
    rfl
  simp only [hr]
theorem s_sl {a : Px} {lo hi : List Px} (ha : P1 G A fa fd call n N mt a) (hl : PL G A fa fd call n N mt lo) (hh : PL G A fa fd call n N mt hi) : P1 G A fa fd call n N mt (.sl a lo hi) := fun m X W sc e C h => by
  unfold chk at h
  split at h <;> first | cases h | skip
  simp only [Bool.and_eq_true] at h
  exact Sd.cg (Sd.of (snd_sl (ha m X W sc _ C h.1).frz (parts_of (hl m X W sc _ C h.2.1)) (parts_of (hh m X W sc _ C h.2.2))) fun _ => rfl) fun ρ => by (conv => lhs; unfold ev; simp only [evs_C]) <;> rfl
theorem s_rev {a : Px} (ha : P1 G A fa fd call n N mt a) : P1 G A fa fd call n N mt (.rev a) := fun m X W sc e C h => by
  unfold chk at h
  split at h <;> first | cases h | skip
  exact Sd.cg (Sd.of (snd_rev (ha m X W sc _ C h).frz) fun _ => rfl) fun ρ => by (conv => lhs; unfold ev) <;> rfl
theorem s_call {f : Nat} {es : List Px} (ih : PL G A fa fd call n N mt es) : P1 G A fa fd call n N mt (.call f es) := fun m X W sc e C h => by
  unfold chk at h
  split at h <;> first | cases h | skip
  simp only [Bool.and_eq_true] at h
  obtain ⟨⟨⟨⟨h1, h2⟩, h3⟩, h4⟩, h5⟩ := h
  split at h1 <;> first | cases h1 | skip
  rename_i F hF
  simp only [Bool.and_eq_true, Bool.not_eq_true', decide_eq_true_eq] at h1
  obtain ⟨⟨g1, rfl⟩, g3⟩ := h1
  exact Sd.cg (Sd.of (snd_call C.c hF g1 h2 (C.gl h3) (by rw [cds_len]; exact g3) (ne_of h4) (ih m X W sc _ C h5)) fun _ => rfl) fun ρ => by (conv => lhs; unfold ev; simp only [evs_C]) <;> rfl
theorem s_bi {b : Bi} {es : List Px} (ih : PL G A fa fd call n N mt es) : P1 G A fa fd call n N mt (.bi b es) := fun m X W sc e C h => by
  unfold chk at h
  split at h <;> first | cases h | skip
  simp only [Bool.and_eq_true, decide_eq_true_eq] at h
  obtain ⟨⟨⟨rfl, h3⟩, h4⟩, h5⟩ := h
  exact Sd.cg (Sd.of (snd_bi C.c b (C.gl h3) (ne_of h4) (ih m X W sc _ C h5)) fun _ => rfl) fun ρ => by (conv => lhs; unfold ev; simp only [evs_C]) <;> rfl
theorem s_isi {a : Px} {t : Ty} (ha : P1 G A fa fd call n N mt a) : P1 G A fa fd call n N mt (.isi a t) := fun m X W sc e C h => by
  unfold chk at h
  split at h <;> first | cases h | skip
  simp only [Bool.and_eq_true, decide_eq_true_eq] at h
  obtain ⟨⟨⟨⟨rfl, h3⟩, h4⟩, h5⟩, h6⟩ := h
  obtain ⟨y, p, c, u, rfl, g1, g2⟩ := ty_ok C h5
  exact Sd.cg (Sd.of (snd_isi C.c t (C.gl h3) h4 (ha m X W sc _ C h6).frz g1 g2) fun _ => rfl) fun ρ => by (conv => lhs; unfold ev) <;> rfl
theorem one_of {X : Cx} {W : WX} {x : Expr} {es : List Px} {m : Bool} (hl : es.length = 1) (h : Alls X A W [x] (cds G call mt m es)) : ∃ p, es = [p] ∧ PE X x (tO X.K A W (ev (G.rt call mt) m p)) ∧ notStar x = true := by
  match es, hl, h with
  | [p], _, .cons h1 _ hs _ => exact ⟨p, rfl, h1, hs⟩
theorem two_of {X : Cx} {W : WX} {m : Bool} {es : List Px} {x y : Expr} (hl : es.length = 2) (h : Alls X A W [x, y] (cds G call mt m es)) : ∃ p q, es = [p, q] ∧ PE X x (tO X.K A W (ev (G.rt call mt) m p)) ∧ notStar x = true ∧ PE X y (tO X.K A W (ev (G.rt call mt) m q)) ∧ notStar y = true := by
  match es, hl, h with
  | [p, q], _, h =>
    cases h with
    | cons h1 _ s1 hr =>
      cases hr with
      | cons h2 _ s2 _ => exact ⟨p, q, rfl, h1, s1, h2, s2⟩
theorem s_dct {ks : List Str} {es : List Px} (ih : PL G A fa fd call n N mt es) : P1 G A fa fd call n N mt (.dct ks es) := fun m X W sc e C h => by
  unfold chk at h
  split at h <;> first | cases h | skip
  simp only [Bool.and_eq_true, decide_eq_true_eq, Bool.not_eq_true'] at h
  obtain ⟨⟨⟨⟨⟨h1, h2⟩, h3⟩, h4⟩, h5⟩, h6⟩ := h
  have h0 : ks ≠ [] := fun z => by rw [z] at h3; cases h3
  exact Sd.cg (Sd.of (snd_dct (ih m X W sc _ C h6) h1 h2 h0 h4 h5) fun _ => rfl) fun ρ => by (conv => lhs; unfold ev; simp only [evs_C]) <;> rfl
theorem s_mt {k : Mt} {a : Px} {es : List Px} (ha : P1 G A fa fd call n N mt a) (ih : PL G A fa fd call n N mt es) : P1 G A fa fd call n N mt (.mt k a es) := fun m X W sc e C h => by
  have old : (k = .count ∨ k = .index) → Sd X A W e (ev (G.rt call mt) m (.mt k a es)) := fun hk' => by
    rcases hk' with rfl | rfl
    · unfold chk at h
      split at h <;> first | cases h | skip
      simp only [Bool.and_eq_true, decide_eq_true_eq] at h
      obtain ⟨⟨⟨⟨⟨hk, rfl⟩, h3⟩, h4⟩, h5⟩, h6, h7⟩ := h
      obtain ⟨p, rfl, g1, g2⟩ := one_of h5 (ih m X W sc _ C h7)
      exact Sd.cg (Sd.of (snd_mtL (.inl rfl) C.units h3 h4 g2 (ha m X W sc _ C h6).pe g1) fun _ => rfl) fun ρ => by (conv => lhs; unfold ev; simp only [evs_C]) <;> rfl
    · unfold chk at h
      split at h <;> first | cases h | skip
      simp only [Bool.and_eq_true, decide_eq_true_eq] at h
      obtain ⟨⟨⟨⟨⟨hk, rfl⟩, h3⟩, h4⟩, h5⟩, h6, h7⟩ := h
      obtain ⟨p, rfl, g1, g2⟩ := one_of h5 (ih m X W sc _ C h7)
      exact Sd.cg (Sd.of (snd_mtL (.inr rfl) C.units h3 h4 g2 (ha m X W sc _ C h6).pe g1) fun _ => rfl) fun ρ => by (conv => lhs; unfold ev; simp only [evs_C]) <;> rfl
  cases k with
  | count => exact old (.inl rfl)
  | index => exact old (.inr rfl)
  | get =>
    unfold chk at h
    split at h <;> first | cases h | skip
    simp only [Bool.and_eq_true, decide_eq_true_eq] at h
    obtain ⟨⟨⟨⟨rfl, h3⟩, h4⟩, h5⟩, h6, h7⟩ := h
    obtain ⟨p, q, rfl, g1, s1, g2, s2⟩ := two_of h5 (ih m X W sc _ C h7)
    exact Sd.cg (Sd.of (snd_get C.units h3 h4 s1 s2 (ha m X W sc _ C h6).pe g1 g2) fun _ => rfl) fun ρ => by (conv => lhs; unfold ev; simp only [evs_C]) <;> rfl
  | join => unfold chk at h; split at h <;> first | cases h | simp at h
  | split => unfold chk at h; split at h <;> first | cases h | simp at h
  | partition => unfold chk at h; split at h <;> first | cases h | simp at h
  | items => unfold chk at h; split at h <;> first | cases h | simp at h
theorem ev_bop {R : Rt} {m : Bool} {o : Bo} {i : Nat} {es : List Px} {ρ : Env} : ev R m (.bop o (.sl i) es) ρ = bopC o i (es.map (ev R m)) ρ := by
  unfold ev bopC
  simp only [evs_C]
  first
    | done
    | (cases peek ρ (.sl i) <;> rfl)
theorem s_bop {o : Bo} {q : Pl} {es : List Px} (ih : PL G A fa fd call n N mt es) : P1 G A fa fd call n N mt (.bop o q es) := fun m X W sc e C h => by
  cases q with
  | fld i f => cases o <;> (unfold chk at h; cases h)
  | sl i =>
    cases o with
    | len =>
      unfold chk at h
      split at h <;> first | cases h | skip
      simp only [Bool.and_eq_true, decide_eq_true_eq] at h
      obtain ⟨⟨⟨rfl, h2⟩, h3⟩, h4⟩ := h
      obtain ⟨x, p, rfl, g1⟩ := C.var h3
      cases es with
      | cons _ _ => cases h4
      | nil => exact Sd.cg (Sd.of (snd_blen C.c (C.gl h2) g1) fun _ => rfl) fun ρ => ev_bop
    | ix =>
      unfold chk at h
      split at h <;> first | cases h | skip
      simp only [Bool.and_eq_true, decide_eq_true_eq] at h
      obtain ⟨⟨⟨h1, h2⟩, h3⟩, h4⟩ := h
      obtain ⟨x, p, rfl, g1⟩ := C.var h1
      obtain ⟨p, rfl, g2, _⟩ := one_of h3 (ih m X W sc _ C h4)
      exact Sd.cg (Sd.of (snd_bix g1 g2 h2) fun _ => rfl) fun ρ => ev_bop
    | eq =>
      unfold chk at h
      split at h <;> first | cases h | skip
      simp only [Bool.and_eq_true, Bool.not_eq_true', decide_eq_true_eq] at h
      obtain ⟨⟨⟨⟨rfl, h1⟩, h2⟩, h3⟩, h4⟩ := h
      obtain ⟨x, p, rfl, g1⟩ := C.var h1
      obtain ⟨p, rfl, g2, _⟩ := one_of h3 (ih m X W sc _ C h4)
      exact Sd.cg ⟨(snd_bcmp (o := .eq) (k := .eq) C.units rfl h2 g1 g2).1, (snd_bcmp (o := .eq) (k := .eq) C.units rfl h2 g1 g2).2⟩ fun ρ => ev_bop
    | ne =>
      unfold chk at h
      split at h <;> first | cases h | skip
      simp only [Bool.and_eq_true, Bool.not_eq_true', decide_eq_true_eq] at h
      obtain ⟨⟨⟨⟨rfl, h1⟩, h2⟩, h3⟩, h4⟩ := h
      obtain ⟨x, p, rfl, g1⟩ := C.var h1
      obtain ⟨p, rfl, g2, _⟩ := one_of h3 (ih m X W sc _ C h4)
      exact Sd.cg ⟨(snd_bcmp (o := .ne) (k := .ne) C.units rfl h2 g1 g2).1, (snd_bcmp (o := .ne) (k := .ne) C.units rfl h2 g1 g2).2⟩ fun ρ => ev_bop
    | in_ =>
      unfold chk at h
      split at h <;> first | cases h | skip
      simp only [Bool.and_eq_true, decide_eq_true_eq] at h
      obtain ⟨⟨⟨rfl, h1⟩, h3⟩, h4⟩ := h
      obtain ⟨x, p, rfl, g1⟩ := C.var h1
      obtain ⟨p, rfl, g2, _⟩ := one_of h3 (ih m X W sc _ C h4)
      exact Sd.cg ⟨(snd_bin_ (o := .in_) (k := .in_) C.units rfl g1 g2).1, (snd_bin_ (o := .in_) (k := .in_) C.units rfl g1 g2).2⟩ fun ρ => ev_bop
    | nin =>
      unfold chk at h
      split at h <;> first | cases h | skip
      simp only [Bool.and_eq_true, decide_eq_true_eq] at h
      obtain ⟨⟨⟨rfl, h1⟩, h3⟩, h4⟩ := h
      obtain ⟨x, p, rfl, g1⟩ := C.var h1
      obtain ⟨p, rfl, g2, _⟩ := one_of h3 (ih m X W sc _ C h4)
      exact Sd.cg ⟨(snd_bin_ (o := .nin) (k := .nin) C.units rfl g1 g2).1, (snd_bin_ (o := .nin) (k := .nin) C.units rfl g1 g2).2⟩ fun ρ => ev_bop
    | _ => unfold chk at h; cases h
theorem s_pop {q : Pl} : P1 G A fa fd call n N mt (.pop q) := fun m X W sc e C h => by
  cases q with
  | sl i =>
    unfold chk at h
    split at h <;> first | cases h | skip
    simp only [Bool.and_eq_true, decide_eq_true_eq] at h
    obtain ⟨⟨rfl, h1⟩, h2⟩ := h
    obtain ⟨x, p, rfl, g1⟩ := C.var h1
    cases m with
    | false => exact Sd.cg (Sd.of (snd_pop g1 h2) fun _ => rfl) fun ρ => by (conv => lhs; unfold ev) <;> rfl
    | true =>
      refine Sd.of (PE.imp (snd_pop (A := A) (W := W) g1 h2) fun σ H Q hw => ?_) fun _ => rfl
      obtain ⟨E, S, ρ, fs, st, p⟩ := hw
      unfold ev at p
      rw [if_pos rfl] at p
      exact p.elim
  | fld _ _ => unfold chk at h; cases h
/-! ### what is gone through -/
def iterPx : Px → Bool
  | .rng _ => true
  | .zip _ _ => true
  | .enum _ => true
  | _ => false
theorem i_of {p : Px} (hp : iterPx p = false) (h1 : P1 G A fa fd call n N mt p) : P2 G A fa fd call n N mt p := fun m X W sc e tg C h _ => by
  have h' : chk G N p false sc e = true := by
    rw [← iter_of (p := p)]
    · exact h
    · cases p <;> first | rfl | cases hp
  exact pi_of (h1 m X W sc e C h').frz
theorem i_rng {es : List Px} (ih : PL G A fa fd call n N mt es) : P2 G A fa fd call n N mt (.rng es) := fun m X W sc e tg C h _ => by
  unfold chk at h
  split at h <;> first | cases h | skip
  simp only [Bool.and_eq_true, Bool.or_eq_true, Bool.true_and, decide_eq_true_eq] at h
  obtain ⟨⟨⟨rfl, h2⟩, h3⟩, h4⟩ := h
  refine PI.imp (pi_rng C.c (C.gl h2) (ih m X W sc _ C h4) h3) fun σ H R hw => ?_
  have z : (fun ρ => (ev (G.rt call mt) m (.rng es) ρ).frz.bind fun x ρ => Out.of (itemsv x) ρ) = fun ρ => (evsC (cds G call mt m es) ρ).bind fun ds ρ => Out.of (rngv ds) ρ := by
    funext ρ
    unfold ev
    rw [evs_C]
    cases evsC (cds G call mt m es) ρ with
    | ok ds ρ =>
      show Out.bind (Out.frz (match rngv ds with
        | some xs => .ok (.lst xs, false) ρ
        | none => .bad)) _ = Out.of (rngv ds) ρ
      cases rngv ds <;> rfl
    | _ => rfl
  rw [z] at hw
  exact hw
theorem ev_zip {R : Rt} {m : Bool} {a b : Px} {ρ : Env} : ev R m (.zip a b) ρ = (ev R m a ρ).frz.bind fun x ρ => (ev R m b ρ).frz.bind fun y ρ => match zipv x y with
    | some xs => .ok (.lst xs, false) ρ
    | none => .bad := by
  (conv => lhs; unfold ev) <;> rfl
theorem i_zip {a b : Px} (ha : P1 G A fa fd call n N mt a) (hb : P1 G A fa fd call n N mt b) : P2 G A fa fd call n N mt (.zip a b) := fun m X W sc e tg C h ht => by
  unfold chk at h
  split at h <;> first | cases h | skip
  simp only [Bool.and_eq_true, Bool.true_and, decide_eq_true_eq] at h
  obtain ⟨⟨⟨⟨rfl, h2⟩, h3⟩, h4⟩, h5, h6⟩ := h
  cases tg with
  | Tuple elts kk tpos =>
    refine PI.imp (pi_zip_ C.c (C.gl h2) (ha m X W sc _ C h5).frz (hb m X W sc _ C h6).frz h3 h4) fun σ H R hw => ?_
    have z : (fun ρ => (ev (G.rt call mt) m (.zip a b) ρ).frz.bind fun x ρ => Out.of (itemsv x) ρ) = fun ρ => (ev (G.rt call mt) m a ρ).frz.bind fun x ρ => (ev (G.rt call mt) m b ρ).frz.bind fun y ρ => Out.of (zipv x y) ρ := by
      funext ρ
      rw [ev_zip]
      cases (ev (G.rt call mt) m a ρ).frz with
      | ok x ρ =>
        dsimp only [Out.bind]
        cases (ev (G.rt call mt) m b ρ).frz with
        | ok y ρ =>
          dsimp only [Out.bind]
          cases zipv x y <;> rfl
        | _ => rfl
      | _ => rfl
    rw [z] at hw
    exact hw
  | _ => cases ht
theorem ev_enum {R : Rt} {m : Bool} {a : Px} {ρ : Env} : ev R m (.enum a) ρ = (ev R m a ρ).frz.bind fun x ρ => match enumv x with
    | some xs => .ok (.lst xs, false) ρ
    | none => .bad := by
  (conv => lhs; unfold ev) <;> rfl
theorem i_enum {a : Px} (ha : P1 G A fa fd call n N mt a) : P2 G A fa fd call n N mt (.enum a) := fun m X W sc e tg C h ht => by
  unfold chk at h
  split at h <;> first | cases h | skip
  simp only [Bool.and_eq_true, Bool.true_and, decide_eq_true_eq] at h
  obtain ⟨⟨⟨rfl, h2⟩, h3⟩, h5⟩ := h
  cases tg with
  | Tuple elts kk tpos =>
    refine PI.imp (pi_enum_ C.c (C.gl h2) (ha m X W sc _ C h5).frz h3) fun σ H R hw => ?_
    have z : (fun ρ => (ev (G.rt call mt) m (.enum a) ρ).frz.bind fun x ρ => Out.of (itemsv x) ρ) = fun ρ => (ev (G.rt call mt) m a ρ).frz.bind fun x ρ => Out.of (enumv x) ρ := by
      funext ρ
      rw [ev_enum]
      cases (ev (G.rt call mt) m a ρ).frz with
      | ok x ρ =>
        dsimp only [Out.bind]
        cases enumv x <;> rfl
      | _ => rfl
    rw [z] at hw
    exact hw
  | _ => cases ht
theorem ev_lc {R : Rt} {m : Bool} {own : List Nat} {tg : Tg} {it : Px} {cond : List Px} {el : Px} {ρ : Env} : ev R m (.lc own tg it cond el) ρ = lcC (fun ρ => (ev R m it ρ).frz.bind fun x ρ => Out.of (itemsv x) ρ) (fun ρ => evAnd R true cond ρ) (fun ρ => (ev R true el ρ).frz) tg own ρ := by
  conv => lhs; unfold ev
  unfold lcC
  dsimp only
  cases (ev R m it ρ).frz with
  | ok x ρ =>
    dsimp only [Out.bind]
    cases itemsv x with
    | none => rfl
    | some xs => rfl
  | _ => rfl
theorem own_map {N : List Str} (own : List Nat) : (named N own).map (·.2) = own := by
  unfold named
  rw [List.map_map]
  exact List.map_id own
theorem s_lc {own : List Nat} {tg : Tg} {it : Px} {cond : List Px} {el : Px} (hi : P2 G A fa fd call n N mt it) (hc : PL G A fa fd call n N mt cond) (he : P1 G A fa fd call n N mt el) : P1 G A fa fd call n N mt (.lc own tg it cond el) := fun m X W sc e C h => by
  unfold chk at h
  split at h <;> first | cases h | skip
  rename_i elt t iter ifs scope pos
  simp only [Bool.and_eq_true, decide_eq_true_eq] at h
  obtain ⟨⟨⟨⟨⟨⟨h1, h2⟩, h3⟩, h4⟩, h5⟩, h6⟩, h7, h8, h9⟩ := h
  have hb : PE X (.ListComp elt [⟨t, iter, ifs, 0⟩] scope pos) (tO X.K A W (lcC (fun ρ => (ev (G.rt call mt) m it ρ).frz.bind fun x ρ => Out.of (itemsv x) ρ) (fun ρ => evAnd (G.rt call mt) true cond ρ) (fun ρ => (ev (G.rt call mt) true el ρ).frz) tg ((named N own).map (·.2)))) := by
    refine snd_lc C.c.calm C.c.nd (hi m X W sc iter t C h7 h3) (by rw [C.hN, C.hsc]; exact blkOk_by h1) (fun s H a cl fp => tgB_ok h2 C.c.calm C.c.nd C.hN own_blk fun x hx => ?_) (fun s H a cl fp => ?_) (fun s H a cl fp => (he true _ _ _ _ C.blk h9).frz) (folded_no h4) (fun j hj => ?_) (evAnd_still _ _) (Still.frz (ev_still _ _))
    · show (scope.names.lookup x == some .cell) = true
      rw [hx]
      rfl
    · have z : (fun ρ => (evAnd (G.rt call mt) true cond ρ).tob) = fun ρ => (andC (cds G call mt true cond) ρ).tob := funext fun ρ => by rw [evAnd_C]
      rw [z]
      exact pts_of (hc true _ _ _ _ C.blk h8) (by rw [cds_len]; exact h6)
    · rw [own_map]
      rw [List.all_eq_true] at h5
      exact List.contains_iff_mem.mp (h5 j hj)
  rw [own_map] at hb
  exact Sd.cg (Sd.of hb fun _ => rfl) fun ρ => ev_lc
mutual
theorem snd : ∀ p : Px, P1 G A fa fd call n N mt p ∧ P2 G A fa fd call n N mt p
  | .var i => ⟨s_var i, i_of rfl (s_var i)⟩
  | .mov i => ⟨s_mov i, i_of rfl (s_mov i)⟩
  | .int i => ⟨s_int i, i_of rfl (s_int i)⟩
  | .bl b => ⟨s_bl b, i_of rfl (s_bl b)⟩
  | .non => ⟨s_non, i_of rfl s_non⟩
  | .str s => ⟨s_str s, i_of rfl (s_str s)⟩
  | .glo g => ⟨s_glo g, i_of rfl (s_glo g)⟩
  | .tup es => have z := s_tup (snds es); ⟨z, i_of rfl z⟩
  | .lst es => have z := s_lst (snds es); ⟨z, i_of rfl z⟩
  | .bin o a b => have z := s_bin (o := o) (snd a).1 (snd b).1; ⟨z, i_of rfl z⟩
  | .neg a => have z := s_neg (snd a).1; ⟨z, i_of rfl z⟩
  | .cmp o a b => have z := s_cmp (o := o) (snd a).1 (snd b).1; ⟨z, i_of rfl z⟩
  | .conj es => have z := s_conj (snds es); ⟨z, i_of rfl z⟩
  | .disj es => have z := s_disj (snds es); ⟨z, i_of rfl z⟩
  | .nt a => have z := s_nt (snd a).1; ⟨z, i_of rfl z⟩
  | .ife t a b => have z := s_ife (snd t).1 (snd a).1 (snd b).1; ⟨z, i_of rfl z⟩
  | .ix a b => have z := s_ix (snd a).1 (snd b).1; ⟨z, i_of rfl z⟩
  | .sl a lo hi => have z := s_sl (snd a).1 (snds lo) (snds hi); ⟨z, i_of rfl z⟩
  | .rev a => have z := s_rev (snd a).1; ⟨z, i_of rfl z⟩
  | .call f es => have z := s_call (f := f) (snds es); ⟨z, i_of rfl z⟩
  | .bi b es => have z := s_bi (b := b) (snds es); ⟨z, i_of rfl z⟩
  | .isi a t => have z := s_isi (t := t) (snd a).1; ⟨z, i_of rfl z⟩
  | .mt k a es => have z := s_mt (k := k) (snd a).1 (snds es); ⟨z, i_of rfl z⟩
  | .bop o q es => have z := s_bop (o := o) (q := q) (snds es); ⟨z, i_of rfl z⟩
  | .rng es => ⟨fun m X W sc e C h => (by unfold chk at h; split at h <;> simp at h), i_rng (snds es)⟩
  | .zip a b => ⟨fun m X W sc e C h => (by unfold chk at h; split at h <;> simp at h), i_zip (snd a).1 (snd b).1⟩
  | .lc own tg it cond el => have z := s_lc (own := own) (tg := tg) (snd it).2 (snds cond) (snd el).1; ⟨z, i_of rfl z⟩
  | .fld i f => ⟨fun m X W sc e C h => (by unfold chk at h; cases h), fun m X W sc e tg C h => (by unfold chk at h; cases h)⟩
  | .dct ks es => have z := s_dct (ks := ks) (snds es); ⟨z, i_of rfl z⟩
  | .chain o1 o2 a b c => have z := s_chain (o1 := o1) (o2 := o2) (snd a).1 (snd b).1 (snd c).1; ⟨z, i_of rfl z⟩
  | .dix a b => ⟨fun m X W sc e C h => (by unfold chk at h; cases h), fun m X W sc e tg C h => (by unfold chk at h; cases h)⟩
  | .gix g b => have z := s_gix (g := g) (snd b).1; ⟨z, i_of rfl z⟩
  | .pop q => have z := s_pop (q := q); ⟨z, i_of rfl z⟩
  | .mcall f i es => ⟨fun m X W sc e C h => (by unfold chk at h; cases h), fun m X W sc e tg C h => (by unfold chk at h; cases h)⟩
  | .make c f es => ⟨fun m X W sc e C h => (by unfold chk at h; cases h), fun m X W sc e tg C h => (by unfold chk at h; cases h)⟩
  | .enum a => ⟨fun m X W sc e C h => (by unfold chk at h; split at h <;> simp at h), i_enum (snd a).1⟩
theorem snds : ∀ es : List Px, PL G A fa fd call n N mt es
  | [] => fun m X W sc xs C h => by
    unfold chks at h
    cases xs with
    | nil => exact .nil
    | cons _ _ => cases h
  | p :: ps => fun m X W sc xs C h => by
    unfold chks at h
    cases xs with
    | nil => cases h
    | cons x xs =>
      simp only [Bool.and_eq_true] at h
      have z := (snd p).1 m X W sc x C h.1.2
      exact .cons z.pe z.pt h.1.1 (snds ps m X W sc xs C h.2)
end
end
end GW
end

section
/-! C17: statements: more rules. -/
namespace GW
open PySem PySem.Spec PyProof.Rows L2 RZ

/-! ### several stores at once -/
def starB : Expr → Bool
  | .Starred .. => true
  | _ => false
def swB (sc : Scope) (ts vs : List Expr) : Option (Option (List Str)) :=
  if !(ts.length == 2 || ts.length == 3) || vs.length != ts.length then some none
  else if vs.any starB then some none
  else
    let line := (ts.head?.map (·.pos.line)).getD 0
    let names := ts.filterMap fun
      | .Name id pos => if sc.names.lookup id == some .local && pos.line == line then some id else none
      | _ => none
    if names.length != ts.length || names.eraseDups.length != names.length then some none
    else if vs.all (foldedForSure 8) then some none
    else if vs.all (constantsAlone 8) then none
    else some (some names)
theorem swB_ok {env : PySem.Env} {ts vs : List Expr} {k k2 : Nat} {p p2 : Pos} {r : Option (List Str)} (hk : env.scope.kind = .function) (h : swB env.scope ts vs = some r) : swappedStores [.Tuple ts k p] (.Tuple vs k2 p2) env = pure r := by
  have hb : (env.blockKind != ScopeKind.function) = false := by
    unfold Env.blockKind
    rw [hk]
    rfl
  unfold swB at h
  unfold swappedStores
  dsimp only
  rw [hb, Bool.or_false]
  have any_c : ∀ f : Expr → Bool, (∀ e, f e = starB e) → vs.any f = vs.any starB := fun f hf => by
    have z : f = starB := funext hf
    rw [z]
  by_cases c1 : (!(ts.length == 2 || ts.length == 3) || vs.length != ts.length) = true
  · rw [if_pos c1] at h
    cases h
    rw [if_pos c1]
  · rw [if_neg c1] at h
    rw [if_neg c1]
    by_cases c2 : vs.any starB = true
    · rw [if_pos c2] at h
      cases h
      exact if_pos ((any_c _ (fun e => by cases e <;> rfl)).trans c2)
    · rw [if_neg c2] at h
      refine (if_neg (fun z => c2 ((any_c _ (fun e => by cases e <;> rfl)).symm.trans z))).trans ?_
      dsimp only at h
      by_cases c3 : ((List.filterMap (fun (e : Expr) => match e with
          | .Name id pos => if (env.scope.names.lookup id == some NameKind.local && pos.line == (ts.head?.map (·.pos.line)).getD 0) = true then some id else none
          | _ => none) ts).length != ts.length || (List.filterMap (fun (e : Expr) => match e with
          | .Name id pos => if (env.scope.names.lookup id == some NameKind.local && pos.line == (ts.head?.map (·.pos.line)).getD 0) = true then some id else none
          | _ => none) ts).eraseDups.length != (List.filterMap (fun (e : Expr) => match e with
          | .Name id pos => if (env.scope.names.lookup id == some NameKind.local && pos.line == (ts.head?.map (·.pos.line)).getD 0) = true then some id else none
          | _ => none) ts).length) = true
      · rw [if_pos c3] at h
        cases h
        exact if_pos c3
      · rw [if_neg c3] at h
        refine (if_neg c3).trans ?_
        by_cases c4 : vs.all (foldedForSure 8) = true
        · rw [if_pos c4] at h
          cases h
          rw [if_pos c4]
        · rw [if_neg c4] at h
          rw [if_neg c4]
          by_cases c5 : vs.all (constantsAlone 8) = true
          · rw [if_pos c5] at h
            cases h
          · rw [if_neg c5] at h
            cases h
            rw [if_neg c5]
            rfl
theorem sole_no {ts : List Expr} {k : Nat} {p : Pos} {v : Expr} {l : Nat} {env : PySem.Env} : swapsWithSole [.Tuple ts k p] v l env = pure false := by
  show swapsWith v (some (.Tuple ts k p)) l env = pure false
  cases v <;> rfl
/-- the value is no tuple, or the stores are one by one -/
def plainB (sc : Scope) (ts : List Expr) : Expr → Bool
  | .Tuple vs _ _ => (match swB sc ts vs with
    | some none => true
    | _ => false)
  | _ => true
theorem plainB_ok {env : PySem.Env} {ts : List Expr} {k : Nat} {p : Pos} {v : Expr} (hk : env.scope.kind = .function) (h : plainB env.scope ts v = true) : swappedStores [.Tuple ts k p] v env = pure none := by
  cases v with
  | Tuple vs k2 p2 =>
    unfold plainB at h
    dsimp only at h
    split at h <;> first | cases h | skip
    exact swB_ok hk (by assumption)
  | _ => rfl
/-! ### a comprehension stored -/
def swLc (sc : Scope) (x : Str) (tpos vpos : Pos) (scope : Scope) : Bool := (sc.names.lookup x == some .local) && tpos.line == vpos.line && !(scope.names.any fun (n, k) => n == x && (k == .local || k == .cell))
theorem swLc_ok {env : PySem.Env} {elt : Expr} {gens : List Comprehension} {scope : Scope} {vpos tpos : Pos} {x : Str} {l : Nat} (hk : env.scope.kind = .function) : swapsWith (.ListComp elt gens scope vpos) (some (.Name x tpos)) l env = pure (swLc env.scope x tpos vpos scope) := by
  have hb : (env.blockKind == ScopeKind.function) = true := by
    unfold Env.blockKind
    rw [hk]
    rfl
  show pure (env.blockKind == .function && (env.scope.names.lookup x == some .local) && tpos.line == vpos.line && !(scope.names.any fun (n, k) => n == x && (k == .local || k == .cell))) = _
  rw [hb, Bool.true_and]
  rfl

section
variable {X : Cx} {A : Cls} {W : WX} {e a b c tg : Expr} {pos : Pos} {R : Rt} {mt : Bool}
/-- three at once -/
theorem snd_par3 {cs : List Code} {i j l : Nat} {x y z : Str} {px py pz pt : Pos} {kt k2 : Nat} {pt2 : Pos} (hm : R.meth = mt) (hc : X.calm = true) (hN : X.N.Nodup) (hi : X.N[i]? = some x) (hj : X.N[j]? = some y) (hl : X.N[l]? = some z) (hij : i ≠ j) (hil : i ≠ l) (hjl : j ≠ l) (hx : X.env.scope.names.lookup x = some .local) (hy : X.env.scope.names.lookup y = some .local) (hz : X.env.scope.names.lookup z = some .local)
    (h : Alls X A W [a, b, c] cs) (hw : swappedStores [.Tuple [.Name x px, .Name y py, .Name z pz] kt pt] (.Tuple [a, b, c] k2 pt2) X.env = pure (some [x, y, z])) :
    PS X (.Assign [.Tuple [.Name x px, .Name y py, .Name z pz] kt pt] (.Tuple [a, b, c] k2 pt2) pos) (tS X.K A mt W fun ρ => onOut (evsC cs ρ) fun ds ρ => match setPar ρ [i, j, l] ds with
    | some ρ => if okS R [i, j, l] then .nx ρ else .bad
    | none => .bad) := by
  refine PS.imp (ps_par3 hc hN hi hj hl hij hil hjl hx hy hz h.pa hw rfl) fun D σ H hw => ?_
  obtain ⟨E, S, ρ, fs, hz, st, p⟩ := hw
  refine ⟨E, S, ρ, fs, st, (PostS.on p).mono fun ds ρ1 S1 H1 fs1 e1 st1 p1 vs r => ?_⟩
  match ds, p1, r with
  | [], p1, _ => exact (show False from p1).elim
  | [_], p1, _ => exact (show False from p1).elim
  | [_, _], p1, _ => exact (show False from p1).elim
  | _ :: _ :: _ :: _ :: _, p1, _ => exact (show False from p1).elim
  | [d1, d2, d3], p1, r =>
    unfold Reps at r
    obtain ⟨u, r', rfl, r1, r2⟩ := r
    unfold Reps at r2
    obtain ⟨v, r', rfl, r2, r3⟩ := r2
    obtain ⟨w, rfl, r4⟩ := reps_one r3
    cases hk : okS R [i, j, l] with
    | false =>
      dsimp only [setPar, Option.map] at p1
      rw [hk] at p1
      exact p1.elim
    | true =>
      dsimp only [setPar, Option.map] at p1
      rw [hk] at p1
      have hz' := okS_of hm hk hz
      have z1 : i ≠ 0 ∨ E.z = none := hz'.imp (fun z q => z (by simp [q])) id
      have z2 : j ≠ 0 ∨ E.z = none := hz'.imp (fun z q => z (by simp [q])) id
      have z3 : l ≠ 0 ∨ E.z = none := hz'.imp (fun z q => z (by simp [q])) id
      refine ⟨u, v, w, rfl, ?_⟩
      have s1 := st1.put' (i := l) r4 z3
      have s2 := s1.put' (i := j) r2 z2
      have s3 := s2.put' (i := i) r1 z1
      have e : ((σ.set i (some u)).set j (some v)).set l (some w) = ((σ.set l (some w)).set j (some v)).set i (some u) := by
        rw [List.set_comm _ _ hij, List.set_comm _ _ hil, List.set_comm _ _ hjl]
      rw [e]
      exact PostS.nx p1 s3
/-- a slot forgotten -/
theorem Sta.del {K : PySem.W.Frag} {E : Ent} {S H : Hp} {ρ : Env} {σ : L2.St} {fs : Nat → List Addr} {i : Nat} (st : Sta K A E S H ρ σ fs) (hz : i ≠ 0 ∨ E.z = none) : ∃ fs', Sta K A E S H (ρ.set i .no) (σ.set i none) fs' := by
  refine ⟨fun j => if j = i then [] else fs j, by rw [List.length_set, List.length_set]; exact st.len, st.sub, fun j => ?_, fun j k hjk a ha => ?_, st.ghost, st.s0, fun j a ha => ?_, st.snew, fun w hw => ?_⟩
  · rw [getS_set]
    by_cases e : i = j
    · subst e
      rw [if_pos rfl, if_pos rfl]
      by_cases hl : i < ρ.length
      · rw [if_pos hl]; rfl
      · rw [if_neg hl]; rfl
    · rw [if_neg e, if_neg (fun z => e z.symm), List.getElem?_set_ne e]
      exact st.slot j
  · by_cases e : j = i
    · rw [if_pos e] at ha; simp at ha
    · rw [if_neg e] at ha
      by_cases e2 : k = i
      · rw [if_pos e2]; simp
      · rw [if_neg e2]
        exact st.dis j k hjk a ha
  · by_cases e : j = i
    · rw [if_pos e] at ha; simp at ha
    · rw [if_neg e] at ha
      exact st.new j a ha
  · rcases hz with z | z
    · rw [List.getElem?_set_ne z]
      exact st.z w hw
    · rw [z] at hw; cases hw
/-- try: body except x as n: k = n -/
theorem snd_try {G : Prog} {fa : Nat → Addr} {fd : Nat → FuncData} {call : Nat → D → List D → Res} {n c i k : Nat} {x y nm : Str} {np pos' p1 p2 p3 : Pos} {body : List Stmt} {fb : Env → GW.Flow} (C : Ctx G A fa fd call n X W) (hs : X.stack = X.env :: X.outer) (hf : X.env.frame = some X.env.locals) (hex : X.ex = [])
    (hi : X.N[i]? = some nm) (hln : X.env.kindOf nm = some .local) (hk : X.N[k]? = some y) (hly : X.env.kindOf y = some .local) (hik : i ≠ k) (hdn : okN nm = true) (hc : G.excs[c]? = some x) (hg : Gl X x) (hx : okN x = true)
    (hb : ∀ (W : WX) (pn : List (Addr × Obj)) (xe : Value → Shared → Prop), Ctx G A fa fd call n (X.tr pn xe) W → PSs (X.tr pn xe) body (tS X.K A mt W fb)) :
    PS X (.Try body [.ExceptHandler (some (.Name x np)) (some nm) [.Assign [.Name y p1] (.Name nm p2) p3] pos'] [] [] pos) (tS X.K A mt W fun ρ => match fb ρ with
    | .exn c' ρ => match G.sub c' c with
      | some true => if okS (G.rt call mt) [k, i] then .nx ((ρ.set k (.fz (.exc c'))).set i .no) else .bad
      | some false => .exn c' ρ
      | none => .bad
    | r => r) := by
  have hcx := C.facts.exc c x hc
  have hnm : Names X x (.ref (A.exc c)) := ⟨hg, okN_dbg hx, .inl hcx.1⟩
  refine PS.imp (ps_try_keep hs hf hex C.nd hi hln hk hly hik hdn hnm C.tk (tb := fun W => tS X.K A mt W fb) fun W pn xe tk po => hb W pn xe ⟨C.facts, C.fnok, C.room, C.calm, C.nd, tk, po⟩) fun D σ H hw => ?_
  obtain ⟨E, S, ρ, fs, hz, st, p⟩ := hw
  refine ⟨E, S, ρ, fs, hz, st, ?_⟩
  dsimp only at p
  cases hfl : fb ρ with
  | nx ρ1 => rw [hfl] at p; exact p
  | rt d o ρ1 => rw [hfl] at p; exact p
  | bk ρ1 => rw [hfl] at p; exact p
  | ct ρ1 => rw [hfl] at p; exact p
  | bad => rw [hfl] at p; exact p
  | exn c' ρ1 =>
    rw [hfl] at p
    dsimp only at p
    intro S1 H1 σ1 fs1 e1 st1
    cases hsub : G.sub c' c with
    | none => rw [hsub] at p; exact p.elim
    | some b =>
      rw [hsub] at p
      obtain ⟨_, g2⟩ := C.facts.sub c' c b hsub
      refine ⟨b, g2, fun hb => ?_, fun hb => ?_⟩
      · subst hb
        dsimp only at p
        cases hok : okS (G.rt call mt) [k, i] with
        | false => rw [hok] at p; exact p.elim
        | true =>
          rw [hok, if_pos rfl] at p
          have hz' := okS_of (mt := mt) (R := G.rt call mt) rfl hok hz
          have z1 : k ≠ 0 ∨ E.z = none := hz'.imp (fun z q => z (by simp [q])) id
          have z2 : i ≠ 0 ∨ E.z = none := hz'.imp (fun z q => z (by simp [q])) id
          refine ⟨A.exc c', rfl, rfl, fun a ha => ?_⟩
          obtain ⟨s2, e2⟩ := st1.layS (a := a) (o := ExI (A.exc c') a) ha
          have s3 := s2.put' (i := k) (d := .exc c') (v := .ref a) (by unfold Rep; exact ⟨a, rfl, upd_same ..⟩) z1
          obtain ⟨fs4, s4⟩ := s3.del z2
          exact p _ _ _ _ (e1.trans e2) s4
      · subst hb
        exact p S1 H1 σ1 fs1 e1 st1
end
end GW
end

section
/-! C18: statements: the check, and what it is good for. -/
namespace GW
open PySem PySem.Spec PyProof.Rows L2 RZ

def namO (N : List Str) (sc : Scope) (i : Nat) : Expr → Bool
  | .Name x _ => decide (N[i]? = some x) && lclB sc x
  | _ => false
/-- x = [..] in one line: stored as it is made -/
def swapB (sc : Scope) (t v : Expr) : Bool := match t, v with
  | .Name x p, .ListComp _ _ scope vp => swLc sc x p vp scope
  | _, _ => false
def isLc : Px → Bool
  | .lc .. => true
  | _ => false
/-- the value's form is known -/
def okV : Expr → Bool
  | .SetComp .. => false
  | .DictComp .. => false
  | _ => true
mutual
def chkS (G : Prog) (N : List Str) : Ps → Scope → Stmt → Bool
  | .asg i e, sc, st => match st with
    | .Assign [t] v _ => namL N sc i t && okV v && chk G N e false sc v && (!swapB sc t v || isLc e)
    | _ => false
  | .asgT is e, sc, st => match st with
    | .Assign [.Tuple ts _ _] v _ => namsL N sc is ts && plainB sc ts v && chk G N e false sc v
    | _ => false
  | .par [i, j] es, sc, st => match st with
    | .Assign [.Tuple [.Name x px, .Name y py] _ _] (.Tuple [a, b] _ _) _ => decide (swB sc [.Name x px, .Name y py] [a, b] = some (some [x, y])) && decide (N[i]? = some x) && decide (N[j]? = some y) && lclB sc x && lclB sc y && decide (i ≠ j) && chks G N es sc [a, b]
    | _ => false
  | .par [i, j, l] es, sc, st => match st with
    | .Assign [.Tuple [.Name x px, .Name y py, .Name z pz] _ _] (.Tuple [a, b, c] _ _) _ => decide (swB sc [.Name x px, .Name y py, .Name z pz] [a, b, c] = some (some [x, y, z])) && decide (N[i]? = some x) && decide (N[j]? = some y) && decide (N[l]? = some z) && lclB sc x && lclB sc y && lclB sc z && decide (i ≠ j) && decide (i ≠ l) && decide (j ≠ l) && chks G N es sc [a, b, c]
    | _ => false
  | .exp e, sc, st => match st with
    | .Expr v _ => notComp v && chk G N e false sc v
    | _ => false
  | .app (.sl i) e, sc, st => match st with
    | .Expr (.Call (.Attribute o nm ap) [v] [] cp) _ => decide (nm = "append") && nameB N sc i o && (ap.endLine == cp.line) && notStar v && chk G N e false sc v
    | _ => false
  | .ext (.sl i) e, sc, st => match st with
    | .Expr (.Call (.Attribute o nm ap) [v] [] cp) _ => decide (nm = "extend") && nameB N sc i o && (ap.endLine == cp.line) && notStar v && chk G N e false sc v
    | _ => false
  | .insr (.sl i) k e, sc, st => match st with
    | .Expr (.Call (.Attribute o nm ap) [u, v] [] cp) _ => decide (nm = "insert") && nameB N sc i o && (ap.endLine == cp.line) && notStar u && notStar v && chk G N k false sc u && chk G N e false sc v
    | _ => false
  | .ite c a b, sc, st => match st with
    | .If v x y _ => chk G N c false sc v && (chkB G N a sc x && chkB G N b sc y)
    | _ => false
  | .forS tg it b, sc, st => match st with
    | .For t v x [] _ => tgB N sc tg t && tgFit it t && notSet v && chk G N it true sc v && chkB G N b sc x
    | _ => false
  | .whl c b, sc, st => match st with
    | .While v x [] _ => chk G N c false sc v && chkB G N b sc x
    | _ => false
  | .ret e, sc, st => match st with
    | .Return (some v) _ => chk G N e false sc v
    | _ => false
  | .retN, sc, st => match st with
    | .Return none _ => true
    | _ => false
  | .raise c, sc, st => match st with
    | .Raise (some (.Call (.Name x _) [.Constant (.str _) _ _] [] _)) none _ => decide (G.excs[c]? = some x) && gloB sc x && okN x
    | _ => false
  | .tryK body c i k, sc, st => match st with
    | .Try x [.ExceptHandler (some (.Name f _)) (some nm) [.Assign [.Name y _] (.Name z _) _] _] [] [] _ => decide (z = nm) && decide (N[i]? = some nm) && lclB sc nm && decide (N[k]? = some y) && lclB sc y && decide (i ≠ k) && okN nm && decide (G.excs[c]? = some f) && gloB sc f && okN f && chkB G N body sc x
    | _ => false
  | .brk, sc, st => match st with
    | .Break _ => true
    | _ => false
  | .cont, sc, st => match st with
    | .Continue _ => true
    | _ => false
  | .pass, sc, st => match st with
    | .Pass _ => true
    | _ => false
  | _, _, _ => false
def chkB (G : Prog) (N : List Str) : List Ps → Scope → List Stmt → Bool
  | [], _, xs => xs.isEmpty
  | p :: ps, sc, xs => match xs with
    | x :: xs => chkS G N p sc x && chkB G N ps sc xs
    | [] => false
end

/-! ### soundness -/
structure Cs (G : Prog) (A : Cls) (fa : Nat → Addr) (fd : Nat → FuncData) (call : Nat → D → List D → Res) (n : Nat) (N : List Str) (sc : Scope) (X : Cx) (W : WX) : Prop where
  c : Cn G A fa fd call n N sc X W
  kind : sc.kind = .function
  stk : X.stack = X.env :: X.outer
  fr : X.env.frame = some X.env.locals
  ex : X.ex = []
  fn : ∀ x, sc.names.lookup x = some .cell → X.fn x = true
section
variable (G : Prog) (A : Cls) (fa : Nat → Addr) (fd : Nat → FuncData) (call : Nat → D → List D → Res) (n : Nat) (N : List Str) (mt : Bool)
def PS1 (p : Ps) : Prop := ∀ (X : Cx) (W : WX) (sc : Scope) (st : Stmt), Cs G A fa fd call n N sc X W → chkS G N p sc st = true → PS X st (tS X.K A mt W (exec (G.rt call mt) p))
def PSL (ps : List Ps) : Prop := ∀ (X : Cx) (W : WX) (sc : Scope) (sts : List Stmt), Cs G A fa fd call n N sc X W → chkB G N ps sc sts = true → PSs X sts (tS X.K A mt W (execs (G.rt call mt) ps))
end
section
variable {G : Prog} {A : Cls} {fa : Nat → Addr} {fd : Nat → FuncData} {call : Nat → D → List D → Res} {n : Nat} {N : List Str} {mt : Bool} {X : Cx} {W : WX} {sc : Scope}
theorem PS.cg {st : Stmt} {f f' : Env → GW.Flow} (h : PS X st (tS X.K A mt W f)) (q : ∀ ρ, f' ρ = f ρ) : PS X st (tS X.K A mt W f') := by
  have z : f' = f := funext q
  rw [z]
  exact h
theorem Cs.lcl (C : Cs G A fa fd call n N sc X W) {x : Str} (h : lclB sc x = true) : X.env.scope.names.lookup x = some .local := by
  rw [C.c.hsc]
  exact lclB_ok h
theorem Cs.idx (C : Cs G A fa fd call n N sc X W) {i : Nat} {x : Str} (h : N[i]? = some x) : X.N[i]? = some x := by
  rw [C.c.hN]
  exact h
theorem Cs.kindX (C : Cs G A fa fd call n N sc X W) : X.env.scope.kind = .function := by
  rw [C.c.hsc]
  exact C.kind
theorem Cs.nms (C : Cs G A fa fd call n N sc X W) {is : List Nat} {es : List Expr} (h : namsL N sc is es = true) : Nms X es is := tgB_slots h C.c.hN (own_self C.c.hsc) C.fn
theorem Cs.tg (C : Cs G A fa fd call n N sc X W) {T : Tg} {t : Expr} (h : tgB N sc T t = true) : PGok X A t T := tgB_ok h C.c.c.calm C.c.c.nd C.c.hN (own_self C.c.hsc) C.fn
theorem Cs.nam (C : Cs G A fa fd call n N sc X W) {i : Nat} {t : Expr} (h : namL N sc i t = true) : ∃ x p, t = .Name x p ∧ X.N[i]? = some x ∧ Loc X.env.scope x ∧ (X.fn x = true ∨ X.env.scope.names.lookup x = some .local) := by
  unfold namL at h
  split at h <;> first | cases h | skip
  simp only [Bool.and_eq_true, decide_eq_true_eq] at h
  have hl := locB_ok h.2
  refine ⟨_, _, rfl, C.idx h.1, (own_self C.c.hsc).loc hl, ?_⟩
  rcases hl with hl | hl
  · right; rw [C.c.hsc]; exact hl
  · left; exact C.fn _ hl
theorem Cs.tr (C : Cs G A fa fd call n N sc X W) {W2 : WX} {pn : List (Addr × Obj)} {xe : Value → Shared → Prop} (c : Ctx G A fa fd call n (X.tr pn xe) W2) : Cs G A fa fd call n N sc (X.tr pn xe) W2 :=
  ⟨⟨c, C.c.hN, C.c.hsc⟩, C.kind, C.stk, C.fr, C.ex, C.fn⟩
theorem okV_swap {sc : Scope} {x : Str} {p : Pos} {v : Expr} {l : Nat} {env : PySem.Env} (hk : env.scope.kind = .function) (hv : okV v = true) : swapsWith v (some (.Name x p)) l env = pure (swapB env.scope (.Name x p) v) := by
  cases v with
  | ListComp elt gens scope vp => exact swLc_ok hk
  | SetComp _ _ _ _ => cases hv
  | DictComp _ _ _ _ _ => cases hv
  | _ => rfl
theorem t_asg (i : Nat) (p : Px) : PS1 G A fa fd call n N mt (.asg i p) := fun X W sc st C h => by
  unfold chkS at h
  split at h <;> first | cases h | skip
  rename_i t v pos
  simp only [Bool.and_eq_true, Bool.or_eq_true, Bool.not_eq_true'] at h
  obtain ⟨⟨⟨h1, h2⟩, h3⟩, h4⟩ := h
  obtain ⟨x, tp, rfl, g1, g2, g3⟩ := C.nam h1
  have s := (snd (mt := mt) p).1 false X W sc v C.c h3
  have hsw := okV_swap (sc := sc) (x := x) (p := tp) (l := pos.line) C.kindX h2
  rw [C.c.hsc] at hsw
  refine PS.cg (f := fun ρ => onOut (ev (G.rt call mt) false p ρ) fun x ρ => if okS (G.rt call mt) [i] then .nx (putV ρ i x) else .bad) ?_ fun ρ => by (conv => lhs; unfold exec)
  cases hb : swapB sc (.Name x tp) v with
  | false =>
    rw [hb] at hsw
    exact snd_asg rfl C.c.c.nd g1 g2 g3 s.pe hsw
  | true =>
    rw [hb] at hsw h4
    rcases h4 with h4 | h4
    · cases h4
    · cases p with
      | lc own tg it cond el =>
        unfold chk at h3
        split at h3 <;> first | cases h3 | skip
        rename_i elt t iter ifs scope vpos
        simp only [Bool.and_eq_true, decide_eq_true_eq] at h3
        obtain ⟨⟨⟨⟨⟨⟨h1, h2⟩, h3⟩, h4⟩, h5⟩, h6⟩, h7, h8, h9⟩ := h3
        have hl : X.env.scope.names.lookup x = some .local := by
          rw [C.c.hsc]
          have z : swLc sc x tp vpos scope = true := hb
          unfold swLc at z
          simp only [Bool.and_eq_true] at z
          exact eq_of_beq z.1.1
        have hp : PS X (.Assign [.Name x tp] (.ListComp elt [⟨t, iter, ifs, 0⟩] scope vpos) pos) (tAsg (tO X.K A W (lcC (fun ρ => (ev (G.rt call mt) false it ρ).frz.bind fun x ρ => Out.of (itemsv x) ρ) (fun ρ => evAnd (G.rt call mt) true cond ρ) (fun ρ => (ev (G.rt call mt) true el ρ).frz) tg ((named N own).map (·.2)))) (gName i)) := by
          refine snd_setLc C.c.c.calm C.c.c.nd g1 hl hsw ((snd it).2 false X W sc iter t C.c h7 h3) (by rw [C.c.hN, C.c.hsc]; exact blkOk_by h1) (fun s H a cl fp => tgB_ok h2 C.c.c.calm C.c.c.nd C.c.hN own_blk fun x hx => ?_) (fun s H a cl fp => ?_) (fun s H a cl fp => ((snd el).1 true _ _ _ _ C.c.blk h9).frz) (folded_no h4) (fun j hj => ?_) (evAnd_still _ _) (Still.frz (ev_still _ _))
          · show (scope.names.lookup x == some .cell) = true
            rw [hx]
            rfl
          · have z : (fun ρ => (evAnd (G.rt call mt) true cond ρ).tob) = fun ρ => (andC (cds G call mt true cond) ρ).tob := funext fun ρ => by rw [evAnd_C]
            rw [z]
            exact pts_of (snds cond true _ _ _ _ C.c.blk h8) (by rw [cds_len]; exact h6)
          · rw [own_map]
            rw [List.all_eq_true] at h5
            exact List.contains_iff_mem.mp (h5 j hj)
        rw [own_map] at hp
        have z : (lcC (fun ρ => (ev (G.rt call mt) false it ρ).frz.bind fun x ρ => Out.of (itemsv x) ρ) (fun ρ => evAnd (G.rt call mt) true cond ρ) (fun ρ => (ev (G.rt call mt) true el ρ).frz) tg own) = ev (G.rt call mt) false (.lc own tg it cond el) := funext fun ρ => ev_lc.symm
        rw [z] at hp
        exact snd_asg_of rfl hp
      | _ => cases h4
theorem t_asgT (is : List Nat) (p : Px) : PS1 G A fa fd call n N mt (.asgT is p) := fun X W sc st C h => by
  unfold chkS at h
  split at h <;> first | cases h | skip
  simp only [Bool.and_eq_true] at h
  obtain ⟨⟨h1, h2⟩, h3⟩ := h
  have s := (snd (mt := mt) p).1 false X W sc _ C.c h3
  exact PS.cg (snd_asgT (R := G.rt call mt) rfl C.c.c.calm C.c.c.nd (C.nms h1) s.frz sole_no (plainB_ok C.kindX (by rw [C.c.hsc]; exact h2))) fun ρ => by (conv => lhs; unfold exec) <;> rfl
theorem t_par (is : List Nat) (es : List Px) : PS1 G A fa fd call n N mt (.par is es) := fun X W sc st C h => by
  match is, h with
  | [], h => unfold chkS at h; cases h
  | [_], h => unfold chkS at h; cases h
  | _ :: _ :: _ :: _ :: _, h => unfold chkS at h; cases h
  | [i, j], h =>
    unfold chkS at h
    split at h <;> first | cases h | skip
    simp only [Bool.and_eq_true, decide_eq_true_eq] at h
    obtain ⟨⟨⟨⟨⟨⟨h0, h1⟩, h2⟩, h3⟩, h4⟩, h5⟩, h6⟩ := h
    exact PS.cg (snd_par2 (R := G.rt call mt) rfl C.c.c.calm C.c.c.nd (C.idx h1) (C.idx h2) h5 (C.lcl h3) (C.lcl h4) (snds es false X W sc _ C.c h6) (swB_ok C.kindX (by rw [C.c.hsc]; exact h0))) fun ρ => by (conv => lhs; unfold exec; simp only [evs_C]) <;> rfl
  | [i, j, l], h =>
    unfold chkS at h
    split at h <;> first | cases h | skip
    simp only [Bool.and_eq_true, decide_eq_true_eq] at h
    obtain ⟨⟨⟨⟨⟨⟨⟨⟨⟨⟨h0, h1⟩, h2⟩, h2'⟩, h3⟩, h4⟩, h4'⟩, h5⟩, h5'⟩, h5''⟩, h6⟩ := h
    exact PS.cg (snd_par3 (R := G.rt call mt) rfl C.c.c.calm C.c.c.nd (C.idx h1) (C.idx h2) (C.idx h2') h5 h5' h5'' (C.lcl h3) (C.lcl h4) (C.lcl h4') (snds es false X W sc _ C.c h6) (swB_ok C.kindX (by rw [C.c.hsc]; exact h0))) fun ρ => by (conv => lhs; unfold exec; simp only [evs_C]) <;> rfl
theorem t_exp (p : Px) : PS1 G A fa fd call n N mt (.exp p) := fun X W sc st C h => by
  unfold chkS at h
  split at h <;> first | cases h | skip
  rw [Bool.and_eq_true] at h
  exact PS.cg (snd_exp ((snd (mt := mt) p).1 false X W sc _ C.c h.2).pe h.1) fun ρ => by (conv => lhs; unfold exec) <;> rfl
theorem t_app (q : Pl) (p : Px) : PS1 G A fa fd call n N mt (.app q p) := fun X W sc st C h => by
  cases q with
  | fld i f => unfold chkS at h; cases h
  | sl i =>
    unfold chkS at h
    split at h <;> first | cases h | skip
    simp only [Bool.and_eq_true, decide_eq_true_eq] at h
    obtain ⟨⟨⟨⟨rfl, h1⟩, h2⟩, h3⟩, h4⟩ := h
    obtain ⟨x, xp, rfl, g⟩ := C.c.var h1
    exact PS.cg (snd_app g ((snd (mt := mt) p).1 false X W sc _ C.c h4).frz h3 h2) fun ρ => by (conv => lhs; unfold exec) <;> rfl
theorem t_ext (q : Pl) (p : Px) : PS1 G A fa fd call n N mt (.ext q p) := fun X W sc st C h => by
  cases q with
  | fld i f => unfold chkS at h; cases h
  | sl i =>
    unfold chkS at h
    split at h <;> first | cases h | skip
    simp only [Bool.and_eq_true, decide_eq_true_eq] at h
    obtain ⟨⟨⟨⟨rfl, h1⟩, h2⟩, h3⟩, h4⟩ := h
    obtain ⟨x, xp, rfl, g⟩ := C.c.var h1
    exact PS.cg (snd_ext g ((snd (mt := mt) p).1 false X W sc _ C.c h4).frz h3 h2) fun ρ => by (conv => lhs; unfold exec) <;> rfl
theorem t_insr (q : Pl) (k p : Px) : PS1 G A fa fd call n N mt (.insr q k p) := fun X W sc st C h => by
  cases q with
  | fld i f => unfold chkS at h; cases h
  | sl i =>
    unfold chkS at h
    split at h <;> first | cases h | skip
    simp only [Bool.and_eq_true, decide_eq_true_eq] at h
    obtain ⟨⟨⟨⟨⟨⟨rfl, h1⟩, h2⟩, h3⟩, h4⟩, h5⟩, h6⟩ := h
    obtain ⟨x, xp, rfl, g⟩ := C.c.var h1
    exact PS.cg (snd_insr g ((snd (mt := mt) k).1 false X W sc _ C.c h5).frz ((snd (mt := mt) p).1 false X W sc _ C.c h6).frz h3 h4 h2) fun ρ => by (conv => lhs; unfold exec) <;> rfl
theorem t_ite {c : Px} {a b : List Ps} (ha : PSL G A fa fd call n N mt a) (hb : PSL G A fa fd call n N mt b) : PS1 G A fa fd call n N mt (.ite c a b) := fun X W sc st C h => by
  unfold chkS at h
  split at h <;> first | cases h | skip
  simp only [Bool.and_eq_true] at h
  exact PS.cg (snd_ite ((snd (mt := mt) c).1 false X W sc _ C.c h.1).pt (ha X W sc _ C h.2.1) (hb X W sc _ C h.2.2)) fun ρ => by (conv => lhs; unfold exec) <;> rfl
theorem exec_for {R : Rt} {tg : Tg} {it : Px} {b : List Ps} {ρ : Env} : exec R (.forS tg it b) ρ = onOut ((ev R false it ρ).frz.bind fun x ρ => Out.of (itemsv x) ρ) fun xs ρ => if okS R tg.slots then forL (fun d ρ => match setTg ρ tg d with
      | some ρ => execs R b ρ
      | none => .bad) xs ρ else .bad := by
  conv => lhs; unfold exec
  cases (ev R false it ρ).frz with
  | ok x ρ =>
    dsimp only [onOut, Out.bind]
    cases itemsv x with
    | none => rfl
    | some xs => rfl
  | _ => rfl
theorem t_for {tg : Tg} {it : Px} {b : List Ps} (hb : PSL G A fa fd call n N mt b) : PS1 G A fa fd call n N mt (.forS tg it b) := fun X W sc st C h => by
  unfold chkS at h
  split at h <;> first | cases h | skip
  simp only [Bool.and_eq_true] at h
  obtain ⟨⟨⟨⟨h1, h2⟩, h3⟩, h4⟩, h5⟩ := h
  exact PS.cg (snd_for (R := G.rt call mt) rfl C.c.c.po C.c.c.calm ((snd (mt := mt) it).2 false X W sc _ _ C.c h4 h2) (C.tg h1) (hb X W sc _ C h5) (folded_no h3)) fun ρ => exec_for
theorem t_whl {c : Px} {b : List Ps} (hb : PSL G A fa fd call n N mt b) : PS1 G A fa fd call n N mt (.whl c b) := fun X W sc st C h => by
  unfold chkS at h
  split at h <;> first | cases h | skip
  simp only [Bool.and_eq_true] at h
  exact PS.cg (snd_whl C.c.c.po ((snd (mt := mt) c).1 false X W sc _ C.c h.1).pt (hb X W sc _ C h.2)) fun ρ => by (conv => lhs; unfold exec) <;> rfl
theorem t_ret (p : Px) : PS1 G A fa fd call n N mt (.ret p) := fun X W sc st C h => by
  unfold chkS at h
  split at h <;> first | cases h | skip
  exact PS.cg (snd_ret ((snd (mt := mt) p).1 false X W sc _ C.c h).pe) fun ρ => by (conv => lhs; unfold exec) <;> rfl
theorem t_retN : PS1 G A fa fd call n N mt .retN := fun X W sc st C h => by
  unfold chkS at h
  split at h <;> first | cases h | skip
  exact PS.cg snd_retN fun ρ => by (conv => lhs; unfold exec) <;> rfl
theorem t_raise (c : Nat) : PS1 G A fa fd call n N mt (.raise c) := fun X W sc st C h => by
  unfold chkS at h
  split at h <;> first | cases h | skip
  simp only [Bool.and_eq_true, decide_eq_true_eq] at h
  exact PS.cg (snd_raise C.c.c h.1.1 (C.c.gl h.1.2) h.2) fun ρ => by (conv => lhs; unfold exec) <;> rfl
theorem t_try {body : List Ps} {c i k : Nat} (hb : PSL G A fa fd call n N mt body) : PS1 G A fa fd call n N mt (.tryK body c i k) := fun X W sc st C h => by
  unfold chkS at h
  split at h <;> first | cases h | skip
  simp only [Bool.and_eq_true, decide_eq_true_eq] at h
  obtain ⟨⟨⟨⟨⟨⟨⟨⟨⟨⟨rfl, h1⟩, h2⟩, h3⟩, h4⟩, h5⟩, h6⟩, h7⟩, h8⟩, h9⟩, h10⟩ := h
  exact PS.cg (snd_try C.c.c C.stk C.fr C.ex (C.idx h1) (C.lcl h2) (C.idx h3) (C.lcl h4) h5 h6 h7 (C.c.gl h8) h9 fun W2 pn xe c2 => hb (X.tr pn xe) W2 sc _ (C.tr c2) h10) fun ρ => by (conv => lhs; unfold exec) <;> rfl
theorem t_brk : PS1 G A fa fd call n N mt .brk := fun X W sc st C h => by
  unfold chkS at h
  split at h <;> first | cases h | skip
  exact PS.cg snd_brk fun ρ => by (conv => lhs; unfold exec) <;> rfl
theorem t_cont : PS1 G A fa fd call n N mt .cont := fun X W sc st C h => by
  unfold chkS at h
  split at h <;> first | cases h | skip
  exact PS.cg snd_cont fun ρ => by (conv => lhs; unfold exec) <;> rfl
theorem t_pass : PS1 G A fa fd call n N mt .pass := fun X W sc st C h => by
  unfold chkS at h
  split at h <;> first | cases h | skip
  exact PS.cg snd_pass fun ρ => by (conv => lhs; unfold exec) <;> rfl
theorem no_S {p : Ps} (h : ∀ sc st, chkS G N p sc st = false) : PS1 G A fa fd call n N mt p := fun X W sc st C q => by
  rw [h] at q
  cases q
mutual
theorem sndS : ∀ p : Ps, PS1 G A fa fd call n N mt p
  | .asg i e => t_asg i e
  | .asgT is e => t_asgT is e
  | .par is es => t_par is es
  | .exp e => t_exp e
  | .app q e => t_app q e
  | .ext q e => t_ext q e
  | .insr q k e => t_insr q k e
  | .setk q k v => no_S fun sc st => by unfold chkS; rfl
  | .setf i f e => no_S fun sc st => by unfold chkS; rfl
  | .ite c a b => t_ite (sndB a) (sndB b)
  | .forS tg it b => t_for (sndB b)
  | .whl c b => t_whl (sndB b)
  | .ret e => t_ret e
  | .retN => t_retN
  | .raise c => t_raise c
  | .tryK body c i k => t_try (sndB body)
  | .brk => t_brk
  | .cont => t_cont
  | .pass => t_pass
theorem sndB : ∀ ps : List Ps, PSL G A fa fd call n N mt ps
  | [] => fun X W sc sts C h => by
    unfold chkB at h
    cases sts with
    | nil =>
      have z : execs (G.rt call mt) [] = fun ρ => .nx ρ := funext fun ρ => by unfold execs; rfl
      rw [z]
      exact snd_nil
    | cons _ _ => cases h
  | p :: ps => fun X W sc sts C h => by
    unfold chkB at h
    cases sts with
    | nil => cases h
    | cons x xs =>
      simp only [Bool.and_eq_true] at h
      have z : execs (G.rt call mt) (p :: ps) = fun ρ => match exec (G.rt call mt) p ρ with
        | .nx ρ => execs (G.rt call mt) ps ρ
        | r => r := funext fun ρ => by (conv => lhs; unfold execs) <;> rfl
      rw [z]
      exact snd_cons (sndS p X W sc x C h.1) (sndB ps X W sc xs C h.2)
end
end
end GW
end

section
/-! C19: every def of the text does what its term tells. -/
namespace GW
open PySem PySem.Spec PyProof.Rows L2 RZ

/-- a def's term is good -/
structure DefOk (G : Prog) (d : He.DefD) (F : Fn) : Prop where
  at_ : d.at_ = (F.name, none)
  meth : F.meth = false
  dfl : d.dfl = []
  kwd : d.kwd = []
  sc : FnScope F.names F.pars d.scope
  body : chkB G F.names F.body d.scope d.body = true
  binds : ∀ (kV doc pm : Value) (an : Option Addr) (cdv ct : Value) (us : List Value), us.length = F.pars.length → bindArgs (PySem.W.fnOf d.name d.qual d.params d.body d.scope .none kV doc pm an cdv ct) ⟨us, []⟩ = pure (F.pars.zip us)

section
variable {K : PySem.W.Frag} {A : Cls}
theorem start_sta {S H : Hp} {ds : List D} {vs : List V} {k : Nat} (sub : Same S H) (r : Reps K A S ds vs) : Sta K A ⟨S, H, none⟩ S H (ds.map .fz ++ List.replicate k .no) (vs.map some ++ List.replicate k none) (fun _ => []) := by
  have key : ∀ {ds : List D} {vs : List V}, Reps K A S ds vs → ∀ i, SlR K A S H (getS (ds.map .fz ++ List.replicate k .no) i) (vs.map some ++ List.replicate k none)[i]? [] := by
    intro ds
    induction ds with
    | nil =>
      intro vs r i
      unfold Reps at r
      subst r
      have h : getS (([] : List D).map Sl.fz ++ List.replicate k .no) i = .no := by
        show getS (List.replicate k .no) i = .no
        unfold getS
        rw [List.getElem?_replicate]
        by_cases e : i < k
        · rw [if_pos e]
        · rw [if_neg e]
      rw [h]
      rfl
    | cons d ds ih =>
      intro vs r i
      unfold Reps at r
      obtain ⟨v, r', rfl, h1, h2⟩ := r
      cases i with
      | zero => exact ⟨rfl, v, rfl, h1⟩
      | succ i => exact ih h2 i
  refine ⟨?_, sub, fun i => key r i, fun i j _ a ha => by simp at ha, Same.refl H, Same.refl S, fun i a ha => by simp at ha, fun a o h => .inl h, fun w hw => by cases hw⟩
  simp [r.len]
theorem own_out {S H : Hp} {z : D × Bool} {v : V} {fp : List Addr} (r : RV K A S H z v fp) : ∀ a ∈ fp, S a = none := by
  intro a ha
  unfold RV at r
  split at r
  · exact (r.at a ha).1
  · rw [r.1] at ha
    simp at ha
end
section
variable {P : Program} {w : World} {K : PySem.W.Frag} {mg : Str → Option Value} {base : Heap} {G : Prog} {A : Cls} {fa : Nat → Addr} {fd : Nat → FuncData}
theorem fns_ok (Fc : Facts G A fa fd w K mg) (ok : ∀ (f : Nat) (F : Fn), G.fns[f]? = some F → ∃ d, DefOk G d F ∧ FunD K d.name d.qual d.params d.body d.scope [] [] (fa f) (fd f)) :
    ∀ (n f : Nat) (F : Fn), G.fns[f]? = some F → FnOk P w K mg base (L2.CX P w) n (fa f) (fd f) F.pars (spF K A (run G n) f F)
  | 0, f, F, hf => ⟨fun vs H Q E h => h.1, fun A0 outer s H args us vs Q E _ _ _ _ h => by
      obtain ⟨_, _, S, ds, _, _, h⟩ := h
      exact h.elim⟩
  | n + 1, f, F, hf => by
    obtain ⟨d, dk, FD⟩ := ok f F hf
    refine FD.ok dk.sc (fun vs H Q E h => h.1) fun cdv A0 outer s H vs Q E hr h => ?_
    obtain ⟨h1, _, S, ds, sub, r, h⟩ := h
    refine ⟨tS K A false (fun cls d _ H => E cls d H) (execs (G.rt (run G n) false) F.body), sndB F.body _ _ d.scope d.body ⟨⟨⟨Fc, fns_ok Fc ok n, hr, rfl, dk.sc.nd, takes_of rfl rfl rfl rfl, passes_of rfl⟩, rfl, rfl⟩, dk.sc.kind, rfl, rfl, rfl, fun _ _ => rfl⟩ dk.body, ?_⟩
    have hl : ds.length = vs.length := r.len.symm
    have st := start_sta (k := F.names.length - F.pars.length) sub r
    have e1 : L2.start F.names vs = vs.map some ++ List.replicate (F.names.length - F.pars.length) none := by
      unfold L2.start
      rw [h1]
    refine ⟨⟨S, H, none⟩, S, ds.map .fz ++ List.replicate (F.names.length - F.pars.length) .no, fun _ => [], .inl rfl, by rw [e1]; exact st, ?_⟩
    have e2 : run G (n + 1) f .non ds = (execs (G.rt (run G n) false) F.body (ds.map .fz ++ List.replicate (F.names.length - F.pars.length) .no)).res F := by
      show (match G.fns[f]? with
        | some F => runBody G (run G n) F .non ds
        | none => .bad) = _
      rw [hf]
      show runBody G (run G n) F .non ds = _
      unfold runBody Fn.start
      rw [dk.meth]
      rw [if_pos (by rw [hl, h1]; rfl)]
      rfl
    rw [e2] at h
    cases hx : execs (G.rt (run G n) false) F.body (ds.map .fz ++ List.replicate (F.names.length - F.pars.length) .no) with
    | nx ρ =>
      rw [hx] at h
      unfold Flow.res selfOf at h
      rw [dk.meth] at h
      intro S' H' σ fs e s
      exact h S' H' .non [] e s.ghost s.sub s.snew (RV.plain Rep.non) (by simp)
    | rt d o ρ =>
      rw [hx] at h
      unfold Flow.res selfOf at h
      rw [dk.meth] at h
      intro S' H' σ fs v fp e s rv ap
      exact h S' H' v fp e s.ghost s.sub s.snew rv fun a ha => ⟨(ap a ha).1, own_out rv a ha⟩
    | exn c ρ =>
      rw [hx] at h
      unfold Flow.res selfOf at h
      rw [dk.meth] at h
      intro S' H' σ fs e s
      exact h H' s.ghost
    | bk ρ => rw [hx] at h; exact h.elim
    | ct ρ => rw [hx] at h; exact h.elim
    | bad => rw [hx] at h; exact h.elim
end
end GW
end

section
/-! C20: what the head told is what the terms lean on; a law's end. -/
namespace GW
open PySem PySem.Spec PyProof.Rows L2 RZ

/-! ### constants of the text -/
mutual
def repB (K : PySem.W.Frag) : D → Value → Bool
  | .non, u => match u with
    | .none => true
    | _ => false
  | .bl b, u => match u with
    | .bool c => b == c
    | _ => false
  | .int i, u => match u with
    | .int j _ => decide (i = j)
    | _ => false
  | .str s, u => match u with
    | .str t _ => decide (s = t)
    | _ => false
  | .tup ds, u => match u with
    | .ref a => match K.lookup a with
      | some ⟨.type c, _, .seq its _, _⟩ => decide (c = "tuple") && decide (its.size ≤ sizeLine) && repsB K ds its.toList
      | _ => false
    | _ => false
  | _, _ => false
def repsB (K : PySem.W.Frag) : List D → List Value → Bool
  | [], us => us.isEmpty
  | d :: ds, us => match us with
    | u :: us => repB K d u && repsB K ds us
    | [] => false
end
mutual
theorem repB_ok {K : PySem.W.Frag} {A : Cls} : ∀ {d : D} {u : Value}, repB K d u = true → ∃ v, RelV v u ∧ Rep K A (fun _ => none) d v
  | .non, u, h => by
    unfold repB at h
    split at h <;> first | cases h | skip
    exact ⟨.non, rfl, Rep.non⟩
  | .bl b, u, h => by
    unfold repB at h
    split at h <;> first | cases h | skip
    cases eq_of_beq h
    exact ⟨.bl b, rfl, Rep.bl _⟩
  | .int i, u, h => by
    unfold repB at h
    split at h <;> first | cases h | skip
    cases of_decide_eq_true h
    exact ⟨.int i, ⟨_, rfl⟩, Rep.int _⟩
  | .str s, u, h => by
    unfold repB at h
    split at h <;> first | cases h | skip
    cases of_decide_eq_true h
    exact ⟨.str s, ⟨_, rfl⟩, Rep.str _⟩
  | .tup ds, u, h => by
    unfold repB at h
    split at h <;> first | cases h | skip
    split at h <;> first | cases h | skip
    rename_i a _ c od its n sl q
    simp only [Bool.and_eq_true, decide_eq_true_eq] at h
    obtain ⟨⟨rfl, h2⟩, h3⟩ := h
    obtain ⟨vs, r1, r2⟩ := repsB_ok (A := A) h3
    exact ⟨.ref a, rfl, by unfold Rep; exact ⟨a, vs, rfl, .inr ⟨_, its, n, q, rfl, rfl, h2, r1⟩, r2⟩⟩
  | .lst _, u, h => by unfold repB at h; cases h
  | .dic _, u, h => by unfold repB at h; cases h
  | .exc _, u, h => by unfold repB at h; cases h
  | .ins _ _, u, h => by unfold repB at h; cases h
theorem repsB_ok {K : PySem.W.Frag} {A : Cls} : ∀ {ds : List D} {us : List Value}, repsB K ds us = true → ∃ vs, Vals vs us ∧ Reps K A (fun _ => none) ds vs
  | [], us, h => by
    unfold repsB at h
    cases us with
    | nil => exact ⟨[], .nil, Reps.nil⟩
    | cons _ _ => cases h
  | d :: ds, us, h => by
    unfold repsB at h
    cases us with
    | nil => cases h
    | cons u us =>
      dsimp only at h
      rw [Bool.and_eq_true] at h
      obtain ⟨v, r1, r2⟩ := repB_ok (A := A) h.1
      obtain ⟨vs, r3, r4⟩ := repsB_ok (A := A) h.2
      exact ⟨v :: vs, .cons r1 r3, Reps.cons r2 r4⟩
end
def dicB (K : PySem.W.Frag) (x : Str) (kvs : List (Str × D)) : Bool := kvs.all fun q => match PySem.W.nsIn K (He.ga K x) q.1 with
  | some (some u) => repB K q.2 u
  | _ => false
def gloK (K : PySem.W.Frag) (q : Str × D) : Bool := match D.dic? q.2 with
  | some kvs => dicB K q.1 kvs
  | none => match PySem.W.nsIn K mainGlobals q.1 with
    | some (some u) => repB K q.2 u
    | _ => false
/-! ### refusals -/
def eqW (a b : Option (Option Value)) : Bool := decide (a = b)
def excB (K : PySem.W.Frag) (x : Str) : Bool :=
  eqW (PySem.W.findIn K (.ref (He.ga K x)) "__getattribute__") (some (some (.builtin "BaseException.__getattribute__"))) &&
  (eqW (PySem.W.findIn K (.ref (He.ga K x)) "__getattr__") (some none) &&
  (PySem.W.hasDictIn K (He.ga K x) &&
  (eqW (PySem.W.findIn K (.ref (He.ga K x)) "__class__") (some (some (.builtin "object.__class__"))) &&
  (eqW (PySem.W.specialIn K (.builtin "object.__class__") "__get__") (some (some (.builtin "getset_descriptor.__get__"))) &&
  (decide (PySem.W.takesIn K (.builtin "object.__class__") = some true) &&
  (decide (PySem.W.mroIn K (He.ga K x) (.type "object") = some true) &&
  decide (PySem.W.kitOne K (.ref (He.ga K x)) (.type "ValueError") = some true)))))))
def excN (G : Prog) (c : Nat) : Str := (G.excs[c]?).getD ("" : Str)
def subB (G : Prog) (K : PySem.W.Frag) : Bool := (List.range G.excs.length).all fun c => (List.range G.excs.length).all fun k => match G.sub c k with
  | some b => decide (PySem.W.kitOne K (.ref (He.ga K (excN G c))) (.ref (He.ga K (excN G k))) = some b) && decide (PySem.W.exmOne K (.ref (He.ga K (excN G c))) (.ref (He.ga K (excN G k))) = some b)
  | none => true
/-- no list stands in the head's part -/
def noLst (K : PySem.W.Frag) : Bool := K.all fun q => match q.2.cls with
  | .type c => c != "list"
  | _ => true
def exB (G : Prog) (K : PySem.W.Frag) : Bool := noLst K && (G.glos.all (gloK K) && (G.excs.all (excB K) && subB G K))
/-- the dicts among the constants -/
def dicOf (q : Str × D) : Option He.Tab := match D.dic? q.2 with
  | some kvs => some (fun K => He.ga K q.1, kvs.map (·.1))
  | none => none
def tsOf (G : Prog) : List He.Tab := G.glos.filterMap dicOf
def dicN (q : Str × D) : Option He.Fa := match D.dic? q.2 with
  | some _ => some (.glo q.1)
  | none => none
def faOf (G : Prog) : List He.Fa := bnames.map .free ++ (G.fns.filterMap (fun F => if F.meth then none else some (.glo F.name)) ++ (G.excs.map .exc ++ (G.excs.map .glo ++ G.glos.filterMap dicN)))
def clsOf (G : Prog) (K : PySem.W.Frag) : Cls := ⟨fun c => He.ga K (excN G c), fun _ => 0⟩

/-- all defs have good terms -/
inductive DefsOk (G : Prog) : List He.DefD → List Fn → Prop
  | nil : DefsOk G [] []
  | cons {d : He.DefD} {F : Fn} {ds : List He.DefD} {Fs : List Fn} : DefOk G d F → DefsOk G ds Fs → DefsOk G (d :: ds) (F :: Fs)
theorem DefsOk.get {G : Prog} {ds : List He.DefD} {Fs : List Fn} (h : DefsOk G ds Fs) : ∀ {f : Nat} {F : Fn}, Fs[f]? = some F → ∃ d, ds[f]? = some d ∧ DefOk G d F := by
  induction h with
  | nil => intro f F e; simp at e
  | @cons d F ds Fs h1 _ ih =>
    intro f F' e
    cases f with
    | zero => cases e; exact ⟨d, rfl, h1⟩
    | succ f => exact ih e
section
variable {G : Prog} {defs : List He.DefD} {K : PySem.W.Frag} {mg : Str → Option Value} {h : Heap} {fd : Nat → FuncData} {w : World}
def faAt (K : PySem.W.Frag) (defs : List He.DefD) (f : Nat) : Addr := match defs[f]? with
  | some d => He.fAd K d.at_
  | none => 0
theorem facts_of (hd : DefsOk G defs G.fns) (ct : He.SaysT (faOf G) defs (tsOf G) w K) (e : exB G K = true) (X : K.In h) (Gs : h.Ns mainGlobals mg) (hfd : ∀ f d, defs[f]? = some d → FunD K d.name d.qual d.params d.body d.scope (d.dvs K) (d.kws K) (He.fAd K d.at_) (fd f)) :
    Facts G (clsOf G K) (faAt K defs) fd w K mg := by
  have c := ct.d
  unfold exB at e
  simp only [Bool.and_eq_true] at e
  obtain ⟨_, e1, e2, e3⟩ := e
  refine ⟨fun g x d hg hdic => ?_, fun g x kvs hg => ?_, fun x hx => ?_, fun f F hf hm => ?_, fun f F hf => ?_, fun k x hx => ?_, fun k j b hb => ?_⟩
  · have q := List.all_eq_true.mp e1 _ (List.mem_of_getElem? hg)
    unfold gloK at q
    rw [hdic] at q
    dsimp only at q
    split at q <;> first | cases q | skip
    rename_i u hu
    obtain ⟨v, r1, r2⟩ := repB_ok (A := clsOf G K) q
    exact ⟨u, v, PySem.W.mg_of X Gs hu, r1, r2⟩
  · have hm := List.mem_of_getElem? hg
    have q := List.all_eq_true.mp e1 _ hm
    have hgl := He.glo_ok X Gs (c.facts (f := .glo x) (by
      unfold faOf
      refine List.mem_append_right _ (List.mem_append_right _ (List.mem_append_right _ (List.mem_append_right _ (List.mem_filterMap.mpr ⟨(x, .dic kvs), hm, rfl⟩))))))
    have ht : ((fun K => He.ga K x, kvs.map (·.1)) : He.Tab) ∈ tsOf G := List.mem_filterMap.mpr ⟨(x, .dic kvs), hm, rfl⟩
    obtain ⟨i, hi, ei⟩ := List.mem_iff_getElem.mp ht
    obtain ⟨es, n, D⟩ := ct.tab i (t := (fun K => He.ga K x, kvs.map (·.1))) (by rw [List.getElem?_eq_getElem hi, ei])
    refine ⟨He.ga K x, hgl, fun k d hk => ?_⟩
    have q2 := List.all_eq_true.mp (show dicB K x kvs = true from q) _ (PySem.mem_of_lookup hk)
    dsimp only at q2
    split at q2 <;> first | cases q2 | skip
    rename_i u hu
    obtain ⟨v, r1, r2⟩ := repB_ok (A := clsOf G K) q2
    exact ⟨v, ⟨es, n, u, D.at_, D.lit, hu, r1⟩, r2⟩
  · exact He.free_ok X Gs (c.facts (f := .free x) (by unfold faOf; exact List.mem_append_left _ (List.mem_map_of_mem hx)))
  · obtain ⟨d, h1, h2⟩ := hd.get hf
    have q := He.glo_ok X Gs (c.facts (f := .glo F.name) (by
      unfold faOf
      refine List.mem_append_right _ (List.mem_append_left _ (List.mem_filterMap.mpr ⟨F, List.mem_of_getElem? hf, ?_⟩))
      rw [hm]
      rfl))
    rw [q]
    unfold faAt
    rw [h1]
    dsimp only
    rw [h2.at_]
    rfl
  · obtain ⟨d, h1, h2⟩ := hd.get hf
    have q := hfd f d h1
    have z : faAt K defs f = He.fAd K d.at_ := by
      unfold faAt
      rw [h1]
    unfold He.DefD.dvs He.DefD.kws at q
    rw [h2.dfl, h2.kwd] at q
    rw [z]
    exact ⟨q.kp, FunD.bindsN q h2.binds⟩
  · have hx' : x ∈ G.excs := List.mem_of_getElem? hx
    have q := List.all_eq_true.mp e2 x hx'
    have en : excN G k = x := by
      unfold excN
      rw [hx]
      rfl
    have m1 := He.glo_ok X Gs (c.facts (f := .glo x) (by unfold faOf; exact List.mem_append_right _ (List.mem_append_right _ (List.mem_append_right _ (List.mem_append_left _ (List.mem_map_of_mem hx'))))))
    obtain ⟨m2, m3, m4, m5⟩ := He.exc_ok (c.facts (f := .exc x) (by unfold faOf; exact List.mem_append_right _ (List.mem_append_right _ (List.mem_append_left _ (List.mem_map_of_mem hx')))))
    unfold excB eqW at q
    simp only [Bool.and_eq_true, decide_eq_true_eq] at q
    obtain ⟨q1, q2, q3, q4, q5, q6, q7, q8⟩ := q
    show mg x = some (.ref (He.ga K (excN G k))) ∧ _
    rw [en]
    refine ⟨m1, ?_⟩
    show PySem.W.keepIn K (.ref (He.ga K (excN G k))) = true ∧ PySem.W.excIn K (He.ga K (excN G k)) _ _ = true ∧ PySem.W.subIn K (.ref (He.ga K (excN G k))) _ = _ ∧ PySem.W.typeIn K (.ref (He.ga K (excN G k))) = _ ∧ ExcC K (He.ga K (excN G k)) ∧ PySem.W.kitOne K (.ref (He.ga K (excN G k))) _ = _
    rw [en]
    exact ⟨m3, m2, m4, m5, ⟨q1, q2, m4, q3, q4, q5, q6, q7⟩, q8⟩
  · obtain ⟨l1, l2⟩ := Prog.sub_lt hb
    unfold subB at e3
    have q := List.all_eq_true.mp (List.all_eq_true.mp e3 k (List.mem_range.mpr l1)) j (List.mem_range.mpr l2)
    rw [hb] at q
    simp only [Bool.and_eq_true, decide_eq_true_eq] at q
    exact q
end
/-! ### a law's end -/
theorem rep_ints {K : PySem.W.Frag} {A : Cls} {H : Hp} : ∀ ns : List Int, Reps K A H (ns.map .int) (ns.map V.int)
  | [] => Reps.nil
  | n :: ns => Reps.cons (Rep.int n) (rep_ints ns)
theorem noLst_ok {K : PySem.W.Frag} (e : noLst K = true) {H : Hp} {a : Addr} {xs : List V} (h : SqL K H a xs) : Rd H a (.lst xs) := by
  rcases h with h | ⟨o, its, n, h1, h2, _⟩
  · exact h
  · unfold noLst at e
    have q := List.all_eq_true.mp e _ (He.lookup_mem h1)
    dsimp only at q
    rw [h2] at q
    cases q
theorem law_walk {l : PySem.W.OpenLaw} {q : Program} {loose : List Str} {XP : (Str → Option Value) → Heap → Prop} {dr : DefRec} {G : Prog} {defs : List He.DefD} {nH f N : Nat} {F : Fn} {x : Str}
    (hn : l.most = some 63) (hdf : dr.params.defaults = []) (hname : dr.name = F.name) (hf : G.fns[f]? = some F) (hp : F.pars = [x]) (hd : DefsOk G defs G.fns) (hr : Room N callerA)
    (hlaw : ∀ ns : List Int, ns.length ≤ 63 → (∀ z ∈ ns, Builtin.Int.intBits z ≤ 1048576) → ∃ o, run G N f .non [.lst (ns.map .int)] = .ok (.bl true) o .non) :
    PySem.W.WalkO q loose XP (He.hookX nH (faOf G) defs (tsOf G) [] (exB G)).says l.row.toRowW dr [] (fun f vs => PySem.call f vs) := by
  refine Att.attach_callB hn hdf fun w s₀ s₁ mg mb fa o pm cd doc a vs ns Gr Y ho hdd hcd hmg hobj hints hlen hbits hg => ?_
  obtain ⟨K, KX, c⟩ := Y
  have cd' := c.t.d
  have ex := c.more
  have ch : ∀ i : Nat, ∃ fdi : FuncData, ∀ d : He.DefD, defs[i]? = some d → FunD K d.name d.qual d.params d.body d.scope (d.dvs K) (d.kws K) (He.fAd K d.at_) fdi := fun i => by
    cases hi : defs[i]? with
    | none => exact ⟨default, fun d h => by cases h⟩
    | some d =>
      obtain ⟨fdi, h⟩ := cd'.def_ i (d := d) hi
      exact ⟨fdi, fun d' h' => by cases h'; exact h⟩
  obtain ⟨fd, hfd⟩ := Classical.axiomOfChoice ch
  obtain ⟨d, g1, g2⟩ := hd.get hf
  have FD := hfd f d g1
  unfold He.DefD.dvs He.DefD.kws at FD
  rw [g2.dfl, g2.kwd] at FD
  have hfa : He.fAd K d.at_ = fa := by
    have e1 := He.glo_ok KX Gr.T.g (cd'.facts (f := .glo F.name) (by
      unfold faOf
      refine List.mem_append_right _ (List.mem_append_left _ (List.mem_filterMap.mpr ⟨F, List.mem_of_getElem? hf, ?_⟩))
      rw [g2.meth]
      rfl))
    rw [hname] at hmg
    rw [hmg] at e1
    rw [g2.at_]
    cases e1
    rfl
  have hfa2 : faAt K defs f = fa := by
    unfold faAt
    rw [g1]
    exact hfa
  have bnd : ∀ (s : Shared) (u : Value), BindsTo s (fd f) ⟨[u], []⟩ [(x, u)] := fun s u => by
    have b := FunD.bindsA FD g2.binds s [u] (by rw [hp]; rfl)
    rw [hp] at b
    exact b
  refine law_call (CX := L2.CX l.prog w) (k := N) (x := x) (fd := fd f) (sp := spF K (clsOf G K) (run G N) f F) KX Gr.T.g Gr.T.b Gr.T.builtins Gr.T.nolimit hg hobj hints (Nat.le_trans hlen (by decide)) hr (fun base kb nsb => ?_) bnd (fun H hO hS => ?_) fun H e s' z => ?_
  · have Fc := facts_of hd c.t ex kb nsb hfd
    have r := fns_ok (P := l.prog) (w := w) (base := base) Fc (fun f F hf => by
      obtain ⟨d, k1, k2⟩ := hd.get hf
      have FD := hfd f d k1
      unfold He.DefD.dvs He.DefD.kws at FD
      rw [k2.dfl, k2.kwd] at FD
      have z : faAt K defs f = He.fAd K d.at_ := by
        unfold faAt
        rw [k1]
      exact ⟨d, k2, by rw [z]; exact FD⟩) N f F hf
    rw [hfa2, hp] at r
    exact r
  · refine ⟨by rw [hp]; rfl, g2.meth, H, [.lst (ns.map .int)], Same.refl H, Reps.one (by unfold Rep; exact ⟨a, _, rfl, noLst_ok (by unfold exB at ex; exact (Bool.and_eq_true_iff.mp ex).1) hS, rep_ints ns⟩), ?_⟩
    obtain ⟨o, e⟩ := hlaw ns hlen hbits
    rw [e]
    intro S' H' v fp e1 e2 e3 e4 r ap
    unfold RV at r
    cases o with
    | false =>
      rw [if_neg (by simp)] at r
      exact r.2.bl_inv
    | true =>
      rw [if_pos rfl] at r
      exact r.elim
  · obtain ⟨_, _, _, _, _, _, _, _, _, _, _, _, z⟩ := z
    exact z.elim
end GW
end

section
/-! S1: what a term comes to, told forward: rules to rewrite by. -/
namespace GW
/-- a key: what it is about is not looked into by the rewriting -/
structure Lk {α : Type} (a : α) : Type where
structure Lk2 (p q : Prop) : Type where
/-- no instance is put to others' use -/
def nf (d : D) (o : Bool) : Prop := (o && d.isIns) = false
/-- what an answer comes to -/
def ww {α : Type} (o : Out α) (K : α → Env → Prop) (X : Nat → Env → Prop) : Prop := match o with
  | .ok x ρ => K x ρ
  | .exn c ρ => X c ρ
  | .bad => False
def WE (R : Rt) (m : Bool) (e : Px) (ρ : Env) (K : D → Bool → Env → Prop) (X : Nat → Env → Prop) (_t : Lk (K, X) := {}) : Prop := ww (ev R m e ρ) (fun x ρ => K x.1 x.2 ρ) X
def WL (R : Rt) (m : Bool) (es : List Px) (ρ : Env) (K : List D → Env → Prop) (X : Nat → Env → Prop) (_t : Lk (K, X) := {}) : Prop := ww (evs R m es ρ) K X
def WA (R : Rt) (m : Bool) (es : List Px) (ρ : Env) (K : D → Bool → Env → Prop) (X : Nat → Env → Prop) (_t : Lk (K, X) := {}) : Prop := ww (evAnd R m es ρ) (fun x ρ => K x.1 x.2 ρ) X
def WO (R : Rt) (m : Bool) (es : List Px) (ρ : Env) (K : D → Bool → Env → Prop) (X : Nat → Env → Prop) (_t : Lk (K, X) := {}) : Prop := ww (evOr R m es ρ) (fun x ρ => K x.1 x.2 ρ) X
def gd (Q : Flow → Prop) : Flow → Prop
  | .bad => False
  | .nx ρ => Q (.nx ρ)
  | .rt d o ρ => Q (.rt d o ρ)
  | .bk ρ => Q (.bk ρ)
  | .ct ρ => Q (.ct ρ)
  | .exn c ρ => Q (.exn c ρ)
def WS (R : Rt) (ss : List Ps) (ρ : Env) (Q : Flow → Prop) : Prop := gd Q (execs R ss ρ)
/-- a branch -/
def BR (d : D) (P P' : Prop) (_t : Lk2 P P' := {}) : Prop := match d with
  | .bl b => (b = true → P) ∧ (b = false → P')
  | _ => False
def D.lst? : D → Option (List D)
  | .lst xs => some xs
  | _ => none
/-- an answer that must be there -/
def OV {α : Type} (o : Option α) (k : α → Prop) (_t : Lk k := {}) : Prop := match o with
  | some a => k a
  | none => False
/-- a call's answer -/
def CW (r : Res) (ρ : Env) (K : D → Bool → Env → Prop) (X : Nat → Env → Prop) (_t : Lk (K, X) := {}) : Prop := match r with
  | .ok d o .non => K d o ρ
  | .exn c .non => X c ρ
  | _ => False
section
variable {R : Rt} {m : Bool} {ρ : Env} {K : D → Bool → Env → Prop} {X : Nat → Env → Prop} {Q : Flow → Prop} {ss : List Ps}
theorem nf_f (d : D) : nf d false = True := by simp [nf]
theorem nf_l (xs : List D) (o : Bool) : nf (.lst xs) o = True := by cases o <;> simp [nf, D.isIns]
theorem nf_i (x : Int) (o : Bool) : nf (.int x) o = True := by cases o <;> simp [nf, D.isIns]
theorem nf_b (x : Bool) (o : Bool) : nf (.bl x) o = True := by cases o <;> simp [nf, D.isIns]
theorem nf_t (xs : List D) (o : Bool) : nf (.tup xs) o = True := by cases o <;> simp [nf, D.isIns]
theorem nf_n (o : Bool) : nf .non o = True := by cases o <;> simp [nf, D.isIns]
theorem nf_s (s : PySem.Str) (o : Bool) : nf (.str s) o = True := by cases o <;> simp [nf, D.isIns]
theorem nf_x (c : Nat) (o : Bool) : nf (.exc c) o = True := by cases o <;> simp [nf, D.isIns]
theorem br_t {P P' : Prop} : BR (.bl true) P P' = P := by simp [BR]
theorem br_f {P P' : Prop} : BR (.bl false) P P' = P' := by simp [BR]
theorem br_d {p : Prop} [Decidable p] {P P' : Prop} : BR (.bl (decide p)) P P' = ((p → P) ∧ (¬ p → P')) := by simp [BR]
theorem br_T {p : Prop} [Decidable p] {P P' : Prop} (h : p) : BR (.bl (decide p)) P P' = P := by simp [BR, h]
theorem br_F {p : Prop} [Decidable p] {P P' : Prop} (h : ¬ p) : BR (.bl (decide p)) P P' = P' := by simp [BR, h]
theorem br_n {b : Bool} {P P' : Prop} : BR (.bl (!b)) P P' = BR (.bl b) P' P := by cases b <;> simp [BR]
theorem br_b {b : Bool} {P P' : Prop} : BR (.bl b) P P' = ((b = true → P) ∧ (b = false → P')) := by simp [BR]
theorem ov_s {α : Type} {a : α} {k : α → Prop} : OV (some a) k = k a := rfl
theorem ov_n {α : Type} {k : α → Prop} : OV (none : Option α) k = False := rfl
theorem ov_if {α : Type} {c : Prop} [Decidable c] {a : α} {k : α → Prop} : OV (if c then some a else none) k = (c ∧ k a) := by
  by_cases h : c <;> simp [h, OV]
theorem cw_o {d : D} {o : Bool} : CW (.ok d o .non) ρ K X = K d o ρ := rfl
theorem cw_e {c : Nat} : CW (.exn c .non) ρ K X = X c ρ := rfl
/-- behind a frozen value -/
theorem ww_fb {α : Type} {o : Out (D × Bool)} {f : D → Env → Out α} {K : α → Env → Prop} : ww (o.frz.bind f) K X = ww o (fun x ρ => nf x.1 x.2 ∧ ww (f x.1 ρ) K X) X := by
  cases o with
  | ok x ρ =>
    obtain ⟨d, o⟩ := x
    unfold Out.frz nf ww
    dsimp only
    cases h : (o && d.isIns) with
    | true => simp [Out.bind]
    | false => simp [Out.bind]
  | _ => rfl
theorem ww_b {α β : Type} {o : Out α} {f : α → Env → Out β} {K : β → Env → Prop} : ww (o.bind f) K X = ww o (fun x ρ => ww (f x ρ) K X) X := by
  cases o <;> rfl
theorem ww_frz {o : Out (D × Bool)} {K : D → Env → Prop} : ww o.frz K X = ww o (fun x ρ => nf x.1 x.2 ∧ K x.1 ρ) X := by
  cases o with
  | ok x ρ =>
    obtain ⟨d, o⟩ := x
    unfold Out.frz nf ww
    dsimp only
    cases h : (o && d.isIns) with
    | true => simp
    | false => simp
  | _ => rfl
theorem ww_of {α : Type} {o : Option α} {ρ : Env} {K : α → Env → Prop} : ww (Out.of o ρ) K X = OV o fun a => K a ρ := by
  cases o <;> rfl
theorem ww_ok {α : Type} {x : α} {ρ : Env} {K : α → Env → Prop} : ww (.ok x ρ) K X = K x ρ := rfl
theorem ww_bad {α : Type} {K : α → Env → Prop} : ww .bad K X = False := rfl
theorem ww_if {α : Type} {c : Prop} [Decidable c] {a : Out α} {K : α → Env → Prop} : ww (if c then a else .bad) K X = (c ∧ ww a K X) := by
  by_cases h : c <;> simp [h, ww_bad]
theorem ww_ov {α β : Type} {o : Option α} {f : α → Out β} {K : β → Env → Prop} : ww (match o with
  | some a => f a
  | none => .bad) K X = OV o fun a => ww (f a) K X := by
  cases o <;> rfl
theorem ww_br {d : D} {a b : Out (D × Bool)} {K : D × Bool → Env → Prop} : ww (match d with
  | .bl true => a
  | .bl false => b
  | _ => .bad) K X = BR d (ww a K X) (ww b K X) := by
  cases d with
  | bl z => cases z <;> simp [BR]
  | _ => rfl
/-! ### expressions -/
theorem we_var {i : Nat} {d : D} (h : getS ρ i = .fz d) : WE R m (.var i) ρ K X = K d false ρ := by
  unfold WE ev
  rw [h]
  rfl
theorem we_varo {i : Nat} {d : D} (h : getS ρ i = .ow d) (hi : d.isIns = false) : WE R false (.var i) ρ K X = K d false (ρ.set i (.fz d)) := by
  unfold WE ev
  rw [h]
  dsimp only
  rw [hi]
  rfl
theorem we_movf {i : Nat} {d : D} (h : getS ρ i = .fz d) : WE R m (.mov i) ρ K X = K d false ρ := by
  unfold WE ev
  rw [h]
  rfl
theorem we_mov {i : Nat} {d : D} (h : getS ρ i = .ow d) : WE R false (.mov i) ρ K X = K d true (ρ.set i .no) := by
  unfold WE ev
  rw [h]
  rfl
theorem we_int {i : Int} : WE R m (.int i) ρ K X = K (.int i) false ρ := by unfold WE ev; rfl
theorem we_bl {i : Bool} : WE R m (.bl i) ρ K X = K (.bl i) false ρ := by unfold WE ev; rfl
theorem we_non : WE R m .non ρ K X = K .non false ρ := by unfold WE ev; rfl
theorem we_str {i : PySem.Str} : WE R m (.str i) ρ K X = K (.str i) false ρ := by unfold WE ev; rfl
theorem we_glo {g : Nat} : WE R m (.glo g) ρ K X = OV (R.glob g) fun d => K d false ρ := by
  unfold WE ev
  cases R.glob g <;> rfl
theorem we_tup {es : List Px} : WE R m (.tup es) ρ K X = WL R m es ρ (fun ds ρ => K (.tup ds) false ρ) X := by
  unfold WE WL
  conv => lhs; unfold ev
  simp only [ww_b, ww_ok]
theorem we_lst {es : List Px} : WE R m (.lst es) ρ K X = WL R m es ρ (fun ds ρ => K (.lst ds) true ρ) X := by
  unfold WE WL
  conv => lhs; unfold ev
  simp only [ww_b, ww_ok]
theorem wl_nil {K : List D → Env → Prop} : WL R m [] ρ K X = K [] ρ := by unfold WL evs; rfl
theorem wl_cons {e : Px} {es : List Px} {K : List D → Env → Prop} : WL R m (e :: es) ρ K X = WE R m e ρ (fun d o ρ => nf d o ∧ WL R m es ρ (fun ds ρ => K (d :: ds) ρ) X) X := by
  unfold WL WE
  conv => lhs; unfold evs
  simp only [ww_frz, ww_b, ww_ok]
theorem we_bin {o : BOp} {a b : Px} : WE R m (.bin o a b) ρ K X = WE R m a ρ (fun x o1 ρ => nf x o1 ∧ WE R m b ρ (fun y o2 ρ => nf y o2 ∧ OV (binv o x y) fun z => K z.1 z.2 ρ) X) X := by
  unfold WE
  conv => lhs; unfold ev
  simp only [ww_frz, ww_b, ww_of]
theorem we_cmp {o : COp} {a b : Px} : WE R m (.cmp o a b) ρ K X = WE R m a ρ (fun x o1 ρ => nf x o1 ∧ WE R m b ρ (fun y o2 ρ => nf y o2 ∧ OV (cmpv o x y) fun z => K (.bl z) false ρ) X) X := by
  unfold WE
  conv => lhs; unfold ev
  simp only [ww_frz, ww_b, ww_of, ww_ok]
theorem we_chain {o1 o2 : COp} {a b c : Px} : WE R m (.chain o1 o2 a b c) ρ K X = WE R m a ρ (fun x q1 ρ => nf x q1 ∧ WE R m b ρ (fun y q2 ρ => nf y q2 ∧ OV (cmpv o1 x y) fun k => BR (.bl k) (WE R m c ρ (fun z q3 ρ => nf z q3 ∧ OV (cmpv o2 y z) fun k => K (.bl k) false ρ) X) (K (.bl false) false ρ)) X) X := by
  unfold WE
  conv => lhs; unfold ev
  simp only [ww_frz, ww_b, ww_of, ww_ok]
  congr
  funext x ρ
  congr
  funext y ρ
  have e : (fun k => ww (if k = true then (ev R m c ρ).frz.bind fun z ρ => (Out.of (cmpv o2 y.1 z) ρ).bind fun k ρ => Out.ok (D.bl k, false) ρ else Out.ok (D.bl false, false) ρ) (fun x ρ => K x.1 x.2 ρ) X) =
      fun k => BR (D.bl k) (ww (ev R m c ρ) (fun x ρ => nf x.1 x.2 ∧ OV (cmpv o2 y.1 x.1) fun k => K (D.bl k) false ρ) X) (K (D.bl false) false ρ) := by
    funext k
    cases k <;> simp [OV, BR, ww_frz, ww_b, ww_of, ww_ok]
  rw [e]
theorem we_ix {a b : Px} : WE R m (.ix a b) ρ K X = WE R m a ρ (fun x o1 ρ => nf x o1 ∧ WE R m b ρ (fun y o2 ρ => nf y o2 ∧ OV (ixv x y) fun z => K z false ρ) X) X := by
  unfold WE
  conv => lhs; unfold ev
  simp only [ww_frz, ww_b, ww_of, ww_ok]
/-- the int behind a minus -/
def negv : D → Option D
  | .int i => some (.int (-i))
  | _ => none
theorem we_neg {a : Px} : WE R m (.neg a) ρ K X = WE R m a ρ (fun x _ ρ => OV (negv x) fun z => K z false ρ) X := by
  unfold WE
  conv => lhs; unfold ev
  cases ev R m a ρ with
  | ok x ρ =>
    obtain ⟨d, o⟩ := x
    cases d <;> rfl
  | _ => rfl
theorem we_nt {a : Px} : WE R m (.nt a) ρ K X = WE R m a ρ (fun x _ ρ => BR x (K (.bl false) false ρ) (K (.bl true) false ρ)) X := by
  unfold WE
  conv => lhs; unfold ev
  cases ev R m a ρ with
  | ok x ρ =>
    obtain ⟨d, o⟩ := x
    cases d with
    | bl b => cases b <;> simp [Out.bind, BR, ww]
    | _ => rfl
  | _ => rfl
theorem we_ife {t a b : Px} : WE R m (.ife t a b) ρ K X = WE R m t ρ (fun x _ ρ => BR x (WE R m a ρ K X) (WE R m b ρ K X)) X := by
  unfold WE
  conv => lhs; unfold ev
  cases ev R m t ρ with
  | ok x ρ =>
    obtain ⟨d, o⟩ := x
    cases d with
    | bl b => cases b <;> simp [Out.bind, BR, ww]
    | _ => rfl
  | _ => rfl
theorem we_conj {es : List Px} : WE R m (.conj es) ρ K X = WA R m es ρ K X := by unfold WE WA; conv => lhs; unfold ev
theorem we_disj {es : List Px} : WE R m (.disj es) ρ K X = WO R m es ρ K X := by unfold WE WO; conv => lhs; unfold ev
theorem wa_nil : WA R m [] ρ K X = K (.bl true) false ρ := by unfold WA evAnd; rfl
theorem wo_nil : WO R m [] ρ K X = K (.bl false) false ρ := by unfold WO evOr; rfl
theorem wa_cons {e : Px} {es : List Px} : WA R m (e :: es) ρ K X = WE R m e ρ (fun x _ ρ => BR x (WA R m es ρ K X) (K (.bl false) false ρ)) X := by
  unfold WA WE
  conv => lhs; unfold evAnd
  cases ev R m e ρ with
  | ok x ρ =>
    obtain ⟨d, o⟩ := x
    cases d with
    | bl b => cases b <;> simp [Out.bind, BR, ww]
    | _ => rfl
  | _ => rfl
theorem wo_cons {e : Px} {es : List Px} : WO R m (e :: es) ρ K X = WE R m e ρ (fun x _ ρ => BR x (K (.bl true) false ρ) (WO R m es ρ K X)) X := by
  unfold WO WE
  conv => lhs; unfold evOr
  cases ev R m e ρ with
  | ok x ρ =>
    obtain ⟨d, o⟩ := x
    cases d with
    | bl b => cases b <;> simp [Out.bind, BR, ww]
    | _ => rfl
  | _ => rfl
theorem we_call {f : Nat} {es : List Px} : WE R m (.call f es) ρ K X = WL R m es ρ (fun ds ρ => CW (R.call f .non ds) ρ K X) X := by
  unfold WE WL
  conv => lhs; unfold ev
  cases evs R m es ρ with
  | ok ds ρ =>
    simp only [ww_b, ww_ok]
    cases R.call f .non ds with
    | ok d o s => cases s <;> rfl
    | exn c s => cases s <;> rfl
    | bad => rfl
  | _ => rfl
theorem we_bi {b : Bi} {es : List Px} : WE R m (.bi b es) ρ K X = WL R m es ρ (fun ds ρ => OV (biv b ds) fun z => K z.1 z.2 ρ) X := by
  unfold WE WL
  conv => lhs; unfold ev
  simp only [ww_b, ww_of]
theorem we_isi {a : Px} {t : Ty} : WE R m (.isi a t) ρ K X = WE R m a ρ (fun x o ρ => nf x o ∧ OV (isiv R.sub x t) fun z => K (.bl z) false ρ) X := by
  unfold WE
  conv => lhs; unfold ev
  simp only [ww_frz, ww_b, ww_of, ww_ok]
theorem we_rev {a : Px} : WE R m (.rev a) ρ K X = WE R m a ρ (fun x o ρ => nf x o ∧ OV (revv x) fun z => K z.1 z.2 ρ) X := by
  unfold WE
  conv => lhs; unfold ev
  simp only [ww_frz, ww_b, ww_of, ww_ok]
theorem we_sl {a : Px} {lo hi : List Px} : WE R m (.sl a lo hi) ρ K X = WE R m a ρ (fun x o ρ => nf x o ∧ WL R m lo ρ (fun l ρ => OV (partv l) fun l => WL R m hi ρ (fun h ρ => OV (partv h) fun h => OV (slv x l h) fun z => K z.1 z.2 ρ) X) X) X := by
  unfold WE WL
  conv => lhs; unfold ev
  simp only [ww_frz, ww_b, ww_of, ww_ok]
theorem we_mt {k : Mt} {a : Px} {es : List Px} : WE R m (.mt k a es) ρ K X = WE R m a ρ (fun x o ρ => nf x o ∧ mtTy k x = true ∧ WL R m es ρ (fun ds ρ => OV (mtv k x ds) fun z => K z.1 z.2 ρ) X) X := by
  unfold WE WL
  conv => lhs; unfold ev
  simp only [ww_frz, ww_b, ww_if, ww_of, ww_ok]
theorem we_bop {o : Bo} {p : Pl} {es : List Px} : WE R m (.bop o p es) ρ K X = OV (peek ρ p) fun _ => WL R m es ρ (fun ds ρ => OV (peek ρ p) fun d => OV (bov o d ds) fun z => K z.1 z.2 ρ) X := by
  unfold WE WL
  conv => lhs; unfold ev
  cases peek ρ p with
  | none => rfl
  | some d =>
    dsimp only [OV]
    cases evs R m es ρ with
    | ok ds ρ =>
      simp only [ww_b, ww_ok]
      cases peek ρ p with
      | none => rfl
      | some d => dsimp only; cases bov o d ds <;> rfl
    | _ => rfl
theorem we_rng {es : List Px} : WE R m (.rng es) ρ K X = WL R m es ρ (fun ds ρ => OV (rngv ds) fun xs => K (.lst xs) false ρ) X := by
  unfold WE WL
  conv => lhs; unfold ev
  cases evs R m es ρ with
  | ok ds ρ => simp only [ww_b, ww_ok]; cases rngv ds <;> rfl
  | _ => rfl
def gixv : D → D → Option D
  | .dic kvs, y => dixv (.dic kvs) y
  | _, _ => none
theorem we_gix {g : Nat} {i : Px} : WE R m (.gix g i) ρ K X = WE R m i ρ (fun y o ρ => nf y o ∧ OV (R.glob g) fun d => OV (gixv d y) fun z => K z false ρ) X := by
  unfold WE
  conv => lhs; unfold ev
  simp only [ww_frz, ww_b]
  congr
  funext x ρ
  cases R.glob g with
  | none => rfl
  | some d =>
    cases d with
    | dic kvs => simp only [ww_b, ww_of, ww_ok, OV, gixv]
    | _ => rfl
theorem we_zip {a b : Px} : WE R m (.zip a b) ρ K X = WE R m a ρ (fun x o1 ρ => nf x o1 ∧ WE R m b ρ (fun y o2 ρ => nf y o2 ∧ OV (zipv x y) fun xs => K (.lst xs) false ρ) X) X := by
  unfold WE
  conv => lhs; unfold ev
  simp only [ww_frz, ww_b]
  congr
  funext x ρ
  congr
  funext y ρ
  cases zipv x.1 y.1 <;> rfl
theorem we_enum {a : Px} : WE R m (.enum a) ρ K X = WE R m a ρ (fun x o ρ => nf x o ∧ OV (enumv x) fun xs => K (.lst xs) false ρ) X := by
  unfold WE
  conv => lhs; unfold ev
  simp only [ww_frz, ww_b]
  congr
  funext x ρ
  cases enumv x.1 <;> rfl
/-! ### statements -/
theorem ws_nil : WS R [] ρ Q = Q (.nx ρ) := by unfold WS execs; rfl
theorem execs_cons (s : Ps) (ss : List Ps) (ρ : Env) : execs R (s :: ss) ρ = match exec R s ρ with
  | .nx ρ => execs R ss ρ
  | r => r := by (conv => lhs; unfold execs) <;> rfl
theorem ws_asg {i : Nat} {e : Px} : WS R (.asg i e :: ss) ρ Q = WE R false e ρ (fun d o ρ => okS R [i] = true ∧ WS R ss (putV ρ i (d, o)) Q) (fun c ρ => Q (.exn c ρ)) := by
  unfold WS WE
  rw [execs_cons]
  conv => lhs; unfold exec
  cases ev R false e ρ with
  | ok x ρ =>
    simp only [onOut, ww_ok]
    cases okS R [i] <;> simp [gd]
  | _ => rfl
theorem ws_exp {e : Px} : WS R (.exp e :: ss) ρ Q = WE R false e ρ (fun d o ρ => WS R ss ρ Q) (fun c ρ => Q (.exn c ρ)) := by
  unfold WS WE
  rw [execs_cons]
  conv => lhs; unfold exec
  cases ev R false e ρ <;> rfl
theorem ws_ret {e : Px} : WS R (.ret e :: ss) ρ Q = WE R false e ρ (fun d o ρ => Q (.rt d o ρ)) (fun c ρ => Q (.exn c ρ)) := by
  unfold WS WE
  rw [execs_cons]
  conv => lhs; unfold exec
  cases ev R false e ρ <;> rfl
theorem ws_retN : WS R (.retN :: ss) ρ Q = Q (.rt .non false ρ) := by
  unfold WS
  rw [execs_cons]
  (conv => lhs; unfold exec) <;> rfl
theorem ws_raise {c : Nat} : WS R (.raise c :: ss) ρ Q = Q (.exn c ρ) := by
  unfold WS
  rw [execs_cons]
  (conv => lhs; unfold exec) <;> rfl
theorem ws_pass : WS R (.pass :: ss) ρ Q = WS R ss ρ Q := by
  unfold WS
  rw [execs_cons]
  conv => lhs; unfold exec
/-- a value is stored, then on -/
def SE (R : Rt) (i : Nat) (d : D) (o : Bool) (ρ : Env) (k : Env → Prop) (_t : Lk k := {}) : Prop := okS R [i] = true ∧ k (putV ρ i (d, o))
def SES (R : Rt) (is : List Nat) (ds : List D) (ρ : Env) (k : Env → Prop) (_t : Lk k := {}) : Prop := match setTs ρ is ds with
  | some ρ => okS R is = true ∧ k ρ
  | none => False
def SEP (R : Rt) (is : List Nat) (ds : List D) (ρ : Env) (k : Env → Prop) (_t : Lk k := {}) : Prop := match setPar ρ is ds with
  | some ρ => okS R is = true ∧ k ρ
  | none => False
theorem ws_set {i : Nat} {e : Px} : WS R (.asg i e :: ss) ρ Q = WE R false e ρ (fun d o ρ => SE R i d o ρ fun ρ => WS R ss ρ Q) (fun c ρ => Q (.exn c ρ)) := ws_asg
theorem ws_asgT {is : List Nat} {e : Px} : WS R (.asgT is e :: ss) ρ Q = WE R false e ρ (fun d o ρ => nf d o ∧ OV (unpackv d) fun ds => SES R is ds ρ fun ρ => WS R ss ρ Q) (fun c ρ => Q (.exn c ρ)) := by
  unfold WS WE
  rw [execs_cons]
  conv => lhs; unfold exec
  cases ev R false e ρ with
  | ok x ρ =>
    obtain ⟨d, o⟩ := x
    simp only [ww_ok]
    unfold Out.frz nf
    dsimp only
    cases h : (o && d.isIns) with
    | true => simp [onOut, gd]
    | false =>
      simp only [Bool.false_eq_true, if_false, onOut, true_and]
      cases unpackv d with
      | none => rfl
      | some ds =>
        dsimp only [OV, SES]
        cases setTs ρ is ds with
        | none => rfl
        | some ρ => dsimp only; cases okS R is <;> simp [gd]
  | _ => rfl
theorem ws_par {is : List Nat} {es : List Px} : WS R (.par is es :: ss) ρ Q = WL R false es ρ (fun ds ρ => SEP R is ds ρ fun ρ => WS R ss ρ Q) (fun c ρ => Q (.exn c ρ)) := by
  unfold WS WL
  rw [execs_cons]
  conv => lhs; unfold exec
  cases evs R false es ρ with
  | ok ds ρ =>
    simp only [onOut, ww_ok, SEP]
    cases setPar ρ is ds with
    | none => rfl
    | some ρ => dsimp only; cases okS R is <;> simp [gd]
  | _ => rfl
theorem execs_app (a b : List Ps) (ρ : Env) : execs R (a ++ b) ρ = match execs R a ρ with
  | .nx ρ => execs R b ρ
  | r => r := by
  induction a generalizing ρ with
  | nil => unfold execs; rfl
  | cons s a ih =>
    rw [List.cons_append, execs_cons, execs_cons]
    cases exec R s ρ with
    | nx ρ => exact ih ρ
    | _ => rfl
/-- what comes behind a block -/
def TH (R : Rt) (ss : List Ps) (Q : Flow → Prop) (fl : Flow) : Prop := match fl with
  | .nx ρ => WS R ss ρ Q
  | fl => Q fl
theorem th_nx : TH R ss Q (.nx ρ) = WS R ss ρ Q := rfl
theorem th_rt {d : D} {o : Bool} : TH R ss Q (.rt d o ρ) = Q (.rt d o ρ) := rfl
theorem th_exn {c : Nat} : TH R ss Q (.exn c ρ) = Q (.exn c ρ) := rfl
theorem th_bk : TH R ss Q (.bk ρ) = Q (.bk ρ) := rfl
theorem th_ct : TH R ss Q (.ct ρ) = Q (.ct ρ) := rfl
theorem ws_ite {c : Px} {a b : List Ps} : WS R (.ite c a b :: ss) ρ Q = WE R false c ρ (fun d _ ρ => BR d (WS R a ρ (TH R ss Q)) (WS R b ρ (TH R ss Q))) (fun c ρ => Q (.exn c ρ)) := by
  unfold WS WE
  rw [execs_cons]
  conv => lhs; unfold exec
  cases ev R false c ρ with
  | ok x ρ =>
    obtain ⟨d, o⟩ := x
    cases d with
    | bl z =>
      cases z with
      | true =>
        simp only [ww_ok, onOut, BR, true_implies, Bool.true_eq_false, false_implies, and_true]
        cases execs R a ρ <;> rfl
      | false =>
        simp only [ww_ok, onOut, BR, true_implies, Bool.false_eq_true, false_implies, true_and]
        cases execs R b ρ <;> rfl
    | _ => rfl
  | _ => rfl
theorem ws_tryK {body : List Ps} {c n k : Nat} : WS R (.tryK body c n k :: ss) ρ Q = WS R body ρ (fun fl => match fl with
  | .nx ρ => WS R ss ρ Q
  | .exn c' ρ => OV (R.sub c' c) fun b => (b = true → okS R [k, n] = true ∧ WS R ss ((ρ.set k (.fz (.exc c'))).set n .no) Q) ∧ (b = false → Q (.exn c' ρ))
  | fl => Q fl) := by
  unfold WS
  rw [execs_cons]
  conv => lhs; unfold exec
  cases execs R body ρ with
  | exn c' ρ =>
    cases h : R.sub c' c with
    | none => simp [h, gd, OV]
    | some b => cases b <;> cases h2 : okS R [k, n] <;> simp [h, h2, OV, gd]
  | _ => rfl
/-- what is caught -/
def TK (R : Rt) (c n k : Nat) (ss : List Ps) (Q : Flow → Prop) (fl : Flow) : Prop := match fl with
  | .nx ρ => WS R ss ρ Q
  | .exn c' ρ => OV (R.sub c' c) fun b => (b = true → okS R [k, n] = true ∧ WS R ss ((ρ.set k (.fz (.exc c'))).set n .no) Q) ∧ (b = false → Q (.exn c' ρ))
  | fl => Q fl
theorem ws_try {body : List Ps} {c n k : Nat} : WS R (.tryK body c n k :: ss) ρ Q = WS R body ρ (TK R c n k ss Q) := ws_tryK
theorem tk_nx {c n k : Nat} : TK R c n k ss Q (.nx ρ) = WS R ss ρ Q := rfl
theorem tk_rt {c n k : Nat} {d : D} {o : Bool} : TK R c n k ss Q (.rt d o ρ) = Q (.rt d o ρ) := rfl
theorem tk_exn {c n k c' : Nat} (h : R.sub c' c = some true) (h2 : R.meth = false) : TK R c n k ss Q (.exn c' ρ) = WS R ss ((ρ.set k (.fz (.exc c'))).set n .no) Q := by
  simp [TK, h, OV, okS, h2]
theorem ws_for {tg : Tg} {it : Px} {b : List Ps} : WS R (.forS tg it b :: ss) ρ Q = WE R false it ρ (fun x o ρ => nf x o ∧ OV (itemsv x) fun xs => okS R tg.slots = true ∧ gd (TH R ss Q) (forL (fun d ρ => match setTg ρ tg d with
      | some ρ => execs R b ρ
      | none => .bad) xs ρ)) (fun c ρ => Q (.exn c ρ)) := by
  unfold WS WE
  rw [execs_cons]
  conv => lhs; unfold exec
  cases ev R false it ρ with
  | ok x ρ =>
    obtain ⟨d, o⟩ := x
    simp only [ww_ok]
    unfold Out.frz nf
    dsimp only
    cases h : (o && d.isIns) with
    | true => simp [onOut, gd]
    | false =>
      simp only [Bool.false_eq_true, if_false, onOut, true_and]
      cases itemsv d with
      | none => rfl
      | some xs =>
        dsimp only [OV]
        cases okS R tg.slots with
        | false => simp [gd]
        | true =>
          simp only [if_true, true_and]
          cases forL (fun d ρ => match setTg ρ tg d with
            | some ρ => execs R b ρ
            | none => .bad) xs ρ <;> rfl
  | _ => rfl
theorem ws_whl {c : Px} {b : List Ps} : WS R (.whl c b :: ss) ρ Q = gd (TH R ss Q) (whlL (ev R false c) (execs R b) R.turns ρ) := by
  unfold WS
  rw [execs_cons]
  conv => lhs; unfold exec
  cases whlL (ev R false c) (execs R b) R.turns ρ <;> rfl
theorem ws_appl {i : Nat} {e : Px} : WS R (.app (.sl i) e :: ss) ρ Q = (OV (peekO ρ (.sl i)) fun l => OV (D.lst? l) fun _ => WE R false e ρ (fun x o ρ => nf x o ∧ OV (peekO ρ (.sl i)) fun l => OV (D.lst? l) fun xs => xs.length < lineD ∧ WS R ss (ρ.set i (.ow (.lst (xs ++ [x])))) Q) (fun c ρ => Q (.exn c ρ))) := by
  unfold WS WE
  rw [execs_cons]
  conv => lhs; unfold exec
  cases peekO ρ (.sl i) with
  | none => rfl
  | some l =>
    cases l with
    | lst xs0 =>
      dsimp only [OV, D.lst?]
      cases ev R false e ρ with
      | ok x ρ =>
        obtain ⟨d, o⟩ := x
        simp only [ww_ok]
        unfold Out.frz nf
        dsimp only
        cases h : (o && d.isIns) with
        | true => simp [onOut, gd]
        | false =>
          simp only [Bool.false_eq_true, if_false, onOut, true_and]
          cases peekO ρ (.sl i) with
          | none => rfl
          | some l =>
            cases l with
            | lst xs =>
              dsimp only [OV, D.lst?, poke]
              by_cases hl : xs.length < lineD
              · simp [hl, gd]
              · simp [hl, gd]
            | _ => rfl
      | _ => rfl
    | _ => rfl
theorem ws_extl {i : Nat} {e : Px} : WS R (.ext (.sl i) e :: ss) ρ Q = (OV (peekO ρ (.sl i)) fun l => OV (D.lst? l) fun _ => WE R false e ρ (fun x o ρ => nf x o ∧ OV (peekO ρ (.sl i)) fun l => OV (D.lst? l) fun xs => OV (D.lst? x) fun ys => xs.length + ys.length ≤ lineD ∧ WS R ss (ρ.set i (.ow (.lst (xs ++ ys)))) Q) (fun c ρ => Q (.exn c ρ))) := by
  unfold WS WE
  rw [execs_cons]
  conv => lhs; unfold exec
  cases peekO ρ (.sl i) with
  | none => rfl
  | some l =>
    cases l with
    | lst xs0 =>
      dsimp only [OV, D.lst?]
      cases ev R false e ρ with
      | ok x ρ =>
        obtain ⟨d, o⟩ := x
        simp only [ww_ok]
        unfold Out.frz nf
        dsimp only
        cases h : (o && d.isIns) with
        | true => simp [onOut, gd]
        | false =>
          simp only [Bool.false_eq_true, if_false, onOut, true_and]
          cases peekO ρ (.sl i) with
          | none => rfl
          | some l =>
            cases l with
            | lst xs =>
              cases d with
              | lst ys =>
                dsimp only [OV, D.lst?, poke]
                by_cases hl : xs.length + ys.length ≤ lineD
                · simp [hl, gd]
                · simp [hl, gd]
              | _ => rfl
            | _ => cases d <;> simp [gd, ww, OV, D.lst?]
      | _ => rfl
    | _ => rfl
theorem ses_nil {k : Env → Prop} : SES R [] [] ρ k = (okS R [] = true ∧ k ρ) := rfl
end
end GW
end

section
/-! S2: leaf rules (printed by genS2.py). -/
namespace GW
/-- a slot is set, then on -/
def SX (i : Nat) (s : Sl) (ρ : Env) (k : Env → Prop) (_t : Lk k := {}) : Prop := k (ρ.set i s)
/-- a fraction -/
def fr (q : Rat) : D := .tup [.int q.num, .int q.den]
section
variable {R : Rt} {m : Bool} {ρ : Env} {K : D → Bool → Env → Prop} {X : Nat → Env → Prop} {Q : Flow → Prop} {ss : List Ps} {G : Prog} {call : Nat → D → List D → Res} {r : List Sl} {d : D} {xs ys : List D}
theorem wv0 : WE R m (.var 0) (.fz d :: r) K X = K d false (.fz d :: r) := we_var rfl
theorem wo0 : WE R false (.var 0) (.ow (.lst xs) :: r) K X = K (.lst xs) false (.fz (.lst xs) :: r) := we_varo rfl rfl
theorem wm0 : WE R m (.mov 0) (.fz d :: r) K X = K d false (.fz d :: r) := we_movf rfl
theorem wn0 : WE R false (.mov 0) (.ow (.lst xs) :: r) K X = K (.lst xs) true (.no :: r) := we_mov rfl
theorem se0f { s0 : Sl} {k : Env → Prop} : SE (Prog.rt G call false) 0 d false (s0 :: r) k = k (.fz d :: r) := by simp [SE, okS, Prog.rt, putV]
theorem se0o { s0 : Sl} {k : Env → Prop} : SE (Prog.rt G call false) 0 d true (s0 :: r) k = k (.ow d :: r) := by simp [SE, okS, Prog.rt, putV]
theorem sx0 { s0 : Sl} {s : Sl} {k : Env → Prop} : SX 0 s (s0 :: r) k = k (s :: r) := rfl
theorem pk0f {k : D → Prop} : OV (peek (.fz d :: r) (.sl 0)) k = k d := rfl
theorem pk0o {k : D → Prop} : OV (peek (.ow (.lst xs) :: r) (.sl 0)) k = k (.lst xs) := rfl
theorem po0 {k : D → Prop} : OV (peekO (.ow (.lst xs) :: r) (.sl 0)) k = k (.lst xs) := rfl
theorem wv1 {s0 : Sl} : WE R m (.var 1) (s0 :: .fz d :: r) K X = K d false (s0 :: .fz d :: r) := we_var rfl
theorem wo1 {s0 : Sl} : WE R false (.var 1) (s0 :: .ow (.lst xs) :: r) K X = K (.lst xs) false (s0 :: .fz (.lst xs) :: r) := we_varo rfl rfl
theorem wm1 {s0 : Sl} : WE R m (.mov 1) (s0 :: .fz d :: r) K X = K d false (s0 :: .fz d :: r) := we_movf rfl
theorem wn1 {s0 : Sl} : WE R false (.mov 1) (s0 :: .ow (.lst xs) :: r) K X = K (.lst xs) true (s0 :: .no :: r) := we_mov rfl
theorem se1f {s0 s1 : Sl} {k : Env → Prop} : SE (Prog.rt G call false) 1 d false (s0 :: s1 :: r) k = k (s0 :: .fz d :: r) := by simp [SE, okS, Prog.rt, putV]
theorem se1o {s0 s1 : Sl} {k : Env → Prop} : SE (Prog.rt G call false) 1 d true (s0 :: s1 :: r) k = k (s0 :: .ow d :: r) := by simp [SE, okS, Prog.rt, putV]
theorem sx1 {s0 s1 : Sl} {s : Sl} {k : Env → Prop} : SX 1 s (s0 :: s1 :: r) k = k (s0 :: s :: r) := rfl
theorem pk1f {s0 : Sl} {k : D → Prop} : OV (peek (s0 :: .fz d :: r) (.sl 1)) k = k d := rfl
theorem pk1o {s0 : Sl} {k : D → Prop} : OV (peek (s0 :: .ow (.lst xs) :: r) (.sl 1)) k = k (.lst xs) := rfl
theorem po1 {s0 : Sl} {k : D → Prop} : OV (peekO (s0 :: .ow (.lst xs) :: r) (.sl 1)) k = k (.lst xs) := rfl
theorem wv2 {s0 s1 : Sl} : WE R m (.var 2) (s0 :: s1 :: .fz d :: r) K X = K d false (s0 :: s1 :: .fz d :: r) := we_var rfl
theorem wo2 {s0 s1 : Sl} : WE R false (.var 2) (s0 :: s1 :: .ow (.lst xs) :: r) K X = K (.lst xs) false (s0 :: s1 :: .fz (.lst xs) :: r) := we_varo rfl rfl
theorem wm2 {s0 s1 : Sl} : WE R m (.mov 2) (s0 :: s1 :: .fz d :: r) K X = K d false (s0 :: s1 :: .fz d :: r) := we_movf rfl
theorem wn2 {s0 s1 : Sl} : WE R false (.mov 2) (s0 :: s1 :: .ow (.lst xs) :: r) K X = K (.lst xs) true (s0 :: s1 :: .no :: r) := we_mov rfl
theorem se2f {s0 s1 s2 : Sl} {k : Env → Prop} : SE (Prog.rt G call false) 2 d false (s0 :: s1 :: s2 :: r) k = k (s0 :: s1 :: .fz d :: r) := by simp [SE, okS, Prog.rt, putV]
theorem se2o {s0 s1 s2 : Sl} {k : Env → Prop} : SE (Prog.rt G call false) 2 d true (s0 :: s1 :: s2 :: r) k = k (s0 :: s1 :: .ow d :: r) := by simp [SE, okS, Prog.rt, putV]
theorem sx2 {s0 s1 s2 : Sl} {s : Sl} {k : Env → Prop} : SX 2 s (s0 :: s1 :: s2 :: r) k = k (s0 :: s1 :: s :: r) := rfl
theorem pk2f {s0 s1 : Sl} {k : D → Prop} : OV (peek (s0 :: s1 :: .fz d :: r) (.sl 2)) k = k d := rfl
theorem pk2o {s0 s1 : Sl} {k : D → Prop} : OV (peek (s0 :: s1 :: .ow (.lst xs) :: r) (.sl 2)) k = k (.lst xs) := rfl
theorem po2 {s0 s1 : Sl} {k : D → Prop} : OV (peekO (s0 :: s1 :: .ow (.lst xs) :: r) (.sl 2)) k = k (.lst xs) := rfl
theorem wv3 {s0 s1 s2 : Sl} : WE R m (.var 3) (s0 :: s1 :: s2 :: .fz d :: r) K X = K d false (s0 :: s1 :: s2 :: .fz d :: r) := we_var rfl
theorem wo3 {s0 s1 s2 : Sl} : WE R false (.var 3) (s0 :: s1 :: s2 :: .ow (.lst xs) :: r) K X = K (.lst xs) false (s0 :: s1 :: s2 :: .fz (.lst xs) :: r) := we_varo rfl rfl
theorem wm3 {s0 s1 s2 : Sl} : WE R m (.mov 3) (s0 :: s1 :: s2 :: .fz d :: r) K X = K d false (s0 :: s1 :: s2 :: .fz d :: r) := we_movf rfl
theorem wn3 {s0 s1 s2 : Sl} : WE R false (.mov 3) (s0 :: s1 :: s2 :: .ow (.lst xs) :: r) K X = K (.lst xs) true (s0 :: s1 :: s2 :: .no :: r) := we_mov rfl
theorem se3f {s0 s1 s2 s3 : Sl} {k : Env → Prop} : SE (Prog.rt G call false) 3 d false (s0 :: s1 :: s2 :: s3 :: r) k = k (s0 :: s1 :: s2 :: .fz d :: r) := by simp [SE, okS, Prog.rt, putV]
theorem se3o {s0 s1 s2 s3 : Sl} {k : Env → Prop} : SE (Prog.rt G call false) 3 d true (s0 :: s1 :: s2 :: s3 :: r) k = k (s0 :: s1 :: s2 :: .ow d :: r) := by simp [SE, okS, Prog.rt, putV]
theorem sx3 {s0 s1 s2 s3 : Sl} {s : Sl} {k : Env → Prop} : SX 3 s (s0 :: s1 :: s2 :: s3 :: r) k = k (s0 :: s1 :: s2 :: s :: r) := rfl
theorem pk3f {s0 s1 s2 : Sl} {k : D → Prop} : OV (peek (s0 :: s1 :: s2 :: .fz d :: r) (.sl 3)) k = k d := rfl
theorem pk3o {s0 s1 s2 : Sl} {k : D → Prop} : OV (peek (s0 :: s1 :: s2 :: .ow (.lst xs) :: r) (.sl 3)) k = k (.lst xs) := rfl
theorem po3 {s0 s1 s2 : Sl} {k : D → Prop} : OV (peekO (s0 :: s1 :: s2 :: .ow (.lst xs) :: r) (.sl 3)) k = k (.lst xs) := rfl
theorem wv4 {s0 s1 s2 s3 : Sl} : WE R m (.var 4) (s0 :: s1 :: s2 :: s3 :: .fz d :: r) K X = K d false (s0 :: s1 :: s2 :: s3 :: .fz d :: r) := we_var rfl
theorem wo4 {s0 s1 s2 s3 : Sl} : WE R false (.var 4) (s0 :: s1 :: s2 :: s3 :: .ow (.lst xs) :: r) K X = K (.lst xs) false (s0 :: s1 :: s2 :: s3 :: .fz (.lst xs) :: r) := we_varo rfl rfl
theorem wm4 {s0 s1 s2 s3 : Sl} : WE R m (.mov 4) (s0 :: s1 :: s2 :: s3 :: .fz d :: r) K X = K d false (s0 :: s1 :: s2 :: s3 :: .fz d :: r) := we_movf rfl
theorem wn4 {s0 s1 s2 s3 : Sl} : WE R false (.mov 4) (s0 :: s1 :: s2 :: s3 :: .ow (.lst xs) :: r) K X = K (.lst xs) true (s0 :: s1 :: s2 :: s3 :: .no :: r) := we_mov rfl
theorem se4f {s0 s1 s2 s3 s4 : Sl} {k : Env → Prop} : SE (Prog.rt G call false) 4 d false (s0 :: s1 :: s2 :: s3 :: s4 :: r) k = k (s0 :: s1 :: s2 :: s3 :: .fz d :: r) := by simp [SE, okS, Prog.rt, putV]
theorem se4o {s0 s1 s2 s3 s4 : Sl} {k : Env → Prop} : SE (Prog.rt G call false) 4 d true (s0 :: s1 :: s2 :: s3 :: s4 :: r) k = k (s0 :: s1 :: s2 :: s3 :: .ow d :: r) := by simp [SE, okS, Prog.rt, putV]
theorem sx4 {s0 s1 s2 s3 s4 : Sl} {s : Sl} {k : Env → Prop} : SX 4 s (s0 :: s1 :: s2 :: s3 :: s4 :: r) k = k (s0 :: s1 :: s2 :: s3 :: s :: r) := rfl
theorem pk4f {s0 s1 s2 s3 : Sl} {k : D → Prop} : OV (peek (s0 :: s1 :: s2 :: s3 :: .fz d :: r) (.sl 4)) k = k d := rfl
theorem pk4o {s0 s1 s2 s3 : Sl} {k : D → Prop} : OV (peek (s0 :: s1 :: s2 :: s3 :: .ow (.lst xs) :: r) (.sl 4)) k = k (.lst xs) := rfl
theorem po4 {s0 s1 s2 s3 : Sl} {k : D → Prop} : OV (peekO (s0 :: s1 :: s2 :: s3 :: .ow (.lst xs) :: r) (.sl 4)) k = k (.lst xs) := rfl
theorem wv5 {s0 s1 s2 s3 s4 : Sl} : WE R m (.var 5) (s0 :: s1 :: s2 :: s3 :: s4 :: .fz d :: r) K X = K d false (s0 :: s1 :: s2 :: s3 :: s4 :: .fz d :: r) := we_var rfl
theorem wo5 {s0 s1 s2 s3 s4 : Sl} : WE R false (.var 5) (s0 :: s1 :: s2 :: s3 :: s4 :: .ow (.lst xs) :: r) K X = K (.lst xs) false (s0 :: s1 :: s2 :: s3 :: s4 :: .fz (.lst xs) :: r) := we_varo rfl rfl
theorem wm5 {s0 s1 s2 s3 s4 : Sl} : WE R m (.mov 5) (s0 :: s1 :: s2 :: s3 :: s4 :: .fz d :: r) K X = K d false (s0 :: s1 :: s2 :: s3 :: s4 :: .fz d :: r) := we_movf rfl
theorem wn5 {s0 s1 s2 s3 s4 : Sl} : WE R false (.mov 5) (s0 :: s1 :: s2 :: s3 :: s4 :: .ow (.lst xs) :: r) K X = K (.lst xs) true (s0 :: s1 :: s2 :: s3 :: s4 :: .no :: r) := we_mov rfl
theorem se5f {s0 s1 s2 s3 s4 s5 : Sl} {k : Env → Prop} : SE (Prog.rt G call false) 5 d false (s0 :: s1 :: s2 :: s3 :: s4 :: s5 :: r) k = k (s0 :: s1 :: s2 :: s3 :: s4 :: .fz d :: r) := by simp [SE, okS, Prog.rt, putV]
theorem se5o {s0 s1 s2 s3 s4 s5 : Sl} {k : Env → Prop} : SE (Prog.rt G call false) 5 d true (s0 :: s1 :: s2 :: s3 :: s4 :: s5 :: r) k = k (s0 :: s1 :: s2 :: s3 :: s4 :: .ow d :: r) := by simp [SE, okS, Prog.rt, putV]
theorem sx5 {s0 s1 s2 s3 s4 s5 : Sl} {s : Sl} {k : Env → Prop} : SX 5 s (s0 :: s1 :: s2 :: s3 :: s4 :: s5 :: r) k = k (s0 :: s1 :: s2 :: s3 :: s4 :: s :: r) := rfl
theorem pk5f {s0 s1 s2 s3 s4 : Sl} {k : D → Prop} : OV (peek (s0 :: s1 :: s2 :: s3 :: s4 :: .fz d :: r) (.sl 5)) k = k d := rfl
theorem pk5o {s0 s1 s2 s3 s4 : Sl} {k : D → Prop} : OV (peek (s0 :: s1 :: s2 :: s3 :: s4 :: .ow (.lst xs) :: r) (.sl 5)) k = k (.lst xs) := rfl
theorem po5 {s0 s1 s2 s3 s4 : Sl} {k : D → Prop} : OV (peekO (s0 :: s1 :: s2 :: s3 :: s4 :: .ow (.lst xs) :: r) (.sl 5)) k = k (.lst xs) := rfl
theorem wv6 {s0 s1 s2 s3 s4 s5 : Sl} : WE R m (.var 6) (s0 :: s1 :: s2 :: s3 :: s4 :: s5 :: .fz d :: r) K X = K d false (s0 :: s1 :: s2 :: s3 :: s4 :: s5 :: .fz d :: r) := we_var rfl
theorem wo6 {s0 s1 s2 s3 s4 s5 : Sl} : WE R false (.var 6) (s0 :: s1 :: s2 :: s3 :: s4 :: s5 :: .ow (.lst xs) :: r) K X = K (.lst xs) false (s0 :: s1 :: s2 :: s3 :: s4 :: s5 :: .fz (.lst xs) :: r) := we_varo rfl rfl
theorem wm6 {s0 s1 s2 s3 s4 s5 : Sl} : WE R m (.mov 6) (s0 :: s1 :: s2 :: s3 :: s4 :: s5 :: .fz d :: r) K X = K d false (s0 :: s1 :: s2 :: s3 :: s4 :: s5 :: .fz d :: r) := we_movf rfl
theorem wn6 {s0 s1 s2 s3 s4 s5 : Sl} : WE R false (.mov 6) (s0 :: s1 :: s2 :: s3 :: s4 :: s5 :: .ow (.lst xs) :: r) K X = K (.lst xs) true (s0 :: s1 :: s2 :: s3 :: s4 :: s5 :: .no :: r) := we_mov rfl
theorem se6f {s0 s1 s2 s3 s4 s5 s6 : Sl} {k : Env → Prop} : SE (Prog.rt G call false) 6 d false (s0 :: s1 :: s2 :: s3 :: s4 :: s5 :: s6 :: r) k = k (s0 :: s1 :: s2 :: s3 :: s4 :: s5 :: .fz d :: r) := by simp [SE, okS, Prog.rt, putV]
theorem se6o {s0 s1 s2 s3 s4 s5 s6 : Sl} {k : Env → Prop} : SE (Prog.rt G call false) 6 d true (s0 :: s1 :: s2 :: s3 :: s4 :: s5 :: s6 :: r) k = k (s0 :: s1 :: s2 :: s3 :: s4 :: s5 :: .ow d :: r) := by simp [SE, okS, Prog.rt, putV]
theorem sx6 {s0 s1 s2 s3 s4 s5 s6 : Sl} {s : Sl} {k : Env → Prop} : SX 6 s (s0 :: s1 :: s2 :: s3 :: s4 :: s5 :: s6 :: r) k = k (s0 :: s1 :: s2 :: s3 :: s4 :: s5 :: s :: r) := rfl
theorem pk6f {s0 s1 s2 s3 s4 s5 : Sl} {k : D → Prop} : OV (peek (s0 :: s1 :: s2 :: s3 :: s4 :: s5 :: .fz d :: r) (.sl 6)) k = k d := rfl
theorem pk6o {s0 s1 s2 s3 s4 s5 : Sl} {k : D → Prop} : OV (peek (s0 :: s1 :: s2 :: s3 :: s4 :: s5 :: .ow (.lst xs) :: r) (.sl 6)) k = k (.lst xs) := rfl
theorem po6 {s0 s1 s2 s3 s4 s5 : Sl} {k : D → Prop} : OV (peekO (s0 :: s1 :: s2 :: s3 :: s4 :: s5 :: .ow (.lst xs) :: r) (.sl 6)) k = k (.lst xs) := rfl
theorem wv7 {s0 s1 s2 s3 s4 s5 s6 : Sl} : WE R m (.var 7) (s0 :: s1 :: s2 :: s3 :: s4 :: s5 :: s6 :: .fz d :: r) K X = K d false (s0 :: s1 :: s2 :: s3 :: s4 :: s5 :: s6 :: .fz d :: r) := we_var rfl
theorem wo7 {s0 s1 s2 s3 s4 s5 s6 : Sl} : WE R false (.var 7) (s0 :: s1 :: s2 :: s3 :: s4 :: s5 :: s6 :: .ow (.lst xs) :: r) K X = K (.lst xs) false (s0 :: s1 :: s2 :: s3 :: s4 :: s5 :: s6 :: .fz (.lst xs) :: r) := we_varo rfl rfl
theorem wm7 {s0 s1 s2 s3 s4 s5 s6 : Sl} : WE R m (.mov 7) (s0 :: s1 :: s2 :: s3 :: s4 :: s5 :: s6 :: .fz d :: r) K X = K d false (s0 :: s1 :: s2 :: s3 :: s4 :: s5 :: s6 :: .fz d :: r) := we_movf rfl
theorem wn7 {s0 s1 s2 s3 s4 s5 s6 : Sl} : WE R false (.mov 7) (s0 :: s1 :: s2 :: s3 :: s4 :: s5 :: s6 :: .ow (.lst xs) :: r) K X = K (.lst xs) true (s0 :: s1 :: s2 :: s3 :: s4 :: s5 :: s6 :: .no :: r) := we_mov rfl
theorem se7f {s0 s1 s2 s3 s4 s5 s6 s7 : Sl} {k : Env → Prop} : SE (Prog.rt G call false) 7 d false (s0 :: s1 :: s2 :: s3 :: s4 :: s5 :: s6 :: s7 :: r) k = k (s0 :: s1 :: s2 :: s3 :: s4 :: s5 :: s6 :: .fz d :: r) := by simp [SE, okS, Prog.rt, putV]
theorem se7o {s0 s1 s2 s3 s4 s5 s6 s7 : Sl} {k : Env → Prop} : SE (Prog.rt G call false) 7 d true (s0 :: s1 :: s2 :: s3 :: s4 :: s5 :: s6 :: s7 :: r) k = k (s0 :: s1 :: s2 :: s3 :: s4 :: s5 :: s6 :: .ow d :: r) := by simp [SE, okS, Prog.rt, putV]
theorem sx7 {s0 s1 s2 s3 s4 s5 s6 s7 : Sl} {s : Sl} {k : Env → Prop} : SX 7 s (s0 :: s1 :: s2 :: s3 :: s4 :: s5 :: s6 :: s7 :: r) k = k (s0 :: s1 :: s2 :: s3 :: s4 :: s5 :: s6 :: s :: r) := rfl
theorem pk7f {s0 s1 s2 s3 s4 s5 s6 : Sl} {k : D → Prop} : OV (peek (s0 :: s1 :: s2 :: s3 :: s4 :: s5 :: s6 :: .fz d :: r) (.sl 7)) k = k d := rfl
theorem pk7o {s0 s1 s2 s3 s4 s5 s6 : Sl} {k : D → Prop} : OV (peek (s0 :: s1 :: s2 :: s3 :: s4 :: s5 :: s6 :: .ow (.lst xs) :: r) (.sl 7)) k = k (.lst xs) := rfl
theorem po7 {s0 s1 s2 s3 s4 s5 s6 : Sl} {k : D → Prop} : OV (peekO (s0 :: s1 :: s2 :: s3 :: s4 :: s5 :: s6 :: .ow (.lst xs) :: r) (.sl 7)) k = k (.lst xs) := rfl
theorem wv8 {s0 s1 s2 s3 s4 s5 s6 s7 : Sl} : WE R m (.var 8) (s0 :: s1 :: s2 :: s3 :: s4 :: s5 :: s6 :: s7 :: .fz d :: r) K X = K d false (s0 :: s1 :: s2 :: s3 :: s4 :: s5 :: s6 :: s7 :: .fz d :: r) := we_var rfl
theorem wo8 {s0 s1 s2 s3 s4 s5 s6 s7 : Sl} : WE R false (.var 8) (s0 :: s1 :: s2 :: s3 :: s4 :: s5 :: s6 :: s7 :: .ow (.lst xs) :: r) K X = K (.lst xs) false (s0 :: s1 :: s2 :: s3 :: s4 :: s5 :: s6 :: s7 :: .fz (.lst xs) :: r) := we_varo rfl rfl
theorem wm8 {s0 s1 s2 s3 s4 s5 s6 s7 : Sl} : WE R m (.mov 8) (s0 :: s1 :: s2 :: s3 :: s4 :: s5 :: s6 :: s7 :: .fz d :: r) K X = K d false (s0 :: s1 :: s2 :: s3 :: s4 :: s5 :: s6 :: s7 :: .fz d :: r) := we_movf rfl
theorem wn8 {s0 s1 s2 s3 s4 s5 s6 s7 : Sl} : WE R false (.mov 8) (s0 :: s1 :: s2 :: s3 :: s4 :: s5 :: s6 :: s7 :: .ow (.lst xs) :: r) K X = K (.lst xs) true (s0 :: s1 :: s2 :: s3 :: s4 :: s5 :: s6 :: s7 :: .no :: r) := we_mov rfl
theorem se8f {s0 s1 s2 s3 s4 s5 s6 s7 s8 : Sl} {k : Env → Prop} : SE (Prog.rt G call false) 8 d false (s0 :: s1 :: s2 :: s3 :: s4 :: s5 :: s6 :: s7 :: s8 :: r) k = k (s0 :: s1 :: s2 :: s3 :: s4 :: s5 :: s6 :: s7 :: .fz d :: r) := by simp [SE, okS, Prog.rt, putV]
theorem se8o {s0 s1 s2 s3 s4 s5 s6 s7 s8 : Sl} {k : Env → Prop} : SE (Prog.rt G call false) 8 d true (s0 :: s1 :: s2 :: s3 :: s4 :: s5 :: s6 :: s7 :: s8 :: r) k = k (s0 :: s1 :: s2 :: s3 :: s4 :: s5 :: s6 :: s7 :: .ow d :: r) := by simp [SE, okS, Prog.rt, putV]
theorem sx8 {s0 s1 s2 s3 s4 s5 s6 s7 s8 : Sl} {s : Sl} {k : Env → Prop} : SX 8 s (s0 :: s1 :: s2 :: s3 :: s4 :: s5 :: s6 :: s7 :: s8 :: r) k = k (s0 :: s1 :: s2 :: s3 :: s4 :: s5 :: s6 :: s7 :: s :: r) := rfl
theorem pk8f {s0 s1 s2 s3 s4 s5 s6 s7 : Sl} {k : D → Prop} : OV (peek (s0 :: s1 :: s2 :: s3 :: s4 :: s5 :: s6 :: s7 :: .fz d :: r) (.sl 8)) k = k d := rfl
theorem pk8o {s0 s1 s2 s3 s4 s5 s6 s7 : Sl} {k : D → Prop} : OV (peek (s0 :: s1 :: s2 :: s3 :: s4 :: s5 :: s6 :: s7 :: .ow (.lst xs) :: r) (.sl 8)) k = k (.lst xs) := rfl
theorem po8 {s0 s1 s2 s3 s4 s5 s6 s7 : Sl} {k : D → Prop} : OV (peekO (s0 :: s1 :: s2 :: s3 :: s4 :: s5 :: s6 :: s7 :: .ow (.lst xs) :: r) (.sl 8)) k = k (.lst xs) := rfl
theorem wv9 {s0 s1 s2 s3 s4 s5 s6 s7 s8 : Sl} : WE R m (.var 9) (s0 :: s1 :: s2 :: s3 :: s4 :: s5 :: s6 :: s7 :: s8 :: .fz d :: r) K X = K d false (s0 :: s1 :: s2 :: s3 :: s4 :: s5 :: s6 :: s7 :: s8 :: .fz d :: r) := we_var rfl
theorem wo9 {s0 s1 s2 s3 s4 s5 s6 s7 s8 : Sl} : WE R false (.var 9) (s0 :: s1 :: s2 :: s3 :: s4 :: s5 :: s6 :: s7 :: s8 :: .ow (.lst xs) :: r) K X = K (.lst xs) false (s0 :: s1 :: s2 :: s3 :: s4 :: s5 :: s6 :: s7 :: s8 :: .fz (.lst xs) :: r) := we_varo rfl rfl
theorem wm9 {s0 s1 s2 s3 s4 s5 s6 s7 s8 : Sl} : WE R m (.mov 9) (s0 :: s1 :: s2 :: s3 :: s4 :: s5 :: s6 :: s7 :: s8 :: .fz d :: r) K X = K d false (s0 :: s1 :: s2 :: s3 :: s4 :: s5 :: s6 :: s7 :: s8 :: .fz d :: r) := we_movf rfl
theorem wn9 {s0 s1 s2 s3 s4 s5 s6 s7 s8 : Sl} : WE R false (.mov 9) (s0 :: s1 :: s2 :: s3 :: s4 :: s5 :: s6 :: s7 :: s8 :: .ow (.lst xs) :: r) K X = K (.lst xs) true (s0 :: s1 :: s2 :: s3 :: s4 :: s5 :: s6 :: s7 :: s8 :: .no :: r) := we_mov rfl
theorem se9f {s0 s1 s2 s3 s4 s5 s6 s7 s8 s9 : Sl} {k : Env → Prop} : SE (Prog.rt G call false) 9 d false (s0 :: s1 :: s2 :: s3 :: s4 :: s5 :: s6 :: s7 :: s8 :: s9 :: r) k = k (s0 :: s1 :: s2 :: s3 :: s4 :: s5 :: s6 :: s7 :: s8 :: .fz d :: r) := by simp [SE, okS, Prog.rt, putV]
theorem se9o {s0 s1 s2 s3 s4 s5 s6 s7 s8 s9 : Sl} {k : Env → Prop} : SE (Prog.rt G call false) 9 d true (s0 :: s1 :: s2 :: s3 :: s4 :: s5 :: s6 :: s7 :: s8 :: s9 :: r) k = k (s0 :: s1 :: s2 :: s3 :: s4 :: s5 :: s6 :: s7 :: s8 :: .ow d :: r) := by simp [SE, okS, Prog.rt, putV]
theorem sx9 {s0 s1 s2 s3 s4 s5 s6 s7 s8 s9 : Sl} {s : Sl} {k : Env → Prop} : SX 9 s (s0 :: s1 :: s2 :: s3 :: s4 :: s5 :: s6 :: s7 :: s8 :: s9 :: r) k = k (s0 :: s1 :: s2 :: s3 :: s4 :: s5 :: s6 :: s7 :: s8 :: s :: r) := rfl
theorem pk9f {s0 s1 s2 s3 s4 s5 s6 s7 s8 : Sl} {k : D → Prop} : OV (peek (s0 :: s1 :: s2 :: s3 :: s4 :: s5 :: s6 :: s7 :: s8 :: .fz d :: r) (.sl 9)) k = k d := rfl
theorem pk9o {s0 s1 s2 s3 s4 s5 s6 s7 s8 : Sl} {k : D → Prop} : OV (peek (s0 :: s1 :: s2 :: s3 :: s4 :: s5 :: s6 :: s7 :: s8 :: .ow (.lst xs) :: r) (.sl 9)) k = k (.lst xs) := rfl
theorem po9 {s0 s1 s2 s3 s4 s5 s6 s7 s8 : Sl} {k : D → Prop} : OV (peekO (s0 :: s1 :: s2 :: s3 :: s4 :: s5 :: s6 :: s7 :: s8 :: .ow (.lst xs) :: r) (.sl 9)) k = k (.lst xs) := rfl
theorem wv10 {s0 s1 s2 s3 s4 s5 s6 s7 s8 s9 : Sl} : WE R m (.var 10) (s0 :: s1 :: s2 :: s3 :: s4 :: s5 :: s6 :: s7 :: s8 :: s9 :: .fz d :: r) K X = K d false (s0 :: s1 :: s2 :: s3 :: s4 :: s5 :: s6 :: s7 :: s8 :: s9 :: .fz d :: r) := we_var rfl
theorem wo10 {s0 s1 s2 s3 s4 s5 s6 s7 s8 s9 : Sl} : WE R false (.var 10) (s0 :: s1 :: s2 :: s3 :: s4 :: s5 :: s6 :: s7 :: s8 :: s9 :: .ow (.lst xs) :: r) K X = K (.lst xs) false (s0 :: s1 :: s2 :: s3 :: s4 :: s5 :: s6 :: s7 :: s8 :: s9 :: .fz (.lst xs) :: r) := we_varo rfl rfl
theorem wm10 {s0 s1 s2 s3 s4 s5 s6 s7 s8 s9 : Sl} : WE R m (.mov 10) (s0 :: s1 :: s2 :: s3 :: s4 :: s5 :: s6 :: s7 :: s8 :: s9 :: .fz d :: r) K X = K d false (s0 :: s1 :: s2 :: s3 :: s4 :: s5 :: s6 :: s7 :: s8 :: s9 :: .fz d :: r) := we_movf rfl
theorem wn10 {s0 s1 s2 s3 s4 s5 s6 s7 s8 s9 : Sl} : WE R false (.mov 10) (s0 :: s1 :: s2 :: s3 :: s4 :: s5 :: s6 :: s7 :: s8 :: s9 :: .ow (.lst xs) :: r) K X = K (.lst xs) true (s0 :: s1 :: s2 :: s3 :: s4 :: s5 :: s6 :: s7 :: s8 :: s9 :: .no :: r) := we_mov rfl
theorem se10f {s0 s1 s2 s3 s4 s5 s6 s7 s8 s9 s10 : Sl} {k : Env → Prop} : SE (Prog.rt G call false) 10 d false (s0 :: s1 :: s2 :: s3 :: s4 :: s5 :: s6 :: s7 :: s8 :: s9 :: s10 :: r) k = k (s0 :: s1 :: s2 :: s3 :: s4 :: s5 :: s6 :: s7 :: s8 :: s9 :: .fz d :: r) := by simp [SE, okS, Prog.rt, putV]
theorem se10o {s0 s1 s2 s3 s4 s5 s6 s7 s8 s9 s10 : Sl} {k : Env → Prop} : SE (Prog.rt G call false) 10 d true (s0 :: s1 :: s2 :: s3 :: s4 :: s5 :: s6 :: s7 :: s8 :: s9 :: s10 :: r) k = k (s0 :: s1 :: s2 :: s3 :: s4 :: s5 :: s6 :: s7 :: s8 :: s9 :: .ow d :: r) := by simp [SE, okS, Prog.rt, putV]
theorem sx10 {s0 s1 s2 s3 s4 s5 s6 s7 s8 s9 s10 : Sl} {s : Sl} {k : Env → Prop} : SX 10 s (s0 :: s1 :: s2 :: s3 :: s4 :: s5 :: s6 :: s7 :: s8 :: s9 :: s10 :: r) k = k (s0 :: s1 :: s2 :: s3 :: s4 :: s5 :: s6 :: s7 :: s8 :: s9 :: s :: r) := rfl
theorem pk10f {s0 s1 s2 s3 s4 s5 s6 s7 s8 s9 : Sl} {k : D → Prop} : OV (peek (s0 :: s1 :: s2 :: s3 :: s4 :: s5 :: s6 :: s7 :: s8 :: s9 :: .fz d :: r) (.sl 10)) k = k d := rfl
theorem pk10o {s0 s1 s2 s3 s4 s5 s6 s7 s8 s9 : Sl} {k : D → Prop} : OV (peek (s0 :: s1 :: s2 :: s3 :: s4 :: s5 :: s6 :: s7 :: s8 :: s9 :: .ow (.lst xs) :: r) (.sl 10)) k = k (.lst xs) := rfl
theorem po10 {s0 s1 s2 s3 s4 s5 s6 s7 s8 s9 : Sl} {k : D → Prop} : OV (peekO (s0 :: s1 :: s2 :: s3 :: s4 :: s5 :: s6 :: s7 :: s8 :: s9 :: .ow (.lst xs) :: r) (.sl 10)) k = k (.lst xs) := rfl
theorem wv11 {s0 s1 s2 s3 s4 s5 s6 s7 s8 s9 s10 : Sl} : WE R m (.var 11) (s0 :: s1 :: s2 :: s3 :: s4 :: s5 :: s6 :: s7 :: s8 :: s9 :: s10 :: .fz d :: r) K X = K d false (s0 :: s1 :: s2 :: s3 :: s4 :: s5 :: s6 :: s7 :: s8 :: s9 :: s10 :: .fz d :: r) := we_var rfl
theorem wo11 {s0 s1 s2 s3 s4 s5 s6 s7 s8 s9 s10 : Sl} : WE R false (.var 11) (s0 :: s1 :: s2 :: s3 :: s4 :: s5 :: s6 :: s7 :: s8 :: s9 :: s10 :: .ow (.lst xs) :: r) K X = K (.lst xs) false (s0 :: s1 :: s2 :: s3 :: s4 :: s5 :: s6 :: s7 :: s8 :: s9 :: s10 :: .fz (.lst xs) :: r) := we_varo rfl rfl
theorem wm11 {s0 s1 s2 s3 s4 s5 s6 s7 s8 s9 s10 : Sl} : WE R m (.mov 11) (s0 :: s1 :: s2 :: s3 :: s4 :: s5 :: s6 :: s7 :: s8 :: s9 :: s10 :: .fz d :: r) K X = K d false (s0 :: s1 :: s2 :: s3 :: s4 :: s5 :: s6 :: s7 :: s8 :: s9 :: s10 :: .fz d :: r) := we_movf rfl
theorem wn11 {s0 s1 s2 s3 s4 s5 s6 s7 s8 s9 s10 : Sl} : WE R false (.mov 11) (s0 :: s1 :: s2 :: s3 :: s4 :: s5 :: s6 :: s7 :: s8 :: s9 :: s10 :: .ow (.lst xs) :: r) K X = K (.lst xs) true (s0 :: s1 :: s2 :: s3 :: s4 :: s5 :: s6 :: s7 :: s8 :: s9 :: s10 :: .no :: r) := we_mov rfl
theorem se11f {s0 s1 s2 s3 s4 s5 s6 s7 s8 s9 s10 s11 : Sl} {k : Env → Prop} : SE (Prog.rt G call false) 11 d false (s0 :: s1 :: s2 :: s3 :: s4 :: s5 :: s6 :: s7 :: s8 :: s9 :: s10 :: s11 :: r) k = k (s0 :: s1 :: s2 :: s3 :: s4 :: s5 :: s6 :: s7 :: s8 :: s9 :: s10 :: .fz d :: r) := by simp [SE, okS, Prog.rt, putV]
theorem se11o {s0 s1 s2 s3 s4 s5 s6 s7 s8 s9 s10 s11 : Sl} {k : Env → Prop} : SE (Prog.rt G call false) 11 d true (s0 :: s1 :: s2 :: s3 :: s4 :: s5 :: s6 :: s7 :: s8 :: s9 :: s10 :: s11 :: r) k = k (s0 :: s1 :: s2 :: s3 :: s4 :: s5 :: s6 :: s7 :: s8 :: s9 :: s10 :: .ow d :: r) := by simp [SE, okS, Prog.rt, putV]
theorem sx11 {s0 s1 s2 s3 s4 s5 s6 s7 s8 s9 s10 s11 : Sl} {s : Sl} {k : Env → Prop} : SX 11 s (s0 :: s1 :: s2 :: s3 :: s4 :: s5 :: s6 :: s7 :: s8 :: s9 :: s10 :: s11 :: r) k = k (s0 :: s1 :: s2 :: s3 :: s4 :: s5 :: s6 :: s7 :: s8 :: s9 :: s10 :: s :: r) := rfl
theorem pk11f {s0 s1 s2 s3 s4 s5 s6 s7 s8 s9 s10 : Sl} {k : D → Prop} : OV (peek (s0 :: s1 :: s2 :: s3 :: s4 :: s5 :: s6 :: s7 :: s8 :: s9 :: s10 :: .fz d :: r) (.sl 11)) k = k d := rfl
theorem pk11o {s0 s1 s2 s3 s4 s5 s6 s7 s8 s9 s10 : Sl} {k : D → Prop} : OV (peek (s0 :: s1 :: s2 :: s3 :: s4 :: s5 :: s6 :: s7 :: s8 :: s9 :: s10 :: .ow (.lst xs) :: r) (.sl 11)) k = k (.lst xs) := rfl
theorem po11 {s0 s1 s2 s3 s4 s5 s6 s7 s8 s9 s10 : Sl} {k : D → Prop} : OV (peekO (s0 :: s1 :: s2 :: s3 :: s4 :: s5 :: s6 :: s7 :: s8 :: s9 :: s10 :: .ow (.lst xs) :: r) (.sl 11)) k = k (.lst xs) := rfl
theorem wv12 {s0 s1 s2 s3 s4 s5 s6 s7 s8 s9 s10 s11 : Sl} : WE R m (.var 12) (s0 :: s1 :: s2 :: s3 :: s4 :: s5 :: s6 :: s7 :: s8 :: s9 :: s10 :: s11 :: .fz d :: r) K X = K d false (s0 :: s1 :: s2 :: s3 :: s4 :: s5 :: s6 :: s7 :: s8 :: s9 :: s10 :: s11 :: .fz d :: r) := we_var rfl
theorem wo12 {s0 s1 s2 s3 s4 s5 s6 s7 s8 s9 s10 s11 : Sl} : WE R false (.var 12) (s0 :: s1 :: s2 :: s3 :: s4 :: s5 :: s6 :: s7 :: s8 :: s9 :: s10 :: s11 :: .ow (.lst xs) :: r) K X = K (.lst xs) false (s0 :: s1 :: s2 :: s3 :: s4 :: s5 :: s6 :: s7 :: s8 :: s9 :: s10 :: s11 :: .fz (.lst xs) :: r) := we_varo rfl rfl
theorem wm12 {s0 s1 s2 s3 s4 s5 s6 s7 s8 s9 s10 s11 : Sl} : WE R m (.mov 12) (s0 :: s1 :: s2 :: s3 :: s4 :: s5 :: s6 :: s7 :: s8 :: s9 :: s10 :: s11 :: .fz d :: r) K X = K d false (s0 :: s1 :: s2 :: s3 :: s4 :: s5 :: s6 :: s7 :: s8 :: s9 :: s10 :: s11 :: .fz d :: r) := we_movf rfl
theorem wn12 {s0 s1 s2 s3 s4 s5 s6 s7 s8 s9 s10 s11 : Sl} : WE R false (.mov 12) (s0 :: s1 :: s2 :: s3 :: s4 :: s5 :: s6 :: s7 :: s8 :: s9 :: s10 :: s11 :: .ow (.lst xs) :: r) K X = K (.lst xs) true (s0 :: s1 :: s2 :: s3 :: s4 :: s5 :: s6 :: s7 :: s8 :: s9 :: s10 :: s11 :: .no :: r) := we_mov rfl
theorem se12f {s0 s1 s2 s3 s4 s5 s6 s7 s8 s9 s10 s11 s12 : Sl} {k : Env → Prop} : SE (Prog.rt G call false) 12 d false (s0 :: s1 :: s2 :: s3 :: s4 :: s5 :: s6 :: s7 :: s8 :: s9 :: s10 :: s11 :: s12 :: r) k = k (s0 :: s1 :: s2 :: s3 :: s4 :: s5 :: s6 :: s7 :: s8 :: s9 :: s10 :: s11 :: .fz d :: r) := by simp [SE, okS, Prog.rt, putV]
theorem se12o {s0 s1 s2 s3 s4 s5 s6 s7 s8 s9 s10 s11 s12 : Sl} {k : Env → Prop} : SE (Prog.rt G call false) 12 d true (s0 :: s1 :: s2 :: s3 :: s4 :: s5 :: s6 :: s7 :: s8 :: s9 :: s10 :: s11 :: s12 :: r) k = k (s0 :: s1 :: s2 :: s3 :: s4 :: s5 :: s6 :: s7 :: s8 :: s9 :: s10 :: s11 :: .ow d :: r) := by simp [SE, okS, Prog.rt, putV]
theorem sx12 {s0 s1 s2 s3 s4 s5 s6 s7 s8 s9 s10 s11 s12 : Sl} {s : Sl} {k : Env → Prop} : SX 12 s (s0 :: s1 :: s2 :: s3 :: s4 :: s5 :: s6 :: s7 :: s8 :: s9 :: s10 :: s11 :: s12 :: r) k = k (s0 :: s1 :: s2 :: s3 :: s4 :: s5 :: s6 :: s7 :: s8 :: s9 :: s10 :: s11 :: s :: r) := rfl
theorem pk12f {s0 s1 s2 s3 s4 s5 s6 s7 s8 s9 s10 s11 : Sl} {k : D → Prop} : OV (peek (s0 :: s1 :: s2 :: s3 :: s4 :: s5 :: s6 :: s7 :: s8 :: s9 :: s10 :: s11 :: .fz d :: r) (.sl 12)) k = k d := rfl
theorem pk12o {s0 s1 s2 s3 s4 s5 s6 s7 s8 s9 s10 s11 : Sl} {k : D → Prop} : OV (peek (s0 :: s1 :: s2 :: s3 :: s4 :: s5 :: s6 :: s7 :: s8 :: s9 :: s10 :: s11 :: .ow (.lst xs) :: r) (.sl 12)) k = k (.lst xs) := rfl
theorem po12 {s0 s1 s2 s3 s4 s5 s6 s7 s8 s9 s10 s11 : Sl} {k : D → Prop} : OV (peekO (s0 :: s1 :: s2 :: s3 :: s4 :: s5 :: s6 :: s7 :: s8 :: s9 :: s10 :: s11 :: .ow (.lst xs) :: r) (.sl 12)) k = k (.lst xs) := rfl
theorem wv13 {s0 s1 s2 s3 s4 s5 s6 s7 s8 s9 s10 s11 s12 : Sl} : WE R m (.var 13) (s0 :: s1 :: s2 :: s3 :: s4 :: s5 :: s6 :: s7 :: s8 :: s9 :: s10 :: s11 :: s12 :: .fz d :: r) K X = K d false (s0 :: s1 :: s2 :: s3 :: s4 :: s5 :: s6 :: s7 :: s8 :: s9 :: s10 :: s11 :: s12 :: .fz d :: r) := we_var rfl
theorem wo13 {s0 s1 s2 s3 s4 s5 s6 s7 s8 s9 s10 s11 s12 : Sl} : WE R false (.var 13) (s0 :: s1 :: s2 :: s3 :: s4 :: s5 :: s6 :: s7 :: s8 :: s9 :: s10 :: s11 :: s12 :: .ow (.lst xs) :: r) K X = K (.lst xs) false (s0 :: s1 :: s2 :: s3 :: s4 :: s5 :: s6 :: s7 :: s8 :: s9 :: s10 :: s11 :: s12 :: .fz (.lst xs) :: r) := we_varo rfl rfl
theorem wm13 {s0 s1 s2 s3 s4 s5 s6 s7 s8 s9 s10 s11 s12 : Sl} : WE R m (.mov 13) (s0 :: s1 :: s2 :: s3 :: s4 :: s5 :: s6 :: s7 :: s8 :: s9 :: s10 :: s11 :: s12 :: .fz d :: r) K X = K d false (s0 :: s1 :: s2 :: s3 :: s4 :: s5 :: s6 :: s7 :: s8 :: s9 :: s10 :: s11 :: s12 :: .fz d :: r) := we_movf rfl
theorem wn13 {s0 s1 s2 s3 s4 s5 s6 s7 s8 s9 s10 s11 s12 : Sl} : WE R false (.mov 13) (s0 :: s1 :: s2 :: s3 :: s4 :: s5 :: s6 :: s7 :: s8 :: s9 :: s10 :: s11 :: s12 :: .ow (.lst xs) :: r) K X = K (.lst xs) true (s0 :: s1 :: s2 :: s3 :: s4 :: s5 :: s6 :: s7 :: s8 :: s9 :: s10 :: s11 :: s12 :: .no :: r) := we_mov rfl
theorem se13f {s0 s1 s2 s3 s4 s5 s6 s7 s8 s9 s10 s11 s12 s13 : Sl} {k : Env → Prop} : SE (Prog.rt G call false) 13 d false (s0 :: s1 :: s2 :: s3 :: s4 :: s5 :: s6 :: s7 :: s8 :: s9 :: s10 :: s11 :: s12 :: s13 :: r) k = k (s0 :: s1 :: s2 :: s3 :: s4 :: s5 :: s6 :: s7 :: s8 :: s9 :: s10 :: s11 :: s12 :: .fz d :: r) := by simp [SE, okS, Prog.rt, putV]
theorem se13o {s0 s1 s2 s3 s4 s5 s6 s7 s8 s9 s10 s11 s12 s13 : Sl} {k : Env → Prop} : SE (Prog.rt G call false) 13 d true (s0 :: s1 :: s2 :: s3 :: s4 :: s5 :: s6 :: s7 :: s8 :: s9 :: s10 :: s11 :: s12 :: s13 :: r) k = k (s0 :: s1 :: s2 :: s3 :: s4 :: s5 :: s6 :: s7 :: s8 :: s9 :: s10 :: s11 :: s12 :: .ow d :: r) := by simp [SE, okS, Prog.rt, putV]
theorem sx13 {s0 s1 s2 s3 s4 s5 s6 s7 s8 s9 s10 s11 s12 s13 : Sl} {s : Sl} {k : Env → Prop} : SX 13 s (s0 :: s1 :: s2 :: s3 :: s4 :: s5 :: s6 :: s7 :: s8 :: s9 :: s10 :: s11 :: s12 :: s13 :: r) k = k (s0 :: s1 :: s2 :: s3 :: s4 :: s5 :: s6 :: s7 :: s8 :: s9 :: s10 :: s11 :: s12 :: s :: r) := rfl
theorem pk13f {s0 s1 s2 s3 s4 s5 s6 s7 s8 s9 s10 s11 s12 : Sl} {k : D → Prop} : OV (peek (s0 :: s1 :: s2 :: s3 :: s4 :: s5 :: s6 :: s7 :: s8 :: s9 :: s10 :: s11 :: s12 :: .fz d :: r) (.sl 13)) k = k d := rfl
theorem pk13o {s0 s1 s2 s3 s4 s5 s6 s7 s8 s9 s10 s11 s12 : Sl} {k : D → Prop} : OV (peek (s0 :: s1 :: s2 :: s3 :: s4 :: s5 :: s6 :: s7 :: s8 :: s9 :: s10 :: s11 :: s12 :: .ow (.lst xs) :: r) (.sl 13)) k = k (.lst xs) := rfl
theorem po13 {s0 s1 s2 s3 s4 s5 s6 s7 s8 s9 s10 s11 s12 : Sl} {k : D → Prop} : OV (peekO (s0 :: s1 :: s2 :: s3 :: s4 :: s5 :: s6 :: s7 :: s8 :: s9 :: s10 :: s11 :: s12 :: .ow (.lst xs) :: r) (.sl 13)) k = k (.lst xs) := rfl
theorem wv14 {s0 s1 s2 s3 s4 s5 s6 s7 s8 s9 s10 s11 s12 s13 : Sl} : WE R m (.var 14) (s0 :: s1 :: s2 :: s3 :: s4 :: s5 :: s6 :: s7 :: s8 :: s9 :: s10 :: s11 :: s12 :: s13 :: .fz d :: r) K X = K d false (s0 :: s1 :: s2 :: s3 :: s4 :: s5 :: s6 :: s7 :: s8 :: s9 :: s10 :: s11 :: s12 :: s13 :: .fz d :: r) := we_var rfl
theorem wo14 {s0 s1 s2 s3 s4 s5 s6 s7 s8 s9 s10 s11 s12 s13 : Sl} : WE R false (.var 14) (s0 :: s1 :: s2 :: s3 :: s4 :: s5 :: s6 :: s7 :: s8 :: s9 :: s10 :: s11 :: s12 :: s13 :: .ow (.lst xs) :: r) K X = K (.lst xs) false (s0 :: s1 :: s2 :: s3 :: s4 :: s5 :: s6 :: s7 :: s8 :: s9 :: s10 :: s11 :: s12 :: s13 :: .fz (.lst xs) :: r) := we_varo rfl rfl
theorem wm14 {s0 s1 s2 s3 s4 s5 s6 s7 s8 s9 s10 s11 s12 s13 : Sl} : WE R m (.mov 14) (s0 :: s1 :: s2 :: s3 :: s4 :: s5 :: s6 :: s7 :: s8 :: s9 :: s10 :: s11 :: s12 :: s13 :: .fz d :: r) K X = K d false (s0 :: s1 :: s2 :: s3 :: s4 :: s5 :: s6 :: s7 :: s8 :: s9 :: s10 :: s11 :: s12 :: s13 :: .fz d :: r) := we_movf rfl
theorem wn14 {s0 s1 s2 s3 s4 s5 s6 s7 s8 s9 s10 s11 s12 s13 : Sl} : WE R false (.mov 14) (s0 :: s1 :: s2 :: s3 :: s4 :: s5 :: s6 :: s7 :: s8 :: s9 :: s10 :: s11 :: s12 :: s13 :: .ow (.lst xs) :: r) K X = K (.lst xs) true (s0 :: s1 :: s2 :: s3 :: s4 :: s5 :: s6 :: s7 :: s8 :: s9 :: s10 :: s11 :: s12 :: s13 :: .no :: r) := we_mov rfl
theorem se14f {s0 s1 s2 s3 s4 s5 s6 s7 s8 s9 s10 s11 s12 s13 s14 : Sl} {k : Env → Prop} : SE (Prog.rt G call false) 14 d false (s0 :: s1 :: s2 :: s3 :: s4 :: s5 :: s6 :: s7 :: s8 :: s9 :: s10 :: s11 :: s12 :: s13 :: s14 :: r) k = k (s0 :: s1 :: s2 :: s3 :: s4 :: s5 :: s6 :: s7 :: s8 :: s9 :: s10 :: s11 :: s12 :: s13 :: .fz d :: r) := by simp [SE, okS, Prog.rt, putV]
theorem se14o {s0 s1 s2 s3 s4 s5 s6 s7 s8 s9 s10 s11 s12 s13 s14 : Sl} {k : Env → Prop} : SE (Prog.rt G call false) 14 d true (s0 :: s1 :: s2 :: s3 :: s4 :: s5 :: s6 :: s7 :: s8 :: s9 :: s10 :: s11 :: s12 :: s13 :: s14 :: r) k = k (s0 :: s1 :: s2 :: s3 :: s4 :: s5 :: s6 :: s7 :: s8 :: s9 :: s10 :: s11 :: s12 :: s13 :: .ow d :: r) := by simp [SE, okS, Prog.rt, putV]
theorem sx14 {s0 s1 s2 s3 s4 s5 s6 s7 s8 s9 s10 s11 s12 s13 s14 : Sl} {s : Sl} {k : Env → Prop} : SX 14 s (s0 :: s1 :: s2 :: s3 :: s4 :: s5 :: s6 :: s7 :: s8 :: s9 :: s10 :: s11 :: s12 :: s13 :: s14 :: r) k = k (s0 :: s1 :: s2 :: s3 :: s4 :: s5 :: s6 :: s7 :: s8 :: s9 :: s10 :: s11 :: s12 :: s13 :: s :: r) := rfl
theorem pk14f {s0 s1 s2 s3 s4 s5 s6 s7 s8 s9 s10 s11 s12 s13 : Sl} {k : D → Prop} : OV (peek (s0 :: s1 :: s2 :: s3 :: s4 :: s5 :: s6 :: s7 :: s8 :: s9 :: s10 :: s11 :: s12 :: s13 :: .fz d :: r) (.sl 14)) k = k d := rfl
theorem pk14o {s0 s1 s2 s3 s4 s5 s6 s7 s8 s9 s10 s11 s12 s13 : Sl} {k : D → Prop} : OV (peek (s0 :: s1 :: s2 :: s3 :: s4 :: s5 :: s6 :: s7 :: s8 :: s9 :: s10 :: s11 :: s12 :: s13 :: .ow (.lst xs) :: r) (.sl 14)) k = k (.lst xs) := rfl
theorem po14 {s0 s1 s2 s3 s4 s5 s6 s7 s8 s9 s10 s11 s12 s13 : Sl} {k : D → Prop} : OV (peekO (s0 :: s1 :: s2 :: s3 :: s4 :: s5 :: s6 :: s7 :: s8 :: s9 :: s10 :: s11 :: s12 :: s13 :: .ow (.lst xs) :: r) (.sl 14)) k = k (.lst xs) := rfl
theorem wv15 {s0 s1 s2 s3 s4 s5 s6 s7 s8 s9 s10 s11 s12 s13 s14 : Sl} : WE R m (.var 15) (s0 :: s1 :: s2 :: s3 :: s4 :: s5 :: s6 :: s7 :: s8 :: s9 :: s10 :: s11 :: s12 :: s13 :: s14 :: .fz d :: r) K X = K d false (s0 :: s1 :: s2 :: s3 :: s4 :: s5 :: s6 :: s7 :: s8 :: s9 :: s10 :: s11 :: s12 :: s13 :: s14 :: .fz d :: r) := we_var rfl
theorem wo15 {s0 s1 s2 s3 s4 s5 s6 s7 s8 s9 s10 s11 s12 s13 s14 : Sl} : WE R false (.var 15) (s0 :: s1 :: s2 :: s3 :: s4 :: s5 :: s6 :: s7 :: s8 :: s9 :: s10 :: s11 :: s12 :: s13 :: s14 :: .ow (.lst xs) :: r) K X = K (.lst xs) false (s0 :: s1 :: s2 :: s3 :: s4 :: s5 :: s6 :: s7 :: s8 :: s9 :: s10 :: s11 :: s12 :: s13 :: s14 :: .fz (.lst xs) :: r) := we_varo rfl rfl
theorem wm15 {s0 s1 s2 s3 s4 s5 s6 s7 s8 s9 s10 s11 s12 s13 s14 : Sl} : WE R m (.mov 15) (s0 :: s1 :: s2 :: s3 :: s4 :: s5 :: s6 :: s7 :: s8 :: s9 :: s10 :: s11 :: s12 :: s13 :: s14 :: .fz d :: r) K X = K d false (s0 :: s1 :: s2 :: s3 :: s4 :: s5 :: s6 :: s7 :: s8 :: s9 :: s10 :: s11 :: s12 :: s13 :: s14 :: .fz d :: r) := we_movf rfl
theorem wn15 {s0 s1 s2 s3 s4 s5 s6 s7 s8 s9 s10 s11 s12 s13 s14 : Sl} : WE R false (.mov 15) (s0 :: s1 :: s2 :: s3 :: s4 :: s5 :: s6 :: s7 :: s8 :: s9 :: s10 :: s11 :: s12 :: s13 :: s14 :: .ow (.lst xs) :: r) K X = K (.lst xs) true (s0 :: s1 :: s2 :: s3 :: s4 :: s5 :: s6 :: s7 :: s8 :: s9 :: s10 :: s11 :: s12 :: s13 :: s14 :: .no :: r) := we_mov rfl
theorem se15f {s0 s1 s2 s3 s4 s5 s6 s7 s8 s9 s10 s11 s12 s13 s14 s15 : Sl} {k : Env → Prop} : SE (Prog.rt G call false) 15 d false (s0 :: s1 :: s2 :: s3 :: s4 :: s5 :: s6 :: s7 :: s8 :: s9 :: s10 :: s11 :: s12 :: s13 :: s14 :: s15 :: r) k = k (s0 :: s1 :: s2 :: s3 :: s4 :: s5 :: s6 :: s7 :: s8 :: s9 :: s10 :: s11 :: s12 :: s13 :: s14 :: .fz d :: r) := by simp [SE, okS, Prog.rt, putV]
theorem se15o {s0 s1 s2 s3 s4 s5 s6 s7 s8 s9 s10 s11 s12 s13 s14 s15 : Sl} {k : Env → Prop} : SE (Prog.rt G call false) 15 d true (s0 :: s1 :: s2 :: s3 :: s4 :: s5 :: s6 :: s7 :: s8 :: s9 :: s10 :: s11 :: s12 :: s13 :: s14 :: s15 :: r) k = k (s0 :: s1 :: s2 :: s3 :: s4 :: s5 :: s6 :: s7 :: s8 :: s9 :: s10 :: s11 :: s12 :: s13 :: s14 :: .ow d :: r) := by simp [SE, okS, Prog.rt, putV]
theorem sx15 {s0 s1 s2 s3 s4 s5 s6 s7 s8 s9 s10 s11 s12 s13 s14 s15 : Sl} {s : Sl} {k : Env → Prop} : SX 15 s (s0 :: s1 :: s2 :: s3 :: s4 :: s5 :: s6 :: s7 :: s8 :: s9 :: s10 :: s11 :: s12 :: s13 :: s14 :: s15 :: r) k = k (s0 :: s1 :: s2 :: s3 :: s4 :: s5 :: s6 :: s7 :: s8 :: s9 :: s10 :: s11 :: s12 :: s13 :: s14 :: s :: r) := rfl
theorem pk15f {s0 s1 s2 s3 s4 s5 s6 s7 s8 s9 s10 s11 s12 s13 s14 : Sl} {k : D → Prop} : OV (peek (s0 :: s1 :: s2 :: s3 :: s4 :: s5 :: s6 :: s7 :: s8 :: s9 :: s10 :: s11 :: s12 :: s13 :: s14 :: .fz d :: r) (.sl 15)) k = k d := rfl
theorem pk15o {s0 s1 s2 s3 s4 s5 s6 s7 s8 s9 s10 s11 s12 s13 s14 : Sl} {k : D → Prop} : OV (peek (s0 :: s1 :: s2 :: s3 :: s4 :: s5 :: s6 :: s7 :: s8 :: s9 :: s10 :: s11 :: s12 :: s13 :: s14 :: .ow (.lst xs) :: r) (.sl 15)) k = k (.lst xs) := rfl
theorem po15 {s0 s1 s2 s3 s4 s5 s6 s7 s8 s9 s10 s11 s12 s13 s14 : Sl} {k : D → Prop} : OV (peekO (s0 :: s1 :: s2 :: s3 :: s4 :: s5 :: s6 :: s7 :: s8 :: s9 :: s10 :: s11 :: s12 :: s13 :: s14 :: .ow (.lst xs) :: r) (.sl 15)) k = k (.lst xs) := rfl
theorem wv16 {s0 s1 s2 s3 s4 s5 s6 s7 s8 s9 s10 s11 s12 s13 s14 s15 : Sl} : WE R m (.var 16) (s0 :: s1 :: s2 :: s3 :: s4 :: s5 :: s6 :: s7 :: s8 :: s9 :: s10 :: s11 :: s12 :: s13 :: s14 :: s15 :: .fz d :: r) K X = K d false (s0 :: s1 :: s2 :: s3 :: s4 :: s5 :: s6 :: s7 :: s8 :: s9 :: s10 :: s11 :: s12 :: s13 :: s14 :: s15 :: .fz d :: r) := we_var rfl
theorem wo16 {s0 s1 s2 s3 s4 s5 s6 s7 s8 s9 s10 s11 s12 s13 s14 s15 : Sl} : WE R false (.var 16) (s0 :: s1 :: s2 :: s3 :: s4 :: s5 :: s6 :: s7 :: s8 :: s9 :: s10 :: s11 :: s12 :: s13 :: s14 :: s15 :: .ow (.lst xs) :: r) K X = K (.lst xs) false (s0 :: s1 :: s2 :: s3 :: s4 :: s5 :: s6 :: s7 :: s8 :: s9 :: s10 :: s11 :: s12 :: s13 :: s14 :: s15 :: .fz (.lst xs) :: r) := we_varo rfl rfl
theorem wm16 {s0 s1 s2 s3 s4 s5 s6 s7 s8 s9 s10 s11 s12 s13 s14 s15 : Sl} : WE R m (.mov 16) (s0 :: s1 :: s2 :: s3 :: s4 :: s5 :: s6 :: s7 :: s8 :: s9 :: s10 :: s11 :: s12 :: s13 :: s14 :: s15 :: .fz d :: r) K X = K d false (s0 :: s1 :: s2 :: s3 :: s4 :: s5 :: s6 :: s7 :: s8 :: s9 :: s10 :: s11 :: s12 :: s13 :: s14 :: s15 :: .fz d :: r) := we_movf rfl
theorem wn16 {s0 s1 s2 s3 s4 s5 s6 s7 s8 s9 s10 s11 s12 s13 s14 s15 : Sl} : WE R false (.mov 16) (s0 :: s1 :: s2 :: s3 :: s4 :: s5 :: s6 :: s7 :: s8 :: s9 :: s10 :: s11 :: s12 :: s13 :: s14 :: s15 :: .ow (.lst xs) :: r) K X = K (.lst xs) true (s0 :: s1 :: s2 :: s3 :: s4 :: s5 :: s6 :: s7 :: s8 :: s9 :: s10 :: s11 :: s12 :: s13 :: s14 :: s15 :: .no :: r) := we_mov rfl
theorem se16f {s0 s1 s2 s3 s4 s5 s6 s7 s8 s9 s10 s11 s12 s13 s14 s15 s16 : Sl} {k : Env → Prop} : SE (Prog.rt G call false) 16 d false (s0 :: s1 :: s2 :: s3 :: s4 :: s5 :: s6 :: s7 :: s8 :: s9 :: s10 :: s11 :: s12 :: s13 :: s14 :: s15 :: s16 :: r) k = k (s0 :: s1 :: s2 :: s3 :: s4 :: s5 :: s6 :: s7 :: s8 :: s9 :: s10 :: s11 :: s12 :: s13 :: s14 :: s15 :: .fz d :: r) := by simp [SE, okS, Prog.rt, putV]
theorem se16o {s0 s1 s2 s3 s4 s5 s6 s7 s8 s9 s10 s11 s12 s13 s14 s15 s16 : Sl} {k : Env → Prop} : SE (Prog.rt G call false) 16 d true (s0 :: s1 :: s2 :: s3 :: s4 :: s5 :: s6 :: s7 :: s8 :: s9 :: s10 :: s11 :: s12 :: s13 :: s14 :: s15 :: s16 :: r) k = k (s0 :: s1 :: s2 :: s3 :: s4 :: s5 :: s6 :: s7 :: s8 :: s9 :: s10 :: s11 :: s12 :: s13 :: s14 :: s15 :: .ow d :: r) := by simp [SE, okS, Prog.rt, putV]
theorem sx16 {s0 s1 s2 s3 s4 s5 s6 s7 s8 s9 s10 s11 s12 s13 s14 s15 s16 : Sl} {s : Sl} {k : Env → Prop} : SX 16 s (s0 :: s1 :: s2 :: s3 :: s4 :: s5 :: s6 :: s7 :: s8 :: s9 :: s10 :: s11 :: s12 :: s13 :: s14 :: s15 :: s16 :: r) k = k (s0 :: s1 :: s2 :: s3 :: s4 :: s5 :: s6 :: s7 :: s8 :: s9 :: s10 :: s11 :: s12 :: s13 :: s14 :: s15 :: s :: r) := rfl
theorem pk16f {s0 s1 s2 s3 s4 s5 s6 s7 s8 s9 s10 s11 s12 s13 s14 s15 : Sl} {k : D → Prop} : OV (peek (s0 :: s1 :: s2 :: s3 :: s4 :: s5 :: s6 :: s7 :: s8 :: s9 :: s10 :: s11 :: s12 :: s13 :: s14 :: s15 :: .fz d :: r) (.sl 16)) k = k d := rfl
theorem pk16o {s0 s1 s2 s3 s4 s5 s6 s7 s8 s9 s10 s11 s12 s13 s14 s15 : Sl} {k : D → Prop} : OV (peek (s0 :: s1 :: s2 :: s3 :: s4 :: s5 :: s6 :: s7 :: s8 :: s9 :: s10 :: s11 :: s12 :: s13 :: s14 :: s15 :: .ow (.lst xs) :: r) (.sl 16)) k = k (.lst xs) := rfl
theorem po16 {s0 s1 s2 s3 s4 s5 s6 s7 s8 s9 s10 s11 s12 s13 s14 s15 : Sl} {k : D → Prop} : OV (peekO (s0 :: s1 :: s2 :: s3 :: s4 :: s5 :: s6 :: s7 :: s8 :: s9 :: s10 :: s11 :: s12 :: s13 :: s14 :: s15 :: .ow (.lst xs) :: r) (.sl 16)) k = k (.lst xs) := rfl
theorem wv17 {s0 s1 s2 s3 s4 s5 s6 s7 s8 s9 s10 s11 s12 s13 s14 s15 s16 : Sl} : WE R m (.var 17) (s0 :: s1 :: s2 :: s3 :: s4 :: s5 :: s6 :: s7 :: s8 :: s9 :: s10 :: s11 :: s12 :: s13 :: s14 :: s15 :: s16 :: .fz d :: r) K X = K d false (s0 :: s1 :: s2 :: s3 :: s4 :: s5 :: s6 :: s7 :: s8 :: s9 :: s10 :: s11 :: s12 :: s13 :: s14 :: s15 :: s16 :: .fz d :: r) := we_var rfl
theorem wo17 {s0 s1 s2 s3 s4 s5 s6 s7 s8 s9 s10 s11 s12 s13 s14 s15 s16 : Sl} : WE R false (.var 17) (s0 :: s1 :: s2 :: s3 :: s4 :: s5 :: s6 :: s7 :: s8 :: s9 :: s10 :: s11 :: s12 :: s13 :: s14 :: s15 :: s16 :: .ow (.lst xs) :: r) K X = K (.lst xs) false (s0 :: s1 :: s2 :: s3 :: s4 :: s5 :: s6 :: s7 :: s8 :: s9 :: s10 :: s11 :: s12 :: s13 :: s14 :: s15 :: s16 :: .fz (.lst xs) :: r) := we_varo rfl rfl
theorem wm17 {s0 s1 s2 s3 s4 s5 s6 s7 s8 s9 s10 s11 s12 s13 s14 s15 s16 : Sl} : WE R m (.mov 17) (s0 :: s1 :: s2 :: s3 :: s4 :: s5 :: s6 :: s7 :: s8 :: s9 :: s10 :: s11 :: s12 :: s13 :: s14 :: s15 :: s16 :: .fz d :: r) K X = K d false (s0 :: s1 :: s2 :: s3 :: s4 :: s5 :: s6 :: s7 :: s8 :: s9 :: s10 :: s11 :: s12 :: s13 :: s14 :: s15 :: s16 :: .fz d :: r) := we_movf rfl
theorem wn17 {s0 s1 s2 s3 s4 s5 s6 s7 s8 s9 s10 s11 s12 s13 s14 s15 s16 : Sl} : WE R false (.mov 17) (s0 :: s1 :: s2 :: s3 :: s4 :: s5 :: s6 :: s7 :: s8 :: s9 :: s10 :: s11 :: s12 :: s13 :: s14 :: s15 :: s16 :: .ow (.lst xs) :: r) K X = K (.lst xs) true (s0 :: s1 :: s2 :: s3 :: s4 :: s5 :: s6 :: s7 :: s8 :: s9 :: s10 :: s11 :: s12 :: s13 :: s14 :: s15 :: s16 :: .no :: r) := we_mov rfl
theorem se17f {s0 s1 s2 s3 s4 s5 s6 s7 s8 s9 s10 s11 s12 s13 s14 s15 s16 s17 : Sl} {k : Env → Prop} : SE (Prog.rt G call false) 17 d false (s0 :: s1 :: s2 :: s3 :: s4 :: s5 :: s6 :: s7 :: s8 :: s9 :: s10 :: s11 :: s12 :: s13 :: s14 :: s15 :: s16 :: s17 :: r) k = k (s0 :: s1 :: s2 :: s3 :: s4 :: s5 :: s6 :: s7 :: s8 :: s9 :: s10 :: s11 :: s12 :: s13 :: s14 :: s15 :: s16 :: .fz d :: r) := by simp [SE, okS, Prog.rt, putV]
theorem se17o {s0 s1 s2 s3 s4 s5 s6 s7 s8 s9 s10 s11 s12 s13 s14 s15 s16 s17 : Sl} {k : Env → Prop} : SE (Prog.rt G call false) 17 d true (s0 :: s1 :: s2 :: s3 :: s4 :: s5 :: s6 :: s7 :: s8 :: s9 :: s10 :: s11 :: s12 :: s13 :: s14 :: s15 :: s16 :: s17 :: r) k = k (s0 :: s1 :: s2 :: s3 :: s4 :: s5 :: s6 :: s7 :: s8 :: s9 :: s10 :: s11 :: s12 :: s13 :: s14 :: s15 :: s16 :: .ow d :: r) := by simp [SE, okS, Prog.rt, putV]
theorem sx17 {s0 s1 s2 s3 s4 s5 s6 s7 s8 s9 s10 s11 s12 s13 s14 s15 s16 s17 : Sl} {s : Sl} {k : Env → Prop} : SX 17 s (s0 :: s1 :: s2 :: s3 :: s4 :: s5 :: s6 :: s7 :: s8 :: s9 :: s10 :: s11 :: s12 :: s13 :: s14 :: s15 :: s16 :: s17 :: r) k = k (s0 :: s1 :: s2 :: s3 :: s4 :: s5 :: s6 :: s7 :: s8 :: s9 :: s10 :: s11 :: s12 :: s13 :: s14 :: s15 :: s16 :: s :: r) := rfl
theorem pk17f {s0 s1 s2 s3 s4 s5 s6 s7 s8 s9 s10 s11 s12 s13 s14 s15 s16 : Sl} {k : D → Prop} : OV (peek (s0 :: s1 :: s2 :: s3 :: s4 :: s5 :: s6 :: s7 :: s8 :: s9 :: s10 :: s11 :: s12 :: s13 :: s14 :: s15 :: s16 :: .fz d :: r) (.sl 17)) k = k d := rfl
theorem pk17o {s0 s1 s2 s3 s4 s5 s6 s7 s8 s9 s10 s11 s12 s13 s14 s15 s16 : Sl} {k : D → Prop} : OV (peek (s0 :: s1 :: s2 :: s3 :: s4 :: s5 :: s6 :: s7 :: s8 :: s9 :: s10 :: s11 :: s12 :: s13 :: s14 :: s15 :: s16 :: .ow (.lst xs) :: r) (.sl 17)) k = k (.lst xs) := rfl
theorem po17 {s0 s1 s2 s3 s4 s5 s6 s7 s8 s9 s10 s11 s12 s13 s14 s15 s16 : Sl} {k : D → Prop} : OV (peekO (s0 :: s1 :: s2 :: s3 :: s4 :: s5 :: s6 :: s7 :: s8 :: s9 :: s10 :: s11 :: s12 :: s13 :: s14 :: s15 :: s16 :: .ow (.lst xs) :: r) (.sl 17)) k = k (.lst xs) := rfl
theorem wv18 {s0 s1 s2 s3 s4 s5 s6 s7 s8 s9 s10 s11 s12 s13 s14 s15 s16 s17 : Sl} : WE R m (.var 18) (s0 :: s1 :: s2 :: s3 :: s4 :: s5 :: s6 :: s7 :: s8 :: s9 :: s10 :: s11 :: s12 :: s13 :: s14 :: s15 :: s16 :: s17 :: .fz d :: r) K X = K d false (s0 :: s1 :: s2 :: s3 :: s4 :: s5 :: s6 :: s7 :: s8 :: s9 :: s10 :: s11 :: s12 :: s13 :: s14 :: s15 :: s16 :: s17 :: .fz d :: r) := we_var rfl
theorem wo18 {s0 s1 s2 s3 s4 s5 s6 s7 s8 s9 s10 s11 s12 s13 s14 s15 s16 s17 : Sl} : WE R false (.var 18) (s0 :: s1 :: s2 :: s3 :: s4 :: s5 :: s6 :: s7 :: s8 :: s9 :: s10 :: s11 :: s12 :: s13 :: s14 :: s15 :: s16 :: s17 :: .ow (.lst xs) :: r) K X = K (.lst xs) false (s0 :: s1 :: s2 :: s3 :: s4 :: s5 :: s6 :: s7 :: s8 :: s9 :: s10 :: s11 :: s12 :: s13 :: s14 :: s15 :: s16 :: s17 :: .fz (.lst xs) :: r) := we_varo rfl rfl
theorem wm18 {s0 s1 s2 s3 s4 s5 s6 s7 s8 s9 s10 s11 s12 s13 s14 s15 s16 s17 : Sl} : WE R m (.mov 18) (s0 :: s1 :: s2 :: s3 :: s4 :: s5 :: s6 :: s7 :: s8 :: s9 :: s10 :: s11 :: s12 :: s13 :: s14 :: s15 :: s16 :: s17 :: .fz d :: r) K X = K d false (s0 :: s1 :: s2 :: s3 :: s4 :: s5 :: s6 :: s7 :: s8 :: s9 :: s10 :: s11 :: s12 :: s13 :: s14 :: s15 :: s16 :: s17 :: .fz d :: r) := we_movf rfl
theorem wn18 {s0 s1 s2 s3 s4 s5 s6 s7 s8 s9 s10 s11 s12 s13 s14 s15 s16 s17 : Sl} : WE R false (.mov 18) (s0 :: s1 :: s2 :: s3 :: s4 :: s5 :: s6 :: s7 :: s8 :: s9 :: s10 :: s11 :: s12 :: s13 :: s14 :: s15 :: s16 :: s17 :: .ow (.lst xs) :: r) K X = K (.lst xs) true (s0 :: s1 :: s2 :: s3 :: s4 :: s5 :: s6 :: s7 :: s8 :: s9 :: s10 :: s11 :: s12 :: s13 :: s14 :: s15 :: s16 :: s17 :: .no :: r) := we_mov rfl
theorem se18f {s0 s1 s2 s3 s4 s5 s6 s7 s8 s9 s10 s11 s12 s13 s14 s15 s16 s17 s18 : Sl} {k : Env → Prop} : SE (Prog.rt G call false) 18 d false (s0 :: s1 :: s2 :: s3 :: s4 :: s5 :: s6 :: s7 :: s8 :: s9 :: s10 :: s11 :: s12 :: s13 :: s14 :: s15 :: s16 :: s17 :: s18 :: r) k = k (s0 :: s1 :: s2 :: s3 :: s4 :: s5 :: s6 :: s7 :: s8 :: s9 :: s10 :: s11 :: s12 :: s13 :: s14 :: s15 :: s16 :: s17 :: .fz d :: r) := by simp [SE, okS, Prog.rt, putV]
theorem se18o {s0 s1 s2 s3 s4 s5 s6 s7 s8 s9 s10 s11 s12 s13 s14 s15 s16 s17 s18 : Sl} {k : Env → Prop} : SE (Prog.rt G call false) 18 d true (s0 :: s1 :: s2 :: s3 :: s4 :: s5 :: s6 :: s7 :: s8 :: s9 :: s10 :: s11 :: s12 :: s13 :: s14 :: s15 :: s16 :: s17 :: s18 :: r) k = k (s0 :: s1 :: s2 :: s3 :: s4 :: s5 :: s6 :: s7 :: s8 :: s9 :: s10 :: s11 :: s12 :: s13 :: s14 :: s15 :: s16 :: s17 :: .ow d :: r) := by simp [SE, okS, Prog.rt, putV]
theorem sx18 {s0 s1 s2 s3 s4 s5 s6 s7 s8 s9 s10 s11 s12 s13 s14 s15 s16 s17 s18 : Sl} {s : Sl} {k : Env → Prop} : SX 18 s (s0 :: s1 :: s2 :: s3 :: s4 :: s5 :: s6 :: s7 :: s8 :: s9 :: s10 :: s11 :: s12 :: s13 :: s14 :: s15 :: s16 :: s17 :: s18 :: r) k = k (s0 :: s1 :: s2 :: s3 :: s4 :: s5 :: s6 :: s7 :: s8 :: s9 :: s10 :: s11 :: s12 :: s13 :: s14 :: s15 :: s16 :: s17 :: s :: r) := rfl
theorem pk18f {s0 s1 s2 s3 s4 s5 s6 s7 s8 s9 s10 s11 s12 s13 s14 s15 s16 s17 : Sl} {k : D → Prop} : OV (peek (s0 :: s1 :: s2 :: s3 :: s4 :: s5 :: s6 :: s7 :: s8 :: s9 :: s10 :: s11 :: s12 :: s13 :: s14 :: s15 :: s16 :: s17 :: .fz d :: r) (.sl 18)) k = k d := rfl
theorem pk18o {s0 s1 s2 s3 s4 s5 s6 s7 s8 s9 s10 s11 s12 s13 s14 s15 s16 s17 : Sl} {k : D → Prop} : OV (peek (s0 :: s1 :: s2 :: s3 :: s4 :: s5 :: s6 :: s7 :: s8 :: s9 :: s10 :: s11 :: s12 :: s13 :: s14 :: s15 :: s16 :: s17 :: .ow (.lst xs) :: r) (.sl 18)) k = k (.lst xs) := rfl
theorem po18 {s0 s1 s2 s3 s4 s5 s6 s7 s8 s9 s10 s11 s12 s13 s14 s15 s16 s17 : Sl} {k : D → Prop} : OV (peekO (s0 :: s1 :: s2 :: s3 :: s4 :: s5 :: s6 :: s7 :: s8 :: s9 :: s10 :: s11 :: s12 :: s13 :: s14 :: s15 :: s16 :: s17 :: .ow (.lst xs) :: r) (.sl 18)) k = k (.lst xs) := rfl
theorem wv19 {s0 s1 s2 s3 s4 s5 s6 s7 s8 s9 s10 s11 s12 s13 s14 s15 s16 s17 s18 : Sl} : WE R m (.var 19) (s0 :: s1 :: s2 :: s3 :: s4 :: s5 :: s6 :: s7 :: s8 :: s9 :: s10 :: s11 :: s12 :: s13 :: s14 :: s15 :: s16 :: s17 :: s18 :: .fz d :: r) K X = K d false (s0 :: s1 :: s2 :: s3 :: s4 :: s5 :: s6 :: s7 :: s8 :: s9 :: s10 :: s11 :: s12 :: s13 :: s14 :: s15 :: s16 :: s17 :: s18 :: .fz d :: r) := we_var rfl
theorem wo19 {s0 s1 s2 s3 s4 s5 s6 s7 s8 s9 s10 s11 s12 s13 s14 s15 s16 s17 s18 : Sl} : WE R false (.var 19) (s0 :: s1 :: s2 :: s3 :: s4 :: s5 :: s6 :: s7 :: s8 :: s9 :: s10 :: s11 :: s12 :: s13 :: s14 :: s15 :: s16 :: s17 :: s18 :: .ow (.lst xs) :: r) K X = K (.lst xs) false (s0 :: s1 :: s2 :: s3 :: s4 :: s5 :: s6 :: s7 :: s8 :: s9 :: s10 :: s11 :: s12 :: s13 :: s14 :: s15 :: s16 :: s17 :: s18 :: .fz (.lst xs) :: r) := we_varo rfl rfl
theorem wm19 {s0 s1 s2 s3 s4 s5 s6 s7 s8 s9 s10 s11 s12 s13 s14 s15 s16 s17 s18 : Sl} : WE R m (.mov 19) (s0 :: s1 :: s2 :: s3 :: s4 :: s5 :: s6 :: s7 :: s8 :: s9 :: s10 :: s11 :: s12 :: s13 :: s14 :: s15 :: s16 :: s17 :: s18 :: .fz d :: r) K X = K d false (s0 :: s1 :: s2 :: s3 :: s4 :: s5 :: s6 :: s7 :: s8 :: s9 :: s10 :: s11 :: s12 :: s13 :: s14 :: s15 :: s16 :: s17 :: s18 :: .fz d :: r) := we_movf rfl
theorem wn19 {s0 s1 s2 s3 s4 s5 s6 s7 s8 s9 s10 s11 s12 s13 s14 s15 s16 s17 s18 : Sl} : WE R false (.mov 19) (s0 :: s1 :: s2 :: s3 :: s4 :: s5 :: s6 :: s7 :: s8 :: s9 :: s10 :: s11 :: s12 :: s13 :: s14 :: s15 :: s16 :: s17 :: s18 :: .ow (.lst xs) :: r) K X = K (.lst xs) true (s0 :: s1 :: s2 :: s3 :: s4 :: s5 :: s6 :: s7 :: s8 :: s9 :: s10 :: s11 :: s12 :: s13 :: s14 :: s15 :: s16 :: s17 :: s18 :: .no :: r) := we_mov rfl
theorem se19f {s0 s1 s2 s3 s4 s5 s6 s7 s8 s9 s10 s11 s12 s13 s14 s15 s16 s17 s18 s19 : Sl} {k : Env → Prop} : SE (Prog.rt G call false) 19 d false (s0 :: s1 :: s2 :: s3 :: s4 :: s5 :: s6 :: s7 :: s8 :: s9 :: s10 :: s11 :: s12 :: s13 :: s14 :: s15 :: s16 :: s17 :: s18 :: s19 :: r) k = k (s0 :: s1 :: s2 :: s3 :: s4 :: s5 :: s6 :: s7 :: s8 :: s9 :: s10 :: s11 :: s12 :: s13 :: s14 :: s15 :: s16 :: s17 :: s18 :: .fz d :: r) := by simp [SE, okS, Prog.rt, putV]
theorem se19o {s0 s1 s2 s3 s4 s5 s6 s7 s8 s9 s10 s11 s12 s13 s14 s15 s16 s17 s18 s19 : Sl} {k : Env → Prop} : SE (Prog.rt G call false) 19 d true (s0 :: s1 :: s2 :: s3 :: s4 :: s5 :: s6 :: s7 :: s8 :: s9 :: s10 :: s11 :: s12 :: s13 :: s14 :: s15 :: s16 :: s17 :: s18 :: s19 :: r) k = k (s0 :: s1 :: s2 :: s3 :: s4 :: s5 :: s6 :: s7 :: s8 :: s9 :: s10 :: s11 :: s12 :: s13 :: s14 :: s15 :: s16 :: s17 :: s18 :: .ow d :: r) := by simp [SE, okS, Prog.rt, putV]
theorem sx19 {s0 s1 s2 s3 s4 s5 s6 s7 s8 s9 s10 s11 s12 s13 s14 s15 s16 s17 s18 s19 : Sl} {s : Sl} {k : Env → Prop} : SX 19 s (s0 :: s1 :: s2 :: s3 :: s4 :: s5 :: s6 :: s7 :: s8 :: s9 :: s10 :: s11 :: s12 :: s13 :: s14 :: s15 :: s16 :: s17 :: s18 :: s19 :: r) k = k (s0 :: s1 :: s2 :: s3 :: s4 :: s5 :: s6 :: s7 :: s8 :: s9 :: s10 :: s11 :: s12 :: s13 :: s14 :: s15 :: s16 :: s17 :: s18 :: s :: r) := rfl
theorem pk19f {s0 s1 s2 s3 s4 s5 s6 s7 s8 s9 s10 s11 s12 s13 s14 s15 s16 s17 s18 : Sl} {k : D → Prop} : OV (peek (s0 :: s1 :: s2 :: s3 :: s4 :: s5 :: s6 :: s7 :: s8 :: s9 :: s10 :: s11 :: s12 :: s13 :: s14 :: s15 :: s16 :: s17 :: s18 :: .fz d :: r) (.sl 19)) k = k d := rfl
theorem pk19o {s0 s1 s2 s3 s4 s5 s6 s7 s8 s9 s10 s11 s12 s13 s14 s15 s16 s17 s18 : Sl} {k : D → Prop} : OV (peek (s0 :: s1 :: s2 :: s3 :: s4 :: s5 :: s6 :: s7 :: s8 :: s9 :: s10 :: s11 :: s12 :: s13 :: s14 :: s15 :: s16 :: s17 :: s18 :: .ow (.lst xs) :: r) (.sl 19)) k = k (.lst xs) := rfl
theorem po19 {s0 s1 s2 s3 s4 s5 s6 s7 s8 s9 s10 s11 s12 s13 s14 s15 s16 s17 s18 : Sl} {k : D → Prop} : OV (peekO (s0 :: s1 :: s2 :: s3 :: s4 :: s5 :: s6 :: s7 :: s8 :: s9 :: s10 :: s11 :: s12 :: s13 :: s14 :: s15 :: s16 :: s17 :: s18 :: .ow (.lst xs) :: r) (.sl 19)) k = k (.lst xs) := rfl
theorem wv20 {s0 s1 s2 s3 s4 s5 s6 s7 s8 s9 s10 s11 s12 s13 s14 s15 s16 s17 s18 s19 : Sl} : WE R m (.var 20) (s0 :: s1 :: s2 :: s3 :: s4 :: s5 :: s6 :: s7 :: s8 :: s9 :: s10 :: s11 :: s12 :: s13 :: s14 :: s15 :: s16 :: s17 :: s18 :: s19 :: .fz d :: r) K X = K d false (s0 :: s1 :: s2 :: s3 :: s4 :: s5 :: s6 :: s7 :: s8 :: s9 :: s10 :: s11 :: s12 :: s13 :: s14 :: s15 :: s16 :: s17 :: s18 :: s19 :: .fz d :: r) := we_var rfl
theorem wo20 {s0 s1 s2 s3 s4 s5 s6 s7 s8 s9 s10 s11 s12 s13 s14 s15 s16 s17 s18 s19 : Sl} : WE R false (.var 20) (s0 :: s1 :: s2 :: s3 :: s4 :: s5 :: s6 :: s7 :: s8 :: s9 :: s10 :: s11 :: s12 :: s13 :: s14 :: s15 :: s16 :: s17 :: s18 :: s19 :: .ow (.lst xs) :: r) K X = K (.lst xs) false (s0 :: s1 :: s2 :: s3 :: s4 :: s5 :: s6 :: s7 :: s8 :: s9 :: s10 :: s11 :: s12 :: s13 :: s14 :: s15 :: s16 :: s17 :: s18 :: s19 :: .fz (.lst xs) :: r) := we_varo rfl rfl
theorem wm20 {s0 s1 s2 s3 s4 s5 s6 s7 s8 s9 s10 s11 s12 s13 s14 s15 s16 s17 s18 s19 : Sl} : WE R m (.mov 20) (s0 :: s1 :: s2 :: s3 :: s4 :: s5 :: s6 :: s7 :: s8 :: s9 :: s10 :: s11 :: s12 :: s13 :: s14 :: s15 :: s16 :: s17 :: s18 :: s19 :: .fz d :: r) K X = K d false (s0 :: s1 :: s2 :: s3 :: s4 :: s5 :: s6 :: s7 :: s8 :: s9 :: s10 :: s11 :: s12 :: s13 :: s14 :: s15 :: s16 :: s17 :: s18 :: s19 :: .fz d :: r) := we_movf rfl
theorem wn20 {s0 s1 s2 s3 s4 s5 s6 s7 s8 s9 s10 s11 s12 s13 s14 s15 s16 s17 s18 s19 : Sl} : WE R false (.mov 20) (s0 :: s1 :: s2 :: s3 :: s4 :: s5 :: s6 :: s7 :: s8 :: s9 :: s10 :: s11 :: s12 :: s13 :: s14 :: s15 :: s16 :: s17 :: s18 :: s19 :: .ow (.lst xs) :: r) K X = K (.lst xs) true (s0 :: s1 :: s2 :: s3 :: s4 :: s5 :: s6 :: s7 :: s8 :: s9 :: s10 :: s11 :: s12 :: s13 :: s14 :: s15 :: s16 :: s17 :: s18 :: s19 :: .no :: r) := we_mov rfl
theorem se20f {s0 s1 s2 s3 s4 s5 s6 s7 s8 s9 s10 s11 s12 s13 s14 s15 s16 s17 s18 s19 s20 : Sl} {k : Env → Prop} : SE (Prog.rt G call false) 20 d false (s0 :: s1 :: s2 :: s3 :: s4 :: s5 :: s6 :: s7 :: s8 :: s9 :: s10 :: s11 :: s12 :: s13 :: s14 :: s15 :: s16 :: s17 :: s18 :: s19 :: s20 :: r) k = k (s0 :: s1 :: s2 :: s3 :: s4 :: s5 :: s6 :: s7 :: s8 :: s9 :: s10 :: s11 :: s12 :: s13 :: s14 :: s15 :: s16 :: s17 :: s18 :: s19 :: .fz d :: r) := by simp [SE, okS, Prog.rt, putV]
theorem se20o {s0 s1 s2 s3 s4 s5 s6 s7 s8 s9 s10 s11 s12 s13 s14 s15 s16 s17 s18 s19 s20 : Sl} {k : Env → Prop} : SE (Prog.rt G call false) 20 d true (s0 :: s1 :: s2 :: s3 :: s4 :: s5 :: s6 :: s7 :: s8 :: s9 :: s10 :: s11 :: s12 :: s13 :: s14 :: s15 :: s16 :: s17 :: s18 :: s19 :: s20 :: r) k = k (s0 :: s1 :: s2 :: s3 :: s4 :: s5 :: s6 :: s7 :: s8 :: s9 :: s10 :: s11 :: s12 :: s13 :: s14 :: s15 :: s16 :: s17 :: s18 :: s19 :: .ow d :: r) := by simp [SE, okS, Prog.rt, putV]
theorem sx20 {s0 s1 s2 s3 s4 s5 s6 s7 s8 s9 s10 s11 s12 s13 s14 s15 s16 s17 s18 s19 s20 : Sl} {s : Sl} {k : Env → Prop} : SX 20 s (s0 :: s1 :: s2 :: s3 :: s4 :: s5 :: s6 :: s7 :: s8 :: s9 :: s10 :: s11 :: s12 :: s13 :: s14 :: s15 :: s16 :: s17 :: s18 :: s19 :: s20 :: r) k = k (s0 :: s1 :: s2 :: s3 :: s4 :: s5 :: s6 :: s7 :: s8 :: s9 :: s10 :: s11 :: s12 :: s13 :: s14 :: s15 :: s16 :: s17 :: s18 :: s19 :: s :: r) := rfl
theorem pk20f {s0 s1 s2 s3 s4 s5 s6 s7 s8 s9 s10 s11 s12 s13 s14 s15 s16 s17 s18 s19 : Sl} {k : D → Prop} : OV (peek (s0 :: s1 :: s2 :: s3 :: s4 :: s5 :: s6 :: s7 :: s8 :: s9 :: s10 :: s11 :: s12 :: s13 :: s14 :: s15 :: s16 :: s17 :: s18 :: s19 :: .fz d :: r) (.sl 20)) k = k d := rfl
theorem pk20o {s0 s1 s2 s3 s4 s5 s6 s7 s8 s9 s10 s11 s12 s13 s14 s15 s16 s17 s18 s19 : Sl} {k : D → Prop} : OV (peek (s0 :: s1 :: s2 :: s3 :: s4 :: s5 :: s6 :: s7 :: s8 :: s9 :: s10 :: s11 :: s12 :: s13 :: s14 :: s15 :: s16 :: s17 :: s18 :: s19 :: .ow (.lst xs) :: r) (.sl 20)) k = k (.lst xs) := rfl
theorem po20 {s0 s1 s2 s3 s4 s5 s6 s7 s8 s9 s10 s11 s12 s13 s14 s15 s16 s17 s18 s19 : Sl} {k : D → Prop} : OV (peekO (s0 :: s1 :: s2 :: s3 :: s4 :: s5 :: s6 :: s7 :: s8 :: s9 :: s10 :: s11 :: s12 :: s13 :: s14 :: s15 :: s16 :: s17 :: s18 :: s19 :: .ow (.lst xs) :: r) (.sl 20)) k = k (.lst xs) := rfl
theorem wv21 {s0 s1 s2 s3 s4 s5 s6 s7 s8 s9 s10 s11 s12 s13 s14 s15 s16 s17 s18 s19 s20 : Sl} : WE R m (.var 21) (s0 :: s1 :: s2 :: s3 :: s4 :: s5 :: s6 :: s7 :: s8 :: s9 :: s10 :: s11 :: s12 :: s13 :: s14 :: s15 :: s16 :: s17 :: s18 :: s19 :: s20 :: .fz d :: r) K X = K d false (s0 :: s1 :: s2 :: s3 :: s4 :: s5 :: s6 :: s7 :: s8 :: s9 :: s10 :: s11 :: s12 :: s13 :: s14 :: s15 :: s16 :: s17 :: s18 :: s19 :: s20 :: .fz d :: r) := we_var rfl
theorem wo21 {s0 s1 s2 s3 s4 s5 s6 s7 s8 s9 s10 s11 s12 s13 s14 s15 s16 s17 s18 s19 s20 : Sl} : WE R false (.var 21) (s0 :: s1 :: s2 :: s3 :: s4 :: s5 :: s6 :: s7 :: s8 :: s9 :: s10 :: s11 :: s12 :: s13 :: s14 :: s15 :: s16 :: s17 :: s18 :: s19 :: s20 :: .ow (.lst xs) :: r) K X = K (.lst xs) false (s0 :: s1 :: s2 :: s3 :: s4 :: s5 :: s6 :: s7 :: s8 :: s9 :: s10 :: s11 :: s12 :: s13 :: s14 :: s15 :: s16 :: s17 :: s18 :: s19 :: s20 :: .fz (.lst xs) :: r) := we_varo rfl rfl
theorem wm21 {s0 s1 s2 s3 s4 s5 s6 s7 s8 s9 s10 s11 s12 s13 s14 s15 s16 s17 s18 s19 s20 : Sl} : WE R m (.mov 21) (s0 :: s1 :: s2 :: s3 :: s4 :: s5 :: s6 :: s7 :: s8 :: s9 :: s10 :: s11 :: s12 :: s13 :: s14 :: s15 :: s16 :: s17 :: s18 :: s19 :: s20 :: .fz d :: r) K X = K d false (s0 :: s1 :: s2 :: s3 :: s4 :: s5 :: s6 :: s7 :: s8 :: s9 :: s10 :: s11 :: s12 :: s13 :: s14 :: s15 :: s16 :: s17 :: s18 :: s19 :: s20 :: .fz d :: r) := we_movf rfl
theorem wn21 {s0 s1 s2 s3 s4 s5 s6 s7 s8 s9 s10 s11 s12 s13 s14 s15 s16 s17 s18 s19 s20 : Sl} : WE R false (.mov 21) (s0 :: s1 :: s2 :: s3 :: s4 :: s5 :: s6 :: s7 :: s8 :: s9 :: s10 :: s11 :: s12 :: s13 :: s14 :: s15 :: s16 :: s17 :: s18 :: s19 :: s20 :: .ow (.lst xs) :: r) K X = K (.lst xs) true (s0 :: s1 :: s2 :: s3 :: s4 :: s5 :: s6 :: s7 :: s8 :: s9 :: s10 :: s11 :: s12 :: s13 :: s14 :: s15 :: s16 :: s17 :: s18 :: s19 :: s20 :: .no :: r) := we_mov rfl
theorem se21f {s0 s1 s2 s3 s4 s5 s6 s7 s8 s9 s10 s11 s12 s13 s14 s15 s16 s17 s18 s19 s20 s21 : Sl} {k : Env → Prop} : SE (Prog.rt G call false) 21 d false (s0 :: s1 :: s2 :: s3 :: s4 :: s5 :: s6 :: s7 :: s8 :: s9 :: s10 :: s11 :: s12 :: s13 :: s14 :: s15 :: s16 :: s17 :: s18 :: s19 :: s20 :: s21 :: r) k = k (s0 :: s1 :: s2 :: s3 :: s4 :: s5 :: s6 :: s7 :: s8 :: s9 :: s10 :: s11 :: s12 :: s13 :: s14 :: s15 :: s16 :: s17 :: s18 :: s19 :: s20 :: .fz d :: r) := by simp [SE, okS, Prog.rt, putV]
theorem se21o {s0 s1 s2 s3 s4 s5 s6 s7 s8 s9 s10 s11 s12 s13 s14 s15 s16 s17 s18 s19 s20 s21 : Sl} {k : Env → Prop} : SE (Prog.rt G call false) 21 d true (s0 :: s1 :: s2 :: s3 :: s4 :: s5 :: s6 :: s7 :: s8 :: s9 :: s10 :: s11 :: s12 :: s13 :: s14 :: s15 :: s16 :: s17 :: s18 :: s19 :: s20 :: s21 :: r) k = k (s0 :: s1 :: s2 :: s3 :: s4 :: s5 :: s6 :: s7 :: s8 :: s9 :: s10 :: s11 :: s12 :: s13 :: s14 :: s15 :: s16 :: s17 :: s18 :: s19 :: s20 :: .ow d :: r) := by simp [SE, okS, Prog.rt, putV]
theorem sx21 {s0 s1 s2 s3 s4 s5 s6 s7 s8 s9 s10 s11 s12 s13 s14 s15 s16 s17 s18 s19 s20 s21 : Sl} {s : Sl} {k : Env → Prop} : SX 21 s (s0 :: s1 :: s2 :: s3 :: s4 :: s5 :: s6 :: s7 :: s8 :: s9 :: s10 :: s11 :: s12 :: s13 :: s14 :: s15 :: s16 :: s17 :: s18 :: s19 :: s20 :: s21 :: r) k = k (s0 :: s1 :: s2 :: s3 :: s4 :: s5 :: s6 :: s7 :: s8 :: s9 :: s10 :: s11 :: s12 :: s13 :: s14 :: s15 :: s16 :: s17 :: s18 :: s19 :: s20 :: s :: r) := rfl
theorem pk21f {s0 s1 s2 s3 s4 s5 s6 s7 s8 s9 s10 s11 s12 s13 s14 s15 s16 s17 s18 s19 s20 : Sl} {k : D → Prop} : OV (peek (s0 :: s1 :: s2 :: s3 :: s4 :: s5 :: s6 :: s7 :: s8 :: s9 :: s10 :: s11 :: s12 :: s13 :: s14 :: s15 :: s16 :: s17 :: s18 :: s19 :: s20 :: .fz d :: r) (.sl 21)) k = k d := rfl
theorem pk21o {s0 s1 s2 s3 s4 s5 s6 s7 s8 s9 s10 s11 s12 s13 s14 s15 s16 s17 s18 s19 s20 : Sl} {k : D → Prop} : OV (peek (s0 :: s1 :: s2 :: s3 :: s4 :: s5 :: s6 :: s7 :: s8 :: s9 :: s10 :: s11 :: s12 :: s13 :: s14 :: s15 :: s16 :: s17 :: s18 :: s19 :: s20 :: .ow (.lst xs) :: r) (.sl 21)) k = k (.lst xs) := rfl
theorem po21 {s0 s1 s2 s3 s4 s5 s6 s7 s8 s9 s10 s11 s12 s13 s14 s15 s16 s17 s18 s19 s20 : Sl} {k : D → Prop} : OV (peekO (s0 :: s1 :: s2 :: s3 :: s4 :: s5 :: s6 :: s7 :: s8 :: s9 :: s10 :: s11 :: s12 :: s13 :: s14 :: s15 :: s16 :: s17 :: s18 :: s19 :: s20 :: .ow (.lst xs) :: r) (.sl 21)) k = k (.lst xs) := rfl
theorem wv22 {s0 s1 s2 s3 s4 s5 s6 s7 s8 s9 s10 s11 s12 s13 s14 s15 s16 s17 s18 s19 s20 s21 : Sl} : WE R m (.var 22) (s0 :: s1 :: s2 :: s3 :: s4 :: s5 :: s6 :: s7 :: s8 :: s9 :: s10 :: s11 :: s12 :: s13 :: s14 :: s15 :: s16 :: s17 :: s18 :: s19 :: s20 :: s21 :: .fz d :: r) K X = K d false (s0 :: s1 :: s2 :: s3 :: s4 :: s5 :: s6 :: s7 :: s8 :: s9 :: s10 :: s11 :: s12 :: s13 :: s14 :: s15 :: s16 :: s17 :: s18 :: s19 :: s20 :: s21 :: .fz d :: r) := we_var rfl
theorem wo22 {s0 s1 s2 s3 s4 s5 s6 s7 s8 s9 s10 s11 s12 s13 s14 s15 s16 s17 s18 s19 s20 s21 : Sl} : WE R false (.var 22) (s0 :: s1 :: s2 :: s3 :: s4 :: s5 :: s6 :: s7 :: s8 :: s9 :: s10 :: s11 :: s12 :: s13 :: s14 :: s15 :: s16 :: s17 :: s18 :: s19 :: s20 :: s21 :: .ow (.lst xs) :: r) K X = K (.lst xs) false (s0 :: s1 :: s2 :: s3 :: s4 :: s5 :: s6 :: s7 :: s8 :: s9 :: s10 :: s11 :: s12 :: s13 :: s14 :: s15 :: s16 :: s17 :: s18 :: s19 :: s20 :: s21 :: .fz (.lst xs) :: r) := we_varo rfl rfl
theorem wm22 {s0 s1 s2 s3 s4 s5 s6 s7 s8 s9 s10 s11 s12 s13 s14 s15 s16 s17 s18 s19 s20 s21 : Sl} : WE R m (.mov 22) (s0 :: s1 :: s2 :: s3 :: s4 :: s5 :: s6 :: s7 :: s8 :: s9 :: s10 :: s11 :: s12 :: s13 :: s14 :: s15 :: s16 :: s17 :: s18 :: s19 :: s20 :: s21 :: .fz d :: r) K X = K d false (s0 :: s1 :: s2 :: s3 :: s4 :: s5 :: s6 :: s7 :: s8 :: s9 :: s10 :: s11 :: s12 :: s13 :: s14 :: s15 :: s16 :: s17 :: s18 :: s19 :: s20 :: s21 :: .fz d :: r) := we_movf rfl
theorem wn22 {s0 s1 s2 s3 s4 s5 s6 s7 s8 s9 s10 s11 s12 s13 s14 s15 s16 s17 s18 s19 s20 s21 : Sl} : WE R false (.mov 22) (s0 :: s1 :: s2 :: s3 :: s4 :: s5 :: s6 :: s7 :: s8 :: s9 :: s10 :: s11 :: s12 :: s13 :: s14 :: s15 :: s16 :: s17 :: s18 :: s19 :: s20 :: s21 :: .ow (.lst xs) :: r) K X = K (.lst xs) true (s0 :: s1 :: s2 :: s3 :: s4 :: s5 :: s6 :: s7 :: s8 :: s9 :: s10 :: s11 :: s12 :: s13 :: s14 :: s15 :: s16 :: s17 :: s18 :: s19 :: s20 :: s21 :: .no :: r) := we_mov rfl
theorem se22f {s0 s1 s2 s3 s4 s5 s6 s7 s8 s9 s10 s11 s12 s13 s14 s15 s16 s17 s18 s19 s20 s21 s22 : Sl} {k : Env → Prop} : SE (Prog.rt G call false) 22 d false (s0 :: s1 :: s2 :: s3 :: s4 :: s5 :: s6 :: s7 :: s8 :: s9 :: s10 :: s11 :: s12 :: s13 :: s14 :: s15 :: s16 :: s17 :: s18 :: s19 :: s20 :: s21 :: s22 :: r) k = k (s0 :: s1 :: s2 :: s3 :: s4 :: s5 :: s6 :: s7 :: s8 :: s9 :: s10 :: s11 :: s12 :: s13 :: s14 :: s15 :: s16 :: s17 :: s18 :: s19 :: s20 :: s21 :: .fz d :: r) := by simp [SE, okS, Prog.rt, putV]
theorem se22o {s0 s1 s2 s3 s4 s5 s6 s7 s8 s9 s10 s11 s12 s13 s14 s15 s16 s17 s18 s19 s20 s21 s22 : Sl} {k : Env → Prop} : SE (Prog.rt G call false) 22 d true (s0 :: s1 :: s2 :: s3 :: s4 :: s5 :: s6 :: s7 :: s8 :: s9 :: s10 :: s11 :: s12 :: s13 :: s14 :: s15 :: s16 :: s17 :: s18 :: s19 :: s20 :: s21 :: s22 :: r) k = k (s0 :: s1 :: s2 :: s3 :: s4 :: s5 :: s6 :: s7 :: s8 :: s9 :: s10 :: s11 :: s12 :: s13 :: s14 :: s15 :: s16 :: s17 :: s18 :: s19 :: s20 :: s21 :: .ow d :: r) := by simp [SE, okS, Prog.rt, putV]
theorem sx22 {s0 s1 s2 s3 s4 s5 s6 s7 s8 s9 s10 s11 s12 s13 s14 s15 s16 s17 s18 s19 s20 s21 s22 : Sl} {s : Sl} {k : Env → Prop} : SX 22 s (s0 :: s1 :: s2 :: s3 :: s4 :: s5 :: s6 :: s7 :: s8 :: s9 :: s10 :: s11 :: s12 :: s13 :: s14 :: s15 :: s16 :: s17 :: s18 :: s19 :: s20 :: s21 :: s22 :: r) k = k (s0 :: s1 :: s2 :: s3 :: s4 :: s5 :: s6 :: s7 :: s8 :: s9 :: s10 :: s11 :: s12 :: s13 :: s14 :: s15 :: s16 :: s17 :: s18 :: s19 :: s20 :: s21 :: s :: r) := rfl
theorem pk22f {s0 s1 s2 s3 s4 s5 s6 s7 s8 s9 s10 s11 s12 s13 s14 s15 s16 s17 s18 s19 s20 s21 : Sl} {k : D → Prop} : OV (peek (s0 :: s1 :: s2 :: s3 :: s4 :: s5 :: s6 :: s7 :: s8 :: s9 :: s10 :: s11 :: s12 :: s13 :: s14 :: s15 :: s16 :: s17 :: s18 :: s19 :: s20 :: s21 :: .fz d :: r) (.sl 22)) k = k d := rfl
theorem pk22o {s0 s1 s2 s3 s4 s5 s6 s7 s8 s9 s10 s11 s12 s13 s14 s15 s16 s17 s18 s19 s20 s21 : Sl} {k : D → Prop} : OV (peek (s0 :: s1 :: s2 :: s3 :: s4 :: s5 :: s6 :: s7 :: s8 :: s9 :: s10 :: s11 :: s12 :: s13 :: s14 :: s15 :: s16 :: s17 :: s18 :: s19 :: s20 :: s21 :: .ow (.lst xs) :: r) (.sl 22)) k = k (.lst xs) := rfl
theorem po22 {s0 s1 s2 s3 s4 s5 s6 s7 s8 s9 s10 s11 s12 s13 s14 s15 s16 s17 s18 s19 s20 s21 : Sl} {k : D → Prop} : OV (peekO (s0 :: s1 :: s2 :: s3 :: s4 :: s5 :: s6 :: s7 :: s8 :: s9 :: s10 :: s11 :: s12 :: s13 :: s14 :: s15 :: s16 :: s17 :: s18 :: s19 :: s20 :: s21 :: .ow (.lst xs) :: r) (.sl 22)) k = k (.lst xs) := rfl
theorem wv23 {s0 s1 s2 s3 s4 s5 s6 s7 s8 s9 s10 s11 s12 s13 s14 s15 s16 s17 s18 s19 s20 s21 s22 : Sl} : WE R m (.var 23) (s0 :: s1 :: s2 :: s3 :: s4 :: s5 :: s6 :: s7 :: s8 :: s9 :: s10 :: s11 :: s12 :: s13 :: s14 :: s15 :: s16 :: s17 :: s18 :: s19 :: s20 :: s21 :: s22 :: .fz d :: r) K X = K d false (s0 :: s1 :: s2 :: s3 :: s4 :: s5 :: s6 :: s7 :: s8 :: s9 :: s10 :: s11 :: s12 :: s13 :: s14 :: s15 :: s16 :: s17 :: s18 :: s19 :: s20 :: s21 :: s22 :: .fz d :: r) := we_var rfl
theorem wo23 {s0 s1 s2 s3 s4 s5 s6 s7 s8 s9 s10 s11 s12 s13 s14 s15 s16 s17 s18 s19 s20 s21 s22 : Sl} : WE R false (.var 23) (s0 :: s1 :: s2 :: s3 :: s4 :: s5 :: s6 :: s7 :: s8 :: s9 :: s10 :: s11 :: s12 :: s13 :: s14 :: s15 :: s16 :: s17 :: s18 :: s19 :: s20 :: s21 :: s22 :: .ow (.lst xs) :: r) K X = K (.lst xs) false (s0 :: s1 :: s2 :: s3 :: s4 :: s5 :: s6 :: s7 :: s8 :: s9 :: s10 :: s11 :: s12 :: s13 :: s14 :: s15 :: s16 :: s17 :: s18 :: s19 :: s20 :: s21 :: s22 :: .fz (.lst xs) :: r) := we_varo rfl rfl
theorem wm23 {s0 s1 s2 s3 s4 s5 s6 s7 s8 s9 s10 s11 s12 s13 s14 s15 s16 s17 s18 s19 s20 s21 s22 : Sl} : WE R m (.mov 23) (s0 :: s1 :: s2 :: s3 :: s4 :: s5 :: s6 :: s7 :: s8 :: s9 :: s10 :: s11 :: s12 :: s13 :: s14 :: s15 :: s16 :: s17 :: s18 :: s19 :: s20 :: s21 :: s22 :: .fz d :: r) K X = K d false (s0 :: s1 :: s2 :: s3 :: s4 :: s5 :: s6 :: s7 :: s8 :: s9 :: s10 :: s11 :: s12 :: s13 :: s14 :: s15 :: s16 :: s17 :: s18 :: s19 :: s20 :: s21 :: s22 :: .fz d :: r) := we_movf rfl
theorem wn23 {s0 s1 s2 s3 s4 s5 s6 s7 s8 s9 s10 s11 s12 s13 s14 s15 s16 s17 s18 s19 s20 s21 s22 : Sl} : WE R false (.mov 23) (s0 :: s1 :: s2 :: s3 :: s4 :: s5 :: s6 :: s7 :: s8 :: s9 :: s10 :: s11 :: s12 :: s13 :: s14 :: s15 :: s16 :: s17 :: s18 :: s19 :: s20 :: s21 :: s22 :: .ow (.lst xs) :: r) K X = K (.lst xs) true (s0 :: s1 :: s2 :: s3 :: s4 :: s5 :: s6 :: s7 :: s8 :: s9 :: s10 :: s11 :: s12 :: s13 :: s14 :: s15 :: s16 :: s17 :: s18 :: s19 :: s20 :: s21 :: s22 :: .no :: r) := we_mov rfl
theorem se23f {s0 s1 s2 s3 s4 s5 s6 s7 s8 s9 s10 s11 s12 s13 s14 s15 s16 s17 s18 s19 s20 s21 s22 s23 : Sl} {k : Env → Prop} : SE (Prog.rt G call false) 23 d false (s0 :: s1 :: s2 :: s3 :: s4 :: s5 :: s6 :: s7 :: s8 :: s9 :: s10 :: s11 :: s12 :: s13 :: s14 :: s15 :: s16 :: s17 :: s18 :: s19 :: s20 :: s21 :: s22 :: s23 :: r) k = k (s0 :: s1 :: s2 :: s3 :: s4 :: s5 :: s6 :: s7 :: s8 :: s9 :: s10 :: s11 :: s12 :: s13 :: s14 :: s15 :: s16 :: s17 :: s18 :: s19 :: s20 :: s21 :: s22 :: .fz d :: r) := by simp [SE, okS, Prog.rt, putV]
theorem se23o {s0 s1 s2 s3 s4 s5 s6 s7 s8 s9 s10 s11 s12 s13 s14 s15 s16 s17 s18 s19 s20 s21 s22 s23 : Sl} {k : Env → Prop} : SE (Prog.rt G call false) 23 d true (s0 :: s1 :: s2 :: s3 :: s4 :: s5 :: s6 :: s7 :: s8 :: s9 :: s10 :: s11 :: s12 :: s13 :: s14 :: s15 :: s16 :: s17 :: s18 :: s19 :: s20 :: s21 :: s22 :: s23 :: r) k = k (s0 :: s1 :: s2 :: s3 :: s4 :: s5 :: s6 :: s7 :: s8 :: s9 :: s10 :: s11 :: s12 :: s13 :: s14 :: s15 :: s16 :: s17 :: s18 :: s19 :: s20 :: s21 :: s22 :: .ow d :: r) := by simp [SE, okS, Prog.rt, putV]
theorem sx23 {s0 s1 s2 s3 s4 s5 s6 s7 s8 s9 s10 s11 s12 s13 s14 s15 s16 s17 s18 s19 s20 s21 s22 s23 : Sl} {s : Sl} {k : Env → Prop} : SX 23 s (s0 :: s1 :: s2 :: s3 :: s4 :: s5 :: s6 :: s7 :: s8 :: s9 :: s10 :: s11 :: s12 :: s13 :: s14 :: s15 :: s16 :: s17 :: s18 :: s19 :: s20 :: s21 :: s22 :: s23 :: r) k = k (s0 :: s1 :: s2 :: s3 :: s4 :: s5 :: s6 :: s7 :: s8 :: s9 :: s10 :: s11 :: s12 :: s13 :: s14 :: s15 :: s16 :: s17 :: s18 :: s19 :: s20 :: s21 :: s22 :: s :: r) := rfl
theorem pk23f {s0 s1 s2 s3 s4 s5 s6 s7 s8 s9 s10 s11 s12 s13 s14 s15 s16 s17 s18 s19 s20 s21 s22 : Sl} {k : D → Prop} : OV (peek (s0 :: s1 :: s2 :: s3 :: s4 :: s5 :: s6 :: s7 :: s8 :: s9 :: s10 :: s11 :: s12 :: s13 :: s14 :: s15 :: s16 :: s17 :: s18 :: s19 :: s20 :: s21 :: s22 :: .fz d :: r) (.sl 23)) k = k d := rfl
theorem pk23o {s0 s1 s2 s3 s4 s5 s6 s7 s8 s9 s10 s11 s12 s13 s14 s15 s16 s17 s18 s19 s20 s21 s22 : Sl} {k : D → Prop} : OV (peek (s0 :: s1 :: s2 :: s3 :: s4 :: s5 :: s6 :: s7 :: s8 :: s9 :: s10 :: s11 :: s12 :: s13 :: s14 :: s15 :: s16 :: s17 :: s18 :: s19 :: s20 :: s21 :: s22 :: .ow (.lst xs) :: r) (.sl 23)) k = k (.lst xs) := rfl
theorem po23 {s0 s1 s2 s3 s4 s5 s6 s7 s8 s9 s10 s11 s12 s13 s14 s15 s16 s17 s18 s19 s20 s21 s22 : Sl} {k : D → Prop} : OV (peekO (s0 :: s1 :: s2 :: s3 :: s4 :: s5 :: s6 :: s7 :: s8 :: s9 :: s10 :: s11 :: s12 :: s13 :: s14 :: s15 :: s16 :: s17 :: s18 :: s19 :: s20 :: s21 :: s22 :: .ow (.lst xs) :: r) (.sl 23)) k = k (.lst xs) := rfl
theorem wv24 {s0 s1 s2 s3 s4 s5 s6 s7 s8 s9 s10 s11 s12 s13 s14 s15 s16 s17 s18 s19 s20 s21 s22 s23 : Sl} : WE R m (.var 24) (s0 :: s1 :: s2 :: s3 :: s4 :: s5 :: s6 :: s7 :: s8 :: s9 :: s10 :: s11 :: s12 :: s13 :: s14 :: s15 :: s16 :: s17 :: s18 :: s19 :: s20 :: s21 :: s22 :: s23 :: .fz d :: r) K X = K d false (s0 :: s1 :: s2 :: s3 :: s4 :: s5 :: s6 :: s7 :: s8 :: s9 :: s10 :: s11 :: s12 :: s13 :: s14 :: s15 :: s16 :: s17 :: s18 :: s19 :: s20 :: s21 :: s22 :: s23 :: .fz d :: r) := we_var rfl
theorem wo24 {s0 s1 s2 s3 s4 s5 s6 s7 s8 s9 s10 s11 s12 s13 s14 s15 s16 s17 s18 s19 s20 s21 s22 s23 : Sl} : WE R false (.var 24) (s0 :: s1 :: s2 :: s3 :: s4 :: s5 :: s6 :: s7 :: s8 :: s9 :: s10 :: s11 :: s12 :: s13 :: s14 :: s15 :: s16 :: s17 :: s18 :: s19 :: s20 :: s21 :: s22 :: s23 :: .ow (.lst xs) :: r) K X = K (.lst xs) false (s0 :: s1 :: s2 :: s3 :: s4 :: s5 :: s6 :: s7 :: s8 :: s9 :: s10 :: s11 :: s12 :: s13 :: s14 :: s15 :: s16 :: s17 :: s18 :: s19 :: s20 :: s21 :: s22 :: s23 :: .fz (.lst xs) :: r) := we_varo rfl rfl
theorem wm24 {s0 s1 s2 s3 s4 s5 s6 s7 s8 s9 s10 s11 s12 s13 s14 s15 s16 s17 s18 s19 s20 s21 s22 s23 : Sl} : WE R m (.mov 24) (s0 :: s1 :: s2 :: s3 :: s4 :: s5 :: s6 :: s7 :: s8 :: s9 :: s10 :: s11 :: s12 :: s13 :: s14 :: s15 :: s16 :: s17 :: s18 :: s19 :: s20 :: s21 :: s22 :: s23 :: .fz d :: r) K X = K d false (s0 :: s1 :: s2 :: s3 :: s4 :: s5 :: s6 :: s7 :: s8 :: s9 :: s10 :: s11 :: s12 :: s13 :: s14 :: s15 :: s16 :: s17 :: s18 :: s19 :: s20 :: s21 :: s22 :: s23 :: .fz d :: r) := we_movf rfl
theorem wn24 {s0 s1 s2 s3 s4 s5 s6 s7 s8 s9 s10 s11 s12 s13 s14 s15 s16 s17 s18 s19 s20 s21 s22 s23 : Sl} : WE R false (.mov 24) (s0 :: s1 :: s2 :: s3 :: s4 :: s5 :: s6 :: s7 :: s8 :: s9 :: s10 :: s11 :: s12 :: s13 :: s14 :: s15 :: s16 :: s17 :: s18 :: s19 :: s20 :: s21 :: s22 :: s23 :: .ow (.lst xs) :: r) K X = K (.lst xs) true (s0 :: s1 :: s2 :: s3 :: s4 :: s5 :: s6 :: s7 :: s8 :: s9 :: s10 :: s11 :: s12 :: s13 :: s14 :: s15 :: s16 :: s17 :: s18 :: s19 :: s20 :: s21 :: s22 :: s23 :: .no :: r) := we_mov rfl
theorem se24f {s0 s1 s2 s3 s4 s5 s6 s7 s8 s9 s10 s11 s12 s13 s14 s15 s16 s17 s18 s19 s20 s21 s22 s23 s24 : Sl} {k : Env → Prop} : SE (Prog.rt G call false) 24 d false (s0 :: s1 :: s2 :: s3 :: s4 :: s5 :: s6 :: s7 :: s8 :: s9 :: s10 :: s11 :: s12 :: s13 :: s14 :: s15 :: s16 :: s17 :: s18 :: s19 :: s20 :: s21 :: s22 :: s23 :: s24 :: r) k = k (s0 :: s1 :: s2 :: s3 :: s4 :: s5 :: s6 :: s7 :: s8 :: s9 :: s10 :: s11 :: s12 :: s13 :: s14 :: s15 :: s16 :: s17 :: s18 :: s19 :: s20 :: s21 :: s22 :: s23 :: .fz d :: r) := by simp [SE, okS, Prog.rt, putV]
theorem se24o {s0 s1 s2 s3 s4 s5 s6 s7 s8 s9 s10 s11 s12 s13 s14 s15 s16 s17 s18 s19 s20 s21 s22 s23 s24 : Sl} {k : Env → Prop} : SE (Prog.rt G call false) 24 d true (s0 :: s1 :: s2 :: s3 :: s4 :: s5 :: s6 :: s7 :: s8 :: s9 :: s10 :: s11 :: s12 :: s13 :: s14 :: s15 :: s16 :: s17 :: s18 :: s19 :: s20 :: s21 :: s22 :: s23 :: s24 :: r) k = k (s0 :: s1 :: s2 :: s3 :: s4 :: s5 :: s6 :: s7 :: s8 :: s9 :: s10 :: s11 :: s12 :: s13 :: s14 :: s15 :: s16 :: s17 :: s18 :: s19 :: s20 :: s21 :: s22 :: s23 :: .ow d :: r) := by simp [SE, okS, Prog.rt, putV]
theorem sx24 {s0 s1 s2 s3 s4 s5 s6 s7 s8 s9 s10 s11 s12 s13 s14 s15 s16 s17 s18 s19 s20 s21 s22 s23 s24 : Sl} {s : Sl} {k : Env → Prop} : SX 24 s (s0 :: s1 :: s2 :: s3 :: s4 :: s5 :: s6 :: s7 :: s8 :: s9 :: s10 :: s11 :: s12 :: s13 :: s14 :: s15 :: s16 :: s17 :: s18 :: s19 :: s20 :: s21 :: s22 :: s23 :: s24 :: r) k = k (s0 :: s1 :: s2 :: s3 :: s4 :: s5 :: s6 :: s7 :: s8 :: s9 :: s10 :: s11 :: s12 :: s13 :: s14 :: s15 :: s16 :: s17 :: s18 :: s19 :: s20 :: s21 :: s22 :: s23 :: s :: r) := rfl
theorem pk24f {s0 s1 s2 s3 s4 s5 s6 s7 s8 s9 s10 s11 s12 s13 s14 s15 s16 s17 s18 s19 s20 s21 s22 s23 : Sl} {k : D → Prop} : OV (peek (s0 :: s1 :: s2 :: s3 :: s4 :: s5 :: s6 :: s7 :: s8 :: s9 :: s10 :: s11 :: s12 :: s13 :: s14 :: s15 :: s16 :: s17 :: s18 :: s19 :: s20 :: s21 :: s22 :: s23 :: .fz d :: r) (.sl 24)) k = k d := rfl
theorem pk24o {s0 s1 s2 s3 s4 s5 s6 s7 s8 s9 s10 s11 s12 s13 s14 s15 s16 s17 s18 s19 s20 s21 s22 s23 : Sl} {k : D → Prop} : OV (peek (s0 :: s1 :: s2 :: s3 :: s4 :: s5 :: s6 :: s7 :: s8 :: s9 :: s10 :: s11 :: s12 :: s13 :: s14 :: s15 :: s16 :: s17 :: s18 :: s19 :: s20 :: s21 :: s22 :: s23 :: .ow (.lst xs) :: r) (.sl 24)) k = k (.lst xs) := rfl
theorem po24 {s0 s1 s2 s3 s4 s5 s6 s7 s8 s9 s10 s11 s12 s13 s14 s15 s16 s17 s18 s19 s20 s21 s22 s23 : Sl} {k : D → Prop} : OV (peekO (s0 :: s1 :: s2 :: s3 :: s4 :: s5 :: s6 :: s7 :: s8 :: s9 :: s10 :: s11 :: s12 :: s13 :: s14 :: s15 :: s16 :: s17 :: s18 :: s19 :: s20 :: s21 :: s22 :: s23 :: .ow (.lst xs) :: r) (.sl 24)) k = k (.lst xs) := rfl
theorem wv25 {s0 s1 s2 s3 s4 s5 s6 s7 s8 s9 s10 s11 s12 s13 s14 s15 s16 s17 s18 s19 s20 s21 s22 s23 s24 : Sl} : WE R m (.var 25) (s0 :: s1 :: s2 :: s3 :: s4 :: s5 :: s6 :: s7 :: s8 :: s9 :: s10 :: s11 :: s12 :: s13 :: s14 :: s15 :: s16 :: s17 :: s18 :: s19 :: s20 :: s21 :: s22 :: s23 :: s24 :: .fz d :: r) K X = K d false (s0 :: s1 :: s2 :: s3 :: s4 :: s5 :: s6 :: s7 :: s8 :: s9 :: s10 :: s11 :: s12 :: s13 :: s14 :: s15 :: s16 :: s17 :: s18 :: s19 :: s20 :: s21 :: s22 :: s23 :: s24 :: .fz d :: r) := we_var rfl
theorem wo25 {s0 s1 s2 s3 s4 s5 s6 s7 s8 s9 s10 s11 s12 s13 s14 s15 s16 s17 s18 s19 s20 s21 s22 s23 s24 : Sl} : WE R false (.var 25) (s0 :: s1 :: s2 :: s3 :: s4 :: s5 :: s6 :: s7 :: s8 :: s9 :: s10 :: s11 :: s12 :: s13 :: s14 :: s15 :: s16 :: s17 :: s18 :: s19 :: s20 :: s21 :: s22 :: s23 :: s24 :: .ow (.lst xs) :: r) K X = K (.lst xs) false (s0 :: s1 :: s2 :: s3 :: s4 :: s5 :: s6 :: s7 :: s8 :: s9 :: s10 :: s11 :: s12 :: s13 :: s14 :: s15 :: s16 :: s17 :: s18 :: s19 :: s20 :: s21 :: s22 :: s23 :: s24 :: .fz (.lst xs) :: r) := we_varo rfl rfl
theorem wm25 {s0 s1 s2 s3 s4 s5 s6 s7 s8 s9 s10 s11 s12 s13 s14 s15 s16 s17 s18 s19 s20 s21 s22 s23 s24 : Sl} : WE R m (.mov 25) (s0 :: s1 :: s2 :: s3 :: s4 :: s5 :: s6 :: s7 :: s8 :: s9 :: s10 :: s11 :: s12 :: s13 :: s14 :: s15 :: s16 :: s17 :: s18 :: s19 :: s20 :: s21 :: s22 :: s23 :: s24 :: .fz d :: r) K X = K d false (s0 :: s1 :: s2 :: s3 :: s4 :: s5 :: s6 :: s7 :: s8 :: s9 :: s10 :: s11 :: s12 :: s13 :: s14 :: s15 :: s16 :: s17 :: s18 :: s19 :: s20 :: s21 :: s22 :: s23 :: s24 :: .fz d :: r) := we_movf rfl
theorem wn25 {s0 s1 s2 s3 s4 s5 s6 s7 s8 s9 s10 s11 s12 s13 s14 s15 s16 s17 s18 s19 s20 s21 s22 s23 s24 : Sl} : WE R false (.mov 25) (s0 :: s1 :: s2 :: s3 :: s4 :: s5 :: s6 :: s7 :: s8 :: s9 :: s10 :: s11 :: s12 :: s13 :: s14 :: s15 :: s16 :: s17 :: s18 :: s19 :: s20 :: s21 :: s22 :: s23 :: s24 :: .ow (.lst xs) :: r) K X = K (.lst xs) true (s0 :: s1 :: s2 :: s3 :: s4 :: s5 :: s6 :: s7 :: s8 :: s9 :: s10 :: s11 :: s12 :: s13 :: s14 :: s15 :: s16 :: s17 :: s18 :: s19 :: s20 :: s21 :: s22 :: s23 :: s24 :: .no :: r) := we_mov rfl
theorem se25f {s0 s1 s2 s3 s4 s5 s6 s7 s8 s9 s10 s11 s12 s13 s14 s15 s16 s17 s18 s19 s20 s21 s22 s23 s24 s25 : Sl} {k : Env → Prop} : SE (Prog.rt G call false) 25 d false (s0 :: s1 :: s2 :: s3 :: s4 :: s5 :: s6 :: s7 :: s8 :: s9 :: s10 :: s11 :: s12 :: s13 :: s14 :: s15 :: s16 :: s17 :: s18 :: s19 :: s20 :: s21 :: s22 :: s23 :: s24 :: s25 :: r) k = k (s0 :: s1 :: s2 :: s3 :: s4 :: s5 :: s6 :: s7 :: s8 :: s9 :: s10 :: s11 :: s12 :: s13 :: s14 :: s15 :: s16 :: s17 :: s18 :: s19 :: s20 :: s21 :: s22 :: s23 :: s24 :: .fz d :: r) := by simp [SE, okS, Prog.rt, putV]
theorem se25o {s0 s1 s2 s3 s4 s5 s6 s7 s8 s9 s10 s11 s12 s13 s14 s15 s16 s17 s18 s19 s20 s21 s22 s23 s24 s25 : Sl} {k : Env → Prop} : SE (Prog.rt G call false) 25 d true (s0 :: s1 :: s2 :: s3 :: s4 :: s5 :: s6 :: s7 :: s8 :: s9 :: s10 :: s11 :: s12 :: s13 :: s14 :: s15 :: s16 :: s17 :: s18 :: s19 :: s20 :: s21 :: s22 :: s23 :: s24 :: s25 :: r) k = k (s0 :: s1 :: s2 :: s3 :: s4 :: s5 :: s6 :: s7 :: s8 :: s9 :: s10 :: s11 :: s12 :: s13 :: s14 :: s15 :: s16 :: s17 :: s18 :: s19 :: s20 :: s21 :: s22 :: s23 :: s24 :: .ow d :: r) := by simp [SE, okS, Prog.rt, putV]
theorem sx25 {s0 s1 s2 s3 s4 s5 s6 s7 s8 s9 s10 s11 s12 s13 s14 s15 s16 s17 s18 s19 s20 s21 s22 s23 s24 s25 : Sl} {s : Sl} {k : Env → Prop} : SX 25 s (s0 :: s1 :: s2 :: s3 :: s4 :: s5 :: s6 :: s7 :: s8 :: s9 :: s10 :: s11 :: s12 :: s13 :: s14 :: s15 :: s16 :: s17 :: s18 :: s19 :: s20 :: s21 :: s22 :: s23 :: s24 :: s25 :: r) k = k (s0 :: s1 :: s2 :: s3 :: s4 :: s5 :: s6 :: s7 :: s8 :: s9 :: s10 :: s11 :: s12 :: s13 :: s14 :: s15 :: s16 :: s17 :: s18 :: s19 :: s20 :: s21 :: s22 :: s23 :: s24 :: s :: r) := rfl
theorem pk25f {s0 s1 s2 s3 s4 s5 s6 s7 s8 s9 s10 s11 s12 s13 s14 s15 s16 s17 s18 s19 s20 s21 s22 s23 s24 : Sl} {k : D → Prop} : OV (peek (s0 :: s1 :: s2 :: s3 :: s4 :: s5 :: s6 :: s7 :: s8 :: s9 :: s10 :: s11 :: s12 :: s13 :: s14 :: s15 :: s16 :: s17 :: s18 :: s19 :: s20 :: s21 :: s22 :: s23 :: s24 :: .fz d :: r) (.sl 25)) k = k d := rfl
theorem pk25o {s0 s1 s2 s3 s4 s5 s6 s7 s8 s9 s10 s11 s12 s13 s14 s15 s16 s17 s18 s19 s20 s21 s22 s23 s24 : Sl} {k : D → Prop} : OV (peek (s0 :: s1 :: s2 :: s3 :: s4 :: s5 :: s6 :: s7 :: s8 :: s9 :: s10 :: s11 :: s12 :: s13 :: s14 :: s15 :: s16 :: s17 :: s18 :: s19 :: s20 :: s21 :: s22 :: s23 :: s24 :: .ow (.lst xs) :: r) (.sl 25)) k = k (.lst xs) := rfl
theorem po25 {s0 s1 s2 s3 s4 s5 s6 s7 s8 s9 s10 s11 s12 s13 s14 s15 s16 s17 s18 s19 s20 s21 s22 s23 s24 : Sl} {k : D → Prop} : OV (peekO (s0 :: s1 :: s2 :: s3 :: s4 :: s5 :: s6 :: s7 :: s8 :: s9 :: s10 :: s11 :: s12 :: s13 :: s14 :: s15 :: s16 :: s17 :: s18 :: s19 :: s20 :: s21 :: s22 :: s23 :: s24 :: .ow (.lst xs) :: r) (.sl 25)) k = k (.lst xs) := rfl
theorem ses_n {k : Env → Prop} : SES (Prog.rt G call false) [] [] ρ k = k ρ := by simp [SES, setTs, okS, Prog.rt]
theorem ses_c {i : Nat} {is : List Nat} {ds : List D} {k : Env → Prop} : SES (Prog.rt G call false) (i :: is) (d :: ds) ρ k = SX i (.fz d) ρ fun ρ => SES (Prog.rt G call false) is ds ρ k := by
  unfold SES SX
  rw [show setTs ρ (i :: is) (d :: ds) = setTs (ρ.set i (.fz d)) is ds from rfl]
  dsimp only
  cases setTs (ρ.set i (.fz d)) is ds <;> simp [okS, Prog.rt]
theorem sep_n {k : Env → Prop} : SEP (Prog.rt G call false) [] [] ρ k = k ρ := by simp [SEP, setPar, okS, Prog.rt]
theorem sep_c {i : Nat} {is : List Nat} {ds : List D} {k : Env → Prop} : SEP (Prog.rt G call false) (i :: is) (d :: ds) ρ k = SEP (Prog.rt G call false) is ds ρ fun ρ => SX i (.fz d) ρ k := by
  unfold SEP SX
  rw [show setPar ρ (i :: is) (d :: ds) = (setPar ρ is ds).map fun ρ => ρ.set i (.fz d) from rfl]
  dsimp only
  cases setPar ρ is ds <;> simp [okS, Prog.rt]
theorem ws_appn {i : Nat} {e : Px} : WS R (.app (.sl i) e :: ss) ρ Q = (OV (peekO ρ (.sl i)) fun l => OV (D.lst? l) fun _ => WE R false e ρ (fun x o ρ => nf x o ∧ OV (peekO ρ (.sl i)) fun l => OV (D.lst? l) fun xs => xs.length < lineD ∧ SX i (.ow (.lst (xs ++ [x]))) ρ fun ρ => WS R ss ρ Q) (fun c ρ => Q (.exn c ρ))) := ws_appl
theorem ws_extn {i : Nat} {e : Px} : WS R (.ext (.sl i) e :: ss) ρ Q = (OV (peekO ρ (.sl i)) fun l => OV (D.lst? l) fun _ => WE R false e ρ (fun x o ρ => nf x o ∧ OV (peekO ρ (.sl i)) fun l => OV (D.lst? l) fun xs => OV (D.lst? x) fun ys => xs.length + ys.length ≤ lineD ∧ SX i (.ow (.lst (xs ++ ys))) ρ fun ρ => WS R ss ρ Q) (fun c ρ => Q (.exn c ρ))) := ws_extl
theorem tk_exnn {c n k c' : Nat} (h : G.sub c' c = some true) : TK (Prog.rt G call false) c n k ss Q (.exn c' ρ) = SX k (.fz (.exc c')) ρ fun ρ => SX n .no ρ fun ρ => WS (Prog.rt G call false) ss ρ Q := tk_exn h rfl
theorem b_add {k : D × Bool → Prop} {i j : Int} : OV (binv .add (.int i) (.int j)) k = k (.int (i + j), false) := rfl
theorem b_addl {k : D × Bool → Prop} : OV (binv .add (.lst xs) (.lst ys)) k = (xs.length + ys.length ≤ lineD ∧ k (.lst (xs ++ ys), true)) := ov_if
theorem b_addt {k : D × Bool → Prop} : OV (binv .add (.tup xs) (.tup ys)) k = (xs.length + ys.length ≤ lineD ∧ k (.tup (xs ++ ys), false)) := ov_if
theorem b_sub {k : D × Bool → Prop} {i j : Int} : OV (binv .sub (.int i) (.int j)) k = k (.int (i - j), false) := rfl
theorem b_mul {k : D × Bool → Prop} {i j : Int} : OV (binv .mul (.int i) (.int j)) k = (i.natAbs.log2 + j.natAbs.log2 < 100000000 ∧ k (.int (i * j), false)) := ov_if
theorem b_fdiv {k : D × Bool → Prop} {i j : Int} : OV (binv .fdiv (.int i) (.int j)) k = ((j ≠ 0 ∧ j.natAbs.log2 < 9000) ∧ k (.int (i.fdiv j), false)) := by
  show OV (if (j != 0 && decide (j.natAbs.log2 < 9000)) = true then _ else _) k = _
  rw [ov_if]
  simp
theorem b_mod {k : D × Bool → Prop} {i j : Int} : OV (binv .mod (.int i) (.int j)) k = (j ≠ 0 ∧ k (.int (i.fmod j), false)) := by
  show OV (if (j != 0) = true then _ else _) k = _
  rw [ov_if]
  simp
theorem b_pow {k : D × Bool → Prop} {i j : Int} : OV (binv .pow (.int i) (.int j)) k = ((0 ≤ j ∧ j ≤ 1000 ∧ i.natAbs < 18446744073709551616) ∧ k (.int (i ^ j.toNat), false)) := by
  show OV (if (decide (0 ≤ j) && decide (j ≤ 1000) && decide (i.natAbs < 18446744073709551616)) = true then _ else _) k = _
  rw [ov_if]
  simp [and_assoc]
theorem c_lt {k : Bool → Prop} {i j : Int} : OV (cmpv .lt (.int i) (.int j)) k = k (decide (i < j)) := rfl
theorem c_le {k : Bool → Prop} {i j : Int} : OV (cmpv .le (.int i) (.int j)) k = k (decide (i ≤ j)) := rfl
theorem c_gt {k : Bool → Prop} {i j : Int} : OV (cmpv .gt (.int i) (.int j)) k = k (decide (j < i)) := rfl
theorem c_ge {k : Bool → Prop} {i j : Int} : OV (cmpv .ge (.int i) (.int j)) k = k (decide (j ≤ i)) := rfl
theorem c_eq {k : Bool → Prop} {i j : Int} : OV (cmpv .eq (.int i) (.int j)) k = k (decide (i = j)) := by
  show k (D.eqv (.int i) (.int j)) = _
  unfold D.eqv
  congr 1
theorem c_ne {k : Bool → Prop} {i j : Int} : OV (cmpv .ne (.int i) (.int j)) k = k (!decide (i = j)) := by
  show k (!D.eqv (.int i) (.int j)) = _
  unfold D.eqv
  congr 1
theorem is_n {k : Bool → Prop}  : OV (cmpv .is_ .non .non) k = k true := rfl
theorem isn_n {k : Bool → Prop}  : OV (cmpv .isnot .non .non) k = k false := rfl
theorem is_b {k : Bool → Prop} {b : Bool} : OV (cmpv .is_ (.bl b) .non) k = k false := rfl
theorem isn_b {k : Bool → Prop} {b : Bool} : OV (cmpv .isnot (.bl b) .non) k = k true := rfl
theorem is_i {k : Bool → Prop} {i : Int} : OV (cmpv .is_ (.int i) .non) k = k false := rfl
theorem isn_i {k : Bool → Prop} {i : Int} : OV (cmpv .isnot (.int i) .non) k = k true := rfl
theorem is_s {k : Bool → Prop} {s : PySem.Str} : OV (cmpv .is_ (.str s) .non) k = k false := rfl
theorem isn_s {k : Bool → Prop} {s : PySem.Str} : OV (cmpv .isnot (.str s) .non) k = k true := rfl
theorem is_t {k : Bool → Prop}  : OV (cmpv .is_ (.tup xs) .non) k = k false := rfl
theorem isn_t {k : Bool → Prop}  : OV (cmpv .isnot (.tup xs) .non) k = k true := rfl
theorem is_l {k : Bool → Prop}  : OV (cmpv .is_ (.lst xs) .non) k = k false := rfl
theorem isn_l {k : Bool → Prop}  : OV (cmpv .isnot (.lst xs) .non) k = k true := rfl
theorem is_x {k : Bool → Prop} {n : Nat} : OV (cmpv .is_ (.exc n) .non) k = k false := rfl
theorem isn_x {k : Bool → Prop} {n : Nat} : OV (cmpv .isnot (.exc n) .non) k = k true := rfl
theorem isn_bb {k : Bool → Prop} {a b : Bool} : OV (cmpv .isnot (.bl a) (.bl b)) k = k (!(a == b)) := rfl
theorem b_mult {k : D × Bool → Prop} {j : Int} : OV (binv .mul (.tup xs) (.int j)) k = ((!xs.isEmpty && (decide (2 ≤ j) && (decide (j ≤ 1000) && decide (xs.length ≤ 1000)))) = true ∧ k (.tup ((List.replicate j.toNat xs).flatten), false)) := ov_if
theorem is_bb {k : Bool → Prop} {a b : Bool} : OV (cmpv .is_ (.bl a) (.bl b)) k = k (a == b) := rfl
theorem ix_tup0 {k : D → Prop} {d0 : D} {ds : List D} : OV (ixv (.tup (d0 :: ds)) (.int 0)) k = k d0 := by
  show OV (ixL (d0 :: ds) 0) k = _
  have h : ixN (d0 :: ds).length 0 = some 0 := by
    unfold ixN
    rw [if_pos (by decide), if_pos (by simp only [List.length_cons]; omega)]
    rfl
  unfold ixL
  rw [h]
  rfl
theorem ix_lst0 {k : D → Prop} {d0 : D} {ds : List D} : OV (ixv (.lst (d0 :: ds)) (.int 0)) k = k d0 := by
  show OV (ixL (d0 :: ds) 0) k = _
  have h : ixN (d0 :: ds).length 0 = some 0 := by
    unfold ixN
    rw [if_pos (by decide), if_pos (by simp only [List.length_cons]; omega)]
    rfl
  unfold ixL
  rw [h]
  rfl
theorem ix_tup1 {k : D → Prop} {d0 d1 : D} {ds : List D} : OV (ixv (.tup (d0 :: d1 :: ds)) (.int 1)) k = k d1 := by
  show OV (ixL (d0 :: d1 :: ds) 1) k = _
  have h : ixN (d0 :: d1 :: ds).length 1 = some 1 := by
    unfold ixN
    rw [if_pos (by decide), if_pos (by simp only [List.length_cons]; omega)]
    rfl
  unfold ixL
  rw [h]
  rfl
theorem ix_lst1 {k : D → Prop} {d0 d1 : D} {ds : List D} : OV (ixv (.lst (d0 :: d1 :: ds)) (.int 1)) k = k d1 := by
  show OV (ixL (d0 :: d1 :: ds) 1) k = _
  have h : ixN (d0 :: d1 :: ds).length 1 = some 1 := by
    unfold ixN
    rw [if_pos (by decide), if_pos (by simp only [List.length_cons]; omega)]
    rfl
  unfold ixL
  rw [h]
  rfl
theorem ix_tup2 {k : D → Prop} {d0 d1 d2 : D} {ds : List D} : OV (ixv (.tup (d0 :: d1 :: d2 :: ds)) (.int 2)) k = k d2 := by
  show OV (ixL (d0 :: d1 :: d2 :: ds) 2) k = _
  have h : ixN (d0 :: d1 :: d2 :: ds).length 2 = some 2 := by
    unfold ixN
    rw [if_pos (by decide), if_pos (by simp only [List.length_cons]; omega)]
    rfl
  unfold ixL
  rw [h]
  rfl
theorem ix_lst2 {k : D → Prop} {d0 d1 d2 : D} {ds : List D} : OV (ixv (.lst (d0 :: d1 :: d2 :: ds)) (.int 2)) k = k d2 := by
  show OV (ixL (d0 :: d1 :: d2 :: ds) 2) k = _
  have h : ixN (d0 :: d1 :: d2 :: ds).length 2 = some 2 := by
    unfold ixN
    rw [if_pos (by decide), if_pos (by simp only [List.length_cons]; omega)]
    rfl
  unfold ixL
  rw [h]
  rfl
theorem ix_tup3 {k : D → Prop} {d0 d1 d2 d3 : D} {ds : List D} : OV (ixv (.tup (d0 :: d1 :: d2 :: d3 :: ds)) (.int 3)) k = k d3 := by
  show OV (ixL (d0 :: d1 :: d2 :: d3 :: ds) 3) k = _
  have h : ixN (d0 :: d1 :: d2 :: d3 :: ds).length 3 = some 3 := by
    unfold ixN
    rw [if_pos (by decide), if_pos (by simp only [List.length_cons]; omega)]
    rfl
  unfold ixL
  rw [h]
  rfl
theorem ix_lst3 {k : D → Prop} {d0 d1 d2 d3 : D} {ds : List D} : OV (ixv (.lst (d0 :: d1 :: d2 :: d3 :: ds)) (.int 3)) k = k d3 := by
  show OV (ixL (d0 :: d1 :: d2 :: d3 :: ds) 3) k = _
  have h : ixN (d0 :: d1 :: d2 :: d3 :: ds).length 3 = some 3 := by
    unfold ixN
    rw [if_pos (by decide), if_pos (by simp only [List.length_cons]; omega)]
    rfl
  unfold ixL
  rw [h]
  rfl
theorem ix_tup4 {k : D → Prop} {d0 d1 d2 d3 d4 : D} {ds : List D} : OV (ixv (.tup (d0 :: d1 :: d2 :: d3 :: d4 :: ds)) (.int 4)) k = k d4 := by
  show OV (ixL (d0 :: d1 :: d2 :: d3 :: d4 :: ds) 4) k = _
  have h : ixN (d0 :: d1 :: d2 :: d3 :: d4 :: ds).length 4 = some 4 := by
    unfold ixN
    rw [if_pos (by decide), if_pos (by simp only [List.length_cons]; omega)]
    rfl
  unfold ixL
  rw [h]
  rfl
theorem ix_lst4 {k : D → Prop} {d0 d1 d2 d3 d4 : D} {ds : List D} : OV (ixv (.lst (d0 :: d1 :: d2 :: d3 :: d4 :: ds)) (.int 4)) k = k d4 := by
  show OV (ixL (d0 :: d1 :: d2 :: d3 :: d4 :: ds) 4) k = _
  have h : ixN (d0 :: d1 :: d2 :: d3 :: d4 :: ds).length 4 = some 4 := by
    unfold ixN
    rw [if_pos (by decide), if_pos (by simp only [List.length_cons]; omega)]
    rfl
  unfold ixL
  rw [h]
  rfl
theorem ix_tup5 {k : D → Prop} {d0 d1 d2 d3 d4 d5 : D} {ds : List D} : OV (ixv (.tup (d0 :: d1 :: d2 :: d3 :: d4 :: d5 :: ds)) (.int 5)) k = k d5 := by
  show OV (ixL (d0 :: d1 :: d2 :: d3 :: d4 :: d5 :: ds) 5) k = _
  have h : ixN (d0 :: d1 :: d2 :: d3 :: d4 :: d5 :: ds).length 5 = some 5 := by
    unfold ixN
    rw [if_pos (by decide), if_pos (by simp only [List.length_cons]; omega)]
    rfl
  unfold ixL
  rw [h]
  rfl
theorem ix_lst5 {k : D → Prop} {d0 d1 d2 d3 d4 d5 : D} {ds : List D} : OV (ixv (.lst (d0 :: d1 :: d2 :: d3 :: d4 :: d5 :: ds)) (.int 5)) k = k d5 := by
  show OV (ixL (d0 :: d1 :: d2 :: d3 :: d4 :: d5 :: ds) 5) k = _
  have h : ixN (d0 :: d1 :: d2 :: d3 :: d4 :: d5 :: ds).length 5 = some 5 := by
    unfold ixN
    rw [if_pos (by decide), if_pos (by simp only [List.length_cons]; omega)]
    rfl
  unfold ixL
  rw [h]
  rfl
theorem ix_tup6 {k : D → Prop} {d0 d1 d2 d3 d4 d5 d6 : D} {ds : List D} : OV (ixv (.tup (d0 :: d1 :: d2 :: d3 :: d4 :: d5 :: d6 :: ds)) (.int 6)) k = k d6 := by
  show OV (ixL (d0 :: d1 :: d2 :: d3 :: d4 :: d5 :: d6 :: ds) 6) k = _
  have h : ixN (d0 :: d1 :: d2 :: d3 :: d4 :: d5 :: d6 :: ds).length 6 = some 6 := by
    unfold ixN
    rw [if_pos (by decide), if_pos (by simp only [List.length_cons]; omega)]
    rfl
  unfold ixL
  rw [h]
  rfl
theorem ix_lst6 {k : D → Prop} {d0 d1 d2 d3 d4 d5 d6 : D} {ds : List D} : OV (ixv (.lst (d0 :: d1 :: d2 :: d3 :: d4 :: d5 :: d6 :: ds)) (.int 6)) k = k d6 := by
  show OV (ixL (d0 :: d1 :: d2 :: d3 :: d4 :: d5 :: d6 :: ds) 6) k = _
  have h : ixN (d0 :: d1 :: d2 :: d3 :: d4 :: d5 :: d6 :: ds).length 6 = some 6 := by
    unfold ixN
    rw [if_pos (by decide), if_pos (by simp only [List.length_cons]; omega)]
    rfl
  unfold ixL
  rw [h]
  rfl
theorem ix_tup7 {k : D → Prop} {d0 d1 d2 d3 d4 d5 d6 d7 : D} {ds : List D} : OV (ixv (.tup (d0 :: d1 :: d2 :: d3 :: d4 :: d5 :: d6 :: d7 :: ds)) (.int 7)) k = k d7 := by
  show OV (ixL (d0 :: d1 :: d2 :: d3 :: d4 :: d5 :: d6 :: d7 :: ds) 7) k = _
  have h : ixN (d0 :: d1 :: d2 :: d3 :: d4 :: d5 :: d6 :: d7 :: ds).length 7 = some 7 := by
    unfold ixN
    rw [if_pos (by decide), if_pos (by simp only [List.length_cons]; omega)]
    rfl
  unfold ixL
  rw [h]
  rfl
theorem ix_lst7 {k : D → Prop} {d0 d1 d2 d3 d4 d5 d6 d7 : D} {ds : List D} : OV (ixv (.lst (d0 :: d1 :: d2 :: d3 :: d4 :: d5 :: d6 :: d7 :: ds)) (.int 7)) k = k d7 := by
  show OV (ixL (d0 :: d1 :: d2 :: d3 :: d4 :: d5 :: d6 :: d7 :: ds) 7) k = _
  have h : ixN (d0 :: d1 :: d2 :: d3 :: d4 :: d5 :: d6 :: d7 :: ds).length 7 = some 7 := by
    unfold ixN
    rw [if_pos (by decide), if_pos (by simp only [List.length_cons]; omega)]
    rfl
  unfold ixL
  rw [h]
  rfl
theorem ix_tup8 {k : D → Prop} {d0 d1 d2 d3 d4 d5 d6 d7 d8 : D} {ds : List D} : OV (ixv (.tup (d0 :: d1 :: d2 :: d3 :: d4 :: d5 :: d6 :: d7 :: d8 :: ds)) (.int 8)) k = k d8 := by
  show OV (ixL (d0 :: d1 :: d2 :: d3 :: d4 :: d5 :: d6 :: d7 :: d8 :: ds) 8) k = _
  have h : ixN (d0 :: d1 :: d2 :: d3 :: d4 :: d5 :: d6 :: d7 :: d8 :: ds).length 8 = some 8 := by
    unfold ixN
    rw [if_pos (by decide), if_pos (by simp only [List.length_cons]; omega)]
    rfl
  unfold ixL
  rw [h]
  rfl
theorem ix_lst8 {k : D → Prop} {d0 d1 d2 d3 d4 d5 d6 d7 d8 : D} {ds : List D} : OV (ixv (.lst (d0 :: d1 :: d2 :: d3 :: d4 :: d5 :: d6 :: d7 :: d8 :: ds)) (.int 8)) k = k d8 := by
  show OV (ixL (d0 :: d1 :: d2 :: d3 :: d4 :: d5 :: d6 :: d7 :: d8 :: ds) 8) k = _
  have h : ixN (d0 :: d1 :: d2 :: d3 :: d4 :: d5 :: d6 :: d7 :: d8 :: ds).length 8 = some 8 := by
    unfold ixN
    rw [if_pos (by decide), if_pos (by simp only [List.length_cons]; omega)]
    rfl
  unfold ixL
  rw [h]
  rfl
theorem ix_tup9 {k : D → Prop} {d0 d1 d2 d3 d4 d5 d6 d7 d8 d9 : D} {ds : List D} : OV (ixv (.tup (d0 :: d1 :: d2 :: d3 :: d4 :: d5 :: d6 :: d7 :: d8 :: d9 :: ds)) (.int 9)) k = k d9 := by
  show OV (ixL (d0 :: d1 :: d2 :: d3 :: d4 :: d5 :: d6 :: d7 :: d8 :: d9 :: ds) 9) k = _
  have h : ixN (d0 :: d1 :: d2 :: d3 :: d4 :: d5 :: d6 :: d7 :: d8 :: d9 :: ds).length 9 = some 9 := by
    unfold ixN
    rw [if_pos (by decide), if_pos (by simp only [List.length_cons]; omega)]
    rfl
  unfold ixL
  rw [h]
  rfl
theorem ix_lst9 {k : D → Prop} {d0 d1 d2 d3 d4 d5 d6 d7 d8 d9 : D} {ds : List D} : OV (ixv (.lst (d0 :: d1 :: d2 :: d3 :: d4 :: d5 :: d6 :: d7 :: d8 :: d9 :: ds)) (.int 9)) k = k d9 := by
  show OV (ixL (d0 :: d1 :: d2 :: d3 :: d4 :: d5 :: d6 :: d7 :: d8 :: d9 :: ds) 9) k = _
  have h : ixN (d0 :: d1 :: d2 :: d3 :: d4 :: d5 :: d6 :: d7 :: d8 :: d9 :: ds).length 9 = some 9 := by
    unfold ixN
    rw [if_pos (by decide), if_pos (by simp only [List.length_cons]; omega)]
    rfl
  unfold ixL
  rw [h]
  rfl
theorem ix_tup10 {k : D → Prop} {d0 d1 d2 d3 d4 d5 d6 d7 d8 d9 d10 : D} {ds : List D} : OV (ixv (.tup (d0 :: d1 :: d2 :: d3 :: d4 :: d5 :: d6 :: d7 :: d8 :: d9 :: d10 :: ds)) (.int 10)) k = k d10 := by
  show OV (ixL (d0 :: d1 :: d2 :: d3 :: d4 :: d5 :: d6 :: d7 :: d8 :: d9 :: d10 :: ds) 10) k = _
  have h : ixN (d0 :: d1 :: d2 :: d3 :: d4 :: d5 :: d6 :: d7 :: d8 :: d9 :: d10 :: ds).length 10 = some 10 := by
    unfold ixN
    rw [if_pos (by decide), if_pos (by simp only [List.length_cons]; omega)]
    rfl
  unfold ixL
  rw [h]
  rfl
theorem ix_lst10 {k : D → Prop} {d0 d1 d2 d3 d4 d5 d6 d7 d8 d9 d10 : D} {ds : List D} : OV (ixv (.lst (d0 :: d1 :: d2 :: d3 :: d4 :: d5 :: d6 :: d7 :: d8 :: d9 :: d10 :: ds)) (.int 10)) k = k d10 := by
  show OV (ixL (d0 :: d1 :: d2 :: d3 :: d4 :: d5 :: d6 :: d7 :: d8 :: d9 :: d10 :: ds) 10) k = _
  have h : ixN (d0 :: d1 :: d2 :: d3 :: d4 :: d5 :: d6 :: d7 :: d8 :: d9 :: d10 :: ds).length 10 = some 10 := by
    unfold ixN
    rw [if_pos (by decide), if_pos (by simp only [List.length_cons]; omega)]
    rfl
  unfold ixL
  rw [h]
  rfl
theorem ix_tup11 {k : D → Prop} {d0 d1 d2 d3 d4 d5 d6 d7 d8 d9 d10 d11 : D} {ds : List D} : OV (ixv (.tup (d0 :: d1 :: d2 :: d3 :: d4 :: d5 :: d6 :: d7 :: d8 :: d9 :: d10 :: d11 :: ds)) (.int 11)) k = k d11 := by
  show OV (ixL (d0 :: d1 :: d2 :: d3 :: d4 :: d5 :: d6 :: d7 :: d8 :: d9 :: d10 :: d11 :: ds) 11) k = _
  have h : ixN (d0 :: d1 :: d2 :: d3 :: d4 :: d5 :: d6 :: d7 :: d8 :: d9 :: d10 :: d11 :: ds).length 11 = some 11 := by
    unfold ixN
    rw [if_pos (by decide), if_pos (by simp only [List.length_cons]; omega)]
    rfl
  unfold ixL
  rw [h]
  rfl
theorem ix_lst11 {k : D → Prop} {d0 d1 d2 d3 d4 d5 d6 d7 d8 d9 d10 d11 : D} {ds : List D} : OV (ixv (.lst (d0 :: d1 :: d2 :: d3 :: d4 :: d5 :: d6 :: d7 :: d8 :: d9 :: d10 :: d11 :: ds)) (.int 11)) k = k d11 := by
  show OV (ixL (d0 :: d1 :: d2 :: d3 :: d4 :: d5 :: d6 :: d7 :: d8 :: d9 :: d10 :: d11 :: ds) 11) k = _
  have h : ixN (d0 :: d1 :: d2 :: d3 :: d4 :: d5 :: d6 :: d7 :: d8 :: d9 :: d10 :: d11 :: ds).length 11 = some 11 := by
    unfold ixN
    rw [if_pos (by decide), if_pos (by simp only [List.length_cons]; omega)]
    rfl
  unfold ixL
  rw [h]
  rfl
theorem ix_tup12 {k : D → Prop} {d0 d1 d2 d3 d4 d5 d6 d7 d8 d9 d10 d11 d12 : D} {ds : List D} : OV (ixv (.tup (d0 :: d1 :: d2 :: d3 :: d4 :: d5 :: d6 :: d7 :: d8 :: d9 :: d10 :: d11 :: d12 :: ds)) (.int 12)) k = k d12 := by
  show OV (ixL (d0 :: d1 :: d2 :: d3 :: d4 :: d5 :: d6 :: d7 :: d8 :: d9 :: d10 :: d11 :: d12 :: ds) 12) k = _
  have h : ixN (d0 :: d1 :: d2 :: d3 :: d4 :: d5 :: d6 :: d7 :: d8 :: d9 :: d10 :: d11 :: d12 :: ds).length 12 = some 12 := by
    unfold ixN
    rw [if_pos (by decide), if_pos (by simp only [List.length_cons]; omega)]
    rfl
  unfold ixL
  rw [h]
  rfl
theorem ix_lst12 {k : D → Prop} {d0 d1 d2 d3 d4 d5 d6 d7 d8 d9 d10 d11 d12 : D} {ds : List D} : OV (ixv (.lst (d0 :: d1 :: d2 :: d3 :: d4 :: d5 :: d6 :: d7 :: d8 :: d9 :: d10 :: d11 :: d12 :: ds)) (.int 12)) k = k d12 := by
  show OV (ixL (d0 :: d1 :: d2 :: d3 :: d4 :: d5 :: d6 :: d7 :: d8 :: d9 :: d10 :: d11 :: d12 :: ds) 12) k = _
  have h : ixN (d0 :: d1 :: d2 :: d3 :: d4 :: d5 :: d6 :: d7 :: d8 :: d9 :: d10 :: d11 :: d12 :: ds).length 12 = some 12 := by
    unfold ixN
    rw [if_pos (by decide), if_pos (by simp only [List.length_cons]; omega)]
    rfl
  unfold ixL
  rw [h]
  rfl
theorem ix_tup13 {k : D → Prop} {d0 d1 d2 d3 d4 d5 d6 d7 d8 d9 d10 d11 d12 d13 : D} {ds : List D} : OV (ixv (.tup (d0 :: d1 :: d2 :: d3 :: d4 :: d5 :: d6 :: d7 :: d8 :: d9 :: d10 :: d11 :: d12 :: d13 :: ds)) (.int 13)) k = k d13 := by
  show OV (ixL (d0 :: d1 :: d2 :: d3 :: d4 :: d5 :: d6 :: d7 :: d8 :: d9 :: d10 :: d11 :: d12 :: d13 :: ds) 13) k = _
  have h : ixN (d0 :: d1 :: d2 :: d3 :: d4 :: d5 :: d6 :: d7 :: d8 :: d9 :: d10 :: d11 :: d12 :: d13 :: ds).length 13 = some 13 := by
    unfold ixN
    rw [if_pos (by decide), if_pos (by simp only [List.length_cons]; omega)]
    rfl
  unfold ixL
  rw [h]
  rfl
theorem ix_lst13 {k : D → Prop} {d0 d1 d2 d3 d4 d5 d6 d7 d8 d9 d10 d11 d12 d13 : D} {ds : List D} : OV (ixv (.lst (d0 :: d1 :: d2 :: d3 :: d4 :: d5 :: d6 :: d7 :: d8 :: d9 :: d10 :: d11 :: d12 :: d13 :: ds)) (.int 13)) k = k d13 := by
  show OV (ixL (d0 :: d1 :: d2 :: d3 :: d4 :: d5 :: d6 :: d7 :: d8 :: d9 :: d10 :: d11 :: d12 :: d13 :: ds) 13) k = _
  have h : ixN (d0 :: d1 :: d2 :: d3 :: d4 :: d5 :: d6 :: d7 :: d8 :: d9 :: d10 :: d11 :: d12 :: d13 :: ds).length 13 = some 13 := by
    unfold ixN
    rw [if_pos (by decide), if_pos (by simp only [List.length_cons]; omega)]
    rfl
  unfold ixL
  rw [h]
  rfl
theorem ix_tup14 {k : D → Prop} {d0 d1 d2 d3 d4 d5 d6 d7 d8 d9 d10 d11 d12 d13 d14 : D} {ds : List D} : OV (ixv (.tup (d0 :: d1 :: d2 :: d3 :: d4 :: d5 :: d6 :: d7 :: d8 :: d9 :: d10 :: d11 :: d12 :: d13 :: d14 :: ds)) (.int 14)) k = k d14 := by
  show OV (ixL (d0 :: d1 :: d2 :: d3 :: d4 :: d5 :: d6 :: d7 :: d8 :: d9 :: d10 :: d11 :: d12 :: d13 :: d14 :: ds) 14) k = _
  have h : ixN (d0 :: d1 :: d2 :: d3 :: d4 :: d5 :: d6 :: d7 :: d8 :: d9 :: d10 :: d11 :: d12 :: d13 :: d14 :: ds).length 14 = some 14 := by
    unfold ixN
    rw [if_pos (by decide), if_pos (by simp only [List.length_cons]; omega)]
    rfl
  unfold ixL
  rw [h]
  rfl
theorem ix_lst14 {k : D → Prop} {d0 d1 d2 d3 d4 d5 d6 d7 d8 d9 d10 d11 d12 d13 d14 : D} {ds : List D} : OV (ixv (.lst (d0 :: d1 :: d2 :: d3 :: d4 :: d5 :: d6 :: d7 :: d8 :: d9 :: d10 :: d11 :: d12 :: d13 :: d14 :: ds)) (.int 14)) k = k d14 := by
  show OV (ixL (d0 :: d1 :: d2 :: d3 :: d4 :: d5 :: d6 :: d7 :: d8 :: d9 :: d10 :: d11 :: d12 :: d13 :: d14 :: ds) 14) k = _
  have h : ixN (d0 :: d1 :: d2 :: d3 :: d4 :: d5 :: d6 :: d7 :: d8 :: d9 :: d10 :: d11 :: d12 :: d13 :: d14 :: ds).length 14 = some 14 := by
    unfold ixN
    rw [if_pos (by decide), if_pos (by simp only [List.length_cons]; omega)]
    rfl
  unfold ixL
  rw [h]
  rfl
theorem ix_tup15 {k : D → Prop} {d0 d1 d2 d3 d4 d5 d6 d7 d8 d9 d10 d11 d12 d13 d14 d15 : D} {ds : List D} : OV (ixv (.tup (d0 :: d1 :: d2 :: d3 :: d4 :: d5 :: d6 :: d7 :: d8 :: d9 :: d10 :: d11 :: d12 :: d13 :: d14 :: d15 :: ds)) (.int 15)) k = k d15 := by
  show OV (ixL (d0 :: d1 :: d2 :: d3 :: d4 :: d5 :: d6 :: d7 :: d8 :: d9 :: d10 :: d11 :: d12 :: d13 :: d14 :: d15 :: ds) 15) k = _
  have h : ixN (d0 :: d1 :: d2 :: d3 :: d4 :: d5 :: d6 :: d7 :: d8 :: d9 :: d10 :: d11 :: d12 :: d13 :: d14 :: d15 :: ds).length 15 = some 15 := by
    unfold ixN
    rw [if_pos (by decide), if_pos (by simp only [List.length_cons]; omega)]
    rfl
  unfold ixL
  rw [h]
  rfl
theorem ix_lst15 {k : D → Prop} {d0 d1 d2 d3 d4 d5 d6 d7 d8 d9 d10 d11 d12 d13 d14 d15 : D} {ds : List D} : OV (ixv (.lst (d0 :: d1 :: d2 :: d3 :: d4 :: d5 :: d6 :: d7 :: d8 :: d9 :: d10 :: d11 :: d12 :: d13 :: d14 :: d15 :: ds)) (.int 15)) k = k d15 := by
  show OV (ixL (d0 :: d1 :: d2 :: d3 :: d4 :: d5 :: d6 :: d7 :: d8 :: d9 :: d10 :: d11 :: d12 :: d13 :: d14 :: d15 :: ds) 15) k = _
  have h : ixN (d0 :: d1 :: d2 :: d3 :: d4 :: d5 :: d6 :: d7 :: d8 :: d9 :: d10 :: d11 :: d12 :: d13 :: d14 :: d15 :: ds).length 15 = some 15 := by
    unfold ixN
    rw [if_pos (by decide), if_pos (by simp only [List.length_cons]; omega)]
    rfl
  unfold ixL
  rw [h]
  rfl
theorem ng {k : D → Prop} {i : Int} : OV (negv (.int i)) k = k (.int (-i)) := rfl
theorem up_t {k : List D → Prop} : OV (unpackv (.tup xs)) k = k xs := rfl
theorem up_l {k : List D → Prop} : OV (unpackv (.lst xs)) k = k xs := rfl
theorem it_t {k : List D → Prop} : OV (itemsv (.tup xs)) k = k xs := rfl
theorem it_l {k : List D → Prop} : OV (itemsv (.lst xs)) k = k xs := rfl
theorem ls_l {k : List D → Prop} : OV (D.lst? (.lst xs)) k = k xs := rfl
theorem pt_n {k : Option Int → Prop} : OV (partv []) k = k none := rfl
theorem pt_i {k : Option Int → Prop} {i : Int} : OV (partv [.int i]) k = k (some i) := rfl
theorem rg1 {k : List D → Prop} {j : Int} : OV (rngv [.int j]) k = (okI j = true ∧ k ((List.range j.toNat).map fun (n : Nat) => .int n)) := ov_if
theorem rg2 {k : List D → Prop} {i j : Int} : OV (rngv [.int i, .int j]) k = ((okI i && okI j) = true ∧ k ((List.range (j - i).toNat).map fun (n : Nat) => .int (i + n))) := ov_if
theorem bi_lenl {k : D × Bool → Prop} : OV (biv .len [.lst xs]) k = k (.int xs.length, false) := rfl
theorem bi_lent {k : D × Bool → Prop} : OV (biv .len [.tup xs]) k = k (.int xs.length, false) := rfl
theorem bi_abs {k : D × Bool → Prop} {i : Int} : OV (biv .abs [.int i]) k = k (.int i.natAbs, false) := by
  show k (.int (if i < 0 then -i else i), false) = _
  have h : (if i < 0 then -i else i) = (i.natAbs : Int) := by split <;> omega
  rw [h]
theorem bi_lil {k : D × Bool → Prop} : OV (biv .list [.lst xs]) k = k (.lst xs, true) := rfl
theorem bi_lit {k : D × Bool → Prop} : OV (biv .list [.tup xs]) k = k (.lst xs, true) := rfl
theorem bi_tul {k : D × Bool → Prop} : OV (biv .tuple [.lst xs]) k = k (.tup xs, false) := rfl
theorem bi_tut {k : D × Bool → Prop} : OV (biv .tuple [.tup xs]) k = k (.tup xs, false) := rfl
theorem rv_l {k : D × Bool → Prop} : OV (revv (.lst xs)) k = k (.lst xs.reverse, true) := rfl
theorem ii_non_int {k : Bool → Prop} {sub : Nat → Nat → Option Bool}  : OV (isiv sub .non .int) k = k false := rfl
theorem ii_non_bool {k : Bool → Prop} {sub : Nat → Nat → Option Bool}  : OV (isiv sub .non .bool) k = k false := rfl
theorem ii_non_str {k : Bool → Prop} {sub : Nat → Nat → Option Bool}  : OV (isiv sub .non .str) k = k false := rfl
theorem ii_non_tuple {k : Bool → Prop} {sub : Nat → Nat → Option Bool}  : OV (isiv sub .non .tuple) k = k false := rfl
theorem ii_non_list {k : Bool → Prop} {sub : Nat → Nat → Option Bool}  : OV (isiv sub .non .list) k = k false := rfl
theorem ii_bl_int {k : Bool → Prop} {sub : Nat → Nat → Option Bool} {b : Bool} : OV (isiv sub (.bl b) .int) k = k true := rfl
theorem ii_bl_bool {k : Bool → Prop} {sub : Nat → Nat → Option Bool} {b : Bool} : OV (isiv sub (.bl b) .bool) k = k true := rfl
theorem ii_bl_str {k : Bool → Prop} {sub : Nat → Nat → Option Bool} {b : Bool} : OV (isiv sub (.bl b) .str) k = k false := rfl
theorem ii_bl_tuple {k : Bool → Prop} {sub : Nat → Nat → Option Bool} {b : Bool} : OV (isiv sub (.bl b) .tuple) k = k false := rfl
theorem ii_bl_list {k : Bool → Prop} {sub : Nat → Nat → Option Bool} {b : Bool} : OV (isiv sub (.bl b) .list) k = k false := rfl
theorem ii_int_int {k : Bool → Prop} {sub : Nat → Nat → Option Bool} {i : Int} : OV (isiv sub (.int i) .int) k = k true := rfl
theorem ii_int_bool {k : Bool → Prop} {sub : Nat → Nat → Option Bool} {i : Int} : OV (isiv sub (.int i) .bool) k = k false := rfl
theorem ii_int_str {k : Bool → Prop} {sub : Nat → Nat → Option Bool} {i : Int} : OV (isiv sub (.int i) .str) k = k false := rfl
theorem ii_int_tuple {k : Bool → Prop} {sub : Nat → Nat → Option Bool} {i : Int} : OV (isiv sub (.int i) .tuple) k = k false := rfl
theorem ii_int_list {k : Bool → Prop} {sub : Nat → Nat → Option Bool} {i : Int} : OV (isiv sub (.int i) .list) k = k false := rfl
theorem ii_str_int {k : Bool → Prop} {sub : Nat → Nat → Option Bool} {s : PySem.Str} : OV (isiv sub (.str s) .int) k = k false := rfl
theorem ii_str_bool {k : Bool → Prop} {sub : Nat → Nat → Option Bool} {s : PySem.Str} : OV (isiv sub (.str s) .bool) k = k false := rfl
theorem ii_str_str {k : Bool → Prop} {sub : Nat → Nat → Option Bool} {s : PySem.Str} : OV (isiv sub (.str s) .str) k = k true := rfl
theorem ii_str_tuple {k : Bool → Prop} {sub : Nat → Nat → Option Bool} {s : PySem.Str} : OV (isiv sub (.str s) .tuple) k = k false := rfl
theorem ii_str_list {k : Bool → Prop} {sub : Nat → Nat → Option Bool} {s : PySem.Str} : OV (isiv sub (.str s) .list) k = k false := rfl
theorem ii_tup_int {k : Bool → Prop} {sub : Nat → Nat → Option Bool}  : OV (isiv sub (.tup xs) .int) k = k false := rfl
theorem ii_tup_bool {k : Bool → Prop} {sub : Nat → Nat → Option Bool}  : OV (isiv sub (.tup xs) .bool) k = k false := rfl
theorem ii_tup_str {k : Bool → Prop} {sub : Nat → Nat → Option Bool}  : OV (isiv sub (.tup xs) .str) k = k false := rfl
theorem ii_tup_tuple {k : Bool → Prop} {sub : Nat → Nat → Option Bool}  : OV (isiv sub (.tup xs) .tuple) k = k true := rfl
theorem ii_tup_list {k : Bool → Prop} {sub : Nat → Nat → Option Bool}  : OV (isiv sub (.tup xs) .list) k = k false := rfl
theorem ii_lst_int {k : Bool → Prop} {sub : Nat → Nat → Option Bool}  : OV (isiv sub (.lst xs) .int) k = k false := rfl
theorem ii_lst_bool {k : Bool → Prop} {sub : Nat → Nat → Option Bool}  : OV (isiv sub (.lst xs) .bool) k = k false := rfl
theorem ii_lst_str {k : Bool → Prop} {sub : Nat → Nat → Option Bool}  : OV (isiv sub (.lst xs) .str) k = k false := rfl
theorem ii_lst_tuple {k : Bool → Prop} {sub : Nat → Nat → Option Bool}  : OV (isiv sub (.lst xs) .tuple) k = k false := rfl
theorem ii_lst_list {k : Bool → Prop} {sub : Nat → Nat → Option Bool}  : OV (isiv sub (.lst xs) .list) k = k true := rfl
theorem ii_x {k : Bool → Prop} {sub : Nat → Nat → Option Bool} {c n : Nat} {b : Bool} (h : sub c n = some b) : OV (isiv sub (.exc c) (.exc n)) k = k b := by
  show OV (sub c n) k = _
  rw [h]
  rfl
theorem nf_fr {q : Rat} {o : Bool} : nf (fr q) o = True := nf_t _ _
theorem ix_fr0 {k : D → Prop} {q : Rat} : OV (ixv (fr q) (.int 0)) k = k (.int q.num) := ix_tup0
theorem ix_fr1 {k : D → Prop} {q : Rat} : OV (ixv (fr q) (.int 1)) k = k (.int q.den) := ix_tup1
theorem ii_fr_t {k : Bool → Prop} {sub : Nat → Nat → Option Bool} {q : Rat} : OV (isiv sub (fr q) .tuple) k = k true := rfl
theorem len_fr {k : D × Bool → Prop} {q : Rat} : OV (biv .len [fr q]) k = k (.int 2, false) := rfl
theorem eqv_int (i j : Int) : D.eqv (.int i) (.int j) = decide (i = j) := by
  unfold D.eqv
  congr 1
theorem eqv_fr (a b : Rat) : D.eqv (fr a) (fr b) = decide (a = b) := by
  unfold fr
  by_cases h : a = b
  · subst h
    simp [D.eqv, D.eqvs]
  · have : ¬ (a.num = b.num ∧ (a.den : Int) = b.den) := fun ⟨h1, h2⟩ => h (Rat.ext h1 (by omega))
    simp [D.eqv, D.eqvs, h]
    omega
theorem c_eqfr {k : Bool → Prop} {a b : Rat} : OV (cmpv .eq (fr a) (fr b)) k = k (decide (a = b)) := by
  show k (D.eqv (fr a) (fr b)) = _
  rw [eqv_fr]
theorem c_nefr {k : Bool → Prop} {a b : Rat} : OV (cmpv .ne (fr a) (fr b)) k = k (!decide (a = b)) := by
  show k (!D.eqv (fr a) (fr b)) = _
  rw [eqv_fr]
theorem c_eqfrs {k : Bool → Prop} {a : Rat} : OV (cmpv .eq (fr a) (fr a)) k = k true := by rw [c_eqfr]; simp
theorem c_nefrs {k : Bool → Prop} {a : Rat} : OV (cmpv .ne (fr a) (fr a)) k = k false := by rw [c_nefr]; simp
theorem c_eqbs {k : Bool → Prop} {a : Bool} : OV (cmpv .eq (.bl a) (.bl a)) k = k true := by
  show k (D.eqv (.bl a) (.bl a)) = _
  cases a <;> rfl
theorem c_nebs {k : Bool → Prop} {a : Bool} : OV (cmpv .ne (.bl a) (.bl a)) k = k false := by
  show k (!D.eqv (.bl a) (.bl a)) = _
  cases a <;> rfl
end
end GW
end

section
/-! S3: a def's answer. -/
namespace GW
def RI (r : Res) : Flow → Prop
  | .nx _ => r = .ok .non false .non
  | .rt d o _ => r = .ok d o .non
  | .exn c _ => r = .exn c .non
  | _ => False
section
variable {G : Prog} {n f : Nat} {F : Fn} {args : List D} {r : Res} {ρ : Env} {K : D → Bool → Env → Prop} {X : Nat → Env → Prop} {d d' : D} {o o' : Bool} {c c' : Nat} {mt : Bool}
theorem run_of (hf : G.fns[f]? = some F) (hm : F.meth = false) (hl : args.length = F.pars.length) (h : WS (Prog.rt G (run G n) false) F.body (args.map .fz ++ List.replicate (F.names.length - F.pars.length) .no) (RI r)) : run G (n + 1) f .non args = r := by
  show (match G.fns[f]? with
    | some F => runBody G (run G n) F .non args
    | none => .bad) = r
  rw [hf]
  show runBody G (run G n) F .non args = r
  unfold runBody Fn.start
  rw [hm]
  rw [if_pos (by rw [hl]; rfl)]
  unfold WS at h
  show (execs (Prog.rt G (run G n) false) F.body (args.map .fz ++ List.replicate (F.names.length - F.pars.length) .no)).res F = r
  cases hx : execs (Prog.rt G (run G n) false) F.body (args.map .fz ++ List.replicate (F.names.length - F.pars.length) .no) with
  | nx ρ =>
    rw [hx] at h
    unfold Flow.res selfOf
    rw [hm]
    exact h.symm
  | rt d o ρ =>
    rw [hx] at h
    unfold Flow.res selfOf
    rw [hm]
    exact h.symm
  | exn c ρ =>
    rw [hx] at h
    unfold Flow.res selfOf
    rw [hm]
    exact h.symm
  | bk ρ => rw [hx] at h; exact h.elim
  | ct ρ => rw [hx] at h; exact h.elim
  | bad => rw [hx] at h; exact h.elim
theorem ri_rt : RI (.ok d o .non) (.rt d' o' ρ) = (d = d' ∧ o = o') := by
  show (Res.ok d o .non = .ok d' o' .non) = _
  simp
theorem ri_nx : RI (.ok d o .non) (.nx ρ) = (d = .non ∧ o = false) := by
  show (Res.ok d o .non = .ok .non false .non) = _
  simp
theorem ri_ex : RI (.exn c .non) (.exn c' ρ) = (c = c') := by
  show (Res.exn c .non = .exn c' .non) = _
  simp
theorem ri_rx : RI (.ok d o .non) (.exn c ρ) = False := by
  show (Res.ok d o .non = .exn c .non) = _
  simp
theorem ri_xr : RI (.exn c .non) (.rt d o ρ) = False := by
  show (Res.exn c .non = .ok d o .non) = _
  simp
theorem gd_nx {Q : Flow → Prop} : gd Q (.nx ρ) = Q (.nx ρ) := rfl
theorem gd_rt {Q : Flow → Prop} : gd Q (.rt d o ρ) = Q (.rt d o ρ) := rfl
theorem gd_ex {Q : Flow → Prop} : gd Q (.exn c ρ) = Q (.exn c ρ) := rfl
/-- a call that is known -/
theorem cw_run (h : run G n f .non args = r) : CW ((Prog.rt G (run G n) mt).call f .non args) ρ K X = CW r ρ K X := by
  show CW (run G n f .non args) ρ K X = _
  rw [h]
theorem cw_ok (h : run G n f .non args = .ok d o .non) : CW ((Prog.rt G (run G n) mt).call f .non args) ρ K X = K d o ρ := cw_run h
theorem cw_ex (h : run G n f .non args = .exn c .non) : CW ((Prog.rt G (run G n) mt).call f .non args) ρ K X = X c ρ := cw_run h
end
end GW
end

section
/-! S4: whole numbers and fractions. -/
namespace GW
theorem fmod_abs {a b : Int} (h : b ≠ 0) : (a.fmod b).natAbs < b.natAbs := by
  rcases Int.lt_or_gt_of_ne h with h | h
  · have e := Int.neg_fmod_neg a b
    have h1 := Int.fmod_nonneg_of_pos (-a) (b := -b) (by omega)
    have h2 := Int.fmod_lt_of_pos (-a) (b := -b) (by omega)
    omega
  · have h1 := Int.fmod_nonneg_of_pos a h
    have h2 := Int.fmod_lt_of_pos a h
    omega
theorem gcd_fmod (a b : Int) : Int.gcd b (a.fmod b) = Int.gcd a b := by
  rw [Int.fmod_def, Int.gcd_sub_mul_left_right, Int.gcd_comm]
/-- the loop of a divisor -/
theorem gcd_loop {R : Rt} (hR : R.meth = false) : ∀ (N : Nat) (a b : Int), b.natAbs < N → ∃ g : Int, g.natAbs = Int.gcd a b ∧ whlL (ev R false (.cmp .ne (.var 1) (.int 0))) (execs R [.par [0, 1] [.var 1, .bin .mod (.var 0) (.var 1)]]) N [.fz (.int a), .fz (.int b)] = .nx [.fz (.int g), .fz (.int 0)]
  | 0, a, b, h => absurd h (Nat.not_lt_zero _)
  | N + 1, a, b, h => by
    have hc : ev R false (.cmp .ne (.var 1) (.int 0)) [.fz (.int a), .fz (.int b)] = .ok (.bl (!decide (b = 0)), false) [.fz (.int a), .fz (.int b)] := by
      have z : (D.int b).eqv (.int 0) = decide (b = 0) := eqv_int b 0
      simp [ev, getS, Out.frz, Out.bind, Out.of, cmpv, deep, D.dep, z]
    by_cases hb : b = 0
    · subst hb
      refine ⟨a, by simp, ?_⟩
      unfold whlL
      rw [hc]
      rfl
    · obtain ⟨g, h1, h2⟩ := gcd_loop hR N b (a.fmod b) (by have := fmod_abs (a := a) hb; omega)
      refine ⟨g, by rw [h1, gcd_fmod], ?_⟩
      have hx : execs R [.par [0, 1] [.var 1, .bin .mod (.var 0) (.var 1)]] [.fz (.int a), .fz (.int b)] = .nx [.fz (.int b), .fz (.int (a.fmod b))] := by
        simp [execs, exec, evs, ev, getS, Out.frz, Out.bind, Out.of, binv, hb, onOut, setPar, okS, hR]
      unfold whlL
      rw [hc]
      simp only [hb, decide_false, Bool.not_false]
      rw [hx]
      exact h2
/-! ### sizes -/
/-- a fraction's size in bits at most -/
class SzLe (q : Rat) (b : outParam Nat) : Prop where
  n : q.num.natAbs < 2 ^ b
  d : q.den < 2 ^ b
theorem SzLe.up {q : Rat} {b c : Nat} (h : SzLe q b) (hc : b ≤ c) : SzLe q c := ⟨Nat.lt_of_lt_of_le h.n (Nat.pow_le_pow_right (by decide) hc), Nat.lt_of_lt_of_le h.d (Nat.pow_le_pow_right (by decide) hc)⟩
theorem mkRat_sz {n : Int} {d b : Nat} (hn : n.natAbs < 2 ^ b) (hd : d < 2 ^ b) (h0 : 0 < b) : SzLe (mkRat n d) b := by
  have p := Rat.num_mkRat n d
  have q := Rat.den_mkRat n d
  constructor
  · rw [p]
    split
    · simp; exact Nat.pow_pos (by decide)
    · refine Nat.lt_of_le_of_lt ?_ hn
      exact Int.natAbs_ediv_le_natAbs _ _
  · rw [q]
    split
    · exact Nat.one_lt_two_pow (by omega)
    · exact Nat.lt_of_le_of_lt (Nat.div_le_self ..) hd
theorem den_lt_pos {q : Rat} {b : Nat} (h : SzLe q b) : 0 < b := by
  rcases Nat.eq_zero_or_pos b with z | z
  · subst z
    have := h.d
    have := q.den_pos
    omega
  · exact z
theorem mul_lt2 {x y i j : Nat} (hx : x < 2 ^ i) (hy : y < 2 ^ j) : x * y < 2 ^ (i + j) := by
  rw [Nat.pow_add]
  exact Nat.mul_lt_mul'' hx hy
theorem sz_add {a b : Rat} {i j : Nat} (ha : SzLe a i) (hb : SzLe b j) : SzLe (a + b) (i + j + 1) := by
  rw [Rat.add_def']
  refine mkRat_sz ?_ (Nat.lt_of_lt_of_le (mul_lt2 ha.d hb.d) (Nat.pow_le_pow_right (by decide) (by omega))) (by omega)
  have h1 : (a.num * b.den).natAbs < 2 ^ (i + j) := by rw [Int.natAbs_mul]; exact mul_lt2 ha.n (by simpa using hb.d)
  have h2 : (b.num * a.den).natAbs < 2 ^ (i + j) := by rw [Int.natAbs_mul, Nat.add_comm i j]; exact mul_lt2 hb.n (by simpa using ha.d)
  have h3 := Int.natAbs_add_le (a.num * b.den) (b.num * a.den)
  have h4 : 2 ^ (i + j + 1) = 2 ^ (i + j) * 2 := Nat.pow_succ 2 (i + j)
  omega
theorem sz_neg {a : Rat} {i : Nat} (ha : SzLe a i) : SzLe (-a) i := ⟨by simpa using ha.n, by simpa using ha.d⟩
theorem sz_sub {a b : Rat} {i j : Nat} (ha : SzLe a i) (hb : SzLe b j) : SzLe (a - b) (i + j + 1) := by
  rw [Rat.sub_eq_add_neg]
  exact sz_add ha (sz_neg hb)
theorem sz_mul {a b : Rat} {i j : Nat} (ha : SzLe a i) (hb : SzLe b j) : SzLe (a * b) (i + j) := by
  rw [Rat.mul_def']
  have := den_lt_pos ha
  exact mkRat_sz (by rw [Int.natAbs_mul]; exact mul_lt2 ha.n hb.n) (mul_lt2 ha.d hb.d) (by omega)
theorem sz_inv {a : Rat} {i : Nat} (ha : SzLe a i) : SzLe a⁻¹ i := by
  constructor
  · rw [Rat.num_inv, Int.natAbs_mul]
    have h1 : a.num.sign.natAbs ≤ 1 := by
      rcases Int.lt_trichotomy a.num 0 with z | z | z
      · rw [Int.sign_eq_neg_one_of_neg z]; decide
      · rw [z]; decide
      · rw [Int.sign_eq_one_of_pos z]; decide
    have h2 : a.num.sign.natAbs * ((a.den : Int)).natAbs ≤ 1 * a.den := Nat.mul_le_mul h1 (by simp)
    have := ha.d
    omega
  · rw [Rat.den_inv]
    split
    · have := den_lt_pos ha
      exact Nat.one_lt_two_pow (by omega)
    · exact ha.n
theorem sz_div {a b : Rat} {i j : Nat} (ha : SzLe a i) (hb : SzLe b j) : SzLe (a / b) (i + j) := by
  rw [Rat.div_def]
  exact sz_mul ha (sz_inv hb)
theorem log2_lt {n b : Nat} (h : n < 2 ^ b) (h0 : 0 < b) : n.log2 < b := by
  by_cases z : n = 0
  · subst z; simpa using h0
  · exact (Nat.log2_lt z).mpr h
/-! ### the divisor's answer -/
theorem divInt_pair {u d : Int} {g : Int} (hd : d ≠ 0) (hg : g.natAbs = Int.gcd u d) (hs : 0 < g ↔ 0 < d) : u.fdiv g = (Rat.divInt u d).num ∧ d.fdiv g = ((Rat.divInt u d).den : Int) := by
  have g0 : Int.gcd u d ≠ 0 := fun z => hd (Int.gcd_eq_zero_iff.mp z).2
  have e1 : (g.natAbs : Int) = Int.gcd u d := by rw [hg]
  have du : (Int.gcd u d : Int) ∣ u := Int.gcd_dvd_left ..
  have dd : (Int.gcd u d : Int) ∣ d := Int.gcd_dvd_right ..
  rw [Rat.num_divInt, Rat.den_divInt, if_neg hd, Int.gcd_comm d u]
  rcases Int.lt_or_gt_of_ne hd with h | h
  · have hn : g = -(Int.gcd u d : Int) := by
      have : ¬ 0 < g := fun z => by have := hs.mp z; omega
      omega
    rw [hn, Int.sign_eq_neg_one_of_neg h]
    obtain ⟨x, hx⟩ := du
    obtain ⟨y, hy⟩ := dd
    generalize (Int.gcd u d) = k at *
    have k0 : (k : Int) ≠ 0 := by omega
    constructor
    · rw [hx, Int.fdiv_eq_ediv_of_dvd (Int.neg_dvd.mpr (Int.dvd_mul_right ..)), Int.ediv_neg, Int.mul_ediv_cancel_left _ k0]
      rw [show (-1 : Int) * (k * x) = k * (-x) by rw [Int.mul_neg, Int.neg_mul, Int.one_mul], Int.mul_ediv_cancel_left _ k0]
    · rw [hy] at h ⊢
      rw [Int.fdiv_eq_ediv_of_dvd (Int.neg_dvd.mpr (Int.dvd_mul_right ..)), Int.ediv_neg, Int.mul_ediv_cancel_left _ k0]
      have : ((k : Int) * y).natAbs / k = y.natAbs := by
        rw [Int.natAbs_mul, Int.natAbs_natCast, Nat.mul_div_cancel_left _ (by omega)]
      rw [this]
      have : y < 0 := by
        rcases Int.lt_or_le y 0 with z | z
        · exact z
        · have := Int.mul_nonneg (Int.natCast_nonneg k) z
          omega
      omega
  · have hn : g = (Int.gcd u d : Int) := by
      have := hs.mpr h
      omega
    rw [hn, Int.sign_eq_one_of_pos h, Int.one_mul]
    obtain ⟨y, hy⟩ := dd
    generalize (Int.gcd u d) = k at *
    have k0 : (k : Int) ≠ 0 := by omega
    constructor
    · exact Int.fdiv_eq_ediv_of_dvd du
    · rw [hy] at h ⊢
      rw [Int.fdiv_eq_ediv_of_dvd (Int.dvd_mul_right ..), Int.mul_ediv_cancel_left _ k0]
      have : ((k : Int) * y).natAbs / k = y.natAbs := by
        rw [Int.natAbs_mul, Int.natAbs_natCast, Nat.mul_div_cancel_left _ (by omega)]
      rw [this]
      have : 0 < y := by
        rcases Int.lt_or_le 0 y with z | z
        · exact z
        · have := Int.mul_nonneg (Int.natCast_nonneg k) (Int.neg_nonneg_of_nonpos z)
          rw [Int.mul_neg] at this
          omega
      omega
end GW
namespace GW
theorem mulOk {x y i j : Nat} (hx : x < 2 ^ i) (hy : y < 2 ^ j) (h0 : 0 < i) (h1 : 0 < j) (h : i + j ≤ 100000000) : x.log2 + y.log2 < 100000000 := by
  have := log2_lt hx h0
  have := log2_lt hy h1
  omega
theorem SzLe.di {q : Rat} {b : Nat} (h : SzLe q b) : ((q.den : Int)).natAbs < 2 ^ b := by simpa using h.d
theorem den_ne (q : Rat) : (q.den : Int) ≠ 0 := by have := q.den_nz; omega
theorem mul_ne {a b : Int} (ha : a ≠ 0) (hb : b ≠ 0) : a * b ≠ 0 := fun z => (Int.mul_eq_zero.mp z).elim ha hb
theorem fr_add (a b : Rat) : Rat.divInt (a.num * b.den + b.num * a.den) ((a.den : Int) * b.den) = a + b := by
  rw [Rat.add_def', ← Int.natCast_mul, Rat.divInt_ofNat]
theorem fr_sub (a b : Rat) : Rat.divInt (a.num * b.den - b.num * a.den) ((a.den : Int) * b.den) = a - b := by
  rw [Rat.sub_def', ← Int.natCast_mul, Rat.divInt_ofNat]
theorem fr_mul (a b : Rat) : Rat.divInt (a.num * b.num) ((a.den : Int) * b.den) = a * b := by
  rw [Rat.mul_def', ← Int.natCast_mul, Rat.divInt_ofNat]
theorem fr_div (a b : Rat) : Rat.divInt (a.num * b.den) ((a.den : Int) * b.num) = a / b := by
  rw [Rat.div_def, Rat.inv_def, ← Rat.divInt_mul_divInt, Rat.num_divInt_den]
theorem num_ne {b : Rat} (h : b ≠ 0) : b.num ≠ 0 := fun z => h (Rat.num_eq_zero.mp z)
end GW
namespace GW
theorem sz_divInt {u d : Int} {b : Nat} (hu : u.natAbs < 2 ^ b) (hd : d.natAbs < 2 ^ b) (h0 : 0 < b) : SzLe (Rat.divInt u d) b := by
  constructor
  · rw [Rat.num_divInt]
    refine Nat.lt_of_le_of_lt (Int.natAbs_ediv_le_natAbs _ _) ?_
    rw [Int.natAbs_mul]
    have h1 : d.sign.natAbs ≤ 1 := by
      rcases Int.lt_trichotomy d 0 with z | z | z
      · rw [Int.sign_eq_neg_one_of_neg z]; decide
      · rw [z]; decide
      · rw [Int.sign_eq_one_of_pos z]; decide
    have h2 : d.sign.natAbs * u.natAbs ≤ 1 * u.natAbs := Nat.mul_le_mul_right _ h1
    omega
  · rw [Rat.den_divInt]
    split
    · exact Nat.one_lt_two_pow (by omega)
    · exact Nat.lt_of_le_of_lt (Nat.div_le_self ..) hd
end GW
namespace GW
instance {a b : Rat} {i j : Nat} [ha : SzLe a i] [hb : SzLe b j] : SzLe (a + b) (i + j + 1) := sz_add ha hb
instance {a b : Rat} {i j : Nat} [ha : SzLe a i] [hb : SzLe b j] : SzLe (a - b) (i + j + 1) := sz_sub ha hb
instance {a b : Rat} {i j : Nat} [ha : SzLe a i] [hb : SzLe b j] : SzLe (a * b) (i + j) := sz_mul ha hb
instance {a b : Rat} {i j : Nat} [ha : SzLe a i] [hb : SzLe b j] : SzLe (a / b) (i + j) := sz_div ha hb
instance {a : Rat} {i : Nat} [ha : SzLe a i] : SzLe (-a) i := sz_neg ha
instance : SzLe (0 : Rat) 1 := ⟨by decide, by decide⟩
instance : SzLe (1 : Rat) 1 := ⟨by decide, by decide⟩
instance : SzLe (2 : Rat) 2 := ⟨by decide, by decide⟩
instance : SzLe (3 : Rat) 2 := ⟨by decide, by decide⟩
instance : SzLe (4 : Rat) 3 := ⟨by decide, by decide⟩
instance : SzLe (5 : Rat) 3 := ⟨by decide, by decide⟩
instance : SzLe (6 : Rat) 3 := ⟨by decide, by decide⟩
instance : SzLe (8 : Rat) 4 := ⟨by decide, by decide⟩
theorem lit01 : D.tup [.int 0, .int 1] = fr 0 := rfl
theorem lit11 : D.tup [.int 1, .int 1] = fr 1 := rfl
theorem lit21 : D.tup [.int 2, .int 1] = fr 2 := rfl
theorem lit31 : D.tup [.int 3, .int 1] = fr 3 := rfl
theorem lit41 : D.tup [.int 4, .int 1] = fr 4 := rfl
theorem lit61 : D.tup [.int 6, .int 1] = fr 6 := rfl
theorem lit12 : D.tup [.int 1, .int 2] = fr (1 / 2) := by
  have h1 : (1 / 2 : Rat).num = 1 := by decide +kernel
  have h2 : (1 / 2 : Rat).den = 2 := by decide +kernel
  unfold fr
  rw [h1, h2]
  rfl
theorem lit32 : D.tup [.int 3, .int 2] = fr (3 / 2) := by
  have h1 : (3 / 2 : Rat).num = 3 := by decide +kernel
  have h2 : (3 / 2 : Rat).den = 2 := by decide +kernel
  unfold fr
  rw [h1, h2]
  rfl
end GW
end

section
/-! S5: the script. -/
namespace GW
def scr (ns : List Int) : D := .lst (ns.map .int)
structure ScOk (ns : List Int) : Prop where
  len : ns.length ≤ 63
  bits : ∀ z ∈ ns, PySem.Builtin.Int.intBits z ≤ 1048580
theorem nf_scr (ns : List Int) (o : Bool) : nf (scr ns) o = True := nf_l _ _
theorem len_scr {k : D × Bool → Prop} {ns : List Int} : OV (biv .len [scr ns]) k = k (.int ns.length, false) := by
  show k (.int (ns.map D.int).length, false) = _
  rw [List.length_map]
theorem ix_scr {k : D → Prop} {ns : List Int} {i : Int} (h0 : 0 ≤ i) (h1 : i < ns.length) : OV (ixv (scr ns) (.int i)) k = k (.int (ns.getD i.toNat 0)) := by
  show OV (ixL (ns.map D.int) i) k = _
  unfold ixL ixN
  rw [if_pos h0, List.length_map, if_pos h1]
  dsimp only [Option.bind]
  have h2 : i.toNat < ns.length := by omega
  rw [List.getElem?_map, List.getElem?_eq_getElem h2]
  show k (.int ns[i.toNat]) = _
  rw [List.getD_eq_getElem?_getD, List.getElem?_eq_getElem h2]
  rfl
theorem deps_ints : ∀ ns : List Int, D.deps (ns.map .int) = 0
  | [] => by unfold D.deps; rfl
  | n :: ns => by
    show D.deps (.int n :: ns.map .int) = 0
    unfold D.deps
    rw [deps_ints ns]
    rfl
theorem c_eqscr {k : Bool → Prop} {ns : List Int} : OV (cmpv .eq (scr ns) (.lst [])) k = k (decide (ns = [])) := by
  have h : deep (scr ns) (.lst []) = true := by
    unfold deep scr
    have e1 : D.dep (.lst (ns.map .int)) = 1 := by unfold D.dep; rw [deps_ints]
    rw [e1]
    rfl
  show OV (if deep (scr ns) (.lst []) = true then some ((scr ns).eqv (.lst [])) else none) k = _
  rw [if_pos h]
  cases ns with
  | nil => rfl
  | cons n ns =>
    show k (D.eqv (.lst (.int n :: ns.map .int)) (.lst [])) = _
    unfold D.eqv D.eqvs
    simp
def cellV (ns : List Int) (k : Int) : Int := if k < ns.length then ns.getD k.toNat 0 else if ns = [] then 0 else ns.getD (k.fmod ns.length).toNat 0 * 31 + k
def drawnV (ns : List Int) (k : Int) : Int := ((cellV ns k + 6151 * (k + 1)) * 40692).fmod 2147483399
def pickV (ns : List Int) (k m : Int) : Int := ((drawnV ns k * drawnV ns k + (drawnV ns k).fdiv 31).fmod 2147483629).fmod m
theorem pick_lo (ns : List Int) (k : Int) {m : Int} (h : 0 < m) : 0 ≤ pickV ns k m := Int.fmod_nonneg_of_pos _ h
theorem pick_hi (ns : List Int) (k : Int) {m : Int} (h : 0 < m) : pickV ns k m < m := Int.fmod_lt_of_pos _ h
theorem bits_lt {z : Int} {b : Nat} (h : PySem.Builtin.Int.intBits z ≤ b) : z.natAbs < 2 ^ b := by
  unfold PySem.Builtin.Int.intBits at h
  split at h
  · rename_i h0
    have : z = 0 := by simpa using h0
    subst this
    exact Nat.pow_pos (by decide)
  · rename_i h0
    have h1 : z.natAbs ≠ 0 := by
      intro q
      apply h0
      have : z = 0 := by omega
      rw [this]
      rfl
    exact (Nat.log2_lt h1).mp (by omega)
theorem getD_bits {ns : List Int} (ok : ScOk ns) (i : Nat) : ∃ b, b = 1048580 ∧ (ns.getD i 0).natAbs < 2 ^ b := by
  refine ⟨1048580, rfl, ?_⟩
  rw [List.getD_eq_getElem?_getD]
  cases h : ns[i]? with
  | none => exact Nat.pow_pos (by decide)
  | some z => exact bits_lt (ok.bits z (List.mem_of_getElem? h))
theorem cell_bits {ns : List Int} (ok : ScOk ns) {k : Int} (h0 : 0 ≤ k) (h1 : k ≤ 1000000) : ∃ b, b = 1048604 ∧ (cellV ns k).natAbs < 2 ^ b := by
  refine ⟨_, rfl, ?_⟩
  generalize hb : (1048604 : Nat) = b
  unfold cellV
  have big : ∀ i, (ns.getD i 0).natAbs < 2 ^ (b - 24) := fun i => by
    obtain ⟨c, hc, h⟩ := getD_bits ok i
    have : b - 24 = c := by omega
    rw [this]
    exact h
  have e : 2 ^ b = 2 ^ (b - 24) * 16777216 := by
    rw [show (16777216 : Nat) = 2 ^ 24 from by decide, ← Nat.pow_add]
    congr 1
    omega
  have p : 0 < 2 ^ (b - 24) := Nat.pow_pos (by decide)
  generalize 2 ^ (b - 24) = w at *
  generalize 2 ^ b = v at *
  split
  · have := big k.toNat
    omega
  · split
    · omega
    · have := big (k.fmod ns.length).toNat
      generalize ns.getD (k.fmod ns.length).toNat 0 = z at *
      omega
theorem small_log {z : Int} {b : Nat} (h : z.natAbs < 2 ^ b) (h0 : 0 < b) : z.natAbs.log2 < b := log2_lt h h0
theorem draw_ok {ns : List Int} (ok : ScOk ns) {k : Int} (h0 : 0 ≤ k) (h1 : k ≤ 1000000) : (cellV ns k + 6151 * (k + 1)).natAbs.log2 + (40692 : Int).natAbs.log2 < 100000000 := by
  obtain ⟨b, hb, h⟩ := cell_bits ok h0 h1
  have e : 2 ^ (b + 40) = 2 ^ b * 1099511627776 := by
    rw [show (1099511627776 : Nat) = 2 ^ 40 from by decide, ← Nat.pow_add]
  have p : 0 < 2 ^ b := Nat.pow_pos (by decide)
  have h2 : (cellV ns k + 6151 * (k + 1)).natAbs < 2 ^ (b + 40) := by
    rw [e]
    generalize 2 ^ b = w at *
    omega
  have h3 := log2_lt h2 (by omega)
  have h4 : (40692 : Int).natAbs.log2 ≤ 20 := by decide
  omega
theorem nat_log {n : Nat} (h : n < 2 ^ 60) : n.log2 < 60 := log2_lt h (by decide)
theorem drawn_rng (ns : List Int) (k : Int) : 0 ≤ drawnV ns k ∧ drawnV ns k < 2147483399 := ⟨Int.fmod_nonneg_of_pos _ (by decide), Int.fmod_lt_of_pos _ (by decide)⟩
theorem int_log {z : Int} (h0 : -1000000000000000 < z) (h : z < 1000000000000000) : z.natAbs.log2 < 60 := nat_log (by
  have : (2 : Nat) ^ 60 = 1152921504606846976 := by decide
  omega)
end GW
end

section
/-! S6: loops, comprehensions, kinds, like things. -/
namespace GW
section
variable {R : Rt} {m : Bool} {ρ : Env} {K : D → Bool → Env → Prop} {X : Nat → Env → Prop} {Q : Flow → Prop} {ss b : List Ps} {xs ys : List D} {d : D} {tg : Tg} {G : Prog} {call : Nat → D → List D → Res}
theorem ok_rt {is : List Nat} : (okS (Prog.rt G call false) is = true) = True := by simp [okS, Prog.rt]
/-! ### loops -/
def forF (R : Rt) (tg : Tg) (b : List Ps) : D → Env → Flow := fun d ρ => match setTg ρ tg d with
      | some ρ => execs R b ρ
      | none => .bad
def WF (R : Rt) (tg : Tg) (b : List Ps) (xs : List D) (ρ : Env) (Q : Flow → Prop) : Prop := gd Q (forL (forF R tg b) xs ρ)
theorem ws_forW {it : Px} : WS R (.forS tg it b :: ss) ρ Q = WE R false it ρ (fun x o ρ => nf x o ∧ OV (itemsv x) fun xs => okS R tg.slots = true ∧ WF R tg b xs ρ (TH R ss Q)) (fun c ρ => Q (.exn c ρ)) := ws_for
def LQ (R : Rt) (tg : Tg) (b : List Ps) (xs : List D) (Q : Flow → Prop) (fl : Flow) : Prop := match fl with
  | .nx ρ => WF R tg b xs ρ Q
  | .ct ρ => WF R tg b xs ρ Q
  | .bk ρ => Q (.nx ρ)
  | fl => Q fl
theorem lq_nx : LQ R tg b xs Q (.nx ρ) = WF R tg b xs ρ Q := rfl
theorem lq_ct : LQ R tg b xs Q (.ct ρ) = WF R tg b xs ρ Q := rfl
theorem lq_bk : LQ R tg b xs Q (.bk ρ) = Q (.nx ρ) := rfl
theorem lq_rt {o : Bool} : LQ R tg b xs Q (.rt d o ρ) = Q (.rt d o ρ) := rfl
theorem lq_exn {c : Nat} : LQ R tg b xs Q (.exn c ρ) = Q (.exn c ρ) := rfl
theorem wf_nil : WF R tg b [] ρ Q = Q (.nx ρ) := rfl
theorem wf_cons : WF R tg b (d :: xs) ρ Q = OV (setTg ρ tg d) fun ρ => WS R b ρ (LQ R tg b xs Q) := by
  unfold WF WS
  conv => lhs; unfold forL
  unfold forF
  cases setTg ρ tg d with
  | none => rfl
  | some ρ1 =>
    dsimp only [OV]
    cases execs R b ρ1 <;> rfl
def IQ (J : Env → Prop) (Q : Flow → Prop) (fl : Flow) : Prop := match fl with
  | .nx ρ => J ρ
  | .ct ρ => J ρ
  | .bk ρ => Q (.nx ρ)
  | fl => Q fl
theorem iq_nx {J : Env → Prop} : IQ J Q (.nx ρ) = J ρ := rfl
theorem iq_ct {J : Env → Prop} : IQ J Q (.ct ρ) = J ρ := rfl
theorem iq_bk {J : Env → Prop} : IQ J Q (.bk ρ) = Q (.nx ρ) := rfl
theorem iq_rt {J : Env → Prop} {o : Bool} : IQ J Q (.rt d o ρ) = Q (.rt d o ρ) := rfl
theorem iq_exn {J : Env → Prop} {c : Nat} : IQ J Q (.exn c ρ) = Q (.exn c ρ) := rfl
theorem ws_brk : WS R (.brk :: ss) ρ Q = Q (.bk ρ) := by
  unfold WS
  rw [execs_cons]
  (conv => lhs; unfold exec) <;> rfl
theorem ws_cont : WS R (.cont :: ss) ρ Q = Q (.ct ρ) := by
  unfold WS
  rw [execs_cons]
  (conv => lhs; unfold exec) <;> rfl
theorem gd_mono {Q Q' : Flow → Prop} (h : ∀ fl, Q fl → Q' fl) : ∀ {fl : Flow}, gd Q fl → gd Q' fl
  | .bad, q => q
  | .nx _, q => h _ q
  | .rt _ _ _, q => h _ q
  | .bk _, q => h _ q
  | .ct _, q => h _ q
  | .exn _ _, q => h _ q
theorem WS.mono {Q Q' : Flow → Prop} (h : ∀ fl, Q fl → Q' fl) (w : WS R b ρ Q) : WS R b ρ Q' := gd_mono h w
/-- a loop by what holds ahead of each turn -/
theorem wf_inv : ∀ {xs : List D} {ρ : Env} (I : Nat → Env → Prop) (_ : I 0 ρ) (_ : ∀ i d ρ, xs[i]? = some d → I i ρ → OV (setTg ρ tg d) fun ρ => WS R b ρ (IQ (I (i + 1)) Q)) (_ : ∀ ρ, I xs.length ρ → Q (.nx ρ)), WF R tg b xs ρ Q
  | [], ρ, I, h0, _, hq => hq ρ h0
  | d :: xs, ρ, I, h0, hs, hq => by
    rw [wf_cons]
    have h1 := hs 0 d ρ rfl h0
    cases h : setTg ρ tg d with
    | none => rw [h] at h1; exact h1
    | some ρ1 =>
      rw [h] at h1
      refine WS.mono (fun fl q => ?_) h1
      have key : ∀ ρ, I 1 ρ → WF R tg b xs ρ Q := fun ρ j => wf_inv (fun i => I (i + 1)) j (fun i d ρ hi => hs (i + 1) d ρ hi) fun ρ z => hq ρ z
      cases fl with
      | nx ρ => exact key ρ q
      | ct ρ => exact key ρ q
      | _ => exact q
theorem up_fr {q : Rat} {k : List D → Prop} : OV (unpackv (fr q)) k = k [.int q.num, .int q.den] := rfl
/-! ### targets -/
theorem st_n {i : Nat} {k : Env → Prop} : OV (setTg ρ (.nm i) d) k = SX i (.fz d) ρ k := rfl
theorem st_t {is : List Nat} {ds : List D} {k : Env → Prop} : OV (setTg ρ (.tp is) (.tup ds)) k = OV (setTs ρ is ds) k := rfl
theorem sts_n {k : Env → Prop} : OV (setTs ρ [] []) k = k ρ := rfl
theorem sts_c {i : Nat} {is : List Nat} {ds : List D} {k : Env → Prop} : OV (setTs ρ (i :: is) (d :: ds)) k = SX i (.fz d) ρ fun ρ => OV (setTs ρ is ds) k := rfl
/-! ### comprehensions -/
def lcQ (R : Rt) (own : List Nat) (tg : Tg) (cond : List Px) (e : Px) (ρ : Env) (d : D) : Option (Option D) := match setTg (wipeE ρ own) tg d with
  | none => none
  | some ρ1 => match evAnd R true cond ρ1 with
    | .ok (.bl true, _) _ => match (ev R true e ρ1).frz with
      | .ok y _ => some (some y)
      | _ => none
    | .ok (.bl false, _) _ => some none
    | _ => none
def noOw (own : List Nat) (ρ : Env) : Prop := (own.any fun i => isOw (getS ρ i)) = false
theorem we_lc {own : List Nat} {it : Px} {cond : List Px} {e : Px} : WE R m (.lc own tg it cond e) ρ K X = WE R m it ρ (fun x o ρ => nf x o ∧ OV (itemsv x) fun xs => noOw own ρ ∧ OV (collect (lcQ R own tg cond e ρ) xs) fun ys => ys.length ≤ lineD ∧ K (.lst ys) true ρ) X := by
  unfold WE
  conv => lhs; unfold ev
  simp only [ww_b, ww_frz]
  congr
  funext x ρ
  congr 1
  cases itemsv x.1 with
  | none => rfl
  | some xs =>
    dsimp only [OV, noOw]
    cases h : own.any fun i => isOw (getS ρ i) with
    | true => simp [ww]
    | false =>
      simp only [Bool.false_eq_true, if_false, true_and]
      show ww (match collect (lcQ R own tg cond e ρ) xs with
        | none => .bad
        | some ys => if ys.length ≤ lineD then Out.ok (D.lst ys, true) ρ else .bad) (fun x ρ => K x.1 x.2 ρ) X = _
      cases collect (lcQ R own tg cond e ρ) xs with
      | none => rfl
      | some ys => exact ww_if
theorem now_n : noOw [] ρ = True := by simp [noOw]
theorem now_c {i : Nat} {is : List Nat} : noOw (i :: is) ρ = (isOw (getS ρ i) = false ∧ noOw is ρ) := by simp [noOw]
theorem gs_0 {s : Sl} {r : List Sl} : getS (s :: r) 0 = s := rfl
theorem gs_s {s : Sl} {r : List Sl} {n : Nat} : getS (s :: r) (n + 1) = getS r n := rfl
theorem io_f : (isOw (.fz d) = false) = True := by simp [isOw]
theorem io_n : (isOw .no = false) = True := by simp [isOw]
def WP (own : List Nat) (ρ : Env) (k : Env → Prop) (_t : Lk k := {}) : Prop := k (wipeE ρ own)
theorem wp_n {k : Env → Prop} : WP [] ρ k = k ρ := rfl
theorem wp_c {i : Nat} {is : List Nat} {k : Env → Prop} : WP (i :: is) ρ k = WP is ρ fun ρ => SX i .no ρ k := rfl
theorem ov_lcf {own : List Nat} {cond : List Px} {e : Px} {k : Option D → Prop} : OV (lcQ R own tg cond e ρ d) k = WP own ρ fun ρ => OV (setTg ρ tg d) fun ρ => WA R true cond ρ (fun c _ _ => BR c (WE R true e ρ (fun y o _ => nf y o ∧ k (some y)) fun _ _ => False) (k none)) fun _ _ => False := by
  unfold WP lcQ WA WE
  dsimp only
  cases setTg (wipeE ρ own) tg d with
  | none => rfl
  | some ρ1 =>
    dsimp only [OV]
    cases evAnd R true cond ρ1 with
    | ok x ρ2 =>
      obtain ⟨c, o⟩ := x
      cases c with
      | bl z =>
        cases z with
        | true =>
          simp only [ww_ok, br_t]
          rw [← ww_frz (K := fun y _ => k (some y))]
          cases (ev R true e ρ1).frz <;> rfl
        | false => simp only [ww_ok, br_f]
      | _ => rfl
    | _ => rfl
theorem lc_f {own : List Nat} {cond : List Px} {e : Px} {r : Option D} (h : WP own ρ fun ρ => OV (setTg ρ tg d) fun ρ => WA R true cond ρ (fun c _ _ => BR c (WE R true e ρ (fun y o _ => nf y o ∧ some y = r) fun _ _ => False) (none = r)) fun _ _ => False) : lcQ R own tg cond e ρ d = some r := by
  have h' : OV (lcQ R own tg cond e ρ d) (fun x => x = r) := by rw [ov_lcf]; exact h
  cases z : lcQ R own tg cond e ρ d with
  | none => rw [z] at h'; exact h'.elim
  | some x => rw [z] at h'; exact congrArg some h'
theorem col_map {α : Type} {f : D → Option (Option D)} {h : α → D} (g : α → D) : ∀ {l : List α}, (∀ a ∈ l, f (h a) = some (some (g a))) → collect f (l.map h) = some (l.map g)
  | [], _ => rfl
  | a :: l, H => by
    rw [List.map_cons, List.map_cons]
    unfold collect
    rw [H a List.mem_cons_self, col_map g fun x hx => H x (List.mem_cons_of_mem _ hx)]
    rfl
theorem col_filt {α : Type} {f : D → Option (Option D)} {h : α → D} (g : α → D) (p : α → Bool) : ∀ {l : List α}, (∀ a ∈ l, f (h a) = some (if p a then some (g a) else none)) → collect f (l.map h) = some ((l.filter p).map g)
  | [], _ => rfl
  | a :: l, H => by
    rw [List.map_cons]
    unfold collect
    rw [H a List.mem_cons_self, col_filt g p fun x hx => H x (List.mem_cons_of_mem _ hx)]
    cases hp : p a with
    | true => simp [hp]
    | false => simp [hp]
theorem ov_col_n {f : D → Option (Option D)} {k : List D → Prop} : OV (collect f []) k = k [] := rfl
def optL : Option D → List D → List D
  | none, ys => ys
  | some y, ys => y :: ys
theorem optL_n : optL none ys = ys := rfl
theorem optL_s {y : D} : optL (some y) ys = y :: ys := rfl
theorem ov_col_c {f : D → Option (Option D)} {k : List D → Prop} : OV (collect f (d :: xs)) k = OV (f d) fun r => OV (collect f xs) fun ys => k (optL r ys) := by
  conv => lhs; unfold collect
  cases f d with
  | none => rfl
  | some r =>
    cases r with
    | none => rfl
    | some y => dsimp only [OV]; cases collect f xs <;> rfl
/-! ### like things -/
mutual
theorem eqv_self : ∀ d : D, d.dep ≤ 60 → d.eqv d = true
  | .non, _ => by unfold D.eqv; rfl
  | .bl b, _ => by unfold D.eqv; simp
  | .int i, _ => by unfold D.eqv; simp
  | .str s, _ => by unfold D.eqv; simp
  | .tup xs, h => by
    unfold D.eqv
    unfold D.dep at h
    exact eqvs_self xs (by omega)
  | .lst xs, h => by
    unfold D.eqv
    unfold D.dep at h
    exact eqvs_self xs (by omega)
  | .dic _, h => by unfold D.dep at h; omega
  | .exc _, h => by unfold D.dep at h; omega
  | .ins _ _, h => by unfold D.dep at h; omega
theorem eqvs_self : ∀ ds : List D, D.deps ds ≤ 60 → D.eqvs ds ds = true
  | [], _ => by unfold D.eqvs; rfl
  | d :: ds, h => by
    unfold D.eqvs
    unfold D.deps at h
    rw [eqv_self d (by omega), eqvs_self ds (by omega)]
    rfl
end
class Dq (d : D) (n : outParam Nat) : Prop where
  h : D.dep d ≤ n
class Dqs (ds : List D) (n : outParam Nat) : Prop where
  h : D.deps ds ≤ n
instance {i : Int} : Dq (.int i) 0 := ⟨by unfold D.dep; exact Nat.le_refl _⟩
instance {i : Bool} : Dq (.bl i) 0 := ⟨by unfold D.dep; exact Nat.le_refl _⟩
instance : Dq .non 0 := ⟨by unfold D.dep; exact Nat.le_refl _⟩
instance : Dqs [] 0 := ⟨by unfold D.deps; exact Nat.le_refl _⟩
instance {d : D} {ds : List D} {i j : Nat} [a : Dq d i] [b : Dqs ds j] : Dqs (d :: ds) (max i j) := ⟨by unfold D.deps; have := a.h; have := b.h; omega⟩
instance {ds : List D} {i : Nat} [a : Dqs ds i] : Dq (.tup ds) (i + 1) := ⟨by unfold D.dep; have := a.h; omega⟩
instance {ds : List D} {i : Nat} [a : Dqs ds i] : Dq (.lst ds) (i + 1) := ⟨by unfold D.dep; have := a.h; omega⟩
instance {q : Rat} : Dq (fr q) 1 := inferInstanceAs (Dq (.tup [.int q.num, .int q.den]) 1)
theorem deps_map {α : Type} {f : α → D} {n : Nat} (H : ∀ a, Dq (f a) n) : ∀ {l : List α}, D.deps (l.map f) ≤ n
  | [] => by unfold List.map D.deps; exact Nat.zero_le _
  | a :: l => by
    rw [List.map_cons]
    unfold D.deps
    have := (H a).h
    have := deps_map H (l := l)
    omega
instance {α : Type} {f : α → D} {n : Nat} {l : List α} [H : ∀ a, Dq (f a) n] : Dqs (l.map f) n := ⟨deps_map H⟩
theorem c_eqself {n : Nat} [H : Dq d n] {k : Bool → Prop} (h : n ≤ 60) : OV (cmpv .eq d d) k = k true := by
  have e := H.h
  show OV (if deep d d = true then some (D.eqv d d) else none) k = _
  rw [if_pos (by unfold deep; simp; omega), eqv_self d (by omega)]
  rfl
theorem c_neself {n : Nat} [H : Dq d n] {k : Bool → Prop} (h : n ≤ 60) : OV (cmpv .ne d d) k = k false := by
  have e := H.h
  show OV (if deep d d = true then some (!D.eqv d d) else none) k = _
  rw [if_pos (by unfold deep; simp; omega), eqv_self d (by omega)]
  rfl
/-- like or not, as the things are -/
theorem c_eqd {x y : D} {i j : Nat} [a : Dq x i] [b : Dq y j] {k : Bool → Prop} (h : i ≤ 60) (h' : j ≤ 60) : OV (cmpv .eq x y) k = k (x.eqv y) := by
  have := a.h
  have := b.h
  show OV (if deep x y = true then some (D.eqv x y) else none) k = _
  rw [if_pos (by unfold deep; simp; omega)]
  rfl
end
/-! ### kinds -/
inductive Kd where
  | even | in_ | out | both | hold | jump | kept
  deriving DecidableEq
def kS : Kd → PySem.Str
  | .even => "even"
  | .in_ => "in"
  | .out => "out"
  | .both => "both"
  | .hold => "hold"
  | .jump => "jump"
  | .kept => "kept"
def turnK : Kd → Kd
  | .in_ => .out
  | .out => .in_
  | .hold => .jump
  | .jump => .hold
  | k => k
section
variable {K : Bool → Prop} {k : Kd} {sub : Nat → Nat → Option Bool}
theorem ck_even : OV (cmpv .eq (.str (kS k)) (.str "even")) K = K (decide (k = .even)) := by cases k <;> kernel_rfl
theorem cn_even : OV (cmpv .ne (.str (kS k)) (.str "even")) K = K (!decide (k = .even)) := by cases k <;> kernel_rfl
theorem ck_in : OV (cmpv .eq (.str (kS k)) (.str "in")) K = K (decide (k = .in_)) := by cases k <;> kernel_rfl
theorem cn_in : OV (cmpv .ne (.str (kS k)) (.str "in")) K = K (!decide (k = .in_)) := by cases k <;> kernel_rfl
theorem ck_out : OV (cmpv .eq (.str (kS k)) (.str "out")) K = K (decide (k = .out)) := by cases k <;> kernel_rfl
theorem cn_out : OV (cmpv .ne (.str (kS k)) (.str "out")) K = K (!decide (k = .out)) := by cases k <;> kernel_rfl
theorem ck_both : OV (cmpv .eq (.str (kS k)) (.str "both")) K = K (decide (k = .both)) := by cases k <;> kernel_rfl
theorem cn_both : OV (cmpv .ne (.str (kS k)) (.str "both")) K = K (!decide (k = .both)) := by cases k <;> kernel_rfl
theorem ck_hold : OV (cmpv .eq (.str (kS k)) (.str "hold")) K = K (decide (k = .hold)) := by cases k <;> kernel_rfl
theorem cn_hold : OV (cmpv .ne (.str (kS k)) (.str "hold")) K = K (!decide (k = .hold)) := by cases k <;> kernel_rfl
theorem ck_jump : OV (cmpv .eq (.str (kS k)) (.str "jump")) K = K (decide (k = .jump)) := by cases k <;> kernel_rfl
theorem cn_jump : OV (cmpv .ne (.str (kS k)) (.str "jump")) K = K (!decide (k = .jump)) := by cases k <;> kernel_rfl
theorem ck_kept : OV (cmpv .eq (.str (kS k)) (.str "kept")) K = K (decide (k = .kept)) := by cases k <;> kernel_rfl
theorem cn_kept : OV (cmpv .ne (.str (kS k)) (.str "kept")) K = K (!decide (k = .kept)) := by cases k <;> kernel_rfl
theorem ci_hj : OV (cmpv .in_ (.str (kS k)) (.tup [.str "hold", .str "jump"])) K = K (decide (k = .hold ∨ k = .jump)) := by cases k <;> kernel_rfl
theorem cj_hj : OV (cmpv .nin (.str (kS k)) (.tup [.str "hold", .str "jump"])) K = K (!decide (k = .hold ∨ k = .jump)) := by cases k <;> kernel_rfl
theorem ci_bk : OV (cmpv .in_ (.str (kS k)) (.tup [.str "both", .str "kept"])) K = K (decide (k = .both ∨ k = .kept)) := by cases k <;> kernel_rfl
theorem cj_bk : OV (cmpv .nin (.str (kS k)) (.tup [.str "both", .str "kept"])) K = K (!decide (k = .both ∨ k = .kept)) := by cases k <;> kernel_rfl
theorem ci_kinds : OV (cmpv .in_ (.str (kS k)) (.tup [.str "even", .str "in", .str "out", .str "both", .str "hold", .str "jump"])) K = K (!decide (k = .kept)) := by cases k <;> kernel_rfl
theorem cj_kinds : OV (cmpv .nin (.str (kS k)) (.tup [.str "even", .str "in", .str "out", .str "both", .str "hold", .str "jump"])) K = K (decide (k = .kept)) := by cases k <;> kernel_rfl
def turnD : D := .dic [("even", .str "even"), ("in", .str "out"), ("out", .str "in"), ("both", .str "both"), ("hold", .str "jump"), ("jump", .str "hold")]
theorem gx_turn {K : D → Prop} (h : ¬ k = .kept) : OV (gixv turnD (.str (kS k))) K = K (.str (kS (turnK k))) := by cases k <;> first | exact absurd rfl h | kernel_rfl
instance : Dq (.str (kS k)) 0 := ⟨by cases k <;> decide +kernel⟩
theorem nf_ks {o : Bool} : nf (.str (kS k)) o = True := nf_s _ _
end
end GW
end

section
/-! S7: what kinds of ways and motions tell, in fractions. -/
namespace GW
theorem szz {q : Rat} {i j : Nat} (h : SzLe q i) (e : i ≤ j) : SzLe q j := h.up e
def keptQ (p : Rat) : Rat := if p < 0 then 0 else if 1 < p then 1 else p
instance {p : Rat} {i : Nat} [h : SzLe p i] : SzLe (keptQ p) (i + 1) := by
  unfold keptQ
  split
  · exact szz (i := 1) inferInstance (by omega)
  · split
    · exact szz (i := 1) inferInstance (by omega)
    · exact szz h (by omega)
def easedQ (k : Kd) (p : Rat) : Rat := match k with
  | .even => keptQ p
  | .in_ => keptQ p * keptQ p
  | .out => keptQ p + keptQ p - keptQ p * keptQ p
  | .both => keptQ p * keptQ p * (3 - (keptQ p + keptQ p))
  | .hold => if keptQ p = 1 then 1 else 0
  | .jump => if keptQ p = 0 then 0 else 1
  | .kept => if keptQ p = 0 then 0 else 1
instance {k : Kd} {p : Rat} {i : Nat} [h : SzLe p i] : SzLe (easedQ k p) (4 * i + 10) := by
  unfold easedQ
  cases k
  · exact szz (i := i + 1) inferInstance (by omega)
  · exact szz (i := (i + 1) + (i + 1)) inferInstance (by omega)
  · exact szz (i := ((i + 1) + (i + 1) + 1) + ((i + 1) + (i + 1)) + 1) inferInstance (by omega)
  · exact szz (i := ((i + 1) + (i + 1)) + (2 + ((i + 1) + (i + 1) + 1) + 1)) inferInstance (by omega)
  · dsimp only
    split <;> exact szz (i := 1) inferInstance (by omega)
  · dsimp only
    split <;> exact szz (i := 1) inferInstance (by omega)
  · dsimp only
    split <;> exact szz (i := 1) inferInstance (by omega)
def slopeQ (k : Kd) (p : Rat) : Rat := if p < 0 then 0 else if 1 < p then 0 else match k with
  | .even => 1
  | .in_ => p + p
  | .out => 2 - (p + p)
  | .both => 6 * (p - p * p)
  | _ => 0
instance {k : Kd} {p : Rat} {i : Nat} [h : SzLe p i] : SzLe (slopeQ k p) (3 * i + 10) := by
  unfold slopeQ
  split
  · exact szz (i := 1) inferInstance (by omega)
  · split
    · exact szz (i := 1) inferInstance (by omega)
    · cases k <;> dsimp only
      · exact szz (i := 1) inferInstance (by omega)
      · exact szz (i := i + i + 1) inferInstance (by omega)
      · exact szz (i := 2 + (i + i + 1) + 1) inferInstance (by omega)
      · exact szz (i := 3 + (i + (i + i) + 1)) inferInstance (by omega)
      · exact szz (i := 1) inferInstance (by omega)
      · exact szz (i := 1) inferInstance (by omega)
      · exact szz (i := 1) inferInstance (by omega)
theorem keptQ_lo (p : Rat) : 0 ≤ keptQ p := by unfold keptQ; grind
theorem keptQ_hi (p : Rat) : keptQ p ≤ 1 := by unfold keptQ; grind
theorem keptQ_mono {p q : Rat} (h : p ≤ q) : keptQ p ≤ keptQ q := by unfold keptQ; grind
theorem keptQ_in {p : Rat} (h0 : 0 ≤ p) (h1 : p ≤ 1) : keptQ p = p := by unfold keptQ; grind
theorem keptQ_neg {p : Rat} (h : p ≤ 0) : keptQ p = 0 := by unfold keptQ; grind
theorem keptQ_big {p : Rat} (h : 1 ≤ p) : keptQ p = 1 := by unfold keptQ; grind
theorem keptQ_turn (p : Rat) : keptQ (1 - p) = 1 - keptQ p := by unfold keptQ; grind
theorem easedQ_lo (k : Kd) {p : Rat} (h : p ≤ 0) : easedQ k p = 0 := by
  unfold easedQ
  rw [keptQ_neg h]
  cases k <;> simp <;> grind
theorem easedQ_hi (k : Kd) {p : Rat} (h : 1 ≤ p) : easedQ k p = 1 := by
  unfold easedQ
  rw [keptQ_big h]
  cases k <;> simp <;> grind
theorem easedQ_turn (k : Kd) (hk : ¬ k = .kept) (p : Rat) : easedQ (turnK k) (1 - p) = 1 - easedQ k p := by
  unfold easedQ turnK
  cases k <;> dsimp only <;> rw [keptQ_turn] <;> generalize keptQ p = q
  · grind
  · grind
  · grind
  · split <;> split <;> grind
  · split <;> split <;> grind
  · exact absurd rfl hk
theorem mul_le_one_of {q : Rat} (h0 : 0 ≤ q) (h1 : q ≤ 1) : 0 ≤ q * q ∧ q * q ≤ q := by
  have a := Rat.mul_nonneg h0 h0
  have b := Rat.mul_nonneg h0 (show (0 : Rat) ≤ 1 - q by grind)
  constructor <;> grind
theorem easedQ_rng (k : Kd) (p : Rat) : 0 ≤ easedQ k p ∧ easedQ k p ≤ 1 := by
  have h0 := keptQ_lo p
  have h1 := keptQ_hi p
  unfold easedQ
  generalize keptQ p = q at *
  have a := Rat.mul_nonneg h0 h0
  have b := Rat.mul_nonneg h0 (show (0 : Rat) ≤ 1 - q by grind)
  cases k <;> dsimp only
  · exact ⟨h0, h1⟩
  · constructor <;> grind
  · have c := Rat.mul_nonneg (show (0 : Rat) ≤ 1 - q by grind) (show (0 : Rat) ≤ 1 - q by grind)
    constructor <;> grind
  · have c := Rat.mul_nonneg a (show (0 : Rat) ≤ 3 - (q + q) by grind)
    have d := Rat.mul_nonneg (Rat.mul_nonneg (show (0 : Rat) ≤ 1 - q by grind) (show (0 : Rat) ≤ 1 - q by grind)) (show (0 : Rat) ≤ 1 + 2 * q by grind)
    constructor <;> grind
  · split <;> grind
  · split <;> grind
  · split <;> grind
theorem easedQ_mono (k : Kd) {p q : Rat} (h : p ≤ q) : easedQ k p ≤ easedQ k q := by
  have h0 := keptQ_lo p
  have h1 := keptQ_hi q
  have h2 := keptQ_mono h
  unfold easedQ
  generalize keptQ p = x at *
  generalize keptQ q = y at *
  have d0 : (0 : Rat) ≤ y - x := by grind
  have a := Rat.mul_nonneg d0 h0
  have b := Rat.mul_nonneg d0 (show (0 : Rat) ≤ y by grind)
  cases k <;> dsimp only
  · exact h2
  · grind
  · have c := Rat.mul_nonneg d0 (show (0 : Rat) ≤ 1 - y by grind)
    have d := Rat.mul_nonneg d0 (show (0 : Rat) ≤ 1 - x by grind)
    grind
  · have c := Rat.mul_nonneg (Rat.mul_nonneg d0 h0) (show (0 : Rat) ≤ 1 - x by grind)
    have d := Rat.mul_nonneg (Rat.mul_nonneg d0 (show (0 : Rat) ≤ y by grind)) (show (0 : Rat) ≤ 1 - y by grind)
    have e := Rat.mul_nonneg (Rat.mul_nonneg d0 d0) d0
    grind
  · split <;> split <;> grind
  · split <;> split <;> grind
  · split <;> split <;> grind
end GW
namespace GW
/-! ### draws -/
section
variable (ns : List Int) (k : Int)
def downV : Int := 1 + pickV ns k 4
def fracV : Rat := Rat.divInt (pickV ns (k + 1) (12 * downV ns k + 1) - 6 * downV ns k) (downV ns k)
theorem down_rng : 1 ≤ downV ns k ∧ downV ns k ≤ 4 := by
  have := pick_lo ns k (m := 4) (by decide)
  have := pick_hi ns k (m := 4) (by decide)
  unfold downV
  omega
instance frac_sz : SzLe (fracV ns k) 6 := by
  have h := down_rng ns k
  have := pick_lo ns (k + 1) (m := 12 * downV ns k + 1) (by omega)
  have := pick_hi ns (k + 1) (m := 12 * downV ns k + 1) (by omega)
  refine sz_divInt ?_ ?_ (by decide)
  · show _ < 64
    omega
  · show _ < 64
    omega
def down3 : Int := 1 + pickV ns k 3
def sizeV : Rat := Rat.divInt (1 + pickV ns (k + 1) (6 * down3 ns k)) (down3 ns k)
theorem down3_rng : 1 ≤ down3 ns k ∧ down3 ns k ≤ 3 := by
  have := pick_lo ns k (m := 3) (by decide)
  have := pick_hi ns k (m := 3) (by decide)
  unfold down3
  omega
instance size_sz : SzLe (sizeV ns k) 6 := by
  have h := down3_rng ns k
  have := pick_lo ns (k + 1) (m := 6 * down3 ns k) (by omega)
  have := pick_hi ns (k + 1) (m := 6 * down3 ns k) (by omega)
  refine sz_divInt ?_ ?_ (by decide)
  · show _ < 64
    omega
  · show _ < 64
    omega
theorem divInt_pos {u d : Int} (hu : 0 < u) (hd : 0 < d) : 0 < Rat.divInt u d := by
  rw [Rat.divInt_eq_div, Rat.div_def]
  exact Rat.mul_pos (Rat.intCast_pos.mpr hu) (Rat.inv_pos.mpr (Rat.intCast_pos.mpr hd))
theorem size_pos : 0 < sizeV ns k := by
  have h := down3_rng ns k
  have := pick_lo ns (k + 1) (m := 6 * down3 ns k) (by omega)
  exact divInt_pos (by omega) (by omega)
def kindV : Kd := if pickV ns k 6 = 0 then .even else if pickV ns k 6 = 1 then .in_ else if pickV ns k 6 = 2 then .out else if pickV ns k 6 = 3 then .both else if pickV ns k 6 = 4 then .hold else .jump
theorem kind_ne : ¬ kindV ns k = .kept := by
  unfold kindV
  grind
end
theorem divInt_div (u d : Int) : Rat.divInt u d = (u : Rat) / (d : Rat) := by
  exact Rat.divInt_eq_div u d
theorem num_np (p : Rat) : p.num ≤ 0 ↔ p ≤ 0 := by
  have h := Rat.num_nonneg (q := -p)
  rw [Rat.neg_num] at h
  constructor
  · intro z
    have := h.mp (by omega)
    grind
  · intro z
    have := h.mpr (by grind)
    omega
theorem as_div (p : Rat) : p = (p.num : Rat) / ((p.den : Int) : Rat) := by
  rw [← Rat.divInt_eq_div, Rat.num_divInt_den]
theorem den_nz (p : Rat) : ((p.den : Int) : Rat) ≠ 0 := fun z => den_ne p (Rat.intCast_eq_zero_iff.mp z)
theorem eased_out (p : Rat) : Rat.divInt (2 * p.num * p.den - p.num * p.num) ((p.den : Int) * p.den) = p + p - p * p := by
  have h1 := as_div p
  have h2 := den_nz p
  rw [Rat.divInt_eq_div, Rat.intCast_sub, Rat.intCast_mul, Rat.intCast_mul, Rat.intCast_mul, Rat.intCast_mul]
  have h3 : ((2 : Int) : Rat) = 2 := rfl
  rw [h3]
  generalize (p.num : Rat) = x at *
  generalize ((p.den : Int) : Rat) = y at *
  subst h1
  grind
theorem eased_both (p : Rat) : Rat.divInt (3 * p.num * p.num * p.den - 2 * p.num * p.num * p.num) ((p.den : Int) * p.den * p.den) = p * p * (3 - (p + p)) := by
  have h1 := as_div p
  have h2 := den_nz p
  simp only [Rat.divInt_eq_div, Rat.intCast_sub, Rat.intCast_mul]
  have h3 : ((2 : Int) : Rat) = 2 := rfl
  have h4 : ((3 : Int) : Rat) = 3 := rfl
  rw [h3, h4]
  generalize (p.num : Rat) = x at *
  generalize ((p.den : Int) : Rat) = y at *
  subst h1
  grind
end GW
namespace GW
theorem okI_big {i : Int} (h0 : -1000000000000 < i) (h1 : i < 1000000000000) : okI i = true := by
  unfold okI
  simp
  omega
theorem ok_i {i : Int} (h0 : -1000000000000 < i) (h1 : i < 1000000000000) : (okI i = true) = True := by rw [okI_big h0 h1]; simp
theorem ok_ii {i j : Int} (h0 : -1000000000000 < i) (h1 : i < 1000000000000) (h2 : -1000000000000 < j) (h3 : j < 1000000000000) : ((okI i && okI j) = true) = True := by rw [okI_big h0 h1, okI_big h2 h3]; simp
instance : Dq (.str "no frac") 0 := ⟨by decide +kernel⟩
instance : Dq (.str "no kind") 0 := ⟨by decide +kernel⟩
instance : Dq (.str "no name") 0 := ⟨by decide +kernel⟩
instance : Dq (.str "no plan") 0 := ⟨by decide +kernel⟩
instance : Dq (.str "no text") 0 := ⟨by decide +kernel⟩
instance : Dq (.str "no time") 0 := ⟨by decide +kernel⟩
instance : Dq (.str "no track") 0 := ⟨by decide +kernel⟩
instance : Dq (.str "no back") 0 := ⟨by decide +kernel⟩
/-- a statement that is known -/
theorem ws_known {R : Rt} {s : Ps} {ss : List Ps} {Q : Flow → Prop} {ρ ρ' : Env} (h : exec R s ρ = .nx ρ') (k : WS R ss ρ' Q) : WS R (s :: ss) ρ Q := by
  unfold WS at *
  rw [execs_cons, h]
  exact k
theorem turn_ne {k : Kd} (h : ¬ k = .kept) : ¬ turnK k = .kept := by cases k <;> first | exact absurd rfl h | decide
theorem turn_turn (k : Kd) : turnK (turnK k) = k := by cases k <;> rfl
theorem sz_eighth {u : Int} (h : u.natAbs < 32) : SzLe (Rat.divInt u 8) 5 := sz_divInt (by show _ < 32; exact h) (by decide) (by decide)
theorem sz_small {u d : Int} (h : u.natAbs < 1024) (h' : d.natAbs < 1024) : SzLe (Rat.divInt u d) 10 := sz_divInt (by show _ < 1024; exact h) (by show _ < 1024; exact h') (by decide)
theorem divInt_le {u v d : Int} (hd : 0 < d) (h : u ≤ v) : Rat.divInt u d ≤ Rat.divInt v d := by
  rw [Rat.divInt_eq_div, Rat.divInt_eq_div, Rat.div_def, Rat.div_def]
  exact Rat.mul_le_mul_of_nonneg_right (Rat.intCast_le_intCast.mpr h) (Rat.le_of_lt (Rat.inv_pos.mpr (Rat.intCast_pos.mpr hd)))
end GW
end

section
/-! S8: motions, in fractions. -/
namespace GW
abbrev mo (a b t l : Rat) (k : Kd) (u v : Rat) : D := .tup [fr a, fr b, fr t, fr l, .str (kS k), .tup [fr u, fr v]]
def keptWQ (a b l u v p : Rat) : Rat := (a + (b - a) * (3 * (p * p) - 2 * (p * p * p))) + l * (u * (p * p * p - 2 * (p * p) + p) + v * (p * p * p - p * p))
def keptSQ (a b l u v p : Rat) : Rat := (b - a) / l * (6 * (p - p * p)) + (u * (3 * (p * p) - 4 * p + 1) + v * (3 * (p * p) - 2 * p))
section
variable {a b t l u v p x : Rat} {k : Kd} {ia ib it il iu iv ip ix : Nat} [SzLe a ia] [SzLe b ib] [SzLe t it] [SzLe l il] [SzLe u iu] [SzLe v iv] [SzLe p ip] [SzLe x ix]
instance : SzLe (keptWQ a b l u v p) (2 * ia + ib + il + iu + iv + 20 * ip + 40) := by
  unfold keptWQ
  exact szz inferInstance (by omega)
instance : SzLe (keptSQ a b l u v p) (ia + ib + il + iu + iv + 20 * ip + 40) := by
  unfold keptSQ
  exact szz inferInstance (by omega)
end
def worthQ (a b t l : Rat) (k : Kd) (u v x : Rat) : Rat := if k = .kept then keptWQ a b l u v (keptQ ((x - t) / l)) else a + (b - a) * easedQ k ((x - t) / l)
def speedQ (a b t l : Rat) (k : Kd) (u v x : Rat) : Rat := if (x - t) / l < 0 then 0 else if 1 < (x - t) / l then 0 else if k = .kept then keptSQ a b l u v ((x - t) / l) else (b - a) / l * slopeQ k ((x - t) / l)
section
variable {a b t l u v p x : Rat} {k : Kd} {ia ib it il iu iv ip ix : Nat} [SzLe a ia] [SzLe b ib] [SzLe t it] [SzLe l il] [SzLe u iu] [SzLe v iv] [SzLe p ip] [SzLe x ix]
instance : SzLe (worthQ a b t l k u v x) (2 * ia + ib + 21 * il + iu + iv + 20 * it + 20 * ix + 100) := by
  unfold worthQ
  split
  · exact szz inferInstance (by omega)
  · exact szz inferInstance (by omega)
instance : SzLe (speedQ a b t l k u v x) (2 * ia + ib + 22 * il + iu + iv + 20 * it + 20 * ix + 100) := by
  unfold speedQ
  split
  · exact szz (i := 1) inferInstance (by omega)
  · split
    · exact szz (i := 1) inferInstance (by omega)
    · split
      · exact szz inferInstance (by omega)
      · exact szz inferInstance (by omega)
end
/-! ### what they tell -/
section
variable {a b t l u v p x y : Rat} {k : Kd}
theorem part_of (hl : 0 < l) : (t + p * l - t) / l = p := by grind
theorem part_turn (hl : 0 < l) : (t + t + l - x - t) / l = 1 - (x - t) / l := by grind
theorem part_mono (hl : 0 < l) (h : x ≤ y) : (x - t) / l ≤ (y - t) / l := by
  rw [Rat.div_def, Rat.div_def]
  exact Rat.mul_le_mul_of_nonneg_right (by grind) (Rat.le_of_lt (Rat.inv_pos.mpr hl))
theorem worth_lo (h : (x - t) / l ≤ 0) : worthQ a b t l k u v x = a := by
  unfold worthQ
  rw [keptQ_neg h, easedQ_lo k h]
  unfold keptWQ
  split <;> grind
theorem worth_hi (h : 1 ≤ (x - t) / l) : worthQ a b t l k u v x = b := by
  unfold worthQ
  rw [keptQ_big h, easedQ_hi k h]
  unfold keptWQ
  split <;> grind
theorem worth_up (hk : ¬ k = .kept) (hl : 0 < l) (h : a < b) (hx : x ≤ y) : worthQ a b t l k u v x ≤ worthQ a b t l k u v y := by
  unfold worthQ
  rw [if_neg hk, if_neg hk]
  have e := easedQ_mono k (part_mono (t := t) hl hx)
  have := Rat.mul_nonneg (show (0 : Rat) ≤ b - a by grind) (show (0 : Rat) ≤ easedQ k ((y - t) / l) - easedQ k ((x - t) / l) by grind)
  grind
theorem worth_dn (hk : ¬ k = .kept) (hl : 0 < l) (h : b < a) (hx : x ≤ y) : worthQ a b t l k u v y ≤ worthQ a b t l k u v x := by
  unfold worthQ
  rw [if_neg hk, if_neg hk]
  have e := easedQ_mono k (part_mono (t := t) hl hx)
  have := Rat.mul_nonneg (show (0 : Rat) ≤ a - b by grind) (show (0 : Rat) ≤ easedQ k ((y - t) / l) - easedQ k ((x - t) / l) by grind)
  grind
theorem worth_in (hk : ¬ k = .kept) : (a ≤ b → a ≤ worthQ a b t l k u v x ∧ worthQ a b t l k u v x ≤ b) ∧ (b ≤ a → b ≤ worthQ a b t l k u v x ∧ worthQ a b t l k u v x ≤ a) := by
  unfold worthQ
  rw [if_neg hk]
  obtain ⟨e0, e1⟩ := easedQ_rng k ((x - t) / l)
  generalize easedQ k ((x - t) / l) = q at *
  constructor
  · intro h
    have h1 := Rat.mul_nonneg (show (0 : Rat) ≤ b - a by grind) e0
    have h2 := Rat.mul_nonneg (show (0 : Rat) ≤ b - a by grind) (show (0 : Rat) ≤ 1 - q by grind)
    constructor <;> grind
  · intro h
    have h1 := Rat.mul_nonneg (show (0 : Rat) ≤ a - b by grind) e0
    have h2 := Rat.mul_nonneg (show (0 : Rat) ≤ a - b by grind) (show (0 : Rat) ≤ 1 - q by grind)
    constructor <;> grind
theorem turn_kept : turnK k = .kept ↔ k = .kept := by cases k <;> decide
theorem worth_turn (hl : 0 < l) : worthQ b a t l (turnK k) (0 - v) (0 - u) (t + t + l - x) = worthQ a b t l k u v x := by
  unfold worthQ
  rw [part_turn hl, keptQ_turn]
  by_cases hk : k = .kept
  · rw [if_pos hk, if_pos (turn_kept.mpr hk)]
    unfold keptWQ
    grind
  · rw [if_neg hk, if_neg (fun z => hk (turn_kept.mp z)), easedQ_turn k hk]
    grind
theorem worth_moved : worthQ a b (t + y) l k u v (x + y) = worthQ a b t l k u v x := by
  unfold worthQ
  have e : (x + y - (t + y)) / l = (x - t) / l := by grind
  rw [e]
theorem worth_slowed (hl : 0 < l) (hy : 0 < y) : worthQ a b (t * y) (l * y) k (u / y) (v / y) (x * y) = worthQ a b t l k u v x := by
  unfold worthQ
  have e : (x * y - t * y) / (l * y) = (x - t) / l := by grind
  rw [e]
  unfold keptWQ
  split <;> grind
theorem worth_kept (hp0 : 0 ≤ (x - t) / l) (hp1 : (x - t) / l ≤ 1) : worthQ a b t l .kept u v x = a + (b - a) * easedQ .both ((x - t) / l) + l * (u * ((1 - (x - t) / l) * (1 - (x - t) / l) * ((x - t) / l)) - v * ((x - t) / l * ((x - t) / l) * (1 - (x - t) / l))) := by
  unfold worthQ easedQ keptWQ
  rw [keptQ_in hp0 hp1]
  grind
end
def minQ (a b : Rat) : Rat := if b < a then b else a
def maxQ (a b : Rat) : Rat := if a < b then b else a
instance {a b : Rat} {i j : Nat} [ha : SzLe a i] [hb : SzLe b j] : SzLe (minQ a b) (i + j) := by
  unfold minQ
  split
  · exact szz hb (by omega)
  · exact szz ha (by omega)
instance {a b : Rat} {i j : Nat} [ha : SzLe a i] [hb : SzLe b j] : SzLe (maxQ a b) (i + j) := by
  unfold maxQ
  split
  · exact szz hb (by omega)
  · exact szz ha (by omega)
/-! ### drawn motions -/
section
variable (ns : List Int) (k : Int)
def mkV : Kd := if pickV ns (k + 1) 4 = 0 then .kept else kindV ns k
def muV : Rat := if pickV ns (k + 1) 4 = 0 then fracV ns (k + 2) else 0
def mvV : Rat := if pickV ns (k + 1) 4 = 0 then fracV ns (k + 4) else 0
instance : SzLe (muV ns k) 6 := by
  unfold muV
  split
  · infer_instance
  · exact szz (i := 1) inferInstance (by omega)
instance : SzLe (mvV ns k) 6 := by
  unfold mvV
  split
  · infer_instance
  · exact szz (i := 1) inferInstance (by omega)
theorem mk_still : mkV ns k = .kept ∨ (muV ns k = 0 ∧ mvV ns k = 0) := by
  unfold mkV muV mvV
  split
  · exact .inl rfl
  · exact .inr ⟨rfl, rfl⟩
end
end GW
namespace GW
theorem den_le (p : Rat) : ((p.den : Int) ≤ p.num) ↔ 1 ≤ p := by
  have q := Rat.le_iff 1 p
  simp at q
  rw [q]
def timeV (ns : List Int) (j : Int) : Rat := Rat.divInt (pickV ns j 17 - 4) 8
instance time_sz (ns : List Int) (j : Int) : SzLe (timeV ns j) 5 := by
  have := pick_lo ns j (m := 17) (by decide)
  have := pick_hi ns j (m := 17) (by decide)
  exact sz_eighth (by omega)
end GW
namespace GW
section
variable {k : D × Bool → Prop} {xs r : List D} {lo hi : Option Int}
theorem sl_t : OV (slv (.tup xs) lo hi) k = k (.tup (cutL xs lo hi), false) := rfl
theorem sl_l : OV (slv (.lst xs) lo hi) k = k (.lst (cutL xs lo hi), true) := rfl
theorem cut_h1 {a0 : D} : cutL (a0 :: r) none (some 1) = [a0] := by
  have e : cutN (a0 :: r).length (a0 :: r).length (some 1) = 1 := by
    unfold cutN
    dsimp only
    rw [if_neg (by decide)]
    simp only [List.length_cons]
    omega
  unfold cutL
  rw [e]
  rfl
theorem cut_l1 {a0 : D} : cutL (a0 :: r) (some 1) none = r := by
  have e : cutN (a0 :: r).length 0 (some 1) = 1 := by
    unfold cutN
    dsimp only
    rw [if_neg (by decide)]
    simp only [List.length_cons]
    omega
  unfold cutL
  rw [e]
  show ((r).take ((a0 :: r).length - 1)) = r
  rw [List.take_of_length_le (by simp only [List.length_cons]; omega)]
theorem cut_h2 {a0 a1 : D} : cutL (a0 :: a1 :: r) none (some 2) = [a0, a1] := by
  have e : cutN (a0 :: a1 :: r).length (a0 :: a1 :: r).length (some 2) = 2 := by
    unfold cutN
    dsimp only
    rw [if_neg (by decide)]
    simp only [List.length_cons]
    omega
  unfold cutL
  rw [e]
  rfl
theorem cut_l2 {a0 a1 : D} : cutL (a0 :: a1 :: r) (some 2) none = r := by
  have e : cutN (a0 :: a1 :: r).length 0 (some 2) = 2 := by
    unfold cutN
    dsimp only
    rw [if_neg (by decide)]
    simp only [List.length_cons]
    omega
  unfold cutL
  rw [e]
  show ((r).take ((a0 :: a1 :: r).length - 2)) = r
  rw [List.take_of_length_le (by simp only [List.length_cons]; omega)]
theorem cut_h3 {a0 a1 a2 : D} : cutL (a0 :: a1 :: a2 :: r) none (some 3) = [a0, a1, a2] := by
  have e : cutN (a0 :: a1 :: a2 :: r).length (a0 :: a1 :: a2 :: r).length (some 3) = 3 := by
    unfold cutN
    dsimp only
    rw [if_neg (by decide)]
    simp only [List.length_cons]
    omega
  unfold cutL
  rw [e]
  rfl
theorem cut_l3 {a0 a1 a2 : D} : cutL (a0 :: a1 :: a2 :: r) (some 3) none = r := by
  have e : cutN (a0 :: a1 :: a2 :: r).length 0 (some 3) = 3 := by
    unfold cutN
    dsimp only
    rw [if_neg (by decide)]
    simp only [List.length_cons]
    omega
  unfold cutL
  rw [e]
  show ((r).take ((a0 :: a1 :: a2 :: r).length - 3)) = r
  rw [List.take_of_length_le (by simp only [List.length_cons]; omega)]
theorem cut_h4 {a0 a1 a2 a3 : D} : cutL (a0 :: a1 :: a2 :: a3 :: r) none (some 4) = [a0, a1, a2, a3] := by
  have e : cutN (a0 :: a1 :: a2 :: a3 :: r).length (a0 :: a1 :: a2 :: a3 :: r).length (some 4) = 4 := by
    unfold cutN
    dsimp only
    rw [if_neg (by decide)]
    simp only [List.length_cons]
    omega
  unfold cutL
  rw [e]
  rfl
theorem cut_l4 {a0 a1 a2 a3 : D} : cutL (a0 :: a1 :: a2 :: a3 :: r) (some 4) none = r := by
  have e : cutN (a0 :: a1 :: a2 :: a3 :: r).length 0 (some 4) = 4 := by
    unfold cutN
    dsimp only
    rw [if_neg (by decide)]
    simp only [List.length_cons]
    omega
  unfold cutL
  rw [e]
  show ((r).take ((a0 :: a1 :: a2 :: a3 :: r).length - 4)) = r
  rw [List.take_of_length_le (by simp only [List.length_cons]; omega)]
theorem cut_h5 {a0 a1 a2 a3 a4 : D} : cutL (a0 :: a1 :: a2 :: a3 :: a4 :: r) none (some 5) = [a0, a1, a2, a3, a4] := by
  have e : cutN (a0 :: a1 :: a2 :: a3 :: a4 :: r).length (a0 :: a1 :: a2 :: a3 :: a4 :: r).length (some 5) = 5 := by
    unfold cutN
    dsimp only
    rw [if_neg (by decide)]
    simp only [List.length_cons]
    omega
  unfold cutL
  rw [e]
  rfl
theorem cut_l5 {a0 a1 a2 a3 a4 : D} : cutL (a0 :: a1 :: a2 :: a3 :: a4 :: r) (some 5) none = r := by
  have e : cutN (a0 :: a1 :: a2 :: a3 :: a4 :: r).length 0 (some 5) = 5 := by
    unfold cutN
    dsimp only
    rw [if_neg (by decide)]
    simp only [List.length_cons]
    omega
  unfold cutL
  rw [e]
  show ((r).take ((a0 :: a1 :: a2 :: a3 :: a4 :: r).length - 5)) = r
  rw [List.take_of_length_le (by simp only [List.length_cons]; omega)]
theorem cut_2_4 {a0 a1 a2 a3 : D} : cutL (a0 :: a1 :: a2 :: a3 :: r) (some 2) (some 4) = [a2, a3] := by
  have e : cutN (a0 :: a1 :: a2 :: a3 :: r).length 0 (some 2) = 2 := by
    unfold cutN
    dsimp only
    rw [if_neg (by decide)]
    simp only [List.length_cons]
    omega
  have e' : cutN (a0 :: a1 :: a2 :: a3 :: r).length (a0 :: a1 :: a2 :: a3 :: r).length (some 4) = 4 := by
    unfold cutN
    dsimp only
    rw [if_neg (by decide)]
    simp only [List.length_cons]
    omega
  unfold cutL
  rw [e, e']
  rfl
theorem r_nn {u : Rat} : (0 : Rat) - (0 - u) = u := by grind
theorem ints_get {sl : List Int} {i : Nat} {d : D} (z : Int) (h : (sl.map D.int)[i]? = some d) : i < sl.length ∧ d = .int (sl.getD i z) := by
  rw [List.getElem?_map] at h
  obtain ⟨x, h1, rfl⟩ := Option.map_eq_some_iff.mp h
  obtain ⟨h2, h3⟩ := List.getElem?_eq_some_iff.mp h1
  subst h3
  refine ⟨h2, ?_⟩
  rw [List.getD_eq_getElem?_getD, List.getElem?_eq_getElem h2]
  rfl
theorem rng_get {a : Int} {m i : Nat} {d : D} (h : ((List.range m).map fun (n : Nat) => D.int (a + n))[i]? = some d) : i < m ∧ d = .int (a + i) := by
  rw [List.getElem?_map] at h
  obtain ⟨x, h1, rfl⟩ := Option.map_eq_some_iff.mp h
  obtain ⟨h2, h3⟩ := List.getElem?_eq_some_iff.mp h1
  rw [List.getElem_range] at h3
  rw [List.length_range] at h2
  subst h3
  exact ⟨h2, rfl⟩
theorem rng1_get {m i : Nat} {d : D} (h : ((List.range m).map fun (n : Nat) => D.int n)[i]? = some d) : i < m ∧ d = .int i := by
  rw [List.getElem?_map] at h
  obtain ⟨x, h1, rfl⟩ := Option.map_eq_some_iff.mp h
  obtain ⟨h2, h3⟩ := List.getElem?_eq_some_iff.mp h1
  rw [List.getElem_range] at h3
  rw [List.length_range] at h2
  subst h3
  exact ⟨h2, rfl⟩
theorem eighth_le {z : Int} (h : z ≤ 0) : Rat.divInt z 8 ≤ 0 := by
  have := divInt_le (u := z) (v := 0) (d := 8) (by decide) h
  rwa [Rat.zero_divInt] at this
theorem eighth_ge {z : Int} (h : 8 ≤ z) : 1 ≤ Rat.divInt z 8 := by
  have := divInt_le (u := 8) (v := z) (d := 8) (by decide) h
  rwa [show Rat.divInt 8 8 = 1 by decide +kernel] at this
theorem sz_bits {u d : Int} (n : Nat) (h : u.natAbs < 2 ^ n) (h' : d.natAbs < 2 ^ n) (h0 : 0 < n) : SzLe (Rat.divInt u d) n := sz_divInt h h' h0
end
end GW
end

section
/-! S9: lengths. -/
namespace GW
theorem ld {n : Nat} (h : n ≤ 1000000) : (n ≤ lineD) = True := by
  unfold lineD
  simp
  omega
theorem ld2 {n : Nat} (h : n ≤ 1000000) : (n < lineD) = True := by
  unfold lineD
  simp
  omega
theorem is_fr {q : Rat} {k : Bool → Prop} : OV (cmpv .is_ (fr q) .non) k = k false := rfl
theorem isn_fr {q : Rat} {k : Bool → Prop} : OV (cmpv .isnot (fr q) .non) k = k true := rfl
section
variable {k : D → Prop} {kb : Bool → Prop} {kp : D × Bool → Prop} {xs : List D} {i : Int}
theorem bo_ix : OV (bov .ix (.lst xs) [.int i]) kp = OV (ixv (.lst xs) (.int i)) fun d => kp (d, false) := by
  show OV ((ixL xs i).map (·, false)) kp = OV (ixL xs i) _
  cases ixL xs i <;> rfl
theorem ix_g (h0 : 0 ≤ i) (h1 : i < xs.length) : OV (ixv (.lst xs) (.int i)) k = k (xs.getD i.toNat .non) := by
  show OV (ixL xs i) k = _
  unfold ixL ixN
  rw [if_pos h0, if_pos h1]
  have h2 : i.toNat < xs.length := by omega
  dsimp only [Option.bind]
  rw [List.getElem?_eq_getElem h2, List.getD_eq_getElem?_getD, List.getElem?_eq_getElem h2]
  rfl
theorem b_pow6 : OV (binv .pow (.int 10) (.int 6)) kp = kp (.int 1000000, false) := by kernel_rfl
theorem bi_sort {a b : Rat} : OV (biv .sorted [.lst [fr a, fr b]]) kp = kp (.lst (sortB ltD [fr a, fr b]), true) := rfl
theorem bi_sortp (h : (xs.all fun x => (p2? x).isSome) = true) : OV (biv .sorted [.lst xs]) kp = kp (.lst (sortB ltD xs), true) := by
  show OV (if (xs.all fun x => (p2? x).isSome) = true then _ else _) kp = _
  rw [if_pos h]
  rfl
theorem p2_fr {q : Rat} : (p2? (fr q)).isSome = true := rfl
theorem sort2 (x y : D) : sortB ltD [x, y] = if ltD y x then [y, x] else [x, y] := rfl
theorem kd_fr {a b : Rat} (h : kD (fr a) = kD (fr b)) : a = b := by
  have h1 : a.num = b.num := congrArg Prod.fst h
  have h2 : (a.den : Int) = b.den := congrArg Prod.snd h
  exact Rat.ext h1 (by omega)
theorem sort2_comm (a b : Rat) : sortB ltD [fr a, fr b] = sortB ltD [fr b, fr a] := by
  rw [sort2, sort2]
  have h1 := @SrtO.lexB_iff (kD (fr a)) (kD (fr b))
  have h2 := @SrtO.lexB_iff (kD (fr b)) (kD (fr a))
  unfold ltD
  cases e1 : SrtO.lexB (kD (fr a)) (kD (fr b)) with
  | true =>
    have g1 := h1.mp e1
    have e2 : SrtO.lexB (kD (fr b)) (kD (fr a)) = false := by
      rw [SrtO.lexB_no]
      omega
    rw [e2]
    rfl
  | false =>
    cases e2 : SrtO.lexB (kD (fr b)) (kD (fr a)) with
    | true => rfl
    | false =>
      have g1 := SrtO.lexB_no.mp e1
      have g2 := SrtO.lexB_no.mp e2
      have e : a = b := kd_fr (Prod.ext (by omega) (by omega))
      rw [e]
theorem sort_mm (a b : Rat) : sortB ltD [fr (minQ a b), fr (maxQ a b)] = sortB ltD [fr a, fr b] := by
  unfold minQ maxQ
  by_cases h : b < a
  · rw [if_pos h, if_neg (by grind)]
    exact sort2_comm b a
  · by_cases h2 : a < b
    · rw [if_neg h, if_pos h2]
    · have e : a = b := by grind
      subst e
      rw [if_neg h]
instance {a b : Rat} : Dq (.lst (sortB ltD [fr a, fr b])) 2 := by
  rw [sort2]
  split
  · exact inferInstanceAs (Dq (.lst [fr b, fr a]) 2)
  · exact inferInstanceAs (Dq (.lst [fr a, fr b]) 2)
theorem lit_m12 : D.tup [.int (-1), .int 2] = fr (-1 / 2) := by
  have h1 : (-1 / 2 : Rat).num = -1 := by decide +kernel
  have h2 : (-1 / 2 : Rat).den = 2 := by decide +kernel
  unfold fr
  rw [h1, h2]
  rfl
end
theorem bq_tt : (true == true) = true := rfl
theorem bq_ff : (false == false) = true := rfl
theorem bq_tf : (true == false) = false := rfl
theorem bq_ft : (false == true) = false := rfl
theorem b_mul3 {x : D} {kp : D × Bool → Prop} : OV (binv .mul (.tup [x]) (.int 3)) kp = kp (.tup [x, x, x], false) := by
  have e : binv .mul (.tup [x]) (.int 3) = some (.tup [x, x, x], false) := rfl
  rw [e]
  rfl
end GW
end

section
/-! S10: tracks. -/
namespace GW
structure Mo where
  (a b t l : Rat)
  k : Kd
  (u v : Rat)
abbrev dM (m : Mo) : D := mo m.a m.b m.t m.l m.k m.u m.v
class MoOk (m : Mo) : Prop where
  sa : SzLe m.a 40
  sb : SzLe m.b 40
  st : SzLe m.t 120
  sl : SzLe m.l 40
  su : SzLe m.u 40
  sv : SzLe m.v 40
  hl : 0 < m.l
  hk : m.k = .kept ∨ (m.u = 0 ∧ m.v = 0)
instance {m : Mo} [h : MoOk m] : SzLe m.a 40 := h.sa
instance {m : Mo} [h : MoOk m] : SzLe m.b 40 := h.sb
instance {m : Mo} [h : MoOk m] : SzLe m.t 120 := h.st
instance {m : Mo} [h : MoOk m] : SzLe m.l 40 := h.sl
instance {m : Mo} [h : MoOk m] : SzLe m.u 40 := h.su
instance {m : Mo} [h : MoOk m] : SzLe m.v 40 := h.sv
theorem MoOk.ne {m : Mo} (h : MoOk m) : ¬ m.l = 0 := by have := h.hl; grind
abbrev dT (w : Rat) (ms : List Mo) : D := .tup [fr w, .tup (ms.map dM)]
/-- motions one behind the other, each from where the one ahead ends -/
structure TrOk (ms : List Mo) : Prop where
  all : ∀ m ∈ ms, MoOk m
  ord : ∀ p ∈ ms.zip ms.tail, p.1.t + p.1.l ≤ p.2.t
section
variable {k : D → Prop} {kb : Bool → Prop} {kp : D × Bool → Prop} {xs ys : List D} {x y d : D} {i : Int} {ds : List D}
theorem zip_tail_app {α : Type} : ∀ (l : List α) (x : α), (l ++ [x]).zip (l ++ [x]).tail = l.zip l.tail ++ (match l.getLast? with | some y => [(y, x)] | none => [])
  | [], x => rfl
  | [y], x => rfl
  | y :: z :: l, x => by
    have h := zip_tail_app (z :: l) x
    show (y, z) :: ((z :: l) ++ [x]).zip ((z :: l) ++ [x]).tail = _
    rw [h]
    have e : (y :: z :: l).getLast? = (z :: l).getLast? := by simp
    rw [e]
    rfl
theorem ix_last : OV (ixv (.lst (xs ++ [x])) (.int (-1))) k = k x := by
  show OV (ixL (xs ++ [x]) (-1)) k = _
  unfold ixL ixN
  rw [if_neg (by decide), if_pos (by simp; omega)]
  dsimp only [Option.bind]
  have e : (-1 + ((xs ++ [x]).length : Int)).toNat = xs.length := by simp; omega
  rw [e, List.getElem?_append_right (Nat.le_refl _)]
  simp [OV]
theorem ix_lastt : OV (ixv (.tup (xs ++ [x])) (.int (-1))) k = k x := ix_last
theorem bo_ne : OV (bov .ne d [x]) kp = OV (cmpv .ne d x) fun b => kp (.bl b, false) := by
  show OV ((cmpv .ne d x).map _) kp = _
  cases cmpv .ne d x <;> rfl
theorem bo_eq : OV (bov .eq d [x]) kp = OV (cmpv .eq d x) fun b => kp (.bl b, false) := by
  show OV ((cmpv .eq d x).map _) kp = _
  cases cmpv .eq d x <;> rfl
theorem bo_in : OV (bov .in_ d [x]) kp = OV (cmpv .in_ x d) fun b => kp (.bl b, false) := by
  show OV ((cmpv .in_ x d).map _) kp = _
  cases cmpv .in_ x d <;> rfl
theorem bo_nin : OV (bov .nin d [x]) kp = OV (cmpv .nin x d) fun b => kp (.bl b, false) := by
  show OV ((cmpv .nin x d).map _) kp = _
  cases cmpv .nin x d <;> rfl
theorem bo_len : OV (bov .len d []) kp = OV (biv .len [d]) kp := rfl
theorem deps_app : ∀ (xs ys : List D), D.deps (xs ++ ys) = max (D.deps xs) (D.deps ys)
  | [], ys => by
    have e : D.deps [] = 0 := by unfold D.deps; rfl
    rw [List.nil_append, e]
    omega
  | x :: xs, ys => by
    have e : ∀ zs, D.deps (x :: zs) = max (D.dep x) (D.deps zs) := fun zs => by (conv => lhs; unfold D.deps)
    rw [List.cons_append, e, e, deps_app xs ys]
    omega
instance {xs ys : List D} {i j : Nat} [a : Dqs xs i] [b : Dqs ys j] : Dqs (xs ++ ys) (max i j) := ⟨by rw [deps_app]; have := a.h; have := b.h; omega⟩
theorem eqvs_app_nil : D.eqvs (xs ++ [x]) [] = false := by
  cases xs <;> (simp only [List.nil_append, List.cons_append]; unfold D.eqvs; rfl)
theorem c_neapp {n : Nat} [H : Dqs (xs ++ [x]) n] (h : n ≤ 50) : OV (cmpv .ne (.lst (xs ++ [x])) (.lst [])) kb = kb true := by
  have e := H.h
  have d1 : D.dep (.lst (xs ++ [x])) ≤ 60 := by unfold D.dep; omega
  have d2 : D.dep (.lst []) ≤ 60 := by unfold D.dep D.deps; omega
  show OV (if deep _ _ = true then some (!D.eqv _ _) else none) kb = _
  rw [if_pos (by unfold deep; simp [d1, d2])]
  unfold D.eqv
  rw [eqvs_app_nil]
  rfl
theorem c_neappt {n : Nat} [H : Dqs (xs ++ [x]) n] (h : n ≤ 50) : OV (cmpv .ne (.tup (xs ++ [x])) (.tup [])) kb = kb true := by
  have e := H.h
  have d1 : D.dep (.tup (xs ++ [x])) ≤ 60 := by unfold D.dep; omega
  have d2 : D.dep (.tup []) ≤ 60 := by unfold D.dep D.deps; omega
  show OV (if deep _ _ = true then some (!D.eqv _ _) else none) kb = _
  rw [if_pos (by unfold deep; simp [d1, d2])]
  unfold D.eqv
  rw [eqvs_app_nil]
  rfl
theorem c_eqappt {n : Nat} [H : Dqs (xs ++ [x]) n] (h : n ≤ 50) : OV (cmpv .eq (.tup (xs ++ [x])) (.tup [])) kb = kb false := by
  have e := H.h
  have d1 : D.dep (.tup (xs ++ [x])) ≤ 60 := by unfold D.dep; omega
  have d2 : D.dep (.tup []) ≤ 60 := by unfold D.dep D.deps; omega
  show OV (if deep _ _ = true then some (D.eqv _ _) else none) kb = _
  rw [if_pos (by unfold deep; simp [d1, d2])]
  unfold D.eqv
  rw [eqvs_app_nil]
  rfl
theorem c_eqapp {n : Nat} [H : Dqs (xs ++ [x]) n] (h : n ≤ 50) : OV (cmpv .eq (.lst (xs ++ [x])) (.lst [])) kb = kb false := by
  have e := H.h
  have d1 : D.dep (.lst (xs ++ [x])) ≤ 60 := by unfold D.dep; omega
  have d2 : D.dep (.lst []) ≤ 60 := by unfold D.dep D.deps; omega
  show OV (if deep _ _ = true then some (D.eqv _ _) else none) kb = _
  rw [if_pos (by unfold deep; simp [d1, d2])]
  unfold D.eqv
  rw [eqvs_app_nil]
  rfl
/-! ### all, any, zip -/
theorem boolsv_map {α : Type} {f : α → Bool} : ∀ {l : List α}, boolsv (l.map fun a => D.bl (f a)) = some (l.map f)
  | [] => rfl
  | a :: l => by
    rw [List.map_cons, List.map_cons]
    unfold boolsv
    rw [boolsv_map]
    rfl
theorem bi_all {α : Type} {f : α → Bool} {l : List α} : OV (biv .all [.lst (l.map fun a => D.bl (f a))]) kp = kp (.bl ((l.map f).all id), false) := by
  show OV ((boolsv _).map _) kp = _
  rw [boolsv_map]
  rfl
theorem bi_any {α : Type} {f : α → Bool} {l : List α} : OV (biv .any [.lst (l.map fun a => D.bl (f a))]) kp = kp (.bl ((l.map f).any id), false) := by
  show OV ((boolsv _).map _) kp = _
  rw [boolsv_map]
  rfl
theorem zip_map {α : Type} {f : α → D} : ∀ {l m : List α}, List.zipWith pairD (l.map f) (m.map f) = (l.zip m).map fun p => pairD (f p.1) (f p.2)
  | [], _ => rfl
  | _ :: _, [] => rfl
  | a :: l, b :: m => by
    rw [List.map_cons, List.map_cons, List.zip_cons_cons, List.map_cons, ← zip_map]
    rfl
theorem cut_tail {α : Type} {f : α → D} {l : List α} : cutL (l.map f) (some 1) none = l.tail.map f := by
  cases l with
  | nil => rfl
  | cons a l =>
    rw [List.map_cons, cut_l1]
    rfl
theorem zp_t : OV (zipv (.tup xs) (.tup ys)) (fun zs => k (.lst zs)) = k (.lst (List.zipWith pairD xs ys)) := rfl
theorem zp_l : OV (zipv (.lst xs) (.lst ys)) (fun zs => k (.lst zs)) = k (.lst (List.zipWith pairD xs ys)) := rfl
theorem zp_t' {kl : List D → Prop} : OV (zipv (.tup xs) (.tup ys)) kl = kl (List.zipWith pairD xs ys) := rfl
theorem zp_l' {kl : List D → Prop} : OV (zipv (.lst xs) (.lst ys)) kl = kl (List.zipWith pairD xs ys) := rfl
theorem it_tm {kl : List D → Prop} : OV (itemsv (.tup xs)) kl = kl xs := rfl
end
theorem concat_cases {α : Type} (l : List α) : l = [] ∨ ∃ m x, l = m ++ [x] := by
  rcases List.eq_nil_or_concat l with h | ⟨m, x, h⟩
  · exact .inl h
  · exact .inr ⟨m, x, by simpa using h⟩
end GW
end

section
/-! S11: drawn tracks. -/
namespace GW
section
variable (ns : List Int) (j : Int)
def lastB (w : Rat) (ms : List Mo) : Rat := match ms.getLast? with
  | some p => p.b
  | none => w
def trMo (w : Rat) (st : List Mo × Rat) (i : Nat) : Mo := ⟨lastB w st.1, fracV ns (j + 10 + 20 * i + 8), st.2, sizeV ns (j + 10 + 20 * i + 10), mkV ns (j + 10 + 20 * i), muV ns (j + 10 + 20 * i), mvV ns (j + 10 + 20 * i)⟩
def trStep (w : Rat) (st : List Mo × Rat) (i : Nat) : List Mo × Rat :=
  (st.1 ++ [trMo ns j w st i], if pickV ns (j + 10 + 20 * i + 14) 2 = 0 then st.2 + sizeV ns (j + 10 + 20 * i + 10) + sizeV ns (j + 10 + 20 * i + 15) else st.2 + sizeV ns (j + 10 + 20 * i + 10))
def trFold : Nat → List Mo × Rat
  | 0 => ([], fracV ns (j + 2))
  | i + 1 => trStep ns j (fracV ns j) (trFold i) i
def trV (most : Int) : List Mo := (trFold ns j (pickV ns (j + 4) (most + 1)).toNat).1
instance trT_sz : ∀ i, SzLe (trFold ns j i).2 (6 + 14 * i)
  | 0 => frac_sz ns (j + 2)
  | i + 1 => by
    have := trT_sz i
    show SzLe (if pickV ns (j + 10 + 20 * i + 14) 2 = 0 then _ else _) _
    split
    · exact szz inferInstance (by omega)
    · exact szz inferInstance (by omega)
/-- each from where the one ahead ends -/
def Lnk (w : Rat) (ms : List Mo) : Prop := (∀ m, ms.head? = some m → m.a = w) ∧ ∀ p ∈ ms.zip ms.tail, p.1.b = p.2.a
theorem trFold_len : ∀ i, (trFold ns j i).1.length = i
  | 0 => rfl
  | i + 1 => by
    show ((trFold ns j i).1 ++ [_]).length = _
    rw [List.length_append, trFold_len i]
    rfl
theorem lastB_app {w : Rat} {ms : List Mo} {m : Mo} : lastB w (ms ++ [m]) = m.b := by
  unfold lastB
  simp
theorem lastB_sz {w : Rat} {ms : List Mo} (hw : SzLe w 6) (h : ∀ m ∈ ms, SzLe m.b 6) : SzLe (lastB w ms) 6 := by
  rcases concat_cases ms with rfl | ⟨l, m, rfl⟩
  · exact hw
  · rw [lastB_app]
    exact h m (by simp)
theorem trFold_ok : ∀ i, i ≤ 7 → (∀ m ∈ (trFold ns j i).1, MoOk m ∧ SzLe m.b 6 ∧ m.t + m.l ≤ (trFold ns j i).2) ∧ TrOk (trFold ns j i).1 ∧ Lnk (fracV ns j) (trFold ns j i).1
  | 0, _ => ⟨fun m h => absurd h (by show m ∉ []; simp), ⟨fun m h => absurd h (by show m ∉ []; simp), fun p h => absurd h (by show p ∉ []; simp)⟩, fun m h => (by cases h), fun p h => absurd h (by show p ∉ []; simp)⟩
  | i + 1, hi => by
    obtain ⟨h1, h2, h3, h4⟩ := trFold_ok i (by omega)
    have hl := size_pos ns (j + 10 + 20 * i + 10)
    have hs := size_pos ns (j + 10 + 20 * i + 15)
    have hm : MoOk (trMo ns j (fracV ns j) (trFold ns j i) i) := by
      refine ⟨?_, ?_, ?_, ?_, ?_, ?_, hl, mk_still ns _⟩
      · exact szz (lastB_sz inferInstance fun m hm => (h1 m hm).2.1) (by decide)
      · exact szz (frac_sz ns _) (by decide)
      · exact szz (trT_sz ns j i) (by omega)
      · exact szz (size_sz ns _) (by decide)
      · exact szz (i := 6) (inferInstanceAs (SzLe (muV ns _) 6)) (by decide)
      · exact szz (i := 6) (inferInstanceAs (SzLe (mvV ns _) 6)) (by decide)
    have e1 : (trFold ns j (i + 1)).1 = (trFold ns j i).1 ++ [trMo ns j (fracV ns j) (trFold ns j i) i] := rfl
    have e2 : (trFold ns j i).2 + sizeV ns (j + 10 + 20 * i + 10) ≤ (trFold ns j (i + 1)).2 := by
      show _ ≤ (if pickV ns (j + 10 + 20 * i + 14) 2 = 0 then _ else _)
      split <;> grind
    have e3 : (trMo ns j (fracV ns j) (trFold ns j i) i).t = (trFold ns j i).2 := rfl
    have e4 : (trMo ns j (fracV ns j) (trFold ns j i) i).l = sizeV ns (j + 10 + 20 * i + 10) := rfl
    have e5 : (trMo ns j (fracV ns j) (trFold ns j i) i).a = lastB (fracV ns j) (trFold ns j i).1 := rfl
    have e6 : SzLe (trMo ns j (fracV ns j) (trFold ns j i) i).b 6 := frac_sz ns _
    rw [e1]
    generalize trMo ns j (fracV ns j) (trFold ns j i) i = m' at *
    generalize (trFold ns j i).1 = ms at *
    refine ⟨fun m h => ?_, ⟨fun m h => ?_, fun p hp => ?_⟩, fun m hm => ?_, fun p hp => ?_⟩
    · rcases List.mem_append.mp h with h | h
      · obtain ⟨a1, a2, a3⟩ := h1 m h
        exact ⟨a1, a2, by grind⟩
      · rw [List.mem_singleton.mp h]
        exact ⟨hm, e6, by grind⟩
    · rcases List.mem_append.mp h with h | h
      · exact h2.all m h
      · rw [List.mem_singleton.mp h]
        exact hm
    · rw [zip_tail_app] at hp
      rcases List.mem_append.mp hp with hp | hp
      · exact h2.ord p hp
      · rcases concat_cases ms with rfl | ⟨l, x, rfl⟩
        · simp at hp
        · simp at hp
          subst hp
          have := (h1 x (by simp)).2.2
          dsimp only
          grind
    · rcases concat_cases ms with rfl | ⟨l, x, rfl⟩
      · simp at hm
        subst hm
        exact e5
      · refine h3 m ?_
        cases l <;> simpa using hm
    · rw [zip_tail_app] at hp
      rcases List.mem_append.mp hp with hp | hp
      · exact h4 p hp
      · rcases concat_cases ms with rfl | ⟨l, x, rfl⟩
        · simp at hp
        · simp at hp
          subst hp
          rw [lastB_app] at e5
          exact e5.symm
end
end GW
namespace GW
theorem pair_tup {x y : D} : pairD x y = .tup [x, y] := rfl
theorem al_t {α : Type} {l : List α} : ((l.map fun _ => true).all id) = true := by simp
theorem lit_m99 : D.tup [.int (-99), .int 1] = fr (-99) := rfl
instance : SzLe (-99 : Rat) 8 := ⟨by decide, by decide⟩
instance : Dq (.str "even") 0 := ⟨by decide +kernel⟩
instance : Dq (.str "in") 0 := ⟨by decide +kernel⟩
instance : Dq (.str "out") 0 := ⟨by decide +kernel⟩
instance : Dq (.str "both") 0 := ⟨by decide +kernel⟩
instance : Dq (.str "hold") 0 := ⟨by decide +kernel⟩
instance : Dq (.str "jump") 0 := ⟨by decide +kernel⟩
instance : Dq (.str "kept") 0 := ⟨by decide +kernel⟩
instance : Dq (.str "slow") 0 := ⟨by decide +kernel⟩
end GW
end

section
/-! S12: plans. -/
namespace GW
inductive Pn where
  | wait (s : Rat)
  | go (by_ : Bool) (w s : Rat) (k : Kd)
  | thn (p q : Pn)
  | again (m : Nat) (p : Pn)
def dP : Pn → D
  | .wait s => .tup [.str "wait", fr s]
  | .go false w s k => .tup [.str "go", fr w, fr s, .str (kS k)]
  | .go true w s k => .tup [.str "by", fr w, fr s, .str (kS k)]
  | .thn p q => .tup [.str "then", dP p, dP q]
  | .again m p => .tup [.str "again", .int m, dP p]
def stepsP : Pn → List Pn
  | .thn p q => stepsP p ++ stepsP q
  | .again m p => (List.replicate m (stepsP p)).flatten
  | p => [p]
def sizeP : Pn → Rat
  | .wait s => s
  | .go _ _ s _ => s
  | .thn p q => sizeP p + sizeP q
  | .again m p => ((m : Int) : Rat) * sizeP p
/-- a plan, so deep at most -/
def PnZ (z : Nat) : Nat → Pn → Prop
  | 0, _ => False
  | _ + 1, .wait s => 0 < s ∧ SzLe s z
  | _ + 1, .go _ w s k => SzLe w 6 ∧ 0 < s ∧ SzLe s z ∧ ¬ k = .kept
  | d + 1, .thn p q => PnZ z d p ∧ PnZ z d q
  | d + 1, .again m p => m ≤ 4 ∧ PnZ z d p
/-- of steps of at most 6 bits -/
abbrev PnOk : Nat → Pn → Prop := PnZ 6
def szP (z : Nat) : Nat → Nat
  | 0 => z + 6
  | d + 1 => 2 * szP z d + 4
theorem szP_lo {z : Nat} : ∀ d, z + 6 ≤ szP z d
  | 0 => Nat.le_refl _
  | d + 1 => by
    have := szP_lo (z := z) d
    show z + 6 ≤ 2 * szP z d + 4
    omega
instance {m : Nat} : SzLe ((m : Int) : Rat) (m + 1) := by
  constructor
  · show (m : Int).natAbs < 2 ^ (m + 1)
    have : m < 2 ^ m := Nat.lt_two_pow_self
    have e : 2 ^ (m + 1) = 2 ^ m * 2 := Nat.pow_succ 2 m
    omega
  · show 1 < 2 ^ (m + 1)
    exact Nat.one_lt_two_pow (by omega)
theorem sizeP_sz {z : Nat} : ∀ {d : Nat} {p : Pn}, PnZ z d p → SzLe (sizeP p) (szP z d)
  | 0, _, h => h.elim
  | d + 1, .wait s, h => szz h.2 (by show z ≤ 2 * szP z d + 4; have := szP_lo (z := z) d; omega)
  | d + 1, .go _ w s k, h => szz h.2.2.1 (by show z ≤ 2 * szP z d + 4; have := szP_lo (z := z) d; omega)
  | d + 1, .thn p q, h => by
    have h1 := sizeP_sz h.1
    have h2 := sizeP_sz h.2
    show SzLe (sizeP p + sizeP q) (2 * szP z d + 4)
    exact szz inferInstance (by omega)
  | d + 1, .again m p, h => by
    have h2 := sizeP_sz h.2
    have h1 := h.1
    have := szP_lo (z := z) d
    show SzLe (((m : Int) : Rat) * sizeP p) (2 * szP z d + 4)
    exact szz inferInstance (by omega)
theorem steps_len {z : Nat} : ∀ {d : Nat} {p : Pn}, PnZ z d p → (stepsP p).length ≤ 4 ^ d
  | 0, _, h => h.elim
  | d + 1, .wait s, h => Nat.one_le_pow _ _ (by decide)
  | d + 1, .go _ w s k, h => Nat.one_le_pow _ _ (by decide)
  | d + 1, .thn p q, h => by
    have h1 := steps_len h.1
    have h2 := steps_len h.2
    show (stepsP p ++ stepsP q).length ≤ _
    rw [List.length_append, Nat.pow_succ]
    omega
  | d + 1, .again m p, h => by
    have h1 := steps_len h.2
    have h2 := h.1
    show ((List.replicate m (stepsP p)).flatten).length ≤ _
    rw [List.length_flatten, List.map_replicate, List.sum_replicate_nat, Nat.pow_succ]
    have := Nat.mul_le_mul h2 h1
    omega
/-- a single step -/
def IsStep : Pn → Prop
  | .wait _ => True
  | .go _ _ _ _ => True
  | _ => False
theorem steps_ok {z : Nat} : ∀ {d : Nat} {p : Pn}, PnZ z d p → ∀ q ∈ stepsP p, IsStep q ∧ PnZ z 1 q
  | 0, _, h => h.elim
  | d + 1, .wait s, h => fun q hq => by
    have e := List.mem_singleton.mp hq
    subst e
    exact ⟨trivial, h⟩
  | d + 1, .go _ w s k, h => fun q hq => by
    have e := List.mem_singleton.mp hq
    subst e
    exact ⟨trivial, h⟩
  | d + 1, .thn p q, h => fun x hx => by
    rcases List.mem_append.mp hx with hx | hx
    · exact steps_ok h.1 x hx
    · exact steps_ok h.2 x hx
  | d + 1, .again m p, h => fun x hx => by
    have hx : x ∈ (List.replicate m (stepsP p)).flatten := hx
    obtain ⟨l, h1, h2⟩ := List.mem_flatten.mp hx
    have e := List.eq_of_mem_replicate h1
    subst e
    exact steps_ok h.2 x h2
def sumQ : List Rat → Rat
  | [] => 0
  | x :: l => x + sumQ l
theorem sumQ_app : ∀ (l m : List Rat), sumQ (l ++ m) = sumQ l + sumQ m
  | [], m => by
    show sumQ m = 0 + sumQ m
    grind
  | x :: l, m => by
    show x + sumQ (l ++ m) = x + sumQ l + sumQ m
    rw [sumQ_app l m]
    grind
theorem sumQ_rep (l : List Rat) : ∀ m : Nat, sumQ ((List.replicate m l).flatten) = ((m : Int) : Rat) * sumQ l
  | 0 => by
    show (0 : Rat) = ((0 : Int) : Rat) * sumQ l
    rw [show ((0 : Int) : Rat) = 0 from rfl]
    grind
  | m + 1 => by
    rw [List.replicate_succ, List.flatten_cons, sumQ_app, sumQ_rep l m]
    have e : (((m + 1 : Nat) : Int) : Rat) = ((m : Int) : Rat) + 1 := by
      rw [show ((m + 1 : Nat) : Int) = (m : Int) + 1 from rfl, Rat.intCast_add]
      rfl
    rw [e]
    grind
theorem size_sum : ∀ p : Pn, sizeP p = sumQ ((stepsP p).map sizeP)
  | .wait s => by
    show s = s + 0
    grind
  | .go _ w s k => by
    show s = s + 0
    grind
  | .thn p q => by
    show sizeP p + sizeP q = sumQ ((stepsP p ++ stepsP q).map sizeP)
    rw [List.map_append, sumQ_app, ← size_sum p, ← size_sum q]
  | .again m p => by
    show ((m : Int) : Rat) * sizeP p = sumQ (((List.replicate m (stepsP p)).flatten).map sizeP)
    rw [List.map_flatten, List.map_replicate, sumQ_rep, ← size_sum p]
/-! ### what is drawn -/
section
variable (ns : List Int)
def leafV (j : Int) : Pn := if pickV ns (j + 1) 5 = 0 then .wait (sizeV ns (j + 2)) else .go (!decide (pickV ns (j + 1) 5 < 3)) (fracV ns (j + 4)) (sizeV ns (j + 6)) (kindV ns (j + 8))
def planV : Nat → Int → Pn
  | 0, j => leafV ns j
  | d + 1, j => if pickV ns j 8 < 3 then leafV ns j else if pickV ns j 8 < 6 then .thn (planV d (3 * j + 11)) (planV d (3 * j + 37)) else .again (pickV ns (j + 9) 4).toNat (planV d (3 * j + 23))
theorem leaf_ok (j : Int) (d : Nat) : PnOk (d + 1) (leafV ns j) := by
  unfold leafV
  split
  · exact ⟨size_pos ns _, inferInstance⟩
  · exact ⟨inferInstance, size_pos ns _, inferInstance, kind_ne ns _⟩
theorem plan_ok : ∀ (d : Nat) (j : Int), PnOk (d + 1) (planV ns d j)
  | 0, j => leaf_ok ns j 0
  | d + 1, j => by
    unfold planV
    split
    · exact leaf_ok ns j _
    · split
      · exact ⟨plan_ok d _, plan_ok d _⟩
      · have := pick_lo ns (j + 9) (m := 4) (by decide)
        have := pick_hi ns (j + 9) (m := 4) (by decide)
        exact ⟨by omega, plan_ok d _⟩
end
section
variable {kb : Bool → Prop} {x : D} {xs : List D}
instance : Dq (.str "wait") 0 := ⟨by decide +kernel⟩
instance : Dq (.str "go") 0 := ⟨by decide +kernel⟩
instance : Dq (.str "by") 0 := ⟨by decide +kernel⟩
instance : Dq (.str "then") 0 := ⟨by decide +kernel⟩
instance : Dq (.str "again") 0 := ⟨by decide +kernel⟩
theorem dq_of {d : D} {n : Nat} [h : Dq d n] : D.dep d ≤ n := h.h
theorem dP_dep {z : Nat} : ∀ {d : Nat} {p : Pn}, PnZ z d p → D.dep (dP p) ≤ d + 1
  | 0, _, h => h.elim
  | d + 1, .wait s, _ => by
    have := dq_of (d := .tup [.str "wait", fr s])
    show D.dep (.tup [.str "wait", fr s]) ≤ _
    omega
  | d + 1, .go b w s k, _ => by
    cases b
    · have := dq_of (d := .tup [.str "go", fr w, fr s, .str (kS k)])
      show D.dep (.tup [.str "go", fr w, fr s, .str (kS k)]) ≤ _
      omega
    · have := dq_of (d := .tup [.str "by", fr w, fr s, .str (kS k)])
      show D.dep (.tup [.str "by", fr w, fr s, .str (kS k)]) ≤ _
      omega
  | d + 1, .thn p q, h => by
    have h1 : Dq (dP p) (d + 1) := ⟨dP_dep h.1⟩
    have h2 : Dq (dP q) (d + 1) := ⟨dP_dep h.2⟩
    have := dq_of (d := .tup [.str "then", dP p, dP q])
    show D.dep (.tup [.str "then", dP p, dP q]) ≤ _
    omega
  | d + 1, .again m p, h => by
    have h1 : Dq (dP p) (d + 1) := ⟨dP_dep h.2⟩
    have := dq_of (d := .tup [.str "again", .int m, dP p])
    show D.dep (.tup [.str "again", .int m, dP p]) ≤ _
    omega
theorem c_eqnilt {n : Nat} [H : Dqs (x :: xs) n] (h : n ≤ 50) : OV (cmpv .eq (.tup (x :: xs)) (.tup [])) kb = kb false := by
  have e := H.h
  have d1 : D.dep (.tup (x :: xs)) ≤ 60 := by unfold D.dep; omega
  have d2 : D.dep (.tup []) ≤ 60 := by unfold D.dep D.deps; omega
  show OV (if deep _ _ = true then some (D.eqv _ _) else none) kb = _
  rw [if_pos (by unfold deep; simp [d1, d2])]
  unfold D.eqv D.eqvs
  rfl
theorem b_mull {kp : D × Bool → Prop} {j : Int} : OV (binv .mul (.lst xs) (.int j)) kp = ((okI j && decide (xs.length * j.toNat ≤ lineD)) = true ∧ kp (.lst ((List.replicate j.toNat xs).flatten), true)) := ov_if
theorem tq_wait_wait : OV (cmpv .eq (.str "wait") (.str "wait")) kb = kb true := by kernel_rfl
theorem tq_wait_go : OV (cmpv .eq (.str "wait") (.str "go")) kb = kb false := by kernel_rfl
theorem tq_wait_by : OV (cmpv .eq (.str "wait") (.str "by")) kb = kb false := by kernel_rfl
theorem tq_wait_then : OV (cmpv .eq (.str "wait") (.str "then")) kb = kb false := by kernel_rfl
theorem tq_wait_again : OV (cmpv .eq (.str "wait") (.str "again")) kb = kb false := by kernel_rfl
theorem tn_wait : OV (cmpv .ne (.str "wait") (.str "again")) kb = kb true := by kernel_rfl
theorem tw_wait : OV (cmpv .ne (.str "wait") (.str "wait")) kb = kb false := by kernel_rfl
theorem ti_wait : OV (cmpv .in_ (.str "wait") (.tup [.str "go", .str "by"])) kb = kb false := by kernel_rfl
theorem tq_go_wait : OV (cmpv .eq (.str "go") (.str "wait")) kb = kb false := by kernel_rfl
theorem tq_go_go : OV (cmpv .eq (.str "go") (.str "go")) kb = kb true := by kernel_rfl
theorem tq_go_by : OV (cmpv .eq (.str "go") (.str "by")) kb = kb false := by kernel_rfl
theorem tq_go_then : OV (cmpv .eq (.str "go") (.str "then")) kb = kb false := by kernel_rfl
theorem tq_go_again : OV (cmpv .eq (.str "go") (.str "again")) kb = kb false := by kernel_rfl
theorem tn_go : OV (cmpv .ne (.str "go") (.str "again")) kb = kb true := by kernel_rfl
theorem tw_go : OV (cmpv .ne (.str "go") (.str "wait")) kb = kb true := by kernel_rfl
theorem ti_go : OV (cmpv .in_ (.str "go") (.tup [.str "go", .str "by"])) kb = kb true := by kernel_rfl
theorem tq_by_wait : OV (cmpv .eq (.str "by") (.str "wait")) kb = kb false := by kernel_rfl
theorem tq_by_go : OV (cmpv .eq (.str "by") (.str "go")) kb = kb false := by kernel_rfl
theorem tq_by_by : OV (cmpv .eq (.str "by") (.str "by")) kb = kb true := by kernel_rfl
theorem tq_by_then : OV (cmpv .eq (.str "by") (.str "then")) kb = kb false := by kernel_rfl
theorem tq_by_again : OV (cmpv .eq (.str "by") (.str "again")) kb = kb false := by kernel_rfl
theorem tn_by : OV (cmpv .ne (.str "by") (.str "again")) kb = kb true := by kernel_rfl
theorem tw_by : OV (cmpv .ne (.str "by") (.str "wait")) kb = kb true := by kernel_rfl
theorem ti_by : OV (cmpv .in_ (.str "by") (.tup [.str "go", .str "by"])) kb = kb true := by kernel_rfl
theorem tq_then_wait : OV (cmpv .eq (.str "then") (.str "wait")) kb = kb false := by kernel_rfl
theorem tq_then_go : OV (cmpv .eq (.str "then") (.str "go")) kb = kb false := by kernel_rfl
theorem tq_then_by : OV (cmpv .eq (.str "then") (.str "by")) kb = kb false := by kernel_rfl
theorem tq_then_then : OV (cmpv .eq (.str "then") (.str "then")) kb = kb true := by kernel_rfl
theorem tq_then_again : OV (cmpv .eq (.str "then") (.str "again")) kb = kb false := by kernel_rfl
theorem tn_then : OV (cmpv .ne (.str "then") (.str "again")) kb = kb true := by kernel_rfl
theorem tw_then : OV (cmpv .ne (.str "then") (.str "wait")) kb = kb true := by kernel_rfl
theorem ti_then : OV (cmpv .in_ (.str "then") (.tup [.str "go", .str "by"])) kb = kb false := by kernel_rfl
theorem tq_again_wait : OV (cmpv .eq (.str "again") (.str "wait")) kb = kb false := by kernel_rfl
theorem tq_again_go : OV (cmpv .eq (.str "again") (.str "go")) kb = kb false := by kernel_rfl
theorem tq_again_by : OV (cmpv .eq (.str "again") (.str "by")) kb = kb false := by kernel_rfl
theorem tq_again_then : OV (cmpv .eq (.str "again") (.str "then")) kb = kb false := by kernel_rfl
theorem tq_again_again : OV (cmpv .eq (.str "again") (.str "again")) kb = kb true := by kernel_rfl
theorem tn_again : OV (cmpv .ne (.str "again") (.str "again")) kb = kb false := by kernel_rfl
theorem tw_again : OV (cmpv .ne (.str "again") (.str "wait")) kb = kb true := by kernel_rfl
theorem ti_again : OV (cmpv .in_ (.str "again") (.tup [.str "go", .str "by"])) kb = kb false := by kernel_rfl
end
end GW
namespace GW
theorem fr_intN {m : Nat} : D.tup [.int (m : Int), .int 1] = fr ((m : Int) : Rat) := rfl
theorem pow4 {d : Nat} (h : d ≤ 8) : 4 ^ d ≤ 65536 := Nat.le_trans (Nat.pow_le_pow_right (by decide) h) (by decide : 4 ^ 8 ≤ 65536)
theorem szP_up {z : Nat} : ∀ {d e : Nat}, d ≤ e → szP z d ≤ szP z e
  | d, 0, h => by
    have : d = 0 := by omega
    subst this
    exact Nat.le_refl _
  | d, e + 1, h => by
    rcases Nat.eq_or_lt_of_le h with c | c
    · subst c
      exact Nat.le_refl _
    · have := szP_up (z := z) (d := d) (e := e) (by omega)
      have := szP_lo (z := z) e
      show szP z d ≤ 2 * szP z e + 4
      omega
theorem b_pow4 {kp : D × Bool → Prop} : OV (binv .pow (.int 10) (.int 4)) kp = kp (.int 10000, false) := by kernel_rfl
theorem it_scr {ns : List Int} {k : List D → Prop} : OV (itemsv (scr ns)) k = k (ns.map D.int) := rfl
theorem io_h {s : Sl} (h : isOw s = false) : (isOw s = false) = True := by simp [h]
end GW
end

section
/-! S13: plans played. -/
namespace GW
class MoBig (m : Mo) : Prop where
  sa : SzLe m.a 2000
  sb : SzLe m.b 2000
  st : SzLe m.t 2000
  sl : SzLe m.l 40
  su : SzLe m.u 40
  sv : SzLe m.v 40
  hl : 0 < m.l
  hk : m.k = .kept ∨ (m.u = 0 ∧ m.v = 0)
theorem MoBig.inst {m : Mo} (h : MoBig m) : SzLe m.a 2000 ∧ SzLe m.b 2000 ∧ SzLe m.t 2000 ∧ SzLe m.l 40 ∧ SzLe m.u 40 ∧ SzLe m.v 40 := ⟨h.sa, h.sb, h.st, h.sl, h.su, h.sv⟩
structure St where
  made : List Mo
  here : Rat
  time : Rat
def stStep (st : St) : Pn → St
  | .wait s => ⟨st.made, st.here, st.time + s⟩
  | .go false w s k => ⟨st.made ++ [⟨st.here, w, st.time, s, k, 0, 0⟩], w, st.time + s⟩
  | .go true w s k => ⟨st.made ++ [⟨st.here, st.here + w, st.time, s, k, 0, 0⟩], st.here + w, st.time + s⟩
  | _ => st
def stF (w b : Rat) (l : List Pn) : St := l.foldl stStep ⟨[], w, b⟩
theorem stF_take {w b : Rat} {l : List Pn} {i : Nat} {q : Pn} (h : l[i]? = some q) : stF w b (l.take (i + 1)) = stStep (stF w b (l.take i)) q := by
  unfold stF
  rw [List.take_add_one, h, List.foldl_append]
  rfl
/-- what holds on the way -/
structure StOk (z iw ib : Nat) (w : Rat) (n : Nat) (st : St) : Prop where
  sh : SzLe st.here (iw + 7 * n)
  sm : SzLe st.time (ib + (z + 1) * n)
  tm : ∀ m ∈ st.made, m.t + m.l ≤ st.time
  mo : iw + 7 * n ≤ 2000 → ib + (z + 1) * n ≤ 2000 → ∀ m ∈ st.made, MoBig m
  ord : ∀ p ∈ st.made.zip st.made.tail, p.1.t + p.1.l ≤ p.2.t
  last : lastB w st.made = st.here
  len : st.made.length ≤ n
theorem stOk_step {z iw ib : Nat} {w : Rat} {n : Nat} {st : St} {q : Pn} (hz : z ≤ 40) (hi : 6 ≤ iw) (h : StOk z iw ib w n st) (h1 : IsStep q) (h2 : PnZ z 1 q) : StOk z iw ib w (n + 1) (stStep st q) := by
  have en : (z + 1) * (n + 1) = (z + 1) * n + (z + 1) := Nat.mul_succ ..
  have one : ∀ (g : Rat) (s : Rat) (k : Kd), SzLe g (iw + 7 * (n + 1)) → 0 < s → SzLe s z → StOk z iw ib w (n + 1) ⟨st.made ++ [⟨st.here, g, st.time, s, k, 0, 0⟩], g, st.time + s⟩ := by
    intro g s k hg hs ss
    have sh := h.sh
    have st' := h.sm
    refine ⟨hg, szz (i := ib + (z + 1) * n + z + 1) (show SzLe (st.time + s) (ib + (z + 1) * n + z + 1) from inferInstance) (by omega), fun m hm => ?_, fun hn hn' m hm => ?_, fun p hp => ?_, lastB_app, by simp; exact h.len⟩
    · rcases List.mem_append.mp hm with hm | hm
      · have := h.tm m hm
        show m.t + m.l ≤ st.time + s
        grind
      · rw [List.mem_singleton.mp hm]
        exact Rat.le_refl
    · rcases List.mem_append.mp hm with hm | hm
      · exact h.mo (by omega) (by omega) m hm
      · rw [List.mem_singleton.mp hm]
        exact ⟨szz sh (by omega), szz hg (by omega), szz st' (by omega), szz ss (by omega), szz (i := 1) (show SzLe (0 : Rat) 1 from inferInstance) (by decide), szz (i := 1) (show SzLe (0 : Rat) 1 from inferInstance) (by decide), hs, .inr ⟨rfl, rfl⟩⟩
    · rw [zip_tail_app] at hp
      rcases List.mem_append.mp hp with hp | hp
      · exact h.ord p hp
      · rcases concat_cases st.made with e | ⟨l, x, e⟩
        · rw [e] at hp
          simp at hp
        · rw [e] at hp
          simp at hp
          subst hp
          exact h.tm x (by rw [e]; simp)
  cases q with
  | wait s =>
    have sh := h.sh
    have st' := h.sm
    have ss := h2.2
    have hs := h2.1
    refine ⟨szz sh (by omega), szz (i := ib + (z + 1) * n + z + 1) (show SzLe (st.time + s) (ib + (z + 1) * n + z + 1) from inferInstance) (by omega), fun m hm => ?_, fun hn hn' => h.mo (by omega) (by omega), h.ord, h.last, Nat.le_succ_of_le h.len⟩
    have := h.tm m hm
    show m.t + m.l ≤ st.time + s
    grind
  | go by_ w' s k =>
    have sw := h2.1
    cases by_
    · exact one w' s k (szz sw (by omega)) h2.2.1 h2.2.2.1
    · have sh := h.sh
      exact one (st.here + w') s k (szz (i := iw + 7 * n + 6 + 1) (show SzLe (st.here + w') (iw + 7 * n + 6 + 1) from inferInstance) (by omega)) h2.2.1 h2.2.2.1
  | thn _ _ => exact h1.elim
  | again _ _ => exact h1.elim
theorem stOk_at {z iw ib : Nat} {w b : Rat} {l : List Pn} (hz : z ≤ 40) (hi6 : 6 ≤ iw) (hw : SzLe w iw) (hb : SzLe b ib) (h : ∀ q ∈ l, IsStep q ∧ PnZ z 1 q) : ∀ i, i ≤ l.length → StOk z iw ib w i (stF w b (l.take i))
  | 0, _ => ⟨hw, hb, fun m h => absurd h (by show m ∉ []; simp), fun _ _ m h => absurd h (by show m ∉ []; simp), fun p h => absurd h (by show p ∉ []; simp), rfl, Nat.le_refl _⟩
  | i + 1, hi => by
    have hx : l[i]? = some l[i] := List.getElem?_eq_getElem (by omega)
    rw [stF_take hx]
    obtain ⟨h1, h2⟩ := h l[i] (List.getElem_mem _)
    exact stOk_step hz hi6 (stOk_at hz hi6 hw hb h i (by omega)) h1 h2
theorem stOk_all {z iw ib : Nat} {w b : Rat} {l : List Pn} (hz : z ≤ 40) (hi6 : 6 ≤ iw) (hw : SzLe w iw) (hb : SzLe b ib) (h : ∀ q ∈ l, IsStep q ∧ PnZ z 1 q) : StOk z iw ib w l.length (stF w b l) := by
  have := stOk_at hz hi6 hw hb h l.length (Nat.le_refl _)
  rwa [List.take_length] at this
theorem stF_app {w b : Rat} {l m : List Pn} : stF w b (l ++ m) = ⟨(stF w b l).made ++ (stF (stF w b l).here (stF w b l).time m).made, (stF (stF w b l).here (stF w b l).time m).here, (stF (stF w b l).here (stF w b l).time m).time⟩ := by
  have key : ∀ (m : List Pn) (st : St), m.foldl stStep st = ⟨st.made ++ (stF st.here st.time m).made, (stF st.here st.time m).here, (stF st.here st.time m).time⟩ := by
    intro m
    induction m with
    | nil =>
      intro st
      show st = ⟨st.made ++ [], st.here, st.time⟩
      rw [List.append_nil]
    | cons q m ih =>
      intro st
      have e : ∀ (st : St), (q :: m).foldl stStep st = m.foldl stStep (stStep st q) := fun _ => rfl
      have e2 : stF st.here st.time (q :: m) = m.foldl stStep (stStep ⟨[], st.here, st.time⟩ q) := rfl
      rw [e, ih, e2, ih]
      have h1 : (stStep st q).here = (stStep ⟨[], st.here, st.time⟩ q).here ∧ (stStep st q).time = (stStep ⟨[], st.here, st.time⟩ q).time ∧ (stStep st q).made = st.made ++ (stStep ⟨[], st.here, st.time⟩ q).made := by
        cases q with
        | wait s => exact ⟨rfl, rfl, (List.append_nil _).symm⟩
        | go b w s k => cases b <;> exact ⟨rfl, rfl, rfl⟩
        | thn _ _ => exact ⟨rfl, rfl, (List.append_nil _).symm⟩
        | again _ _ => exact ⟨rfl, rfl, (List.append_nil _).symm⟩
      rw [h1.1, h1.2.1, h1.2.2, List.append_assoc]
  unfold stF
  rw [List.foldl_append]
  exact key m _
def mvMo (y : Rat) (m : Mo) : Mo := ⟨m.a, m.b, m.t + y, m.l, m.k, m.u, m.v⟩
theorem stF_moved {w b y : Rat} (l : List Pn) : stF w (b + y) l = ⟨(stF w b l).made.map (mvMo y), (stF w b l).here, (stF w b l).time + y⟩ := by
  have key : ∀ (l : List Pn) (st : St), l.foldl stStep ⟨st.made.map (mvMo y), st.here, st.time + y⟩ = ⟨(l.foldl stStep st).made.map (mvMo y), (l.foldl stStep st).here, (l.foldl stStep st).time + y⟩ := by
    intro l
    induction l with
    | nil => intro st; rfl
    | cons q l ih =>
      intro st
      have e : ∀ (st : St), (q :: l).foldl stStep st = l.foldl stStep (stStep st q) := fun _ => rfl
      rw [e, e, ← ih]
      congr 1
      cases q with
      | wait s =>
        show St.mk _ _ (st.time + y + s) = St.mk _ _ (st.time + s + y)
        congr 1
        grind
      | go b' w' s k =>
        cases b'
        · show St.mk (st.made.map (mvMo y) ++ [_]) _ (st.time + y + s) = St.mk ((st.made ++ [_]).map (mvMo y)) _ (st.time + s + y)
          rw [List.map_append]
          congr 1
          grind
        · show St.mk (st.made.map (mvMo y) ++ [_]) _ (st.time + y + s) = St.mk ((st.made ++ [_]).map (mvMo y)) _ (st.time + s + y)
          rw [List.map_append]
          congr 1
          grind
      | thn _ _ => rfl
      | again _ _ => rfl
  exact key l ⟨[], w, b⟩
theorem stF_here {w b b' : Rat} (l : List Pn) : (stF w b l).here = (stF w b' l).here := by
  have h := stF_moved (w := w) (b := b) (y := b' - b) l
  have e : b + (b' - b) = b' := by grind
  rw [e] at h
  rw [h]
theorem stF_time {w b : Rat} (l : List Pn) : (∀ q ∈ l, IsStep q) → (stF w b l).time = b + sumQ (l.map sizeP) := by
  have key : ∀ (l : List Pn) (st : St), (∀ q ∈ l, IsStep q) → (l.foldl stStep st).time = st.time + sumQ (l.map sizeP) := by
    intro l
    induction l with
    | nil =>
      intro st _
      show st.time = st.time + 0
      grind
    | cons q l ih =>
      intro st h
      show (l.foldl stStep (stStep st q)).time = st.time + (sizeP q + sumQ (l.map sizeP))
      rw [ih _ fun x hx => h x (List.mem_cons_of_mem _ hx)]
      have hq := h q List.mem_cons_self
      cases q with
      | wait s =>
        show st.time + s + _ = st.time + (s + _)
        grind
      | go b w s k =>
        cases b
        · show st.time + s + _ = st.time + (s + _)
          grind
        · show st.time + s + _ = st.time + (s + _)
          grind
      | thn _ _ => exact hq.elim
      | again _ _ => exact hq.elim
  exact key l _
theorem b_pow5 {kp : D × Bool → Prop} : OV (binv .pow (.int 10) (.int 5)) kp = kp (.int 100000, false) := by kernel_rfl
end GW
end

section
/-! S14: what tracks tell. -/
namespace GW
class MoS (m : Mo) : Prop where
  sa : SzLe m.a 20
  sb : SzLe m.b 20
  st : SzLe m.t 60
  sl : SzLe m.l 12
  su : SzLe m.u 12
  sv : SzLe m.v 12
  hl : 0 < m.l
  hk : m.k = .kept ∨ (m.u = 0 ∧ m.v = 0)
theorem MoS.inst {m : Mo} (h : MoS m) : SzLe m.a 20 ∧ SzLe m.b 20 ∧ SzLe m.t 60 ∧ SzLe m.l 12 ∧ SzLe m.u 12 ∧ SzLe m.v 12 ∧ ¬ m.l = 0 := ⟨h.sa, h.sb, h.st, h.sl, h.su, h.sv, by have := h.hl; grind⟩
theorem MoS.ok {m : Mo} (h : MoS m) : MoOk m := ⟨szz h.sa (by decide), szz h.sb (by decide), szz h.st (by decide), szz h.sl (by decide), szz h.su (by decide), szz h.sv (by decide), h.hl, h.hk⟩
def begunL (ms : List Mo) (x : Rat) : List Mo := ms.filter fun m => !decide (x < m.t)
def aheadL (ms : List Mo) (x : Rat) : List Mo := ms.filter fun m => decide (m.t < x)
def worthM (m : Mo) (x : Rat) : Rat := worthQ m.a m.b m.t m.l m.k m.u m.v x
def speedM (m : Mo) (x : Rat) : Rat := speedQ m.a m.b m.t m.l m.k m.u m.v x
def worthOf (w : Rat) (ms : List Mo) (x : Rat) : Rat := match (begunL ms x).getLast? with
  | none => w
  | some m => worthM m x
def aheadOf (w : Rat) (ms : List Mo) (x : Rat) : Rat := match (aheadL ms x).getLast? with
  | none => w
  | some m => if m.k = .hold ∧ ¬ m.t + m.l < x then m.a else worthM m x
def behindOf (w : Rat) (ms : List Mo) (x : Rat) : Rat := match (begunL ms x).getLast? with
  | none => w
  | some m => if m.k = .jump ∧ m.t = x then m.b else worthM m x
def speedOf (ms : List Mo) (x : Rat) : Rat := match (begunL ms x).getLast? with
  | none => 0
  | some m => if m.t + m.l = x then 0 else speedM m x
def momentsL (ms : List Mo) : List Rat := ms.flatMap fun m => [m.t, m.t + m.l]
def leapStep (w : Rat) (ms : List Mo) (made : List Rat) (x : Rat) : List Rat := if x ∈ made then made else if aheadOf w ms x = worthOf w ms x ∧ worthOf w ms x = behindOf w ms x then made else made ++ [x]
def leapsL (w : Rat) (ms : List Mo) : List Rat := (momentsL ms).foldl (leapStep w ms) []
theorem last_mem {α : Type} {l : List α} {m : α} (h : l.getLast? = some m) : m ∈ l := List.mem_of_getLast? h
theorem begun_mem {ms : List Mo} {x : Rat} {m : Mo} (h : (begunL ms x).getLast? = some m) : m ∈ ms := (List.mem_filter.mp (last_mem h)).1
theorem ahead_mem {ms : List Mo} {x : Rat} {m : Mo} (h : (aheadL ms x).getLast? = some m) : m ∈ ms := (List.mem_filter.mp (last_mem h)).1
/-! ### the same at other times -/
structure Shift (f : Mo → Mo) (g h : Rat → Rat) (ms : List Mo) : Prop where
  t : ∀ m, (f m).t = g m.t
  e : ∀ m, (f m).t + (f m).l = g (m.t + m.l)
  k : ∀ m, (f m).k = m.k
  a : ∀ m, (f m).a = m.a
  b : ∀ m, (f m).b = m.b
  lt : ∀ x y, g x < g y ↔ x < y
  inj : ∀ x y, g x = g y ↔ x = y
  w : ∀ m ∈ ms, ∀ x, worthM (f m) (g x) = worthM m x
  s : ∀ m ∈ ms, ∀ x, speedM (f m) (g x) = h (speedM m x)
  h0 : h 0 = 0
section
variable {f : Mo → Mo} {g h : Rat → Rat} {ms : List Mo} {w x : Rat}
theorem begun_map (S : Shift f g h ms) : begunL (ms.map f) (g x) = (begunL ms x).map f := by
  unfold begunL
  rw [List.filter_map]
  congr 1
  refine List.filter_congr fun m _ => ?_
  show (!decide (g x < (f m).t)) = _
  rw [S.t, decide_eq_decide.mpr (S.lt x m.t)]
theorem ahead_map (S : Shift f g h ms) : aheadL (ms.map f) (g x) = (aheadL ms x).map f := by
  unfold aheadL
  rw [List.filter_map]
  congr 1
  refine List.filter_congr fun m _ => ?_
  show decide ((f m).t < g x) = _
  rw [S.t, decide_eq_decide.mpr (S.lt m.t x)]
theorem worthOf_map (S : Shift f g h ms) : worthOf w (ms.map f) (g x) = worthOf w ms x := by
  unfold worthOf
  rw [begun_map S, List.getLast?_map]
  cases hm : (begunL ms x).getLast? with
  | none => rfl
  | some m => exact S.w m (begun_mem hm) x
theorem aheadOf_map (S : Shift f g h ms) : aheadOf w (ms.map f) (g x) = aheadOf w ms x := by
  unfold aheadOf
  rw [ahead_map S, List.getLast?_map]
  cases hm : (aheadL ms x).getLast? with
  | none => rfl
  | some m =>
    dsimp only [Option.map_some]
    rw [S.k, S.e, S.a, S.w m (ahead_mem hm) x]
    simp only [S.lt]
theorem behindOf_map (S : Shift f g h ms) : behindOf w (ms.map f) (g x) = behindOf w ms x := by
  unfold behindOf
  rw [begun_map S, List.getLast?_map]
  cases hm : (begunL ms x).getLast? with
  | none => rfl
  | some m =>
    dsimp only [Option.map_some]
    rw [S.k, S.t, S.b, S.w m (begun_mem hm) x]
    simp only [S.inj]
theorem speedOf_map (S : Shift f g h ms) : speedOf (ms.map f) (g x) = h (speedOf ms x) := by
  unfold speedOf
  rw [begun_map S, List.getLast?_map]
  cases hm : (begunL ms x).getLast? with
  | none => exact S.h0.symm
  | some m =>
    dsimp only [Option.map_some]
    rw [S.e, S.s m (begun_mem hm) x]
    simp only [S.inj]
    split
    · exact S.h0.symm
    · rfl
theorem moments_map (S : Shift f g h ms) : ∀ (l : List Mo), momentsL (l.map f) = (momentsL l).map g
  | [] => rfl
  | m :: l => by
    have ih := moments_map S l
    unfold momentsL at *
    rw [List.map_cons, List.flatMap_cons, List.flatMap_cons, List.map_append, ih, S.e, S.t]
    rfl
theorem leaps_map (S : Shift f g h ms) : leapsL w (ms.map f) = (leapsL w ms).map g := by
  have key : ∀ (l : List Rat) (made : List Rat), (l.map g).foldl (leapStep w (ms.map f)) (made.map g) = (l.foldl (leapStep w ms) made).map g := by
    intro l
    induction l with
    | nil => intro made; rfl
    | cons x l ih =>
      intro made
      rw [List.map_cons, List.foldl_cons, List.foldl_cons, ← ih]
      congr 1
      unfold leapStep
      rw [worthOf_map S, aheadOf_map S, behindOf_map S]
      have hm : g x ∈ made.map g ↔ x ∈ made := by
        rw [List.mem_map]
        constructor
        · rintro ⟨y, hy, e⟩
          rwa [← (S.inj y x).mp e]
        · exact fun hx => ⟨x, hx, rfl⟩
      by_cases h1 : x ∈ made
      · rw [if_pos h1, if_pos (hm.mpr h1)]
      · rw [if_neg h1, if_neg (fun z => h1 (hm.mp z))]
        split
        · rfl
        · rw [List.map_append]
          rfl
  unfold leapsL
  rw [moments_map S]
  exact key _ []
end
def slMo (c : Rat) (m : Mo) : Mo := ⟨m.a, m.b, m.t * c, m.l * c, m.k, m.u / c, m.v / c⟩
theorem shift_moved (y : Rat) (ms : List Mo) : Shift (mvMo y) (· + y) id ms where
  t := fun m => rfl
  e := fun m => by
    show m.t + y + m.l = m.t + m.l + y
    grind
  k := fun m => rfl
  a := fun m => rfl
  b := fun m => rfl
  lt := fun x z => by constructor <;> intro <;> grind
  inj := fun x z => by constructor <;> intro <;> grind
  w := fun m hm x => worth_moved
  s := fun m hm x => by
    show speedQ m.a m.b (m.t + y) m.l m.k m.u m.v (x + y) = speedQ m.a m.b m.t m.l m.k m.u m.v x
    unfold speedQ
    have e : (x + y - (m.t + y)) / m.l = (x - m.t) / m.l := by grind
    rw [e]
  h0 := rfl
theorem speed_slow {a b t l u v x c : Rat} {k : Kd} (hl : 0 < l) (hc : 0 < c) : speedQ a b (t * c) (l * c) k (u / c) (v / c) (x * c) = speedQ a b t l k u v x / c := by
  have e : (x * c - t * c) / (l * c) = (x - t) / l := by grind
  unfold speedQ
  rw [e]
  generalize hp : (x - t) / l = p
  split
  · grind
  · split
    · grind
    · split
      · unfold keptSQ
        grind
      · grind
theorem shift_slowed {c : Rat} (hc : 0 < c) (ms : List Mo) (h : ∀ m ∈ ms, 0 < m.l) : Shift (slMo c) (· * c) (· / c) ms where
  t := fun m => rfl
  e := fun m => by
    show m.t * c + m.l * c = (m.t + m.l) * c
    grind
  k := fun m => rfl
  a := fun m => rfl
  b := fun m => rfl
  lt := fun x z => Rat.mul_lt_mul_right hc
  inj := fun x z => by
    constructor
    · intro e
      have e : x * c = z * c := e
      have : x * c / c = z * c / c := by rw [e]
      grind
    · intro e
      rw [e]
  w := fun m hm x => worth_slowed (h m hm) hc
  s := fun m hm x => speed_slow (h m hm) hc
  h0 := by
    show 0 / c = 0
    grind
section
variable {kb : Bool → Prop}
theorem any_fr {l : List Rat} {x : Rat} : ((l.map fr).any fun y => y.eqv (fr x)) = decide (x ∈ l) := by
  induction l with
  | nil => simp
  | cons a l ih =>
    rw [List.map_cons, List.any_cons, ih, eqv_fr]
    by_cases h : a = x
    · subst h
      simp
    · have : ¬ x = a := fun z => h z.symm
      simp [h, this]
theorem c_ninfr {l : List Rat} {x : Rat} : OV (cmpv .nin (fr x) (.lst (l.map fr))) kb = kb (!decide (x ∈ l)) := by
  have h1 : D.dep (fr x) ≤ 60 := Nat.le_trans (dq_of (d := fr x)) (by decide)
  have h2 : D.dep (.lst (l.map fr)) ≤ 60 := Nat.le_trans (dq_of (d := .lst (l.map fr))) (by decide)
  show OV (if deep _ _ = true then some (!(l.map fr).any fun y => y.eqv (fr x)) else none) kb = _
  rw [if_pos (by unfold deep; simp [h1, h2]), any_fr]
  rfl
theorem c_infr {l : List Rat} {x : Rat} : OV (cmpv .in_ (fr x) (.lst (l.map fr))) kb = kb (decide (x ∈ l)) := by
  have h1 : D.dep (fr x) ≤ 60 := Nat.le_trans (dq_of (d := fr x)) (by decide)
  have h2 : D.dep (.lst (l.map fr)) ≤ 60 := Nat.le_trans (dq_of (d := .lst (l.map fr))) (by decide)
  show OV (if deep _ _ = true then some ((l.map fr).any fun y => y.eqv (fr x)) else none) kb = _
  rw [if_pos (by unfold deep; simp [h1, h2]), any_fr]
  rfl
end
structure MoT (m : Mo) : Prop where
  sa : SzLe m.a 6
  sb : SzLe m.b 6
  st : SzLe m.t 48
  sl : SzLe m.l 6
  su : SzLe m.u 6
  sv : SzLe m.v 6
  hl : 0 < m.l
  hk : m.k = .kept ∨ (m.u = 0 ∧ m.v = 0)
theorem MoT.s {m : Mo} (h : MoT m) : MoS m := ⟨szz h.sa (by decide), szz h.sb (by decide), szz h.st (by decide), szz h.sl (by decide), szz h.su (by decide), szz h.sv (by decide), h.hl, h.hk⟩
theorem MoT.mv {m : Mo} {y : Rat} [hy : SzLe y 6] (h : MoT m) : MoS (mvMo y m) := by
  have := h.st
  exact ⟨szz h.sa (by decide), szz h.sb (by decide), szz (i := 48 + 6 + 1) (show SzLe (m.t + y) (48 + 6 + 1) from inferInstance) (by decide), szz h.sl (by decide), szz h.su (by decide), szz h.sv (by decide), h.hl, h.hk⟩
theorem MoT.slow {m : Mo} {c : Rat} [hy : SzLe c 6] (hc : 0 < c) (h : MoT m) : MoS (slMo c m) := by
  have := h.st
  have := h.sl
  have := h.su
  have := h.sv
  refine ⟨szz h.sa (by decide), szz h.sb (by decide), szz (i := 48 + 6) (show SzLe (m.t * c) (48 + 6) from inferInstance) (by decide), szz (i := 6 + 6) (show SzLe (m.l * c) (6 + 6) from inferInstance) (by decide), szz (i := 6 + 6) (show SzLe (m.u / c) (6 + 6) from inferInstance) (by decide), szz (i := 6 + 6) (show SzLe (m.v / c) (6 + 6) from inferInstance) (by decide), Rat.mul_pos h.hl hc, ?_⟩
  rcases h.hk with z | ⟨z1, z2⟩
  · exact .inl z
  · refine .inr ⟨?_, ?_⟩
    · show m.u / c = 0
      rw [z1]
      grind
    · show m.v / c = 0
      rw [z2]
      grind
theorem trFold_s (ns : List Int) (j : Int) : ∀ i, i ≤ 3 → ∀ m ∈ (trFold ns j i).1, MoT m
  | 0, _ => fun m h => absurd h (by show m ∉ []; simp)
  | i + 1, hi => fun m h => by
    have ih := trFold_s ns j i (by omega)
    have hm : m ∈ (trFold ns j i).1 ++ [trMo ns j (fracV ns j) (trFold ns j i) i] := h
    rcases List.mem_append.mp hm with hm | hm
    · exact ih m hm
    · rw [List.mem_singleton.mp hm]
      exact ⟨lastB_sz inferInstance fun m hm => (ih m hm).sb, frac_sz ns _, szz (trT_sz ns j i) (by omega), size_sz ns _, show SzLe (muV ns _) 6 from inferInstance, show SzLe (mvV ns _) 6 from inferInstance, size_pos ns _, mk_still ns _⟩
theorem shift_ord {f : Mo → Mo} {g h : Rat → Rat} {ms : List Mo} (S : Shift f g h ms) (o : ∀ p ∈ ms.zip ms.tail, p.1.t + p.1.l ≤ p.2.t) : ∀ p ∈ (ms.map f).zip (ms.map f).tail, p.1.t + p.1.l ≤ p.2.t := by
  intro p hp
  rw [← List.map_tail, List.zip_map] at hp
  obtain ⟨q, hq, rfl⟩ := List.mem_map.mp hp
  show (f q.1).t + (f q.1).l ≤ (f q.2).t
  rw [S.e, S.t]
  rw [← Rat.not_lt, S.lt, Rat.not_lt]
  exact o q hq
theorem mv_back {y : Rat} (ms : List Mo) : (ms.map (mvMo y)).map (mvMo (0 - y)) = ms := by
  rw [List.map_map]
  have e : mvMo (0 - y) ∘ mvMo y = id := by
    funext m
    show Mo.mk m.a m.b (m.t + y + (0 - y)) m.l m.k m.u m.v = m
    have : m.t + y + (0 - y) = m.t := by grind
    rw [this]
  rw [e, List.map_id]
def anyV (ns : List Int) (j : Int) (ms : List Mo) : Rat := match ms[(pickV ns (j + 1) ms.length).toNat]? with
  | none => fracV ns j
  | some m => m.t + timeV ns j * m.l
theorem any_sz {ns : List Int} {j : Int} {ms : List Mo} (ho : ∀ m ∈ ms, MoT m) : SzLe (anyV ns j ms) 60 := by
  unfold anyV
  cases h : ms[(pickV ns (j + 1) ms.length).toNat]? with
  | none => exact szz (frac_sz ns j) (by decide)
  | some m =>
    have h1 := ho m (List.mem_of_getElem? h)
    have := h1.st
    have := h1.sl
    exact szz (i := 48 + (5 + 6) + 1) (show SzLe (m.t + timeV ns j * m.l) (48 + (5 + 6) + 1) from inferInstance) (by decide)
theorem speed_sz {ms : List Mo} {x : Rat} (ho : ∀ m ∈ ms, MoS m) {ix : Nat} [SzLe x ix] (hx : ix ≤ 90) : SzLe (speedOf ms x) 4000 := by
  unfold speedOf
  cases h : (begunL ms x).getLast? with
  | none => exact szz (i := 1) (show SzLe (0 : Rat) 1 from inferInstance) (by decide)
  | some m =>
    obtain ⟨a1, a2, a3, a4, a5, a6, a7⟩ := (ho m (begun_mem h)).inst
    dsimp only
    split
    · exact szz (i := 1) inferInstance (by decide)
    · unfold speedM
      exact szz inferInstance (by omega)
theorem speed_none {ms : List Mo} {x : Rat} (hl : ∀ m ∈ ms, 0 < m.l) (h : (begunL ms x).filter (fun m => decide (x < m.t + m.l)) = []) : speedOf ms x = 0 := by
  unfold speedOf
  cases hm : (begunL ms x).getLast? with
  | none => rfl
  | some m =>
    have h1 := hl m (begun_mem hm)
    have h2 := List.filter_eq_nil_iff.mp h m (last_mem hm)
    simp at h2
    dsimp only
    split
    · rfl
    · unfold speedM speedQ
      have e : 1 < (x - m.t) / m.l := by
        have h3 : 0 < x - m.t - m.l := by grind
        have h4 : 0 < (x - m.t - m.l) / m.l := by
          rw [Rat.div_def]
          exact Rat.mul_pos h3 (Rat.inv_pos.mpr h1)
        grind
      rw [if_neg (by grind), if_pos e]
theorem ixt_g {xs : List D} {i : Int} {k : D → Prop} (h0 : 0 ≤ i) (h1 : i < xs.length) : OV (ixv (.tup xs) (.int i)) k = k (xs.getD i.toNat .non) := ix_g h0 h1
end GW
end

section
/-! S15: least pairs. -/
namespace GW
open PyProof.Rows PySem.W
abbrev pr (i j : Int) : D := .tup [.int i, .int j]
theorem lt_pair (a b c d : Int) : dataLt (D.py (pr a b)) (D.py (pr c d)) = SrtO.lexB (a, b) (c, d) := by
  show dataLt (.tuple [.int a, .int b]) (.tuple [.int c, .int d]) = _
  rw [dataLt_tuple]
  show lexLt itemOrd [.inl 1, .inl a, .inl 1, .inl b, .inl 0] [.inl 1, .inl c, .inl 1, .inl d, .inl 0] = _
  simp only [lexLt, itemLt]
  unfold SrtO.lexB
  by_cases h1 : a < c
  · have h2 : ¬ a = c := by omega
    simp [h1, h2]
  · by_cases h2 : a = c
    · subst h2
      simp
    · have h3 : c < a := by omega
      simp [h1, h2, h3]
theorem min_pairs : ∀ (l : List (Int × Int)) (x : Int × Int), ∃ r ∈ x :: l, minD' (pr x.1 x.2) (l.map fun p => pr p.1 p.2) = pr r.1 r.2 ∧ ∀ y ∈ x :: l, SrtO.lexB y r = false
  | [], x => ⟨x, List.mem_singleton.mpr rfl, rfl, fun y hy => by
    rw [List.mem_singleton.mp hy, SrtO.lexB_no]
    omega⟩
  | y :: l, x => by
    have e : minD' (pr x.1 x.2) ((y :: l).map fun p => pr p.1 p.2) = minD' (if SrtO.lexB y x = true then pr y.1 y.2 else pr x.1 x.2) (l.map fun p => pr p.1 p.2) := by
      unfold minD'
      rw [List.map_cons, List.foldl_cons, lt_pair]
    rw [e]
    by_cases h : SrtO.lexB y x = true
    · rw [if_pos h]
      obtain ⟨r, h1, h2, h3⟩ := min_pairs l y
      refine ⟨r, List.mem_cons_of_mem _ h1, h2, fun z hz => ?_⟩
      rcases List.mem_cons.mp hz with rfl | hz
      · have g1 := SrtO.lexB_iff.mp h
        have g2 := SrtO.lexB_no.mp (h3 y List.mem_cons_self)
        rw [SrtO.lexB_no]
        omega
      · exact h3 z hz
    · rw [if_neg h]
      obtain ⟨r, h1, h2, h3⟩ := min_pairs l x
      refine ⟨r, ?_, h2, fun z hz => ?_⟩
      · rcases List.mem_cons.mp h1 with rfl | h1
        · exact List.mem_cons_self
        · exact List.mem_cons_of_mem _ (List.mem_cons_of_mem _ h1)
      · rcases List.mem_cons.mp hz with rfl | hz
        · exact h3 z List.mem_cons_self
        · rcases List.mem_cons.mp hz with rfl | hz
          · have h : SrtO.lexB z x = false := by simpa using h
            have g1 := SrtO.lexB_no.mp h
            have g2 := SrtO.lexB_no.mp (h3 x List.mem_cons_self)
            rw [SrtO.lexB_no]
            omega
          · exact h3 z (List.mem_cons_of_mem _ hz)
theorem alike_pairs : ∀ (l : List (Int × Int)), alikeD (l.map fun p => pr p.1 p.2) = true := by
  intro l
  unfold alikeD
  rw [Bool.and_eq_true, decide_eq_true_eq]
  constructor
  · rw [List.all_eq_true]
    intro x hx
    rw [List.all_eq_true]
    intro y hy
    obtain ⟨p, _, rfl⟩ := List.mem_map.mp hx
    obtain ⟨q, _, rfl⟩ := List.mem_map.mp hy
    rfl
  · have : D.deps (l.map fun p => pr p.1 p.2) ≤ 1 := deps_map (f := fun p : Int × Int => pr p.1 p.2) fun p => (inferInstanceAs (Dq (.tup [.int p.1, .int p.2]) 1))
    omega
/-- min of a list of pairs -/
theorem bi_minp {x : Int × Int} {l : List (Int × Int)} {k : D × Bool → Prop} (h : ∀ r ∈ x :: l, (∀ y ∈ x :: l, SrtO.lexB y r = false) → k (pr r.1 r.2, false)) : OV (biv .min [.lst ((x :: l).map fun p => pr p.1 p.2)]) k := by
  have a := alike_pairs (x :: l)
  have b : (((x :: l).map fun p => pr p.1 p.2).all fun y => match y with | .non => false | _ => true) = true := by
    rw [List.all_eq_true]
    intro y hy
    obtain ⟨p, _, rfl⟩ := List.mem_map.mp hy
    rfl
  obtain ⟨r, h1, h2, h3⟩ := min_pairs l x
  show OV (if (alikeD ((x :: l).map fun p => pr p.1 p.2) && (((x :: l).map fun p => pr p.1 p.2).all fun y => match y with | .non => false | _ => true)) = true then some (minD' (pr x.1 x.2) (l.map fun p => pr p.1 p.2), false) else none) k
  rw [a, b]
  show k (minD' _ _, false)
  rw [h2]
  exact h r h1 h3
theorem fdiv_lo (a : Int) {b : Int} (h : 0 < b) : a.fdiv b * b ≤ a := by
  have h1 := Int.mul_fdiv_add_fmod a b
  have h2 := Int.fmod_nonneg_of_pos a h
  rw [Int.mul_comm] at h1
  omega
theorem fdiv_hi (a : Int) {b : Int} (h : 0 < b) : a < (a.fdiv b + 1) * b := by
  have h1 := Int.mul_fdiv_add_fmod a b
  have h2 := Int.fmod_lt_of_pos a h
  rw [Int.mul_comm] at h1
  rw [Int.add_mul, Int.one_mul]
  omega
theorem near_uniq {p d R z : Int} (hd : 0 < d) (hR : R = (2 * p + d).fdiv (2 * d)) (h : SrtO.lexB (((R * d - p) * 2).natAbs, 0 - R) (((z * d - p) * 2).natAbs, 0 - z) = false) : z = R := by
  have h1 : R * (2 * d) ≤ 2 * p + d := by
    rw [hR]
    exact fdiv_lo _ (by omega)
  have h2 : 2 * p + d < (R + 1) * (2 * d) := by
    rw [hR]
    exact fdiv_hi _ (by omega)
  have h := SrtO.lexB_no.mp h
  rcases Int.lt_trichotomy z R with c | c | c
  · have h3 : z * d ≤ (R - 1) * d := Int.mul_le_mul_of_nonneg_right (by omega) (by omega)
    have e1 : (R - 1) * d = R * d - d := by rw [Int.sub_mul, Int.one_mul]
    have e2 : R * (2 * d) = 2 * (R * d) := by rw [Int.mul_left_comm]
    have e3 : (R + 1) * (2 * d) = 2 * (R * d) + 2 * d := by rw [Int.add_mul, Int.mul_left_comm, Int.one_mul]
    rw [e1] at h3
    rw [e2] at h1
    rw [e3] at h2
    generalize R * d = u at *
    generalize z * d = v at *
    exfalso
    dsimp only at h
    omega
  · exact c
  · have h3 : (R + 1) * d ≤ z * d := Int.mul_le_mul_of_nonneg_right (by omega) (by omega)
    have e1 : (R + 1) * d = R * d + d := by rw [Int.add_mul, Int.one_mul]
    have e2 : R * (2 * d) = 2 * (R * d) := by rw [Int.mul_left_comm]
    have e3 : (R + 1) * (2 * d) = 2 * (R * d) + 2 * d := by rw [Int.add_mul, Int.mul_left_comm, Int.one_mul]
    rw [e1] at h3
    rw [e2] at h1
    rw [e3] at h2
    generalize R * d = u at *
    generalize z * d = v at *
    exfalso
    dsimp only at h
    omega
theorem lg_d {x y : Nat} (h : x < 1152921504606846976) (h' : y < 1152921504606846976) : (x.log2 + y.log2 < 100000000) = True := by
  have e : (1152921504606846976 : Nat) = 2 ^ 60 := by decide
  rw [e] at h h'
  have := log2_lt h (by decide)
  have := log2_lt h' (by decide)
  simp
  omega
theorem rng3 : (List.range (Int.toNat 3)).map (fun (n : Nat) => D.int n) = [.int 0, .int 1, .int 2] := rfl
theorem c_nin3 {kb : Bool → Prop} {x a b c : Rat} : OV (cmpv .nin (fr x) (.lst [fr a, fr b, fr c])) kb = kb (!decide (x ∈ [a, b, c])) := c_ninfr (l := [a, b, c])
theorem frac_hi (ns : List Int) (k : Int) : (fracV ns k).num ≤ 6 * ((fracV ns k).den : Int) ∧ -(6 * ((fracV ns k).den : Int)) ≤ (fracV ns k).num ∧ ((fracV ns k).den : Int) < 64 := by
  have h := down_rng ns k
  have p0 := pick_lo ns (k + 1) (m := 12 * downV ns k + 1) (by omega)
  have p1 := pick_hi ns (k + 1) (m := 12 * downV ns k + 1) (by omega)
  have hs := (frac_sz ns k).d
  have a1 : fracV ns k ≤ 6 := by
    have := divInt_le (u := pickV ns (k + 1) (12 * downV ns k + 1) - 6 * downV ns k) (v := 6 * downV ns k) (d := downV ns k) (by omega) (by omega)
    rw [Rat.divInt_eq_div (6 * downV ns k), Rat.intCast_mul] at this
    have hd : ((downV ns k : Int) : Rat) ≠ 0 := fun z => by
      have := Rat.intCast_eq_zero_iff.mp z
      omega
    have e : ((6 : Int) : Rat) * (downV ns k : Rat) / (downV ns k : Rat) = 6 := by
      rw [show ((6 : Int) : Rat) = 6 from rfl]
      grind
    rw [e] at this
    exact this
  have a2 : -6 ≤ fracV ns k := by
    have := divInt_le (u := -6 * downV ns k) (v := pickV ns (k + 1) (12 * downV ns k + 1) - 6 * downV ns k) (d := downV ns k) (by omega) (by omega)
    rw [Rat.divInt_eq_div (-6 * downV ns k), Rat.intCast_mul] at this
    have hd : ((downV ns k : Int) : Rat) ≠ 0 := fun z => by
      have := Rat.intCast_eq_zero_iff.mp z
      omega
    have e : ((-6 : Int) : Rat) * (downV ns k : Rat) / (downV ns k : Rat) = -6 := by
      rw [show ((-6 : Int) : Rat) = -6 from rfl]
      grind
    rw [e] at this
    exact this
  rw [Rat.le_iff] at a1 a2
  have e1 : (6 : Rat).num = 6 := rfl
  have e2 : (6 : Rat).den = 1 := rfl
  have e3 : (-6 : Rat).num = -6 := rfl
  have e4 : (-6 : Rat).den = 1 := rfl
  rw [e1, e2] at a1
  rw [e3, e4] at a2
  refine ⟨by omega, by omega, by omega⟩
end GW
end

section
/-! S16: plans slowed; fractions on a grid. -/
namespace GW
def slP (c : Rat) : Pn → Pn
  | .wait s => .wait (s * c)
  | .go b w s k => .go b w (s * c) k
  | .thn p q => .thn (slP c p) (slP c q)
  | .again m p => .again m (slP c p)
theorem slP_size {c : Rat} : ∀ p : Pn, sizeP (slP c p) = sizeP p * c
  | .wait s => rfl
  | .go _ _ _ _ => rfl
  | .thn p q => by
    show sizeP (slP c p) + sizeP (slP c q) = (sizeP p + sizeP q) * c
    rw [slP_size p, slP_size q]
    grind
  | .again m p => by
    show ((m : Int) : Rat) * sizeP (slP c p) = ((m : Int) : Rat) * sizeP p * c
    rw [slP_size p]
    grind
theorem slP_steps {c : Rat} : ∀ p : Pn, stepsP (slP c p) = (stepsP p).map (slP c)
  | .wait s => rfl
  | .go _ _ _ _ => rfl
  | .thn p q => by
    show stepsP (slP c p) ++ stepsP (slP c q) = (stepsP p ++ stepsP q).map (slP c)
    rw [slP_steps p, slP_steps q, List.map_append]
  | .again m p => by
    show (List.replicate m (stepsP (slP c p))).flatten = ((List.replicate m (stepsP p)).flatten).map (slP c)
    rw [slP_steps p, List.map_flatten, List.map_replicate]
theorem slP_ok {c : Rat} {z ic : Nat} [SzLe c ic] (hc : 0 < c) : ∀ {d : Nat} {p : Pn}, PnZ z d p → PnZ (z + ic) d (slP c p)
  | 0, _, h => h.elim
  | d + 1, .wait s, h => by
    have := h.2
    exact ⟨Rat.mul_pos h.1 hc, show SzLe (s * c) (z + ic) from inferInstance⟩
  | d + 1, .go _ w s k, h => by
    have := h.2.2.1
    exact ⟨h.1, Rat.mul_pos h.2.1 hc, show SzLe (s * c) (z + ic) from inferInstance, h.2.2.2⟩
  | d + 1, .thn p q, h => ⟨slP_ok hc h.1, slP_ok hc h.2⟩
  | d + 1, .again m p, h => ⟨h.1, slP_ok hc h.2⟩
theorem slP_slP {c e : Rat} : ∀ p : Pn, slP e (slP c p) = slP (c * e) p
  | .wait s => by
    show Pn.wait (s * c * e) = .wait (s * (c * e))
    rw [Rat.mul_assoc]
  | .go b w s k => by
    show Pn.go b w (s * c * e) k = .go b w (s * (c * e)) k
    rw [Rat.mul_assoc]
  | .thn p q => by
    show Pn.thn _ _ = Pn.thn _ _
    rw [slP_slP p, slP_slP q]
  | .again m p => by
    show Pn.again _ _ = Pn.again _ _
    rw [slP_slP p]
theorem slP_one : ∀ p : Pn, slP 1 p = p
  | .wait s => by
    show Pn.wait (s * 1) = .wait s
    rw [Rat.mul_one]
  | .go b w s k => by
    show Pn.go b w (s * 1) k = .go b w s k
    rw [Rat.mul_one]
  | .thn p q => by
    show Pn.thn _ _ = Pn.thn _ _
    rw [slP_one p, slP_one q]
  | .again m p => by
    show Pn.again _ _ = Pn.again _ _
    rw [slP_one p]
theorem sizeP_nn {z : Nat} : ∀ {d : Nat} {p : Pn}, PnZ z d p → 0 ≤ sizeP p
  | 0, _, h => h.elim
  | d + 1, .wait s, h => Rat.le_of_lt h.1
  | d + 1, .go _ w s k, h => Rat.le_of_lt h.2.1
  | d + 1, .thn p q, h => by
    have h1 := sizeP_nn h.1
    have h2 := sizeP_nn h.2
    show 0 ≤ sizeP p + sizeP q
    grind
  | d + 1, .again m p, h => by
    have h2 := sizeP_nn h.2
    show 0 ≤ ((m : Int) : Rat) * sizeP p
    exact Rat.mul_nonneg (by exact_mod_cast (show (0 : Int) ≤ (m : Int) by omega)) h2
theorem pnz_up {z : Nat} : ∀ {d e : Nat} {p : Pn}, d ≤ e → PnZ z d p → PnZ z e p
  | 0, _, _, _, h => h.elim
  | d + 1, 0, _, hd, _ => absurd hd (by omega)
  | d + 1, e + 1, .wait s, _, h => h
  | d + 1, e + 1, .go _ _ _ _, _, h => h
  | d + 1, e + 1, .thn p q, hd, h => ⟨pnz_up (by omega) h.1, pnz_up (by omega) h.2⟩
  | d + 1, e + 1, .again m p, hd, h => ⟨h.1, pnz_up (by omega) h.2⟩
theorem stF_slow {w b c : Rat} (l : List Pn) (h : ∀ q ∈ l, IsStep q) : stF w (b * c) (l.map (slP c)) = ⟨(stF w b l).made.map (slMo c), (stF w b l).here, (stF w b l).time * c⟩ := by
  have key : ∀ (l : List Pn) (st : St), (∀ q ∈ l, IsStep q) → (l.map (slP c)).foldl stStep ⟨st.made.map (slMo c), st.here, st.time * c⟩ = ⟨(l.foldl stStep st).made.map (slMo c), (l.foldl stStep st).here, (l.foldl stStep st).time * c⟩ := by
    intro l
    induction l with
    | nil => intro st _; rfl
    | cons q l ih =>
      intro st h
      have hq := h q List.mem_cons_self
      have z0 : (0 : Rat) / c = 0 := by grind
      have e : ∀ (st : St), ((q :: l).map (slP c)).foldl stStep st = (l.map (slP c)).foldl stStep (stStep st (slP c q)) := fun _ => rfl
      have e' : ∀ (st : St), (q :: l).foldl stStep st = l.foldl stStep (stStep st q) := fun _ => rfl
      rw [e, e', ← ih _ fun x hx => h x (List.mem_cons_of_mem _ hx)]
      congr 1
      cases q with
      | wait s =>
        show St.mk _ _ (st.time * c + s * c) = St.mk _ _ ((st.time + s) * c)
        congr 1
        grind
      | go b' w' s k =>
        cases b'
        · show St.mk (st.made.map (slMo c) ++ [⟨_, _, _, _, _, 0, 0⟩]) _ (st.time * c + s * c) = St.mk ((st.made ++ [_]).map (slMo c)) _ ((st.time + s) * c)
          rw [List.map_append]
          congr 1
          · show _ = _ ++ [Mo.mk _ _ _ _ _ (0 / c) (0 / c)]
            rw [z0]
          · grind
        · show St.mk (st.made.map (slMo c) ++ [⟨_, _, _, _, _, 0, 0⟩]) _ (st.time * c + s * c) = St.mk ((st.made ++ [_]).map (slMo c)) _ ((st.time + s) * c)
          rw [List.map_append]
          congr 1
          · show _ = _ ++ [Mo.mk _ _ _ _ _ (0 / c) (0 / c)]
            rw [z0]
          · grind
      | thn _ _ => exact hq.elim
      | again _ _ => exact hq.elim
  exact key l ⟨[], w, b⟩ h
/-! ### on a grid -/
/-- a part of N, at most M of them -/
def Gr (N M : Nat) (x : Rat) : Prop := ∃ i : Int, x = Rat.divInt i N ∧ i.natAbs ≤ M
theorem Gr.sz {N M b : Nat} {x : Rat} (h : Gr N M x) (h1 : N < 2 ^ b) (h2 : M < 2 ^ b) (h0 : 0 < b) : SzLe x b := by
  obtain ⟨i, rfl, hi⟩ := h
  exact sz_divInt (by omega) (by omega) h0
theorem Gr.add {N M M' : Nat} {x y : Rat} (hN : N ≠ 0) (h : Gr N M x) (h' : Gr N M' y) : Gr N (M + M') (x + y) := by
  obtain ⟨i, rfl, hi⟩ := h
  obtain ⟨j, rfl, hj⟩ := h'
  have h0 : ((N : Int) : Rat) ≠ 0 := fun z => hN (by have := Rat.intCast_eq_zero_iff.mp z; omega)
  refine ⟨i + j, ?_, by omega⟩
  rw [Rat.divInt_eq_div, Rat.divInt_eq_div, Rat.divInt_eq_div, Rat.intCast_add]
  grind
theorem Gr.up {N M M' : Nat} {x : Rat} (h : Gr N M x) (hM : M ≤ M') : Gr N M' x := by
  obtain ⟨i, e, hi⟩ := h
  exact ⟨i, e, by omega⟩
theorem Gr.mul {N M N' M' : Nat} {x y : Rat} (hN : N ≠ 0) (hN' : N' ≠ 0) (h : Gr N M x) (h' : Gr N' M' y) : Gr (N * N') (M * M') (x * y) := by
  obtain ⟨i, rfl, hi⟩ := h
  obtain ⟨j, rfl, hj⟩ := h'
  have h0 : ((N : Int) : Rat) ≠ 0 := fun z => hN (by have := Rat.intCast_eq_zero_iff.mp z; omega)
  have h1 : ((N' : Int) : Rat) ≠ 0 := fun z => hN' (by have := Rat.intCast_eq_zero_iff.mp z; omega)
  refine ⟨i * j, ?_, by rw [Int.natAbs_mul]; exact Nat.mul_le_mul hi hj⟩
  rw [Rat.divInt_eq_div, Rat.divInt_eq_div, Rat.divInt_eq_div, Rat.intCast_mul, Int.natCast_mul, Rat.intCast_mul]
  grind
theorem Gr.of_div {N M : Nat} {u d : Int} (c : Int) (hc : c ≠ 0) (e : d * c = N) (h : (u * c).natAbs ≤ M) : Gr N M (Rat.divInt u d) :=
  ⟨u * c, by rw [← e, Rat.divInt_mul_right hc], h⟩
theorem frac_gr (ns : List Int) (k : Int) : Gr 12 72 (fracV ns k) := by
  have h := down_rng ns k
  have p0 := pick_lo ns (k + 1) (m := 12 * downV ns k + 1) (by omega)
  have p1 := pick_hi ns (k + 1) (m := 12 * downV ns k + 1) (by omega)
  unfold fracV
  have hc : downV ns k = 1 ∨ downV ns k = 2 ∨ downV ns k = 3 ∨ downV ns k = 4 := by omega
  rcases hc with e | e | e | e <;> rw [e] at p0 p1 ⊢
  · exact Gr.of_div 12 (by decide) rfl (by omega)
  · exact Gr.of_div 6 (by decide) rfl (by omega)
  · exact Gr.of_div 4 (by decide) rfl (by omega)
  · exact Gr.of_div 3 (by decide) rfl (by omega)
theorem size_gr (ns : List Int) (k : Int) : Gr 6 36 (sizeV ns k) := by
  have h := down3_rng ns k
  have p0 := pick_lo ns (k + 1) (m := 6 * down3 ns k) (by omega)
  have p1 := pick_hi ns (k + 1) (m := 6 * down3 ns k) (by omega)
  unfold sizeV
  have hc : down3 ns k = 1 ∨ down3 ns k = 2 ∨ down3 ns k = 3 := by omega
  rcases hc with e | e | e <;> rw [e] at p0 p1 ⊢
  · exact Gr.of_div 6 (by decide) rfl (by omega)
  · exact Gr.of_div 3 (by decide) rfl (by omega)
  · exact Gr.of_div 2 (by decide) rfl (by omega)
/-- a plan of steps on a grid -/
def PnGr (N M : Nat) : Pn → Prop
  | .wait s => Gr N M s
  | .go _ w s _ => Gr 12 72 w ∧ Gr N M s
  | .thn p q => PnGr N M p ∧ PnGr N M q
  | .again _ p => PnGr N M p
theorem gr_steps {N M : Nat} : ∀ {p : Pn}, PnGr N M p → ∀ q ∈ stepsP p, PnGr N M q
  | .wait s, h => fun q hq => by
    have e := List.mem_singleton.mp hq
    subst e
    exact h
  | .go _ w s k, h => fun q hq => by
    have e := List.mem_singleton.mp hq
    subst e
    exact h
  | .thn p q, h => fun x hx => by
    rcases List.mem_append.mp hx with hx | hx
    · exact gr_steps h.1 x hx
    · exact gr_steps h.2 x hx
  | .again m p, h => fun x hx => by
    have hx : x ∈ (List.replicate m (stepsP p)).flatten := hx
    obtain ⟨l, h1, h2⟩ := List.mem_flatten.mp hx
    have e := List.eq_of_mem_replicate h1
    subst e
    exact gr_steps (p := p) h x h2
theorem leaf_gr (ns : List Int) (j : Int) : PnGr 6 36 (leafV ns j) := by
  unfold leafV
  split
  · exact size_gr ns _
  · exact ⟨frac_gr ns _, size_gr ns _⟩
theorem plan_gr (ns : List Int) : ∀ (d : Nat) (j : Int), PnGr 6 36 (planV ns d j)
  | 0, j => leaf_gr ns j
  | d + 1, j => by
    unfold planV
    split
    · exact leaf_gr ns j
    · split
      · exact ⟨plan_gr ns d _, plan_gr ns d _⟩
      · exact plan_gr ns d _
theorem gr_slow {N M N' M' : Nat} {c : Rat} (hN : N ≠ 0) (hN' : N' ≠ 0) (hc : Gr N' M' c) : ∀ {p : Pn}, PnGr N M p → PnGr (N * N') (M * M') (slP c p)
  | .wait s, h => Gr.mul hN hN' h hc
  | .go _ w s k, h => ⟨h.1, Gr.mul hN hN' h.2 hc⟩
  | .thn p q, h => ⟨gr_slow hN hN' hc h.1, gr_slow hN hN' hc h.2⟩
  | .again m p, h => gr_slow (p := p) hN hN' hc h
structure StGr (N M W T n : Nat) (st : St) : Prop where
  sh : Gr 12 (W + 72 * n) st.here
  sm : Gr N (T + M * n) st.time
  mo : ∀ m ∈ st.made, Gr 12 (W + 72 * n) m.a ∧ Gr 12 (W + 72 * n) m.b ∧ Gr N (T + M * n) m.t ∧ Gr N M m.l
theorem stGr_all {N M W T : Nat} {w b : Rat} (hN : N ≠ 0) : ∀ (l : List Pn) (n : Nat) (st : St), StGr N M W T n st → (∀ q ∈ l, IsStep q ∧ PnGr N M q) → StGr N M W T (n + l.length) (l.foldl stStep st)
  | [], n, st, h, _ => h
  | q :: l, n, st, h, hl => by
    have ih := stGr_all (N := N) (M := M) (W := W) (T := T) (w := w) (b := b) hN l (n + 1) (stStep st q) ?_ fun x hx => hl x (List.mem_cons_of_mem _ hx)
    · have e : n + 1 + l.length = n + (q :: l).length := by rw [List.length_cons]; omega
      rw [e] at ih
      exact ih
    · obtain ⟨h1, h2⟩ := hl q List.mem_cons_self
      have em : M * (n + 1) = M * n + M := Nat.mul_succ ..
      have upo : ∀ m ∈ st.made, Gr 12 (W + 72 * (n + 1)) m.a ∧ Gr 12 (W + 72 * (n + 1)) m.b ∧ Gr N (T + M * (n + 1)) m.t ∧ Gr N M m.l := fun m hm => by
        obtain ⟨g1, g2, g3, g4⟩ := h.mo m hm
        exact ⟨g1.up (by omega), g2.up (by omega), g3.up (by omega), g4⟩
      have tm : ∀ {s : Rat}, Gr N M s → Gr N (T + M * (n + 1)) (st.time + s) := fun hs => (Gr.add hN h.sm hs).up (by omega)
      cases q with
      | wait s => exact ⟨h.sh.up (by omega), tm h2, upo⟩
      | go by_ w' s k =>
        have sh := h.sh.up (M' := W + 72 * (n + 1)) (by omega)
        have st' := h.sm.up (M' := T + M * (n + 1)) (by omega)
        cases by_
        · have hw : Gr 12 (W + 72 * (n + 1)) w' := h2.1.up (by omega)
          refine ⟨hw, tm h2.2, fun m hm => ?_⟩
          rcases List.mem_append.mp hm with hm | hm
          · exact upo m hm
          · rw [List.mem_singleton.mp hm]
            exact ⟨sh, hw, st', h2.2⟩
        · have hw : Gr 12 (W + 72 * (n + 1)) (st.here + w') := (Gr.add (by decide) h.sh h2.1).up (by omega)
          refine ⟨hw, tm h2.2, fun m hm => ?_⟩
          rcases List.mem_append.mp hm with hm | hm
          · exact upo m hm
          · rw [List.mem_singleton.mp hm]
            exact ⟨sh, hw, st', h2.2⟩
      | thn _ _ => exact h1.elim
      | again _ _ => exact h1.elim
/-- small motions of a plan played -/
theorem stGr_s {N M W T : Nat} {w b : Rat} {l : List Pn} (hN : N ≠ 0) (hw : Gr 12 W w) (hb : Gr N T b) (hl : ∀ q ∈ l, IsStep q ∧ PnGr N M q) (h1 : W + 72 * l.length < 2 ^ 20) (h2 : T + M * l.length < 2 ^ 60) (h3 : N < 2 ^ 12) (h4 : M < 2 ^ 12) (h5 : ∀ m ∈ (stF w b l).made, 0 < m.l ∧ m.u = 0 ∧ m.v = 0) : ∀ m ∈ (stF w b l).made, MoS m := by
  intro m hm
  have h := stGr_all (w := w) (b := b) (N := N) (M := M) (W := W) (T := T) hN l 0 ⟨[], w, b⟩ ⟨hw.up (by omega), hb.up (by omega), fun m h => absurd h (by show m ∉ []; simp)⟩ hl
  rw [Nat.zero_add] at h
  obtain ⟨g1, g2, g3, g4⟩ := h.mo m hm
  obtain ⟨k1, k2, k3⟩ := h5 m hm
  have hN60 : N < 2 ^ 60 := Nat.lt_of_lt_of_le h3 (by decide)
  have z1 : SzLe (0 : Rat) 1 := inferInstance
  exact ⟨g1.sz (by decide) h1 (by decide), g2.sz (by decide) h1 (by decide), g3.sz hN60 h2 (by decide), g4.sz h3 h4 (by decide), by rw [k2]; exact szz z1 (by decide), by rw [k3]; exact szz z1 (by decide), k1, .inr ⟨k2, k3⟩⟩
theorem stF_still {w b : Rat} : ∀ {z : Nat} {l : List Pn}, (∀ q ∈ l, IsStep q ∧ PnZ z 1 q) → ∀ m ∈ (stF w b l).made, 0 < m.l ∧ m.u = 0 ∧ m.v = 0 := by
  intro z l
  have key : ∀ (l : List Pn) (st : St), (∀ m ∈ st.made, 0 < m.l ∧ m.u = 0 ∧ m.v = 0) → (∀ q ∈ l, IsStep q ∧ PnZ z 1 q) → ∀ m ∈ (l.foldl stStep st).made, 0 < m.l ∧ m.u = 0 ∧ m.v = 0 := by
    intro l
    induction l with
    | nil => intro st h _; exact h
    | cons q l ih =>
      intro st h hl
      refine ih (stStep st q) ?_ fun x hx => hl x (List.mem_cons_of_mem _ hx)
      obtain ⟨h1, h2⟩ := hl q List.mem_cons_self
      cases q with
      | wait s => exact h
      | go b' w' s k =>
        cases b'
        · intro m hm
          rcases List.mem_append.mp hm with hm | hm
          · exact h m hm
          · rw [List.mem_singleton.mp hm]
            exact ⟨h2.2.1, rfl, rfl⟩
        · intro m hm
          rcases List.mem_append.mp hm with hm | hm
          · exact h m hm
          · rw [List.mem_singleton.mp hm]
            exact ⟨h2.2.1, rfl, rfl⟩
      | thn _ _ => exact h1.elim
      | again _ _ => exact h1.elim
  exact key l ⟨[], w, b⟩ fun m h => absurd h (by show m ∉ []; simp)
end GW
end

section
/-! S17: whiles; marks. -/
namespace GW
open PyProof.Rows PySem.W
section
variable {R : Rt} {m : Bool} {ρ : Env} {K : D → Bool → Env → Prop} {X : Nat → Env → Prop} {Q : Flow → Prop} {ss : List Ps}
/-- a while by what holds ahead of each turn, and how many are left at most -/
theorem whl_inv {c : Px} {b : List Ps} (I : Nat → Env → Prop) (hs : ∀ j ρ, I j ρ → WE R false c ρ (fun x _ ρ' => BR x (∃ i, j = i + 1 ∧ WS R b ρ' (IQ (I i) Q)) (Q (.nx ρ'))) (fun e ρ' => Q (.exn e ρ'))) :
    ∀ (n k : Nat) (ρ : Env), k < n → I k ρ → gd Q (whlL (ev R false c) (execs R b) n ρ)
  | 0, k, ρ, h, _ => absurd h (Nat.not_lt_zero _)
  | n + 1, k, ρ, h, hi => by
    have h1 := hs k ρ hi
    unfold whlL
    unfold WE at h1
    cases hc : ev R false c ρ with
    | ok x ρ' =>
      rw [hc] at h1
      obtain ⟨d, o⟩ := x
      cases d with
      | bl v =>
        cases v with
        | false => exact h1.2 rfl
        | true =>
          obtain ⟨i, rfl, h2⟩ := h1.1 rfl
          unfold WS at h2
          dsimp only
          cases hb : execs R b ρ' with
          | nx ρ2 => rw [hb] at h2; exact whl_inv I hs n i ρ2 (by omega) h2
          | ct ρ2 => rw [hb] at h2; exact whl_inv I hs n i ρ2 (by omega) h2
          | bk ρ2 => rw [hb] at h2; exact h2
          | rt d o ρ2 => rw [hb] at h2; exact h2
          | exn e ρ2 => rw [hb] at h2; exact h2
          | bad => rw [hb] at h2; exact h2
      | _ => exact (show False from h1).elim
    | exn e ρ' => rw [hc] at h1; exact h1
    | bad => rw [hc] at h1; exact (show False from h1).elim
def intD? : D → Option Int
  | .int i => some i
  | _ => none
theorem ws_insn {i : Nat} {k e : Px} : WS R (.insr (.sl i) k e :: ss) ρ Q = (OV (peekO ρ (.sl i)) fun l => OV (D.lst? l) fun _ => WE R false k ρ (fun z o ρ => nf z o ∧ WE R false e ρ (fun x o ρ => nf x o ∧ OV (peekO ρ (.sl i)) fun l => OV (D.lst? l) fun xs => OV (intD? z) fun j => (0 ≤ j ∧ j < 2 ^ 63 ∧ xs.length < lineD) ∧ SX i (.ow (.lst (xs.take j.toNat ++ [x] ++ xs.drop j.toNat))) ρ fun ρ => WS R ss ρ Q) (fun c ρ => Q (.exn c ρ))) (fun c ρ => Q (.exn c ρ))) := by
  unfold WS WE
  rw [execs_cons]
  conv => lhs; unfold exec
  cases peekO ρ (.sl i) with
  | none => rfl
  | some l =>
    cases l with
    | lst xs0 =>
      dsimp only [OV, D.lst?]
      cases ev R false k ρ with
      | ok z ρ =>
        obtain ⟨dz, oz⟩ := z
        simp only [ww_ok]
        unfold Out.frz nf
        dsimp only
        cases hz : (oz && dz.isIns) with
        | true => simp [onOut, gd]
        | false =>
          simp only [Bool.false_eq_true, if_false, onOut, true_and]
          cases ev R false e ρ with
          | ok x ρ =>
            obtain ⟨d, o⟩ := x
            simp only [ww_ok]
            cases h : (o && d.isIns) with
            | true => simp [onOut, gd]
            | false =>
              simp only [Bool.false_eq_true, if_false, onOut, true_and]
              cases peekO ρ (.sl i) with
              | none => rfl
              | some l =>
                cases l with
                | lst xs =>
                  cases dz with
                  | int j =>
                    dsimp only [OV, D.lst?, poke, intD?]
                    by_cases hl : 0 ≤ j ∧ j < 2 ^ 63 ∧ xs.length < lineD
                    · rw [if_pos hl]
                      exact propext ⟨fun q => ⟨hl, q⟩, fun q => q.2⟩
                    · rw [if_neg hl]
                      exact propext ⟨fun q => q.elim, fun q => absurd q.1 hl⟩
                  | _ => rfl
                | _ => rfl
          | _ => rfl
      | _ => rfl
    | _ => rfl
end
theorem intD_i {i : Int} {k : Int → Prop} : OV (intD? (.int i)) k = k i := rfl

/-! ### marks -/
abbrev Mk := Rat × PySem.Str
def dK (m : Mk) : D := .tup [fr m.1, .str m.2]
/-- where a time goes in, at most at k -/
def atM (x : Rat) (l : List Mk) : Nat → Nat
  | 0 => 0
  | k + 1 => if x < ((l[k]?).getD (0, "")).1 then atM x l k else k + 1
def insM (l : List Mk) (m : Mk) : List Mk := l.take (atM m.1 l l.length) ++ [m] ++ l.drop (atM m.1 l l.length)
def byT (l : List Mk) : List Mk := l.foldl insM []
def pastL (l : List Mk) (a b : Rat) : List PySem.Str := if b < a then ((byT l).filter fun m => !decide (m.1 < b) && decide (m.1 < a)).reverse.map (·.2) else ((byT l).filter fun m => decide (a < m.1) && !decide (b < m.1)).map (·.2)
theorem atM_le (x : Rat) (l : List Mk) : ∀ k, atM x l k ≤ k
  | 0 => Nat.le_refl _
  | k + 1 => by
    unfold atM
    split
    · exact Nat.le_succ_of_le (atM_le x l k)
    · exact Nat.le_refl _
theorem insM_len (l : List Mk) (m : Mk) : (insM l m).length = l.length + 1 := by
  unfold insM
  have := atM_le m.1 l l.length
  simp
  omega
theorem insM_perm (l : List Mk) (m : Mk) : (insM l m).Perm (l ++ [m]) := by
  unfold insM
  generalize atM m.1 l l.length = k
  have h : (l.take k ++ [m] ++ l.drop k).Perm (l.take k ++ (l.drop k ++ [m])) := by
    rw [List.append_assoc]
    exact List.Perm.append_left _ List.perm_append_comm
  refine h.trans ?_
  rw [← List.append_assoc, List.take_append_drop]
theorem byT_snoc (l : List Mk) (m : Mk) : byT (l ++ [m]) = insM (byT l) m := by
  unfold byT
  rw [List.foldl_append]
  rfl
theorem byT_take {l : List Mk} {i : Nat} {m : Mk} (h : l[i]? = some m) : byT (l.take (i + 1)) = insM (byT (l.take i)) m := by
  rw [List.take_succ, h]
  exact byT_snoc _ m
theorem byT_perm (l : List Mk) : (byT l).Perm l := by
  have key : ∀ (l a : List Mk), (l.foldl insM a).Perm (a ++ l) := by
    intro l
    induction l with
    | nil => intro a; rw [List.append_nil]; exact List.Perm.refl _
    | cons m l ih =>
      intro a
      rw [List.foldl_cons]
      refine (ih _).trans ?_
      have h := (insM_perm a m).append_right l
      rw [List.append_assoc] at h
      exact h
  exact key l []
theorem byT_len (l : List Mk) : (byT l).length = l.length := (byT_perm l).length_eq
/-- in the order of times, like ones as R has them -/
theorem insM_ord {R : Mk → Mk → Prop} {l : List Mk} {m : Mk} (h : l.Pairwise fun a b => a.1 < b.1 ∨ (a.1 = b.1 ∧ R a b)) (hm : ∀ a ∈ l, R a m) : (insM l m).Pairwise fun a b => a.1 < b.1 ∨ (a.1 = b.1 ∧ R a b) := by
  have lo : ∀ k, k ≤ l.length → ∀ j y, j < atM m.1 l k → l[j]? = some y → y.1 ≤ m.1 := by
    intro k
    induction k with
    | zero => intro _ j y hj; exact absurd hj (Nat.not_lt_zero _)
    | succ k ih =>
      intro hk j y hj hy
      unfold atM at hj
      split at hj
      · exact ih (by omega) j y hj hy
      · rename_i hn
        have hkl : k < l.length := hk
        rw [List.getElem?_eq_getElem hkl, Option.getD_some] at hn
        have hn := Rat.not_lt.mp hn
        rcases Nat.lt_or_ge j k with hlt | hge
        · have hj2 : j < l.length := by omega
          rw [List.getElem?_eq_getElem hj2] at hy
          cases hy
          have h1 := List.pairwise_iff_getElem.mp h j k hj2 hkl hlt
          rcases h1 with h1 | h1
          · exact Rat.le_trans (Rat.le_of_lt h1) hn
          · exact h1.1 ▸ hn
        · have e : j = k := by omega
          subst e
          rw [List.getElem?_eq_getElem hkl] at hy
          cases hy
          exact hn
  have hi : ∀ k, k ≤ l.length → ∀ j y, atM m.1 l k ≤ j → j < k → l[j]? = some y → m.1 < y.1 := by
    intro k
    induction k with
    | zero => intro _ j y _ hj; exact absurd hj (Nat.not_lt_zero _)
    | succ k ih =>
      intro hk j y hj hjk hy
      unfold atM at hj
      split at hj
      · rename_i hn
        rcases Nat.lt_or_ge j k with hlt | hge
        · exact ih (by omega) j y hj hlt hy
        · have e : j = k := by omega
          subst e
          rw [hy, Option.getD_some] at hn
          exact hn
      · omega
  have lo := lo l.length (Nat.le_refl _)
  have hi := hi l.length (Nat.le_refl _)
  unfold insM
  generalize atM m.1 l l.length = k at *
  rw [List.append_assoc, List.pairwise_append]
  refine ⟨h.sublist (List.take_sublist _ _), ?_, ?_⟩
  · rw [List.singleton_append, List.pairwise_cons]
    refine ⟨fun y hy => .inl ?_, h.sublist (List.drop_sublist _ _)⟩
    obtain ⟨j, hj⟩ := List.getElem?_of_mem hy
    rw [List.getElem?_drop] at hj
    exact hi (k + j) y (by omega) (List.getElem?_eq_some_iff.mp hj).1 hj
  · intro a ha b hb
    have hal : a ∈ l := List.mem_of_mem_take ha
    rcases List.mem_append.mp hb with hb | hb
    · rw [List.mem_singleton.mp hb]
      obtain ⟨j, hj⟩ := List.getElem?_of_mem ha
      have hjk : j < k := by
        have := (List.getElem?_eq_some_iff.mp hj).1
        rw [List.length_take] at this
        omega
      rw [List.getElem?_take_of_lt hjk] at hj
      have h1 := lo j a hjk hj
      rcases Decidable.em (a.1 = m.1) with h2 | h2
      · exact .inr ⟨h2, hm a hal⟩
      · exact .inl (Rat.not_le.mp fun h => h2 (Rat.le_antisymm h1 h))
    · have h3 := h
      rw [← List.take_append_drop k l, List.pairwise_append] at h3
      exact h3.2.2 a ha b hb
/-- marks by their times -/
theorem byT_ord {R : Mk → Mk → Prop} {l : List Mk} (h : l.Pairwise R) : (byT l).Pairwise fun a b => a.1 < b.1 ∨ (a.1 = b.1 ∧ R a b) := by
  have key : ∀ (l a : List Mk), (a ++ l).Pairwise R → (∀ x ∈ a, ∀ y ∈ l, R x y) → (∀ b : List Mk, b.Perm a → b.Pairwise (fun a b => a.1 < b.1 ∨ (a.1 = b.1 ∧ R a b)) → (l.foldl insM b).Pairwise fun a b => a.1 < b.1 ∨ (a.1 = b.1 ∧ R a b)) := by
    intro l
    induction l with
    | nil => intro a _ _ b _ hb; exact hb
    | cons m l ih =>
      intro a h1 h2 b hp hb
      rw [List.foldl_cons]
      refine ih (a ++ [m]) (by rw [List.append_assoc]; exact h1) ?_ _ ((insM_perm b m).trans (hp.append_right _)) (insM_ord hb fun x hx => h2 x (hp.mem_iff.mp hx) m List.mem_cons_self)
      intro x hx y hy
      rcases List.mem_append.mp hx with hx | hx
      · exact h2 x hx y (List.mem_cons_of_mem _ hy)
      · rw [List.mem_singleton.mp hx]
        have h3 := (List.pairwise_append.mp h1).2.1
        exact (List.pairwise_cons.mp h3).1 y hy
  exact key l [] h (fun x hx => absurd hx (by simp)) [] (List.Perm.refl _) List.Pairwise.nil
/-! ### sorted -/
theorem deps_all {n : Nat} : ∀ {xs : List D}, (∀ x ∈ xs, D.dep x ≤ n) → D.deps xs ≤ n
  | [], _ => Nat.zero_le _
  | x :: xs, h => by
    unfold D.deps
    exact Nat.max_le.mpr ⟨h x List.mem_cons_self, deps_all fun y hy => h y (List.mem_cons_of_mem _ hy)⟩
abbrev leD : D → D → Bool := dataLe false D.py
/-- sorted alike from every order -/
theorem sort_perm {α : Type} {enc : α → D} (anti : ∀ a b, dataLt (enc a).py (enc b).py = false → dataLt (enc b).py (enc a).py = false → a = b) {l m : List α} (h : l.Perm m) : (l.map enc).mergeSort leD = (m.map enc).mergeSort leD := by
  have T := sortLe_total (listOrd itemOrd) false (fun b : α => keyToks (enc b).py)
  have e : ∀ l : List α, (l.map enc).mergeSort leD = (l.mergeSort (dataLe false fun b => (enc b).py)).map enc := fun l => (List.map_mergeSort (f := enc) (r := dataLe false fun b => (enc b).py) (s := leD) fun a _ b _ => rfl).symm
  rw [e, e]
  congr 1
  refine Srt.the_of_perm _ (fun a b c => T.trans a b c) (fun a b => by rw [Bool.or_eq_true]; exact T.total a b) (fun a b h1 h2 => ?_) ((List.mergeSort_perm l _).trans h) (List.pairwise_mergeSort (fun a b c => T.trans a b c) (fun a b => by rw [Bool.or_eq_true]; exact T.total a b) l)
  have h1 : (!dataLt (enc b).py (enc a).py) = true := h1
  have h2 : (!dataLt (enc a).py (enc b).py) = true := h2
  exact anti a b (by simpa using h2) (by simpa using h1)
theorem str_anti (a b : PySem.Str) (h1 : dataLt (.str a) (.str b) = false) (h2 : dataLt (.str b) (.str a) = false) : a = b := by
  rw [dataLt_str] at h1 h2
  have h1 := of_decide_eq_false h1
  have h2 := of_decide_eq_false h2
  exact str_of_cps (List.le_antisymm (List.not_lt.mp h2) (List.not_lt.mp h1))
theorem fr_anti (a b : Rat) (h1 : dataLt (fr a).py (fr b).py = false) (h2 : dataLt (fr b).py (fr a).py = false) : a = b := by
  have h1 := (lt_pair a.num a.den b.num b.den).symm.trans h1
  have h2 := (lt_pair b.num b.den a.num a.den).symm.trans h2
  rw [SrtO.lexB_no] at h1 h2
  dsimp only at h1 h2
  refine Rat.ext ?_ ?_ <;> omega
theorem mk_lt (a b : Mk) : dataLt (dK a).py (dK b).py = if PySem.PyData.eqv (fr a.1).py (fr b.1).py = true then (if PySem.PyData.eqv (.str a.2) (.str b.2) = true then false else dataLt (.str a.2) (.str b.2)) else dataLt (fr a.1).py (fr b.1).py := dataLt_pair (x := (fr a.1).py) (x' := (fr b.1).py) (y := .str a.2) (y' := .str b.2) rfl rfl
theorem eqv_frpy (a b : Rat) : PySem.PyData.eqv (fr a).py (fr b).py = decide (a = b) := by
  show PySem.PyData.eqv (.tuple [.int a.num, .int a.den]) (.tuple [.int b.num, .int b.den]) = decide (a = b)
  by_cases h : a = b
  · subst h
    simp [PySem.PyData.eqv, PySem.PyData.eqvAll]
  · have h' : ¬ (a.num = b.num ∧ (a.den : Int) = b.den) := fun ⟨h1, h2⟩ => h (Rat.ext h1 (by omega))
    simp only [PySem.PyData.eqv, PySem.PyData.eqvAll, h, decide_false, Bool.and_true, Bool.and_eq_false_iff]
    simp
    omega
theorem mk_anti (a b : Mk) (h1 : dataLt (dK a).py (dK b).py = false) (h2 : dataLt (dK b).py (dK a).py = false) : a = b := by
  rw [mk_lt, eqv_frpy] at h1 h2
  have e1 : a.1 = b.1 := by
    rcases Decidable.em (a.1 = b.1) with h | h
    · exact h
    · have h' : ¬ b.1 = a.1 := fun z => h z.symm
      rw [if_neg (by simpa using h)] at h1
      rw [if_neg (by simpa using h')] at h2
      exact fr_anti _ _ h1 h2
  rw [if_pos (by simpa using e1)] at h1
  rw [if_pos (by simpa using e1.symm)] at h2
  refine Prod.ext e1 ?_
  have q : ∀ x y : PySem.Str, PySem.PyData.eqv (.str x) (.str y) = true → x = y := fun x y h => by
    simpa [PySem.PyData.eqv] using h
  by_cases g1 : PySem.PyData.eqv (.str a.2) (.str b.2) = true
  · exact q _ _ g1
  · by_cases g2 : PySem.PyData.eqv (.str b.2) (.str a.2) = true
    · exact (q _ _ g2).symm
    · rw [if_neg g1] at h1
      rw [if_neg g2] at h2
      exact str_anti _ _ h1 h2
section
variable {kp : D × Bool → Prop} {kb : Bool → Prop}
theorem bi_sortk {l : List Mk} (h : ∀ m ∈ l, D.dep (dK m) ≤ 2) : OV (biv .sorted [.lst (l.map dK)]) kp = kp (.lst ((l.map dK).mergeSort leD), true) := by
  cases l with
  | nil =>
    have e : (List.map dK []).mergeSort leD = ([] : List D) := List.mergeSort_nil
    rw [e]
    rfl
  | cons m l =>
    have e1 : (((m :: l).map dK).all fun x => (p2? x).isSome) = false := rfl
    have e2 : okSort ((m :: l).map dK) = true := by
      unfold okSort
      rw [Bool.and_eq_true, Bool.or_eq_true]
      refine ⟨?_, .inl ?_⟩
      · unfold alikeD
        rw [Bool.and_eq_true, decide_eq_true_eq]
        refine ⟨?_, ?_⟩
        · rw [List.all_eq_true]
          intro x hx
          rw [List.all_eq_true]
          intro y hy
          obtain ⟨p, _, rfl⟩ := List.mem_map.mp hx
          obtain ⟨q, _, rfl⟩ := List.mem_map.mp hy
          rfl
        · have : D.deps ((m :: l).map dK) ≤ 2 := deps_all fun x hx => by
            obtain ⟨p, hp, rfl⟩ := List.mem_map.mp hx
            exact h p hp
          omega
      · rw [List.all_eq_true]
        intro x hx
        obtain ⟨p, _, rfl⟩ := List.mem_map.mp hx
        rfl
    show OV (if (((m :: l).map dK).all fun x => (p2? x).isSome) = true then some (.lst (sortB ltD ((m :: l).map dK)), true) else if okSort ((m :: l).map dK) = true then some (.lst (((m :: l).map dK).mergeSort leD), true) else none) kp = _
    rw [e1, e2]
    rfl
theorem sort_deps {n : Nat} {l : List D} (h : ∀ x ∈ l, D.dep x ≤ n) : Dq (.lst (l.mergeSort leD)) (n + 1) := by
  refine ⟨?_⟩
  unfold D.dep
  exact Nat.succ_le_succ (deps_all fun x hx => h x ((List.mergeSort_perm l leD).mem_iff.mp hx))
/-! ### rules about marks -/
variable {k : D → Prop} {m : Mk} {ρ : Env}
theorem ix_k0 : OV (ixv (dK m) (.int 0)) k = k (fr m.1) := rfl
theorem ix_k1 : OV (ixv (dK m) (.int 1)) k = k (.str m.2) := rfl
theorem nf_k {o : Bool} : nf (dK m) o = True := nf_t _ _
theorem st_k {is : List Nat} {k : Env → Prop} : OV (setTg ρ (.tp is) (dK m)) k = OV (setTs ρ is [fr m.1, .str m.2]) k := rfl
theorem st_pk {is : List Nat} {x y : D} {k : Env → Prop} : OV (setTg ρ (.tp is) (pairD x y)) k = OV (setTs ρ is [x, y]) k := rfl
/-- what stands where -/
theorem index_at {x : D} : ∀ {l : List D} {i s : Nat}, l[i]? = some x → (∀ j, j < i → ∀ y, l[j]? = some y → y.eqv x = false) → x.eqv x = true → indexv x l s = some (s + i)
  | [], _, _, h, _, _ => by cases h
  | y :: l, 0, s, h, _, hx => by
    cases h
    unfold indexv
    rw [if_pos hx]
    rfl
  | y :: l, i + 1, s, h, hn, hx => by
    unfold indexv
    have h0 := hn 0 (by omega) y rfl
    rw [h0]
    have := index_at (l := l) (i := i) (s := s + 1) h (fun j hj z hz => hn (j + 1) (by omega) z hz) hx
    rw [if_neg Bool.false_ne_true, this]
    congr 1
    omega
theorem mt_index {x : D} {l : List D} {i : Nat} {kp : D × Bool → Prop} (hd : x.dep ≤ 60) (hl : D.deps l ≤ 58) (h : l[i]? = some x) (hn : ∀ j, j < i → ∀ y, l[j]? = some y → y.eqv x = false) : OV (mtv .index (.lst l) [x]) kp = kp (.int i, false) := by
  have e1 : deep x (.lst l) = true := by
    unfold deep
    rw [Bool.and_eq_true, decide_eq_true_eq, decide_eq_true_eq]
    refine ⟨hd, ?_⟩
    unfold D.dep
    omega
  have e2 : indexv x l 0 = some i := by
    rw [index_at h hn (eqv_self x hd), Nat.zero_add]
  show OV (if deep x (.lst l) = true then (indexv x l 0).map fun (i : Nat) => (D.int i, false) else none) kp = _
  rw [e1, e2]
  rfl
theorem eqv_k (a b : Mk) : D.eqv (dK a) (dK b) = (decide (a.1 = b.1) && a.2 == b.2) := by
  show (D.eqv (fr a.1) (fr b.1) && (D.eqv (.str a.2) (.str b.2) && D.eqvs [] [])) = _
  rw [eqv_fr]
  simp [D.eqv, D.eqvs]
theorem c_nemk {n i j : Nat} {x y : D} [a : Dq x i] [b : Dq y j] {kb : Bool → Prop} (h : i ≤ 60) (h' : j ≤ 60) : OV (cmpv .ne x y) kb = kb (!x.eqv y) := by
  have e : deep x y = true := by
    unfold deep
    have := a.h
    have := b.h
    simp
    omega
  show OV (if deep x y = true then some (!x.eqv y) else none) kb = _
  rw [e]
  rfl
theorem ins_map {B : List Mk} {m : Mk} {k : Nat} (h : atM m.1 B B.length = k) : List.take k (B.map dK) ++ dK m :: List.drop k (B.map dK) = (insM B m).map dK := by
  unfold insM
  rw [h, List.map_append, List.map_append, List.map_take, List.map_drop, List.append_assoc]
  rfl
theorem atM_s {x : Rat} {B : List Mk} {j : Nat} (h : j < B.length) : atM x B (j + 1) = if x < (B[j]).1 then atM x B j else j + 1 := by
  conv => lhs; unfold atM
  rw [List.getElem?_eq_getElem h, Option.getD_some]
theorem ix_mks {B : List Mk} {j : Nat} (h : j < B.length) : OV (ixv (.lst (B.map dK)) (.int (((j + 1 : Nat) : Int) - 1))) k = k (dK B[j]) := by
  have e : ((j + 1 : Nat) : Int) - 1 = (j : Int) := by omega
  rw [e, ix_g (by omega) (by rw [List.length_map]; omega)]
  rw [List.getD_eq_getElem?_getD, List.getElem?_map]
  simp [h]
def optK : Option Mk → D
  | none => .non
  | some m => dK m
theorem c_nek {l : List Mk} {kb : Bool → Prop} (h : ∀ m ∈ l, D.dep (dK m) ≤ 2) : OV (cmpv .ne (.lst (l.map dK)) (.lst [])) kb = kb (!l.isEmpty) := by
  have e : deep (.lst (l.map dK)) (.lst []) = true := by
    unfold deep
    have : D.deps (l.map dK) ≤ 2 := deps_all fun x hx => by
      obtain ⟨m, hm, rfl⟩ := List.mem_map.mp hx
      exact h m hm
    rw [Bool.and_eq_true, decide_eq_true_eq, decide_eq_true_eq]
    refine ⟨?_, by decide⟩
    unfold D.dep
    omega
  show OV (if deep (.lst (l.map dK)) (.lst []) = true then some (!D.eqv (.lst (l.map dK)) (.lst [])) else none) kb = _
  rw [e]
  cases l <;> rfl
theorem strs_dq {l : List PySem.Str} (h : ∀ s ∈ l, PySem.PyData.strOk s = true) : Dq (.lst (l.map .str)) 1 := by
  refine ⟨?_⟩
  unfold D.dep
  refine Nat.succ_le_succ (deps_all fun x hx => ?_)
  obtain ⟨s, hs, rfl⟩ := List.mem_map.mp hx
  unfold D.dep
  rw [h s hs]
  exact Nat.le_refl _
theorem past_rev {l : List Mk} {a b : Rat} (h : b < a) : pastL l a b = ((byT l).reverse.filter fun m => decide (m.1 < a) && !decide (m.1 < b)).map (·.2) := by
  unfold pastL
  rw [if_pos h, List.filter_reverse]
  congr 2
  refine List.filter_congr fun m _ => ?_
  rw [Bool.and_comm]
theorem past_mem {l : List Mk} {a b : Rat} {s : PySem.Str} (h : s ∈ pastL l a b) : ∃ m ∈ l, m.2 = s := by
  unfold pastL at h
  split at h
  · obtain ⟨m, hm, e⟩ := List.mem_map.mp h
    exact ⟨m, (byT_perm l).mem_iff.mp (List.mem_filter.mp (List.mem_reverse.mp hm)).1, e⟩
  · obtain ⟨m, hm, e⟩ := List.mem_map.mp h
    exact ⟨m, (byT_perm l).mem_iff.mp (List.mem_filter.mp hm).1, e⟩
/-! ### labels -/
def labV (i : Nat) : PySem.Str := ⟨#[("dbeac" : PySem.Str).cps.toList.getD i 0]⟩
theorem ix_lab {i : Nat} (h : i < 5) : OV (ixv (.str "dbeac") (.int (i : Int))) k = k (.str (labV i)) := by
  rcases i with _ | _ | _ | _ | _ | i
  · kernel_rfl
  · kernel_rfl
  · kernel_rfl
  · kernel_rfl
  · kernel_rfl
  · omega
theorem lab_inj : ∀ i < 5, ∀ j < 5, labV i = labV j → i = j := by decide +kernel
theorem lab_ok : ∀ i < 5, PySem.PyData.strOk (labV i) = true := by decide +kernel
variable (ns : List Int)
def markV (i : Nat) : Mk := (Rat.divInt (pickV ns (1 + (i : Int)) 9) 2, labV i)
def mksV (c : Nat) : List Mk := (List.range c).map (markV ns)
theorem mk_sz (i : Nat) : SzLe (markV ns i).1 5 := by
  have p0 := pick_lo ns (1 + (i : Int)) (m := 9) (by decide)
  have p1 := pick_hi ns (1 + (i : Int)) (m := 9) (by decide)
  have h : (pickV ns (1 + (i : Int)) 9).natAbs < 2 ^ 5 := Nat.lt_of_lt_of_le (show _ < 9 by omega) (by decide)
  exact sz_divInt (u := pickV ns (1 + (i : Int)) 9) (d := 2) h (by decide) (by decide)
theorem mk_dep {i : Nat} (h : i < 5) : D.dep (dK (markV ns i)) ≤ 2 := by
  have e := lab_ok i h
  have e2 : D.dep (.str (labV i)) = 0 := by
    unfold D.dep
    rw [e]
    rfl
  show max (D.dep (fr (markV ns i).1)) (max (D.dep (.str (labV i))) 0) + 1 ≤ 2
  rw [e2]
  have : D.dep (fr (markV ns i).1) = 1 := rfl
  omega
def RM (a b : Mk) : Prop := ∃ i j : Nat, i < j ∧ j < 5 ∧ a = markV ns i ∧ b = markV ns j
theorem mks_ord {c : Nat} (h : c ≤ 5) : (mksV ns c).Pairwise (RM ns) := by
  unfold mksV
  rw [List.pairwise_map]
  refine List.Pairwise.imp_of_mem (fun {a b} ha hb hab => ?_) List.pairwise_lt_range
  have := List.mem_range.mp hb
  exact ⟨a, b, hab, by omega, rfl, rfl⟩
theorem mks_succ (c : Nat) : mksV ns (c + 1) = mksV ns c ++ [markV ns c] := by
  unfold mksV
  rw [List.range_succ, List.map_append]
  rfl
theorem mks_mem {c : Nat} {m : Mk} (h : m ∈ mksV ns c) : ∃ i, i < c ∧ m = markV ns i := by
  obtain ⟨i, hi, rfl⟩ := List.mem_map.mp h
  exact ⟨i, List.mem_range.mp hi, rfl⟩
theorem mks_get {c i : Nat} (h : i < c) : (mksV ns c)[i]? = some (markV ns i) := by
  unfold mksV
  rw [List.getElem?_map, List.getElem?_range h]
  rfl
theorem mks_index {c i : Nat} (hc : c ≤ 5) (h : i < c) {kp : D × Bool → Prop} : OV (mtv .index (.lst ((mksV ns c).map dK)) [dK (markV ns i)]) kp = kp (.int i, false) := by
  refine mt_index (Nat.le_trans (mk_dep ns (by omega)) (by decide)) (Nat.le_trans (deps_all (n := 2) fun x hx => ?_) (by decide)) ?_ fun j hj y hy => ?_
  · obtain ⟨m, hm, rfl⟩ := List.mem_map.mp hx
    obtain ⟨j, hj, rfl⟩ := mks_mem ns hm
    exact mk_dep ns (by omega)
  · rw [List.getElem?_map, mks_get ns h]
    rfl
  · rw [List.getElem?_map, mks_get ns (by omega)] at hy
    cases hy
    rw [eqv_k]
    have : ¬ labV j = labV i := fun z => by
      have := lab_inj j (by omega) i (by omega) z
      omega
    have : (labV j == labV i) = false := by simpa using this
    show (_ && (labV j == labV i)) = false
    rw [this, Bool.and_false]
end
end GW
end

section
/-! S18: areas. -/
namespace GW
section
variable {a b t l u v y : Rat} {k : Kd}
def shareQ : Kd → Rat
  | .even => 1 / 2
  | .in_ => 1 / 3
  | .out => 2 / 3
  | .both => 1 / 2
  | .hold => 0
  | .jump => 1
  | .kept => 1 / 2
instance : SzLe (shareQ k) 2 := by
  cases k <;> exact ⟨by decide +kernel, by decide +kernel⟩
def areaQ (a b l : Rat) (k : Kd) (u v : Rat) : Rat := l * (a + shareQ k * (b - a)) + l * l * (1 / 12 * (u - v))
instance : SzLe (1 / 12 : Rat) 4 := ⟨by decide +kernel, by decide +kernel⟩
instance {ia ib il iu iv : Nat} [SzLe a ia] [SzLe b ib] [SzLe l il] [SzLe u iu] [SzLe v iv] : SzLe (areaQ a b l k u v) (2 * ia + ib + 3 * il + iu + iv + 20) := by
  unfold areaQ
  exact szz inferInstance (by omega)
theorem div12 : Rat.divInt 1 12 = 1 / 12 := by decide +kernel
def shareD : D := .dic [("even", .tup [.int 1, .int 2]), ("in", .tup [.int 1, .int 3]), ("out", .tup [.int 2, .int 3]), ("both", .tup [.int 1, .int 2]), ("hold", .tup [.int 0, .int 1]), ("jump", .tup [.int 1, .int 1]), ("kept", .tup [.int 1, .int 2])]
theorem fr_of {q : Rat} {n d : Int} (h1 : q.num = n) (h2 : (q.den : Int) = d) : D.tup [.int n, .int d] = fr q := by
  subst h1 h2
  rfl
theorem gx_share {K : D → Prop} : OV (gixv shareD (.str (kS k))) K = K (fr (shareQ k)) := by
  cases k
  · have e : D.tup [.int 1, .int 2] = fr (shareQ .even) := fr_of (by decide +kernel) (by decide +kernel)
    rw [← e]; kernel_rfl
  · have e : D.tup [.int 1, .int 3] = fr (shareQ .in_) := fr_of (by decide +kernel) (by decide +kernel)
    rw [← e]; kernel_rfl
  · have e : D.tup [.int 2, .int 3] = fr (shareQ .out) := fr_of (by decide +kernel) (by decide +kernel)
    rw [← e]; kernel_rfl
  · have e : D.tup [.int 1, .int 2] = fr (shareQ .both) := fr_of (by decide +kernel) (by decide +kernel)
    rw [← e]; kernel_rfl
  · have e : D.tup [.int 0, .int 1] = fr (shareQ .hold) := fr_of (by decide +kernel) (by decide +kernel)
    rw [← e]; kernel_rfl
  · have e : D.tup [.int 1, .int 1] = fr (shareQ .jump) := fr_of (by decide +kernel) (by decide +kernel)
    rw [← e]; kernel_rfl
  · have e : D.tup [.int 1, .int 2] = fr (shareQ .kept) := fr_of (by decide +kernel) (by decide +kernel)
    rw [← e]; kernel_rfl
theorem area_slowed (hy : ¬ y = 0) : areaQ a b (l * y) k (u / y) (v / y) = areaQ a b l k u v * y := by
  unfold areaQ
  have e : (l * y) * (l * y) * (1 / 12 * (u / y - v / y)) = l * l * (1 / 12 * (u - v)) * y := by grind
  rw [e]
  grind
theorem area_turned : areaQ b a l (turnK k) (0 - v) (0 - u) = areaQ a b l k u v := by
  unfold areaQ
  cases k <;> dsimp only [turnK, shareQ] <;> grind
theorem area_neg : areaQ (-a) (-b) l k (-u) (-v) = - areaQ a b l k u v := by
  unfold areaQ
  grind
theorem area_hold : areaQ a b l .hold 0 0 = l * a := by
  unfold areaQ shareQ
  grind
theorem area_jump : areaQ a b l .jump 0 0 = l * b := by
  unfold areaQ shareQ
  grind
theorem eased0 : easedQ k 0 = 0 := easedQ_lo k (by decide)
theorem eased1 : easedQ k 1 = 1 := easedQ_hi k (by decide)
theorem part_l {q : Rat} (hl : 0 < l) : (t + l * q - t) / l = q := by grind
theorem d04 : Rat.divInt 0 4 = 0 := by decide +kernel
theorem d14 : Rat.divInt 1 4 = 1 / 4 := by decide +kernel
theorem d24 : Rat.divInt 2 4 = 1 / 2 := by decide +kernel
theorem d34 : Rat.divInt 3 4 = 3 / 4 := by decide +kernel
theorem d44 : Rat.divInt 4 4 = 1 := by decide +kernel
theorem d7 : Rat.divInt 7 90 = 7 / 90 := by decide +kernel
theorem d32 : Rat.divInt 32 90 = 32 / 90 := by decide +kernel
theorem d12 : Rat.divInt 12 90 = 12 / 90 := by decide +kernel
theorem boole (hl : 0 < l) (h1 : ¬ k = .hold) (h2 : ¬ k = .jump) (hk : k = .kept ∨ (u = 0 ∧ v = 0)) :
    (0 + worthQ a b t l k u v (t + l * Rat.divInt 0 4) * Rat.divInt 7 90 + worthQ a b t l k u v (t + l * Rat.divInt 1 4) * Rat.divInt 32 90 + worthQ a b t l k u v (t + l * Rat.divInt 2 4) * Rat.divInt 12 90 + worthQ a b t l k u v (t + l * Rat.divInt 3 4) * Rat.divInt 32 90 + worthQ a b t l k u v (t + l * Rat.divInt 4 4) * Rat.divInt 7 90) * l = areaQ a b l k u v := by
  rw [d04, d14, d24, d34, d44, d7, d32, d12]
  unfold worthQ
  rw [part_l hl, part_l hl, part_l hl, part_l hl, part_l hl]
  unfold areaQ
  by_cases hkk : k = .kept
  · subst hkk
    rw [if_pos rfl, if_pos rfl, if_pos rfl, if_pos rfl, if_pos rfl]
    rw [show keptQ 0 = 0 from by decide +kernel, show keptQ (1 / 4) = 1 / 4 from by decide +kernel, show keptQ (1 / 2) = 1 / 2 from by decide +kernel, show keptQ (3 / 4) = 3 / 4 from by decide +kernel, show keptQ 1 = 1 from by decide +kernel]
    unfold keptWQ shareQ
    grind
  · obtain ⟨rfl, rfl⟩ := hk.resolve_left hkk
    rw [if_neg hkk, if_neg hkk, if_neg hkk, if_neg hkk, if_neg hkk, eased0, eased1]
    cases k with
    | even =>
      rw [show easedQ .even (1 / 4) = 1 / 4 from by decide +kernel, show easedQ .even (1 / 2) = 1 / 2 from by decide +kernel, show easedQ .even (3 / 4) = 3 / 4 from by decide +kernel]
      unfold shareQ
      grind
    | in_ =>
      rw [show easedQ .in_ (1 / 4) = 1 / 16 from by decide +kernel, show easedQ .in_ (1 / 2) = 1 / 4 from by decide +kernel, show easedQ .in_ (3 / 4) = 9 / 16 from by decide +kernel]
      unfold shareQ
      grind
    | out =>
      rw [show easedQ .out (1 / 4) = 7 / 16 from by decide +kernel, show easedQ .out (1 / 2) = 3 / 4 from by decide +kernel, show easedQ .out (3 / 4) = 15 / 16 from by decide +kernel]
      unfold shareQ
      grind
    | both =>
      rw [show easedQ .both (1 / 4) = 5 / 32 from by decide +kernel, show easedQ .both (1 / 2) = 1 / 2 from by decide +kernel, show easedQ .both (3 / 4) = 27 / 32 from by decide +kernel]
      unfold shareQ
      grind
    | hold => exact absurd rfl h1
    | jump => exact absurd rfl h2
    | kept => exact absurd rfl hkk
theorem neg_fr : D.tup [.int (0 - a.num), .int (a.den : Int)] = fr (-a) := by
  unfold fr
  have e1 : (-a).num = 0 - a.num := by simp
  have e2 : (-a).den = a.den := rfl
  rw [e1, e2]
theorem en_5 {d0 d1 d2 d3 d4 : D} {K : List D → Prop} : OV (enumv (.lst [d0, d1, d2, d3, d4])) K = K [.tup [.int 0, d0], .tup [.int 1, d1], .tup [.int 2, d2], .tup [.int 3, d3], .tup [.int 4, d4]] := rfl
end
end GW
end

section
/-! S19: the way back. -/
namespace GW
def nxt (w : Rat) : Pn → Rat
  | .go false g _ _ => g
  | .go true g _ _ => w + g
  | _ => w
def bkS (w : Rat) : Pn → Pn
  | .go _ _ s k => .go false w s (turnK k)
  | q => q
def revS (w : Rat) : List Pn → List Pn
  | [] => []
  | q :: l => revS (nxt w q) l ++ [bkS w q]
def inS (w b : Rat) (q : Pn) (x : Rat) : Rat := match q with
  | .go _ _ s k => worthQ w (nxt w q) b s k 0 0 x
  | _ => w
/-- the worth of steps played from w and b on -/
def valS (w b : Rat) : List Pn → Rat → Rat
  | [], _ => w
  | q :: l, x => if x < b + sizeP q then inS w b q x else valS (nxt w q) (b + sizeP q) l x
def totS (l : List Pn) : Rat := sumQ (l.map sizeP)
def endS (w : Rat) (l : List Pn) : Rat := l.foldl nxt w
def Pos1 (q : Pn) : Prop := IsStep q ∧ 0 < sizeP q ∧ (match q with
  | .go _ _ _ k => ¬ k = .kept
  | _ => True)
def preS (w b : Rat) : Pn → List Mo
  | .go f g s k => [⟨w, nxt w (.go f g s k), b, s, k, 0, 0⟩]
  | _ => []
variable {w b x y : Rat} {l l2 : List Pn} {q : Pn}
theorem made_cons (h : IsStep q) : stF w b (q :: l) = ⟨preS w b q ++ (stF (nxt w q) (b + sizeP q) l).made, (stF (nxt w q) (b + sizeP q) l).here, (stF (nxt w q) (b + sizeP q) l).time⟩ := by
  have e := stF_app (w := w) (b := b) (l := [q]) (m := l)
  have e1 : stF w b [q] = stStep ⟨[], w, b⟩ q := rfl
  rw [List.singleton_append, e1] at e
  rw [e]
  cases q with
  | wait s => rfl
  | go f g s k => cases f <;> rfl
  | thn _ _ => exact h.elim
  | again _ _ => exact h.elim
theorem made_ge : ∀ {l : List Pn} {w b : Rat}, (∀ q ∈ l, Pos1 q) → ∀ m ∈ (stF w b l).made, b ≤ m.t
  | [], _, _, _, m, hm => absurd hm (by show m ∉ []; simp)
  | q :: l, w, b, h, m, hm => by
    obtain ⟨h1, h2, _⟩ := h q List.mem_cons_self
    rw [made_cons h1] at hm
    rcases List.mem_append.mp hm with hm | hm
    · cases q with
      | go f g s k =>
        rw [List.mem_singleton.mp hm]
        exact Rat.le_refl
      | wait s => cases hm
      | thn _ _ => cases hm
      | again _ _ => cases hm
    · have := made_ge (fun q hq => h q (List.mem_cons_of_mem _ hq)) m hm
      grind
theorem in_le (h : Pos1 q) (hx : x ≤ b) : inS w b q x = w := by
  cases q with
  | go f g s k =>
    have hs : 0 < s := h.2.1
    have e : (x - b) / s ≤ 0 := by
      have : 0 < s⁻¹ := Rat.inv_pos.mpr hs
      rw [Rat.div_def]
      have h1 := Rat.mul_nonneg (show (0 : Rat) ≤ b - x by grind) (Rat.le_of_lt this)
      grind
    exact worth_lo e
  | _ => rfl
theorem in_ge (h : Pos1 q) (hx : b + sizeP q ≤ x) : inS w b q x = nxt w q := by
  cases q with
  | go f g s k =>
    have hs : 0 < s := h.2.1
    have hx : b + s ≤ x := hx
    have e : 1 ≤ (x - b) / s := by
      have : 0 < s⁻¹ := Rat.inv_pos.mpr hs
      rw [Rat.div_def]
      have h1 := Rat.mul_nonneg (show (0 : Rat) ≤ x - b - s by grind) (Rat.le_of_lt this)
      have h2 : s * s⁻¹ = 1 := Rat.mul_inv_cancel _ (by grind)
      grind
    exact worth_hi e
  | _ => rfl
theorem begun_app {ms ns : List Mo} : begunL (ms ++ ns) x = begunL ms x ++ begunL ns x := List.filter_append ..
theorem worth_val : ∀ {l : List Pn} {w b : Rat}, (∀ q ∈ l, Pos1 q) → worthOf w (stF w b l).made x = valS w b l x
  | [], w, b, _ => rfl
  | q :: l, w, b, h => by
    have hq := h q List.mem_cons_self
    have hl := fun q hq => h q (List.mem_cons_of_mem _ hq)
    have ih := worth_val (w := nxt w q) (b := b + sizeP q) hl
    rw [made_cons hq.1]
    unfold valS
    have hs := hq.2.1
    have hg := made_ge (w := nxt w q) (b := b + sizeP q) hl
    generalize (stF (nxt w q) (b + sizeP q) l).made = M at *
    dsimp only
    by_cases hx : x < b + sizeP q
    · rw [if_pos hx]
      have e : begunL M x = [] := by
        unfold begunL
        rw [List.filter_eq_nil_iff]
        intro m hm
        have := hg m hm
        have h2 : x < m.t := by grind
        simp [h2]
      unfold worthOf
      rw [begun_app, e, List.append_nil]
      cases q with
      | go f g s k =>
        by_cases hb : x < b
        · have e2 : begunL (preS w b (.go f g s k)) x = [] := by simp [begunL, preS, hb]
          rw [e2, in_le hq (Rat.le_of_lt hb)]
          rfl
        · have e2 : begunL (preS w b (.go f g s k)) x = preS w b (.go f g s k) := by simp [begunL, preS, hb]
          rw [e2]
          rfl
      | _ => rfl
    · rw [if_neg hx, ← ih]
      have hx' : b + sizeP q ≤ x := Rat.not_lt.mp hx
      unfold worthOf
      rw [begun_app]
      rcases concat_cases (begunL M x) with e | ⟨r, m, e⟩
      · rw [e, List.append_nil]
        cases q with
        | go f g s k =>
          have hb : ¬ x < b := by
            have hs : 0 < s := hs
            have hx' : b + s ≤ x := hx'
            grind
          have e2 : begunL (preS w b (.go f g s k)) x = preS w b (.go f g s k) := by simp [begunL, preS, hb]
          rw [e2]
          exact in_ge hq hx'
        | wait s => rfl
        | thn _ _ => exact hq.1.elim
        | again _ _ => exact hq.1.elim
      · rw [e, ← List.append_assoc, List.getLast?_concat, List.getLast?_concat]
theorem in_shift : inS w (b + y) q (x + y) = inS w b q x := by
  cases q with
  | go f g s k => exact worth_moved
  | _ => rfl
theorem val_cons : valS w b (q :: l) x = if x < b + sizeP q then inS w b q x else valS (nxt w q) (b + sizeP q) l x := rfl
theorem val_shift : ∀ {l : List Pn} {w b : Rat}, valS w (b + y) l (x + y) = valS w b l x
  | [], _, _ => rfl
  | q :: l, w, b => by
    unfold valS
    rw [in_shift]
    have e : b + y + sizeP q = b + sizeP q + y := by grind
    rw [e, val_shift]
    by_cases hx : x < b + sizeP q
    · rw [if_pos hx, if_pos (by grind)]
    · rw [if_neg hx, if_neg (by grind)]
theorem val_le (h : ∀ q ∈ l, Pos1 q) (hx : x ≤ b) : valS w b l x = w := by
  cases l with
  | nil => rfl
  | cons q l =>
    have hq := h q List.mem_cons_self
    have := hq.2.1
    unfold valS
    rw [if_pos (by grind)]
    exact in_le hq hx
theorem tot_nn : ∀ {l : List Pn}, (∀ q ∈ l, Pos1 q) → 0 ≤ totS l
  | [], _ => Rat.le_refl
  | q :: l, h => by
    have := (h q List.mem_cons_self).2.1
    have := tot_nn fun q hq => h q (List.mem_cons_of_mem _ hq)
    have e : totS (q :: l) = sizeP q + totS l := rfl
    rw [e]
    grind
theorem val_app {x : Rat} : ∀ {l : List Pn} {w b : Rat}, (∀ q ∈ l, Pos1 q) → (∀ q ∈ l2, Pos1 q) → valS w b (l ++ l2) x = if x < b + totS l then valS w b l x else valS (endS w l) (b + totS l) l2 x
  | [], w, b, _, h2 => by
    have e : b + totS [] = b := by show b + 0 = b; grind
    rw [e]
    show valS w b l2 x = _
    by_cases hx : x < b
    · rw [if_pos hx]
      exact val_le h2 (Rat.le_of_lt hx)
    · rw [if_neg hx]
      rfl
  | q :: l, w, b, h, h2 => by
    have hq := (h q List.mem_cons_self).2.1
    have hl := fun q hq => h q (List.mem_cons_of_mem _ hq)
    have hn := tot_nn hl
    have e : totS (q :: l) = sizeP q + totS l := rfl
    have ih := val_app (x := x) (w := nxt w q) (b := b + sizeP q) hl h2
    rw [List.cons_append, val_cons (l := l ++ l2), val_cons (l := l), e, ih]
    have e3 : endS w (q :: l) = endS (nxt w q) l := rfl
    rw [e3]
    have e2 : b + (sizeP q + totS l) = b + sizeP q + totS l := by grind
    rw [e2]
    by_cases hx : x < b + sizeP q
    · rw [if_pos hx, if_pos (by grind), if_pos hx]
    · rw [if_neg hx, if_neg hx]
theorem bk_size : sizeP (bkS w q) = sizeP q := by cases q <;> rfl
theorem bk_pos (h : Pos1 q) : Pos1 (bkS w q) := by
  cases q with
  | go f g s k => exact ⟨trivial, h.2.1, turn_ne h.2.2⟩
  | wait s => exact h
  | thn _ _ => exact h.1.elim
  | again _ _ => exact h.1.elim
theorem rev_pos : ∀ {l : List Pn} {w : Rat}, (∀ q ∈ l, Pos1 q) → ∀ q ∈ revS w l, Pos1 q
  | [], _, _, q, hq => absurd hq (by show q ∉ []; simp)
  | p :: l, w, h, q, hq => by
    rcases List.mem_append.mp hq with hq | hq
    · exact rev_pos (fun q hq => h q (List.mem_cons_of_mem _ hq)) q hq
    · rw [List.mem_singleton.mp hq]
      exact bk_pos (h p List.mem_cons_self)
theorem tot_app : totS (l ++ l2) = totS l + totS l2 := by
  unfold totS
  rw [List.map_append, sumQ_app]
theorem rev_tot : ∀ {l : List Pn} {w : Rat}, totS (revS w l) = totS l
  | [], _ => rfl
  | q :: l, w => by
    have e : revS w (q :: l) = revS (nxt w q) l ++ [bkS w q] := rfl
    have e2 : totS (q :: l) = sizeP q + totS l := rfl
    have e3 : totS [bkS w q] = sizeP (bkS w q) + 0 := rfl
    rw [e, tot_app, rev_tot, e2, e3, bk_size]
    grind
theorem end_app : endS w (l ++ l2) = endS (endS w l) l2 := List.foldl_append
theorem nxt_bk (h : IsStep q) : nxt (nxt w q) (bkS w q) = w := by
  cases q with
  | go f g s k => rfl
  | wait s => rfl
  | thn _ _ => exact h.elim
  | again _ _ => exact h.elim
theorem end_rev : ∀ {l : List Pn} {w : Rat}, (∀ q ∈ l, Pos1 q) → endS (endS w l) (revS w l) = w
  | [], _, _ => rfl
  | q :: l, w, h => by
    have e : revS w (q :: l) = revS (nxt w q) l ++ [bkS w q] := rfl
    have e2 : endS w (q :: l) = endS (nxt w q) l := rfl
    rw [e, e2, end_app, end_rev fun q hq => h q (List.mem_cons_of_mem _ hq)]
    exact nxt_bk (h q List.mem_cons_self).1
theorem in_back {T : Rat} (h : Pos1 q) : inS (nxt w q) T (bkS w q) x = inS w 0 q (sizeP q + T - x) := by
  cases q with
  | go f g s k =>
    show worthQ (nxt w (.go f g s k)) w T s (turnK k) 0 0 x = worthQ w (nxt w (.go f g s k)) 0 s k 0 0 (s + T - x)
    have h1 := worth_turn (a := w) (b := nxt w (.go f g s k)) (t := 0) (l := s) (k := k) (u := 0) (v := 0) (x := s + T - x) h.2.1
    rw [← h1]
    have h2 := worth_moved (a := nxt w (.go f g s k)) (b := w) (t := 0) (l := s) (k := turnK k) (u := 0) (v := 0) (x := x - T) (y := T)
    have e1 : (0 : Rat) + T = T := by grind
    have e2 : x - T + T = x := by grind
    have e3 : (0 : Rat) - 0 = 0 := by grind
    have e4 : (0 : Rat) + 0 + s - (s + T - x) = x - T := by grind
    rw [e1, e2] at h2
    rw [h2, e3, e4]
  | wait s => rfl
  | thn _ _ => exact h.1.elim
  | again _ _ => exact h.1.elim
/-- played back from the end it is the same, as long ahead of the end -/
theorem val_back : ∀ {l : List Pn} {w x : Rat}, (∀ q ∈ l, Pos1 q) → 0 ≤ x → x ≤ totS l → valS (endS w l) 0 (revS w l) x = valS w 0 l (totS l - x)
  | [], w, x, _, _, _ => rfl
  | q :: l, w, x, h, h0, h1 => by
    have hq := h q List.mem_cons_self
    have hl := fun q hq => h q (List.mem_cons_of_mem _ hq)
    have hn := tot_nn hl
    have hs := hq.2.1
    have e : revS w (q :: l) = revS (nxt w q) l ++ [bkS w q] := rfl
    have e2 : endS w (q :: l) = endS (nxt w q) l := rfl
    have e3 : totS (q :: l) = sizeP q + totS l := rfl
    rw [e3] at h1
    have hb : ∀ p ∈ [bkS w q], Pos1 p := fun p hp => by rw [List.mem_singleton.mp hp]; exact bk_pos hq
    rw [e, e2, e3, val_app (rev_pos hl) hb, rev_tot, end_rev hl]
    have z : (0 : Rat) + totS l = totS l := by grind
    rw [z]
    have r : valS w 0 (q :: l) (sizeP q + totS l - x) = if sizeP q + totS l - x < 0 + sizeP q then inS w 0 q (sizeP q + totS l - x) else valS (nxt w q) (0 + sizeP q) l (sizeP q + totS l - x) := rfl
    rw [r]
    by_cases hx : x < totS l
    · rw [if_pos hx, if_neg (by grind), val_back hl h0 (Rat.le_of_lt hx)]
      have e4 : sizeP q + totS l - x = (totS l - x) + sizeP q := by grind
      rw [e4, val_shift]
    · rw [if_neg hx]
      have v1 : valS (nxt w q) (totS l) [bkS w q] x = if x < totS l + sizeP (bkS w q) then inS (nxt w q) (totS l) (bkS w q) x else nxt (nxt w q) (bkS w q) := rfl
      rw [v1, bk_size]
      by_cases hx2 : x = totS l
      · subst hx2
        rw [if_pos (by grind), if_neg (by grind), in_le (bk_pos hq) Rat.le_refl]
        have e4 : sizeP q + totS l - totS l = 0 + sizeP q := by grind
        rw [e4, val_le hl Rat.le_refl]
      · have hgt : totS l < x := by grind
        rw [if_pos (show sizeP q + totS l - x < 0 + sizeP q by grind)]
        by_cases hx3 : x < totS l + sizeP q
        · rw [if_pos hx3, in_back hq]
        · rw [if_neg hx3, nxt_bk hq.1]
          have e4 : sizeP q + totS l - x = 0 := by grind
          rw [e4, in_le hq Rat.le_refl]
theorem here_end : ∀ {l : List Pn} {w b : Rat}, (∀ q ∈ l, Pos1 q) → (stF w b l).here = endS w l
  | [], _, _, _ => rfl
  | q :: l, w, b, h => by
    rw [made_cons (h q List.mem_cons_self).1]
    exact here_end fun q hq => h q (List.mem_cons_of_mem _ hq)
theorem rev_take {n : Nat} (hn : l[n]? = some q) : revS (endS w (l.take n)) (l.drop n) = revS (endS w (l.take (n + 1))) (l.drop (n + 1)) ++ [bkS (endS w (l.take n)) q] := by
  obtain ⟨h1, h2⟩ := List.getElem?_eq_some_iff.mp hn
  rw [List.drop_eq_getElem_cons h1, h2]
  have e : endS w (l.take (n + 1)) = nxt (endS w (l.take n)) q := by
    rw [List.take_add_one, hn, end_app]
    rfl
  rw [e]
  rfl
end GW
end

section
/-! S20: pops; the rows of the way back. -/
namespace GW
section
variable {R : Rt} {m : Bool} {ρ : Env} {K : D → Bool → Env → Prop} {X : Nat → Env → Prop}
theorem we_pop {i : Nat} : WE R false (.pop (.sl i)) ρ K X = OV (peekO ρ (.sl i)) fun l => OV (D.lst? l) fun xs => OV xs.getLast? fun x => SX i (.ow (.lst xs.dropLast)) ρ fun ρ => K x false ρ := by
  unfold WE
  conv => lhs; unfold ev
  rw [if_neg Bool.false_ne_true]
  cases peekO ρ (.sl i) with
  | none => rfl
  | some l =>
    cases l with
    | lst xs =>
      dsimp only [OV, D.lst?]
      cases xs.getLast? <;> rfl
    | _ => rfl
theorem gl_c {xs : List D} {x : D} {k : D → Prop} : OV (xs ++ [x]).getLast? k = k x := by
  rw [List.getLast?_concat]
  rfl
end
def RowG (V : Nat) : Pn → Prop
  | .wait s => 0 < s ∧ SzLe s 6 ∧ Gr 6 36 s
  | .go false g s k => Gr 12 V g ∧ 0 < s ∧ SzLe s 6 ∧ Gr 6 36 s ∧ ¬ k = .kept
  | _ => False
theorem RowG.up {V V' : Nat} (hV : V ≤ V') : ∀ {q : Pn}, RowG V q → RowG V' q
  | .wait s, h => h
  | .go false g s k, h => ⟨h.1.up hV, h.2⟩
theorem nxt_gr {W : Nat} {w : Rat} (hw : Gr 12 W w) : ∀ {q : Pn}, PnGr 6 36 q → Gr 12 (W + 72) (nxt w q)
  | .wait s, h => hw.up (by omega)
  | .go false g s k, h => h.1.up (by omega)
  | .go true g s k, h => Gr.add (by decide) hw h.1
  | .thn _ _, h => hw.up (by omega)
  | .again _ _, h => hw.up (by omega)
theorem rev_row : ∀ {l : List Pn} {w : Rat} {W : Nat}, Gr 12 W w → (∀ q ∈ l, (IsStep q ∧ PnZ 6 1 q) ∧ PnGr 6 36 q) → ∀ q ∈ revS w l, RowG (W + 72 * l.length) q
  | [], _, _, _, _, q, hq => absurd hq (by show q ∉ []; simp)
  | p :: l, w, W, hw, h, q, hq => by
    obtain ⟨⟨h1, h2⟩, h3⟩ := h p List.mem_cons_self
    rcases List.mem_append.mp hq with hq | hq
    · refine (rev_row (nxt_gr hw h3) (fun q hq => h q (List.mem_cons_of_mem _ hq)) q hq).up ?_
      rw [List.length_cons]
      omega
    · rw [List.mem_singleton.mp hq]
      cases p with
      | wait s => exact ⟨h2.1, h2.2, h3⟩
      | go f g s k => exact ⟨hw.up (by omega), h2.2.1, h2.2.2.1, h3.2, turn_ne h2.2.2.2⟩
      | thn _ _ => exact h1.elim
      | again _ _ => exact h1.elim
theorem pos_of {q : Pn} (h : IsStep q ∧ PnZ 6 1 q) : Pos1 q := by
  obtain ⟨h1, h2⟩ := h
  cases q with
  | wait s => exact ⟨trivial, h2.1, trivial⟩
  | go f g s k => exact ⟨trivial, h2.2.1, h2.2.2.2⟩
  | thn _ _ => exact h1.elim
  | again _ _ => exact h1.elim
structure MoG (V T : Nat) (m : Mo) : Prop where
  a : Gr 12 V m.a
  b : Gr 12 V m.b
  t : Gr 6 T m.t
  l : Gr 6 36 m.l
  hl : 0 < m.l
  hu : m.u = 0 ∧ m.v = 0
theorem MoG.up {V T T' : Nat} {m : Mo} (h : MoG V T m) (ht : T ≤ T') : MoG V T' m := ⟨h.a, h.b, h.t.up ht, h.l, h.hl, h.hu⟩
theorem MoG.s {V T : Nat} {m : Mo} (h : MoG V T m) (hV : V < 2 ^ 20) (hT : T < 2 ^ 60) : MoS m := by
  have z1 : SzLe (0 : Rat) 1 := inferInstance
  exact ⟨h.a.sz (by decide) hV (by decide), h.b.sz (by decide) hV (by decide), h.t.sz (by decide) hT (by decide), h.l.sz (by decide) (by decide) (by decide), by rw [h.hu.1]; exact szz z1 (by decide), by rw [h.hu.2]; exact szz z1 (by decide), h.hl, .inr h.hu⟩
structure StG (V T : Nat) (st : St) : Prop where
  sh : Gr 12 V st.here
  sm : Gr 6 T st.time
  mo : ∀ m ∈ st.made, MoG V T m
theorem rows_fold {V : Nat} : ∀ (l : List Pn) (n : Nat) (st : St), StG V (36 * n) st → (∀ q ∈ l, RowG V q) → StG V (36 * (n + l.length)) (l.foldl stStep st)
  | [], n, st, h, _ => h
  | q :: l, n, st, h, hl => by
    have ih := rows_fold (V := V) l (n + 1) (stStep st q) ?_ fun x hx => hl x (List.mem_cons_of_mem _ hx)
    · have e : n + 1 + l.length = n + (q :: l).length := by rw [List.length_cons]; omega
      rw [e] at ih
      exact ih
    · have h1 := hl q List.mem_cons_self
      have tm : ∀ {s : Rat}, Gr 6 36 s → Gr 6 (36 * (n + 1)) (st.time + s) := fun hs => (Gr.add (by decide) h.sm hs).up (by omega)
      have up : ∀ m ∈ st.made, MoG V (36 * (n + 1)) m := fun m hm => (h.mo m hm).up (by omega)
      cases q with
      | wait s => exact ⟨h.sh, tm h1.2.2, up⟩
      | go f g s k =>
        cases f with
        | false =>
          refine ⟨h1.1, tm h1.2.2.2.1, fun m hm => ?_⟩
          rcases List.mem_append.mp hm with hm | hm
          · exact up m hm
          · rw [List.mem_singleton.mp hm]
            exact ⟨h.sh, h1.1, h.sm.up (by omega), h1.2.2.2.1, h1.2.1, rfl, rfl⟩
        | true => exact (show False from h1).elim
      | thn _ _ => exact (show False from h1).elim
      | again _ _ => exact (show False from h1).elim
theorem rows_st {V : Nat} {E : Rat} {l : List Pn} (hE : Gr 12 V E) (hl : ∀ q ∈ l, RowG V q) : StG V (36 * l.length) (stF E 0 l) := by
  have h := rows_fold (V := V) l 0 ⟨[], E, 0⟩ ⟨hE, ⟨0, by simp, by decide⟩, fun m hm => absurd hm (by show m ∉ []; simp)⟩ hl
  rwa [Nat.zero_add] at h
theorem revS_len : ∀ {l : List Pn} {w : Rat}, (revS w l).length = l.length
  | [], _ => rfl
  | q :: l, w => by
    show (revS (nxt w q) l ++ [bkS w q]).length = _
    rw [List.length_append, revS_len]
    rfl
theorem end_gr : ∀ {l : List Pn} {w : Rat} {W : Nat}, Gr 12 W w → (∀ q ∈ l, PnGr 6 36 q) → Gr 12 (W + 72 * l.length) (endS w l)
  | [], _, _, hw, _ => hw
  | q :: l, w, W, hw, h => by
    have := end_gr (nxt_gr hw (h q List.mem_cons_self)) fun q hq => h q (List.mem_cons_of_mem _ hq)
    refine Gr.up this ?_
    rw [List.length_cons]
    omega
theorem lastB_end {w b : Rat} : ∀ {l : List Pn}, (∀ q ∈ l, Pos1 q) → lastB w (stF w b l).made = endS w l := by
  have key : ∀ (l : List Pn) (st : St), lastB w st.made = st.here → (∀ q ∈ l, Pos1 q) → lastB w (l.foldl stStep st).made = (l.foldl stStep st).here := by
    intro l
    induction l with
    | nil => intro st h _; exact h
    | cons q l ih =>
      intro st h hl
      have hq := (hl q List.mem_cons_self).1
      refine ih (stStep st q) ?_ fun x hx => hl x (List.mem_cons_of_mem _ hx)
      cases q with
      | wait s => exact h
      | go f g s k => cases f <;> exact lastB_app
      | thn _ _ => exact hq.elim
      | again _ _ => exact hq.elim
  intro l h
  rw [← here_end (b := b) h]
  exact key l _ rfl h
theorem made_len : ∀ {l : List Pn} {w b : Rat}, (∀ q ∈ l, Pos1 q) → (stF w b l).made.length ≤ l.length
  | [], _, _, _ => Nat.le_refl _
  | q :: l, w, b, h => by
    rw [made_cons (h q List.mem_cons_self).1]
    have ih := made_len (w := nxt w q) (b := b + sizeP q) fun q hq => h q (List.mem_cons_of_mem _ hq)
    have h1 : (preS w b q).length ≤ 1 := by cases q <;> simp [preS]
    show (preS w b q ++ _).length ≤ (q :: l).length
    rw [List.length_append, List.length_cons]
    omega
end GW
end

section
/-! S21: dicts that are written and asked; slopes. -/
namespace GW
section
variable {R : Rt} {m : Bool} {ρ : Env} {K : D → Bool → Env → Prop} {X : Nat → Env → Prop}
theorem we_dct {ks : List PySem.Str} {es : List Px} : WE R m (.dct ks es) ρ K X = WL R m es ρ (fun ds ρ => (ks.length == ds.length) = true ∧ K (.dic (ks.zip ds)) true ρ) X := by
  unfold WE WL
  conv => lhs; unfold ev
  cases evs R m es ρ with
  | ok ds ρ =>
    show ww (if (ks.length == ds.length) = true then Out.ok (D.dic (ks.zip ds), true) ρ else Out.bad) _ X = _
    by_cases h : (ks.length == ds.length) = true
    · rw [if_pos h]
      exact propext ⟨fun q => ⟨h, q⟩, fun q => q.2⟩
    · rw [if_neg h]
      exact propext ⟨fun q => q.elim, fun q => absurd q.1 h⟩
  | _ => rfl
theorem nf_d {kvs : List (PySem.Str × D)} {o : Bool} : nf (.dic kvs) o = True := by
  unfold nf
  simp [D.isIns]
theorem mt_get {kvs : List (PySem.Str × D)} {k : PySem.Str} {d : D} {kp : D × Bool → Prop} : OV (mtv .get (.dic kvs) [.str k, d]) kp = kp ((kvs.lookup k).getD d, false) := rfl
end
def endsD (k : Kd) : Rat × Rat := match k with
  | .even => (1, 1)
  | .in_ => (0, 2)
  | .out => (2, 0)
  | _ => (0, 0)
theorem lk_ends {k : Kd} : (List.lookup (kS k) [("even", D.tup [fr 1, fr 1]), ("in", D.tup [fr 0, fr 2]), ("out", D.tup [fr 2, fr 0])]).getD (D.tup [fr 0, fr 0]) = .tup [fr (endsD k).1, fr (endsD k).2] := by
  cases k <;> kernel_rfl
theorem ends_slope {k : Kd} : slopeQ k 0 = (endsD k).1 ∧ slopeQ k 1 = (endsD k).2 := by
  cases k <;> exact ⟨by decide +kernel, by decide +kernel⟩
theorem slope_lo {k : Kd} {p : Rat} (h : p < 0) : slopeQ k p = 0 := by
  unfold slopeQ
  rw [if_pos h]
theorem slope_hi {k : Kd} {p : Rat} (h : 1 < p) : slopeQ k p = 0 := by
  unfold slopeQ
  rw [if_neg (by grind), if_pos h]
theorem slope_turn {k : Kd} {p : Rat} (hk : ¬ k = .kept) : slopeQ (turnK k) (1 - p) = slopeQ k p := by
  unfold slopeQ
  by_cases h0 : p < 0
  · rw [if_pos h0, if_neg (by grind), if_pos (by grind)]
  · by_cases h1 : 1 < p
    · rw [if_neg h0, if_pos h1, if_pos (by grind)]
    · rw [if_neg h0, if_neg h1, if_neg (by grind), if_neg (by grind)]
      cases k <;> dsimp only [turnK] <;> grind
theorem slope_hj {k : Kd} {p : Rat} (h : k = .hold ∨ k = .jump) : slopeQ k p = 0 := by
  unfold slopeQ
  rcases h with rfl | rfl
  · split
    · rfl
    · split <;> rfl
  · split
    · rfl
    · split <;> rfl
/-- over a small step forth and back -/
theorem slope_step {k : Kd} {p s : Rat} (hk : ¬ k = .kept) (h1 : ¬ (k = .hold ∨ k = .jump)) (hs : 0 < s) (h2 : 0 ≤ p - s) (h3 : p + s ≤ 1) :
    slopeQ k p = (easedQ k (p + s) - easedQ k (p - s)) / (s + s) + (if k = .both then 2 * (s * s) else 0) := by
  have k1 : keptQ (p + s) = p + s := keptQ_in (by grind) h3
  have k2 : keptQ (p - s) = p - s := keptQ_in h2 (by grind)
  have hd : s + s ≠ 0 := by grind
  unfold slopeQ
  rw [if_neg (by grind), if_neg (by grind)]
  have dv : ∀ x y : Rat, x = y * (s + s) → x / (s + s) = y := fun x y e => by rw [e]; grind
  cases k with
  | even =>
    rw [if_neg (by decide)]
    unfold easedQ
    dsimp only
    rw [k1, k2, dv _ 1 (by grind)]
    grind
  | in_ =>
    rw [if_neg (by decide)]
    unfold easedQ
    dsimp only
    rw [k1, k2, dv _ (p + p) (by grind)]
    grind
  | out =>
    rw [if_neg (by decide)]
    unfold easedQ
    dsimp only
    rw [k1, k2, dv _ (2 - (p + p)) (by grind)]
    grind
  | both =>
    rw [if_pos rfl]
    unfold easedQ
    dsimp only
    rw [k1, k2, dv _ (6 * (p - p * p) - 2 * (s * s)) (by grind)]
    grind
  | hold => exact absurd (.inl rfl) h1
  | jump => exact absurd (.inr rfl) h1
  | kept => exact absurd rfl hk
theorem small_ok {j : Int} (h : 0 ≤ j) : 0 < Rat.divInt 1 (8 + j) ∧ Rat.divInt 1 (8 + j) * 8 ≤ 1 := by
  have h0 : 0 < Rat.divInt 1 (8 + j) := divInt_pos (by decide) (by omega)
  refine ⟨h0, ?_⟩
  have h1 : (8 : Rat) ≤ ((8 + j : Int) : Rat) := Rat.intCast_le_intCast.mpr (show (8 : Int) ≤ 8 + j by omega)
  have h2 : Rat.divInt 1 (8 + j) * ((8 + j : Int) : Rat) = 1 := by
    rw [divInt_div]
    have : ((8 + j : Int) : Rat) ≠ 0 := by grind
    have e : ((1 : Int) : Rat) = 1 := rfl
    rw [e]
    grind
  have h3 := Rat.mul_nonneg (Rat.le_of_lt h0) (show (0 : Rat) ≤ ((8 + j : Int) : Rat) - 8 by grind)
  grind
theorem part_ok {i : Nat} (h : i < 7) : 1 ≤ Rat.divInt (1 + (i : Int)) 8 * 8 ∧ Rat.divInt (1 + (i : Int)) 8 * 8 ≤ 7 := by
  have h1 := divInt_le (u := 1) (v := 1 + (i : Int)) (d := 8) (by decide) (by omega)
  have h2 := divInt_le (u := 1 + (i : Int)) (v := 7) (d := 8) (by decide) (by omega)
  have e1 : Rat.divInt 1 8 = 1 / 8 := by decide +kernel
  have e2 : Rat.divInt 7 8 = 7 / 8 := by decide +kernel
  rw [e1] at h1
  rw [e2] at h2
  exact ⟨by grind, by grind⟩
theorem b_mul4 {x : D} {kp : D × Bool → Prop} : OV (binv .mul (.lst [x]) (.int 4)) kp = kp (.lst [x, x, x, x], true) := rfl
end GW
end

section
namespace Gk11
open PySem PySem.Spec PyProof.Rows GW
abbrev prog : Program := PySem.Challenge.pw_glideways_k11_whole_slopes
def top (i : Nat) : Stmt := prog.main.body.getD i (.Pass ⟨0, 0, 0, 0⟩)
def dd (x : Str) (i : Nat) : He.DefD := ⟨(x, none), x, x, L2.defArgs (top i), L2.defBody (top i), L2.defScope (top i), [], []⟩
abbrev i_divisor : Nat := 0
abbrev i_frac : Nat := 1
abbrev i_plus : Nat := 2
abbrev i_minus : Nat := 3
abbrev i_times : Nat := 4
abbrev i_is_less : Nat := 5
abbrev i_look_kind : Nat := 6
abbrev i_kept_in : Nat := 7
abbrev i_eased : Nat := 8
abbrev i_slope : Nat := 9
abbrev i_turned_kind : Nat := 10
abbrev i__law_cell : Nat := 11
abbrev i__law_pick : Nat := 12
abbrev i__law_divisor : Nat := 13
abbrev i__law_made : Nat := 14
abbrev i__law_frac : Nat := 15
abbrev i__law_size : Nat := 16
abbrev i__law_plus : Nat := 17
abbrev i__law_minus : Nat := 18
abbrev i__law_times : Nat := 19
abbrev i__law_over : Nat := 20
abbrev i__law_less : Nat := 21
abbrev i__law_kind : Nat := 22
abbrev i__law_eased : Nat := 23
abbrev i__law_is_refused : Nat := 24
abbrev i_law : Nat := 25
abbrev x_GlideError : Nat := 0
abbrev x_NoFrac : Nat := 1
abbrev x_NoKind : Nat := 2
/-- divisor -/
def F_divisor : Fn := { name := "divisor", qual := "divisor", names := ["one", "other"], pars := ["one", "other"], meth := false, body :=
  [.whl (.cmp .ne (.var 1) (.int 0)) [.par [0, 1] [.var 1, .bin .mod (.var 0) (.var 1)]],
   .ret (.bi .abs [.var 0])] }
/-- frac -/
def F_frac : Fn := { name := "frac", qual := "frac", names := ["up", "down", "size"], pars := ["up", "down"], meth := false, body :=
  [.ite (.cmp .eq (.var 1) (.int 0)) [.raise 1] [],
   .asg 2 (.call i_divisor [.var 0, .var 1]),
   .ite (.cmp .lt (.var 1) (.int 0)) [.asg 2 (.bin .sub (.int 0) (.var 2))] [],
   .ret (.tup [.bin .fdiv (.var 0) (.var 2), .bin .fdiv (.var 1) (.var 2)])] }
/-- plus -/
def F_plus : Fn := { name := "plus", qual := "plus", names := ["one", "other"], pars := ["one", "other"], meth := false, body :=
  [.ret (.call i_frac [.bin .add (.bin .mul (.ix (.var 0) (.int 0)) (.ix (.var 1) (.int 1))) (.bin .mul (.ix (.var 1) (.int 0)) (.ix (.var 0) (.int 1))), .bin .mul (.ix (.var 0) (.int 1)) (.ix (.var 1) (.int 1))])] }
/-- minus -/
def F_minus : Fn := { name := "minus", qual := "minus", names := ["one", "other"], pars := ["one", "other"], meth := false, body :=
  [.ret (.call i_frac [.bin .sub (.bin .mul (.ix (.var 0) (.int 0)) (.ix (.var 1) (.int 1))) (.bin .mul (.ix (.var 1) (.int 0)) (.ix (.var 0) (.int 1))), .bin .mul (.ix (.var 0) (.int 1)) (.ix (.var 1) (.int 1))])] }
/-- times -/
def F_times : Fn := { name := "times", qual := "times", names := ["one", "other"], pars := ["one", "other"], meth := false, body :=
  [.ret (.call i_frac [.bin .mul (.ix (.var 0) (.int 0)) (.ix (.var 1) (.int 0)), .bin .mul (.ix (.var 0) (.int 1)) (.ix (.var 1) (.int 1))])] }
/-- is_less -/
def F_is_less : Fn := { name := "is_less", qual := "is_less", names := ["one", "other"], pars := ["one", "other"], meth := false, body :=
  [.ret (.cmp .lt (.bin .mul (.ix (.var 0) (.int 0)) (.ix (.var 1) (.int 1))) (.bin .mul (.ix (.var 1) (.int 0)) (.ix (.var 0) (.int 1))))] }
/-- look_kind -/
def F_look_kind : Fn := { name := "look_kind", qual := "look_kind", names := ["kind"], pars := ["kind"], meth := false, body :=
  [.ite (.disj [.nt (.isi (.var 0) (.str)), .cmp .nin (.var 0) (.glo 0)]) [.raise 2] []] }
/-- kept_in -/
def F_kept_in : Fn := { name := "kept_in", qual := "kept_in", names := ["part"], pars := ["part"], meth := false, body :=
  [.ite (.call i_is_less [.var 0, .glo 2]) [.ret (.glo 2)] [],
   .ret (.ife (.call i_is_less [.glo 3, .var 0]) (.glo 3) (.var 0))] }
/-- eased -/
def F_eased : Fn := { name := "eased", qual := "eased", names := ["kind", "part", "square"], pars := ["kind", "part"], meth := false, body :=
  [.exp (.call i_look_kind [.var 0]),
   .asg 1 (.call i_kept_in [.var 1]),
   .asg 2 (.call i_times [.var 1, .var 1]),
   .ite (.cmp .eq (.var 0) (.str "even")) [.ret (.var 1)] [],
   .ite (.cmp .eq (.var 0) (.str "in")) [.ret (.var 2)] [],
   .ite (.cmp .eq (.var 0) (.str "out")) [.ret (.call i_minus [.call i_plus [.var 1, .var 1], .var 2])] [],
   .ite (.cmp .eq (.var 0) (.str "both")) [.ret (.call i_times [.var 2, .call i_minus [.tup [.int 3, .int 1], .call i_plus [.var 1, .var 1]]])] [],
   .ite (.cmp .eq (.var 0) (.str "hold")) [.ret (.ife (.cmp .eq (.var 1) (.glo 3)) (.glo 3) (.glo 2))] [],
   .ret (.ife (.cmp .eq (.var 1) (.glo 2)) (.glo 2) (.glo 3))] }
/-- slope -/
def F_slope : Fn := { name := "slope", qual := "slope", names := ["kind", "part"], pars := ["kind", "part"], meth := false, body :=
  [.exp (.call i_look_kind [.var 0]),
   .ite (.disj [.call i_is_less [.var 1, .glo 2], .call i_is_less [.glo 3, .var 1], .cmp .in_ (.var 0) (.tup [.str "hold", .str "jump"])]) [.ret (.glo 2)] [],
   .ite (.cmp .eq (.var 0) (.str "even")) [.ret (.glo 3)] [],
   .ite (.cmp .eq (.var 0) (.str "in")) [.ret (.call i_plus [.var 1, .var 1])] [],
   .ite (.cmp .eq (.var 0) (.str "out")) [.ret (.call i_minus [.tup [.int 2, .int 1], .call i_plus [.var 1, .var 1]])] [],
   .ret (.call i_times [.tup [.int 6, .int 1], .call i_minus [.var 1, .call i_times [.var 1, .var 1]]])] }
/-- turned_kind -/
def F_turned_kind : Fn := { name := "turned_kind", qual := "turned_kind", names := ["kind"], pars := ["kind"], meth := false, body :=
  [.exp (.call i_look_kind [.var 0]),
   .ret (.gix 1 (.var 0))] }
/-- _law_cell -/
def F__law_cell : Fn := { name := "_law_cell", qual := "_law_cell", names := ["_law_script", "_law_k"], pars := ["_law_script", "_law_k"], meth := false, body :=
  [.ite (.cmp .lt (.var 1) (.bi .len [.var 0])) [.ret (.ix (.var 0) (.var 1))] [],
   .ite (.cmp .eq (.var 0) (.lst [])) [.ret (.int 0)] [],
   .ret (.bin .add (.bin .mul (.ix (.var 0) (.bin .mod (.var 1) (.bi .len [.var 0]))) (.int 31)) (.var 1))] }
/-- _law_pick -/
def F__law_pick : Fn := { name := "_law_pick", qual := "_law_pick", names := ["_law_script", "_law_k", "_law_many", "_law_drawn"], pars := ["_law_script", "_law_k", "_law_many"], meth := false, body :=
  [.asg 3 (.bin .mod (.bin .mul (.bin .add (.call i__law_cell [.var 0, .var 1]) (.bin .mul (.int 6151) (.bin .add (.var 1) (.int 1)))) (.int 40692)) (.int 2147483399)),
   .ret (.bin .mod (.bin .mod (.bin .add (.bin .mul (.var 3) (.var 3)) (.bin .fdiv (.var 3) (.int 31))) (.int 2147483629)) (.var 2))] }
/-- _law_divisor -/
def F__law_divisor : Fn := { name := "_law_divisor", qual := "_law_divisor", names := ["_law_one", "_law_other"], pars := ["_law_one", "_law_other"], meth := false, body :=
  [.whl (.cmp .ne (.var 1) (.int 0)) [.par [0, 1] [.var 1, .bin .mod (.var 0) (.var 1)]],
   .ret (.bi .abs [.var 0])] }
/-- _law_made -/
def F__law_made : Fn := { name := "_law_made", qual := "_law_made", names := ["_law_up", "_law_down", "_law_size_here"], pars := ["_law_up", "_law_down"], meth := false, body :=
  [.asg 2 (.bin .mul (.call i__law_divisor [.var 0, .var 1]) (.ife (.cmp .gt (.var 1) (.int 0)) (.int 1) (.neg (.int 1)))),
   .ret (.tup [.bin .fdiv (.var 0) (.var 2), .bin .fdiv (.var 1) (.var 2)])] }
/-- _law_frac -/
def F__law_frac : Fn := { name := "_law_frac", qual := "_law_frac", names := ["_law_script", "_law_at", "_law_down"], pars := ["_law_script", "_law_at"], meth := false, body :=
  [.asg 2 (.bin .add (.int 1) (.call i__law_pick [.var 0, .var 1, .int 4])),
   .ret (.call i__law_made [.bin .sub (.call i__law_pick [.var 0, .bin .add (.var 1) (.int 1), .bin .add (.bin .mul (.int 12) (.var 2)) (.int 1)]) (.bin .mul (.int 6) (.var 2)), .var 2])] }
/-- _law_size -/
def F__law_size : Fn := { name := "_law_size", qual := "_law_size", names := ["_law_script", "_law_at", "_law_down"], pars := ["_law_script", "_law_at"], meth := false, body :=
  [.asg 2 (.bin .add (.int 1) (.call i__law_pick [.var 0, .var 1, .int 3])),
   .ret (.call i__law_made [.bin .add (.int 1) (.call i__law_pick [.var 0, .bin .add (.var 1) (.int 1), .bin .mul (.int 6) (.var 2)]), .var 2])] }
/-- _law_plus -/
def F__law_plus : Fn := { name := "_law_plus", qual := "_law_plus", names := ["_law_one", "_law_other"], pars := ["_law_one", "_law_other"], meth := false, body :=
  [.ret (.call i__law_made [.bin .add (.bin .mul (.ix (.var 0) (.int 0)) (.ix (.var 1) (.int 1))) (.bin .mul (.ix (.var 1) (.int 0)) (.ix (.var 0) (.int 1))), .bin .mul (.ix (.var 0) (.int 1)) (.ix (.var 1) (.int 1))])] }
/-- _law_minus -/
def F__law_minus : Fn := { name := "_law_minus", qual := "_law_minus", names := ["_law_one", "_law_other"], pars := ["_law_one", "_law_other"], meth := false, body :=
  [.ret (.call i__law_made [.bin .sub (.bin .mul (.ix (.var 0) (.int 0)) (.ix (.var 1) (.int 1))) (.bin .mul (.ix (.var 1) (.int 0)) (.ix (.var 0) (.int 1))), .bin .mul (.ix (.var 0) (.int 1)) (.ix (.var 1) (.int 1))])] }
/-- _law_times -/
def F__law_times : Fn := { name := "_law_times", qual := "_law_times", names := ["_law_one", "_law_other"], pars := ["_law_one", "_law_other"], meth := false, body :=
  [.ret (.call i__law_made [.bin .mul (.ix (.var 0) (.int 0)) (.ix (.var 1) (.int 0)), .bin .mul (.ix (.var 0) (.int 1)) (.ix (.var 1) (.int 1))])] }
/-- _law_over -/
def F__law_over : Fn := { name := "_law_over", qual := "_law_over", names := ["_law_one", "_law_other"], pars := ["_law_one", "_law_other"], meth := false, body :=
  [.ret (.call i__law_made [.bin .mul (.ix (.var 0) (.int 0)) (.ix (.var 1) (.int 1)), .bin .mul (.ix (.var 0) (.int 1)) (.ix (.var 1) (.int 0))])] }
/-- _law_less -/
def F__law_less : Fn := { name := "_law_less", qual := "_law_less", names := ["_law_one", "_law_other"], pars := ["_law_one", "_law_other"], meth := false, body :=
  [.ret (.cmp .lt (.bin .mul (.ix (.var 0) (.int 0)) (.ix (.var 1) (.int 1))) (.bin .mul (.ix (.var 1) (.int 0)) (.ix (.var 0) (.int 1))))] }
/-- _law_kind -/
def F__law_kind : Fn := { name := "_law_kind", qual := "_law_kind", names := ["_law_script", "_law_at"], pars := ["_law_script", "_law_at"], meth := false, body :=
  [.ret (.ix (.lst [.str "even", .str "in", .str "out", .str "both", .str "hold", .str "jump"]) (.call i__law_pick [.var 0, .var 1, .int 6]))] }
/-- _law_eased -/
def F__law_eased : Fn := { name := "_law_eased", qual := "_law_eased", names := ["_law_kind_here", "_law_part", "_law_up", "_law_down"], pars := ["_law_kind_here", "_law_part"], meth := false, body :=
  [.ite (.cmp .le (.ix (.var 1) (.int 0)) (.int 0)) [.ret (.tup [.int 0, .int 1])] [],
   .ite (.cmp .ge (.ix (.var 1) (.int 0)) (.ix (.var 1) (.int 1))) [.ret (.tup [.int 1, .int 1])] [],
   .ite (.cmp .in_ (.var 0) (.tup [.str "hold", .str "jump"])) [.ret (.ife (.cmp .eq (.var 0) (.str "hold")) (.tup [.int 0, .int 1]) (.tup [.int 1, .int 1]))] [],
   .asgT [2, 3] (.var 1),
   .ite (.cmp .eq (.var 0) (.str "even")) [.ret (.var 1)] [],
   .ite (.cmp .eq (.var 0) (.str "in")) [.ret (.call i__law_made [.bin .mul (.var 2) (.var 2), .bin .mul (.var 3) (.var 3)])] [],
   .ite (.cmp .eq (.var 0) (.str "out")) [.ret (.call i__law_made [.bin .sub (.bin .mul (.bin .mul (.int 2) (.var 2)) (.var 3)) (.bin .mul (.var 2) (.var 2)), .bin .mul (.var 3) (.var 3)])] [],
   .ret (.call i__law_made [.bin .sub (.bin .mul (.bin .mul (.bin .mul (.int 3) (.var 2)) (.var 2)) (.var 3)) (.bin .mul (.bin .mul (.bin .mul (.int 2) (.var 2)) (.var 2)) (.var 2)), .bin .mul (.bin .mul (.var 3) (.var 3)) (.var 3)])] }
/-- _law_is_refused -/
def F__law_is_refused : Fn := { name := "_law_is_refused", qual := "_law_is_refused", names := ["_law_kind_here", "_law_kept", "e"], pars := ["_law_kind_here"], meth := false, body :=
  [.asg 1 (.non),
   .tryK [.exp (.call i_slope [.var 0, .tup [.int 1, .int 2]])] 0 2 1,
   .ret (.isi (.var 1) (.exc 2))] }
/-- law -/
def F_law : Fn := { name := "law", qual := "law", names := ["_law_script", "_law_kind_here", "_law_step", "_law_part", "_law_small", "_law_ahead", "_law_behind", "_law_on", "_law_told", "_law_odd", "_law_out", "_law_ends"], pars := ["_law_script"], meth := false, body :=
  [.asg 1 (.call i__law_kind [.var 0, .int 0]),
   .forS (.nm 2) (.rng [.int 1, .int 8]) [.asg 3 (.call i__law_made [.var 2, .int 8]),
          .asg 4 (.call i__law_made [.int 1, .bin .add (.int 8) (.call i__law_pick [.var 0, .var 2, .int 9])]),
          .asg 5 (.call i_eased [.var 1, .call i__law_plus [.var 3, .var 4]]),
          .asg 6 (.call i_eased [.var 1, .call i__law_minus [.var 3, .var 4]]),
          .asg 7 (.call i__law_over [.call i__law_minus [.var 5, .var 6], .call i__law_plus [.var 4, .var 4]]),
          .asg 8 (.call i_slope [.var 1, .var 3]),
          .ite (.cmp .in_ (.var 1) (.tup [.str "hold", .str "jump"])) [.ite (.cmp .ne (.var 8) (.tup [.int 0, .int 1])) [.ret (.bl false)] [],
                 .cont] [],
          .ite (.cmp .eq (.var 1) (.str "both")) [.asg 7 (.call i__law_plus [.var 7, .call i__law_times [.tup [.int 2, .int 1], .call i__law_times [.var 4, .var 4]]])] [],
          .ite (.disj [.cmp .ne (.var 8) (.var 7), .cmp .ne (.call i_slope [.call i_turned_kind [.var 1], .call i__law_minus [.tup [.int 1, .int 1], .var 3]]) (.var 8)]) [.ret (.bl false)] []],
   .ite (.cmp .ne (.lc [9] (.nm 9) (.tup [.str "", .str "Even", .non, .int 5]) [] (.call i__law_is_refused [.var 9])) (.bin .mul (.lst [.bl true]) (.int 4))) [.ret (.bl false)] [],
   .asg 10 (.call i__law_made [.bin .add (.call i__law_pick [.var 0, .int 10, .int 20]) (.int 1), .int 9]),
   .ite (.disj [.cmp .ne (.call i_slope [.var 1, .call i__law_minus [.tup [.int 0, .int 1], .var 10]]) (.tup [.int 0, .int 1]), .cmp .ne (.call i_slope [.var 1, .call i__law_plus [.tup [.int 1, .int 1], .var 10]]) (.tup [.int 0, .int 1])]) [.ret (.bl false)] [],
   .asg 11 (.dct ["even", "in", "out"] [.tup [.tup [.int 1, .int 1], .tup [.int 1, .int 1]], .tup [.tup [.int 0, .int 1], .tup [.int 2, .int 1]], .tup [.tup [.int 2, .int 1], .tup [.int 0, .int 1]]]),
   .ret (.cmp .eq (.tup [.call i_slope [.var 1, .tup [.int 0, .int 1]], .call i_slope [.var 1, .tup [.int 1, .int 1]]]) (.mt .get (.var 11) [.var 1, .tup [.tup [.int 0, .int 1], .tup [.int 0, .int 1]]]))] }
def G : Prog := { fns := [F_divisor, F_frac, F_plus, F_minus, F_times, F_is_less, F_look_kind, F_kept_in, F_eased, F_slope, F_turned_kind, F__law_cell, F__law_pick, F__law_divisor, F__law_made, F__law_frac, F__law_size, F__law_plus, F__law_minus, F__law_times, F__law_over, F__law_less, F__law_kind, F__law_eased, F__law_is_refused, F_law], glos := [("KINDS", .tup [.str "even", .str "in", .str "out", .str "both", .str "hold", .str "jump"]), ("TURNED", .dic [("even", .str "even"), ("in", .str "out"), ("out", .str "in"), ("both", .str "both"), ("hold", .str "jump"), ("jump", .str "hold")]), ("NONE", .tup [.int 0, .int 1]), ("ALL", .tup [.int 1, .int 1])], excs := ["GlideError", "NoFrac", "NoKind"], sup := [[0], [1, 0], [2, 0]], turns := 2 ^ 20000 }
def defs : List He.DefD := [dd "divisor" 5, dd "frac" 6, dd "plus" 7, dd "minus" 8, dd "times" 9, dd "is_less" 10, dd "look_kind" 16, dd "kept_in" 17, dd "eased" 18, dd "slope" 19, dd "turned_kind" 20, dd "_law_cell" 22, dd "_law_pick" 23, dd "_law_divisor" 24, dd "_law_made" 25, dd "_law_frac" 26, dd "_law_size" 27, dd "_law_plus" 28, dd "_law_minus" 29, dd "_law_times" 30, dd "_law_over" 31, dd "_law_less" 32, dd "_law_kind" 33, dd "_law_eased" 34, dd "_law_is_refused" 35, dd "law" 36]
theorem ok0 : DefOk G (dd "divisor" 5) F_divisor := ⟨rfl, rfl, rfl, rfl, ⟨rfl, rfl, rfl, by decide +kernel, rfl, by decide +kernel, by decide +kernel⟩, by decide +kernel, fun _ _ _ _ _ _ us hl => match us, hl with | [_, _], _ => rfl⟩
theorem ok1 : DefOk G (dd "frac" 6) F_frac := ⟨rfl, rfl, rfl, rfl, ⟨rfl, rfl, rfl, by decide +kernel, rfl, by decide +kernel, by decide +kernel⟩, by decide +kernel, fun _ _ _ _ _ _ us hl => match us, hl with | [_, _], _ => rfl⟩
theorem ok2 : DefOk G (dd "plus" 7) F_plus := ⟨rfl, rfl, rfl, rfl, ⟨rfl, rfl, rfl, by decide +kernel, rfl, by decide +kernel, by decide +kernel⟩, by decide +kernel, fun _ _ _ _ _ _ us hl => match us, hl with | [_, _], _ => rfl⟩
theorem ok3 : DefOk G (dd "minus" 8) F_minus := ⟨rfl, rfl, rfl, rfl, ⟨rfl, rfl, rfl, by decide +kernel, rfl, by decide +kernel, by decide +kernel⟩, by decide +kernel, fun _ _ _ _ _ _ us hl => match us, hl with | [_, _], _ => rfl⟩
theorem ok4 : DefOk G (dd "times" 9) F_times := ⟨rfl, rfl, rfl, rfl, ⟨rfl, rfl, rfl, by decide +kernel, rfl, by decide +kernel, by decide +kernel⟩, by decide +kernel, fun _ _ _ _ _ _ us hl => match us, hl with | [_, _], _ => rfl⟩
theorem ok5 : DefOk G (dd "is_less" 10) F_is_less := ⟨rfl, rfl, rfl, rfl, ⟨rfl, rfl, rfl, by decide +kernel, rfl, by decide +kernel, by decide +kernel⟩, by decide +kernel, fun _ _ _ _ _ _ us hl => match us, hl with | [_, _], _ => rfl⟩
theorem ok6 : DefOk G (dd "look_kind" 16) F_look_kind := ⟨rfl, rfl, rfl, rfl, ⟨rfl, rfl, rfl, by decide +kernel, rfl, by decide +kernel, by decide +kernel⟩, by decide +kernel, fun _ _ _ _ _ _ us hl => match us, hl with | [_], _ => rfl⟩
theorem ok7 : DefOk G (dd "kept_in" 17) F_kept_in := ⟨rfl, rfl, rfl, rfl, ⟨rfl, rfl, rfl, by decide +kernel, rfl, by decide +kernel, by decide +kernel⟩, by decide +kernel, fun _ _ _ _ _ _ us hl => match us, hl with | [_], _ => rfl⟩
theorem ok8 : DefOk G (dd "eased" 18) F_eased := ⟨rfl, rfl, rfl, rfl, ⟨rfl, rfl, rfl, by decide +kernel, rfl, by decide +kernel, by decide +kernel⟩, by decide +kernel, fun _ _ _ _ _ _ us hl => match us, hl with | [_, _], _ => rfl⟩
theorem ok9 : DefOk G (dd "slope" 19) F_slope := ⟨rfl, rfl, rfl, rfl, ⟨rfl, rfl, rfl, by decide +kernel, rfl, by decide +kernel, by decide +kernel⟩, by decide +kernel, fun _ _ _ _ _ _ us hl => match us, hl with | [_, _], _ => rfl⟩
theorem ok10 : DefOk G (dd "turned_kind" 20) F_turned_kind := ⟨rfl, rfl, rfl, rfl, ⟨rfl, rfl, rfl, by decide +kernel, rfl, by decide +kernel, by decide +kernel⟩, by decide +kernel, fun _ _ _ _ _ _ us hl => match us, hl with | [_], _ => rfl⟩
theorem ok11 : DefOk G (dd "_law_cell" 22) F__law_cell := ⟨rfl, rfl, rfl, rfl, ⟨rfl, rfl, rfl, by decide +kernel, rfl, by decide +kernel, by decide +kernel⟩, by decide +kernel, fun _ _ _ _ _ _ us hl => match us, hl with | [_, _], _ => rfl⟩
theorem ok12 : DefOk G (dd "_law_pick" 23) F__law_pick := ⟨rfl, rfl, rfl, rfl, ⟨rfl, rfl, rfl, by decide +kernel, rfl, by decide +kernel, by decide +kernel⟩, by decide +kernel, fun _ _ _ _ _ _ us hl => match us, hl with | [_, _, _], _ => rfl⟩
theorem ok13 : DefOk G (dd "_law_divisor" 24) F__law_divisor := ⟨rfl, rfl, rfl, rfl, ⟨rfl, rfl, rfl, by decide +kernel, rfl, by decide +kernel, by decide +kernel⟩, by decide +kernel, fun _ _ _ _ _ _ us hl => match us, hl with | [_, _], _ => rfl⟩
theorem ok14 : DefOk G (dd "_law_made" 25) F__law_made := ⟨rfl, rfl, rfl, rfl, ⟨rfl, rfl, rfl, by decide +kernel, rfl, by decide +kernel, by decide +kernel⟩, by decide +kernel, fun _ _ _ _ _ _ us hl => match us, hl with | [_, _], _ => rfl⟩
theorem ok15 : DefOk G (dd "_law_frac" 26) F__law_frac := ⟨rfl, rfl, rfl, rfl, ⟨rfl, rfl, rfl, by decide +kernel, rfl, by decide +kernel, by decide +kernel⟩, by decide +kernel, fun _ _ _ _ _ _ us hl => match us, hl with | [_, _], _ => rfl⟩
theorem ok16 : DefOk G (dd "_law_size" 27) F__law_size := ⟨rfl, rfl, rfl, rfl, ⟨rfl, rfl, rfl, by decide +kernel, rfl, by decide +kernel, by decide +kernel⟩, by decide +kernel, fun _ _ _ _ _ _ us hl => match us, hl with | [_, _], _ => rfl⟩
theorem ok17 : DefOk G (dd "_law_plus" 28) F__law_plus := ⟨rfl, rfl, rfl, rfl, ⟨rfl, rfl, rfl, by decide +kernel, rfl, by decide +kernel, by decide +kernel⟩, by decide +kernel, fun _ _ _ _ _ _ us hl => match us, hl with | [_, _], _ => rfl⟩
theorem ok18 : DefOk G (dd "_law_minus" 29) F__law_minus := ⟨rfl, rfl, rfl, rfl, ⟨rfl, rfl, rfl, by decide +kernel, rfl, by decide +kernel, by decide +kernel⟩, by decide +kernel, fun _ _ _ _ _ _ us hl => match us, hl with | [_, _], _ => rfl⟩
theorem ok19 : DefOk G (dd "_law_times" 30) F__law_times := ⟨rfl, rfl, rfl, rfl, ⟨rfl, rfl, rfl, by decide +kernel, rfl, by decide +kernel, by decide +kernel⟩, by decide +kernel, fun _ _ _ _ _ _ us hl => match us, hl with | [_, _], _ => rfl⟩
theorem ok20 : DefOk G (dd "_law_over" 31) F__law_over := ⟨rfl, rfl, rfl, rfl, ⟨rfl, rfl, rfl, by decide +kernel, rfl, by decide +kernel, by decide +kernel⟩, by decide +kernel, fun _ _ _ _ _ _ us hl => match us, hl with | [_, _], _ => rfl⟩
theorem ok21 : DefOk G (dd "_law_less" 32) F__law_less := ⟨rfl, rfl, rfl, rfl, ⟨rfl, rfl, rfl, by decide +kernel, rfl, by decide +kernel, by decide +kernel⟩, by decide +kernel, fun _ _ _ _ _ _ us hl => match us, hl with | [_, _], _ => rfl⟩
theorem ok22 : DefOk G (dd "_law_kind" 33) F__law_kind := ⟨rfl, rfl, rfl, rfl, ⟨rfl, rfl, rfl, by decide +kernel, rfl, by decide +kernel, by decide +kernel⟩, by decide +kernel, fun _ _ _ _ _ _ us hl => match us, hl with | [_, _], _ => rfl⟩
theorem ok23 : DefOk G (dd "_law_eased" 34) F__law_eased := ⟨rfl, rfl, rfl, rfl, ⟨rfl, rfl, rfl, by decide +kernel, rfl, by decide +kernel, by decide +kernel⟩, by decide +kernel, fun _ _ _ _ _ _ us hl => match us, hl with | [_, _], _ => rfl⟩
theorem ok24 : DefOk G (dd "_law_is_refused" 35) F__law_is_refused := ⟨rfl, rfl, rfl, rfl, ⟨rfl, rfl, rfl, by decide +kernel, rfl, by decide +kernel, by decide +kernel⟩, by decide +kernel, fun _ _ _ _ _ _ us hl => match us, hl with | [_], _ => rfl⟩
theorem ok25 : DefOk G (dd "law" 36) F_law := ⟨rfl, rfl, rfl, rfl, ⟨rfl, rfl, rfl, by decide +kernel, rfl, by decide +kernel, by decide +kernel⟩, by decide +kernel, fun _ _ _ _ _ _ us hl => match us, hl with | [_], _ => rfl⟩
theorem oks : DefsOk G defs G.fns := .cons ok0 (.cons ok1 (.cons ok2 (.cons ok3 (.cons ok4 (.cons ok5 (.cons ok6 (.cons ok7 (.cons ok8 (.cons ok9 (.cons ok10 (.cons ok11 (.cons ok12 (.cons ok13 (.cons ok14 (.cons ok15 (.cons ok16 (.cons ok17 (.cons ok18 (.cons ok19 (.cons ok20 (.cons ok21 (.cons ok22 (.cons ok23 (.cons ok24 (.cons ok25 (.nil))))))))))))))))))))))))))
abbrev hk : PySem.W.Hook := He.hookX 5 (faOf G) defs (tsOf G) [] (exB G)
def ob (s : PySem.W.SharedT) : He.AlX := He.obsX 5 (faOf G) defs (tsOf G) [] (exB G) (HandSHeadRun.getT s)
theorem ob_eq (s : PySem.W.SharedT) : ob s = hk.obs s.abs := He.obsX_eq (HandSHeadRun.getT_eq s)
abbrev loose : List Str := [Str.ofString "GlideError", Str.ofString "NoFrac", Str.ofString "NoKind", Str.ofString "divisor", Str.ofString "frac", Str.ofString "plus", Str.ofString "minus", Str.ofString "times", Str.ofString "is_less", Str.ofString "KINDS", Str.ofString "TURNED", Str.ofString "NONE", Str.ofString "ALL", Str.ofString "look_kind", Str.ofString "kept_in", Str.ofString "eased", Str.ofString "slope", Str.ofString "turned_kind", Str.ofString "_law_cell", Str.ofString "_law_pick", Str.ofString "_law_divisor", Str.ofString "_law_made", Str.ofString "_law_frac", Str.ofString "_law_size", Str.ofString "_law_plus", Str.ofString "_law_minus", Str.ofString "_law_times", Str.ofString "_law_over", Str.ofString "_law_less", Str.ofString "_law_kind", Str.ofString "_law_eased", Str.ofString "_law_is_refused"]
abbrev iLaw : Nat := 36
abbrev fLaw : Nat := i_law
end Gk11
end

section
namespace Gk11
open PySem PySem.Spec PyProof.Rows GW
/-- the world, with one of its words written out -/
def fixW (w : World) (b : Bool) : World := { w with params := { w.params with followText := fun s => if s = "special-get-raises" then b else w.params.followText s } }
theorem fixW_eq (w : World) : fixW w (w.params.followText "special-get-raises") = w := by
  have h : (fun s => if s = "special-get-raises" then w.params.followText "special-get-raises" else w.params.followText s) = w.params.followText := by
    funext s
    split
    · rename_i h
      rw [h]
    · rfl
  unfold fixW
  rw [h]
theorem run_fixf (w : World) : HandSHeadRun.RunEq (PySem.W.OpenLaw.row PySem.Challenge.rw_glideways_k11_whole_slopes) (PySem.W.view (PySem.W.OpenLaw.row PySem.Challenge.rw_glideways_k11_whole_slopes).prog [iLaw]) hk ob 6000 loose (fixW w false) := by
  intro os
  kernel_rfl
theorem run_fixt (w : World) : HandSHeadRun.RunEq (PySem.W.OpenLaw.row PySem.Challenge.rw_glideways_k11_whole_slopes) (PySem.W.view (PySem.W.OpenLaw.row PySem.Challenge.rw_glideways_k11_whole_slopes).prog [iLaw]) hk ob 6000 loose (fixW w true) := by
  intro os
  kernel_rfl
theorem run_fix (w : World) (b : Bool) : HandSHeadRun.RunEq (PySem.W.OpenLaw.row PySem.Challenge.rw_glideways_k11_whole_slopes) (PySem.W.view (PySem.W.OpenLaw.row PySem.Challenge.rw_glideways_k11_whole_slopes).prog [iLaw]) hk ob 6000 loose (fixW w b) := by
  cases b
  · exact run_fixf w
  · exact run_fixt w
theorem run_eq (w : World) : HandSHeadRun.RunEq (PySem.W.OpenLaw.row PySem.Challenge.rw_glideways_k11_whole_slopes) (PySem.W.view (PySem.W.OpenLaw.row PySem.Challenge.rw_glideways_k11_whole_slopes).prog [iLaw]) hk ob 6000 loose w := by
  have h := run_fix w (w.params.followText "special-get-raises")
  rwa [fixW_eq] at h
end Gk11
open PySem PySem.W PySem.Calls PyProof.Rows GW
theorem Gk11.holds (hlaw : ∀ ns : List Int, ns.length ≤ 63 → (∀ z ∈ ns, Builtin.Int.intBits z ≤ 1048576) → ∃ o, GW.run Gk11.G 60 Gk11.fLaw .non [.lst (ns.map .int)] = .ok (.bl true) o .non) : PySem.Challenge.rw_glideways_k11_whole_slopes.Holds := by
  w_on; o_law
  refine HandSHeadRun.head_any (r := OpenLaw.row PySem.Challenge.rw_glideways_k11_whole_slopes) (q := view (OpenLaw.row PySem.Challenge.rw_glideways_k11_whole_slopes).prog [Gk11.iLaw]) (H := Gk11.hk) (ob := Gk11.ob) (M := 6000) (loose := Gk11.loose) (d := HandSHeadRun.topDef (OpenLaw.row PySem.Challenge.rw_glideways_k11_whole_slopes).prog Gk11.iLaw) (kwd := []) Gk11.ob_eq
    (by kernel_rfl) (fun s => by kernel_rfl) Gk11.run_eq (by kernel_rfl) (by kernel_rfl) (by kernel_rfl) (by rfl) (by first | assumption | decide +kernel) (by decide +kernel) ⟨rfl, rfl, rfl, rfl, rfl, by decide +kernel⟩ ?hw ?hc
  case hw => w_witness2
  case hc => exact law_walk (l := PySem.Challenge.rw_glideways_k11_whole_slopes) rfl (by kernel_rfl) (by kernel_rfl) (f := Gk11.fLaw) rfl rfl Gk11.oks ⟨rfl, by decide, by decide⟩ hlaw
end

section
open GW in
local macro_rules | `(tactic| walk_at "ev") => `(tactic| simp only [↓we_int, ↓we_bl, ↓we_non, ↓we_str, ↓we_tup, ↓we_lst, ↓wl_nil, ↓wl_cons, ↓we_bin, ↓we_cmp, ↓we_chain, ↓we_ix, ↓we_neg, ↓we_nt, ↓we_ife, ↓we_conj, ↓we_disj, ↓wa_nil, ↓wo_nil, ↓wa_cons, ↓wo_cons, ↓we_call, ↓we_bi, ↓we_isi, ↓we_rev, ↓we_sl, ↓we_mt, ↓we_bop, ↓we_rng, ↓we_zip, ↓we_enum, ↓we_gix, ↓we_glo, ↓ws_nil, ↓ws_set, ↓ws_exp, ↓ws_ret, ↓ws_retN, ↓ws_raise, ↓ws_pass, ↓ws_asgT, ↓ws_par, ↓ws_ite, ↓ws_try, ↓ws_whl, ↓th_nx, ↓th_rt, ↓th_exn, ↓th_bk, ↓th_ct, ↓tk_nx, ↓tk_rt, ↓nf_f, ↓nf_l, ↓nf_i, ↓nf_b, ↓nf_t, ↓nf_n, ↓nf_s, ↓nf_x, ↓br_t, ↓br_f, ↓br_n, ↓br_d, ↓ov_s, ↓cw_o, ↓cw_e, ↓wv0, ↓wo0, ↓wm0, ↓wn0, ↓se0f, ↓se0o, ↓sx0, ↓pk0f, ↓pk0o, ↓po0, ↓wv1, ↓wo1, ↓wm1, ↓wn1, ↓se1f, ↓se1o, ↓sx1, ↓pk1f, ↓pk1o, ↓po1, ↓wv2, ↓wo2, ↓wm2, ↓wn2, ↓se2f, ↓se2o, ↓sx2, ↓pk2f, ↓pk2o, ↓po2, ↓wv3, ↓wo3, ↓wm3, ↓wn3, ↓se3f, ↓se3o, ↓sx3, ↓pk3f, ↓pk3o, ↓po3, ↓wv4, ↓wo4, ↓wm4, ↓wn4, ↓se4f, ↓se4o, ↓sx4, ↓pk4f, ↓pk4o, ↓po4, ↓wv5, ↓wo5, ↓wm5, ↓wn5, ↓se5f, ↓se5o, ↓sx5, ↓pk5f, ↓pk5o, ↓po5, ↓wv6, ↓wo6, ↓wm6, ↓wn6, ↓se6f, ↓se6o, ↓sx6, ↓pk6f, ↓pk6o, ↓po6, ↓wv7, ↓wo7, ↓wm7, ↓wn7, ↓se7f, ↓se7o, ↓sx7, ↓pk7f, ↓pk7o, ↓po7, ↓wv8, ↓wo8, ↓wm8, ↓wn8, ↓se8f, ↓se8o, ↓sx8, ↓pk8f, ↓pk8o, ↓po8, ↓wv9, ↓wo9, ↓wm9, ↓wn9, ↓se9f, ↓se9o, ↓sx9, ↓pk9f, ↓pk9o, ↓po9, ↓wv10, ↓wo10, ↓wm10, ↓wn10, ↓se10f, ↓se10o, ↓sx10, ↓pk10f, ↓pk10o, ↓po10, ↓wv11, ↓wo11, ↓wm11, ↓wn11, ↓se11f, ↓se11o, ↓sx11, ↓pk11f, ↓pk11o, ↓po11, ↓wv12, ↓wo12, ↓wm12, ↓wn12, ↓se12f, ↓se12o, ↓sx12, ↓pk12f, ↓pk12o, ↓po12, ↓wv13, ↓wo13, ↓wm13, ↓wn13, ↓se13f, ↓se13o, ↓sx13, ↓pk13f, ↓pk13o, ↓po13, ↓wv14, ↓wo14, ↓wm14, ↓wn14, ↓se14f, ↓se14o, ↓sx14, ↓pk14f, ↓pk14o, ↓po14, ↓wv15, ↓wo15, ↓wm15, ↓wn15, ↓se15f, ↓se15o, ↓sx15, ↓pk15f, ↓pk15o, ↓po15, ↓wv16, ↓wo16, ↓wm16, ↓wn16, ↓se16f, ↓se16o, ↓sx16, ↓pk16f, ↓pk16o, ↓po16, ↓wv17, ↓wo17, ↓wm17, ↓wn17, ↓se17f, ↓se17o, ↓sx17, ↓pk17f, ↓pk17o, ↓po17, ↓wv18, ↓wo18, ↓wm18, ↓wn18, ↓se18f, ↓se18o, ↓sx18, ↓pk18f, ↓pk18o, ↓po18, ↓wv19, ↓wo19, ↓wm19, ↓wn19, ↓se19f, ↓se19o, ↓sx19, ↓pk19f, ↓pk19o, ↓po19, ↓wv20, ↓wo20, ↓wm20, ↓wn20, ↓se20f, ↓se20o, ↓sx20, ↓pk20f, ↓pk20o, ↓po20, ↓wv21, ↓wo21, ↓wm21, ↓wn21, ↓se21f, ↓se21o, ↓sx21, ↓pk21f, ↓pk21o, ↓po21, ↓wv22, ↓wo22, ↓wm22, ↓wn22, ↓se22f, ↓se22o, ↓sx22, ↓pk22f, ↓pk22o, ↓po22, ↓wv23, ↓wo23, ↓wm23, ↓wn23, ↓se23f, ↓se23o, ↓sx23, ↓pk23f, ↓pk23o, ↓po23, ↓wv24, ↓wo24, ↓wm24, ↓wn24, ↓se24f, ↓se24o, ↓sx24, ↓pk24f, ↓pk24o, ↓po24, ↓wv25, ↓wo25, ↓wm25, ↓wn25, ↓se25f, ↓se25o, ↓sx25, ↓pk25f, ↓pk25o, ↓po25, ↓ses_n, ↓ses_c, ↓sep_n, ↓sep_c, ↓ws_appn, ↓ws_extn, ↓b_add, ↓b_addl, ↓b_addt, ↓b_sub, ↓b_mul, ↓b_fdiv, ↓b_mod, ↓b_pow, ↓c_lt, ↓c_le, ↓c_gt, ↓c_ge, ↓c_eq, ↓c_ne, ↓is_n, ↓isn_n, ↓is_b, ↓isn_b, ↓is_i, ↓isn_i, ↓is_s, ↓isn_s, ↓is_t, ↓isn_t, ↓is_l, ↓isn_l, ↓is_x, ↓isn_x, ↓isn_bb, ↓b_mult, ↓is_bb, ↓ix_tup0, ↓ix_lst0, ↓ix_tup1, ↓ix_lst1, ↓ix_tup2, ↓ix_lst2, ↓ix_tup3, ↓ix_lst3, ↓ix_tup4, ↓ix_lst4, ↓ix_tup5, ↓ix_lst5, ↓ix_tup6, ↓ix_lst6, ↓ix_tup7, ↓ix_lst7, ↓ix_tup8, ↓ix_lst8, ↓ix_tup9, ↓ix_lst9, ↓ix_tup10, ↓ix_lst10, ↓ix_tup11, ↓ix_lst11, ↓ix_tup12, ↓ix_lst12, ↓ix_tup13, ↓ix_lst13, ↓ix_tup14, ↓ix_lst14, ↓ix_tup15, ↓ix_lst15, ↓ng, ↓up_t, ↓up_l, ↓it_t, ↓it_l, ↓ls_l, ↓pt_n, ↓pt_i, ↓rg1, ↓rg2, ↓bi_lenl, ↓bi_lent, ↓bi_abs, ↓bi_lil, ↓bi_lit, ↓bi_tul, ↓bi_tut, ↓rv_l, ↓ii_non_int, ↓ii_non_bool, ↓ii_non_str, ↓ii_non_tuple, ↓ii_non_list, ↓ii_bl_int, ↓ii_bl_bool, ↓ii_bl_str, ↓ii_bl_tuple, ↓ii_bl_list, ↓ii_int_int, ↓ii_int_bool, ↓ii_int_str, ↓ii_int_tuple, ↓ii_int_list, ↓ii_str_int, ↓ii_str_bool, ↓ii_str_str, ↓ii_str_tuple, ↓ii_str_list, ↓ii_tup_int, ↓ii_tup_bool, ↓ii_tup_str, ↓ii_tup_tuple, ↓ii_tup_list, ↓ii_lst_int, ↓ii_lst_bool, ↓ii_lst_str, ↓ii_lst_tuple, ↓ii_lst_list, ↓nf_fr, ↓ix_fr0, ↓ix_fr1, ↓ii_fr_t, ↓len_fr, ↓c_eqfr, ↓c_nefr, ↓ri_rt, ↓ri_nx, ↓ri_ex, ↓ri_rx, ↓ri_xr, ↓gd_nx, ↓gd_rt, ↓gd_ex, ↓ok_rt, ↓ws_forW, ↓ws_brk, ↓ws_cont, ↓lq_nx, ↓lq_ct, ↓lq_bk, ↓lq_rt, ↓lq_exn, ↓iq_nx, ↓iq_ct, ↓iq_bk, ↓iq_rt, ↓iq_exn, ↓st_n, ↓st_t, ↓sts_n, ↓sts_c, ↓we_lc, ↓now_n, ↓now_c, ↓gs_0, ↓gs_s, ↓io_f, ↓io_n, ↓wp_n, ↓wp_c, ↓ck_even, ↓cn_even, ↓ck_in, ↓cn_in, ↓ck_out, ↓cn_out, ↓ck_both, ↓cn_both, ↓ck_hold, ↓cn_hold, ↓ck_jump, ↓cn_jump, ↓ck_kept, ↓cn_kept, ↓ci_hj, ↓cj_hj, ↓ci_bk, ↓cj_bk, ↓ci_kinds, ↓cj_kinds, ↓gx_turn, ↓up_fr, ↓ok_i, ↓ok_ii, ↓turn_turn, ↓sl_t, ↓sl_l, ↓cut_h1, ↓cut_l1, ↓cut_h2, ↓cut_l2, ↓cut_h3, ↓cut_l3, ↓cut_h4, ↓cut_l4, ↓cut_h5, ↓cut_l5, ↓cut_2_4, ↓r_nn, decide_eq_true_eq, decide_eq_false_iff_not, Bool.not_eq_true', Bool.not_eq_false', true_and, and_true, and_self, true_implies, false_implies, implies_true, forall_const, not_true_eq_false, not_false_eq_true, Bool.not_true, Bool.not_false, decide_true, decide_false, reduceCtorEq, List.cons_append, List.nil_append, List.append_assoc, not_false_iff, eq_self, Tg.slots])
open GW in
local macro_rules | `(tactic| walk_at "e1") => `(tactic| simp (maxSteps := 10000000) (disch := (first | assumption | omega | decide)) only [↓we_int, ↓we_bl, ↓we_non, ↓we_str, ↓we_tup, ↓we_lst, ↓wl_nil, ↓wl_cons, ↓we_bin, ↓we_cmp, ↓we_chain, ↓we_ix, ↓we_neg, ↓we_nt, ↓we_ife, ↓we_conj, ↓we_disj, ↓wa_nil, ↓wo_nil, ↓wa_cons, ↓wo_cons, ↓we_call, ↓we_bi, ↓we_isi, ↓we_rev, ↓we_sl, ↓we_mt, ↓we_bop, ↓we_rng, ↓we_zip, ↓we_enum, ↓we_gix, ↓we_glo, ↓ws_nil, ↓ws_set, ↓ws_exp, ↓ws_ret, ↓ws_retN, ↓ws_raise, ↓ws_pass, ↓ws_asgT, ↓ws_par, ↓ws_ite, ↓ws_try, ↓ws_whl, ↓th_nx, ↓th_rt, ↓th_exn, ↓th_bk, ↓th_ct, ↓tk_nx, ↓tk_rt, ↓nf_f, ↓nf_l, ↓nf_i, ↓nf_b, ↓nf_t, ↓nf_n, ↓nf_s, ↓nf_x, ↓br_t, ↓br_f, ↓br_n, ↓ov_s, ↓cw_o, ↓cw_e, ↓wv0, ↓wo0, ↓wm0, ↓wn0, ↓se0f, ↓se0o, ↓sx0, ↓pk0f, ↓pk0o, ↓po0, ↓wv1, ↓wo1, ↓wm1, ↓wn1, ↓se1f, ↓se1o, ↓sx1, ↓pk1f, ↓pk1o, ↓po1, ↓wv2, ↓wo2, ↓wm2, ↓wn2, ↓se2f, ↓se2o, ↓sx2, ↓pk2f, ↓pk2o, ↓po2, ↓wv3, ↓wo3, ↓wm3, ↓wn3, ↓se3f, ↓se3o, ↓sx3, ↓pk3f, ↓pk3o, ↓po3, ↓wv4, ↓wo4, ↓wm4, ↓wn4, ↓se4f, ↓se4o, ↓sx4, ↓pk4f, ↓pk4o, ↓po4, ↓wv5, ↓wo5, ↓wm5, ↓wn5, ↓se5f, ↓se5o, ↓sx5, ↓pk5f, ↓pk5o, ↓po5, ↓wv6, ↓wo6, ↓wm6, ↓wn6, ↓se6f, ↓se6o, ↓sx6, ↓pk6f, ↓pk6o, ↓po6, ↓wv7, ↓wo7, ↓wm7, ↓wn7, ↓se7f, ↓se7o, ↓sx7, ↓pk7f, ↓pk7o, ↓po7, ↓wv8, ↓wo8, ↓wm8, ↓wn8, ↓se8f, ↓se8o, ↓sx8, ↓pk8f, ↓pk8o, ↓po8, ↓wv9, ↓wo9, ↓wm9, ↓wn9, ↓se9f, ↓se9o, ↓sx9, ↓pk9f, ↓pk9o, ↓po9, ↓wv10, ↓wo10, ↓wm10, ↓wn10, ↓se10f, ↓se10o, ↓sx10, ↓pk10f, ↓pk10o, ↓po10, ↓wv11, ↓wo11, ↓wm11, ↓wn11, ↓se11f, ↓se11o, ↓sx11, ↓pk11f, ↓pk11o, ↓po11, ↓wv12, ↓wo12, ↓wm12, ↓wn12, ↓se12f, ↓se12o, ↓sx12, ↓pk12f, ↓pk12o, ↓po12, ↓wv13, ↓wo13, ↓wm13, ↓wn13, ↓se13f, ↓se13o, ↓sx13, ↓pk13f, ↓pk13o, ↓po13, ↓wv14, ↓wo14, ↓wm14, ↓wn14, ↓se14f, ↓se14o, ↓sx14, ↓pk14f, ↓pk14o, ↓po14, ↓wv15, ↓wo15, ↓wm15, ↓wn15, ↓se15f, ↓se15o, ↓sx15, ↓pk15f, ↓pk15o, ↓po15, ↓wv16, ↓wo16, ↓wm16, ↓wn16, ↓se16f, ↓se16o, ↓sx16, ↓pk16f, ↓pk16o, ↓po16, ↓wv17, ↓wo17, ↓wm17, ↓wn17, ↓se17f, ↓se17o, ↓sx17, ↓pk17f, ↓pk17o, ↓po17, ↓wv18, ↓wo18, ↓wm18, ↓wn18, ↓se18f, ↓se18o, ↓sx18, ↓pk18f, ↓pk18o, ↓po18, ↓wv19, ↓wo19, ↓wm19, ↓wn19, ↓se19f, ↓se19o, ↓sx19, ↓pk19f, ↓pk19o, ↓po19, ↓wv20, ↓wo20, ↓wm20, ↓wn20, ↓se20f, ↓se20o, ↓sx20, ↓pk20f, ↓pk20o, ↓po20, ↓wv21, ↓wo21, ↓wm21, ↓wn21, ↓se21f, ↓se21o, ↓sx21, ↓pk21f, ↓pk21o, ↓po21, ↓wv22, ↓wo22, ↓wm22, ↓wn22, ↓se22f, ↓se22o, ↓sx22, ↓pk22f, ↓pk22o, ↓po22, ↓wv23, ↓wo23, ↓wm23, ↓wn23, ↓se23f, ↓se23o, ↓sx23, ↓pk23f, ↓pk23o, ↓po23, ↓wv24, ↓wo24, ↓wm24, ↓wn24, ↓se24f, ↓se24o, ↓sx24, ↓pk24f, ↓pk24o, ↓po24, ↓wv25, ↓wo25, ↓wm25, ↓wn25, ↓se25f, ↓se25o, ↓sx25, ↓pk25f, ↓pk25o, ↓po25, ↓ses_n, ↓ses_c, ↓sep_n, ↓sep_c, ↓ws_appn, ↓ws_extn, ↓b_add, ↓b_addl, ↓b_addt, ↓b_sub, ↓b_mul, ↓b_fdiv, ↓b_mod, ↓b_pow, ↓c_lt, ↓c_le, ↓c_gt, ↓c_ge, ↓c_eq, ↓c_ne, ↓is_n, ↓isn_n, ↓is_b, ↓isn_b, ↓is_i, ↓isn_i, ↓is_s, ↓isn_s, ↓is_t, ↓isn_t, ↓is_l, ↓isn_l, ↓is_x, ↓isn_x, ↓isn_bb, ↓b_mult, ↓is_bb, ↓ix_tup0, ↓ix_lst0, ↓ix_tup1, ↓ix_lst1, ↓ix_tup2, ↓ix_lst2, ↓ix_tup3, ↓ix_lst3, ↓ix_tup4, ↓ix_lst4, ↓ix_tup5, ↓ix_lst5, ↓ix_tup6, ↓ix_lst6, ↓ix_tup7, ↓ix_lst7, ↓ix_tup8, ↓ix_lst8, ↓ix_tup9, ↓ix_lst9, ↓ix_tup10, ↓ix_lst10, ↓ix_tup11, ↓ix_lst11, ↓ix_tup12, ↓ix_lst12, ↓ix_tup13, ↓ix_lst13, ↓ix_tup14, ↓ix_lst14, ↓ix_tup15, ↓ix_lst15, ↓ng, ↓up_t, ↓up_l, ↓it_t, ↓it_l, ↓ls_l, ↓pt_n, ↓pt_i, ↓rg1, ↓rg2, ↓bi_lenl, ↓bi_lent, ↓bi_abs, ↓bi_lil, ↓bi_lit, ↓bi_tul, ↓bi_tut, ↓rv_l, ↓ii_non_int, ↓ii_non_bool, ↓ii_non_str, ↓ii_non_tuple, ↓ii_non_list, ↓ii_bl_int, ↓ii_bl_bool, ↓ii_bl_str, ↓ii_bl_tuple, ↓ii_bl_list, ↓ii_int_int, ↓ii_int_bool, ↓ii_int_str, ↓ii_int_tuple, ↓ii_int_list, ↓ii_str_int, ↓ii_str_bool, ↓ii_str_str, ↓ii_str_tuple, ↓ii_str_list, ↓ii_tup_int, ↓ii_tup_bool, ↓ii_tup_str, ↓ii_tup_tuple, ↓ii_tup_list, ↓ii_lst_int, ↓ii_lst_bool, ↓ii_lst_str, ↓ii_lst_tuple, ↓ii_lst_list, ↓nf_fr, ↓ix_fr0, ↓ix_fr1, ↓ii_fr_t, ↓len_fr, ↓c_eqfr, ↓c_nefr, ↓c_eqfrs, ↓c_nefrs, ↓c_eqbs, ↓c_nebs, ↓ri_rt, ↓ri_nx, ↓ri_ex, ↓ri_rx, ↓ri_xr, ↓gd_nx, ↓gd_rt, ↓gd_ex, ↓ok_rt, ↓ws_forW, ↓ws_brk, ↓ws_cont, ↓lq_nx, ↓lq_ct, ↓lq_bk, ↓lq_rt, ↓lq_exn, ↓iq_nx, ↓iq_ct, ↓iq_bk, ↓iq_rt, ↓iq_exn, ↓st_n, ↓st_t, ↓sts_n, ↓sts_c, ↓we_lc, ↓now_n, ↓now_c, ↓gs_0, ↓gs_s, ↓io_f, ↓io_n, ↓wp_n, ↓wp_c, ↓ck_even, ↓cn_even, ↓ck_in, ↓cn_in, ↓ck_out, ↓cn_out, ↓ck_both, ↓cn_both, ↓ck_hold, ↓cn_hold, ↓ck_jump, ↓cn_jump, ↓ck_kept, ↓cn_kept, ↓ci_hj, ↓cj_hj, ↓ci_bk, ↓cj_bk, ↓ci_kinds, ↓cj_kinds, ↓gx_turn, ↓up_fr, ↓ok_i, ↓ok_ii, ↓turn_turn, ↓sl_t, ↓sl_l, ↓cut_h1, ↓cut_l1, ↓cut_h2, ↓cut_l2, ↓cut_h3, ↓cut_l3, ↓cut_h4, ↓cut_l4, ↓cut_h5, ↓cut_l5, ↓cut_2_4, ↓r_nn, ↓c_eqself, ↓c_neself, ↓br_T, ↓br_F, ↓lit01, ↓lit11, ↓lit21, ↓lit31, ↓lit41, ↓lit61, ↓lit12, ↓lit32, decide_eq_true_eq, decide_eq_false_iff_not, Bool.not_eq_true', Bool.not_eq_false', true_and, and_true, and_self, true_implies, false_implies, implies_true, forall_const, not_true_eq_false, not_false_eq_true, Bool.not_true, Bool.not_false, decide_true, decide_false, reduceCtorEq, List.cons_append, List.nil_append, List.append_assoc, not_false_iff, eq_self, Tg.slots])
open GW in
local macro_rules | `(tactic| walk_at "e2") => `(tactic| simp (maxSteps := 10000000) (disch := (first | assumption | omega | decide)) only [↓we_int, ↓we_bl, ↓we_non, ↓we_str, ↓we_tup, ↓we_lst, ↓wl_nil, ↓wl_cons, ↓we_bin, ↓we_cmp, ↓we_chain, ↓we_ix, ↓we_neg, ↓we_nt, ↓we_ife, ↓we_conj, ↓we_disj, ↓wa_nil, ↓wo_nil, ↓wa_cons, ↓wo_cons, ↓we_call, ↓we_bi, ↓we_isi, ↓we_rev, ↓we_sl, ↓we_mt, ↓we_bop, ↓we_rng, ↓we_zip, ↓we_enum, ↓we_gix, ↓we_glo, ↓ws_nil, ↓ws_set, ↓ws_exp, ↓ws_ret, ↓ws_retN, ↓ws_raise, ↓ws_pass, ↓ws_asgT, ↓ws_par, ↓ws_ite, ↓ws_try, ↓ws_whl, ↓th_nx, ↓th_rt, ↓th_exn, ↓th_bk, ↓th_ct, ↓tk_nx, ↓tk_rt, ↓nf_f, ↓nf_l, ↓nf_i, ↓nf_b, ↓nf_t, ↓nf_n, ↓nf_s, ↓nf_x, ↓br_t, ↓br_f, ↓br_n, ↓br_d, ↓ov_s, ↓cw_o, ↓cw_e, ↓wv0, ↓wo0, ↓wm0, ↓wn0, ↓se0f, ↓se0o, ↓sx0, ↓pk0f, ↓pk0o, ↓po0, ↓wv1, ↓wo1, ↓wm1, ↓wn1, ↓se1f, ↓se1o, ↓sx1, ↓pk1f, ↓pk1o, ↓po1, ↓wv2, ↓wo2, ↓wm2, ↓wn2, ↓se2f, ↓se2o, ↓sx2, ↓pk2f, ↓pk2o, ↓po2, ↓wv3, ↓wo3, ↓wm3, ↓wn3, ↓se3f, ↓se3o, ↓sx3, ↓pk3f, ↓pk3o, ↓po3, ↓wv4, ↓wo4, ↓wm4, ↓wn4, ↓se4f, ↓se4o, ↓sx4, ↓pk4f, ↓pk4o, ↓po4, ↓wv5, ↓wo5, ↓wm5, ↓wn5, ↓se5f, ↓se5o, ↓sx5, ↓pk5f, ↓pk5o, ↓po5, ↓wv6, ↓wo6, ↓wm6, ↓wn6, ↓se6f, ↓se6o, ↓sx6, ↓pk6f, ↓pk6o, ↓po6, ↓wv7, ↓wo7, ↓wm7, ↓wn7, ↓se7f, ↓se7o, ↓sx7, ↓pk7f, ↓pk7o, ↓po7, ↓wv8, ↓wo8, ↓wm8, ↓wn8, ↓se8f, ↓se8o, ↓sx8, ↓pk8f, ↓pk8o, ↓po8, ↓wv9, ↓wo9, ↓wm9, ↓wn9, ↓se9f, ↓se9o, ↓sx9, ↓pk9f, ↓pk9o, ↓po9, ↓wv10, ↓wo10, ↓wm10, ↓wn10, ↓se10f, ↓se10o, ↓sx10, ↓pk10f, ↓pk10o, ↓po10, ↓wv11, ↓wo11, ↓wm11, ↓wn11, ↓se11f, ↓se11o, ↓sx11, ↓pk11f, ↓pk11o, ↓po11, ↓wv12, ↓wo12, ↓wm12, ↓wn12, ↓se12f, ↓se12o, ↓sx12, ↓pk12f, ↓pk12o, ↓po12, ↓wv13, ↓wo13, ↓wm13, ↓wn13, ↓se13f, ↓se13o, ↓sx13, ↓pk13f, ↓pk13o, ↓po13, ↓wv14, ↓wo14, ↓wm14, ↓wn14, ↓se14f, ↓se14o, ↓sx14, ↓pk14f, ↓pk14o, ↓po14, ↓wv15, ↓wo15, ↓wm15, ↓wn15, ↓se15f, ↓se15o, ↓sx15, ↓pk15f, ↓pk15o, ↓po15, ↓wv16, ↓wo16, ↓wm16, ↓wn16, ↓se16f, ↓se16o, ↓sx16, ↓pk16f, ↓pk16o, ↓po16, ↓wv17, ↓wo17, ↓wm17, ↓wn17, ↓se17f, ↓se17o, ↓sx17, ↓pk17f, ↓pk17o, ↓po17, ↓wv18, ↓wo18, ↓wm18, ↓wn18, ↓se18f, ↓se18o, ↓sx18, ↓pk18f, ↓pk18o, ↓po18, ↓wv19, ↓wo19, ↓wm19, ↓wn19, ↓se19f, ↓se19o, ↓sx19, ↓pk19f, ↓pk19o, ↓po19, ↓wv20, ↓wo20, ↓wm20, ↓wn20, ↓se20f, ↓se20o, ↓sx20, ↓pk20f, ↓pk20o, ↓po20, ↓wv21, ↓wo21, ↓wm21, ↓wn21, ↓se21f, ↓se21o, ↓sx21, ↓pk21f, ↓pk21o, ↓po21, ↓wv22, ↓wo22, ↓wm22, ↓wn22, ↓se22f, ↓se22o, ↓sx22, ↓pk22f, ↓pk22o, ↓po22, ↓wv23, ↓wo23, ↓wm23, ↓wn23, ↓se23f, ↓se23o, ↓sx23, ↓pk23f, ↓pk23o, ↓po23, ↓wv24, ↓wo24, ↓wm24, ↓wn24, ↓se24f, ↓se24o, ↓sx24, ↓pk24f, ↓pk24o, ↓po24, ↓wv25, ↓wo25, ↓wm25, ↓wn25, ↓se25f, ↓se25o, ↓sx25, ↓pk25f, ↓pk25o, ↓po25, ↓ses_n, ↓ses_c, ↓sep_n, ↓sep_c, ↓ws_appn, ↓ws_extn, ↓b_add, ↓b_addl, ↓b_addt, ↓b_sub, ↓b_mul, ↓b_fdiv, ↓b_mod, ↓b_pow, ↓c_lt, ↓c_le, ↓c_gt, ↓c_ge, ↓c_eq, ↓c_ne, ↓is_n, ↓isn_n, ↓is_b, ↓isn_b, ↓is_i, ↓isn_i, ↓is_s, ↓isn_s, ↓is_t, ↓isn_t, ↓is_l, ↓isn_l, ↓is_x, ↓isn_x, ↓isn_bb, ↓b_mult, ↓is_bb, ↓ix_tup0, ↓ix_lst0, ↓ix_tup1, ↓ix_lst1, ↓ix_tup2, ↓ix_lst2, ↓ix_tup3, ↓ix_lst3, ↓ix_tup4, ↓ix_lst4, ↓ix_tup5, ↓ix_lst5, ↓ix_tup6, ↓ix_lst6, ↓ix_tup7, ↓ix_lst7, ↓ix_tup8, ↓ix_lst8, ↓ix_tup9, ↓ix_lst9, ↓ix_tup10, ↓ix_lst10, ↓ix_tup11, ↓ix_lst11, ↓ix_tup12, ↓ix_lst12, ↓ix_tup13, ↓ix_lst13, ↓ix_tup14, ↓ix_lst14, ↓ix_tup15, ↓ix_lst15, ↓ng, ↓up_t, ↓up_l, ↓it_t, ↓it_l, ↓ls_l, ↓pt_n, ↓pt_i, ↓rg1, ↓rg2, ↓bi_lenl, ↓bi_lent, ↓bi_abs, ↓bi_lil, ↓bi_lit, ↓bi_tul, ↓bi_tut, ↓rv_l, ↓ii_non_int, ↓ii_non_bool, ↓ii_non_str, ↓ii_non_tuple, ↓ii_non_list, ↓ii_bl_int, ↓ii_bl_bool, ↓ii_bl_str, ↓ii_bl_tuple, ↓ii_bl_list, ↓ii_int_int, ↓ii_int_bool, ↓ii_int_str, ↓ii_int_tuple, ↓ii_int_list, ↓ii_str_int, ↓ii_str_bool, ↓ii_str_str, ↓ii_str_tuple, ↓ii_str_list, ↓ii_tup_int, ↓ii_tup_bool, ↓ii_tup_str, ↓ii_tup_tuple, ↓ii_tup_list, ↓ii_lst_int, ↓ii_lst_bool, ↓ii_lst_str, ↓ii_lst_tuple, ↓ii_lst_list, ↓nf_fr, ↓ix_fr0, ↓ix_fr1, ↓ii_fr_t, ↓len_fr, ↓c_eqfr, ↓c_nefr, ↓ri_rt, ↓ri_nx, ↓ri_ex, ↓ri_rx, ↓ri_xr, ↓gd_nx, ↓gd_rt, ↓gd_ex, ↓ok_rt, ↓ws_forW, ↓ws_brk, ↓ws_cont, ↓lq_nx, ↓lq_ct, ↓lq_bk, ↓lq_rt, ↓lq_exn, ↓iq_nx, ↓iq_ct, ↓iq_bk, ↓iq_rt, ↓iq_exn, ↓st_n, ↓st_t, ↓sts_n, ↓sts_c, ↓we_lc, ↓now_n, ↓now_c, ↓gs_0, ↓gs_s, ↓io_f, ↓io_n, ↓wp_n, ↓wp_c, ↓ck_even, ↓cn_even, ↓ck_in, ↓cn_in, ↓ck_out, ↓cn_out, ↓ck_both, ↓cn_both, ↓ck_hold, ↓cn_hold, ↓ck_jump, ↓cn_jump, ↓ck_kept, ↓cn_kept, ↓ci_hj, ↓cj_hj, ↓ci_bk, ↓cj_bk, ↓ci_kinds, ↓cj_kinds, ↓gx_turn, ↓up_fr, ↓ok_i, ↓ok_ii, ↓turn_turn, ↓sl_t, ↓sl_l, ↓cut_h1, ↓cut_l1, ↓cut_h2, ↓cut_l2, ↓cut_h3, ↓cut_l3, ↓cut_h4, ↓cut_l4, ↓cut_h5, ↓cut_l5, ↓cut_2_4, ↓r_nn, ↓lit01, ↓lit11, ↓lit21, ↓lit31, ↓lit41, ↓lit61, ↓lit12, ↓lit32, decide_eq_true_eq, decide_eq_false_iff_not, Bool.not_eq_true', Bool.not_eq_false', true_and, and_true, and_self, true_implies, false_implies, implies_true, forall_const, not_true_eq_false, not_false_eq_true, Bool.not_true, Bool.not_false, decide_true, decide_false, reduceCtorEq, List.cons_append, List.nil_append, List.append_assoc, not_false_iff, eq_self, Tg.slots])
open GW in
local macro_rules | `(tactic| walk_at "e1u") => `(tactic| simp (maxSteps := 10000000) (disch := (first | assumption | omega | decide)) only [↓we_int, ↓we_bl, ↓we_non, ↓we_str, ↓we_tup, ↓we_lst, ↓wl_nil, ↓wl_cons, ↓we_bin, ↓we_cmp, ↓we_chain, ↓we_ix, ↓we_neg, ↓we_nt, ↓we_ife, ↓we_conj, ↓we_disj, ↓wa_nil, ↓wo_nil, ↓wa_cons, ↓wo_cons, ↓we_call, ↓we_bi, ↓we_isi, ↓we_rev, ↓we_sl, ↓we_mt, ↓we_bop, ↓we_rng, ↓we_zip, ↓we_enum, ↓we_gix, ↓we_glo, ↓ws_nil, ↓ws_set, ↓ws_exp, ↓ws_ret, ↓ws_retN, ↓ws_raise, ↓ws_pass, ↓ws_asgT, ↓ws_par, ↓ws_ite, ↓ws_try, ↓ws_whl, ↓th_nx, ↓th_rt, ↓th_exn, ↓th_bk, ↓th_ct, ↓tk_nx, ↓tk_rt, ↓nf_f, ↓nf_l, ↓nf_i, ↓nf_b, ↓nf_t, ↓nf_n, ↓nf_s, ↓nf_x, ↓br_t, ↓br_f, ↓br_n, ↓ov_s, ↓cw_o, ↓cw_e, ↓wv0, ↓wo0, ↓wm0, ↓wn0, ↓se0f, ↓se0o, ↓sx0, ↓pk0f, ↓pk0o, ↓po0, ↓wv1, ↓wo1, ↓wm1, ↓wn1, ↓se1f, ↓se1o, ↓sx1, ↓pk1f, ↓pk1o, ↓po1, ↓wv2, ↓wo2, ↓wm2, ↓wn2, ↓se2f, ↓se2o, ↓sx2, ↓pk2f, ↓pk2o, ↓po2, ↓wv3, ↓wo3, ↓wm3, ↓wn3, ↓se3f, ↓se3o, ↓sx3, ↓pk3f, ↓pk3o, ↓po3, ↓wv4, ↓wo4, ↓wm4, ↓wn4, ↓se4f, ↓se4o, ↓sx4, ↓pk4f, ↓pk4o, ↓po4, ↓wv5, ↓wo5, ↓wm5, ↓wn5, ↓se5f, ↓se5o, ↓sx5, ↓pk5f, ↓pk5o, ↓po5, ↓wv6, ↓wo6, ↓wm6, ↓wn6, ↓se6f, ↓se6o, ↓sx6, ↓pk6f, ↓pk6o, ↓po6, ↓wv7, ↓wo7, ↓wm7, ↓wn7, ↓se7f, ↓se7o, ↓sx7, ↓pk7f, ↓pk7o, ↓po7, ↓wv8, ↓wo8, ↓wm8, ↓wn8, ↓se8f, ↓se8o, ↓sx8, ↓pk8f, ↓pk8o, ↓po8, ↓wv9, ↓wo9, ↓wm9, ↓wn9, ↓se9f, ↓se9o, ↓sx9, ↓pk9f, ↓pk9o, ↓po9, ↓wv10, ↓wo10, ↓wm10, ↓wn10, ↓se10f, ↓se10o, ↓sx10, ↓pk10f, ↓pk10o, ↓po10, ↓wv11, ↓wo11, ↓wm11, ↓wn11, ↓se11f, ↓se11o, ↓sx11, ↓pk11f, ↓pk11o, ↓po11, ↓wv12, ↓wo12, ↓wm12, ↓wn12, ↓se12f, ↓se12o, ↓sx12, ↓pk12f, ↓pk12o, ↓po12, ↓wv13, ↓wo13, ↓wm13, ↓wn13, ↓se13f, ↓se13o, ↓sx13, ↓pk13f, ↓pk13o, ↓po13, ↓wv14, ↓wo14, ↓wm14, ↓wn14, ↓se14f, ↓se14o, ↓sx14, ↓pk14f, ↓pk14o, ↓po14, ↓wv15, ↓wo15, ↓wm15, ↓wn15, ↓se15f, ↓se15o, ↓sx15, ↓pk15f, ↓pk15o, ↓po15, ↓wv16, ↓wo16, ↓wm16, ↓wn16, ↓se16f, ↓se16o, ↓sx16, ↓pk16f, ↓pk16o, ↓po16, ↓wv17, ↓wo17, ↓wm17, ↓wn17, ↓se17f, ↓se17o, ↓sx17, ↓pk17f, ↓pk17o, ↓po17, ↓wv18, ↓wo18, ↓wm18, ↓wn18, ↓se18f, ↓se18o, ↓sx18, ↓pk18f, ↓pk18o, ↓po18, ↓wv19, ↓wo19, ↓wm19, ↓wn19, ↓se19f, ↓se19o, ↓sx19, ↓pk19f, ↓pk19o, ↓po19, ↓wv20, ↓wo20, ↓wm20, ↓wn20, ↓se20f, ↓se20o, ↓sx20, ↓pk20f, ↓pk20o, ↓po20, ↓wv21, ↓wo21, ↓wm21, ↓wn21, ↓se21f, ↓se21o, ↓sx21, ↓pk21f, ↓pk21o, ↓po21, ↓wv22, ↓wo22, ↓wm22, ↓wn22, ↓se22f, ↓se22o, ↓sx22, ↓pk22f, ↓pk22o, ↓po22, ↓wv23, ↓wo23, ↓wm23, ↓wn23, ↓se23f, ↓se23o, ↓sx23, ↓pk23f, ↓pk23o, ↓po23, ↓wv24, ↓wo24, ↓wm24, ↓wn24, ↓se24f, ↓se24o, ↓sx24, ↓pk24f, ↓pk24o, ↓po24, ↓wv25, ↓wo25, ↓wm25, ↓wn25, ↓se25f, ↓se25o, ↓sx25, ↓pk25f, ↓pk25o, ↓po25, ↓ses_n, ↓ses_c, ↓sep_n, ↓sep_c, ↓ws_appn, ↓ws_extn, ↓b_add, ↓b_addl, ↓b_addt, ↓b_sub, ↓b_mul, ↓b_fdiv, ↓b_mod, ↓b_pow, ↓c_lt, ↓c_le, ↓c_gt, ↓c_ge, ↓c_eq, ↓c_ne, ↓is_n, ↓isn_n, ↓is_b, ↓isn_b, ↓is_i, ↓isn_i, ↓is_s, ↓isn_s, ↓is_t, ↓isn_t, ↓is_l, ↓isn_l, ↓is_x, ↓isn_x, ↓isn_bb, ↓b_mult, ↓is_bb, ↓ix_tup0, ↓ix_lst0, ↓ix_tup1, ↓ix_lst1, ↓ix_tup2, ↓ix_lst2, ↓ix_tup3, ↓ix_lst3, ↓ix_tup4, ↓ix_lst4, ↓ix_tup5, ↓ix_lst5, ↓ix_tup6, ↓ix_lst6, ↓ix_tup7, ↓ix_lst7, ↓ix_tup8, ↓ix_lst8, ↓ix_tup9, ↓ix_lst9, ↓ix_tup10, ↓ix_lst10, ↓ix_tup11, ↓ix_lst11, ↓ix_tup12, ↓ix_lst12, ↓ix_tup13, ↓ix_lst13, ↓ix_tup14, ↓ix_lst14, ↓ix_tup15, ↓ix_lst15, ↓ng, ↓up_t, ↓up_l, ↓it_t, ↓it_l, ↓ls_l, ↓pt_n, ↓pt_i, ↓rg1, ↓rg2, ↓bi_lenl, ↓bi_lent, ↓bi_abs, ↓bi_lil, ↓bi_lit, ↓bi_tul, ↓bi_tut, ↓rv_l, ↓ii_non_int, ↓ii_non_bool, ↓ii_non_str, ↓ii_non_tuple, ↓ii_non_list, ↓ii_bl_int, ↓ii_bl_bool, ↓ii_bl_str, ↓ii_bl_tuple, ↓ii_bl_list, ↓ii_int_int, ↓ii_int_bool, ↓ii_int_str, ↓ii_int_tuple, ↓ii_int_list, ↓ii_str_int, ↓ii_str_bool, ↓ii_str_str, ↓ii_str_tuple, ↓ii_str_list, ↓ii_tup_int, ↓ii_tup_bool, ↓ii_tup_str, ↓ii_tup_tuple, ↓ii_tup_list, ↓ii_lst_int, ↓ii_lst_bool, ↓ii_lst_str, ↓ii_lst_tuple, ↓ii_lst_list, ↓nf_fr, ↓ix_fr0, ↓ix_fr1, ↓ii_fr_t, ↓len_fr, ↓c_eqfr, ↓c_nefr, ↓c_eqfrs, ↓c_nefrs, ↓c_eqbs, ↓c_nebs, ↓ri_rt, ↓ri_nx, ↓ri_ex, ↓ri_rx, ↓ri_xr, ↓gd_nx, ↓gd_rt, ↓gd_ex, ↓ok_rt, ↓ws_forW, ↓ws_brk, ↓ws_cont, ↓lq_nx, ↓lq_ct, ↓lq_bk, ↓lq_rt, ↓lq_exn, ↓iq_nx, ↓iq_ct, ↓iq_bk, ↓iq_rt, ↓iq_exn, ↓st_n, ↓st_t, ↓sts_n, ↓sts_c, ↓we_lc, ↓now_n, ↓now_c, ↓gs_0, ↓gs_s, ↓io_f, ↓io_n, ↓wp_n, ↓wp_c, ↓ck_even, ↓cn_even, ↓ck_in, ↓cn_in, ↓ck_out, ↓cn_out, ↓ck_both, ↓cn_both, ↓ck_hold, ↓cn_hold, ↓ck_jump, ↓cn_jump, ↓ck_kept, ↓cn_kept, ↓ci_hj, ↓cj_hj, ↓ci_bk, ↓cj_bk, ↓ci_kinds, ↓cj_kinds, ↓gx_turn, ↓up_fr, ↓ok_i, ↓ok_ii, ↓turn_turn, ↓sl_t, ↓sl_l, ↓cut_h1, ↓cut_l1, ↓cut_h2, ↓cut_l2, ↓cut_h3, ↓cut_l3, ↓cut_h4, ↓cut_l4, ↓cut_h5, ↓cut_l5, ↓cut_2_4, ↓r_nn, ↓c_eqself, ↓c_neself, ↓br_T, ↓br_F, ↓lit01, ↓lit11, ↓lit21, ↓lit31, ↓lit41, ↓lit61, ↓lit12, ↓lit32, ↓wf_nil, ↓wf_cons, ↓ov_lcf, ↓ov_col_n, ↓ov_col_c, ↓optL_n, ↓optL_s, decide_eq_true_eq, decide_eq_false_iff_not, Bool.not_eq_true', Bool.not_eq_false', true_and, and_true, and_self, true_implies, false_implies, implies_true, forall_const, not_true_eq_false, not_false_eq_true, Bool.not_true, Bool.not_false, decide_true, decide_false, reduceCtorEq, List.cons_append, List.nil_append, List.append_assoc, not_false_iff, eq_self, Tg.slots])
open GW in
local macro_rules | `(tactic| walk_at "e2u") => `(tactic| simp (maxSteps := 10000000) (disch := (first | assumption | omega | decide)) only [↓we_int, ↓we_bl, ↓we_non, ↓we_str, ↓we_tup, ↓we_lst, ↓wl_nil, ↓wl_cons, ↓we_bin, ↓we_cmp, ↓we_chain, ↓we_ix, ↓we_neg, ↓we_nt, ↓we_ife, ↓we_conj, ↓we_disj, ↓wa_nil, ↓wo_nil, ↓wa_cons, ↓wo_cons, ↓we_call, ↓we_bi, ↓we_isi, ↓we_rev, ↓we_sl, ↓we_mt, ↓we_bop, ↓we_rng, ↓we_zip, ↓we_enum, ↓we_gix, ↓we_glo, ↓ws_nil, ↓ws_set, ↓ws_exp, ↓ws_ret, ↓ws_retN, ↓ws_raise, ↓ws_pass, ↓ws_asgT, ↓ws_par, ↓ws_ite, ↓ws_try, ↓ws_whl, ↓th_nx, ↓th_rt, ↓th_exn, ↓th_bk, ↓th_ct, ↓tk_nx, ↓tk_rt, ↓nf_f, ↓nf_l, ↓nf_i, ↓nf_b, ↓nf_t, ↓nf_n, ↓nf_s, ↓nf_x, ↓br_t, ↓br_f, ↓br_n, ↓br_d, ↓ov_s, ↓cw_o, ↓cw_e, ↓wv0, ↓wo0, ↓wm0, ↓wn0, ↓se0f, ↓se0o, ↓sx0, ↓pk0f, ↓pk0o, ↓po0, ↓wv1, ↓wo1, ↓wm1, ↓wn1, ↓se1f, ↓se1o, ↓sx1, ↓pk1f, ↓pk1o, ↓po1, ↓wv2, ↓wo2, ↓wm2, ↓wn2, ↓se2f, ↓se2o, ↓sx2, ↓pk2f, ↓pk2o, ↓po2, ↓wv3, ↓wo3, ↓wm3, ↓wn3, ↓se3f, ↓se3o, ↓sx3, ↓pk3f, ↓pk3o, ↓po3, ↓wv4, ↓wo4, ↓wm4, ↓wn4, ↓se4f, ↓se4o, ↓sx4, ↓pk4f, ↓pk4o, ↓po4, ↓wv5, ↓wo5, ↓wm5, ↓wn5, ↓se5f, ↓se5o, ↓sx5, ↓pk5f, ↓pk5o, ↓po5, ↓wv6, ↓wo6, ↓wm6, ↓wn6, ↓se6f, ↓se6o, ↓sx6, ↓pk6f, ↓pk6o, ↓po6, ↓wv7, ↓wo7, ↓wm7, ↓wn7, ↓se7f, ↓se7o, ↓sx7, ↓pk7f, ↓pk7o, ↓po7, ↓wv8, ↓wo8, ↓wm8, ↓wn8, ↓se8f, ↓se8o, ↓sx8, ↓pk8f, ↓pk8o, ↓po8, ↓wv9, ↓wo9, ↓wm9, ↓wn9, ↓se9f, ↓se9o, ↓sx9, ↓pk9f, ↓pk9o, ↓po9, ↓wv10, ↓wo10, ↓wm10, ↓wn10, ↓se10f, ↓se10o, ↓sx10, ↓pk10f, ↓pk10o, ↓po10, ↓wv11, ↓wo11, ↓wm11, ↓wn11, ↓se11f, ↓se11o, ↓sx11, ↓pk11f, ↓pk11o, ↓po11, ↓wv12, ↓wo12, ↓wm12, ↓wn12, ↓se12f, ↓se12o, ↓sx12, ↓pk12f, ↓pk12o, ↓po12, ↓wv13, ↓wo13, ↓wm13, ↓wn13, ↓se13f, ↓se13o, ↓sx13, ↓pk13f, ↓pk13o, ↓po13, ↓wv14, ↓wo14, ↓wm14, ↓wn14, ↓se14f, ↓se14o, ↓sx14, ↓pk14f, ↓pk14o, ↓po14, ↓wv15, ↓wo15, ↓wm15, ↓wn15, ↓se15f, ↓se15o, ↓sx15, ↓pk15f, ↓pk15o, ↓po15, ↓wv16, ↓wo16, ↓wm16, ↓wn16, ↓se16f, ↓se16o, ↓sx16, ↓pk16f, ↓pk16o, ↓po16, ↓wv17, ↓wo17, ↓wm17, ↓wn17, ↓se17f, ↓se17o, ↓sx17, ↓pk17f, ↓pk17o, ↓po17, ↓wv18, ↓wo18, ↓wm18, ↓wn18, ↓se18f, ↓se18o, ↓sx18, ↓pk18f, ↓pk18o, ↓po18, ↓wv19, ↓wo19, ↓wm19, ↓wn19, ↓se19f, ↓se19o, ↓sx19, ↓pk19f, ↓pk19o, ↓po19, ↓wv20, ↓wo20, ↓wm20, ↓wn20, ↓se20f, ↓se20o, ↓sx20, ↓pk20f, ↓pk20o, ↓po20, ↓wv21, ↓wo21, ↓wm21, ↓wn21, ↓se21f, ↓se21o, ↓sx21, ↓pk21f, ↓pk21o, ↓po21, ↓wv22, ↓wo22, ↓wm22, ↓wn22, ↓se22f, ↓se22o, ↓sx22, ↓pk22f, ↓pk22o, ↓po22, ↓wv23, ↓wo23, ↓wm23, ↓wn23, ↓se23f, ↓se23o, ↓sx23, ↓pk23f, ↓pk23o, ↓po23, ↓wv24, ↓wo24, ↓wm24, ↓wn24, ↓se24f, ↓se24o, ↓sx24, ↓pk24f, ↓pk24o, ↓po24, ↓wv25, ↓wo25, ↓wm25, ↓wn25, ↓se25f, ↓se25o, ↓sx25, ↓pk25f, ↓pk25o, ↓po25, ↓ses_n, ↓ses_c, ↓sep_n, ↓sep_c, ↓ws_appn, ↓ws_extn, ↓b_add, ↓b_addl, ↓b_addt, ↓b_sub, ↓b_mul, ↓b_fdiv, ↓b_mod, ↓b_pow, ↓c_lt, ↓c_le, ↓c_gt, ↓c_ge, ↓c_eq, ↓c_ne, ↓is_n, ↓isn_n, ↓is_b, ↓isn_b, ↓is_i, ↓isn_i, ↓is_s, ↓isn_s, ↓is_t, ↓isn_t, ↓is_l, ↓isn_l, ↓is_x, ↓isn_x, ↓isn_bb, ↓b_mult, ↓is_bb, ↓ix_tup0, ↓ix_lst0, ↓ix_tup1, ↓ix_lst1, ↓ix_tup2, ↓ix_lst2, ↓ix_tup3, ↓ix_lst3, ↓ix_tup4, ↓ix_lst4, ↓ix_tup5, ↓ix_lst5, ↓ix_tup6, ↓ix_lst6, ↓ix_tup7, ↓ix_lst7, ↓ix_tup8, ↓ix_lst8, ↓ix_tup9, ↓ix_lst9, ↓ix_tup10, ↓ix_lst10, ↓ix_tup11, ↓ix_lst11, ↓ix_tup12, ↓ix_lst12, ↓ix_tup13, ↓ix_lst13, ↓ix_tup14, ↓ix_lst14, ↓ix_tup15, ↓ix_lst15, ↓ng, ↓up_t, ↓up_l, ↓it_t, ↓it_l, ↓ls_l, ↓pt_n, ↓pt_i, ↓rg1, ↓rg2, ↓bi_lenl, ↓bi_lent, ↓bi_abs, ↓bi_lil, ↓bi_lit, ↓bi_tul, ↓bi_tut, ↓rv_l, ↓ii_non_int, ↓ii_non_bool, ↓ii_non_str, ↓ii_non_tuple, ↓ii_non_list, ↓ii_bl_int, ↓ii_bl_bool, ↓ii_bl_str, ↓ii_bl_tuple, ↓ii_bl_list, ↓ii_int_int, ↓ii_int_bool, ↓ii_int_str, ↓ii_int_tuple, ↓ii_int_list, ↓ii_str_int, ↓ii_str_bool, ↓ii_str_str, ↓ii_str_tuple, ↓ii_str_list, ↓ii_tup_int, ↓ii_tup_bool, ↓ii_tup_str, ↓ii_tup_tuple, ↓ii_tup_list, ↓ii_lst_int, ↓ii_lst_bool, ↓ii_lst_str, ↓ii_lst_tuple, ↓ii_lst_list, ↓nf_fr, ↓ix_fr0, ↓ix_fr1, ↓ii_fr_t, ↓len_fr, ↓c_eqfr, ↓c_nefr, ↓ri_rt, ↓ri_nx, ↓ri_ex, ↓ri_rx, ↓ri_xr, ↓gd_nx, ↓gd_rt, ↓gd_ex, ↓ok_rt, ↓ws_forW, ↓ws_brk, ↓ws_cont, ↓lq_nx, ↓lq_ct, ↓lq_bk, ↓lq_rt, ↓lq_exn, ↓iq_nx, ↓iq_ct, ↓iq_bk, ↓iq_rt, ↓iq_exn, ↓st_n, ↓st_t, ↓sts_n, ↓sts_c, ↓we_lc, ↓now_n, ↓now_c, ↓gs_0, ↓gs_s, ↓io_f, ↓io_n, ↓wp_n, ↓wp_c, ↓ck_even, ↓cn_even, ↓ck_in, ↓cn_in, ↓ck_out, ↓cn_out, ↓ck_both, ↓cn_both, ↓ck_hold, ↓cn_hold, ↓ck_jump, ↓cn_jump, ↓ck_kept, ↓cn_kept, ↓ci_hj, ↓cj_hj, ↓ci_bk, ↓cj_bk, ↓ci_kinds, ↓cj_kinds, ↓gx_turn, ↓up_fr, ↓ok_i, ↓ok_ii, ↓turn_turn, ↓sl_t, ↓sl_l, ↓cut_h1, ↓cut_l1, ↓cut_h2, ↓cut_l2, ↓cut_h3, ↓cut_l3, ↓cut_h4, ↓cut_l4, ↓cut_h5, ↓cut_l5, ↓cut_2_4, ↓r_nn, ↓lit01, ↓lit11, ↓lit21, ↓lit31, ↓lit41, ↓lit61, ↓lit12, ↓lit32, ↓wf_nil, ↓wf_cons, ↓ov_lcf, ↓ov_col_n, ↓ov_col_c, ↓optL_n, ↓optL_s, decide_eq_true_eq, decide_eq_false_iff_not, Bool.not_eq_true', Bool.not_eq_false', true_and, and_true, and_self, true_implies, false_implies, implies_true, forall_const, not_true_eq_false, not_false_eq_true, Bool.not_true, Bool.not_false, decide_true, decide_false, reduceCtorEq, List.cons_append, List.nil_append, List.append_assoc, not_false_iff, eq_self, Tg.slots])
namespace Gk11
open GW
theorem en_divisor {n : Nat} {a0 a1 : D} {r : Res} (h : WS (Prog.rt G (run G n) false) F_divisor.body [.fz a0, .fz a1] (RI r)) : run G (n + 1) i_divisor .non [a0, a1] = r := run_of rfl rfl rfl h
theorem en_frac {n : Nat} {a0 a1 : D} {r : Res} (h : WS (Prog.rt G (run G n) false) F_frac.body [.fz a0, .fz a1, .no] (RI r)) : run G (n + 1) i_frac .non [a0, a1] = r := run_of rfl rfl rfl h
theorem en_plus {n : Nat} {a0 a1 : D} {r : Res} (h : WS (Prog.rt G (run G n) false) F_plus.body [.fz a0, .fz a1] (RI r)) : run G (n + 1) i_plus .non [a0, a1] = r := run_of rfl rfl rfl h
theorem en_minus {n : Nat} {a0 a1 : D} {r : Res} (h : WS (Prog.rt G (run G n) false) F_minus.body [.fz a0, .fz a1] (RI r)) : run G (n + 1) i_minus .non [a0, a1] = r := run_of rfl rfl rfl h
theorem en_times {n : Nat} {a0 a1 : D} {r : Res} (h : WS (Prog.rt G (run G n) false) F_times.body [.fz a0, .fz a1] (RI r)) : run G (n + 1) i_times .non [a0, a1] = r := run_of rfl rfl rfl h
theorem en_is_less {n : Nat} {a0 a1 : D} {r : Res} (h : WS (Prog.rt G (run G n) false) F_is_less.body [.fz a0, .fz a1] (RI r)) : run G (n + 1) i_is_less .non [a0, a1] = r := run_of rfl rfl rfl h
theorem en_look_kind {n : Nat} {a0 : D} {r : Res} (h : WS (Prog.rt G (run G n) false) F_look_kind.body [.fz a0] (RI r)) : run G (n + 1) i_look_kind .non [a0] = r := run_of rfl rfl rfl h
theorem en_kept_in {n : Nat} {a0 : D} {r : Res} (h : WS (Prog.rt G (run G n) false) F_kept_in.body [.fz a0] (RI r)) : run G (n + 1) i_kept_in .non [a0] = r := run_of rfl rfl rfl h
theorem en_eased {n : Nat} {a0 a1 : D} {r : Res} (h : WS (Prog.rt G (run G n) false) F_eased.body [.fz a0, .fz a1, .no] (RI r)) : run G (n + 1) i_eased .non [a0, a1] = r := run_of rfl rfl rfl h
theorem en_slope {n : Nat} {a0 a1 : D} {r : Res} (h : WS (Prog.rt G (run G n) false) F_slope.body [.fz a0, .fz a1] (RI r)) : run G (n + 1) i_slope .non [a0, a1] = r := run_of rfl rfl rfl h
theorem en_turned_kind {n : Nat} {a0 : D} {r : Res} (h : WS (Prog.rt G (run G n) false) F_turned_kind.body [.fz a0] (RI r)) : run G (n + 1) i_turned_kind .non [a0] = r := run_of rfl rfl rfl h
theorem en__law_cell {n : Nat} {a0 a1 : D} {r : Res} (h : WS (Prog.rt G (run G n) false) F__law_cell.body [.fz a0, .fz a1] (RI r)) : run G (n + 1) i__law_cell .non [a0, a1] = r := run_of rfl rfl rfl h
theorem en__law_pick {n : Nat} {a0 a1 a2 : D} {r : Res} (h : WS (Prog.rt G (run G n) false) F__law_pick.body [.fz a0, .fz a1, .fz a2, .no] (RI r)) : run G (n + 1) i__law_pick .non [a0, a1, a2] = r := run_of rfl rfl rfl h
theorem en__law_divisor {n : Nat} {a0 a1 : D} {r : Res} (h : WS (Prog.rt G (run G n) false) F__law_divisor.body [.fz a0, .fz a1] (RI r)) : run G (n + 1) i__law_divisor .non [a0, a1] = r := run_of rfl rfl rfl h
theorem en__law_made {n : Nat} {a0 a1 : D} {r : Res} (h : WS (Prog.rt G (run G n) false) F__law_made.body [.fz a0, .fz a1, .no] (RI r)) : run G (n + 1) i__law_made .non [a0, a1] = r := run_of rfl rfl rfl h
theorem en__law_frac {n : Nat} {a0 a1 : D} {r : Res} (h : WS (Prog.rt G (run G n) false) F__law_frac.body [.fz a0, .fz a1, .no] (RI r)) : run G (n + 1) i__law_frac .non [a0, a1] = r := run_of rfl rfl rfl h
theorem en__law_size {n : Nat} {a0 a1 : D} {r : Res} (h : WS (Prog.rt G (run G n) false) F__law_size.body [.fz a0, .fz a1, .no] (RI r)) : run G (n + 1) i__law_size .non [a0, a1] = r := run_of rfl rfl rfl h
theorem en__law_plus {n : Nat} {a0 a1 : D} {r : Res} (h : WS (Prog.rt G (run G n) false) F__law_plus.body [.fz a0, .fz a1] (RI r)) : run G (n + 1) i__law_plus .non [a0, a1] = r := run_of rfl rfl rfl h
theorem en__law_minus {n : Nat} {a0 a1 : D} {r : Res} (h : WS (Prog.rt G (run G n) false) F__law_minus.body [.fz a0, .fz a1] (RI r)) : run G (n + 1) i__law_minus .non [a0, a1] = r := run_of rfl rfl rfl h
theorem en__law_times {n : Nat} {a0 a1 : D} {r : Res} (h : WS (Prog.rt G (run G n) false) F__law_times.body [.fz a0, .fz a1] (RI r)) : run G (n + 1) i__law_times .non [a0, a1] = r := run_of rfl rfl rfl h
theorem en__law_over {n : Nat} {a0 a1 : D} {r : Res} (h : WS (Prog.rt G (run G n) false) F__law_over.body [.fz a0, .fz a1] (RI r)) : run G (n + 1) i__law_over .non [a0, a1] = r := run_of rfl rfl rfl h
theorem en__law_less {n : Nat} {a0 a1 : D} {r : Res} (h : WS (Prog.rt G (run G n) false) F__law_less.body [.fz a0, .fz a1] (RI r)) : run G (n + 1) i__law_less .non [a0, a1] = r := run_of rfl rfl rfl h
theorem en__law_kind {n : Nat} {a0 a1 : D} {r : Res} (h : WS (Prog.rt G (run G n) false) F__law_kind.body [.fz a0, .fz a1] (RI r)) : run G (n + 1) i__law_kind .non [a0, a1] = r := run_of rfl rfl rfl h
theorem en__law_eased {n : Nat} {a0 a1 : D} {r : Res} (h : WS (Prog.rt G (run G n) false) F__law_eased.body [.fz a0, .fz a1, .no, .no] (RI r)) : run G (n + 1) i__law_eased .non [a0, a1] = r := run_of rfl rfl rfl h
theorem en__law_is_refused {n : Nat} {a0 : D} {r : Res} (h : WS (Prog.rt G (run G n) false) F__law_is_refused.body [.fz a0, .no, .no] (RI r)) : run G (n + 1) i__law_is_refused .non [a0] = r := run_of rfl rfl rfl h
theorem en_law {n : Nat} {a0 : D} {r : Res} (h : WS (Prog.rt G (run G n) false) F_law.body [.fz a0, .no, .no, .no, .no, .no, .no, .no, .no, .no, .no, .no] (RI r)) : run G (n + 1) i_law .non [a0] = r := run_of rfl rfl rfl h
theorem gl_KINDS {call : Nat → D → List D → Res} {mt : Bool} {k : D → Prop} : OV ((Prog.rt G call mt).glob 0) k = k (.tup [.str "even", .str "in", .str "out", .str "both", .str "hold", .str "jump"]) := rfl
theorem gl_TURNED {call : Nat → D → List D → Res} {mt : Bool} {k : D → Prop} : OV ((Prog.rt G call mt).glob 1) k = k (turnD) := rfl
theorem gl_NONE {call : Nat → D → List D → Res} {mt : Bool} {k : D → Prop} : OV ((Prog.rt G call mt).glob 2) k = k (fr 0) := rfl
theorem gl_ALL {call : Nat → D → List D → Res} {mt : Bool} {k : D → Prop} : OV ((Prog.rt G call mt).glob 3) k = k (fr 1) := rfl
theorem cv_tk0_0 {call : Nat → D → List D → Res} {ss : List Ps} {Q : Flow → Prop} {ρ : Env} {m k : Nat} : TK (Prog.rt G call false) 0 m k ss Q (.exn 0 ρ) = SX k (.fz (.exc 0)) ρ fun ρ => SX m .no ρ fun ρ => WS (Prog.rt G call false) ss ρ Q := tk_exnn rfl
theorem cv_tk1_1 {call : Nat → D → List D → Res} {ss : List Ps} {Q : Flow → Prop} {ρ : Env} {m k : Nat} : TK (Prog.rt G call false) 1 m k ss Q (.exn 1 ρ) = SX k (.fz (.exc 1)) ρ fun ρ => SX m .no ρ fun ρ => WS (Prog.rt G call false) ss ρ Q := tk_exnn rfl
theorem cv_tk1_0 {call : Nat → D → List D → Res} {ss : List Ps} {Q : Flow → Prop} {ρ : Env} {m k : Nat} : TK (Prog.rt G call false) 0 m k ss Q (.exn 1 ρ) = SX k (.fz (.exc 1)) ρ fun ρ => SX m .no ρ fun ρ => WS (Prog.rt G call false) ss ρ Q := tk_exnn rfl
theorem cv_tk2_2 {call : Nat → D → List D → Res} {ss : List Ps} {Q : Flow → Prop} {ρ : Env} {m k : Nat} : TK (Prog.rt G call false) 2 m k ss Q (.exn 2 ρ) = SX k (.fz (.exc 2)) ρ fun ρ => SX m .no ρ fun ρ => WS (Prog.rt G call false) ss ρ Q := tk_exnn rfl
theorem cv_tk2_0 {call : Nat → D → List D → Res} {ss : List Ps} {Q : Flow → Prop} {ρ : Env} {m k : Nat} : TK (Prog.rt G call false) 0 m k ss Q (.exn 2 ρ) = SX k (.fz (.exc 2)) ρ fun ρ => SX m .no ρ fun ρ => WS (Prog.rt G call false) ss ρ Q := tk_exnn rfl
end Gk11
end

section
open GW in
local macro_rules | `(tactic| walk_at "ev") => `(tactic| simp only [↓we_int, ↓we_bl, ↓we_non, ↓we_str, ↓we_tup, ↓we_lst, ↓wl_nil, ↓wl_cons, ↓we_bin, ↓we_cmp, ↓we_chain, ↓we_ix, ↓we_neg, ↓we_nt, ↓we_ife, ↓we_conj, ↓we_disj, ↓wa_nil, ↓wo_nil, ↓wa_cons, ↓wo_cons, ↓we_call, ↓we_bi, ↓we_isi, ↓we_rev, ↓we_sl, ↓we_mt, ↓we_bop, ↓we_rng, ↓we_zip, ↓we_enum, ↓we_gix, ↓we_glo, ↓ws_nil, ↓ws_set, ↓ws_exp, ↓ws_ret, ↓ws_retN, ↓ws_raise, ↓ws_pass, ↓ws_asgT, ↓ws_par, ↓ws_ite, ↓ws_try, ↓ws_whl, ↓th_nx, ↓th_rt, ↓th_exn, ↓th_bk, ↓th_ct, ↓tk_nx, ↓tk_rt, ↓nf_f, ↓nf_l, ↓nf_i, ↓nf_b, ↓nf_t, ↓nf_n, ↓nf_s, ↓nf_x, ↓br_t, ↓br_f, ↓br_n, ↓br_d, ↓ov_s, ↓cw_o, ↓cw_e, ↓wv0, ↓wo0, ↓wm0, ↓wn0, ↓se0f, ↓se0o, ↓sx0, ↓pk0f, ↓pk0o, ↓po0, ↓wv1, ↓wo1, ↓wm1, ↓wn1, ↓se1f, ↓se1o, ↓sx1, ↓pk1f, ↓pk1o, ↓po1, ↓wv2, ↓wo2, ↓wm2, ↓wn2, ↓se2f, ↓se2o, ↓sx2, ↓pk2f, ↓pk2o, ↓po2, ↓wv3, ↓wo3, ↓wm3, ↓wn3, ↓se3f, ↓se3o, ↓sx3, ↓pk3f, ↓pk3o, ↓po3, ↓wv4, ↓wo4, ↓wm4, ↓wn4, ↓se4f, ↓se4o, ↓sx4, ↓pk4f, ↓pk4o, ↓po4, ↓wv5, ↓wo5, ↓wm5, ↓wn5, ↓se5f, ↓se5o, ↓sx5, ↓pk5f, ↓pk5o, ↓po5, ↓wv6, ↓wo6, ↓wm6, ↓wn6, ↓se6f, ↓se6o, ↓sx6, ↓pk6f, ↓pk6o, ↓po6, ↓wv7, ↓wo7, ↓wm7, ↓wn7, ↓se7f, ↓se7o, ↓sx7, ↓pk7f, ↓pk7o, ↓po7, ↓wv8, ↓wo8, ↓wm8, ↓wn8, ↓se8f, ↓se8o, ↓sx8, ↓pk8f, ↓pk8o, ↓po8, ↓wv9, ↓wo9, ↓wm9, ↓wn9, ↓se9f, ↓se9o, ↓sx9, ↓pk9f, ↓pk9o, ↓po9, ↓wv10, ↓wo10, ↓wm10, ↓wn10, ↓se10f, ↓se10o, ↓sx10, ↓pk10f, ↓pk10o, ↓po10, ↓wv11, ↓wo11, ↓wm11, ↓wn11, ↓se11f, ↓se11o, ↓sx11, ↓pk11f, ↓pk11o, ↓po11, ↓wv12, ↓wo12, ↓wm12, ↓wn12, ↓se12f, ↓se12o, ↓sx12, ↓pk12f, ↓pk12o, ↓po12, ↓wv13, ↓wo13, ↓wm13, ↓wn13, ↓se13f, ↓se13o, ↓sx13, ↓pk13f, ↓pk13o, ↓po13, ↓wv14, ↓wo14, ↓wm14, ↓wn14, ↓se14f, ↓se14o, ↓sx14, ↓pk14f, ↓pk14o, ↓po14, ↓wv15, ↓wo15, ↓wm15, ↓wn15, ↓se15f, ↓se15o, ↓sx15, ↓pk15f, ↓pk15o, ↓po15, ↓wv16, ↓wo16, ↓wm16, ↓wn16, ↓se16f, ↓se16o, ↓sx16, ↓pk16f, ↓pk16o, ↓po16, ↓wv17, ↓wo17, ↓wm17, ↓wn17, ↓se17f, ↓se17o, ↓sx17, ↓pk17f, ↓pk17o, ↓po17, ↓wv18, ↓wo18, ↓wm18, ↓wn18, ↓se18f, ↓se18o, ↓sx18, ↓pk18f, ↓pk18o, ↓po18, ↓wv19, ↓wo19, ↓wm19, ↓wn19, ↓se19f, ↓se19o, ↓sx19, ↓pk19f, ↓pk19o, ↓po19, ↓wv20, ↓wo20, ↓wm20, ↓wn20, ↓se20f, ↓se20o, ↓sx20, ↓pk20f, ↓pk20o, ↓po20, ↓wv21, ↓wo21, ↓wm21, ↓wn21, ↓se21f, ↓se21o, ↓sx21, ↓pk21f, ↓pk21o, ↓po21, ↓wv22, ↓wo22, ↓wm22, ↓wn22, ↓se22f, ↓se22o, ↓sx22, ↓pk22f, ↓pk22o, ↓po22, ↓wv23, ↓wo23, ↓wm23, ↓wn23, ↓se23f, ↓se23o, ↓sx23, ↓pk23f, ↓pk23o, ↓po23, ↓wv24, ↓wo24, ↓wm24, ↓wn24, ↓se24f, ↓se24o, ↓sx24, ↓pk24f, ↓pk24o, ↓po24, ↓wv25, ↓wo25, ↓wm25, ↓wn25, ↓se25f, ↓se25o, ↓sx25, ↓pk25f, ↓pk25o, ↓po25, ↓ses_n, ↓ses_c, ↓sep_n, ↓sep_c, ↓ws_appn, ↓ws_extn, ↓b_add, ↓b_addl, ↓b_addt, ↓b_sub, ↓b_mul, ↓b_fdiv, ↓b_mod, ↓b_pow, ↓c_lt, ↓c_le, ↓c_gt, ↓c_ge, ↓c_eq, ↓c_ne, ↓is_n, ↓isn_n, ↓is_b, ↓isn_b, ↓is_i, ↓isn_i, ↓is_s, ↓isn_s, ↓is_t, ↓isn_t, ↓is_l, ↓isn_l, ↓is_x, ↓isn_x, ↓isn_bb, ↓b_mult, ↓is_bb, ↓ix_tup0, ↓ix_lst0, ↓ix_tup1, ↓ix_lst1, ↓ix_tup2, ↓ix_lst2, ↓ix_tup3, ↓ix_lst3, ↓ix_tup4, ↓ix_lst4, ↓ix_tup5, ↓ix_lst5, ↓ix_tup6, ↓ix_lst6, ↓ix_tup7, ↓ix_lst7, ↓ix_tup8, ↓ix_lst8, ↓ix_tup9, ↓ix_lst9, ↓ix_tup10, ↓ix_lst10, ↓ix_tup11, ↓ix_lst11, ↓ix_tup12, ↓ix_lst12, ↓ix_tup13, ↓ix_lst13, ↓ix_tup14, ↓ix_lst14, ↓ix_tup15, ↓ix_lst15, ↓ng, ↓up_t, ↓up_l, ↓it_t, ↓it_l, ↓ls_l, ↓pt_n, ↓pt_i, ↓rg1, ↓rg2, ↓bi_lenl, ↓bi_lent, ↓bi_abs, ↓bi_lil, ↓bi_lit, ↓bi_tul, ↓bi_tut, ↓rv_l, ↓ii_non_int, ↓ii_non_bool, ↓ii_non_str, ↓ii_non_tuple, ↓ii_non_list, ↓ii_bl_int, ↓ii_bl_bool, ↓ii_bl_str, ↓ii_bl_tuple, ↓ii_bl_list, ↓ii_int_int, ↓ii_int_bool, ↓ii_int_str, ↓ii_int_tuple, ↓ii_int_list, ↓ii_str_int, ↓ii_str_bool, ↓ii_str_str, ↓ii_str_tuple, ↓ii_str_list, ↓ii_tup_int, ↓ii_tup_bool, ↓ii_tup_str, ↓ii_tup_tuple, ↓ii_tup_list, ↓ii_lst_int, ↓ii_lst_bool, ↓ii_lst_str, ↓ii_lst_tuple, ↓ii_lst_list, ↓nf_fr, ↓ix_fr0, ↓ix_fr1, ↓ii_fr_t, ↓len_fr, ↓c_eqfr, ↓c_nefr, ↓ri_rt, ↓ri_nx, ↓ri_ex, ↓ri_rx, ↓ri_xr, ↓gd_nx, ↓gd_rt, ↓gd_ex, ↓ok_rt, ↓ws_forW, ↓ws_brk, ↓ws_cont, ↓lq_nx, ↓lq_ct, ↓lq_bk, ↓lq_rt, ↓lq_exn, ↓iq_nx, ↓iq_ct, ↓iq_bk, ↓iq_rt, ↓iq_exn, ↓st_n, ↓st_t, ↓sts_n, ↓sts_c, ↓we_lc, ↓now_n, ↓now_c, ↓gs_0, ↓gs_s, ↓io_f, ↓io_n, ↓wp_n, ↓wp_c, ↓ck_even, ↓cn_even, ↓ck_in, ↓cn_in, ↓ck_out, ↓cn_out, ↓ck_both, ↓cn_both, ↓ck_hold, ↓cn_hold, ↓ck_jump, ↓cn_jump, ↓ck_kept, ↓cn_kept, ↓ci_hj, ↓cj_hj, ↓ci_bk, ↓cj_bk, ↓ci_kinds, ↓cj_kinds, ↓gx_turn, ↓up_fr, ↓ok_i, ↓ok_ii, ↓turn_turn, ↓sl_t, ↓sl_l, ↓cut_h1, ↓cut_l1, ↓cut_h2, ↓cut_l2, ↓cut_h3, ↓cut_l3, ↓cut_h4, ↓cut_l4, ↓cut_h5, ↓cut_l5, ↓cut_2_4, ↓r_nn, ↓Gk11.gl_KINDS, ↓Gk11.gl_TURNED, ↓Gk11.gl_NONE, ↓Gk11.gl_ALL, decide_eq_true_eq, decide_eq_false_iff_not, Bool.not_eq_true', Bool.not_eq_false', true_and, and_true, and_self, true_implies, false_implies, implies_true, forall_const, not_true_eq_false, not_false_eq_true, Bool.not_true, Bool.not_false, decide_true, decide_false, reduceCtorEq, List.cons_append, List.nil_append, List.append_assoc, not_false_iff, eq_self, Tg.slots])
open GW in
local macro_rules | `(tactic| walk_at "e1") => `(tactic| simp (maxSteps := 10000000) (disch := (first | assumption | omega | decide)) only [↓Gk11.gl_KINDS, ↓Gk11.gl_TURNED, ↓Gk11.gl_NONE, ↓Gk11.gl_ALL, ↓Gk11.cv_tk0_0, ↓Gk11.cv_tk1_1, ↓Gk11.cv_tk1_0, ↓Gk11.cv_tk2_2, ↓Gk11.cv_tk2_0, ↓we_int, ↓we_bl, ↓we_non, ↓we_str, ↓we_tup, ↓we_lst, ↓wl_nil, ↓wl_cons, ↓we_bin, ↓we_cmp, ↓we_chain, ↓we_ix, ↓we_neg, ↓we_nt, ↓we_ife, ↓we_conj, ↓we_disj, ↓wa_nil, ↓wo_nil, ↓wa_cons, ↓wo_cons, ↓we_call, ↓we_bi, ↓we_isi, ↓we_rev, ↓we_sl, ↓we_mt, ↓we_bop, ↓we_rng, ↓we_zip, ↓we_enum, ↓we_gix, ↓we_glo, ↓ws_nil, ↓ws_set, ↓ws_exp, ↓ws_ret, ↓ws_retN, ↓ws_raise, ↓ws_pass, ↓ws_asgT, ↓ws_par, ↓ws_ite, ↓ws_try, ↓ws_whl, ↓th_nx, ↓th_rt, ↓th_exn, ↓th_bk, ↓th_ct, ↓tk_nx, ↓tk_rt, ↓nf_f, ↓nf_l, ↓nf_i, ↓nf_b, ↓nf_t, ↓nf_n, ↓nf_s, ↓nf_x, ↓br_t, ↓br_f, ↓br_n, ↓ov_s, ↓cw_o, ↓cw_e, ↓wv0, ↓wo0, ↓wm0, ↓wn0, ↓se0f, ↓se0o, ↓sx0, ↓pk0f, ↓pk0o, ↓po0, ↓wv1, ↓wo1, ↓wm1, ↓wn1, ↓se1f, ↓se1o, ↓sx1, ↓pk1f, ↓pk1o, ↓po1, ↓wv2, ↓wo2, ↓wm2, ↓wn2, ↓se2f, ↓se2o, ↓sx2, ↓pk2f, ↓pk2o, ↓po2, ↓wv3, ↓wo3, ↓wm3, ↓wn3, ↓se3f, ↓se3o, ↓sx3, ↓pk3f, ↓pk3o, ↓po3, ↓wv4, ↓wo4, ↓wm4, ↓wn4, ↓se4f, ↓se4o, ↓sx4, ↓pk4f, ↓pk4o, ↓po4, ↓wv5, ↓wo5, ↓wm5, ↓wn5, ↓se5f, ↓se5o, ↓sx5, ↓pk5f, ↓pk5o, ↓po5, ↓wv6, ↓wo6, ↓wm6, ↓wn6, ↓se6f, ↓se6o, ↓sx6, ↓pk6f, ↓pk6o, ↓po6, ↓wv7, ↓wo7, ↓wm7, ↓wn7, ↓se7f, ↓se7o, ↓sx7, ↓pk7f, ↓pk7o, ↓po7, ↓wv8, ↓wo8, ↓wm8, ↓wn8, ↓se8f, ↓se8o, ↓sx8, ↓pk8f, ↓pk8o, ↓po8, ↓wv9, ↓wo9, ↓wm9, ↓wn9, ↓se9f, ↓se9o, ↓sx9, ↓pk9f, ↓pk9o, ↓po9, ↓wv10, ↓wo10, ↓wm10, ↓wn10, ↓se10f, ↓se10o, ↓sx10, ↓pk10f, ↓pk10o, ↓po10, ↓wv11, ↓wo11, ↓wm11, ↓wn11, ↓se11f, ↓se11o, ↓sx11, ↓pk11f, ↓pk11o, ↓po11, ↓wv12, ↓wo12, ↓wm12, ↓wn12, ↓se12f, ↓se12o, ↓sx12, ↓pk12f, ↓pk12o, ↓po12, ↓wv13, ↓wo13, ↓wm13, ↓wn13, ↓se13f, ↓se13o, ↓sx13, ↓pk13f, ↓pk13o, ↓po13, ↓wv14, ↓wo14, ↓wm14, ↓wn14, ↓se14f, ↓se14o, ↓sx14, ↓pk14f, ↓pk14o, ↓po14, ↓wv15, ↓wo15, ↓wm15, ↓wn15, ↓se15f, ↓se15o, ↓sx15, ↓pk15f, ↓pk15o, ↓po15, ↓wv16, ↓wo16, ↓wm16, ↓wn16, ↓se16f, ↓se16o, ↓sx16, ↓pk16f, ↓pk16o, ↓po16, ↓wv17, ↓wo17, ↓wm17, ↓wn17, ↓se17f, ↓se17o, ↓sx17, ↓pk17f, ↓pk17o, ↓po17, ↓wv18, ↓wo18, ↓wm18, ↓wn18, ↓se18f, ↓se18o, ↓sx18, ↓pk18f, ↓pk18o, ↓po18, ↓wv19, ↓wo19, ↓wm19, ↓wn19, ↓se19f, ↓se19o, ↓sx19, ↓pk19f, ↓pk19o, ↓po19, ↓wv20, ↓wo20, ↓wm20, ↓wn20, ↓se20f, ↓se20o, ↓sx20, ↓pk20f, ↓pk20o, ↓po20, ↓wv21, ↓wo21, ↓wm21, ↓wn21, ↓se21f, ↓se21o, ↓sx21, ↓pk21f, ↓pk21o, ↓po21, ↓wv22, ↓wo22, ↓wm22, ↓wn22, ↓se22f, ↓se22o, ↓sx22, ↓pk22f, ↓pk22o, ↓po22, ↓wv23, ↓wo23, ↓wm23, ↓wn23, ↓se23f, ↓se23o, ↓sx23, ↓pk23f, ↓pk23o, ↓po23, ↓wv24, ↓wo24, ↓wm24, ↓wn24, ↓se24f, ↓se24o, ↓sx24, ↓pk24f, ↓pk24o, ↓po24, ↓wv25, ↓wo25, ↓wm25, ↓wn25, ↓se25f, ↓se25o, ↓sx25, ↓pk25f, ↓pk25o, ↓po25, ↓ses_n, ↓ses_c, ↓sep_n, ↓sep_c, ↓ws_appn, ↓ws_extn, ↓b_add, ↓b_addl, ↓b_addt, ↓b_sub, ↓b_mul, ↓b_fdiv, ↓b_mod, ↓b_pow, ↓c_lt, ↓c_le, ↓c_gt, ↓c_ge, ↓c_eq, ↓c_ne, ↓is_n, ↓isn_n, ↓is_b, ↓isn_b, ↓is_i, ↓isn_i, ↓is_s, ↓isn_s, ↓is_t, ↓isn_t, ↓is_l, ↓isn_l, ↓is_x, ↓isn_x, ↓isn_bb, ↓b_mult, ↓is_bb, ↓ix_tup0, ↓ix_lst0, ↓ix_tup1, ↓ix_lst1, ↓ix_tup2, ↓ix_lst2, ↓ix_tup3, ↓ix_lst3, ↓ix_tup4, ↓ix_lst4, ↓ix_tup5, ↓ix_lst5, ↓ix_tup6, ↓ix_lst6, ↓ix_tup7, ↓ix_lst7, ↓ix_tup8, ↓ix_lst8, ↓ix_tup9, ↓ix_lst9, ↓ix_tup10, ↓ix_lst10, ↓ix_tup11, ↓ix_lst11, ↓ix_tup12, ↓ix_lst12, ↓ix_tup13, ↓ix_lst13, ↓ix_tup14, ↓ix_lst14, ↓ix_tup15, ↓ix_lst15, ↓ng, ↓up_t, ↓up_l, ↓it_t, ↓it_l, ↓ls_l, ↓pt_n, ↓pt_i, ↓rg1, ↓rg2, ↓bi_lenl, ↓bi_lent, ↓bi_abs, ↓bi_lil, ↓bi_lit, ↓bi_tul, ↓bi_tut, ↓rv_l, ↓ii_non_int, ↓ii_non_bool, ↓ii_non_str, ↓ii_non_tuple, ↓ii_non_list, ↓ii_bl_int, ↓ii_bl_bool, ↓ii_bl_str, ↓ii_bl_tuple, ↓ii_bl_list, ↓ii_int_int, ↓ii_int_bool, ↓ii_int_str, ↓ii_int_tuple, ↓ii_int_list, ↓ii_str_int, ↓ii_str_bool, ↓ii_str_str, ↓ii_str_tuple, ↓ii_str_list, ↓ii_tup_int, ↓ii_tup_bool, ↓ii_tup_str, ↓ii_tup_tuple, ↓ii_tup_list, ↓ii_lst_int, ↓ii_lst_bool, ↓ii_lst_str, ↓ii_lst_tuple, ↓ii_lst_list, ↓nf_fr, ↓ix_fr0, ↓ix_fr1, ↓ii_fr_t, ↓len_fr, ↓c_eqfr, ↓c_nefr, ↓c_eqfrs, ↓c_nefrs, ↓c_eqbs, ↓c_nebs, ↓ri_rt, ↓ri_nx, ↓ri_ex, ↓ri_rx, ↓ri_xr, ↓gd_nx, ↓gd_rt, ↓gd_ex, ↓ok_rt, ↓ws_forW, ↓ws_brk, ↓ws_cont, ↓lq_nx, ↓lq_ct, ↓lq_bk, ↓lq_rt, ↓lq_exn, ↓iq_nx, ↓iq_ct, ↓iq_bk, ↓iq_rt, ↓iq_exn, ↓st_n, ↓st_t, ↓sts_n, ↓sts_c, ↓we_lc, ↓now_n, ↓now_c, ↓gs_0, ↓gs_s, ↓io_f, ↓io_n, ↓wp_n, ↓wp_c, ↓ck_even, ↓cn_even, ↓ck_in, ↓cn_in, ↓ck_out, ↓cn_out, ↓ck_both, ↓cn_both, ↓ck_hold, ↓cn_hold, ↓ck_jump, ↓cn_jump, ↓ck_kept, ↓cn_kept, ↓ci_hj, ↓cj_hj, ↓ci_bk, ↓cj_bk, ↓ci_kinds, ↓cj_kinds, ↓gx_turn, ↓up_fr, ↓ok_i, ↓ok_ii, ↓turn_turn, ↓sl_t, ↓sl_l, ↓cut_h1, ↓cut_l1, ↓cut_h2, ↓cut_l2, ↓cut_h3, ↓cut_l3, ↓cut_h4, ↓cut_l4, ↓cut_h5, ↓cut_l5, ↓cut_2_4, ↓r_nn, ↓c_eqself, ↓c_neself, ↓br_T, ↓br_F, ↓lit01, ↓lit11, ↓lit21, ↓lit31, ↓lit41, ↓lit61, ↓lit12, ↓lit32, decide_eq_true_eq, decide_eq_false_iff_not, Bool.not_eq_true', Bool.not_eq_false', true_and, and_true, and_self, true_implies, false_implies, implies_true, forall_const, not_true_eq_false, not_false_eq_true, Bool.not_true, Bool.not_false, decide_true, decide_false, reduceCtorEq, List.cons_append, List.nil_append, List.append_assoc, not_false_iff, eq_self, Tg.slots])
open GW in
local macro_rules | `(tactic| walk_at "e2") => `(tactic| simp (maxSteps := 10000000) (disch := (first | assumption | omega | decide)) only [↓Gk11.gl_KINDS, ↓Gk11.gl_TURNED, ↓Gk11.gl_NONE, ↓Gk11.gl_ALL, ↓Gk11.cv_tk0_0, ↓Gk11.cv_tk1_1, ↓Gk11.cv_tk1_0, ↓Gk11.cv_tk2_2, ↓Gk11.cv_tk2_0, ↓we_int, ↓we_bl, ↓we_non, ↓we_str, ↓we_tup, ↓we_lst, ↓wl_nil, ↓wl_cons, ↓we_bin, ↓we_cmp, ↓we_chain, ↓we_ix, ↓we_neg, ↓we_nt, ↓we_ife, ↓we_conj, ↓we_disj, ↓wa_nil, ↓wo_nil, ↓wa_cons, ↓wo_cons, ↓we_call, ↓we_bi, ↓we_isi, ↓we_rev, ↓we_sl, ↓we_mt, ↓we_bop, ↓we_rng, ↓we_zip, ↓we_enum, ↓we_gix, ↓we_glo, ↓ws_nil, ↓ws_set, ↓ws_exp, ↓ws_ret, ↓ws_retN, ↓ws_raise, ↓ws_pass, ↓ws_asgT, ↓ws_par, ↓ws_ite, ↓ws_try, ↓ws_whl, ↓th_nx, ↓th_rt, ↓th_exn, ↓th_bk, ↓th_ct, ↓tk_nx, ↓tk_rt, ↓nf_f, ↓nf_l, ↓nf_i, ↓nf_b, ↓nf_t, ↓nf_n, ↓nf_s, ↓nf_x, ↓br_t, ↓br_f, ↓br_n, ↓br_d, ↓ov_s, ↓cw_o, ↓cw_e, ↓wv0, ↓wo0, ↓wm0, ↓wn0, ↓se0f, ↓se0o, ↓sx0, ↓pk0f, ↓pk0o, ↓po0, ↓wv1, ↓wo1, ↓wm1, ↓wn1, ↓se1f, ↓se1o, ↓sx1, ↓pk1f, ↓pk1o, ↓po1, ↓wv2, ↓wo2, ↓wm2, ↓wn2, ↓se2f, ↓se2o, ↓sx2, ↓pk2f, ↓pk2o, ↓po2, ↓wv3, ↓wo3, ↓wm3, ↓wn3, ↓se3f, ↓se3o, ↓sx3, ↓pk3f, ↓pk3o, ↓po3, ↓wv4, ↓wo4, ↓wm4, ↓wn4, ↓se4f, ↓se4o, ↓sx4, ↓pk4f, ↓pk4o, ↓po4, ↓wv5, ↓wo5, ↓wm5, ↓wn5, ↓se5f, ↓se5o, ↓sx5, ↓pk5f, ↓pk5o, ↓po5, ↓wv6, ↓wo6, ↓wm6, ↓wn6, ↓se6f, ↓se6o, ↓sx6, ↓pk6f, ↓pk6o, ↓po6, ↓wv7, ↓wo7, ↓wm7, ↓wn7, ↓se7f, ↓se7o, ↓sx7, ↓pk7f, ↓pk7o, ↓po7, ↓wv8, ↓wo8, ↓wm8, ↓wn8, ↓se8f, ↓se8o, ↓sx8, ↓pk8f, ↓pk8o, ↓po8, ↓wv9, ↓wo9, ↓wm9, ↓wn9, ↓se9f, ↓se9o, ↓sx9, ↓pk9f, ↓pk9o, ↓po9, ↓wv10, ↓wo10, ↓wm10, ↓wn10, ↓se10f, ↓se10o, ↓sx10, ↓pk10f, ↓pk10o, ↓po10, ↓wv11, ↓wo11, ↓wm11, ↓wn11, ↓se11f, ↓se11o, ↓sx11, ↓pk11f, ↓pk11o, ↓po11, ↓wv12, ↓wo12, ↓wm12, ↓wn12, ↓se12f, ↓se12o, ↓sx12, ↓pk12f, ↓pk12o, ↓po12, ↓wv13, ↓wo13, ↓wm13, ↓wn13, ↓se13f, ↓se13o, ↓sx13, ↓pk13f, ↓pk13o, ↓po13, ↓wv14, ↓wo14, ↓wm14, ↓wn14, ↓se14f, ↓se14o, ↓sx14, ↓pk14f, ↓pk14o, ↓po14, ↓wv15, ↓wo15, ↓wm15, ↓wn15, ↓se15f, ↓se15o, ↓sx15, ↓pk15f, ↓pk15o, ↓po15, ↓wv16, ↓wo16, ↓wm16, ↓wn16, ↓se16f, ↓se16o, ↓sx16, ↓pk16f, ↓pk16o, ↓po16, ↓wv17, ↓wo17, ↓wm17, ↓wn17, ↓se17f, ↓se17o, ↓sx17, ↓pk17f, ↓pk17o, ↓po17, ↓wv18, ↓wo18, ↓wm18, ↓wn18, ↓se18f, ↓se18o, ↓sx18, ↓pk18f, ↓pk18o, ↓po18, ↓wv19, ↓wo19, ↓wm19, ↓wn19, ↓se19f, ↓se19o, ↓sx19, ↓pk19f, ↓pk19o, ↓po19, ↓wv20, ↓wo20, ↓wm20, ↓wn20, ↓se20f, ↓se20o, ↓sx20, ↓pk20f, ↓pk20o, ↓po20, ↓wv21, ↓wo21, ↓wm21, ↓wn21, ↓se21f, ↓se21o, ↓sx21, ↓pk21f, ↓pk21o, ↓po21, ↓wv22, ↓wo22, ↓wm22, ↓wn22, ↓se22f, ↓se22o, ↓sx22, ↓pk22f, ↓pk22o, ↓po22, ↓wv23, ↓wo23, ↓wm23, ↓wn23, ↓se23f, ↓se23o, ↓sx23, ↓pk23f, ↓pk23o, ↓po23, ↓wv24, ↓wo24, ↓wm24, ↓wn24, ↓se24f, ↓se24o, ↓sx24, ↓pk24f, ↓pk24o, ↓po24, ↓wv25, ↓wo25, ↓wm25, ↓wn25, ↓se25f, ↓se25o, ↓sx25, ↓pk25f, ↓pk25o, ↓po25, ↓ses_n, ↓ses_c, ↓sep_n, ↓sep_c, ↓ws_appn, ↓ws_extn, ↓b_add, ↓b_addl, ↓b_addt, ↓b_sub, ↓b_mul, ↓b_fdiv, ↓b_mod, ↓b_pow, ↓c_lt, ↓c_le, ↓c_gt, ↓c_ge, ↓c_eq, ↓c_ne, ↓is_n, ↓isn_n, ↓is_b, ↓isn_b, ↓is_i, ↓isn_i, ↓is_s, ↓isn_s, ↓is_t, ↓isn_t, ↓is_l, ↓isn_l, ↓is_x, ↓isn_x, ↓isn_bb, ↓b_mult, ↓is_bb, ↓ix_tup0, ↓ix_lst0, ↓ix_tup1, ↓ix_lst1, ↓ix_tup2, ↓ix_lst2, ↓ix_tup3, ↓ix_lst3, ↓ix_tup4, ↓ix_lst4, ↓ix_tup5, ↓ix_lst5, ↓ix_tup6, ↓ix_lst6, ↓ix_tup7, ↓ix_lst7, ↓ix_tup8, ↓ix_lst8, ↓ix_tup9, ↓ix_lst9, ↓ix_tup10, ↓ix_lst10, ↓ix_tup11, ↓ix_lst11, ↓ix_tup12, ↓ix_lst12, ↓ix_tup13, ↓ix_lst13, ↓ix_tup14, ↓ix_lst14, ↓ix_tup15, ↓ix_lst15, ↓ng, ↓up_t, ↓up_l, ↓it_t, ↓it_l, ↓ls_l, ↓pt_n, ↓pt_i, ↓rg1, ↓rg2, ↓bi_lenl, ↓bi_lent, ↓bi_abs, ↓bi_lil, ↓bi_lit, ↓bi_tul, ↓bi_tut, ↓rv_l, ↓ii_non_int, ↓ii_non_bool, ↓ii_non_str, ↓ii_non_tuple, ↓ii_non_list, ↓ii_bl_int, ↓ii_bl_bool, ↓ii_bl_str, ↓ii_bl_tuple, ↓ii_bl_list, ↓ii_int_int, ↓ii_int_bool, ↓ii_int_str, ↓ii_int_tuple, ↓ii_int_list, ↓ii_str_int, ↓ii_str_bool, ↓ii_str_str, ↓ii_str_tuple, ↓ii_str_list, ↓ii_tup_int, ↓ii_tup_bool, ↓ii_tup_str, ↓ii_tup_tuple, ↓ii_tup_list, ↓ii_lst_int, ↓ii_lst_bool, ↓ii_lst_str, ↓ii_lst_tuple, ↓ii_lst_list, ↓nf_fr, ↓ix_fr0, ↓ix_fr1, ↓ii_fr_t, ↓len_fr, ↓c_eqfr, ↓c_nefr, ↓ri_rt, ↓ri_nx, ↓ri_ex, ↓ri_rx, ↓ri_xr, ↓gd_nx, ↓gd_rt, ↓gd_ex, ↓ok_rt, ↓ws_forW, ↓ws_brk, ↓ws_cont, ↓lq_nx, ↓lq_ct, ↓lq_bk, ↓lq_rt, ↓lq_exn, ↓iq_nx, ↓iq_ct, ↓iq_bk, ↓iq_rt, ↓iq_exn, ↓st_n, ↓st_t, ↓sts_n, ↓sts_c, ↓we_lc, ↓now_n, ↓now_c, ↓gs_0, ↓gs_s, ↓io_f, ↓io_n, ↓wp_n, ↓wp_c, ↓ck_even, ↓cn_even, ↓ck_in, ↓cn_in, ↓ck_out, ↓cn_out, ↓ck_both, ↓cn_both, ↓ck_hold, ↓cn_hold, ↓ck_jump, ↓cn_jump, ↓ck_kept, ↓cn_kept, ↓ci_hj, ↓cj_hj, ↓ci_bk, ↓cj_bk, ↓ci_kinds, ↓cj_kinds, ↓gx_turn, ↓up_fr, ↓ok_i, ↓ok_ii, ↓turn_turn, ↓sl_t, ↓sl_l, ↓cut_h1, ↓cut_l1, ↓cut_h2, ↓cut_l2, ↓cut_h3, ↓cut_l3, ↓cut_h4, ↓cut_l4, ↓cut_h5, ↓cut_l5, ↓cut_2_4, ↓r_nn, ↓lit01, ↓lit11, ↓lit21, ↓lit31, ↓lit41, ↓lit61, ↓lit12, ↓lit32, decide_eq_true_eq, decide_eq_false_iff_not, Bool.not_eq_true', Bool.not_eq_false', true_and, and_true, and_self, true_implies, false_implies, implies_true, forall_const, not_true_eq_false, not_false_eq_true, Bool.not_true, Bool.not_false, decide_true, decide_false, reduceCtorEq, List.cons_append, List.nil_append, List.append_assoc, not_false_iff, eq_self, Tg.slots])
open GW in
local macro_rules | `(tactic| walk_at "e1u") => `(tactic| simp (maxSteps := 10000000) (disch := (first | assumption | omega | decide)) only [↓Gk11.gl_KINDS, ↓Gk11.gl_TURNED, ↓Gk11.gl_NONE, ↓Gk11.gl_ALL, ↓Gk11.cv_tk0_0, ↓Gk11.cv_tk1_1, ↓Gk11.cv_tk1_0, ↓Gk11.cv_tk2_2, ↓Gk11.cv_tk2_0, ↓we_int, ↓we_bl, ↓we_non, ↓we_str, ↓we_tup, ↓we_lst, ↓wl_nil, ↓wl_cons, ↓we_bin, ↓we_cmp, ↓we_chain, ↓we_ix, ↓we_neg, ↓we_nt, ↓we_ife, ↓we_conj, ↓we_disj, ↓wa_nil, ↓wo_nil, ↓wa_cons, ↓wo_cons, ↓we_call, ↓we_bi, ↓we_isi, ↓we_rev, ↓we_sl, ↓we_mt, ↓we_bop, ↓we_rng, ↓we_zip, ↓we_enum, ↓we_gix, ↓we_glo, ↓ws_nil, ↓ws_set, ↓ws_exp, ↓ws_ret, ↓ws_retN, ↓ws_raise, ↓ws_pass, ↓ws_asgT, ↓ws_par, ↓ws_ite, ↓ws_try, ↓ws_whl, ↓th_nx, ↓th_rt, ↓th_exn, ↓th_bk, ↓th_ct, ↓tk_nx, ↓tk_rt, ↓nf_f, ↓nf_l, ↓nf_i, ↓nf_b, ↓nf_t, ↓nf_n, ↓nf_s, ↓nf_x, ↓br_t, ↓br_f, ↓br_n, ↓ov_s, ↓cw_o, ↓cw_e, ↓wv0, ↓wo0, ↓wm0, ↓wn0, ↓se0f, ↓se0o, ↓sx0, ↓pk0f, ↓pk0o, ↓po0, ↓wv1, ↓wo1, ↓wm1, ↓wn1, ↓se1f, ↓se1o, ↓sx1, ↓pk1f, ↓pk1o, ↓po1, ↓wv2, ↓wo2, ↓wm2, ↓wn2, ↓se2f, ↓se2o, ↓sx2, ↓pk2f, ↓pk2o, ↓po2, ↓wv3, ↓wo3, ↓wm3, ↓wn3, ↓se3f, ↓se3o, ↓sx3, ↓pk3f, ↓pk3o, ↓po3, ↓wv4, ↓wo4, ↓wm4, ↓wn4, ↓se4f, ↓se4o, ↓sx4, ↓pk4f, ↓pk4o, ↓po4, ↓wv5, ↓wo5, ↓wm5, ↓wn5, ↓se5f, ↓se5o, ↓sx5, ↓pk5f, ↓pk5o, ↓po5, ↓wv6, ↓wo6, ↓wm6, ↓wn6, ↓se6f, ↓se6o, ↓sx6, ↓pk6f, ↓pk6o, ↓po6, ↓wv7, ↓wo7, ↓wm7, ↓wn7, ↓se7f, ↓se7o, ↓sx7, ↓pk7f, ↓pk7o, ↓po7, ↓wv8, ↓wo8, ↓wm8, ↓wn8, ↓se8f, ↓se8o, ↓sx8, ↓pk8f, ↓pk8o, ↓po8, ↓wv9, ↓wo9, ↓wm9, ↓wn9, ↓se9f, ↓se9o, ↓sx9, ↓pk9f, ↓pk9o, ↓po9, ↓wv10, ↓wo10, ↓wm10, ↓wn10, ↓se10f, ↓se10o, ↓sx10, ↓pk10f, ↓pk10o, ↓po10, ↓wv11, ↓wo11, ↓wm11, ↓wn11, ↓se11f, ↓se11o, ↓sx11, ↓pk11f, ↓pk11o, ↓po11, ↓wv12, ↓wo12, ↓wm12, ↓wn12, ↓se12f, ↓se12o, ↓sx12, ↓pk12f, ↓pk12o, ↓po12, ↓wv13, ↓wo13, ↓wm13, ↓wn13, ↓se13f, ↓se13o, ↓sx13, ↓pk13f, ↓pk13o, ↓po13, ↓wv14, ↓wo14, ↓wm14, ↓wn14, ↓se14f, ↓se14o, ↓sx14, ↓pk14f, ↓pk14o, ↓po14, ↓wv15, ↓wo15, ↓wm15, ↓wn15, ↓se15f, ↓se15o, ↓sx15, ↓pk15f, ↓pk15o, ↓po15, ↓wv16, ↓wo16, ↓wm16, ↓wn16, ↓se16f, ↓se16o, ↓sx16, ↓pk16f, ↓pk16o, ↓po16, ↓wv17, ↓wo17, ↓wm17, ↓wn17, ↓se17f, ↓se17o, ↓sx17, ↓pk17f, ↓pk17o, ↓po17, ↓wv18, ↓wo18, ↓wm18, ↓wn18, ↓se18f, ↓se18o, ↓sx18, ↓pk18f, ↓pk18o, ↓po18, ↓wv19, ↓wo19, ↓wm19, ↓wn19, ↓se19f, ↓se19o, ↓sx19, ↓pk19f, ↓pk19o, ↓po19, ↓wv20, ↓wo20, ↓wm20, ↓wn20, ↓se20f, ↓se20o, ↓sx20, ↓pk20f, ↓pk20o, ↓po20, ↓wv21, ↓wo21, ↓wm21, ↓wn21, ↓se21f, ↓se21o, ↓sx21, ↓pk21f, ↓pk21o, ↓po21, ↓wv22, ↓wo22, ↓wm22, ↓wn22, ↓se22f, ↓se22o, ↓sx22, ↓pk22f, ↓pk22o, ↓po22, ↓wv23, ↓wo23, ↓wm23, ↓wn23, ↓se23f, ↓se23o, ↓sx23, ↓pk23f, ↓pk23o, ↓po23, ↓wv24, ↓wo24, ↓wm24, ↓wn24, ↓se24f, ↓se24o, ↓sx24, ↓pk24f, ↓pk24o, ↓po24, ↓wv25, ↓wo25, ↓wm25, ↓wn25, ↓se25f, ↓se25o, ↓sx25, ↓pk25f, ↓pk25o, ↓po25, ↓ses_n, ↓ses_c, ↓sep_n, ↓sep_c, ↓ws_appn, ↓ws_extn, ↓b_add, ↓b_addl, ↓b_addt, ↓b_sub, ↓b_mul, ↓b_fdiv, ↓b_mod, ↓b_pow, ↓c_lt, ↓c_le, ↓c_gt, ↓c_ge, ↓c_eq, ↓c_ne, ↓is_n, ↓isn_n, ↓is_b, ↓isn_b, ↓is_i, ↓isn_i, ↓is_s, ↓isn_s, ↓is_t, ↓isn_t, ↓is_l, ↓isn_l, ↓is_x, ↓isn_x, ↓isn_bb, ↓b_mult, ↓is_bb, ↓ix_tup0, ↓ix_lst0, ↓ix_tup1, ↓ix_lst1, ↓ix_tup2, ↓ix_lst2, ↓ix_tup3, ↓ix_lst3, ↓ix_tup4, ↓ix_lst4, ↓ix_tup5, ↓ix_lst5, ↓ix_tup6, ↓ix_lst6, ↓ix_tup7, ↓ix_lst7, ↓ix_tup8, ↓ix_lst8, ↓ix_tup9, ↓ix_lst9, ↓ix_tup10, ↓ix_lst10, ↓ix_tup11, ↓ix_lst11, ↓ix_tup12, ↓ix_lst12, ↓ix_tup13, ↓ix_lst13, ↓ix_tup14, ↓ix_lst14, ↓ix_tup15, ↓ix_lst15, ↓ng, ↓up_t, ↓up_l, ↓it_t, ↓it_l, ↓ls_l, ↓pt_n, ↓pt_i, ↓rg1, ↓rg2, ↓bi_lenl, ↓bi_lent, ↓bi_abs, ↓bi_lil, ↓bi_lit, ↓bi_tul, ↓bi_tut, ↓rv_l, ↓ii_non_int, ↓ii_non_bool, ↓ii_non_str, ↓ii_non_tuple, ↓ii_non_list, ↓ii_bl_int, ↓ii_bl_bool, ↓ii_bl_str, ↓ii_bl_tuple, ↓ii_bl_list, ↓ii_int_int, ↓ii_int_bool, ↓ii_int_str, ↓ii_int_tuple, ↓ii_int_list, ↓ii_str_int, ↓ii_str_bool, ↓ii_str_str, ↓ii_str_tuple, ↓ii_str_list, ↓ii_tup_int, ↓ii_tup_bool, ↓ii_tup_str, ↓ii_tup_tuple, ↓ii_tup_list, ↓ii_lst_int, ↓ii_lst_bool, ↓ii_lst_str, ↓ii_lst_tuple, ↓ii_lst_list, ↓nf_fr, ↓ix_fr0, ↓ix_fr1, ↓ii_fr_t, ↓len_fr, ↓c_eqfr, ↓c_nefr, ↓c_eqfrs, ↓c_nefrs, ↓c_eqbs, ↓c_nebs, ↓ri_rt, ↓ri_nx, ↓ri_ex, ↓ri_rx, ↓ri_xr, ↓gd_nx, ↓gd_rt, ↓gd_ex, ↓ok_rt, ↓ws_forW, ↓ws_brk, ↓ws_cont, ↓lq_nx, ↓lq_ct, ↓lq_bk, ↓lq_rt, ↓lq_exn, ↓iq_nx, ↓iq_ct, ↓iq_bk, ↓iq_rt, ↓iq_exn, ↓st_n, ↓st_t, ↓sts_n, ↓sts_c, ↓we_lc, ↓now_n, ↓now_c, ↓gs_0, ↓gs_s, ↓io_f, ↓io_n, ↓wp_n, ↓wp_c, ↓ck_even, ↓cn_even, ↓ck_in, ↓cn_in, ↓ck_out, ↓cn_out, ↓ck_both, ↓cn_both, ↓ck_hold, ↓cn_hold, ↓ck_jump, ↓cn_jump, ↓ck_kept, ↓cn_kept, ↓ci_hj, ↓cj_hj, ↓ci_bk, ↓cj_bk, ↓ci_kinds, ↓cj_kinds, ↓gx_turn, ↓up_fr, ↓ok_i, ↓ok_ii, ↓turn_turn, ↓sl_t, ↓sl_l, ↓cut_h1, ↓cut_l1, ↓cut_h2, ↓cut_l2, ↓cut_h3, ↓cut_l3, ↓cut_h4, ↓cut_l4, ↓cut_h5, ↓cut_l5, ↓cut_2_4, ↓r_nn, ↓c_eqself, ↓c_neself, ↓br_T, ↓br_F, ↓lit01, ↓lit11, ↓lit21, ↓lit31, ↓lit41, ↓lit61, ↓lit12, ↓lit32, ↓wf_nil, ↓wf_cons, ↓ov_lcf, ↓ov_col_n, ↓ov_col_c, ↓optL_n, ↓optL_s, decide_eq_true_eq, decide_eq_false_iff_not, Bool.not_eq_true', Bool.not_eq_false', true_and, and_true, and_self, true_implies, false_implies, implies_true, forall_const, not_true_eq_false, not_false_eq_true, Bool.not_true, Bool.not_false, decide_true, decide_false, reduceCtorEq, List.cons_append, List.nil_append, List.append_assoc, not_false_iff, eq_self, Tg.slots])
open GW in
local macro_rules | `(tactic| walk_at "e2u") => `(tactic| simp (maxSteps := 10000000) (disch := (first | assumption | omega | decide)) only [↓Gk11.gl_KINDS, ↓Gk11.gl_TURNED, ↓Gk11.gl_NONE, ↓Gk11.gl_ALL, ↓Gk11.cv_tk0_0, ↓Gk11.cv_tk1_1, ↓Gk11.cv_tk1_0, ↓Gk11.cv_tk2_2, ↓Gk11.cv_tk2_0, ↓we_int, ↓we_bl, ↓we_non, ↓we_str, ↓we_tup, ↓we_lst, ↓wl_nil, ↓wl_cons, ↓we_bin, ↓we_cmp, ↓we_chain, ↓we_ix, ↓we_neg, ↓we_nt, ↓we_ife, ↓we_conj, ↓we_disj, ↓wa_nil, ↓wo_nil, ↓wa_cons, ↓wo_cons, ↓we_call, ↓we_bi, ↓we_isi, ↓we_rev, ↓we_sl, ↓we_mt, ↓we_bop, ↓we_rng, ↓we_zip, ↓we_enum, ↓we_gix, ↓we_glo, ↓ws_nil, ↓ws_set, ↓ws_exp, ↓ws_ret, ↓ws_retN, ↓ws_raise, ↓ws_pass, ↓ws_asgT, ↓ws_par, ↓ws_ite, ↓ws_try, ↓ws_whl, ↓th_nx, ↓th_rt, ↓th_exn, ↓th_bk, ↓th_ct, ↓tk_nx, ↓tk_rt, ↓nf_f, ↓nf_l, ↓nf_i, ↓nf_b, ↓nf_t, ↓nf_n, ↓nf_s, ↓nf_x, ↓br_t, ↓br_f, ↓br_n, ↓br_d, ↓ov_s, ↓cw_o, ↓cw_e, ↓wv0, ↓wo0, ↓wm0, ↓wn0, ↓se0f, ↓se0o, ↓sx0, ↓pk0f, ↓pk0o, ↓po0, ↓wv1, ↓wo1, ↓wm1, ↓wn1, ↓se1f, ↓se1o, ↓sx1, ↓pk1f, ↓pk1o, ↓po1, ↓wv2, ↓wo2, ↓wm2, ↓wn2, ↓se2f, ↓se2o, ↓sx2, ↓pk2f, ↓pk2o, ↓po2, ↓wv3, ↓wo3, ↓wm3, ↓wn3, ↓se3f, ↓se3o, ↓sx3, ↓pk3f, ↓pk3o, ↓po3, ↓wv4, ↓wo4, ↓wm4, ↓wn4, ↓se4f, ↓se4o, ↓sx4, ↓pk4f, ↓pk4o, ↓po4, ↓wv5, ↓wo5, ↓wm5, ↓wn5, ↓se5f, ↓se5o, ↓sx5, ↓pk5f, ↓pk5o, ↓po5, ↓wv6, ↓wo6, ↓wm6, ↓wn6, ↓se6f, ↓se6o, ↓sx6, ↓pk6f, ↓pk6o, ↓po6, ↓wv7, ↓wo7, ↓wm7, ↓wn7, ↓se7f, ↓se7o, ↓sx7, ↓pk7f, ↓pk7o, ↓po7, ↓wv8, ↓wo8, ↓wm8, ↓wn8, ↓se8f, ↓se8o, ↓sx8, ↓pk8f, ↓pk8o, ↓po8, ↓wv9, ↓wo9, ↓wm9, ↓wn9, ↓se9f, ↓se9o, ↓sx9, ↓pk9f, ↓pk9o, ↓po9, ↓wv10, ↓wo10, ↓wm10, ↓wn10, ↓se10f, ↓se10o, ↓sx10, ↓pk10f, ↓pk10o, ↓po10, ↓wv11, ↓wo11, ↓wm11, ↓wn11, ↓se11f, ↓se11o, ↓sx11, ↓pk11f, ↓pk11o, ↓po11, ↓wv12, ↓wo12, ↓wm12, ↓wn12, ↓se12f, ↓se12o, ↓sx12, ↓pk12f, ↓pk12o, ↓po12, ↓wv13, ↓wo13, ↓wm13, ↓wn13, ↓se13f, ↓se13o, ↓sx13, ↓pk13f, ↓pk13o, ↓po13, ↓wv14, ↓wo14, ↓wm14, ↓wn14, ↓se14f, ↓se14o, ↓sx14, ↓pk14f, ↓pk14o, ↓po14, ↓wv15, ↓wo15, ↓wm15, ↓wn15, ↓se15f, ↓se15o, ↓sx15, ↓pk15f, ↓pk15o, ↓po15, ↓wv16, ↓wo16, ↓wm16, ↓wn16, ↓se16f, ↓se16o, ↓sx16, ↓pk16f, ↓pk16o, ↓po16, ↓wv17, ↓wo17, ↓wm17, ↓wn17, ↓se17f, ↓se17o, ↓sx17, ↓pk17f, ↓pk17o, ↓po17, ↓wv18, ↓wo18, ↓wm18, ↓wn18, ↓se18f, ↓se18o, ↓sx18, ↓pk18f, ↓pk18o, ↓po18, ↓wv19, ↓wo19, ↓wm19, ↓wn19, ↓se19f, ↓se19o, ↓sx19, ↓pk19f, ↓pk19o, ↓po19, ↓wv20, ↓wo20, ↓wm20, ↓wn20, ↓se20f, ↓se20o, ↓sx20, ↓pk20f, ↓pk20o, ↓po20, ↓wv21, ↓wo21, ↓wm21, ↓wn21, ↓se21f, ↓se21o, ↓sx21, ↓pk21f, ↓pk21o, ↓po21, ↓wv22, ↓wo22, ↓wm22, ↓wn22, ↓se22f, ↓se22o, ↓sx22, ↓pk22f, ↓pk22o, ↓po22, ↓wv23, ↓wo23, ↓wm23, ↓wn23, ↓se23f, ↓se23o, ↓sx23, ↓pk23f, ↓pk23o, ↓po23, ↓wv24, ↓wo24, ↓wm24, ↓wn24, ↓se24f, ↓se24o, ↓sx24, ↓pk24f, ↓pk24o, ↓po24, ↓wv25, ↓wo25, ↓wm25, ↓wn25, ↓se25f, ↓se25o, ↓sx25, ↓pk25f, ↓pk25o, ↓po25, ↓ses_n, ↓ses_c, ↓sep_n, ↓sep_c, ↓ws_appn, ↓ws_extn, ↓b_add, ↓b_addl, ↓b_addt, ↓b_sub, ↓b_mul, ↓b_fdiv, ↓b_mod, ↓b_pow, ↓c_lt, ↓c_le, ↓c_gt, ↓c_ge, ↓c_eq, ↓c_ne, ↓is_n, ↓isn_n, ↓is_b, ↓isn_b, ↓is_i, ↓isn_i, ↓is_s, ↓isn_s, ↓is_t, ↓isn_t, ↓is_l, ↓isn_l, ↓is_x, ↓isn_x, ↓isn_bb, ↓b_mult, ↓is_bb, ↓ix_tup0, ↓ix_lst0, ↓ix_tup1, ↓ix_lst1, ↓ix_tup2, ↓ix_lst2, ↓ix_tup3, ↓ix_lst3, ↓ix_tup4, ↓ix_lst4, ↓ix_tup5, ↓ix_lst5, ↓ix_tup6, ↓ix_lst6, ↓ix_tup7, ↓ix_lst7, ↓ix_tup8, ↓ix_lst8, ↓ix_tup9, ↓ix_lst9, ↓ix_tup10, ↓ix_lst10, ↓ix_tup11, ↓ix_lst11, ↓ix_tup12, ↓ix_lst12, ↓ix_tup13, ↓ix_lst13, ↓ix_tup14, ↓ix_lst14, ↓ix_tup15, ↓ix_lst15, ↓ng, ↓up_t, ↓up_l, ↓it_t, ↓it_l, ↓ls_l, ↓pt_n, ↓pt_i, ↓rg1, ↓rg2, ↓bi_lenl, ↓bi_lent, ↓bi_abs, ↓bi_lil, ↓bi_lit, ↓bi_tul, ↓bi_tut, ↓rv_l, ↓ii_non_int, ↓ii_non_bool, ↓ii_non_str, ↓ii_non_tuple, ↓ii_non_list, ↓ii_bl_int, ↓ii_bl_bool, ↓ii_bl_str, ↓ii_bl_tuple, ↓ii_bl_list, ↓ii_int_int, ↓ii_int_bool, ↓ii_int_str, ↓ii_int_tuple, ↓ii_int_list, ↓ii_str_int, ↓ii_str_bool, ↓ii_str_str, ↓ii_str_tuple, ↓ii_str_list, ↓ii_tup_int, ↓ii_tup_bool, ↓ii_tup_str, ↓ii_tup_tuple, ↓ii_tup_list, ↓ii_lst_int, ↓ii_lst_bool, ↓ii_lst_str, ↓ii_lst_tuple, ↓ii_lst_list, ↓nf_fr, ↓ix_fr0, ↓ix_fr1, ↓ii_fr_t, ↓len_fr, ↓c_eqfr, ↓c_nefr, ↓ri_rt, ↓ri_nx, ↓ri_ex, ↓ri_rx, ↓ri_xr, ↓gd_nx, ↓gd_rt, ↓gd_ex, ↓ok_rt, ↓ws_forW, ↓ws_brk, ↓ws_cont, ↓lq_nx, ↓lq_ct, ↓lq_bk, ↓lq_rt, ↓lq_exn, ↓iq_nx, ↓iq_ct, ↓iq_bk, ↓iq_rt, ↓iq_exn, ↓st_n, ↓st_t, ↓sts_n, ↓sts_c, ↓we_lc, ↓now_n, ↓now_c, ↓gs_0, ↓gs_s, ↓io_f, ↓io_n, ↓wp_n, ↓wp_c, ↓ck_even, ↓cn_even, ↓ck_in, ↓cn_in, ↓ck_out, ↓cn_out, ↓ck_both, ↓cn_both, ↓ck_hold, ↓cn_hold, ↓ck_jump, ↓cn_jump, ↓ck_kept, ↓cn_kept, ↓ci_hj, ↓cj_hj, ↓ci_bk, ↓cj_bk, ↓ci_kinds, ↓cj_kinds, ↓gx_turn, ↓up_fr, ↓ok_i, ↓ok_ii, ↓turn_turn, ↓sl_t, ↓sl_l, ↓cut_h1, ↓cut_l1, ↓cut_h2, ↓cut_l2, ↓cut_h3, ↓cut_l3, ↓cut_h4, ↓cut_l4, ↓cut_h5, ↓cut_l5, ↓cut_2_4, ↓r_nn, ↓lit01, ↓lit11, ↓lit21, ↓lit31, ↓lit41, ↓lit61, ↓lit12, ↓lit32, ↓wf_nil, ↓wf_cons, ↓ov_lcf, ↓ov_col_n, ↓ov_col_c, ↓optL_n, ↓optL_s, decide_eq_true_eq, decide_eq_false_iff_not, Bool.not_eq_true', Bool.not_eq_false', true_and, and_true, and_self, true_implies, false_implies, implies_true, forall_const, not_true_eq_false, not_false_eq_true, Bool.not_true, Bool.not_false, decide_true, decide_false, reduceCtorEq, List.cons_append, List.nil_append, List.append_assoc, not_false_iff, eq_self, Tg.slots])
namespace Gk11
open GW
section
variable {n : Nat} {ρ : Env} {K : D → Bool → Env → Prop} {X : Nat → Env → Prop}
theorem rn_divisor (hn : 1 ≤ n) (a b : Int) (hb : b.natAbs < 2 ^ 20000) : run G n i_divisor .non [.int a, .int b] = .ok (.int (Int.gcd a b)) false .non := by
  obtain ⟨n, rfl⟩ : ∃ m, n = m + 1 := ⟨n - 1, by omega⟩
  refine en_divisor ?_
  unfold F_divisor
  obtain ⟨g, h1, h2⟩ := gcd_loop (R := Prog.rt G (run G n) false) rfl (2 ^ 20000) a b hb
  rw [ws_whl, show (Prog.rt G (run G n) false).turns = 2 ^ 20000 from rfl, h2]
  walk_at "ev"
  rw [h1]
theorem cw_divisor (hn : 1 ≤ n) {a b : Int} (hb : b.natAbs < 2 ^ 20000) : CW ((Prog.rt G (run G n) false).call i_divisor .non [.int a, .int b]) ρ K X = K (.int (Int.gcd a b)) false ρ := cw_ok (rn_divisor hn a b hb)
theorem rn__law_divisor (hn : 1 ≤ n) (a b : Int) (hb : b.natAbs < 2 ^ 20000) : run G n i__law_divisor .non [.int a, .int b] = .ok (.int (Int.gcd a b)) false .non := by
  obtain ⟨n, rfl⟩ : ∃ m, n = m + 1 := ⟨n - 1, by omega⟩
  refine en__law_divisor ?_
  unfold F__law_divisor
  obtain ⟨g, h1, h2⟩ := gcd_loop (R := Prog.rt G (run G n) false) rfl (2 ^ 20000) a b hb
  rw [ws_whl, show (Prog.rt G (run G n) false).turns = 2 ^ 20000 from rfl, h2]
  walk_at "ev"
  rw [h1]
theorem cw__law_divisor (hn : 1 ≤ n) {a b : Int} (hb : b.natAbs < 2 ^ 20000) : CW ((Prog.rt G (run G n) false).call i__law_divisor .non [.int a, .int b]) ρ K X = K (.int (Int.gcd a b)) false ρ := cw_ok (rn__law_divisor hn a b hb)
theorem rn_frac (hn : 2 ≤ n) (u d : Int) (hd : d ≠ 0) (h : d.natAbs < 2 ^ 8000) : run G n i_frac .non [.int u, .int d] = .ok (fr (Rat.divInt u d)) false .non := by
  obtain ⟨n, rfl⟩ : ∃ m, n = m + 1 := ⟨n - 1, by omega⟩
  refine en_frac ?_
  unfold F_frac
  have hb : d.natAbs < 2 ^ 20000 := Nat.lt_of_lt_of_le h (Nat.pow_le_pow_right (by decide) (by decide))
  have hg : Int.gcd u d ≠ 0 := fun z => hd (Int.gcd_eq_zero_iff.mp z).2
  have hl : (Int.gcd u d).log2 < 9000 := log2_lt (Nat.lt_of_le_of_lt (Int.gcd_le_natAbs_right u hd) (Nat.lt_of_lt_of_le h (Nat.pow_le_pow_right (by decide) (by decide)))) (by decide)
  have e1 : (0 - (Int.gcd u d : Int)).natAbs = Int.gcd u d := by omega
  walk_at "ev"
  simp only [cw_ok (rn_divisor (n := n) (by omega) u d hb)]
  walk_at "ev"
  refine ⟨fun z => hd z, fun _ => ⟨fun hn => ?_, fun hp => ?_⟩⟩
  · rw [e1]
    obtain ⟨k1, k2⟩ := divInt_pair (u := u) (d := d) (g := 0 - (Int.gcd u d : Int)) hd e1 (by omega)
    refine ⟨⟨by omega, hl⟩, ⟨by omega, hl⟩, ?_⟩
    rw [k1, k2]
    rfl
  · obtain ⟨k1, k2⟩ := divInt_pair (u := u) (d := d) (g := (Int.gcd u d : Int)) hd (by simp) (by omega)
    refine ⟨⟨by omega, by simpa using hl⟩, ⟨by omega, by simpa using hl⟩, ?_⟩
    rw [k1, k2]
    rfl
theorem rn_frac0 (hn : 1 ≤ n) (u : Int) : run G n i_frac .non [.int u, .int 0] = .exn 1 .non := by
  obtain ⟨n, rfl⟩ : ∃ m, n = m + 1 := ⟨n - 1, by omega⟩
  refine en_frac ?_
  unfold F_frac
  walk_at "ev"
theorem rn__law_made (hn : 2 ≤ n) (u d : Int) (hd : d ≠ 0) (h : d.natAbs < 2 ^ 8000) : run G n i__law_made .non [.int u, .int d] = .ok (fr (Rat.divInt u d)) false .non := by
  obtain ⟨n, rfl⟩ : ∃ m, n = m + 1 := ⟨n - 1, by omega⟩
  refine en__law_made ?_
  unfold F__law_made
  have hb : d.natAbs < 2 ^ 20000 := Nat.lt_of_lt_of_le h (Nat.pow_le_pow_right (by decide) (by decide))
  have hg : Int.gcd u d ≠ 0 := fun z => hd (Int.gcd_eq_zero_iff.mp z).2
  have hl : (Int.gcd u d).log2 < 9000 := log2_lt (Nat.lt_of_le_of_lt (Int.gcd_le_natAbs_right u hd) (Nat.lt_of_lt_of_le h (Nat.pow_le_pow_right (by decide) (by decide)))) (by decide)
  walk_at "ev"
  simp only [cw_ok (rn__law_divisor (n := n) (by omega) u d hb)]
  walk_at "ev"
  refine ⟨fun hp => ?_, fun hn => ?_⟩
  · obtain ⟨k1, k2⟩ := divInt_pair (u := u) (d := d) (g := (Int.gcd u d : Int) * 1) hd (by simp) (by omega)
    have e2 : ((Int.gcd u d : Int) * 1).natAbs = Int.gcd u d := by omega
    rw [k1, k2, e2, show (1 : Int).natAbs = 1 from rfl]
    refine ⟨?_, ⟨by omega, hl⟩, ⟨by omega, hl⟩, rfl⟩
    have : Int.natAbs (Int.gcd u d : Int) = Int.gcd u d := by omega
    rw [this]
    have : Nat.log2 1 = 0 := by decide
    omega
  · obtain ⟨k1, k2⟩ := divInt_pair (u := u) (d := d) (g := (Int.gcd u d : Int) * -1) hd (by omega) (by omega)
    have e2 : ((Int.gcd u d : Int) * -1).natAbs = Int.gcd u d := by omega
    rw [k1, k2, e2, show (-1 : Int).natAbs = 1 from rfl]
    refine ⟨?_, ⟨by omega, hl⟩, ⟨by omega, hl⟩, rfl⟩
    have : Int.natAbs (Int.gcd u d : Int) = Int.gcd u d := by omega
    rw [this]
    have : Nat.log2 1 = 0 := by decide
    omega
theorem rn_plus (hn : 3 ≤ n) (a b : Rat) {i j : Nat} (ha : SzLe a i) (hb : SzLe b j) (h : i + j ≤ 7000) : run G n i_plus .non [fr a, fr b] = .ok (fr (a + b)) false .non := by
  obtain ⟨n, rfl⟩ : ∃ m, n = m + 1 := ⟨n - 1, by omega⟩
  refine en_plus ?_
  unfold F_plus
  have pa := den_lt_pos ha
  have pb := den_lt_pos hb
  have hd : ((a.den : Int) * b.den).natAbs < 2 ^ 8000 := by
    rw [Int.natAbs_mul]
    exact Nat.lt_of_lt_of_le (mul_lt2 ha.di hb.di) (Nat.pow_le_pow_right (by decide) (by omega))
  walk_at "ev"
  refine ⟨mulOk ha.n hb.di pa pb (by omega), mulOk hb.n ha.di pb pa (by omega), mulOk ha.di hb.di pa pb (by omega), ?_⟩
  rw [cw_ok (rn_frac (by omega) _ _ (mul_ne (den_ne a) (den_ne b)) hd), fr_add]
  walk_at "ev"
theorem cw_plus (hn : 3 ≤ n) {a b : Rat} {i j : Nat} [ha : SzLe a i] [hb : SzLe b j] (h : i + j ≤ 7000) : CW ((Prog.rt G (run G n) false).call i_plus .non [fr a, fr b]) ρ K X = K (fr (a + b)) false ρ := cw_ok (rn_plus hn a b ha hb h)
theorem rn_minus (hn : 3 ≤ n) (a b : Rat) {i j : Nat} (ha : SzLe a i) (hb : SzLe b j) (h : i + j ≤ 7000) : run G n i_minus .non [fr a, fr b] = .ok (fr (a - b)) false .non := by
  obtain ⟨n, rfl⟩ : ∃ m, n = m + 1 := ⟨n - 1, by omega⟩
  refine en_minus ?_
  unfold F_minus
  have pa := den_lt_pos ha
  have pb := den_lt_pos hb
  have hd : ((a.den : Int) * b.den).natAbs < 2 ^ 8000 := by
    rw [Int.natAbs_mul]
    exact Nat.lt_of_lt_of_le (mul_lt2 ha.di hb.di) (Nat.pow_le_pow_right (by decide) (by omega))
  walk_at "ev"
  refine ⟨mulOk ha.n hb.di pa pb (by omega), mulOk hb.n ha.di pb pa (by omega), mulOk ha.di hb.di pa pb (by omega), ?_⟩
  rw [cw_ok (rn_frac (by omega) _ _ (mul_ne (den_ne a) (den_ne b)) hd), fr_sub]
  walk_at "ev"
theorem cw_minus (hn : 3 ≤ n) {a b : Rat} {i j : Nat} [ha : SzLe a i] [hb : SzLe b j] (h : i + j ≤ 7000) : CW ((Prog.rt G (run G n) false).call i_minus .non [fr a, fr b]) ρ K X = K (fr (a - b)) false ρ := cw_ok (rn_minus hn a b ha hb h)
theorem rn_times (hn : 3 ≤ n) (a b : Rat) {i j : Nat} (ha : SzLe a i) (hb : SzLe b j) (h : i + j ≤ 7000) : run G n i_times .non [fr a, fr b] = .ok (fr (a * b)) false .non := by
  obtain ⟨n, rfl⟩ : ∃ m, n = m + 1 := ⟨n - 1, by omega⟩
  refine en_times ?_
  unfold F_times
  have pa := den_lt_pos ha
  have pb := den_lt_pos hb
  have hd : ((a.den : Int) * b.den).natAbs < 2 ^ 8000 := by
    rw [Int.natAbs_mul]
    exact Nat.lt_of_lt_of_le (mul_lt2 ha.di hb.di) (Nat.pow_le_pow_right (by decide) (by omega))
  walk_at "ev"
  refine ⟨mulOk ha.n hb.n pa pb (by omega), mulOk ha.di hb.di pa pb (by omega), ?_⟩
  rw [cw_ok (rn_frac (by omega) _ _ (mul_ne (den_ne a) (den_ne b)) hd), fr_mul]
  walk_at "ev"
theorem cw_times (hn : 3 ≤ n) {a b : Rat} {i j : Nat} [ha : SzLe a i] [hb : SzLe b j] (h : i + j ≤ 7000) : CW ((Prog.rt G (run G n) false).call i_times .non [fr a, fr b]) ρ K X = K (fr (a * b)) false ρ := cw_ok (rn_times hn a b ha hb h)
theorem rn__law_plus (hn : 3 ≤ n) (a b : Rat) {i j : Nat} (ha : SzLe a i) (hb : SzLe b j) (h : i + j ≤ 7000) : run G n i__law_plus .non [fr a, fr b] = .ok (fr (a + b)) false .non := by
  obtain ⟨n, rfl⟩ : ∃ m, n = m + 1 := ⟨n - 1, by omega⟩
  refine en__law_plus ?_
  unfold F__law_plus
  have pa := den_lt_pos ha
  have pb := den_lt_pos hb
  have hd : ((a.den : Int) * b.den).natAbs < 2 ^ 8000 := by
    rw [Int.natAbs_mul]
    exact Nat.lt_of_lt_of_le (mul_lt2 ha.di hb.di) (Nat.pow_le_pow_right (by decide) (by omega))
  walk_at "ev"
  refine ⟨mulOk ha.n hb.di pa pb (by omega), mulOk hb.n ha.di pb pa (by omega), mulOk ha.di hb.di pa pb (by omega), ?_⟩
  rw [cw_ok (rn__law_made (by omega) _ _ (mul_ne (den_ne a) (den_ne b)) hd), fr_add]
  walk_at "ev"
theorem cw__law_plus (hn : 3 ≤ n) {a b : Rat} {i j : Nat} [ha : SzLe a i] [hb : SzLe b j] (h : i + j ≤ 7000) : CW ((Prog.rt G (run G n) false).call i__law_plus .non [fr a, fr b]) ρ K X = K (fr (a + b)) false ρ := cw_ok (rn__law_plus hn a b ha hb h)
theorem rn__law_minus (hn : 3 ≤ n) (a b : Rat) {i j : Nat} (ha : SzLe a i) (hb : SzLe b j) (h : i + j ≤ 7000) : run G n i__law_minus .non [fr a, fr b] = .ok (fr (a - b)) false .non := by
  obtain ⟨n, rfl⟩ : ∃ m, n = m + 1 := ⟨n - 1, by omega⟩
  refine en__law_minus ?_
  unfold F__law_minus
  have pa := den_lt_pos ha
  have pb := den_lt_pos hb
  have hd : ((a.den : Int) * b.den).natAbs < 2 ^ 8000 := by
    rw [Int.natAbs_mul]
    exact Nat.lt_of_lt_of_le (mul_lt2 ha.di hb.di) (Nat.pow_le_pow_right (by decide) (by omega))
  walk_at "ev"
  refine ⟨mulOk ha.n hb.di pa pb (by omega), mulOk hb.n ha.di pb pa (by omega), mulOk ha.di hb.di pa pb (by omega), ?_⟩
  rw [cw_ok (rn__law_made (by omega) _ _ (mul_ne (den_ne a) (den_ne b)) hd), fr_sub]
  walk_at "ev"
theorem cw__law_minus (hn : 3 ≤ n) {a b : Rat} {i j : Nat} [ha : SzLe a i] [hb : SzLe b j] (h : i + j ≤ 7000) : CW ((Prog.rt G (run G n) false).call i__law_minus .non [fr a, fr b]) ρ K X = K (fr (a - b)) false ρ := cw_ok (rn__law_minus hn a b ha hb h)
theorem rn__law_times (hn : 3 ≤ n) (a b : Rat) {i j : Nat} (ha : SzLe a i) (hb : SzLe b j) (h : i + j ≤ 7000) : run G n i__law_times .non [fr a, fr b] = .ok (fr (a * b)) false .non := by
  obtain ⟨n, rfl⟩ : ∃ m, n = m + 1 := ⟨n - 1, by omega⟩
  refine en__law_times ?_
  unfold F__law_times
  have pa := den_lt_pos ha
  have pb := den_lt_pos hb
  have hd : ((a.den : Int) * b.den).natAbs < 2 ^ 8000 := by
    rw [Int.natAbs_mul]
    exact Nat.lt_of_lt_of_le (mul_lt2 ha.di hb.di) (Nat.pow_le_pow_right (by decide) (by omega))
  walk_at "ev"
  refine ⟨mulOk ha.n hb.n pa pb (by omega), mulOk ha.di hb.di pa pb (by omega), ?_⟩
  rw [cw_ok (rn__law_made (by omega) _ _ (mul_ne (den_ne a) (den_ne b)) hd), fr_mul]
  walk_at "ev"
theorem cw__law_times (hn : 3 ≤ n) {a b : Rat} {i j : Nat} [ha : SzLe a i] [hb : SzLe b j] (h : i + j ≤ 7000) : CW ((Prog.rt G (run G n) false).call i__law_times .non [fr a, fr b]) ρ K X = K (fr (a * b)) false ρ := cw_ok (rn__law_times hn a b ha hb h)
theorem rn__law_over (hn : 3 ≤ n) (a b : Rat) (h0 : b ≠ 0) {i j : Nat} (ha : SzLe a i) (hb : SzLe b j) (h : i + j ≤ 7000) : run G n i__law_over .non [fr a, fr b] = .ok (fr (a / b)) false .non := by
  obtain ⟨n, rfl⟩ : ∃ m, n = m + 1 := ⟨n - 1, by omega⟩
  refine en__law_over ?_
  unfold F__law_over
  have pa := den_lt_pos ha
  have pb := den_lt_pos hb
  have hd : ((a.den : Int) * b.num).natAbs < 2 ^ 8000 := by
    rw [Int.natAbs_mul]
    exact Nat.lt_of_lt_of_le (mul_lt2 ha.di hb.n) (Nat.pow_le_pow_right (by decide) (by omega))
  walk_at "ev"
  refine ⟨mulOk ha.n hb.di pa pb (by omega), mulOk ha.di hb.n pa pb (by omega), ?_⟩
  rw [cw_ok (rn__law_made (by omega) _ _ (mul_ne (den_ne a) (num_ne h0)) hd), fr_div]
  walk_at "ev"
theorem cw__law_over (hn : 3 ≤ n) {a b : Rat} (h0 : b ≠ 0) {i j : Nat} [ha : SzLe a i] [hb : SzLe b j] (h : i + j ≤ 7000) : CW ((Prog.rt G (run G n) false).call i__law_over .non [fr a, fr b]) ρ K X = K (fr (a / b)) false ρ := cw_ok (rn__law_over hn a b h0 ha hb h)
theorem rn_is_less (hn : 1 ≤ n) (a b : Rat) {i j : Nat} (ha : SzLe a i) (hb : SzLe b j) (h : i + j ≤ 7000) : run G n i_is_less .non [fr a, fr b] = .ok (.bl (decide (a < b))) false .non := by
  obtain ⟨n, rfl⟩ : ∃ m, n = m + 1 := ⟨n - 1, by omega⟩
  refine en_is_less ?_
  unfold F_is_less
  have pa := den_lt_pos ha
  have pb := den_lt_pos hb
  walk_at "ev"
  refine ⟨mulOk ha.n hb.di pa pb (by omega), mulOk hb.n ha.di pb pa (by omega), ?_⟩
  rw [decide_eq_decide.mpr (Rat.lt_iff a b)]
theorem cw_is_less (hn : 1 ≤ n) {a b : Rat} {i j : Nat} [ha : SzLe a i] [hb : SzLe b j] (h : i + j ≤ 7000) : CW ((Prog.rt G (run G n) false).call i_is_less .non [fr a, fr b]) ρ K X = K (.bl (decide (a < b))) false ρ := cw_ok (rn_is_less hn a b ha hb h)
theorem rn__law_less (hn : 1 ≤ n) (a b : Rat) {i j : Nat} (ha : SzLe a i) (hb : SzLe b j) (h : i + j ≤ 7000) : run G n i__law_less .non [fr a, fr b] = .ok (.bl (decide (a < b))) false .non := by
  obtain ⟨n, rfl⟩ : ∃ m, n = m + 1 := ⟨n - 1, by omega⟩
  refine en__law_less ?_
  unfold F__law_less
  have pa := den_lt_pos ha
  have pb := den_lt_pos hb
  walk_at "ev"
  refine ⟨mulOk ha.n hb.di pa pb (by omega), mulOk hb.n ha.di pb pa (by omega), ?_⟩
  rw [decide_eq_decide.mpr (Rat.lt_iff a b)]
theorem cw__law_less (hn : 1 ≤ n) {a b : Rat} {i j : Nat} [ha : SzLe a i] [hb : SzLe b j] (h : i + j ≤ 7000) : CW ((Prog.rt G (run G n) false).call i__law_less .non [fr a, fr b]) ρ K X = K (.bl (decide (a < b))) false ρ := cw_ok (rn__law_less hn a b ha hb h)
end
end Gk11
end

section
open GW in
local macro_rules | `(tactic| walk_at "ev") => `(tactic| simp only [↓we_int, ↓we_bl, ↓we_non, ↓we_str, ↓we_tup, ↓we_lst, ↓wl_nil, ↓wl_cons, ↓we_bin, ↓we_cmp, ↓we_chain, ↓we_ix, ↓we_neg, ↓we_nt, ↓we_ife, ↓we_conj, ↓we_disj, ↓wa_nil, ↓wo_nil, ↓wa_cons, ↓wo_cons, ↓we_call, ↓we_bi, ↓we_isi, ↓we_rev, ↓we_sl, ↓we_mt, ↓we_bop, ↓we_rng, ↓we_zip, ↓we_enum, ↓we_gix, ↓we_glo, ↓ws_nil, ↓ws_set, ↓ws_exp, ↓ws_ret, ↓ws_retN, ↓ws_raise, ↓ws_pass, ↓ws_asgT, ↓ws_par, ↓ws_ite, ↓ws_try, ↓ws_whl, ↓th_nx, ↓th_rt, ↓th_exn, ↓th_bk, ↓th_ct, ↓tk_nx, ↓tk_rt, ↓nf_f, ↓nf_l, ↓nf_i, ↓nf_b, ↓nf_t, ↓nf_n, ↓nf_s, ↓nf_x, ↓br_t, ↓br_f, ↓br_n, ↓br_d, ↓ov_s, ↓cw_o, ↓cw_e, ↓wv0, ↓wo0, ↓wm0, ↓wn0, ↓se0f, ↓se0o, ↓sx0, ↓pk0f, ↓pk0o, ↓po0, ↓wv1, ↓wo1, ↓wm1, ↓wn1, ↓se1f, ↓se1o, ↓sx1, ↓pk1f, ↓pk1o, ↓po1, ↓wv2, ↓wo2, ↓wm2, ↓wn2, ↓se2f, ↓se2o, ↓sx2, ↓pk2f, ↓pk2o, ↓po2, ↓wv3, ↓wo3, ↓wm3, ↓wn3, ↓se3f, ↓se3o, ↓sx3, ↓pk3f, ↓pk3o, ↓po3, ↓wv4, ↓wo4, ↓wm4, ↓wn4, ↓se4f, ↓se4o, ↓sx4, ↓pk4f, ↓pk4o, ↓po4, ↓wv5, ↓wo5, ↓wm5, ↓wn5, ↓se5f, ↓se5o, ↓sx5, ↓pk5f, ↓pk5o, ↓po5, ↓wv6, ↓wo6, ↓wm6, ↓wn6, ↓se6f, ↓se6o, ↓sx6, ↓pk6f, ↓pk6o, ↓po6, ↓wv7, ↓wo7, ↓wm7, ↓wn7, ↓se7f, ↓se7o, ↓sx7, ↓pk7f, ↓pk7o, ↓po7, ↓wv8, ↓wo8, ↓wm8, ↓wn8, ↓se8f, ↓se8o, ↓sx8, ↓pk8f, ↓pk8o, ↓po8, ↓wv9, ↓wo9, ↓wm9, ↓wn9, ↓se9f, ↓se9o, ↓sx9, ↓pk9f, ↓pk9o, ↓po9, ↓wv10, ↓wo10, ↓wm10, ↓wn10, ↓se10f, ↓se10o, ↓sx10, ↓pk10f, ↓pk10o, ↓po10, ↓wv11, ↓wo11, ↓wm11, ↓wn11, ↓se11f, ↓se11o, ↓sx11, ↓pk11f, ↓pk11o, ↓po11, ↓wv12, ↓wo12, ↓wm12, ↓wn12, ↓se12f, ↓se12o, ↓sx12, ↓pk12f, ↓pk12o, ↓po12, ↓wv13, ↓wo13, ↓wm13, ↓wn13, ↓se13f, ↓se13o, ↓sx13, ↓pk13f, ↓pk13o, ↓po13, ↓wv14, ↓wo14, ↓wm14, ↓wn14, ↓se14f, ↓se14o, ↓sx14, ↓pk14f, ↓pk14o, ↓po14, ↓wv15, ↓wo15, ↓wm15, ↓wn15, ↓se15f, ↓se15o, ↓sx15, ↓pk15f, ↓pk15o, ↓po15, ↓wv16, ↓wo16, ↓wm16, ↓wn16, ↓se16f, ↓se16o, ↓sx16, ↓pk16f, ↓pk16o, ↓po16, ↓wv17, ↓wo17, ↓wm17, ↓wn17, ↓se17f, ↓se17o, ↓sx17, ↓pk17f, ↓pk17o, ↓po17, ↓wv18, ↓wo18, ↓wm18, ↓wn18, ↓se18f, ↓se18o, ↓sx18, ↓pk18f, ↓pk18o, ↓po18, ↓wv19, ↓wo19, ↓wm19, ↓wn19, ↓se19f, ↓se19o, ↓sx19, ↓pk19f, ↓pk19o, ↓po19, ↓wv20, ↓wo20, ↓wm20, ↓wn20, ↓se20f, ↓se20o, ↓sx20, ↓pk20f, ↓pk20o, ↓po20, ↓wv21, ↓wo21, ↓wm21, ↓wn21, ↓se21f, ↓se21o, ↓sx21, ↓pk21f, ↓pk21o, ↓po21, ↓wv22, ↓wo22, ↓wm22, ↓wn22, ↓se22f, ↓se22o, ↓sx22, ↓pk22f, ↓pk22o, ↓po22, ↓wv23, ↓wo23, ↓wm23, ↓wn23, ↓se23f, ↓se23o, ↓sx23, ↓pk23f, ↓pk23o, ↓po23, ↓wv24, ↓wo24, ↓wm24, ↓wn24, ↓se24f, ↓se24o, ↓sx24, ↓pk24f, ↓pk24o, ↓po24, ↓wv25, ↓wo25, ↓wm25, ↓wn25, ↓se25f, ↓se25o, ↓sx25, ↓pk25f, ↓pk25o, ↓po25, ↓ses_n, ↓ses_c, ↓sep_n, ↓sep_c, ↓ws_appn, ↓ws_extn, ↓b_add, ↓b_addl, ↓b_addt, ↓b_sub, ↓b_mul, ↓b_fdiv, ↓b_mod, ↓b_pow, ↓c_lt, ↓c_le, ↓c_gt, ↓c_ge, ↓c_eq, ↓c_ne, ↓is_n, ↓isn_n, ↓is_b, ↓isn_b, ↓is_i, ↓isn_i, ↓is_s, ↓isn_s, ↓is_t, ↓isn_t, ↓is_l, ↓isn_l, ↓is_x, ↓isn_x, ↓isn_bb, ↓b_mult, ↓is_bb, ↓ix_tup0, ↓ix_lst0, ↓ix_tup1, ↓ix_lst1, ↓ix_tup2, ↓ix_lst2, ↓ix_tup3, ↓ix_lst3, ↓ix_tup4, ↓ix_lst4, ↓ix_tup5, ↓ix_lst5, ↓ix_tup6, ↓ix_lst6, ↓ix_tup7, ↓ix_lst7, ↓ix_tup8, ↓ix_lst8, ↓ix_tup9, ↓ix_lst9, ↓ix_tup10, ↓ix_lst10, ↓ix_tup11, ↓ix_lst11, ↓ix_tup12, ↓ix_lst12, ↓ix_tup13, ↓ix_lst13, ↓ix_tup14, ↓ix_lst14, ↓ix_tup15, ↓ix_lst15, ↓ng, ↓up_t, ↓up_l, ↓it_t, ↓it_l, ↓ls_l, ↓pt_n, ↓pt_i, ↓rg1, ↓rg2, ↓bi_lenl, ↓bi_lent, ↓bi_abs, ↓bi_lil, ↓bi_lit, ↓bi_tul, ↓bi_tut, ↓rv_l, ↓ii_non_int, ↓ii_non_bool, ↓ii_non_str, ↓ii_non_tuple, ↓ii_non_list, ↓ii_bl_int, ↓ii_bl_bool, ↓ii_bl_str, ↓ii_bl_tuple, ↓ii_bl_list, ↓ii_int_int, ↓ii_int_bool, ↓ii_int_str, ↓ii_int_tuple, ↓ii_int_list, ↓ii_str_int, ↓ii_str_bool, ↓ii_str_str, ↓ii_str_tuple, ↓ii_str_list, ↓ii_tup_int, ↓ii_tup_bool, ↓ii_tup_str, ↓ii_tup_tuple, ↓ii_tup_list, ↓ii_lst_int, ↓ii_lst_bool, ↓ii_lst_str, ↓ii_lst_tuple, ↓ii_lst_list, ↓nf_fr, ↓ix_fr0, ↓ix_fr1, ↓ii_fr_t, ↓len_fr, ↓c_eqfr, ↓c_nefr, ↓ri_rt, ↓ri_nx, ↓ri_ex, ↓ri_rx, ↓ri_xr, ↓gd_nx, ↓gd_rt, ↓gd_ex, ↓ok_rt, ↓ws_forW, ↓ws_brk, ↓ws_cont, ↓lq_nx, ↓lq_ct, ↓lq_bk, ↓lq_rt, ↓lq_exn, ↓iq_nx, ↓iq_ct, ↓iq_bk, ↓iq_rt, ↓iq_exn, ↓st_n, ↓st_t, ↓sts_n, ↓sts_c, ↓we_lc, ↓now_n, ↓now_c, ↓gs_0, ↓gs_s, ↓io_f, ↓io_n, ↓wp_n, ↓wp_c, ↓ck_even, ↓cn_even, ↓ck_in, ↓cn_in, ↓ck_out, ↓cn_out, ↓ck_both, ↓cn_both, ↓ck_hold, ↓cn_hold, ↓ck_jump, ↓cn_jump, ↓ck_kept, ↓cn_kept, ↓ci_hj, ↓cj_hj, ↓ci_bk, ↓cj_bk, ↓ci_kinds, ↓cj_kinds, ↓gx_turn, ↓up_fr, ↓ok_i, ↓ok_ii, ↓turn_turn, ↓sl_t, ↓sl_l, ↓cut_h1, ↓cut_l1, ↓cut_h2, ↓cut_l2, ↓cut_h3, ↓cut_l3, ↓cut_h4, ↓cut_l4, ↓cut_h5, ↓cut_l5, ↓cut_2_4, ↓r_nn, ↓Gk11.gl_KINDS, ↓Gk11.gl_TURNED, ↓Gk11.gl_NONE, ↓Gk11.gl_ALL, decide_eq_true_eq, decide_eq_false_iff_not, Bool.not_eq_true', Bool.not_eq_false', true_and, and_true, and_self, true_implies, false_implies, implies_true, forall_const, not_true_eq_false, not_false_eq_true, Bool.not_true, Bool.not_false, decide_true, decide_false, reduceCtorEq, List.cons_append, List.nil_append, List.append_assoc, not_false_iff, eq_self, Tg.slots])
open GW in
local macro_rules | `(tactic| walk_at "e1") => `(tactic| simp (maxSteps := 10000000) (disch := (first | assumption | omega | decide)) only [↓Gk11.gl_KINDS, ↓Gk11.gl_TURNED, ↓Gk11.gl_NONE, ↓Gk11.gl_ALL, ↓Gk11.cv_tk0_0, ↓Gk11.cv_tk1_1, ↓Gk11.cv_tk1_0, ↓Gk11.cv_tk2_2, ↓Gk11.cv_tk2_0, ↓Gk11.cw_divisor, ↓Gk11.cw__law_divisor, ↓Gk11.cw_plus, ↓Gk11.cw_minus, ↓Gk11.cw_times, ↓Gk11.cw__law_plus, ↓Gk11.cw__law_minus, ↓Gk11.cw__law_times, ↓Gk11.cw__law_over, ↓Gk11.cw_is_less, ↓Gk11.cw__law_less, ↓GW.nf_scr, ↓GW.len_scr, ↓GW.c_eqscr, ↓GW.ix_scr, ↓we_int, ↓we_bl, ↓we_non, ↓we_str, ↓we_tup, ↓we_lst, ↓wl_nil, ↓wl_cons, ↓we_bin, ↓we_cmp, ↓we_chain, ↓we_ix, ↓we_neg, ↓we_nt, ↓we_ife, ↓we_conj, ↓we_disj, ↓wa_nil, ↓wo_nil, ↓wa_cons, ↓wo_cons, ↓we_call, ↓we_bi, ↓we_isi, ↓we_rev, ↓we_sl, ↓we_mt, ↓we_bop, ↓we_rng, ↓we_zip, ↓we_enum, ↓we_gix, ↓we_glo, ↓ws_nil, ↓ws_set, ↓ws_exp, ↓ws_ret, ↓ws_retN, ↓ws_raise, ↓ws_pass, ↓ws_asgT, ↓ws_par, ↓ws_ite, ↓ws_try, ↓ws_whl, ↓th_nx, ↓th_rt, ↓th_exn, ↓th_bk, ↓th_ct, ↓tk_nx, ↓tk_rt, ↓nf_f, ↓nf_l, ↓nf_i, ↓nf_b, ↓nf_t, ↓nf_n, ↓nf_s, ↓nf_x, ↓br_t, ↓br_f, ↓br_n, ↓ov_s, ↓cw_o, ↓cw_e, ↓wv0, ↓wo0, ↓wm0, ↓wn0, ↓se0f, ↓se0o, ↓sx0, ↓pk0f, ↓pk0o, ↓po0, ↓wv1, ↓wo1, ↓wm1, ↓wn1, ↓se1f, ↓se1o, ↓sx1, ↓pk1f, ↓pk1o, ↓po1, ↓wv2, ↓wo2, ↓wm2, ↓wn2, ↓se2f, ↓se2o, ↓sx2, ↓pk2f, ↓pk2o, ↓po2, ↓wv3, ↓wo3, ↓wm3, ↓wn3, ↓se3f, ↓se3o, ↓sx3, ↓pk3f, ↓pk3o, ↓po3, ↓wv4, ↓wo4, ↓wm4, ↓wn4, ↓se4f, ↓se4o, ↓sx4, ↓pk4f, ↓pk4o, ↓po4, ↓wv5, ↓wo5, ↓wm5, ↓wn5, ↓se5f, ↓se5o, ↓sx5, ↓pk5f, ↓pk5o, ↓po5, ↓wv6, ↓wo6, ↓wm6, ↓wn6, ↓se6f, ↓se6o, ↓sx6, ↓pk6f, ↓pk6o, ↓po6, ↓wv7, ↓wo7, ↓wm7, ↓wn7, ↓se7f, ↓se7o, ↓sx7, ↓pk7f, ↓pk7o, ↓po7, ↓wv8, ↓wo8, ↓wm8, ↓wn8, ↓se8f, ↓se8o, ↓sx8, ↓pk8f, ↓pk8o, ↓po8, ↓wv9, ↓wo9, ↓wm9, ↓wn9, ↓se9f, ↓se9o, ↓sx9, ↓pk9f, ↓pk9o, ↓po9, ↓wv10, ↓wo10, ↓wm10, ↓wn10, ↓se10f, ↓se10o, ↓sx10, ↓pk10f, ↓pk10o, ↓po10, ↓wv11, ↓wo11, ↓wm11, ↓wn11, ↓se11f, ↓se11o, ↓sx11, ↓pk11f, ↓pk11o, ↓po11, ↓wv12, ↓wo12, ↓wm12, ↓wn12, ↓se12f, ↓se12o, ↓sx12, ↓pk12f, ↓pk12o, ↓po12, ↓wv13, ↓wo13, ↓wm13, ↓wn13, ↓se13f, ↓se13o, ↓sx13, ↓pk13f, ↓pk13o, ↓po13, ↓wv14, ↓wo14, ↓wm14, ↓wn14, ↓se14f, ↓se14o, ↓sx14, ↓pk14f, ↓pk14o, ↓po14, ↓wv15, ↓wo15, ↓wm15, ↓wn15, ↓se15f, ↓se15o, ↓sx15, ↓pk15f, ↓pk15o, ↓po15, ↓wv16, ↓wo16, ↓wm16, ↓wn16, ↓se16f, ↓se16o, ↓sx16, ↓pk16f, ↓pk16o, ↓po16, ↓wv17, ↓wo17, ↓wm17, ↓wn17, ↓se17f, ↓se17o, ↓sx17, ↓pk17f, ↓pk17o, ↓po17, ↓wv18, ↓wo18, ↓wm18, ↓wn18, ↓se18f, ↓se18o, ↓sx18, ↓pk18f, ↓pk18o, ↓po18, ↓wv19, ↓wo19, ↓wm19, ↓wn19, ↓se19f, ↓se19o, ↓sx19, ↓pk19f, ↓pk19o, ↓po19, ↓wv20, ↓wo20, ↓wm20, ↓wn20, ↓se20f, ↓se20o, ↓sx20, ↓pk20f, ↓pk20o, ↓po20, ↓wv21, ↓wo21, ↓wm21, ↓wn21, ↓se21f, ↓se21o, ↓sx21, ↓pk21f, ↓pk21o, ↓po21, ↓wv22, ↓wo22, ↓wm22, ↓wn22, ↓se22f, ↓se22o, ↓sx22, ↓pk22f, ↓pk22o, ↓po22, ↓wv23, ↓wo23, ↓wm23, ↓wn23, ↓se23f, ↓se23o, ↓sx23, ↓pk23f, ↓pk23o, ↓po23, ↓wv24, ↓wo24, ↓wm24, ↓wn24, ↓se24f, ↓se24o, ↓sx24, ↓pk24f, ↓pk24o, ↓po24, ↓wv25, ↓wo25, ↓wm25, ↓wn25, ↓se25f, ↓se25o, ↓sx25, ↓pk25f, ↓pk25o, ↓po25, ↓ses_n, ↓ses_c, ↓sep_n, ↓sep_c, ↓ws_appn, ↓ws_extn, ↓b_add, ↓b_addl, ↓b_addt, ↓b_sub, ↓b_mul, ↓b_fdiv, ↓b_mod, ↓b_pow, ↓c_lt, ↓c_le, ↓c_gt, ↓c_ge, ↓c_eq, ↓c_ne, ↓is_n, ↓isn_n, ↓is_b, ↓isn_b, ↓is_i, ↓isn_i, ↓is_s, ↓isn_s, ↓is_t, ↓isn_t, ↓is_l, ↓isn_l, ↓is_x, ↓isn_x, ↓isn_bb, ↓b_mult, ↓is_bb, ↓ix_tup0, ↓ix_lst0, ↓ix_tup1, ↓ix_lst1, ↓ix_tup2, ↓ix_lst2, ↓ix_tup3, ↓ix_lst3, ↓ix_tup4, ↓ix_lst4, ↓ix_tup5, ↓ix_lst5, ↓ix_tup6, ↓ix_lst6, ↓ix_tup7, ↓ix_lst7, ↓ix_tup8, ↓ix_lst8, ↓ix_tup9, ↓ix_lst9, ↓ix_tup10, ↓ix_lst10, ↓ix_tup11, ↓ix_lst11, ↓ix_tup12, ↓ix_lst12, ↓ix_tup13, ↓ix_lst13, ↓ix_tup14, ↓ix_lst14, ↓ix_tup15, ↓ix_lst15, ↓ng, ↓up_t, ↓up_l, ↓it_t, ↓it_l, ↓ls_l, ↓pt_n, ↓pt_i, ↓rg1, ↓rg2, ↓bi_lenl, ↓bi_lent, ↓bi_abs, ↓bi_lil, ↓bi_lit, ↓bi_tul, ↓bi_tut, ↓rv_l, ↓ii_non_int, ↓ii_non_bool, ↓ii_non_str, ↓ii_non_tuple, ↓ii_non_list, ↓ii_bl_int, ↓ii_bl_bool, ↓ii_bl_str, ↓ii_bl_tuple, ↓ii_bl_list, ↓ii_int_int, ↓ii_int_bool, ↓ii_int_str, ↓ii_int_tuple, ↓ii_int_list, ↓ii_str_int, ↓ii_str_bool, ↓ii_str_str, ↓ii_str_tuple, ↓ii_str_list, ↓ii_tup_int, ↓ii_tup_bool, ↓ii_tup_str, ↓ii_tup_tuple, ↓ii_tup_list, ↓ii_lst_int, ↓ii_lst_bool, ↓ii_lst_str, ↓ii_lst_tuple, ↓ii_lst_list, ↓nf_fr, ↓ix_fr0, ↓ix_fr1, ↓ii_fr_t, ↓len_fr, ↓c_eqfr, ↓c_nefr, ↓c_eqfrs, ↓c_nefrs, ↓c_eqbs, ↓c_nebs, ↓ri_rt, ↓ri_nx, ↓ri_ex, ↓ri_rx, ↓ri_xr, ↓gd_nx, ↓gd_rt, ↓gd_ex, ↓ok_rt, ↓ws_forW, ↓ws_brk, ↓ws_cont, ↓lq_nx, ↓lq_ct, ↓lq_bk, ↓lq_rt, ↓lq_exn, ↓iq_nx, ↓iq_ct, ↓iq_bk, ↓iq_rt, ↓iq_exn, ↓st_n, ↓st_t, ↓sts_n, ↓sts_c, ↓we_lc, ↓now_n, ↓now_c, ↓gs_0, ↓gs_s, ↓io_f, ↓io_n, ↓wp_n, ↓wp_c, ↓ck_even, ↓cn_even, ↓ck_in, ↓cn_in, ↓ck_out, ↓cn_out, ↓ck_both, ↓cn_both, ↓ck_hold, ↓cn_hold, ↓ck_jump, ↓cn_jump, ↓ck_kept, ↓cn_kept, ↓ci_hj, ↓cj_hj, ↓ci_bk, ↓cj_bk, ↓ci_kinds, ↓cj_kinds, ↓gx_turn, ↓up_fr, ↓ok_i, ↓ok_ii, ↓turn_turn, ↓sl_t, ↓sl_l, ↓cut_h1, ↓cut_l1, ↓cut_h2, ↓cut_l2, ↓cut_h3, ↓cut_l3, ↓cut_h4, ↓cut_l4, ↓cut_h5, ↓cut_l5, ↓cut_2_4, ↓r_nn, ↓c_eqself, ↓c_neself, ↓br_T, ↓br_F, ↓lit01, ↓lit11, ↓lit21, ↓lit31, ↓lit41, ↓lit61, ↓lit12, ↓lit32, decide_eq_true_eq, decide_eq_false_iff_not, Bool.not_eq_true', Bool.not_eq_false', true_and, and_true, and_self, true_implies, false_implies, implies_true, forall_const, not_true_eq_false, not_false_eq_true, Bool.not_true, Bool.not_false, decide_true, decide_false, reduceCtorEq, List.cons_append, List.nil_append, List.append_assoc, not_false_iff, eq_self, Tg.slots])
open GW in
local macro_rules | `(tactic| walk_at "e2") => `(tactic| simp (maxSteps := 10000000) (disch := (first | assumption | omega | decide)) only [↓Gk11.gl_KINDS, ↓Gk11.gl_TURNED, ↓Gk11.gl_NONE, ↓Gk11.gl_ALL, ↓Gk11.cv_tk0_0, ↓Gk11.cv_tk1_1, ↓Gk11.cv_tk1_0, ↓Gk11.cv_tk2_2, ↓Gk11.cv_tk2_0, ↓Gk11.cw_divisor, ↓Gk11.cw__law_divisor, ↓Gk11.cw_plus, ↓Gk11.cw_minus, ↓Gk11.cw_times, ↓Gk11.cw__law_plus, ↓Gk11.cw__law_minus, ↓Gk11.cw__law_times, ↓Gk11.cw__law_over, ↓Gk11.cw_is_less, ↓Gk11.cw__law_less, ↓GW.nf_scr, ↓GW.len_scr, ↓GW.c_eqscr, ↓GW.ix_scr, ↓we_int, ↓we_bl, ↓we_non, ↓we_str, ↓we_tup, ↓we_lst, ↓wl_nil, ↓wl_cons, ↓we_bin, ↓we_cmp, ↓we_chain, ↓we_ix, ↓we_neg, ↓we_nt, ↓we_ife, ↓we_conj, ↓we_disj, ↓wa_nil, ↓wo_nil, ↓wa_cons, ↓wo_cons, ↓we_call, ↓we_bi, ↓we_isi, ↓we_rev, ↓we_sl, ↓we_mt, ↓we_bop, ↓we_rng, ↓we_zip, ↓we_enum, ↓we_gix, ↓we_glo, ↓ws_nil, ↓ws_set, ↓ws_exp, ↓ws_ret, ↓ws_retN, ↓ws_raise, ↓ws_pass, ↓ws_asgT, ↓ws_par, ↓ws_ite, ↓ws_try, ↓ws_whl, ↓th_nx, ↓th_rt, ↓th_exn, ↓th_bk, ↓th_ct, ↓tk_nx, ↓tk_rt, ↓nf_f, ↓nf_l, ↓nf_i, ↓nf_b, ↓nf_t, ↓nf_n, ↓nf_s, ↓nf_x, ↓br_t, ↓br_f, ↓br_n, ↓br_d, ↓ov_s, ↓cw_o, ↓cw_e, ↓wv0, ↓wo0, ↓wm0, ↓wn0, ↓se0f, ↓se0o, ↓sx0, ↓pk0f, ↓pk0o, ↓po0, ↓wv1, ↓wo1, ↓wm1, ↓wn1, ↓se1f, ↓se1o, ↓sx1, ↓pk1f, ↓pk1o, ↓po1, ↓wv2, ↓wo2, ↓wm2, ↓wn2, ↓se2f, ↓se2o, ↓sx2, ↓pk2f, ↓pk2o, ↓po2, ↓wv3, ↓wo3, ↓wm3, ↓wn3, ↓se3f, ↓se3o, ↓sx3, ↓pk3f, ↓pk3o, ↓po3, ↓wv4, ↓wo4, ↓wm4, ↓wn4, ↓se4f, ↓se4o, ↓sx4, ↓pk4f, ↓pk4o, ↓po4, ↓wv5, ↓wo5, ↓wm5, ↓wn5, ↓se5f, ↓se5o, ↓sx5, ↓pk5f, ↓pk5o, ↓po5, ↓wv6, ↓wo6, ↓wm6, ↓wn6, ↓se6f, ↓se6o, ↓sx6, ↓pk6f, ↓pk6o, ↓po6, ↓wv7, ↓wo7, ↓wm7, ↓wn7, ↓se7f, ↓se7o, ↓sx7, ↓pk7f, ↓pk7o, ↓po7, ↓wv8, ↓wo8, ↓wm8, ↓wn8, ↓se8f, ↓se8o, ↓sx8, ↓pk8f, ↓pk8o, ↓po8, ↓wv9, ↓wo9, ↓wm9, ↓wn9, ↓se9f, ↓se9o, ↓sx9, ↓pk9f, ↓pk9o, ↓po9, ↓wv10, ↓wo10, ↓wm10, ↓wn10, ↓se10f, ↓se10o, ↓sx10, ↓pk10f, ↓pk10o, ↓po10, ↓wv11, ↓wo11, ↓wm11, ↓wn11, ↓se11f, ↓se11o, ↓sx11, ↓pk11f, ↓pk11o, ↓po11, ↓wv12, ↓wo12, ↓wm12, ↓wn12, ↓se12f, ↓se12o, ↓sx12, ↓pk12f, ↓pk12o, ↓po12, ↓wv13, ↓wo13, ↓wm13, ↓wn13, ↓se13f, ↓se13o, ↓sx13, ↓pk13f, ↓pk13o, ↓po13, ↓wv14, ↓wo14, ↓wm14, ↓wn14, ↓se14f, ↓se14o, ↓sx14, ↓pk14f, ↓pk14o, ↓po14, ↓wv15, ↓wo15, ↓wm15, ↓wn15, ↓se15f, ↓se15o, ↓sx15, ↓pk15f, ↓pk15o, ↓po15, ↓wv16, ↓wo16, ↓wm16, ↓wn16, ↓se16f, ↓se16o, ↓sx16, ↓pk16f, ↓pk16o, ↓po16, ↓wv17, ↓wo17, ↓wm17, ↓wn17, ↓se17f, ↓se17o, ↓sx17, ↓pk17f, ↓pk17o, ↓po17, ↓wv18, ↓wo18, ↓wm18, ↓wn18, ↓se18f, ↓se18o, ↓sx18, ↓pk18f, ↓pk18o, ↓po18, ↓wv19, ↓wo19, ↓wm19, ↓wn19, ↓se19f, ↓se19o, ↓sx19, ↓pk19f, ↓pk19o, ↓po19, ↓wv20, ↓wo20, ↓wm20, ↓wn20, ↓se20f, ↓se20o, ↓sx20, ↓pk20f, ↓pk20o, ↓po20, ↓wv21, ↓wo21, ↓wm21, ↓wn21, ↓se21f, ↓se21o, ↓sx21, ↓pk21f, ↓pk21o, ↓po21, ↓wv22, ↓wo22, ↓wm22, ↓wn22, ↓se22f, ↓se22o, ↓sx22, ↓pk22f, ↓pk22o, ↓po22, ↓wv23, ↓wo23, ↓wm23, ↓wn23, ↓se23f, ↓se23o, ↓sx23, ↓pk23f, ↓pk23o, ↓po23, ↓wv24, ↓wo24, ↓wm24, ↓wn24, ↓se24f, ↓se24o, ↓sx24, ↓pk24f, ↓pk24o, ↓po24, ↓wv25, ↓wo25, ↓wm25, ↓wn25, ↓se25f, ↓se25o, ↓sx25, ↓pk25f, ↓pk25o, ↓po25, ↓ses_n, ↓ses_c, ↓sep_n, ↓sep_c, ↓ws_appn, ↓ws_extn, ↓b_add, ↓b_addl, ↓b_addt, ↓b_sub, ↓b_mul, ↓b_fdiv, ↓b_mod, ↓b_pow, ↓c_lt, ↓c_le, ↓c_gt, ↓c_ge, ↓c_eq, ↓c_ne, ↓is_n, ↓isn_n, ↓is_b, ↓isn_b, ↓is_i, ↓isn_i, ↓is_s, ↓isn_s, ↓is_t, ↓isn_t, ↓is_l, ↓isn_l, ↓is_x, ↓isn_x, ↓isn_bb, ↓b_mult, ↓is_bb, ↓ix_tup0, ↓ix_lst0, ↓ix_tup1, ↓ix_lst1, ↓ix_tup2, ↓ix_lst2, ↓ix_tup3, ↓ix_lst3, ↓ix_tup4, ↓ix_lst4, ↓ix_tup5, ↓ix_lst5, ↓ix_tup6, ↓ix_lst6, ↓ix_tup7, ↓ix_lst7, ↓ix_tup8, ↓ix_lst8, ↓ix_tup9, ↓ix_lst9, ↓ix_tup10, ↓ix_lst10, ↓ix_tup11, ↓ix_lst11, ↓ix_tup12, ↓ix_lst12, ↓ix_tup13, ↓ix_lst13, ↓ix_tup14, ↓ix_lst14, ↓ix_tup15, ↓ix_lst15, ↓ng, ↓up_t, ↓up_l, ↓it_t, ↓it_l, ↓ls_l, ↓pt_n, ↓pt_i, ↓rg1, ↓rg2, ↓bi_lenl, ↓bi_lent, ↓bi_abs, ↓bi_lil, ↓bi_lit, ↓bi_tul, ↓bi_tut, ↓rv_l, ↓ii_non_int, ↓ii_non_bool, ↓ii_non_str, ↓ii_non_tuple, ↓ii_non_list, ↓ii_bl_int, ↓ii_bl_bool, ↓ii_bl_str, ↓ii_bl_tuple, ↓ii_bl_list, ↓ii_int_int, ↓ii_int_bool, ↓ii_int_str, ↓ii_int_tuple, ↓ii_int_list, ↓ii_str_int, ↓ii_str_bool, ↓ii_str_str, ↓ii_str_tuple, ↓ii_str_list, ↓ii_tup_int, ↓ii_tup_bool, ↓ii_tup_str, ↓ii_tup_tuple, ↓ii_tup_list, ↓ii_lst_int, ↓ii_lst_bool, ↓ii_lst_str, ↓ii_lst_tuple, ↓ii_lst_list, ↓nf_fr, ↓ix_fr0, ↓ix_fr1, ↓ii_fr_t, ↓len_fr, ↓c_eqfr, ↓c_nefr, ↓ri_rt, ↓ri_nx, ↓ri_ex, ↓ri_rx, ↓ri_xr, ↓gd_nx, ↓gd_rt, ↓gd_ex, ↓ok_rt, ↓ws_forW, ↓ws_brk, ↓ws_cont, ↓lq_nx, ↓lq_ct, ↓lq_bk, ↓lq_rt, ↓lq_exn, ↓iq_nx, ↓iq_ct, ↓iq_bk, ↓iq_rt, ↓iq_exn, ↓st_n, ↓st_t, ↓sts_n, ↓sts_c, ↓we_lc, ↓now_n, ↓now_c, ↓gs_0, ↓gs_s, ↓io_f, ↓io_n, ↓wp_n, ↓wp_c, ↓ck_even, ↓cn_even, ↓ck_in, ↓cn_in, ↓ck_out, ↓cn_out, ↓ck_both, ↓cn_both, ↓ck_hold, ↓cn_hold, ↓ck_jump, ↓cn_jump, ↓ck_kept, ↓cn_kept, ↓ci_hj, ↓cj_hj, ↓ci_bk, ↓cj_bk, ↓ci_kinds, ↓cj_kinds, ↓gx_turn, ↓up_fr, ↓ok_i, ↓ok_ii, ↓turn_turn, ↓sl_t, ↓sl_l, ↓cut_h1, ↓cut_l1, ↓cut_h2, ↓cut_l2, ↓cut_h3, ↓cut_l3, ↓cut_h4, ↓cut_l4, ↓cut_h5, ↓cut_l5, ↓cut_2_4, ↓r_nn, ↓lit01, ↓lit11, ↓lit21, ↓lit31, ↓lit41, ↓lit61, ↓lit12, ↓lit32, decide_eq_true_eq, decide_eq_false_iff_not, Bool.not_eq_true', Bool.not_eq_false', true_and, and_true, and_self, true_implies, false_implies, implies_true, forall_const, not_true_eq_false, not_false_eq_true, Bool.not_true, Bool.not_false, decide_true, decide_false, reduceCtorEq, List.cons_append, List.nil_append, List.append_assoc, not_false_iff, eq_self, Tg.slots])
open GW in
local macro_rules | `(tactic| walk_at "e1u") => `(tactic| simp (maxSteps := 10000000) (disch := (first | assumption | omega | decide)) only [↓Gk11.gl_KINDS, ↓Gk11.gl_TURNED, ↓Gk11.gl_NONE, ↓Gk11.gl_ALL, ↓Gk11.cv_tk0_0, ↓Gk11.cv_tk1_1, ↓Gk11.cv_tk1_0, ↓Gk11.cv_tk2_2, ↓Gk11.cv_tk2_0, ↓Gk11.cw_divisor, ↓Gk11.cw__law_divisor, ↓Gk11.cw_plus, ↓Gk11.cw_minus, ↓Gk11.cw_times, ↓Gk11.cw__law_plus, ↓Gk11.cw__law_minus, ↓Gk11.cw__law_times, ↓Gk11.cw__law_over, ↓Gk11.cw_is_less, ↓Gk11.cw__law_less, ↓GW.nf_scr, ↓GW.len_scr, ↓GW.c_eqscr, ↓GW.ix_scr, ↓we_int, ↓we_bl, ↓we_non, ↓we_str, ↓we_tup, ↓we_lst, ↓wl_nil, ↓wl_cons, ↓we_bin, ↓we_cmp, ↓we_chain, ↓we_ix, ↓we_neg, ↓we_nt, ↓we_ife, ↓we_conj, ↓we_disj, ↓wa_nil, ↓wo_nil, ↓wa_cons, ↓wo_cons, ↓we_call, ↓we_bi, ↓we_isi, ↓we_rev, ↓we_sl, ↓we_mt, ↓we_bop, ↓we_rng, ↓we_zip, ↓we_enum, ↓we_gix, ↓we_glo, ↓ws_nil, ↓ws_set, ↓ws_exp, ↓ws_ret, ↓ws_retN, ↓ws_raise, ↓ws_pass, ↓ws_asgT, ↓ws_par, ↓ws_ite, ↓ws_try, ↓ws_whl, ↓th_nx, ↓th_rt, ↓th_exn, ↓th_bk, ↓th_ct, ↓tk_nx, ↓tk_rt, ↓nf_f, ↓nf_l, ↓nf_i, ↓nf_b, ↓nf_t, ↓nf_n, ↓nf_s, ↓nf_x, ↓br_t, ↓br_f, ↓br_n, ↓ov_s, ↓cw_o, ↓cw_e, ↓wv0, ↓wo0, ↓wm0, ↓wn0, ↓se0f, ↓se0o, ↓sx0, ↓pk0f, ↓pk0o, ↓po0, ↓wv1, ↓wo1, ↓wm1, ↓wn1, ↓se1f, ↓se1o, ↓sx1, ↓pk1f, ↓pk1o, ↓po1, ↓wv2, ↓wo2, ↓wm2, ↓wn2, ↓se2f, ↓se2o, ↓sx2, ↓pk2f, ↓pk2o, ↓po2, ↓wv3, ↓wo3, ↓wm3, ↓wn3, ↓se3f, ↓se3o, ↓sx3, ↓pk3f, ↓pk3o, ↓po3, ↓wv4, ↓wo4, ↓wm4, ↓wn4, ↓se4f, ↓se4o, ↓sx4, ↓pk4f, ↓pk4o, ↓po4, ↓wv5, ↓wo5, ↓wm5, ↓wn5, ↓se5f, ↓se5o, ↓sx5, ↓pk5f, ↓pk5o, ↓po5, ↓wv6, ↓wo6, ↓wm6, ↓wn6, ↓se6f, ↓se6o, ↓sx6, ↓pk6f, ↓pk6o, ↓po6, ↓wv7, ↓wo7, ↓wm7, ↓wn7, ↓se7f, ↓se7o, ↓sx7, ↓pk7f, ↓pk7o, ↓po7, ↓wv8, ↓wo8, ↓wm8, ↓wn8, ↓se8f, ↓se8o, ↓sx8, ↓pk8f, ↓pk8o, ↓po8, ↓wv9, ↓wo9, ↓wm9, ↓wn9, ↓se9f, ↓se9o, ↓sx9, ↓pk9f, ↓pk9o, ↓po9, ↓wv10, ↓wo10, ↓wm10, ↓wn10, ↓se10f, ↓se10o, ↓sx10, ↓pk10f, ↓pk10o, ↓po10, ↓wv11, ↓wo11, ↓wm11, ↓wn11, ↓se11f, ↓se11o, ↓sx11, ↓pk11f, ↓pk11o, ↓po11, ↓wv12, ↓wo12, ↓wm12, ↓wn12, ↓se12f, ↓se12o, ↓sx12, ↓pk12f, ↓pk12o, ↓po12, ↓wv13, ↓wo13, ↓wm13, ↓wn13, ↓se13f, ↓se13o, ↓sx13, ↓pk13f, ↓pk13o, ↓po13, ↓wv14, ↓wo14, ↓wm14, ↓wn14, ↓se14f, ↓se14o, ↓sx14, ↓pk14f, ↓pk14o, ↓po14, ↓wv15, ↓wo15, ↓wm15, ↓wn15, ↓se15f, ↓se15o, ↓sx15, ↓pk15f, ↓pk15o, ↓po15, ↓wv16, ↓wo16, ↓wm16, ↓wn16, ↓se16f, ↓se16o, ↓sx16, ↓pk16f, ↓pk16o, ↓po16, ↓wv17, ↓wo17, ↓wm17, ↓wn17, ↓se17f, ↓se17o, ↓sx17, ↓pk17f, ↓pk17o, ↓po17, ↓wv18, ↓wo18, ↓wm18, ↓wn18, ↓se18f, ↓se18o, ↓sx18, ↓pk18f, ↓pk18o, ↓po18, ↓wv19, ↓wo19, ↓wm19, ↓wn19, ↓se19f, ↓se19o, ↓sx19, ↓pk19f, ↓pk19o, ↓po19, ↓wv20, ↓wo20, ↓wm20, ↓wn20, ↓se20f, ↓se20o, ↓sx20, ↓pk20f, ↓pk20o, ↓po20, ↓wv21, ↓wo21, ↓wm21, ↓wn21, ↓se21f, ↓se21o, ↓sx21, ↓pk21f, ↓pk21o, ↓po21, ↓wv22, ↓wo22, ↓wm22, ↓wn22, ↓se22f, ↓se22o, ↓sx22, ↓pk22f, ↓pk22o, ↓po22, ↓wv23, ↓wo23, ↓wm23, ↓wn23, ↓se23f, ↓se23o, ↓sx23, ↓pk23f, ↓pk23o, ↓po23, ↓wv24, ↓wo24, ↓wm24, ↓wn24, ↓se24f, ↓se24o, ↓sx24, ↓pk24f, ↓pk24o, ↓po24, ↓wv25, ↓wo25, ↓wm25, ↓wn25, ↓se25f, ↓se25o, ↓sx25, ↓pk25f, ↓pk25o, ↓po25, ↓ses_n, ↓ses_c, ↓sep_n, ↓sep_c, ↓ws_appn, ↓ws_extn, ↓b_add, ↓b_addl, ↓b_addt, ↓b_sub, ↓b_mul, ↓b_fdiv, ↓b_mod, ↓b_pow, ↓c_lt, ↓c_le, ↓c_gt, ↓c_ge, ↓c_eq, ↓c_ne, ↓is_n, ↓isn_n, ↓is_b, ↓isn_b, ↓is_i, ↓isn_i, ↓is_s, ↓isn_s, ↓is_t, ↓isn_t, ↓is_l, ↓isn_l, ↓is_x, ↓isn_x, ↓isn_bb, ↓b_mult, ↓is_bb, ↓ix_tup0, ↓ix_lst0, ↓ix_tup1, ↓ix_lst1, ↓ix_tup2, ↓ix_lst2, ↓ix_tup3, ↓ix_lst3, ↓ix_tup4, ↓ix_lst4, ↓ix_tup5, ↓ix_lst5, ↓ix_tup6, ↓ix_lst6, ↓ix_tup7, ↓ix_lst7, ↓ix_tup8, ↓ix_lst8, ↓ix_tup9, ↓ix_lst9, ↓ix_tup10, ↓ix_lst10, ↓ix_tup11, ↓ix_lst11, ↓ix_tup12, ↓ix_lst12, ↓ix_tup13, ↓ix_lst13, ↓ix_tup14, ↓ix_lst14, ↓ix_tup15, ↓ix_lst15, ↓ng, ↓up_t, ↓up_l, ↓it_t, ↓it_l, ↓ls_l, ↓pt_n, ↓pt_i, ↓rg1, ↓rg2, ↓bi_lenl, ↓bi_lent, ↓bi_abs, ↓bi_lil, ↓bi_lit, ↓bi_tul, ↓bi_tut, ↓rv_l, ↓ii_non_int, ↓ii_non_bool, ↓ii_non_str, ↓ii_non_tuple, ↓ii_non_list, ↓ii_bl_int, ↓ii_bl_bool, ↓ii_bl_str, ↓ii_bl_tuple, ↓ii_bl_list, ↓ii_int_int, ↓ii_int_bool, ↓ii_int_str, ↓ii_int_tuple, ↓ii_int_list, ↓ii_str_int, ↓ii_str_bool, ↓ii_str_str, ↓ii_str_tuple, ↓ii_str_list, ↓ii_tup_int, ↓ii_tup_bool, ↓ii_tup_str, ↓ii_tup_tuple, ↓ii_tup_list, ↓ii_lst_int, ↓ii_lst_bool, ↓ii_lst_str, ↓ii_lst_tuple, ↓ii_lst_list, ↓nf_fr, ↓ix_fr0, ↓ix_fr1, ↓ii_fr_t, ↓len_fr, ↓c_eqfr, ↓c_nefr, ↓c_eqfrs, ↓c_nefrs, ↓c_eqbs, ↓c_nebs, ↓ri_rt, ↓ri_nx, ↓ri_ex, ↓ri_rx, ↓ri_xr, ↓gd_nx, ↓gd_rt, ↓gd_ex, ↓ok_rt, ↓ws_forW, ↓ws_brk, ↓ws_cont, ↓lq_nx, ↓lq_ct, ↓lq_bk, ↓lq_rt, ↓lq_exn, ↓iq_nx, ↓iq_ct, ↓iq_bk, ↓iq_rt, ↓iq_exn, ↓st_n, ↓st_t, ↓sts_n, ↓sts_c, ↓we_lc, ↓now_n, ↓now_c, ↓gs_0, ↓gs_s, ↓io_f, ↓io_n, ↓wp_n, ↓wp_c, ↓ck_even, ↓cn_even, ↓ck_in, ↓cn_in, ↓ck_out, ↓cn_out, ↓ck_both, ↓cn_both, ↓ck_hold, ↓cn_hold, ↓ck_jump, ↓cn_jump, ↓ck_kept, ↓cn_kept, ↓ci_hj, ↓cj_hj, ↓ci_bk, ↓cj_bk, ↓ci_kinds, ↓cj_kinds, ↓gx_turn, ↓up_fr, ↓ok_i, ↓ok_ii, ↓turn_turn, ↓sl_t, ↓sl_l, ↓cut_h1, ↓cut_l1, ↓cut_h2, ↓cut_l2, ↓cut_h3, ↓cut_l3, ↓cut_h4, ↓cut_l4, ↓cut_h5, ↓cut_l5, ↓cut_2_4, ↓r_nn, ↓c_eqself, ↓c_neself, ↓br_T, ↓br_F, ↓lit01, ↓lit11, ↓lit21, ↓lit31, ↓lit41, ↓lit61, ↓lit12, ↓lit32, ↓wf_nil, ↓wf_cons, ↓ov_lcf, ↓ov_col_n, ↓ov_col_c, ↓optL_n, ↓optL_s, decide_eq_true_eq, decide_eq_false_iff_not, Bool.not_eq_true', Bool.not_eq_false', true_and, and_true, and_self, true_implies, false_implies, implies_true, forall_const, not_true_eq_false, not_false_eq_true, Bool.not_true, Bool.not_false, decide_true, decide_false, reduceCtorEq, List.cons_append, List.nil_append, List.append_assoc, not_false_iff, eq_self, Tg.slots])
open GW in
local macro_rules | `(tactic| walk_at "e2u") => `(tactic| simp (maxSteps := 10000000) (disch := (first | assumption | omega | decide)) only [↓Gk11.gl_KINDS, ↓Gk11.gl_TURNED, ↓Gk11.gl_NONE, ↓Gk11.gl_ALL, ↓Gk11.cv_tk0_0, ↓Gk11.cv_tk1_1, ↓Gk11.cv_tk1_0, ↓Gk11.cv_tk2_2, ↓Gk11.cv_tk2_0, ↓Gk11.cw_divisor, ↓Gk11.cw__law_divisor, ↓Gk11.cw_plus, ↓Gk11.cw_minus, ↓Gk11.cw_times, ↓Gk11.cw__law_plus, ↓Gk11.cw__law_minus, ↓Gk11.cw__law_times, ↓Gk11.cw__law_over, ↓Gk11.cw_is_less, ↓Gk11.cw__law_less, ↓GW.nf_scr, ↓GW.len_scr, ↓GW.c_eqscr, ↓GW.ix_scr, ↓we_int, ↓we_bl, ↓we_non, ↓we_str, ↓we_tup, ↓we_lst, ↓wl_nil, ↓wl_cons, ↓we_bin, ↓we_cmp, ↓we_chain, ↓we_ix, ↓we_neg, ↓we_nt, ↓we_ife, ↓we_conj, ↓we_disj, ↓wa_nil, ↓wo_nil, ↓wa_cons, ↓wo_cons, ↓we_call, ↓we_bi, ↓we_isi, ↓we_rev, ↓we_sl, ↓we_mt, ↓we_bop, ↓we_rng, ↓we_zip, ↓we_enum, ↓we_gix, ↓we_glo, ↓ws_nil, ↓ws_set, ↓ws_exp, ↓ws_ret, ↓ws_retN, ↓ws_raise, ↓ws_pass, ↓ws_asgT, ↓ws_par, ↓ws_ite, ↓ws_try, ↓ws_whl, ↓th_nx, ↓th_rt, ↓th_exn, ↓th_bk, ↓th_ct, ↓tk_nx, ↓tk_rt, ↓nf_f, ↓nf_l, ↓nf_i, ↓nf_b, ↓nf_t, ↓nf_n, ↓nf_s, ↓nf_x, ↓br_t, ↓br_f, ↓br_n, ↓br_d, ↓ov_s, ↓cw_o, ↓cw_e, ↓wv0, ↓wo0, ↓wm0, ↓wn0, ↓se0f, ↓se0o, ↓sx0, ↓pk0f, ↓pk0o, ↓po0, ↓wv1, ↓wo1, ↓wm1, ↓wn1, ↓se1f, ↓se1o, ↓sx1, ↓pk1f, ↓pk1o, ↓po1, ↓wv2, ↓wo2, ↓wm2, ↓wn2, ↓se2f, ↓se2o, ↓sx2, ↓pk2f, ↓pk2o, ↓po2, ↓wv3, ↓wo3, ↓wm3, ↓wn3, ↓se3f, ↓se3o, ↓sx3, ↓pk3f, ↓pk3o, ↓po3, ↓wv4, ↓wo4, ↓wm4, ↓wn4, ↓se4f, ↓se4o, ↓sx4, ↓pk4f, ↓pk4o, ↓po4, ↓wv5, ↓wo5, ↓wm5, ↓wn5, ↓se5f, ↓se5o, ↓sx5, ↓pk5f, ↓pk5o, ↓po5, ↓wv6, ↓wo6, ↓wm6, ↓wn6, ↓se6f, ↓se6o, ↓sx6, ↓pk6f, ↓pk6o, ↓po6, ↓wv7, ↓wo7, ↓wm7, ↓wn7, ↓se7f, ↓se7o, ↓sx7, ↓pk7f, ↓pk7o, ↓po7, ↓wv8, ↓wo8, ↓wm8, ↓wn8, ↓se8f, ↓se8o, ↓sx8, ↓pk8f, ↓pk8o, ↓po8, ↓wv9, ↓wo9, ↓wm9, ↓wn9, ↓se9f, ↓se9o, ↓sx9, ↓pk9f, ↓pk9o, ↓po9, ↓wv10, ↓wo10, ↓wm10, ↓wn10, ↓se10f, ↓se10o, ↓sx10, ↓pk10f, ↓pk10o, ↓po10, ↓wv11, ↓wo11, ↓wm11, ↓wn11, ↓se11f, ↓se11o, ↓sx11, ↓pk11f, ↓pk11o, ↓po11, ↓wv12, ↓wo12, ↓wm12, ↓wn12, ↓se12f, ↓se12o, ↓sx12, ↓pk12f, ↓pk12o, ↓po12, ↓wv13, ↓wo13, ↓wm13, ↓wn13, ↓se13f, ↓se13o, ↓sx13, ↓pk13f, ↓pk13o, ↓po13, ↓wv14, ↓wo14, ↓wm14, ↓wn14, ↓se14f, ↓se14o, ↓sx14, ↓pk14f, ↓pk14o, ↓po14, ↓wv15, ↓wo15, ↓wm15, ↓wn15, ↓se15f, ↓se15o, ↓sx15, ↓pk15f, ↓pk15o, ↓po15, ↓wv16, ↓wo16, ↓wm16, ↓wn16, ↓se16f, ↓se16o, ↓sx16, ↓pk16f, ↓pk16o, ↓po16, ↓wv17, ↓wo17, ↓wm17, ↓wn17, ↓se17f, ↓se17o, ↓sx17, ↓pk17f, ↓pk17o, ↓po17, ↓wv18, ↓wo18, ↓wm18, ↓wn18, ↓se18f, ↓se18o, ↓sx18, ↓pk18f, ↓pk18o, ↓po18, ↓wv19, ↓wo19, ↓wm19, ↓wn19, ↓se19f, ↓se19o, ↓sx19, ↓pk19f, ↓pk19o, ↓po19, ↓wv20, ↓wo20, ↓wm20, ↓wn20, ↓se20f, ↓se20o, ↓sx20, ↓pk20f, ↓pk20o, ↓po20, ↓wv21, ↓wo21, ↓wm21, ↓wn21, ↓se21f, ↓se21o, ↓sx21, ↓pk21f, ↓pk21o, ↓po21, ↓wv22, ↓wo22, ↓wm22, ↓wn22, ↓se22f, ↓se22o, ↓sx22, ↓pk22f, ↓pk22o, ↓po22, ↓wv23, ↓wo23, ↓wm23, ↓wn23, ↓se23f, ↓se23o, ↓sx23, ↓pk23f, ↓pk23o, ↓po23, ↓wv24, ↓wo24, ↓wm24, ↓wn24, ↓se24f, ↓se24o, ↓sx24, ↓pk24f, ↓pk24o, ↓po24, ↓wv25, ↓wo25, ↓wm25, ↓wn25, ↓se25f, ↓se25o, ↓sx25, ↓pk25f, ↓pk25o, ↓po25, ↓ses_n, ↓ses_c, ↓sep_n, ↓sep_c, ↓ws_appn, ↓ws_extn, ↓b_add, ↓b_addl, ↓b_addt, ↓b_sub, ↓b_mul, ↓b_fdiv, ↓b_mod, ↓b_pow, ↓c_lt, ↓c_le, ↓c_gt, ↓c_ge, ↓c_eq, ↓c_ne, ↓is_n, ↓isn_n, ↓is_b, ↓isn_b, ↓is_i, ↓isn_i, ↓is_s, ↓isn_s, ↓is_t, ↓isn_t, ↓is_l, ↓isn_l, ↓is_x, ↓isn_x, ↓isn_bb, ↓b_mult, ↓is_bb, ↓ix_tup0, ↓ix_lst0, ↓ix_tup1, ↓ix_lst1, ↓ix_tup2, ↓ix_lst2, ↓ix_tup3, ↓ix_lst3, ↓ix_tup4, ↓ix_lst4, ↓ix_tup5, ↓ix_lst5, ↓ix_tup6, ↓ix_lst6, ↓ix_tup7, ↓ix_lst7, ↓ix_tup8, ↓ix_lst8, ↓ix_tup9, ↓ix_lst9, ↓ix_tup10, ↓ix_lst10, ↓ix_tup11, ↓ix_lst11, ↓ix_tup12, ↓ix_lst12, ↓ix_tup13, ↓ix_lst13, ↓ix_tup14, ↓ix_lst14, ↓ix_tup15, ↓ix_lst15, ↓ng, ↓up_t, ↓up_l, ↓it_t, ↓it_l, ↓ls_l, ↓pt_n, ↓pt_i, ↓rg1, ↓rg2, ↓bi_lenl, ↓bi_lent, ↓bi_abs, ↓bi_lil, ↓bi_lit, ↓bi_tul, ↓bi_tut, ↓rv_l, ↓ii_non_int, ↓ii_non_bool, ↓ii_non_str, ↓ii_non_tuple, ↓ii_non_list, ↓ii_bl_int, ↓ii_bl_bool, ↓ii_bl_str, ↓ii_bl_tuple, ↓ii_bl_list, ↓ii_int_int, ↓ii_int_bool, ↓ii_int_str, ↓ii_int_tuple, ↓ii_int_list, ↓ii_str_int, ↓ii_str_bool, ↓ii_str_str, ↓ii_str_tuple, ↓ii_str_list, ↓ii_tup_int, ↓ii_tup_bool, ↓ii_tup_str, ↓ii_tup_tuple, ↓ii_tup_list, ↓ii_lst_int, ↓ii_lst_bool, ↓ii_lst_str, ↓ii_lst_tuple, ↓ii_lst_list, ↓nf_fr, ↓ix_fr0, ↓ix_fr1, ↓ii_fr_t, ↓len_fr, ↓c_eqfr, ↓c_nefr, ↓ri_rt, ↓ri_nx, ↓ri_ex, ↓ri_rx, ↓ri_xr, ↓gd_nx, ↓gd_rt, ↓gd_ex, ↓ok_rt, ↓ws_forW, ↓ws_brk, ↓ws_cont, ↓lq_nx, ↓lq_ct, ↓lq_bk, ↓lq_rt, ↓lq_exn, ↓iq_nx, ↓iq_ct, ↓iq_bk, ↓iq_rt, ↓iq_exn, ↓st_n, ↓st_t, ↓sts_n, ↓sts_c, ↓we_lc, ↓now_n, ↓now_c, ↓gs_0, ↓gs_s, ↓io_f, ↓io_n, ↓wp_n, ↓wp_c, ↓ck_even, ↓cn_even, ↓ck_in, ↓cn_in, ↓ck_out, ↓cn_out, ↓ck_both, ↓cn_both, ↓ck_hold, ↓cn_hold, ↓ck_jump, ↓cn_jump, ↓ck_kept, ↓cn_kept, ↓ci_hj, ↓cj_hj, ↓ci_bk, ↓cj_bk, ↓ci_kinds, ↓cj_kinds, ↓gx_turn, ↓up_fr, ↓ok_i, ↓ok_ii, ↓turn_turn, ↓sl_t, ↓sl_l, ↓cut_h1, ↓cut_l1, ↓cut_h2, ↓cut_l2, ↓cut_h3, ↓cut_l3, ↓cut_h4, ↓cut_l4, ↓cut_h5, ↓cut_l5, ↓cut_2_4, ↓r_nn, ↓lit01, ↓lit11, ↓lit21, ↓lit31, ↓lit41, ↓lit61, ↓lit12, ↓lit32, ↓wf_nil, ↓wf_cons, ↓ov_lcf, ↓ov_col_n, ↓ov_col_c, ↓optL_n, ↓optL_s, decide_eq_true_eq, decide_eq_false_iff_not, Bool.not_eq_true', Bool.not_eq_false', true_and, and_true, and_self, true_implies, false_implies, implies_true, forall_const, not_true_eq_false, not_false_eq_true, Bool.not_true, Bool.not_false, decide_true, decide_false, reduceCtorEq, List.cons_append, List.nil_append, List.append_assoc, not_false_iff, eq_self, Tg.slots])
namespace Gk11
open GW
section
variable {n : Nat} {ρ : Env} {K : D → Bool → Env → Prop} {X : Nat → Env → Prop} {ns : List Int}
theorem rn__law_cell (ok : ScOk ns) (hn : 1 ≤ n) (k : Int) (h0 : 0 ≤ k) (h1 : k ≤ 1000000) : run G n i__law_cell .non [scr ns, .int k] = .ok (.int (cellV ns k)) false .non := by
  obtain ⟨n, rfl⟩ : ∃ m, n = m + 1 := ⟨n - 1, by omega⟩
  refine en__law_cell ?_
  unfold F__law_cell
  by_cases hk : k < ns.length
  · have e : cellV ns k = ns.getD k.toNat 0 := by unfold cellV; rw [if_pos hk]
    walk_at "e1"
    rw [e]
  · by_cases hz : ns = []
    · have e : cellV ns k = 0 := by unfold cellV; rw [if_neg hk, if_pos hz]
      walk_at "e1"
      rw [e]
    · have e : cellV ns k = ns.getD (k.fmod ns.length).toNat 0 * 31 + k := by unfold cellV; rw [if_neg hk, if_neg hz]
      have hl : 0 < ns.length := List.length_pos_iff.mpr hz
      have m0 := Int.fmod_nonneg_of_pos k (b := (ns.length : Int)) (by omega)
      have m1 := Int.fmod_lt_of_pos k (b := (ns.length : Int)) (by omega)
      walk_at "e1"
      rw [e]
      obtain ⟨b, hb, h⟩ := getD_bits ok (k.fmod ns.length).toNat
      have h2 := log2_lt h (by omega)
      have h3 : (31 : Int).natAbs.log2 ≤ 20 := by decide
      exact ⟨by omega, by omega, rfl⟩
theorem rn__law_pick (ok : ScOk ns) (hn : 2 ≤ n) (k m : Int) (h0 : 0 ≤ k) (h1 : k ≤ 1000000) (hm : 0 < m) : run G n i__law_pick .non [scr ns, .int k, .int m] = .ok (.int (pickV ns k m)) false .non := by
  obtain ⟨n, rfl⟩ : ∃ m, n = m + 1 := ⟨n - 1, by omega⟩
  refine en__law_pick ?_
  unfold F__law_pick
  have d := drawn_rng ns k
  walk_at "ev"
  rw [cw_ok (rn__law_cell ok (by omega) k h0 h1)]
  walk_at "ev"
  have l1 : (6151 : Int).natAbs.log2 ≤ 20 := by decide
  have l2 : (k + 1).natAbs.log2 < 60 := int_log (by omega) (by omega)
  have l3 : (drawnV ns k).natAbs.log2 < 60 := int_log (by omega) (by omega)
  have e : ((cellV ns k + 6151 * (k + 1)) * 40692).fmod 2147483399 = drawnV ns k := rfl
  rw [e]
  refine ⟨by omega, draw_ok ok h0 h1, by decide, by omega, ⟨by decide, by decide⟩, by decide, by omega, rfl⟩
theorem cw__law_pick (ok : ScOk ns) (hn : 2 ≤ n) {k m : Int} (h0 : 0 ≤ k) (h1 : k ≤ 1000000) (hm : 0 < m) : CW ((Prog.rt G (run G n) false).call i__law_pick .non [scr ns, .int k, .int m]) ρ K X = K (.int (pickV ns k m)) false ρ := cw_ok (rn__law_pick ok hn k m h0 h1 hm)
end
end Gk11
end

section
open GW in
local macro_rules | `(tactic| walk_at "ev") => `(tactic| simp only [↓we_int, ↓we_bl, ↓we_non, ↓we_str, ↓we_tup, ↓we_lst, ↓wl_nil, ↓wl_cons, ↓we_bin, ↓we_cmp, ↓we_chain, ↓we_ix, ↓we_neg, ↓we_nt, ↓we_ife, ↓we_conj, ↓we_disj, ↓wa_nil, ↓wo_nil, ↓wa_cons, ↓wo_cons, ↓we_call, ↓we_bi, ↓we_isi, ↓we_rev, ↓we_sl, ↓we_mt, ↓we_bop, ↓we_rng, ↓we_zip, ↓we_enum, ↓we_gix, ↓we_glo, ↓ws_nil, ↓ws_set, ↓ws_exp, ↓ws_ret, ↓ws_retN, ↓ws_raise, ↓ws_pass, ↓ws_asgT, ↓ws_par, ↓ws_ite, ↓ws_try, ↓ws_whl, ↓th_nx, ↓th_rt, ↓th_exn, ↓th_bk, ↓th_ct, ↓tk_nx, ↓tk_rt, ↓nf_f, ↓nf_l, ↓nf_i, ↓nf_b, ↓nf_t, ↓nf_n, ↓nf_s, ↓nf_x, ↓br_t, ↓br_f, ↓br_n, ↓br_d, ↓ov_s, ↓cw_o, ↓cw_e, ↓wv0, ↓wo0, ↓wm0, ↓wn0, ↓se0f, ↓se0o, ↓sx0, ↓pk0f, ↓pk0o, ↓po0, ↓wv1, ↓wo1, ↓wm1, ↓wn1, ↓se1f, ↓se1o, ↓sx1, ↓pk1f, ↓pk1o, ↓po1, ↓wv2, ↓wo2, ↓wm2, ↓wn2, ↓se2f, ↓se2o, ↓sx2, ↓pk2f, ↓pk2o, ↓po2, ↓wv3, ↓wo3, ↓wm3, ↓wn3, ↓se3f, ↓se3o, ↓sx3, ↓pk3f, ↓pk3o, ↓po3, ↓wv4, ↓wo4, ↓wm4, ↓wn4, ↓se4f, ↓se4o, ↓sx4, ↓pk4f, ↓pk4o, ↓po4, ↓wv5, ↓wo5, ↓wm5, ↓wn5, ↓se5f, ↓se5o, ↓sx5, ↓pk5f, ↓pk5o, ↓po5, ↓wv6, ↓wo6, ↓wm6, ↓wn6, ↓se6f, ↓se6o, ↓sx6, ↓pk6f, ↓pk6o, ↓po6, ↓wv7, ↓wo7, ↓wm7, ↓wn7, ↓se7f, ↓se7o, ↓sx7, ↓pk7f, ↓pk7o, ↓po7, ↓wv8, ↓wo8, ↓wm8, ↓wn8, ↓se8f, ↓se8o, ↓sx8, ↓pk8f, ↓pk8o, ↓po8, ↓wv9, ↓wo9, ↓wm9, ↓wn9, ↓se9f, ↓se9o, ↓sx9, ↓pk9f, ↓pk9o, ↓po9, ↓wv10, ↓wo10, ↓wm10, ↓wn10, ↓se10f, ↓se10o, ↓sx10, ↓pk10f, ↓pk10o, ↓po10, ↓wv11, ↓wo11, ↓wm11, ↓wn11, ↓se11f, ↓se11o, ↓sx11, ↓pk11f, ↓pk11o, ↓po11, ↓wv12, ↓wo12, ↓wm12, ↓wn12, ↓se12f, ↓se12o, ↓sx12, ↓pk12f, ↓pk12o, ↓po12, ↓wv13, ↓wo13, ↓wm13, ↓wn13, ↓se13f, ↓se13o, ↓sx13, ↓pk13f, ↓pk13o, ↓po13, ↓wv14, ↓wo14, ↓wm14, ↓wn14, ↓se14f, ↓se14o, ↓sx14, ↓pk14f, ↓pk14o, ↓po14, ↓wv15, ↓wo15, ↓wm15, ↓wn15, ↓se15f, ↓se15o, ↓sx15, ↓pk15f, ↓pk15o, ↓po15, ↓wv16, ↓wo16, ↓wm16, ↓wn16, ↓se16f, ↓se16o, ↓sx16, ↓pk16f, ↓pk16o, ↓po16, ↓wv17, ↓wo17, ↓wm17, ↓wn17, ↓se17f, ↓se17o, ↓sx17, ↓pk17f, ↓pk17o, ↓po17, ↓wv18, ↓wo18, ↓wm18, ↓wn18, ↓se18f, ↓se18o, ↓sx18, ↓pk18f, ↓pk18o, ↓po18, ↓wv19, ↓wo19, ↓wm19, ↓wn19, ↓se19f, ↓se19o, ↓sx19, ↓pk19f, ↓pk19o, ↓po19, ↓wv20, ↓wo20, ↓wm20, ↓wn20, ↓se20f, ↓se20o, ↓sx20, ↓pk20f, ↓pk20o, ↓po20, ↓wv21, ↓wo21, ↓wm21, ↓wn21, ↓se21f, ↓se21o, ↓sx21, ↓pk21f, ↓pk21o, ↓po21, ↓wv22, ↓wo22, ↓wm22, ↓wn22, ↓se22f, ↓se22o, ↓sx22, ↓pk22f, ↓pk22o, ↓po22, ↓wv23, ↓wo23, ↓wm23, ↓wn23, ↓se23f, ↓se23o, ↓sx23, ↓pk23f, ↓pk23o, ↓po23, ↓wv24, ↓wo24, ↓wm24, ↓wn24, ↓se24f, ↓se24o, ↓sx24, ↓pk24f, ↓pk24o, ↓po24, ↓wv25, ↓wo25, ↓wm25, ↓wn25, ↓se25f, ↓se25o, ↓sx25, ↓pk25f, ↓pk25o, ↓po25, ↓ses_n, ↓ses_c, ↓sep_n, ↓sep_c, ↓ws_appn, ↓ws_extn, ↓b_add, ↓b_addl, ↓b_addt, ↓b_sub, ↓b_mul, ↓b_fdiv, ↓b_mod, ↓b_pow, ↓c_lt, ↓c_le, ↓c_gt, ↓c_ge, ↓c_eq, ↓c_ne, ↓is_n, ↓isn_n, ↓is_b, ↓isn_b, ↓is_i, ↓isn_i, ↓is_s, ↓isn_s, ↓is_t, ↓isn_t, ↓is_l, ↓isn_l, ↓is_x, ↓isn_x, ↓isn_bb, ↓b_mult, ↓is_bb, ↓ix_tup0, ↓ix_lst0, ↓ix_tup1, ↓ix_lst1, ↓ix_tup2, ↓ix_lst2, ↓ix_tup3, ↓ix_lst3, ↓ix_tup4, ↓ix_lst4, ↓ix_tup5, ↓ix_lst5, ↓ix_tup6, ↓ix_lst6, ↓ix_tup7, ↓ix_lst7, ↓ix_tup8, ↓ix_lst8, ↓ix_tup9, ↓ix_lst9, ↓ix_tup10, ↓ix_lst10, ↓ix_tup11, ↓ix_lst11, ↓ix_tup12, ↓ix_lst12, ↓ix_tup13, ↓ix_lst13, ↓ix_tup14, ↓ix_lst14, ↓ix_tup15, ↓ix_lst15, ↓ng, ↓up_t, ↓up_l, ↓it_t, ↓it_l, ↓ls_l, ↓pt_n, ↓pt_i, ↓rg1, ↓rg2, ↓bi_lenl, ↓bi_lent, ↓bi_abs, ↓bi_lil, ↓bi_lit, ↓bi_tul, ↓bi_tut, ↓rv_l, ↓ii_non_int, ↓ii_non_bool, ↓ii_non_str, ↓ii_non_tuple, ↓ii_non_list, ↓ii_bl_int, ↓ii_bl_bool, ↓ii_bl_str, ↓ii_bl_tuple, ↓ii_bl_list, ↓ii_int_int, ↓ii_int_bool, ↓ii_int_str, ↓ii_int_tuple, ↓ii_int_list, ↓ii_str_int, ↓ii_str_bool, ↓ii_str_str, ↓ii_str_tuple, ↓ii_str_list, ↓ii_tup_int, ↓ii_tup_bool, ↓ii_tup_str, ↓ii_tup_tuple, ↓ii_tup_list, ↓ii_lst_int, ↓ii_lst_bool, ↓ii_lst_str, ↓ii_lst_tuple, ↓ii_lst_list, ↓nf_fr, ↓ix_fr0, ↓ix_fr1, ↓ii_fr_t, ↓len_fr, ↓c_eqfr, ↓c_nefr, ↓ri_rt, ↓ri_nx, ↓ri_ex, ↓ri_rx, ↓ri_xr, ↓gd_nx, ↓gd_rt, ↓gd_ex, ↓ok_rt, ↓ws_forW, ↓ws_brk, ↓ws_cont, ↓lq_nx, ↓lq_ct, ↓lq_bk, ↓lq_rt, ↓lq_exn, ↓iq_nx, ↓iq_ct, ↓iq_bk, ↓iq_rt, ↓iq_exn, ↓st_n, ↓st_t, ↓sts_n, ↓sts_c, ↓we_lc, ↓now_n, ↓now_c, ↓gs_0, ↓gs_s, ↓io_f, ↓io_n, ↓wp_n, ↓wp_c, ↓ck_even, ↓cn_even, ↓ck_in, ↓cn_in, ↓ck_out, ↓cn_out, ↓ck_both, ↓cn_both, ↓ck_hold, ↓cn_hold, ↓ck_jump, ↓cn_jump, ↓ck_kept, ↓cn_kept, ↓ci_hj, ↓cj_hj, ↓ci_bk, ↓cj_bk, ↓ci_kinds, ↓cj_kinds, ↓gx_turn, ↓up_fr, ↓ok_i, ↓ok_ii, ↓turn_turn, ↓sl_t, ↓sl_l, ↓cut_h1, ↓cut_l1, ↓cut_h2, ↓cut_l2, ↓cut_h3, ↓cut_l3, ↓cut_h4, ↓cut_l4, ↓cut_h5, ↓cut_l5, ↓cut_2_4, ↓r_nn, ↓Gk11.gl_KINDS, ↓Gk11.gl_TURNED, ↓Gk11.gl_NONE, ↓Gk11.gl_ALL, decide_eq_true_eq, decide_eq_false_iff_not, Bool.not_eq_true', Bool.not_eq_false', true_and, and_true, and_self, true_implies, false_implies, implies_true, forall_const, not_true_eq_false, not_false_eq_true, Bool.not_true, Bool.not_false, decide_true, decide_false, reduceCtorEq, List.cons_append, List.nil_append, List.append_assoc, not_false_iff, eq_self, Tg.slots])
open GW in
local macro_rules | `(tactic| walk_at "e1") => `(tactic| simp (maxSteps := 10000000) (disch := (first | assumption | omega | decide)) only [↓Gk11.gl_KINDS, ↓Gk11.gl_TURNED, ↓Gk11.gl_NONE, ↓Gk11.gl_ALL, ↓Gk11.cv_tk0_0, ↓Gk11.cv_tk1_1, ↓Gk11.cv_tk1_0, ↓Gk11.cv_tk2_2, ↓Gk11.cv_tk2_0, ↓Gk11.cw_divisor, ↓Gk11.cw__law_divisor, ↓Gk11.cw_plus, ↓Gk11.cw_minus, ↓Gk11.cw_times, ↓Gk11.cw__law_plus, ↓Gk11.cw__law_minus, ↓Gk11.cw__law_times, ↓Gk11.cw__law_over, ↓Gk11.cw_is_less, ↓Gk11.cw__law_less, ↓Gk11.cw__law_pick, ↓we_int, ↓we_bl, ↓we_non, ↓we_str, ↓we_tup, ↓we_lst, ↓wl_nil, ↓wl_cons, ↓we_bin, ↓we_cmp, ↓we_chain, ↓we_ix, ↓we_neg, ↓we_nt, ↓we_ife, ↓we_conj, ↓we_disj, ↓wa_nil, ↓wo_nil, ↓wa_cons, ↓wo_cons, ↓we_call, ↓we_bi, ↓we_isi, ↓we_rev, ↓we_sl, ↓we_mt, ↓we_bop, ↓we_rng, ↓we_zip, ↓we_enum, ↓we_gix, ↓we_glo, ↓ws_nil, ↓ws_set, ↓ws_exp, ↓ws_ret, ↓ws_retN, ↓ws_raise, ↓ws_pass, ↓ws_asgT, ↓ws_par, ↓ws_ite, ↓ws_try, ↓ws_whl, ↓th_nx, ↓th_rt, ↓th_exn, ↓th_bk, ↓th_ct, ↓tk_nx, ↓tk_rt, ↓nf_f, ↓nf_l, ↓nf_i, ↓nf_b, ↓nf_t, ↓nf_n, ↓nf_s, ↓nf_x, ↓br_t, ↓br_f, ↓br_n, ↓ov_s, ↓cw_o, ↓cw_e, ↓wv0, ↓wo0, ↓wm0, ↓wn0, ↓se0f, ↓se0o, ↓sx0, ↓pk0f, ↓pk0o, ↓po0, ↓wv1, ↓wo1, ↓wm1, ↓wn1, ↓se1f, ↓se1o, ↓sx1, ↓pk1f, ↓pk1o, ↓po1, ↓wv2, ↓wo2, ↓wm2, ↓wn2, ↓se2f, ↓se2o, ↓sx2, ↓pk2f, ↓pk2o, ↓po2, ↓wv3, ↓wo3, ↓wm3, ↓wn3, ↓se3f, ↓se3o, ↓sx3, ↓pk3f, ↓pk3o, ↓po3, ↓wv4, ↓wo4, ↓wm4, ↓wn4, ↓se4f, ↓se4o, ↓sx4, ↓pk4f, ↓pk4o, ↓po4, ↓wv5, ↓wo5, ↓wm5, ↓wn5, ↓se5f, ↓se5o, ↓sx5, ↓pk5f, ↓pk5o, ↓po5, ↓wv6, ↓wo6, ↓wm6, ↓wn6, ↓se6f, ↓se6o, ↓sx6, ↓pk6f, ↓pk6o, ↓po6, ↓wv7, ↓wo7, ↓wm7, ↓wn7, ↓se7f, ↓se7o, ↓sx7, ↓pk7f, ↓pk7o, ↓po7, ↓wv8, ↓wo8, ↓wm8, ↓wn8, ↓se8f, ↓se8o, ↓sx8, ↓pk8f, ↓pk8o, ↓po8, ↓wv9, ↓wo9, ↓wm9, ↓wn9, ↓se9f, ↓se9o, ↓sx9, ↓pk9f, ↓pk9o, ↓po9, ↓wv10, ↓wo10, ↓wm10, ↓wn10, ↓se10f, ↓se10o, ↓sx10, ↓pk10f, ↓pk10o, ↓po10, ↓wv11, ↓wo11, ↓wm11, ↓wn11, ↓se11f, ↓se11o, ↓sx11, ↓pk11f, ↓pk11o, ↓po11, ↓wv12, ↓wo12, ↓wm12, ↓wn12, ↓se12f, ↓se12o, ↓sx12, ↓pk12f, ↓pk12o, ↓po12, ↓wv13, ↓wo13, ↓wm13, ↓wn13, ↓se13f, ↓se13o, ↓sx13, ↓pk13f, ↓pk13o, ↓po13, ↓wv14, ↓wo14, ↓wm14, ↓wn14, ↓se14f, ↓se14o, ↓sx14, ↓pk14f, ↓pk14o, ↓po14, ↓wv15, ↓wo15, ↓wm15, ↓wn15, ↓se15f, ↓se15o, ↓sx15, ↓pk15f, ↓pk15o, ↓po15, ↓wv16, ↓wo16, ↓wm16, ↓wn16, ↓se16f, ↓se16o, ↓sx16, ↓pk16f, ↓pk16o, ↓po16, ↓wv17, ↓wo17, ↓wm17, ↓wn17, ↓se17f, ↓se17o, ↓sx17, ↓pk17f, ↓pk17o, ↓po17, ↓wv18, ↓wo18, ↓wm18, ↓wn18, ↓se18f, ↓se18o, ↓sx18, ↓pk18f, ↓pk18o, ↓po18, ↓wv19, ↓wo19, ↓wm19, ↓wn19, ↓se19f, ↓se19o, ↓sx19, ↓pk19f, ↓pk19o, ↓po19, ↓wv20, ↓wo20, ↓wm20, ↓wn20, ↓se20f, ↓se20o, ↓sx20, ↓pk20f, ↓pk20o, ↓po20, ↓wv21, ↓wo21, ↓wm21, ↓wn21, ↓se21f, ↓se21o, ↓sx21, ↓pk21f, ↓pk21o, ↓po21, ↓wv22, ↓wo22, ↓wm22, ↓wn22, ↓se22f, ↓se22o, ↓sx22, ↓pk22f, ↓pk22o, ↓po22, ↓wv23, ↓wo23, ↓wm23, ↓wn23, ↓se23f, ↓se23o, ↓sx23, ↓pk23f, ↓pk23o, ↓po23, ↓wv24, ↓wo24, ↓wm24, ↓wn24, ↓se24f, ↓se24o, ↓sx24, ↓pk24f, ↓pk24o, ↓po24, ↓wv25, ↓wo25, ↓wm25, ↓wn25, ↓se25f, ↓se25o, ↓sx25, ↓pk25f, ↓pk25o, ↓po25, ↓ses_n, ↓ses_c, ↓sep_n, ↓sep_c, ↓ws_appn, ↓ws_extn, ↓b_add, ↓b_addl, ↓b_addt, ↓b_sub, ↓b_mul, ↓b_fdiv, ↓b_mod, ↓b_pow, ↓c_lt, ↓c_le, ↓c_gt, ↓c_ge, ↓c_eq, ↓c_ne, ↓is_n, ↓isn_n, ↓is_b, ↓isn_b, ↓is_i, ↓isn_i, ↓is_s, ↓isn_s, ↓is_t, ↓isn_t, ↓is_l, ↓isn_l, ↓is_x, ↓isn_x, ↓isn_bb, ↓b_mult, ↓is_bb, ↓ix_tup0, ↓ix_lst0, ↓ix_tup1, ↓ix_lst1, ↓ix_tup2, ↓ix_lst2, ↓ix_tup3, ↓ix_lst3, ↓ix_tup4, ↓ix_lst4, ↓ix_tup5, ↓ix_lst5, ↓ix_tup6, ↓ix_lst6, ↓ix_tup7, ↓ix_lst7, ↓ix_tup8, ↓ix_lst8, ↓ix_tup9, ↓ix_lst9, ↓ix_tup10, ↓ix_lst10, ↓ix_tup11, ↓ix_lst11, ↓ix_tup12, ↓ix_lst12, ↓ix_tup13, ↓ix_lst13, ↓ix_tup14, ↓ix_lst14, ↓ix_tup15, ↓ix_lst15, ↓ng, ↓up_t, ↓up_l, ↓it_t, ↓it_l, ↓ls_l, ↓pt_n, ↓pt_i, ↓rg1, ↓rg2, ↓bi_lenl, ↓bi_lent, ↓bi_abs, ↓bi_lil, ↓bi_lit, ↓bi_tul, ↓bi_tut, ↓rv_l, ↓ii_non_int, ↓ii_non_bool, ↓ii_non_str, ↓ii_non_tuple, ↓ii_non_list, ↓ii_bl_int, ↓ii_bl_bool, ↓ii_bl_str, ↓ii_bl_tuple, ↓ii_bl_list, ↓ii_int_int, ↓ii_int_bool, ↓ii_int_str, ↓ii_int_tuple, ↓ii_int_list, ↓ii_str_int, ↓ii_str_bool, ↓ii_str_str, ↓ii_str_tuple, ↓ii_str_list, ↓ii_tup_int, ↓ii_tup_bool, ↓ii_tup_str, ↓ii_tup_tuple, ↓ii_tup_list, ↓ii_lst_int, ↓ii_lst_bool, ↓ii_lst_str, ↓ii_lst_tuple, ↓ii_lst_list, ↓nf_fr, ↓ix_fr0, ↓ix_fr1, ↓ii_fr_t, ↓len_fr, ↓c_eqfr, ↓c_nefr, ↓c_eqfrs, ↓c_nefrs, ↓c_eqbs, ↓c_nebs, ↓ri_rt, ↓ri_nx, ↓ri_ex, ↓ri_rx, ↓ri_xr, ↓gd_nx, ↓gd_rt, ↓gd_ex, ↓ok_rt, ↓ws_forW, ↓ws_brk, ↓ws_cont, ↓lq_nx, ↓lq_ct, ↓lq_bk, ↓lq_rt, ↓lq_exn, ↓iq_nx, ↓iq_ct, ↓iq_bk, ↓iq_rt, ↓iq_exn, ↓st_n, ↓st_t, ↓sts_n, ↓sts_c, ↓we_lc, ↓now_n, ↓now_c, ↓gs_0, ↓gs_s, ↓io_f, ↓io_n, ↓wp_n, ↓wp_c, ↓ck_even, ↓cn_even, ↓ck_in, ↓cn_in, ↓ck_out, ↓cn_out, ↓ck_both, ↓cn_both, ↓ck_hold, ↓cn_hold, ↓ck_jump, ↓cn_jump, ↓ck_kept, ↓cn_kept, ↓ci_hj, ↓cj_hj, ↓ci_bk, ↓cj_bk, ↓ci_kinds, ↓cj_kinds, ↓gx_turn, ↓up_fr, ↓ok_i, ↓ok_ii, ↓turn_turn, ↓sl_t, ↓sl_l, ↓cut_h1, ↓cut_l1, ↓cut_h2, ↓cut_l2, ↓cut_h3, ↓cut_l3, ↓cut_h4, ↓cut_l4, ↓cut_h5, ↓cut_l5, ↓cut_2_4, ↓r_nn, ↓c_eqself, ↓c_neself, ↓br_T, ↓br_F, ↓lit01, ↓lit11, ↓lit21, ↓lit31, ↓lit41, ↓lit61, ↓lit12, ↓lit32, decide_eq_true_eq, decide_eq_false_iff_not, Bool.not_eq_true', Bool.not_eq_false', true_and, and_true, and_self, true_implies, false_implies, implies_true, forall_const, not_true_eq_false, not_false_eq_true, Bool.not_true, Bool.not_false, decide_true, decide_false, reduceCtorEq, List.cons_append, List.nil_append, List.append_assoc, not_false_iff, eq_self, Tg.slots])
open GW in
local macro_rules | `(tactic| walk_at "e2") => `(tactic| simp (maxSteps := 10000000) (disch := (first | assumption | omega | decide)) only [↓Gk11.gl_KINDS, ↓Gk11.gl_TURNED, ↓Gk11.gl_NONE, ↓Gk11.gl_ALL, ↓Gk11.cv_tk0_0, ↓Gk11.cv_tk1_1, ↓Gk11.cv_tk1_0, ↓Gk11.cv_tk2_2, ↓Gk11.cv_tk2_0, ↓Gk11.cw_divisor, ↓Gk11.cw__law_divisor, ↓Gk11.cw_plus, ↓Gk11.cw_minus, ↓Gk11.cw_times, ↓Gk11.cw__law_plus, ↓Gk11.cw__law_minus, ↓Gk11.cw__law_times, ↓Gk11.cw__law_over, ↓Gk11.cw_is_less, ↓Gk11.cw__law_less, ↓Gk11.cw__law_pick, ↓we_int, ↓we_bl, ↓we_non, ↓we_str, ↓we_tup, ↓we_lst, ↓wl_nil, ↓wl_cons, ↓we_bin, ↓we_cmp, ↓we_chain, ↓we_ix, ↓we_neg, ↓we_nt, ↓we_ife, ↓we_conj, ↓we_disj, ↓wa_nil, ↓wo_nil, ↓wa_cons, ↓wo_cons, ↓we_call, ↓we_bi, ↓we_isi, ↓we_rev, ↓we_sl, ↓we_mt, ↓we_bop, ↓we_rng, ↓we_zip, ↓we_enum, ↓we_gix, ↓we_glo, ↓ws_nil, ↓ws_set, ↓ws_exp, ↓ws_ret, ↓ws_retN, ↓ws_raise, ↓ws_pass, ↓ws_asgT, ↓ws_par, ↓ws_ite, ↓ws_try, ↓ws_whl, ↓th_nx, ↓th_rt, ↓th_exn, ↓th_bk, ↓th_ct, ↓tk_nx, ↓tk_rt, ↓nf_f, ↓nf_l, ↓nf_i, ↓nf_b, ↓nf_t, ↓nf_n, ↓nf_s, ↓nf_x, ↓br_t, ↓br_f, ↓br_n, ↓br_d, ↓ov_s, ↓cw_o, ↓cw_e, ↓wv0, ↓wo0, ↓wm0, ↓wn0, ↓se0f, ↓se0o, ↓sx0, ↓pk0f, ↓pk0o, ↓po0, ↓wv1, ↓wo1, ↓wm1, ↓wn1, ↓se1f, ↓se1o, ↓sx1, ↓pk1f, ↓pk1o, ↓po1, ↓wv2, ↓wo2, ↓wm2, ↓wn2, ↓se2f, ↓se2o, ↓sx2, ↓pk2f, ↓pk2o, ↓po2, ↓wv3, ↓wo3, ↓wm3, ↓wn3, ↓se3f, ↓se3o, ↓sx3, ↓pk3f, ↓pk3o, ↓po3, ↓wv4, ↓wo4, ↓wm4, ↓wn4, ↓se4f, ↓se4o, ↓sx4, ↓pk4f, ↓pk4o, ↓po4, ↓wv5, ↓wo5, ↓wm5, ↓wn5, ↓se5f, ↓se5o, ↓sx5, ↓pk5f, ↓pk5o, ↓po5, ↓wv6, ↓wo6, ↓wm6, ↓wn6, ↓se6f, ↓se6o, ↓sx6, ↓pk6f, ↓pk6o, ↓po6, ↓wv7, ↓wo7, ↓wm7, ↓wn7, ↓se7f, ↓se7o, ↓sx7, ↓pk7f, ↓pk7o, ↓po7, ↓wv8, ↓wo8, ↓wm8, ↓wn8, ↓se8f, ↓se8o, ↓sx8, ↓pk8f, ↓pk8o, ↓po8, ↓wv9, ↓wo9, ↓wm9, ↓wn9, ↓se9f, ↓se9o, ↓sx9, ↓pk9f, ↓pk9o, ↓po9, ↓wv10, ↓wo10, ↓wm10, ↓wn10, ↓se10f, ↓se10o, ↓sx10, ↓pk10f, ↓pk10o, ↓po10, ↓wv11, ↓wo11, ↓wm11, ↓wn11, ↓se11f, ↓se11o, ↓sx11, ↓pk11f, ↓pk11o, ↓po11, ↓wv12, ↓wo12, ↓wm12, ↓wn12, ↓se12f, ↓se12o, ↓sx12, ↓pk12f, ↓pk12o, ↓po12, ↓wv13, ↓wo13, ↓wm13, ↓wn13, ↓se13f, ↓se13o, ↓sx13, ↓pk13f, ↓pk13o, ↓po13, ↓wv14, ↓wo14, ↓wm14, ↓wn14, ↓se14f, ↓se14o, ↓sx14, ↓pk14f, ↓pk14o, ↓po14, ↓wv15, ↓wo15, ↓wm15, ↓wn15, ↓se15f, ↓se15o, ↓sx15, ↓pk15f, ↓pk15o, ↓po15, ↓wv16, ↓wo16, ↓wm16, ↓wn16, ↓se16f, ↓se16o, ↓sx16, ↓pk16f, ↓pk16o, ↓po16, ↓wv17, ↓wo17, ↓wm17, ↓wn17, ↓se17f, ↓se17o, ↓sx17, ↓pk17f, ↓pk17o, ↓po17, ↓wv18, ↓wo18, ↓wm18, ↓wn18, ↓se18f, ↓se18o, ↓sx18, ↓pk18f, ↓pk18o, ↓po18, ↓wv19, ↓wo19, ↓wm19, ↓wn19, ↓se19f, ↓se19o, ↓sx19, ↓pk19f, ↓pk19o, ↓po19, ↓wv20, ↓wo20, ↓wm20, ↓wn20, ↓se20f, ↓se20o, ↓sx20, ↓pk20f, ↓pk20o, ↓po20, ↓wv21, ↓wo21, ↓wm21, ↓wn21, ↓se21f, ↓se21o, ↓sx21, ↓pk21f, ↓pk21o, ↓po21, ↓wv22, ↓wo22, ↓wm22, ↓wn22, ↓se22f, ↓se22o, ↓sx22, ↓pk22f, ↓pk22o, ↓po22, ↓wv23, ↓wo23, ↓wm23, ↓wn23, ↓se23f, ↓se23o, ↓sx23, ↓pk23f, ↓pk23o, ↓po23, ↓wv24, ↓wo24, ↓wm24, ↓wn24, ↓se24f, ↓se24o, ↓sx24, ↓pk24f, ↓pk24o, ↓po24, ↓wv25, ↓wo25, ↓wm25, ↓wn25, ↓se25f, ↓se25o, ↓sx25, ↓pk25f, ↓pk25o, ↓po25, ↓ses_n, ↓ses_c, ↓sep_n, ↓sep_c, ↓ws_appn, ↓ws_extn, ↓b_add, ↓b_addl, ↓b_addt, ↓b_sub, ↓b_mul, ↓b_fdiv, ↓b_mod, ↓b_pow, ↓c_lt, ↓c_le, ↓c_gt, ↓c_ge, ↓c_eq, ↓c_ne, ↓is_n, ↓isn_n, ↓is_b, ↓isn_b, ↓is_i, ↓isn_i, ↓is_s, ↓isn_s, ↓is_t, ↓isn_t, ↓is_l, ↓isn_l, ↓is_x, ↓isn_x, ↓isn_bb, ↓b_mult, ↓is_bb, ↓ix_tup0, ↓ix_lst0, ↓ix_tup1, ↓ix_lst1, ↓ix_tup2, ↓ix_lst2, ↓ix_tup3, ↓ix_lst3, ↓ix_tup4, ↓ix_lst4, ↓ix_tup5, ↓ix_lst5, ↓ix_tup6, ↓ix_lst6, ↓ix_tup7, ↓ix_lst7, ↓ix_tup8, ↓ix_lst8, ↓ix_tup9, ↓ix_lst9, ↓ix_tup10, ↓ix_lst10, ↓ix_tup11, ↓ix_lst11, ↓ix_tup12, ↓ix_lst12, ↓ix_tup13, ↓ix_lst13, ↓ix_tup14, ↓ix_lst14, ↓ix_tup15, ↓ix_lst15, ↓ng, ↓up_t, ↓up_l, ↓it_t, ↓it_l, ↓ls_l, ↓pt_n, ↓pt_i, ↓rg1, ↓rg2, ↓bi_lenl, ↓bi_lent, ↓bi_abs, ↓bi_lil, ↓bi_lit, ↓bi_tul, ↓bi_tut, ↓rv_l, ↓ii_non_int, ↓ii_non_bool, ↓ii_non_str, ↓ii_non_tuple, ↓ii_non_list, ↓ii_bl_int, ↓ii_bl_bool, ↓ii_bl_str, ↓ii_bl_tuple, ↓ii_bl_list, ↓ii_int_int, ↓ii_int_bool, ↓ii_int_str, ↓ii_int_tuple, ↓ii_int_list, ↓ii_str_int, ↓ii_str_bool, ↓ii_str_str, ↓ii_str_tuple, ↓ii_str_list, ↓ii_tup_int, ↓ii_tup_bool, ↓ii_tup_str, ↓ii_tup_tuple, ↓ii_tup_list, ↓ii_lst_int, ↓ii_lst_bool, ↓ii_lst_str, ↓ii_lst_tuple, ↓ii_lst_list, ↓nf_fr, ↓ix_fr0, ↓ix_fr1, ↓ii_fr_t, ↓len_fr, ↓c_eqfr, ↓c_nefr, ↓ri_rt, ↓ri_nx, ↓ri_ex, ↓ri_rx, ↓ri_xr, ↓gd_nx, ↓gd_rt, ↓gd_ex, ↓ok_rt, ↓ws_forW, ↓ws_brk, ↓ws_cont, ↓lq_nx, ↓lq_ct, ↓lq_bk, ↓lq_rt, ↓lq_exn, ↓iq_nx, ↓iq_ct, ↓iq_bk, ↓iq_rt, ↓iq_exn, ↓st_n, ↓st_t, ↓sts_n, ↓sts_c, ↓we_lc, ↓now_n, ↓now_c, ↓gs_0, ↓gs_s, ↓io_f, ↓io_n, ↓wp_n, ↓wp_c, ↓ck_even, ↓cn_even, ↓ck_in, ↓cn_in, ↓ck_out, ↓cn_out, ↓ck_both, ↓cn_both, ↓ck_hold, ↓cn_hold, ↓ck_jump, ↓cn_jump, ↓ck_kept, ↓cn_kept, ↓ci_hj, ↓cj_hj, ↓ci_bk, ↓cj_bk, ↓ci_kinds, ↓cj_kinds, ↓gx_turn, ↓up_fr, ↓ok_i, ↓ok_ii, ↓turn_turn, ↓sl_t, ↓sl_l, ↓cut_h1, ↓cut_l1, ↓cut_h2, ↓cut_l2, ↓cut_h3, ↓cut_l3, ↓cut_h4, ↓cut_l4, ↓cut_h5, ↓cut_l5, ↓cut_2_4, ↓r_nn, ↓lit01, ↓lit11, ↓lit21, ↓lit31, ↓lit41, ↓lit61, ↓lit12, ↓lit32, decide_eq_true_eq, decide_eq_false_iff_not, Bool.not_eq_true', Bool.not_eq_false', true_and, and_true, and_self, true_implies, false_implies, implies_true, forall_const, not_true_eq_false, not_false_eq_true, Bool.not_true, Bool.not_false, decide_true, decide_false, reduceCtorEq, List.cons_append, List.nil_append, List.append_assoc, not_false_iff, eq_self, Tg.slots])
open GW in
local macro_rules | `(tactic| walk_at "e1u") => `(tactic| simp (maxSteps := 10000000) (disch := (first | assumption | omega | decide)) only [↓Gk11.gl_KINDS, ↓Gk11.gl_TURNED, ↓Gk11.gl_NONE, ↓Gk11.gl_ALL, ↓Gk11.cv_tk0_0, ↓Gk11.cv_tk1_1, ↓Gk11.cv_tk1_0, ↓Gk11.cv_tk2_2, ↓Gk11.cv_tk2_0, ↓Gk11.cw_divisor, ↓Gk11.cw__law_divisor, ↓Gk11.cw_plus, ↓Gk11.cw_minus, ↓Gk11.cw_times, ↓Gk11.cw__law_plus, ↓Gk11.cw__law_minus, ↓Gk11.cw__law_times, ↓Gk11.cw__law_over, ↓Gk11.cw_is_less, ↓Gk11.cw__law_less, ↓Gk11.cw__law_pick, ↓we_int, ↓we_bl, ↓we_non, ↓we_str, ↓we_tup, ↓we_lst, ↓wl_nil, ↓wl_cons, ↓we_bin, ↓we_cmp, ↓we_chain, ↓we_ix, ↓we_neg, ↓we_nt, ↓we_ife, ↓we_conj, ↓we_disj, ↓wa_nil, ↓wo_nil, ↓wa_cons, ↓wo_cons, ↓we_call, ↓we_bi, ↓we_isi, ↓we_rev, ↓we_sl, ↓we_mt, ↓we_bop, ↓we_rng, ↓we_zip, ↓we_enum, ↓we_gix, ↓we_glo, ↓ws_nil, ↓ws_set, ↓ws_exp, ↓ws_ret, ↓ws_retN, ↓ws_raise, ↓ws_pass, ↓ws_asgT, ↓ws_par, ↓ws_ite, ↓ws_try, ↓ws_whl, ↓th_nx, ↓th_rt, ↓th_exn, ↓th_bk, ↓th_ct, ↓tk_nx, ↓tk_rt, ↓nf_f, ↓nf_l, ↓nf_i, ↓nf_b, ↓nf_t, ↓nf_n, ↓nf_s, ↓nf_x, ↓br_t, ↓br_f, ↓br_n, ↓ov_s, ↓cw_o, ↓cw_e, ↓wv0, ↓wo0, ↓wm0, ↓wn0, ↓se0f, ↓se0o, ↓sx0, ↓pk0f, ↓pk0o, ↓po0, ↓wv1, ↓wo1, ↓wm1, ↓wn1, ↓se1f, ↓se1o, ↓sx1, ↓pk1f, ↓pk1o, ↓po1, ↓wv2, ↓wo2, ↓wm2, ↓wn2, ↓se2f, ↓se2o, ↓sx2, ↓pk2f, ↓pk2o, ↓po2, ↓wv3, ↓wo3, ↓wm3, ↓wn3, ↓se3f, ↓se3o, ↓sx3, ↓pk3f, ↓pk3o, ↓po3, ↓wv4, ↓wo4, ↓wm4, ↓wn4, ↓se4f, ↓se4o, ↓sx4, ↓pk4f, ↓pk4o, ↓po4, ↓wv5, ↓wo5, ↓wm5, ↓wn5, ↓se5f, ↓se5o, ↓sx5, ↓pk5f, ↓pk5o, ↓po5, ↓wv6, ↓wo6, ↓wm6, ↓wn6, ↓se6f, ↓se6o, ↓sx6, ↓pk6f, ↓pk6o, ↓po6, ↓wv7, ↓wo7, ↓wm7, ↓wn7, ↓se7f, ↓se7o, ↓sx7, ↓pk7f, ↓pk7o, ↓po7, ↓wv8, ↓wo8, ↓wm8, ↓wn8, ↓se8f, ↓se8o, ↓sx8, ↓pk8f, ↓pk8o, ↓po8, ↓wv9, ↓wo9, ↓wm9, ↓wn9, ↓se9f, ↓se9o, ↓sx9, ↓pk9f, ↓pk9o, ↓po9, ↓wv10, ↓wo10, ↓wm10, ↓wn10, ↓se10f, ↓se10o, ↓sx10, ↓pk10f, ↓pk10o, ↓po10, ↓wv11, ↓wo11, ↓wm11, ↓wn11, ↓se11f, ↓se11o, ↓sx11, ↓pk11f, ↓pk11o, ↓po11, ↓wv12, ↓wo12, ↓wm12, ↓wn12, ↓se12f, ↓se12o, ↓sx12, ↓pk12f, ↓pk12o, ↓po12, ↓wv13, ↓wo13, ↓wm13, ↓wn13, ↓se13f, ↓se13o, ↓sx13, ↓pk13f, ↓pk13o, ↓po13, ↓wv14, ↓wo14, ↓wm14, ↓wn14, ↓se14f, ↓se14o, ↓sx14, ↓pk14f, ↓pk14o, ↓po14, ↓wv15, ↓wo15, ↓wm15, ↓wn15, ↓se15f, ↓se15o, ↓sx15, ↓pk15f, ↓pk15o, ↓po15, ↓wv16, ↓wo16, ↓wm16, ↓wn16, ↓se16f, ↓se16o, ↓sx16, ↓pk16f, ↓pk16o, ↓po16, ↓wv17, ↓wo17, ↓wm17, ↓wn17, ↓se17f, ↓se17o, ↓sx17, ↓pk17f, ↓pk17o, ↓po17, ↓wv18, ↓wo18, ↓wm18, ↓wn18, ↓se18f, ↓se18o, ↓sx18, ↓pk18f, ↓pk18o, ↓po18, ↓wv19, ↓wo19, ↓wm19, ↓wn19, ↓se19f, ↓se19o, ↓sx19, ↓pk19f, ↓pk19o, ↓po19, ↓wv20, ↓wo20, ↓wm20, ↓wn20, ↓se20f, ↓se20o, ↓sx20, ↓pk20f, ↓pk20o, ↓po20, ↓wv21, ↓wo21, ↓wm21, ↓wn21, ↓se21f, ↓se21o, ↓sx21, ↓pk21f, ↓pk21o, ↓po21, ↓wv22, ↓wo22, ↓wm22, ↓wn22, ↓se22f, ↓se22o, ↓sx22, ↓pk22f, ↓pk22o, ↓po22, ↓wv23, ↓wo23, ↓wm23, ↓wn23, ↓se23f, ↓se23o, ↓sx23, ↓pk23f, ↓pk23o, ↓po23, ↓wv24, ↓wo24, ↓wm24, ↓wn24, ↓se24f, ↓se24o, ↓sx24, ↓pk24f, ↓pk24o, ↓po24, ↓wv25, ↓wo25, ↓wm25, ↓wn25, ↓se25f, ↓se25o, ↓sx25, ↓pk25f, ↓pk25o, ↓po25, ↓ses_n, ↓ses_c, ↓sep_n, ↓sep_c, ↓ws_appn, ↓ws_extn, ↓b_add, ↓b_addl, ↓b_addt, ↓b_sub, ↓b_mul, ↓b_fdiv, ↓b_mod, ↓b_pow, ↓c_lt, ↓c_le, ↓c_gt, ↓c_ge, ↓c_eq, ↓c_ne, ↓is_n, ↓isn_n, ↓is_b, ↓isn_b, ↓is_i, ↓isn_i, ↓is_s, ↓isn_s, ↓is_t, ↓isn_t, ↓is_l, ↓isn_l, ↓is_x, ↓isn_x, ↓isn_bb, ↓b_mult, ↓is_bb, ↓ix_tup0, ↓ix_lst0, ↓ix_tup1, ↓ix_lst1, ↓ix_tup2, ↓ix_lst2, ↓ix_tup3, ↓ix_lst3, ↓ix_tup4, ↓ix_lst4, ↓ix_tup5, ↓ix_lst5, ↓ix_tup6, ↓ix_lst6, ↓ix_tup7, ↓ix_lst7, ↓ix_tup8, ↓ix_lst8, ↓ix_tup9, ↓ix_lst9, ↓ix_tup10, ↓ix_lst10, ↓ix_tup11, ↓ix_lst11, ↓ix_tup12, ↓ix_lst12, ↓ix_tup13, ↓ix_lst13, ↓ix_tup14, ↓ix_lst14, ↓ix_tup15, ↓ix_lst15, ↓ng, ↓up_t, ↓up_l, ↓it_t, ↓it_l, ↓ls_l, ↓pt_n, ↓pt_i, ↓rg1, ↓rg2, ↓bi_lenl, ↓bi_lent, ↓bi_abs, ↓bi_lil, ↓bi_lit, ↓bi_tul, ↓bi_tut, ↓rv_l, ↓ii_non_int, ↓ii_non_bool, ↓ii_non_str, ↓ii_non_tuple, ↓ii_non_list, ↓ii_bl_int, ↓ii_bl_bool, ↓ii_bl_str, ↓ii_bl_tuple, ↓ii_bl_list, ↓ii_int_int, ↓ii_int_bool, ↓ii_int_str, ↓ii_int_tuple, ↓ii_int_list, ↓ii_str_int, ↓ii_str_bool, ↓ii_str_str, ↓ii_str_tuple, ↓ii_str_list, ↓ii_tup_int, ↓ii_tup_bool, ↓ii_tup_str, ↓ii_tup_tuple, ↓ii_tup_list, ↓ii_lst_int, ↓ii_lst_bool, ↓ii_lst_str, ↓ii_lst_tuple, ↓ii_lst_list, ↓nf_fr, ↓ix_fr0, ↓ix_fr1, ↓ii_fr_t, ↓len_fr, ↓c_eqfr, ↓c_nefr, ↓c_eqfrs, ↓c_nefrs, ↓c_eqbs, ↓c_nebs, ↓ri_rt, ↓ri_nx, ↓ri_ex, ↓ri_rx, ↓ri_xr, ↓gd_nx, ↓gd_rt, ↓gd_ex, ↓ok_rt, ↓ws_forW, ↓ws_brk, ↓ws_cont, ↓lq_nx, ↓lq_ct, ↓lq_bk, ↓lq_rt, ↓lq_exn, ↓iq_nx, ↓iq_ct, ↓iq_bk, ↓iq_rt, ↓iq_exn, ↓st_n, ↓st_t, ↓sts_n, ↓sts_c, ↓we_lc, ↓now_n, ↓now_c, ↓gs_0, ↓gs_s, ↓io_f, ↓io_n, ↓wp_n, ↓wp_c, ↓ck_even, ↓cn_even, ↓ck_in, ↓cn_in, ↓ck_out, ↓cn_out, ↓ck_both, ↓cn_both, ↓ck_hold, ↓cn_hold, ↓ck_jump, ↓cn_jump, ↓ck_kept, ↓cn_kept, ↓ci_hj, ↓cj_hj, ↓ci_bk, ↓cj_bk, ↓ci_kinds, ↓cj_kinds, ↓gx_turn, ↓up_fr, ↓ok_i, ↓ok_ii, ↓turn_turn, ↓sl_t, ↓sl_l, ↓cut_h1, ↓cut_l1, ↓cut_h2, ↓cut_l2, ↓cut_h3, ↓cut_l3, ↓cut_h4, ↓cut_l4, ↓cut_h5, ↓cut_l5, ↓cut_2_4, ↓r_nn, ↓c_eqself, ↓c_neself, ↓br_T, ↓br_F, ↓lit01, ↓lit11, ↓lit21, ↓lit31, ↓lit41, ↓lit61, ↓lit12, ↓lit32, ↓wf_nil, ↓wf_cons, ↓ov_lcf, ↓ov_col_n, ↓ov_col_c, ↓optL_n, ↓optL_s, decide_eq_true_eq, decide_eq_false_iff_not, Bool.not_eq_true', Bool.not_eq_false', true_and, and_true, and_self, true_implies, false_implies, implies_true, forall_const, not_true_eq_false, not_false_eq_true, Bool.not_true, Bool.not_false, decide_true, decide_false, reduceCtorEq, List.cons_append, List.nil_append, List.append_assoc, not_false_iff, eq_self, Tg.slots])
open GW in
local macro_rules | `(tactic| walk_at "e2u") => `(tactic| simp (maxSteps := 10000000) (disch := (first | assumption | omega | decide)) only [↓Gk11.gl_KINDS, ↓Gk11.gl_TURNED, ↓Gk11.gl_NONE, ↓Gk11.gl_ALL, ↓Gk11.cv_tk0_0, ↓Gk11.cv_tk1_1, ↓Gk11.cv_tk1_0, ↓Gk11.cv_tk2_2, ↓Gk11.cv_tk2_0, ↓Gk11.cw_divisor, ↓Gk11.cw__law_divisor, ↓Gk11.cw_plus, ↓Gk11.cw_minus, ↓Gk11.cw_times, ↓Gk11.cw__law_plus, ↓Gk11.cw__law_minus, ↓Gk11.cw__law_times, ↓Gk11.cw__law_over, ↓Gk11.cw_is_less, ↓Gk11.cw__law_less, ↓Gk11.cw__law_pick, ↓we_int, ↓we_bl, ↓we_non, ↓we_str, ↓we_tup, ↓we_lst, ↓wl_nil, ↓wl_cons, ↓we_bin, ↓we_cmp, ↓we_chain, ↓we_ix, ↓we_neg, ↓we_nt, ↓we_ife, ↓we_conj, ↓we_disj, ↓wa_nil, ↓wo_nil, ↓wa_cons, ↓wo_cons, ↓we_call, ↓we_bi, ↓we_isi, ↓we_rev, ↓we_sl, ↓we_mt, ↓we_bop, ↓we_rng, ↓we_zip, ↓we_enum, ↓we_gix, ↓we_glo, ↓ws_nil, ↓ws_set, ↓ws_exp, ↓ws_ret, ↓ws_retN, ↓ws_raise, ↓ws_pass, ↓ws_asgT, ↓ws_par, ↓ws_ite, ↓ws_try, ↓ws_whl, ↓th_nx, ↓th_rt, ↓th_exn, ↓th_bk, ↓th_ct, ↓tk_nx, ↓tk_rt, ↓nf_f, ↓nf_l, ↓nf_i, ↓nf_b, ↓nf_t, ↓nf_n, ↓nf_s, ↓nf_x, ↓br_t, ↓br_f, ↓br_n, ↓br_d, ↓ov_s, ↓cw_o, ↓cw_e, ↓wv0, ↓wo0, ↓wm0, ↓wn0, ↓se0f, ↓se0o, ↓sx0, ↓pk0f, ↓pk0o, ↓po0, ↓wv1, ↓wo1, ↓wm1, ↓wn1, ↓se1f, ↓se1o, ↓sx1, ↓pk1f, ↓pk1o, ↓po1, ↓wv2, ↓wo2, ↓wm2, ↓wn2, ↓se2f, ↓se2o, ↓sx2, ↓pk2f, ↓pk2o, ↓po2, ↓wv3, ↓wo3, ↓wm3, ↓wn3, ↓se3f, ↓se3o, ↓sx3, ↓pk3f, ↓pk3o, ↓po3, ↓wv4, ↓wo4, ↓wm4, ↓wn4, ↓se4f, ↓se4o, ↓sx4, ↓pk4f, ↓pk4o, ↓po4, ↓wv5, ↓wo5, ↓wm5, ↓wn5, ↓se5f, ↓se5o, ↓sx5, ↓pk5f, ↓pk5o, ↓po5, ↓wv6, ↓wo6, ↓wm6, ↓wn6, ↓se6f, ↓se6o, ↓sx6, ↓pk6f, ↓pk6o, ↓po6, ↓wv7, ↓wo7, ↓wm7, ↓wn7, ↓se7f, ↓se7o, ↓sx7, ↓pk7f, ↓pk7o, ↓po7, ↓wv8, ↓wo8, ↓wm8, ↓wn8, ↓se8f, ↓se8o, ↓sx8, ↓pk8f, ↓pk8o, ↓po8, ↓wv9, ↓wo9, ↓wm9, ↓wn9, ↓se9f, ↓se9o, ↓sx9, ↓pk9f, ↓pk9o, ↓po9, ↓wv10, ↓wo10, ↓wm10, ↓wn10, ↓se10f, ↓se10o, ↓sx10, ↓pk10f, ↓pk10o, ↓po10, ↓wv11, ↓wo11, ↓wm11, ↓wn11, ↓se11f, ↓se11o, ↓sx11, ↓pk11f, ↓pk11o, ↓po11, ↓wv12, ↓wo12, ↓wm12, ↓wn12, ↓se12f, ↓se12o, ↓sx12, ↓pk12f, ↓pk12o, ↓po12, ↓wv13, ↓wo13, ↓wm13, ↓wn13, ↓se13f, ↓se13o, ↓sx13, ↓pk13f, ↓pk13o, ↓po13, ↓wv14, ↓wo14, ↓wm14, ↓wn14, ↓se14f, ↓se14o, ↓sx14, ↓pk14f, ↓pk14o, ↓po14, ↓wv15, ↓wo15, ↓wm15, ↓wn15, ↓se15f, ↓se15o, ↓sx15, ↓pk15f, ↓pk15o, ↓po15, ↓wv16, ↓wo16, ↓wm16, ↓wn16, ↓se16f, ↓se16o, ↓sx16, ↓pk16f, ↓pk16o, ↓po16, ↓wv17, ↓wo17, ↓wm17, ↓wn17, ↓se17f, ↓se17o, ↓sx17, ↓pk17f, ↓pk17o, ↓po17, ↓wv18, ↓wo18, ↓wm18, ↓wn18, ↓se18f, ↓se18o, ↓sx18, ↓pk18f, ↓pk18o, ↓po18, ↓wv19, ↓wo19, ↓wm19, ↓wn19, ↓se19f, ↓se19o, ↓sx19, ↓pk19f, ↓pk19o, ↓po19, ↓wv20, ↓wo20, ↓wm20, ↓wn20, ↓se20f, ↓se20o, ↓sx20, ↓pk20f, ↓pk20o, ↓po20, ↓wv21, ↓wo21, ↓wm21, ↓wn21, ↓se21f, ↓se21o, ↓sx21, ↓pk21f, ↓pk21o, ↓po21, ↓wv22, ↓wo22, ↓wm22, ↓wn22, ↓se22f, ↓se22o, ↓sx22, ↓pk22f, ↓pk22o, ↓po22, ↓wv23, ↓wo23, ↓wm23, ↓wn23, ↓se23f, ↓se23o, ↓sx23, ↓pk23f, ↓pk23o, ↓po23, ↓wv24, ↓wo24, ↓wm24, ↓wn24, ↓se24f, ↓se24o, ↓sx24, ↓pk24f, ↓pk24o, ↓po24, ↓wv25, ↓wo25, ↓wm25, ↓wn25, ↓se25f, ↓se25o, ↓sx25, ↓pk25f, ↓pk25o, ↓po25, ↓ses_n, ↓ses_c, ↓sep_n, ↓sep_c, ↓ws_appn, ↓ws_extn, ↓b_add, ↓b_addl, ↓b_addt, ↓b_sub, ↓b_mul, ↓b_fdiv, ↓b_mod, ↓b_pow, ↓c_lt, ↓c_le, ↓c_gt, ↓c_ge, ↓c_eq, ↓c_ne, ↓is_n, ↓isn_n, ↓is_b, ↓isn_b, ↓is_i, ↓isn_i, ↓is_s, ↓isn_s, ↓is_t, ↓isn_t, ↓is_l, ↓isn_l, ↓is_x, ↓isn_x, ↓isn_bb, ↓b_mult, ↓is_bb, ↓ix_tup0, ↓ix_lst0, ↓ix_tup1, ↓ix_lst1, ↓ix_tup2, ↓ix_lst2, ↓ix_tup3, ↓ix_lst3, ↓ix_tup4, ↓ix_lst4, ↓ix_tup5, ↓ix_lst5, ↓ix_tup6, ↓ix_lst6, ↓ix_tup7, ↓ix_lst7, ↓ix_tup8, ↓ix_lst8, ↓ix_tup9, ↓ix_lst9, ↓ix_tup10, ↓ix_lst10, ↓ix_tup11, ↓ix_lst11, ↓ix_tup12, ↓ix_lst12, ↓ix_tup13, ↓ix_lst13, ↓ix_tup14, ↓ix_lst14, ↓ix_tup15, ↓ix_lst15, ↓ng, ↓up_t, ↓up_l, ↓it_t, ↓it_l, ↓ls_l, ↓pt_n, ↓pt_i, ↓rg1, ↓rg2, ↓bi_lenl, ↓bi_lent, ↓bi_abs, ↓bi_lil, ↓bi_lit, ↓bi_tul, ↓bi_tut, ↓rv_l, ↓ii_non_int, ↓ii_non_bool, ↓ii_non_str, ↓ii_non_tuple, ↓ii_non_list, ↓ii_bl_int, ↓ii_bl_bool, ↓ii_bl_str, ↓ii_bl_tuple, ↓ii_bl_list, ↓ii_int_int, ↓ii_int_bool, ↓ii_int_str, ↓ii_int_tuple, ↓ii_int_list, ↓ii_str_int, ↓ii_str_bool, ↓ii_str_str, ↓ii_str_tuple, ↓ii_str_list, ↓ii_tup_int, ↓ii_tup_bool, ↓ii_tup_str, ↓ii_tup_tuple, ↓ii_tup_list, ↓ii_lst_int, ↓ii_lst_bool, ↓ii_lst_str, ↓ii_lst_tuple, ↓ii_lst_list, ↓nf_fr, ↓ix_fr0, ↓ix_fr1, ↓ii_fr_t, ↓len_fr, ↓c_eqfr, ↓c_nefr, ↓ri_rt, ↓ri_nx, ↓ri_ex, ↓ri_rx, ↓ri_xr, ↓gd_nx, ↓gd_rt, ↓gd_ex, ↓ok_rt, ↓ws_forW, ↓ws_brk, ↓ws_cont, ↓lq_nx, ↓lq_ct, ↓lq_bk, ↓lq_rt, ↓lq_exn, ↓iq_nx, ↓iq_ct, ↓iq_bk, ↓iq_rt, ↓iq_exn, ↓st_n, ↓st_t, ↓sts_n, ↓sts_c, ↓we_lc, ↓now_n, ↓now_c, ↓gs_0, ↓gs_s, ↓io_f, ↓io_n, ↓wp_n, ↓wp_c, ↓ck_even, ↓cn_even, ↓ck_in, ↓cn_in, ↓ck_out, ↓cn_out, ↓ck_both, ↓cn_both, ↓ck_hold, ↓cn_hold, ↓ck_jump, ↓cn_jump, ↓ck_kept, ↓cn_kept, ↓ci_hj, ↓cj_hj, ↓ci_bk, ↓cj_bk, ↓ci_kinds, ↓cj_kinds, ↓gx_turn, ↓up_fr, ↓ok_i, ↓ok_ii, ↓turn_turn, ↓sl_t, ↓sl_l, ↓cut_h1, ↓cut_l1, ↓cut_h2, ↓cut_l2, ↓cut_h3, ↓cut_l3, ↓cut_h4, ↓cut_l4, ↓cut_h5, ↓cut_l5, ↓cut_2_4, ↓r_nn, ↓lit01, ↓lit11, ↓lit21, ↓lit31, ↓lit41, ↓lit61, ↓lit12, ↓lit32, ↓wf_nil, ↓wf_cons, ↓ov_lcf, ↓ov_col_n, ↓ov_col_c, ↓optL_n, ↓optL_s, decide_eq_true_eq, decide_eq_false_iff_not, Bool.not_eq_true', Bool.not_eq_false', true_and, and_true, and_self, true_implies, false_implies, implies_true, forall_const, not_true_eq_false, not_false_eq_true, Bool.not_true, Bool.not_false, decide_true, decide_false, reduceCtorEq, List.cons_append, List.nil_append, List.append_assoc, not_false_iff, eq_self, Tg.slots])
namespace Gk11
open GW
section
variable {n : Nat} {ρ : Env} {K : D → Bool → Env → Prop} {X : Nat → Env → Prop} {ns : List Int}
theorem rn__law_frac (ok : ScOk ns) (hn : 3 ≤ n) (k : Int) (h0 : 0 ≤ k) (h1 : k ≤ 900000) : run G n i__law_frac .non [scr ns, .int k] = .ok (fr (fracV ns k)) false .non := by
  obtain ⟨n, rfl⟩ : ∃ m, n = m + 1 := ⟨n - 1, by omega⟩
  refine en__law_frac ?_
  unfold F__law_frac
  have h := down_rng ns k
  walk_at "ev"
  rw [cw_ok (rn__law_pick ok (by omega) k 4 h0 (by omega) (by decide))]
  walk_at "ev"
  have e : 1 + pickV ns k 4 = downV ns k := rfl
  have l1 : (12 : Int).natAbs.log2 ≤ 20 := by decide
  have l2 : (6 : Int).natAbs.log2 ≤ 20 := by decide
  have l3 : (downV ns k).natAbs.log2 < 60 := int_log (by omega) (by omega)
  rw [e]
  refine ⟨by omega, ?_⟩
  rw [cw_ok (rn__law_pick ok (by omega) (k + 1) (12 * downV ns k + 1) (by omega) (by omega) (by omega))]
  walk_at "ev"
  refine ⟨by omega, ?_⟩
  have p0 := pick_lo ns (k + 1) (m := 12 * downV ns k + 1) (by omega)
  have p1 := pick_hi ns (k + 1) (m := 12 * downV ns k + 1) (by omega)
  rw [cw_ok (rn__law_made (by omega) _ _ (by omega) (Nat.lt_of_lt_of_le (m := 2 ^ 5) (by show _ < 32; omega) (Nat.pow_le_pow_right (by decide) (by decide))))]
  walk_at "ev"
  rfl
theorem cw__law_frac (ok : ScOk ns) (hn : 3 ≤ n) {k : Int} (h0 : 0 ≤ k) (h1 : k ≤ 900000) : CW ((Prog.rt G (run G n) false).call i__law_frac .non [scr ns, .int k]) ρ K X = K (fr (fracV ns k)) false ρ := cw_ok (rn__law_frac ok hn k h0 h1)
theorem rn__law_size (ok : ScOk ns) (hn : 3 ≤ n) (k : Int) (h0 : 0 ≤ k) (h1 : k ≤ 900000) : run G n i__law_size .non [scr ns, .int k] = .ok (fr (sizeV ns k)) false .non := by
  obtain ⟨n, rfl⟩ : ∃ m, n = m + 1 := ⟨n - 1, by omega⟩
  refine en__law_size ?_
  unfold F__law_size
  have h := down3_rng ns k
  walk_at "ev"
  rw [cw_ok (rn__law_pick ok (by omega) k 3 h0 (by omega) (by decide))]
  walk_at "ev"
  have e : 1 + pickV ns k 3 = down3 ns k := rfl
  have l2 : (6 : Int).natAbs.log2 ≤ 20 := by decide
  have l3 : (down3 ns k).natAbs.log2 < 60 := int_log (by omega) (by omega)
  rw [e]
  refine ⟨by omega, ?_⟩
  rw [cw_ok (rn__law_pick ok (by omega) (k + 1) (6 * down3 ns k) (by omega) (by omega) (by omega))]
  walk_at "ev"
  rw [cw_ok (rn__law_made (by omega) _ _ (by omega) (Nat.lt_of_lt_of_le (m := 2 ^ 5) (by show _ < 32; omega) (Nat.pow_le_pow_right (by decide) (by decide))))]
  walk_at "ev"
  rfl
theorem cw__law_size (ok : ScOk ns) (hn : 3 ≤ n) {k : Int} (h0 : 0 ≤ k) (h1 : k ≤ 900000) : CW ((Prog.rt G (run G n) false).call i__law_size .non [scr ns, .int k]) ρ K X = K (fr (sizeV ns k)) false ρ := cw_ok (rn__law_size ok hn k h0 h1)
theorem rn__law_kind (ok : ScOk ns) (hn : 3 ≤ n) (k : Int) (h0 : 0 ≤ k) (h1 : k ≤ 900000) : run G n i__law_kind .non [scr ns, .int k] = .ok (.str (kS (kindV ns k))) false .non := by
  obtain ⟨n, rfl⟩ : ∃ m, n = m + 1 := ⟨n - 1, by omega⟩
  refine en__law_kind ?_
  unfold F__law_kind
  walk_at "ev"
  rw [cw_ok (rn__law_pick ok (by omega) k 6 h0 (by omega) (by decide))]
  have p0 := pick_lo ns k (m := 6) (by omega)
  have p1 := pick_hi ns k (m := 6) (by omega)
  have hp : pickV ns k 6 = 0 ∨ pickV ns k 6 = 1 ∨ pickV ns k 6 = 2 ∨ pickV ns k 6 = 3 ∨ pickV ns k 6 = 4 ∨ pickV ns k 6 = 5 := by omega
  unfold kindV
  rcases hp with hp | hp | hp | hp | hp | hp <;> rw [hp] <;> walk_at "ev" <;> rfl
theorem cw__law_kind (ok : ScOk ns) (hn : 3 ≤ n) {k : Int} (h0 : 0 ≤ k) (h1 : k ≤ 900000) : CW ((Prog.rt G (run G n) false).call i__law_kind .non [scr ns, .int k]) ρ K X = K (.str (kS (kindV ns k))) false ρ := cw_ok (rn__law_kind ok hn k h0 h1)
theorem cw__law_made (hn : 2 ≤ n) {u d : Int} (hd : ¬ d = 0) (h : d.natAbs < 1000000) : CW ((Prog.rt G (run G n) false).call i__law_made .non [.int u, .int d]) ρ K X = K (fr (Rat.divInt u d)) false ρ := cw_ok (rn__law_made hn u d hd (Nat.lt_of_lt_of_le (m := 2 ^ 20) (by show _ < 1048576; omega) (Nat.pow_le_pow_right (by decide) (by decide))))
theorem cw_frac (hn : 2 ≤ n) {u d : Int} (hd : ¬ d = 0) (h : d.natAbs < 1000000) : CW ((Prog.rt G (run G n) false).call i_frac .non [.int u, .int d]) ρ K X = K (fr (Rat.divInt u d)) false ρ := cw_ok (rn_frac hn u d hd (Nat.lt_of_lt_of_le (m := 2 ^ 20) (by show _ < 1048576; omega) (Nat.pow_le_pow_right (by decide) (by decide))))
end
end Gk11
end

section
open GW in
local macro_rules | `(tactic| walk_at "ev") => `(tactic| simp only [↓we_int, ↓we_bl, ↓we_non, ↓we_str, ↓we_tup, ↓we_lst, ↓wl_nil, ↓wl_cons, ↓we_bin, ↓we_cmp, ↓we_chain, ↓we_ix, ↓we_neg, ↓we_nt, ↓we_ife, ↓we_conj, ↓we_disj, ↓wa_nil, ↓wo_nil, ↓wa_cons, ↓wo_cons, ↓we_call, ↓we_bi, ↓we_isi, ↓we_rev, ↓we_sl, ↓we_mt, ↓we_bop, ↓we_rng, ↓we_zip, ↓we_enum, ↓we_gix, ↓we_glo, ↓ws_nil, ↓ws_set, ↓ws_exp, ↓ws_ret, ↓ws_retN, ↓ws_raise, ↓ws_pass, ↓ws_asgT, ↓ws_par, ↓ws_ite, ↓ws_try, ↓ws_whl, ↓th_nx, ↓th_rt, ↓th_exn, ↓th_bk, ↓th_ct, ↓tk_nx, ↓tk_rt, ↓nf_f, ↓nf_l, ↓nf_i, ↓nf_b, ↓nf_t, ↓nf_n, ↓nf_s, ↓nf_x, ↓br_t, ↓br_f, ↓br_n, ↓br_d, ↓ov_s, ↓cw_o, ↓cw_e, ↓wv0, ↓wo0, ↓wm0, ↓wn0, ↓se0f, ↓se0o, ↓sx0, ↓pk0f, ↓pk0o, ↓po0, ↓wv1, ↓wo1, ↓wm1, ↓wn1, ↓se1f, ↓se1o, ↓sx1, ↓pk1f, ↓pk1o, ↓po1, ↓wv2, ↓wo2, ↓wm2, ↓wn2, ↓se2f, ↓se2o, ↓sx2, ↓pk2f, ↓pk2o, ↓po2, ↓wv3, ↓wo3, ↓wm3, ↓wn3, ↓se3f, ↓se3o, ↓sx3, ↓pk3f, ↓pk3o, ↓po3, ↓wv4, ↓wo4, ↓wm4, ↓wn4, ↓se4f, ↓se4o, ↓sx4, ↓pk4f, ↓pk4o, ↓po4, ↓wv5, ↓wo5, ↓wm5, ↓wn5, ↓se5f, ↓se5o, ↓sx5, ↓pk5f, ↓pk5o, ↓po5, ↓wv6, ↓wo6, ↓wm6, ↓wn6, ↓se6f, ↓se6o, ↓sx6, ↓pk6f, ↓pk6o, ↓po6, ↓wv7, ↓wo7, ↓wm7, ↓wn7, ↓se7f, ↓se7o, ↓sx7, ↓pk7f, ↓pk7o, ↓po7, ↓wv8, ↓wo8, ↓wm8, ↓wn8, ↓se8f, ↓se8o, ↓sx8, ↓pk8f, ↓pk8o, ↓po8, ↓wv9, ↓wo9, ↓wm9, ↓wn9, ↓se9f, ↓se9o, ↓sx9, ↓pk9f, ↓pk9o, ↓po9, ↓wv10, ↓wo10, ↓wm10, ↓wn10, ↓se10f, ↓se10o, ↓sx10, ↓pk10f, ↓pk10o, ↓po10, ↓wv11, ↓wo11, ↓wm11, ↓wn11, ↓se11f, ↓se11o, ↓sx11, ↓pk11f, ↓pk11o, ↓po11, ↓wv12, ↓wo12, ↓wm12, ↓wn12, ↓se12f, ↓se12o, ↓sx12, ↓pk12f, ↓pk12o, ↓po12, ↓wv13, ↓wo13, ↓wm13, ↓wn13, ↓se13f, ↓se13o, ↓sx13, ↓pk13f, ↓pk13o, ↓po13, ↓wv14, ↓wo14, ↓wm14, ↓wn14, ↓se14f, ↓se14o, ↓sx14, ↓pk14f, ↓pk14o, ↓po14, ↓wv15, ↓wo15, ↓wm15, ↓wn15, ↓se15f, ↓se15o, ↓sx15, ↓pk15f, ↓pk15o, ↓po15, ↓wv16, ↓wo16, ↓wm16, ↓wn16, ↓se16f, ↓se16o, ↓sx16, ↓pk16f, ↓pk16o, ↓po16, ↓wv17, ↓wo17, ↓wm17, ↓wn17, ↓se17f, ↓se17o, ↓sx17, ↓pk17f, ↓pk17o, ↓po17, ↓wv18, ↓wo18, ↓wm18, ↓wn18, ↓se18f, ↓se18o, ↓sx18, ↓pk18f, ↓pk18o, ↓po18, ↓wv19, ↓wo19, ↓wm19, ↓wn19, ↓se19f, ↓se19o, ↓sx19, ↓pk19f, ↓pk19o, ↓po19, ↓wv20, ↓wo20, ↓wm20, ↓wn20, ↓se20f, ↓se20o, ↓sx20, ↓pk20f, ↓pk20o, ↓po20, ↓wv21, ↓wo21, ↓wm21, ↓wn21, ↓se21f, ↓se21o, ↓sx21, ↓pk21f, ↓pk21o, ↓po21, ↓wv22, ↓wo22, ↓wm22, ↓wn22, ↓se22f, ↓se22o, ↓sx22, ↓pk22f, ↓pk22o, ↓po22, ↓wv23, ↓wo23, ↓wm23, ↓wn23, ↓se23f, ↓se23o, ↓sx23, ↓pk23f, ↓pk23o, ↓po23, ↓wv24, ↓wo24, ↓wm24, ↓wn24, ↓se24f, ↓se24o, ↓sx24, ↓pk24f, ↓pk24o, ↓po24, ↓wv25, ↓wo25, ↓wm25, ↓wn25, ↓se25f, ↓se25o, ↓sx25, ↓pk25f, ↓pk25o, ↓po25, ↓ses_n, ↓ses_c, ↓sep_n, ↓sep_c, ↓ws_appn, ↓ws_extn, ↓b_add, ↓b_addl, ↓b_addt, ↓b_sub, ↓b_mul, ↓b_fdiv, ↓b_mod, ↓b_pow, ↓c_lt, ↓c_le, ↓c_gt, ↓c_ge, ↓c_eq, ↓c_ne, ↓is_n, ↓isn_n, ↓is_b, ↓isn_b, ↓is_i, ↓isn_i, ↓is_s, ↓isn_s, ↓is_t, ↓isn_t, ↓is_l, ↓isn_l, ↓is_x, ↓isn_x, ↓isn_bb, ↓b_mult, ↓is_bb, ↓ix_tup0, ↓ix_lst0, ↓ix_tup1, ↓ix_lst1, ↓ix_tup2, ↓ix_lst2, ↓ix_tup3, ↓ix_lst3, ↓ix_tup4, ↓ix_lst4, ↓ix_tup5, ↓ix_lst5, ↓ix_tup6, ↓ix_lst6, ↓ix_tup7, ↓ix_lst7, ↓ix_tup8, ↓ix_lst8, ↓ix_tup9, ↓ix_lst9, ↓ix_tup10, ↓ix_lst10, ↓ix_tup11, ↓ix_lst11, ↓ix_tup12, ↓ix_lst12, ↓ix_tup13, ↓ix_lst13, ↓ix_tup14, ↓ix_lst14, ↓ix_tup15, ↓ix_lst15, ↓ng, ↓up_t, ↓up_l, ↓it_t, ↓it_l, ↓ls_l, ↓pt_n, ↓pt_i, ↓rg1, ↓rg2, ↓bi_lenl, ↓bi_lent, ↓bi_abs, ↓bi_lil, ↓bi_lit, ↓bi_tul, ↓bi_tut, ↓rv_l, ↓ii_non_int, ↓ii_non_bool, ↓ii_non_str, ↓ii_non_tuple, ↓ii_non_list, ↓ii_bl_int, ↓ii_bl_bool, ↓ii_bl_str, ↓ii_bl_tuple, ↓ii_bl_list, ↓ii_int_int, ↓ii_int_bool, ↓ii_int_str, ↓ii_int_tuple, ↓ii_int_list, ↓ii_str_int, ↓ii_str_bool, ↓ii_str_str, ↓ii_str_tuple, ↓ii_str_list, ↓ii_tup_int, ↓ii_tup_bool, ↓ii_tup_str, ↓ii_tup_tuple, ↓ii_tup_list, ↓ii_lst_int, ↓ii_lst_bool, ↓ii_lst_str, ↓ii_lst_tuple, ↓ii_lst_list, ↓nf_fr, ↓ix_fr0, ↓ix_fr1, ↓ii_fr_t, ↓len_fr, ↓c_eqfr, ↓c_nefr, ↓ri_rt, ↓ri_nx, ↓ri_ex, ↓ri_rx, ↓ri_xr, ↓gd_nx, ↓gd_rt, ↓gd_ex, ↓ok_rt, ↓ws_forW, ↓ws_brk, ↓ws_cont, ↓lq_nx, ↓lq_ct, ↓lq_bk, ↓lq_rt, ↓lq_exn, ↓iq_nx, ↓iq_ct, ↓iq_bk, ↓iq_rt, ↓iq_exn, ↓st_n, ↓st_t, ↓sts_n, ↓sts_c, ↓we_lc, ↓now_n, ↓now_c, ↓gs_0, ↓gs_s, ↓io_f, ↓io_n, ↓wp_n, ↓wp_c, ↓ck_even, ↓cn_even, ↓ck_in, ↓cn_in, ↓ck_out, ↓cn_out, ↓ck_both, ↓cn_both, ↓ck_hold, ↓cn_hold, ↓ck_jump, ↓cn_jump, ↓ck_kept, ↓cn_kept, ↓ci_hj, ↓cj_hj, ↓ci_bk, ↓cj_bk, ↓ci_kinds, ↓cj_kinds, ↓gx_turn, ↓up_fr, ↓ok_i, ↓ok_ii, ↓turn_turn, ↓sl_t, ↓sl_l, ↓cut_h1, ↓cut_l1, ↓cut_h2, ↓cut_l2, ↓cut_h3, ↓cut_l3, ↓cut_h4, ↓cut_l4, ↓cut_h5, ↓cut_l5, ↓cut_2_4, ↓r_nn, ↓Gk11.gl_KINDS, ↓Gk11.gl_TURNED, ↓Gk11.gl_NONE, ↓Gk11.gl_ALL, decide_eq_true_eq, decide_eq_false_iff_not, Bool.not_eq_true', Bool.not_eq_false', true_and, and_true, and_self, true_implies, false_implies, implies_true, forall_const, not_true_eq_false, not_false_eq_true, Bool.not_true, Bool.not_false, decide_true, decide_false, reduceCtorEq, List.cons_append, List.nil_append, List.append_assoc, not_false_iff, eq_self, Tg.slots])
open GW in
local macro_rules | `(tactic| walk_at "e1") => `(tactic| simp (maxSteps := 10000000) (disch := (first | assumption | omega | decide)) only [↓Gk11.gl_KINDS, ↓Gk11.gl_TURNED, ↓Gk11.gl_NONE, ↓Gk11.gl_ALL, ↓Gk11.cv_tk0_0, ↓Gk11.cv_tk1_1, ↓Gk11.cv_tk1_0, ↓Gk11.cv_tk2_2, ↓Gk11.cv_tk2_0, ↓Gk11.cw_divisor, ↓Gk11.cw__law_divisor, ↓Gk11.cw_plus, ↓Gk11.cw_minus, ↓Gk11.cw_times, ↓Gk11.cw__law_plus, ↓Gk11.cw__law_minus, ↓Gk11.cw__law_times, ↓Gk11.cw__law_over, ↓Gk11.cw_is_less, ↓Gk11.cw__law_less, ↓Gk11.cw__law_pick, ↓Gk11.cw__law_frac, ↓Gk11.cw__law_size, ↓Gk11.cw__law_kind, ↓Gk11.cw_frac, ↓we_int, ↓we_bl, ↓we_non, ↓we_str, ↓we_tup, ↓we_lst, ↓wl_nil, ↓wl_cons, ↓we_bin, ↓we_cmp, ↓we_chain, ↓we_ix, ↓we_neg, ↓we_nt, ↓we_ife, ↓we_conj, ↓we_disj, ↓wa_nil, ↓wo_nil, ↓wa_cons, ↓wo_cons, ↓we_call, ↓we_bi, ↓we_isi, ↓we_rev, ↓we_sl, ↓we_mt, ↓we_bop, ↓we_rng, ↓we_zip, ↓we_enum, ↓we_gix, ↓we_glo, ↓ws_nil, ↓ws_set, ↓ws_exp, ↓ws_ret, ↓ws_retN, ↓ws_raise, ↓ws_pass, ↓ws_asgT, ↓ws_par, ↓ws_ite, ↓ws_try, ↓ws_whl, ↓th_nx, ↓th_rt, ↓th_exn, ↓th_bk, ↓th_ct, ↓tk_nx, ↓tk_rt, ↓nf_f, ↓nf_l, ↓nf_i, ↓nf_b, ↓nf_t, ↓nf_n, ↓nf_s, ↓nf_x, ↓br_t, ↓br_f, ↓br_n, ↓ov_s, ↓cw_o, ↓cw_e, ↓wv0, ↓wo0, ↓wm0, ↓wn0, ↓se0f, ↓se0o, ↓sx0, ↓pk0f, ↓pk0o, ↓po0, ↓wv1, ↓wo1, ↓wm1, ↓wn1, ↓se1f, ↓se1o, ↓sx1, ↓pk1f, ↓pk1o, ↓po1, ↓wv2, ↓wo2, ↓wm2, ↓wn2, ↓se2f, ↓se2o, ↓sx2, ↓pk2f, ↓pk2o, ↓po2, ↓wv3, ↓wo3, ↓wm3, ↓wn3, ↓se3f, ↓se3o, ↓sx3, ↓pk3f, ↓pk3o, ↓po3, ↓wv4, ↓wo4, ↓wm4, ↓wn4, ↓se4f, ↓se4o, ↓sx4, ↓pk4f, ↓pk4o, ↓po4, ↓wv5, ↓wo5, ↓wm5, ↓wn5, ↓se5f, ↓se5o, ↓sx5, ↓pk5f, ↓pk5o, ↓po5, ↓wv6, ↓wo6, ↓wm6, ↓wn6, ↓se6f, ↓se6o, ↓sx6, ↓pk6f, ↓pk6o, ↓po6, ↓wv7, ↓wo7, ↓wm7, ↓wn7, ↓se7f, ↓se7o, ↓sx7, ↓pk7f, ↓pk7o, ↓po7, ↓wv8, ↓wo8, ↓wm8, ↓wn8, ↓se8f, ↓se8o, ↓sx8, ↓pk8f, ↓pk8o, ↓po8, ↓wv9, ↓wo9, ↓wm9, ↓wn9, ↓se9f, ↓se9o, ↓sx9, ↓pk9f, ↓pk9o, ↓po9, ↓wv10, ↓wo10, ↓wm10, ↓wn10, ↓se10f, ↓se10o, ↓sx10, ↓pk10f, ↓pk10o, ↓po10, ↓wv11, ↓wo11, ↓wm11, ↓wn11, ↓se11f, ↓se11o, ↓sx11, ↓pk11f, ↓pk11o, ↓po11, ↓wv12, ↓wo12, ↓wm12, ↓wn12, ↓se12f, ↓se12o, ↓sx12, ↓pk12f, ↓pk12o, ↓po12, ↓wv13, ↓wo13, ↓wm13, ↓wn13, ↓se13f, ↓se13o, ↓sx13, ↓pk13f, ↓pk13o, ↓po13, ↓wv14, ↓wo14, ↓wm14, ↓wn14, ↓se14f, ↓se14o, ↓sx14, ↓pk14f, ↓pk14o, ↓po14, ↓wv15, ↓wo15, ↓wm15, ↓wn15, ↓se15f, ↓se15o, ↓sx15, ↓pk15f, ↓pk15o, ↓po15, ↓wv16, ↓wo16, ↓wm16, ↓wn16, ↓se16f, ↓se16o, ↓sx16, ↓pk16f, ↓pk16o, ↓po16, ↓wv17, ↓wo17, ↓wm17, ↓wn17, ↓se17f, ↓se17o, ↓sx17, ↓pk17f, ↓pk17o, ↓po17, ↓wv18, ↓wo18, ↓wm18, ↓wn18, ↓se18f, ↓se18o, ↓sx18, ↓pk18f, ↓pk18o, ↓po18, ↓wv19, ↓wo19, ↓wm19, ↓wn19, ↓se19f, ↓se19o, ↓sx19, ↓pk19f, ↓pk19o, ↓po19, ↓wv20, ↓wo20, ↓wm20, ↓wn20, ↓se20f, ↓se20o, ↓sx20, ↓pk20f, ↓pk20o, ↓po20, ↓wv21, ↓wo21, ↓wm21, ↓wn21, ↓se21f, ↓se21o, ↓sx21, ↓pk21f, ↓pk21o, ↓po21, ↓wv22, ↓wo22, ↓wm22, ↓wn22, ↓se22f, ↓se22o, ↓sx22, ↓pk22f, ↓pk22o, ↓po22, ↓wv23, ↓wo23, ↓wm23, ↓wn23, ↓se23f, ↓se23o, ↓sx23, ↓pk23f, ↓pk23o, ↓po23, ↓wv24, ↓wo24, ↓wm24, ↓wn24, ↓se24f, ↓se24o, ↓sx24, ↓pk24f, ↓pk24o, ↓po24, ↓wv25, ↓wo25, ↓wm25, ↓wn25, ↓se25f, ↓se25o, ↓sx25, ↓pk25f, ↓pk25o, ↓po25, ↓ses_n, ↓ses_c, ↓sep_n, ↓sep_c, ↓ws_appn, ↓ws_extn, ↓b_add, ↓b_addl, ↓b_addt, ↓b_sub, ↓b_mul, ↓b_fdiv, ↓b_mod, ↓b_pow, ↓c_lt, ↓c_le, ↓c_gt, ↓c_ge, ↓c_eq, ↓c_ne, ↓is_n, ↓isn_n, ↓is_b, ↓isn_b, ↓is_i, ↓isn_i, ↓is_s, ↓isn_s, ↓is_t, ↓isn_t, ↓is_l, ↓isn_l, ↓is_x, ↓isn_x, ↓isn_bb, ↓b_mult, ↓is_bb, ↓ix_tup0, ↓ix_lst0, ↓ix_tup1, ↓ix_lst1, ↓ix_tup2, ↓ix_lst2, ↓ix_tup3, ↓ix_lst3, ↓ix_tup4, ↓ix_lst4, ↓ix_tup5, ↓ix_lst5, ↓ix_tup6, ↓ix_lst6, ↓ix_tup7, ↓ix_lst7, ↓ix_tup8, ↓ix_lst8, ↓ix_tup9, ↓ix_lst9, ↓ix_tup10, ↓ix_lst10, ↓ix_tup11, ↓ix_lst11, ↓ix_tup12, ↓ix_lst12, ↓ix_tup13, ↓ix_lst13, ↓ix_tup14, ↓ix_lst14, ↓ix_tup15, ↓ix_lst15, ↓ng, ↓up_t, ↓up_l, ↓it_t, ↓it_l, ↓ls_l, ↓pt_n, ↓pt_i, ↓rg1, ↓rg2, ↓bi_lenl, ↓bi_lent, ↓bi_abs, ↓bi_lil, ↓bi_lit, ↓bi_tul, ↓bi_tut, ↓rv_l, ↓ii_non_int, ↓ii_non_bool, ↓ii_non_str, ↓ii_non_tuple, ↓ii_non_list, ↓ii_bl_int, ↓ii_bl_bool, ↓ii_bl_str, ↓ii_bl_tuple, ↓ii_bl_list, ↓ii_int_int, ↓ii_int_bool, ↓ii_int_str, ↓ii_int_tuple, ↓ii_int_list, ↓ii_str_int, ↓ii_str_bool, ↓ii_str_str, ↓ii_str_tuple, ↓ii_str_list, ↓ii_tup_int, ↓ii_tup_bool, ↓ii_tup_str, ↓ii_tup_tuple, ↓ii_tup_list, ↓ii_lst_int, ↓ii_lst_bool, ↓ii_lst_str, ↓ii_lst_tuple, ↓ii_lst_list, ↓nf_fr, ↓ix_fr0, ↓ix_fr1, ↓ii_fr_t, ↓len_fr, ↓c_eqfr, ↓c_nefr, ↓c_eqfrs, ↓c_nefrs, ↓c_eqbs, ↓c_nebs, ↓ri_rt, ↓ri_nx, ↓ri_ex, ↓ri_rx, ↓ri_xr, ↓gd_nx, ↓gd_rt, ↓gd_ex, ↓ok_rt, ↓ws_forW, ↓ws_brk, ↓ws_cont, ↓lq_nx, ↓lq_ct, ↓lq_bk, ↓lq_rt, ↓lq_exn, ↓iq_nx, ↓iq_ct, ↓iq_bk, ↓iq_rt, ↓iq_exn, ↓st_n, ↓st_t, ↓sts_n, ↓sts_c, ↓we_lc, ↓now_n, ↓now_c, ↓gs_0, ↓gs_s, ↓io_f, ↓io_n, ↓wp_n, ↓wp_c, ↓ck_even, ↓cn_even, ↓ck_in, ↓cn_in, ↓ck_out, ↓cn_out, ↓ck_both, ↓cn_both, ↓ck_hold, ↓cn_hold, ↓ck_jump, ↓cn_jump, ↓ck_kept, ↓cn_kept, ↓ci_hj, ↓cj_hj, ↓ci_bk, ↓cj_bk, ↓ci_kinds, ↓cj_kinds, ↓gx_turn, ↓up_fr, ↓ok_i, ↓ok_ii, ↓turn_turn, ↓sl_t, ↓sl_l, ↓cut_h1, ↓cut_l1, ↓cut_h2, ↓cut_l2, ↓cut_h3, ↓cut_l3, ↓cut_h4, ↓cut_l4, ↓cut_h5, ↓cut_l5, ↓cut_2_4, ↓r_nn, ↓c_eqself, ↓c_neself, ↓br_T, ↓br_F, ↓lit01, ↓lit11, ↓lit21, ↓lit31, ↓lit41, ↓lit61, ↓lit12, ↓lit32, decide_eq_true_eq, decide_eq_false_iff_not, Bool.not_eq_true', Bool.not_eq_false', true_and, and_true, and_self, true_implies, false_implies, implies_true, forall_const, not_true_eq_false, not_false_eq_true, Bool.not_true, Bool.not_false, decide_true, decide_false, reduceCtorEq, List.cons_append, List.nil_append, List.append_assoc, not_false_iff, eq_self, Tg.slots])
open GW in
local macro_rules | `(tactic| walk_at "e2") => `(tactic| simp (maxSteps := 10000000) (disch := (first | assumption | omega | decide)) only [↓Gk11.gl_KINDS, ↓Gk11.gl_TURNED, ↓Gk11.gl_NONE, ↓Gk11.gl_ALL, ↓Gk11.cv_tk0_0, ↓Gk11.cv_tk1_1, ↓Gk11.cv_tk1_0, ↓Gk11.cv_tk2_2, ↓Gk11.cv_tk2_0, ↓Gk11.cw_divisor, ↓Gk11.cw__law_divisor, ↓Gk11.cw_plus, ↓Gk11.cw_minus, ↓Gk11.cw_times, ↓Gk11.cw__law_plus, ↓Gk11.cw__law_minus, ↓Gk11.cw__law_times, ↓Gk11.cw__law_over, ↓Gk11.cw_is_less, ↓Gk11.cw__law_less, ↓Gk11.cw__law_pick, ↓Gk11.cw__law_frac, ↓Gk11.cw__law_size, ↓Gk11.cw__law_kind, ↓Gk11.cw_frac, ↓we_int, ↓we_bl, ↓we_non, ↓we_str, ↓we_tup, ↓we_lst, ↓wl_nil, ↓wl_cons, ↓we_bin, ↓we_cmp, ↓we_chain, ↓we_ix, ↓we_neg, ↓we_nt, ↓we_ife, ↓we_conj, ↓we_disj, ↓wa_nil, ↓wo_nil, ↓wa_cons, ↓wo_cons, ↓we_call, ↓we_bi, ↓we_isi, ↓we_rev, ↓we_sl, ↓we_mt, ↓we_bop, ↓we_rng, ↓we_zip, ↓we_enum, ↓we_gix, ↓we_glo, ↓ws_nil, ↓ws_set, ↓ws_exp, ↓ws_ret, ↓ws_retN, ↓ws_raise, ↓ws_pass, ↓ws_asgT, ↓ws_par, ↓ws_ite, ↓ws_try, ↓ws_whl, ↓th_nx, ↓th_rt, ↓th_exn, ↓th_bk, ↓th_ct, ↓tk_nx, ↓tk_rt, ↓nf_f, ↓nf_l, ↓nf_i, ↓nf_b, ↓nf_t, ↓nf_n, ↓nf_s, ↓nf_x, ↓br_t, ↓br_f, ↓br_n, ↓br_d, ↓ov_s, ↓cw_o, ↓cw_e, ↓wv0, ↓wo0, ↓wm0, ↓wn0, ↓se0f, ↓se0o, ↓sx0, ↓pk0f, ↓pk0o, ↓po0, ↓wv1, ↓wo1, ↓wm1, ↓wn1, ↓se1f, ↓se1o, ↓sx1, ↓pk1f, ↓pk1o, ↓po1, ↓wv2, ↓wo2, ↓wm2, ↓wn2, ↓se2f, ↓se2o, ↓sx2, ↓pk2f, ↓pk2o, ↓po2, ↓wv3, ↓wo3, ↓wm3, ↓wn3, ↓se3f, ↓se3o, ↓sx3, ↓pk3f, ↓pk3o, ↓po3, ↓wv4, ↓wo4, ↓wm4, ↓wn4, ↓se4f, ↓se4o, ↓sx4, ↓pk4f, ↓pk4o, ↓po4, ↓wv5, ↓wo5, ↓wm5, ↓wn5, ↓se5f, ↓se5o, ↓sx5, ↓pk5f, ↓pk5o, ↓po5, ↓wv6, ↓wo6, ↓wm6, ↓wn6, ↓se6f, ↓se6o, ↓sx6, ↓pk6f, ↓pk6o, ↓po6, ↓wv7, ↓wo7, ↓wm7, ↓wn7, ↓se7f, ↓se7o, ↓sx7, ↓pk7f, ↓pk7o, ↓po7, ↓wv8, ↓wo8, ↓wm8, ↓wn8, ↓se8f, ↓se8o, ↓sx8, ↓pk8f, ↓pk8o, ↓po8, ↓wv9, ↓wo9, ↓wm9, ↓wn9, ↓se9f, ↓se9o, ↓sx9, ↓pk9f, ↓pk9o, ↓po9, ↓wv10, ↓wo10, ↓wm10, ↓wn10, ↓se10f, ↓se10o, ↓sx10, ↓pk10f, ↓pk10o, ↓po10, ↓wv11, ↓wo11, ↓wm11, ↓wn11, ↓se11f, ↓se11o, ↓sx11, ↓pk11f, ↓pk11o, ↓po11, ↓wv12, ↓wo12, ↓wm12, ↓wn12, ↓se12f, ↓se12o, ↓sx12, ↓pk12f, ↓pk12o, ↓po12, ↓wv13, ↓wo13, ↓wm13, ↓wn13, ↓se13f, ↓se13o, ↓sx13, ↓pk13f, ↓pk13o, ↓po13, ↓wv14, ↓wo14, ↓wm14, ↓wn14, ↓se14f, ↓se14o, ↓sx14, ↓pk14f, ↓pk14o, ↓po14, ↓wv15, ↓wo15, ↓wm15, ↓wn15, ↓se15f, ↓se15o, ↓sx15, ↓pk15f, ↓pk15o, ↓po15, ↓wv16, ↓wo16, ↓wm16, ↓wn16, ↓se16f, ↓se16o, ↓sx16, ↓pk16f, ↓pk16o, ↓po16, ↓wv17, ↓wo17, ↓wm17, ↓wn17, ↓se17f, ↓se17o, ↓sx17, ↓pk17f, ↓pk17o, ↓po17, ↓wv18, ↓wo18, ↓wm18, ↓wn18, ↓se18f, ↓se18o, ↓sx18, ↓pk18f, ↓pk18o, ↓po18, ↓wv19, ↓wo19, ↓wm19, ↓wn19, ↓se19f, ↓se19o, ↓sx19, ↓pk19f, ↓pk19o, ↓po19, ↓wv20, ↓wo20, ↓wm20, ↓wn20, ↓se20f, ↓se20o, ↓sx20, ↓pk20f, ↓pk20o, ↓po20, ↓wv21, ↓wo21, ↓wm21, ↓wn21, ↓se21f, ↓se21o, ↓sx21, ↓pk21f, ↓pk21o, ↓po21, ↓wv22, ↓wo22, ↓wm22, ↓wn22, ↓se22f, ↓se22o, ↓sx22, ↓pk22f, ↓pk22o, ↓po22, ↓wv23, ↓wo23, ↓wm23, ↓wn23, ↓se23f, ↓se23o, ↓sx23, ↓pk23f, ↓pk23o, ↓po23, ↓wv24, ↓wo24, ↓wm24, ↓wn24, ↓se24f, ↓se24o, ↓sx24, ↓pk24f, ↓pk24o, ↓po24, ↓wv25, ↓wo25, ↓wm25, ↓wn25, ↓se25f, ↓se25o, ↓sx25, ↓pk25f, ↓pk25o, ↓po25, ↓ses_n, ↓ses_c, ↓sep_n, ↓sep_c, ↓ws_appn, ↓ws_extn, ↓b_add, ↓b_addl, ↓b_addt, ↓b_sub, ↓b_mul, ↓b_fdiv, ↓b_mod, ↓b_pow, ↓c_lt, ↓c_le, ↓c_gt, ↓c_ge, ↓c_eq, ↓c_ne, ↓is_n, ↓isn_n, ↓is_b, ↓isn_b, ↓is_i, ↓isn_i, ↓is_s, ↓isn_s, ↓is_t, ↓isn_t, ↓is_l, ↓isn_l, ↓is_x, ↓isn_x, ↓isn_bb, ↓b_mult, ↓is_bb, ↓ix_tup0, ↓ix_lst0, ↓ix_tup1, ↓ix_lst1, ↓ix_tup2, ↓ix_lst2, ↓ix_tup3, ↓ix_lst3, ↓ix_tup4, ↓ix_lst4, ↓ix_tup5, ↓ix_lst5, ↓ix_tup6, ↓ix_lst6, ↓ix_tup7, ↓ix_lst7, ↓ix_tup8, ↓ix_lst8, ↓ix_tup9, ↓ix_lst9, ↓ix_tup10, ↓ix_lst10, ↓ix_tup11, ↓ix_lst11, ↓ix_tup12, ↓ix_lst12, ↓ix_tup13, ↓ix_lst13, ↓ix_tup14, ↓ix_lst14, ↓ix_tup15, ↓ix_lst15, ↓ng, ↓up_t, ↓up_l, ↓it_t, ↓it_l, ↓ls_l, ↓pt_n, ↓pt_i, ↓rg1, ↓rg2, ↓bi_lenl, ↓bi_lent, ↓bi_abs, ↓bi_lil, ↓bi_lit, ↓bi_tul, ↓bi_tut, ↓rv_l, ↓ii_non_int, ↓ii_non_bool, ↓ii_non_str, ↓ii_non_tuple, ↓ii_non_list, ↓ii_bl_int, ↓ii_bl_bool, ↓ii_bl_str, ↓ii_bl_tuple, ↓ii_bl_list, ↓ii_int_int, ↓ii_int_bool, ↓ii_int_str, ↓ii_int_tuple, ↓ii_int_list, ↓ii_str_int, ↓ii_str_bool, ↓ii_str_str, ↓ii_str_tuple, ↓ii_str_list, ↓ii_tup_int, ↓ii_tup_bool, ↓ii_tup_str, ↓ii_tup_tuple, ↓ii_tup_list, ↓ii_lst_int, ↓ii_lst_bool, ↓ii_lst_str, ↓ii_lst_tuple, ↓ii_lst_list, ↓nf_fr, ↓ix_fr0, ↓ix_fr1, ↓ii_fr_t, ↓len_fr, ↓c_eqfr, ↓c_nefr, ↓ri_rt, ↓ri_nx, ↓ri_ex, ↓ri_rx, ↓ri_xr, ↓gd_nx, ↓gd_rt, ↓gd_ex, ↓ok_rt, ↓ws_forW, ↓ws_brk, ↓ws_cont, ↓lq_nx, ↓lq_ct, ↓lq_bk, ↓lq_rt, ↓lq_exn, ↓iq_nx, ↓iq_ct, ↓iq_bk, ↓iq_rt, ↓iq_exn, ↓st_n, ↓st_t, ↓sts_n, ↓sts_c, ↓we_lc, ↓now_n, ↓now_c, ↓gs_0, ↓gs_s, ↓io_f, ↓io_n, ↓wp_n, ↓wp_c, ↓ck_even, ↓cn_even, ↓ck_in, ↓cn_in, ↓ck_out, ↓cn_out, ↓ck_both, ↓cn_both, ↓ck_hold, ↓cn_hold, ↓ck_jump, ↓cn_jump, ↓ck_kept, ↓cn_kept, ↓ci_hj, ↓cj_hj, ↓ci_bk, ↓cj_bk, ↓ci_kinds, ↓cj_kinds, ↓gx_turn, ↓up_fr, ↓ok_i, ↓ok_ii, ↓turn_turn, ↓sl_t, ↓sl_l, ↓cut_h1, ↓cut_l1, ↓cut_h2, ↓cut_l2, ↓cut_h3, ↓cut_l3, ↓cut_h4, ↓cut_l4, ↓cut_h5, ↓cut_l5, ↓cut_2_4, ↓r_nn, ↓lit01, ↓lit11, ↓lit21, ↓lit31, ↓lit41, ↓lit61, ↓lit12, ↓lit32, decide_eq_true_eq, decide_eq_false_iff_not, Bool.not_eq_true', Bool.not_eq_false', true_and, and_true, and_self, true_implies, false_implies, implies_true, forall_const, not_true_eq_false, not_false_eq_true, Bool.not_true, Bool.not_false, decide_true, decide_false, reduceCtorEq, List.cons_append, List.nil_append, List.append_assoc, not_false_iff, eq_self, Tg.slots])
open GW in
local macro_rules | `(tactic| walk_at "e1u") => `(tactic| simp (maxSteps := 10000000) (disch := (first | assumption | omega | decide)) only [↓Gk11.gl_KINDS, ↓Gk11.gl_TURNED, ↓Gk11.gl_NONE, ↓Gk11.gl_ALL, ↓Gk11.cv_tk0_0, ↓Gk11.cv_tk1_1, ↓Gk11.cv_tk1_0, ↓Gk11.cv_tk2_2, ↓Gk11.cv_tk2_0, ↓Gk11.cw_divisor, ↓Gk11.cw__law_divisor, ↓Gk11.cw_plus, ↓Gk11.cw_minus, ↓Gk11.cw_times, ↓Gk11.cw__law_plus, ↓Gk11.cw__law_minus, ↓Gk11.cw__law_times, ↓Gk11.cw__law_over, ↓Gk11.cw_is_less, ↓Gk11.cw__law_less, ↓Gk11.cw__law_pick, ↓Gk11.cw__law_frac, ↓Gk11.cw__law_size, ↓Gk11.cw__law_kind, ↓Gk11.cw_frac, ↓we_int, ↓we_bl, ↓we_non, ↓we_str, ↓we_tup, ↓we_lst, ↓wl_nil, ↓wl_cons, ↓we_bin, ↓we_cmp, ↓we_chain, ↓we_ix, ↓we_neg, ↓we_nt, ↓we_ife, ↓we_conj, ↓we_disj, ↓wa_nil, ↓wo_nil, ↓wa_cons, ↓wo_cons, ↓we_call, ↓we_bi, ↓we_isi, ↓we_rev, ↓we_sl, ↓we_mt, ↓we_bop, ↓we_rng, ↓we_zip, ↓we_enum, ↓we_gix, ↓we_glo, ↓ws_nil, ↓ws_set, ↓ws_exp, ↓ws_ret, ↓ws_retN, ↓ws_raise, ↓ws_pass, ↓ws_asgT, ↓ws_par, ↓ws_ite, ↓ws_try, ↓ws_whl, ↓th_nx, ↓th_rt, ↓th_exn, ↓th_bk, ↓th_ct, ↓tk_nx, ↓tk_rt, ↓nf_f, ↓nf_l, ↓nf_i, ↓nf_b, ↓nf_t, ↓nf_n, ↓nf_s, ↓nf_x, ↓br_t, ↓br_f, ↓br_n, ↓ov_s, ↓cw_o, ↓cw_e, ↓wv0, ↓wo0, ↓wm0, ↓wn0, ↓se0f, ↓se0o, ↓sx0, ↓pk0f, ↓pk0o, ↓po0, ↓wv1, ↓wo1, ↓wm1, ↓wn1, ↓se1f, ↓se1o, ↓sx1, ↓pk1f, ↓pk1o, ↓po1, ↓wv2, ↓wo2, ↓wm2, ↓wn2, ↓se2f, ↓se2o, ↓sx2, ↓pk2f, ↓pk2o, ↓po2, ↓wv3, ↓wo3, ↓wm3, ↓wn3, ↓se3f, ↓se3o, ↓sx3, ↓pk3f, ↓pk3o, ↓po3, ↓wv4, ↓wo4, ↓wm4, ↓wn4, ↓se4f, ↓se4o, ↓sx4, ↓pk4f, ↓pk4o, ↓po4, ↓wv5, ↓wo5, ↓wm5, ↓wn5, ↓se5f, ↓se5o, ↓sx5, ↓pk5f, ↓pk5o, ↓po5, ↓wv6, ↓wo6, ↓wm6, ↓wn6, ↓se6f, ↓se6o, ↓sx6, ↓pk6f, ↓pk6o, ↓po6, ↓wv7, ↓wo7, ↓wm7, ↓wn7, ↓se7f, ↓se7o, ↓sx7, ↓pk7f, ↓pk7o, ↓po7, ↓wv8, ↓wo8, ↓wm8, ↓wn8, ↓se8f, ↓se8o, ↓sx8, ↓pk8f, ↓pk8o, ↓po8, ↓wv9, ↓wo9, ↓wm9, ↓wn9, ↓se9f, ↓se9o, ↓sx9, ↓pk9f, ↓pk9o, ↓po9, ↓wv10, ↓wo10, ↓wm10, ↓wn10, ↓se10f, ↓se10o, ↓sx10, ↓pk10f, ↓pk10o, ↓po10, ↓wv11, ↓wo11, ↓wm11, ↓wn11, ↓se11f, ↓se11o, ↓sx11, ↓pk11f, ↓pk11o, ↓po11, ↓wv12, ↓wo12, ↓wm12, ↓wn12, ↓se12f, ↓se12o, ↓sx12, ↓pk12f, ↓pk12o, ↓po12, ↓wv13, ↓wo13, ↓wm13, ↓wn13, ↓se13f, ↓se13o, ↓sx13, ↓pk13f, ↓pk13o, ↓po13, ↓wv14, ↓wo14, ↓wm14, ↓wn14, ↓se14f, ↓se14o, ↓sx14, ↓pk14f, ↓pk14o, ↓po14, ↓wv15, ↓wo15, ↓wm15, ↓wn15, ↓se15f, ↓se15o, ↓sx15, ↓pk15f, ↓pk15o, ↓po15, ↓wv16, ↓wo16, ↓wm16, ↓wn16, ↓se16f, ↓se16o, ↓sx16, ↓pk16f, ↓pk16o, ↓po16, ↓wv17, ↓wo17, ↓wm17, ↓wn17, ↓se17f, ↓se17o, ↓sx17, ↓pk17f, ↓pk17o, ↓po17, ↓wv18, ↓wo18, ↓wm18, ↓wn18, ↓se18f, ↓se18o, ↓sx18, ↓pk18f, ↓pk18o, ↓po18, ↓wv19, ↓wo19, ↓wm19, ↓wn19, ↓se19f, ↓se19o, ↓sx19, ↓pk19f, ↓pk19o, ↓po19, ↓wv20, ↓wo20, ↓wm20, ↓wn20, ↓se20f, ↓se20o, ↓sx20, ↓pk20f, ↓pk20o, ↓po20, ↓wv21, ↓wo21, ↓wm21, ↓wn21, ↓se21f, ↓se21o, ↓sx21, ↓pk21f, ↓pk21o, ↓po21, ↓wv22, ↓wo22, ↓wm22, ↓wn22, ↓se22f, ↓se22o, ↓sx22, ↓pk22f, ↓pk22o, ↓po22, ↓wv23, ↓wo23, ↓wm23, ↓wn23, ↓se23f, ↓se23o, ↓sx23, ↓pk23f, ↓pk23o, ↓po23, ↓wv24, ↓wo24, ↓wm24, ↓wn24, ↓se24f, ↓se24o, ↓sx24, ↓pk24f, ↓pk24o, ↓po24, ↓wv25, ↓wo25, ↓wm25, ↓wn25, ↓se25f, ↓se25o, ↓sx25, ↓pk25f, ↓pk25o, ↓po25, ↓ses_n, ↓ses_c, ↓sep_n, ↓sep_c, ↓ws_appn, ↓ws_extn, ↓b_add, ↓b_addl, ↓b_addt, ↓b_sub, ↓b_mul, ↓b_fdiv, ↓b_mod, ↓b_pow, ↓c_lt, ↓c_le, ↓c_gt, ↓c_ge, ↓c_eq, ↓c_ne, ↓is_n, ↓isn_n, ↓is_b, ↓isn_b, ↓is_i, ↓isn_i, ↓is_s, ↓isn_s, ↓is_t, ↓isn_t, ↓is_l, ↓isn_l, ↓is_x, ↓isn_x, ↓isn_bb, ↓b_mult, ↓is_bb, ↓ix_tup0, ↓ix_lst0, ↓ix_tup1, ↓ix_lst1, ↓ix_tup2, ↓ix_lst2, ↓ix_tup3, ↓ix_lst3, ↓ix_tup4, ↓ix_lst4, ↓ix_tup5, ↓ix_lst5, ↓ix_tup6, ↓ix_lst6, ↓ix_tup7, ↓ix_lst7, ↓ix_tup8, ↓ix_lst8, ↓ix_tup9, ↓ix_lst9, ↓ix_tup10, ↓ix_lst10, ↓ix_tup11, ↓ix_lst11, ↓ix_tup12, ↓ix_lst12, ↓ix_tup13, ↓ix_lst13, ↓ix_tup14, ↓ix_lst14, ↓ix_tup15, ↓ix_lst15, ↓ng, ↓up_t, ↓up_l, ↓it_t, ↓it_l, ↓ls_l, ↓pt_n, ↓pt_i, ↓rg1, ↓rg2, ↓bi_lenl, ↓bi_lent, ↓bi_abs, ↓bi_lil, ↓bi_lit, ↓bi_tul, ↓bi_tut, ↓rv_l, ↓ii_non_int, ↓ii_non_bool, ↓ii_non_str, ↓ii_non_tuple, ↓ii_non_list, ↓ii_bl_int, ↓ii_bl_bool, ↓ii_bl_str, ↓ii_bl_tuple, ↓ii_bl_list, ↓ii_int_int, ↓ii_int_bool, ↓ii_int_str, ↓ii_int_tuple, ↓ii_int_list, ↓ii_str_int, ↓ii_str_bool, ↓ii_str_str, ↓ii_str_tuple, ↓ii_str_list, ↓ii_tup_int, ↓ii_tup_bool, ↓ii_tup_str, ↓ii_tup_tuple, ↓ii_tup_list, ↓ii_lst_int, ↓ii_lst_bool, ↓ii_lst_str, ↓ii_lst_tuple, ↓ii_lst_list, ↓nf_fr, ↓ix_fr0, ↓ix_fr1, ↓ii_fr_t, ↓len_fr, ↓c_eqfr, ↓c_nefr, ↓c_eqfrs, ↓c_nefrs, ↓c_eqbs, ↓c_nebs, ↓ri_rt, ↓ri_nx, ↓ri_ex, ↓ri_rx, ↓ri_xr, ↓gd_nx, ↓gd_rt, ↓gd_ex, ↓ok_rt, ↓ws_forW, ↓ws_brk, ↓ws_cont, ↓lq_nx, ↓lq_ct, ↓lq_bk, ↓lq_rt, ↓lq_exn, ↓iq_nx, ↓iq_ct, ↓iq_bk, ↓iq_rt, ↓iq_exn, ↓st_n, ↓st_t, ↓sts_n, ↓sts_c, ↓we_lc, ↓now_n, ↓now_c, ↓gs_0, ↓gs_s, ↓io_f, ↓io_n, ↓wp_n, ↓wp_c, ↓ck_even, ↓cn_even, ↓ck_in, ↓cn_in, ↓ck_out, ↓cn_out, ↓ck_both, ↓cn_both, ↓ck_hold, ↓cn_hold, ↓ck_jump, ↓cn_jump, ↓ck_kept, ↓cn_kept, ↓ci_hj, ↓cj_hj, ↓ci_bk, ↓cj_bk, ↓ci_kinds, ↓cj_kinds, ↓gx_turn, ↓up_fr, ↓ok_i, ↓ok_ii, ↓turn_turn, ↓sl_t, ↓sl_l, ↓cut_h1, ↓cut_l1, ↓cut_h2, ↓cut_l2, ↓cut_h3, ↓cut_l3, ↓cut_h4, ↓cut_l4, ↓cut_h5, ↓cut_l5, ↓cut_2_4, ↓r_nn, ↓c_eqself, ↓c_neself, ↓br_T, ↓br_F, ↓lit01, ↓lit11, ↓lit21, ↓lit31, ↓lit41, ↓lit61, ↓lit12, ↓lit32, ↓wf_nil, ↓wf_cons, ↓ov_lcf, ↓ov_col_n, ↓ov_col_c, ↓optL_n, ↓optL_s, decide_eq_true_eq, decide_eq_false_iff_not, Bool.not_eq_true', Bool.not_eq_false', true_and, and_true, and_self, true_implies, false_implies, implies_true, forall_const, not_true_eq_false, not_false_eq_true, Bool.not_true, Bool.not_false, decide_true, decide_false, reduceCtorEq, List.cons_append, List.nil_append, List.append_assoc, not_false_iff, eq_self, Tg.slots])
open GW in
local macro_rules | `(tactic| walk_at "e2u") => `(tactic| simp (maxSteps := 10000000) (disch := (first | assumption | omega | decide)) only [↓Gk11.gl_KINDS, ↓Gk11.gl_TURNED, ↓Gk11.gl_NONE, ↓Gk11.gl_ALL, ↓Gk11.cv_tk0_0, ↓Gk11.cv_tk1_1, ↓Gk11.cv_tk1_0, ↓Gk11.cv_tk2_2, ↓Gk11.cv_tk2_0, ↓Gk11.cw_divisor, ↓Gk11.cw__law_divisor, ↓Gk11.cw_plus, ↓Gk11.cw_minus, ↓Gk11.cw_times, ↓Gk11.cw__law_plus, ↓Gk11.cw__law_minus, ↓Gk11.cw__law_times, ↓Gk11.cw__law_over, ↓Gk11.cw_is_less, ↓Gk11.cw__law_less, ↓Gk11.cw__law_pick, ↓Gk11.cw__law_frac, ↓Gk11.cw__law_size, ↓Gk11.cw__law_kind, ↓Gk11.cw_frac, ↓we_int, ↓we_bl, ↓we_non, ↓we_str, ↓we_tup, ↓we_lst, ↓wl_nil, ↓wl_cons, ↓we_bin, ↓we_cmp, ↓we_chain, ↓we_ix, ↓we_neg, ↓we_nt, ↓we_ife, ↓we_conj, ↓we_disj, ↓wa_nil, ↓wo_nil, ↓wa_cons, ↓wo_cons, ↓we_call, ↓we_bi, ↓we_isi, ↓we_rev, ↓we_sl, ↓we_mt, ↓we_bop, ↓we_rng, ↓we_zip, ↓we_enum, ↓we_gix, ↓we_glo, ↓ws_nil, ↓ws_set, ↓ws_exp, ↓ws_ret, ↓ws_retN, ↓ws_raise, ↓ws_pass, ↓ws_asgT, ↓ws_par, ↓ws_ite, ↓ws_try, ↓ws_whl, ↓th_nx, ↓th_rt, ↓th_exn, ↓th_bk, ↓th_ct, ↓tk_nx, ↓tk_rt, ↓nf_f, ↓nf_l, ↓nf_i, ↓nf_b, ↓nf_t, ↓nf_n, ↓nf_s, ↓nf_x, ↓br_t, ↓br_f, ↓br_n, ↓br_d, ↓ov_s, ↓cw_o, ↓cw_e, ↓wv0, ↓wo0, ↓wm0, ↓wn0, ↓se0f, ↓se0o, ↓sx0, ↓pk0f, ↓pk0o, ↓po0, ↓wv1, ↓wo1, ↓wm1, ↓wn1, ↓se1f, ↓se1o, ↓sx1, ↓pk1f, ↓pk1o, ↓po1, ↓wv2, ↓wo2, ↓wm2, ↓wn2, ↓se2f, ↓se2o, ↓sx2, ↓pk2f, ↓pk2o, ↓po2, ↓wv3, ↓wo3, ↓wm3, ↓wn3, ↓se3f, ↓se3o, ↓sx3, ↓pk3f, ↓pk3o, ↓po3, ↓wv4, ↓wo4, ↓wm4, ↓wn4, ↓se4f, ↓se4o, ↓sx4, ↓pk4f, ↓pk4o, ↓po4, ↓wv5, ↓wo5, ↓wm5, ↓wn5, ↓se5f, ↓se5o, ↓sx5, ↓pk5f, ↓pk5o, ↓po5, ↓wv6, ↓wo6, ↓wm6, ↓wn6, ↓se6f, ↓se6o, ↓sx6, ↓pk6f, ↓pk6o, ↓po6, ↓wv7, ↓wo7, ↓wm7, ↓wn7, ↓se7f, ↓se7o, ↓sx7, ↓pk7f, ↓pk7o, ↓po7, ↓wv8, ↓wo8, ↓wm8, ↓wn8, ↓se8f, ↓se8o, ↓sx8, ↓pk8f, ↓pk8o, ↓po8, ↓wv9, ↓wo9, ↓wm9, ↓wn9, ↓se9f, ↓se9o, ↓sx9, ↓pk9f, ↓pk9o, ↓po9, ↓wv10, ↓wo10, ↓wm10, ↓wn10, ↓se10f, ↓se10o, ↓sx10, ↓pk10f, ↓pk10o, ↓po10, ↓wv11, ↓wo11, ↓wm11, ↓wn11, ↓se11f, ↓se11o, ↓sx11, ↓pk11f, ↓pk11o, ↓po11, ↓wv12, ↓wo12, ↓wm12, ↓wn12, ↓se12f, ↓se12o, ↓sx12, ↓pk12f, ↓pk12o, ↓po12, ↓wv13, ↓wo13, ↓wm13, ↓wn13, ↓se13f, ↓se13o, ↓sx13, ↓pk13f, ↓pk13o, ↓po13, ↓wv14, ↓wo14, ↓wm14, ↓wn14, ↓se14f, ↓se14o, ↓sx14, ↓pk14f, ↓pk14o, ↓po14, ↓wv15, ↓wo15, ↓wm15, ↓wn15, ↓se15f, ↓se15o, ↓sx15, ↓pk15f, ↓pk15o, ↓po15, ↓wv16, ↓wo16, ↓wm16, ↓wn16, ↓se16f, ↓se16o, ↓sx16, ↓pk16f, ↓pk16o, ↓po16, ↓wv17, ↓wo17, ↓wm17, ↓wn17, ↓se17f, ↓se17o, ↓sx17, ↓pk17f, ↓pk17o, ↓po17, ↓wv18, ↓wo18, ↓wm18, ↓wn18, ↓se18f, ↓se18o, ↓sx18, ↓pk18f, ↓pk18o, ↓po18, ↓wv19, ↓wo19, ↓wm19, ↓wn19, ↓se19f, ↓se19o, ↓sx19, ↓pk19f, ↓pk19o, ↓po19, ↓wv20, ↓wo20, ↓wm20, ↓wn20, ↓se20f, ↓se20o, ↓sx20, ↓pk20f, ↓pk20o, ↓po20, ↓wv21, ↓wo21, ↓wm21, ↓wn21, ↓se21f, ↓se21o, ↓sx21, ↓pk21f, ↓pk21o, ↓po21, ↓wv22, ↓wo22, ↓wm22, ↓wn22, ↓se22f, ↓se22o, ↓sx22, ↓pk22f, ↓pk22o, ↓po22, ↓wv23, ↓wo23, ↓wm23, ↓wn23, ↓se23f, ↓se23o, ↓sx23, ↓pk23f, ↓pk23o, ↓po23, ↓wv24, ↓wo24, ↓wm24, ↓wn24, ↓se24f, ↓se24o, ↓sx24, ↓pk24f, ↓pk24o, ↓po24, ↓wv25, ↓wo25, ↓wm25, ↓wn25, ↓se25f, ↓se25o, ↓sx25, ↓pk25f, ↓pk25o, ↓po25, ↓ses_n, ↓ses_c, ↓sep_n, ↓sep_c, ↓ws_appn, ↓ws_extn, ↓b_add, ↓b_addl, ↓b_addt, ↓b_sub, ↓b_mul, ↓b_fdiv, ↓b_mod, ↓b_pow, ↓c_lt, ↓c_le, ↓c_gt, ↓c_ge, ↓c_eq, ↓c_ne, ↓is_n, ↓isn_n, ↓is_b, ↓isn_b, ↓is_i, ↓isn_i, ↓is_s, ↓isn_s, ↓is_t, ↓isn_t, ↓is_l, ↓isn_l, ↓is_x, ↓isn_x, ↓isn_bb, ↓b_mult, ↓is_bb, ↓ix_tup0, ↓ix_lst0, ↓ix_tup1, ↓ix_lst1, ↓ix_tup2, ↓ix_lst2, ↓ix_tup3, ↓ix_lst3, ↓ix_tup4, ↓ix_lst4, ↓ix_tup5, ↓ix_lst5, ↓ix_tup6, ↓ix_lst6, ↓ix_tup7, ↓ix_lst7, ↓ix_tup8, ↓ix_lst8, ↓ix_tup9, ↓ix_lst9, ↓ix_tup10, ↓ix_lst10, ↓ix_tup11, ↓ix_lst11, ↓ix_tup12, ↓ix_lst12, ↓ix_tup13, ↓ix_lst13, ↓ix_tup14, ↓ix_lst14, ↓ix_tup15, ↓ix_lst15, ↓ng, ↓up_t, ↓up_l, ↓it_t, ↓it_l, ↓ls_l, ↓pt_n, ↓pt_i, ↓rg1, ↓rg2, ↓bi_lenl, ↓bi_lent, ↓bi_abs, ↓bi_lil, ↓bi_lit, ↓bi_tul, ↓bi_tut, ↓rv_l, ↓ii_non_int, ↓ii_non_bool, ↓ii_non_str, ↓ii_non_tuple, ↓ii_non_list, ↓ii_bl_int, ↓ii_bl_bool, ↓ii_bl_str, ↓ii_bl_tuple, ↓ii_bl_list, ↓ii_int_int, ↓ii_int_bool, ↓ii_int_str, ↓ii_int_tuple, ↓ii_int_list, ↓ii_str_int, ↓ii_str_bool, ↓ii_str_str, ↓ii_str_tuple, ↓ii_str_list, ↓ii_tup_int, ↓ii_tup_bool, ↓ii_tup_str, ↓ii_tup_tuple, ↓ii_tup_list, ↓ii_lst_int, ↓ii_lst_bool, ↓ii_lst_str, ↓ii_lst_tuple, ↓ii_lst_list, ↓nf_fr, ↓ix_fr0, ↓ix_fr1, ↓ii_fr_t, ↓len_fr, ↓c_eqfr, ↓c_nefr, ↓ri_rt, ↓ri_nx, ↓ri_ex, ↓ri_rx, ↓ri_xr, ↓gd_nx, ↓gd_rt, ↓gd_ex, ↓ok_rt, ↓ws_forW, ↓ws_brk, ↓ws_cont, ↓lq_nx, ↓lq_ct, ↓lq_bk, ↓lq_rt, ↓lq_exn, ↓iq_nx, ↓iq_ct, ↓iq_bk, ↓iq_rt, ↓iq_exn, ↓st_n, ↓st_t, ↓sts_n, ↓sts_c, ↓we_lc, ↓now_n, ↓now_c, ↓gs_0, ↓gs_s, ↓io_f, ↓io_n, ↓wp_n, ↓wp_c, ↓ck_even, ↓cn_even, ↓ck_in, ↓cn_in, ↓ck_out, ↓cn_out, ↓ck_both, ↓cn_both, ↓ck_hold, ↓cn_hold, ↓ck_jump, ↓cn_jump, ↓ck_kept, ↓cn_kept, ↓ci_hj, ↓cj_hj, ↓ci_bk, ↓cj_bk, ↓ci_kinds, ↓cj_kinds, ↓gx_turn, ↓up_fr, ↓ok_i, ↓ok_ii, ↓turn_turn, ↓sl_t, ↓sl_l, ↓cut_h1, ↓cut_l1, ↓cut_h2, ↓cut_l2, ↓cut_h3, ↓cut_l3, ↓cut_h4, ↓cut_l4, ↓cut_h5, ↓cut_l5, ↓cut_2_4, ↓r_nn, ↓lit01, ↓lit11, ↓lit21, ↓lit31, ↓lit41, ↓lit61, ↓lit12, ↓lit32, ↓wf_nil, ↓wf_cons, ↓ov_lcf, ↓ov_col_n, ↓ov_col_c, ↓optL_n, ↓optL_s, decide_eq_true_eq, decide_eq_false_iff_not, Bool.not_eq_true', Bool.not_eq_false', true_and, and_true, and_self, true_implies, false_implies, implies_true, forall_const, not_true_eq_false, not_false_eq_true, Bool.not_true, Bool.not_false, decide_true, decide_false, reduceCtorEq, List.cons_append, List.nil_append, List.append_assoc, not_false_iff, eq_self, Tg.slots])
namespace Gk11
open GW
section
variable {n : Nat} {ρ : Env} {K : D → Bool → Env → Prop} {X : Nat → Env → Prop} {ns : List Int}
theorem rn_look_kind (hn : 1 ≤ n) (k : Kd) (hk : ¬ k = .kept) : run G n i_look_kind .non [.str (kS k)] = .ok .non false .non := by
  obtain ⟨n, rfl⟩ : ∃ m, n = m + 1 := ⟨n - 1, by omega⟩
  refine en_look_kind ?_
  unfold F_look_kind
  walk_at "e1"
theorem cw_look_kind (hn : 1 ≤ n) {k : Kd} (hk : ¬ k = .kept) : CW ((Prog.rt G (run G n) false).call i_look_kind .non [.str (kS k)]) ρ K X = K .non false ρ := cw_ok (rn_look_kind hn k hk)
theorem rn_kept_in (hn : 2 ≤ n) (p : Rat) {i : Nat} (h : SzLe p i) (hi : i ≤ 6000) : run G n i_kept_in .non [fr p] = .ok (fr (keptQ p)) false .non := by
  obtain ⟨n, rfl⟩ : ∃ m, n = m + 1 := ⟨n - 1, by omega⟩
  refine en_kept_in ?_
  unfold F_kept_in
  walk_at "e2"
  refine ⟨fun z => ?_, fun z => ⟨fun z' => ?_, fun z' => ?_⟩⟩
  · unfold keptQ; rw [if_pos z]
  · unfold keptQ; rw [if_neg z, if_pos z']
  · unfold keptQ; rw [if_neg z, if_neg z']
theorem cw_kept_in (hn : 2 ≤ n) {p : Rat} {i : Nat} [h : SzLe p i] (hi : i ≤ 6000) : CW ((Prog.rt G (run G n) false).call i_kept_in .non [fr p]) ρ K X = K (fr (keptQ p)) false ρ := cw_ok (rn_kept_in hn p h hi)

open GW in
local macro_rules | `(tactic| walk_at "e1") => `(tactic| simp (maxSteps := 10000000) (disch := (first | assumption | omega | decide)) only [↓Gk11.gl_KINDS, ↓Gk11.gl_TURNED, ↓Gk11.gl_NONE, ↓Gk11.gl_ALL, ↓Gk11.cv_tk0_0, ↓Gk11.cv_tk1_1, ↓Gk11.cv_tk1_0, ↓Gk11.cv_tk2_2, ↓Gk11.cv_tk2_0, ↓Gk11.cw_divisor, ↓Gk11.cw__law_divisor, ↓Gk11.cw_plus, ↓Gk11.cw_minus, ↓Gk11.cw_times, ↓Gk11.cw__law_plus, ↓Gk11.cw__law_minus, ↓Gk11.cw__law_times, ↓Gk11.cw__law_over, ↓Gk11.cw_is_less, ↓Gk11.cw__law_less, ↓Gk11.cw__law_pick, ↓Gk11.cw__law_frac, ↓Gk11.cw__law_size, ↓Gk11.cw__law_kind, ↓Gk11.cw_frac, ↓Gk11.cw_look_kind, ↓Gk11.cw_kept_in, ↓we_int, ↓we_bl, ↓we_non, ↓we_str, ↓we_tup, ↓we_lst, ↓wl_nil, ↓wl_cons, ↓we_bin, ↓we_cmp, ↓we_chain, ↓we_ix, ↓we_neg, ↓we_nt, ↓we_ife, ↓we_conj, ↓we_disj, ↓wa_nil, ↓wo_nil, ↓wa_cons, ↓wo_cons, ↓we_call, ↓we_bi, ↓we_isi, ↓we_rev, ↓we_sl, ↓we_mt, ↓we_bop, ↓we_rng, ↓we_zip, ↓we_enum, ↓we_gix, ↓we_glo, ↓ws_nil, ↓ws_set, ↓ws_exp, ↓ws_ret, ↓ws_retN, ↓ws_raise, ↓ws_pass, ↓ws_asgT, ↓ws_par, ↓ws_ite, ↓ws_try, ↓ws_whl, ↓th_nx, ↓th_rt, ↓th_exn, ↓th_bk, ↓th_ct, ↓tk_nx, ↓tk_rt, ↓nf_f, ↓nf_l, ↓nf_i, ↓nf_b, ↓nf_t, ↓nf_n, ↓nf_s, ↓nf_x, ↓br_t, ↓br_f, ↓br_n, ↓ov_s, ↓cw_o, ↓cw_e, ↓wv0, ↓wo0, ↓wm0, ↓wn0, ↓se0f, ↓se0o, ↓sx0, ↓pk0f, ↓pk0o, ↓po0, ↓wv1, ↓wo1, ↓wm1, ↓wn1, ↓se1f, ↓se1o, ↓sx1, ↓pk1f, ↓pk1o, ↓po1, ↓wv2, ↓wo2, ↓wm2, ↓wn2, ↓se2f, ↓se2o, ↓sx2, ↓pk2f, ↓pk2o, ↓po2, ↓wv3, ↓wo3, ↓wm3, ↓wn3, ↓se3f, ↓se3o, ↓sx3, ↓pk3f, ↓pk3o, ↓po3, ↓wv4, ↓wo4, ↓wm4, ↓wn4, ↓se4f, ↓se4o, ↓sx4, ↓pk4f, ↓pk4o, ↓po4, ↓wv5, ↓wo5, ↓wm5, ↓wn5, ↓se5f, ↓se5o, ↓sx5, ↓pk5f, ↓pk5o, ↓po5, ↓wv6, ↓wo6, ↓wm6, ↓wn6, ↓se6f, ↓se6o, ↓sx6, ↓pk6f, ↓pk6o, ↓po6, ↓wv7, ↓wo7, ↓wm7, ↓wn7, ↓se7f, ↓se7o, ↓sx7, ↓pk7f, ↓pk7o, ↓po7, ↓wv8, ↓wo8, ↓wm8, ↓wn8, ↓se8f, ↓se8o, ↓sx8, ↓pk8f, ↓pk8o, ↓po8, ↓wv9, ↓wo9, ↓wm9, ↓wn9, ↓se9f, ↓se9o, ↓sx9, ↓pk9f, ↓pk9o, ↓po9, ↓wv10, ↓wo10, ↓wm10, ↓wn10, ↓se10f, ↓se10o, ↓sx10, ↓pk10f, ↓pk10o, ↓po10, ↓wv11, ↓wo11, ↓wm11, ↓wn11, ↓se11f, ↓se11o, ↓sx11, ↓pk11f, ↓pk11o, ↓po11, ↓wv12, ↓wo12, ↓wm12, ↓wn12, ↓se12f, ↓se12o, ↓sx12, ↓pk12f, ↓pk12o, ↓po12, ↓wv13, ↓wo13, ↓wm13, ↓wn13, ↓se13f, ↓se13o, ↓sx13, ↓pk13f, ↓pk13o, ↓po13, ↓wv14, ↓wo14, ↓wm14, ↓wn14, ↓se14f, ↓se14o, ↓sx14, ↓pk14f, ↓pk14o, ↓po14, ↓wv15, ↓wo15, ↓wm15, ↓wn15, ↓se15f, ↓se15o, ↓sx15, ↓pk15f, ↓pk15o, ↓po15, ↓wv16, ↓wo16, ↓wm16, ↓wn16, ↓se16f, ↓se16o, ↓sx16, ↓pk16f, ↓pk16o, ↓po16, ↓wv17, ↓wo17, ↓wm17, ↓wn17, ↓se17f, ↓se17o, ↓sx17, ↓pk17f, ↓pk17o, ↓po17, ↓wv18, ↓wo18, ↓wm18, ↓wn18, ↓se18f, ↓se18o, ↓sx18, ↓pk18f, ↓pk18o, ↓po18, ↓wv19, ↓wo19, ↓wm19, ↓wn19, ↓se19f, ↓se19o, ↓sx19, ↓pk19f, ↓pk19o, ↓po19, ↓wv20, ↓wo20, ↓wm20, ↓wn20, ↓se20f, ↓se20o, ↓sx20, ↓pk20f, ↓pk20o, ↓po20, ↓wv21, ↓wo21, ↓wm21, ↓wn21, ↓se21f, ↓se21o, ↓sx21, ↓pk21f, ↓pk21o, ↓po21, ↓wv22, ↓wo22, ↓wm22, ↓wn22, ↓se22f, ↓se22o, ↓sx22, ↓pk22f, ↓pk22o, ↓po22, ↓wv23, ↓wo23, ↓wm23, ↓wn23, ↓se23f, ↓se23o, ↓sx23, ↓pk23f, ↓pk23o, ↓po23, ↓wv24, ↓wo24, ↓wm24, ↓wn24, ↓se24f, ↓se24o, ↓sx24, ↓pk24f, ↓pk24o, ↓po24, ↓wv25, ↓wo25, ↓wm25, ↓wn25, ↓se25f, ↓se25o, ↓sx25, ↓pk25f, ↓pk25o, ↓po25, ↓ses_n, ↓ses_c, ↓sep_n, ↓sep_c, ↓ws_appn, ↓ws_extn, ↓b_add, ↓b_addl, ↓b_addt, ↓b_sub, ↓b_mul, ↓b_fdiv, ↓b_mod, ↓b_pow, ↓c_lt, ↓c_le, ↓c_gt, ↓c_ge, ↓c_eq, ↓c_ne, ↓is_n, ↓isn_n, ↓is_b, ↓isn_b, ↓is_i, ↓isn_i, ↓is_s, ↓isn_s, ↓is_t, ↓isn_t, ↓is_l, ↓isn_l, ↓is_x, ↓isn_x, ↓isn_bb, ↓b_mult, ↓is_bb, ↓ix_tup0, ↓ix_lst0, ↓ix_tup1, ↓ix_lst1, ↓ix_tup2, ↓ix_lst2, ↓ix_tup3, ↓ix_lst3, ↓ix_tup4, ↓ix_lst4, ↓ix_tup5, ↓ix_lst5, ↓ix_tup6, ↓ix_lst6, ↓ix_tup7, ↓ix_lst7, ↓ix_tup8, ↓ix_lst8, ↓ix_tup9, ↓ix_lst9, ↓ix_tup10, ↓ix_lst10, ↓ix_tup11, ↓ix_lst11, ↓ix_tup12, ↓ix_lst12, ↓ix_tup13, ↓ix_lst13, ↓ix_tup14, ↓ix_lst14, ↓ix_tup15, ↓ix_lst15, ↓ng, ↓up_t, ↓up_l, ↓it_t, ↓it_l, ↓ls_l, ↓pt_n, ↓pt_i, ↓rg1, ↓rg2, ↓bi_lenl, ↓bi_lent, ↓bi_abs, ↓bi_lil, ↓bi_lit, ↓bi_tul, ↓bi_tut, ↓rv_l, ↓ii_non_int, ↓ii_non_bool, ↓ii_non_str, ↓ii_non_tuple, ↓ii_non_list, ↓ii_bl_int, ↓ii_bl_bool, ↓ii_bl_str, ↓ii_bl_tuple, ↓ii_bl_list, ↓ii_int_int, ↓ii_int_bool, ↓ii_int_str, ↓ii_int_tuple, ↓ii_int_list, ↓ii_str_int, ↓ii_str_bool, ↓ii_str_str, ↓ii_str_tuple, ↓ii_str_list, ↓ii_tup_int, ↓ii_tup_bool, ↓ii_tup_str, ↓ii_tup_tuple, ↓ii_tup_list, ↓ii_lst_int, ↓ii_lst_bool, ↓ii_lst_str, ↓ii_lst_tuple, ↓ii_lst_list, ↓nf_fr, ↓ix_fr0, ↓ix_fr1, ↓ii_fr_t, ↓len_fr, ↓c_eqfr, ↓c_nefr, ↓c_eqfrs, ↓c_nefrs, ↓c_eqbs, ↓c_nebs, ↓ri_rt, ↓ri_nx, ↓ri_ex, ↓ri_rx, ↓ri_xr, ↓gd_nx, ↓gd_rt, ↓gd_ex, ↓ok_rt, ↓ws_forW, ↓ws_brk, ↓ws_cont, ↓lq_nx, ↓lq_ct, ↓lq_bk, ↓lq_rt, ↓lq_exn, ↓iq_nx, ↓iq_ct, ↓iq_bk, ↓iq_rt, ↓iq_exn, ↓st_n, ↓st_t, ↓sts_n, ↓sts_c, ↓we_lc, ↓now_n, ↓now_c, ↓gs_0, ↓gs_s, ↓io_f, ↓io_n, ↓wp_n, ↓wp_c, ↓ck_even, ↓cn_even, ↓ck_in, ↓cn_in, ↓ck_out, ↓cn_out, ↓ck_both, ↓cn_both, ↓ck_hold, ↓cn_hold, ↓ck_jump, ↓cn_jump, ↓ck_kept, ↓cn_kept, ↓ci_hj, ↓cj_hj, ↓ci_bk, ↓cj_bk, ↓ci_kinds, ↓cj_kinds, ↓gx_turn, ↓up_fr, ↓ok_i, ↓ok_ii, ↓turn_turn, ↓sl_t, ↓sl_l, ↓cut_h1, ↓cut_l1, ↓cut_h2, ↓cut_l2, ↓cut_h3, ↓cut_l3, ↓cut_h4, ↓cut_l4, ↓cut_h5, ↓cut_l5, ↓cut_2_4, ↓r_nn, ↓c_eqself, ↓c_neself, ↓br_T, ↓br_F, ↓lit01, ↓lit11, ↓lit21, ↓lit31, ↓lit41, ↓lit61, ↓lit12, ↓lit32, decide_eq_true_eq, decide_eq_false_iff_not, Bool.not_eq_true', Bool.not_eq_false', true_and, and_true, and_self, true_implies, false_implies, implies_true, forall_const, not_true_eq_false, not_false_eq_true, Bool.not_true, Bool.not_false, decide_true, decide_false, reduceCtorEq, List.cons_append, List.nil_append, List.append_assoc, not_false_iff, eq_self, Tg.slots])
open GW in
local macro_rules | `(tactic| walk_at "e2") => `(tactic| simp (maxSteps := 10000000) (disch := (first | assumption | omega | decide)) only [↓Gk11.gl_KINDS, ↓Gk11.gl_TURNED, ↓Gk11.gl_NONE, ↓Gk11.gl_ALL, ↓Gk11.cv_tk0_0, ↓Gk11.cv_tk1_1, ↓Gk11.cv_tk1_0, ↓Gk11.cv_tk2_2, ↓Gk11.cv_tk2_0, ↓Gk11.cw_divisor, ↓Gk11.cw__law_divisor, ↓Gk11.cw_plus, ↓Gk11.cw_minus, ↓Gk11.cw_times, ↓Gk11.cw__law_plus, ↓Gk11.cw__law_minus, ↓Gk11.cw__law_times, ↓Gk11.cw__law_over, ↓Gk11.cw_is_less, ↓Gk11.cw__law_less, ↓Gk11.cw__law_pick, ↓Gk11.cw__law_frac, ↓Gk11.cw__law_size, ↓Gk11.cw__law_kind, ↓Gk11.cw_frac, ↓Gk11.cw_look_kind, ↓Gk11.cw_kept_in, ↓we_int, ↓we_bl, ↓we_non, ↓we_str, ↓we_tup, ↓we_lst, ↓wl_nil, ↓wl_cons, ↓we_bin, ↓we_cmp, ↓we_chain, ↓we_ix, ↓we_neg, ↓we_nt, ↓we_ife, ↓we_conj, ↓we_disj, ↓wa_nil, ↓wo_nil, ↓wa_cons, ↓wo_cons, ↓we_call, ↓we_bi, ↓we_isi, ↓we_rev, ↓we_sl, ↓we_mt, ↓we_bop, ↓we_rng, ↓we_zip, ↓we_enum, ↓we_gix, ↓we_glo, ↓ws_nil, ↓ws_set, ↓ws_exp, ↓ws_ret, ↓ws_retN, ↓ws_raise, ↓ws_pass, ↓ws_asgT, ↓ws_par, ↓ws_ite, ↓ws_try, ↓ws_whl, ↓th_nx, ↓th_rt, ↓th_exn, ↓th_bk, ↓th_ct, ↓tk_nx, ↓tk_rt, ↓nf_f, ↓nf_l, ↓nf_i, ↓nf_b, ↓nf_t, ↓nf_n, ↓nf_s, ↓nf_x, ↓br_t, ↓br_f, ↓br_n, ↓br_d, ↓ov_s, ↓cw_o, ↓cw_e, ↓wv0, ↓wo0, ↓wm0, ↓wn0, ↓se0f, ↓se0o, ↓sx0, ↓pk0f, ↓pk0o, ↓po0, ↓wv1, ↓wo1, ↓wm1, ↓wn1, ↓se1f, ↓se1o, ↓sx1, ↓pk1f, ↓pk1o, ↓po1, ↓wv2, ↓wo2, ↓wm2, ↓wn2, ↓se2f, ↓se2o, ↓sx2, ↓pk2f, ↓pk2o, ↓po2, ↓wv3, ↓wo3, ↓wm3, ↓wn3, ↓se3f, ↓se3o, ↓sx3, ↓pk3f, ↓pk3o, ↓po3, ↓wv4, ↓wo4, ↓wm4, ↓wn4, ↓se4f, ↓se4o, ↓sx4, ↓pk4f, ↓pk4o, ↓po4, ↓wv5, ↓wo5, ↓wm5, ↓wn5, ↓se5f, ↓se5o, ↓sx5, ↓pk5f, ↓pk5o, ↓po5, ↓wv6, ↓wo6, ↓wm6, ↓wn6, ↓se6f, ↓se6o, ↓sx6, ↓pk6f, ↓pk6o, ↓po6, ↓wv7, ↓wo7, ↓wm7, ↓wn7, ↓se7f, ↓se7o, ↓sx7, ↓pk7f, ↓pk7o, ↓po7, ↓wv8, ↓wo8, ↓wm8, ↓wn8, ↓se8f, ↓se8o, ↓sx8, ↓pk8f, ↓pk8o, ↓po8, ↓wv9, ↓wo9, ↓wm9, ↓wn9, ↓se9f, ↓se9o, ↓sx9, ↓pk9f, ↓pk9o, ↓po9, ↓wv10, ↓wo10, ↓wm10, ↓wn10, ↓se10f, ↓se10o, ↓sx10, ↓pk10f, ↓pk10o, ↓po10, ↓wv11, ↓wo11, ↓wm11, ↓wn11, ↓se11f, ↓se11o, ↓sx11, ↓pk11f, ↓pk11o, ↓po11, ↓wv12, ↓wo12, ↓wm12, ↓wn12, ↓se12f, ↓se12o, ↓sx12, ↓pk12f, ↓pk12o, ↓po12, ↓wv13, ↓wo13, ↓wm13, ↓wn13, ↓se13f, ↓se13o, ↓sx13, ↓pk13f, ↓pk13o, ↓po13, ↓wv14, ↓wo14, ↓wm14, ↓wn14, ↓se14f, ↓se14o, ↓sx14, ↓pk14f, ↓pk14o, ↓po14, ↓wv15, ↓wo15, ↓wm15, ↓wn15, ↓se15f, ↓se15o, ↓sx15, ↓pk15f, ↓pk15o, ↓po15, ↓wv16, ↓wo16, ↓wm16, ↓wn16, ↓se16f, ↓se16o, ↓sx16, ↓pk16f, ↓pk16o, ↓po16, ↓wv17, ↓wo17, ↓wm17, ↓wn17, ↓se17f, ↓se17o, ↓sx17, ↓pk17f, ↓pk17o, ↓po17, ↓wv18, ↓wo18, ↓wm18, ↓wn18, ↓se18f, ↓se18o, ↓sx18, ↓pk18f, ↓pk18o, ↓po18, ↓wv19, ↓wo19, ↓wm19, ↓wn19, ↓se19f, ↓se19o, ↓sx19, ↓pk19f, ↓pk19o, ↓po19, ↓wv20, ↓wo20, ↓wm20, ↓wn20, ↓se20f, ↓se20o, ↓sx20, ↓pk20f, ↓pk20o, ↓po20, ↓wv21, ↓wo21, ↓wm21, ↓wn21, ↓se21f, ↓se21o, ↓sx21, ↓pk21f, ↓pk21o, ↓po21, ↓wv22, ↓wo22, ↓wm22, ↓wn22, ↓se22f, ↓se22o, ↓sx22, ↓pk22f, ↓pk22o, ↓po22, ↓wv23, ↓wo23, ↓wm23, ↓wn23, ↓se23f, ↓se23o, ↓sx23, ↓pk23f, ↓pk23o, ↓po23, ↓wv24, ↓wo24, ↓wm24, ↓wn24, ↓se24f, ↓se24o, ↓sx24, ↓pk24f, ↓pk24o, ↓po24, ↓wv25, ↓wo25, ↓wm25, ↓wn25, ↓se25f, ↓se25o, ↓sx25, ↓pk25f, ↓pk25o, ↓po25, ↓ses_n, ↓ses_c, ↓sep_n, ↓sep_c, ↓ws_appn, ↓ws_extn, ↓b_add, ↓b_addl, ↓b_addt, ↓b_sub, ↓b_mul, ↓b_fdiv, ↓b_mod, ↓b_pow, ↓c_lt, ↓c_le, ↓c_gt, ↓c_ge, ↓c_eq, ↓c_ne, ↓is_n, ↓isn_n, ↓is_b, ↓isn_b, ↓is_i, ↓isn_i, ↓is_s, ↓isn_s, ↓is_t, ↓isn_t, ↓is_l, ↓isn_l, ↓is_x, ↓isn_x, ↓isn_bb, ↓b_mult, ↓is_bb, ↓ix_tup0, ↓ix_lst0, ↓ix_tup1, ↓ix_lst1, ↓ix_tup2, ↓ix_lst2, ↓ix_tup3, ↓ix_lst3, ↓ix_tup4, ↓ix_lst4, ↓ix_tup5, ↓ix_lst5, ↓ix_tup6, ↓ix_lst6, ↓ix_tup7, ↓ix_lst7, ↓ix_tup8, ↓ix_lst8, ↓ix_tup9, ↓ix_lst9, ↓ix_tup10, ↓ix_lst10, ↓ix_tup11, ↓ix_lst11, ↓ix_tup12, ↓ix_lst12, ↓ix_tup13, ↓ix_lst13, ↓ix_tup14, ↓ix_lst14, ↓ix_tup15, ↓ix_lst15, ↓ng, ↓up_t, ↓up_l, ↓it_t, ↓it_l, ↓ls_l, ↓pt_n, ↓pt_i, ↓rg1, ↓rg2, ↓bi_lenl, ↓bi_lent, ↓bi_abs, ↓bi_lil, ↓bi_lit, ↓bi_tul, ↓bi_tut, ↓rv_l, ↓ii_non_int, ↓ii_non_bool, ↓ii_non_str, ↓ii_non_tuple, ↓ii_non_list, ↓ii_bl_int, ↓ii_bl_bool, ↓ii_bl_str, ↓ii_bl_tuple, ↓ii_bl_list, ↓ii_int_int, ↓ii_int_bool, ↓ii_int_str, ↓ii_int_tuple, ↓ii_int_list, ↓ii_str_int, ↓ii_str_bool, ↓ii_str_str, ↓ii_str_tuple, ↓ii_str_list, ↓ii_tup_int, ↓ii_tup_bool, ↓ii_tup_str, ↓ii_tup_tuple, ↓ii_tup_list, ↓ii_lst_int, ↓ii_lst_bool, ↓ii_lst_str, ↓ii_lst_tuple, ↓ii_lst_list, ↓nf_fr, ↓ix_fr0, ↓ix_fr1, ↓ii_fr_t, ↓len_fr, ↓c_eqfr, ↓c_nefr, ↓ri_rt, ↓ri_nx, ↓ri_ex, ↓ri_rx, ↓ri_xr, ↓gd_nx, ↓gd_rt, ↓gd_ex, ↓ok_rt, ↓ws_forW, ↓ws_brk, ↓ws_cont, ↓lq_nx, ↓lq_ct, ↓lq_bk, ↓lq_rt, ↓lq_exn, ↓iq_nx, ↓iq_ct, ↓iq_bk, ↓iq_rt, ↓iq_exn, ↓st_n, ↓st_t, ↓sts_n, ↓sts_c, ↓we_lc, ↓now_n, ↓now_c, ↓gs_0, ↓gs_s, ↓io_f, ↓io_n, ↓wp_n, ↓wp_c, ↓ck_even, ↓cn_even, ↓ck_in, ↓cn_in, ↓ck_out, ↓cn_out, ↓ck_both, ↓cn_both, ↓ck_hold, ↓cn_hold, ↓ck_jump, ↓cn_jump, ↓ck_kept, ↓cn_kept, ↓ci_hj, ↓cj_hj, ↓ci_bk, ↓cj_bk, ↓ci_kinds, ↓cj_kinds, ↓gx_turn, ↓up_fr, ↓ok_i, ↓ok_ii, ↓turn_turn, ↓sl_t, ↓sl_l, ↓cut_h1, ↓cut_l1, ↓cut_h2, ↓cut_l2, ↓cut_h3, ↓cut_l3, ↓cut_h4, ↓cut_l4, ↓cut_h5, ↓cut_l5, ↓cut_2_4, ↓r_nn, ↓lit01, ↓lit11, ↓lit21, ↓lit31, ↓lit41, ↓lit61, ↓lit12, ↓lit32, decide_eq_true_eq, decide_eq_false_iff_not, Bool.not_eq_true', Bool.not_eq_false', true_and, and_true, and_self, true_implies, false_implies, implies_true, forall_const, not_true_eq_false, not_false_eq_true, Bool.not_true, Bool.not_false, decide_true, decide_false, reduceCtorEq, List.cons_append, List.nil_append, List.append_assoc, not_false_iff, eq_self, Tg.slots])
open GW in
local macro_rules | `(tactic| walk_at "e1u") => `(tactic| simp (maxSteps := 10000000) (disch := (first | assumption | omega | decide)) only [↓Gk11.gl_KINDS, ↓Gk11.gl_TURNED, ↓Gk11.gl_NONE, ↓Gk11.gl_ALL, ↓Gk11.cv_tk0_0, ↓Gk11.cv_tk1_1, ↓Gk11.cv_tk1_0, ↓Gk11.cv_tk2_2, ↓Gk11.cv_tk2_0, ↓Gk11.cw_divisor, ↓Gk11.cw__law_divisor, ↓Gk11.cw_plus, ↓Gk11.cw_minus, ↓Gk11.cw_times, ↓Gk11.cw__law_plus, ↓Gk11.cw__law_minus, ↓Gk11.cw__law_times, ↓Gk11.cw__law_over, ↓Gk11.cw_is_less, ↓Gk11.cw__law_less, ↓Gk11.cw__law_pick, ↓Gk11.cw__law_frac, ↓Gk11.cw__law_size, ↓Gk11.cw__law_kind, ↓Gk11.cw_frac, ↓Gk11.cw_look_kind, ↓Gk11.cw_kept_in, ↓we_int, ↓we_bl, ↓we_non, ↓we_str, ↓we_tup, ↓we_lst, ↓wl_nil, ↓wl_cons, ↓we_bin, ↓we_cmp, ↓we_chain, ↓we_ix, ↓we_neg, ↓we_nt, ↓we_ife, ↓we_conj, ↓we_disj, ↓wa_nil, ↓wo_nil, ↓wa_cons, ↓wo_cons, ↓we_call, ↓we_bi, ↓we_isi, ↓we_rev, ↓we_sl, ↓we_mt, ↓we_bop, ↓we_rng, ↓we_zip, ↓we_enum, ↓we_gix, ↓we_glo, ↓ws_nil, ↓ws_set, ↓ws_exp, ↓ws_ret, ↓ws_retN, ↓ws_raise, ↓ws_pass, ↓ws_asgT, ↓ws_par, ↓ws_ite, ↓ws_try, ↓ws_whl, ↓th_nx, ↓th_rt, ↓th_exn, ↓th_bk, ↓th_ct, ↓tk_nx, ↓tk_rt, ↓nf_f, ↓nf_l, ↓nf_i, ↓nf_b, ↓nf_t, ↓nf_n, ↓nf_s, ↓nf_x, ↓br_t, ↓br_f, ↓br_n, ↓ov_s, ↓cw_o, ↓cw_e, ↓wv0, ↓wo0, ↓wm0, ↓wn0, ↓se0f, ↓se0o, ↓sx0, ↓pk0f, ↓pk0o, ↓po0, ↓wv1, ↓wo1, ↓wm1, ↓wn1, ↓se1f, ↓se1o, ↓sx1, ↓pk1f, ↓pk1o, ↓po1, ↓wv2, ↓wo2, ↓wm2, ↓wn2, ↓se2f, ↓se2o, ↓sx2, ↓pk2f, ↓pk2o, ↓po2, ↓wv3, ↓wo3, ↓wm3, ↓wn3, ↓se3f, ↓se3o, ↓sx3, ↓pk3f, ↓pk3o, ↓po3, ↓wv4, ↓wo4, ↓wm4, ↓wn4, ↓se4f, ↓se4o, ↓sx4, ↓pk4f, ↓pk4o, ↓po4, ↓wv5, ↓wo5, ↓wm5, ↓wn5, ↓se5f, ↓se5o, ↓sx5, ↓pk5f, ↓pk5o, ↓po5, ↓wv6, ↓wo6, ↓wm6, ↓wn6, ↓se6f, ↓se6o, ↓sx6, ↓pk6f, ↓pk6o, ↓po6, ↓wv7, ↓wo7, ↓wm7, ↓wn7, ↓se7f, ↓se7o, ↓sx7, ↓pk7f, ↓pk7o, ↓po7, ↓wv8, ↓wo8, ↓wm8, ↓wn8, ↓se8f, ↓se8o, ↓sx8, ↓pk8f, ↓pk8o, ↓po8, ↓wv9, ↓wo9, ↓wm9, ↓wn9, ↓se9f, ↓se9o, ↓sx9, ↓pk9f, ↓pk9o, ↓po9, ↓wv10, ↓wo10, ↓wm10, ↓wn10, ↓se10f, ↓se10o, ↓sx10, ↓pk10f, ↓pk10o, ↓po10, ↓wv11, ↓wo11, ↓wm11, ↓wn11, ↓se11f, ↓se11o, ↓sx11, ↓pk11f, ↓pk11o, ↓po11, ↓wv12, ↓wo12, ↓wm12, ↓wn12, ↓se12f, ↓se12o, ↓sx12, ↓pk12f, ↓pk12o, ↓po12, ↓wv13, ↓wo13, ↓wm13, ↓wn13, ↓se13f, ↓se13o, ↓sx13, ↓pk13f, ↓pk13o, ↓po13, ↓wv14, ↓wo14, ↓wm14, ↓wn14, ↓se14f, ↓se14o, ↓sx14, ↓pk14f, ↓pk14o, ↓po14, ↓wv15, ↓wo15, ↓wm15, ↓wn15, ↓se15f, ↓se15o, ↓sx15, ↓pk15f, ↓pk15o, ↓po15, ↓wv16, ↓wo16, ↓wm16, ↓wn16, ↓se16f, ↓se16o, ↓sx16, ↓pk16f, ↓pk16o, ↓po16, ↓wv17, ↓wo17, ↓wm17, ↓wn17, ↓se17f, ↓se17o, ↓sx17, ↓pk17f, ↓pk17o, ↓po17, ↓wv18, ↓wo18, ↓wm18, ↓wn18, ↓se18f, ↓se18o, ↓sx18, ↓pk18f, ↓pk18o, ↓po18, ↓wv19, ↓wo19, ↓wm19, ↓wn19, ↓se19f, ↓se19o, ↓sx19, ↓pk19f, ↓pk19o, ↓po19, ↓wv20, ↓wo20, ↓wm20, ↓wn20, ↓se20f, ↓se20o, ↓sx20, ↓pk20f, ↓pk20o, ↓po20, ↓wv21, ↓wo21, ↓wm21, ↓wn21, ↓se21f, ↓se21o, ↓sx21, ↓pk21f, ↓pk21o, ↓po21, ↓wv22, ↓wo22, ↓wm22, ↓wn22, ↓se22f, ↓se22o, ↓sx22, ↓pk22f, ↓pk22o, ↓po22, ↓wv23, ↓wo23, ↓wm23, ↓wn23, ↓se23f, ↓se23o, ↓sx23, ↓pk23f, ↓pk23o, ↓po23, ↓wv24, ↓wo24, ↓wm24, ↓wn24, ↓se24f, ↓se24o, ↓sx24, ↓pk24f, ↓pk24o, ↓po24, ↓wv25, ↓wo25, ↓wm25, ↓wn25, ↓se25f, ↓se25o, ↓sx25, ↓pk25f, ↓pk25o, ↓po25, ↓ses_n, ↓ses_c, ↓sep_n, ↓sep_c, ↓ws_appn, ↓ws_extn, ↓b_add, ↓b_addl, ↓b_addt, ↓b_sub, ↓b_mul, ↓b_fdiv, ↓b_mod, ↓b_pow, ↓c_lt, ↓c_le, ↓c_gt, ↓c_ge, ↓c_eq, ↓c_ne, ↓is_n, ↓isn_n, ↓is_b, ↓isn_b, ↓is_i, ↓isn_i, ↓is_s, ↓isn_s, ↓is_t, ↓isn_t, ↓is_l, ↓isn_l, ↓is_x, ↓isn_x, ↓isn_bb, ↓b_mult, ↓is_bb, ↓ix_tup0, ↓ix_lst0, ↓ix_tup1, ↓ix_lst1, ↓ix_tup2, ↓ix_lst2, ↓ix_tup3, ↓ix_lst3, ↓ix_tup4, ↓ix_lst4, ↓ix_tup5, ↓ix_lst5, ↓ix_tup6, ↓ix_lst6, ↓ix_tup7, ↓ix_lst7, ↓ix_tup8, ↓ix_lst8, ↓ix_tup9, ↓ix_lst9, ↓ix_tup10, ↓ix_lst10, ↓ix_tup11, ↓ix_lst11, ↓ix_tup12, ↓ix_lst12, ↓ix_tup13, ↓ix_lst13, ↓ix_tup14, ↓ix_lst14, ↓ix_tup15, ↓ix_lst15, ↓ng, ↓up_t, ↓up_l, ↓it_t, ↓it_l, ↓ls_l, ↓pt_n, ↓pt_i, ↓rg1, ↓rg2, ↓bi_lenl, ↓bi_lent, ↓bi_abs, ↓bi_lil, ↓bi_lit, ↓bi_tul, ↓bi_tut, ↓rv_l, ↓ii_non_int, ↓ii_non_bool, ↓ii_non_str, ↓ii_non_tuple, ↓ii_non_list, ↓ii_bl_int, ↓ii_bl_bool, ↓ii_bl_str, ↓ii_bl_tuple, ↓ii_bl_list, ↓ii_int_int, ↓ii_int_bool, ↓ii_int_str, ↓ii_int_tuple, ↓ii_int_list, ↓ii_str_int, ↓ii_str_bool, ↓ii_str_str, ↓ii_str_tuple, ↓ii_str_list, ↓ii_tup_int, ↓ii_tup_bool, ↓ii_tup_str, ↓ii_tup_tuple, ↓ii_tup_list, ↓ii_lst_int, ↓ii_lst_bool, ↓ii_lst_str, ↓ii_lst_tuple, ↓ii_lst_list, ↓nf_fr, ↓ix_fr0, ↓ix_fr1, ↓ii_fr_t, ↓len_fr, ↓c_eqfr, ↓c_nefr, ↓c_eqfrs, ↓c_nefrs, ↓c_eqbs, ↓c_nebs, ↓ri_rt, ↓ri_nx, ↓ri_ex, ↓ri_rx, ↓ri_xr, ↓gd_nx, ↓gd_rt, ↓gd_ex, ↓ok_rt, ↓ws_forW, ↓ws_brk, ↓ws_cont, ↓lq_nx, ↓lq_ct, ↓lq_bk, ↓lq_rt, ↓lq_exn, ↓iq_nx, ↓iq_ct, ↓iq_bk, ↓iq_rt, ↓iq_exn, ↓st_n, ↓st_t, ↓sts_n, ↓sts_c, ↓we_lc, ↓now_n, ↓now_c, ↓gs_0, ↓gs_s, ↓io_f, ↓io_n, ↓wp_n, ↓wp_c, ↓ck_even, ↓cn_even, ↓ck_in, ↓cn_in, ↓ck_out, ↓cn_out, ↓ck_both, ↓cn_both, ↓ck_hold, ↓cn_hold, ↓ck_jump, ↓cn_jump, ↓ck_kept, ↓cn_kept, ↓ci_hj, ↓cj_hj, ↓ci_bk, ↓cj_bk, ↓ci_kinds, ↓cj_kinds, ↓gx_turn, ↓up_fr, ↓ok_i, ↓ok_ii, ↓turn_turn, ↓sl_t, ↓sl_l, ↓cut_h1, ↓cut_l1, ↓cut_h2, ↓cut_l2, ↓cut_h3, ↓cut_l3, ↓cut_h4, ↓cut_l4, ↓cut_h5, ↓cut_l5, ↓cut_2_4, ↓r_nn, ↓c_eqself, ↓c_neself, ↓br_T, ↓br_F, ↓lit01, ↓lit11, ↓lit21, ↓lit31, ↓lit41, ↓lit61, ↓lit12, ↓lit32, ↓wf_nil, ↓wf_cons, ↓ov_lcf, ↓ov_col_n, ↓ov_col_c, ↓optL_n, ↓optL_s, decide_eq_true_eq, decide_eq_false_iff_not, Bool.not_eq_true', Bool.not_eq_false', true_and, and_true, and_self, true_implies, false_implies, implies_true, forall_const, not_true_eq_false, not_false_eq_true, Bool.not_true, Bool.not_false, decide_true, decide_false, reduceCtorEq, List.cons_append, List.nil_append, List.append_assoc, not_false_iff, eq_self, Tg.slots])
open GW in
local macro_rules | `(tactic| walk_at "e2u") => `(tactic| simp (maxSteps := 10000000) (disch := (first | assumption | omega | decide)) only [↓Gk11.gl_KINDS, ↓Gk11.gl_TURNED, ↓Gk11.gl_NONE, ↓Gk11.gl_ALL, ↓Gk11.cv_tk0_0, ↓Gk11.cv_tk1_1, ↓Gk11.cv_tk1_0, ↓Gk11.cv_tk2_2, ↓Gk11.cv_tk2_0, ↓Gk11.cw_divisor, ↓Gk11.cw__law_divisor, ↓Gk11.cw_plus, ↓Gk11.cw_minus, ↓Gk11.cw_times, ↓Gk11.cw__law_plus, ↓Gk11.cw__law_minus, ↓Gk11.cw__law_times, ↓Gk11.cw__law_over, ↓Gk11.cw_is_less, ↓Gk11.cw__law_less, ↓Gk11.cw__law_pick, ↓Gk11.cw__law_frac, ↓Gk11.cw__law_size, ↓Gk11.cw__law_kind, ↓Gk11.cw_frac, ↓Gk11.cw_look_kind, ↓Gk11.cw_kept_in, ↓we_int, ↓we_bl, ↓we_non, ↓we_str, ↓we_tup, ↓we_lst, ↓wl_nil, ↓wl_cons, ↓we_bin, ↓we_cmp, ↓we_chain, ↓we_ix, ↓we_neg, ↓we_nt, ↓we_ife, ↓we_conj, ↓we_disj, ↓wa_nil, ↓wo_nil, ↓wa_cons, ↓wo_cons, ↓we_call, ↓we_bi, ↓we_isi, ↓we_rev, ↓we_sl, ↓we_mt, ↓we_bop, ↓we_rng, ↓we_zip, ↓we_enum, ↓we_gix, ↓we_glo, ↓ws_nil, ↓ws_set, ↓ws_exp, ↓ws_ret, ↓ws_retN, ↓ws_raise, ↓ws_pass, ↓ws_asgT, ↓ws_par, ↓ws_ite, ↓ws_try, ↓ws_whl, ↓th_nx, ↓th_rt, ↓th_exn, ↓th_bk, ↓th_ct, ↓tk_nx, ↓tk_rt, ↓nf_f, ↓nf_l, ↓nf_i, ↓nf_b, ↓nf_t, ↓nf_n, ↓nf_s, ↓nf_x, ↓br_t, ↓br_f, ↓br_n, ↓br_d, ↓ov_s, ↓cw_o, ↓cw_e, ↓wv0, ↓wo0, ↓wm0, ↓wn0, ↓se0f, ↓se0o, ↓sx0, ↓pk0f, ↓pk0o, ↓po0, ↓wv1, ↓wo1, ↓wm1, ↓wn1, ↓se1f, ↓se1o, ↓sx1, ↓pk1f, ↓pk1o, ↓po1, ↓wv2, ↓wo2, ↓wm2, ↓wn2, ↓se2f, ↓se2o, ↓sx2, ↓pk2f, ↓pk2o, ↓po2, ↓wv3, ↓wo3, ↓wm3, ↓wn3, ↓se3f, ↓se3o, ↓sx3, ↓pk3f, ↓pk3o, ↓po3, ↓wv4, ↓wo4, ↓wm4, ↓wn4, ↓se4f, ↓se4o, ↓sx4, ↓pk4f, ↓pk4o, ↓po4, ↓wv5, ↓wo5, ↓wm5, ↓wn5, ↓se5f, ↓se5o, ↓sx5, ↓pk5f, ↓pk5o, ↓po5, ↓wv6, ↓wo6, ↓wm6, ↓wn6, ↓se6f, ↓se6o, ↓sx6, ↓pk6f, ↓pk6o, ↓po6, ↓wv7, ↓wo7, ↓wm7, ↓wn7, ↓se7f, ↓se7o, ↓sx7, ↓pk7f, ↓pk7o, ↓po7, ↓wv8, ↓wo8, ↓wm8, ↓wn8, ↓se8f, ↓se8o, ↓sx8, ↓pk8f, ↓pk8o, ↓po8, ↓wv9, ↓wo9, ↓wm9, ↓wn9, ↓se9f, ↓se9o, ↓sx9, ↓pk9f, ↓pk9o, ↓po9, ↓wv10, ↓wo10, ↓wm10, ↓wn10, ↓se10f, ↓se10o, ↓sx10, ↓pk10f, ↓pk10o, ↓po10, ↓wv11, ↓wo11, ↓wm11, ↓wn11, ↓se11f, ↓se11o, ↓sx11, ↓pk11f, ↓pk11o, ↓po11, ↓wv12, ↓wo12, ↓wm12, ↓wn12, ↓se12f, ↓se12o, ↓sx12, ↓pk12f, ↓pk12o, ↓po12, ↓wv13, ↓wo13, ↓wm13, ↓wn13, ↓se13f, ↓se13o, ↓sx13, ↓pk13f, ↓pk13o, ↓po13, ↓wv14, ↓wo14, ↓wm14, ↓wn14, ↓se14f, ↓se14o, ↓sx14, ↓pk14f, ↓pk14o, ↓po14, ↓wv15, ↓wo15, ↓wm15, ↓wn15, ↓se15f, ↓se15o, ↓sx15, ↓pk15f, ↓pk15o, ↓po15, ↓wv16, ↓wo16, ↓wm16, ↓wn16, ↓se16f, ↓se16o, ↓sx16, ↓pk16f, ↓pk16o, ↓po16, ↓wv17, ↓wo17, ↓wm17, ↓wn17, ↓se17f, ↓se17o, ↓sx17, ↓pk17f, ↓pk17o, ↓po17, ↓wv18, ↓wo18, ↓wm18, ↓wn18, ↓se18f, ↓se18o, ↓sx18, ↓pk18f, ↓pk18o, ↓po18, ↓wv19, ↓wo19, ↓wm19, ↓wn19, ↓se19f, ↓se19o, ↓sx19, ↓pk19f, ↓pk19o, ↓po19, ↓wv20, ↓wo20, ↓wm20, ↓wn20, ↓se20f, ↓se20o, ↓sx20, ↓pk20f, ↓pk20o, ↓po20, ↓wv21, ↓wo21, ↓wm21, ↓wn21, ↓se21f, ↓se21o, ↓sx21, ↓pk21f, ↓pk21o, ↓po21, ↓wv22, ↓wo22, ↓wm22, ↓wn22, ↓se22f, ↓se22o, ↓sx22, ↓pk22f, ↓pk22o, ↓po22, ↓wv23, ↓wo23, ↓wm23, ↓wn23, ↓se23f, ↓se23o, ↓sx23, ↓pk23f, ↓pk23o, ↓po23, ↓wv24, ↓wo24, ↓wm24, ↓wn24, ↓se24f, ↓se24o, ↓sx24, ↓pk24f, ↓pk24o, ↓po24, ↓wv25, ↓wo25, ↓wm25, ↓wn25, ↓se25f, ↓se25o, ↓sx25, ↓pk25f, ↓pk25o, ↓po25, ↓ses_n, ↓ses_c, ↓sep_n, ↓sep_c, ↓ws_appn, ↓ws_extn, ↓b_add, ↓b_addl, ↓b_addt, ↓b_sub, ↓b_mul, ↓b_fdiv, ↓b_mod, ↓b_pow, ↓c_lt, ↓c_le, ↓c_gt, ↓c_ge, ↓c_eq, ↓c_ne, ↓is_n, ↓isn_n, ↓is_b, ↓isn_b, ↓is_i, ↓isn_i, ↓is_s, ↓isn_s, ↓is_t, ↓isn_t, ↓is_l, ↓isn_l, ↓is_x, ↓isn_x, ↓isn_bb, ↓b_mult, ↓is_bb, ↓ix_tup0, ↓ix_lst0, ↓ix_tup1, ↓ix_lst1, ↓ix_tup2, ↓ix_lst2, ↓ix_tup3, ↓ix_lst3, ↓ix_tup4, ↓ix_lst4, ↓ix_tup5, ↓ix_lst5, ↓ix_tup6, ↓ix_lst6, ↓ix_tup7, ↓ix_lst7, ↓ix_tup8, ↓ix_lst8, ↓ix_tup9, ↓ix_lst9, ↓ix_tup10, ↓ix_lst10, ↓ix_tup11, ↓ix_lst11, ↓ix_tup12, ↓ix_lst12, ↓ix_tup13, ↓ix_lst13, ↓ix_tup14, ↓ix_lst14, ↓ix_tup15, ↓ix_lst15, ↓ng, ↓up_t, ↓up_l, ↓it_t, ↓it_l, ↓ls_l, ↓pt_n, ↓pt_i, ↓rg1, ↓rg2, ↓bi_lenl, ↓bi_lent, ↓bi_abs, ↓bi_lil, ↓bi_lit, ↓bi_tul, ↓bi_tut, ↓rv_l, ↓ii_non_int, ↓ii_non_bool, ↓ii_non_str, ↓ii_non_tuple, ↓ii_non_list, ↓ii_bl_int, ↓ii_bl_bool, ↓ii_bl_str, ↓ii_bl_tuple, ↓ii_bl_list, ↓ii_int_int, ↓ii_int_bool, ↓ii_int_str, ↓ii_int_tuple, ↓ii_int_list, ↓ii_str_int, ↓ii_str_bool, ↓ii_str_str, ↓ii_str_tuple, ↓ii_str_list, ↓ii_tup_int, ↓ii_tup_bool, ↓ii_tup_str, ↓ii_tup_tuple, ↓ii_tup_list, ↓ii_lst_int, ↓ii_lst_bool, ↓ii_lst_str, ↓ii_lst_tuple, ↓ii_lst_list, ↓nf_fr, ↓ix_fr0, ↓ix_fr1, ↓ii_fr_t, ↓len_fr, ↓c_eqfr, ↓c_nefr, ↓ri_rt, ↓ri_nx, ↓ri_ex, ↓ri_rx, ↓ri_xr, ↓gd_nx, ↓gd_rt, ↓gd_ex, ↓ok_rt, ↓ws_forW, ↓ws_brk, ↓ws_cont, ↓lq_nx, ↓lq_ct, ↓lq_bk, ↓lq_rt, ↓lq_exn, ↓iq_nx, ↓iq_ct, ↓iq_bk, ↓iq_rt, ↓iq_exn, ↓st_n, ↓st_t, ↓sts_n, ↓sts_c, ↓we_lc, ↓now_n, ↓now_c, ↓gs_0, ↓gs_s, ↓io_f, ↓io_n, ↓wp_n, ↓wp_c, ↓ck_even, ↓cn_even, ↓ck_in, ↓cn_in, ↓ck_out, ↓cn_out, ↓ck_both, ↓cn_both, ↓ck_hold, ↓cn_hold, ↓ck_jump, ↓cn_jump, ↓ck_kept, ↓cn_kept, ↓ci_hj, ↓cj_hj, ↓ci_bk, ↓cj_bk, ↓ci_kinds, ↓cj_kinds, ↓gx_turn, ↓up_fr, ↓ok_i, ↓ok_ii, ↓turn_turn, ↓sl_t, ↓sl_l, ↓cut_h1, ↓cut_l1, ↓cut_h2, ↓cut_l2, ↓cut_h3, ↓cut_l3, ↓cut_h4, ↓cut_l4, ↓cut_h5, ↓cut_l5, ↓cut_2_4, ↓r_nn, ↓lit01, ↓lit11, ↓lit21, ↓lit31, ↓lit41, ↓lit61, ↓lit12, ↓lit32, ↓wf_nil, ↓wf_cons, ↓ov_lcf, ↓ov_col_n, ↓ov_col_c, ↓optL_n, ↓optL_s, decide_eq_true_eq, decide_eq_false_iff_not, Bool.not_eq_true', Bool.not_eq_false', true_and, and_true, and_self, true_implies, false_implies, implies_true, forall_const, not_true_eq_false, not_false_eq_true, Bool.not_true, Bool.not_false, decide_true, decide_false, reduceCtorEq, List.cons_append, List.nil_append, List.append_assoc, not_false_iff, eq_self, Tg.slots])
theorem rn_eased (hn : 4 ≤ n) (k : Kd) (hk : ¬ k = .kept) (p : Rat) {i : Nat} (h : SzLe p i) (hi : i ≤ 1000) : run G n i_eased .non [.str (kS k), fr p] = .ok (fr (easedQ k p)) false .non := by
  obtain ⟨n, rfl⟩ : ∃ m, n = m + 1 := ⟨n - 1, by omega⟩
  refine en_eased ?_
  unfold F_eased
  cases k <;> first | exact absurd rfl hk | skip
  all_goals walk_at "e1"
  all_goals unfold easedQ
  · rfl
  · rfl
  · rfl
  · rfl
  · rcases Decidable.em (keptQ p = 1) with z | z
    · rw [if_pos z]; walk_at "e1"
    · rw [if_neg z]; walk_at "e1"
  · rcases Decidable.em (keptQ p = 0) with z | z
    · rw [if_pos z]; walk_at "e1"
    · rw [if_neg z]; walk_at "e1"
theorem cw_eased (hn : 4 ≤ n) {k : Kd} (hk : ¬ k = .kept) {p : Rat} {i : Nat} [h : SzLe p i] (hi : i ≤ 1000) : CW ((Prog.rt G (run G n) false).call i_eased .non [.str (kS k), fr p]) ρ K X = K (fr (easedQ k p)) false ρ := cw_ok (rn_eased hn k hk p h hi)
theorem rn_slope (hn : 4 ≤ n) (k : Kd) (hk : ¬ k = .kept) (p : Rat) {i : Nat} (h : SzLe p i) (hi : i ≤ 1000) : run G n i_slope .non [.str (kS k), fr p] = .ok (fr (slopeQ k p)) false .non := by
  obtain ⟨n, rfl⟩ : ∃ m, n = m + 1 := ⟨n - 1, by omega⟩
  refine en_slope ?_
  unfold F_slope slopeQ
  rcases Decidable.em (p < 0) with z | z
  · rw [if_pos z]
    walk_at "e1"
  · rw [if_neg z]
    rcases Decidable.em (1 < p) with z' | z'
    · rw [if_pos z']
      walk_at "e1"
    · rw [if_neg z']
      cases k <;> first | exact absurd rfl hk | walk_at "e1"
theorem cw_slope (hn : 4 ≤ n) {k : Kd} (hk : ¬ k = .kept) {p : Rat} {i : Nat} [h : SzLe p i] (hi : i ≤ 1000) : CW ((Prog.rt G (run G n) false).call i_slope .non [.str (kS k), fr p]) ρ K X = K (fr (slopeQ k p)) false ρ := cw_ok (rn_slope hn k hk p h hi)
theorem rn_turned_kind (hn : 2 ≤ n) (k : Kd) (hk : ¬ k = .kept) : run G n i_turned_kind .non [.str (kS k)] = .ok (.str (kS (turnK k))) false .non := by
  obtain ⟨n, rfl⟩ : ∃ m, n = m + 1 := ⟨n - 1, by omega⟩
  refine en_turned_kind ?_
  unfold F_turned_kind
  walk_at "e1"
theorem cw_turned_kind (hn : 2 ≤ n) {k : Kd} (hk : ¬ k = .kept) : CW ((Prog.rt G (run G n) false).call i_turned_kind .non [.str (kS k)]) ρ K X = K (.str (kS (turnK k))) false ρ := cw_ok (rn_turned_kind hn k hk)
theorem rn__law_eased (hn : 3 ≤ n) (k : Kd) (p : Rat) (hk : ¬ k = .kept ∨ p ≤ 0 ∨ 1 ≤ p) {i : Nat} (h : SzLe p i) (hi : i ≤ 1000) : run G n i__law_eased .non [.str (kS k), fr p] = .ok (fr (easedQ k p)) false .non := by
  obtain ⟨n, rfl⟩ : ∃ m, n = m + 1 := ⟨n - 1, by omega⟩
  refine en__law_eased ?_
  unfold F__law_eased
  have hd := den_ne p
  have hp : (0 : Int) < p.den := by have := p.den_pos; omega
  have pi := den_lt_pos h
  have e0 : (p.num ≤ 0) ↔ p ≤ 0 := num_np p
  have e1 : ((p.den : Int) ≤ p.num) ↔ 1 ≤ p := by
    have q := Rat.le_iff 1 p
    simp at q
    rw [q]
  rcases Decidable.em (p ≤ 0) with z | z
  · rw [easedQ_lo k z]
    have z := e0.mpr z
    walk_at "e1"
  · rcases Decidable.em (1 ≤ p) with z' | z'
    · rw [easedQ_hi k z']
      have z := fun x => z (e0.mp x)
      have z' := e1.mpr z'
      walk_at "e1"
    · have hk : ¬ k = .kept := by
        rcases hk with hk | hk | hk
        · exact hk
        · exact absurd hk z
        · exact absurd hk z'
      have ek : keptQ p = p := keptQ_in (by grind) (by grind)
      have z := fun x => z (e0.mp x)
      have z' := fun x => z' (e1.mp x)
      have b2 : ((p.den : Int) * p.den).natAbs < 2 ^ 8000 := by
        rw [Int.natAbs_mul]
        exact Nat.lt_of_lt_of_le (mul_lt2 h.di h.di) (Nat.pow_le_pow_right (by decide) (by omega))
      have b3 : ((p.den : Int) * p.den * p.den).natAbs < 2 ^ 8000 := by
        rw [Int.natAbs_mul, Int.natAbs_mul]
        exact Nat.lt_of_lt_of_le (mul_lt2 (mul_lt2 h.di h.di) h.di) (Nat.pow_le_pow_right (by decide) (by omega))
      have ln : p.num.natAbs.log2 ≤ 1000 := by have := log2_lt h.n pi; omega
      have ld : (p.den : Int).natAbs.log2 ≤ 1000 := by have := log2_lt h.di pi; omega
      have lm : ∀ {x y : Int} {a b : Nat}, x.natAbs.log2 ≤ a → y.natAbs.log2 ≤ b → (x * y).natAbs.log2 ≤ a + b + 1 := fun {x y a b} hx hy => by
        rw [Int.natAbs_mul]
        have h1 : x.natAbs < 2 ^ (a + 1) := Nat.lt_of_lt_of_le Nat.lt_log2_self (Nat.pow_le_pow_right (by decide) (by omega))
        have h2 : y.natAbs < 2 ^ (b + 1) := Nat.lt_of_lt_of_le Nat.lt_log2_self (Nat.pow_le_pow_right (by decide) (by omega))
        have := log2_lt (mul_lt2 h1 h2) (by omega)
        omega
      have l2 : (2 : Int).natAbs.log2 ≤ 10 := by decide
      have l3 : (3 : Int).natAbs.log2 ≤ 10 := by decide
      have ed : (p.den : Int) * p.den ≠ 0 := mul_ne hd hd
      have ed3 : (p.den : Int) * p.den * p.den ≠ 0 := mul_ne ed hd
      have ee : p = Rat.divInt p.num p.den := (Rat.num_divInt_den p).symm
      have m1 := lm l3 ln
      have m2 := lm m1 ln
      have m3 := lm m2 ld
      have m4 := lm l2 ln
      have m5 := lm m4 ln
      have m6 := lm m5 ln
      have m7 := lm ld ld
      have m8 := lm m4 ld
      have m9 := lm ln ln
      have r2 : Rat.divInt (p.num * p.num) ((p.den : Int) * p.den) = p * p := fr_mul p p
      cases k <;> first | exact absurd rfl hk | skip
      · walk_at "e1"
        unfold easedQ
        rw [ek]
      · walk_at "e1"
        unfold easedQ
        refine ⟨by omega, by omega, ?_⟩
        rw [cw_ok (rn__law_made (by omega) _ _ ed b2), r2, ek]
        walk_at "ev"
      · walk_at "e1"
        unfold easedQ
        refine ⟨by omega, by omega, by omega, by omega, ?_⟩
        rw [cw_ok (rn__law_made (by omega) _ _ ed b2), ek]
        have e := eased_out p
        rw [e]
        walk_at "ev"
      · walk_at "e1"
        unfold easedQ
        refine ⟨by omega, by omega, by omega, by omega, by omega, by omega, by omega, by omega, ?_⟩
        rw [cw_ok (rn__law_made (by omega) _ _ ed3 b3), ek]
        have e := eased_both p
        rw [e]
        walk_at "ev"
      · walk_at "e1"
        unfold easedQ
        rw [ek, if_neg (by grind)]
      · walk_at "e1"
        unfold easedQ
        rw [ek]
        show fr (if p = 0 then 0 else 1) = fr 1
        rw [if_neg (by grind)]
theorem cw__law_eased (hn : 3 ≤ n) {k : Kd} {p : Rat} (hk : ¬ k = .kept ∨ p ≤ 0 ∨ 1 ≤ p) {i : Nat} [h : SzLe p i] (hi : i ≤ 1000) : CW ((Prog.rt G (run G n) false).call i__law_eased .non [.str (kS k), fr p]) ρ K X = K (fr (easedQ k p)) false ρ := cw_ok (rn__law_eased hn k p hk h hi)
theorem cv__law_eased_both (hn : 3 ≤ n) {p : Rat} {i : Nat} [h : SzLe p i] (hi : i ≤ 1000) : CW ((Prog.rt G (run G n) false).call i__law_eased .non [.str "both", fr p]) ρ K X = K (fr (easedQ .both p)) false ρ := cw_ok (rn__law_eased hn .both p (.inl (by decide)) h hi)
theorem cv__law_eased (hn : 3 ≤ n) {k : Kd} {p : Rat} (hk : ¬ k = .kept) {i : Nat} [h : SzLe p i] (hi : i ≤ 1000) : CW ((Prog.rt G (run G n) false).call i__law_eased .non [.str (kS k), fr p]) ρ K X = K (fr (easedQ k p)) false ρ := cw_ok (rn__law_eased hn k p (.inl hk) h hi)
end
end Gk11
end

section
open GW in
local macro_rules | `(tactic| walk_at "ev") => `(tactic| simp only [↓we_int, ↓we_bl, ↓we_non, ↓we_str, ↓we_tup, ↓we_lst, ↓wl_nil, ↓wl_cons, ↓we_bin, ↓we_cmp, ↓we_chain, ↓we_ix, ↓we_neg, ↓we_nt, ↓we_ife, ↓we_conj, ↓we_disj, ↓wa_nil, ↓wo_nil, ↓wa_cons, ↓wo_cons, ↓we_call, ↓we_bi, ↓we_isi, ↓we_rev, ↓we_sl, ↓we_mt, ↓we_bop, ↓we_rng, ↓we_zip, ↓we_enum, ↓we_gix, ↓we_glo, ↓ws_nil, ↓ws_set, ↓ws_exp, ↓ws_ret, ↓ws_retN, ↓ws_raise, ↓ws_pass, ↓ws_asgT, ↓ws_par, ↓ws_ite, ↓ws_try, ↓ws_whl, ↓th_nx, ↓th_rt, ↓th_exn, ↓th_bk, ↓th_ct, ↓tk_nx, ↓tk_rt, ↓nf_f, ↓nf_l, ↓nf_i, ↓nf_b, ↓nf_t, ↓nf_n, ↓nf_s, ↓nf_x, ↓br_t, ↓br_f, ↓br_n, ↓br_d, ↓ov_s, ↓cw_o, ↓cw_e, ↓wv0, ↓wo0, ↓wm0, ↓wn0, ↓se0f, ↓se0o, ↓sx0, ↓pk0f, ↓pk0o, ↓po0, ↓wv1, ↓wo1, ↓wm1, ↓wn1, ↓se1f, ↓se1o, ↓sx1, ↓pk1f, ↓pk1o, ↓po1, ↓wv2, ↓wo2, ↓wm2, ↓wn2, ↓se2f, ↓se2o, ↓sx2, ↓pk2f, ↓pk2o, ↓po2, ↓wv3, ↓wo3, ↓wm3, ↓wn3, ↓se3f, ↓se3o, ↓sx3, ↓pk3f, ↓pk3o, ↓po3, ↓wv4, ↓wo4, ↓wm4, ↓wn4, ↓se4f, ↓se4o, ↓sx4, ↓pk4f, ↓pk4o, ↓po4, ↓wv5, ↓wo5, ↓wm5, ↓wn5, ↓se5f, ↓se5o, ↓sx5, ↓pk5f, ↓pk5o, ↓po5, ↓wv6, ↓wo6, ↓wm6, ↓wn6, ↓se6f, ↓se6o, ↓sx6, ↓pk6f, ↓pk6o, ↓po6, ↓wv7, ↓wo7, ↓wm7, ↓wn7, ↓se7f, ↓se7o, ↓sx7, ↓pk7f, ↓pk7o, ↓po7, ↓wv8, ↓wo8, ↓wm8, ↓wn8, ↓se8f, ↓se8o, ↓sx8, ↓pk8f, ↓pk8o, ↓po8, ↓wv9, ↓wo9, ↓wm9, ↓wn9, ↓se9f, ↓se9o, ↓sx9, ↓pk9f, ↓pk9o, ↓po9, ↓wv10, ↓wo10, ↓wm10, ↓wn10, ↓se10f, ↓se10o, ↓sx10, ↓pk10f, ↓pk10o, ↓po10, ↓wv11, ↓wo11, ↓wm11, ↓wn11, ↓se11f, ↓se11o, ↓sx11, ↓pk11f, ↓pk11o, ↓po11, ↓wv12, ↓wo12, ↓wm12, ↓wn12, ↓se12f, ↓se12o, ↓sx12, ↓pk12f, ↓pk12o, ↓po12, ↓wv13, ↓wo13, ↓wm13, ↓wn13, ↓se13f, ↓se13o, ↓sx13, ↓pk13f, ↓pk13o, ↓po13, ↓wv14, ↓wo14, ↓wm14, ↓wn14, ↓se14f, ↓se14o, ↓sx14, ↓pk14f, ↓pk14o, ↓po14, ↓wv15, ↓wo15, ↓wm15, ↓wn15, ↓se15f, ↓se15o, ↓sx15, ↓pk15f, ↓pk15o, ↓po15, ↓wv16, ↓wo16, ↓wm16, ↓wn16, ↓se16f, ↓se16o, ↓sx16, ↓pk16f, ↓pk16o, ↓po16, ↓wv17, ↓wo17, ↓wm17, ↓wn17, ↓se17f, ↓se17o, ↓sx17, ↓pk17f, ↓pk17o, ↓po17, ↓wv18, ↓wo18, ↓wm18, ↓wn18, ↓se18f, ↓se18o, ↓sx18, ↓pk18f, ↓pk18o, ↓po18, ↓wv19, ↓wo19, ↓wm19, ↓wn19, ↓se19f, ↓se19o, ↓sx19, ↓pk19f, ↓pk19o, ↓po19, ↓wv20, ↓wo20, ↓wm20, ↓wn20, ↓se20f, ↓se20o, ↓sx20, ↓pk20f, ↓pk20o, ↓po20, ↓wv21, ↓wo21, ↓wm21, ↓wn21, ↓se21f, ↓se21o, ↓sx21, ↓pk21f, ↓pk21o, ↓po21, ↓wv22, ↓wo22, ↓wm22, ↓wn22, ↓se22f, ↓se22o, ↓sx22, ↓pk22f, ↓pk22o, ↓po22, ↓wv23, ↓wo23, ↓wm23, ↓wn23, ↓se23f, ↓se23o, ↓sx23, ↓pk23f, ↓pk23o, ↓po23, ↓wv24, ↓wo24, ↓wm24, ↓wn24, ↓se24f, ↓se24o, ↓sx24, ↓pk24f, ↓pk24o, ↓po24, ↓wv25, ↓wo25, ↓wm25, ↓wn25, ↓se25f, ↓se25o, ↓sx25, ↓pk25f, ↓pk25o, ↓po25, ↓ses_n, ↓ses_c, ↓sep_n, ↓sep_c, ↓ws_appn, ↓ws_extn, ↓b_add, ↓b_addl, ↓b_addt, ↓b_sub, ↓b_mul, ↓b_fdiv, ↓b_mod, ↓c_lt, ↓c_le, ↓c_gt, ↓c_ge, ↓c_eq, ↓c_ne, ↓is_n, ↓isn_n, ↓is_b, ↓isn_b, ↓is_i, ↓isn_i, ↓is_s, ↓isn_s, ↓is_t, ↓isn_t, ↓is_l, ↓isn_l, ↓is_x, ↓isn_x, ↓isn_bb, ↓is_bb, ↓ix_tup0, ↓ix_lst0, ↓ix_tup1, ↓ix_lst1, ↓ix_tup2, ↓ix_lst2, ↓ix_tup3, ↓ix_lst3, ↓ix_tup4, ↓ix_lst4, ↓ix_tup5, ↓ix_lst5, ↓ix_tup6, ↓ix_lst6, ↓ix_tup7, ↓ix_lst7, ↓ix_tup8, ↓ix_lst8, ↓ix_tup9, ↓ix_lst9, ↓ix_tup10, ↓ix_lst10, ↓ix_tup11, ↓ix_lst11, ↓ix_tup12, ↓ix_lst12, ↓ix_tup13, ↓ix_lst13, ↓ix_tup14, ↓ix_lst14, ↓ix_tup15, ↓ix_lst15, ↓ng, ↓up_t, ↓up_l, ↓it_t, ↓it_l, ↓ls_l, ↓pt_n, ↓pt_i, ↓rg1, ↓rg2, ↓bi_lenl, ↓bi_lent, ↓bi_abs, ↓bi_lil, ↓bi_lit, ↓bi_tul, ↓bi_tut, ↓rv_l, ↓ii_non_int, ↓ii_non_bool, ↓ii_non_str, ↓ii_non_tuple, ↓ii_non_list, ↓ii_bl_int, ↓ii_bl_bool, ↓ii_bl_str, ↓ii_bl_tuple, ↓ii_bl_list, ↓ii_int_int, ↓ii_int_bool, ↓ii_int_str, ↓ii_int_tuple, ↓ii_int_list, ↓ii_str_int, ↓ii_str_bool, ↓ii_str_str, ↓ii_str_tuple, ↓ii_str_list, ↓ii_tup_int, ↓ii_tup_bool, ↓ii_tup_str, ↓ii_tup_tuple, ↓ii_tup_list, ↓ii_lst_int, ↓ii_lst_bool, ↓ii_lst_str, ↓ii_lst_tuple, ↓ii_lst_list, ↓nf_fr, ↓ix_fr0, ↓ix_fr1, ↓ii_fr_t, ↓len_fr, ↓c_eqfr, ↓c_nefr, ↓ri_rt, ↓ri_nx, ↓ri_ex, ↓ri_rx, ↓ri_xr, ↓gd_nx, ↓gd_rt, ↓gd_ex, ↓ok_rt, ↓ws_forW, ↓ws_brk, ↓ws_cont, ↓lq_nx, ↓lq_ct, ↓lq_bk, ↓lq_rt, ↓lq_exn, ↓iq_nx, ↓iq_ct, ↓iq_bk, ↓iq_rt, ↓iq_exn, ↓st_n, ↓st_t, ↓sts_n, ↓sts_c, ↓we_lc, ↓now_n, ↓now_c, ↓gs_0, ↓gs_s, ↓io_f, ↓io_n, ↓wp_n, ↓wp_c, ↓ck_even, ↓cn_even, ↓ck_in, ↓cn_in, ↓ck_out, ↓cn_out, ↓ck_both, ↓cn_both, ↓ck_hold, ↓cn_hold, ↓ck_jump, ↓cn_jump, ↓ck_kept, ↓cn_kept, ↓ci_hj, ↓cj_hj, ↓ci_bk, ↓cj_bk, ↓ci_kinds, ↓cj_kinds, ↓gx_turn, ↓up_fr, ↓ok_i, ↓ok_ii, ↓turn_turn, ↓sl_t, ↓sl_l, ↓cut_h1, ↓cut_l1, ↓cut_h2, ↓cut_l2, ↓cut_h3, ↓cut_l3, ↓cut_h4, ↓cut_l4, ↓cut_h5, ↓cut_l5, ↓cut_2_4, ↓r_nn, ↓Gk11.gl_KINDS, ↓Gk11.gl_TURNED, ↓Gk11.gl_NONE, ↓Gk11.gl_ALL, decide_eq_true_eq, decide_eq_false_iff_not, Bool.not_eq_true', Bool.not_eq_false', true_and, and_true, and_self, true_implies, false_implies, implies_true, forall_const, not_true_eq_false, not_false_eq_true, Bool.not_true, Bool.not_false, decide_true, decide_false, reduceCtorEq, List.cons_append, List.nil_append, List.append_assoc, not_false_iff, eq_self, Tg.slots, GW.ld, GW.ld2, GW.p2_fr, List.length_cons, List.length_nil, List.all_cons, List.all_nil, Bool.and_self, GW.bq_tt, GW.bq_ff, GW.bq_tf, GW.bq_ft, List.zip_cons_cons, List.zip_nil_left, List.zip_nil_right])
open GW in
local macro_rules | `(tactic| walk_at "e1") => `(tactic| simp (maxSteps := 10000000) (disch := (first | assumption | omega | decide)) only [↓Gk11.gl_KINDS, ↓Gk11.gl_TURNED, ↓Gk11.gl_NONE, ↓Gk11.gl_ALL, ↓Gk11.cv_tk0_0, ↓Gk11.cv_tk1_1, ↓Gk11.cv_tk1_0, ↓Gk11.cv_tk2_2, ↓Gk11.cv_tk2_0, ↓Gk11.cw_divisor, ↓Gk11.cw__law_divisor, ↓Gk11.cw_plus, ↓Gk11.cw_minus, ↓Gk11.cw_times, ↓Gk11.cw__law_plus, ↓Gk11.cw__law_minus, ↓Gk11.cw__law_times, ↓Gk11.cw__law_over, ↓Gk11.cw_is_less, ↓Gk11.cw__law_less, ↓Gk11.cw__law_pick, ↓Gk11.cw__law_frac, ↓Gk11.cw__law_size, ↓Gk11.cw__law_kind, ↓Gk11.cw__law_made, ↓Gk11.cw_frac, ↓Gk11.cw_look_kind, ↓Gk11.cw_kept_in, ↓Gk11.cw_eased, ↓Gk11.cw_slope, ↓Gk11.cw_turned_kind, ↓Gk11.cw__law_eased, ↓Gk11.cv__law_eased_both, ↓Gk11.cv__law_eased, ↓GW.is_fr, ↓GW.isn_fr, ↓GW.bo_ix, ↓GW.b_pow6, ↓GW.lit_m12, ↓GW.b_mul3, ↓GW.we_dct, ↓GW.nf_d, ↓GW.mt_get, ↓GW.b_mul4, ↓we_int, ↓we_bl, ↓we_non, ↓we_str, ↓we_tup, ↓we_lst, ↓wl_nil, ↓wl_cons, ↓we_bin, ↓we_cmp, ↓we_chain, ↓we_ix, ↓we_neg, ↓we_nt, ↓we_ife, ↓we_conj, ↓we_disj, ↓wa_nil, ↓wo_nil, ↓wa_cons, ↓wo_cons, ↓we_call, ↓we_bi, ↓we_isi, ↓we_rev, ↓we_sl, ↓we_mt, ↓we_bop, ↓we_rng, ↓we_zip, ↓we_enum, ↓we_gix, ↓we_glo, ↓ws_nil, ↓ws_set, ↓ws_exp, ↓ws_ret, ↓ws_retN, ↓ws_raise, ↓ws_pass, ↓ws_asgT, ↓ws_par, ↓ws_ite, ↓ws_try, ↓ws_whl, ↓th_nx, ↓th_rt, ↓th_exn, ↓th_bk, ↓th_ct, ↓tk_nx, ↓tk_rt, ↓nf_f, ↓nf_l, ↓nf_i, ↓nf_b, ↓nf_t, ↓nf_n, ↓nf_s, ↓nf_x, ↓br_t, ↓br_f, ↓br_n, ↓ov_s, ↓cw_o, ↓cw_e, ↓wv0, ↓wo0, ↓wm0, ↓wn0, ↓se0f, ↓se0o, ↓sx0, ↓pk0f, ↓pk0o, ↓po0, ↓wv1, ↓wo1, ↓wm1, ↓wn1, ↓se1f, ↓se1o, ↓sx1, ↓pk1f, ↓pk1o, ↓po1, ↓wv2, ↓wo2, ↓wm2, ↓wn2, ↓se2f, ↓se2o, ↓sx2, ↓pk2f, ↓pk2o, ↓po2, ↓wv3, ↓wo3, ↓wm3, ↓wn3, ↓se3f, ↓se3o, ↓sx3, ↓pk3f, ↓pk3o, ↓po3, ↓wv4, ↓wo4, ↓wm4, ↓wn4, ↓se4f, ↓se4o, ↓sx4, ↓pk4f, ↓pk4o, ↓po4, ↓wv5, ↓wo5, ↓wm5, ↓wn5, ↓se5f, ↓se5o, ↓sx5, ↓pk5f, ↓pk5o, ↓po5, ↓wv6, ↓wo6, ↓wm6, ↓wn6, ↓se6f, ↓se6o, ↓sx6, ↓pk6f, ↓pk6o, ↓po6, ↓wv7, ↓wo7, ↓wm7, ↓wn7, ↓se7f, ↓se7o, ↓sx7, ↓pk7f, ↓pk7o, ↓po7, ↓wv8, ↓wo8, ↓wm8, ↓wn8, ↓se8f, ↓se8o, ↓sx8, ↓pk8f, ↓pk8o, ↓po8, ↓wv9, ↓wo9, ↓wm9, ↓wn9, ↓se9f, ↓se9o, ↓sx9, ↓pk9f, ↓pk9o, ↓po9, ↓wv10, ↓wo10, ↓wm10, ↓wn10, ↓se10f, ↓se10o, ↓sx10, ↓pk10f, ↓pk10o, ↓po10, ↓wv11, ↓wo11, ↓wm11, ↓wn11, ↓se11f, ↓se11o, ↓sx11, ↓pk11f, ↓pk11o, ↓po11, ↓wv12, ↓wo12, ↓wm12, ↓wn12, ↓se12f, ↓se12o, ↓sx12, ↓pk12f, ↓pk12o, ↓po12, ↓wv13, ↓wo13, ↓wm13, ↓wn13, ↓se13f, ↓se13o, ↓sx13, ↓pk13f, ↓pk13o, ↓po13, ↓wv14, ↓wo14, ↓wm14, ↓wn14, ↓se14f, ↓se14o, ↓sx14, ↓pk14f, ↓pk14o, ↓po14, ↓wv15, ↓wo15, ↓wm15, ↓wn15, ↓se15f, ↓se15o, ↓sx15, ↓pk15f, ↓pk15o, ↓po15, ↓wv16, ↓wo16, ↓wm16, ↓wn16, ↓se16f, ↓se16o, ↓sx16, ↓pk16f, ↓pk16o, ↓po16, ↓wv17, ↓wo17, ↓wm17, ↓wn17, ↓se17f, ↓se17o, ↓sx17, ↓pk17f, ↓pk17o, ↓po17, ↓wv18, ↓wo18, ↓wm18, ↓wn18, ↓se18f, ↓se18o, ↓sx18, ↓pk18f, ↓pk18o, ↓po18, ↓wv19, ↓wo19, ↓wm19, ↓wn19, ↓se19f, ↓se19o, ↓sx19, ↓pk19f, ↓pk19o, ↓po19, ↓wv20, ↓wo20, ↓wm20, ↓wn20, ↓se20f, ↓se20o, ↓sx20, ↓pk20f, ↓pk20o, ↓po20, ↓wv21, ↓wo21, ↓wm21, ↓wn21, ↓se21f, ↓se21o, ↓sx21, ↓pk21f, ↓pk21o, ↓po21, ↓wv22, ↓wo22, ↓wm22, ↓wn22, ↓se22f, ↓se22o, ↓sx22, ↓pk22f, ↓pk22o, ↓po22, ↓wv23, ↓wo23, ↓wm23, ↓wn23, ↓se23f, ↓se23o, ↓sx23, ↓pk23f, ↓pk23o, ↓po23, ↓wv24, ↓wo24, ↓wm24, ↓wn24, ↓se24f, ↓se24o, ↓sx24, ↓pk24f, ↓pk24o, ↓po24, ↓wv25, ↓wo25, ↓wm25, ↓wn25, ↓se25f, ↓se25o, ↓sx25, ↓pk25f, ↓pk25o, ↓po25, ↓ses_n, ↓ses_c, ↓sep_n, ↓sep_c, ↓ws_appn, ↓ws_extn, ↓b_add, ↓b_addl, ↓b_addt, ↓b_sub, ↓b_mul, ↓b_fdiv, ↓b_mod, ↓c_lt, ↓c_le, ↓c_gt, ↓c_ge, ↓c_eq, ↓c_ne, ↓is_n, ↓isn_n, ↓is_b, ↓isn_b, ↓is_i, ↓isn_i, ↓is_s, ↓isn_s, ↓is_t, ↓isn_t, ↓is_l, ↓isn_l, ↓is_x, ↓isn_x, ↓isn_bb, ↓is_bb, ↓ix_tup0, ↓ix_lst0, ↓ix_tup1, ↓ix_lst1, ↓ix_tup2, ↓ix_lst2, ↓ix_tup3, ↓ix_lst3, ↓ix_tup4, ↓ix_lst4, ↓ix_tup5, ↓ix_lst5, ↓ix_tup6, ↓ix_lst6, ↓ix_tup7, ↓ix_lst7, ↓ix_tup8, ↓ix_lst8, ↓ix_tup9, ↓ix_lst9, ↓ix_tup10, ↓ix_lst10, ↓ix_tup11, ↓ix_lst11, ↓ix_tup12, ↓ix_lst12, ↓ix_tup13, ↓ix_lst13, ↓ix_tup14, ↓ix_lst14, ↓ix_tup15, ↓ix_lst15, ↓ng, ↓up_t, ↓up_l, ↓it_t, ↓it_l, ↓ls_l, ↓pt_n, ↓pt_i, ↓rg1, ↓rg2, ↓bi_lenl, ↓bi_lent, ↓bi_abs, ↓bi_lil, ↓bi_lit, ↓bi_tul, ↓bi_tut, ↓rv_l, ↓ii_non_int, ↓ii_non_bool, ↓ii_non_str, ↓ii_non_tuple, ↓ii_non_list, ↓ii_bl_int, ↓ii_bl_bool, ↓ii_bl_str, ↓ii_bl_tuple, ↓ii_bl_list, ↓ii_int_int, ↓ii_int_bool, ↓ii_int_str, ↓ii_int_tuple, ↓ii_int_list, ↓ii_str_int, ↓ii_str_bool, ↓ii_str_str, ↓ii_str_tuple, ↓ii_str_list, ↓ii_tup_int, ↓ii_tup_bool, ↓ii_tup_str, ↓ii_tup_tuple, ↓ii_tup_list, ↓ii_lst_int, ↓ii_lst_bool, ↓ii_lst_str, ↓ii_lst_tuple, ↓ii_lst_list, ↓nf_fr, ↓ix_fr0, ↓ix_fr1, ↓ii_fr_t, ↓len_fr, ↓c_eqfr, ↓c_nefr, ↓c_eqfrs, ↓c_nefrs, ↓c_eqbs, ↓c_nebs, ↓ri_rt, ↓ri_nx, ↓ri_ex, ↓ri_rx, ↓ri_xr, ↓gd_nx, ↓gd_rt, ↓gd_ex, ↓ok_rt, ↓ws_forW, ↓ws_brk, ↓ws_cont, ↓lq_nx, ↓lq_ct, ↓lq_bk, ↓lq_rt, ↓lq_exn, ↓iq_nx, ↓iq_ct, ↓iq_bk, ↓iq_rt, ↓iq_exn, ↓st_n, ↓st_t, ↓sts_n, ↓sts_c, ↓we_lc, ↓now_n, ↓now_c, ↓gs_0, ↓gs_s, ↓io_f, ↓io_n, ↓wp_n, ↓wp_c, ↓ck_even, ↓cn_even, ↓ck_in, ↓cn_in, ↓ck_out, ↓cn_out, ↓ck_both, ↓cn_both, ↓ck_hold, ↓cn_hold, ↓ck_jump, ↓cn_jump, ↓ck_kept, ↓cn_kept, ↓ci_hj, ↓cj_hj, ↓ci_bk, ↓cj_bk, ↓ci_kinds, ↓cj_kinds, ↓gx_turn, ↓up_fr, ↓ok_i, ↓ok_ii, ↓turn_turn, ↓sl_t, ↓sl_l, ↓cut_h1, ↓cut_l1, ↓cut_h2, ↓cut_l2, ↓cut_h3, ↓cut_l3, ↓cut_h4, ↓cut_l4, ↓cut_h5, ↓cut_l5, ↓cut_2_4, ↓r_nn, ↓c_eqself, ↓c_neself, ↓br_T, ↓br_F, ↓lit01, ↓lit11, ↓lit21, ↓lit31, ↓lit41, ↓lit61, ↓lit12, ↓lit32, decide_eq_true_eq, decide_eq_false_iff_not, Bool.not_eq_true', Bool.not_eq_false', true_and, and_true, and_self, true_implies, false_implies, implies_true, forall_const, not_true_eq_false, not_false_eq_true, Bool.not_true, Bool.not_false, decide_true, decide_false, reduceCtorEq, List.cons_append, List.nil_append, List.append_assoc, not_false_iff, eq_self, Tg.slots, GW.ld, GW.ld2, GW.p2_fr, List.length_cons, List.length_nil, List.all_cons, List.all_nil, Bool.and_self, GW.bq_tt, GW.bq_ff, GW.bq_tf, GW.bq_ft, List.zip_cons_cons, List.zip_nil_left, List.zip_nil_right])
open GW in
local macro_rules | `(tactic| walk_at "e2") => `(tactic| simp (maxSteps := 10000000) (disch := (first | assumption | omega | decide)) only [↓Gk11.gl_KINDS, ↓Gk11.gl_TURNED, ↓Gk11.gl_NONE, ↓Gk11.gl_ALL, ↓Gk11.cv_tk0_0, ↓Gk11.cv_tk1_1, ↓Gk11.cv_tk1_0, ↓Gk11.cv_tk2_2, ↓Gk11.cv_tk2_0, ↓Gk11.cw_divisor, ↓Gk11.cw__law_divisor, ↓Gk11.cw_plus, ↓Gk11.cw_minus, ↓Gk11.cw_times, ↓Gk11.cw__law_plus, ↓Gk11.cw__law_minus, ↓Gk11.cw__law_times, ↓Gk11.cw__law_over, ↓Gk11.cw_is_less, ↓Gk11.cw__law_less, ↓Gk11.cw__law_pick, ↓Gk11.cw__law_frac, ↓Gk11.cw__law_size, ↓Gk11.cw__law_kind, ↓Gk11.cw__law_made, ↓Gk11.cw_frac, ↓Gk11.cw_look_kind, ↓Gk11.cw_kept_in, ↓Gk11.cw_eased, ↓Gk11.cw_slope, ↓Gk11.cw_turned_kind, ↓Gk11.cw__law_eased, ↓Gk11.cv__law_eased_both, ↓Gk11.cv__law_eased, ↓GW.is_fr, ↓GW.isn_fr, ↓GW.bo_ix, ↓GW.b_pow6, ↓GW.lit_m12, ↓GW.b_mul3, ↓GW.we_dct, ↓GW.nf_d, ↓GW.mt_get, ↓GW.b_mul4, ↓we_int, ↓we_bl, ↓we_non, ↓we_str, ↓we_tup, ↓we_lst, ↓wl_nil, ↓wl_cons, ↓we_bin, ↓we_cmp, ↓we_chain, ↓we_ix, ↓we_neg, ↓we_nt, ↓we_ife, ↓we_conj, ↓we_disj, ↓wa_nil, ↓wo_nil, ↓wa_cons, ↓wo_cons, ↓we_call, ↓we_bi, ↓we_isi, ↓we_rev, ↓we_sl, ↓we_mt, ↓we_bop, ↓we_rng, ↓we_zip, ↓we_enum, ↓we_gix, ↓we_glo, ↓ws_nil, ↓ws_set, ↓ws_exp, ↓ws_ret, ↓ws_retN, ↓ws_raise, ↓ws_pass, ↓ws_asgT, ↓ws_par, ↓ws_ite, ↓ws_try, ↓ws_whl, ↓th_nx, ↓th_rt, ↓th_exn, ↓th_bk, ↓th_ct, ↓tk_nx, ↓tk_rt, ↓nf_f, ↓nf_l, ↓nf_i, ↓nf_b, ↓nf_t, ↓nf_n, ↓nf_s, ↓nf_x, ↓br_t, ↓br_f, ↓br_n, ↓br_d, ↓ov_s, ↓cw_o, ↓cw_e, ↓wv0, ↓wo0, ↓wm0, ↓wn0, ↓se0f, ↓se0o, ↓sx0, ↓pk0f, ↓pk0o, ↓po0, ↓wv1, ↓wo1, ↓wm1, ↓wn1, ↓se1f, ↓se1o, ↓sx1, ↓pk1f, ↓pk1o, ↓po1, ↓wv2, ↓wo2, ↓wm2, ↓wn2, ↓se2f, ↓se2o, ↓sx2, ↓pk2f, ↓pk2o, ↓po2, ↓wv3, ↓wo3, ↓wm3, ↓wn3, ↓se3f, ↓se3o, ↓sx3, ↓pk3f, ↓pk3o, ↓po3, ↓wv4, ↓wo4, ↓wm4, ↓wn4, ↓se4f, ↓se4o, ↓sx4, ↓pk4f, ↓pk4o, ↓po4, ↓wv5, ↓wo5, ↓wm5, ↓wn5, ↓se5f, ↓se5o, ↓sx5, ↓pk5f, ↓pk5o, ↓po5, ↓wv6, ↓wo6, ↓wm6, ↓wn6, ↓se6f, ↓se6o, ↓sx6, ↓pk6f, ↓pk6o, ↓po6, ↓wv7, ↓wo7, ↓wm7, ↓wn7, ↓se7f, ↓se7o, ↓sx7, ↓pk7f, ↓pk7o, ↓po7, ↓wv8, ↓wo8, ↓wm8, ↓wn8, ↓se8f, ↓se8o, ↓sx8, ↓pk8f, ↓pk8o, ↓po8, ↓wv9, ↓wo9, ↓wm9, ↓wn9, ↓se9f, ↓se9o, ↓sx9, ↓pk9f, ↓pk9o, ↓po9, ↓wv10, ↓wo10, ↓wm10, ↓wn10, ↓se10f, ↓se10o, ↓sx10, ↓pk10f, ↓pk10o, ↓po10, ↓wv11, ↓wo11, ↓wm11, ↓wn11, ↓se11f, ↓se11o, ↓sx11, ↓pk11f, ↓pk11o, ↓po11, ↓wv12, ↓wo12, ↓wm12, ↓wn12, ↓se12f, ↓se12o, ↓sx12, ↓pk12f, ↓pk12o, ↓po12, ↓wv13, ↓wo13, ↓wm13, ↓wn13, ↓se13f, ↓se13o, ↓sx13, ↓pk13f, ↓pk13o, ↓po13, ↓wv14, ↓wo14, ↓wm14, ↓wn14, ↓se14f, ↓se14o, ↓sx14, ↓pk14f, ↓pk14o, ↓po14, ↓wv15, ↓wo15, ↓wm15, ↓wn15, ↓se15f, ↓se15o, ↓sx15, ↓pk15f, ↓pk15o, ↓po15, ↓wv16, ↓wo16, ↓wm16, ↓wn16, ↓se16f, ↓se16o, ↓sx16, ↓pk16f, ↓pk16o, ↓po16, ↓wv17, ↓wo17, ↓wm17, ↓wn17, ↓se17f, ↓se17o, ↓sx17, ↓pk17f, ↓pk17o, ↓po17, ↓wv18, ↓wo18, ↓wm18, ↓wn18, ↓se18f, ↓se18o, ↓sx18, ↓pk18f, ↓pk18o, ↓po18, ↓wv19, ↓wo19, ↓wm19, ↓wn19, ↓se19f, ↓se19o, ↓sx19, ↓pk19f, ↓pk19o, ↓po19, ↓wv20, ↓wo20, ↓wm20, ↓wn20, ↓se20f, ↓se20o, ↓sx20, ↓pk20f, ↓pk20o, ↓po20, ↓wv21, ↓wo21, ↓wm21, ↓wn21, ↓se21f, ↓se21o, ↓sx21, ↓pk21f, ↓pk21o, ↓po21, ↓wv22, ↓wo22, ↓wm22, ↓wn22, ↓se22f, ↓se22o, ↓sx22, ↓pk22f, ↓pk22o, ↓po22, ↓wv23, ↓wo23, ↓wm23, ↓wn23, ↓se23f, ↓se23o, ↓sx23, ↓pk23f, ↓pk23o, ↓po23, ↓wv24, ↓wo24, ↓wm24, ↓wn24, ↓se24f, ↓se24o, ↓sx24, ↓pk24f, ↓pk24o, ↓po24, ↓wv25, ↓wo25, ↓wm25, ↓wn25, ↓se25f, ↓se25o, ↓sx25, ↓pk25f, ↓pk25o, ↓po25, ↓ses_n, ↓ses_c, ↓sep_n, ↓sep_c, ↓ws_appn, ↓ws_extn, ↓b_add, ↓b_addl, ↓b_addt, ↓b_sub, ↓b_mul, ↓b_fdiv, ↓b_mod, ↓c_lt, ↓c_le, ↓c_gt, ↓c_ge, ↓c_eq, ↓c_ne, ↓is_n, ↓isn_n, ↓is_b, ↓isn_b, ↓is_i, ↓isn_i, ↓is_s, ↓isn_s, ↓is_t, ↓isn_t, ↓is_l, ↓isn_l, ↓is_x, ↓isn_x, ↓isn_bb, ↓is_bb, ↓ix_tup0, ↓ix_lst0, ↓ix_tup1, ↓ix_lst1, ↓ix_tup2, ↓ix_lst2, ↓ix_tup3, ↓ix_lst3, ↓ix_tup4, ↓ix_lst4, ↓ix_tup5, ↓ix_lst5, ↓ix_tup6, ↓ix_lst6, ↓ix_tup7, ↓ix_lst7, ↓ix_tup8, ↓ix_lst8, ↓ix_tup9, ↓ix_lst9, ↓ix_tup10, ↓ix_lst10, ↓ix_tup11, ↓ix_lst11, ↓ix_tup12, ↓ix_lst12, ↓ix_tup13, ↓ix_lst13, ↓ix_tup14, ↓ix_lst14, ↓ix_tup15, ↓ix_lst15, ↓ng, ↓up_t, ↓up_l, ↓it_t, ↓it_l, ↓ls_l, ↓pt_n, ↓pt_i, ↓rg1, ↓rg2, ↓bi_lenl, ↓bi_lent, ↓bi_abs, ↓bi_lil, ↓bi_lit, ↓bi_tul, ↓bi_tut, ↓rv_l, ↓ii_non_int, ↓ii_non_bool, ↓ii_non_str, ↓ii_non_tuple, ↓ii_non_list, ↓ii_bl_int, ↓ii_bl_bool, ↓ii_bl_str, ↓ii_bl_tuple, ↓ii_bl_list, ↓ii_int_int, ↓ii_int_bool, ↓ii_int_str, ↓ii_int_tuple, ↓ii_int_list, ↓ii_str_int, ↓ii_str_bool, ↓ii_str_str, ↓ii_str_tuple, ↓ii_str_list, ↓ii_tup_int, ↓ii_tup_bool, ↓ii_tup_str, ↓ii_tup_tuple, ↓ii_tup_list, ↓ii_lst_int, ↓ii_lst_bool, ↓ii_lst_str, ↓ii_lst_tuple, ↓ii_lst_list, ↓nf_fr, ↓ix_fr0, ↓ix_fr1, ↓ii_fr_t, ↓len_fr, ↓c_eqfr, ↓c_nefr, ↓ri_rt, ↓ri_nx, ↓ri_ex, ↓ri_rx, ↓ri_xr, ↓gd_nx, ↓gd_rt, ↓gd_ex, ↓ok_rt, ↓ws_forW, ↓ws_brk, ↓ws_cont, ↓lq_nx, ↓lq_ct, ↓lq_bk, ↓lq_rt, ↓lq_exn, ↓iq_nx, ↓iq_ct, ↓iq_bk, ↓iq_rt, ↓iq_exn, ↓st_n, ↓st_t, ↓sts_n, ↓sts_c, ↓we_lc, ↓now_n, ↓now_c, ↓gs_0, ↓gs_s, ↓io_f, ↓io_n, ↓wp_n, ↓wp_c, ↓ck_even, ↓cn_even, ↓ck_in, ↓cn_in, ↓ck_out, ↓cn_out, ↓ck_both, ↓cn_both, ↓ck_hold, ↓cn_hold, ↓ck_jump, ↓cn_jump, ↓ck_kept, ↓cn_kept, ↓ci_hj, ↓cj_hj, ↓ci_bk, ↓cj_bk, ↓ci_kinds, ↓cj_kinds, ↓gx_turn, ↓up_fr, ↓ok_i, ↓ok_ii, ↓turn_turn, ↓sl_t, ↓sl_l, ↓cut_h1, ↓cut_l1, ↓cut_h2, ↓cut_l2, ↓cut_h3, ↓cut_l3, ↓cut_h4, ↓cut_l4, ↓cut_h5, ↓cut_l5, ↓cut_2_4, ↓r_nn, ↓lit01, ↓lit11, ↓lit21, ↓lit31, ↓lit41, ↓lit61, ↓lit12, ↓lit32, decide_eq_true_eq, decide_eq_false_iff_not, Bool.not_eq_true', Bool.not_eq_false', true_and, and_true, and_self, true_implies, false_implies, implies_true, forall_const, not_true_eq_false, not_false_eq_true, Bool.not_true, Bool.not_false, decide_true, decide_false, reduceCtorEq, List.cons_append, List.nil_append, List.append_assoc, not_false_iff, eq_self, Tg.slots, GW.ld, GW.ld2, GW.p2_fr, List.length_cons, List.length_nil, List.all_cons, List.all_nil, Bool.and_self, GW.bq_tt, GW.bq_ff, GW.bq_tf, GW.bq_ft, List.zip_cons_cons, List.zip_nil_left, List.zip_nil_right])
open GW in
local macro_rules | `(tactic| walk_at "e1u") => `(tactic| simp (maxSteps := 10000000) (disch := (first | assumption | omega | decide)) only [↓Gk11.gl_KINDS, ↓Gk11.gl_TURNED, ↓Gk11.gl_NONE, ↓Gk11.gl_ALL, ↓Gk11.cv_tk0_0, ↓Gk11.cv_tk1_1, ↓Gk11.cv_tk1_0, ↓Gk11.cv_tk2_2, ↓Gk11.cv_tk2_0, ↓Gk11.cw_divisor, ↓Gk11.cw__law_divisor, ↓Gk11.cw_plus, ↓Gk11.cw_minus, ↓Gk11.cw_times, ↓Gk11.cw__law_plus, ↓Gk11.cw__law_minus, ↓Gk11.cw__law_times, ↓Gk11.cw__law_over, ↓Gk11.cw_is_less, ↓Gk11.cw__law_less, ↓Gk11.cw__law_pick, ↓Gk11.cw__law_frac, ↓Gk11.cw__law_size, ↓Gk11.cw__law_kind, ↓Gk11.cw__law_made, ↓Gk11.cw_frac, ↓Gk11.cw_look_kind, ↓Gk11.cw_kept_in, ↓Gk11.cw_eased, ↓Gk11.cw_slope, ↓Gk11.cw_turned_kind, ↓Gk11.cw__law_eased, ↓Gk11.cv__law_eased_both, ↓Gk11.cv__law_eased, ↓GW.is_fr, ↓GW.isn_fr, ↓GW.bo_ix, ↓GW.b_pow6, ↓GW.lit_m12, ↓GW.b_mul3, ↓GW.we_dct, ↓GW.nf_d, ↓GW.mt_get, ↓GW.b_mul4, ↓we_int, ↓we_bl, ↓we_non, ↓we_str, ↓we_tup, ↓we_lst, ↓wl_nil, ↓wl_cons, ↓we_bin, ↓we_cmp, ↓we_chain, ↓we_ix, ↓we_neg, ↓we_nt, ↓we_ife, ↓we_conj, ↓we_disj, ↓wa_nil, ↓wo_nil, ↓wa_cons, ↓wo_cons, ↓we_call, ↓we_bi, ↓we_isi, ↓we_rev, ↓we_sl, ↓we_mt, ↓we_bop, ↓we_rng, ↓we_zip, ↓we_enum, ↓we_gix, ↓we_glo, ↓ws_nil, ↓ws_set, ↓ws_exp, ↓ws_ret, ↓ws_retN, ↓ws_raise, ↓ws_pass, ↓ws_asgT, ↓ws_par, ↓ws_ite, ↓ws_try, ↓ws_whl, ↓th_nx, ↓th_rt, ↓th_exn, ↓th_bk, ↓th_ct, ↓tk_nx, ↓tk_rt, ↓nf_f, ↓nf_l, ↓nf_i, ↓nf_b, ↓nf_t, ↓nf_n, ↓nf_s, ↓nf_x, ↓br_t, ↓br_f, ↓br_n, ↓ov_s, ↓cw_o, ↓cw_e, ↓wv0, ↓wo0, ↓wm0, ↓wn0, ↓se0f, ↓se0o, ↓sx0, ↓pk0f, ↓pk0o, ↓po0, ↓wv1, ↓wo1, ↓wm1, ↓wn1, ↓se1f, ↓se1o, ↓sx1, ↓pk1f, ↓pk1o, ↓po1, ↓wv2, ↓wo2, ↓wm2, ↓wn2, ↓se2f, ↓se2o, ↓sx2, ↓pk2f, ↓pk2o, ↓po2, ↓wv3, ↓wo3, ↓wm3, ↓wn3, ↓se3f, ↓se3o, ↓sx3, ↓pk3f, ↓pk3o, ↓po3, ↓wv4, ↓wo4, ↓wm4, ↓wn4, ↓se4f, ↓se4o, ↓sx4, ↓pk4f, ↓pk4o, ↓po4, ↓wv5, ↓wo5, ↓wm5, ↓wn5, ↓se5f, ↓se5o, ↓sx5, ↓pk5f, ↓pk5o, ↓po5, ↓wv6, ↓wo6, ↓wm6, ↓wn6, ↓se6f, ↓se6o, ↓sx6, ↓pk6f, ↓pk6o, ↓po6, ↓wv7, ↓wo7, ↓wm7, ↓wn7, ↓se7f, ↓se7o, ↓sx7, ↓pk7f, ↓pk7o, ↓po7, ↓wv8, ↓wo8, ↓wm8, ↓wn8, ↓se8f, ↓se8o, ↓sx8, ↓pk8f, ↓pk8o, ↓po8, ↓wv9, ↓wo9, ↓wm9, ↓wn9, ↓se9f, ↓se9o, ↓sx9, ↓pk9f, ↓pk9o, ↓po9, ↓wv10, ↓wo10, ↓wm10, ↓wn10, ↓se10f, ↓se10o, ↓sx10, ↓pk10f, ↓pk10o, ↓po10, ↓wv11, ↓wo11, ↓wm11, ↓wn11, ↓se11f, ↓se11o, ↓sx11, ↓pk11f, ↓pk11o, ↓po11, ↓wv12, ↓wo12, ↓wm12, ↓wn12, ↓se12f, ↓se12o, ↓sx12, ↓pk12f, ↓pk12o, ↓po12, ↓wv13, ↓wo13, ↓wm13, ↓wn13, ↓se13f, ↓se13o, ↓sx13, ↓pk13f, ↓pk13o, ↓po13, ↓wv14, ↓wo14, ↓wm14, ↓wn14, ↓se14f, ↓se14o, ↓sx14, ↓pk14f, ↓pk14o, ↓po14, ↓wv15, ↓wo15, ↓wm15, ↓wn15, ↓se15f, ↓se15o, ↓sx15, ↓pk15f, ↓pk15o, ↓po15, ↓wv16, ↓wo16, ↓wm16, ↓wn16, ↓se16f, ↓se16o, ↓sx16, ↓pk16f, ↓pk16o, ↓po16, ↓wv17, ↓wo17, ↓wm17, ↓wn17, ↓se17f, ↓se17o, ↓sx17, ↓pk17f, ↓pk17o, ↓po17, ↓wv18, ↓wo18, ↓wm18, ↓wn18, ↓se18f, ↓se18o, ↓sx18, ↓pk18f, ↓pk18o, ↓po18, ↓wv19, ↓wo19, ↓wm19, ↓wn19, ↓se19f, ↓se19o, ↓sx19, ↓pk19f, ↓pk19o, ↓po19, ↓wv20, ↓wo20, ↓wm20, ↓wn20, ↓se20f, ↓se20o, ↓sx20, ↓pk20f, ↓pk20o, ↓po20, ↓wv21, ↓wo21, ↓wm21, ↓wn21, ↓se21f, ↓se21o, ↓sx21, ↓pk21f, ↓pk21o, ↓po21, ↓wv22, ↓wo22, ↓wm22, ↓wn22, ↓se22f, ↓se22o, ↓sx22, ↓pk22f, ↓pk22o, ↓po22, ↓wv23, ↓wo23, ↓wm23, ↓wn23, ↓se23f, ↓se23o, ↓sx23, ↓pk23f, ↓pk23o, ↓po23, ↓wv24, ↓wo24, ↓wm24, ↓wn24, ↓se24f, ↓se24o, ↓sx24, ↓pk24f, ↓pk24o, ↓po24, ↓wv25, ↓wo25, ↓wm25, ↓wn25, ↓se25f, ↓se25o, ↓sx25, ↓pk25f, ↓pk25o, ↓po25, ↓ses_n, ↓ses_c, ↓sep_n, ↓sep_c, ↓ws_appn, ↓ws_extn, ↓b_add, ↓b_addl, ↓b_addt, ↓b_sub, ↓b_mul, ↓b_fdiv, ↓b_mod, ↓c_lt, ↓c_le, ↓c_gt, ↓c_ge, ↓c_eq, ↓c_ne, ↓is_n, ↓isn_n, ↓is_b, ↓isn_b, ↓is_i, ↓isn_i, ↓is_s, ↓isn_s, ↓is_t, ↓isn_t, ↓is_l, ↓isn_l, ↓is_x, ↓isn_x, ↓isn_bb, ↓is_bb, ↓ix_tup0, ↓ix_lst0, ↓ix_tup1, ↓ix_lst1, ↓ix_tup2, ↓ix_lst2, ↓ix_tup3, ↓ix_lst3, ↓ix_tup4, ↓ix_lst4, ↓ix_tup5, ↓ix_lst5, ↓ix_tup6, ↓ix_lst6, ↓ix_tup7, ↓ix_lst7, ↓ix_tup8, ↓ix_lst8, ↓ix_tup9, ↓ix_lst9, ↓ix_tup10, ↓ix_lst10, ↓ix_tup11, ↓ix_lst11, ↓ix_tup12, ↓ix_lst12, ↓ix_tup13, ↓ix_lst13, ↓ix_tup14, ↓ix_lst14, ↓ix_tup15, ↓ix_lst15, ↓ng, ↓up_t, ↓up_l, ↓it_t, ↓it_l, ↓ls_l, ↓pt_n, ↓pt_i, ↓rg1, ↓rg2, ↓bi_lenl, ↓bi_lent, ↓bi_abs, ↓bi_lil, ↓bi_lit, ↓bi_tul, ↓bi_tut, ↓rv_l, ↓ii_non_int, ↓ii_non_bool, ↓ii_non_str, ↓ii_non_tuple, ↓ii_non_list, ↓ii_bl_int, ↓ii_bl_bool, ↓ii_bl_str, ↓ii_bl_tuple, ↓ii_bl_list, ↓ii_int_int, ↓ii_int_bool, ↓ii_int_str, ↓ii_int_tuple, ↓ii_int_list, ↓ii_str_int, ↓ii_str_bool, ↓ii_str_str, ↓ii_str_tuple, ↓ii_str_list, ↓ii_tup_int, ↓ii_tup_bool, ↓ii_tup_str, ↓ii_tup_tuple, ↓ii_tup_list, ↓ii_lst_int, ↓ii_lst_bool, ↓ii_lst_str, ↓ii_lst_tuple, ↓ii_lst_list, ↓nf_fr, ↓ix_fr0, ↓ix_fr1, ↓ii_fr_t, ↓len_fr, ↓c_eqfr, ↓c_nefr, ↓c_eqfrs, ↓c_nefrs, ↓c_eqbs, ↓c_nebs, ↓ri_rt, ↓ri_nx, ↓ri_ex, ↓ri_rx, ↓ri_xr, ↓gd_nx, ↓gd_rt, ↓gd_ex, ↓ok_rt, ↓ws_forW, ↓ws_brk, ↓ws_cont, ↓lq_nx, ↓lq_ct, ↓lq_bk, ↓lq_rt, ↓lq_exn, ↓iq_nx, ↓iq_ct, ↓iq_bk, ↓iq_rt, ↓iq_exn, ↓st_n, ↓st_t, ↓sts_n, ↓sts_c, ↓we_lc, ↓now_n, ↓now_c, ↓gs_0, ↓gs_s, ↓io_f, ↓io_n, ↓wp_n, ↓wp_c, ↓ck_even, ↓cn_even, ↓ck_in, ↓cn_in, ↓ck_out, ↓cn_out, ↓ck_both, ↓cn_both, ↓ck_hold, ↓cn_hold, ↓ck_jump, ↓cn_jump, ↓ck_kept, ↓cn_kept, ↓ci_hj, ↓cj_hj, ↓ci_bk, ↓cj_bk, ↓ci_kinds, ↓cj_kinds, ↓gx_turn, ↓up_fr, ↓ok_i, ↓ok_ii, ↓turn_turn, ↓sl_t, ↓sl_l, ↓cut_h1, ↓cut_l1, ↓cut_h2, ↓cut_l2, ↓cut_h3, ↓cut_l3, ↓cut_h4, ↓cut_l4, ↓cut_h5, ↓cut_l5, ↓cut_2_4, ↓r_nn, ↓c_eqself, ↓c_neself, ↓br_T, ↓br_F, ↓lit01, ↓lit11, ↓lit21, ↓lit31, ↓lit41, ↓lit61, ↓lit12, ↓lit32, ↓wf_nil, ↓wf_cons, ↓ov_lcf, ↓ov_col_n, ↓ov_col_c, ↓optL_n, ↓optL_s, decide_eq_true_eq, decide_eq_false_iff_not, Bool.not_eq_true', Bool.not_eq_false', true_and, and_true, and_self, true_implies, false_implies, implies_true, forall_const, not_true_eq_false, not_false_eq_true, Bool.not_true, Bool.not_false, decide_true, decide_false, reduceCtorEq, List.cons_append, List.nil_append, List.append_assoc, not_false_iff, eq_self, Tg.slots, GW.ld, GW.ld2, GW.p2_fr, List.length_cons, List.length_nil, List.all_cons, List.all_nil, Bool.and_self, GW.bq_tt, GW.bq_ff, GW.bq_tf, GW.bq_ft, List.zip_cons_cons, List.zip_nil_left, List.zip_nil_right])
open GW in
local macro_rules | `(tactic| walk_at "e2u") => `(tactic| simp (maxSteps := 10000000) (disch := (first | assumption | omega | decide)) only [↓Gk11.gl_KINDS, ↓Gk11.gl_TURNED, ↓Gk11.gl_NONE, ↓Gk11.gl_ALL, ↓Gk11.cv_tk0_0, ↓Gk11.cv_tk1_1, ↓Gk11.cv_tk1_0, ↓Gk11.cv_tk2_2, ↓Gk11.cv_tk2_0, ↓Gk11.cw_divisor, ↓Gk11.cw__law_divisor, ↓Gk11.cw_plus, ↓Gk11.cw_minus, ↓Gk11.cw_times, ↓Gk11.cw__law_plus, ↓Gk11.cw__law_minus, ↓Gk11.cw__law_times, ↓Gk11.cw__law_over, ↓Gk11.cw_is_less, ↓Gk11.cw__law_less, ↓Gk11.cw__law_pick, ↓Gk11.cw__law_frac, ↓Gk11.cw__law_size, ↓Gk11.cw__law_kind, ↓Gk11.cw__law_made, ↓Gk11.cw_frac, ↓Gk11.cw_look_kind, ↓Gk11.cw_kept_in, ↓Gk11.cw_eased, ↓Gk11.cw_slope, ↓Gk11.cw_turned_kind, ↓Gk11.cw__law_eased, ↓Gk11.cv__law_eased_both, ↓Gk11.cv__law_eased, ↓GW.is_fr, ↓GW.isn_fr, ↓GW.bo_ix, ↓GW.b_pow6, ↓GW.lit_m12, ↓GW.b_mul3, ↓GW.we_dct, ↓GW.nf_d, ↓GW.mt_get, ↓GW.b_mul4, ↓we_int, ↓we_bl, ↓we_non, ↓we_str, ↓we_tup, ↓we_lst, ↓wl_nil, ↓wl_cons, ↓we_bin, ↓we_cmp, ↓we_chain, ↓we_ix, ↓we_neg, ↓we_nt, ↓we_ife, ↓we_conj, ↓we_disj, ↓wa_nil, ↓wo_nil, ↓wa_cons, ↓wo_cons, ↓we_call, ↓we_bi, ↓we_isi, ↓we_rev, ↓we_sl, ↓we_mt, ↓we_bop, ↓we_rng, ↓we_zip, ↓we_enum, ↓we_gix, ↓we_glo, ↓ws_nil, ↓ws_set, ↓ws_exp, ↓ws_ret, ↓ws_retN, ↓ws_raise, ↓ws_pass, ↓ws_asgT, ↓ws_par, ↓ws_ite, ↓ws_try, ↓ws_whl, ↓th_nx, ↓th_rt, ↓th_exn, ↓th_bk, ↓th_ct, ↓tk_nx, ↓tk_rt, ↓nf_f, ↓nf_l, ↓nf_i, ↓nf_b, ↓nf_t, ↓nf_n, ↓nf_s, ↓nf_x, ↓br_t, ↓br_f, ↓br_n, ↓br_d, ↓ov_s, ↓cw_o, ↓cw_e, ↓wv0, ↓wo0, ↓wm0, ↓wn0, ↓se0f, ↓se0o, ↓sx0, ↓pk0f, ↓pk0o, ↓po0, ↓wv1, ↓wo1, ↓wm1, ↓wn1, ↓se1f, ↓se1o, ↓sx1, ↓pk1f, ↓pk1o, ↓po1, ↓wv2, ↓wo2, ↓wm2, ↓wn2, ↓se2f, ↓se2o, ↓sx2, ↓pk2f, ↓pk2o, ↓po2, ↓wv3, ↓wo3, ↓wm3, ↓wn3, ↓se3f, ↓se3o, ↓sx3, ↓pk3f, ↓pk3o, ↓po3, ↓wv4, ↓wo4, ↓wm4, ↓wn4, ↓se4f, ↓se4o, ↓sx4, ↓pk4f, ↓pk4o, ↓po4, ↓wv5, ↓wo5, ↓wm5, ↓wn5, ↓se5f, ↓se5o, ↓sx5, ↓pk5f, ↓pk5o, ↓po5, ↓wv6, ↓wo6, ↓wm6, ↓wn6, ↓se6f, ↓se6o, ↓sx6, ↓pk6f, ↓pk6o, ↓po6, ↓wv7, ↓wo7, ↓wm7, ↓wn7, ↓se7f, ↓se7o, ↓sx7, ↓pk7f, ↓pk7o, ↓po7, ↓wv8, ↓wo8, ↓wm8, ↓wn8, ↓se8f, ↓se8o, ↓sx8, ↓pk8f, ↓pk8o, ↓po8, ↓wv9, ↓wo9, ↓wm9, ↓wn9, ↓se9f, ↓se9o, ↓sx9, ↓pk9f, ↓pk9o, ↓po9, ↓wv10, ↓wo10, ↓wm10, ↓wn10, ↓se10f, ↓se10o, ↓sx10, ↓pk10f, ↓pk10o, ↓po10, ↓wv11, ↓wo11, ↓wm11, ↓wn11, ↓se11f, ↓se11o, ↓sx11, ↓pk11f, ↓pk11o, ↓po11, ↓wv12, ↓wo12, ↓wm12, ↓wn12, ↓se12f, ↓se12o, ↓sx12, ↓pk12f, ↓pk12o, ↓po12, ↓wv13, ↓wo13, ↓wm13, ↓wn13, ↓se13f, ↓se13o, ↓sx13, ↓pk13f, ↓pk13o, ↓po13, ↓wv14, ↓wo14, ↓wm14, ↓wn14, ↓se14f, ↓se14o, ↓sx14, ↓pk14f, ↓pk14o, ↓po14, ↓wv15, ↓wo15, ↓wm15, ↓wn15, ↓se15f, ↓se15o, ↓sx15, ↓pk15f, ↓pk15o, ↓po15, ↓wv16, ↓wo16, ↓wm16, ↓wn16, ↓se16f, ↓se16o, ↓sx16, ↓pk16f, ↓pk16o, ↓po16, ↓wv17, ↓wo17, ↓wm17, ↓wn17, ↓se17f, ↓se17o, ↓sx17, ↓pk17f, ↓pk17o, ↓po17, ↓wv18, ↓wo18, ↓wm18, ↓wn18, ↓se18f, ↓se18o, ↓sx18, ↓pk18f, ↓pk18o, ↓po18, ↓wv19, ↓wo19, ↓wm19, ↓wn19, ↓se19f, ↓se19o, ↓sx19, ↓pk19f, ↓pk19o, ↓po19, ↓wv20, ↓wo20, ↓wm20, ↓wn20, ↓se20f, ↓se20o, ↓sx20, ↓pk20f, ↓pk20o, ↓po20, ↓wv21, ↓wo21, ↓wm21, ↓wn21, ↓se21f, ↓se21o, ↓sx21, ↓pk21f, ↓pk21o, ↓po21, ↓wv22, ↓wo22, ↓wm22, ↓wn22, ↓se22f, ↓se22o, ↓sx22, ↓pk22f, ↓pk22o, ↓po22, ↓wv23, ↓wo23, ↓wm23, ↓wn23, ↓se23f, ↓se23o, ↓sx23, ↓pk23f, ↓pk23o, ↓po23, ↓wv24, ↓wo24, ↓wm24, ↓wn24, ↓se24f, ↓se24o, ↓sx24, ↓pk24f, ↓pk24o, ↓po24, ↓wv25, ↓wo25, ↓wm25, ↓wn25, ↓se25f, ↓se25o, ↓sx25, ↓pk25f, ↓pk25o, ↓po25, ↓ses_n, ↓ses_c, ↓sep_n, ↓sep_c, ↓ws_appn, ↓ws_extn, ↓b_add, ↓b_addl, ↓b_addt, ↓b_sub, ↓b_mul, ↓b_fdiv, ↓b_mod, ↓c_lt, ↓c_le, ↓c_gt, ↓c_ge, ↓c_eq, ↓c_ne, ↓is_n, ↓isn_n, ↓is_b, ↓isn_b, ↓is_i, ↓isn_i, ↓is_s, ↓isn_s, ↓is_t, ↓isn_t, ↓is_l, ↓isn_l, ↓is_x, ↓isn_x, ↓isn_bb, ↓is_bb, ↓ix_tup0, ↓ix_lst0, ↓ix_tup1, ↓ix_lst1, ↓ix_tup2, ↓ix_lst2, ↓ix_tup3, ↓ix_lst3, ↓ix_tup4, ↓ix_lst4, ↓ix_tup5, ↓ix_lst5, ↓ix_tup6, ↓ix_lst6, ↓ix_tup7, ↓ix_lst7, ↓ix_tup8, ↓ix_lst8, ↓ix_tup9, ↓ix_lst9, ↓ix_tup10, ↓ix_lst10, ↓ix_tup11, ↓ix_lst11, ↓ix_tup12, ↓ix_lst12, ↓ix_tup13, ↓ix_lst13, ↓ix_tup14, ↓ix_lst14, ↓ix_tup15, ↓ix_lst15, ↓ng, ↓up_t, ↓up_l, ↓it_t, ↓it_l, ↓ls_l, ↓pt_n, ↓pt_i, ↓rg1, ↓rg2, ↓bi_lenl, ↓bi_lent, ↓bi_abs, ↓bi_lil, ↓bi_lit, ↓bi_tul, ↓bi_tut, ↓rv_l, ↓ii_non_int, ↓ii_non_bool, ↓ii_non_str, ↓ii_non_tuple, ↓ii_non_list, ↓ii_bl_int, ↓ii_bl_bool, ↓ii_bl_str, ↓ii_bl_tuple, ↓ii_bl_list, ↓ii_int_int, ↓ii_int_bool, ↓ii_int_str, ↓ii_int_tuple, ↓ii_int_list, ↓ii_str_int, ↓ii_str_bool, ↓ii_str_str, ↓ii_str_tuple, ↓ii_str_list, ↓ii_tup_int, ↓ii_tup_bool, ↓ii_tup_str, ↓ii_tup_tuple, ↓ii_tup_list, ↓ii_lst_int, ↓ii_lst_bool, ↓ii_lst_str, ↓ii_lst_tuple, ↓ii_lst_list, ↓nf_fr, ↓ix_fr0, ↓ix_fr1, ↓ii_fr_t, ↓len_fr, ↓c_eqfr, ↓c_nefr, ↓ri_rt, ↓ri_nx, ↓ri_ex, ↓ri_rx, ↓ri_xr, ↓gd_nx, ↓gd_rt, ↓gd_ex, ↓ok_rt, ↓ws_forW, ↓ws_brk, ↓ws_cont, ↓lq_nx, ↓lq_ct, ↓lq_bk, ↓lq_rt, ↓lq_exn, ↓iq_nx, ↓iq_ct, ↓iq_bk, ↓iq_rt, ↓iq_exn, ↓st_n, ↓st_t, ↓sts_n, ↓sts_c, ↓we_lc, ↓now_n, ↓now_c, ↓gs_0, ↓gs_s, ↓io_f, ↓io_n, ↓wp_n, ↓wp_c, ↓ck_even, ↓cn_even, ↓ck_in, ↓cn_in, ↓ck_out, ↓cn_out, ↓ck_both, ↓cn_both, ↓ck_hold, ↓cn_hold, ↓ck_jump, ↓cn_jump, ↓ck_kept, ↓cn_kept, ↓ci_hj, ↓cj_hj, ↓ci_bk, ↓cj_bk, ↓ci_kinds, ↓cj_kinds, ↓gx_turn, ↓up_fr, ↓ok_i, ↓ok_ii, ↓turn_turn, ↓sl_t, ↓sl_l, ↓cut_h1, ↓cut_l1, ↓cut_h2, ↓cut_l2, ↓cut_h3, ↓cut_l3, ↓cut_h4, ↓cut_l4, ↓cut_h5, ↓cut_l5, ↓cut_2_4, ↓r_nn, ↓lit01, ↓lit11, ↓lit21, ↓lit31, ↓lit41, ↓lit61, ↓lit12, ↓lit32, ↓wf_nil, ↓wf_cons, ↓ov_lcf, ↓ov_col_n, ↓ov_col_c, ↓optL_n, ↓optL_s, decide_eq_true_eq, decide_eq_false_iff_not, Bool.not_eq_true', Bool.not_eq_false', true_and, and_true, and_self, true_implies, false_implies, implies_true, forall_const, not_true_eq_false, not_false_eq_true, Bool.not_true, Bool.not_false, decide_true, decide_false, reduceCtorEq, List.cons_append, List.nil_append, List.append_assoc, not_false_iff, eq_self, Tg.slots, GW.ld, GW.ld2, GW.p2_fr, List.length_cons, List.length_nil, List.all_cons, List.all_nil, Bool.and_self, GW.bq_tt, GW.bq_ff, GW.bq_tf, GW.bq_ft, List.zip_cons_cons, List.zip_nil_left, List.zip_nil_right])
namespace Gk11
open GW
section
variable {n : Nat} {ρ : Env} {K : D → Bool → Env → Prop} {X : Nat → Env → Prop} {ns : List Int} {t : D}
theorem ms_ref {x : D} (h : ∀ m, run G (m + 8) i__law_is_refused .non [x] = .ok (.bl true) false .non) (hn : 8 ≤ n) : CW ((Prog.rt G (run G n) false).call i__law_is_refused .non [x]) ρ K X = K (.bl true) false ρ := by
  obtain ⟨n, rfl⟩ : ∃ m, n = m + 8 := ⟨n - 8, by omega⟩
  exact cw_ok (h n)
theorem cw_r1 (hn : 8 ≤ n) : CW ((Prog.rt G (run G n) false).call i__law_is_refused .non [.str ""]) ρ K X = K (.bl true) false ρ := ms_ref (fun m => by kernel_rfl) hn
theorem cw_r2 (hn : 8 ≤ n) : CW ((Prog.rt G (run G n) false).call i__law_is_refused .non [.str "Even"]) ρ K X = K (.bl true) false ρ := ms_ref (fun m => by kernel_rfl) hn
theorem cw_r3 (hn : 8 ≤ n) : CW ((Prog.rt G (run G n) false).call i__law_is_refused .non [.non]) ρ K X = K (.bl true) false ρ := ms_ref (fun m => by kernel_rfl) hn
theorem cw_r4 (hn : 8 ≤ n) : CW ((Prog.rt G (run G n) false).call i__law_is_refused .non [.int 5]) ρ K X = K (.bl true) false ρ := ms_ref (fun m => by kernel_rfl) hn
end

open GW in
local macro_rules | `(tactic| walk_at "e1") => `(tactic| simp (maxSteps := 10000000) (disch := (first | assumption | omega | decide)) only [↓Gk11.gl_KINDS, ↓Gk11.gl_TURNED, ↓Gk11.gl_NONE, ↓Gk11.gl_ALL, ↓Gk11.cv_tk0_0, ↓Gk11.cv_tk1_1, ↓Gk11.cv_tk1_0, ↓Gk11.cv_tk2_2, ↓Gk11.cv_tk2_0, ↓Gk11.cw_divisor, ↓Gk11.cw__law_divisor, ↓Gk11.cw_plus, ↓Gk11.cw_minus, ↓Gk11.cw_times, ↓Gk11.cw__law_plus, ↓Gk11.cw__law_minus, ↓Gk11.cw__law_times, ↓Gk11.cw__law_over, ↓Gk11.cw_is_less, ↓Gk11.cw__law_less, ↓Gk11.cw__law_pick, ↓Gk11.cw__law_frac, ↓Gk11.cw__law_size, ↓Gk11.cw__law_kind, ↓Gk11.cw__law_made, ↓Gk11.cw_frac, ↓Gk11.cw_look_kind, ↓Gk11.cw_kept_in, ↓Gk11.cw_eased, ↓Gk11.cw_slope, ↓Gk11.cw_turned_kind, ↓Gk11.cw__law_eased, ↓Gk11.cv__law_eased_both, ↓Gk11.cv__law_eased, ↓Gk11.cw_r1, ↓Gk11.cw_r2, ↓Gk11.cw_r3, ↓Gk11.cw_r4, ↓GW.is_fr, ↓GW.isn_fr, ↓GW.bo_ix, ↓GW.b_pow6, ↓GW.lit_m12, ↓GW.b_mul3, ↓GW.we_dct, ↓GW.nf_d, ↓GW.mt_get, ↓GW.b_mul4, ↓we_int, ↓we_bl, ↓we_non, ↓we_str, ↓we_tup, ↓we_lst, ↓wl_nil, ↓wl_cons, ↓we_bin, ↓we_cmp, ↓we_chain, ↓we_ix, ↓we_neg, ↓we_nt, ↓we_ife, ↓we_conj, ↓we_disj, ↓wa_nil, ↓wo_nil, ↓wa_cons, ↓wo_cons, ↓we_call, ↓we_bi, ↓we_isi, ↓we_rev, ↓we_sl, ↓we_mt, ↓we_bop, ↓we_rng, ↓we_zip, ↓we_enum, ↓we_gix, ↓we_glo, ↓ws_nil, ↓ws_set, ↓ws_exp, ↓ws_ret, ↓ws_retN, ↓ws_raise, ↓ws_pass, ↓ws_asgT, ↓ws_par, ↓ws_ite, ↓ws_try, ↓ws_whl, ↓th_nx, ↓th_rt, ↓th_exn, ↓th_bk, ↓th_ct, ↓tk_nx, ↓tk_rt, ↓nf_f, ↓nf_l, ↓nf_i, ↓nf_b, ↓nf_t, ↓nf_n, ↓nf_s, ↓nf_x, ↓br_t, ↓br_f, ↓br_n, ↓ov_s, ↓cw_o, ↓cw_e, ↓wv0, ↓wo0, ↓wm0, ↓wn0, ↓se0f, ↓se0o, ↓sx0, ↓pk0f, ↓pk0o, ↓po0, ↓wv1, ↓wo1, ↓wm1, ↓wn1, ↓se1f, ↓se1o, ↓sx1, ↓pk1f, ↓pk1o, ↓po1, ↓wv2, ↓wo2, ↓wm2, ↓wn2, ↓se2f, ↓se2o, ↓sx2, ↓pk2f, ↓pk2o, ↓po2, ↓wv3, ↓wo3, ↓wm3, ↓wn3, ↓se3f, ↓se3o, ↓sx3, ↓pk3f, ↓pk3o, ↓po3, ↓wv4, ↓wo4, ↓wm4, ↓wn4, ↓se4f, ↓se4o, ↓sx4, ↓pk4f, ↓pk4o, ↓po4, ↓wv5, ↓wo5, ↓wm5, ↓wn5, ↓se5f, ↓se5o, ↓sx5, ↓pk5f, ↓pk5o, ↓po5, ↓wv6, ↓wo6, ↓wm6, ↓wn6, ↓se6f, ↓se6o, ↓sx6, ↓pk6f, ↓pk6o, ↓po6, ↓wv7, ↓wo7, ↓wm7, ↓wn7, ↓se7f, ↓se7o, ↓sx7, ↓pk7f, ↓pk7o, ↓po7, ↓wv8, ↓wo8, ↓wm8, ↓wn8, ↓se8f, ↓se8o, ↓sx8, ↓pk8f, ↓pk8o, ↓po8, ↓wv9, ↓wo9, ↓wm9, ↓wn9, ↓se9f, ↓se9o, ↓sx9, ↓pk9f, ↓pk9o, ↓po9, ↓wv10, ↓wo10, ↓wm10, ↓wn10, ↓se10f, ↓se10o, ↓sx10, ↓pk10f, ↓pk10o, ↓po10, ↓wv11, ↓wo11, ↓wm11, ↓wn11, ↓se11f, ↓se11o, ↓sx11, ↓pk11f, ↓pk11o, ↓po11, ↓wv12, ↓wo12, ↓wm12, ↓wn12, ↓se12f, ↓se12o, ↓sx12, ↓pk12f, ↓pk12o, ↓po12, ↓wv13, ↓wo13, ↓wm13, ↓wn13, ↓se13f, ↓se13o, ↓sx13, ↓pk13f, ↓pk13o, ↓po13, ↓wv14, ↓wo14, ↓wm14, ↓wn14, ↓se14f, ↓se14o, ↓sx14, ↓pk14f, ↓pk14o, ↓po14, ↓wv15, ↓wo15, ↓wm15, ↓wn15, ↓se15f, ↓se15o, ↓sx15, ↓pk15f, ↓pk15o, ↓po15, ↓wv16, ↓wo16, ↓wm16, ↓wn16, ↓se16f, ↓se16o, ↓sx16, ↓pk16f, ↓pk16o, ↓po16, ↓wv17, ↓wo17, ↓wm17, ↓wn17, ↓se17f, ↓se17o, ↓sx17, ↓pk17f, ↓pk17o, ↓po17, ↓wv18, ↓wo18, ↓wm18, ↓wn18, ↓se18f, ↓se18o, ↓sx18, ↓pk18f, ↓pk18o, ↓po18, ↓wv19, ↓wo19, ↓wm19, ↓wn19, ↓se19f, ↓se19o, ↓sx19, ↓pk19f, ↓pk19o, ↓po19, ↓wv20, ↓wo20, ↓wm20, ↓wn20, ↓se20f, ↓se20o, ↓sx20, ↓pk20f, ↓pk20o, ↓po20, ↓wv21, ↓wo21, ↓wm21, ↓wn21, ↓se21f, ↓se21o, ↓sx21, ↓pk21f, ↓pk21o, ↓po21, ↓wv22, ↓wo22, ↓wm22, ↓wn22, ↓se22f, ↓se22o, ↓sx22, ↓pk22f, ↓pk22o, ↓po22, ↓wv23, ↓wo23, ↓wm23, ↓wn23, ↓se23f, ↓se23o, ↓sx23, ↓pk23f, ↓pk23o, ↓po23, ↓wv24, ↓wo24, ↓wm24, ↓wn24, ↓se24f, ↓se24o, ↓sx24, ↓pk24f, ↓pk24o, ↓po24, ↓wv25, ↓wo25, ↓wm25, ↓wn25, ↓se25f, ↓se25o, ↓sx25, ↓pk25f, ↓pk25o, ↓po25, ↓ses_n, ↓ses_c, ↓sep_n, ↓sep_c, ↓ws_appn, ↓ws_extn, ↓b_add, ↓b_addl, ↓b_addt, ↓b_sub, ↓b_mul, ↓b_fdiv, ↓b_mod, ↓c_lt, ↓c_le, ↓c_gt, ↓c_ge, ↓c_eq, ↓c_ne, ↓is_n, ↓isn_n, ↓is_b, ↓isn_b, ↓is_i, ↓isn_i, ↓is_s, ↓isn_s, ↓is_t, ↓isn_t, ↓is_l, ↓isn_l, ↓is_x, ↓isn_x, ↓isn_bb, ↓is_bb, ↓ix_tup0, ↓ix_lst0, ↓ix_tup1, ↓ix_lst1, ↓ix_tup2, ↓ix_lst2, ↓ix_tup3, ↓ix_lst3, ↓ix_tup4, ↓ix_lst4, ↓ix_tup5, ↓ix_lst5, ↓ix_tup6, ↓ix_lst6, ↓ix_tup7, ↓ix_lst7, ↓ix_tup8, ↓ix_lst8, ↓ix_tup9, ↓ix_lst9, ↓ix_tup10, ↓ix_lst10, ↓ix_tup11, ↓ix_lst11, ↓ix_tup12, ↓ix_lst12, ↓ix_tup13, ↓ix_lst13, ↓ix_tup14, ↓ix_lst14, ↓ix_tup15, ↓ix_lst15, ↓ng, ↓up_t, ↓up_l, ↓it_t, ↓it_l, ↓ls_l, ↓pt_n, ↓pt_i, ↓rg1, ↓rg2, ↓bi_lenl, ↓bi_lent, ↓bi_abs, ↓bi_lil, ↓bi_lit, ↓bi_tul, ↓bi_tut, ↓rv_l, ↓ii_non_int, ↓ii_non_bool, ↓ii_non_str, ↓ii_non_tuple, ↓ii_non_list, ↓ii_bl_int, ↓ii_bl_bool, ↓ii_bl_str, ↓ii_bl_tuple, ↓ii_bl_list, ↓ii_int_int, ↓ii_int_bool, ↓ii_int_str, ↓ii_int_tuple, ↓ii_int_list, ↓ii_str_int, ↓ii_str_bool, ↓ii_str_str, ↓ii_str_tuple, ↓ii_str_list, ↓ii_tup_int, ↓ii_tup_bool, ↓ii_tup_str, ↓ii_tup_tuple, ↓ii_tup_list, ↓ii_lst_int, ↓ii_lst_bool, ↓ii_lst_str, ↓ii_lst_tuple, ↓ii_lst_list, ↓nf_fr, ↓ix_fr0, ↓ix_fr1, ↓ii_fr_t, ↓len_fr, ↓c_eqfr, ↓c_nefr, ↓c_eqfrs, ↓c_nefrs, ↓c_eqbs, ↓c_nebs, ↓ri_rt, ↓ri_nx, ↓ri_ex, ↓ri_rx, ↓ri_xr, ↓gd_nx, ↓gd_rt, ↓gd_ex, ↓ok_rt, ↓ws_forW, ↓ws_brk, ↓ws_cont, ↓lq_nx, ↓lq_ct, ↓lq_bk, ↓lq_rt, ↓lq_exn, ↓iq_nx, ↓iq_ct, ↓iq_bk, ↓iq_rt, ↓iq_exn, ↓st_n, ↓st_t, ↓sts_n, ↓sts_c, ↓we_lc, ↓now_n, ↓now_c, ↓gs_0, ↓gs_s, ↓io_f, ↓io_n, ↓wp_n, ↓wp_c, ↓ck_even, ↓cn_even, ↓ck_in, ↓cn_in, ↓ck_out, ↓cn_out, ↓ck_both, ↓cn_both, ↓ck_hold, ↓cn_hold, ↓ck_jump, ↓cn_jump, ↓ck_kept, ↓cn_kept, ↓ci_hj, ↓cj_hj, ↓ci_bk, ↓cj_bk, ↓ci_kinds, ↓cj_kinds, ↓gx_turn, ↓up_fr, ↓ok_i, ↓ok_ii, ↓turn_turn, ↓sl_t, ↓sl_l, ↓cut_h1, ↓cut_l1, ↓cut_h2, ↓cut_l2, ↓cut_h3, ↓cut_l3, ↓cut_h4, ↓cut_l4, ↓cut_h5, ↓cut_l5, ↓cut_2_4, ↓r_nn, ↓c_eqself, ↓c_neself, ↓br_T, ↓br_F, ↓lit01, ↓lit11, ↓lit21, ↓lit31, ↓lit41, ↓lit61, ↓lit12, ↓lit32, decide_eq_true_eq, decide_eq_false_iff_not, Bool.not_eq_true', Bool.not_eq_false', true_and, and_true, and_self, true_implies, false_implies, implies_true, forall_const, not_true_eq_false, not_false_eq_true, Bool.not_true, Bool.not_false, decide_true, decide_false, reduceCtorEq, List.cons_append, List.nil_append, List.append_assoc, not_false_iff, eq_self, Tg.slots, GW.ld, GW.ld2, GW.p2_fr, List.length_cons, List.length_nil, List.all_cons, List.all_nil, Bool.and_self, GW.bq_tt, GW.bq_ff, GW.bq_tf, GW.bq_ft, List.zip_cons_cons, List.zip_nil_left, List.zip_nil_right])
open GW in
local macro_rules | `(tactic| walk_at "e2") => `(tactic| simp (maxSteps := 10000000) (disch := (first | assumption | omega | decide)) only [↓Gk11.gl_KINDS, ↓Gk11.gl_TURNED, ↓Gk11.gl_NONE, ↓Gk11.gl_ALL, ↓Gk11.cv_tk0_0, ↓Gk11.cv_tk1_1, ↓Gk11.cv_tk1_0, ↓Gk11.cv_tk2_2, ↓Gk11.cv_tk2_0, ↓Gk11.cw_divisor, ↓Gk11.cw__law_divisor, ↓Gk11.cw_plus, ↓Gk11.cw_minus, ↓Gk11.cw_times, ↓Gk11.cw__law_plus, ↓Gk11.cw__law_minus, ↓Gk11.cw__law_times, ↓Gk11.cw__law_over, ↓Gk11.cw_is_less, ↓Gk11.cw__law_less, ↓Gk11.cw__law_pick, ↓Gk11.cw__law_frac, ↓Gk11.cw__law_size, ↓Gk11.cw__law_kind, ↓Gk11.cw__law_made, ↓Gk11.cw_frac, ↓Gk11.cw_look_kind, ↓Gk11.cw_kept_in, ↓Gk11.cw_eased, ↓Gk11.cw_slope, ↓Gk11.cw_turned_kind, ↓Gk11.cw__law_eased, ↓Gk11.cv__law_eased_both, ↓Gk11.cv__law_eased, ↓Gk11.cw_r1, ↓Gk11.cw_r2, ↓Gk11.cw_r3, ↓Gk11.cw_r4, ↓GW.is_fr, ↓GW.isn_fr, ↓GW.bo_ix, ↓GW.b_pow6, ↓GW.lit_m12, ↓GW.b_mul3, ↓GW.we_dct, ↓GW.nf_d, ↓GW.mt_get, ↓GW.b_mul4, ↓we_int, ↓we_bl, ↓we_non, ↓we_str, ↓we_tup, ↓we_lst, ↓wl_nil, ↓wl_cons, ↓we_bin, ↓we_cmp, ↓we_chain, ↓we_ix, ↓we_neg, ↓we_nt, ↓we_ife, ↓we_conj, ↓we_disj, ↓wa_nil, ↓wo_nil, ↓wa_cons, ↓wo_cons, ↓we_call, ↓we_bi, ↓we_isi, ↓we_rev, ↓we_sl, ↓we_mt, ↓we_bop, ↓we_rng, ↓we_zip, ↓we_enum, ↓we_gix, ↓we_glo, ↓ws_nil, ↓ws_set, ↓ws_exp, ↓ws_ret, ↓ws_retN, ↓ws_raise, ↓ws_pass, ↓ws_asgT, ↓ws_par, ↓ws_ite, ↓ws_try, ↓ws_whl, ↓th_nx, ↓th_rt, ↓th_exn, ↓th_bk, ↓th_ct, ↓tk_nx, ↓tk_rt, ↓nf_f, ↓nf_l, ↓nf_i, ↓nf_b, ↓nf_t, ↓nf_n, ↓nf_s, ↓nf_x, ↓br_t, ↓br_f, ↓br_n, ↓br_d, ↓ov_s, ↓cw_o, ↓cw_e, ↓wv0, ↓wo0, ↓wm0, ↓wn0, ↓se0f, ↓se0o, ↓sx0, ↓pk0f, ↓pk0o, ↓po0, ↓wv1, ↓wo1, ↓wm1, ↓wn1, ↓se1f, ↓se1o, ↓sx1, ↓pk1f, ↓pk1o, ↓po1, ↓wv2, ↓wo2, ↓wm2, ↓wn2, ↓se2f, ↓se2o, ↓sx2, ↓pk2f, ↓pk2o, ↓po2, ↓wv3, ↓wo3, ↓wm3, ↓wn3, ↓se3f, ↓se3o, ↓sx3, ↓pk3f, ↓pk3o, ↓po3, ↓wv4, ↓wo4, ↓wm4, ↓wn4, ↓se4f, ↓se4o, ↓sx4, ↓pk4f, ↓pk4o, ↓po4, ↓wv5, ↓wo5, ↓wm5, ↓wn5, ↓se5f, ↓se5o, ↓sx5, ↓pk5f, ↓pk5o, ↓po5, ↓wv6, ↓wo6, ↓wm6, ↓wn6, ↓se6f, ↓se6o, ↓sx6, ↓pk6f, ↓pk6o, ↓po6, ↓wv7, ↓wo7, ↓wm7, ↓wn7, ↓se7f, ↓se7o, ↓sx7, ↓pk7f, ↓pk7o, ↓po7, ↓wv8, ↓wo8, ↓wm8, ↓wn8, ↓se8f, ↓se8o, ↓sx8, ↓pk8f, ↓pk8o, ↓po8, ↓wv9, ↓wo9, ↓wm9, ↓wn9, ↓se9f, ↓se9o, ↓sx9, ↓pk9f, ↓pk9o, ↓po9, ↓wv10, ↓wo10, ↓wm10, ↓wn10, ↓se10f, ↓se10o, ↓sx10, ↓pk10f, ↓pk10o, ↓po10, ↓wv11, ↓wo11, ↓wm11, ↓wn11, ↓se11f, ↓se11o, ↓sx11, ↓pk11f, ↓pk11o, ↓po11, ↓wv12, ↓wo12, ↓wm12, ↓wn12, ↓se12f, ↓se12o, ↓sx12, ↓pk12f, ↓pk12o, ↓po12, ↓wv13, ↓wo13, ↓wm13, ↓wn13, ↓se13f, ↓se13o, ↓sx13, ↓pk13f, ↓pk13o, ↓po13, ↓wv14, ↓wo14, ↓wm14, ↓wn14, ↓se14f, ↓se14o, ↓sx14, ↓pk14f, ↓pk14o, ↓po14, ↓wv15, ↓wo15, ↓wm15, ↓wn15, ↓se15f, ↓se15o, ↓sx15, ↓pk15f, ↓pk15o, ↓po15, ↓wv16, ↓wo16, ↓wm16, ↓wn16, ↓se16f, ↓se16o, ↓sx16, ↓pk16f, ↓pk16o, ↓po16, ↓wv17, ↓wo17, ↓wm17, ↓wn17, ↓se17f, ↓se17o, ↓sx17, ↓pk17f, ↓pk17o, ↓po17, ↓wv18, ↓wo18, ↓wm18, ↓wn18, ↓se18f, ↓se18o, ↓sx18, ↓pk18f, ↓pk18o, ↓po18, ↓wv19, ↓wo19, ↓wm19, ↓wn19, ↓se19f, ↓se19o, ↓sx19, ↓pk19f, ↓pk19o, ↓po19, ↓wv20, ↓wo20, ↓wm20, ↓wn20, ↓se20f, ↓se20o, ↓sx20, ↓pk20f, ↓pk20o, ↓po20, ↓wv21, ↓wo21, ↓wm21, ↓wn21, ↓se21f, ↓se21o, ↓sx21, ↓pk21f, ↓pk21o, ↓po21, ↓wv22, ↓wo22, ↓wm22, ↓wn22, ↓se22f, ↓se22o, ↓sx22, ↓pk22f, ↓pk22o, ↓po22, ↓wv23, ↓wo23, ↓wm23, ↓wn23, ↓se23f, ↓se23o, ↓sx23, ↓pk23f, ↓pk23o, ↓po23, ↓wv24, ↓wo24, ↓wm24, ↓wn24, ↓se24f, ↓se24o, ↓sx24, ↓pk24f, ↓pk24o, ↓po24, ↓wv25, ↓wo25, ↓wm25, ↓wn25, ↓se25f, ↓se25o, ↓sx25, ↓pk25f, ↓pk25o, ↓po25, ↓ses_n, ↓ses_c, ↓sep_n, ↓sep_c, ↓ws_appn, ↓ws_extn, ↓b_add, ↓b_addl, ↓b_addt, ↓b_sub, ↓b_mul, ↓b_fdiv, ↓b_mod, ↓c_lt, ↓c_le, ↓c_gt, ↓c_ge, ↓c_eq, ↓c_ne, ↓is_n, ↓isn_n, ↓is_b, ↓isn_b, ↓is_i, ↓isn_i, ↓is_s, ↓isn_s, ↓is_t, ↓isn_t, ↓is_l, ↓isn_l, ↓is_x, ↓isn_x, ↓isn_bb, ↓is_bb, ↓ix_tup0, ↓ix_lst0, ↓ix_tup1, ↓ix_lst1, ↓ix_tup2, ↓ix_lst2, ↓ix_tup3, ↓ix_lst3, ↓ix_tup4, ↓ix_lst4, ↓ix_tup5, ↓ix_lst5, ↓ix_tup6, ↓ix_lst6, ↓ix_tup7, ↓ix_lst7, ↓ix_tup8, ↓ix_lst8, ↓ix_tup9, ↓ix_lst9, ↓ix_tup10, ↓ix_lst10, ↓ix_tup11, ↓ix_lst11, ↓ix_tup12, ↓ix_lst12, ↓ix_tup13, ↓ix_lst13, ↓ix_tup14, ↓ix_lst14, ↓ix_tup15, ↓ix_lst15, ↓ng, ↓up_t, ↓up_l, ↓it_t, ↓it_l, ↓ls_l, ↓pt_n, ↓pt_i, ↓rg1, ↓rg2, ↓bi_lenl, ↓bi_lent, ↓bi_abs, ↓bi_lil, ↓bi_lit, ↓bi_tul, ↓bi_tut, ↓rv_l, ↓ii_non_int, ↓ii_non_bool, ↓ii_non_str, ↓ii_non_tuple, ↓ii_non_list, ↓ii_bl_int, ↓ii_bl_bool, ↓ii_bl_str, ↓ii_bl_tuple, ↓ii_bl_list, ↓ii_int_int, ↓ii_int_bool, ↓ii_int_str, ↓ii_int_tuple, ↓ii_int_list, ↓ii_str_int, ↓ii_str_bool, ↓ii_str_str, ↓ii_str_tuple, ↓ii_str_list, ↓ii_tup_int, ↓ii_tup_bool, ↓ii_tup_str, ↓ii_tup_tuple, ↓ii_tup_list, ↓ii_lst_int, ↓ii_lst_bool, ↓ii_lst_str, ↓ii_lst_tuple, ↓ii_lst_list, ↓nf_fr, ↓ix_fr0, ↓ix_fr1, ↓ii_fr_t, ↓len_fr, ↓c_eqfr, ↓c_nefr, ↓ri_rt, ↓ri_nx, ↓ri_ex, ↓ri_rx, ↓ri_xr, ↓gd_nx, ↓gd_rt, ↓gd_ex, ↓ok_rt, ↓ws_forW, ↓ws_brk, ↓ws_cont, ↓lq_nx, ↓lq_ct, ↓lq_bk, ↓lq_rt, ↓lq_exn, ↓iq_nx, ↓iq_ct, ↓iq_bk, ↓iq_rt, ↓iq_exn, ↓st_n, ↓st_t, ↓sts_n, ↓sts_c, ↓we_lc, ↓now_n, ↓now_c, ↓gs_0, ↓gs_s, ↓io_f, ↓io_n, ↓wp_n, ↓wp_c, ↓ck_even, ↓cn_even, ↓ck_in, ↓cn_in, ↓ck_out, ↓cn_out, ↓ck_both, ↓cn_both, ↓ck_hold, ↓cn_hold, ↓ck_jump, ↓cn_jump, ↓ck_kept, ↓cn_kept, ↓ci_hj, ↓cj_hj, ↓ci_bk, ↓cj_bk, ↓ci_kinds, ↓cj_kinds, ↓gx_turn, ↓up_fr, ↓ok_i, ↓ok_ii, ↓turn_turn, ↓sl_t, ↓sl_l, ↓cut_h1, ↓cut_l1, ↓cut_h2, ↓cut_l2, ↓cut_h3, ↓cut_l3, ↓cut_h4, ↓cut_l4, ↓cut_h5, ↓cut_l5, ↓cut_2_4, ↓r_nn, ↓lit01, ↓lit11, ↓lit21, ↓lit31, ↓lit41, ↓lit61, ↓lit12, ↓lit32, decide_eq_true_eq, decide_eq_false_iff_not, Bool.not_eq_true', Bool.not_eq_false', true_and, and_true, and_self, true_implies, false_implies, implies_true, forall_const, not_true_eq_false, not_false_eq_true, Bool.not_true, Bool.not_false, decide_true, decide_false, reduceCtorEq, List.cons_append, List.nil_append, List.append_assoc, not_false_iff, eq_self, Tg.slots, GW.ld, GW.ld2, GW.p2_fr, List.length_cons, List.length_nil, List.all_cons, List.all_nil, Bool.and_self, GW.bq_tt, GW.bq_ff, GW.bq_tf, GW.bq_ft, List.zip_cons_cons, List.zip_nil_left, List.zip_nil_right])
open GW in
local macro_rules | `(tactic| walk_at "e1u") => `(tactic| simp (maxSteps := 10000000) (disch := (first | assumption | omega | decide)) only [↓Gk11.gl_KINDS, ↓Gk11.gl_TURNED, ↓Gk11.gl_NONE, ↓Gk11.gl_ALL, ↓Gk11.cv_tk0_0, ↓Gk11.cv_tk1_1, ↓Gk11.cv_tk1_0, ↓Gk11.cv_tk2_2, ↓Gk11.cv_tk2_0, ↓Gk11.cw_divisor, ↓Gk11.cw__law_divisor, ↓Gk11.cw_plus, ↓Gk11.cw_minus, ↓Gk11.cw_times, ↓Gk11.cw__law_plus, ↓Gk11.cw__law_minus, ↓Gk11.cw__law_times, ↓Gk11.cw__law_over, ↓Gk11.cw_is_less, ↓Gk11.cw__law_less, ↓Gk11.cw__law_pick, ↓Gk11.cw__law_frac, ↓Gk11.cw__law_size, ↓Gk11.cw__law_kind, ↓Gk11.cw__law_made, ↓Gk11.cw_frac, ↓Gk11.cw_look_kind, ↓Gk11.cw_kept_in, ↓Gk11.cw_eased, ↓Gk11.cw_slope, ↓Gk11.cw_turned_kind, ↓Gk11.cw__law_eased, ↓Gk11.cv__law_eased_both, ↓Gk11.cv__law_eased, ↓Gk11.cw_r1, ↓Gk11.cw_r2, ↓Gk11.cw_r3, ↓Gk11.cw_r4, ↓GW.is_fr, ↓GW.isn_fr, ↓GW.bo_ix, ↓GW.b_pow6, ↓GW.lit_m12, ↓GW.b_mul3, ↓GW.we_dct, ↓GW.nf_d, ↓GW.mt_get, ↓GW.b_mul4, ↓we_int, ↓we_bl, ↓we_non, ↓we_str, ↓we_tup, ↓we_lst, ↓wl_nil, ↓wl_cons, ↓we_bin, ↓we_cmp, ↓we_chain, ↓we_ix, ↓we_neg, ↓we_nt, ↓we_ife, ↓we_conj, ↓we_disj, ↓wa_nil, ↓wo_nil, ↓wa_cons, ↓wo_cons, ↓we_call, ↓we_bi, ↓we_isi, ↓we_rev, ↓we_sl, ↓we_mt, ↓we_bop, ↓we_rng, ↓we_zip, ↓we_enum, ↓we_gix, ↓we_glo, ↓ws_nil, ↓ws_set, ↓ws_exp, ↓ws_ret, ↓ws_retN, ↓ws_raise, ↓ws_pass, ↓ws_asgT, ↓ws_par, ↓ws_ite, ↓ws_try, ↓ws_whl, ↓th_nx, ↓th_rt, ↓th_exn, ↓th_bk, ↓th_ct, ↓tk_nx, ↓tk_rt, ↓nf_f, ↓nf_l, ↓nf_i, ↓nf_b, ↓nf_t, ↓nf_n, ↓nf_s, ↓nf_x, ↓br_t, ↓br_f, ↓br_n, ↓ov_s, ↓cw_o, ↓cw_e, ↓wv0, ↓wo0, ↓wm0, ↓wn0, ↓se0f, ↓se0o, ↓sx0, ↓pk0f, ↓pk0o, ↓po0, ↓wv1, ↓wo1, ↓wm1, ↓wn1, ↓se1f, ↓se1o, ↓sx1, ↓pk1f, ↓pk1o, ↓po1, ↓wv2, ↓wo2, ↓wm2, ↓wn2, ↓se2f, ↓se2o, ↓sx2, ↓pk2f, ↓pk2o, ↓po2, ↓wv3, ↓wo3, ↓wm3, ↓wn3, ↓se3f, ↓se3o, ↓sx3, ↓pk3f, ↓pk3o, ↓po3, ↓wv4, ↓wo4, ↓wm4, ↓wn4, ↓se4f, ↓se4o, ↓sx4, ↓pk4f, ↓pk4o, ↓po4, ↓wv5, ↓wo5, ↓wm5, ↓wn5, ↓se5f, ↓se5o, ↓sx5, ↓pk5f, ↓pk5o, ↓po5, ↓wv6, ↓wo6, ↓wm6, ↓wn6, ↓se6f, ↓se6o, ↓sx6, ↓pk6f, ↓pk6o, ↓po6, ↓wv7, ↓wo7, ↓wm7, ↓wn7, ↓se7f, ↓se7o, ↓sx7, ↓pk7f, ↓pk7o, ↓po7, ↓wv8, ↓wo8, ↓wm8, ↓wn8, ↓se8f, ↓se8o, ↓sx8, ↓pk8f, ↓pk8o, ↓po8, ↓wv9, ↓wo9, ↓wm9, ↓wn9, ↓se9f, ↓se9o, ↓sx9, ↓pk9f, ↓pk9o, ↓po9, ↓wv10, ↓wo10, ↓wm10, ↓wn10, ↓se10f, ↓se10o, ↓sx10, ↓pk10f, ↓pk10o, ↓po10, ↓wv11, ↓wo11, ↓wm11, ↓wn11, ↓se11f, ↓se11o, ↓sx11, ↓pk11f, ↓pk11o, ↓po11, ↓wv12, ↓wo12, ↓wm12, ↓wn12, ↓se12f, ↓se12o, ↓sx12, ↓pk12f, ↓pk12o, ↓po12, ↓wv13, ↓wo13, ↓wm13, ↓wn13, ↓se13f, ↓se13o, ↓sx13, ↓pk13f, ↓pk13o, ↓po13, ↓wv14, ↓wo14, ↓wm14, ↓wn14, ↓se14f, ↓se14o, ↓sx14, ↓pk14f, ↓pk14o, ↓po14, ↓wv15, ↓wo15, ↓wm15, ↓wn15, ↓se15f, ↓se15o, ↓sx15, ↓pk15f, ↓pk15o, ↓po15, ↓wv16, ↓wo16, ↓wm16, ↓wn16, ↓se16f, ↓se16o, ↓sx16, ↓pk16f, ↓pk16o, ↓po16, ↓wv17, ↓wo17, ↓wm17, ↓wn17, ↓se17f, ↓se17o, ↓sx17, ↓pk17f, ↓pk17o, ↓po17, ↓wv18, ↓wo18, ↓wm18, ↓wn18, ↓se18f, ↓se18o, ↓sx18, ↓pk18f, ↓pk18o, ↓po18, ↓wv19, ↓wo19, ↓wm19, ↓wn19, ↓se19f, ↓se19o, ↓sx19, ↓pk19f, ↓pk19o, ↓po19, ↓wv20, ↓wo20, ↓wm20, ↓wn20, ↓se20f, ↓se20o, ↓sx20, ↓pk20f, ↓pk20o, ↓po20, ↓wv21, ↓wo21, ↓wm21, ↓wn21, ↓se21f, ↓se21o, ↓sx21, ↓pk21f, ↓pk21o, ↓po21, ↓wv22, ↓wo22, ↓wm22, ↓wn22, ↓se22f, ↓se22o, ↓sx22, ↓pk22f, ↓pk22o, ↓po22, ↓wv23, ↓wo23, ↓wm23, ↓wn23, ↓se23f, ↓se23o, ↓sx23, ↓pk23f, ↓pk23o, ↓po23, ↓wv24, ↓wo24, ↓wm24, ↓wn24, ↓se24f, ↓se24o, ↓sx24, ↓pk24f, ↓pk24o, ↓po24, ↓wv25, ↓wo25, ↓wm25, ↓wn25, ↓se25f, ↓se25o, ↓sx25, ↓pk25f, ↓pk25o, ↓po25, ↓ses_n, ↓ses_c, ↓sep_n, ↓sep_c, ↓ws_appn, ↓ws_extn, ↓b_add, ↓b_addl, ↓b_addt, ↓b_sub, ↓b_mul, ↓b_fdiv, ↓b_mod, ↓c_lt, ↓c_le, ↓c_gt, ↓c_ge, ↓c_eq, ↓c_ne, ↓is_n, ↓isn_n, ↓is_b, ↓isn_b, ↓is_i, ↓isn_i, ↓is_s, ↓isn_s, ↓is_t, ↓isn_t, ↓is_l, ↓isn_l, ↓is_x, ↓isn_x, ↓isn_bb, ↓is_bb, ↓ix_tup0, ↓ix_lst0, ↓ix_tup1, ↓ix_lst1, ↓ix_tup2, ↓ix_lst2, ↓ix_tup3, ↓ix_lst3, ↓ix_tup4, ↓ix_lst4, ↓ix_tup5, ↓ix_lst5, ↓ix_tup6, ↓ix_lst6, ↓ix_tup7, ↓ix_lst7, ↓ix_tup8, ↓ix_lst8, ↓ix_tup9, ↓ix_lst9, ↓ix_tup10, ↓ix_lst10, ↓ix_tup11, ↓ix_lst11, ↓ix_tup12, ↓ix_lst12, ↓ix_tup13, ↓ix_lst13, ↓ix_tup14, ↓ix_lst14, ↓ix_tup15, ↓ix_lst15, ↓ng, ↓up_t, ↓up_l, ↓it_t, ↓it_l, ↓ls_l, ↓pt_n, ↓pt_i, ↓rg1, ↓rg2, ↓bi_lenl, ↓bi_lent, ↓bi_abs, ↓bi_lil, ↓bi_lit, ↓bi_tul, ↓bi_tut, ↓rv_l, ↓ii_non_int, ↓ii_non_bool, ↓ii_non_str, ↓ii_non_tuple, ↓ii_non_list, ↓ii_bl_int, ↓ii_bl_bool, ↓ii_bl_str, ↓ii_bl_tuple, ↓ii_bl_list, ↓ii_int_int, ↓ii_int_bool, ↓ii_int_str, ↓ii_int_tuple, ↓ii_int_list, ↓ii_str_int, ↓ii_str_bool, ↓ii_str_str, ↓ii_str_tuple, ↓ii_str_list, ↓ii_tup_int, ↓ii_tup_bool, ↓ii_tup_str, ↓ii_tup_tuple, ↓ii_tup_list, ↓ii_lst_int, ↓ii_lst_bool, ↓ii_lst_str, ↓ii_lst_tuple, ↓ii_lst_list, ↓nf_fr, ↓ix_fr0, ↓ix_fr1, ↓ii_fr_t, ↓len_fr, ↓c_eqfr, ↓c_nefr, ↓c_eqfrs, ↓c_nefrs, ↓c_eqbs, ↓c_nebs, ↓ri_rt, ↓ri_nx, ↓ri_ex, ↓ri_rx, ↓ri_xr, ↓gd_nx, ↓gd_rt, ↓gd_ex, ↓ok_rt, ↓ws_forW, ↓ws_brk, ↓ws_cont, ↓lq_nx, ↓lq_ct, ↓lq_bk, ↓lq_rt, ↓lq_exn, ↓iq_nx, ↓iq_ct, ↓iq_bk, ↓iq_rt, ↓iq_exn, ↓st_n, ↓st_t, ↓sts_n, ↓sts_c, ↓we_lc, ↓now_n, ↓now_c, ↓gs_0, ↓gs_s, ↓io_f, ↓io_n, ↓wp_n, ↓wp_c, ↓ck_even, ↓cn_even, ↓ck_in, ↓cn_in, ↓ck_out, ↓cn_out, ↓ck_both, ↓cn_both, ↓ck_hold, ↓cn_hold, ↓ck_jump, ↓cn_jump, ↓ck_kept, ↓cn_kept, ↓ci_hj, ↓cj_hj, ↓ci_bk, ↓cj_bk, ↓ci_kinds, ↓cj_kinds, ↓gx_turn, ↓up_fr, ↓ok_i, ↓ok_ii, ↓turn_turn, ↓sl_t, ↓sl_l, ↓cut_h1, ↓cut_l1, ↓cut_h2, ↓cut_l2, ↓cut_h3, ↓cut_l3, ↓cut_h4, ↓cut_l4, ↓cut_h5, ↓cut_l5, ↓cut_2_4, ↓r_nn, ↓c_eqself, ↓c_neself, ↓br_T, ↓br_F, ↓lit01, ↓lit11, ↓lit21, ↓lit31, ↓lit41, ↓lit61, ↓lit12, ↓lit32, ↓wf_nil, ↓wf_cons, ↓ov_lcf, ↓ov_col_n, ↓ov_col_c, ↓optL_n, ↓optL_s, decide_eq_true_eq, decide_eq_false_iff_not, Bool.not_eq_true', Bool.not_eq_false', true_and, and_true, and_self, true_implies, false_implies, implies_true, forall_const, not_true_eq_false, not_false_eq_true, Bool.not_true, Bool.not_false, decide_true, decide_false, reduceCtorEq, List.cons_append, List.nil_append, List.append_assoc, not_false_iff, eq_self, Tg.slots, GW.ld, GW.ld2, GW.p2_fr, List.length_cons, List.length_nil, List.all_cons, List.all_nil, Bool.and_self, GW.bq_tt, GW.bq_ff, GW.bq_tf, GW.bq_ft, List.zip_cons_cons, List.zip_nil_left, List.zip_nil_right])
open GW in
local macro_rules | `(tactic| walk_at "e2u") => `(tactic| simp (maxSteps := 10000000) (disch := (first | assumption | omega | decide)) only [↓Gk11.gl_KINDS, ↓Gk11.gl_TURNED, ↓Gk11.gl_NONE, ↓Gk11.gl_ALL, ↓Gk11.cv_tk0_0, ↓Gk11.cv_tk1_1, ↓Gk11.cv_tk1_0, ↓Gk11.cv_tk2_2, ↓Gk11.cv_tk2_0, ↓Gk11.cw_divisor, ↓Gk11.cw__law_divisor, ↓Gk11.cw_plus, ↓Gk11.cw_minus, ↓Gk11.cw_times, ↓Gk11.cw__law_plus, ↓Gk11.cw__law_minus, ↓Gk11.cw__law_times, ↓Gk11.cw__law_over, ↓Gk11.cw_is_less, ↓Gk11.cw__law_less, ↓Gk11.cw__law_pick, ↓Gk11.cw__law_frac, ↓Gk11.cw__law_size, ↓Gk11.cw__law_kind, ↓Gk11.cw__law_made, ↓Gk11.cw_frac, ↓Gk11.cw_look_kind, ↓Gk11.cw_kept_in, ↓Gk11.cw_eased, ↓Gk11.cw_slope, ↓Gk11.cw_turned_kind, ↓Gk11.cw__law_eased, ↓Gk11.cv__law_eased_both, ↓Gk11.cv__law_eased, ↓Gk11.cw_r1, ↓Gk11.cw_r2, ↓Gk11.cw_r3, ↓Gk11.cw_r4, ↓GW.is_fr, ↓GW.isn_fr, ↓GW.bo_ix, ↓GW.b_pow6, ↓GW.lit_m12, ↓GW.b_mul3, ↓GW.we_dct, ↓GW.nf_d, ↓GW.mt_get, ↓GW.b_mul4, ↓we_int, ↓we_bl, ↓we_non, ↓we_str, ↓we_tup, ↓we_lst, ↓wl_nil, ↓wl_cons, ↓we_bin, ↓we_cmp, ↓we_chain, ↓we_ix, ↓we_neg, ↓we_nt, ↓we_ife, ↓we_conj, ↓we_disj, ↓wa_nil, ↓wo_nil, ↓wa_cons, ↓wo_cons, ↓we_call, ↓we_bi, ↓we_isi, ↓we_rev, ↓we_sl, ↓we_mt, ↓we_bop, ↓we_rng, ↓we_zip, ↓we_enum, ↓we_gix, ↓we_glo, ↓ws_nil, ↓ws_set, ↓ws_exp, ↓ws_ret, ↓ws_retN, ↓ws_raise, ↓ws_pass, ↓ws_asgT, ↓ws_par, ↓ws_ite, ↓ws_try, ↓ws_whl, ↓th_nx, ↓th_rt, ↓th_exn, ↓th_bk, ↓th_ct, ↓tk_nx, ↓tk_rt, ↓nf_f, ↓nf_l, ↓nf_i, ↓nf_b, ↓nf_t, ↓nf_n, ↓nf_s, ↓nf_x, ↓br_t, ↓br_f, ↓br_n, ↓br_d, ↓ov_s, ↓cw_o, ↓cw_e, ↓wv0, ↓wo0, ↓wm0, ↓wn0, ↓se0f, ↓se0o, ↓sx0, ↓pk0f, ↓pk0o, ↓po0, ↓wv1, ↓wo1, ↓wm1, ↓wn1, ↓se1f, ↓se1o, ↓sx1, ↓pk1f, ↓pk1o, ↓po1, ↓wv2, ↓wo2, ↓wm2, ↓wn2, ↓se2f, ↓se2o, ↓sx2, ↓pk2f, ↓pk2o, ↓po2, ↓wv3, ↓wo3, ↓wm3, ↓wn3, ↓se3f, ↓se3o, ↓sx3, ↓pk3f, ↓pk3o, ↓po3, ↓wv4, ↓wo4, ↓wm4, ↓wn4, ↓se4f, ↓se4o, ↓sx4, ↓pk4f, ↓pk4o, ↓po4, ↓wv5, ↓wo5, ↓wm5, ↓wn5, ↓se5f, ↓se5o, ↓sx5, ↓pk5f, ↓pk5o, ↓po5, ↓wv6, ↓wo6, ↓wm6, ↓wn6, ↓se6f, ↓se6o, ↓sx6, ↓pk6f, ↓pk6o, ↓po6, ↓wv7, ↓wo7, ↓wm7, ↓wn7, ↓se7f, ↓se7o, ↓sx7, ↓pk7f, ↓pk7o, ↓po7, ↓wv8, ↓wo8, ↓wm8, ↓wn8, ↓se8f, ↓se8o, ↓sx8, ↓pk8f, ↓pk8o, ↓po8, ↓wv9, ↓wo9, ↓wm9, ↓wn9, ↓se9f, ↓se9o, ↓sx9, ↓pk9f, ↓pk9o, ↓po9, ↓wv10, ↓wo10, ↓wm10, ↓wn10, ↓se10f, ↓se10o, ↓sx10, ↓pk10f, ↓pk10o, ↓po10, ↓wv11, ↓wo11, ↓wm11, ↓wn11, ↓se11f, ↓se11o, ↓sx11, ↓pk11f, ↓pk11o, ↓po11, ↓wv12, ↓wo12, ↓wm12, ↓wn12, ↓se12f, ↓se12o, ↓sx12, ↓pk12f, ↓pk12o, ↓po12, ↓wv13, ↓wo13, ↓wm13, ↓wn13, ↓se13f, ↓se13o, ↓sx13, ↓pk13f, ↓pk13o, ↓po13, ↓wv14, ↓wo14, ↓wm14, ↓wn14, ↓se14f, ↓se14o, ↓sx14, ↓pk14f, ↓pk14o, ↓po14, ↓wv15, ↓wo15, ↓wm15, ↓wn15, ↓se15f, ↓se15o, ↓sx15, ↓pk15f, ↓pk15o, ↓po15, ↓wv16, ↓wo16, ↓wm16, ↓wn16, ↓se16f, ↓se16o, ↓sx16, ↓pk16f, ↓pk16o, ↓po16, ↓wv17, ↓wo17, ↓wm17, ↓wn17, ↓se17f, ↓se17o, ↓sx17, ↓pk17f, ↓pk17o, ↓po17, ↓wv18, ↓wo18, ↓wm18, ↓wn18, ↓se18f, ↓se18o, ↓sx18, ↓pk18f, ↓pk18o, ↓po18, ↓wv19, ↓wo19, ↓wm19, ↓wn19, ↓se19f, ↓se19o, ↓sx19, ↓pk19f, ↓pk19o, ↓po19, ↓wv20, ↓wo20, ↓wm20, ↓wn20, ↓se20f, ↓se20o, ↓sx20, ↓pk20f, ↓pk20o, ↓po20, ↓wv21, ↓wo21, ↓wm21, ↓wn21, ↓se21f, ↓se21o, ↓sx21, ↓pk21f, ↓pk21o, ↓po21, ↓wv22, ↓wo22, ↓wm22, ↓wn22, ↓se22f, ↓se22o, ↓sx22, ↓pk22f, ↓pk22o, ↓po22, ↓wv23, ↓wo23, ↓wm23, ↓wn23, ↓se23f, ↓se23o, ↓sx23, ↓pk23f, ↓pk23o, ↓po23, ↓wv24, ↓wo24, ↓wm24, ↓wn24, ↓se24f, ↓se24o, ↓sx24, ↓pk24f, ↓pk24o, ↓po24, ↓wv25, ↓wo25, ↓wm25, ↓wn25, ↓se25f, ↓se25o, ↓sx25, ↓pk25f, ↓pk25o, ↓po25, ↓ses_n, ↓ses_c, ↓sep_n, ↓sep_c, ↓ws_appn, ↓ws_extn, ↓b_add, ↓b_addl, ↓b_addt, ↓b_sub, ↓b_mul, ↓b_fdiv, ↓b_mod, ↓c_lt, ↓c_le, ↓c_gt, ↓c_ge, ↓c_eq, ↓c_ne, ↓is_n, ↓isn_n, ↓is_b, ↓isn_b, ↓is_i, ↓isn_i, ↓is_s, ↓isn_s, ↓is_t, ↓isn_t, ↓is_l, ↓isn_l, ↓is_x, ↓isn_x, ↓isn_bb, ↓is_bb, ↓ix_tup0, ↓ix_lst0, ↓ix_tup1, ↓ix_lst1, ↓ix_tup2, ↓ix_lst2, ↓ix_tup3, ↓ix_lst3, ↓ix_tup4, ↓ix_lst4, ↓ix_tup5, ↓ix_lst5, ↓ix_tup6, ↓ix_lst6, ↓ix_tup7, ↓ix_lst7, ↓ix_tup8, ↓ix_lst8, ↓ix_tup9, ↓ix_lst9, ↓ix_tup10, ↓ix_lst10, ↓ix_tup11, ↓ix_lst11, ↓ix_tup12, ↓ix_lst12, ↓ix_tup13, ↓ix_lst13, ↓ix_tup14, ↓ix_lst14, ↓ix_tup15, ↓ix_lst15, ↓ng, ↓up_t, ↓up_l, ↓it_t, ↓it_l, ↓ls_l, ↓pt_n, ↓pt_i, ↓rg1, ↓rg2, ↓bi_lenl, ↓bi_lent, ↓bi_abs, ↓bi_lil, ↓bi_lit, ↓bi_tul, ↓bi_tut, ↓rv_l, ↓ii_non_int, ↓ii_non_bool, ↓ii_non_str, ↓ii_non_tuple, ↓ii_non_list, ↓ii_bl_int, ↓ii_bl_bool, ↓ii_bl_str, ↓ii_bl_tuple, ↓ii_bl_list, ↓ii_int_int, ↓ii_int_bool, ↓ii_int_str, ↓ii_int_tuple, ↓ii_int_list, ↓ii_str_int, ↓ii_str_bool, ↓ii_str_str, ↓ii_str_tuple, ↓ii_str_list, ↓ii_tup_int, ↓ii_tup_bool, ↓ii_tup_str, ↓ii_tup_tuple, ↓ii_tup_list, ↓ii_lst_int, ↓ii_lst_bool, ↓ii_lst_str, ↓ii_lst_tuple, ↓ii_lst_list, ↓nf_fr, ↓ix_fr0, ↓ix_fr1, ↓ii_fr_t, ↓len_fr, ↓c_eqfr, ↓c_nefr, ↓ri_rt, ↓ri_nx, ↓ri_ex, ↓ri_rx, ↓ri_xr, ↓gd_nx, ↓gd_rt, ↓gd_ex, ↓ok_rt, ↓ws_forW, ↓ws_brk, ↓ws_cont, ↓lq_nx, ↓lq_ct, ↓lq_bk, ↓lq_rt, ↓lq_exn, ↓iq_nx, ↓iq_ct, ↓iq_bk, ↓iq_rt, ↓iq_exn, ↓st_n, ↓st_t, ↓sts_n, ↓sts_c, ↓we_lc, ↓now_n, ↓now_c, ↓gs_0, ↓gs_s, ↓io_f, ↓io_n, ↓wp_n, ↓wp_c, ↓ck_even, ↓cn_even, ↓ck_in, ↓cn_in, ↓ck_out, ↓cn_out, ↓ck_both, ↓cn_both, ↓ck_hold, ↓cn_hold, ↓ck_jump, ↓cn_jump, ↓ck_kept, ↓cn_kept, ↓ci_hj, ↓cj_hj, ↓ci_bk, ↓cj_bk, ↓ci_kinds, ↓cj_kinds, ↓gx_turn, ↓up_fr, ↓ok_i, ↓ok_ii, ↓turn_turn, ↓sl_t, ↓sl_l, ↓cut_h1, ↓cut_l1, ↓cut_h2, ↓cut_l2, ↓cut_h3, ↓cut_l3, ↓cut_h4, ↓cut_l4, ↓cut_h5, ↓cut_l5, ↓cut_2_4, ↓r_nn, ↓lit01, ↓lit11, ↓lit21, ↓lit31, ↓lit41, ↓lit61, ↓lit12, ↓lit32, ↓wf_nil, ↓wf_cons, ↓ov_lcf, ↓ov_col_n, ↓ov_col_c, ↓optL_n, ↓optL_s, decide_eq_true_eq, decide_eq_false_iff_not, Bool.not_eq_true', Bool.not_eq_false', true_and, and_true, and_self, true_implies, false_implies, implies_true, forall_const, not_true_eq_false, not_false_eq_true, Bool.not_true, Bool.not_false, decide_true, decide_false, reduceCtorEq, List.cons_append, List.nil_append, List.append_assoc, not_false_iff, eq_self, Tg.slots, GW.ld, GW.ld2, GW.p2_fr, List.length_cons, List.length_nil, List.all_cons, List.all_nil, Bool.and_self, GW.bq_tt, GW.bq_ff, GW.bq_tf, GW.bq_ft, List.zip_cons_cons, List.zip_nil_left, List.zip_nil_right])
theorem law_ok (ns : List Int) (ok : ScOk ns) : run G 60 i_law .non [scr ns] = .ok (.bl true) false .non := by
  refine en_law (n := 59) ?_
  unfold F_law
  have hk := kind_ne ns 0
  have hk' := turn_ne hk
  have q0 := pick_lo ns 10 (m := 20) (by decide)
  have q1 := pick_hi ns 10 (m := 20) (by decide)
  walk_at "e1"
  generalize kindV ns 0 = k at *
  refine wf_inv (fun i ρ => ∃ s2 s3 s4 s5 s6 s7 s8 : Sl, ρ = [.fz (scr ns), .fz (.str (kS k)), s2, s3, s4, s5, s6, s7, s8, .no, .no, .no]) ⟨_, _, _, _, _, _, _, rfl⟩ ?_ ?_
  · rintro i d ρ hd ⟨s2, s3, s4, s5, s6, s7, s8, rfl⟩
    obtain ⟨hi, rfl⟩ := rng_get hd
    have hi : i < 7 := hi
    have p0 := pick_lo ns (1 + (i : Int)) (m := 9) (by decide)
    have p1 := pick_hi ns (1 + (i : Int)) (m := 9) (by decide)
    have nz : ¬ 8 + pickV ns (1 + (i : Int)) 9 = 0 := by omega
    have z1 : SzLe (Rat.divInt (1 + (i : Int)) 8) 10 := sz_small (by omega) (by omega)
    have z2 : SzLe (Rat.divInt 1 (8 + pickV ns (1 + (i : Int)) 9)) 10 := sz_small (by omega) (by omega)
    obtain ⟨g1, g2⟩ := part_ok hi
    obtain ⟨g3, g4⟩ := small_ok p0
    generalize hpm : Rat.divInt (1 + (i : Int)) 8 = p at *
    generalize hsm : Rat.divInt 1 (8 + pickV ns (1 + (i : Int)) 9) = s at *
    have nz2 : ¬ s + s = 0 := by grind
    rcases Decidable.em (k = .hold ∨ k = .jump) with hj | hj
    · have e0 : slopeQ k p = 0 := slope_hj hj
      walk_at "e1"
      rw [hpm, hsm]
      walk_at "e1"
      exact ⟨_, _, _, _, _, _, _, rfl⟩
    · have hs := slope_step hk hj g3 (show 0 ≤ p - s by grind) (show p + s ≤ 1 by grind)
      have ht : slopeQ (turnK k) (1 - p) = slopeQ k p := slope_turn hk
      rcases Decidable.em (k = .both) with hb | hb
      · rw [if_pos hb] at hs
        walk_at "e1"
        rw [hpm, hsm]
        walk_at "e1"
        exact ⟨_, _, _, _, _, _, _, rfl⟩
      · rw [if_neg hb] at hs
        have hs : slopeQ k p = (easedQ k (p + s) - easedQ k (p - s)) / (s + s) := by rw [hs]; grind
        walk_at "e1"
        rw [hpm, hsm]
        walk_at "e1"
        exact ⟨_, _, _, _, _, _, _, rfl⟩
  · rintro ρ ⟨s2, s3, s4, s5, s6, s7, s8, rfl⟩
    have zo : SzLe (Rat.divInt (pickV ns 10 20 + 1) 9) 10 := sz_small (by omega) (by omega)
    have ho : 0 < Rat.divInt (pickV ns 10 20 + 1) 9 := divInt_pos (by omega) (by decide)
    have f1 : slopeQ k (0 - Rat.divInt (pickV ns 10 20 + 1) 9) = 0 := slope_lo (by grind)
    have f2 : slopeQ k (1 + Rat.divInt (pickV ns 10 20 + 1) 9) = 0 := slope_hi (by grind)
    obtain ⟨f3, f4⟩ := ends_slope (k := k)
    walk_at "e1u"
    refine ⟨rfl, ?_⟩
    rw [we_varo rfl rfl]
    refine ⟨nf_d ▸ trivial, rfl, ?_⟩
    dsimp only [List.set]
    walk_at "e1u"
    rw [lk_ends, f3, f4]
    walk_at "e1"
end Gk11
end

section
open PySem PySem.W PyProof.Rows
theorem PySem.Challenge.cw_glideways_k11_whole_slopes_holds : PySem.Challenge.rw_glideways_k11_whole_slopes.Holds :=
  Gk11.holds fun ns hl hb => ⟨false, Gk11.law_ok ns ⟨hl, fun z h => Nat.le_trans (hb z h) (by decide)⟩⟩
end
