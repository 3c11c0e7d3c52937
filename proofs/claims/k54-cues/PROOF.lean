import PyProof.Rows.All
import Wide.All
import OpenK.AllK
import Wide.FinOn
import HandS.ForExc
import HandS.SortRule
import KE.SortData
import KE.DataMinMax
import HandS.Iter
import HandS.Style
import HandS.TupAny
import HandS.Deep
import HandS.Wide
import HandS.IsInst
import HandS.ExcIs
import HandS.TupMul
import HandS.TupLe
import HandS.Dict
import KE.KEqDict
import HandS.SetFor
import KE.OsSortAny
import HandS.Comp
import HandS.Zip
import KE.GoesEnum
import HandS.NoneIn
import HandS.More
import HandS.Text
import HandS.TupSets
import HandS.SetTxt0
import HandS.Defaults
import HandS.HeadHook4
import HandS.EndBits
import HandS.HeadEnd
import HandS.Head2
import PySem.Challenge.RW_glideways_k54_whole_cues
set_option Elab.async false
set_option linter.all false
set_option maxRecDepth 100000
set_option maxHeartbeats 0
set_option exponentiation.threshold 100000
section
/-! C1: plain data, an own small language and its plain interpreter. -/
namespace GW
open PySem (Str)

/-! ### data -/
inductive D where
  | non
  | bl (b : Bool)
  | int (i : Int)
  | str (s : Str)
  | tup (xs : List D)
  | lst (xs : List D)
  | dic (kvs : List (Str × D))
  | exc (c : Nat)
  | ins (c : Nat) (fs : List (Str × Bool × D))

instance : Inhabited D := ⟨.non⟩

def D.isIns : D → Bool
  | .ins .. => true
  | _ => false

mutual
def D.eqv : D → D → Bool
  | .non, .non => true
  | .bl a, .bl b => a == b
  | .bl a, .int b => (if a then 1 else 0) == b
  | .int a, .bl b => a == (if b then 1 else 0)
  | .int a, .int b => a == b
  | .str a, .str b => a == b
  | .tup xs, .tup ys => D.eqvs xs ys
  | .lst xs, .lst ys => D.eqvs xs ys
  | _, _ => false
def D.eqvs : List D → List D → Bool
  | [], [] => true
  | x :: xs, y :: ys => D.eqv x y && D.eqvs xs ys
  | _, _ => false
end
mutual
/-- how deep; what is no plain data is too deep -/
def D.dep : D → Nat
  | .non => 0
  | .bl _ => 0
  | .int _ => 0
  | .str s => if PySem.PyData.strOk s then 0 else 100
  | .tup xs => D.deps xs + 1
  | .lst xs => D.deps xs + 1
  | .dic _ => 100
  | .exc _ => 100
  | .ins _ _ => 100
def D.deps : List D → Nat
  | [] => 0
  | x :: xs => max (D.dep x) (D.deps xs)
end
def D.dic? : D → Option (List (Str × D))
  | .dic kvs => some kvs
  | _ => none

/-! ### slots -/
inductive Sl where
  | no | fz (d : D) | ow (d : D)
abbrev Env := List Sl
def isOw : Sl → Bool
  | .ow _ => true
  | _ => false
def getS (ρ : Env) (i : Nat) : Sl := match ρ[i]? with
  | some s => s
  | none => .no

/-! ### results -/
inductive Out (α : Type) where
  | ok (a : α) (ρ : Env)
  | exn (c : Nat) (ρ : Env)
  | bad
def Out.bind {α β : Type} : Out α → (α → Env → Out β) → Out β
  | .ok a ρ, k => k a ρ
  | .exn c ρ, _ => .exn c ρ
  | .bad, _ => .bad
def Out.of {α : Type} (o : Option α) (ρ : Env) : Out α := match o with
  | some a => .ok a ρ
  | none => .bad
inductive Flow where
  | nx (ρ : Env)
  | rt (d : D) (own : Bool) (ρ : Env)
  | bk (ρ : Env)
  | ct (ρ : Env)
  | exn (c : Nat) (ρ : Env)
  | bad
inductive Res where
  | ok (d : D) (own : Bool) (self : D)
  | exn (c : Nat) (self : D)
  | bad

/-! ### the language -/
inductive BOp where | add | sub | mul | fdiv | mod | pow
inductive COp where | lt | le | gt | ge | eq | ne | is_ | isnot | in_ | nin
inductive Ty where | int | bool | str | tuple | list | valueError | exc (c : Nat)
inductive Bi where | len | abs | str | int | list | tuple | sorted | sset | all | any | sum | min | max | dict
inductive Mt where | count | index | join | split | partition | get | items
inductive Bo where | len | ix | eq | ne | in_ | nin | list | count | index
inductive Pl where | sl (i : Nat) | fld (i : Nat) (f : Str)
inductive Tg where | nm (i : Nat) | tp (is : List Nat)

inductive Px where
  | var (i : Nat)
  | mov (i : Nat)
  | int (i : Int)
  | bl (b : Bool)
  | non
  | str (s : Str)
  | glo (g : Nat)
  | fld (i : Nat) (f : Str)
  | tup (es : List Px)
  | lst (es : List Px)
  | dct (ks : List Str) (es : List Px)
  | bin (o : BOp) (a b : Px)
  | neg (a : Px)
  | cmp (o : COp) (a b : Px)
  | chain (o1 o2 : COp) (a b c : Px)
  | conj (es : List Px)
  | disj (es : List Px)
  | nt (a : Px)
  | ife (t a b : Px)
  | ix (a i : Px)
  | dix (a i : Px)
  | gix (g : Nat) (i : Px)
  | sl (a : Px) (lo hi : List Px)
  | rev (a : Px)
  | fz (a : Px)
  | call (f : Nat) (es : List Px)
  | bi (b : Bi) (es : List Px)
  | isi (a : Px) (t : Ty)
  | mt (m : Mt) (a : Px) (es : List Px)
  | bop (o : Bo) (p : Pl) (es : List Px)
  | pop (p : Pl)
  | mcall (f : Nat) (i : Nat) (es : List Px)
  | make (c : Nat) (f : Nat) (es : List Px)
  | rng (es : List Px)
  | zip (a b : Px)
  | enum (a : Px)
  | lc (own : List Nat) (tg : Tg) (it : Px) (cond : List Px) (e : Px)

inductive Ps where
  | asg (i : Nat) (e : Px)
  | asgT (is : List Nat) (e : Px)
  | par (is : List Nat) (es : List Px)
  | asgN (is : List Nat) (i : Nat) (es : List Px)
  | asgs (is : List Nat) (es : List Px)
  | exp (e : Px)
  | app (p : Pl) (e : Px)
  | ext (p : Pl) (e : Px)
  | insr (p : Pl) (k e : Px)
  | setk (p : Pl) (k v : Px)
  | setf (i : Nat) (f : Str) (e : Px)
  | ite (c : Px) (a b : List Ps)
  | forS (tg : Tg) (it : Px) (b : List Ps)
  | whl (c : Px) (b : List Ps)
  | ret (e : Px)
  | retN
  | raise (c : Nat)
  | tryK (body : List Ps) (c : Nat) (n k : Nat)
  | brk
  | cont
  | pass

/-! ### what operations tell -/
def lineD : Nat := 16777216
/-- a place of a sequence, from the end where it is below 0 -/
def ixN (n : Nat) (i : Int) : Option Nat := if 0 ≤ i then (if i < n then some i.toNat else none) else if -(n : Int) ≤ i then some (i + n).toNat else none
def ixL {α : Type} (xs : List α) (i : Int) : Option α := (ixN xs.length i).bind fun j => xs[j]?
/-- an end of a slice -/
def cutN (n d : Nat) : Option Int → Nat
  | none => d
  | some i => if i < 0 then (i + n).toNat else min i.toNat n
def cutL {α : Type} (xs : List α) (lo hi : Option Int) : List α := (xs.drop (cutN xs.length 0 lo)).take (cutN xs.length xs.length hi - cutN xs.length 0 lo)
def okI (i : Int) : Bool := decide (-(2 ^ 62) < i) && decide (i < 2 ^ 62)

def binv : BOp → D → D → Option (D × Bool)
  | .add, .int i, .int j => some (.int (i + j), false)
  | .add, .str x, .str y => if x.length + y.length ≤ lineD then some (.str (x ++ y), false) else none
  | .add, .lst xs, .lst ys => if xs.length + ys.length ≤ lineD then some (.lst (xs ++ ys), true) else none
  | .add, .tup xs, .tup ys => if xs.length + ys.length ≤ lineD then some (.tup (xs ++ ys), false) else none
  | .sub, .int i, .int j => some (.int (i - j), false)
  | .mul, .int i, .int j => if i.natAbs.log2 + j.natAbs.log2 < 100000000 then some (.int (i * j), false) else none
  | .mul, .lst xs, .int j => if okI j && decide (xs.length * j.toNat ≤ lineD) then some (.lst ((List.replicate j.toNat xs).flatten), true) else none
  | .mul, .tup xs, .int j => if !xs.isEmpty && (decide (2 ≤ j) && (decide (j ≤ 1000) && decide (xs.length ≤ 1000))) then some (.tup ((List.replicate j.toNat xs).flatten), false) else none
  | .fdiv, .int i, .int j => if j != 0 && decide (j.natAbs.log2 < 9000) then some (.int (i.fdiv j), false) else none
  | .mod, .int i, .int j => if j != 0 then some (.int (i.fmod j), false) else none
  | .pow, .int i, .int j => if decide (0 ≤ j) && decide (j ≤ 1000) && decide (i.natAbs < 18446744073709551616) then some (.int (i ^ j.toNat), false) else none
  | _, _, _ => none
def deep (x y : D) : Bool := decide (x.dep ≤ 60) && decide (y.dep ≤ 60)
/-- dicts: the same keys with like worths; none where a worth is too deep -/
def dicEq : List (Str × D) → List (Str × D) → Option Bool
  | [], _ => some true
  | (k, d) :: r, b => match b.lookup k with
    | none => some false
    | some e => if deep d e then (dicEq r b).map fun z => d.eqv e && z else none
def dicL : D → D → Option Bool
  | .dic a, .dic b => if a.length = b.length then dicEq a b else some false
  | _, _ => none
def cmpv : COp → D → D → Option Bool
  | .lt, .int i, .int j => some (decide (i < j))
  | .le, .int i, .int j => some (decide (i ≤ j))
  | .gt, .int i, .int j => some (decide (j < i))
  | .ge, .int i, .int j => some (decide (j ≤ i))
  | .eq, x, y => if deep x y then some (x.eqv y) else dicL x y
  | .ne, x, y => if deep x y then some (!x.eqv y) else (dicL x y).map (!·)
  | .is_, x, .non => some (match x with | .non => true | _ => false)
  | .isnot, x, .non => some (match x with | .non => false | _ => true)
  | .is_, .bl a, .bl b => some (a == b)
  | .isnot, .bl a, .bl b => some (!(a == b))
  | .in_, x, .lst ys => if deep x (.lst ys) then some (ys.any fun y => y.eqv x) else none
  | .nin, x, .lst ys => if deep x (.lst ys) then some (!ys.any fun y => y.eqv x) else none
  | .in_, x, .tup ys => if deep x (.tup ys) then some (ys.any fun y => y.eqv x) else none
  | .nin, x, .tup ys => if deep x (.tup ys) then some (!ys.any fun y => y.eqv x) else none
  | .in_, .str k, .dic kvs => some (kvs.lookup k).isSome
  | .nin, .str k, .dic kvs => some (!(kvs.lookup k).isSome)
  | _, _, _ => none
def ixv : D → D → Option D
  | .lst xs, .int i => ixL xs i
  | .tup xs, .int i => ixL xs i
  | .str z, .int i => if z.length ≤ lineD then (ixL z.cps.toList i).map fun c => .str ⟨#[c]⟩ else none
  | .dic kvs, .str k => kvs.lookup k
  | _, _ => none
def dixv : D → D → Option D
  | .dic kvs, .str k => kvs.lookup k
  | _, _ => none
/-- a part of a slice that may be left out -/
def partv : List D → Option (Option Int)
  | [] => some none
  | [.int i] => some (some i)
  | _ => none
def slv (a : D) (lo hi : Option Int) : Option (D × Bool) := match a with
  | .lst xs => some (.lst (cutL xs lo hi), true)
  | .tup xs => some (.tup (cutL xs lo hi), false)
  | .str z => if z.length ≤ lineD then some (.str ⟨(cutL z.cps.toList lo hi).toArray⟩, false) else none
  | _ => none
def revv : D → Option (D × Bool)
  | .lst xs => some (.lst xs.reverse, true)
  | _ => none
def boolsv : List D → Option (List Bool)
  | [] => some []
  | .bl b :: r => (boolsv r).map (b :: ·)
  | _ :: _ => none
def intsv : List D → Option (List Int)
  | [] => some []
  | .int b :: r => (intsv r).map (b :: ·)
  | _ :: _ => none
/-! ### plain data as the library's -/
mutual
def D.py : D → PySem.PyData
  | .non => .none
  | .bl b => .bool b
  | .int i => .int i
  | .str s => .str s
  | .tup xs => .tuple (D.pys xs)
  | .lst xs => .list (D.pys xs)
  | .dic _ => .none
  | .exc _ => .none
  | .ins _ _ => .none
def D.pys : List D → List PySem.PyData
  | [] => []
  | x :: xs => D.py x :: D.pys xs
end
/-- may be sorted: all alike, all tuples with an item or none of them a tuple or None -/
def tupNE : D → Bool
  | .tup (_ :: _) => true
  | _ => false
def noTup : D → Bool
  | .non => false
  | .tup _ => false
  | _ => true
def alikeD (xs : List D) : Bool := (xs.all fun x => xs.all fun y => PySem.W.alike x.py y.py) && decide (D.deps xs ≤ 50)
def okSort (xs : List D) : Bool := alikeD xs && ((xs.all tupNE) || (xs.all noTup))
/-- the first of the least -/
def minD' (x : D) (xs : List D) : D := xs.foldl (fun a y => if PySem.W.dataLt y.py a.py then y else a) x
/-- two ints -/
def p2? : D → Option (Int × Int)
  | .tup [.int i, .int j] => some (i, j)
  | _ => none
def kD (d : D) : Int × Int := (p2? d).getD (0, 0)
def insB {α : Type} (lt : α → α → Bool) (x : α) : List α → List α
  | [] => [x]
  | y :: l => if lt y x then y :: insB lt x l else x :: y :: l
/-- sorted, like ones as they stood -/
def sortB {α : Type} (lt : α → α → Bool) : List α → List α
  | [] => []
  | x :: l => insB lt x (sortB lt l)
def ltD (x y : D) : Bool := SrtO.lexB (kD x) (kD y)
/-- texts -/
def txs : List D → Option (List Str)
  | [] => some []
  | .str s :: r => (txs r).map (s :: ·)
  | _ :: _ => none
/-- each once -/
def nub : List Str → List Str
  | [] => []
  | s :: r => if s ∈ nub r then nub r else s :: nub r
abbrev sortX (l : List Str) : List Str := l.mergeSort (PySem.W.dataLe false PySem.PyData.str)
def dput (k : Str) (v : D) (kvs : List (Str × D)) : List (Str × D) := if kvs.any fun x => x.1 == k then kvs.map fun x => if x.1 == k then (x.1, v) else x else kvs ++ [(k, v)]
/-- pairs of a text and something -/
def prs : List D → Option (List (Str × D))
  | [] => some []
  | .tup [.str s, d] :: r => (prs r).map ((s, d) :: ·)
  | _ :: _ => none
def dictOf (kvs : List (Str × D)) : List (Str × D) := kvs.foldl (fun a p => dput p.1 p.2 a) []
def biv : Bi → List D → Option (D × Bool)
  | .len, [.lst xs] => some (.int xs.length, false)
  | .len, [.tup xs] => some (.int xs.length, false)
  | .len, [.str z] => if z.length ≤ lineD then some (.int z.length, false) else none
  | .abs, [.int i] => some (.int (if i < 0 then -i else i), false)
  | .str, [.int i] => if i.natAbs.log2 < 1920 then some (.str (toString i), false) else none
  | .list, [.lst xs] => some (.lst xs, true)
  | .list, [.tup xs] => some (.lst xs, true)
  | .list, [.dic kvs] => some (.lst (kvs.map fun p => .str p.1), true)
  | .sorted, [.lst xs] => if xs.all fun x => (p2? x).isSome then some (.lst (sortB ltD xs), true) else if okSort xs then some (.lst (xs.mergeSort (PySem.W.dataLe false D.py)), true) else none
  | .sorted, [.dic kvs] => if kvs.length < 64 then some (.lst ((sortX (kvs.map (·.1))).map .str), true) else none
  | .dict, [.lst xs] => (prs xs).map fun kvs => (.dic (dictOf kvs), true)
  | .dict, [.dic kvs] => some (.dic kvs, true)
  | .min, [.lst (x :: xs)] => if alikeD (x :: xs) && ((x :: xs).all fun y => match y with | .non => false | _ => true) then some (minD' x xs, false) else none
  | .sset, [.lst xs] => (txs xs).bind fun ss => if ss.length < 64 then some (.lst ((sortX (nub ss)).map .str), true) else none
  | .tuple, [.lst xs] => some (.tup xs, false)
  | .tuple, [.tup xs] => some (.tup xs, false)
  | .all, [.lst xs] => (boolsv xs).map fun bs => (.bl (bs.all id), false)
  | .any, [.lst xs] => (boolsv xs).map fun bs => (.bl (bs.any id), false)
  | _, _ => none
/-- is a thing of a type; sub: the classes of refusals -/
def isiv (sub : Nat → Nat → Option Bool) : D → Ty → Option Bool
  | .exc c, .valueError => (sub c c).map fun _ => true
  | _, .valueError => none
  | .non, .exc _ => none
  | .non, _ => some false
  | .bl _, .int => some true
  | .bl _, .bool => some true
  | .bl _, .exc _ => none
  | .bl _, _ => some false
  | .int _, .int => some true
  | .int _, .exc _ => none
  | .int _, _ => some false
  | .str _, .str => some true
  | .str _, .exc _ => none
  | .str _, _ => some false
  | .tup _, .tuple => some true
  | .tup _, .exc _ => none
  | .tup _, _ => some false
  | .lst _, .list => some true
  | .lst _, .exc _ => none
  | .lst _, _ => some false
  | .exc c, .exc k => sub c k
  | .exc _, _ => none
  | _, _ => none
def countv (x : D) (xs : List D) : Nat := (xs.filter fun y => y.eqv x).length
def indexv (x : D) : List D → Nat → Option Nat
  | [], _ => none
  | y :: ys, i => if y.eqv x then some i else indexv x ys (i + 1)
def mtv : Mt → D → List D → Option (D × Bool)
  | .count, .lst xs, [x] => if deep x (.lst xs) then some (.int (countv x xs), false) else none
  | .index, .lst xs, [x] => if deep x (.lst xs) then (indexv x xs 0).map fun (i : Nat) => (.int i, false) else none
  | .get, .dic kvs, [.str k, d] => some ((kvs.lookup k).getD d, false)
  | _, _, _ => none
/-- of what a method is -/
def mtTy : Mt → D → Bool
  | .count, .lst _ => true
  | .index, .lst _ => true
  | .join, .str _ => true
  | .split, .str _ => true
  | .partition, .str _ => true
  | .get, .dic _ => true
  | .items, .dic _ => true
  | _, _ => false
def bov : Bo → D → List D → Option (D × Bool)
  | .len, d, [] => biv .len [d]
  | .ix, .lst xs, [.int i] => (ixL xs i).map (·, false)
  | .eq, d, [x] => (cmpv .eq d x).map (.bl ·, false)
  | .ne, d, [x] => (cmpv .ne d x).map (.bl ·, false)
  | .in_, d, [x] => (cmpv .in_ x d).map (.bl ·, false)
  | .nin, d, [x] => (cmpv .nin x d).map (.bl ·, false)
  | .list, d, [] => biv .list [d]
  | .count, d, [x] => mtv .count d [x]
  | .index, d, [x] => mtv .index d [x]
  | _, _, _ => none
/-- what a loop goes through -/
def itemsv : D → Option (List D)
  | .lst xs => some xs
  | .tup xs => some xs
  | .str z => some (z.cps.toList.map fun c => .str ⟨#[c]⟩)
  | .dic kvs => some (kvs.map fun p => .str p.1)
  | _ => none
def rngv : List D → Option (List D)
  | [.int j] => if okI j then some ((List.range j.toNat).map fun (k : Nat) => .int k) else none
  | [.int i, .int j] => if okI i && okI j then some ((List.range (j - i).toNat).map fun (k : Nat) => .int (i + k)) else none
  | _ => none
def pairD : D → D → D := fun x y => .tup [x, y]
def zipv : D → D → Option (List D)
  | .lst xs, .lst ys => some (List.zipWith pairD xs ys)
  | .tup xs, .tup ys => some (List.zipWith pairD xs ys)
  | _, _ => none
def enumFrom : Nat → List D → List D
  | _, [] => []
  | n, x :: xs => .tup [.int n, x] :: enumFrom (n + 1) xs
def enumv : D → Option (List D)
  | .lst xs => some (enumFrom 0 xs)
  | .tup xs => some (enumFrom 0 xs)
  | _ => none

/-! ### places -/
def fget (f : Str) : List (Str × Bool × D) → Option (Bool × D)
  | [] => none
  | (g, x) :: r => if g == f then some x else fget f r
def fput (f : Str) (x : Bool × D) : List (Str × Bool × D) → List (Str × Bool × D)
  | [] => [(f, x)]
  | (g, y) :: r => if g == f then (g, x) :: r else (g, y) :: fput f x r
/-- what stands at a place, only looked at -/
def peek (ρ : Env) : Pl → Option D
  | .sl i => match getS ρ i with
    | .fz d => some d
    | .ow (.ins _ _) => none
    | .ow (.dic _) => none
    | .ow d => some d
    | .no => none
  | .fld i f => match getS ρ i with
    | .ow (.ins _ fs) => (fget f fs).map (·.2)
    | _ => none
/-- what stands at a place and may be changed -/
def peekO (ρ : Env) : Pl → Option D
  | .sl i => match getS ρ i with
    | .ow (.ins _ _) => none
    | .ow d => some d
    | _ => none
  | .fld i f => match getS ρ i with
    | .ow (.ins _ fs) => match fget f fs with
      | some (true, d) => some d
      | _ => none
    | _ => none
def poke (ρ : Env) (d : D) : Pl → Env
  | .sl i => ρ.set i (.ow d)
  | .fld i f => match getS ρ i with
    | .ow (.ins c fs) => ρ.set i (.ow (.ins c (fput f (true, d) fs)))
    | _ => ρ

def Tg.slots : Tg → List Nat
  | .nm i => [i]
  | .tp is => is

/-! ### the interpreter -/
/-- what runs around: calls, a global name's worth, the turns of a while at most -/
structure Rt where
  call : Nat → D → List D → Res
  glob : Nat → Option D
  sub : Nat → Nat → Option Bool
  turns : Nat
  /-- slot 0 holds the instance whose method runs -/
  meth : Bool
/-- where a value is put to others' use -/
def Out.frz : Out (D × Bool) → Out D
  | .ok x ρ => if x.2 && x.1.isIns then .bad else .ok x.1 ρ
  | .exn c ρ => .exn c ρ
  | .bad => .bad
def setTs : Env → List Nat → List D → Option Env
  | ρ, [], [] => some ρ
  | ρ, i :: is, d :: ds => setTs (ρ.set i (.fz d)) is ds
  | _, _, _ => none
def setTg (ρ : Env) : Tg → D → Option Env
  | .nm i, d => some (ρ.set i (.fz d))
  | .tp is, .tup ds => setTs ρ is ds
  | .tp _, _ => none
def wipeE (ρ : Env) : List Nat → Env
  | [] => ρ
  | i :: is => (wipeE ρ is).set i .no
/-- a comprehension's turns: none where one is not told, some none where it is left out -/
def collect (f : D → Option (Option D)) : List D → Option (List D)
  | [] => some []
  | x :: xs => match f x with
    | none => none
    | some none => collect f xs
    | some (some y) => (collect f xs).map (y :: ·)

mutual
/-- m: nothing that stands may be changed -/
def ev (R : Rt) (m : Bool) : Px → Env → Out (D × Bool)
  | .var i, ρ => match getS ρ i with
    | .fz d => .ok (d, false) ρ
    | .ow d => if m || d.isIns then .bad else .ok (d, false) (ρ.set i (.fz d))
    | .no => .bad
  | .mov i, ρ => match getS ρ i with
    | .fz d => .ok (d, false) ρ
    | .ow d => if m then .bad else .ok (d, true) (ρ.set i .no)
    | .no => .bad
  | .int i, ρ => .ok (.int i, false) ρ
  | .bl b, ρ => .ok (.bl b, false) ρ
  | .non, ρ => .ok (.non, false) ρ
  | .str s, ρ => .ok (.str s, false) ρ
  | .glo g, ρ => match R.glob g with
    | some d => .ok (d, false) ρ
    | none => .bad
  | .fld i f, ρ => match getS ρ i with
    | .ow (.ins c fs) => match fget f fs with
      | some (false, d) => .ok (d, false) ρ
      | some (true, d) => if m then .bad else .ok (d, false) (ρ.set i (.ow (.ins c (fput f (false, d) fs))))
      | none => .bad
    | _ => .bad
  | .tup es, ρ => (evs R m es ρ).bind fun ds ρ => .ok (.tup ds, false) ρ
  | .lst es, ρ => (evs R m es ρ).bind fun ds ρ => .ok (.lst ds, true) ρ
  | .dct ks es, ρ => (evs R m es ρ).bind fun ds ρ => if ks.length == ds.length then .ok (.dic (ks.zip ds), true) ρ else .bad
  | .bin o a b, ρ => (ev R m a ρ).frz.bind fun x ρ => (ev R m b ρ).frz.bind fun y ρ => Out.of (binv o x y) ρ
  | .neg a, ρ => (ev R m a ρ).bind fun x ρ => match x.1 with
    | .int i => .ok (.int (-i), false) ρ
    | _ => .bad
  | .cmp o a b, ρ => (ev R m a ρ).frz.bind fun x ρ => (ev R m b ρ).frz.bind fun y ρ => (Out.of (cmpv o x y) ρ).bind fun c ρ => .ok (.bl c, false) ρ
  | .chain o1 o2 a b c, ρ => (ev R m a ρ).frz.bind fun x ρ => (ev R m b ρ).frz.bind fun y ρ => (Out.of (cmpv o1 x y) ρ).bind fun k ρ =>
      if k then (ev R m c ρ).frz.bind fun z ρ => (Out.of (cmpv o2 y z) ρ).bind fun k ρ => .ok (.bl k, false) ρ else .ok (.bl false, false) ρ
  | .conj es, ρ => evAnd R m es ρ
  | .disj es, ρ => evOr R m es ρ
  | .nt a, ρ => (ev R m a ρ).bind fun x ρ => match x.1 with
    | .bl b => .ok (.bl (!b), false) ρ
    | _ => .bad
  | .ife t a b, ρ => (ev R m t ρ).bind fun x ρ => match x.1 with
    | .bl true => ev R m a ρ
    | .bl false => ev R m b ρ
    | _ => .bad
  | .ix a i, ρ => (ev R m a ρ).frz.bind fun x ρ => (ev R m i ρ).frz.bind fun y ρ => (Out.of (ixv x y) ρ).bind fun d ρ => .ok (d, false) ρ
  | .gix g i, ρ => (ev R m i ρ).frz.bind fun y ρ => match R.glob g with
    | some (.dic kvs) => (Out.of (dixv (.dic kvs) y) ρ).bind fun d ρ => .ok (d, false) ρ
    | _ => .bad
  | .dix a i, ρ => (ev R m a ρ).frz.bind fun x ρ => (ev R m i ρ).frz.bind fun y ρ => (Out.of (dixv x y) ρ).bind fun d ρ => .ok (d, false) ρ
  | .sl a lo hi, ρ => (ev R m a ρ).frz.bind fun x ρ => (evs R m lo ρ).bind fun l ρ => (Out.of (partv l) ρ).bind fun l ρ => (evs R m hi ρ).bind fun h ρ => (Out.of (partv h) ρ).bind fun h ρ => Out.of (slv x l h) ρ
  | .rev a, ρ => (ev R m a ρ).frz.bind fun x ρ => Out.of (revv x) ρ
  | .fz a, ρ => (ev R m a ρ).frz.bind fun x ρ => .ok (x, false) ρ
  | .call f es, ρ => (evs R m es ρ).bind fun ds ρ => match R.call f .non ds with
    | .ok d o .non => .ok (d, o) ρ
    | .exn c .non => .exn c ρ
    | _ => .bad
  | .bi b es, ρ => (evs R m es ρ).bind fun ds ρ => Out.of (biv b ds) ρ
  | .isi a t, ρ => (ev R m a ρ).frz.bind fun x ρ => (Out.of (isiv R.sub x t) ρ).bind fun c ρ => .ok (.bl c, false) ρ
  | .mt k a es, ρ => (ev R m a ρ).frz.bind fun x ρ => if mtTy k x then (evs R m es ρ).bind fun ds ρ => Out.of (mtv k x ds) ρ else .bad
  | .bop o p es, ρ => match peek ρ p with
    | some _ => (evs R m es ρ).bind fun ds ρ => match peek ρ p with
      | some d => Out.of (bov o d ds) ρ
      | none => .bad
    | none => .bad
  | .pop p, ρ => if m then .bad else match peekO ρ p with
    | some (.lst xs) => match xs.getLast? with
      | some x => .ok (x, false) (poke ρ (.lst xs.dropLast) p)
      | none => .bad
    | _ => .bad
  | .mcall f i es, ρ => if m then .bad else (evs R m es ρ).bind fun ds ρ => match getS ρ i with
    | .ow (.ins c fs) => match R.call f (.ins c fs) ds with
      | .ok d o (.ins c fs) => .ok (d, o) (ρ.set i (.ow (.ins c fs)))
      | .exn c' (.ins c fs) => .exn c' (ρ.set i (.ow (.ins c fs)))
      | _ => .bad
    | _ => .bad
  | .make c f es, ρ => (evs R m es ρ).bind fun ds ρ => match R.call f (.ins c []) ds with
    | .ok .non false (.ins c fs) => .ok (.ins c fs, true) ρ
    | .exn c' _ => .exn c' ρ
    | _ => .bad
  | .rng es, ρ => (evs R m es ρ).bind fun ds ρ => match rngv ds with
    | some xs => .ok (.lst xs, false) ρ
    | none => .bad
  | .zip a b, ρ => (ev R m a ρ).frz.bind fun x ρ => (ev R m b ρ).frz.bind fun y ρ => match zipv x y with
    | some xs => .ok (.lst xs, false) ρ
    | none => .bad
  | .enum a, ρ => (ev R m a ρ).frz.bind fun x ρ => match enumv x with
    | some xs => .ok (.lst xs, false) ρ
    | none => .bad
  | .lc own tg it cond e, ρ => (ev R m it ρ).frz.bind fun x ρ => match itemsv x with
    | none => .bad
    | some xs => if own.any fun i => isOw (getS ρ i) then .bad else match collect (fun d => match setTg (wipeE ρ own) tg d with
        | none => none
        | some ρ1 => match evAnd R true cond ρ1 with
          | .ok (.bl true, _) _ => match (ev R true e ρ1).frz with
            | .ok y _ => some (some y)
            | _ => none
          | .ok (.bl false, _) _ => some none
          | _ => none) xs with
      | none => .bad
      | some ys => if ys.length ≤ lineD then .ok (.lst ys, true) ρ else .bad
def evs (R : Rt) (m : Bool) : List Px → Env → Out (List D)
  | [], ρ => .ok [] ρ
  | e :: es, ρ => (ev R m e ρ).frz.bind fun x ρ => (evs R m es ρ).bind fun ds ρ => .ok (x :: ds) ρ
def evAnd (R : Rt) (m : Bool) : List Px → Env → Out (D × Bool)
  | [], ρ => .ok (.bl true, false) ρ
  | e :: es, ρ => (ev R m e ρ).bind fun x ρ => match x.1 with
    | .bl true => evAnd R m es ρ
    | .bl false => .ok (.bl false, false) ρ
    | _ => .bad
def evOr (R : Rt) (m : Bool) : List Px → Env → Out (D × Bool)
  | [], ρ => .ok (.bl false, false) ρ
  | e :: es, ρ => (ev R m e ρ).bind fun x ρ => match x.1 with
    | .bl true => .ok (.bl true, false) ρ
    | .bl false => evOr R m es ρ
    | _ => .bad
end

def seqF : Flow → (Env → Flow) → Flow
  | .nx ρ, k => k ρ
  | r, _ => r
/-- behind an expression -/
def onOut {α : Type} : Out α → (α → Env → Flow) → Flow
  | .ok a ρ, k => k a ρ
  | .exn c ρ, _ => .exn c ρ
  | .bad, _ => .bad
def forL (f : D → Env → Flow) : List D → Env → Flow
  | [], ρ => .nx ρ
  | x :: xs, ρ => match f x ρ with
    | .nx ρ => forL f xs ρ
    | .ct ρ => forL f xs ρ
    | .bk ρ => .nx ρ
    | r => r
def whlL (c : Env → Out (D × Bool)) (b : Env → Flow) : Nat → Env → Flow
  | 0, _ => .bad
  | n + 1, ρ => match c ρ with
    | .ok (.bl true, _) ρ => match b ρ with
      | .nx ρ => whlL c b n ρ
      | .ct ρ => whlL c b n ρ
      | .bk ρ => .nx ρ
      | r => r
    | .ok (.bl false, _) ρ => .nx ρ
    | .exn c ρ => .exn c ρ
    | _ => .bad
/-- a value is stored at a name -/
def putV (ρ : Env) (i : Nat) (x : D × Bool) : Env := ρ.set i (if x.2 then .ow x.1 else .fz x.1)
/-- values that stay one's own, from the left -/
def evsCO : List (Env → Out (D × Bool)) → Env → Out (List (D × Bool))
  | [], ρ => .ok [] ρ
  | c :: cs, ρ => (c ρ).bind fun x ρ => (evsCO cs ρ).bind fun xs ρ => .ok (x :: xs) ρ
def putsV : Env → List Nat → List (D × Bool) → Option Env
  | ρ, [], [] => some ρ
  | ρ, i :: is, x :: xs => putsV (putV ρ i x) is xs
  | _, _, _ => none
def unpackv : D → Option (List D)
  | .tup xs => some xs
  | .lst xs => some xs
  | _ => none
def setPar : Env → List Nat → List D → Option Env
  | ρ, [], [] => some ρ
  | ρ, i :: is, d :: ds => (setPar ρ is ds).map fun ρ => ρ.set i (.fz d)
  | _, _, _ => none
/-- slots that may be stored to -/
def okS (R : Rt) (is : List Nat) : Bool := !(R.meth && is.contains 0)
mutual
def exec (R : Rt) : Ps → Env → Flow
  | .asg i e, ρ => onOut (ev R false e ρ) fun x ρ => if okS R [i] then .nx (putV ρ i x) else .bad
  | .asgT is e, ρ => onOut (ev R false e ρ).frz fun x ρ => match unpackv x with
    | some ds => match setTs ρ is ds with
      | some ρ => if okS R is then .nx ρ else .bad
      | none => .bad
    | none => .bad
  | .asgN is i es, ρ => onOut (evs R false es ρ) fun ds ρ => match setTs ρ is ds with
    | some ρ => if okS R (is ++ [i]) then .nx (ρ.set i (.ow (.lst []))) else .bad
    | none => .bad
  | .asgs is es, ρ => onOut (evsCO (es.map (ev R false)) ρ) fun xs ρ => match putsV ρ is xs with
    | some ρ => if okS R is then .nx ρ else .bad
    | none => .bad
  | .par is es, ρ => onOut (evs R false es ρ) fun ds ρ => match setPar ρ is ds with
    | some ρ => if okS R is then .nx ρ else .bad
    | none => .bad
  | .exp e, ρ => onOut (ev R false e ρ) fun _ ρ => .nx ρ
  | .app p e, ρ => match peekO ρ p with
    | some (.lst _) => onOut (ev R false e ρ).frz fun x ρ => match peekO ρ p with
      | some (.lst xs) => if xs.length < lineD then .nx (poke ρ (.lst (xs ++ [x])) p) else .bad
      | _ => .bad
    | _ => .bad
  | .ext p e, ρ => match peekO ρ p with
    | some (.lst _) => onOut (ev R false e ρ).frz fun x ρ => match peekO ρ p, x with
      | some (.lst xs), .lst ys => if xs.length + ys.length ≤ lineD then .nx (poke ρ (.lst (xs ++ ys)) p) else .bad
      | _, _ => .bad
    | _ => .bad
  | .insr p k e, ρ => match peekO ρ p with
    | some (.lst _) => onOut (ev R false k ρ).frz fun k ρ => onOut (ev R false e ρ).frz fun x ρ => match peekO ρ p, k with
      | some (.lst xs), .int i => if 0 ≤ i ∧ i < 2 ^ 63 ∧ xs.length < lineD then .nx (poke ρ (.lst (xs.take i.toNat ++ [x] ++ xs.drop i.toNat)) p) else .bad
      | _, _ => .bad
    | _ => .bad
  | .setk p k v, ρ => onOut (ev R false v ρ).frz fun v ρ => match peekO ρ p with
    | some (.dic _) => onOut (ev R false k ρ).frz fun k ρ => match peekO ρ p, k with
      | some (.dic kvs), .str k => if kvs.length < lineD then .nx (poke ρ (.dic (dput k v kvs)) p) else .bad
      | _, _ => .bad
    | _ => .bad
  | .setf i f e, ρ => onOut (ev R false e ρ) fun x ρ => if x.1.isIns then .bad else match getS ρ i with
    | .ow (.ins c fs) => if fs.length < 900 then .nx (ρ.set i (.ow (.ins c (fput f (x.2, x.1) fs)))) else .bad
    | _ => .bad
  | .ite c a b, ρ => onOut (ev R false c ρ) fun x ρ => match x.1 with
    | .bl true => execs R a ρ
    | .bl false => execs R b ρ
    | _ => .bad
  | .forS tg it b, ρ => onOut (ev R false it ρ).frz fun x ρ => match itemsv x with
    | some xs => if okS R tg.slots then forL (fun d ρ => match setTg ρ tg d with
      | some ρ => execs R b ρ
      | none => .bad) xs ρ else .bad
    | none => .bad
  | .whl c b, ρ => whlL (ev R false c) (execs R b) R.turns ρ
  | .ret e, ρ => onOut (ev R false e ρ) fun x ρ => .rt x.1 x.2 ρ
  | .retN, ρ => .rt .non false ρ
  | .raise c, ρ => .exn c ρ
  | .tryK body c n k, ρ => match execs R body ρ with
    | .exn c' ρ => match R.sub c' c with
      | some true => if okS R [k, n] then .nx ((ρ.set k (.fz (.exc c'))).set n .no) else .bad
      | some false => .exn c' ρ
      | none => .bad
    | r => r
  | .brk, ρ => .bk ρ
  | .cont, ρ => .ct ρ
  | .pass, ρ => .nx ρ
def execs (R : Rt) : List Ps → Env → Flow
  | [], ρ => .nx ρ
  | s :: ss, ρ => match exec R s ρ with
    | .nx ρ => execs R ss ρ
    | r => r
end

/-! ### programs -/
structure Fn where
  name : Str
  qual : Str
  names : List Str
  pars : List Str
  meth : Bool
  body : List Ps
structure Prog where
  fns : List Fn
  glos : List (Str × D)
  excs : List Str
  sup : List (List Nat)       -- of each refusal: itself and those above it
  turns : Nat
def Prog.sub (G : Prog) (c k : Nat) : Option Bool := if c < G.excs.length ∧ k < G.excs.length then (match G.sup[c]? with
  | some l => some (l.contains k)
  | none => none) else none
def Fn.start (F : Fn) (self : D) (args : List D) : Env :=
  (if F.meth then [.ow self] else []) ++ args.map .fz ++ List.replicate (F.names.length - F.pars.length) .no
def selfOf (F : Fn) (ρ : Env) : Option D := if F.meth then (match getS ρ 0 with
    | .ow (.ins c fs) => some (.ins c fs)
    | _ => none) else some .non
def Flow.res (F : Fn) : Flow → Res
  | .nx ρ => match selfOf F ρ with
    | some s => .ok .non false s
    | none => .bad
  | .rt d o ρ => match selfOf F ρ with
    | some s => .ok d o s
    | none => .bad
  | .exn c ρ => match selfOf F ρ with
    | some s => .exn c s
    | none => .bad
  | _ => .bad
def Prog.rt (G : Prog) (call : Nat → D → List D → Res) (meth : Bool := false) : Rt := ⟨call, fun g => (G.glos[g]?).map (·.2), G.sub, G.turns, meth⟩
def runBody (G : Prog) (call : Nat → D → List D → Res) (F : Fn) (self : D) (args : List D) : Res :=
  if args.length + (if F.meth then 1 else 0) = F.pars.length then (execs (G.rt call F.meth) F.body (F.start self args)).res F else .bad
def run (G : Prog) : Nat → Nat → D → List D → Res
  | 0, _, _, _ => .bad
  | n + 1, f, self, args => match G.fns[f]? with
    | some F => runBody G (run G n) F self args
    | none => .bad
end GW
end

section
/-! C2: how data stand in the heap; what a state is; what is wanted behind code. -/
namespace GW
open PySem PySem.Spec PyProof.Rows L2

/-- where the classes stand: refusals; own classes -/
structure Cls where
  exc : Nat → Addr
  ins : Nat → Addr

/-- an exception of the class at c stands at a -/
def ExI (c a : Addr) : HO := .ext fun h => ∃ (oe : Obj) (vs : Array Value), h.get? a = some oe ∧ Zc (.ref c) none oe ∧ oe.data = .fields vs
/-- a dict with text keys that is only read: it is locked -/
def DicR (K : PySem.W.Frag) (H : Hp) (a : Addr) (es : List (Key × V)) : Prop := ∃ od, H a = some (.frz od (.dK es))
theorem DicR.rd {K : PySem.W.Frag} {H : Hp} {a : Addr} {es : List (Key × V)} (h : DicR K H a es) : Rd H a (.dK es) := .inr h
theorem DicR.mono {K : PySem.W.Frag} {H H' : Hp} {a : Addr} {es : List (Key × V)} (e : Same H H') (h : DicR K H a es) : DicR K H' a es := let ⟨od, q⟩ := h; ⟨od, e _ _ q⟩

mutual
def Rep (K : PySem.W.Frag) (A : Cls) (H : Hp) : D → V → Prop
  | .non, v => v = .non
  | .bl b, v => v = .bl b
  | .int i, v => v = .int i
  | .str s, v => v = .str s
  | .tup ds, v => ∃ a vs, v = .ref a ∧ SqT K H a vs ∧ Reps K A H ds vs
  | .lst ds, v => ∃ a vs, v = .ref a ∧ Rd H a (.lst vs) ∧ Reps K A H ds vs
  | .dic kvs, v => ∃ a es, v = .ref a ∧ DicR K H a es ∧ RepsK K A H kvs es
  | .exc c, v => ∃ a, v = .ref a ∧ H a = some (ExI (A.exc c) a)
  | .ins _ _, _ => False
def Reps (K : PySem.W.Frag) (A : Cls) (H : Hp) : List D → List V → Prop
  | [], vs => vs = []
  | d :: ds, vs => ∃ v r, vs = v :: r ∧ Rep K A H d v ∧ Reps K A H ds r
def RepsK (K : PySem.W.Frag) (A : Cls) (H : Hp) : List (Str × D) → List (Key × V) → Prop
  | [], es => es = []
  | (k, d) :: ds, es => ∃ v r, es = (.inr k, v) :: r ∧ Rep K A H d v ∧ RepsK K A H ds r
end

section
variable {K : PySem.W.Frag} {A : Cls} {H H' : Hp}
theorem Same.sqt {a : Addr} {xs : List V} (e : Same H H') (h : SqT K H a xs) : SqT K H' a xs := by
  rcases h with (h | ⟨o, h⟩) | h
  · exact .inl (.inl (e _ _ h))
  · exact .inl (.inr ⟨o, e _ _ h⟩)
  · exact .inr h
theorem Same.rd {a : Addr} {o : HO} (e : Same H H') (h : Rd H a o) : Rd H' a o := by
  rcases h with h | ⟨u, h⟩
  · exact .inl (e _ _ h)
  · exact .inr ⟨u, e _ _ h⟩
mutual
theorem Rep.mono (e : Same H H') : ∀ (d : D) (v : V), Rep K A H d v → Rep K A H' d v
  | .non, _, h => h
  | .bl _, _, h => h
  | .int _, _, h => h
  | .str _, _, h => h
  | .tup ds, v, h => by
    unfold Rep at h ⊢
    obtain ⟨a, vs, h1, h2, h3⟩ := h
    exact ⟨a, vs, h1, Same.sqt e h2, Reps.mono e ds vs h3⟩
  | .lst ds, v, h => by
    unfold Rep at h ⊢
    obtain ⟨a, vs, h1, h2, h3⟩ := h
    exact ⟨a, vs, h1, Same.rd e h2, Reps.mono e ds vs h3⟩
  | .dic kvs, v, h => by
    unfold Rep at h ⊢
    obtain ⟨a, vs, h1, h2, h3⟩ := h
    exact ⟨a, vs, h1, DicR.mono e h2, RepsK.mono e kvs vs h3⟩
  | .exc c, v, h => by
    unfold Rep at h ⊢
    obtain ⟨a, h1, h2⟩ := h
    exact ⟨a, h1, e _ _ h2⟩
  | .ins _ _, v, h => by
    unfold Rep at h
    exact h.elim
theorem Reps.mono (e : Same H H') : ∀ (ds : List D) (vs : List V), Reps K A H ds vs → Reps K A H' ds vs
  | [], _, h => h
  | d :: ds, vs, h => by
    unfold Reps at h ⊢
    obtain ⟨v, r, h1, h2, h3⟩ := h
    exact ⟨v, r, h1, Rep.mono e d v h2, Reps.mono e ds r h3⟩
theorem RepsK.mono (e : Same H H') : ∀ (ds : List (Str × D)) (vs : List (Key × V)), RepsK K A H ds vs → RepsK K A H' ds vs
  | [], _, h => h
  | (k, d) :: ds, vs, h => by
    unfold RepsK at h ⊢
    obtain ⟨v, r, h1, h2, h3⟩ := h
    exact ⟨v, r, h1, Rep.mono e d v h2, RepsK.mono e ds r h3⟩
end
theorem Reps.len : ∀ {ds : List D} {vs : List V}, Reps K A H ds vs → vs.length = ds.length
  | [], _, h => by unfold Reps at h; subst h; rfl
  | d :: ds, vs, h => by
    unfold Reps at h
    obtain ⟨v, r, rfl, _, h3⟩ := h
    simp [Reps.len h3]
theorem Reps.get : ∀ {ds : List D} {vs : List V} {i : Nat} {d : D}, Reps K A H ds vs → ds[i]? = some d → ∃ v, vs[i]? = some v ∧ Rep K A H d v
  | [], _, i, d, _, e => by simp at e
  | d :: ds, vs, 0, d', h, e => by
    unfold Reps at h
    obtain ⟨v, r, rfl, h2, _⟩ := h
    simp at e; subst e
    exact ⟨v, rfl, h2⟩
  | d :: ds, vs, i + 1, d', h, e => by
    unfold Reps at h
    obtain ⟨v, r, rfl, _, h3⟩ := h
    exact Reps.get (i := i) h3 (by simpa using e)
theorem Reps.getV {ds : List D} {vs : List V} {i : Nat} {v : V} (h : Reps K A H ds vs) (e : vs[i]? = some v) : ∃ d, ds[i]? = some d ∧ Rep K A H d v := by
  have hl := h.len
  have hi : i < ds.length := by
    rcases Nat.lt_or_ge i vs.length with z | z
    · omega
    · rw [List.getElem?_eq_none z] at e; cases e
  obtain ⟨w, e2, r⟩ := h.get (List.getElem?_eq_getElem hi)
  rw [e] at e2; cases e2
  exact ⟨_, List.getElem?_eq_getElem hi, r⟩
theorem Reps.nil : Reps K A H [] [] := by unfold Reps; rfl
theorem Reps.cons {d : D} {v : V} {ds : List D} {vs : List V} (h : Rep K A H d v) (t : Reps K A H ds vs) : Reps K A H (d :: ds) (v :: vs) := by
  unfold Reps
  exact ⟨v, vs, rfl, h, t⟩
theorem Reps.app : ∀ {ds es : List D} {vs us : List V}, Reps K A H ds vs → Reps K A H es us → Reps K A H (ds ++ es) (vs ++ us)
  | [], _, _, _, h, t => by
    unfold Reps at h
    subst h
    exact t
  | d :: ds, es, vs, us, h, t => by
    unfold Reps at h
    obtain ⟨v, r, rfl, h2, h3⟩ := h
    exact Reps.cons h2 (Reps.app h3 t)
theorem Reps.one {d : D} {v : V} (h : Rep K A H d v) : Reps K A H [d] [v] := .cons h .nil
theorem Reps.take : ∀ {ds : List D} {vs : List V} (n : Nat), Reps K A H ds vs → Reps K A H (ds.take n) (vs.take n)
  | _, _, 0, _ => Reps.nil
  | [], vs, n + 1, h => by unfold Reps at h; subst h; exact Reps.nil
  | d :: ds, vs, n + 1, h => by
    unfold Reps at h
    obtain ⟨v, r, rfl, h2, h3⟩ := h
    exact Reps.cons h2 (Reps.take n h3)
theorem Reps.drop : ∀ {ds : List D} {vs : List V} (n : Nat), Reps K A H ds vs → Reps K A H (ds.drop n) (vs.drop n)
  | _, _, 0, h => h
  | [], vs, n + 1, h => by unfold Reps at h; subst h; exact Reps.nil
  | d :: ds, vs, n + 1, h => by
    unfold Reps at h
    obtain ⟨v, r, rfl, h2, h3⟩ := h
    exact Reps.drop n h3
end

/-- the entry: what stood fast, what must stay -/
structure Ent where
  S : Hp
  gh : Hp
  /-- what slot 0 must hold -/
  z : Option V

section
variable (K : PySem.W.Frag) (A : Cls)
/-- a list or dict of one's own at a: nobody else knows it -/
def Own1 (S H : Hp) : D → V → List Addr → Prop
  | .lst ds, v, fp => ∃ a vs, v = .ref a ∧ fp = [a] ∧ S a = none ∧ H a = some (.lst vs) ∧ Reps K A S ds vs
  | .dic kvs, v, fp => ∃ a es, v = .ref a ∧ fp = [a] ∧ S a = none ∧ H a = some (.dK es) ∧ RepsK K A S kvs es
  | _, _, _ => False
/-- an instance's attributes -/
def Flds (S H : Hp) : List (Str × Bool × D) → List (Str × V) → List Addr → Prop
  | [], es, fp => es = [] ∧ fp = []
  | (f, o, d) :: r, es, fp => ∃ v er fa fr, es = (f, v) :: er ∧ fp = fa ++ fr ∧ (if o = true then Own1 K A S H d v fa else fa = [] ∧ Rep K A S d v) ∧ Flds S H r er fr
def Own (S H : Hp) : D → V → List Addr → Prop
  | .ins c fs, v, fp => ∃ a dx es fr, v = .ref a ∧ fp = a :: dx :: fr ∧ S a = none ∧ S dx = none ∧ H a = some (.ins (A.ins c) dx es) ∧ H dx = some (.own a) ∧ Flds K A S H fs es fr ∧ fp.Nodup
  | d, v, fp => Own1 K A S H d v fp
def SlR (S H : Hp) : Sl → Option (Option V) → List Addr → Prop
  | .no, _, fp => fp = []
  | .fz d, x, fp => fp = [] ∧ ∃ v, x = some (some v) ∧ Rep K A S d v
  | .ow d, x, fp => ∃ v, x = some (some v) ∧ Own K A S H d v fp
structure Sta (E : Ent) (S H : Hp) (ρ : Env) (σ : L2.St) (fs : Nat → List Addr) : Prop where
  len : σ.length = ρ.length
  sub : Same S H
  slot : ∀ i, SlR K A S H (getS ρ i) σ[i]? (fs i)
  dis : ∀ i j, i ≠ j → ∀ a ∈ fs i, a ∉ fs j
  ghost : Same E.gh H
  s0 : Same E.S S
  new : ∀ i, ∀ a ∈ fs i, E.gh a = none
  snew : ∀ a o, S a = some o → E.S a = some o ∨ E.gh a = none
  z : ∀ v, E.z = some v → σ[0]? = some (some v)
/-- a value, told with whether nobody else knows it -/
def RV (S H : Hp) (x : D × Bool) (v : V) (fp : List Addr) : Prop := if x.2 = true then Own K A S H x.1 v fp else fp = [] ∧ Rep K A S x.1 v
/-- it is apart from all else -/
def Apart (E : Ent) (fs : Nat → List Addr) (fp : List Addr) : Prop := ∀ a ∈ fp, E.gh a = none ∧ ∀ i, a ∉ fs i
/-- what is wanted behind -/
def Post {α : Type} (W : WX) (E : Ent) (S : Hp) (σ : L2.St) (o : Out α) (k : α → Hp → Hp → (Nat → List Addr) → Env → Prop) : Prop := match o with
  | .ok a ρ => ∀ S' H' fs, Same S S' → Sta K A E S' H' ρ σ fs → k a S' H' fs ρ
  | .exn c ρ => ∀ S' H' fs, Same S S' → Sta K A E S' H' ρ σ fs → W (.ref (A.exc c)) none σ H'
  | .bad => False
/-- an expression that tells a value others may know -/
def tX (W : WX) (c : Env → Out D) : TE := fun σ H Q => ∃ E S ρ fs, Sta K A E S H ρ σ fs ∧ Post K A W E S σ (c ρ) fun d S' H' _ _ => ∀ v, Rep K A S' d v → Q v H'
def tO (W : WX) (c : Env → Out (D × Bool)) : TE := fun σ H Q => ∃ E S ρ fs, Sta K A E S H ρ σ fs ∧ Post K A W E S σ (c ρ) fun x S' H' fs' _ => ∀ v fp, RV K A S' H' x v fp → Apart E fs' fp → Q v H'
def tA (W : WX) (c : Env → Out (List D)) : TA := fun σ H Q => ∃ E S ρ fs, Sta K A E S H ρ σ fs ∧ Post K A W E S σ (c ρ) fun ds S' H' _ _ => ∀ vs, Reps K A S' ds vs → Q vs H'
def tT (W : WX) (c : Env → Out Bool) : TT := fun σ H Q => ∃ E S ρ fs, Sta K A E S H ρ σ fs ∧ Post K A W E S σ (c ρ) fun b _ H' _ _ => Q b H'
end

section
variable {K : PySem.W.Frag} {A : Cls} {W : WX} {E : Ent} {S S1 H H1 : Hp} {ρ : Env} {σ : L2.St} {fs : Nat → List Addr} {α β : Type}
theorem Post.mono {o : Out α} {k k' : α → Hp → Hp → (Nat → List Addr) → Env → Prop} (h : Post K A W E S σ o k) (q : ∀ a ρ S' H' fs, Same S S' → Sta K A E S' H' ρ σ fs → k a S' H' fs ρ → k' a S' H' fs ρ) : Post K A W E S σ o k' := by
  cases o with
  | ok a ρ => exact fun S' H' fs e s => q a ρ S' H' fs e s (h S' H' fs e s)
  | exn c ρ => exact h
  | bad => exact h
theorem Post.up {o : Out α} {k : α → Hp → Hp → (Nat → List Addr) → Env → Prop} (e : Same S S1) (h : Post K A W E S σ o k) : Post K A W E S1 σ o k := by
  cases o with
  | ok a ρ => exact fun S' H' fs e' s => h S' H' fs (e.trans e') s
  | exn c ρ => exact fun S' H' fs e' s => h S' H' fs (e.trans e') s
  | bad => exact h
theorem Post.bind {o : Out α} {f : α → Env → Out β} {k : β → Hp → Hp → (Nat → List Addr) → Env → Prop} (h : Post K A W E S σ (o.bind f) k) :
    Post K A W E S σ o fun a S' H' fs ρ => Post K A W E S' σ (f a ρ) k := by
  cases o with
  | ok a ρ => exact fun S' H' fs e s => Post.up e h
  | exn c ρ => exact h
  | bad => exact h
/-- a value told stands by itself -/
theorem Post.here {a : α} {k : α → Hp → Hp → (Nat → List Addr) → Env → Prop} (h : Post K A W E S σ (.ok a ρ) k) (s : Sta K A E S H ρ σ fs) : k a S H fs ρ := h S H fs (Same.refl S) s
theorem Out.bind_assoc {γ : Type} (o : Out α) (f : α → Env → Out β) (g : β → Env → Out γ) : (o.bind f).bind g = o.bind fun a ρ => (f a ρ).bind g := by
  cases o <;> rfl
theorem Out.bind_ok (o : Out α) : o.bind Out.ok = o := by cases o <;> rfl

theorem upd_same_of {a : Addr} {o : HO} (h : H a = none) : Same H (upd H a o) := fun b u e => by
  rw [upd_ne (ne_of_none e h)]
  exact e
theorem Own1.at (S H : Hp) : ∀ {d : D} {v : V} {fp : List Addr}, Own1 K A S H d v fp → ∀ a ∈ fp, S a = none ∧ ∃ o, H a = some o
  | .lst _, _, _, h, a, ha => by
    obtain ⟨b, vs, rfl, rfl, h1, h2, _⟩ := h
    have e : a = b := by simpa using ha
    subst e
    exact ⟨h1, _, h2⟩
  | .dic _, _, _, h, a, ha => by
    obtain ⟨b, vs, rfl, rfl, h1, h2, _⟩ := h
    have e : a = b := by simpa using ha
    subst e
    exact ⟨h1, _, h2⟩
  | .non, _, _, h, _, _ => h.elim
  | .bl _, _, _, h, _, _ => h.elim
  | .int _, _, _, h, _, _ => h.elim
  | .str _, _, _, h, _, _ => h.elim
  | .tup _, _, _, h, _, _ => h.elim
  | .exc _, _, _, h, _, _ => h.elim
  | .ins _ _, _, _, h, _, _ => h.elim
theorem Flds.at (S H : Hp) : ∀ {fs : List (Str × Bool × D)} {es : List (Str × V)} {fp : List Addr}, Flds K A S H fs es fp → ∀ a ∈ fp, S a = none ∧ ∃ o, H a = some o
  | [], _, _, h, a, ha => by
    obtain ⟨_, rfl⟩ := h
    simp at ha
  | (f, o, d) :: r, _, _, h, a, ha => by
    obtain ⟨v, er, fa, fr, rfl, rfl, h1, h2⟩ := h
    rcases List.mem_append.mp ha with ha | ha
    · cases o with
      | true =>
        rw [if_pos rfl] at h1
        exact Own1.at S H h1 a ha
      | false =>
        rw [if_neg (by simp)] at h1
        rw [h1.1] at ha
        simp at ha
    · exact Flds.at S H h2 a ha
theorem Own.at {d : D} {v : V} {fp : List Addr} (h : Own K A S H d v fp) : ∀ a ∈ fp, S a = none ∧ ∃ o, H a = some o := by
  cases d with
  | ins c fl =>
    obtain ⟨b, dx, es, fr, rfl, rfl, h1, h2, h3, h4, h5, _⟩ := h
    intro a ha
    rcases List.mem_cons.mp ha with rfl | ha
    · exact ⟨h1, _, h3⟩
    · rcases List.mem_cons.mp ha with rfl | ha
      · exact ⟨h2, _, h4⟩
      · exact Flds.at S H h5 a ha
  | non => exact Own1.at S H (show Own1 K A S H .non v fp from h)
  | bl b => exact Own1.at S H (show Own1 K A S H (.bl b) v fp from h)
  | int i => exact Own1.at S H (show Own1 K A S H (.int i) v fp from h)
  | str x => exact Own1.at S H (show Own1 K A S H (.str x) v fp from h)
  | tup xs => exact Own1.at S H (show Own1 K A S H (.tup xs) v fp from h)
  | lst xs => exact Own1.at S H (show Own1 K A S H (.lst xs) v fp from h)
  | dic xs => exact Own1.at S H (show Own1 K A S H (.dic xs) v fp from h)
  | exc x => exact Own1.at S H (show Own1 K A S H (.exc x) v fp from h)
/-- what is one's own stays so while its places stay and the rest grows -/
theorem Own1.keep {S' H' : Hp} (e : Same S S') : ∀ {d : D} {v : V} {fp : List Addr}, (∀ a ∈ fp, S' a = none ∧ H' a = H a) → Own1 K A S H d v fp → Own1 K A S' H' d v fp
  | .lst ds, _, _, k, h => by
    obtain ⟨b, vs, rfl, rfl, h1, h2, h3⟩ := h
    obtain ⟨k1, k2⟩ := k b (by simp)
    exact ⟨b, vs, rfl, rfl, k1, k2.trans h2, Reps.mono e _ _ h3⟩
  | .dic kvs, _, _, k, h => by
    obtain ⟨b, vs, rfl, rfl, h1, h2, h3⟩ := h
    obtain ⟨k1, k2⟩ := k b (by simp)
    exact ⟨b, vs, rfl, rfl, k1, k2.trans h2, RepsK.mono e _ _ h3⟩
  | .non, _, _, _, h => h
  | .bl _, _, _, _, h => h
  | .int _, _, _, _, h => h
  | .str _, _, _, _, h => h
  | .tup _, _, _, _, h => h
  | .exc _, _, _, _, h => h
  | .ins _ _, _, _, _, h => h
theorem Flds.keep {S' H' : Hp} (e : Same S S') : ∀ {fs : List (Str × Bool × D)} {es : List (Str × V)} {fp : List Addr}, (∀ a ∈ fp, S' a = none ∧ H' a = H a) → Flds K A S H fs es fp → Flds K A S' H' fs es fp
  | [], _, _, _, h => h
  | (f, o, d) :: r, _, _, k, h => by
    obtain ⟨v, er, fa, fr, rfl, rfl, h1, h2⟩ := h
    refine ⟨v, er, fa, fr, rfl, rfl, ?_, Flds.keep e (fun a ha => k a (List.mem_append_right _ ha)) h2⟩
    cases o with
    | true =>
      rw [if_pos rfl] at h1 ⊢
      exact Own1.keep e (fun a ha => k a (List.mem_append_left _ ha)) h1
    | false =>
      rw [if_neg (by simp)] at h1 ⊢
      exact ⟨h1.1, Rep.mono e _ _ h1.2⟩
theorem Own.keep {S' H' : Hp} (e : Same S S') {d : D} {v : V} {fp : List Addr} (k : ∀ a ∈ fp, S' a = none ∧ H' a = H a) (h : Own K A S H d v fp) : Own K A S' H' d v fp := by
  cases d with
  | ins c fl =>
    obtain ⟨b, dx, es, fr, rfl, rfl, h1, h2, h3, h4, h5, h6⟩ := h
    obtain ⟨k1, k2⟩ := k b (by simp)
    obtain ⟨k3, k4⟩ := k dx (by simp)
    exact ⟨b, dx, es, fr, rfl, rfl, k1, k3, k2.trans h3, k4.trans h4, Flds.keep e (fun a ha => k a (by simp [ha])) h5, h6⟩
  | non => exact (show Own1 K A S' H' .non v fp from Own1.keep e k (show Own1 K A S H .non v fp from h))
  | bl b => exact (show Own1 K A S' H' (.bl b) v fp from Own1.keep e k (show Own1 K A S H (.bl b) v fp from h))
  | int i => exact (show Own1 K A S' H' (.int i) v fp from Own1.keep e k (show Own1 K A S H (.int i) v fp from h))
  | str x => exact (show Own1 K A S' H' (.str x) v fp from Own1.keep e k (show Own1 K A S H (.str x) v fp from h))
  | tup xs => exact (show Own1 K A S' H' (.tup xs) v fp from Own1.keep e k (show Own1 K A S H (.tup xs) v fp from h))
  | lst xs => exact (show Own1 K A S' H' (.lst xs) v fp from Own1.keep e k (show Own1 K A S H (.lst xs) v fp from h))
  | dic xs => exact (show Own1 K A S' H' (.dic xs) v fp from Own1.keep e k (show Own1 K A S H (.dic xs) v fp from h))
  | exc x => exact (show Own1 K A S' H' (.exc x) v fp from Own1.keep e k (show Own1 K A S H (.exc x) v fp from h))
theorem SlR.keep {S' H' : Hp} (e : Same S S') {s : Sl} {x : Option (Option V)} {fp : List Addr} (k : ∀ a ∈ fp, S' a = none ∧ H' a = H a) (h : SlR K A S H s x fp) : SlR K A S' H' s x fp := by
  cases s with
  | no => exact h
  | fz d =>
    obtain ⟨h1, v, h2, h3⟩ := h
    exact ⟨h1, v, h2, Rep.mono e _ _ h3⟩
  | ow d =>
    obtain ⟨v, h1, h2⟩ := h
    exact ⟨v, h1, Own.keep e k h2⟩
theorem SlR.at {s : Sl} {x : Option (Option V)} {fp : List Addr} (h : SlR K A S H s x fp) : ∀ a ∈ fp, S a = none ∧ ∃ o, H a = some o := by
  cases s with
  | no =>
    have h' : fp = [] := h
    subst h'
    intro a ha
    simp at ha
  | fz d =>
    obtain ⟨rfl, _⟩ := h
    intro a ha
    simp at ha
  | ow d =>
    obtain ⟨v, _, h2⟩ := h
    exact h2.at
/-- the heap grew: all that stood stays, the fast part grew by new things -/
theorem Sta.grow {S' H' : Hp} (s : Sta K A E S H ρ σ fs) (e : Same S S') (eh : Same H H') (sub : Same S' H') (n : ∀ a o, S' a = some o → S a = some o ∨ H a = none) : Sta K A E S' H' ρ σ fs where
  len := s.len
  sub := sub
  slot := fun i => SlR.keep e (fun a ha => by
    obtain ⟨h1, o, h2⟩ := (s.slot i).at a ha
    refine ⟨?_, (eh _ _ h2).trans h2.symm⟩
    cases q : S' a with
    | none => rfl
    | some u =>
      rcases n a u q with z | z
      · rw [h1] at z; cases z
      · rw [h2] at z; cases z) (s.slot i)
  dis := s.dis
  ghost := s.ghost.trans eh
  s0 := s.s0.trans e
  new := s.new
  snew := fun a o q => by
    rcases n a o q with z | z
    · exact s.snew a o z
    · exact .inr (s.ghost.free z)
  z := s.z
/-- a new thing that is not known -/
theorem Sta.lay {a : Addr} {o : HO} (s : Sta K A E S H ρ σ fs) (h : H a = none) : Sta K A E S (upd H a o) ρ σ fs :=
  s.grow (Same.refl S) (upd_same_of h) (s.sub.trans (upd_same_of h)) fun _ _ q => .inl q
/-- a new thing that is known -/
theorem Sta.layS {a : Addr} {o : HO} (s : Sta K A E S H ρ σ fs) (h : H a = none) : Sta K A E (upd S a o) (upd H a o) ρ σ fs ∧ Same S (upd S a o) := by
  have h' : S a = none := s.sub.free h
  refine ⟨s.grow (upd_same_of h') (upd_same_of h) (fun b u q => ?_) fun b u q => ?_, upd_same_of h'⟩
  · by_cases e : b = a
    · subst e
      rw [upd_same] at q ⊢
      exact q
    · rw [upd_ne e] at q ⊢
      exact s.sub b u q
  · by_cases e : b = a
    · subst e
      exact .inr h
    · rw [upd_ne e] at q
      exact .inl q
/-- of one's own and apart, made known -/
theorem Sta.freeze {d : D} {v : V} {fp : List Addr} {a : Addr} {o : HO} (s : Sta K A E S H ρ σ fs) (ho : H a = some o) (hs : S a = none) (hg : E.gh a = none) (hf : ∀ i, a ∉ fs i) :
    Sta K A E (upd S a o) H ρ σ fs ∧ Same S (upd S a o) := by
  refine ⟨⟨s.len, fun b u q => ?_, fun i => SlR.keep (upd_same_of hs) (fun b hb => ?_) (s.slot i), s.dis, s.ghost, s.s0.trans (upd_same_of hs), s.new, fun b u q => ?_, s.z⟩, upd_same_of hs⟩
  · by_cases e : b = a
    · subst e
      rw [upd_same] at q
      rw [ho]
      exact q
    · rw [upd_ne e] at q
      exact s.sub b u q
  · have ne : b ≠ a := fun z => hf i (z ▸ hb)
    rw [upd_ne ne]
    exact ⟨((s.slot i).at b hb).1, rfl⟩
  · by_cases e : b = a
    · subst e
      exact .inr hg
    · rw [upd_ne e] at q
      exact s.snew b u q
/-- .. and locked -/
theorem Sta.lockV {a : Addr} {o u : HO} (s : Sta K A E S H ρ σ fs) (ho : H a = some o) (hs : S a = none) (hg : E.gh a = none) (hf : ∀ i, a ∉ fs i) :
    Sta K A E (upd S a u) (upd H a u) ρ σ fs ∧ Same S (upd S a u) := by
  refine ⟨⟨s.len, fun b v q => ?_, fun i => SlR.keep (upd_same_of hs) (fun b hb => ?_) (s.slot i), s.dis, fun b v q => ?_, s.s0.trans (upd_same_of hs), s.new, fun b v q => ?_, s.z⟩, upd_same_of hs⟩
  · by_cases e : b = a
    · subst e
      rw [upd_same] at q ⊢
      exact q
    · rw [upd_ne e] at q ⊢
      exact s.sub b v q
  · have ne : b ≠ a := fun z => hf i (z ▸ hb)
    rw [upd_ne ne, upd_ne ne]
    exact ⟨((s.slot i).at b hb).1, rfl⟩
  · rw [upd_ne (fun z => by rw [z, hg] at q; cases q)]
    exact s.ghost b v q
  · by_cases e : b = a
    · subst e
      exact .inr hg
    · rw [upd_ne e] at q
      exact s.snew b v q
theorem Sta.freezeV {x : D × Bool} {v : V} {fp : List Addr} (s : Sta K A E S H ρ σ fs) (r : RV K A S H x v fp) (ap : Apart E fs fp) (hx : (x.2 && x.1.isIns) = false) :
    (∃ S', Same S S' ∧ Sta K A E S' H ρ σ fs ∧ Rep K A S' x.1 v) ∨
      ∃ a es, H a = some (.dK es) ∧ ∀ od, ∃ S', Same S S' ∧ Sta K A E S' (upd H a (.frz od (.dK es))) ρ σ fs ∧ Rep K A S' x.1 v := by
  obtain ⟨d, o⟩ := x
  unfold RV at r
  cases o with
  | false =>
    rw [if_neg (by simp)] at r
    exact .inl ⟨S, Same.refl S, s, r.2⟩
  | true =>
    rw [if_pos rfl] at r
    cases d with
    | lst ds =>
      obtain ⟨a, vs, rfl, rfl, h1, h2, h3⟩ := r
      obtain ⟨g, f⟩ := ap a (by simp)
      obtain ⟨s', e⟩ := s.freeze (d := .non) (v := .non) (fp := []) h2 h1 g f
      refine .inl ⟨_, e, s', ?_⟩
      unfold Rep
      exact ⟨a, vs, rfl, .inl upd_same, Reps.mono e _ _ h3⟩
    | dic kvs =>
      obtain ⟨a, vs, rfl, rfl, h1, h2, h3⟩ := r
      obtain ⟨g, f⟩ := ap a (by simp)
      refine .inr ⟨a, vs, h2, fun od => ?_⟩
      obtain ⟨s', e⟩ := s.lockV (u := .frz od (.dK vs)) h2 h1 g f
      refine ⟨_, e, s', ?_⟩
      unfold Rep
      exact ⟨a, vs, rfl, ⟨od, upd_same⟩, RepsK.mono e _ _ h3⟩
    | ins c fl => simp [D.isIns] at hx
    | non => exact r.elim
    | bl _ => exact r.elim
    | int _ => exact r.elim
    | str _ => exact r.elim
    | tup _ => exact r.elim
    | exc _ => exact r.elim
/-- a dict that an expression has told may be locked -/
theorem _root_.L2.PE.locks {X : Cx} {e : Expr} {t : TE} (h : PE X e t) : PE X e (fun σ H Q => t σ H fun v H' => Q v H' ∨ ∃ a es, H' a = some (.dK es) ∧ ∀ od, Q v (upd H' a (.frz od (.dK es)))) := by
  refine ⟨fun pins s σ H Q I hw => thn (h.run pins s σ H _ I hw) fun u s1 ⟨v, H1, I1, r, q⟩ => ?_⟩
  rcases q with q | ⟨a, es, q1, q2⟩
  · exact ⟨v, H1, I1, r, q⟩
  · obtain ⟨od, I2⟩ := I1.lock q1 trivial
    exact ⟨v, _, I2, r, q2 od⟩
/-- a value told, put to others' use -/
theorem _root_.L2.PE.frz {X : Cx} {e : Expr} {c : Env → Out (D × Bool)} (h : PE X e (tO K A W c)) : PE X e (tX K A W fun ρ => (c ρ).frz) := by
  refine ⟨fun pins s σ H Q I hw => h.locks.run pins s σ H Q I ?_⟩
  obtain ⟨E, S, ρ, fs, st, p⟩ := hw
  refine ⟨E, S, ρ, fs, st, ?_⟩
  have p : Post K A W E S σ (c ρ).frz fun d S' H' _ _ => ∀ v, Rep K A S' d v → Q v H' := p
  cases q : c ρ with
  | ok x ρ' =>
    rw [q] at p
    intro S' H' fs' e s v fp r ap
    unfold Out.frz at p
    cases hx : (x.2 && x.1.isIns) with
    | true =>
      simp only [hx, if_true] at p
      exact p.elim
    | false =>
      simp only [hx] at p
      rcases s.freezeV r ap hx with ⟨S2, e2, s2, r2⟩ | ⟨a, es, ha, k⟩
      · exact .inl (p S2 H' fs' (e.trans e2) s2 v r2)
      · refine .inr ⟨a, es, ha, fun od => ?_⟩
        obtain ⟨S2, e2, s2, r2⟩ := k od
        exact p S2 _ fs' (e.trans e2) s2 v r2
  | exn c' ρ' =>
    rw [q] at p
    exact p
  | bad =>
    rw [q] at p
    exact p.elim
theorem _root_.L2.PE.imp {X : Cx} {e : Expr} {t t' : TE} (h : PE X e t) (q : ∀ σ H Q, t' σ H Q → t σ H Q) : PE X e t' := ⟨fun pins s σ H Q I hw => h.run pins s σ H Q I (q σ H Q hw)⟩
theorem _root_.L2.PT.imp {X : Cx} {e : Expr} {t t' : TT} (h : PT X e t) (q : ∀ σ H Q, t' σ H Q → t σ H Q) : PT X e t' := ⟨fun pins s σ H Q I hw => h.run pins s σ H Q I (q σ H Q hw)⟩
theorem _root_.L2.PA.imp {X : Cx} {e : List Expr} {t t' : TA} (h : PA X e t) (q : ∀ σ H Q, t' σ H Q → t σ H Q) : PA X e t' := ⟨fun po pins s σ H Q I hw => h.run po pins s σ H Q I (q σ H Q hw)⟩
end
end GW
end

section
/-! C3: operations by values. -/
namespace GW
open PySem PySem.Spec PyProof.Rows L2

/-! ### plain data as the library's -/
mutual
theorem dep_shape : ∀ (d : D) (n : Nat), n < 100 → d.dep ≤ n → PyData.canLay0 d.py = true ∧ d.py.depth ≤ n
  | .non, _, _, _ => ⟨by simp [D.py, PyData.canLay0], by simp [D.py, PyData.depth]⟩
  | .bl _, _, _, _ => ⟨by simp [D.py, PyData.canLay0], by simp [D.py, PyData.depth]⟩
  | .int _, _, _, _ => ⟨by simp [D.py, PyData.canLay0], by simp [D.py, PyData.depth]⟩
  | .str s, n, hn, h => by
    unfold D.dep at h
    by_cases q : PySem.PyData.strOk s = true
    · exact ⟨by simp [D.py, PyData.canLay0, q], by simp [D.py, PyData.depth]⟩
    · rw [if_neg q] at h
      omega
  | .tup xs, n, hn, h => by
    unfold D.dep at h
    obtain ⟨h1, h2⟩ := deps_shape xs (n - 1) (by omega) (by omega)
    exact ⟨by simp [D.py, PyData.canLay0, h1], by simp only [D.py, PyData.depth]; omega⟩
  | .lst xs, n, hn, h => by
    unfold D.dep at h
    obtain ⟨h1, h2⟩ := deps_shape xs (n - 1) (by omega) (by omega)
    exact ⟨by simp [D.py, PyData.canLay0, h1], by simp only [D.py, PyData.depth]; omega⟩
  | .dic _, n, hn, h => by unfold D.dep at h; omega
  | .exc _, n, hn, h => by unfold D.dep at h; omega
  | .ins _ _, n, hn, h => by unfold D.dep at h; omega
theorem deps_shape : ∀ (ds : List D) (n : Nat), n < 100 → D.deps ds ≤ n → PyData.canLayAll0 (D.pys ds) = true ∧ PyData.depthAll (D.pys ds) ≤ n
  | [], _, _, _ => ⟨by simp [D.pys, PyData.canLayAll0], by simp [D.pys, PyData.depthAll]⟩
  | x :: xs, n, hn, h => by
    unfold D.deps at h
    obtain ⟨h1, h2⟩ := dep_shape x n hn (by omega)
    obtain ⟨h3, h4⟩ := deps_shape xs n hn (by omega)
    exact ⟨by simp [D.pys, PyData.canLayAll0, h1, h3], by simp only [D.pys, PyData.depthAll]; omega⟩
end
theorem shaped_of {d : D} (h : d.dep ≤ 60) : SeqAt.shaped d.py = true := by
  obtain ⟨h1, h2⟩ := dep_shape d 60 (by omega) h
  unfold SeqAt.shaped
  rw [h1, decide_eq_true (show d.py.depth ≤ 64 by omega)]
  rfl
section
variable {K : PySem.W.Frag} {A : Cls} {H : Hp}
mutual
theorem Rep.dp : ∀ (d : D) (v : V), d.dep < 100 → Rep K A H d v → Dp K H v d.py
  | .non, v, _, h => by unfold Rep at h; subst h; exact .non
  | .bl b, v, _, h => by unfold Rep at h; subst h; exact .bl b
  | .int i, v, _, h => by unfold Rep at h; subst h; exact .int i
  | .str s, v, _, h => by unfold Rep at h; subst h; exact .str s
  | .tup ds, v, q, h => by
    unfold Rep at h
    unfold D.dep at q
    obtain ⟨a, vs, rfl, h2, h3⟩ := h
    exact .tup h2 (Reps.dp ds vs (by omega) h3)
  | .lst ds, v, q, h => by
    unfold Rep at h
    unfold D.dep at q
    obtain ⟨a, vs, rfl, h2, h3⟩ := h
    exact .lst (.inl h2) (Reps.dp ds vs (by omega) h3)
  | .dic _, _, q, _ => by unfold D.dep at q; omega
  | .exc _, _, q, _ => by unfold D.dep at q; omega
  | .ins _ _, _, q, _ => by unfold D.dep at q; omega
theorem Reps.dp : ∀ (ds : List D) (vs : List V), D.deps ds < 100 → Reps K A H ds vs → DpAll K H vs (D.pys ds)
  | [], vs, _, h => by unfold Reps at h; subst h; exact .nil
  | d :: ds, vs, q, h => by
    unfold Reps at h
    unfold D.deps at q
    obtain ⟨v, r, rfl, h2, h3⟩ := h
    exact .cons (Rep.dp d v (by omega) h2) (Reps.dp ds r (by omega) h3)
end
end
mutual
theorem eqv_py : ∀ (d e : D), d.dep < 100 → e.dep < 100 → PyData.eqv d.py e.py = d.eqv e
  | .non, e, _, q => by cases e <;> first | (exfalso; unfold D.dep at q; omega) | rfl | (simp [D.py, PyData.eqv, D.eqv]; done)
  | .bl _, e, _, q => by cases e <;> first | (exfalso; unfold D.dep at q; omega) | rfl | (simp [D.py, PyData.eqv, D.eqv]; done)
  | .int _, e, _, q => by cases e <;> first | (exfalso; unfold D.dep at q; omega) | rfl | (simp [D.py, PyData.eqv, D.eqv]; done)
  | .str _, e, _, q => by cases e <;> first | (exfalso; unfold D.dep at q; omega) | rfl | (simp [D.py, PyData.eqv, D.eqv]; done)
  | .tup xs, e, p, q => by
    cases e with
    | tup ys =>
      unfold D.dep at p q
      simp only [D.py, PyData.eqv, D.eqv]
      exact eqvs_py xs ys (by omega) (by omega)
    | _ => first | (exfalso; unfold D.dep at q; omega) | rfl | (simp [D.py, PyData.eqv, D.eqv]; done)
  | .lst xs, e, p, q => by
    cases e with
    | lst ys =>
      unfold D.dep at p q
      simp only [D.py, PyData.eqv, D.eqv]
      exact eqvs_py xs ys (by omega) (by omega)
    | _ => first | (exfalso; unfold D.dep at q; omega) | rfl | (simp [D.py, PyData.eqv, D.eqv]; done)
  | .dic _, _, p, _ => by unfold D.dep at p; omega
  | .exc _, _, p, _ => by unfold D.dep at p; omega
  | .ins _ _, _, p, _ => by unfold D.dep at p; omega
theorem eqvs_py : ∀ (ds es : List D), D.deps ds < 100 → D.deps es < 100 → PyData.eqvAll (D.pys ds) (D.pys es) = D.eqvs ds es
  | [], [], _, _ => by simp [D.pys, PyData.eqvAll, D.eqvs]
  | [], _ :: _, _, _ => by simp [D.pys, PyData.eqvAll, D.eqvs]
  | _ :: _, [], _, _ => by simp [D.pys, PyData.eqvAll, D.eqvs]
  | x :: xs, y :: ys, p, q => by
    unfold D.deps at p q
    simp only [D.pys, PyData.eqvAll, D.eqvs]
    rw [eqv_py x y (by omega) (by omega), eqvs_py xs ys (by omega) (by omega)]
end
theorem any_py (x : D) (hx : x.dep < 100) : ∀ (ys : List D), D.deps ys < 100 → ((D.pys ys).any fun z => PyData.eqv z x.py) = ys.any fun y => y.eqv x
  | [], _ => by simp [D.pys]
  | y :: ys, h => by
    unfold D.deps at h
    simp only [D.pys, List.any_cons]
    rw [eqv_py y x (by omega) hx, any_py x hx ys (by omega)]

/-! ### what an operation asks -/
section
variable (K : PySem.W.Frag) (A : Cls)
/-- the state at an operation -/
def At (E : Ent) (S H : Hp) : Prop := ∃ ρ σ fs, Sta K A E S H ρ σ fs
/-- behind an operation that tells z: the rest stays -/
def Tells (z : D × Bool) (S H : Hp) (Q : VK) : Prop := ∀ S' H' v fp, Same S S' → Same H H' → Same S' H' → (∀ a o, S' a = some o → S a = some o ∨ H a = none) → RV K A S' H' z v fp → (∀ a ∈ fp, H a = none ∧ S' a = none) → Q v H'
def rO (c : D → D → Option (D × Bool)) : R2 := fun x y H Q => ∃ S dx dy, Same S H ∧ Rep K A S dx x ∧ Rep K A S dy y ∧ ∃ z, c dx dy = some z ∧ Tells K A z S H Q
def rC (c : D → D → Option Bool) : R2 := fun x y H Q => ∃ S dx dy, Same S H ∧ Rep K A S dx x ∧ Rep K A S dy y ∧ ∃ z, c dx dy = some z ∧ Q (.bl z) H
def rL (c : List D → Option (D × Bool)) : List V → Hp → VK → Prop := fun xs H Q => ∃ S ds, Same S H ∧ Reps K A S ds xs ∧ ∃ z, c ds = some z ∧ Tells K A z S H Q
end
section
variable {K : PySem.W.Frag} {A : Cls} {S H : Hp} {Q : VK}
/-- a plain value -/
theorem Tells.now {d : D} {v : V} (t : Tells K A (d, false) S H Q) (sub : Same S H) (r : Rep K A S d v) : Q v H :=
  t S H v [] (Same.refl S) (Same.refl H) sub (fun _ _ q => .inl q) (by unfold RV; rw [if_neg (by simp)]; exact ⟨rfl, r⟩) (by simp)
theorem Tells.nowB {z : D × Bool} {v : V} (t : Tells K A z S H Q) (hz : z.2 = false) (sub : Same S H) (r : Rep K A S z.1 v) : Q v H := by
  obtain ⟨d, o⟩ := z
  cases hz
  exact t.now sub r
/-- a new tuple -/
theorem Tells.tup {ds : List D} {vs : List V} (t : Tells K A (.tup ds, false) S H Q) (sub : Same S H) (r : Reps K A S ds vs) : ∀ p, H p = none → Q (.ref p) (upd H p (.tup vs)) := fun p hp => by
  have hs : S p = none := sub.free hp
  refine t (upd S p (.tup vs)) _ _ [] (upd_same_of hs) (upd_same_of hp) (fun b u q => ?_) (fun b u q => ?_) ?_ (by simp)
  · by_cases e : b = p
    · subst e; rw [upd_same] at q ⊢; exact q
    · rw [upd_ne e] at q ⊢; exact sub b u q
  · by_cases e : b = p
    · subst e; exact .inr hp
    · rw [upd_ne e] at q; exact .inl q
  · unfold RV
    rw [if_neg (by simp)]
    refine ⟨rfl, ?_⟩
    unfold Rep
    exact ⟨p, vs, rfl, SqT.of upd_same, Reps.mono (upd_same_of hs) _ _ r⟩
/-- a new list -/
theorem Tells.lst {ds : List D} {vs : List V} (t : Tells K A (.lst ds, true) S H Q) (sub : Same S H) (r : Reps K A S ds vs) : ∀ p, H p = none → Q (.ref p) (upd H p (.lst vs)) := fun p hp => by
  have hs : S p = none := sub.free hp
  refine t S _ _ [p] (Same.refl S) (upd_same_of hp) (sub.trans (upd_same_of hp)) (fun b u q => .inl q) ?_ (by simp [hp, hs])
  unfold RV
  rw [if_pos rfl]
  exact ⟨p, vs, rfl, rfl, hs, upd_same, r⟩
/-- a new dict -/
theorem Tells.dic {kvs : List (Str × D)} {es : List (Key × V)} (t : Tells K A (.dic kvs, true) S H Q) (sub : Same S H) (r : RepsK K A S kvs es) : ∀ p, H p = none → Q (.ref p) (upd H p (.dK es)) := fun p hp => by
  have hs : S p = none := sub.free hp
  refine t S _ _ [p] (Same.refl S) (upd_same_of hp) (sub.trans (upd_same_of hp)) (fun b u q => .inl q) ?_ (by simp [hp, hs])
  unfold RV
  rw [if_pos rfl]
  exact ⟨p, es, rfl, rfl, hs, upd_same, r⟩
theorem Rep.int_inv {i : Int} {v : V} (h : Rep K A S (.int i) v) : v = .int i := by unfold Rep at h; exact h
theorem Rep.bl_inv {i : Bool} {v : V} (h : Rep K A S (.bl i) v) : v = .bl i := by unfold Rep at h; exact h
theorem Rep.str_inv {i : Str} {v : V} (h : Rep K A S (.str i) v) : v = .str i := by unfold Rep at h; exact h
theorem Rep.non_inv {v : V} (h : Rep K A S .non v) : v = .non := by unfold Rep at h; exact h
theorem Rep.tup_inv {ds : List D} {v : V} (h : Rep K A S (.tup ds) v) : ∃ a vs, v = .ref a ∧ SqT K S a vs ∧ Reps K A S ds vs := by unfold Rep at h; exact h
theorem Rep.lst_inv {ds : List D} {v : V} (h : Rep K A S (.lst ds) v) : ∃ a vs, v = .ref a ∧ Rd S a (.lst vs) ∧ Reps K A S ds vs := by unfold Rep at h; exact h
theorem Rep.int (i : Int) : Rep K A S (.int i) (.int i) := by unfold Rep; rfl
theorem Rep.bl (i : Bool) : Rep K A S (.bl i) (.bl i) := by unfold Rep; rfl
theorem Rep.str (i : Str) : Rep K A S (.str i) (.str i) := by unfold Rep; rfl
theorem Rep.non : Rep K A S .non .non := by unfold Rep; rfl
end

section
variable {X : Cx} {A : Cls} {pins : List (Addr × Obj)} {σ : L2.St} {H : Hp} {s : Shared} {l : Addr} {xs : List V}
theorem Inv.rdL (I : Inv X pins σ H s) (h : Rd H l (.lst xs)) : xs.length ≤ sizeLine ∧ ∃ (its : List Value) (n : Nat), Vals xs its ∧ xs.length = its.length ∧ s.heap.get? l = some { cls := .type "list", data := .seq its.toArray n } := by
  obtain ⟨z, its, n, r, e⟩ := h.ok I.hok
  exact ⟨z, its, n, r, r.length, e⟩
theorem lineD_eq : lineD = sizeLine := by rw [sizeLine_eq]; rfl
/-- list + list, any that is read -/
def rCatR : R2 := fun x y H Q => ∃ l b xs zs, x = .ref l ∧ y = .ref b ∧ Rd H l (.lst xs) ∧ Rd H b (.lst zs) ∧ xs.length + zs.length ≤ sizeLine ∧ ∀ p, H p = none → Q (.ref p) (upd H p (.lst (xs ++ zs)))
theorem op_catR : OpR X (binaryOp .Add) rCatR := by
  intro pins s σ H x y v u Q I rx ry h
  obtain ⟨l, b, xs, zs, rfl, rfl, hH, hB, hz, q⟩ := h
  cases rx
  cases ry
  obtain ⟨z, its, n, r, hl, e⟩ := Inv.rdL I hH
  obtain ⟨z2, its2, n2, r2, hl2, e2⟩ := Inv.rdL I hB
  refine PySem.P.add_list e e2 ?_ (by rw [List.size_toArray, List.size_toArray]; omega)
  have ea : its.toArray ++ its2.toArray = (its ++ its2).toArray := by simp
  rw [ea]
  refine ⟨.ref s.heap.objs.size, _, I.lnew (t' := s.toks) (r.append r2) (by rw [List.length_append]; omega), rfl, q _ (Inv.fresh I)⟩
end
end GW
end

section
/-! C4: the operations' rules; combining. -/
namespace GW
open PySem PySem.Spec PyProof.Rows L2

theorem RepsK.val {K : PySem.W.Frag} {A : Cls} {S : Hp} {k : Str} : ∀ {kvs : List (Str × D)} {es : List (Key × V)}, RepsK K A S kvs es → match kvs.lookup k with
    | some d => ∃ v, valV es (.inr k) = some v ∧ Rep K A S d v
    | none => valV es (.inr k) = none
  | [], _, h => by
    unfold RepsK at h
    subst h
    rfl
  | (j, d) :: r, _, h => by
    unfold RepsK at h
    obtain ⟨v, er, rfl, h1, h2⟩ := h
    have ih := RepsK.val (k := k) h2
    by_cases e : k = j
    · subst e
      simp only [List.lookup, beq_self_eq_true]
      exact ⟨v, valV_pos rfl, h1⟩
    · have e1 : (k == j) = false := by simpa using e
      simp only [List.lookup, e1]
      rw [valV_neg (fun z => e (Sum.inr.inj z).symm)]
      exact ih
theorem RepsK.some {K : PySem.W.Frag} {A : Cls} {S : Hp} {k : Str} {kvs : List (Str × D)} {es : List (Key × V)} (h : RepsK K A S kvs es) : (valV es (.inr k)).isSome = (kvs.lookup k).isSome := by
  have q := h.val (k := k)
  cases e : kvs.lookup k with
  | none => rw [e] at q; rw [q]; rfl
  | some d => rw [e] at q; obtain ⟨v, q, _⟩ := q; rw [q]; rfl

section
variable {X : Cx} {A : Cls} {W : WX}
theorem tells_of {E : Ent} {S H : Hp} {ρ : Env} {σ : L2.St} {fs : Nat → List Addr} {z : D × Bool} {Q : VK} (st : Sta X.K A E S H ρ σ fs) (k : ∀ S' H' v fp, Same S S' → Sta X.K A E S' H' ρ σ fs → RV X.K A S' H' z v fp → Apart E fs fp → Q v H') :
    Tells X.K A z S H Q := fun S' H' v fp e1 e2 e3 n r ap => by
  refine k S' H' v fp e1 (st.grow e1 e2 e3 n) r fun a ha => ⟨st.ghost.free (ap a ha).1, fun i hi => ?_⟩
  obtain ⟨_, o, h⟩ := (st.slot i).at a hi
  rw [(ap a ha).1] at h
  cases h

/-! ### operators -/
theorem op_add_ : OpR X (binaryOp .Add) (rO X.K A (binv .add)) := by
  intro pins s σ H x y v u Q I rx ry h
  obtain ⟨S, dx, dy, sub, hx, hy, z, hz, t⟩ := h
  unfold binv at hz
  split at hz <;> first | contradiction | skip
  · cases hz
    cases hx.int_inv
    cases hy.int_inv
    exact op_add pins s σ H _ _ v u Q I rx ry ⟨_, _, rfl, rfl, t.now sub (Rep.int _)⟩
  · split at hz <;> first | contradiction | skip
    rename_i hl
    cases hz
    cases hx.str_inv
    cases hy.str_inv
    exact op_add_str pins s σ H _ _ v u Q I rx ry ⟨_, _, rfl, rfl, lineD_eq ▸ hl, t.now sub (Rep.str _)⟩
  · split at hz <;> first | contradiction | skip
    rename_i hl
    cases hz
    obtain ⟨a, vs, rfl, h1, h2⟩ := hx.lst_inv
    obtain ⟨b, us, rfl, h3, h4⟩ := hy.lst_inv
    exact op_catR pins s σ H _ _ v u Q I rx ry ⟨a, b, vs, us, rfl, rfl, Same.rd sub h1, Same.rd sub h3, by rw [h2.len, h4.len]; exact lineD_eq ▸ hl, t.lst sub (h2.app h4)⟩
  · split at hz <;> first | contradiction | skip
    rename_i hl
    cases hz
    obtain ⟨a, vs, rfl, h1, h2⟩ := hx.tup_inv
    obtain ⟨b, us, rfl, h3, h4⟩ := hy.tup_inv
    refine op_catA pins s σ H _ _ v u Q I rx ry ⟨a, b, vs, us, rfl, rfl, Same.sqt sub h1, Same.sqt sub h3, by rw [h2.len, h4.len]; exact lineD_eq ▸ hl, fun e => ?_, fun _ e => ?_, fun _ _ p hp => t.tup sub (h2.app h4) p hp⟩
    · subst e
      have e2 : _ = [] := List.eq_nil_of_length_eq_zero h2.len.symm
      subst e2
      exact t.now sub hy
    · subst e
      have e2 : _ = [] := List.eq_nil_of_length_eq_zero h4.len.symm
      subst e2
      rw [List.append_nil] at t
      exact t.now sub hx
theorem op_sub_ : OpR X (binaryOp .Sub) (rO X.K A (binv .sub)) := by
  intro pins s σ H x y v u Q I rx ry h
  obtain ⟨S, dx, dy, sub, hx, hy, z, hz, t⟩ := h
  unfold binv at hz
  split at hz <;> first | contradiction | skip
  cases hz
  cases hx.int_inv
  cases hy.int_inv
  exact op_sub pins s σ H _ _ v u Q I rx ry ⟨_, _, rfl, rfl, t.now sub (Rep.int _)⟩
theorem op_repR {pins : List (Addr × Obj)} {s : Shared} {σ : L2.St} {H : Hp} {l : Addr} {xs : List V} {k : Int} {v u : Value} {Q : VK} (I : L2.Inv X pins σ H s) (rx : RelV (.ref l) v) (ry : RelV (.int k) u) (hH : Rd H l (.lst xs)) (h1 : -(2 ^ 63) ≤ k) (h2 : k < 2 ^ 63) (hz : xs.length * k.toNat ≤ sizeLine)
    (q : ∀ p, H p = none → Q (.ref p) (upd H p (.lst (List.replicate k.toNat xs).flatten))) : wpAny (model X.prog X.w) X.A (binaryOp .Mult v u) (EP X pins σ Q) X.xe s := by
  cases rx
  obtain ⟨t, rfl⟩ := ry
  obtain ⟨z, its, n, r, hl, e⟩ := Inv.rdL I hH
  have hlen : its.toArray.size * k.toNat ≤ sizeLine := by rw [List.size_toArray, ← hl]; exact hz
  have hcap : ¬ its.toArray.size * k.toNat > (2 ^ 63 - 1) / 8 := by
    have : (sizeLine : Nat) ≤ (2 ^ 63 - 1) / 8 := by decide
    omega
  have hfit : ¬ (!Builtin.List.listFitsIndex k) = true := by
    rw [fitsIndex_both h1 h2]
    exact Bool.false_ne_true
  have hlong : ¬ Builtin.List.listTooLong (its.toArray.size * k.toNat) = true := by
    rw [notLongL hlen]
    exact Bool.false_ne_true
  have hnew : List.foldl (fun x1 x2 => x1 ++ x2) #[] (List.replicate (if its.toArray.isEmpty = true then 0 else k.toNat) its.toArray) = (List.replicate k.toNat its).flatten.toArray := by
    have f0 : ∀ m : Nat, List.foldl (fun x1 x2 => x1 ++ x2) #[] (List.replicate m its.toArray) = (List.replicate m its).flatten.toArray := fun m => by
      have := foldl_rep its m []
      rw [List.nil_append] at this
      exact this
    rw [f0]
    cases its with
    | nil => simp
    | cons a r' => rw [if_neg (by simp)]
  refine wpAny_binaryOp_repeat_ref (T := "list") (U := "int") (by decide) ⟨_, e, rfl⟩ (fun s' => typeIs_int s' k t) noFill_list_mul F.fills_int_mul F.slot_int_rmul repeat_list F.slot_int_index.lookup
    (call_meets F.slot_int_rmul (typeIs_int s k t) F.entry_int_rmul (F.args_int_rmul_2 _ _) (int___rmul___int_list k t l its.toArray n)
      ⟨e, rfl, ⟨_, e, rfl⟩, call_meets F.slot_list_mul ⟨_, e, rfl⟩ F.entry_list_mul (F.args_list_mul_2 _ _) (AutoListH.list___mul___list_int_3 l its.toArray n k t hfit hcap hlong) ⟨e, ?_⟩⟩)
  rw [hnew]
  exact ⟨.ref _, _, I.lnew (t' := s.toks) (r.rep k.toNat) (by rw [PyProof.Rows.lm_len_rep_flat, Nat.mul_comm]; exact hz), rfl, q _ (Inv.fresh I)⟩
theorem Reps.rep {K : PySem.W.Frag} {S : Hp} {ds : List D} {vs : List V} (h : Reps K A S ds vs) : ∀ n : Nat, Reps K A S (List.replicate n ds).flatten (List.replicate n vs).flatten
  | 0 => Reps.nil
  | n + 1 => by
    rw [List.replicate_succ, List.replicate_succ, List.flatten_cons, List.flatten_cons]
    exact h.app (h.rep n)
theorem okI_of {j : Int} (h : okI j = true) : -(2 ^ 62) < j ∧ j < 2 ^ 62 := by
  unfold okI at h
  rw [Bool.and_eq_true] at h
  exact ⟨of_decide_eq_true h.1, of_decide_eq_true h.2⟩
theorem mulBig {i j : Int} (h3 : i.natAbs.log2 + j.natAbs.log2 < 100000000) : IntMulOk i j := by
  have b : ∀ x : Int, Builtin.Int.intBits x ≤ x.natAbs.log2 + 1 := fun x => by
    unfold Builtin.Int.intBits
    split <;> omega
  have h1 := b i
  have h2 := b j
  have e : bitsLine = 134217728 := by decide
  unfold IntMulOk
  intro z
  rw [Bool.and_eq_true] at z
  have z2 := z.2
  unfold Builtin.Int.intTooBig at z2
  have z3 := of_decide_eq_true z2
  rw [e] at z3
  omega
theorem op_mulX : OpR X (binaryOp .Mult) (rI (fun i j => i.natAbs.log2 + j.natAbs.log2 < 100000000) fun i j => .int (i * j)) := opI fun _ _ _ _ _ _ _ hc q => mul_int q (mulBig hc)
theorem op_mul_ : OpR X (binaryOp .Mult) (rO X.K A (binv .mul)) := by
  intro pins s σ H x y v u Q I rx ry h
  obtain ⟨S, dx, dy, sub, hx, hy, z, hz, t⟩ := h
  unfold binv at hz
  split at hz <;> first | contradiction | skip
  · split at hz <;> first | contradiction | skip
    rename_i hl
    cases hz
    cases hx.int_inv
    cases hy.int_inv
    exact op_mulX pins s σ H _ _ v u Q I rx ry ⟨_, _, rfl, rfl, hl, t.now sub (Rep.int _)⟩
  · split at hz <;> first | contradiction | skip
    rename_i hl
    cases hz
    obtain ⟨a, vs, rfl, h1, h2⟩ := hx.lst_inv
    cases hy.int_inv
    rw [Bool.and_eq_true] at hl
    obtain ⟨b1, b2⟩ := okI_of hl.1
    have b3 := of_decide_eq_true hl.2
    exact op_repR I rx ry (Same.rd sub h1) (by omega) (by omega) (by rw [h2.len]; exact lineD_eq ▸ b3) (t.lst sub (h2.rep _))
  · split at hz <;> first | contradiction | skip
    rename_i hl
    cases hz
    obtain ⟨a, vs, rfl, h1, h2⟩ := hx.tup_inv
    cases hy.int_inv
    simp only [Bool.and_eq_true, Bool.not_eq_true', decide_eq_true_eq] at hl
    obtain ⟨b0, b1, b2, b3⟩ := hl
    have hne : vs ≠ [] := fun e => by
      have := h2.len
      rw [e] at this
      simp at this
      rw [List.eq_nil_of_length_eq_zero this.symm] at b0
      cases b0
    exact op_repT pins s σ H _ _ v u Q I rx ry ⟨a, _, vs, rfl, rfl, Same.sqt sub h1, hne, b1, b2, by rw [h2.len]; exact b3, t.tup sub (h2.rep _)⟩
theorem op_fdiv_ : OpR X (binaryOp .FloorDiv) (rO X.K A (binv .fdiv)) := by
  intro pins s σ H x y v u Q I rx ry h
  obtain ⟨S, dx, dy, sub, hx, hy, z, hz, t⟩ := h
  unfold binv at hz
  split at hz <;> first | contradiction | skip
  split at hz <;> first | contradiction | skip
  rename_i hl
  cases hz
  cases hx.int_inv
  cases hy.int_inv
  rw [Bool.and_eq_true] at hl
  have h0 := hl.1
  rw [bne_iff_ne] at h0
  have hb := of_decide_eq_true hl.2
  obtain ⟨t1, rfl⟩ := rx
  obtain ⟨t2, rfl⟩ := ry
  exact floordiv_int h0 ⟨.int _, H, (I.tok _), ⟨_, rfl⟩, t.now sub (Rep.int _)⟩ (.inl (PyProof.noPylong_of_log2 hb))
theorem op_mod_ : OpR X (binaryOp .Mod) (rO X.K A (binv .mod)) := by
  intro pins s σ H x y v u Q I rx ry h
  obtain ⟨S, dx, dy, sub, hx, hy, z, hz, t⟩ := h
  unfold binv at hz
  split at hz <;> first | contradiction | skip
  split at hz <;> first | contradiction | skip
  rename_i hl
  cases hz
  cases hx.int_inv
  cases hy.int_inv
  have h0 := hl
  rw [bne_iff_ne] at h0
  exact op_modN pins s σ H _ _ v u Q I rx ry ⟨_, _, rfl, rfl, h0, t.now sub (Rep.int _)⟩
theorem op_pow_ : OpR X (binaryOp .Pow) (rO X.K A (binv .pow)) := by
  intro pins s σ H x y v u Q I rx ry h
  obtain ⟨S, dx, dy, sub, hx, hy, z, hz, t⟩ := h
  unfold binv at hz
  split at hz <;> first | contradiction | skip
  split at hz <;> first | contradiction | skip
  rename_i i j hl
  cases hz
  cases hx.int_inv
  cases hy.int_inv
  rw [Bool.and_eq_true, Bool.and_eq_true] at hl
  have h1 := of_decide_eq_true hl.1.1
  have h2 := of_decide_eq_true hl.1.2
  have h3 := of_decide_eq_true hl.2
  exact op_pow pins s σ H _ _ v u Q I rx ry ⟨_, _, rfl, rfl, ⟨h1, by omega, h3⟩, t.now sub (Rep.int _)⟩
def BOp.py : BOp → Operator
  | .add => .Add
  | .sub => .Sub
  | .mul => .Mult
  | .fdiv => .FloorDiv
  | .mod => .Mod
  | .pow => .Pow
theorem op_bin (o : BOp) : OpR X (binaryOp o.py) (rO X.K A (binv o)) := by
  cases o
  · exact op_add_
  · exact op_sub_
  · exact op_mul_
  · exact op_fdiv_
  · exact op_mod_
  · exact op_pow_

/-! ### comparisons -/
def COp.py : COp → CmpOp
  | .lt => .Lt
  | .le => .LtE
  | .gt => .Gt
  | .ge => .GtE
  | .eq => .Eq
  | .ne => .NotEq
  | .is_ => .Is
  | .isnot => .IsNot
  | .in_ => .In
  | .nin => .NotIn
theorem deep_of {x y : D} (h : deep x y = true) : x.dep ≤ 60 ∧ y.dep ≤ 60 := by
  unfold deep at h
  rw [Bool.and_eq_true] at h
  exact ⟨of_decide_eq_true h.1, of_decide_eq_true h.2⟩
theorem op_lt_ : OpR X (compareOp .Lt) (rC X.K A (cmpv .lt)) := by
  intro pins s σ H x y v u Q I rx ry h
  obtain ⟨S, dx, dy, sub, hx, hy, z, hz, t⟩ := h
  unfold cmpv at hz
  split at hz <;> first | contradiction | skip
  cases hz
  cases hx.int_inv
  cases hy.int_inv
  exact op_lt pins s σ H _ _ v u Q I rx ry ⟨_, _, rfl, rfl, t⟩
theorem op_le_ : OpR X (compareOp .LtE) (rC X.K A (cmpv .le)) := by
  intro pins s σ H x y v u Q I rx ry h
  obtain ⟨S, dx, dy, sub, hx, hy, z, hz, t⟩ := h
  unfold cmpv at hz
  split at hz <;> first | contradiction | skip
  cases hz
  cases hx.int_inv
  cases hy.int_inv
  exact op_le pins s σ H _ _ v u Q I rx ry ⟨_, _, rfl, rfl, t⟩
theorem op_gt_ : OpR X (compareOp .Gt) (rC X.K A (cmpv .gt)) := by
  intro pins s σ H x y v u Q I rx ry h
  obtain ⟨S, dx, dy, sub, hx, hy, z, hz, t⟩ := h
  unfold cmpv at hz
  split at hz <;> first | contradiction | skip
  cases hz
  cases hx.int_inv
  cases hy.int_inv
  exact op_gt pins s σ H _ _ v u Q I rx ry ⟨_, _, rfl, rfl, t⟩
theorem op_ge_ : OpR X (compareOp .GtE) (rC X.K A (cmpv .ge)) := by
  intro pins s σ H x y v u Q I rx ry h
  obtain ⟨S, dx, dy, sub, hx, hy, z, hz, t⟩ := h
  unfold cmpv at hz
  split at hz <;> first | contradiction | skip
  cases hz
  cases hx.int_inv
  cases hy.int_inv
  exact op_ge pins s σ H _ _ v u Q I rx ry ⟨_, _, rfl, rfl, t⟩
/-! ### like dicts -/
theorem RepsK.len {K : PySem.W.Frag} {A : Cls} {S : Hp} : ∀ {kvs : List (Str × D)} {es : List (Key × V)}, RepsK K A S kvs es → es.length = kvs.length
  | [], _, h => by unfold RepsK at h; subst h; rfl
  | (k, d) :: r, _, h => by
    unfold RepsK at h
    obtain ⟨v, er, rfl, _, h3⟩ := h
    simp [RepsK.len h3]
theorem dicEq_run {pins : List (Addr × Obj)} {σ : L2.St} {H S : Hp} {s : Shared} (I : L2.Inv X pins σ H s) (hu : X.A.units + 65 < cLine) (sub : Same S H) {ls : List (Str × D)} {fs : List (Key × V)} {ws : List (Key × Value)} (hy : RepsK X.K A S ls fs) (ry : KV fs ws) :
    ∀ {kvs : List (Str × D)} {es : List (Key × V)} {vs : List (Key × Value)} {z : Bool}, RepsK X.K A S kvs es → KV es vs → dicEq kvs ls = some z → PySem.W.KeqHits X.A.in1 s ws vs z
  | [], es, vs, z, h, r, q => by
    unfold RepsK at h
    subst h
    cases r
    unfold dicEq at q
    cases q
    exact .nil
  | (k, d) :: kvs, es, vs, z, h, r, q => by
    unfold RepsK at h
    obtain ⟨v, er, rfl, h2, h3⟩ := h
    cases r with
    | @cons _ b _ rs p1 p2 =>
      obtain ⟨k', u⟩ := b
      obtain ⟨rfl, p1⟩ : Sum.inr k = k' ∧ RelV v u := p1
      unfold dicEq at q
      have rv := ry.val (.inr k)
      have hv := RepsK.val (k := k) hy
      cases hl : ls.lookup k with
      | none =>
        rw [hl] at q hv
        cases q
        rw [show valV fs (.inr k) = none from hv] at rv
        refine .miss ?_
        cases hx : valueAt ws (.inr k) with
        | none => rfl
        | some y => rw [hx] at rv; exact (show False from rv).elim
      | some e =>
        rw [hl] at q hv
        obtain ⟨w, hw, rw_⟩ := hv
        rw [hw] at rv
        dsimp only at q
        split at q <;> first | contradiction | skip
        rename_i hd
        obtain ⟨z', hz', rfl⟩ := Option.map_eq_some_iff.mp q
        obtain ⟨d1, d2⟩ := deep_of hd
        cases hx : valueAt ws (.inr k) with
        | none => rw [hx] at rv; exact (show False from rv).elim
        | some y =>
          rw [hx] at rv
          obtain ⟨as, r1⟩ := Dp.reads I _ v u (Rep.dp _ _ (by omega) (Rep.mono sub _ _ h2)) p1
          obtain ⟨bs, r2⟩ := Dp.reads I _ w y (Rep.dp _ _ (by omega) (Rep.mono sub _ _ rw_)) rv
          have eq := PySem.W.keq_at (A := X.A) r1 r2 (shaped_of d1) (shaped_of d2) (by show X.A.units + 1 + 64 < cLine; omega)
          rw [eqv_py _ _ (by omega) (by omega)] at eq
          exact .hit hx eq (dicEq_run I hu sub hy ry h3 p2 hz')
theorem dicL_run {pins : List (Addr × Obj)} {σ : L2.St} {H S : Hp} {s : Shared} (I : L2.Inv X pins σ H s) (hu : X.A.units + 65 < cLine) (sub : Same S H) {dx dy : D} {x y : V} {v u : Value} {z : Bool} (hx : Rep X.K A S dx x) (hy : Rep X.K A S dy y) (rx : RelV x v) (ry : RelV y u) (h : dicL dx dy = some z) :
    ∃ (a b : Addr) (va vb : List (Key × Value)) (r : Bool), v = .ref a ∧ u = .ref b ∧ (a == sysModules) = false ∧ (b == sysModules) = false ∧ s.heap.DictOf (mixKind X.prog X.w) a va ∧ s.heap.DictOf (mixKind X.prog X.w) b vb ∧ (va.length = vb.length → PySem.W.KeqHits X.A.in1 s vb va r) ∧ (va.length == vb.length && r) = z := by
  unfold dicL at h
  split at h <;> first | contradiction | skip
  rename_i kvs ls
  unfold Rep at hx hy
  obtain ⟨a, es, rfl, ⟨o1, h1⟩, h2⟩ := hx
  obtain ⟨b, fs, rfl, ⟨o2, h3⟩, h4⟩ := hy
  obtain rfl : v = Value.ref a := rx
  obtain rfl : u = Value.ref b := ry
  obtain ⟨_, _, ya, va, ra, da⟩ := (show ObjOk X.prog X.w H s.heap a (.frz o1 (.dK es)) from I.hok a _ (sub _ _ h1))
  obtain ⟨_, _, yb, vb, rb, db⟩ := (show ObjOk X.prog X.w H s.heap b (.frz o2 (.dK fs)) from I.hok b _ (sub _ _ h3))
  have la : va.length = kvs.length := by rw [← ra.length, h2.len]
  have lb : vb.length = ls.length := by rw [← rb.length, h4.len]
  split at h
  · rename_i hl
    exact ⟨a, b, va, vb, z, rfl, rfl, ya, yb, da, db, fun _ => dicEq_run I hu sub h4 rb h2 ra h, by rw [la, lb, hl]; simp⟩
  · rename_i hl
    cases h
    refine ⟨a, b, va, vb, false, rfl, rfl, ya, yb, da, db, fun e => absurd (by rw [← la, ← lb, e]) hl, by simp⟩
theorem op_eq_ (hu : X.A.units + 65 < cLine) : OpR X (compareOp .Eq) (rC X.K A (cmpv .eq)) := by
  intro pins s σ H x y v u Q I rx ry h
  obtain ⟨S, dx, dy, sub, hx, hy, z, hz, t⟩ := h
  unfold cmpv at hz
  split at hz <;> first | contradiction | skip
  split at hz
  rotate_left
  · obtain ⟨a, b, va, vb, r, rfl, rfl, ya, yb, da, db, hh, e⟩ := dicL_run I hu sub hx hy rx ry hz
    exact PySem.W.keq_eq ya yb da db (by omega) hh (fin_bl I t e.symm)
  rename_i hd
  cases hz
  obtain ⟨d1, d2⟩ := deep_of hd
  refine op_eqD (by omega) pins s σ H _ _ v u Q I rx ry ⟨_, _, Rep.dp _ _ (by omega) (Rep.mono sub _ _ hx), Rep.dp _ _ (by omega) (Rep.mono sub _ _ hy), shaped_of d1, shaped_of d2, ?_⟩
  rw [eqv_py _ _ (by omega) (by omega)]
  exact t
theorem op_ne_ (hu : X.A.units + 65 < cLine) : OpR X (compareOp .NotEq) (rC X.K A (cmpv .ne)) := by
  intro pins s σ H x y v u Q I rx ry h
  obtain ⟨S, dx, dy, sub, hx, hy, z, hz, t⟩ := h
  unfold cmpv at hz
  split at hz <;> first | contradiction | skip
  split at hz
  rotate_left
  · obtain ⟨z', hz', rfl⟩ := Option.map_eq_some_iff.mp hz
    obtain ⟨a, b, va, vb, r, rfl, rfl, ya, yb, da, db, hh, e⟩ := dicL_run I hu sub hx hy rx ry hz'
    exact PySem.W.keq_ne ya yb da db (by omega) hh (fin_bl I t (by rw [e]))
  rename_i hd
  cases hz
  obtain ⟨d1, d2⟩ := deep_of hd
  refine op_neD (by omega) pins s σ H _ _ v u Q I rx ry ⟨_, _, Rep.dp _ _ (by omega) (Rep.mono sub _ _ hx), Rep.dp _ _ (by omega) (Rep.mono sub _ _ hy), shaped_of d1, shaped_of d2, ?_⟩
  rw [eqv_py _ _ (by omega) (by omega)]
  exact t
theorem rep_non_iff {K : PySem.W.Frag} {S : Hp} : ∀ {d : D} {v : V}, Rep K A S d v → decide (v = .non) = (match d with | .non => true | _ => false)
  | .non, _, h => by cases h.non_inv; rfl
  | .bl _, _, h => by cases h.bl_inv; rfl
  | .int _, _, h => by cases h.int_inv; rfl
  | .str _, _, h => by cases h.str_inv; rfl
  | .tup _, _, h => by obtain ⟨a, vs, rfl, _⟩ := h.tup_inv; rfl
  | .lst _, _, h => by obtain ⟨a, vs, rfl, _⟩ := h.lst_inv; rfl
  | .dic _, _, h => by unfold Rep at h; obtain ⟨a, vs, rfl, _⟩ := h; rfl
  | .exc _, _, h => by unfold Rep at h; obtain ⟨a, rfl, _⟩ := h; rfl
  | .ins _ _, _, h => by unfold Rep at h; exact h.elim
theorem non_not (d : D) : (!(match d with | .non => true | _ => false)) = (match d with | .non => false | _ => true) := by cases d <;> rfl
theorem op_is_ : OpR X (compareOp .Is) (rC X.K A (cmpv .is_)) := by
  intro pins s σ H x y v u Q I rx ry h
  obtain ⟨S, dx, dy, sub, hx, hy, z, hz, t⟩ := h
  unfold cmpv at hz
  split at hz <;> first | contradiction | skip
  · cases hz
    cases hy.non_inv
    refine op_isN pins s σ H _ _ v u Q I rx ry ⟨rfl, ?_⟩
    rw [rep_non_iff hx]
    exact t
  · cases hz
    cases hx.bl_inv
    cases hy.bl_inv
    refine op_isBl pins s σ H _ _ v u Q I rx ry ⟨_, _, rfl, rfl, ?_⟩
    rw [← Bool.beq_eq_decide_eq]
    exact t
theorem op_isnot_ : OpR X (compareOp .IsNot) (rC X.K A (cmpv .isnot)) := by
  intro pins s σ H x y v u Q I rx ry h
  obtain ⟨S, dx, dy, sub, hx, hy, z, hz, t⟩ := h
  unfold cmpv at hz
  split at hz <;> first | contradiction | skip
  · cases hz
    cases hy.non_inv
    refine op_notN pins s σ H _ _ v u Q I rx ry ⟨rfl, ?_⟩
    rw [rep_non_iff hx, non_not]
    exact t
  · cases hz
    cases hx.bl_inv
    cases hy.bl_inv
    refine op_isnot_bl pins s σ H _ _ v u Q I rx ry ⟨_, _, rfl, rfl, ?_⟩
    rw [← Bool.beq_eq_decide_eq]
    exact t
end
end GW
end

section
/-! C5: the facts of a program; in, count, index, len, isinstance. -/
namespace GW
open PySem PySem.Spec PyProof.Rows L2

/-- the built-in names a text may use -/
def bnames : List Str := ["len", "abs", "str", "int", "list", "tuple", "sorted", "set", "all", "any", "sum", "min", "max", "dict", "isinstance", "bool", "range", "zip", "enumerate", "ValueError"]
/-- what stands behind the top -/
structure Facts (G : Prog) (A : Cls) (fa : Nat → Addr) (fd : Nat → FuncData) (w : World) (K : PySem.W.Frag) (mg : Str → Option Value) : Prop where
  glo : ∀ (g : Nat) (x : Str) (d : D), G.glos[g]? = some (x, d) → D.dic? d = none → ∃ u v, mg x = some u ∧ RelV v u ∧ Rep K A (fun _ => none) d v
  dic : ∀ (g : Nat) (x : Str) (kvs : List (Str × D)), G.glos[g]? = some (x, .dic kvs) → ∃ a, mg x = some (.ref a) ∧ ∀ k d, kvs.lookup k = some d → ∃ v, KDct K w a k v ∧ Rep K A (fun _ => none) d v
  blt : ∀ x ∈ bnames, mg x = none
  fn : ∀ (f : Nat) (F : Fn), G.fns[f]? = some F → F.meth = false → mg F.name = some (.ref (fa f))
  fkp : ∀ (f : Nat) (F : Fn), G.fns[f]? = some F → PySem.W.keepIn K (.ref (fa f)) = true ∧ Binds K (fd f) F.pars []
  exc : ∀ (c : Nat) (x : Str), G.excs[c]? = some x → mg x = some (.ref (A.exc c)) ∧ PySem.W.keepIn K (.ref (A.exc c)) = true ∧ PySem.W.excIn K (A.exc c) [.type "ValueError", .type "Exception", .type "BaseException", .type "object"] "ValueError.__new__" = true ∧
    PySem.W.subIn K (.ref (A.exc c)) (.type "BaseException") = some true ∧ PySem.W.typeIn K (.ref (A.exc c)) = some (.type "type") ∧ ExcC K (A.exc c) ∧ PySem.W.kitOne K (.ref (A.exc c)) (.type "ValueError") = some true
  sub : ∀ c k b, G.sub c k = some b → PySem.W.kitOne K (.ref (A.exc c)) (.ref (A.exc k)) = some b ∧ PySem.W.exmOne K (.ref (A.exc c)) (.ref (A.exc k)) = some b
theorem Prog.sub_lt {G : Prog} {c k : Nat} {b : Bool} (h : G.sub c k = some b) : c < G.excs.length ∧ k < G.excs.length := by
  unfold Prog.sub at h
  split at h
  · assumption
  · cases h

section
variable {X : Cx} {A : Cls} {W : WX}
/-! ### in -/
theorem op_in_ (hu : X.A.units + 65 < cLine) : OpR X (compareOp .In) (rC X.K A (cmpv .in_)) := by
  intro pins s σ H x y v u Q I rx ry h
  obtain ⟨S, dx, dy, sub, hx, hy, z, hz, t⟩ := h
  unfold cmpv at hz
  split at hz <;> first | contradiction | skip
  · split at hz <;> first | contradiction | skip
    rename_i ys _ hd
    cases hz
    obtain ⟨d1, d2⟩ := deep_of hd
    have d3 : D.deps ys < 100 := by unfold D.dep at d2; omega
    obtain ⟨as, r1⟩ := Dp.reads I _ x v (Rep.dp _ _ (by omega) (Rep.mono sub _ _ hx)) rx
    obtain ⟨bs, r2⟩ := Dp.reads I _ y u (Rep.dp _ _ (by omega) (Rep.mono sub _ _ hy)) ry
    refine SeqAt.in_list_reads r2 r1 (SeqAt.canLay_of_shaped (shaped_of d2)) (SeqAt.canLay_of_shaped (shaped_of d1)) (room_in_shaped (shaped_of d1) hu) ⟨.bl _, H, I, rfl, ?_⟩
    rw [any_py _ (by omega) ys d3]
    exact t
  · split at hz <;> first | contradiction | skip
    rename_i ys _ hd
    cases hz
    obtain ⟨d1, d2⟩ := deep_of hd
    have d3 : D.deps ys < 100 := by unfold D.dep at d2; omega
    obtain ⟨as, r1⟩ := Dp.reads I _ x v (Rep.dp _ _ (by omega) (Rep.mono sub _ _ hx)) rx
    obtain ⟨bs, r2⟩ := Dp.reads I _ y u (Rep.dp _ _ (by omega) (Rep.mono sub _ _ hy)) ry
    refine SeqAt.in_tuple_reads r2 r1 (SeqAt.canLay_of_shaped (shaped_of d2)) (SeqAt.canLay_of_shaped (shaped_of d1)) (room_in_shaped (shaped_of d1) hu) ⟨.bl _, H, I, rfl, ?_⟩
    rw [any_py _ (by omega) ys d3]
    exact t
  · cases hz
    cases hx.str_inv
    unfold Rep at hy
    obtain ⟨a, es, rfl, h1, h2⟩ := hy
    cases ry
    refine d_in (X := X) (o := valV es (.inr _)) (by omega) I (.inl ⟨es, .inr _, (DicR.mono sub h1).rd, rfl, rfl⟩) rx fun s' I' => ⟨.bl _, H, I', rfl, ?_⟩
    rw [h2.some]
    exact t
theorem op_nin_ (hu : X.A.units + 65 < cLine) : OpR X (compareOp .NotIn) (rC X.K A (cmpv .nin)) := by
  intro pins s σ H x y v u Q I rx ry h
  obtain ⟨S, dx, dy, sub, hx, hy, z, hz, t⟩ := h
  unfold cmpv at hz
  split at hz <;> first | contradiction | skip
  · split at hz <;> first | contradiction | skip
    rename_i ys _ hd
    cases hz
    obtain ⟨d1, d2⟩ := deep_of hd
    have d3 : D.deps ys < 100 := by unfold D.dep at d2; omega
    obtain ⟨as, r1⟩ := Dp.reads I _ x v (Rep.dp _ _ (by omega) (Rep.mono sub _ _ hx)) rx
    obtain ⟨bs, r2⟩ := Dp.reads I _ y u (Rep.dp _ _ (by omega) (Rep.mono sub _ _ hy)) ry
    refine SeqAt.notIn_list_reads r2 r1 (SeqAt.canLay_of_shaped (shaped_of d2)) (SeqAt.canLay_of_shaped (shaped_of d1)) (room_in_shaped (shaped_of d1) hu) ⟨.bl _, H, I, rfl, ?_⟩
    rw [any_py _ (by omega) ys d3]
    exact t
  · split at hz <;> first | contradiction | skip
    rename_i ys _ hd
    cases hz
    obtain ⟨d1, d2⟩ := deep_of hd
    have d3 : D.deps ys < 100 := by unfold D.dep at d2; omega
    obtain ⟨as, r1⟩ := Dp.reads I _ x v (Rep.dp _ _ (by omega) (Rep.mono sub _ _ hx)) rx
    obtain ⟨bs, r2⟩ := Dp.reads I _ y u (Rep.dp _ _ (by omega) (Rep.mono sub _ _ hy)) ry
    refine SeqAt.notIn_tuple_reads r2 r1 (SeqAt.canLay_of_shaped (shaped_of d2)) (SeqAt.canLay_of_shaped (shaped_of d1)) (room_in_shaped (shaped_of d1) hu) ⟨.bl _, H, I, rfl, ?_⟩
    rw [any_py _ (by omega) ys d3]
    exact t
  · cases hz
    cases hx.str_inv
    unfold Rep at hy
    obtain ⟨a, es, rfl, h1, h2⟩ := hy
    cases ry
    refine d_notIn (X := X) (o := valV es (.inr _)) (by omega) I (.inl ⟨es, .inr _, (DicR.mono sub h1).rd, rfl, rfl⟩) rx fun s' I' => ⟨.bl _, H, I', rfl, ?_⟩
    rw [h2.some]
    exact t

/-! ### subscripts by values -/
def rX (K : PySem.W.Frag) (A : Cls) (c : D → D → Option D) : R2 := fun x y H Q => ∃ S dx dy, Same S H ∧ Rep K A S dx x ∧ Rep K A S dy y ∧ ∃ z, c dx dy = some z ∧ ∀ v, Rep K A S z v → Q v H
theorem ixL_at {α : Type} {xs : List α} {i : Int} {v : α} (h : ixL xs i = some v) : ∃ j, L2.ixN xs.length i = some j ∧ xs[j]? = some v := by
  unfold ixL at h
  cases e : ixN xs.length i with
  | none => rw [e] at h; cases h
  | some j => rw [e] at h; exact ⟨j, e, h⟩
theorem Reps.atI {K : PySem.W.Frag} {S : Hp} {ds : List D} {vs : List V} {i : Int} {d : D} (r : Reps K A S ds vs) (h : ixL ds i = some d) : ∃ v, L2.atI vs i = some v ∧ Rep K A S d v := by
  obtain ⟨j, h1, h2⟩ := ixL_at h
  obtain ⟨v, h3, h4⟩ := r.get h2
  refine ⟨v, ?_, h4⟩
  unfold L2.atI
  rw [r.len, h1]
  exact h3
theorem ix_seq_ (hu : X.A.units + 65 < cLine) : IxR X (rX X.K A ixv) := by
  intro value slice pins s σ H x y v u Q I rx ry h hs
  obtain ⟨S, dx, dy, sub, hx, hy, z, hz, t⟩ := h
  unfold ixv at hz
  split at hz <;> first | contradiction | skip
  · obtain ⟨a, vs, rfl, h1, h2⟩ := hx.lst_inv
    cases hy.int_inv
    obtain ⟨w', h3, h4⟩ := h2.atI hz
    exact ix_list value slice pins s σ H _ _ v u Q I rx ry ⟨a, vs, _, w', rfl, rfl, .inl (Same.rd sub h1), h3, t w' h4⟩ hs
  · obtain ⟨a, vs, rfl, h1, h2⟩ := hx.tup_inv
    cases hy.int_inv
    obtain ⟨w', h3, h4⟩ := h2.atI hz
    exact ix_tup value slice pins s σ H _ _ v u Q I rx ry ⟨a, vs, _, w', rfl, rfl, Same.sqt sub h1, h3, t w' h4⟩ hs
  · split at hz <;> first | contradiction | skip
    rename_i hl
    cases hx.str_inv
    cases hy.int_inv
    obtain ⟨c, hc, rfl⟩ := Option.map_eq_some_iff.mp hz
    obtain ⟨j, h1, h2⟩ := ixL_at hc
    refine ix_str value slice pins s σ H _ _ v u Q I rx ry ⟨_, _, c, rfl, rfl, lineD_eq ▸ hl, ?_, t _ (Rep.str _)⟩ hs
    unfold L2.atI
    rw [h1]
    exact h2
  · rename_i kvs k
    cases hy.str_inv
    unfold Rep at hx
    obtain ⟨a, es, rfl, h1, h2⟩ := hx
    cases rx
    have hv := RepsK.val (k := k) h2
    rw [hz] at hv
    obtain ⟨w0, hw0, rw0⟩ := hv
    have g : Rd H a (.dK es) := (DicR.mono sub h1).rd
    obtain ⟨_, hd, vs, rel, dd⟩ := dk_rd I.hok g
    have rl := rel.val (.inr k)
    rw [hw0] at rl
    cases hv' : valueAt vs (.inr k) with
    | none => rw [hv'] at rl; exact (show False from rl).elim
    | some w' =>
      rw [hv'] at rl
      exact subscriptTail_builtinR (x := w') dd.typeIs PySem.F.slot_dict_getitem.lookup
        (wpAny_getItem_of (Q := fun r s' => r = w' ∧ EP X pins σ Q r s') (kV_is (k := .inr k) ry) dd.mapOf hv' ⟨rfl, w0, H, I.tok _, rl, t w0 rw0⟩) hs

/-! ### calls by values -/
theorem cr_len : CallR X (.builtin "len") (rL X.K A (biv .len)) := by
  intro pins s σ H xs us Q I r h
  obtain ⟨S, ds, sub, hx, z, hz, t⟩ := h
  unfold biv at hz
  split at hz <;> first | contradiction | skip
  · cases hz
    unfold Reps at hx
    obtain ⟨v, r', rfl, h1, h2⟩ := hx
    unfold Reps at h2
    subst h2
    obtain ⟨a, vs, rfl, h3, h4⟩ := h1.lst_inv
    exact call_len pins s σ H _ us Q I r ⟨_, _, rfl, .inl ⟨vs, .inl (Same.rd sub h3), h4.len.symm⟩, t.now sub (Rep.int _)⟩
  · cases hz
    unfold Reps at hx
    obtain ⟨v, r', rfl, h1, h2⟩ := hx
    unfold Reps at h2
    subst h2
    obtain ⟨a, vs, rfl, h3, h4⟩ := h1.tup_inv
    exact call_len pins s σ H _ us Q I r ⟨_, _, rfl, .inr ⟨vs, Same.sqt sub h3, h4.len.symm⟩, t.now sub (Rep.int _)⟩
  · split at hz <;> first | contradiction | skip
    rename_i hl
    cases hz
    unfold Reps at hx
    obtain ⟨v, r', rfl, h1, h2⟩ := hx
    unfold Reps at h2
    subst h2
    cases h1.str_inv
    exact call_len pins s σ H _ us Q I r ⟨_, _, rfl, ⟨lineD_eq ▸ hl, rfl⟩, t.now sub (Rep.int _)⟩
theorem cr_abs : CallR X (.builtin "abs") (rL X.K A (biv .abs)) := by
  intro pins s σ H xs us Q I r h
  obtain ⟨S, ds, sub, hx, z, hz, t⟩ := h
  unfold biv at hz
  split at hz <;> first | contradiction | skip
  cases hz
  unfold Reps at hx
  obtain ⟨v, r', rfl, h1, h2⟩ := hx
  unfold Reps at h2
  subst h2
  cases h1.int_inv
  exact call_abs pins s σ H _ us Q I r ⟨_, rfl, t.now sub (Rep.int _)⟩

/-! ### methods by values -/
def rM (K : PySem.W.Frag) (A : Cls) (c : D → List D → Option (D × Bool)) : V → List V → Hp → VK → Prop := fun x xs H Q => ∃ S dx ds, Same S H ∧ Rep K A S dx x ∧ Reps K A S ds xs ∧ ∃ z, c dx ds = some z ∧ Tells K A z S H Q
theorem reps_one {K : PySem.W.Frag} {S : Hp} {d : D} {vs : List V} (h : Reps K A S [d] vs) : ∃ v, vs = [v] ∧ Rep K A S d v := by
  unfold Reps at h
  obtain ⟨v, r, rfl, h1, h2⟩ := h
  unfold Reps at h2
  subst h2
  exact ⟨v, rfl, h1⟩
theorem count_py (x : D) (hx : x.dep < 100) : ∀ (ys : List D), D.deps ys < 100 → (D.pys ys).countP (fun z => PyData.eqv z x.py) = countv x ys
  | [], _ => by simp [D.pys, countv]
  | y :: ys, h => by
    unfold D.deps at h
    have ih := count_py x hx ys (by omega)
    unfold countv at ih ⊢
    simp only [D.pys, List.countP_cons, List.filter_cons]
    rw [eqv_py y x (by omega) hx, ih]
    split <;> simp
theorem mt_count_ (hu : X.A.units + 65 < cLine) : MtR X "list.count" (rM X.K A (mtv .count)) := by
  intro pins s σ H x xs v us Q I rx rxs h
  obtain ⟨S, dx, ds, sub, hx, hy, z, hz, t⟩ := h
  unfold mtv at hz
  split at hz <;> first | contradiction | skip
  split at hz <;> first | contradiction | skip
  rename_i ys y _ hd
  cases hz
  obtain ⟨d1, d2⟩ := deep_of hd
  have d3 : D.deps ys < 100 := by unfold D.dep at d2; omega
  obtain ⟨w', rfl, hw⟩ := reps_one hy
  obtain ⟨a, vs, rfl, h1, h2⟩ := hx.lst_inv
  cases rx
  obtain ⟨u, rfl, ru⟩ := rxs.one
  obtain ⟨_, its, n, rv, hl, ho⟩ := Inv.rdL I (Same.rd sub h1)
  obtain ⟨bs, r1⟩ := Dp.reads I _ w' u (Rep.dp _ _ (by omega) (Rep.mono sub _ _ hw)) ru
  obtain ⟨as, r2⟩ := Dp.readsAll I _ _ its (Reps.dp _ _ d3 (Reps.mono sub _ _ h2)) rv
  have hc : PyData.canLayAll0 (D.pys ys) = true := by
    have q := SeqAt.canLay_of_shaped (shaped_of d2)
    simpa [D.py, PyData.canLay0] using q
  refine call_meets PySem.F.slot_list_count ⟨_, ho, rfl⟩ PySem.F.entry_list_count (PySem.F.args_list_count_2 _ _)
    (SeqAt.list_countAt a its.toArray n none #[] u (fun z => PyData.eqv (SeqAt.readOf s.heap z) y.py)) ⟨ho, SeqAt.items_eqAt (vs := its.toArray) r2 r1 hc (SeqAt.canLay_of_shaped (shaped_of d1)) (room_in_shaped (shaped_of d1) hu), ?_⟩
  refine ⟨.int _, H, I.tok _, ⟨_, rfl⟩, ?_⟩
  have e : List.countP (fun z => PyData.eqv (SeqAt.readOf s.heap z) y.py) its = countv y ys := by
    rw [← count_py y (by omega) ys d3, ← SeqAt.readsAll_map _ _ _ hc r2, List.countP_map]
    rfl
  show Q (.int ((List.countP (fun z => PyData.eqv (SeqAt.readOf s.heap z) y.py) its : Nat) : Int)) H
  rw [e]
  exact t.now sub (Rep.int _)
theorem indexv_at (x : D) (hx : x.dep < 100) : ∀ (ys : List D) (i j : Nat), D.deps ys < 100 → indexv x ys i = some j → ∃ k, j = i + k ∧ (∃ z, (D.pys ys)[k]? = some z ∧ PyData.eqv z x.py = true) ∧ ∀ (m : Nat) (z' : PyData), m < k → (D.pys ys)[m]? = some z' → PyData.eqv z' x.py = false
  | [], _, _, _, h => by simp [indexv] at h
  | y :: ys, i, j, hd, h => by
    unfold D.deps at hd
    unfold indexv at h
    split at h
    · rename_i e
      cases h
      refine ⟨0, rfl, ⟨y.py, by simp [D.pys], ?_⟩, fun m z' hm => absurd hm (Nat.not_lt_zero _)⟩
      rw [eqv_py y x (by omega) hx]
      exact e
    · rename_i e
      obtain ⟨k, rfl, ⟨z, h1, h2⟩, h3⟩ := indexv_at x hx ys (i + 1) j (by omega) h
      refine ⟨k + 1, by omega, ⟨z, by simpa [D.pys] using h1, h2⟩, fun m z' hm hz => ?_⟩
      cases m with
      | zero =>
        have : z' = y.py := by simpa [D.pys] using hz.symm
        subst this
        rw [eqv_py y x (by omega) hx]
        simpa using e
      | succ m => exact h3 m z' (by omega) (by simpa [D.pys] using hz)
theorem mt_index_ (hu : X.A.units + 65 < cLine) : MtR X "list.index" (rM X.K A (mtv .index)) := by
  intro pins s σ H x xs v us Q I rx rxs h
  obtain ⟨S, dx, ds, sub, hx, hy, z, hz, t⟩ := h
  unfold mtv at hz
  split at hz <;> first | contradiction | skip
  split at hz <;> first | contradiction | skip
  rename_i ys y _ hd
  obtain ⟨d1, d2⟩ := deep_of hd
  have d3 : D.deps ys < 100 := by unfold D.dep at d2; omega
  obtain ⟨j, hj, rfl⟩ := Option.map_eq_some_iff.mp hz
  obtain ⟨w', rfl, hw⟩ := reps_one hy
  obtain ⟨k, rfl, ⟨z, h1, h2⟩, h3⟩ := indexv_at y (by omega) ys 0 j d3 hj
  obtain ⟨a, vs, rfl, g1, g2⟩ := hx.lst_inv
  refine mt_indexD hu pins s σ H _ _ v us Q I rx rxs ⟨a, w', y.py, D.pys ys, k, z, rfl, rfl, .lst (.inl (Same.rd sub g1)) (Reps.dp _ _ d3 (Reps.mono sub _ _ g2)), Rep.dp _ _ (by omega) (Rep.mono sub _ _ hw), ?_, shaped_of d1, h1, h2, h3, ?_⟩
  · have q := shaped_of d2
    unfold D.py at q
    exact q
  · rw [Nat.zero_add] at t
    exact t.now sub (Rep.int _)

/-! ### isinstance -/
def tyN : D → Option String
  | .non => some "NoneType"
  | .bl _ => some "bool"
  | .int _ => some "int"
  | .str _ => some "str"
  | .tup _ => some "tuple"
  | .lst _ => some "list"
  | .dic _ => some "dict"
  | _ => none
def Ty.py : Ty → String
  | .int => "int"
  | .bool => "bool"
  | .str => "str"
  | .tuple => "tuple"
  | .list => "list"
  | .valueError => "ValueError"
  | .exc _ => ""
theorem rep_ty {K : PySem.W.Frag} {H : Hp} : ∀ {d : D} {v : V} {n : String}, Rep K A H d v → tyN d = some n → TyX K H v (.type n)
  | .non, _, _, h, e => by cases h.non_inv; cases e; exact .base .non
  | .bl b, _, _, h, e => by cases h.bl_inv; cases e; exact .base (.bl b)
  | .int i, _, _, h, e => by cases h.int_inv; cases e; exact .base (.int i)
  | .str i, _, _, h, e => by cases h.str_inv; cases e; exact .base (.str i)
  | .tup _, _, _, h, e => by
    obtain ⟨a, vs, rfl, h1, _⟩ := h.tup_inv
    cases e
    rcases h1 with (h1 | ⟨o, h1⟩) | ⟨o, its, n, h1, h2, _⟩
    · exact .base (.tup h1)
    · exact .fTuple h1
    · exact .kTuple h1 h2
  | .lst _, _, _, h, e => by
    obtain ⟨a, vs, rfl, h1, _⟩ := h.lst_inv
    cases e
    rcases h1 with h1 | ⟨o, h1⟩
    · exact .base (.lst h1)
    · exact .base (.frz h1)
  | .dic _, _, _, h, e => by
    unfold Rep at h
    obtain ⟨a, vs, rfl, ⟨o, h1⟩, _⟩ := h
    cases e
    exact .fDict h1
  | .exc _, _, _, _, e => by cases e
  | .ins _ _, _, _, _, e => by cases e
theorem kit_all : ∀ a ∈ ["NoneType", "bool", "int", "str", "tuple", "list", "dict"], ∀ b ∈ ["int", "bool", "str", "tuple", "list"], kitB a b = some (a == b || (a == "bool" && b == "int")) := by decide +kernel
/-- the class that an isinstance names -/
def ClsT (A : Cls) (t : Ty) (c : V) (u : Value) : Prop := match t with
  | .exc k => c = .ref (A.exc k) ∧ u = .ref (A.exc k)
  | t => c = .ty t.py ∧ u = .type t.py
def rIsD (G : Prog) (K : PySem.W.Frag) (A : Cls) (t : Ty) : List V → Hp → VK → Prop := fun xs H Q => ∃ S dx x c u b, xs = [x, c] ∧ Same S H ∧ Rep K A S dx x ∧ ClsT A t c u ∧ isiv G.sub dx t = some b ∧ Q (.bl b) H
theorem call_isD {G : Prog} {fa : Nat → Addr} {fd : Nat → FuncData} (Fc : Facts G A fa fd X.w X.K X.mg) (t : Ty) : CallR X (.builtin "isinstance") (rIsD G X.K A t) := by
  intro pins s σ H xs us Q I r h
  obtain ⟨S, dx, x, c, u, b, rfl, sub, hx, hc, hb, q⟩ := h
  have hx' := Rep.mono sub _ _ hx
  by_cases he : ∃ e, dx = .exc e
  · obtain ⟨e, rfl⟩ := he
    have key : e < G.excs.length → PySem.W.kitOne X.K (.ref (A.exc e)) u = some b → (c = V.ref (match t with | .exc k => A.exc k | _ => 0) ∨ ∃ n, c = .ty n) → (∀ w, RelV c w → w = u) → wpAny (model X.prog X.w) X.A (call (.builtin "isinstance") us) (EP X pins σ Q) X.xe s := by
      intro hlt hk _ hcu
      obtain ⟨nm, hn⟩ : ∃ nm, G.excs[e]? = some nm := ⟨_, List.getElem?_eq_getElem hlt⟩
      obtain ⟨_, _, _, _, _, C, _⟩ := Fc.exc e nm hn
      unfold Rep at hx'
      obtain ⟨a, rfl, ha⟩ := hx'
      obtain ⟨u1, u2, rfl, r1, r2⟩ := vals2 r
      cases (show u1 = Value.ref a from r1)
      cases hcu _ r2
      obtain ⟨⟨oe, vs, hg, hz, hd⟩, _, _⟩ := I.hok a _ ha
      have J : PySem.W.InstAt s.heap a oe (A.exc e) none := by
        obtain ⟨oc, od, oda, osl⟩ := oe
        obtain ⟨z1, z2⟩ := hz
        dsimp only at z1 z2 hd
        subst z1 z2 hd
        exact ⟨hg, rfl, rfl, trivial⟩
      exact PySem.W.kia_one (PySem.W.handS_kitx_exc C.hg C.hk C.hs C.hd C.ha C.hn C.ht C.hm) I.kIn J hk (fun z => nomatch z) fun tk => ⟨.bl b, H, I.tok tk, rfl, q⟩
    cases t with
    | exc k =>
      obtain ⟨rfl, rfl⟩ := hc
      have hb' : G.sub e k = some b := hb
      exact key (Prog.sub_lt hb').1 (Fc.sub e k b hb').1 (.inl rfl) (fun w hw => hw)
    | valueError =>
      obtain ⟨rfl, rfl⟩ := hc
      have hb' : (G.sub e e).map (fun _ => true) = some b := hb
      obtain ⟨b', h1, rfl⟩ := Option.map_eq_some_iff.mp hb'
      have hlt := (Prog.sub_lt h1).1
      obtain ⟨_, _, _, _, _, _, hk⟩ := Fc.exc e _ (List.getElem?_eq_getElem hlt)
      exact key hlt hk (.inr ⟨_, rfl⟩) (fun w hw => hw)
    | int => cases hb
    | bool => cases hb
    | str => cases hb
    | tuple => cases hb
    | list => cases hb
  · have main : ∀ n m, tyN dx = some n → n ∈ ["NoneType", "bool", "int", "str", "tuple", "list", "dict"] → m ∈ ["int", "bool", "str", "tuple", "list"] → c = .ty m → u = .type m → b = (n == m || (n == "bool" && m == "int")) → wpAny (model X.prog X.w) X.A (call (.builtin "isinstance") us) (EP X pins σ Q) X.xe s := by
      rintro n m h1 h2 h3 rfl rfl rfl
      exact call_isi pins s σ H _ us Q I r ⟨_, _, _, _, _, rfl, .ty m, rep_ty hx' h1, kit_ty (kit_all n h2 m h3), q⟩
    cases t with
    | exc k => cases dx <;> first | (exact absurd ⟨_, rfl⟩ he) | cases hb
    | valueError => cases dx <;> first | (exact absurd ⟨_, rfl⟩ he) | cases hb
    | int =>
      obtain ⟨rfl, rfl⟩ := hc
      cases dx <;> first | (exact absurd ⟨_, rfl⟩ he) | (cases hb; exact main _ _ rfl (by decide) (by decide) rfl rfl (by decide)) | cases hb
    | bool =>
      obtain ⟨rfl, rfl⟩ := hc
      cases dx <;> first | (exact absurd ⟨_, rfl⟩ he) | (cases hb; exact main _ _ rfl (by decide) (by decide) rfl rfl (by decide)) | cases hb
    | str =>
      obtain ⟨rfl, rfl⟩ := hc
      cases dx <;> first | (exact absurd ⟨_, rfl⟩ he) | (cases hb; exact main _ _ rfl (by decide) (by decide) rfl rfl (by decide)) | cases hb
    | tuple =>
      obtain ⟨rfl, rfl⟩ := hc
      cases dx <;> first | (exact absurd ⟨_, rfl⟩ he) | (cases hb; exact main _ _ rfl (by decide) (by decide) rfl rfl (by decide)) | cases hb
    | list =>
      obtain ⟨rfl, rfl⟩ := hc
      cases dx <;> first | (exact absurd ⟨_, rfl⟩ he) | (cases hb; exact main _ _ rfl (by decide) (by decide) rfl rfl (by decide)) | cases hb
end
end GW
end

section
/-! C6: more calls by values; the context; the constructs one by one. -/
namespace GW
open PySem PySem.Spec PyProof.Rows L2

section
variable {X : Cx} {A : Cls}
theorem boolsv_reps {K : PySem.W.Frag} {S : Hp} : ∀ {ds : List D} {bs : List Bool} {vs : List V}, boolsv ds = some bs → Reps K A S ds vs → vs = bs.map V.bl
  | [], bs, vs, h, r => by
    cases h
    unfold Reps at r
    exact r
  | d :: ds, bs, vs, h, r => by
    cases d with
    | bl b =>
      unfold boolsv at h
      obtain ⟨bs', h1, rfl⟩ := Option.map_eq_some_iff.mp h
      unfold Reps at r
      obtain ⟨v, r', rfl, h2, h3⟩ := r
      cases h2.bl_inv
      rw [boolsv_reps h1 h3]
      rfl
    | _ => cases h
theorem cr_all_ (hc : X.calm = true) : CallR X (.builtin "all") (rL X.K A (biv .all)) := by
  intro pins s σ H xs us Q I r h
  obtain ⟨S, ds, sub, hx, z, hz, t⟩ := h
  unfold biv at hz
  split at hz <;> first | contradiction | skip
  obtain ⟨bs, h1, rfl⟩ := Option.map_eq_some_iff.mp hz
  obtain ⟨v, rfl, hv⟩ := reps_one hx
  obtain ⟨a, vs, rfl, h3, h4⟩ := hv.lst_inv
  cases boolsv_reps h1 h4
  exact cr_all hc pins s σ H _ us Q I r ⟨a, bs, rfl, .inl (Same.rd sub h3), t.now sub (Rep.bl _)⟩
theorem cr_any_ (hc : X.calm = true) : CallR X (.builtin "any") (rL X.K A (biv .any)) := by
  intro pins s σ H xs us Q I r h
  obtain ⟨S, ds, sub, hx, z, hz, t⟩ := h
  unfold biv at hz
  split at hz <;> first | contradiction | skip
  obtain ⟨bs, h1, rfl⟩ := Option.map_eq_some_iff.mp hz
  obtain ⟨v, rfl, hv⟩ := reps_one hx
  obtain ⟨a, vs, rfl, h3, h4⟩ := hv.lst_inv
  cases boolsv_reps h1 h4
  exact cr_any hc pins s σ H _ us Q I r ⟨a, bs, rfl, .inl (Same.rd sub h3), t.now sub (Rep.bl _)⟩
theorem cr_str : CallR X (.type "str") (rL X.K A (biv .str)) := by
  intro pins s σ H xs us Q I r h
  obtain ⟨S, ds, sub, hx, z, hz, t⟩ := h
  unfold biv at hz
  split at hz <;> first | contradiction | skip
  split at hz <;> first | contradiction | skip
  rename_i hl
  cases hz
  obtain ⟨v, rfl, hv⟩ := reps_one hx
  cases hv.int_inv
  exact call_str_int pins s σ H _ us Q I r ⟨_, rfl, hl, t.now sub (Rep.str _)⟩
theorem repsK_keys {K : PySem.W.Frag} {S : Hp} : ∀ {kvs : List (Str × D)} {es : List (Key × V)}, RepsK K A S kvs es → Reps K A S (kvs.map fun p => .str p.1) (es.map fun kv => kV kv.1) ∧ es.map (·.1) = (kvs.map (·.1)).map Sum.inr
  | [], _, h => by
    unfold RepsK at h
    subst h
    exact ⟨Reps.nil, rfl⟩
  | (k, d) :: r, _, h => by
    unfold RepsK at h
    obtain ⟨v, er, rfl, _, h2⟩ := h
    obtain ⟨g1, g2⟩ := repsK_keys h2
    exact ⟨Reps.cons (Rep.str k) g1, by rw [List.map_cons, List.map_cons, List.map_cons, g2]⟩
theorem Rep.dic_inv {K : PySem.W.Frag} {S : Hp} {kvs : List (Str × D)} {v : V} (h : Rep K A S (.dic kvs) v) : ∃ a es, v = .ref a ∧ DicR K S a es ∧ RepsK K A S kvs es := by unfold Rep at h; exact h
theorem cr_list (hc : X.calm = true) : CallR X (.type "list") (rL X.K A (biv .list)) := by
  intro pins s σ H xs us Q I r h
  obtain ⟨S, ds, sub, hx, z, hz, t⟩ := h
  unfold biv at hz
  split at hz <;> first | contradiction | skip
  · cases hz
    obtain ⟨v, rfl, hv⟩ := reps_one hx
    obtain ⟨a, vs, rfl, h3, h4⟩ := hv.lst_inv
    exact call_list_of pins s σ H _ us Q I r ⟨a, vs, rfl, .inl (.inl (Same.rd sub h3)), t.lst sub h4⟩
  · cases hz
    obtain ⟨v, rfl, hv⟩ := reps_one hx
    obtain ⟨a, vs, rfl, h3, h4⟩ := hv.tup_inv
    exact call_list_of pins s σ H _ us Q I r ⟨a, vs, rfl, .inr (Same.sqt sub h3), t.lst sub h4⟩
  · cases hz
    obtain ⟨v, rfl, hv⟩ := reps_one hx
    obtain ⟨a, es, rfl, h3, h4⟩ := hv.dic_inv
    exact call_listD hc pins s σ H _ us Q I r ⟨a, es, rfl, (DicR.mono sub h3).rd, t.lst sub (repsK_keys h4).1⟩
/-! ### dicts -/
theorem repsK_any {K : PySem.W.Frag} {S : Hp} {k : Str} : ∀ {kvs : List (Str × D)} {es : List (Key × V)}, RepsK K A S kvs es → (es.any fun kv => decide (kv.1 = .inr k)) = kvs.any fun x => x.1 == k
  | [], _, h => by
    unfold RepsK at h
    subst h
    rfl
  | (j, d) :: r, _, h => by
    unfold RepsK at h
    obtain ⟨v, er, rfl, _, h2⟩ := h
    rw [List.any_cons, List.any_cons, repsK_any h2]
    congr 1
    by_cases e : j = k
    · subst e; simp
    · have e' : ¬ (Sum.inr j : Key) = Sum.inr k := fun z => e (by cases z; rfl)
      simp [e, e']
theorem repsK_set {K : PySem.W.Frag} {S : Hp} {k : Str} {d : D} {v : V} (r : Rep K A S d v) : ∀ {kvs : List (Str × D)} {es : List (Key × V)}, RepsK K A S kvs es →
    RepsK K A S (kvs.map fun x => if x.1 == k then (x.1, d) else x) (es.map fun kv => if kv.1 = .inr k then (kv.1, v) else kv)
  | [], _, h => by
    unfold RepsK at h
    subst h
    unfold RepsK
    rfl
  | (j, d0) :: t, _, h => by
    unfold RepsK at h
    obtain ⟨w, er, rfl, h1, h2⟩ := h
    rw [List.map_cons, List.map_cons]
    have ih := repsK_set (k := k) r h2
    by_cases e : j = k
    · subst e
      simp only [beq_self_eq_true, if_true]
      unfold RepsK
      exact ⟨_, _, rfl, r, ih⟩
    · have e' : ¬ (Sum.inr j : Key) = Sum.inr k := fun z => e (by cases z; rfl)
      have e2 : (j == k) = false := by simp [e]
      simp only [e2, e', if_false]
      unfold RepsK
      exact ⟨_, _, rfl, h1, ih⟩
theorem repsK_app {K : PySem.W.Frag} {S : Hp} : ∀ {kvs kvs2 : List (Str × D)} {es es2 : List (Key × V)}, RepsK K A S kvs es → RepsK K A S kvs2 es2 → RepsK K A S (kvs ++ kvs2) (es ++ es2)
  | [], _, _, _, h, g => by
    unfold RepsK at h
    subst h
    exact g
  | (j, d0) :: t, _, _, _, h, g => by
    unfold RepsK at h
    obtain ⟨w, er, rfl, h1, h2⟩ := h
    rw [List.cons_append, List.cons_append]
    unfold RepsK
    exact ⟨_, _, rfl, h1, repsK_app h2 g⟩
theorem repsK_put {K : PySem.W.Frag} {S : Hp} {k : Str} {d : D} {v : V} {kvs : List (Str × D)} {es : List (Key × V)} (h : RepsK K A S kvs es) (r : Rep K A S d v) : RepsK K A S (dput k d kvs) (putK es (.inr k) v) := by
  unfold dput putK
  rw [repsK_any h]
  by_cases e : (kvs.any fun x => x.1 == k) = true
  · rw [if_pos e, if_pos e]
    exact repsK_set r h
  · rw [if_neg e, if_neg e]
    refine repsK_app h ?_
    unfold RepsK
    refine ⟨v, [], rfl, r, ?_⟩
    unfold RepsK
    rfl
theorem repsK_merge {K : PySem.W.Frag} {S : Hp} : ∀ {more kvs : List (Str × D)} {me es : List (Key × V)}, RepsK K A S more me → RepsK K A S kvs es → RepsK K A S (more.foldl (fun a p => dput p.1 p.2 a) kvs) (mergeK es me)
  | [], _, _, _, h, g => by
    unfold RepsK at h
    subst h
    exact g
  | (j, d0) :: t, _, _, _, h, g => by
    unfold RepsK at h
    obtain ⟨w, er, rfl, h1, h2⟩ := h
    show RepsK K A S (t.foldl (fun a p => dput p.1 p.2 a) (dput j d0 _)) (mergeK (putK _ (.inr j) w) er)
    exact repsK_merge h2 (repsK_put g h1)
theorem prs_reps {K : PySem.W.Frag} {S : Hp} : ∀ {ds : List D} {kvs : List (Str × D)} {vs : List V}, prs ds = some kvs → Reps K A S ds vs →
    ∃ (ps : List Addr) (es : List (Key × V)), vs = ps.map V.ref ∧ RepsK K A S kvs es ∧ Paired (fun p kv => SqT K S p [kV kv.1, kv.2]) ps es
  | [], kvs, vs, h, r => by
    cases h
    unfold Reps at r
    subst r
    exact ⟨[], [], rfl, by unfold RepsK; rfl, .nil⟩
  | d :: ds, kvs, vs, h, r => by
    unfold prs at h
    split at h <;> first | contradiction | skip
    · rename_i s d0 r0 q
      cases q
      obtain ⟨kvs', h1, rfl⟩ := Option.map_eq_some_iff.mp h
      unfold Reps at r
      obtain ⟨v, vr, rfl, hv, hr⟩ := r
      obtain ⟨p, us, rfl, g1, g2⟩ := hv.tup_inv
      unfold Reps at g2
      obtain ⟨w1, us, rfl, k1, g2⟩ := g2
      obtain ⟨w2, rfl, k2⟩ := reps_one g2
      cases k1.str_inv
      obtain ⟨ps, es, rfl, e2, e3⟩ := prs_reps h1 hr
      refine ⟨p :: ps, (.inr s, w2) :: es, rfl, ?_, .cons g1 e3⟩
      unfold RepsK
      exact ⟨_, _, rfl, k2, e2⟩
theorem paired_up {K : PySem.W.Frag} {S H : Hp} (sub : Same S H) : ∀ {ps : List Addr} {es : List (Key × V)}, Paired (fun p (kv : Key × V) => SqT K S p [kV kv.1, kv.2]) ps es → Paired (fun p (kv : Key × V) => SqT K H p [kV kv.1, kv.2]) ps es
  | _, _, .nil => .nil
  | _, _, .cons h t => .cons (Same.sqt sub h) (paired_up sub t)
theorem cr_dict_ (hc : X.calm = true) : CallR X (.type "dict") (rL X.K A (biv .dict)) := by
  intro pins s σ H xs us Q I r h
  obtain ⟨S, ds, sub, hx, z, hz, t⟩ := h
  unfold biv at hz
  split at hz <;> first | contradiction | skip
  · obtain ⟨kvs, h1, rfl⟩ := Option.map_eq_some_iff.mp hz
    obtain ⟨v, rfl, hv⟩ := reps_one hx
    obtain ⟨a, vs, rfl, h3, h4⟩ := hv.lst_inv
    obtain ⟨ps, es, rfl, e2, e3⟩ := prs_reps h1 h4
    exact call_dictP hc pins s σ H _ us Q I r ⟨a, ps, es, rfl, .inl (Same.rd sub h3), paired_up sub e3, t.dic sub (repsK_merge e2 (by unfold RepsK; rfl))⟩
  · cases hz
    obtain ⟨v, rfl, hv⟩ := reps_one hx
    obtain ⟨a, es, rfl, h3, h4⟩ := hv.dic_inv
    exact call_dictD pins s σ H _ us Q I r ⟨a, es, rfl, (DicR.mono sub h3).rd, t.dic sub h4⟩
theorem sortX_le (a b : Str) : PySem.W.dataLe false PySem.PyData.str a b = !decide (b.cps.toList < a.cps.toList) := by
  show (!PySem.W.dataLt (.str b) (.str a)) = _
  rw [PySem.W.dataLt_str]
theorem sortX_tr {a b c : Str} (h : PySem.W.dataLe false PySem.PyData.str a b = true) (g : PySem.W.dataLe false PySem.PyData.str b c = true) : PySem.W.dataLe false PySem.PyData.str a c = true := by
  rw [sortX_le] at h g ⊢
  simp only [Bool.not_eq_true', decide_eq_false_iff_not, List.not_lt] at h g ⊢
  exact List.le_trans h g
theorem rising_pw : ∀ (p : Str) (l : List Str), risingS p l = true → (p :: l).Pairwise fun a b => PySem.W.dataLe false PySem.PyData.str a b = true
  | p, [], _ => List.pairwise_singleton _ _
  | p, x :: r, h => by
    unfold risingS at h
    rw [Bool.and_eq_true, ltCps_eq] at h
    have ih := rising_pw x r h.2
    have px : PySem.W.dataLe false PySem.PyData.str p x = true := by rw [sortX_le]; exact h.1
    refine List.pairwise_cons.mpr ⟨fun y hy => ?_, ih⟩
    rcases List.mem_cons.mp hy with rfl | hy
    · exact px
    · exact sortX_tr px ((List.pairwise_cons.mp ih).1 y hy)
theorem sortX_the {ys ks : List Str} (h : ys.Perm ks) (q : sortedS ys = true) : ys = sortX ks := by
  refine PySem.W.Srt.the_of_perm (PySem.W.dataLe false PySem.PyData.str) (fun a b c => sortX_tr) (fun a b => ?_) (fun a b h1 h2 => ?_) h ?_
  · rw [sortX_le, sortX_le, Bool.or_eq_true]
    simp only [Bool.not_eq_true', decide_eq_false_iff_not, List.not_lt]
    exact List.le_total _ _
  · rw [sortX_le] at h1 h2
    simp only [Bool.not_eq_true', decide_eq_false_iff_not, List.not_lt] at h1 h2
    have e := List.le_antisymm h1 h2
    obtain ⟨⟨a⟩⟩ := a
    obtain ⟨⟨b⟩⟩ := b
    have e : a = b := e
    rw [e]
  · cases ys with
    | nil => exact List.Pairwise.nil
    | cons x r => exact rising_pw x r q
theorem cr_tuple : CallR X (.type "tuple") (rL X.K A (biv .tuple)) := by
  intro pins s σ H xs us Q I r h
  obtain ⟨S, ds, sub, hx, z, hz, t⟩ := h
  unfold biv at hz
  split at hz <;> first | contradiction | skip
  · cases hz
    obtain ⟨v, rfl, hv⟩ := reps_one hx
    obtain ⟨a, vs, rfl, h3, h4⟩ := hv.lst_inv
    exact call_tuple_of pins s σ H _ us Q I r ⟨a, vs, rfl, .inl ⟨.inl (Same.rd sub h3), t.tup sub h4⟩⟩
  · cases hz
    obtain ⟨v, rfl, hv⟩ := reps_one hx
    have hv' := hv
    obtain ⟨a, vs, rfl, h3, h4⟩ := hv'.tup_inv
    exact call_tuple_of pins s σ H _ us Q I r ⟨a, vs, rfl, .inr ⟨Same.sqt sub h3, t.now sub hv⟩⟩
def Bi.py : Bi → Str
  | .len => "len"
  | .abs => "abs"
  | .str => "str"
  | .int => "int"
  | .list => "list"
  | .tuple => "tuple"
  | .sorted => "sorted"
  | .sset => "set"
  | .all => "all"
  | .any => "any"
  | .sum => "sum"
  | .min => "min"
  | .max => "max"
  | .dict => "dict"
def Bi.val : Bi → Value
  | .len => .builtin "len"
  | .abs => .builtin "abs"
  | .str => .type "str"
  | .int => .type "int"
  | .list => .type "list"
  | .tuple => .type "tuple"
  | .sorted => .builtin "sorted"
  | .sset => .type "set"
  | .all => .builtin "all"
  | .any => .builtin "any"
  | .sum => .builtin "sum"
  | .min => .builtin "min"
  | .max => .builtin "max"
  | .dict => .type "dict"
theorem Bi.boot (b : Bi) : bootBuiltins b.py = some b.val := by cases b <;> decide +kernel
theorem Bi.named (b : Bi) : b.py ∈ bnames := by cases b <;> decide +kernel
/-! ### sorted -/
theorem insB_srtd {α : Type} {lt : α → α → Bool} (O : SrtO.Swo lt) (x : α) : ∀ {l : List α}, SrtO.Srtd lt l → SrtO.Srtd lt (insB lt x l) ∧ ∀ z, z ∈ insB lt x l → z = x ∨ z ∈ l
  | [], _ => ⟨SrtO.srtd_one x, fun z hz => .inl (List.mem_singleton.mp hz)⟩
  | y :: l, h => by
    obtain ⟨i1, i2⟩ := insB_srtd O x (l := l) (List.pairwise_cons.mp h).2
    unfold insB
    split
    · rename_i e
      refine ⟨List.pairwise_cons.mpr ⟨fun z hz => ?_, i1⟩, fun z hz => ?_⟩
      · rcases i2 z hz with rfl | hz
        · exact O.asym y z e
        · exact SrtO.srtd_head h z hz
      · rcases List.mem_cons.mp hz with rfl | hz
        · exact .inr List.mem_cons_self
        · exact (i2 z hz).imp id fun m => List.mem_cons_of_mem _ m
    · rename_i e
      have e : lt y x = false := by simpa using e
      refine ⟨List.pairwise_cons.mpr ⟨fun z hz => ?_, h⟩, fun z hz => List.mem_cons.mp hz⟩
      rcases List.mem_cons.mp hz with rfl | hz
      · exact e
      · exact O.tr x y z e (SrtO.srtd_head h z hz)
theorem insB_stb {α : Type} {lt : α → α → Bool} (O : SrtO.Swo lt) (x : α) : ∀ (l : List α), SrtO.Stb lt (insB lt x l) (x :: l)
  | [] => SrtO.Stb.refl _
  | y :: l => by
    unfold insB
    split
    · rename_i e
      have a : SrtO.Stb lt (y :: insB lt x l) (y :: x :: l) := (SrtO.Stb.refl [y]).app (insB_stb O x l)
      refine a.trans ?_
      have b : SrtO.Stb lt ([y] ++ [x]) ([x] ++ [y]) := SrtO.Stb.swap O fun p hp q hq => by
        rw [List.mem_singleton.mp hp, List.mem_singleton.mp hq]
        exact e
      exact b.app (SrtO.Stb.refl l)
    · exact SrtO.Stb.refl _
theorem sortB_ok {α : Type} {lt : α → α → Bool} (O : SrtO.Swo lt) : ∀ (l : List α), SrtO.Srtd lt (sortB lt l) ∧ SrtO.Stb lt (sortB lt l) l
  | [] => ⟨List.Pairwise.nil, SrtO.Stb.refl _⟩
  | x :: l => by
    obtain ⟨h1, h2⟩ := sortB_ok O l
    exact ⟨(insB_srtd O x h1).1, (insB_stb O x (sortB lt l)).trans ((SrtO.Stb.refl [x]).app h2)⟩
/-- two lists go together -/
inductive Par {α β : Type} (R : α → β → Prop) : List α → List β → Prop
  | nil : Par R [] []
  | cons {x : α} {y : β} {xs : List α} {ys : List β} (h : R x y) (t : Par R xs ys) : Par R (x :: xs) (y :: ys)
theorem Par.ins {α β : Type} {R : α → β → Prop} {l1 : α → α → Bool} {l2 : β → β → Bool} (e : ∀ x y x' y', R x y → R x' y' → l1 x x' = l2 y y') {x : α} {y : β} (h : R x y) : ∀ {xs : List α} {ys : List β}, Par R xs ys → Par R (insB l1 x xs) (insB l2 y ys)
  | _, _, .nil => .cons h .nil
  | _, _, .cons (x := x') (y := y') h' t => by
    unfold insB
    rw [e _ _ _ _ h' h]
    split
    · exact .cons h' (Par.ins e h t)
    · exact .cons h (.cons h' t)
theorem Par.sort {α β : Type} {R : α → β → Prop} {l1 : α → α → Bool} {l2 : β → β → Bool} (e : ∀ x y x' y', R x y → R x' y' → l1 x x' = l2 y y') : ∀ {xs : List α} {ys : List β}, Par R xs ys → Par R (sortB l1 xs) (sortB l2 ys)
  | _, _, .nil => .nil
  | _, _, .cons h t => Par.ins e h (Par.sort e t)
theorem pair_uniq {h : Heap} {u : Value} {i j i' j' : Int} (p : Srt.IsPair h u i j) (q : Srt.IsPair h u i' j') : i = i' ∧ j = j' := by
  obtain ⟨a, o, t1, t2, n, rfl, ho, hc, hd⟩ := p
  obtain ⟨a', o', t1', t2', n', e, ho', hc', hd'⟩ := q
  cases e
  rw [ho] at ho'
  cases ho'
  rw [hd] at hd'
  injection hd' with d1 _
  have d2 : [Value.int i t1, Value.int j t2] = [Value.int i' t1', Value.int j' t2'] := congrArg Array.toList d1
  injection d2 with d3 d4
  injection d4 with d5 _
  injection d3 with d3 _
  injection d5 with d5 _
  exact ⟨d3, d5⟩
open Classical in
/-- the two ints that a value stands for -/
noncomputable def kV (h : Heap) (u : Value) : Int × Int := if z : ∃ p : Int × Int, Srt.IsPair h u p.1 p.2 then z.choose else (0, 0)
theorem kV_eq {h : Heap} {u : Value} {i j : Int} (p : Srt.IsPair h u i j) : kV h u = (i, j) := by
  have z : ∃ p : Int × Int, Srt.IsPair h u p.1 p.2 := ⟨(i, j), p⟩
  unfold kV
  rw [dif_pos z]
  obtain ⟨e1, e2⟩ := pair_uniq z.choose_spec p
  exact Prod.ext e1 e2
/-- a thing and what holds it -/
structure PairR (K : PySem.W.Frag) (A : Cls) (S : Hp) (h : Heap) (d : D) (u : Value) : Prop where
  rep : Rep K A S d (backV u)
  ref : ∃ a, u = Value.ref a
  pr : Srt.IsPair h u (kD d).1 (kD d).2
theorem Par.reps {K : PySem.W.Frag} {S : Hp} {h : Heap} : ∀ {ds : List D} {us : List Value}, Par (PairR K A S h) ds us → Reps K A S ds (us.map backV) ∧ ∀ u ∈ us, ∃ a, u = Value.ref a
  | _, _, .nil => ⟨by unfold Reps; rfl, fun u hu => absurd hu (by simp)⟩
  | _, _, .cons p t => by
    obtain ⟨h1, h2⟩ := Par.reps t
    refine ⟨?_, fun u hu => ?_⟩
    · unfold Reps
      exact ⟨_, _, rfl, p.rep, h1⟩
    · rcases List.mem_cons.mp hu with rfl | hu
      · exact p.ref
      · exact h2 u hu
theorem par_of {pins : List (Addr × Obj)} {σ : L2.St} {H S : Hp} {s : Shared} (I : Inv X pins σ H s) (sub : Same S H) : ∀ {ds : List D} {vs : List V} {us : List Value}, Reps X.K A S ds vs → Vals vs us → ((ds.all fun x => (p2? x).isSome) = true) → Par (PairR X.K A S s.heap) ds us
  | [], vs, us, r, v, _ => by
    unfold Reps at r
    subst r
    cases v
    exact .nil
  | d :: ds, vs, us, r, v, h => by
    unfold Reps at r
    obtain ⟨w, vs', rfl, r1, r2⟩ := r
    cases v with
    | @cons _ u _ us v1 v2 =>
      rw [List.all_cons, Bool.and_eq_true] at h
      refine .cons ?_ (par_of I sub r2 v2 h.2)
      have hp := h.1
      unfold p2? at hp
      split at hp <;> first | cases hp | skip
      rename_i i j
      obtain ⟨a, xs, rfl, g1, g2⟩ := r1.tup_inv
      obtain rfl : u = Value.ref a := v1
      obtain ⟨its, e1, ⟨o, e2, e3, n, e4⟩, _⟩ := I.tuple (Same.sqt sub g1)
      unfold Reps at g2
      obtain ⟨x1, xs1, rfl, q1, g2⟩ := g2
      unfold Reps at g2
      obtain ⟨x2, xs2, rfl, q2, g2⟩ := g2
      unfold Reps at g2
      subst g2
      cases q1.int_inv
      cases q2.int_inv
      obtain ⟨u1, u2, rfl, ⟨t1, rfl⟩, ⟨t2, rfl⟩⟩ := vals2 e1
      exact ⟨r1, ⟨a, rfl⟩, ⟨a, o, t1, t2, n, rfl, e2, e3, e4⟩⟩
/-! ### sorted, min of any alike data -/
/-- a thing and a value that stands for it -/
def StV (K : PySem.W.Frag) (A : Cls) (S : Hp) (u : Value) (d : D) : Prop := ∃ v, RelV v u ∧ Rep K A S d v
theorem each_of {K : PySem.W.Frag} {S : Hp} : ∀ {ds : List D} {vs : List V} {us : List Value}, Reps K A S ds vs → Vals vs us → PySem.W.EachIs (StV K A S) us ds
  | [], vs, us, r, v => by
    unfold Reps at r
    subst r
    cases v
    exact .nil
  | d :: ds, vs, us, r, v => by
    unfold Reps at r
    obtain ⟨w, vs', rfl, r1, r2⟩ := r
    cases v with
    | cons v1 v2 => exact .cons ⟨_, v1, r1⟩ (each_of r2 v2)
theorem each_back {K : PySem.W.Frag} {S : Hp} : ∀ {ds : List D} {us : List Value}, PySem.W.EachIs (StV K A S) us ds → ∃ vs, Reps K A S ds vs ∧ Vals vs us
  | _, _, .nil => ⟨[], by unfold Reps; rfl, .nil⟩
  | _, _, .cons ⟨v, h1, h2⟩ t => by
    obtain ⟨vs, g1, g2⟩ := each_back t
    refine ⟨v :: vs, ?_, .cons h1 g2⟩
    unfold Reps
    exact ⟨_, _, rfl, h2, g1⟩
theorem deps_mem {x : D} : ∀ {xs : List D}, x ∈ xs → D.dep x ≤ D.deps xs
  | y :: ys, h => by
    unfold D.deps
    rcases List.mem_cons.mp h with rfl | h
    · omega
    · have := deps_mem h
      omega
theorem alikeD_of {xs : List D} (h : alikeD xs = true) : (∀ x ∈ xs, ∀ y ∈ xs, PySem.W.alike x.py y.py = true) ∧ D.deps xs ≤ 50 := by
  unfold alikeD at h
  simp only [Bool.and_eq_true, List.all_eq_true, decide_eq_true_eq] at h
  exact h
theorem each_reads {pins : List (Addr × Obj)} {σ : L2.St} {H S : Hp} {s : Shared} (I : Inv X pins σ H s) (sub : Same S H) : ∀ {ds : List D} {us : List Value}, D.deps ds ≤ 50 → PySem.W.EachIs (StV X.K A S) us ds → PySem.W.EachIs (fun v b => ∃ as, Reads s.heap v (D.py b) as) us ds
  | _, _, _, .nil => .nil
  | d :: ds, u :: us, h, .cons ⟨v, h1, h2⟩ t => by
    unfold D.deps at h
    exact .cons (Dp.reads I _ _ _ (Rep.dp d v (by omega) (Rep.mono sub _ _ h2)) h1) (each_reads I sub (by omega) t)
theorem cr_sortedD (hu : X.A.units + 65 < cLine) {pins : List (Addr × Obj)} {σ : L2.St} {H S : Hp} {s : Shared} {Q : VK} {ds : List D} {vs : List V} {a : Addr} (I : Inv X pins σ H s) (sub : Same S H) (h3 : Rd S a (.lst vs)) (h4 : Reps X.K A S ds vs) (ok : okSort ds = true)
    (t : Tells X.K A (.lst (ds.mergeSort (PySem.W.dataLe false D.py)), true) S H Q) : wpAny (model X.prog X.w) X.A (call (.builtin "sorted") [.ref a]) (EP X pins σ Q) X.xe s := by
  obtain ⟨its, rv, hl, hz⟩ := I.list (.inl (Same.rd sub h3))
  have e := each_of h4 rv
  unfold okSort at ok
  rw [Bool.and_eq_true] at ok
  obtain ⟨h1, h2⟩ := alikeD_of ok.1
  have hal : PySem.W.AllAlike (ds.map D.py) := fun d hd d' hd' => by
    obtain ⟨x, hx, rfl⟩ := List.mem_map.mp hd
    obtain ⟨y, hy, rfl⟩ := List.mem_map.mp hd'
    exact h1 x hx y hy
  have hk : PySem.W.Sortable (ds.map D.py) := by
    have k := ok.2
    rw [Bool.or_eq_true, List.all_eq_true, List.all_eq_true] at k
    rcases k with k | k
    · refine .inl fun d hd => ?_
      obtain ⟨x, hx, rfl⟩ := List.mem_map.mp hd
      have := k x hx
      unfold tupNE at this
      split at this
      · exact ⟨_, _, rfl⟩
      · cases this
    · refine .inr fun d hd => ?_
      obtain ⟨x, hx, rfl⟩ := List.mem_map.mp hd
      have q := k x hx
      have q2 := deps_mem hx
      cases x with
      | non => cases q
      | tup _ => cases q
      | bl b => exact ⟨fun z => (by cases z), fun _ z => (by cases z)⟩
      | int b => exact ⟨fun z => (by cases z), fun _ z => (by cases z)⟩
      | str b => exact ⟨fun z => (by cases z), fun _ z => (by cases z)⟩
      | lst b => exact ⟨fun z => (by cases z), fun _ z => (by cases z)⟩
      | dic _ => unfold D.dep at q2; omega
      | exc _ => unfold D.dep at q2; omega
      | ins _ _ => unfold D.dep at q2; omega
  have hlen : ds.length ≤ sizeLine := by rw [← e.length, ← rv.length]; exact hz
  refine PySem.W.sorted_data (bs := ds) (enc := D.py) (R := StV X.K A S) hl.isList e (each_reads I sub h2 e) hal hk hlen (fun b hb => ?_) fun out ho hr => ?_
  · have q := deps_mem hb
    have := (dep_shape b 60 (by omega) (by omega)).2
    have := (dep_shape b 50 (by omega) (by omega)).2
    omega
  · obtain ⟨vs', g1, g2⟩ := each_back hr
    obtain ⟨ep, he'⟩ := PyProof.Rows.sortedAll_at s.heap its out.toArray
    have hlen' : vs'.length ≤ sizeLine := by rw [g2.length, ho]; exact hlen
    exact ⟨.ref _, upd H (s.heap.objs.size + 1) (.lst vs'), I.laid (t' := s.toks) (fun _ _ => PyProof.Rows.sortedAll_old) (Nat.le_succ _) ⟨hlen', out, ep, g2, he'⟩, rfl, t.lst sub g1 _ (I.hok.fresh (Nat.le_succ _))⟩
mutual
theorem py_inj : ∀ (d e : D), d.dep < 100 → e.dep < 100 → d.py = e.py → d = e
  | .non, e, _, q, h => by cases e <;> first | rfl | (exfalso; unfold D.dep at q; omega) | (unfold D.py at h; cases h)
  | .bl _, e, _, q, h => by cases e <;> first | (unfold D.py at h; cases h; rfl) | (unfold D.py at h; cases h)
  | .int _, e, _, q, h => by cases e <;> first | (unfold D.py at h; cases h; rfl) | (unfold D.py at h; cases h)
  | .str _, e, _, q, h => by cases e <;> first | (unfold D.py at h; cases h; rfl) | (unfold D.py at h; cases h)
  | .tup xs, e, p, q, h => by
    cases e with
    | tup ys =>
      unfold D.py at h
      unfold D.dep at p q
      injection h with h
      rw [pys_inj xs ys (by omega) (by omega) h]
    | _ => unfold D.py at h; cases h
  | .lst xs, e, p, q, h => by
    cases e with
    | lst ys =>
      unfold D.py at h
      unfold D.dep at p q
      injection h with h
      rw [pys_inj xs ys (by omega) (by omega) h]
    | _ => unfold D.py at h; cases h
  | .dic _, _, p, _, _ => by unfold D.dep at p; omega
  | .exc _, _, p, _, _ => by unfold D.dep at p; omega
  | .ins _ _, _, p, _, _ => by unfold D.dep at p; omega
theorem pys_inj : ∀ (ds es : List D), D.deps ds < 100 → D.deps es < 100 → D.pys ds = D.pys es → ds = es
  | [], [], _, _, _ => rfl
  | [], e :: es, _, _, h => by unfold D.pys at h; cases h
  | d :: ds, [], _, _, h => by unfold D.pys at h; cases h
  | d :: ds, e :: es, p, q, h => by
    unfold D.pys at h
    unfold D.deps at p q
    injection h with h1 h2
    rw [py_inj d e (by omega) (by omega) h1, pys_inj ds es (by omega) (by omega) h2]
end
theorem pys_map : ∀ (ds : List D), D.pys ds = ds.map D.py
  | [] => by unfold D.pys; rfl
  | d :: ds => by
    unfold D.pys
    rw [pys_map ds]
    rfl
theorem min_py : ∀ (xs : List D) (x : D), PySem.W.minD x.py (xs.map D.py) = (minD' x xs).py
  | [], x => rfl
  | y :: xs, x => by
    have ih := min_py xs
    unfold PySem.W.minD minD' at *
    rw [List.map_cons, List.foldl_cons, List.foldl_cons]
    rw [← ih]
    split <;> rfl
theorem min_in : ∀ (xs : List D) (x : D), minD' x xs ∈ x :: xs
  | [], x => List.mem_singleton.mpr rfl
  | y :: xs, x => by
    have ih := min_in xs
    unfold minD' at *
    rw [List.foldl_cons]
    rcases List.mem_cons.mp (ih (if PySem.W.dataLt y.py x.py then y else x)) with h | h
    · rw [h]
      split
      · exact List.mem_cons_of_mem _ List.mem_cons_self
      · exact List.mem_cons_self
    · exact List.mem_cons_of_mem _ (List.mem_cons_of_mem _ h)
theorem each_readsAll : ∀ {h : Heap} {us : List Value} {ds : List D}, PySem.W.EachIs (fun v b => ∃ as, Reads h v (D.py b) as) us ds → ∃ as, ReadsAll h us (ds.map D.py) as
  | _, _, _, .nil => ⟨[], .nil⟩
  | _, _, _, .cons ⟨as, h1⟩ t => by
    obtain ⟨bs, h2⟩ := each_readsAll t
    exact ⟨as ++ bs, .cons h1 h2⟩
theorem each_at {R : Value → D → Prop} : ∀ {us : List Value} {ds : List D}, PySem.W.EachIs R us ds → ∀ (i : Nat) (u : Value), us[i]? = some u → ∃ d, ds[i]? = some d ∧ R u d
  | _, _, .nil, i, u, h => by cases h
  | _, _, .cons h1 t, 0, u, h => by
    cases h
    exact ⟨_, rfl, h1⟩
  | _, _, .cons h1 t, i + 1, u, h => each_at t i u h
theorem cr_minD (hc : X.calm = true) (hu : X.A.units + 65 < cLine) : CallR X (.builtin "min") (rL X.K A (biv .min)) := by
  intro pins s σ H xs us Q I r h
  obtain ⟨S, ds, sub, hx, z, hz, t⟩ := h
  unfold biv at hz
  split at hz <;> first | contradiction | skip
  split at hz <;> first | contradiction | skip
  rename_i x0 xs0 _ hok
  cases hz
  obtain ⟨v, rfl, hv⟩ := reps_one hx
  obtain ⟨a, vs, rfl, h3, h4⟩ := hv.lst_inv
  obtain ⟨its, rv, hl, hz⟩ := I.list (.inl (Same.rd sub h3))
  rw [Vals.ref1 r]
  rw [Bool.and_eq_true] at hok
  obtain ⟨h1, h2⟩ := alikeD_of hok.1
  have e := each_of h4 rv
  have er := each_reads I sub h2 e
  obtain ⟨as, hr⟩ := each_readsAll er
  have hnn := hok.2
  rw [List.all_eq_true] at hnn
  have hal : PySem.W.AlikeAll ((x0 :: xs0).map D.py) := by
    refine ⟨fun d hd d' hd' => ?_, fun d hd => ?_⟩
    · obtain ⟨x, hx, rfl⟩ := List.mem_map.mp hd
      obtain ⟨y, hy, rfl⟩ := List.mem_map.mp hd'
      exact h1 x hx y hy
    · obtain ⟨x, hx, rfl⟩ := List.mem_map.mp hd
      have q := hnn x hx
      have q2 := deps_mem hx
      cases x with
      | non => cases q
      | dic _ => unfold D.dep at q2; omega
      | exc _ => unfold D.dep at q2; omega
      | ins _ _ => unfold D.dep at q2; omega
      | _ => intro z; unfold D.py at z; cases z
  have hdep : PyData.depthAll ((x0 :: xs0).map D.py) ≤ 50 := by
    have := (deps_shape (x0 :: xs0) 50 (by omega) h2).2
    rwa [pys_map] at this
  refine PySem.W.min_list_data (x := x0.py) (xs := xs0.map D.py) (as := as) (I.ok.hd hc) hl.isList (by simpa using hr) hal (by have : PyData.depthAll (x0.py :: xs0.map D.py) ≤ 50 := hdep; omega) fun i v h' tk bs hi hv' hk => ?_
  obtain ⟨d, hd, w, hw1, hw2⟩ := each_at e i v (by simpa using hi)
  obtain ⟨d2, hd2, as2, hr2⟩ := each_at er i v (by simpa using hi)
  rw [hd] at hd2
  cases hd2
  have hdm : d ∈ x0 :: xs0 := List.mem_of_getElem? hd
  have hmm := min_in xs0 x0
  rw [min_py] at hv'
  have eq : d.py = (minD' x0 xs0).py := PySem.W.alike_unique _ _ _ _ _ (h1 _ hdm _ hmm) (PyProof.Rows.Reads.keeps hk hr2) hv'
  have b1 := deps_mem hdm
  have b2 := deps_mem hmm
  have ed := py_inj d _ (by omega) (by omega) eq
  subst ed
  exact ⟨w, H, I.kept hk, hw1, t.now sub hw2⟩
theorem reps_strs {K : PySem.W.Frag} {S : Hp} : ∀ ss : List Str, Reps K A S (ss.map .str) (ss.map V.str)
  | [] => Reps.nil
  | s :: ss => Reps.cons (Rep.str s) (reps_strs ss)
theorem cr_sorted_ (hc : X.calm = true) (hu : X.A.units + 65 < cLine) : CallR X (.builtin "sorted") (rL X.K A (biv .sorted)) := by
  intro pins s σ H xs us Q I r h
  obtain ⟨S, ds, sub, hx, z, hz, t⟩ := h
  unfold biv at hz
  split at hz <;> first | contradiction | skip
  rotate_left
  · split at hz <;> first | contradiction | skip
    rename_i hlen
    cases hz
    obtain ⟨v, rfl, hv⟩ := reps_one hx
    obtain ⟨a, es, rfl, h3, h4⟩ := hv.dic_inv
    refine call_sortedD hc pins s σ H _ us Q I r ⟨a, es, _, rfl, (DicR.mono sub h3).rd, (repsK_keys h4).2, by rw [List.length_map]; exact hlen, fun ys p h1 h2 hp => ?_⟩
    rw [sortX_the h1 h2]
    exact t.lst sub (reps_strs _) p hp
  split at hz
  rotate_left
  · split at hz <;> first | contradiction | skip
    rename_i hok
    cases hz
    obtain ⟨v, rfl, hv⟩ := reps_one hx
    obtain ⟨a, vs, rfl, h3, h4⟩ := hv.lst_inv
    rw [Vals.ref1 r]
    exact cr_sortedD hu I sub h3 h4 hok t
  rename_i hall
  cases hz
  obtain ⟨v, rfl, hv⟩ := reps_one hx
  obtain ⟨a, vs, rfl, h3, h4⟩ := hv.lst_inv
  obtain ⟨its, rv, hl, hz⟩ := I.list (.inl (Same.rd sub h3))
  obtain ⟨u, rfl, ru⟩ := vals1 r
  obtain rfl : u = Value.ref a := ru
  have pa := par_of (A := A) I sub h4 rv hall
  obtain ⟨_, e2⟩ := pa.reps
  refine SrtO.sorted_pairsO (k := kV s.heap) hl.isList (by rw [← rv.length]; exact hz) (fun v hv => ?_) fun h' d out h1 h2 kp hd hn => ?_
  · have key : ∀ {ds : List D} {us : List Value}, Par (PairR X.K A S s.heap) ds us → ∀ v ∈ us, ∃ i j, Srt.IsPair s.heap v i j := by
      intro ds us p
      induction p with
      | nil => intro v hv; exact absurd hv (by simp)
      | cons q _ ih =>
        intro v hv
        rcases List.mem_cons.mp hv with rfl | hv
        · exact ⟨_, _, q.pr⟩
        · exact ih v hv
    obtain ⟨i, j, p⟩ := key pa v hv
    rw [kV_eq p]
    exact p
  · have O := SrtO.swo_lex (kV s.heap)
    obtain ⟨k1, k2⟩ := sortB_ok O its
    have e : out = sortB (fun v u => SrtO.lexB (kV s.heap v) (kV s.heap u)) its := SrtO.stb_uniq O h1 k1 (h2.trans ⟨k2.perm.symm, fun x => (k2.cls x).symm⟩)
    have pb := Par.sort (l1 := ltD) (l2 := fun v u => SrtO.lexB (kV s.heap v) (kV s.heap u)) (fun x y x' y' g g' => by
        show SrtO.lexB (kD x) (kD x') = SrtO.lexB (kV s.heap y) (kV s.heap y')
        rw [kV_eq g.pr, kV_eq g'.pr]) pa
    rw [← e] at pb
    obtain ⟨r3, h3'⟩ := pb.reps
    obtain ⟨n, hn⟩ := hn
    exact ⟨.ref d, upd H d (.lst (out.map backV)), I.laid (t' := s.toks) kp hd ⟨by rw [List.length_map, h2.len, ← rv.length]; exact hz, out, n, vals_back h3', hn⟩, rfl, t.lst sub r3 d (I.hok.fresh hd)⟩
theorem cr_bi (hc : X.calm = true) (hu : X.A.units + 65 < cLine) (b : Bi) (hb : b ≠ .sset) : CallR X b.val (rL X.K A (biv b)) := by
  have no : (∀ ds, biv b ds = none) → CallR X b.val (rL X.K A (biv b)) := fun hb pins s σ H xs us Q I r h => by
    obtain ⟨S, ds, sub, hx, z, hz, t⟩ := h
    rw [hb] at hz
    cases hz
  cases b
  · exact cr_len
  · exact cr_abs
  · exact cr_str
  · exact no fun ds => by unfold biv; rfl
  · exact cr_list hc
  · exact cr_tuple
  · exact cr_sorted_ hc hu
  · exact absurd rfl hb
  · exact cr_all_ hc
  · exact cr_any_ hc
  · exact no fun ds => by unfold biv; rfl
  · exact cr_minD hc hu
  · exact no fun ds => by unfold biv; rfl
  · exact cr_dict_ hc
end

/-! ### the context -/
/-- what a def of the text promises: its interpreter's answer -/
def spF (K : PySem.W.Frag) (A : Cls) (call : Nat → D → List D → Res) (f : Nat) (F : Fn) : Sp := fun vs H Q E => vs.length = F.pars.length ∧ F.meth = false ∧ ∃ S ds, Same S H ∧ Reps K A S ds vs ∧ match call f .non ds with
  | .ok d o .non => Tells K A (d, o) S H Q
  | .exn c .non => ∀ H', Same H H' → E (.ref (A.exc c)) none H'
  | _ => False
structure Ctx (G : Prog) (A : Cls) (fa : Nat → Addr) (fd : Nat → FuncData) (call : Nat → D → List D → Res) (n : Nat) (X : Cx) (W : WX) : Prop where
  facts : Facts G A fa fd X.w X.K X.mg
  fnok : ∀ (f : Nat) (F : Fn), G.fns[f]? = some F → FnOk X.prog X.w X.K X.mg X.base (L2.CX X.prog X.w) n (fa f) (fd f) F.pars (spF X.K A call f F)
  room : Room n X.A
  calm : X.calm = true
  nd : X.N.Nodup
  tk : Takes X W
  po : PassesOwn (model X.prog X.w) X.A X.env X.xe

/-- a truth that an expression tells -/
def Out.tob (o : Out (D × Bool)) : Out Bool := o.bind fun x ρ => match x.1 with
  | .bl b => .ok b ρ
  | _ => .bad

section
variable {X : Cx} {A : Cls} {W : WX} {e a b c : Expr} {pos : Pos}
/-- an expression of a plain form as a test -/
theorem pt_of {c : Env → Out (D × Bool)} (h : PE X e (tO X.K A W c)) (he : ∀ whole, isTrue e X.env whole = (do let v ← whole; standAt e.pos; holding [v] (truthy v))) : PT X e (tT X.K A W fun ρ => (c ρ).tob) := by
  refine (pt_val h he).imp fun σ H Q hw => ?_
  obtain ⟨E, S, ρ, fs, st, p⟩ := hw
  refine ⟨E, S, ρ, fs, st, ?_⟩
  refine (Post.bind p).mono fun x ρ' S' H' fs' e1 st' q v fp r ap => ?_
  obtain ⟨d, o⟩ := x
  cases d with
  | bl b =>
    have q' : Q b H' := q S' H' fs' (Same.refl S') st'
    unfold RV at r
    cases o with
    | false =>
      rw [if_neg (by simp)] at r
      cases r.2.bl_inv
      exact ⟨b, rfl, q'⟩
    | true =>
      rw [if_pos rfl] at r
      exact r.elim
  | _ => exact (show False from q).elim
/-- a plain value -/
theorem snd_plain {d : D} {v : V} (h : PE X e (tC v)) (r : ∀ S, Rep X.K A S d v) : PE X e (tO X.K A W fun ρ => .ok (d, false) ρ) := by
  refine h.imp fun σ H Q hw => ?_
  obtain ⟨E, S, ρ, fs, st, p⟩ := hw
  exact p.here st v [] (by unfold RV; rw [if_neg (by simp)]; exact ⟨rfl, r S⟩) (fun a ha => by simp at ha)
theorem getS_set {ρ : Env} {i j : Nat} {s : Sl} : getS (ρ.set i s) j = if i = j then (if i < ρ.length then s else .no) else getS ρ j := by
  unfold getS
  rw [List.getElem?_set]
  by_cases h : i = j
  · subst h
    by_cases h2 : i < ρ.length
    · simp [h2]
    · simp [h2]
  · simp [h]
theorem getS_lt {ρ : Env} {i : Nat} {s : Sl} (h : getS ρ i = s) (hs : s ≠ .no) : i < ρ.length := by
  unfold getS at h
  cases e : ρ[i]? with
  | none => rw [e] at h; exact absurd h.symm hs
  | some x => exact (List.getElem?_eq_some_iff.mp e).1
/-- a slot's own value is taken out -/
theorem Sta.take {K : PySem.W.Frag} {E : Ent} {S H : Hp} {ρ : Env} {σ : L2.St} {fs : Nat → List Addr} {i : Nat} {d : D} (st : Sta K A E S H ρ σ fs) (h : getS ρ i = .ow d) :
    ∃ v, σ[i]? = some (some v) ∧ Own K A S H d v (fs i) ∧ Sta K A E S H (ρ.set i .no) σ (fun j => if j = i then [] else fs j) ∧ Apart E (fun j => if j = i then [] else fs j) (fs i) := by
  have q := st.slot i
  rw [h] at q
  obtain ⟨v, h1, h2⟩ := q
  refine ⟨v, h1, h2, ⟨by rw [List.length_set]; exact st.len, st.sub, fun j => ?_, fun j k hjk a ha => ?_, st.ghost, st.s0, fun j a ha => ?_, st.snew, st.z⟩, fun a ha => ⟨st.new i a ha, fun j hj => ?_⟩⟩
  · rw [getS_set]
    by_cases e : j = i
    · subst e
      rw [if_pos rfl, if_pos rfl, if_pos (getS_lt h (by intro z; cases z))]
      rfl
    · rw [if_neg (fun z => e z.symm), if_neg e]
      exact st.slot j
  · by_cases e : j = i
    · rw [if_pos e] at ha; simp at ha
    · rw [if_neg e] at ha
      by_cases e2 : k = i
      · rw [if_pos e2]; simp
      · rw [if_neg e2]
        exact st.dis j k hjk a ha
  · by_cases e : j = i
    · rw [if_pos e] at ha; simp at ha
    · rw [if_neg e] at ha
      exact st.new j a ha
  · replace hj : a ∈ (if j = i then [] else fs j) := hj
    by_cases e : j = i
    · rw [if_pos e] at hj; simp at hj
    · rw [if_neg e] at hj
      exact st.dis i j (fun z => e z.symm) a ha hj
theorem setZ {σ : L2.St} {i : Nat} {x : Option V} {w : V} {Z : Prop} (hz : i ≠ 0 ∨ Z) (h : σ[0]? = some (some w)) (q : Z → False) : (σ.set i x)[0]? = some (some w) := by
  rcases hz with hz | hz
  · rw [List.getElem?_set_ne hz]
    exact h
  · exact (q hz).elim
/-- a slot gets a value that others may know; nothing is its own by then -/
theorem Sta.put {K : PySem.W.Frag} {E : Ent} {S H : Hp} {ρ : Env} {σ : L2.St} {fs : Nat → List Addr} {i : Nat} {d : D} {v : V} (st : Sta K A E S H ρ σ fs) (hi : i < σ.length) (r : Rep K A S d v) (hz : i ≠ 0 ∨ E.z = none) :
    Sta K A E S H (ρ.set i (.fz d)) (σ.set i (some v)) (fun j => if j = i then [] else fs j) := by
  refine ⟨by rw [List.length_set, List.length_set]; exact st.len, st.sub, fun j => ?_, fun j k hjk a ha => ?_, st.ghost, st.s0, fun j a ha => ?_, st.snew, fun w hw => setZ hz (st.z w hw) (fun q => by rw [q] at hw; cases hw)⟩
  · rw [getS_set]
    by_cases e : j = i
    · subst e
      rw [if_pos rfl, if_pos rfl, if_pos (by rw [← st.len]; exact hi), List.getElem?_set_self hi]
      exact ⟨rfl, v, rfl, r⟩
    · rw [if_neg (fun z => e z.symm), if_neg e, List.getElem?_set_ne (fun z => e z.symm)]
      exact st.slot j
  · by_cases e : j = i
    · rw [if_pos e] at ha; simp at ha
    · rw [if_neg e] at ha
      by_cases e2 : k = i
      · rw [if_pos e2]; simp
      · rw [if_neg e2]
        exact st.dis j k hjk a ha
  · by_cases e : j = i
    · rw [if_pos e] at ha; simp at ha
    · rw [if_neg e] at ha
      exact st.new j a ha
/-- a slot gets a value of its own -/
theorem Sta.putO {K : PySem.W.Frag} {E : Ent} {S H : Hp} {ρ : Env} {σ : L2.St} {fs : Nat → List Addr} {i : Nat} {d : D} {v : V} {fp : List Addr} (st : Sta K A E S H ρ σ fs) (hi : i < σ.length) (r : Own K A S H d v fp) (ap : Apart E fs fp) (hz : i ≠ 0 ∨ E.z = none) :
    Sta K A E S H (ρ.set i (.ow d)) (σ.set i (some v)) (fun j => if j = i then fp else fs j) := by
  refine ⟨by rw [List.length_set, List.length_set]; exact st.len, st.sub, fun j => ?_, fun j k hjk a ha => ?_, st.ghost, st.s0, fun j a ha => ?_, st.snew, fun w hw => setZ hz (st.z w hw) (fun q => by rw [q] at hw; cases hw)⟩
  · rw [getS_set]
    by_cases e : j = i
    · subst e
      rw [if_pos rfl, if_pos rfl, if_pos (by rw [← st.len]; exact hi), List.getElem?_set_self hi]
      exact ⟨v, rfl, r⟩
    · rw [if_neg (fun z => e z.symm), if_neg e, List.getElem?_set_ne (fun z => e z.symm)]
      exact st.slot j
  · by_cases e : j = i
    · rw [if_pos e] at ha
      rw [if_neg (fun z => hjk (e.trans z.symm))]
      exact (ap a ha).2 k
    · rw [if_neg e] at ha
      by_cases e2 : k = i
      · rw [if_pos e2]
        exact fun z => (ap a z).2 j ha
      · rw [if_neg e2]
        exact st.dis j k hjk a ha
  · by_cases e : j = i
    · rw [if_pos e] at ha; exact (ap a ha).1
    · rw [if_neg e] at ha
      exact st.new j a ha
theorem set_same {σ : L2.St} {i : Nat} {v : V} (h : σ[i]? = some (some v)) : σ.set i (some v) = σ := by
  apply List.ext_getElem?
  intro j
  rw [List.getElem?_set]
  by_cases e : i = j
  · subst e
    obtain ⟨hl, q⟩ := List.getElem?_eq_some_iff.mp h
    rw [if_pos rfl, if_pos hl, h]
  · rw [if_neg e]
/-- .. the value that it held -/
theorem Sta.putS {K : PySem.W.Frag} {E : Ent} {S H : Hp} {ρ : Env} {σ : L2.St} {fs : Nat → List Addr} {i : Nat} {d : D} {v : V} (st : Sta K A E S H ρ σ fs) (h : σ[i]? = some (some v)) (r : Rep K A S d v) :
    Sta K A E S H (ρ.set i (.fz d)) σ (fun j => if j = i then [] else fs j) := by
  have st0 : Sta K A { E with z := none } S H ρ σ fs := ⟨st.len, st.sub, st.slot, st.dis, st.ghost, st.s0, st.new, st.snew, fun w hw => by cases hw⟩
  have q := st0.put (List.getElem?_eq_some_iff.mp h).1 r (.inr rfl)
  rw [set_same h] at q
  exact ⟨q.len, q.sub, q.slot, q.dis, q.ghost, q.s0, q.new, q.snew, st.z⟩
theorem set_set_env (ρ : Env) (i : Nat) (s t : Sl) : (ρ.set i s).set i t = ρ.set i t := by rw [List.set_set]
theorem snd_var {mt : Bool} {G : Prog} {call : Nat → D → List D → Res} {i : Nat} {m : Bool} (h : PE X e (tVar i)) : PE X e (tO X.K A W (ev (G.rt call mt) m (.var i))) := by
  refine h.locks.imp fun σ H Q hw => ?_
  obtain ⟨E, S, ρ, fs, st, p⟩ := hw
  unfold ev at p
  have q := st.slot i
  cases hs : getS ρ i with
  | no => rw [hs] at p; exact p.elim
  | fz d =>
    rw [hs] at p q
    obtain ⟨_, v, h1, h2⟩ := q
    exact ⟨v, h1, .inl (p.here st v [] (by unfold RV; rw [if_neg (by simp)]; exact ⟨rfl, h2⟩) (fun a ha => by simp at ha))⟩
  | ow d =>
    rw [hs] at p
    dsimp only at p
    cases hm : (m || d.isIns) with
    | true => rw [hm, if_pos rfl] at p; exact p.elim
    | false =>
      rw [hm, if_neg (by simp)] at p
      rw [Bool.or_eq_false_iff] at hm
      obtain ⟨v, h1, h2, st2, ap⟩ := st.take hs
      rcases st2.freezeV (x := (d, true)) (by unfold RV; rw [if_pos rfl]; exact h2) ap (by simp [hm.2]) with ⟨S', e1, st3, r3⟩ | ⟨a, es, ha, k⟩
      · have st4 := st3.putS (i := i) (v := v) h1 r3
        rw [set_set_env] at st4
        exact ⟨v, h1, .inl (p S' H _ e1 st4 v [] (by unfold RV; rw [if_neg (by simp)]; exact ⟨rfl, r3⟩) (fun a ha => by simp at ha))⟩
      · refine ⟨v, h1, .inr ⟨a, es, ha, fun od => ?_⟩⟩
        obtain ⟨S', e1, st3, r3⟩ := k od
        have st4 := st3.putS (i := i) (v := v) h1 r3
        rw [set_set_env] at st4
        exact p S' _ _ e1 st4 v [] (by unfold RV; rw [if_neg (by simp)]; exact ⟨rfl, r3⟩) (fun a ha => by simp at ha)
theorem snd_mov {mt : Bool} {G : Prog} {call : Nat → D → List D → Res} {i : Nat} {m : Bool} (h : PE X e (tVar i)) : PE X e (tO X.K A W (ev (G.rt call mt) m (.mov i))) := by
  refine h.imp fun σ H Q hw => ?_
  obtain ⟨E, S, ρ, fs, st, p⟩ := hw
  unfold ev at p
  have q := st.slot i
  cases hs : getS ρ i with
  | no => rw [hs] at p; exact p.elim
  | fz d =>
    rw [hs] at p q
    obtain ⟨_, v, h1, h2⟩ := q
    exact ⟨v, h1, p.here st v [] (by unfold RV; rw [if_neg (by simp)]; exact ⟨rfl, h2⟩) (fun a ha => by simp at ha)⟩
  | ow d =>
    rw [hs] at p
    dsimp only at p
    cases hm : m with
    | true => rw [hm, if_pos rfl] at p; exact p.elim
    | false =>
      rw [hm, if_neg (by simp)] at p
      obtain ⟨v, h1, h2, st2, ap⟩ := st.take hs
      exact ⟨v, h1, p.here st2 v (fs i) (by unfold RV; rw [if_pos rfl]; exact h2) ap⟩
/-- two values, then an operation -/
theorem two {ca cb : Env → Out D} {σ : L2.St} {H : Hp} {Q : VK} {c : D → D → Option (D × Bool)} (hw : tO X.K A W (fun ρ => (ca ρ).bind fun x ρ => (cb ρ).bind fun y ρ => Out.of (c x y) ρ) σ H Q) :
    tX X.K A W ca σ H fun x H1 => tX X.K A W cb σ H1 fun y H2 => rO X.K A c x y H2 Q := by
  obtain ⟨E, S, ρ, fs, st, p⟩ := hw
  refine ⟨E, S, ρ, fs, st, (Post.bind p).mono fun dx ρ1 S1 H1 fs1 e1 st1 p1 x rx => ⟨E, S1, ρ1, fs1, st1, (Post.bind p1).mono fun dy ρ2 S2 H2 fs2 e2 st2 p2 y ry => ?_⟩⟩
  refine ⟨S2, dx, dy, st2.sub, Rep.mono e2 _ _ rx, ry, ?_⟩
  cases hz : c dx dy with
  | none => rw [hz] at p2; exact p2.elim
  | some z =>
    rw [hz] at p2
    exact ⟨z, rfl, tells_of st2 fun S' H' v fp e st' r ap => p2 S' H' fs2 e st' v fp r ap⟩
theorem twoX {ca cb : Env → Out D} {σ : L2.St} {H : Hp} {Q : VK} {c : D → D → Option D} (hw : tO X.K A W (fun ρ => (ca ρ).bind fun x ρ => (cb ρ).bind fun y ρ => (Out.of (c x y) ρ).bind fun d ρ => .ok (d, false) ρ) σ H Q) :
    tX X.K A W ca σ H fun x H1 => tX X.K A W cb σ H1 fun y H2 => rX X.K A c x y H2 Q := by
  obtain ⟨E, S, ρ, fs, st, p⟩ := hw
  refine ⟨E, S, ρ, fs, st, (Post.bind p).mono fun dx ρ1 S1 H1 fs1 e1 st1 p1 x rx => ⟨E, S1, ρ1, fs1, st1, (Post.bind p1).mono fun dy ρ2 S2 H2 fs2 e2 st2 p2 y ry => ?_⟩⟩
  refine ⟨S2, dx, dy, st2.sub, Rep.mono e2 _ _ rx, ry, ?_⟩
  cases hz : c dx dy with
  | none => rw [hz] at p2; exact p2.elim
  | some z =>
    rw [hz] at p2
    exact ⟨z, rfl, fun v r => Post.here p2 st2 v [] (by unfold RV; rw [if_neg (by simp)]; exact ⟨rfl, r⟩) (fun a ha => by simp at ha)⟩
theorem twoC {ca cb : Env → Out D} {σ : L2.St} {H : Hp} {Q : VK} {c : D → D → Option Bool} (hw : tO X.K A W (fun ρ => (ca ρ).bind fun x ρ => (cb ρ).bind fun y ρ => (Out.of (c x y) ρ).bind fun d ρ => .ok (.bl d, false) ρ) σ H Q) :
    tX X.K A W ca σ H fun x H1 => tX X.K A W cb σ H1 fun y H2 => rC X.K A c x y H2 Q := by
  obtain ⟨E, S, ρ, fs, st, p⟩ := hw
  refine ⟨E, S, ρ, fs, st, (Post.bind p).mono fun dx ρ1 S1 H1 fs1 e1 st1 p1 x rx => ⟨E, S1, ρ1, fs1, st1, (Post.bind p1).mono fun dy ρ2 S2 H2 fs2 e2 st2 p2 y ry => ?_⟩⟩
  refine ⟨S2, dx, dy, st2.sub, Rep.mono e2 _ _ rx, ry, ?_⟩
  cases hz : c dx dy with
  | none => rw [hz] at p2; exact p2.elim
  | some z =>
    rw [hz] at p2
    exact ⟨z, rfl, Post.here p2 st2 _ [] (by unfold RV; rw [if_neg (by simp)]; exact ⟨rfl, Rep.bl z⟩) (fun a ha => by simp at ha)⟩
theorem snd_bin {ca cb : Env → Out D} (o : BOp) (ha : PE X a (tX X.K A W ca)) (hb : PE X b (tX X.K A W cb)) : PE X (.BinOp a o.py b pos) (tO X.K A W fun ρ => (ca ρ).bind fun x ρ => (cb ρ).bind fun y ρ => Out.of (binv o x y) ρ) :=
  (pe_op (op_bin (A := A) o) ha hb).imp fun _ _ _ hw => two hw
theorem op_cmp (hu : X.A.units + 65 < cLine) (o : COp) : OpR X (compareOp o.py) (rC X.K A (cmpv o)) := by
  cases o
  · exact op_lt_
  · exact op_le_
  · exact op_gt_
  · exact op_ge_
  · exact op_eq_ (by omega)
  · exact op_ne_ (by omega)
  · exact op_is_
  · exact op_isnot_
  · exact op_in_ hu
  · exact op_nin_ hu
theorem snd_cmp {ca cb : Env → Out D} (hu : X.A.units + 65 < cLine) (o : COp) (hm : behindInMarks o.py b = false) (ha : PE X a (tX X.K A W ca)) (hb : PE X b (tX X.K A W cb)) :
    PE X (.Compare a [o.py] [b] pos) (tO X.K A W fun ρ => (ca ρ).bind fun x ρ => (cb ρ).bind fun y ρ => (Out.of (cmpv o x y) ρ).bind fun d ρ => .ok (.bl d, false) ρ) :=
  (pe_cmpR (op_cmp (A := A) hu o) ha hb hm).imp fun _ _ _ hw => twoC hw
theorem tob_cmp {ca cb : Env → Out D} {c : D → D → Option Bool} {ρ : Env} : (((ca ρ).bind fun x ρ => (cb ρ).bind fun y ρ => (Out.of (c x y) ρ).bind fun d ρ => .ok (.bl d, false) ρ) : Out (D × Bool)).tob = (ca ρ).bind fun x ρ => (cb ρ).bind fun y ρ => Out.of (c x y) ρ := by
  unfold Out.tob
  rw [Out.bind_assoc]
  congr 1
  funext x ρ
  rw [Out.bind_assoc]
  congr 1
  funext y ρ
  rw [Out.bind_assoc]
  cases c x y <;> rfl
theorem snd_cmpT {ca cb : Env → Out D} (hu : X.A.units + 65 < cLine) (o : COp) (hm : behindInMarks o.py b = false) (ha : PE X a (tX X.K A W ca)) (hb : PE X b (tX X.K A W cb)) :
    PT X (.Compare a [o.py] [b] pos) (tT X.K A W fun ρ => (ca ρ).bind fun x ρ => (cb ρ).bind fun y ρ => Out.of (cmpv o x y) ρ) := by
  refine (pt_cmpR (op_cmp (A := A) hu o) ha hb hm).imp fun σ H Q hw => ?_
  obtain ⟨E, S, ρ, fs, st, p⟩ := hw
  refine ⟨E, S, ρ, fs, st, (Post.bind p).mono fun dx ρ1 S1 H1 fs1 e1 st1 p1 x rx => ⟨E, S1, ρ1, fs1, st1, (Post.bind p1).mono fun dy ρ2 S2 H2 fs2 e2 st2 p2 y ry => ?_⟩⟩
  refine ⟨S2, dx, dy, st2.sub, Rep.mono e2 _ _ rx, ry, ?_⟩
  cases hz : cmpv o dx dy with
  | none => rw [hz] at p2; exact p2.elim
  | some z =>
    rw [hz] at p2
    exact ⟨z, rfl, z, rfl, Post.here p2 st2⟩
theorem snd_nt {ca : Env → Out (D × Bool)} (ha : PT X a (tT X.K A W fun ρ => (ca ρ).tob)) : PT X (.UnaryOp .Not a pos) (tT X.K A W fun ρ => ((ca ρ).tob).bind fun b ρ => .ok (!b) ρ) := by
  refine (pt_not ha).imp fun σ H Q hw => ?_
  obtain ⟨E, S, ρ, fs, st, p⟩ := hw
  exact ⟨E, S, ρ, fs, st, (Post.bind p).mono fun b ρ1 S1 H1 fs1 e1 st1 p1 => Post.here p1 st1⟩
/-- from a test back to a value: not x -/
theorem snd_ntE {ca : Env → Out (D × Bool)} (ha : PE X a (tO X.K A W ca)) : PE X (.UnaryOp .Not a pos) (tO X.K A W fun ρ => (ca ρ).bind fun x ρ => match x.1 with
    | .bl b => .ok (.bl (!b), false) ρ
    | _ => .bad) := by
  refine (pe_not ha).imp fun σ H Q hw => ?_
  obtain ⟨E, S, ρ, fs, st, p⟩ := hw
  refine ⟨E, S, ρ, fs, st, (Post.bind p).mono fun x ρ1 S1 H1 fs1 e1 st1 p1 v fp r ap => ?_⟩
  obtain ⟨d, o⟩ := x
  cases d with
  | bl b =>
    unfold RV at r
    cases o with
    | false =>
      rw [if_neg (by simp)] at r
      cases r.2.bl_inv
      exact ⟨b, rfl, Post.here p1 st1 _ [] (by unfold RV; rw [if_neg (by simp)]; exact ⟨rfl, Rep.bl _⟩) (fun a ha => by simp at ha)⟩
    | true =>
      rw [if_pos rfl] at r
      exact r.elim
  | _ => exact (show False from p1).elim
/-- a op b op c -/
def chainC (o1 o2 : COp) (ca cb cc : Env → Out D) : Env → Out (D × Bool) := fun ρ => (ca ρ).bind fun x ρ => (cb ρ).bind fun y ρ => (Out.of (cmpv o1 x y) ρ).bind fun k ρ =>
  if k then (cc ρ).bind fun z ρ => (Out.of (cmpv o2 y z) ρ).bind fun k ρ => .ok (.bl k, false) ρ else .ok (.bl false, false) ρ
theorem snd_chain {c : Expr} {ca cb cc : Env → Out D} (hu : X.A.units + 65 < cLine) (o1 o2 : COp) (hm : lastMarks [o1.py, o2.py] [b, c] = false) (ha : PE X a (tX X.K A W ca)) (hb : PE X b (tX X.K A W cb)) (hc : PE X c (tX X.K A W cc)) :
    PE X (.Compare a [o1.py, o2.py] [b, c] pos) (tO X.K A W (chainC o1 o2 ca cb cc)) := by
  refine (pe_chain (op_cmp (A := A) hu o1) (op_cmp (A := A) hu o2) ha hb hc hm).imp fun σ H Q hw => ?_
  obtain ⟨E, S, ρ, fs, st, p⟩ := hw
  refine ⟨E, S, ρ, fs, st, (Post.bind p).mono fun dx ρ1 S1 H1 fs1 e1 st1 p1 x rx => ⟨E, S1, ρ1, fs1, st1, (Post.bind p1).mono fun dy ρ2 S2 H2 fs2 e2 st2 p2 y ry => ?_⟩⟩
  refine ⟨S2, dx, dy, st2.sub, Rep.mono e2 _ _ rx, ry, ?_⟩
  cases hz : cmpv o1 dx dy with
  | none => rw [hz] at p2; exact p2.elim
  | some k =>
    rw [hz] at p2
    refine ⟨k, rfl, k, rfl, ?_⟩
    cases k with
    | false =>
      rw [if_neg (by decide)]
      exact Post.here p2 st2 _ [] (by unfold RV; rw [if_neg (by simp)]; exact ⟨rfl, Rep.bl _⟩) (fun a ha => by simp at ha)
    | true =>
      rw [if_pos rfl]
      have p2' : Post X.K A W E S2 σ ((cc ρ2).bind fun z ρ => (Out.of (cmpv o2 dy z) ρ).bind fun k ρ => (.ok (D.bl k, false) ρ : Out (D × Bool))) _ := p2
      refine ⟨E, S2, ρ2, fs2, st2, (Post.bind p2').mono fun dz ρ3 S3 H3 fs3 e3 st3 p3 z rz => ?_⟩
      refine ⟨S3, dy, dz, st3.sub, Rep.mono e3 _ _ ry, rz, ?_⟩
      cases hz2 : cmpv o2 dy dz with
      | none => rw [hz2] at p3; exact p3.elim
      | some k =>
        rw [hz2] at p3
        exact ⟨k, rfl, Post.here p3 st3 _ [] (by unfold RV; rw [if_neg (by simp)]; exact ⟨rfl, Rep.bl k⟩) (fun a ha => by simp at ha)⟩
theorem snd_chainT {c : Expr} {ca cb cc : Env → Out D} (hu : X.A.units + 65 < cLine) (o1 o2 : COp) (hm : lastMarks [o1.py, o2.py] [b, c] = false) (ha : PE X a (tX X.K A W ca)) (hb : PE X b (tX X.K A W cb)) (hc : PE X c (tX X.K A W cc)) :
    PT X (.Compare a [o1.py, o2.py] [b, c] pos) (tT X.K A W fun ρ => (chainC o1 o2 ca cb cc ρ).tob) := by
  refine (pt_chain (op_cmp (A := A) hu o1) (op_cmp (A := A) hu o2) ha hb hc hm).imp fun σ H Q hw => ?_
  obtain ⟨E, S, ρ, fs, st, p⟩ := hw
  have p : Post X.K A W E S σ (chainC o1 o2 ca cb cc ρ).tob _ := p
  unfold chainC Out.tob at p
  rw [Out.bind_assoc] at p
  refine ⟨E, S, ρ, fs, st, (Post.bind p).mono fun dx ρ1 S1 H1 fs1 e1 st1 p1 x rx => ?_⟩
  rw [Out.bind_assoc] at p1
  refine ⟨E, S1, ρ1, fs1, st1, (Post.bind p1).mono fun dy ρ2 S2 H2 fs2 e2 st2 p2 y ry => ?_⟩
  refine ⟨S2, dx, dy, st2.sub, Rep.mono e2 _ _ rx, ry, ?_⟩
  cases hz : cmpv o1 dx dy with
  | none => rw [hz] at p2; exact p2.elim
  | some k =>
    rw [hz] at p2
    refine ⟨k, rfl, k, rfl, ?_⟩
    cases k with
    | false =>
      rw [if_neg (by decide)]
      exact ⟨false, rfl, Post.here p2 st2⟩
    | true =>
      rw [if_pos rfl]
      have p2' : Post X.K A W E S2 σ (((cc ρ2).bind fun z ρ => (Out.of (cmpv o2 dy z) ρ).bind fun k ρ => (.ok (D.bl k, false) ρ : Out (D × Bool))).bind _) _ := p2
      rw [Out.bind_assoc] at p2'
      refine ⟨E, S2, ρ2, fs2, st2, (Post.bind p2').mono fun dz ρ3 S3 H3 fs3 e3 st3 p3 z rz => ?_⟩
      refine ⟨S3, dy, dz, st3.sub, Rep.mono e3 _ _ ry, rz, ?_⟩
      cases hz2 : cmpv o2 dy dz with
      | none => rw [hz2] at p3; exact p3.elim
      | some k =>
        rw [hz2] at p3
        exact ⟨k, rfl, k, rfl, Post.here p3 st3⟩
end
end GW
end

section
/-! C7: several expressions in a row; displays, calls, and, or. -/
namespace GW
open PySem PySem.Spec PyProof.Rows L2

def notStar : Expr → Bool
  | .Starred .. => false
  | _ => true
theorem star_of {e : Expr} {es : List Expr} {env : PySem.Env} (h : notStar e = true) : starEach (e :: es) env = (false, eval e env) :: starEach es env := by
  cases e <;> first | rfl | cases h

abbrev Code := Env → Out (D × Bool)
/-- one behind the other, each put to others' use -/
def evsC : List Code → Env → Out (List D)
  | [], ρ => .ok [] ρ
  | c :: cs, ρ => (c ρ).frz.bind fun x ρ => (evsC cs ρ).bind fun ds ρ => .ok (x :: ds) ρ
def andC : List Code → Env → Out (D × Bool)
  | [], ρ => .ok (.bl true, false) ρ
  | c :: cs, ρ => (c ρ).bind fun x ρ => match x.1 with
    | .bl true => andC cs ρ
    | .bl false => .ok (.bl false, false) ρ
    | _ => .bad
def orC : List Code → Env → Out (D × Bool)
  | [], ρ => .ok (.bl false, false) ρ
  | c :: cs, ρ => (c ρ).bind fun x ρ => match x.1 with
    | .bl true => .ok (.bl true, false) ρ
    | .bl false => orC cs ρ
    | _ => .bad
theorem evs_C {R : Rt} {m : Bool} : ∀ (es : List Px) (ρ : Env), evs R m es ρ = evsC (es.map (ev R m)) ρ
  | [], ρ => by unfold evs; rfl
  | e :: es, ρ => by
    unfold evs
    rw [List.map_cons]
    unfold evsC
    congr 1
    funext x ρ
    rw [evs_C es ρ]
theorem evAnd_C {R : Rt} {m : Bool} : ∀ (es : List Px) (ρ : Env), evAnd R m es ρ = andC (es.map (ev R m)) ρ
  | [], ρ => by unfold evAnd; rfl
  | e :: es, ρ => by
    unfold evAnd
    rw [List.map_cons]
    unfold andC
    congr 1
    funext x ρ
    obtain ⟨d, o⟩ := x
    cases d with
    | bl b => cases b <;> first | rfl | exact evAnd_C es ρ
    | _ => rfl
theorem evOr_C {R : Rt} {m : Bool} : ∀ (es : List Px) (ρ : Env), evOr R m es ρ = orC (es.map (ev R m)) ρ
  | [], ρ => by unfold evOr; rfl
  | e :: es, ρ => by
    unfold evOr
    rw [List.map_cons]
    unfold orC
    congr 1
    funext x ρ
    obtain ⟨d, o⟩ := x
    cases d with
    | bl b => cases b <;> first | rfl | exact evOr_C es ρ
    | _ => rfl
theorem evsC_len : ∀ {cs : List Code} {ρ ρ' : Env} {ds : List D}, evsC cs ρ = .ok ds ρ' → ds.length = cs.length
  | [], ρ, ρ', ds, h => by
    unfold evsC at h
    cases h
    rfl
  | c :: cs, ρ, ρ', ds, h => by
    unfold evsC at h
    cases h1 : (c ρ).frz with
    | ok x ρ1 =>
      rw [h1] at h
      dsimp only [Out.bind] at h
      cases h2 : evsC cs ρ1 with
      | ok ds2 ρ2 =>
        rw [h2] at h
        cases h
        simp [evsC_len h2]
      | exn c ρ => rw [h2] at h; cases h
      | bad => rw [h2] at h; cases h
    | exn c ρ => rw [h1] at h; cases h
    | bad => rw [h1] at h; cases h

/-- expressions and what they tell -/
inductive Alls (X : Cx) (A : Cls) (W : WX) : List Expr → List Code → Prop
  | nil : Alls X A W [] []
  | cons {e : Expr} {c : Code} {es : List Expr} {cs : List Code} : PE X e (tO X.K A W c) → PT X e (tT X.K A W fun ρ => (c ρ).tob) → notStar e = true → Alls X A W es cs → Alls X A W (e :: es) (c :: cs)
theorem Alls.len {X : Cx} {A : Cls} {W : WX} {es : List Expr} {cs : List Code} (h : Alls X A W es cs) : es.length = cs.length := by
  induction h with
  | nil => rfl
  | cons _ _ _ _ ih => simp [ih]
theorem Alls.stars {X : Cx} {A : Cls} {W : WX} {es : List Expr} {cs : List Code} {pos : Pos} {env : PySem.Env} (h : Alls X A W es cs) : (backTo pos (starEach es env)).any (·.1) = false := by
  induction h with
  | nil => rfl
  | cons _ _ hs _ ih =>
    rw [star_of hs]
    show (false || (backTo pos (starEach _ env)).any (·.1)) = false
    rw [ih]
    rfl

section
variable {X : Cx} {A : Cls} {W : WX} {e a b c : Expr} {pos : Pos}
theorem Post.bindE {K : PySem.W.Frag} {E : Ent} {S : Hp} {σ : L2.St} {α β : Type} {o : Out α} {f : α → Env → Out β} {k : β → Hp → Hp → (Nat → List Addr) → Env → Prop} (h : Post K A W E S σ (o.bind f) k) :
    Post K A W E S σ o fun a S' H' fs ρ => o = .ok a ρ ∧ Post K A W E S' σ (f a ρ) k := by
  cases o with
  | ok a ρ => exact fun S' H' fs e s => ⟨rfl, Post.up e h⟩
  | exn c ρ => exact h
  | bad => exact h
theorem Alls.pa {es : List Expr} {cs : List Code} (h : Alls X A W es cs) : PA X es (tA X.K A W (evsC cs)) := by
  induction h with
  | nil =>
    refine pa_nil.imp fun σ H Q hw => ?_
    obtain ⟨E, S, ρ, fs, st, p⟩ := hw
    exact Post.here p st [] Reps.nil
  | @cons e c es cs h1 h2 hs _ ih =>
    refine (pa_cons (h1.frz) ih (star_of hs)).imp fun σ H Q hw => ?_
    obtain ⟨E, S, ρ, fs, st, p⟩ := hw
    refine ⟨E, S, ρ, fs, st, (Post.bind p).mono fun dx ρ1 S1 H1 fs1 e1 st1 p1 x rx => ⟨E, S1, ρ1, fs1, st1, (Post.bind p1).mono fun ds ρ2 S2 H2 fs2 e2 st2 p2 vs rvs => ?_⟩⟩
    exact Post.here p2 st2 _ (Reps.cons (Rep.mono e2 _ _ rx) rvs)
theorem RV.plain {K : PySem.W.Frag} {S H : Hp} {d : D} {v : V} (r : Rep K A S d v) : RV K A S H (d, false) v [] := by
  unfold RV
  rw [if_neg (by simp)]
  exact ⟨rfl, r⟩
theorem Apart.nil {E : Ent} {fs : Nat → List Addr} : Apart E fs [] := fun a ha => by simp at ha
/-- a display of a tuple, a list -/
theorem snd_tup {es : List Expr} {cs : List Code} {k : Nat} (h : Alls X A W es cs) (hl : cs.length < 1000) : PE X (.Tuple es k pos) (tO X.K A W fun ρ => (evsC cs ρ).bind fun ds ρ => .ok (.tup ds, false) ρ) := by
  refine (pe_tup h.pa).imp fun σ H Q hw => ?_
  obtain ⟨E, S, ρ, fs, st, p⟩ := hw
  refine ⟨E, S, ρ, fs, st, (Post.bindE p).mono fun ds ρ1 S1 H1 fs1 e1 st1 ⟨q, p1⟩ vs r => ⟨?_, ?_⟩⟩
  · rw [r.len, evsC_len q]
    exact small1000 (by omega) |> Nat.le_of_lt
  · exact (tells_of (z := (.tup ds, false)) st1 fun S' H' v fp e st' r ap => p1 S' H' fs1 e st' v fp r ap).tup st1.sub r
theorem snd_lst {es : List Expr} {cs : List Code} (h : Alls X A W es cs) (hl : cs.length < 1000) : PE X (.List es pos) (tO X.K A W fun ρ => (evsC cs ρ).bind fun ds ρ => .ok (.lst ds, true) ρ) := by
  refine (pe_lst h.pa).imp fun σ H Q hw => ?_
  obtain ⟨E, S, ρ, fs, st, p⟩ := hw
  refine ⟨E, S, ρ, fs, st, (Post.bindE p).mono fun ds ρ1 S1 H1 fs1 e1 st1 ⟨q, p1⟩ vs r => ⟨?_, ?_⟩⟩
  · rw [r.len, evsC_len q]
    exact small1000 (by omega) |> Nat.le_of_lt
  · exact (tells_of (z := (.lst ds, true)) st1 fun S' H' v fp e st' r ap => p1 S' H' fs1 e st' v fp r ap).lst st1.sub r

/-! ### truths -/
theorem tob_bind {o : Out (D × Bool)} {β : Type} (F G : Env → Out β) : (o.bind fun x ρ => match x.1 with
    | .bl true => F ρ
    | .bl false => G ρ
    | _ => .bad) = o.tob.bind fun b ρ => if b = true then F ρ else G ρ := by
  cases o with
  | ok x ρ =>
    obtain ⟨d, w⟩ := x
    cases d with
    | bl b => cases b <;> rfl
    | _ => rfl
  | exn c ρ => rfl
  | bad => rfl
theorem andC_cons {c : Code} {cs : List Code} {ρ : Env} : andC (c :: cs) ρ = (c ρ).tob.bind fun b ρ => if b = true then andC cs ρ else .ok (.bl false, false) ρ := tob_bind _ _
theorem orC_cons {c : Code} {cs : List Code} {ρ : Env} : orC (c :: cs) ρ = (c ρ).tob.bind fun b ρ => if b = true then .ok (.bl true, false) ρ else orC cs ρ := tob_bind _ _
theorem tob_bind2 {α : Type} {o : Out α} {f : α → Env → Out (D × Bool)} : (o.bind f).tob = o.bind fun a ρ => (f a ρ).tob := Out.bind_assoc _ _ _
theorem tob_ite {b : Bool} {x y : Out (D × Bool)} : (if b = true then x else y).tob = if b = true then x.tob else y.tob := by cases b <;> rfl
/-- a value that is a truth -/
theorem PE.truth {c : Code} (h : PE X e (tO X.K A W c)) {σ : L2.St} {H : Hp} {E : Ent} {S : Hp} {ρ : Env} {fs : Nat → List Addr} {k : Bool → Hp → Hp → (Nat → List Addr) → Env → Prop} (st : Sta X.K A E S H ρ σ fs) {Q : VK}
    (p : Post X.K A W E S σ (c ρ).tob k) (q : ∀ b ρ' S' H' fs', Same S S' → Sta X.K A E S' H' ρ' σ fs' → k b S' H' fs' ρ' → Q (.bl b) H') : tO X.K A W c σ H Q := by
  refine ⟨E, S, ρ, fs, st, (Post.bind p).mono fun x ρ' S' H' fs' e1 st' p' v fp r ap => ?_⟩
  obtain ⟨d, o⟩ := x
  cases d with
  | bl b =>
    unfold RV at r
    cases o with
    | false =>
      rw [if_neg (by simp)] at r
      cases r.2.bl_inv
      exact q b ρ' S' H' fs' e1 st' (Post.here p' st')
    | true =>
      rw [if_pos rfl] at r
      exact r.elim
  | _ => exact (show False from p').elim
theorem and_pe : ∀ {es : List Expr} {cs : List Code}, Alls X A W es cs → es ≠ [] → PE X (.BoolOp .And es pos) (tO X.K A W (andC cs))
  | _, _, .nil, h => absurd rfl h
  | _, _, .cons (c := c) h1 h2 hs .nil, _ => by
    refine (pe_one h1).imp fun σ H Q hw => ?_
    obtain ⟨E, S, ρ, fs, st, p⟩ := hw
    rw [andC_cons] at p
    refine PE.truth h1 st (Post.bind p) fun b ρ' S' H' fs' e1 st' p' => ?_
    cases b with
    | true => exact Post.here p' st' _ [] (RV.plain (Rep.bl true)) Apart.nil
    | false => exact Post.here p' st' _ [] (RV.plain (Rep.bl false)) Apart.nil
  | _, _, .cons (c := c) h1 h2 hs (.cons g1 g2 gs gr), _ => by
    refine (pe_and h1 (and_pe (.cons g1 g2 gs gr) (by simp))).imp fun σ H Q hw => ?_
    obtain ⟨E, S, ρ, fs, st, p⟩ := hw
    rw [andC_cons] at p
    refine PE.truth h1 st (Post.bind p) fun b ρ' S' H' fs' e1 st' p' => ⟨b, rfl, ?_⟩
    cases b with
    | true =>
      rw [if_pos rfl] at p' ⊢
      exact ⟨E, S', ρ', fs', st', p'⟩
    | false => exact Post.here p' st' _ [] (RV.plain (Rep.bl false)) Apart.nil
theorem or_pe : ∀ {es : List Expr} {cs : List Code}, Alls X A W es cs → es ≠ [] → PE X (.BoolOp .Or es pos) (tO X.K A W (orC cs))
  | _, _, .nil, h => absurd rfl h
  | _, _, .cons (c := c) h1 h2 hs .nil, _ => by
    refine (pe_one h1).imp fun σ H Q hw => ?_
    obtain ⟨E, S, ρ, fs, st, p⟩ := hw
    rw [orC_cons] at p
    refine PE.truth h1 st (Post.bind p) fun b ρ' S' H' fs' e1 st' p' => ?_
    cases b with
    | true => exact Post.here p' st' _ [] (RV.plain (Rep.bl true)) Apart.nil
    | false => exact Post.here p' st' _ [] (RV.plain (Rep.bl false)) Apart.nil
  | _, _, .cons (c := c) h1 h2 hs (.cons g1 g2 gs gr), _ => by
    refine (pe_or h1 (or_pe (.cons g1 g2 gs gr) (by simp))).imp fun σ H Q hw => ?_
    obtain ⟨E, S, ρ, fs, st, p⟩ := hw
    rw [orC_cons] at p
    refine PE.truth h1 st (Post.bind p) fun b ρ' S' H' fs' e1 st' p' => ⟨b, rfl, ?_⟩
    cases b with
    | true => exact Post.here p' st' _ [] (RV.plain (Rep.bl true)) Apart.nil
    | false =>
      rw [if_neg (by simp)] at p' ⊢
      exact ⟨E, S', ρ', fs', st', p'⟩
theorem and_pw : ∀ {es : List Expr} {cs : List Code}, Alls X A W es cs → es ≠ [] → PW X (.BoolOp .And es pos) (tT X.K A W fun ρ => (andC cs ρ).tob)
  | _, _, .nil, h => absurd rfl h
  | _, _, .cons (c := c) h1 h2 hs .nil, _ => by
    have g := pw_and1 (pos := pos) h2
    refine ⟨fun wh pins s σ H Q I hw => g.run wh pins s σ H Q I ?_⟩
    obtain ⟨E, S, ρ, fs, st, p⟩ := hw
    dsimp only at p
    rw [andC_cons, tob_bind2] at p
    refine ⟨E, S, ρ, fs, st, (Post.bind p).mono fun b ρ' S' H' fs' e1 st' p' => ?_⟩
    cases b with
    | true => exact Post.here p' st'
    | false => exact Post.here p' st'
  | _, _, .cons (c := c) h1 h2 hs (.cons g1 g2 gs gr), _ => by
    have g := pw_and h2 (and_pw (.cons g1 g2 gs gr) (by simp))
    refine ⟨fun wh pins s σ H Q I hw => g.run wh pins s σ H Q I ?_⟩
    obtain ⟨E, S, ρ, fs, st, p⟩ := hw
    dsimp only at p
    rw [andC_cons, tob_bind2] at p
    refine ⟨E, S, ρ, fs, st, (Post.bind p).mono fun b ρ' S' H' fs' e1 st' p' => ?_⟩
    cases b with
    | true =>
      rw [if_pos rfl] at p' ⊢
      exact ⟨E, S', ρ', fs', st', p'⟩
    | false => exact Post.here p' st'
theorem or_pw : ∀ {es : List Expr} {cs : List Code}, Alls X A W es cs → es ≠ [] → PW X (.BoolOp .Or es pos) (tT X.K A W fun ρ => (orC cs ρ).tob)
  | _, _, .nil, h => absurd rfl h
  | _, _, .cons (c := c) h1 h2 hs .nil, _ => by
    have g := pw_or1 (pos := pos) h2
    refine ⟨fun wh pins s σ H Q I hw => g.run wh pins s σ H Q I ?_⟩
    obtain ⟨E, S, ρ, fs, st, p⟩ := hw
    dsimp only at p
    rw [orC_cons, tob_bind2] at p
    refine ⟨E, S, ρ, fs, st, (Post.bind p).mono fun b ρ' S' H' fs' e1 st' p' => ?_⟩
    cases b with
    | true => exact Post.here p' st'
    | false => exact Post.here p' st'
  | _, _, .cons (c := c) h1 h2 hs (.cons g1 g2 gs gr), _ => by
    have g := pw_or h2 (or_pw (.cons g1 g2 gs gr) (by simp))
    refine ⟨fun wh pins s σ H Q I hw => g.run wh pins s σ H Q I ?_⟩
    obtain ⟨E, S, ρ, fs, st, p⟩ := hw
    dsimp only at p
    rw [orC_cons, tob_bind2] at p
    refine ⟨E, S, ρ, fs, st, (Post.bind p).mono fun b ρ' S' H' fs' e1 st' p' => ?_⟩
    cases b with
    | true => exact Post.here p' st'
    | false =>
      rw [if_neg (by simp)] at p' ⊢
      exact ⟨E, S', ρ', fs', st', p'⟩
/-- a if t else b -/
theorem snd_ife {ct ca cb : Code} (ht : PT X c (tT X.K A W fun ρ => (ct ρ).tob)) (ha : PE X a (tO X.K A W ca)) (hb : PE X b (tO X.K A W cb)) : PE X (.IfExp c a b pos) (tO X.K A W fun ρ => (ct ρ).bind fun x ρ => match x.1 with
    | .bl true => ca ρ
    | .bl false => cb ρ
    | _ => .bad) := by
  refine (pe_ifExp ht ha hb).imp fun σ H Q hw => ?_
  obtain ⟨E, S, ρ, fs, st, p⟩ := hw
  dsimp only at p
  rw [tob_bind] at p
  refine ⟨E, S, ρ, fs, st, (Post.bind p).mono fun x ρ' S' H' fs' e1 st' p' => ?_⟩
  cases x with
  | true => exact ⟨E, S', ρ', fs', st', p'⟩
  | false => exact ⟨E, S', ρ', fs', st', p'⟩
theorem pt_ifExp {tc ta tb : TT} (hc : PT X c tc) (ha : PT X a ta) (hb : PT X b tb) : PT X (.IfExp c a b pos) (fun σ H Q => tc σ H fun k H1 => if k = true then ta σ H1 Q else tb σ H1 Q) := by
  refine ⟨fun pins s σ H Q I h => ?_⟩
  show wpAny _ _ (do if ← isTrue c X.env (eval c X.env) then isTrue a X.env (eval a X.env) else isTrue b X.env (eval b X.env)) _ _ _
  refine wpAny_bind (thn (hc.run pins s σ H _ I h) fun d s1 ⟨H1, I1, q1⟩ => ?_)
  cases d with
  | true => exact ha.run pins s1 σ H1 Q I1 q1
  | false => exact hb.run pins s1 σ H1 Q I1 q1
theorem snd_ifeT {ct ca cb : Code} (ht : PT X c (tT X.K A W fun ρ => (ct ρ).tob)) (ha : PT X a (tT X.K A W fun ρ => (ca ρ).tob)) (hb : PT X b (tT X.K A W fun ρ => (cb ρ).tob)) : PT X (.IfExp c a b pos) (tT X.K A W fun ρ => ((ct ρ).bind fun x ρ => match x.1 with
    | .bl true => ca ρ
    | .bl false => cb ρ
    | _ => .bad : Out (D × Bool)).tob) := by
  refine (pt_ifExp ht ha hb).imp fun σ H Q hw => ?_
  obtain ⟨E, S, ρ, fs, st, p⟩ := hw
  dsimp only at p
  rw [tob_bind, tob_bind2] at p
  refine ⟨E, S, ρ, fs, st, (Post.bind p).mono fun x ρ' S' H' fs' e1 st' p' => ?_⟩
  cases x with
  | true => exact ⟨E, S', ρ', fs', st', p'⟩
  | false => exact ⟨E, S', ρ', fs', st', p'⟩
theorem tob_nt {o : Out (D × Bool)} : (o.bind fun x ρ => match x.1 with
    | .bl b => .ok (.bl (!b), false) ρ
    | _ => .bad : Out (D × Bool)).tob = o.tob.bind fun b ρ => .ok (!b) ρ := by
  cases o with
  | ok x ρ =>
    obtain ⟨d, w⟩ := x
    cases d <;> rfl
  | exn c ρ => rfl
  | bad => rfl

/-! ### subscripts -/
def notSlice : Expr → Bool
  | .Slice .. => false
  | _ => true
theorem plainIx {b : Expr} (h : notSlice b = true) : PlainIx b := fun o i => by
  cases b <;> first | rfl | cases h
theorem snd_ix {ca cb : Env → Out D} (hu : X.A.units + 65 < cLine) (ha : PE X a (tX X.K A W ca)) (hb : PE X b (tX X.K A W cb)) (hs : notSlice b = true) :
    PE X (.Subscript a b pos) (tO X.K A W fun ρ => (ca ρ).bind fun x ρ => (cb ρ).bind fun y ρ => (Out.of (ixv x y) ρ).bind fun d ρ => .ok (d, false) ρ) :=
  (pe_ix (ix_seq_ (A := A) hu) ha hb (plainIx hs)).imp fun _ _ _ hw => twoX hw
theorem snd_neg {ca : Code} (ha : PE X a (tO X.K A W ca)) : PE X (.UnaryOp .USub a pos) (tO X.K A W fun ρ => (ca ρ).bind fun x ρ => match x.1 with
    | .int i => .ok (.int (-i), false) ρ
    | _ => .bad) := by
  refine (pe_un un_neg ha).imp fun σ H Q hw => ?_
  obtain ⟨E, S, ρ, fs, st, p⟩ := hw
  refine ⟨E, S, ρ, fs, st, (Post.bind p).mono fun x ρ1 S1 H1 fs1 e1 st1 p1 v fp r ap => ?_⟩
  obtain ⟨d, o⟩ := x
  cases d with
  | int i =>
    unfold RV at r
    cases o with
    | false =>
      rw [if_neg (by simp)] at r
      cases r.2.int_inv
      exact ⟨i, rfl, Post.here p1 st1 _ [] (RV.plain (Rep.int _)) Apart.nil⟩
    | true =>
      rw [if_pos rfl] at r
      exact r.elim
  | _ => exact (show False from p1).elim

/-! ### calls -/
def okN (x : Str) : Bool := !(x == ("__debug__" : Str)) && !(x == ("__classdict__" : Str)) && !(x == ("__name__" : Str))
theorem okN_dbg {x : Str} (h : okN x = true) : (x == ("__debug__" : Str)) = false := by
  unfold okN at h
  simp only [Bool.and_eq_true, Bool.not_eq_true'] at h
  exact h.1.1
theorem okN_cls {x : Str} (h : okN x = true) : (x == ("__classdict__" : Str)) = false := by
  unfold okN at h
  simp only [Bool.and_eq_true, Bool.not_eq_true'] at h
  exact h.1.2
theorem okN_nam {x : Str} (h : okN x = true) : x ≠ "__name__" := by
  unfold okN at h
  simp only [Bool.and_eq_true, Bool.not_eq_true'] at h
  intro z
  have q := h.2
  rw [z] at q
  exact absurd q (by decide +kernel)
theorem snd_call {G : Prog} {fa : Nat → Addr} {fd : Nat → FuncData} {call : Nat → D → List D → Res} {n f : Nat} {F : Fn} {p : Pos} {es : List Expr} {cs : List Code} (C : Ctx G A fa fd call n X W) (hf : G.fns[f]? = some F) (hm : F.meth = false) (hx : okN F.name = true) (hg : Gl X F.name)
    (hl : cs.length = F.pars.length) (h0 : es ≠ []) (h : Alls X A W es cs) : PE X (.Call (.Name F.name p) es [] pos) (tO X.K A W fun ρ => (evsC cs ρ).bind fun ds ρ => match call f .non ds with
    | .ok d o .non => .ok (d, o) ρ
    | .exn c .non => .exn c ρ
    | _ => .bad) := by
  obtain ⟨k1, k2⟩ := C.facts.fkp f F hf
  cases h with
  | nil => exact absurd rfl h0
  | @cons e c es cs h1 h2 hs hr =>
    refine (pe_callS (C.fnok f F hf) C.room hg (C.facts.fn f F hf hm) k1 k2 (fun σ => passAt C.tk σ) (Alls.pa (.cons h1 h2 hs hr)) (okN_dbg hx) (star_of hs) hr.stars).imp fun σ H Q hw => ?_
    obtain ⟨E, S, ρ, fs, st, p⟩ := hw
    refine ⟨E, S, ρ, fs, st, (Post.bindE p).mono fun ds ρ1 S1 H1 fs1 e1 st1 ⟨q, p1⟩ vs r => ⟨?_, hm, S1, ds, st1.sub, r, ?_⟩⟩
    · rw [r.len, evsC_len q]
      exact hl
    · cases hr : call f .non ds with
      | ok d o sf =>
        rw [hr] at p1
        cases sf with
        | non => exact tells_of st1 fun S' H' v fp e st' r ap => p1 S' H' fs1 e st' v fp r ap
        | _ => exact p1.elim
      | exn c sf =>
        rw [hr] at p1
        cases sf with
        | non =>
          intro H' e
          exact p1 S1 H' fs1 (Same.refl S1) (st1.grow (Same.refl S1) e (st1.sub.trans e) fun _ _ q => .inl q)
        | _ => exact p1.elim
      | bad => rw [hr] at p1; exact p1.elim
theorem onL {cs : List Code} {σ : L2.St} {H : Hp} {Q : VK} {c : List D → Option (D × Bool)} (hw : tO X.K A W (fun ρ => (evsC cs ρ).bind fun ds ρ => Out.of (c ds) ρ) σ H Q) : tA X.K A W (evsC cs) σ H fun xs H1 => rL X.K A c xs H1 Q := by
  obtain ⟨E, S, ρ, fs, st, p⟩ := hw
  refine ⟨E, S, ρ, fs, st, (Post.bind p).mono fun ds ρ1 S1 H1 fs1 e1 st1 p1 vs r => ⟨S1, ds, st1.sub, r, ?_⟩⟩
  cases hz : c ds with
  | none => rw [hz] at p1; exact p1.elim
  | some z =>
    rw [hz] at p1
    exact ⟨z, rfl, tells_of st1 fun S' H' v fp e st' r ap => p1 S' H' fs1 e st' v fp r ap⟩
theorem Bi.okN (b : Bi) : okN b.py = true := by cases b <;> decide +kernel
theorem snd_bi {G : Prog} {fa : Nat → Addr} {fd : Nat → FuncData} {call : Nat → D → List D → Res} {n : Nat} {p : Pos} {es : List Expr} {cs : List Code} (C : Ctx G A fa fd call n X W) (b : Bi) (hb : b ≠ .sset) (hg : Gl X b.py) (h0 : es ≠ []) (h : Alls X A W es cs) :
    PE X (.Call (.Name b.py p) es [] pos) (tO X.K A W fun ρ => (evsC cs ρ).bind fun ds ρ => Out.of (biv b ds) ρ) := by
  cases h with
  | nil => exact absurd rfl h0
  | @cons e c es cs h1 h2 hs hr =>
    have hc := cr_bi (A := A) C.calm (by have := C.room.un; omega) b hb
    have hv := b.boot
    have hm := C.facts.blt _ b.named
    have pa := Alls.pa (.cons h1 h2 hs hr)
    have fin : PE X (.Call (.Name b.py p) (e :: es) [] pos) (tCB (rL X.K A (biv b)) (tA X.K A W (evsC (c :: cs)))) := by
      cases hb : b.val with
      | builtin id =>
        rw [hb] at hc hv
        exact pe_callB hc hg hm hv pa (okN_nam b.okN) (okN_dbg b.okN) (star_of hs) hr.stars
      | type T =>
        rw [hb] at hc hv
        exact pe_callTy hc hg hm hv pa (okN_nam b.okN) (okN_dbg b.okN) (star_of hs) hr.stars
      | _ => cases b <;> cases hb
    exact fin.imp fun σ H Q hw => onL hw
theorem snd_isi {G : Prog} {fa : Nat → Addr} {fd : Nat → FuncData} {call : Nat → D → List D → Res} {n : Nat} {p p2 : Pos} {ca : Env → Out D} (C : Ctx G A fa fd call n X W) (t : Ty) {x : Str} {c : V} {u : Value} (hg : Gl X "isinstance") (hs : notStar a = true) (ha : PE X a (tX X.K A W ca))
    (hx : PE X (.Name x p2) (tC c)) (hc : ClsT A t c u) : PE X (.Call (.Name "isinstance" p) [a, .Name x p2] [] pos) (tO X.K A W fun ρ => (ca ρ).bind fun d ρ => (Out.of (isiv G.sub d t) ρ).bind fun c ρ => .ok (.bl c, false) ρ) := by
  have s2 : starEach [Expr.Name x p2] X.env = (false, eval (.Name x p2) X.env) :: starEach [] X.env := rfl
  refine (pe_callB (call_isD C.facts t) hg (C.facts.blt _ (by decide +kernel)) (by decide +kernel) (pa_cons ha (pa_cons hx pa_nil s2) (star_of hs)) (by decide +kernel) (by decide +kernel) (star_of hs) rfl).imp fun σ H Q hw => ?_
  obtain ⟨E, S, ρ, fs, st, p⟩ := hw
  refine ⟨E, S, ρ, fs, st, (Post.bind p).mono fun d ρ1 S1 H1 fs1 e1 st1 p1 v r => ?_⟩
  cases hb : isiv G.sub d t with
  | none => rw [hb] at p1; exact p1.elim
  | some k =>
    rw [hb] at p1
    exact ⟨S1, d, v, c, u, k, rfl, st1.sub, r, hc, hb, Post.here p1 st1 _ [] (RV.plain (Rep.bl k)) Apart.nil⟩
end
end GW
end

section
/-! C8: what loops go through; comprehensions. -/
namespace GW
open PySem PySem.Spec PyProof.Rows L2 RZ

section
variable (K : PySem.W.Frag) (A : Cls)
/-- the iterator J gives out ds, while what stood at S stands -/
structure Walks (S : Hp) (ds : List D) (J : It) : Prop where
  go : ∀ i H d, Same S H → ds[i]? = some d → J.go i H
  stop : ∀ i H, Same S H → ds.length ≤ i → J.stop i H
  yld : ∀ i H x H' d Sc, Same S Sc → Same Sc H → J.yld i H x H' → ds[i]? = some d → ∃ S', Same Sc S' ∧ Same H H' ∧ Same S' H' ∧ (∀ a o, S' a = some o → Sc a = some o ∨ H a = none) ∧ Rep K A S' d x
def tI (W : WX) (c : Env → Out (List D)) : TI := fun σ H R => ∃ E S ρ fs, Sta K A E S H ρ σ fs ∧ Post K A W E S σ (c ρ) fun ds S' H' _ _ => ∀ J, Walks K A S' ds J → R J H'
end
theorem SqT.fun {X : Cx} : True := trivial
section
variable {X : Cx} {A : Cls} {W : WX} {e a b c tg : Expr} {pos : Pos}
theorem PI.imp {w w' : TI} (h : PI X tg e w) (q : ∀ σ H R, w' σ H R → w σ H R) : PI X tg e w' := ⟨fun pins s σ H R I hw => h.run pins s σ H R I (q σ H R hw)⟩
theorem PI.or {w w' : TI} (h : PI X tg e w) (h' : PI X tg e w') : PI X tg e (fun σ H R => w σ H R ∨ w' σ H R) := ⟨fun pins s σ H R I hw => hw.elim (h.run pins s σ H R I) (h'.run pins s σ H R I)⟩
/-- an iterator that lays nothing -/
theorem Walks.plain {K : PySem.W.Frag} {S : Hp} {ds : List D} {J : It} (h1 : ∀ i H d, Same S H → ds[i]? = some d → J.go i H) (h2 : ∀ i H, Same S H → ds.length ≤ i → J.stop i H)
    (h3 : ∀ i H x H' d, Same S H → J.yld i H x H' → ds[i]? = some d → H' = H ∧ Rep K A S d x) : Walks K A S ds J :=
  ⟨h1, h2, fun i H x H' d Sc e1 e2 y hd => by
    obtain ⟨rfl, r⟩ := h3 i H x H' d (e1.trans e2) y hd
    exact ⟨Sc, Same.refl _, Same.refl _, e2, fun _ _ q => .inl q, Rep.mono e1 _ _ r⟩⟩
theorem walks_list {K : PySem.W.Frag} {S : Hp} {l : Addr} {ds : List D} {vs : List V} (h : Rd S l (.lst vs)) (r : Reps K A S ds vs) : Walks K A S ds (Itl K l) := by
  refine Walks.plain (fun i H d e hd => ?_) (fun i H e hi => ⟨vs, .inl (Same.rd e h), by rw [r.len]; exact hi⟩) fun i H x H' d e y hd => ⟨y.1, ?_⟩
  · obtain ⟨v, hv, _⟩ := r.get hd
    exact ⟨vs, v, .inl (Same.rd e h), hv⟩
  · have q := y.2 vs (.inl (Same.rd e h))
    obtain ⟨v, hv, rv⟩ := r.get hd
    rw [hv] at q
    cases q
    exact rv
theorem walks_tup {K : PySem.W.Frag} {S : Hp} {l : Addr} {ds : List D} {vs : List V} (h : SqT K S l vs) (r : Reps K A S ds vs) : Walks K A S ds (Itt K l) := by
  refine Walks.plain (fun i H d e hd => ?_) (fun i H e hi => ⟨vs, Same.sqt e h, by rw [r.len]; exact hi⟩) fun i H x H' d e y hd => ⟨y.1, ?_⟩
  · obtain ⟨v, hv, _⟩ := r.get hd
    exact ⟨vs, v, Same.sqt e h, hv⟩
  · have q := y.2 vs (Same.sqt e h)
    obtain ⟨v, hv, rv⟩ := r.get hd
    rw [hv] at q
    cases q
    exact rv
theorem walks_str {K : PySem.W.Frag} {S : Hp} {z : Str} : Walks K A S (z.cps.toList.map fun c => D.str ⟨#[c]⟩) (Its z) := by
  refine Walks.plain (fun i H d e hd => ?_) (fun i H e hi => ?_) fun i H x H' d e y hd => ⟨y.1, ?_⟩
  · obtain ⟨q, _⟩ := List.getElem?_eq_some_iff.mp hd
    show i < z.cps.size
    simpa using q
  · show z.cps.size ≤ i
    simpa using hi
  · obtain ⟨c, hc, rfl⟩ := y.2
    rw [List.getElem?_map, Array.getElem?_toList, hc] at hd
    cases hd
    exact Rep.str _
theorem walks_keys {K : PySem.W.Frag} {S : Hp} {l : Addr} {od : Obj} {kvs : List (Str × D)} {es : List (Key × V)} (h : S l = some (.frz od (.dK es))) (r : RepsK K A S kvs es) : Walks K A S (kvs.map fun p => D.str p.1) (Itk l od es) := by
  have rk := (repsK_keys r).1
  have hl := r.len
  refine Walks.plain (fun i H d e hd => ⟨e _ _ h, ?_⟩) (fun i H e hi => ⟨e _ _ h, by rw [List.length_map] at hi; omega⟩) fun i H x H' d e y hd => ⟨y.1, ?_⟩
  · have := (List.getElem?_eq_some_iff.mp hd).1
    rw [List.length_map] at this
    omega
  · obtain ⟨k, v, hkv, rfl⟩ := y.2
    obtain ⟨w, hw, rw'⟩ := rk.get hd
    rw [List.getElem?_map, hkv] at hw
    cases hw
    exact rw'
theorem pi_of {ca : Env → Out D} (ha : PE X e (tX X.K A W ca)) : PI X tg e (tI X.K A W fun ρ => (ca ρ).bind fun x ρ => Out.of (itemsv x) ρ) := by
  have key : ∀ (pins : List (Addr × Obj)) (s : Shared) (σ : L2.St) (H : Hp) (R : It → Hp → Prop), L2.Inv X pins σ H s → tX X.K A W ca σ H (fun x H1 => (∃ a, x = .ref a ∧ (∃ xs, SqL X.K H1 a xs) ∧ R (Itl X.K a) H1) ∨ (∃ a, x = .ref a ∧ (∃ xs, SqT X.K H1 a xs) ∧ R (Itt X.K a) H1) ∨ (∃ z, x = .str z ∧ R (Its z) H1) ∨ ∃ a od es, x = .ref a ∧ H1 a = some (.frz od (.dK es)) ∧ R (Itk a od es) H1) →
      wpAny (model X.prog X.w) X.A (eval e X.env) (fun v s1 => wpAny (model X.prog X.w) X.A (pyIter v) (PIE X pins σ tg R) X.xe s1) X.xe s := by
    intro pins s σ H R I hw
    refine thn (ha.run pins s σ H _ I hw) fun v s1 ⟨x, H1, I1, r1, q1⟩ => ?_
    rcases q1 with q1 | q1 | q1 | q1
    rotate_left 3
    · obtain ⟨a, od, es, rfl, hd, q⟩ := q1
      cases r1
      obtain ⟨k1, k2, k3, en, ep, ws, k4, k5, _⟩ := I1.frzK hd
      refine iter_keys k1 k2 k3 k4 ?_
      rw [k5]
      exact pi_one (tk := s1.toks) I1 _ (turn_keys _ k4) ⟨_, Heap.get?_push_size _ rfl, rfl, rfl⟩ q
    · obtain ⟨a, rfl, ⟨xs, hq⟩, q⟩ := q1
      cases r1
      obtain ⟨its, rv, p, hz⟩ := I1.list hq
      refine wpAny_pyIter_list p.isList ?_
      refine ⟨s1.heap.objs.size, [s1.heap.objs.size], _, _, H1, rfl, I1.kept (t' := s1.toks) fun b o e => Heap.get?_push_of_some _ e, turn_list a _, ⟨_, Heap.get?_push_size _ rfl, rfl, rfl⟩, fun b hb => ?_, q⟩
      have e : b = s1.heap.objs.size := by simpa using hb
      subst e
      exact I1.fpOk (Nat.le_refl _) (I1.hok.fresh (Nat.le_refl _))
    · obtain ⟨a, rfl, ⟨xs, hq⟩, q⟩ := q1
      cases r1
      obtain ⟨its, rv, p, hz⟩ := I1.tuple hq
      refine wpAny_pyIter_tuple (show s1.heap.IsTuple a its.toArray from p) ?_
      refine ⟨s1.heap.objs.size, [s1.heap.objs.size], _, _, H1, rfl, I1.kept (t' := s1.toks) fun b o e => Heap.get?_push_of_some _ e, turn_tuple a _, ⟨_, Heap.get?_push_size _ rfl, rfl, rfl⟩, fun b hb => ?_, q⟩
      have e : b = s1.heap.objs.size := by simpa using hb
      subst e
      exact I1.fpOk (Nat.le_refl _) (I1.hok.fresh (Nat.le_refl _))
    · obtain ⟨x, rfl, q⟩ := q1
      obtain ⟨t, rfl⟩ := r1
      cases ha : x.cps.all (· < 128)
      · exact wpAny_pyIter_wide ha (pi_one (tk := s1.toks) I1 _ (turn_str _ x t "str_iterator" (.inr rfl)) ⟨_, Heap.get?_push_size _ rfl, rfl, rfl⟩ q)
      · exact wpAny_pyIter_ascii ha (pi_one (tk := s1.toks) I1 _ (turn_str _ x t "str_ascii_iterator" (.inl rfl)) ⟨_, Heap.get?_push_size _ rfl, rfl, rfl⟩ q)
  refine ⟨fun pins s σ H R I hw => key pins s σ H R I ?_⟩
  obtain ⟨E, S, ρ, fs, st, p⟩ := hw
  refine ⟨E, S, ρ, fs, st, (Post.bind p).mono fun d ρ1 S1 H1 fs1 e1 st1 p1 v r => ?_⟩
  cases d with
  | lst xs =>
    obtain ⟨l, vs, rfl, h1, h2⟩ := r.lst_inv
    exact .inl ⟨l, rfl, ⟨vs, .inl (Same.rd st1.sub h1)⟩, Post.here p1 st1 _ (walks_list h1 h2)⟩
  | tup xs =>
    obtain ⟨l, vs, rfl, h1, h2⟩ := r.tup_inv
    exact .inr (.inl ⟨l, rfl, ⟨vs, Same.sqt st1.sub h1⟩, Post.here p1 st1 _ (walks_tup h1 h2)⟩)
  | str z =>
    cases r.str_inv
    exact .inr (.inr (.inl ⟨z, rfl, Post.here p1 st1 _ walks_str⟩))
  | dic kvs =>
    obtain ⟨l, es, rfl, ⟨od, h1⟩, h2⟩ := r.dic_inv
    exact .inr (.inr (.inr ⟨l, od, es, rfl, st1.sub _ _ h1, Post.here p1 st1 _ (walks_keys h1 h2)⟩))
  | _ => exact (show False from p1).elim
theorem walks_rng {K : PySem.W.Frag} {S : Hp} (lo : Int) (n : Nat) : Walks K A S ((List.range n).map fun (k : Nat) => D.int (lo + k)) (Itr lo n) := by
  refine Walks.plain (fun i H d e hd => ?_) (fun i H e hi => ?_) fun i H x H' d e y hd => ⟨y.1, ?_⟩
  · obtain ⟨q, _⟩ := List.getElem?_eq_some_iff.mp hd
    show i < n
    simpa using q
  · show n ≤ i
    simpa using hi
  · rw [y.2]
    have q := (List.getElem?_eq_some_iff.mp hd).1
    have q' : i < n := by simpa using q
    rw [List.getElem?_map, List.getElem?_range q'] at hd
    cases hd
    exact Rep.int _
theorem pi_rng {p : Pos} {es : List Expr} {cs : List Code} {G : Prog} {fa : Nat → Addr} {fd : Nat → FuncData} {call : Nat → D → List D → Res} {n : Nat} (C : Ctx G A fa fd call n X W) (hg : Gl X "range") (h : Alls X A W es cs) (hl : es.length = 1 ∨ es.length = 2) :
    PI X tg (.Call (.Name "range" p) es [] pos) (tI X.K A W fun ρ => (evsC cs ρ).bind fun ds ρ => Out.of (rngv ds) ρ) := by
  have hm := C.facts.blt "range" (by decide +kernel)
  cases h with
  | nil => simp at hl
  | @cons e c es cs h1 h2 hs hr =>
    cases hr with
    | nil =>
      refine PI.imp (pi_range1 hg hm (Alls.pa (.cons h1 h2 hs .nil)) (star_of hs)) fun σ H R hw => ?_
      obtain ⟨E, S, ρ, fs, st, p⟩ := hw
      refine ⟨E, S, ρ, fs, st, (Post.bindE p).mono fun ds ρ1 S1 H1 fs1 e1 st1 ⟨q, p1⟩ vs r => ?_⟩
      have hlen := evsC_len q
      cases hz : rngv ds with
      | none => rw [hz] at p1; exact p1.elim
      | some xs =>
        rw [hz] at p1
        unfold rngv at hz
        split at hz <;> first | contradiction | skip
        · split at hz <;> first | contradiction | skip
          rename_i hok
          cases hz
          obtain ⟨v, rfl, rv⟩ := reps_one r
          cases rv.int_inv
          obtain ⟨b1, b2⟩ := okI_of hok
          refine ⟨_, rfl, by omega, by omega, Post.here p1 st1 _ ?_⟩
          have w : ∀ n : Nat, Walks X.K A S1 ((List.range n).map fun (k : Nat) => D.int k) (Itr 0 n) := fun n => by simpa using walks_rng (A := A) (K := X.K) (S := S1) 0 n
          exact w _
        · simp at hlen
    | @cons e2 c2 es2 cs2 g1 g2 gs gr =>
      cases gr with
      | cons _ _ _ _ => simp at hl
      | nil =>
        refine PI.imp (pi_range2 hg hm (Alls.pa (.cons h1 h2 hs (.cons g1 g2 gs .nil))) (by rw [star_of hs, star_of gs]; rfl) (by rw [star_of gs]; rfl)) fun σ H R hw => ?_
        obtain ⟨E, S, ρ, fs, st, p⟩ := hw
        refine ⟨E, S, ρ, fs, st, (Post.bindE p).mono fun ds ρ1 S1 H1 fs1 e1 st1 ⟨q, p1⟩ vs r => ?_⟩
        have hlen := evsC_len q
        cases hz : rngv ds with
        | none => rw [hz] at p1; exact p1.elim
        | some xs =>
          rw [hz] at p1
          unfold rngv at hz
          split at hz <;> first | contradiction | skip
          · simp at hlen
          · split at hz <;> first | contradiction | skip
            rename_i hok
            cases hz
            rw [Bool.and_eq_true] at hok
            obtain ⟨b1, b2⟩ := okI_of hok.1
            obtain ⟨b3, b4⟩ := okI_of hok.2
            unfold Reps at r
            obtain ⟨v, r', rfl, rv, r2⟩ := r
            obtain ⟨v2, rfl, rv2⟩ := reps_one r2
            cases rv.int_inv
            cases rv2.int_inv
            exact ⟨_, _, rfl, ⟨by omega, by omega, by omega, by omega⟩, Post.here p1 st1 _ (walks_rng _ _)⟩
theorem zipWith_get {α β γ : Type} {f : α → β → γ} : ∀ {xs : List α} {ys : List β} {i : Nat} {z : γ}, (List.zipWith f xs ys)[i]? = some z → ∃ x y, xs[i]? = some x ∧ ys[i]? = some y ∧ z = f x y := by
  intro xs ys i z h
  rw [List.getElem?_zipWith] at h
  cases hx : xs[i]? with
  | none => rw [hx] at h; cases h
  | some x =>
    cases hy : ys[i]? with
    | none => rw [hx, hy] at h; cases h
    | some y =>
      rw [hx, hy] at h
      exact ⟨x, y, rfl, rfl, by cases h; rfl⟩
/-- a pair given out, newly laid -/
theorem lay_pair {K : PySem.W.Frag} {Sc H : Hp} {T : Addr} {d1 d2 : D} {x y : V} (hT : H T = none) (sub : Same Sc H) (r1 : Rep K A Sc d1 x) (r2 : Rep K A Sc d2 y) :
    ∃ S', Same Sc S' ∧ Same H (upd H T (.tup [x, y])) ∧ Same S' (upd H T (.tup [x, y])) ∧ (∀ a o, S' a = some o → Sc a = some o ∨ H a = none) ∧ Rep K A S' (.tup [d1, d2]) (.ref T) := by
  have hs : Sc T = none := sub.free hT
  refine ⟨upd Sc T (.tup [x, y]), upd_same_of hs, upd_same_of hT, fun b u q => ?_, fun b u q => ?_, ?_⟩
  · by_cases e : b = T
    · subst e; rw [upd_same] at q ⊢; exact q
    · rw [upd_ne e] at q ⊢; exact sub b u q
  · by_cases e : b = T
    · subst e; exact .inr hT
    · rw [upd_ne e] at q; exact .inl q
  · unfold Rep
    exact ⟨T, _, rfl, SqT.of upd_same, Reps.mono (upd_same_of hs) _ _ (.cons r1 (.cons r2 .nil))⟩
theorem walks_zipL {K : PySem.W.Frag} {S : Hp} {a b : Addr} {xs ys : List D} {vs us : List V} (h1 : Rd S a (.lst vs)) (r1 : Reps K A S xs vs) (h2 : Rd S b (.lst us)) (r2 : Reps K A S ys us) : Walks K A S (List.zipWith pairD xs ys) (Itz K a b) := by
  refine ⟨fun i H d e hd => ?_, fun i H e hi => ⟨vs, us, .inl (Same.rd e h1), .inl (Same.rd e h2), ?_⟩, fun i H x H' d Sc e1 e2 y hd => ?_⟩
  · obtain ⟨d1, d2, g1, g2, _⟩ := zipWith_get hd
    obtain ⟨v, hv, _⟩ := r1.get g1
    obtain ⟨u, hu, _⟩ := r2.get g2
    exact ⟨vs, us, v, u, .inl (Same.rd e h1), .inl (Same.rd e h2), hv, hu⟩
  · rw [List.length_zipWith] at hi
    rw [r1.len, r2.len]
    omega
  · obtain ⟨d1, d2, g1, g2, rfl⟩ := zipWith_get hd
    obtain ⟨T, x', y', rfl, hT, rfl, q1, q2⟩ := y
    have z1 := q1 vs (.inl (Same.rd (e1.trans e2) h1))
    have z2 := q2 us (.inl (Same.rd (e1.trans e2) h2))
    obtain ⟨v, hv, rv⟩ := r1.get g1
    obtain ⟨u, hu, ru⟩ := r2.get g2
    rw [hv] at z1; cases z1
    rw [hu] at z2; cases z2
    exact lay_pair hT e2 (Rep.mono e1 _ _ rv) (Rep.mono e1 _ _ ru)
theorem walks_zipT {K : PySem.W.Frag} {S : Hp} {a b : Addr} {xs ys : List D} {vs us : List V} (h1 : SqT K S a vs) (r1 : Reps K A S xs vs) (h2 : SqT K S b us) (r2 : Reps K A S ys us) : Walks K A S (List.zipWith pairD xs ys) (ItzT K a b) := by
  refine ⟨fun i H d e hd => ?_, fun i H e hi => ⟨vs, us, Same.sqt e h1, Same.sqt e h2, ?_⟩, fun i H x H' d Sc e1 e2 y hd => ?_⟩
  · obtain ⟨d1, d2, g1, g2, _⟩ := zipWith_get hd
    obtain ⟨v, hv, _⟩ := r1.get g1
    obtain ⟨u, hu, _⟩ := r2.get g2
    exact ⟨vs, us, v, u, Same.sqt e h1, Same.sqt e h2, hv, hu⟩
  · rw [List.length_zipWith] at hi
    rw [r1.len, r2.len]
    omega
  · obtain ⟨d1, d2, g1, g2, rfl⟩ := zipWith_get hd
    obtain ⟨T, x', y', rfl, hT, rfl, q1, q2⟩ := y
    have z1 := q1 vs (Same.sqt (e1.trans e2) h1)
    have z2 := q2 us (Same.sqt (e1.trans e2) h2)
    obtain ⟨v, hv, rv⟩ := r1.get g1
    obtain ⟨u, hu, ru⟩ := r2.get g2
    rw [hv] at z1; cases z1
    rw [hu] at z2; cases z2
    exact lay_pair hT e2 (Rep.mono e1 _ _ rv) (Rep.mono e1 _ _ ru)
theorem pi_zip_ {p tpos : Pos} {elts : List Expr} {kk : Nat} {ca cb : Env → Out D} {G : Prog} {fa : Nat → Addr} {fd : Nat → FuncData} {call : Nat → D → List D → Res} {n : Nat} (C : Ctx G A fa fd call n X W) (hg : Gl X "zip")
    (ha : PE X a (tX X.K A W ca)) (hb : PE X b (tX X.K A W cb)) (hsa : notStar a = true) (hsb : notStar b = true) :
    PI X (.Tuple elts kk tpos) (.Call (.Name "zip" p) [a, b] [] pos) (tI X.K A W fun ρ => (ca ρ).bind fun x ρ => (cb ρ).bind fun y ρ => Out.of (zipv x y) ρ) := by
  have hm := C.facts.blt "zip" (by decide +kernel)
  refine PI.imp (pi_zipA hg hm (pa_cons ha (pa_cons hb pa_nil (star_of hsb)) (star_of hsa)) (star_of hsa) (by rw [star_of hsb]; rfl)) fun σ H R hw => ?_
  obtain ⟨E, S, ρ, fs, st, p⟩ := hw
  refine ⟨E, S, ρ, fs, st, (Post.bind p).mono fun d1 ρ1 S1 H1 fs1 e1 st1 p1 v1 r1 => ⟨E, S1, ρ1, fs1, st1, (Post.bind p1).mono fun d2 ρ2 S2 H2 fs2 e2 st2 p2 v2 r2 => ?_⟩⟩
  have r1 := Rep.mono e2 _ _ r1
  cases hz : zipv d1 d2 with
  | none => rw [hz] at p2; exact p2.elim
  | some xs =>
    rw [hz] at p2
    unfold zipv at hz
    split at hz <;> first | contradiction | skip
    · cases hz
      obtain ⟨a, vs, rfl, h1, h2⟩ := r1.lst_inv
      obtain ⟨b, us, rfl, h3, h4⟩ := r2.lst_inv
      exact ⟨a, b, vs, us, rfl, .inl ⟨.inl (Same.rd st2.sub h1), .inl (Same.rd st2.sub h3), Post.here p2 st2 _ (walks_zipL h1 h2 h3 h4)⟩⟩
    · cases hz
      obtain ⟨a, vs, rfl, h1, h2⟩ := r1.tup_inv
      obtain ⟨b, us, rfl, h3, h4⟩ := r2.tup_inv
      exact ⟨a, b, vs, us, rfl, .inr ⟨Same.sqt st2.sub h1, Same.sqt st2.sub h3, Post.here p2 st2 _ (walks_zipT h1 h2 h3 h4)⟩⟩

/-! ### comprehensions -/
theorem wipeE_get {ρ : Env} {j : Nat} : ∀ {own : List Nat}, getS (wipeE ρ own) j = if j ∈ own then .no else getS ρ j
  | [] => by unfold wipeE; simp
  | i :: is => by
    unfold wipeE
    rw [getS_set, wipeE_get (own := is)]
    by_cases e : i = j
    · subst e
      rw [if_pos rfl, if_pos (List.mem_cons_self)]
      split <;> rfl
    · rw [if_neg e]
      have ne : j ≠ i := fun z => e z.symm
      have : j ∈ i :: is ↔ j ∈ is := by simp [ne]
      simp only [this]
theorem wipeE_length (ρ : Env) : ∀ own : List Nat, (wipeE ρ own).length = ρ.length
  | [] => rfl
  | i :: is => by unfold wipeE; rw [List.length_set, wipeE_length ρ is]
theorem wipe_get {σ : L2.St} {j : Nat} : ∀ {vs : List Nat}, j ∉ vs → (wipe σ vs)[j]? = σ[j]?
  | [], _ => rfl
  | v :: vs, h => by
    unfold wipe
    rw [List.getElem?_set_ne (fun z => h (by simp [z]))]
    exact wipe_get (fun z => h (List.mem_cons_of_mem _ z))
theorem wipe_at {σ : L2.St} {j : Nat} : ∀ {vs : List Nat}, j ∈ vs → (wipe σ vs)[j]? = if j < σ.length then some none else none
  | v :: vs, h => by
    unfold wipe
    by_cases e : v = j
    · subst e
      by_cases hl : v < σ.length
      · rw [if_pos hl, List.getElem?_set_self (by rw [wipe_length]; exact hl)]
      · rw [if_neg hl, List.getElem?_eq_none (by rw [List.length_set, wipe_length]; omega)]
    · rw [List.getElem?_set_ne e]
      rcases List.mem_cons.mp h with z | z
      · exact absurd z.symm e
      · exact wipe_at z
theorem wipe_ext {σ τ : L2.St} {vs : List Nat} (hl : σ.length = τ.length) (h : ∀ j, j ∉ vs → σ[j]? = τ[j]?) : wipe σ vs = wipe τ vs := by
  apply List.ext_getElem?
  intro j
  by_cases e : j ∈ vs
  · rw [wipe_at e, wipe_at e, hl]
  · rw [wipe_get e, wipe_get e]
    exact h j e
/-- own names forgotten -/
theorem Sta.wipe {K : PySem.W.Frag} {E : Ent} {S H : Hp} {ρ : Env} {σ : L2.St} {fs : Nat → List Addr} {own : List Nat} (st : Sta K A E S H ρ σ fs) (hz : E.z = none) : Sta K A E S H (wipeE ρ own) (L2.wipe σ own) (fun j => if j ∈ own then [] else fs j) := by
  refine ⟨by rw [wipe_length, wipeE_length]; exact st.len, st.sub, fun j => ?_, fun j k hjk a ha => ?_, st.ghost, st.s0, fun j a ha => ?_, st.snew, fun w hw => by rw [hz] at hw; cases hw⟩
  · rw [wipeE_get]
    by_cases e : j ∈ own
    · rw [if_pos e, if_pos e]
      rfl
    · rw [if_neg e, if_neg e, wipe_get e]
      exact st.slot j
  · by_cases e : j ∈ own
    · rw [if_pos e] at ha; simp at ha
    · rw [if_neg e] at ha
      by_cases e2 : k ∈ own
      · rw [if_pos e2]; simp
      · rw [if_neg e2]
        exact st.dis j k hjk a ha
  · by_cases e : j ∈ own
    · rw [if_pos e] at ha; simp at ha
    · rw [if_neg e] at ha
      exact st.new j a ha
/-- a place that nobody knows may change -/
theorem Sta.aside {K : PySem.W.Frag} {E : Ent} {S H : Hp} {ρ : Env} {σ : L2.St} {fs : Nat → List Addr} {a : Addr} {o : HO} (st : Sta K A E S H ρ σ fs) (h1 : S a = none) (h2 : ∀ j, a ∉ fs j) (h3 : E.gh a = none) : Sta K A E S (upd H a o) ρ σ fs := by
  refine ⟨st.len, fun b u q => ?_, fun j => SlR.keep (Same.refl S) (fun b hb => ⟨((st.slot j).at b hb).1, upd_ne fun z => h2 j (z ▸ hb)⟩) (st.slot j), st.dis, fun b u q => ?_, st.s0, st.new, st.snew, st.z⟩
  · rw [upd_ne (fun z => by subst z; rw [h1] at q; cases q)]
    exact st.sub b u q
  · rw [upd_ne (fun z => by subst z; rw [h3] at q; cases q)]
    exact st.ghost b u q
/-- the entry of a comprehension's turn: all but what is somebody's own must stay -/
noncomputable def turnE (S H : Hp) (fs : Nat → List Addr) : Ent := ⟨S, fun a => open Classical in if ∃ j, a ∈ fs j then none else H a, none⟩
theorem turnE_in {S H : Hp} {fs : Nat → List Addr} {a : Addr} {j : Nat} (h : a ∈ fs j) : (turnE S H fs).gh a = none := by
  unfold turnE
  exact if_pos ⟨j, h⟩
theorem turnE_out {S H : Hp} {fs : Nat → List Addr} {a : Addr} (h : ∀ j, a ∉ fs j) : (turnE S H fs).gh a = H a := by
  unfold turnE
  exact if_neg fun ⟨j, z⟩ => h j z
theorem turnE_none {S H : Hp} {fs : Nat → List Addr} {a : Addr} (h : (turnE S H fs).gh a = none) : (∃ j, a ∈ fs j) ∨ H a = none := by
  by_cases q : ∃ j, a ∈ fs j
  · exact .inl q
  · exact .inr ((turnE_out (S := S) (H := H) fun j z => q ⟨j, z⟩).symm.trans h)
theorem Sta.enter {K : PySem.W.Frag} {E : Ent} {S H : Hp} {ρ : Env} {σ : L2.St} {fs : Nat → List Addr} (st : Sta K A E S H ρ σ fs) : Sta K A (turnE S H fs) S H ρ σ fs := by
  refine ⟨st.len, st.sub, st.slot, st.dis, fun a o q => ?_, Same.refl S, fun j a ha => turnE_in ha, fun a o q => .inl q, fun w hw => by cases hw⟩
  by_cases h : ∃ j, a ∈ fs j
  · obtain ⟨j, h⟩ := h
    rw [turnE_in h] at q
    cases q
  · rw [turnE_out fun j z => h ⟨j, z⟩] at q
    exact q
/-- behind the turn -/
theorem Sta.leave {K : PySem.W.Frag} {E : Ent} {S S' H H' : Hp} {ρ ρ1 : Env} {σ σ1 : L2.St} {fs fs' : Nat → List Addr} {own : List Nat} (st : Sta K A E S H ρ σ fs) (st' : Sta K A (turnE S H fs) S' H' ρ1 σ1 fs') (e : Same S S')
    (h1 : ∀ j, j ∉ own → getS ρ1 j = getS ρ j) (h2 : ∀ j, j ∉ own → σ1[j]? = σ[j]?) (h3 : ∀ j ∈ own, isOw (getS ρ j) = false) : Sta K A E S' H' ρ σ (fun j => if j ∈ own then [] else fs' j) := by
  refine ⟨st.len, st'.sub, fun j => ?_, fun j k hjk a ha => ?_, fun a o q => ?_, st.s0.trans e, fun j a ha => ?_, fun a o q => ?_, st.z⟩
  · by_cases eo : j ∈ own
    · rw [if_pos eo]
      have q := st.slot j
      have q3 := h3 j eo
      cases hs : getS ρ j with
      | no => rfl
      | fz d =>
        rw [hs] at q
        obtain ⟨_, v, z1, z2⟩ := q
        exact ⟨rfl, v, z1, Rep.mono e _ _ z2⟩
      | ow d => rw [hs] at q3; cases q3
    · rw [if_neg eo]
      have q := st'.slot j
      rw [h1 j eo, h2 j eo] at q
      exact q
  · by_cases eo : j ∈ own
    · rw [if_pos eo] at ha; simp at ha
    · rw [if_neg eo] at ha
      by_cases e2 : k ∈ own
      · rw [if_pos e2]; simp
      · rw [if_neg e2]
        exact st'.dis j k hjk a ha
  · refine st'.ghost a o ?_
    have hn : ∀ j, a ∉ fs j := fun j hj => by
      have z := st.new j a hj
      rw [q] at z
      cases z
    rw [turnE_out hn]
    exact st.ghost a o q
  · by_cases eo : j ∈ own
    · rw [if_pos eo] at ha; simp at ha
    · rw [if_neg eo] at ha
      rcases turnE_none (st'.new j a ha) with ⟨k, hk⟩ | z
      · exact st.new k a hk
      · exact st.ghost.free z
  · rcases st'.snew a o q with z | z
    · exact st.snew a o z
    · rcases turnE_none z with ⟨k, hk⟩ | z
      · exact .inr (st.new k a hk)
      · exact .inr (st.ghost.free z)
end
/-! ### enumerate of lists and tuples -/
set_option maxHeartbeats 1000000 in
theorem meets_enumerate_new0 {v : Value} {o : Obj} {H : Heap → Prop} (B : Begins v o H) :
    Meets (Builtin.«enumerate.__new__» ⟨[.type "enumerate", v], []⟩) (fun _ R s => H s.heap ∧
      R (.ok (.ret (.ref (s.heap.push o).objs.size))) { s with heap := (s.heap.push o).push { cls := .type "enumerate", data := .fields #[.none, .bool false, .ref s.heap.objs.size, rawInt 0, .none, .none] } }) :=
  .of_wp fun prog w A R s h => by
    obtain ⟨hp, g, d, tk, os⟩ := s; obtain ⟨h1, h⟩ := h
    have hsub := sub_enumerate
    have q1 : ∀ {A' : Around} {E : Value → Shared → Prop} {Q : Value → Shared → Prop}, Q (.ref hp.objs.size) ⟨hp.push o, g, d, tk, os⟩ → wpAny (model prog w) A' (pyIter v) Q E ⟨hp, g, d, tk, os⟩ :=
      fun q => B.iter prog w _ _ ⟨hp, g, d, tk, os⟩ _ h1 q
    wp_walk using q1
    refine wpAny_stack_any fun st => wpAny_pure ?_
    split
    · rename_i c _ _ _ _ _
      cases (c == Value.type "enumerate")
      · wp_walk using q1
        exact ⟨_, rfl, h⟩
      · wp_walk using q1
        exact ⟨_, rfl, h⟩
    · wp_walk using q1
      exact ⟨_, rfl, h⟩
theorem enum_begins0 {prog : Program} {w : World} {A : Around} {E : Value → Shared → Prop} {s : Shared} {v : Value} {o : Obj} {H : Heap → Prop} {Q : Value → Shared → Prop} (B : Begins v o H) (h1 : H s.heap)
    (h : ∀ h', IsEnum h' (s.heap.objs.size + 1) s.heap.objs.size 0 .none → h'.get? s.heap.objs.size = some o → h'.objs.size = s.heap.objs.size + 2 →
      (∀ b o, s.heap.get? b = some o → h'.get? b = some o) → Q (.ref (s.heap.objs.size + 1)) { s with heap := h' }) :
    wpAny (model prog w) A (PySem.call (.type "enumerate") [v]) Q E s := by
  refine callType_new F.called_enumerate (by decide) (F.typeCall_enumerate_1 _) (F.newCall_enumerate_1 _) (fun obj => F.args_object_init_2 obj _) F.entry_enumerate_new
    (meets_enumerate_new0 B) ⟨h1, ?_⟩
  have hz : (s.heap.push o).objs.size = s.heap.objs.size + 1 := Heap.size_push ..
  show _ ∧ _
  rw [hz]
  have he : IsEnum ((s.heap.push o).push { cls := .type "enumerate", data := .fields #[.none, .bool false, .ref s.heap.objs.size, rawInt 0, .none, .none] }) (s.heap.objs.size + 1) s.heap.objs.size 0 .none := by
    have := Heap.get?_push_size (s.heap.push o) (o := { cls := .type "enumerate", data := .fields #[.none, .bool false, .ref s.heap.objs.size, rawInt 0, .none, .none] }) rfl
    rw [hz] at this; exact this
  refine ⟨⟨_, he, rfl⟩, h _ he (Heap.get?_push_of_some _ (Heap.get?_push_size _ B.free)) (by rw [Heap.size_push, hz]) fun b o x => Heap.get?_push_of_some _ (Heap.get?_push_of_some _ x)⟩
/-- the tuple at a, each item in a new pair -/
def IteT (K : PySem.W.Frag) (a : Addr) : It :=
  ⟨fun i H => ∃ (xs : List V) (x : V), SqT K H a xs ∧ xs[i]? = some x, fun i H v H' => ∃ T x, v = .ref T ∧ H T = none ∧ H' = upd H T (.tup [.int (i : Nat), x]) ∧ ∀ xs, SqT K H a xs → xs[i]? = some x, fun i H => ∃ xs : List V, SqT K H a xs ∧ xs.length ≤ i⟩
theorem turn_enumT {P : Program} {w : World} {K : PySem.W.Frag} {elts : List Expr} {kk : Nat} {tpos : Pos} (a e it : Addr) :
    Turn P w K (.Tuple elts kk tpos) (IteT K a) [e, it] e (fun i h => (∃ old, IsEnum h e it ((i : Nat) : Int) old) ∧ h.IsTupleIter it a i ∧ e ≠ it ∧ a ≠ it ∧ e ≠ a) where
  mem := by simp
  obj := fun i h st b hb => by
    obtain ⟨⟨old, he⟩, ⟨o, ho, hc, hd⟩, _⟩ := st
    have e' : b = e ∨ b = it := by simpa using hb
    rcases e' with z | z
    · rw [z]; exact ⟨_, he, fun v q => nomatch q⟩
    · rw [z]; exact ⟨o, ho, fun v q => by rw [hd] at q; cases q⟩
  keep := fun i h h' st k => let ⟨⟨old, he⟩, hi, hne⟩ := st; ⟨⟨old, k e (by simp) _ he⟩, hi.at fun o q => k it (by simp) o q, hne⟩
  item := by
    intro X hP hw hK hc i pins s σ H E I hf st hg
    subst hP hw hK
    obtain ⟨⟨old, he⟩, hit, hne, hai, hea⟩ := st
    obtain ⟨xs, x, hq, hx⟩ := hg
    obtain ⟨its, rv, p, hz⟩ := I.tuple hq
    obtain ⟨u, hu, ru⟩ := rv.get hx
    have hel : e < s.heap.objs.size := Heap.lt_size he
    have hil : it < s.heap.objs.size := by obtain ⟨_, q, _⟩ := hit; exact Heap.lt_size q
    have hlt : i < its.toArray.size := by
      have q := List.getElem?_eq_some_iff.mp hu
      obtain ⟨q, _⟩ := q
      simpa using q
    refine wpAny_pyNext_enum_itemD (Draws.tuple (prog := X.prog) (w := X.w) (A := X.A.in1) (I.ok.hd hc) it a hai its.toArray) he ⟨hit, show s.heap.IsTuple a its.toArray from p⟩ hlt hne (by simp [hne, hea]) fun y h' tk hy ho hst hT hsz hk => ?_
    have ey : y = u := by
      have hu' : its.toArray[i]? = some u := by simpa using hu
      rw [hu'] at hy
      exact (Option.some.inj hy).symm
    subst ey
    refine ⟨_, rfl, wpAny_letOwnedTupleGo_enum (s := { s with heap := h', toks := tk + 1 }) ho fun h'' he' sb => ?_⟩
    have hT2 : h''.get? s.heap.objs.size = some { cls := .type "tuple", data := .seq #[.int i tk, y] } := (sb.2 _ (Nat.ne_of_gt hel)).trans hT
    have new : ObjOk X.prog X.w (upd H s.heap.objs.size (.tup [.int (i : Nat), x])) h'' s.heap.objs.size (.tup [.int (i : Nat), x]) :=
      ⟨by show 2 ≤ sizeLine; decide, [.int i tk, y], .cons ⟨_, rfl⟩ (.cons ru .nil), ⟨_, hT2, rfl, _, rfl⟩⟩
    have I1 : Inv X pins σ (upd H s.heap.objs.size (.tup [.int (i : Nat), x])) { s with heap := h'', toks := tk + 1 } :=
      I.turnedNew (ch := [e, it]) (fun b ob hb q => (sb.2 b (fun z => hb (by simp [z]))).trans (hk b ob (fun z => hb (by simp [z])) (fun z => hb (by simp [z])) q)) hf (Nat.le_refl _) new
    refine ⟨.ref s.heap.objs.size, _, I1, rfl, ⟨_, x, rfl, I.hok.fresh (Nat.le_refl _), rfl, fun ys hy => by rw [I.tuple_inj hy hq]; exact hx⟩, ⟨⟨y, ?_⟩, hst.1.at fun o q => (sb.2 it (Ne.symm hne)).trans q, hne, hai, hea⟩, fun b hb => ?_⟩
    · have e1 : ((i + 1 : Nat) : Int) = (i : Int) + 1 := by omega
      rw [e1]; exact he'
    · have hb' : b < s.heap.objs.size := by
        have e' : b = e ∨ b = it := by simpa using hb
        rcases e' with z | z
        · rw [z]; exact hel
        · rw [z]; exact hil
      rw [upd_ne (Nat.ne_of_lt hb')]
      exact (hf b hb).1
  done := by
    intro X hP hw hK hc i pins s σ H E I hf st hg
    subst hP hw hK
    obtain ⟨⟨old, he⟩, hit, hne, hai, hea⟩ := st
    obtain ⟨xs, hq, hx⟩ := hg
    obtain ⟨its, rv, p, hz⟩ := I.tuple hq
    obtain ⟨f0, f1, f2, f3, f4, f5⟩ := hf it (by simp)
    have hl := rv.length
    have D : Draws X.prog X.w X.A.in1 it [it, a] i (fun i v => False) (fun j h => j = i ∧ h.IsTupleIter it a j ∧ h.IsTuple a its.toArray) :=
      ⟨fun _ _ q => let ⟨o, ho, _⟩ := q.2.1; ⟨o, ho⟩, fun _ _ _ q hk => ⟨q.1, q.2.1.at fun o z => hk it (by simp) o z, q.2.2.at fun o z => hk a (by simp) o z⟩, fun j s Q E hi st hQ => absurd st.1 (Nat.ne_of_lt hi),
        fun s Q E st hE => wpAny_nextOf_tuple_end (I.ok.hd hc) st.2.1 st.2.2 (by simp; omega) hE⟩
    exact wpAny_pyNext_enum_endD D he ⟨rfl, hit, show s.heap.IsTuple a its.toArray from p⟩ fun h' eb => ⟨rfl, I.turned (t' := s.toks) (fun b o hb q => eb b o hb q) f0 f1 f3 f4 f5⟩
  self := fun A i s Q E st h => let ⟨⟨_, he⟩, _⟩ := st; wpAny_pyIter_enum he h
def iEnumA (K : PySem.W.Frag) (ta : TA) : TI := fun σ H R => ta σ H fun vs H1 => ∃ a xs, vs = [.ref a] ∧ ((SqL K H1 a xs ∧ R (Ite K a) H1) ∨ (SqT K H1 a xs ∧ R (IteT K a) H1))
theorem pi_enumA {X : Cx} {e : Expr} {ta : TA} {p pos tpos : Pos} {elts : List Expr} {kk : Nat} (hg : Gl X "enumerate") (hm : X.mg "enumerate" = none) (ha : PA X [e] ta) (hs : starEach [e] X.env = [(false, eval e X.env)] := by rfl) :
    PI X (.Tuple elts kk tpos) (.Call (.Name "enumerate" p) [e] [] pos) (iEnumA X.K ta) := by
  refine ⟨fun pins s σ H R I h => ?_⟩
  refine Call_ (ld_blt I hg hm boot_enumerate (PyProof.Rows.callWith_type1 (thn (ha.run pos pins s σ H _ I h) fun us s1 ⟨vs, H1, I1, r1, q1⟩ => ?_) hs rfl))
  obtain ⟨a, xs, ex, q1⟩ := q1
  subst ex
  cases r1 with
  | cons r rr =>
    cases rr
    cases r
    have fp : ∀ b ∈ [s1.heap.objs.size + 1, s1.heap.objs.size], FpOk X pins H1 b := fun b hb => by
      have e' : b = s1.heap.objs.size + 1 ∨ b = s1.heap.objs.size := by simpa using hb
      have hle : s1.heap.objs.size ≤ b := by
        rcases e' with z | z
        · rw [z]; exact Nat.le_add_right _ _
        · rw [z]; exact Nat.le_refl _
      exact I1.fpOk hle (I1.hok.fresh hle)
    rcases q1 with ⟨hq, q⟩ | ⟨hq, q⟩
    · obtain ⟨its, rv, p', hz⟩ := I1.list hq
      refine call_enumerate_list p'.isList fun h' he hit hsz hk => wpAny_pyIter_enum he ?_
      have I2 : Inv X pins σ H1 { s1 with heap := h' } := I1.kept (t' := s1.toks) hk
      exact ⟨s1.heap.objs.size + 1, [s1.heap.objs.size + 1, s1.heap.objs.size], _, _, H1, rfl, I2, turn_enum a (s1.heap.objs.size + 1) s1.heap.objs.size, ⟨⟨.none, he⟩, hit, Nat.succ_ne_self _⟩, fp, q⟩
    · obtain ⟨its, rv, p', hz⟩ := I1.tuple hq
      obtain ⟨o1, ho1, _⟩ := id p'
      have hlt := Heap.lt_size ho1
      refine enum_begins0 (begins_tuple a its.toArray) (show s1.heap.IsTuple a its.toArray from p') fun h' he hit hsz hk => wpAny_pyIter_enum he ?_
      have I2 : Inv X pins σ H1 { s1 with heap := h' } := I1.kept (t' := s1.toks) hk
      exact ⟨s1.heap.objs.size + 1, [s1.heap.objs.size + 1, s1.heap.objs.size], _, _, H1, rfl, I2, turn_enumT a (s1.heap.objs.size + 1) s1.heap.objs.size, ⟨⟨.none, he⟩, ⟨_, hit, rfl, rfl⟩, Nat.succ_ne_self _, Nat.ne_of_lt hlt, Nat.ne_of_gt (Nat.lt_succ_of_lt hlt)⟩, fp, q⟩
section
variable {A : Cls}
theorem enumFrom_get {i : Nat} {z : D} : ∀ {n : Nat} {xs : List D}, (enumFrom n xs)[i]? = some z → ∃ x, xs[i]? = some x ∧ z = pairD (.int ((n + i : Nat) : Int)) x
  | n, [], h => by cases h
  | n, x :: xs, h => by
    unfold enumFrom at h
    cases i with
    | zero => cases h; exact ⟨x, rfl, rfl⟩
    | succ i =>
      rw [List.getElem?_cons_succ] at h
      obtain ⟨y, h1, rfl⟩ := enumFrom_get h
      refine ⟨y, h1, ?_⟩
      have e : n + 1 + i = n + (i + 1) := by omega
      rw [e]
theorem enumFrom_len : ∀ {n : Nat} {xs : List D}, (enumFrom n xs).length = xs.length
  | n, [] => rfl
  | n, x :: xs => by unfold enumFrom; rw [List.length_cons, List.length_cons, enumFrom_len]
theorem walks_enumL {K : PySem.W.Frag} {S : Hp} {a : Addr} {xs : List D} {vs : List V} (h1 : Rd S a (.lst vs)) (r1 : Reps K A S xs vs) : Walks K A S (enumFrom 0 xs) (Ite K a) := by
  refine ⟨fun i H d e hd => ?_, fun i H e hi => ⟨vs, .inl (Same.rd e h1), ?_⟩, fun i H x H' d Sc e1 e2 y hd => ?_⟩
  · obtain ⟨d1, g1, _⟩ := enumFrom_get hd
    obtain ⟨v, hv, _⟩ := r1.get g1
    exact ⟨vs, v, .inl (Same.rd e h1), hv⟩
  · rw [enumFrom_len] at hi
    rw [r1.len]
    omega
  · obtain ⟨d1, g1, rfl⟩ := enumFrom_get hd
    obtain ⟨T, x', rfl, hT, rfl, q1⟩ := y
    have z1 := q1 vs (.inl (Same.rd (e1.trans e2) h1))
    obtain ⟨v, hv, rv⟩ := r1.get g1
    rw [hv] at z1; cases z1
    rw [Nat.zero_add]
    exact lay_pair hT e2 (Rep.int _) (Rep.mono e1 _ _ rv)
theorem walks_enumT {K : PySem.W.Frag} {S : Hp} {a : Addr} {xs : List D} {vs : List V} (h1 : SqT K S a vs) (r1 : Reps K A S xs vs) : Walks K A S (enumFrom 0 xs) (IteT K a) := by
  refine ⟨fun i H d e hd => ?_, fun i H e hi => ⟨vs, Same.sqt e h1, ?_⟩, fun i H x H' d Sc e1 e2 y hd => ?_⟩
  · obtain ⟨d1, g1, _⟩ := enumFrom_get hd
    obtain ⟨v, hv, _⟩ := r1.get g1
    exact ⟨vs, v, Same.sqt e h1, hv⟩
  · rw [enumFrom_len] at hi
    rw [r1.len]
    omega
  · obtain ⟨d1, g1, rfl⟩ := enumFrom_get hd
    obtain ⟨T, x', rfl, hT, rfl, q1⟩ := y
    have z1 := q1 vs (Same.sqt (e1.trans e2) h1)
    obtain ⟨v, hv, rv⟩ := r1.get g1
    rw [hv] at z1; cases z1
    rw [Nat.zero_add]
    exact lay_pair hT e2 (Rep.int _) (Rep.mono e1 _ _ rv)
theorem pi_enum_ {X : Cx} {W : WX} {a : Expr} {pos : Pos} {p tpos : Pos} {elts : List Expr} {kk : Nat} {ca : Env → Out D} {G : Prog} {fa : Nat → Addr} {fd : Nat → FuncData} {call : Nat → D → List D → Res} {n : Nat} (C : Ctx G A fa fd call n X W) (hg : Gl X "enumerate")
    (ha : PE X a (tX X.K A W ca)) (hsa : notStar a = true) :
    PI X (.Tuple elts kk tpos) (.Call (.Name "enumerate" p) [a] [] pos) (tI X.K A W fun ρ => (ca ρ).bind fun x ρ => Out.of (enumv x) ρ) := by
  have hm := C.facts.blt "enumerate" (by decide +kernel)
  refine PI.imp (pi_enumA hg hm (pa_cons ha pa_nil (star_of hsa)) (star_of hsa)) fun σ H R hw => ?_
  obtain ⟨E, S, ρ, fs, st, p⟩ := hw
  refine ⟨E, S, ρ, fs, st, (Post.bind p).mono fun d1 ρ1 S1 H1 fs1 e1 st1 p1 v1 r1 => ?_⟩
  cases hz : enumv d1 with
  | none => rw [hz] at p1; exact p1.elim
  | some xs =>
    rw [hz] at p1
    unfold enumv at hz
    split at hz <;> first | contradiction | skip
    · cases hz
      obtain ⟨a, vs, rfl, h1, h2⟩ := r1.lst_inv
      exact ⟨a, vs, rfl, .inl ⟨.inl (Same.rd st1.sub h1), Post.here p1 st1 _ (walks_enumL h1 h2)⟩⟩
    · cases hz
      obtain ⟨a, vs, rfl, h1, h2⟩ := r1.tup_inv
      exact ⟨a, vs, rfl, .inr ⟨Same.sqt st1.sub h1, Post.here p1 st1 _ (walks_enumT h1 h2)⟩⟩
end
end GW
end

section
/-! C9: targets; a comprehension. -/
namespace GW
open PySem PySem.Spec PyProof.Rows L2 RZ

section
variable {X : Cx} {A : Cls} {W : WX} {e a b c tg : Expr} {pos : Pos}
theorem Sta.put' {K : PySem.W.Frag} {E : Ent} {S H : Hp} {ρ : Env} {σ : L2.St} {fs : Nat → List Addr} {i : Nat} {d : D} {v : V} (st : Sta K A E S H ρ σ fs) (r : Rep K A S d v) (hz : i ≠ 0 ∨ E.z = none) :
    Sta K A E S H (ρ.set i (.fz d)) (σ.set i (some v)) (fun j => if j = i then [] else fs j) := by
  by_cases hi : i < σ.length
  · exact st.put hi r hz
  · have h1 : σ.set i (some v) = σ := List.set_eq_of_length_le (by omega)
    have h2 : ρ.set i (.fz d) = ρ := List.set_eq_of_length_le (by rw [← st.len]; omega)
    rw [h1, h2]
    have h3 : getS ρ i = .no := by
      unfold getS
      rw [List.getElem?_eq_none (by rw [← st.len]; omega)]
    refine ⟨st.len, st.sub, fun j => ?_, fun j k hjk a ha => ?_, st.ghost, st.s0, fun j a ha => ?_, st.snew, st.z⟩
    · by_cases e : j = i
      · subst e
        rw [if_pos rfl, h3]
        rfl
      · rw [if_neg e]
        exact st.slot j
    · by_cases e : j = i
      · rw [if_pos e] at ha; simp at ha
      · rw [if_neg e] at ha
        by_cases e2 : k = i
        · rw [if_pos e2]; simp
        · rw [if_neg e2]
          exact st.dis j k hjk a ha
    · by_cases e : j = i
      · rw [if_pos e] at ha; simp at ha
      · rw [if_neg e] at ha
        exact st.new j a ha
theorem Sta.putV {K : PySem.W.Frag} {E : Ent} {S H : Hp} {ρ : Env} {σ : L2.St} {fs : Nat → List Addr} {i : Nat} {x : D × Bool} {v : V} {fp : List Addr} (st : Sta K A E S H ρ σ fs) (r : RV K A S H x v fp) (ap : Apart E fs fp) (hz : i ≠ 0 ∨ E.z = none) :
    ∃ fs', Sta K A E S H (putV ρ i x) (σ.set i (some v)) fs' := by
  obtain ⟨d, o⟩ := x
  unfold RV at r
  unfold GW.putV
  cases o with
  | false =>
    rw [if_neg (by simp)] at r ⊢
    exact ⟨_, st.put' r.2 hz⟩
  | true =>
    rw [if_pos rfl] at r ⊢
    by_cases hi : i < σ.length
    · exact ⟨_, st.putO hi r ap hz⟩
    · have h1 : σ.set i (some v) = σ := List.set_eq_of_length_le (by omega)
      have h2 : ρ.set i (.ow d) = ρ := List.set_eq_of_length_le (by rw [← st.len]; omega)
      dsimp only
      rw [h1, h2]
      exact ⟨fs, st⟩

/-! ### targets -/
/-- the target tg stores as T does -/
def PGok (X : Cx) (A : Cls) (tg : Expr) (T : Tg) : Prop := ∃ g, PG X tg g ∧ ∀ E S H ρ σ fs d x ρ1 (Q : L2.St → Hp → Prop), Sta X.K A E S H ρ σ fs → Rep X.K A S d x → setTg ρ T d = some ρ1 → (0 ∉ T.slots ∨ E.z = none) →
  (∀ σ1 fs1, Sta X.K A E S H ρ1 σ1 fs1 → (∀ j, j ∉ T.slots → σ1[j]? = σ[j]?) → (∀ j, j ∉ T.slots → getS ρ1 j = getS ρ j) → σ1.length = σ.length → Q σ1 H) → g x σ H Q
theorem pgok_nm {i : Nat} {x : Str} (hN : X.N.Nodup) (hi : X.N[i]? = some x) (hx : Loc X.env.scope x) (hf : X.fn x = true ∨ X.env.scope.names.lookup x = some .local) : PGok X A (.Name x pos) (.nm i) := by
  refine ⟨gName i, pg_name hN hi hx hf, fun E S H ρ σ fs d v ρ1 Q st r h hz q => ?_⟩
  cases h
  refine q _ _ (st.put' r (hz.imp (fun z w => z (by simp [Tg.slots, w])) id)) (fun j hj => ?_) (fun j hj => ?_) (List.length_set ..)
  · exact List.getElem?_set_ne (fun z => hj (by simp [Tg.slots, z]))
  · rw [getS_set, if_neg (fun z => hj (by simp [Tg.slots, z]))]
/-- names, one by one -/
inductive Nms (X : Cx) : List Expr → List Nat → Prop
  | nil : Nms X [] []
  | cons {i : Nat} {x : Str} {pos : Pos} {es : List Expr} {is : List Nat} : X.N[i]? = some x → Loc X.env.scope x → (X.fn x = true ∨ X.env.scope.names.lookup x = some .local) → Nms X es is → Nms X (.Name x pos :: es) (i :: is)
def gNms : List Nat → TGs
  | [] => gNil
  | i :: is => gCons (gName i) (gNms is)
theorem Nms.pgs (hN : X.N.Nodup) {es : List Expr} {is : List Nat} (h : Nms X es is) : PGs X es (gNms is) := by
  induction h with
  | nil => exact pgs_nil
  | cons h1 h2 h3 _ ih => exact pgs_cons (pg_name hN h1 h2 h3) ih rfl
theorem Nms.len {es : List Expr} {is : List Nat} (h : Nms X es is) : (assignEach es X.env).length = is.length ∧ (assignEach es X.env).findIdx? (·.1) = none := by
  induction h with
  | nil => exact ⟨rfl, rfl⟩
  | cons _ _ _ _ ih =>
    refine ⟨?_, ?_⟩
    · show (assignEach _ X.env).length + 1 = _
      rw [ih.1]
      rfl
    · show List.findIdx? _ ((false, _) :: assignEach _ X.env) = none
      rw [List.findIdx?_cons, ih.2]
      rfl
theorem gNms_ok {K : PySem.W.Frag} {E : Ent} {S H : Hp} : ∀ {is : List Nat} {ρ ρ1 : Env} {σ : L2.St} {fs : Nat → List Addr} {ds : List D} {vs : List V} {Q : L2.St → Hp → Prop}, Sta K A E S H ρ σ fs → Reps K A S ds vs → setTs ρ is ds = some ρ1 → (0 ∉ is ∨ E.z = none) →
    (∀ σ1 fs1, Sta K A E S H ρ1 σ1 fs1 → (∀ j, j ∉ is → σ1[j]? = σ[j]?) → (∀ j, j ∉ is → getS ρ1 j = getS ρ j) → σ1.length = σ.length → Q σ1 H) → gNms is vs σ H Q
  | [], ρ, ρ1, σ, fs, ds, vs, Q, st, r, h, hz, q => by
    cases ds with
    | nil =>
      cases h
      unfold Reps at r
      exact ⟨r, q σ fs st (fun _ _ => rfl) (fun _ _ => rfl) rfl⟩
    | cons _ _ => cases h
  | i :: is, ρ, ρ1, σ, fs, ds, vs, Q, st, r, h, hz, q => by
    cases ds with
    | nil => cases h
    | cons d ds =>
      unfold Reps at r
      obtain ⟨v, r', rfl, h1, h2⟩ := r
      unfold setTs at h
      refine ⟨v, r', rfl, ?_⟩
      refine gNms_ok (st.put' (i := i) h1 (hz.imp (fun z w => z (by simp [w])) id)) h2 h (hz.imp (fun z w => z (List.mem_cons_of_mem _ w)) id) fun σ1 fs1 st1 k1 k2 k3 => q σ1 fs1 st1 (fun j hj => ?_) (fun j hj => ?_) (k3.trans (List.length_set ..))
      · rw [List.mem_cons, not_or] at hj
        rw [k1 j hj.2, List.getElem?_set_ne (fun z => hj.1 z.symm)]
      · rw [List.mem_cons, not_or] at hj
        rw [k2 j hj.2, getS_set, if_neg (fun z => hj.1 z.symm)]
theorem setTs_len : ∀ {is : List Nat} {ρ ρ1 : Env} {ds : List D}, setTs ρ is ds = some ρ1 → ds.length = is.length
  | [], _, _, ds, h => by
    cases ds with
    | nil => rfl
    | cons _ _ => cases h
  | i :: is, ρ, ρ1, ds, h => by
    cases ds with
    | nil => cases h
    | cons d ds =>
      unfold setTs at h
      simp [setTs_len h]
theorem pgok_tp {es : List Expr} {is : List Nat} {k : Nat} (hc : X.calm = true) (hN : X.N.Nodup) (h : Nms X es is) : PGok X A (.Tuple es k pos) (.tp is) := by
  refine ⟨_, pg_tup hc (h.pgs hN) h.len.1 h.len.2, fun E S H ρ σ fs d x ρ1 Q st r hs hz q => ?_⟩
  unfold setTg at hs
  cases d with
  | tup ds =>
    obtain ⟨a, vs, rfl, h1, h2⟩ := r.tup_inv
    exact ⟨a, vs, rfl, Same.sqt st.sub h1, by rw [h2.len, setTs_len hs], gNms_ok st h2 hs hz q⟩
  | _ => cases hs

/-! ### a comprehension -/
def lcF (R : Env → Out (D × Bool)) (Ce : Env → Out D) (tg : Tg) (ρ : Env) (own : List Nat) (d : D) : Option (Option D) := match setTg (wipeE ρ own) tg d with
  | none => none
  | some ρ1 => match R ρ1 with
    | .ok (.bl true, _) _ => match Ce ρ1 with
      | .ok y _ => some (some y)
      | _ => none
    | .ok (.bl false, _) _ => some none
    | _ => none
/-- what leaves the slots as they are -/
def Still {α : Type} (c : Env → Out α) : Prop := ∀ ρ x ρ', c ρ = .ok x ρ' → ρ' = ρ
/-- what a target's reading does, no entry of its own to keep -/
def TgR (K : PySem.W.Frag) (A : Cls) (T : Tg) (g : TG) : Prop := ∀ E S H ρ σ fs d x ρ1 (Q : L2.St → Hp → Prop), Sta K A E S H ρ σ fs → Rep K A S d x → setTg ρ T d = some ρ1 → E.z = none →
      (∀ σ1 fs1, Sta K A E S H ρ1 σ1 fs1 → (∀ j, j ∉ T.slots → σ1[j]? = σ[j]?) → (∀ j, j ∉ T.slots → getS ρ1 j = getS ρ j) → σ1.length = σ.length → Q σ1 H) → g x σ H Q
/-- one reading for all entries -/
theorem tgr_of {T : Tg} {tg : Expr} {scope : Scope} (hg : ∀ (s : Shared) (H : Hp) (C : Addr) (cl : List (Str × Addr)) (fp : List Addr), PGok (X.blk s H scope (compEnvC scope cl C X.env) fp) A tg T) :
    ∃ g : TG, (∀ (s : Shared) (H : Hp) (C : Addr) (cl : List (Str × Addr)) (fp : List Addr), PG (X.blk s H scope (compEnvC scope cl C X.env) fp) tg g) ∧ TgR X.K A T g := by
  refine ⟨fun x σ H Q => ∃ E S ρ fs d ρ1, Sta X.K A E S H ρ σ fs ∧ Rep X.K A S d x ∧ setTg ρ T d = some ρ1 ∧ E.z = none ∧ (∀ σ1 fs1, Sta X.K A E S H ρ1 σ1 fs1 → (∀ j, j ∉ T.slots → σ1[j]? = σ[j]?) → (∀ j, j ∉ T.slots → getS ρ1 j = getS ρ j) → σ1.length = σ.length → Q σ1 H),
      fun s H C cl fp => ?_, fun E S H ρ σ fs d x ρ1 Q st r h hz q => ⟨E, S, ρ, fs, d, ρ1, st, r, h, hz, q⟩⟩
  obtain ⟨g, h1, h2⟩ := hg s H C cl fp
  refine ⟨fun pins s σ H v u Q I r hw => h1.run pins s σ H v u Q I r ?_⟩
  obtain ⟨E, S, ρ, fs, d, ρ1, st, rp, hst, hz, q⟩ := hw
  exact h2 E S H ρ σ fs d v ρ1 Q st rp hst (.inr hz) q
def lcC (ci : Env → Out (List D)) (cc : Env → Out (D × Bool)) (ce : Env → Out D) (T : Tg) (own : List Nat) : Code := fun ρ => (ci ρ).bind fun xs ρ => if own.any fun i => isOw (getS ρ i) then .bad else match collect (lcF cc ce T ρ own) xs with
      | none => .bad
      | some ys => if ys.length ≤ lineD then .ok (.lst ys, true) ρ else .bad
theorem lc_imp {T : Tg} {ci : Env → Out (List D)} {cc : Env → Out (D × Bool)} {ce : Env → Out D} {own : List (Str × Nat)} {g : TG} (hg2 : TgR X.K A T g) (hT : ∀ j ∈ T.slots, j ∈ own.map (·.2)) (sc : Still cc) (se : Still ce) {σ : L2.St} {H : Hp} {Q : VK}
    (hw : tO X.K A W (lcC ci cc ce T (own.map (·.2))) σ H Q) : tLc (tI X.K A W ci) g (tT X.K A (fun _ _ _ _ => False) fun ρ => (cc ρ).tob) (tX X.K A (fun _ _ _ _ => False) ce) (own.map (·.2)) σ H Q := by
  obtain ⟨E, S, ρ, fs, st, p⟩ := hw
  refine ⟨E, S, ρ, fs, st, (Post.bind p).mono fun xs ρ1 S1 H1 fs1 e1 st1 p1 J wk D0 hD => ?_⟩
  -- the answer
  cases hown : (own.map (·.2)).any fun i => isOw (getS ρ1 i) with
  | true => rw [hown, if_pos rfl] at p1; exact p1.elim
  | false =>
  rw [hown, if_neg (by simp)] at p1
  cases hcol : collect (lcF cc ce T ρ1 (own.map (·.2))) xs with
  | none => rw [hcol] at p1; exact p1.elim
  | some ys =>
  rw [hcol] at p1
  dsimp only at p1
  by_cases hlen : ys.length ≤ lineD
  · rw [if_pos hlen] at p1
    have hno : ∀ j ∈ own.map (·.2), isOw (getS ρ1 j) = false := fun j hj => by
      have q := List.any_eq_false.mp hown j hj
      simpa using q
    -- the invariant: so many are told, the rest tells the rest
    let I : Nat → Hp → Prop := fun i Hc => i ≤ xs.length ∧ ∃ Sc fsc zs vs rest, Sta X.K A E Sc Hc ρ1 σ fsc ∧ Same S1 Sc ∧ Hc D0 = some (.lst vs) ∧ Sc D0 = none ∧ (∀ j, D0 ∉ fsc j) ∧ E.gh D0 = none ∧ Reps X.K A Sc zs vs ∧ collect (lcF cc ce T ρ1 (own.map (·.2))) (xs.drop i) = some rest ∧ zs ++ rest = ys
    refine ⟨fun i m Hc => m = xs.length - i ∧ I i Hc, ⟨_, rfl, Nat.zero_le _, S1, fs1, [], [], ys, st1.lay hD, Same.refl S1, upd_same, st1.sub.free hD, fun j hj => ?_, st1.ghost.free hD, Reps.nil, by simpa using hcol, rfl⟩, ?_⟩
    · obtain ⟨_, o, ho⟩ := (st1.slot j).at D0 hj
      rw [hD] at ho
      cases ho
    · rintro i m Hc ⟨rfl, hi, Sc, fsc, zs, vs, rest, stc, ec, hDc, hSD, hfD, hgD, rz, hcol', hzs⟩
      by_cases hlt : i < xs.length
      · right
        have hd : xs[i]? = some xs[i] := List.getElem?_eq_getElem hlt
        refine ⟨wk.go i Hc _ (ec.trans stc.sub) hd, I (i + 1), fun H' hI => ⟨xs.length - (i + 1), by omega, rfl, hI⟩, fun x H' hy => ?_⟩
        rw [List.drop_eq_getElem_cons hlt] at hcol'
        unfold collect at hcol'
        obtain ⟨S', f1, f2, f3, f4, rx⟩ := wk.yld i Hc x H' _ Sc ec stc.sub hy hd
        have stg := stc.grow f1 f2 f3 f4
        have hD' : H' D0 = some (.lst vs) := f2 _ _ hDc
        have hS' : S' D0 = none := by
          cases q : S' D0 with
          | none => rfl
          | some o =>
            rcases f4 _ _ q with z | z
            · rw [hSD] at z; cases z
            · rw [hDc] at z; cases z
        have rz' := Reps.mono f1 _ _ rz
        -- the turn's answer
        cases hF : lcF cc ce T ρ1 (own.map (·.2)) xs[i] with
        | none => rw [hF] at hcol'; cases hcol'
        | some z =>
          rw [hF] at hcol'
          unfold lcF at hF
          cases hset : setTg (wipeE ρ1 (own.map (·.2))) T xs[i] with
          | none => rw [hset] at hF; cases hF
          | some ρ2 =>
            rw [hset] at hF
            dsimp only at hF
            have stg0 : Sta X.K A { E with z := none } S' H' ρ1 σ fsc := ⟨stg.len, stg.sub, stg.slot, stg.dis, stg.ghost, stg.s0, stg.new, stg.snew, fun w hw => by cases hw⟩
            have stw := (stg0.wipe (own := own.map (·.2)) rfl).enter
            refine hg2 _ _ _ _ _ _ _ _ _ _ stw rx hset rfl fun σ2 fs2 st2 k1 k2 k3 => ?_
            have kσ : ∀ j, j ∉ own.map (·.2) → σ2[j]? = σ[j]? := fun j hj => by
              rw [k1 j (fun z => hj (hT j z)), wipe_get hj]
            have kρ : ∀ j, j ∉ own.map (·.2) → getS ρ2 j = getS ρ1 j := fun j hj => by
              rw [k2 j (fun z => hj (hT j z)), wipeE_get, if_neg hj]
            refine ⟨wipe_ext (by rw [k3, wipe_length]) kσ, ?_⟩
            -- back from the turn
            have back : ∀ {S4 H4 : Hp} {σ4 : L2.St} {fs4 : Nat → List Addr} {ρ4 : Env}, ρ4 = ρ2 → σ4 = σ2 → Same S' S4 → Sta X.K A (turnE S' H' fun j => if j ∈ own.map (·.2) then [] else fsc j) S4 H4 ρ4 σ4 fs4 →
                ∃ fs5, Sta X.K A E S4 H4 ρ1 σ fs5 ∧ H4 D0 = some (.lst vs) ∧ S4 D0 = none ∧ (∀ j, D0 ∉ fs5 j) := by
              rintro S4 H4 σ4 fs4 ρ4 rfl rfl e4 st4
              have st5 : Sta X.K A (turnE S' H' fsc) S4 H4 ρ4 σ4 fs4 := by
                have same : (turnE S' H' fun j => if j ∈ own.map (·.2) then [] else fsc j) = turnE S' H' fsc := by
                  have hq : ∀ j, (if j ∈ own.map (·.2) then [] else fsc j) = fsc j := fun j => by
                    by_cases eo : j ∈ own.map (·.2)
                    · rw [if_pos eo]
                      have q := stg.slot j
                      have q3 := hno j eo
                      cases hs : getS ρ1 j with
                      | no => rw [hs] at q; exact q.symm
                      | fz d => rw [hs] at q; exact q.1.symm
                      | ow d => rw [hs] at q3; cases q3
                    · rw [if_neg eo]
                  have hq' : (fun j => if j ∈ own.map (·.2) then [] else fsc j) = fsc := funext hq
                  rw [hq']
                rw [same] at st4
                exact st4
              have st6 := stg.leave (own := own.map (·.2)) st5 e4 kρ kσ hno
              have g0 : (turnE S' H' fsc).gh D0 = some (.lst vs) := by rw [turnE_out hfD]; exact hD'
              have gD := st5.ghost _ _ g0
              refine ⟨_, st6, gD, ?_, fun j hj => ?_⟩
              · cases q : S4 D0 with
                | none => rfl
                | some o =>
                  rcases st5.snew _ _ q with z | z
                  · have z' : S' D0 = some o := z
                    rw [hS'] at z'; cases z'
                  · rw [g0] at z; cases z
              · by_cases eo : j ∈ own.map (·.2)
                · rw [if_pos eo] at hj; simp at hj
                · rw [if_neg eo] at hj
                  have z := st5.new j D0 hj
                  rw [g0] at z
                  cases z
            -- the tests
            have run : Post X.K A (fun _ _ _ _ => False) (turnE S' H' fun j => if j ∈ own.map (·.2) then [] else fsc j) S' σ2 ((cc ρ2).tob) fun b S3 H3 fs3 ρ3 => if b = true then tX X.K A (fun _ _ _ _ => False) ce σ2 H3 (fun y H4 => ∃ acc, H4 D0 = some (.lst acc) ∧ acc.length < sizeLine ∧ I (i + 1) (upd H4 D0 (.lst (acc ++ [y])))) else I (i + 1) H3 := by
              cases hcc : cc ρ2 with
              | ok zb ρ3 =>
                have e3 := sc _ _ _ hcc
                rw [hcc] at hF
                obtain ⟨bd, bo⟩ := zb
                cases bd with
                | bl bb =>
                  cases bb with
                  | true =>
                    dsimp only at hF
                    intro S3 H3 fs3 es3 st3
                    rw [if_pos rfl]
                    refine ⟨_, S3, ρ3, fs3, st3, ?_⟩
                    rw [e3] at st3 ⊢
                    cases hce : ce ρ2 with
                    | ok y ρ4 =>
                      have e4 := se _ _ _ hce
                      rw [hce] at hF
                      cases hF
                      intro S4 H4 fs4 es4 st4 v ry
                      obtain ⟨fs5, st5, b1, b2, b3⟩ := back e4 rfl (es3.trans es4) st4
                      have hl : vs.length < sizeLine := by
                        obtain ⟨r2, _, rfl⟩ := Option.map_eq_some_iff.mp hcol'
                        have hz : (zs ++ y :: r2).length ≤ lineD := by rw [hzs]; exact hlen
                        rw [List.length_append, List.length_cons] at hz
                        rw [rz.len, ← lineD_eq]
                        omega
                      obtain ⟨r2, hr2, hr3⟩ := Option.map_eq_some_iff.mp hcol'
                      refine ⟨vs, b1, hl, by omega, S4, fs5, zs ++ [y], vs ++ [v], r2, st5.aside b2 b3 hgD, ec.trans (f1.trans (es3.trans es4)), upd_same, b2, b3, hgD, (Reps.mono (es3.trans es4) _ _ rz').app (.one ry), hr2, ?_⟩
                      rw [List.append_assoc]
                      show zs ++ (y :: r2) = ys
                      rw [hr3]
                      exact hzs
                    | exn _ _ => rw [hce] at hF; cases hF
                    | bad => rw [hce] at hF; cases hF
                  | false =>
                    dsimp only at hF
                    cases hF
                    intro S3 H3 fs3 es3 st3
                    rw [if_neg (by simp)]
                    obtain ⟨fs5, st5, b1, b2, b3⟩ := back e3 rfl es3 st3
                    exact ⟨by omega, S3, fs5, zs, vs, rest, st5, ec.trans (f1.trans es3), b1, b2, b3, hgD, Reps.mono es3 _ _ rz', hcol', hzs⟩
                | _ => cases hF
              | exn _ _ => rw [hcc] at hF; cases hF
              | bad => rw [hcc] at hF; cases hF
            exact ⟨_, S', ρ2, fs2, st2, run⟩
      · left
        have hii : i = xs.length := by omega
        subst hii
        rw [List.drop_length] at hcol'
        unfold collect at hcol'
        cases hcol'
        rw [List.append_nil] at hzs
        subst hzs
        refine ⟨wk.stop _ Hc (ec.trans stc.sub) (Nat.le_refl _), ?_⟩
        refine p1 Sc Hc fsc ec stc (.ref D0) [D0] ?_ ?_
        · unfold RV
          rw [if_pos rfl]
          exact ⟨D0, vs, rfl, rfl, hSD, hDc, rz⟩
        · intro a ha
          have e : a = D0 := by simpa using ha
          subst e
          exact ⟨hgD, hfD⟩
  · rw [if_neg hlen] at p1
    exact p1.elim
theorem snd_lc {T : Tg} {ci : Env → Out (List D)} {cc : Env → Out (D × Bool)} {ce : Env → Out D} {tg iter elt : Expr} {ifs : List Expr} {scope : Scope} {own : List (Str × Nat)} (hc : X.calm = true) (hN : X.N.Nodup) (hi : PI X tg iter (tI X.K A W ci)) (ok : BlkOk X.N X.env.scope scope own)
    (hg : ∀ (s : Shared) (H : Hp) (C : Addr) (cl : List (Str × Addr)) (fp : List Addr), PGok (X.blk s H scope (compEnvC scope cl C X.env) fp) A tg T)
    (ht : ∀ (s : Shared) (H : Hp) (C : Addr) (cl : List (Str × Addr)) (fp : List Addr), PTs (X.blk s H scope (compEnvC scope cl C X.env) fp) ifs (tT X.K A (fun _ _ _ _ => False) fun ρ => (cc ρ).tob))
    (he : ∀ (s : Shared) (H : Hp) (C : Addr) (cl : List (Str × Addr)) (fp : List Addr), PE (X.blk s H scope (compEnvC scope cl C X.env) fp) elt (tX X.K A (fun _ _ _ _ => False) ce)) (hs : ∀ x, foldedSetIterable iter X.env x = pure x)
    (hT : ∀ j ∈ T.slots, j ∈ own.map (·.2)) (sc : Still cc) (se : Still ce) :
    PE X (.ListComp elt [⟨tg, iter, ifs, 0⟩] scope pos) (tO X.K A W (lcC ci cc ce T (own.map (·.2)))) := by
  obtain ⟨g, hg1, hg2⟩ := tgr_of hg
  exact (pe_lc hc hN hi ok hg1 ht he hs).imp fun σ H Q hw => lc_imp hg2 hT sc se hw
theorem snd_setLc {T : Tg} {ci : Env → Out (List D)} {cc : Env → Out (D × Bool)} {ce : Env → Out D} {tg iter elt : Expr} {ifs : List Expr} {scope : Scope} {own : List (Str × Nat)} {i : Nat} {y : Str} {py spos : Pos} (hc : X.calm = true) (hN : X.N.Nodup) (hy : X.N[i]? = some y) (hyl : X.env.scope.names.lookup y = some .local)
    (hsw : swapsWith (.ListComp elt [⟨tg, iter, ifs, 0⟩] scope pos) (some (.Name y py)) spos.line X.env = pure true) (hi : PI X tg iter (tI X.K A W ci)) (ok : BlkOk X.N X.env.scope scope own)
    (hg : ∀ (s : Shared) (H : Hp) (C : Addr) (cl : List (Str × Addr)) (fp : List Addr), PGok (X.blk s H scope (compEnvC scope cl C X.env) fp) A tg T)
    (ht : ∀ (s : Shared) (H : Hp) (C : Addr) (cl : List (Str × Addr)) (fp : List Addr), PTs (X.blk s H scope (compEnvC scope cl C X.env) fp) ifs (tT X.K A (fun _ _ _ _ => False) fun ρ => (cc ρ).tob))
    (he : ∀ (s : Shared) (H : Hp) (C : Addr) (cl : List (Str × Addr)) (fp : List Addr), PE (X.blk s H scope (compEnvC scope cl C X.env) fp) elt (tX X.K A (fun _ _ _ _ => False) ce)) (hs : ∀ x, foldedSetIterable iter X.env x = pure x)
    (hT : ∀ j ∈ T.slots, j ∈ own.map (·.2)) (sc : Still cc) (se : Still ce) :
    PS X (.Assign [.Name y py] (.ListComp elt [⟨tg, iter, ifs, 0⟩] scope pos) spos) (tAsg (tO X.K A W (lcC ci cc ce T (own.map (·.2)))) (gName i)) := by
  obtain ⟨g, hg1, hg2⟩ := tgr_of hg
  have h := ps_setLc hc hN hy hyl hsw hi ok hg1 ht he hs
  exact ⟨fun pins s σ H D I hw => h.run pins s σ H D I (lc_imp hg2 hT sc se hw)⟩
end
end GW
end

section
/-! C10: statements. -/
namespace GW
open PySem PySem.Spec PyProof.Rows L2 RZ

section
variable (K : PySem.W.Frag) (A : Cls)
def PostS (W : WX) (E : Ent) (S : Hp) (f : GW.Flow) (D : Ends) : Prop := match f with
  | .nx ρ => ∀ S' H' σ fs, Same S S' → Sta K A E S' H' ρ σ fs → D.nx σ H'
  | .rt d o ρ => ∀ S' H' σ fs v fp, Same S S' → Sta K A E S' H' ρ σ fs → RV K A S' H' (d, o) v fp → Apart E fs fp → D.rt v H'
  | .bk ρ => ∀ S' H' σ fs, Same S S' → Sta K A E S' H' ρ σ fs → D.bk σ H'
  | .ct ρ => ∀ S' H' σ fs, Same S S' → Sta K A E S' H' ρ σ fs → D.ct σ H'
  | .exn c ρ => ∀ S' H' σ fs, Same S S' → Sta K A E S' H' ρ σ fs → W (.ref (A.exc c)) none σ H'
  | .bad => False
def tS (mt : Bool) (W : WX) (f : Env → GW.Flow) : TS := fun D σ H => ∃ E S ρ fs, (E.z = none ∨ mt = true) ∧ Sta K A E S H ρ σ fs ∧ PostS K A W E S (f ρ) D
end

section
variable {K : PySem.W.Frag} {A : Cls} {W : WX} {E : Ent} {S S1 H : Hp} {ρ : Env} {σ : L2.St} {fs : Nat → List Addr} {D : Ends} {α : Type}
theorem PostS.up {f : GW.Flow} (e : Same S S1) (h : PostS K A W E S f D) : PostS K A W E S1 f D := by
  cases f with
  | nx ρ => exact fun S' H' σ fs e' s => h S' H' σ fs (e.trans e') s
  | rt d o ρ => exact fun S' H' σ fs v fp e' s => h S' H' σ fs v fp (e.trans e') s
  | bk ρ => exact fun S' H' σ fs e' s => h S' H' σ fs (e.trans e') s
  | ct ρ => exact fun S' H' σ fs e' s => h S' H' σ fs (e.trans e') s
  | exn c ρ => exact fun S' H' σ fs e' s => h S' H' σ fs (e.trans e') s
  | bad => exact h
/-- behind an expression -/
theorem PostS.on {o : Out α} {k : α → Env → GW.Flow} (h : PostS K A W E S (onOut o k) D) : Post K A W E S σ o fun a S' H' fs ρ => PostS K A W E S' (k a ρ) D := by
  cases o with
  | ok a ρ => exact fun S' H' fs e s => PostS.up e h
  | exn c ρ => exact fun S' H' fs e s => h S' H' σ fs e s
  | bad => exact h
theorem PostS.nx (h : PostS K A W E S (.nx ρ) D) (st : Sta K A E S H ρ σ fs) : D.nx σ H := h S H σ fs (Same.refl S) st
theorem okS_of {R : Rt} {is : List Nat} {mt : Bool} (hm : R.meth = mt) (h : okS R is = true) (hz : E.z = none ∨ mt = true) : 0 ∉ is ∨ E.z = none := by
  unfold okS at h
  rcases hz with z | z
  · exact .inr z
  · rw [hm, z] at h
    refine .inl fun q => ?_
    simp only [Bool.true_and, Bool.not_eq_true', List.contains_eq_mem, decide_eq_false_iff_not] at h
    exact h q
end

section
variable {X : Cx} {A : Cls} {W : WX} {e a b c tg : Expr} {pos : Pos} {R : Rt} {mt : Bool}
theorem PS.imp {st : Stmt} {t t' : TS} (h : PS X st t) (q : ∀ D σ H, t' D σ H → t D σ H) : PS X st t' := ⟨fun pins s σ H D I hw => h.run pins s σ H D I (q D σ H hw)⟩
theorem PSs.imp {st : List Stmt} {t t' : TS} (h : PSs X st t) (q : ∀ D σ H, t' D σ H → t D σ H) : PSs X st t' := ⟨fun pins s σ H D I hw => h.run pins s σ H D I (q D σ H hw)⟩
def notComp : Expr → Bool
  | .ListComp .. => false
  | .SetComp .. => false
  | .DictComp .. => false
  | _ => true
theorem swaps_no {e : Expr} {t : Option Expr} {l : Nat} {env : PySem.Env} (h : notComp e = true) : swapsWith e t l env = pure false := by
  cases e <;> first | rfl | cases h
/-- x = e -/
theorem snd_asg_of {st : Stmt} {ce : Code} {i : Nat} (hm : R.meth = mt) (h : PS X st (tAsg (tO X.K A W ce) (gName i))) : PS X st (tS X.K A mt W fun ρ => onOut (ce ρ) fun x ρ => if okS R [i] then .nx (putV ρ i x) else .bad) := by
  refine PS.imp h fun D σ H hw => ?_
  obtain ⟨E, S, ρ, fs, hz, st, p⟩ := hw
  refine ⟨E, S, ρ, fs, st, (PostS.on p).mono fun x ρ1 S1 H1 fs1 e1 st1 p1 v fp r ap => ?_⟩
  cases hk : okS R [i] with
  | false => rw [hk, if_neg (by simp)] at p1; exact p1.elim
  | true =>
    rw [hk, if_pos rfl] at p1
    obtain ⟨fs', st'⟩ := st1.putV (i := i) r ap ((okS_of hm hk hz).imp (fun z q => z (by simp [q])) id)
    exact PostS.nx p1 st'
theorem snd_asg {ce : Code} {i : Nat} {x : Str} {p : Pos} (hm : R.meth = mt) (hN : X.N.Nodup) (hi : X.N[i]? = some x) (hx : Loc X.env.scope x) (hf : X.fn x = true ∨ X.env.scope.names.lookup x = some .local) (he : PE X e (tO X.K A W ce)) (hs : swapsWith e (some (.Name x p)) pos.line X.env = pure false) :
    PS X (.Assign [.Name x p] e pos) (tS X.K A mt W fun ρ => onOut (ce ρ) fun x ρ => if okS R [i] then .nx (putV ρ i x) else .bad) := snd_asg_of hm (ps_set hN hi hx he hs hf)
theorem PG.or {g g' : TG} (h : PG X tg g) (h' : PG X tg g') : PG X tg (fun v σ H Q => g v σ H Q ∨ g' v σ H Q) := ⟨fun pins s σ H v u Q I r hw => hw.elim (h.run pins s σ H v u Q I r) (h'.run pins s σ H v u Q I r)⟩
/-- a, b = e -/
theorem snd_asgT {ce : Env → Out D} {es : List Expr} {is : List Nat} {k : Nat} {p : Pos} (hm : R.meth = mt) (hc : X.calm = true) (hN : X.N.Nodup) (h : Nms X es is) (he : PE X e (tX X.K A W ce)) (hs : swapsWithSole [.Tuple es k p] e pos.line X.env = pure false) (hw : swappedStores [.Tuple es k p] e X.env = pure none) :
    PS X (.Assign [.Tuple es k p] e pos) (tS X.K A mt W fun ρ => onOut (ce ρ) fun x ρ => match unpackv x with
    | some ds => match setTs ρ is ds with
      | some ρ => if okS R is then .nx ρ else .bad
      | none => .bad
    | none => .bad) := by
  refine PS.imp (ps_asg he (PG.or (pg_tup hc (h.pgs hN) h.len.1 h.len.2) (pg_unl hc (h.pgs hN) h.len.1 h.len.2)) hs hw rfl) fun D σ H hw => ?_
  obtain ⟨E, S, ρ, fs, hz, st, p⟩ := hw
  refine ⟨E, S, ρ, fs, st, (PostS.on p).mono fun x ρ1 S1 H1 fs1 e1 st1 p1 v r => ?_⟩
  cases x with
  | tup ds =>
    cases hset : setTs ρ1 is ds with
    | none => unfold unpackv at p1; dsimp only at p1; rw [hset] at p1; exact p1.elim
    | some ρ2 =>
      unfold unpackv at p1; dsimp only at p1; rw [hset] at p1
      cases hk : okS R is with
      | false => rw [hk] at p1; exact p1.elim
      | true =>
        rw [hk] at p1
        obtain ⟨l, vs, rfl, h1, h2⟩ := r.tup_inv
        exact .inl ⟨l, vs, rfl, Same.sqt st1.sub h1, by rw [h2.len, setTs_len hset], gNms_ok st1 h2 hset (okS_of hm hk hz) fun σ1 fs2 st2 _ _ _ => PostS.nx p1 st2⟩
  | lst ds =>
    cases hset : setTs ρ1 is ds with
    | none => unfold unpackv at p1; dsimp only at p1; rw [hset] at p1; exact p1.elim
    | some ρ2 =>
      unfold unpackv at p1; dsimp only at p1; rw [hset] at p1
      cases hk : okS R is with
      | false => rw [hk] at p1; exact p1.elim
      | true =>
        rw [hk] at p1
        obtain ⟨l, vs, rfl, h1, h2⟩ := r.lst_inv
        exact .inr ⟨l, vs, rfl, .inl (Same.rd st1.sub h1), by rw [h2.len, setTs_len hset], gNms_ok st1 h2 hset (okS_of hm hk hz) fun σ1 fs2 st2 _ _ _ => PostS.nx p1 st2⟩
  | _ => exact (show False from p1).elim
/-- a, b = x, y -/
theorem snd_par2 {cs : List Code} {i j : Nat} {x y : Str} {px py pt : Pos} {kt k2 : Nat} {pt2 : Pos} (hm : R.meth = mt) (hc : X.calm = true) (hN : X.N.Nodup) (hi : X.N[i]? = some x) (hj : X.N[j]? = some y) (hij : i ≠ j) (hx : X.env.scope.names.lookup x = some .local) (hy : X.env.scope.names.lookup y = some .local)
    (h : Alls X A W [a, b] cs) (hw : swappedStores [.Tuple [.Name x px, .Name y py] kt pt] (.Tuple [a, b] k2 pt2) X.env = pure (some [x, y])) :
    PS X (.Assign [.Tuple [.Name x px, .Name y py] kt pt] (.Tuple [a, b] k2 pt2) pos) (tS X.K A mt W fun ρ => onOut (evsC cs ρ) fun ds ρ => match setPar ρ [i, j] ds with
    | some ρ => if okS R [i, j] then .nx ρ else .bad
    | none => .bad) := by
  refine PS.imp (ps_par hc hN hi hj hij hx hy h.pa hw rfl) fun D σ H hw => ?_
  obtain ⟨E, S, ρ, fs, hz, st, p⟩ := hw
  refine ⟨E, S, ρ, fs, st, (PostS.on p).mono fun ds ρ1 S1 H1 fs1 e1 st1 p1 vs r => ?_⟩
  cases ds with
  | nil => exact (show False from p1).elim
  | cons d1 ds =>
    cases ds with
    | nil => exact (show False from p1).elim
    | cons d2 ds =>
      cases ds with
      | cons _ _ => exact (show False from p1).elim
      | nil =>
        unfold Reps at r
        obtain ⟨v, r', rfl, r1, r2⟩ := r
        obtain ⟨w, rfl, r3⟩ := reps_one r2
        cases hk : okS R [i, j] with
        | false =>
          dsimp only [setPar, Option.map] at p1
          rw [hk] at p1
          exact p1.elim
        | true =>
          dsimp only [setPar, Option.map] at p1
          rw [hk] at p1
          have hz' := okS_of hm hk hz
          have z1 : i ≠ 0 ∨ E.z = none := hz'.imp (fun z q => z (by simp [q])) id
          have z2 : j ≠ 0 ∨ E.z = none := hz'.imp (fun z q => z (by simp [q])) id
          refine ⟨v, w, rfl, ?_⟩
          have s1 := st1.put' (i := j) r3 z2
          have s2 := s1.put' (i := i) r1 z1
          rw [List.set_comm _ _ hij]
          exact PostS.nx p1 s2
/-- an expression alone -/
theorem snd_exp {ce : Code} (he : PE X e (tO X.K A W ce)) (hs : notComp e = true) : PS X (.Expr e pos) (tS X.K A mt W fun ρ => onOut (ce ρ) fun _ ρ => .nx ρ) := by
  refine PS.imp (ps_expr he (swaps_no hs)) fun D σ H hw => ?_
  obtain ⟨E, S, ρ, fs, hz, st, p⟩ := hw
  exact ⟨E, S, ρ, fs, st, (PostS.on p).mono fun x ρ1 S1 H1 fs1 e1 st1 p1 v fp r ap => PostS.nx p1 st1⟩
theorem snd_ite {cc : Code} {sa sb : List Stmt} {fa fb : Env → GW.Flow} (hc : PT X c (tT X.K A W fun ρ => (cc ρ).tob)) (ha : PSs X sa (tS X.K A mt W fa)) (hb : PSs X sb (tS X.K A mt W fb)) : PS X (.If c sa sb pos) (tS X.K A mt W fun ρ => onOut (cc ρ) fun x ρ => match x.1 with
    | .bl true => fa ρ
    | .bl false => fb ρ
    | _ => .bad) := by
  refine PS.imp (ps_if hc ha hb) fun D σ H hw => ?_
  obtain ⟨E, S, ρ, fs, hz, st, p⟩ := hw
  have q : onOut (cc ρ) (fun x ρ => match x.1 with
    | .bl true => fa ρ
    | .bl false => fb ρ
    | _ => .bad) = onOut ((cc ρ).tob) fun b ρ => if b = true then fa ρ else fb ρ := by
    cases cc ρ with
    | ok x ρ =>
      obtain ⟨d, w⟩ := x
      cases d with
      | bl b => cases b <;> rfl
      | _ => rfl
    | exn c ρ => rfl
    | bad => rfl
  dsimp only at p
  rw [q] at p
  refine ⟨E, S, ρ, fs, st, (PostS.on p).mono fun b ρ1 S1 H1 fs1 e1 st1 p1 => ?_⟩
  cases b with
  | true => exact ⟨E, S1, ρ1, fs1, hz, st1, p1⟩
  | false => exact ⟨E, S1, ρ1, fs1, hz, st1, p1⟩
theorem snd_ret {ce : Code} (he : PE X e (tO X.K A W ce)) : PS X (.Return (some e) pos) (tS X.K A mt W fun ρ => onOut (ce ρ) fun x ρ => .rt x.1 x.2 ρ) := by
  refine PS.imp (ps_ret he) fun D σ H hw => ?_
  obtain ⟨E, S, ρ, fs, hz, st, p⟩ := hw
  exact ⟨E, S, ρ, fs, st, (PostS.on p).mono fun x ρ1 S1 H1 fs1 e1 st1 p1 v fp r ap => p1 S1 H1 σ fs1 v fp (Same.refl S1) st1 r ap⟩
theorem snd_retN : PS X (.Return none pos) (tS X.K A mt W fun ρ => .rt .non false ρ) := by
  refine PS.imp ps_retN fun D σ H hw => ?_
  obtain ⟨E, S, ρ, fs, hz, st, p⟩ := hw
  exact p S H σ fs .non [] (Same.refl S) st (RV.plain Rep.non) Apart.nil
theorem snd_pass : PS X (.Pass pos) (tS X.K A mt W fun ρ => .nx ρ) := by
  refine PS.imp ps_pass fun D σ H hw => ?_
  obtain ⟨E, S, ρ, fs, hz, st, p⟩ := hw
  exact PostS.nx p st
theorem snd_brk : PS X (.Break pos) (tS X.K A mt W fun ρ => .bk ρ) := by
  refine PS.imp ps_break fun D σ H hw => ?_
  obtain ⟨E, S, ρ, fs, hz, st, p⟩ := hw
  exact p S H σ fs (Same.refl S) st
theorem snd_cont : PS X (.Continue pos) (tS X.K A mt W fun ρ => .ct ρ) := by
  refine PS.imp ps_continue fun D σ H hw => ?_
  obtain ⟨E, S, ρ, fs, hz, st, p⟩ := hw
  exact p S H σ fs (Same.refl S) st
theorem snd_raise {G : Prog} {fa : Nat → Addr} {fd : Nat → FuncData} {call : Nat → D → List D → Res} {n k : Nat} {x m : Str} {j : Nat} {p p2 pos2 : Pos} (C : Ctx G A fa fd call n X W) (hk : G.excs[k]? = some x) (hg : Gl X x) (hx : okN x = true) :
    PS X (.Raise (some (.Call (.Name x p) [.Constant (.str m) j p2] [] pos2)) none pos) (tS X.K A mt W fun ρ => .exn k ρ) := by
  obtain ⟨h1, h2, h3, h4, h5, _⟩ := C.facts.exc k x hk
  refine PS.imp (ps_raise C.calm C.tk (pmk_own PySem.F.excBase_ValueError h3 h1 h2 (raises_own h4 h5) hg (okN_dbg hx))) fun D σ H hw => ?_
  obtain ⟨E, S, ρ, fs, hz, st, p⟩ := hw
  exact p S H σ fs (Same.refl S) st
/-- a block -/
theorem snd_nil : PSs X [] (tS X.K A mt W fun ρ => .nx ρ) := by
  refine PSs.imp pss_nil fun D σ H hw => ?_
  obtain ⟨E, S, ρ, fs, hz, st, p⟩ := hw
  exact PostS.nx p st
theorem snd_cons {st : Stmt} {sts : List Stmt} {f g : Env → GW.Flow} (h1 : PS X st (tS X.K A mt W f)) (h2 : PSs X sts (tS X.K A mt W g)) : PSs X (st :: sts) (tS X.K A mt W fun ρ => match f ρ with
    | .nx ρ => g ρ
    | r => r) := by
  refine PSs.imp (pss_cons h1 h2) fun D σ H hw => ?_
  obtain ⟨E, S, ρ, fs, hz, st, p⟩ := hw
  refine ⟨E, S, ρ, fs, hz, st, ?_⟩
  dsimp only at p
  cases hf : f ρ with
  | nx ρ1 =>
    rw [hf] at p
    exact fun S' H' σ' fs' e st' => ⟨E, S', ρ1, fs', hz, st', PostS.up e p⟩
  | rt d o ρ1 => rw [hf] at p; exact p
  | bk ρ1 => rw [hf] at p; exact p
  | ct ρ1 => rw [hf] at p; exact p
  | exn c ρ1 => rw [hf] at p; exact p
  | bad => rw [hf] at p; exact p

/-! ### loops -/
theorem forL_cons {f : D → Env → GW.Flow} {x : D} {xs : List D} {ρ : Env} : forL f (x :: xs) ρ = match f x ρ with
    | .nx ρ => forL f xs ρ
    | .ct ρ => forL f xs ρ
    | .bk ρ => .nx ρ
    | r => r := rfl
theorem snd_for {T : Tg} {ci : Env → Out (List D)} {body : List Stmt} {fb : Env → GW.Flow} {iter : Expr} (hm : R.meth = mt) (hp : PassesOwn (model X.prog X.w) X.A X.env X.xe) (hc : X.calm = true) (hi : PI X tg iter (tI X.K A W ci)) (hg : PGok X A tg T) (hb : PSs X body (tS X.K A mt W fb)) (hs : ∀ x, foldedSetIterable iter X.env x = pure x) :
    PS X (.For tg iter body [] pos) (tS X.K A mt W fun ρ => onOut (ci ρ) fun xs ρ => if okS R T.slots then forL (fun d ρ => match setTg ρ T d with
      | some ρ => fb ρ
      | none => .bad) xs ρ else .bad) := by
  obtain ⟨g, hg1, hg2⟩ := hg
  refine PS.imp (ps_for hp hc hi hg1 hb hs) fun D σ H hw => ?_
  obtain ⟨E, S, ρ, fs, hz, st, p⟩ := hw
  refine ⟨E, S, ρ, fs, st, (PostS.on p).mono fun xs ρ1 S1 H1 fs1 e1 st1 p1 J wk => ?_⟩
  cases hk : okS R T.slots with
  | false => rw [hk, if_neg (by simp)] at p1; exact p1.elim
  | true =>
  rw [hk, if_pos rfl] at p1
  have hz' := okS_of hm hk hz
  let F : GW.D → Env → GW.Flow := fun d ρ => match setTg ρ T d with
      | some ρ => fb ρ
      | none => GW.Flow.bad
  let I : Nat → L2.St → Hp → Prop := fun i σ H => i ≤ xs.length ∧ ∃ Sc ρc fsc, Sta X.K A E Sc H ρc σ fsc ∧ Same S1 Sc ∧ PostS X.K A W E Sc (forL F (xs.drop i) ρc) D
  refine ⟨fun i m σ H => m = xs.length - i ∧ I i σ H, ⟨_, rfl, Nat.zero_le _, S1, ρ1, fs1, st1, Same.refl S1, by simpa using p1⟩, ?_⟩
  rintro i m σ2 H2 ⟨rfl, hle, Sc, ρc, fsc, stc, ec, pc⟩
  by_cases hlt : i < xs.length
  · right
    have hd : xs[i]? = some xs[i] := List.getElem?_eq_getElem hlt
    refine ⟨wk.go i H2 _ (ec.trans stc.sub) hd, I (i + 1), fun σ' H' hI => ⟨xs.length - (i + 1), by omega, rfl, hI⟩, fun x H' hy => ?_⟩
    obtain ⟨S', f1, f2, f3, f4, rx⟩ := wk.yld i H2 x H' _ Sc ec stc.sub hy hd
    have stg := stc.grow f1 f2 f3 f4
    rw [List.drop_eq_getElem_cons hlt, forL_cons] at pc
    cases hset : setTg ρc T xs[i] with
    | none =>
      have hF : F xs[i] ρc = GW.Flow.bad := by show (match setTg ρc T xs[i] with | some ρ => fb ρ | none => GW.Flow.bad) = _; rw [hset]
      rw [hF] at pc
      exact pc.elim
    | some ρ2 =>
      have hF : F xs[i] ρc = fb ρ2 := by show (match setTg ρc T xs[i] with | some ρ => fb ρ | none => GW.Flow.bad) = _; rw [hset]
      rw [hF] at pc
      refine hg2 E S' H' ρc σ2 fsc _ x ρ2 _ stg rx hset hz' fun σ3 fs3 st3 _ _ _ => ⟨E, S', ρ2, fs3, hz, st3, ?_⟩
      have again : ∀ {ρ4 : Env} {S4 H4 : Hp} {σ4 : L2.St} {fs4 : Nat → List Addr}, Same S' S4 → Sta X.K A E S4 H4 ρ4 σ4 fs4 → PostS X.K A W E Sc (forL F (xs.drop (i + 1)) ρ4) D → I (i + 1) σ4 H4 := fun e4 s4 p4 => ⟨by omega, _, _, _, s4, ec.trans (f1.trans e4), PostS.up (f1.trans e4) p4⟩
      cases hb : fb ρ2 with
      | nx ρ4 => rw [hb] at pc; exact fun S4 H4 σ4 fs4 e4 s4 => again e4 s4 pc
      | ct ρ4 => rw [hb] at pc; exact fun S4 H4 σ4 fs4 e4 s4 => again e4 s4 pc
      | bk ρ4 => rw [hb] at pc; exact fun S4 H4 σ4 fs4 e4 s4 => pc S4 H4 σ4 fs4 (f1.trans e4) s4
      | rt d o ρ4 => rw [hb] at pc; exact fun S4 H4 σ4 fs4 v fp e4 s4 => pc S4 H4 σ4 fs4 v fp (f1.trans e4) s4
      | exn c ρ4 => rw [hb] at pc; exact fun S4 H4 σ4 fs4 e4 s4 => pc S4 H4 σ4 fs4 (f1.trans e4) s4
      | bad => rw [hb] at pc; exact pc.elim
  · left
    have hii : i = xs.length := by omega
    subst hii
    rw [List.drop_length] at pc
    exact ⟨wk.stop _ H2 (ec.trans stc.sub) (Nat.le_refl _), pc Sc H2 σ2 fsc (Same.refl _) stc⟩
theorem whlL_succ {c : Env → Out (D × Bool)} {b : Env → GW.Flow} {n : Nat} {ρ : Env} : whlL c b (n + 1) ρ = onOut ((c ρ).tob) fun k ρ => if k = true then (match b ρ with
      | .nx ρ => whlL c b n ρ
      | .ct ρ => whlL c b n ρ
      | .bk ρ => .nx ρ
      | r => r) else .nx ρ := by
  show (match c ρ with
    | .ok (.bl true, _) ρ => match b ρ with
      | .nx ρ => whlL c b n ρ
      | .ct ρ => whlL c b n ρ
      | .bk ρ => .nx ρ
      | r => r
    | .ok (.bl false, _) ρ => .nx ρ
    | .exn c ρ => .exn c ρ
    | _ => .bad) = _
  cases c ρ with
  | ok x ρ =>
    obtain ⟨d, w⟩ := x
    cases d with
    | bl k => cases k <;> rfl
    | _ => rfl
  | exn c ρ => rfl
  | bad => rfl
theorem snd_whl {cc : Code} {body : List Stmt} {fb : Env → GW.Flow} {N : Nat} (hp : PassesOwn (model X.prog X.w) X.A X.env X.xe) (hc : PT X c (tT X.K A W fun ρ => (cc ρ).tob)) (hb : PSs X body (tS X.K A mt W fb)) : PS X (.While c body [] pos) (tS X.K A mt W fun ρ => whlL cc fb N ρ) := by
  refine PS.imp (ps_while hp hc hb) fun D σ H hw => ?_
  obtain ⟨E, S, ρ, fs, hz, st, p⟩ := hw
  refine ⟨fun m σ H => ∃ Sc ρc fsc, Sta X.K A E Sc H ρc σ fsc ∧ PostS X.K A W E Sc (whlL cc fb m ρc) D, ⟨N, S, ρ, fs, st, p⟩, ?_⟩
  rintro m σ2 H2 ⟨Sc, ρc, fsc, stc, pc⟩
  cases m with
  | zero => exact pc.elim
  | succ m =>
    rw [whlL_succ] at pc
    refine ⟨E, Sc, ρc, fsc, stc, (PostS.on pc).mono fun k ρ3 S3 H3 fs3 e3 st3 p3 => ?_⟩
    cases k with
    | false => exact PostS.nx p3 st3
    | true =>
      rw [if_pos rfl] at p3 ⊢
      refine ⟨fun σ' H' => ∃ Sc ρc fsc, Sta X.K A E Sc H' ρc σ' fsc ∧ PostS X.K A W E Sc (whlL cc fb m ρc) D, fun σ' H' h => ⟨m, Nat.lt_succ_self m, h⟩, E, S3, ρ3, fs3, hz, st3, ?_⟩
      cases hb : fb ρ3 with
      | nx ρ4 => rw [hb] at p3; exact fun S4 H4 σ4 fs4 e4 s4 => ⟨_, _, _, s4, PostS.up e4 p3⟩
      | ct ρ4 => rw [hb] at p3; exact fun S4 H4 σ4 fs4 e4 s4 => ⟨_, _, _, s4, PostS.up e4 p3⟩
      | bk ρ4 => rw [hb] at p3; exact fun S4 H4 σ4 fs4 e4 s4 => p3 S4 H4 σ4 fs4 e4 s4
      | rt d o ρ4 => rw [hb] at p3; exact fun S4 H4 σ4 fs4 v fp e4 s4 => p3 S4 H4 σ4 fs4 v fp e4 s4
      | exn c ρ4 => rw [hb] at p3; exact fun S4 H4 σ4 fs4 e4 s4 => p3 S4 H4 σ4 fs4 e4 s4
      | bad => rw [hb] at p3; exact p3.elim
end
end GW
end

section
/-! C11: lists changed in place; an error caught and kept. -/
namespace GW
open PySem PySem.Spec PyProof.Rows L2 RZ

section
variable {X : Cx} {A : Cls} {W : WX} {e a b c tg : Expr} {pos : Pos} {R : Rt} {mt : Bool}
/-- a list of one's own in a slot may be changed -/
theorem Sta.mutL {K : PySem.W.Frag} {E : Ent} {S H : Hp} {ρ : Env} {σ : L2.St} {fs : Nat → List Addr} {i : Nat} {xs : List D} (st : Sta K A E S H ρ σ fs) (h : getS ρ i = .ow (.lst xs)) :
    ∃ a vs, σ[i]? = some (some (.ref a)) ∧ H a = some (.lst vs) ∧ Reps K A S xs vs ∧ ∀ ys us, Reps K A S ys us → Sta K A E S (upd H a (.lst us)) (ρ.set i (.ow (.lst ys))) σ fs := by
  have q := st.slot i
  rw [h] at q
  obtain ⟨v, h1, h2⟩ := q
  obtain ⟨a, vs, rfl, hf, h3, h4, h5⟩ := h2
  have ha : a ∈ fs i := by rw [hf]; simp
  refine ⟨a, vs, h1, h4, h5, fun ys us r => ⟨by rw [List.length_set]; exact st.len, fun b u q => ?_, fun j => ?_, st.dis, fun b u q => ?_, st.s0, st.new, st.snew, st.z⟩⟩
  · rw [upd_ne (fun z => by subst z; rw [h3] at q; cases q)]
    exact st.sub b u q
  · rw [getS_set]
    by_cases e : i = j
    · subst e
      rw [if_pos rfl, if_pos (getS_lt h (by intro z; cases z))]
      exact ⟨_, h1, a, us, rfl, hf, h3, upd_same, r⟩
    · rw [if_neg e]
      exact SlR.keep (Same.refl S) (fun b hb => ⟨((st.slot j).at b hb).1, upd_ne fun z => st.dis i j e a ha (z ▸ hb)⟩) (st.slot j)
  · rw [upd_ne (fun z => by subst z; rw [st.new i b ha] at q; cases q)]
    exact st.ghost b u q
theorem peekO_sl {ρ : Env} {i : Nat} {xs : List D} (h : peekO ρ (.sl i) = some (.lst xs)) : getS ρ i = .ow (.lst xs) := by
  dsimp only [peekO] at h
  cases hs : getS ρ i with
  | no => rw [hs] at h; cases h
  | fz d => rw [hs] at h; cases h
  | ow d =>
    rw [hs] at h
    cases d with
    | ins c fl => cases h
    | lst ys => cases h; rfl
    | _ => cases h
theorem peekO_any {ρ : Env} {p : Pl} {d : D} (h : peekO ρ p = some d) : (∃ xs, d = .lst xs) ∨ ¬ ∃ xs, d = .lst xs := by
  by_cases q : ∃ xs, d = .lst xs
  · exact .inl q
  · exact .inr q
theorem snd_app {ce : Env → Out D} {i : Nat} {x : Str} {p apos cpos : Pos} (hi : PE X (.Name x p) (tVar i)) (he : PE X e (tX X.K A W ce)) (hs : notStar e = true) (hl : (apos.endLine == cpos.line) = true) :
    PS X (.Expr (.Call (.Attribute (.Name x p) "append" apos) [e] [] cpos) pos) (tS X.K A mt W fun ρ => match peekO ρ (.sl i) with
    | some (.lst _) => onOut (ce ρ) fun x ρ => match peekO ρ (.sl i) with
      | some (.lst xs) => if xs.length < lineD then .nx (poke ρ (.lst (xs ++ [x])) (.sl i)) else .bad
      | _ => .bad
    | _ => .bad) := by
  have s1 : starEach [e] X.env = (false, eval e X.env) :: starEach [] X.env := star_of hs
  refine PS.imp (ps_expr (pe_bm PySem.F.plainAttrs_list PySem.F.slot_list_append PySem.F.type_list_append mt_append hi (pa_cons he pa_nil s1) rfl (by rw [s1]; rfl) hl s1 rfl) rfl) fun D σ H hw => ?_
  obtain ⟨E, S, ρ, fs, hz, st, p⟩ := hw
  dsimp only at p
  split at p <;> first | exact p.elim | skip
  rename_i _ xs0 hp0
  obtain ⟨l, vs0, g1, g2, _, _⟩ := st.mutL (peekO_sl hp0)
  refine ⟨.ref l, g1, .inl ⟨rfl, vs0, SqL.of g2⟩, E, S, ρ, fs, st, (PostS.on p).mono fun d ρ1 S1 H1 fs1 e1 st1 p1 y ry => ?_⟩
  split at p1 <;> first | exact p1.elim | skip
  rename_i _ xs hp1
  obtain ⟨l', vs, k1, k2, k3, k4⟩ := st1.mutL (peekO_sl hp1)
  rw [g1] at k1
  cases k1
  by_cases hlt : xs.length < lineD
  · rw [if_pos hlt] at p1
    exact ⟨l, vs, y, rfl, rfl, k2, by rw [k3.len, ← lineD_eq]; exact hlt, PostS.nx p1 (k4 _ _ (k3.app (.one ry)))⟩
  · rw [if_neg hlt] at p1
    exact p1.elim
/-- xs.extend(ys), ys any list that is read -/
def rExtendR : V → List V → Hp → VK → Prop := fun x vs H Q => ∃ l b xs zs, x = .ref l ∧ vs = [.ref b] ∧ H l = some (.lst xs) ∧ Rd H b (.lst zs) ∧ xs.length + zs.length ≤ sizeLine ∧ Q .non (upd H l (.lst (xs ++ zs)))
theorem mt_extendR : MtM X "list.extend" rExtendR := by
  intro pins s σ H x vs v us Q I rx rv h
  obtain ⟨l, b, xs, zs, rfl, rfl, hH, hB, hz, q⟩ := h
  cases rx
  obtain ⟨u, rfl, ru⟩ := rv.one
  cases ru
  obtain ⟨z, its, n, r, hl, e⟩ := I.lstM hH
  obtain ⟨z2, its2, n2, r2, hl2, e2⟩ := Inv.rdL I hB
  have hsz : its.toArray.size + its2.toArray.size ≤ sizeLine := by rw [List.size_toArray, List.size_toArray]; omega
  have hlong : ¬ (!its.toArray.isEmpty && Builtin.List.listTooLong (its.toArray.size + its2.toArray.size)) = true := by
    rw [notLongL hsz, Bool.and_false]
    exact Bool.false_ne_true
  refine call_meets F.slot_list_extend ⟨_, e, rfl⟩ F.entry_list_extend (F.args_list_extend_2 _ _)
    (AutoSeq1.list_extend_list_list_0 l its.toArray n b its2.toArray n2 hlong (by rw [List.size_toArray]; omega) (by omega)) ⟨e, e2, ?_⟩
  refine ⟨.non, _, I.lset (its' := its ++ its2) hH e (by simp) (r.append r2) ?_, rfl, q⟩
  rw [List.length_append]
  omega
theorem snd_ext {ce : Env → Out D} {i : Nat} {x : Str} {p apos cpos : Pos} (hi : PE X (.Name x p) (tVar i)) (he : PE X e (tX X.K A W ce)) (hs : notStar e = true) (hl : (apos.endLine == cpos.line) = true) :
    PS X (.Expr (.Call (.Attribute (.Name x p) "extend" apos) [e] [] cpos) pos) (tS X.K A mt W fun ρ => match peekO ρ (.sl i) with
    | some (.lst _) => onOut (ce ρ) fun x ρ => match peekO ρ (.sl i), x with
      | some (.lst xs), .lst ys => if xs.length + ys.length ≤ lineD then .nx (poke ρ (.lst (xs ++ ys)) (.sl i)) else .bad
      | _, _ => .bad
    | _ => .bad) := by
  have s1 : starEach [e] X.env = (false, eval e X.env) :: starEach [] X.env := star_of hs
  refine PS.imp (ps_expr (pe_bm PySem.F.plainAttrs_list PySem.F.slot_list_extend PySem.F.type_list_extend mt_extendR hi (pa_cons he pa_nil s1) rfl (by rw [s1]; rfl) hl s1 rfl) rfl) fun D σ H hw => ?_
  obtain ⟨E, S, ρ, fs, hz, st, p⟩ := hw
  dsimp only at p
  split at p <;> first | exact p.elim | skip
  rename_i _ xs0 hp0
  obtain ⟨l, vs0, g1, g2, _, _⟩ := st.mutL (peekO_sl hp0)
  refine ⟨.ref l, g1, .inl ⟨rfl, vs0, SqL.of g2⟩, E, S, ρ, fs, st, (PostS.on p).mono fun d ρ1 S1 H1 fs1 e1 st1 p1 y ry => ?_⟩
  split at p1 <;> first | exact p1.elim | skip
  rename_i _ _ xs ys hp1
  obtain ⟨l', vs, k1, k2, k3, k4⟩ := st1.mutL (peekO_sl hp1)
  rw [g1] at k1
  cases k1
  obtain ⟨b, us, rfl, m1, m2⟩ := ry.lst_inv
  by_cases hlt : xs.length + ys.length ≤ lineD
  · rw [if_pos hlt] at p1
    exact ⟨l, b, vs, us, rfl, rfl, k2, Same.rd st1.sub m1, by rw [k3.len, m2.len, ← lineD_eq]; exact hlt, PostS.nx p1 (k4 _ _ (k3.app m2))⟩
  · rw [if_neg hlt] at p1
    exact p1.elim
theorem Reps.drop_app {K : PySem.W.Frag} {S : Hp} {xs : List D} {vs : List V} {d : D} {y : V} (h : Reps K A S xs vs) (r : Rep K A S d y) (n : Nat) : Reps K A S (xs.take n ++ [d] ++ xs.drop n) (vs.take n ++ [y] ++ vs.drop n) :=
  ((h.take n).app (.one r)).app (h.drop n)
theorem snd_insr {ck ce : Env → Out D} {i : Nat} {x : Str} {p apos cpos : Pos} {k : Expr} (hi : PE X (.Name x p) (tVar i)) (hk : PE X k (tX X.K A W ck)) (he : PE X e (tX X.K A W ce)) (hsk : notStar k = true) (hs : notStar e = true) (hl : (apos.endLine == cpos.line) = true) :
    PS X (.Expr (.Call (.Attribute (.Name x p) "insert" apos) [k, e] [] cpos) pos) (tS X.K A mt W fun ρ => match peekO ρ (.sl i) with
    | some (.lst _) => onOut (ck ρ) fun k ρ => onOut (ce ρ) fun x ρ => match peekO ρ (.sl i), k with
      | some (.lst xs), .int j => if 0 ≤ j ∧ j < 2 ^ 63 ∧ xs.length < lineD then .nx (poke ρ (.lst (xs.take j.toNat ++ [x] ++ xs.drop j.toNat)) (.sl i)) else .bad
      | _, _ => .bad
    | _ => .bad) := by
  have s1 : starEach [e] X.env = (false, eval e X.env) :: starEach [] X.env := star_of hs
  have s2 : starEach [k, e] X.env = (false, eval k X.env) :: starEach [e] X.env := star_of hsk
  refine PS.imp (ps_expr (pe_bm PySem.F.plainAttrs_list PySem.F.slot_list_insert PySem.F.type_list_insert mt_insert hi (pa_cons hk (pa_cons he pa_nil s1) s2) rfl (by rw [s2, s1]; rfl) hl s2 (by rw [s1]; rfl)) rfl) fun D σ H hw => ?_
  obtain ⟨E, S, ρ, fs, hz, st, p⟩ := hw
  dsimp only at p
  split at p <;> first | exact p.elim | skip
  rename_i _ xs0 hp0
  obtain ⟨l, vs0, g1, g2, _, _⟩ := st.mutL (peekO_sl hp0)
  refine ⟨.ref l, g1, .inl ⟨rfl, vs0, SqL.of g2⟩, E, S, ρ, fs, st, (PostS.on p).mono fun dk ρ0 S0 H0 fs0 e0 st0 p0 yk rk => ⟨E, S0, ρ0, fs0, st0, (PostS.on p0).mono fun d ρ1 S1 H1 fs1 e1 st1 p1 y ry => ?_⟩⟩
  split at p1 <;> first | exact p1.elim | skip
  rename_i _ _ xs j hp1
  obtain ⟨l', vs, k1, k2, k3, k4⟩ := st1.mutL (peekO_sl hp1)
  rw [g1] at k1
  cases k1
  cases rk.int_inv
  by_cases hlt : 0 ≤ j ∧ j < 2 ^ 63 ∧ xs.length < lineD
  · rw [if_pos hlt] at p1
    exact ⟨l, vs, j, y, rfl, rfl, k2, by rw [k3.len, ← lineD_eq]; exact hlt.2.2, hlt.1, hlt.2.1, PostS.nx p1 (k4 _ _ (Reps.drop_app k3 ry _))⟩
  · rw [if_neg hlt] at p1
    exact p1.elim

/-! ### a dict of one's own gets a key -/
theorem Sta.mutD {K : PySem.W.Frag} {E : Ent} {S H : Hp} {ρ : Env} {σ : L2.St} {fs : Nat → List Addr} {i : Nat} {xs : List (Str × D)} (st : Sta K A E S H ρ σ fs) (h : getS ρ i = .ow (.dic xs)) :
    ∃ a vs, σ[i]? = some (some (.ref a)) ∧ H a = some (.dK vs) ∧ RepsK K A S xs vs ∧ ∀ ys us, RepsK K A S ys us → Sta K A E S (upd H a (.dK us)) (ρ.set i (.ow (.dic ys))) σ fs := by
  have q := st.slot i
  rw [h] at q
  obtain ⟨v, h1, h2⟩ := q
  obtain ⟨a, vs, rfl, hf, h3, h4, h5⟩ := h2
  have ha : a ∈ fs i := by rw [hf]; simp
  refine ⟨a, vs, h1, h4, h5, fun ys us r => ⟨by rw [List.length_set]; exact st.len, fun b u q => ?_, fun j => ?_, st.dis, fun b u q => ?_, st.s0, st.new, st.snew, st.z⟩⟩
  · rw [upd_ne (fun z => by subst z; rw [h3] at q; cases q)]
    exact st.sub b u q
  · rw [getS_set]
    by_cases e : i = j
    · subst e
      rw [if_pos rfl, if_pos (getS_lt h (by intro z; cases z))]
      exact ⟨_, h1, a, us, rfl, hf, h3, upd_same, r⟩
    · rw [if_neg e]
      exact SlR.keep (Same.refl S) (fun b hb => ⟨((st.slot j).at b hb).1, upd_ne fun z => st.dis i j e a ha (z ▸ hb)⟩) (st.slot j)
  · rw [upd_ne (fun z => by subst z; rw [st.new i b ha] at q; cases q)]
    exact st.ghost b u q
theorem peekO_dic {ρ : Env} {i : Nat} {xs : List (Str × D)} (h : peekO ρ (.sl i) = some (.dic xs)) : getS ρ i = .ow (.dic xs) := by
  dsimp only [peekO] at h
  cases hs : getS ρ i with
  | no => rw [hs] at h; cases h
  | fz d => rw [hs] at h; cases h
  | ow d =>
    rw [hs] at h
    cases d with
    | ins c fl => cases h
    | dic ys => cases h; rfl
    | _ => cases h
theorem snd_setk {ck cv : Env → Out D} {i : Nat} {x : Str} {p pos' : Pos} {k v : Expr} (hu : X.A.units + 65 < cLine) (hi : PE X (.Name x p) (tVar i)) (hk : PE X k (tX X.K A W ck)) (hv : PE X v (tX X.K A W cv)) :
    PS X (.Assign [.Subscript (.Name x p) k pos'] v pos) (tS X.K A mt W fun ρ => onOut (cv ρ) fun v ρ => match peekO ρ (.sl i) with
    | some (.dic _) => onOut (ck ρ) fun k ρ => match peekO ρ (.sl i), k with
      | some (.dic kvs), .str k => if kvs.length < lineD then .nx (poke ρ (.dic (dput k v kvs)) (.sl i)) else .bad
      | _, _ => .bad
    | _ => .bad) := by
  have hs : swapsWith v (some (.Subscript (.Name x p) k pos')) pos.line X.env = pure false := by cases v <;> rfl
  refine PS.imp (ps_dput (by omega) hi hk hv hs) fun D σ H hw => ?_
  obtain ⟨E, S, ρ, fs, hz, st, q⟩ := hw
  refine ⟨E, S, ρ, fs, st, (PostS.on q).mono fun dv ρ0 S0 H0 fs0 e0 st0 p0 yv rv => ?_⟩
  split at p0 <;> first | exact p0.elim | skip
  rename_i _ xs0 hp0
  obtain ⟨l, vs0, g1, _, _, _⟩ := st0.mutD (peekO_dic hp0)
  refine ⟨.ref l, g1, E, S0, ρ0, fs0, st0, (PostS.on p0).mono fun d ρ1 S1 H1 fs1 e1 st1 p1 y ry => ?_⟩
  split at p1 <;> first | exact p1.elim | skip
  rename_i _ _ xs kk hp1
  obtain ⟨l', vs, k1, k2, k3, k4⟩ := st1.mutD (peekO_dic hp1)
  rw [g1] at k1
  cases k1
  cases ry.str_inv
  by_cases hlt : xs.length < lineD
  · rw [if_pos hlt] at p1
    exact ⟨l, _, rfl, DPut.k (k := .inr kk) k2 (by rw [k3.len, ← lineD_eq]; exact hlt), PostS.nx p1 (k4 _ _ (repsK_put k3 (Rep.mono e1 _ _ rv)))⟩
  · rw [if_neg hlt] at p1
    exact p1.elim

/-! ### an error, caught and kept -/
/-- a thing of ours, untracked as yet, is tracked by what is true of it -/
theorem Inv.track {pins : List (Addr × Obj)} {σ : L2.St} {H : Hp} {s : Shared} {a : Addr} {φ : Heap → Prop} (I : L2.Inv X pins σ H s) (n0 : X.s_0.heap.get? a = none) (na : H a = none) (nL : a ≠ X.env.locals) (nC : ∀ x c, X.env.cells.lookup x = some c → c ≠ a) (nP : ∀ p ∈ X.pn ++ pins, p.1 ≠ a)
    (h1 : φ s.heap) (h2 : ∃ o, s.heap.get? a = some o) (h3 : ∀ k1 k2 : Heap, φ k1 → (∀ o, k1.get? a = some o → k2.get? a = some o) → φ k2) : L2.Inv X pins σ (upd H a (.ext φ)) s := by
  have ne0 : ∀ b o, X.s_0.heap.get? b = some o → b ≠ a := fun b o e z => by
    rw [z, n0] at e
    cases e
  refine ⟨I.ok, I.os, I.bare, ⟨I.base.keep, I.base.slot, fun b o e n hq => ?_, I.base.there, fun b xs e => ?_, fun b o u e => ?_, fun b ps e => ?_⟩, I.loc, I.cell, ?_, fun x c e => ?_, fun p hp => ?_, fun b u e => ?_, I.len⟩
  · rw [upd_ne (ne0 b o e)]
    exact I.base.free b o e n hq
  · have q := I.base.tups b xs e
    rw [upd_ne (fun z => by rw [z, na] at q; cases q)]
    exact q
  · have q := I.base.frzs b o u e
    rw [upd_ne (fun z => by rw [z, na] at q; cases q)]
    exact q
  · obtain ⟨m, q⟩ := I.base.tbls b ps e
    exact ⟨m, by rw [upd_ne (fun z => by rw [z, na] at q; cases q)]; exact q⟩
  · rw [upd_ne (fun z => nL z.symm)]
    exact I.free
  · rw [upd_ne (nC x c e)]
    exact I.freeC x c e
  · obtain ⟨e, n, ne, nf, d⟩ := I.pin p hp
    exact ⟨e, by rw [upd_ne (nP p hp)]; exact n, ne, nf, d⟩
  · by_cases hb : b = a
    · subst hb
      rw [upd_same] at e
      cases e
      exact ⟨h1, h2, h3⟩
    · rw [upd_ne hb] at e
      exact (I.hok b u e).stay (fun c v _ q => q) (fun c q => by rw [upd_ne (fun z => by rw [z, na] at q; cases q)]; exact q) fun c xs q => by rw [upd_ne (fun z => by rw [z, na] at q; cases q)]; exact q
/-- what 'except x as n: k = n' wishes of an exception of the body -/
def wKeep (K : PySem.W.Frag) (c : Value) (i k : Nat) (Wout : WX) (D : Ends) : WX := fun cls d σ H =>
  ∃ b, PySem.W.exmOne K cls c = some b ∧ (b = true → ∃ C, cls = .ref C ∧ d = none ∧ ∀ a, H a = none → D.nx ((σ.set k (some (.ref a))).set i none) (upd H a (ExI C a))) ∧ (b = false → Wout cls d σ H)
theorem ps_try_keep {x n y : Str} {c : Value} {i k : Nat} {body : List Stmt} {np pos pos' p1 p2 p3 : Pos} {tb : WX → TS} {Wout : WX} (hs : X.stack = X.env :: X.outer) (hf : X.env.frame = some X.env.locals) (hex : X.ex = []) (hN : X.N.Nodup) (hi : X.N[i]? = some n) (hln : X.env.kindOf n = some .local) (hk : X.N[k]? = some y) (hly : X.env.kindOf y = some .local) (hik : i ≠ k) (hdn : okN n = true) (hc : Names X x c) (tk : Takes X Wout)
    (hb : ∀ (W : WX) (pn : List (Addr × Obj)) (xe : Value → Shared → Prop), Takes (X.tr pn xe) W → PassesOwn (model X.prog X.w) X.A X.env xe → PSs (X.tr pn xe) body (tb W)) :
    PS X (.Try body [.ExceptHandler (some (.Name x np)) (some n) [.Assign [.Name y p1] (.Name n p2) p3] pos'] [] [] pos) (fun D σ H => tb (wKeep X.K c i k Wout D) D σ H) := by
  refine ⟨fun pins s σ H D I h => ?_⟩
  have ok := I.ok
  have hfr : X.A.frames = some (X.env :: X.outer) := by rw [ok.frames, hs]
  have hloc : Loc X.env.scope n := .inl hln
  refine wpAny_Try_except ?_
  refine wpAny_mono ((hb (wKeep X.K c i k Wout D) (X.pn ++ pins) (fun e s₁ => wpAny (model X.prog X.w) X.A (noteFrame e X.env) (fun _ s₂ => wpAny (model X.prog X.w) X.A (setFlight e none) (fun _ s₃ =>
    wpAny (model X.prog X.w) X.A (handleBy e X.env [.ExceptHandler (some (.Name x np)) (some n) [.Assign [.Name y p1] (.Name n p2) p3] pos']) (SP X pins D) X.xe s₃) X.xe s₂) X.xe s₁) (fun u s' xx => ?_) PassesOwn.looking).run [] s σ H D (I.toTry _) h) (fun f s1 hsp => ?_) (fun e s1 he => he)
  · -- the catch
    obtain ⟨a, B, sI, pins', σ', H', cls, d, rfl, J', nb, up, sky, na, os, ag, b, hb1, hyes, hno⟩ := xx
    have J : L2.Inv X pins σ' H' sI := J'.ofTry ok
    have sky' : Sky B (X.env :: X.outer) a (Zc cls d) X.env.locals s'.heap := by rw [← hs]; exact sky
    show wpAny (model X.prog X.w) X.A (noteFrame (.ref a) X.env) _ _ _
    refine Sky.land Zc.steady hfr hf sky' fun h3 fl3 up3 => ?_
    have J3 : L2.Inv X pins σ' H' { s' with heap := h3 } := J.landed nb fl3.1 (up.trans up3) os ag
    obtain ⟨oe3, vs3, he3, hz3, hd3⟩ := fl3.there
    have notFr : ∀ {h : Heap} {o : Obj} {vs : Array Value}, h.FunFrames B (X.env :: X.outer) → h.get? a = some o → o.data = .fields vs → a ∉ frs (X.env :: X.outer) := fun {h o vs} ff e dd hm => by
      obtain ⟨_, o', e', hnf⟩ := ff.mem hm
      rw [e] at e'; cases e'
      exact hnf _ dd
    have nfr := notFr fl3.2.2.1 he3 hd3
    have nL : a ≠ X.env.locals := fun z => nfr (List.mem_filterMap.mpr ⟨X.env, List.mem_cons_self, by rw [hf, z]⟩)
    have nF : a ∉ X.fs := fun hm => by
      obtain ⟨e, he, q⟩ := List.mem_filterMap.mp hm
      exact nfr (List.mem_filterMap.mpr ⟨e, List.mem_cons_of_mem _ he, q⟩)
    have S3 := J3.suite he3 hd3 na nL nF
    refine wpAny_handleBy_cons (codeAny_handlers_test ?_) (by intro q; cases q)
    have LT : PySem.W.Looks (model X.prog X.w) h3 (typeOf (.ref a)) cls := fun A Q E s k q => wpAny_typeOf_ref (k _ _ he3) (by rw [hz3.1]; exact q)
    have LM := PySem.W.exm_one (M := model X.prog X.w) (J3.kIn) LT hb1
    have test : ∀ {Q : Value → Shared → Prop} {E : Value → Shared → Prop}, Q c { s' with heap := h3 } → wpAny (model X.prog X.w) (X.A.mark (some (.ref a))) (eval (.Name x np) X.env) Q E { s' with heap := h3 } := fun {Q E} q => by
      obtain ⟨hg, hdbg, hm | ⟨hm, hv, hnn⟩⟩ := hc
      · exact ld_glob (X := X.suite a ((a, oe3) :: (X.pn ++ pins))) S3 hg hm q hdbg
      · exact ld_blt (X := X.suite a ((a, oe3) :: (X.pn ++ pins))) S3 hg hm hv q hnn hdbg
    -- the error is none of what stood
    have nI : sI.heap.get? a = none := by
      cases e : sI.heap.get? a with
      | none => rfl
      | some o =>
        have z := nb a o e (by rw [hs]; exact nfr)
        rw [fl3.2.1] at z
        cases z
    have n0 : X.s_0.heap.get? a = none := by
      cases e : X.s_0.heap.get? a with
      | none => rfl
      | some o =>
        obtain ⟨o', z⟩ := J.base.there a o e (by rw [hex]; exact fun z => nomatch z)
        rw [nI] at z
        cases z
    have nP : ∀ p ∈ X.pn ++ pins, p.1 ≠ a := fun p hp z => by
      have q := (J.pin p hp).1
      rw [z, nI] at q
      cases q
    refine test (LM.here ?_)
    cases b with
    | true =>
      obtain ⟨C, rfl, rfl, hy2⟩ := hyes rfl
      refine codeAny_handlers_suite_as ?_
      refine HandSPX.lands_againZ fl3 fun h4 fl4 up4 => ?_
      have J4 : L2.Inv X pins σ' H' { s' with heap := h4 } := J.landed nb fl4.1 ((up.trans up3).trans up4) os ag
      obtain ⟨oe4, vs4, he4, hz4, hd4⟩ := fl4.there
      have S4 := J4.suite he4 hd4 na nL nF
      refine store_ok (X := X.suite a ((a, oe4) :: (X.pn ++ pins))) (v := .ref a) S4 hN hi hloc rfl (fun s5 S5 => ?_) (.inr hln)
      have hlen : i < σ'.length := by
        have q := (List.getElem?_eq_some_iff.mp hi).1
        have q2 := J.len
        omega
      -- k = n
      have as : PSs (X.suite a ((a, oe4) :: (X.pn ++ pins))) [.Assign [.Name y p1] (.Name n p2) p3] (tAsg (tVar i) (gName k)) :=
        pss_one (ps_set (X := X.suite a ((a, oe4) :: (X.pn ++ pins))) hN hk (.inl hly) (pe_var (X := X.suite a ((a, oe4) :: (X.pn ++ pins))) hi (.inl hln) (okN_dbg hdn) (okN_cls hdn)) rfl (.inr hly))
      refine wpAny_mono (as.run [] s5 _ H' { nx := fun σ6 H6 => σ6 = (σ'.set i (some (.ref a))).set k (some (.ref a)) ∧ H6 = H', rt := fun _ _ => False } S5 ⟨.ref a, by rw [List.getElem?_set_self hlen], rfl, rfl⟩) (fun f s6 hsp => ?_) (fun _ _ z => False.elim z)
      cases f with
      | next =>
        obtain ⟨σ6, H6, S6, rfl, rfl⟩ := hsp
        obtain ⟨p6, _⟩ := S6.pin (a, oe4) (List.mem_append_left _ List.mem_cons_self)
        have U6 := S6.unsuite ok
        have nC : ∀ x c, X.env.cells.lookup x = some c → c ≠ a := fun x' c' e z => by
          obtain ⟨v, o, q1, q2⟩ := U6.cell x' c' e
          rw [z, p6] at q1
          cases q1
          rw [hd4] at q2
          cases q2
        have T6 := Inv.track (φ := fun h => ∃ (oe : Obj) (vs : Array Value), h.get? a = some oe ∧ Zc (.ref C) none oe ∧ oe.data = .fields vs) U6 n0 na nL nC nP ⟨oe4, vs4, p6, hz4, hd4⟩ ⟨oe4, p6⟩ fun k1 k2 ⟨o, v, q1, q2, q3⟩ kk => ⟨o, v, kk o q1, q2, q3⟩
        refine gone_ok T6 hN hi hln fun s7 J7 => ⟨_, _, J7, ?_⟩
        have hq := hy2 a na
        have e : (σ'.set k (some (V.ref a))).set i none = ((σ'.set i (some (.ref a))).set k (some (.ref a))).set i none := by
          rw [List.set_comm _ _ (fun z => hik z.symm), List.set_comm (some (V.ref a)) none (fun z => hik z.symm), List.set_set]
        rw [← e]
        exact hq
      | brk => obtain ⟨σ6, H6, S6, q6⟩ := hsp; exact False.elim q6
      | cont => obtain ⟨σ6, H6, S6, q6⟩ := hsp; exact False.elim q6
      | ret u => obtain ⟨v6, σ6, H6, S6, r6, q6⟩ := hsp; exact False.elim q6
    | false =>
      show wpAny _ X.A (handleBy (.ref a) X.env []) _ _ _
      refine wpAny_handleBy_nil ?_
      obtain ⟨k1, k2, k3, oe, vs, T, oT, ts', he, hz, hd, h1, hr⟩ := id fl3
      unfold PySem.passOn
      refine wpAny_bind (wpAny_field he hd h1 ?_)
      rw [if_neg (show ¬ ((Value.ref T == Value.none) = true) from by simp)]
      have fin : wpAny (model X.prog X.w) X.A (setFlight (.ref a) X.env.frame) (fun _ s4 => wpAny (model X.prog X.w) X.A (throw (.ref a) : Sem PySem.Flow) (SP X pins D) X.xe s4) X.xe { s' with heap := h3 } := by
        rw [hf]
        refine HandSPX.setFlight_upZ fl3 fun h4 hh4 up4 => wpAny_throw (tk _ _ ?_)
        exact ⟨a, B, sI, pins, σ', H', cls, d, rfl, J, nb, (up.trans up3).trans up4, .inr (.inr (by rw [hs]; exact hh4)), na, os, ag, hno rfl⟩
      first
        | exact wpAny_bind (wpAny_pure (wpAny_bind fin))
        | exact wpAny_bind fin
  · cases f with
    | next =>
      obtain ⟨σ', H', J', q⟩ := hsp
      exact wpAny_execs_nil ⟨σ', H', J'.ofTry ok, q⟩
    | brk =>
      obtain ⟨σ', H', J', q⟩ := hsp
      exact ⟨σ', H', J'.ofTry ok, q⟩
    | cont =>
      obtain ⟨σ', H', J', q⟩ := hsp
      exact ⟨σ', H', J'.ofTry ok, q⟩
    | ret u =>
      obtain ⟨v, σ', H', J', r, q⟩ := hsp
      exact ⟨v, σ', H', J'.ofTry ok, r, q⟩
/-- xs.pop() of a list of one's own -/
theorem snd_pop {i : Nat} {x : Str} {p apos cpos : Pos} (hi : PE X (.Name x p) (tVar i)) (hl : (apos.endLine == cpos.line) = true) :
    PE X (.Call (.Attribute (.Name x p) "pop" apos) [] [] cpos) (tO X.K A W fun ρ => match peekO ρ (.sl i) with
    | some (.lst xs) => match xs.getLast? with
      | some x => .ok (x, false) (poke ρ (.lst xs.dropLast) (.sl i))
      | none => .bad
    | _ => .bad) := by
  refine PE.imp (pe_bm0 PySem.F.plainAttrs_list PySem.F.slot_list_pop PySem.F.type_list_pop mt_pop hi rfl hl) fun σ H Q hw => ?_
  obtain ⟨E, S, ρ, fs, st, p⟩ := hw
  dsimp only at p
  split at p <;> first | exact p.elim | skip
  rename_i _ xs hp
  split at p <;> first | exact p.elim | skip
  rename_i _ y hy
  obtain ⟨l, vs, g1, g2, g3, g4⟩ := st.mutL (peekO_sl hp)
  have hy' : xs[xs.length - 1]? = some y := by rw [← List.getLast?_eq_getElem?]; exact hy
  obtain ⟨v, hv, rv⟩ := g3.get hy'
  have hd : Reps X.K A S xs.dropLast vs.dropLast := by
    rw [List.dropLast_eq_take, List.dropLast_eq_take, g3.len]
    exact g3.take _
  exact ⟨.ref l, g1, .inl ⟨rfl, vs, SqL.of g2⟩, l, vs, v, rfl, rfl, g2, by rw [g3.len]; exact hv, Post.here p (g4 _ _ hd) v [] (by unfold RV; rw [if_neg (by simp)]; exact ⟨rfl, rv⟩) (fun a ha => by simp at ha)⟩
end
end GW
end

section
/-! C12: what leaves the slots as they are; slices; what is only looked at. -/
namespace GW
open PySem PySem.Spec PyProof.Rows L2 RZ

/-! ### nothing changes -/
section
variable {α β : Type}
theorem Still.bind {c : Env → Out α} {f : α → Env → Out β} (h : Still c) (g : ∀ x, Still (f x)) : Still fun ρ => (c ρ).bind f := fun ρ y ρ' e => by
  dsimp only at e
  cases q : c ρ with
  | ok x ρ1 =>
    rw [q] at e
    have z := h ρ x ρ1 q
    have e' : f x ρ1 = .ok y ρ' := e
    rw [z] at e'
    exact g x ρ y ρ' e'
  | exn k ρ1 => rw [q] at e; cases e
  | bad => rw [q] at e; cases e
theorem Still.ok (a : α) : Still fun ρ => (Out.ok a ρ : Out α) := fun ρ x ρ' e => by cases e; rfl
theorem Still.bad : Still fun _ => (Out.bad : Out α) := fun ρ x ρ' e => by cases e
theorem Still.of (o : Option α) : Still fun ρ => Out.of o ρ := fun ρ x ρ' e => by
  cases o with
  | none => cases e
  | some a => cases e; rfl
theorem Still.frz {c : Code} (h : Still c) : Still fun ρ => (c ρ).frz := fun ρ x ρ' e => by
  dsimp only at e
  cases q : c ρ with
  | ok y ρ1 =>
    rw [q] at e
    dsimp only [Out.frz] at e
    split at e
    · cases e
    · cases e
      exact h ρ y _ q
  | exn k ρ1 => rw [q] at e; cases e
  | bad => rw [q] at e; cases e
theorem Still.ite {c : Env → Bool} {f g : Env → Out α} (h : Still f) (h' : Still g) : Still fun ρ => if c ρ = true then f ρ else g ρ := fun ρ x ρ' e => by
  dsimp only at e
  split at e
  · exact h ρ x ρ' e
  · exact h' ρ x ρ' e
end
mutual
theorem ev_still (R : Rt) : ∀ p : Px, Still (ev R true p)
  | .var i => fun ρ x ρ' e => by
    unfold ev at e
    split at e
    · cases e; rfl
    · rw [Bool.true_or, if_pos rfl] at e; cases e
    · cases e
  | .mov i => fun ρ x ρ' e => by
    unfold ev at e
    split at e
    · cases e; rfl
    · rw [if_pos rfl] at e; cases e
    · cases e
  | .int i => fun ρ x ρ' e => by unfold ev at e; cases e; rfl
  | .bl i => fun ρ x ρ' e => by unfold ev at e; cases e; rfl
  | .non => fun ρ x ρ' e => by unfold ev at e; cases e; rfl
  | .str i => fun ρ x ρ' e => by unfold ev at e; cases e; rfl
  | .glo g => fun ρ x ρ' e => by
    unfold ev at e
    split at e
    · cases e; rfl
    · cases e
  | .fld i f => fun ρ x ρ' e => by
    unfold ev at e
    split at e
    · split at e
      · cases e; rfl
      · rw [if_pos rfl] at e; cases e
      · cases e
    · cases e
  | .tup es => fun ρ x ρ' e => by
    unfold ev at e
    exact (Still.bind (evs_still R es) fun _ => Still.ok _) ρ x ρ' e
  | .lst es => fun ρ x ρ' e => by
    unfold ev at e
    exact (Still.bind (evs_still R es) fun _ => Still.ok _) ρ x ρ' e
  | .dct ks es => fun ρ x ρ' e => by
    unfold ev at e
    exact (Still.bind (evs_still R es) fun ds => Still.ite (c := fun _ => _) (Still.ok _) Still.bad) ρ x ρ' e
  | .bin o a b => fun ρ x ρ' e => by
    unfold ev at e
    exact (Still.bind (ev_still R a).frz fun _ => Still.bind (ev_still R b).frz fun _ => Still.of _) ρ x ρ' e
  | .neg a => fun ρ x ρ' e => by
    unfold ev at e
    refine (Still.bind (ev_still R a) fun y => ?_) ρ x ρ' e
    intro ρ x ρ' e
    split at e
    · cases e; rfl
    · cases e
  | .cmp o a b => fun ρ x ρ' e => by
    unfold ev at e
    exact (Still.bind (ev_still R a).frz fun _ => Still.bind (ev_still R b).frz fun _ => Still.bind (Still.of _) fun _ => Still.ok _) ρ x ρ' e
  | .chain o1 o2 a b c => fun ρ x ρ' e => by
    unfold ev at e
    refine (Still.bind (ev_still R a).frz fun _ => Still.bind (ev_still R b).frz fun _ => Still.bind (Still.of _) fun k => ?_) ρ x ρ' e
    exact Still.ite (c := fun _ => k) (Still.bind (ev_still R c).frz fun _ => Still.bind (Still.of _) fun _ => Still.ok _) (Still.ok _)
  | .conj es => fun ρ x ρ' e => by unfold ev at e; exact evAnd_still R es ρ x ρ' e
  | .disj es => fun ρ x ρ' e => by unfold ev at e; exact evOr_still R es ρ x ρ' e
  | .nt a => fun ρ x ρ' e => by
    unfold ev at e
    refine (Still.bind (ev_still R a) fun y => ?_) ρ x ρ' e
    intro ρ x ρ' e
    split at e
    · cases e; rfl
    · cases e
  | .ife t a b => fun ρ x ρ' e => by
    unfold ev at e
    refine (Still.bind (ev_still R t) fun y => ?_) ρ x ρ' e
    intro ρ x ρ' e
    split at e
    · exact ev_still R a ρ x ρ' e
    · exact ev_still R b ρ x ρ' e
    · cases e
  | .ix a i => fun ρ x ρ' e => by
    unfold ev at e
    exact (Still.bind (ev_still R a).frz fun _ => Still.bind (ev_still R i).frz fun _ => Still.bind (Still.of _) fun _ => Still.ok _) ρ x ρ' e
  | .gix g i => fun ρ x ρ' e => by
    unfold ev at e
    refine (Still.bind (ev_still R i).frz fun y => ?_) ρ x ρ' e
    intro ρ x ρ' e
    split at e
    · exact (Still.bind (Still.of _) fun _ => Still.ok _) ρ x ρ' e
    · cases e
  | .dix a i => fun ρ x ρ' e => by
    unfold ev at e
    exact (Still.bind (ev_still R a).frz fun _ => Still.bind (ev_still R i).frz fun _ => Still.bind (Still.of _) fun _ => Still.ok _) ρ x ρ' e
  | .sl a lo hi => fun ρ x ρ' e => by
    unfold ev at e
    exact (Still.bind (ev_still R a).frz fun _ => Still.bind (evs_still R lo) fun _ => Still.bind (Still.of _) fun _ => Still.bind (evs_still R hi) fun _ => Still.bind (Still.of _) fun _ => Still.of _) ρ x ρ' e
  | .rev a => fun ρ x ρ' e => by
    unfold ev at e
    exact (Still.bind (ev_still R a).frz fun _ => Still.of _) ρ x ρ' e
  | .fz a => fun ρ x ρ' e => by
    unfold ev at e
    exact (Still.bind (ev_still R a).frz fun _ => Still.ok _) ρ x ρ' e
  | .call f es => fun ρ x ρ' e => by
    unfold ev at e
    refine (Still.bind (evs_still R es) fun _ => ?_) ρ x ρ' e
    intro ρ x ρ' e
    split at e <;> cases e
    rfl
  | .bi b es => fun ρ x ρ' e => by
    unfold ev at e
    exact (Still.bind (evs_still R es) fun _ => Still.of _) ρ x ρ' e
  | .isi a t => fun ρ x ρ' e => by
    unfold ev at e
    exact (Still.bind (ev_still R a).frz fun _ => Still.bind (Still.of _) fun _ => Still.ok _) ρ x ρ' e
  | .mt k a es => fun ρ x ρ' e => by
    unfold ev at e
    refine (Still.bind (ev_still R a).frz fun y => ?_) ρ x ρ' e
    exact Still.ite (c := fun _ => _) (Still.bind (evs_still R es) fun _ => Still.of _) Still.bad
  | .bop o p es => fun ρ x ρ' e => by
    unfold ev at e
    split at e <;> first | (cases e; done) | skip
    refine (Still.bind (evs_still R es) fun _ => ?_) ρ x ρ' e
    intro ρ x ρ' e
    dsimp only at e
    split at e
    · exact Still.of _ ρ x ρ' e
    · cases e
  | .pop p => fun ρ x ρ' e => by
    unfold ev at e
    rw [if_pos rfl] at e
    cases e
  | .mcall f i es => fun ρ x ρ' e => by
    unfold ev at e
    rw [if_pos rfl] at e
    cases e
  | .make c f es => fun ρ x ρ' e => by
    unfold ev at e
    refine (Still.bind (evs_still R es) fun _ => ?_) ρ x ρ' e
    intro ρ x ρ' e
    split at e <;> cases e
    rfl
  | .rng es => fun ρ x ρ' e => by
    unfold ev at e
    refine (Still.bind (evs_still R es) fun _ => ?_) ρ x ρ' e
    intro ρ x ρ' e
    split at e <;> cases e
    rfl
  | .zip a b => fun ρ x ρ' e => by
    unfold ev at e
    refine (Still.bind (ev_still R a).frz fun _ => Still.bind (ev_still R b).frz fun _ => ?_) ρ x ρ' e
    intro ρ x ρ' e
    split at e <;> cases e
    rfl
  | .enum a => fun ρ x ρ' e => by
    unfold ev at e
    refine (Still.bind (ev_still R a).frz fun _ => ?_) ρ x ρ' e
    intro ρ x ρ' e
    split at e <;> cases e
    rfl
  | .lc own tg it cond el => fun ρ x ρ' e => by
    unfold ev at e
    refine (Still.bind (ev_still R it).frz fun _ => ?_) ρ x ρ' e
    intro ρ x ρ' e
    dsimp only at e
    split at e
    · cases e
    · split at e
      · cases e
      · split at e
        · cases e
        · split at e <;> cases e
          rfl
theorem evs_still (R : Rt) : ∀ es : List Px, Still (evs R true es)
  | [] => fun ρ x ρ' e => by unfold evs at e; cases e; rfl
  | p :: ps => fun ρ x ρ' e => by
    unfold evs at e
    exact (Still.bind (ev_still R p).frz fun _ => Still.bind (evs_still R ps) fun _ => Still.ok _) ρ x ρ' e
theorem evAnd_still (R : Rt) : ∀ es : List Px, Still (evAnd R true es)
  | [] => fun ρ x ρ' e => by unfold evAnd at e; cases e; rfl
  | p :: ps => fun ρ x ρ' e => by
    unfold evAnd at e
    refine (Still.bind (ev_still R p) fun y => ?_) ρ x ρ' e
    intro ρ x ρ' e
    split at e
    · exact evAnd_still R ps ρ x ρ' e
    · cases e; rfl
    · cases e
theorem evOr_still (R : Rt) : ∀ es : List Px, Still (evOr R true es)
  | [] => fun ρ x ρ' e => by unfold evOr at e; cases e; rfl
  | p :: ps => fun ρ x ρ' e => by
    unfold evOr at e
    refine (Still.bind (ev_still R p) fun y => ?_) ρ x ρ' e
    intro ρ x ρ' e
    split at e
    · cases e; rfl
    · exact evOr_still R ps ρ x ρ' e
    · cases e
end

section
variable {X : Cx} {A : Cls} {W : WX} {e a b c tg : Expr} {pos : Pos}
/-! ### slices -/
theorem Reps.rev {K : PySem.W.Frag} {S : Hp} : ∀ {ds : List D} {vs : List V}, Reps K A S ds vs → Reps K A S ds.reverse vs.reverse
  | [], vs, h => by
    unfold Reps at h
    subst h
    exact Reps.nil
  | d :: ds, vs, h => by
    unfold Reps at h
    obtain ⟨v, r, rfl, h2, h3⟩ := h
    rw [List.reverse_cons, List.reverse_cons]
    exact (Reps.rev h3).app (.one h2)
theorem cutN_eq (n d : Nat) (o : Option Int) : cutN n d o = HT.sIx n d o := by cases o <;> rfl
theorem cutL_all {α : Type} {xs : List α} {lo hi : Option Int} (e : cutN xs.length 0 lo = 0 ∧ cutN xs.length xs.length hi = xs.length) : cutL xs lo hi = xs := by
  unfold cutL
  rw [e.1, e.2, List.drop_zero, Nat.sub_zero, List.take_length]
theorem cutL_len {α : Type} (xs : List α) (lo hi : Option Int) : (cutL xs lo hi).length ≤ xs.length := by
  unfold cutL
  rw [List.length_take, List.length_drop]
  omega
theorem Reps.cut {K : PySem.W.Frag} {S : Hp} {ds : List D} {vs : List V} (r : Reps K A S ds vs) (lo hi : Option Int) : Reps K A S (cutL ds lo hi) (cutV vs lo hi) := by
  unfold cutL cutV
  rw [← cutN_eq, ← cutN_eq, r.len]
  exact (r.drop _).take _
/-- the parts of a slice -/
inductive Parts (X : Cx) (A : Cls) (W : WX) : Option Expr → List Code → Prop
  | none : Parts X A W none []
  | some {e : Expr} {c : Code} : PE X e (tO X.K A W c) → Parts X A W (some e) [c]
def tPt (K : PySem.W.Frag) (A : Cls) (W : WX) (c : Env → Out (List D)) : TO := fun σ H Q => ∃ E S ρ fs, Sta K A E S H ρ σ fs ∧ Post K A W E S σ ((c ρ).bind fun l ρ => Out.of (partv l) ρ) fun o S' H' _ _ => Q o H'
theorem Parts.po {o : Option Expr} {cs : List Code} (h : Parts X A W o cs) : PO X o (tPt X.K A W (evsC cs)) := by
  cases h with
  | none =>
    refine ⟨fun pins s σ H Q I hw => po_none.run pins s σ H Q I ?_⟩
    obtain ⟨E, S, ρ, fs, st, p⟩ := hw
    exact Post.here (show Post X.K A W E S σ (Out.ok (Option.none : Option Int) ρ) _ from p) st
  | @some e c h =>
    refine ⟨fun pins s σ H Q I hw => (po_some h.frz).run pins s σ H Q I ?_⟩
    obtain ⟨E, S, ρ, fs, st, p⟩ := hw
    have e1 : ((evsC [c] ρ).bind fun l ρ => Out.of (partv l) ρ) = (c ρ).frz.bind fun d ρ => Out.of (partv [d]) ρ := by
      unfold evsC
      rw [Out.bind_assoc]
      rfl
    rw [e1] at p
    refine ⟨E, S, ρ, fs, st, (Post.bind p).mono fun d ρ1 S1 H1 fs1 e1 st1 p1 v r => ?_⟩
    cases d with
    | int i =>
      cases r.int_inv
      exact ⟨i, rfl, Post.here (show Post X.K A W E S1 σ (Out.ok (Option.some i) ρ1) _ from p1) st1⟩
    | _ => exact (show False from p1).elim
def rSl (K : PySem.W.Frag) (A : Cls) : V → Option Int → Option Int → Hp → VK → Prop := fun x lo hi H Q => ∃ S d z, Same S H ∧ Rep K A S d x ∧ slv d lo hi = some z ∧ Tells K A z S H Q
theorem sl_any : L2.SlR X (rSl X.K A) := by
  intro pins s σ H x v vl vu lo hi sl Q I rx hs pl pu h
  obtain ⟨S, d, z, sub, r, hz, t⟩ := h
  unfold slv at hz
  split at hz <;> first | contradiction | skip
  · cases hz
    obtain ⟨a, vs, rfl, h1, h2⟩ := r.lst_inv
    exact sl_list pins s σ H _ v vl vu lo hi sl Q I rx hs pl pu ⟨a, vs, rfl, .inl (Same.rd sub h1), t.lst sub (h2.cut lo hi)⟩
  · cases hz
    have r' := r
    obtain ⟨a, vs, rfl, h1, h2⟩ := r'.tup_inv
    refine sl_tupA pins s σ H _ v vl vu lo hi sl Q I rx hs pl pu ⟨a, vs, rfl, Same.sqt sub h1, fun e => ?_, fun _ => t.tup sub (h2.cut lo hi)⟩
    rw [← cutN_eq, ← cutN_eq, h2.len] at e
    rw [cutL_all e] at t
    exact t.now sub r
  · split at hz <;> first | contradiction | skip
    rename_i hl
    cases hz
    cases r.str_inv
    refine sl_str pins s σ H _ v vl vu lo hi sl Q I rx hs pl pu ⟨_, rfl, lineD_eq ▸ hl, ?_⟩
    have q := t.now sub (Rep.str _)
    unfold cutS
    unfold cutL at q
    rw [cutN_eq, cutN_eq] at q
    exact q
theorem snd_sl {ca : Env → Out D} {lo hi : Option Expr} {cl ch : List Code} {p2 : Pos} (ha : PE X a (tX X.K A W ca)) (hl : Parts X A W lo cl) (hh : Parts X A W hi ch) : PE X (.Subscript a (.Slice lo hi none p2) pos) (tO X.K A W fun ρ => (ca ρ).bind fun x ρ => (evsC cl ρ).bind fun l ρ => (Out.of (partv l) ρ).bind fun l ρ => (evsC ch ρ).bind fun h ρ => (Out.of (partv h) ρ).bind fun h ρ => Out.of (slv x l h) ρ) := by
  refine (pe_slice (sl_any (A := A)) ha hl.po hh.po).imp fun σ H Q hw => ?_
  obtain ⟨E, S, ρ, fs, st, p⟩ := hw
  refine ⟨E, S, ρ, fs, st, (Post.bind p).mono fun d ρ1 S1 H1 fs1 e1 st1 p1 v r => ⟨E, S1, ρ1, fs1, st1, ?_⟩⟩
  rw [← Out.bind_assoc] at p1
  refine (Post.bind p1).mono fun l ρ2 S2 H2 fs2 e2 st2 p2 => ⟨E, S2, ρ2, fs2, st2, ?_⟩
  rw [← Out.bind_assoc] at p2
  refine (Post.bind p2).mono fun h ρ3 S3 H3 fs3 e3 st3 p3 => ?_
  cases hz : slv d l h with
  | none => rw [hz] at p3; exact p3.elim
  | some z =>
    rw [hz] at p3
    exact ⟨S3, d, z, st3.sub, Rep.mono (e2.trans e3) _ _ r, hz, tells_of st3 fun S' H' v fp e st' r ap => p3 S' H' fs3 e st' v fp r ap⟩
theorem snd_rev {ca : Env → Out D} {k : Nat} {p1 p2 p3 : Pos} (ha : PE X a (tX X.K A W ca)) : PE X (.Subscript a (.Slice none none (some (.UnaryOp .USub (.Constant (.int 1) k p1) p2)) p3) pos) (tO X.K A W fun ρ => (ca ρ).bind fun x ρ => Out.of (revv x) ρ) := by
  refine (pe_revL ha).imp fun σ H Q hw => ?_
  obtain ⟨E, S, ρ, fs, st, p⟩ := hw
  refine ⟨E, S, ρ, fs, st, (Post.bind p).mono fun d ρ1 S1 H1 fs1 e1 st1 p1 v r => ?_⟩
  cases d with
  | lst ds =>
    obtain ⟨l, vs, rfl, h1, h2⟩ := r.lst_inv
    refine ⟨l, vs, rfl, .inl (Same.rd st1.sub h1), ?_⟩
    refine (tells_of (z := (.lst ds.reverse, true)) st1 fun S' H' v fp e st' r ap => p1 S' H' fs1 e st' v fp r ap).lst st1.sub ?_
    exact Reps.rev h2
  | _ => exact (show False from p1).elim
end
end GW
end

section
/-! C13: what is only looked at; which Python a text of the small language is; that it tells the same. -/
namespace GW
open PySem PySem.Spec PyProof.Rows L2 RZ

section
variable {X : Cx} {A : Cls} {W : WX} {e a b c tg : Expr} {pos : Pos}
theorem own_rep {K : PySem.W.Frag} {S H : Hp} {d : D} {v : V} {fp : List Addr} (sub : Same S H) (h : Own K A S H d v fp) (hi : d.isIns = false) (hdc : D.dic? d = none) : Rep K A H d v ∧ ∀ xs, d = .lst xs → ∃ a vs, v = .ref a ∧ Rd H a (.lst vs) ∧ Reps K A S xs vs := by
  cases d with
  | lst ds =>
    obtain ⟨a, vs, rfl, rfl, h1, h2, h3⟩ := h
    refine ⟨?_, fun xs e => ?_⟩
    · unfold Rep
      exact ⟨a, vs, rfl, .inl h2, Reps.mono sub _ _ h3⟩
    · cases e
      exact ⟨a, vs, rfl, .inl h2, h3⟩
  | dic kvs =>
    cases hdc
  | ins c fl => cases hi
  | non => exact (show False from h).elim
  | bl x => exact (show False from h).elim
  | int x => exact (show False from h).elim
  | str x => exact (show False from h).elim
  | tup x => exact (show False from h).elim
  | exc x => exact (show False from h).elim
theorem Sta.peek {K : PySem.W.Frag} {E : Ent} {S H : Hp} {ρ : Env} {σ : L2.St} {fs : Nat → List Addr} {i : Nat} {d : D} (st : Sta K A E S H ρ σ fs) (h : peek ρ (.sl i) = some d) :
    ∃ v, σ[i]? = some (some v) ∧ Rep K A H d v ∧ ∀ xs, d = .lst xs → ∃ a vs, v = .ref a ∧ Rd H a (.lst vs) ∧ Reps K A S xs vs := by
  dsimp only [GW.peek] at h
  have q := st.slot i
  cases hs : getS ρ i with
  | no => rw [hs] at h; cases h
  | fz d' =>
    rw [hs] at h q
    cases h
    obtain ⟨_, v, h1, h2⟩ := q
    refine ⟨v, h1, Rep.mono st.sub _ _ h2, fun xs e => ?_⟩
    subst e
    obtain ⟨a, vs, e, k1, k2⟩ := h2.lst_inv
    exact ⟨a, vs, e, Same.rd st.sub k1, k2⟩
  | ow d' =>
    rw [hs] at h q
    obtain ⟨v, h1, h2⟩ := q
    cases d' with
    | ins c fl => cases h
    | dic kvs => cases h
    | _ => cases h; exact ⟨v, h1, own_rep st.sub h2 rfl rfl⟩
/-- behind a look that tells a plain value -/
theorem look_int {E : Ent} {S H : Hp} {ρ : Env} {σ : L2.St} {fs : Nat → List Addr} {Q : VK} {d : D} {v : V} (st : Sta X.K A E S H ρ σ fs) (hd : ∀ S' w, Rep X.K A S' d w → w = v) (p : ∀ S' H' fs', Same S S' → Sta X.K A E S' H' ρ σ fs' → Q v H') : Tells X.K A (d, false) H H Q := fun S' H' w fp e1 e2 e3 n r ap => by
  unfold RV at r
  rw [if_neg (by simp)] at r
  rw [hd _ _ r.2]
  exact p S H' fs (Same.refl S) (st.grow (Same.refl S) e2 (st.sub.trans e2) fun _ _ q => .inl q)
/-- two looks at a place, before and behind -/
def bopC (o : Bo) (i : Nat) (cs : List Code) : Code := fun ρ => match peek ρ (.sl i) with
    | some _ => (evsC cs ρ).bind fun ds ρ => match peek ρ (.sl i) with
      | some d => Out.of (bov o d ds) ρ
      | none => .bad
    | none => .bad
theorem bop_start {o : Bo} {i : Nat} {cs : List Code} {σ : L2.St} {H : Hp} {Q : VK} (hw : tO X.K A W (bopC o i cs) σ H Q) : ∃ v, σ[i]? = some (some v) ∧ ∃ E S ρ fs, Sta X.K A E S H ρ σ fs ∧ Post X.K A W E S σ (evsC cs ρ) fun ds S1 H1 fs1 ρ1 => ∃ d z, bov o d ds = some z ∧ Rep X.K A H1 d v ∧ (∀ xs, d = .lst xs → ∃ a vs, v = .ref a ∧ Rd H1 a (.lst vs) ∧ Reps X.K A S1 xs vs) ∧
    Sta X.K A E S1 H1 ρ1 σ fs1 ∧ ∀ S' H' fs' w fp, Same S1 S' → Sta X.K A E S' H' ρ1 σ fs' → RV X.K A S' H' z w fp → Apart E fs' fp → Q w H' := by
  obtain ⟨E, S, ρ, fs, st, p⟩ := hw
  unfold bopC at p
  cases hp : peek ρ (.sl i) with
  | none => rw [hp] at p; exact p.elim
  | some d0 =>
    rw [hp] at p
    obtain ⟨v, h1, _, _⟩ := st.peek hp
    refine ⟨v, h1, E, S, ρ, fs, st, (Post.bind p).mono fun ds ρ1 S1 H1 fs1 e1 st1 p1 => ?_⟩
    cases hp1 : peek ρ1 (.sl i) with
    | none => rw [hp1] at p1; exact p1.elim
    | some d =>
      rw [hp1] at p1
      obtain ⟨v', g1, g2, g3⟩ := st1.peek hp1
      rw [h1] at g1
      cases g1
      dsimp only at p1
      cases hz : bov o d ds with
      | none => rw [hz] at p1; exact p1.elim
      | some z =>
        rw [hz] at p1
        exact ⟨d, z, hz, g2, g3, st1, fun S' H' fs' w fp e s r ap => p1 S' H' fs' e s w fp r ap⟩
theorem snd_blen {i : Nat} {x : Str} {p p2 : Pos} {G : Prog} {fa : Nat → Addr} {fd : Nat → FuncData} {call : Nat → D → List D → Res} {n : Nat} (C : Ctx G A fa fd call n X W) (hg : Gl X "len") (hi : PE X (.Name x p2) (tVar i)) :
    PE X (.Call (.Name "len" p) [.Name x p2] [] pos) (tO X.K A W (bopC .len i [])) := by
  refine (pe_callB (cr_len (A := A)) hg (C.facts.blt _ (by decide +kernel)) (by decide +kernel) (pa_cons hi pa_nil) (by decide +kernel) (by decide +kernel)).imp fun σ H Q hw => ?_
  obtain ⟨v, h1, E, S, ρ, fs, st, p⟩ := bop_start hw
  obtain ⟨d, z, hz, h2, _, st1, q⟩ := Post.here (show Post X.K A W E S σ (Out.ok [] ρ) _ from p) st
  refine ⟨v, h1, H, [d], Same.refl H, .one h2, z, hz, ?_⟩
  obtain ⟨zd, zo⟩ := z
  have hzi : ∃ n : Int, zd = .int n ∧ zo = false := by
    have hz : biv .len [d] = some (zd, zo) := hz
    unfold biv at hz
    split at hz <;> first | contradiction | skip
    · cases hz; exact ⟨_, rfl, rfl⟩
    · cases hz; exact ⟨_, rfl, rfl⟩
    · split at hz <;> first | contradiction | skip
      cases hz; exact ⟨_, rfl, rfl⟩
  obtain ⟨n, rfl, rfl⟩ := hzi
  exact look_int st1 (v := .int n) (fun S' w r => r.int_inv) fun S' H' fs' e s => q S' H' fs' _ [] e s (RV.plain (Rep.int n)) Apart.nil
theorem evsC_one {c : Code} {ρ : Env} : evsC [c] ρ = (c ρ).frz.bind fun d ρ => .ok [d] ρ := by
  unfold evsC
  congr 1
theorem bov_ix {d y : D} {z : D × Bool} (h : bov .ix d [y] = some z) : ∃ xs i z', d = .lst xs ∧ y = .int i ∧ ixL xs i = some z' ∧ z = (z', false) := by
  unfold bov at h
  split at h <;> first | contradiction | skip
  rename_i xs i h1 
  obtain ⟨z', hz', rfl⟩ := Option.map_eq_some_iff.mp h
  cases h1
  exact ⟨_, _, z', rfl, rfl, hz', rfl⟩
theorem snd_bix {ce : Code} {i : Nat} {x : Str} {p2 : Pos} (hi : PE X (.Name x p2) (tVar i)) (hb : PE X b (tO X.K A W ce)) (hs : notSlice b = true) : PE X (.Subscript (.Name x p2) b pos) (tO X.K A W (bopC .ix i [ce])) := by
  refine (pe_ix ix_list hi hb.frz (plainIx hs)).imp fun σ H Q hw => ?_
  obtain ⟨v, h1, E, S, ρ, fs, st, p⟩ := bop_start hw
  rw [evsC_one] at p
  refine ⟨v, h1, E, S, ρ, fs, st, (Post.bind p).mono fun dj ρ1 S1 H1 fs1 e1 st1 p1 y ry => ?_⟩
  obtain ⟨d, z, hz, _, h3, _, q⟩ := Post.here p1 st1
  obtain ⟨xs, i, z', rfl, rfl, hz', rfl⟩ := bov_ix hz
  obtain ⟨l, vs, rfl, g1, g2⟩ := h3 _ rfl
  cases ry.int_inv
  obtain ⟨w, k1, k2⟩ := g2.atI hz'
  exact ⟨l, vs, _, w, rfl, rfl, .inl g1, k1, q S1 H1 fs1 w [] (Same.refl _) st1 (RV.plain k2) Apart.nil⟩
def Bo.cop : Bo → Option COp
  | .eq => some .eq
  | .ne => some .ne
  | _ => none
/-- a look compared with something -/
theorem snd_bcmp {ce : Code} {i : Nat} {x : Str} {p2 : Pos} {o : Bo} {k : COp} (hu : X.A.units + 65 < cLine) (ho : o.cop = some k) (hm : behindInMarks k.py b = false) (hi : PE X (.Name x p2) (tVar i)) (hb : PE X b (tO X.K A W ce)) :
    PE X (.Compare (.Name x p2) [k.py] [b] pos) (tO X.K A W (bopC o i [ce])) ∧ PT X (.Compare (.Name x p2) [k.py] [b] pos) (tT X.K A W fun ρ => (bopC o i [ce] ρ).tob) := by
  have hbv : ∀ d y, bov o d [y] = (cmpv k d y).map fun c => (.bl c, false) := fun d y => by
    cases o <;> cases ho <;> rfl
  have key : ∀ σ H Q, tO X.K A W (bopC o i [ce]) σ H Q → tOp (rC X.K A (cmpv k)) (tVar i) (tX X.K A W fun ρ => (ce ρ).frz) σ H Q := fun σ H Q hw => by
    obtain ⟨v, h1, E, S, ρ, fs, st, p⟩ := bop_start hw
    rw [evsC_one] at p
    refine ⟨v, h1, E, S, ρ, fs, st, (Post.bind p).mono fun dj ρ1 S1 H1 fs1 e1 st1 p1 y ry => ?_⟩
    obtain ⟨d, z, hz, h2, _, _, q⟩ := Post.here p1 st1
    rw [hbv] at hz
    obtain ⟨z', hz', rfl⟩ := Option.map_eq_some_iff.mp hz
    exact ⟨H1, d, dj, Same.refl _, h2, Rep.mono st1.sub _ _ ry, z', hz', q S1 H1 fs1 _ [] (Same.refl _) st1 (RV.plain (Rep.bl z')) Apart.nil⟩
  refine ⟨(pe_cmpR (op_cmp (A := A) hu k) hi hb.frz hm).imp key, (pt_cmpR (op_cmp (A := A) hu k) hi hb.frz hm).imp fun σ H Q hw => key σ H _ ?_⟩
  obtain ⟨E, S, ρ, fs, st, p⟩ := hw
  refine ⟨E, S, ρ, fs, st, (Post.bind p).mono fun x ρ' S' H' fs' e1 st' q v fp r ap => ?_⟩
  obtain ⟨d, o⟩ := x
  cases d with
  | bl b =>
    have q' : Q b H' := q S' H' fs' (Same.refl S') st'
    unfold RV at r
    cases o with
    | false =>
      rw [if_neg (by simp)] at r
      cases r.2.bl_inv
      exact ⟨b, rfl, q'⟩
    | true =>
      rw [if_pos rfl] at r
      exact r.elim
  | _ => exact (show False from q).elim
def Bo.kop : Bo → Option COp
  | .in_ => some .in_
  | .nin => some .nin
  | _ => none
/-- something sought in what is looked at -/
theorem snd_bin_ {ce : Code} {i : Nat} {x : Str} {p2 : Pos} {o : Bo} {k : COp} (hu : X.A.units + 65 < cLine) (ho : o.kop = some k) (hi : PE X (.Name x p2) (tVar i)) (ha : PE X a (tO X.K A W ce)) :
    PE X (.Compare a [k.py] [.Name x p2] pos) (tO X.K A W (bopC o i [ce])) ∧ PT X (.Compare a [k.py] [.Name x p2] pos) (tT X.K A W fun ρ => (bopC o i [ce] ρ).tob) := by
  have hbv : ∀ d y, bov o d [y] = (cmpv k y d).map fun c => (.bl c, false) := fun d y => by
    cases o <;> cases ho <;> rfl
  have key : ∀ σ H Q, tO X.K A W (bopC o i [ce]) σ H Q → tOp (rC X.K A (cmpv k)) (tX X.K A W fun ρ => (ce ρ).frz) (tVar i) σ H Q := fun σ H Q hw => by
    obtain ⟨v, h1, E, S, ρ, fs, st, p⟩ := bop_start hw
    rw [evsC_one] at p
    refine ⟨E, S, ρ, fs, st, (Post.bind p).mono fun dj ρ1 S1 H1 fs1 e1 st1 p1 y ry => ⟨v, h1, ?_⟩⟩
    obtain ⟨d, z, hz, h2, _, _, q⟩ := Post.here p1 st1
    rw [hbv] at hz
    obtain ⟨z', hz', rfl⟩ := Option.map_eq_some_iff.mp hz
    exact ⟨H1, dj, d, Same.refl _, Rep.mono st1.sub _ _ ry, h2, z', hz', q S1 H1 fs1 _ [] (Same.refl _) st1 (RV.plain (Rep.bl z')) Apart.nil⟩
  refine ⟨(pe_cmpR (op_cmp (A := A) hu k) ha.frz hi rfl).imp key, (pt_cmpR (op_cmp (A := A) hu k) ha.frz hi rfl).imp fun σ H Q hw => key σ H _ ?_⟩
  obtain ⟨E, S, ρ, fs, st, p⟩ := hw
  refine ⟨E, S, ρ, fs, st, (Post.bind p).mono fun x ρ' S' H' fs' e1 st' q v fp r ap => ?_⟩
  obtain ⟨d, o⟩ := x
  cases d with
  | bl b =>
    have q' : Q b H' := q S' H' fs' (Same.refl S') st'
    unfold RV at r
    cases o with
    | false =>
      rw [if_neg (by simp)] at r
      cases r.2.bl_inv
      exact ⟨b, rfl, q'⟩
    | true =>
      rw [if_pos rfl] at r
      exact r.elim
  | _ => exact (show False from q).elim

/-! ### methods that change nothing -/
def notCall : Expr → Bool
  | .Call .. => false
  | _ => true
theorem base_of {o : Expr} {name : Str} (h : notCall o = true) : attributeBase o name X.env (eval o X.env) = eval o X.env := by
  cases o <;> first | rfl | cases h
def Mt.py : Mt → Str
  | .count => "count"
  | .index => "index"
  | .join => "join"
  | .split => "split"
  | .partition => "partition"
  | .get => "get"
  | .items => "items"
theorem snd_mtL {ca ce : Code} {o : Expr} {k : Mt} {apos : Pos} (hk : k = .count ∨ k = .index) (hu : X.A.units + 65 < cLine) (ho : notCall o = true) (hl : (apos.endLine == pos.line) = true) (hs : notStar e = true) (ha : PE X o (tO X.K A W ca)) (he : PE X e (tO X.K A W ce)) :
    PE X (.Call (.Attribute o k.py apos) [e] [] pos) (tO X.K A W fun ρ => (ca ρ).frz.bind fun x ρ => if mtTy k x then (evsC [ce] ρ).bind fun ds ρ => Out.of (mtv k x ds) ρ else .bad) := by
  have s1 : starEach [e] X.env = (false, eval e X.env) :: starEach [] X.env := star_of hs
  have fin : ∀ σ H Q, tO X.K A W (fun ρ => (ca ρ).frz.bind fun x ρ => if mtTy k x then (evsC [ce] ρ).bind fun ds ρ => Out.of (mtv k x ds) ρ else .bad) σ H Q →
      tBM X.K "list" (rM X.K A (mtv k)) (tX X.K A W fun ρ => (ca ρ).frz) (tCons (tX X.K A W fun ρ => (ce ρ).frz) tNil) σ H Q := fun σ H Q hw => by
    obtain ⟨E, S, ρ, fs, st, p⟩ := hw
    refine ⟨E, S, ρ, fs, st, (Post.bind p).mono fun d ρ1 S1 H1 fs1 e1 st1 p1 v r => ?_⟩
    cases hm : mtTy k d with
    | false => rw [hm, if_neg (by simp)] at p1; exact p1.elim
    | true =>
      rw [hm, if_pos rfl, evsC_one, Out.bind_assoc] at p1
      have hd : ∃ xs, d = .lst xs := by
        rcases hk with rfl | rfl <;> (cases d <;> first | exact ⟨_, rfl⟩ | cases hm)
      obtain ⟨xs, rfl⟩ := hd
      obtain ⟨l, vs, rfl, g1, g2⟩ := r.lst_inv
      refine ⟨.inl ⟨rfl, vs, .inl (Same.rd st1.sub g1)⟩, E, S1, ρ1, fs1, st1, (Post.bind p1).mono fun dy ρ2 S2 H2 fs2 e2 st2 p2 y ry => ?_⟩
      have p2 : Post X.K A W E S2 σ (Out.of (mtv k (.lst xs) [dy]) ρ2) _ := p2
      cases hz : mtv k (.lst xs) [dy] with
      | none => rw [hz] at p2; exact p2.elim
      | some z =>
        rw [hz] at p2
        exact ⟨S2, .lst xs, [dy], st2.sub, Rep.mono e2 _ _ r, .one ry, z, hz, tells_of st2 fun S' H' v fp e st' r ap => p2 S' H' fs2 e st' v fp r ap⟩
  rcases hk with rfl | rfl
  · exact (pe_bm PySem.F.plainAttrs_list PySem.F.slot_list_count PySem.F.type_list_count (mt_count_ hu) ha.frz (pa_cons he.frz pa_nil s1) (base_of ho) (by rw [s1]; rfl) hl s1 rfl).imp fin
  · exact (pe_bm PySem.F.plainAttrs_list PySem.F.slot_list_index PySem.F.type_list_index (mt_index_ hu) ha.frz (pa_cons he.frz pa_nil s1) (base_of ho) (by rw [s1]; rfl) hl s1 rfl).imp fin
end
/-! ### a place laid aside while the rest is reckoned -/
section
variable {K : PySem.W.Frag} {A : Cls} {W : WX} {E : Ent} {S H : Hp} {ρ : Env} {σ : L2.St} {fs : Nat → List Addr} {a : Addr} {o : HO} {α : Type}
def holdE (E : Ent) (a : Addr) (o : HO) : Ent := ⟨E.S, upd E.gh a o, E.z⟩
theorem Sta.hold (st : Sta K A E S H ρ σ fs) (h : H a = none) : Sta K A (holdE E a o) S (upd H a o) ρ σ fs := by
  have hS : S a = none := st.sub.free h
  have hf : ∀ j b, b ∈ fs j → b ≠ a := fun j b hb e => by
    obtain ⟨u, hu⟩ := ((st.slot j).at b hb).2
    rw [e, h] at hu
    cases hu
  refine ⟨st.len, fun b u q => ?_, fun j => SlR.keep (Same.refl S) (fun b hb => ⟨((st.slot j).at b hb).1, upd_ne (hf j b hb)⟩) (st.slot j), st.dis, fun b u q => ?_, st.s0, fun j b hb => ?_, fun b u q => ?_, st.z⟩
  · rw [upd_ne (fun z => by subst z; rw [hS] at q; cases q)]
    exact st.sub b u q
  · by_cases e : b = a
    · subst e
      have q : upd E.gh b o b = some u := q
      rw [upd_same] at q ⊢
      exact q
    · have q : upd E.gh a o b = some u := q
      rw [upd_ne e] at q ⊢
      exact st.ghost b u q
  · show upd E.gh a o b = none
    rw [upd_ne (hf j b hb)]
    exact st.new j b hb
  · by_cases e : b = a
    · subst e
      rw [hS] at q
      cases q
    · rcases st.snew b u q with z | z
      · exact .inl z
      · refine .inr ?_
        show upd E.gh a o b = none
        rw [upd_ne e]
        exact z
theorem Sta.unhold (st : Sta K A (holdE E a o) S H ρ σ fs) (h : E.gh a = none) : Sta K A E S H ρ σ fs := by
  have g : ∀ b, upd E.gh a o b = none → E.gh b = none := fun b q => by
    by_cases e : b = a
    · subst e; exact h
    · rw [upd_ne e] at q
      exact q
  refine ⟨st.len, st.sub, st.slot, st.dis, fun b u q => st.ghost b u ?_, st.s0, fun j b hb => g b (st.new j b hb), fun b u q => ?_, st.z⟩
  · show upd E.gh a o b = some u
    rw [upd_ne (fun z => by subst z; rw [h] at q; cases q)]
    exact q
  · rcases st.snew b u q with z | z
    · exact .inl z
    · exact .inr (g b z)
theorem Post.hold {c : Out α} {k : α → Hp → Hp → (Nat → List Addr) → Env → Prop} (h : E.gh a = none) (hS : E.S a = none) (p : Post K A W E S σ c k) :
    Post K A W (holdE E a o) S σ c (fun x S' H' fs' ρ' => k x S' H' fs' ρ' ∧ Sta K A E S' H' ρ' σ fs' ∧ H' a = some o ∧ (∀ j, a ∉ fs' j) ∧ S' a = none) := by
  cases c with
  | ok x ρ =>
    refine fun S' H' fs' e st => ⟨p S' H' fs' e (st.unhold h), st.unhold h, st.ghost a o upd_same, fun j hj => ?_, ?_⟩
    · have q : upd E.gh a o a = none := st.new j a hj
      rw [upd_same] at q
      cases q
    · cases q : S' a with
      | none => rfl
      | some u =>
        rcases st.snew a u q with z | z
        · have z : E.S a = some u := z
          rw [hS] at z
          cases z
        · have z : upd E.gh a o a = none := z
          rw [upd_same] at z
          cases z
  | exn c ρ => exact fun S' H' fs' e st => p S' H' fs' e (st.unhold h)
  | bad => exact (show False from p).elim
end
/-! ### a display of a dict with written text keys -/
def keysB : List Str → List (Option Expr) → Bool
  | [], [] => true
  | k :: ks, some (.Constant (.str t) _ _) :: es => decide (t = k) && keysB ks es
  | _, _ => false
section
variable {X : Cx} {A : Cls} {W : WX} {e : Expr} {pos : Pos}
theorem keysB_len : ∀ {ks : List Str} {es : List (Option Expr)}, keysB ks es = true → es.length = ks.length ∧ es.all (·.isSome) = true
  | [], [], _ => ⟨rfl, rfl⟩
  | [], _ :: _, h => by cases h
  | _ :: _, [], h => by cases h
  | k :: ks, e :: es, h => by
    unfold keysB at h
    split at h <;> first | cases h | skip
    · rename_i hh
      cases hh
    · rename_i h1 h2
      cases h1
      cases h2
      rw [Bool.and_eq_true] at h
      obtain ⟨g1, g2⟩ := keysB_len h.2
      refine ⟨by rw [List.length_cons, List.length_cons, g1], ?_⟩
      rw [List.all_cons, g2]
      rfl
theorem pairs_ok {vals : List Expr} {cs : List Code} (h : Alls X A W vals cs) : ∀ {ks : List Str} {keys : List (Option Expr)}, keysB ks keys = true → keys.length = vals.length →
    ∃ trs, PPs X pos keys vals trs ∧ ∀ E S H ρ fs σ Q, Sta X.K A E S H ρ σ fs → Post X.K A W E S σ (evsC cs ρ) (fun ds S' H' _ _ => ∀ vs, Reps X.K A S' ds vs → Q ((ks.zip vs).map fun p => (V.str p.1, p.2)) H') → tPairs trs σ H Q := by
  induction h with
  | nil =>
    intro ks keys hk hl
    have e : keys = [] := List.eq_nil_of_length_eq_zero hl
    subst e
    refine ⟨[], pps_nil, fun E S H ρ fs σ Q st p => ?_⟩
    have h := Post.here p st [] Reps.nil
    rw [List.zip_nil_right] at h
    exact h
  | @cons v c vals cs h1 h2 hs _ ih =>
    intro ks keys hk hl
    cases keys with
    | nil => cases hl
    | cons k0 keys =>
      cases ks with
      | nil => cases hk
      | cons k ks =>
        unfold keysB at hk
        split at hk <;> first | cases hk | skip
        · rename_i hh
          cases hh
        · rename_i g1 g2
          cases g1
          cases g2
          rw [Bool.and_eq_true, decide_eq_true_eq] at hk
          obtain ⟨rfl, hk⟩ := hk
          obtain ⟨trs, hp, q⟩ := ih hk (by simpa using hl)
          refine ⟨(_, _) :: trs, pps_cons pe_str h1.frz hp, fun E S H ρ fs σ Q st p => ?_⟩
          refine ⟨E, S, ρ, fs, st, (Post.bind p).mono fun d ρ1 S1 H1 fs1 e1 st1 p1 y ry => ?_⟩
          refine q E S1 H1 ρ1 fs1 σ _ st1 ((Post.bind p1).mono fun ds ρ2 S2 H2 fs2 e2 st2 p2 vs r => ?_)
          exact Post.here p2 st2 (y :: vs) (.cons (Rep.mono e2 _ _ ry) r)
theorem put_new {es : List (Key × V)} {k : Key} {v : V} (h : k ∉ es.map (·.1)) : putK es k v = es ++ [(k, v)] := by
  unfold putK
  rw [if_neg]
  intro z
  obtain ⟨p, hp, e⟩ := List.any_eq_true.mp z
  exact h (List.mem_map.mpr ⟨p, hp, of_decide_eq_true e⟩)
theorem merge_new : ∀ {more es : List (Key × V)}, ((es ++ more).map (·.1)).Nodup → mergeK es more = es ++ more
  | [], es, _ => (List.append_nil es).symm
  | p :: more, es, h => by
    show mergeK (putK es p.1 p.2) more = _
    have hp : p.1 ∉ es.map (·.1) := fun z => by
      rw [List.map_append, List.nodup_append] at h
      exact h.2.2 _ z _ (by simp) rfl
    rw [put_new hp, merge_new (by rw [List.append_assoc]; exact h), List.append_assoc]
    rfl
theorem repsK_zip {K : PySem.W.Frag} {S : Hp} : ∀ {ks : List Str} {ds : List D} {vs : List V}, Reps K A S ds vs → RepsK K A S (ks.zip ds) ((ks.zip vs).map fun p => ((.inr p.1 : Key), p.2))
  | [], _, _, _ => by rw [List.zip_nil_left, List.zip_nil_left]; rfl
  | _ :: _, [], vs, r => by
    cases (show vs = [] from r)
    rfl
  | k :: ks, d :: ds, vs, r => by
    obtain ⟨v, vs', rfl, r1, r2⟩ := (show ∃ v r', vs = v :: r' ∧ Rep K A S d v ∧ Reps K A S ds r' from r)
    exact ⟨v, _, rfl, r1, repsK_zip r2⟩
theorem snd_dct {ks : List Str} {keys : List (Option Expr)} {vals : List Expr} {cs : List Code} (h : Alls X A W vals cs) (hk : keysB ks keys = true) (hl : keys.length = vals.length) (h0 : ks ≠ []) (h15 : ks.length ≤ 15) (hn : ks.Nodup) :
    PE X (.Dict keys vals pos) (tO X.K A W fun ρ => (evsC cs ρ).bind fun ds ρ => if ks.length == ds.length then .ok (.dic (ks.zip ds), true) ρ else .bad) := by
  obtain ⟨k1, k2⟩ := keysB_len hk
  obtain ⟨trs, hp, q⟩ := pairs_ok (pos := pos) h hk hl
  refine PE.imp (pe_disp hp k2 hl (fun z => h0 (List.eq_nil_of_length_eq_zero (by rw [← k1, z]; rfl))) (by rw [k1]; exact h15)) fun σ H Q hw => ?_
  obtain ⟨E, S, ρ, fs, st, p⟩ := hw
  intro a ha
  have g0 : E.gh a = none := st.ghost.free ha
  have s0 : E.S a = none := st.s0.free (st.sub.free ha)
  refine q (holdE E a (.dK [])) S _ ρ fs σ _ (st.hold ha) ((Post.hold g0 s0 (Post.bind p)).mono fun ds ρ1 S1 H1 fs1 e1 st1 p1 vs r => ?_)
  obtain ⟨p1, st2, h1, h2, h3⟩ := p1
  cases hb : ks.length == ds.length with
  | false => rw [hb, if_neg (by simp)] at p1; exact p1.elim
  | true =>
    rw [hb, if_pos rfl] at p1
    have e1 : (((ks.zip vs).map fun p => ((.inr p.1 : Key), p.2)).map (·.1)).Nodup := by
      rw [List.map_map]
      have e : ((·.1) ∘ fun p : Str × V => ((.inr p.1 : Key), p.2)) = (Sum.inr : Str → Key) ∘ Prod.fst := rfl
      rw [e, ← List.map_map, List.map_fst_zip]
      · exact List.Pairwise.map (Sum.inr : Str → Key) (fun a b hab z => hab (Sum.inr.inj z)) hn
      · have := r.len
        have hb : ks.length = ds.length := by simpa using hb
        omega
    refine ⟨h1, (ks.zip vs).map fun p => ((.inr p.1 : Key), p.2), ?_, ?_, ?_⟩
    · rw [List.map_map]
      rfl
    · rw [List.length_map, List.length_zip]
      omega
    · rw [merge_new (by rw [List.nil_append]; exact e1), List.nil_append]
      refine Post.here p1 (st2.aside (o := .dK ((ks.zip vs).map fun p => ((.inr p.1 : Key), p.2))) h3 h2 g0) (.ref a) [a] ?_ ?_
      · unfold RV
        rw [if_pos rfl]
        exact ⟨a, _, rfl, rfl, h3, upd_same, repsK_zip r⟩
      · intro b hb
        rw [List.mem_singleton.mp hb]
        exact ⟨g0, h2⟩
theorem snd_dct0 : PE X (.Dict [] [] pos) (tO X.K A W fun ρ => (evsC [] ρ).bind fun ds ρ => if ([] : List Str).length == ds.length then .ok (.dic (([] : List Str).zip ds), true) ρ else .bad) := by
  refine pe_dnewK.imp fun σ H Q hw p hp => ?_
  obtain ⟨E, S, ρ, fs, st, q⟩ := hw
  have hs : S p = none := st.sub.free hp
  have g0 : E.gh p = none := st.ghost.free hp
  have hf : ∀ j, p ∉ fs j := fun j z => by
    obtain ⟨_, o, ho⟩ := (st.slot j).at p z
    rw [hp] at ho
    cases ho
  refine Post.here q (st.aside (o := .dK []) hs hf g0) (.ref p) [p] ?_ fun b hb => ?_
  · unfold RV
    rw [if_pos rfl]
    exact ⟨p, _, rfl, rfl, hs, upd_same, by unfold RepsK; rfl⟩
  · rw [List.mem_singleton.mp hb]
    exact ⟨g0, hf⟩
theorem snd_get {ca ck cd : Code} {o k d : Expr} {apos : Pos} (hu : X.A.units + 65 < cLine) (ho : notCall o = true) (hl : (apos.endLine == pos.line) = true) (hsk : notStar k = true) (hsd : notStar d = true) (ha : PE X o (tO X.K A W ca)) (hk : PE X k (tO X.K A W ck)) (hd : PE X d (tO X.K A W cd)) :
    PE X (.Call (.Attribute o "get" apos) [k, d] [] pos) (tO X.K A W fun ρ => (ca ρ).frz.bind fun x ρ => if mtTy .get x then (evsC [ck, cd] ρ).bind fun ds ρ => Out.of (mtv .get x ds) ρ else .bad) := by
  have s1 : starEach [d] X.env = (false, eval d X.env) :: starEach [] X.env := star_of hsd
  have s2 : starEach [k, d] X.env = (false, eval k X.env) :: starEach [d] X.env := star_of hsk
  have m : M2 X o "get" apos k d pos := ⟨base_of ho, by rw [s2, s1]; rfl, hl, by rw [s2, s1]; rfl⟩
  refine PE.imp (pe_dget2 (by omega) ha.frz hk.frz hd.frz m) fun σ H Q hw => ?_
  obtain ⟨E, S, ρ, fs, st, p⟩ := hw
  refine ⟨E, S, ρ, fs, st, (Post.bind p).mono fun x ρ1 S1 H1 fs1 e1 st1 p1 v r => ?_⟩
  cases hm : mtTy .get x with
  | false => rw [hm, if_neg (by simp)] at p1; exact p1.elim
  | true =>
    rw [hm, if_pos rfl] at p1
    have hx : ∃ kvs, x = .dic kvs := by cases x <;> first | exact ⟨_, rfl⟩ | cases hm
    obtain ⟨kvs, rfl⟩ := hx
    obtain ⟨a, es, rfl, g1, g2⟩ := (show ∃ a es, v = .ref a ∧ DicR X.K S1 a es ∧ RepsK X.K A S1 kvs es from r)
    refine ⟨a, rfl, .inl ⟨es, (DicR.mono st1.sub g1).rd⟩, E, S1, ρ1, fs1, st1, ?_⟩
    have e : evsC [ck, cd] ρ1 = (ck ρ1).frz.bind fun x ρ => ((cd ρ).frz.bind fun y ρ => .ok [x, y] ρ) := by
      unfold evsC
      congr 1
      funext x ρ
      unfold evsC
      rw [Out.bind_assoc]
      congr 1
    rw [e] at p1
    rw [Out.bind_assoc] at p1
    refine (Post.bind p1).mono fun y ρ2 S2 H2 fs2 e2 st2 p2 yv ry => ?_
    rw [Out.bind_assoc] at p2
    refine ⟨E, S2, ρ2, fs2, st2, (Post.bind p2).mono fun z ρ3 S3 H3 fs3 e3 st3 p3 zv rz => ?_⟩
    have p3 : Post X.K A W E S3 σ (Out.of (mtv .get (.dic kvs) [y, z]) ρ3) _ := p3
    cases y with
    | str ky =>
      cases ry.str_inv
      have hv := RepsK.val (k := ky) g2
      refine ⟨valV es (.inr ky), .inl ⟨es, .inr ky, (DicR.mono st3.sub (DicR.mono e3 (DicR.mono e2 g1))).rd, rfl, rfl⟩, ?_⟩
      have p3 : Post X.K A W E S3 σ (.ok ((kvs.lookup ky).getD z, false) ρ3) _ := p3
      cases hlk : kvs.lookup ky with
      | none =>
        rw [hlk] at hv p3
        rw [show valV es (.inr ky) = none from hv]
        exact Post.here p3 st3 zv [] (RV.plain rz) Apart.nil
      | some d0 =>
        rw [hlk] at hv p3
        obtain ⟨w, hw, rw_⟩ := hv
        rw [hw]
        exact Post.here p3 st3 w [] (RV.plain (Rep.mono (e2.trans e3) _ _ rw_)) Apart.nil
    | _ => exact (show False from p3).elim
end
/-! ### a, b, c = x, y, [] : the last one a new list -/
section
variable {X : Cx} {A : Cls} {W : WX} {e : Expr} {pos : Pos} {R : Rt} {mt : Bool}
theorem gNms_app {i : Nat} {v : V} {Q : L2.St → Hp → Prop} : ∀ {is : List Nat} {vs : List V} {σ : L2.St} {H : Hp}, gNms is vs σ H (fun σ1 H1 => Q (σ1.set i (some v)) H1) → gNms (is ++ [i]) (vs ++ [v]) σ H Q
  | [], vs, σ, H, h => by
    obtain ⟨rfl, h2⟩ := (show vs = [] ∧ Q (σ.set i (some v)) H from h)
    exact ⟨v, [], rfl, rfl, h2⟩
  | j :: is, vs, σ, H, h => by
    obtain ⟨v0, r, rfl, h2⟩ := (show ∃ v0 r, vs = v0 :: r ∧ gNms is r (σ.set j (some v0)) H (fun σ1 H1 => Q (σ1.set i (some v)) H1) from h)
    exact ⟨v0, r ++ [v], rfl, gNms_app h2⟩
theorem pa_app1 {vals : List Expr} {cs : List Code} {te : TE} (h : Alls X A W vals cs) (he : PE X e te) (hs : notStar e = true) : PA X (vals ++ [e]) (fun σ H Q => tA X.K A W (evsC cs) σ H fun vs H1 => te σ H1 fun x H2 => Q (vs ++ [x]) H2) := by
  induction h with
  | nil =>
    refine (pa_cons he pa_nil (star_of hs)).imp fun σ H Q hw => ?_
    obtain ⟨E, S, ρ, fs, st, p⟩ := hw
    exact Post.here p st [] Reps.nil
  | @cons e0 c es cs h1 h2 hs0 _ ih =>
    refine (pa_cons h1.frz ih (star_of hs0)).imp fun σ H Q hw => ?_
    obtain ⟨E, S, ρ, fs, st, p⟩ := hw
    refine ⟨E, S, ρ, fs, st, (Post.bind p).mono fun dx ρ1 S1 H1 fs1 e1 st1 p1 x rx => ⟨E, S1, ρ1, fs1, st1, (Post.bind p1).mono fun ds ρ2 S2 H2 fs2 e2 st2 p2 vs rvs => ?_⟩⟩
    exact Post.here p2 st2 _ (Reps.cons (Rep.mono e2 _ _ rx) rvs)
theorem snd_asgN {cs : List Code} {vals es : List Expr} {is : List Nat} {i k k2 : Nat} {p p2 p3 : Pos} (hm : R.meth = mt) (hc : X.calm = true) (hN : X.N.Nodup) (h : Nms X es (is ++ [i])) (hv : Alls X A W vals cs) (hl : is.length < 900)
    (hs : swapsWithSole [.Tuple es k p] (.Tuple (vals ++ [.List [] p3]) k2 p2) pos.line X.env = pure false) (hw : swappedStores [.Tuple es k p] (.Tuple (vals ++ [.List [] p3]) k2 p2) X.env = pure none) :
    PS X (.Assign [.Tuple es k p] (.Tuple (vals ++ [.List [] p3]) k2 p2) pos) (tS X.K A mt W fun ρ => onOut (evsC cs ρ) fun ds ρ => match setTs ρ is ds with
    | some ρ => if okS R (is ++ [i]) then .nx (ρ.set i (.ow (.lst []))) else .bad
    | none => .bad) := by
  refine PS.imp (ps_asg (pe_tup (pa_app1 hv (pe_lst pa_nil) rfl)) (pg_tup hc (h.pgs hN) h.len.1 h.len.2) hs hw rfl) fun D σ H hw => ?_
  obtain ⟨E, S, ρ, fs, hz, st, p⟩ := hw
  refine ⟨E, S, ρ, fs, st, (PostS.on p).mono fun ds ρ1 S1 H1 fs1 e1 st1 p1 vs r => ?_⟩
  cases hset : setTs ρ1 is ds with
  | none => rw [hset] at p1; exact p1.elim
  | some ρ2 =>
    rw [hset] at p1
    dsimp only at p1
    cases hk : okS R (is ++ [i]) with
    | false => rw [hk, if_neg Bool.false_ne_true] at p1; exact p1.elim
    | true =>
      rw [hk, if_pos rfl] at p1
      have hlen : vs.length = is.length := by rw [r.len, setTs_len hset]
      have hz2 := okS_of hm hk hz
      refine ⟨by decide, fun a ha => ⟨?_, fun q hq => ?_⟩⟩
      · rw [List.length_append, hlen, sizeLine_eq]
        simp only [List.length_singleton]
        omega
      · have g0 : E.gh a = none := st1.ghost.free ha
        have s0 : S1 a = none := st1.sub.free ha
        have st2 := st1.hold (o := .lst []) ha
        have h2 : ∀ j, q ∉ fs1 j := fun j hj => by
          obtain ⟨u, hu⟩ := ((st2.slot j).at q hj).2
          rw [hq] at hu
          cases hu
        have st3 := st2.aside (o := .tup (vs ++ [.ref a])) (st2.sub.free hq) h2 (st2.ghost.free hq)
        refine ⟨q, vs ++ [.ref a], rfl, SqT.of upd_same, by rw [List.length_append, List.length_append, hlen]; rfl, gNms_app ?_⟩
        refine gNms_ok st3 r hset (hz2.imp (fun z w => z (List.mem_append_left _ w)) id) fun σ1 fs2 st4 _ _ _ => ?_
        have na : ∀ j, a ∉ fs2 j := fun j hj => by
          have z : upd E.gh a (.lst []) a = none := st4.new j a hj
          rw [upd_same] at z
          cases z
        have hat := st4.ghost a (.lst []) upd_same
        obtain ⟨fs', st'⟩ := (st4.unhold g0).putV (i := i) (x := (.lst [], true)) (v := .ref a) (fp := [a]) (by
          unfold RV
          rw [if_pos rfl]
          exact ⟨a, [], rfl, rfl, s0, hat, Reps.nil⟩) (fun b hb => by rw [List.mem_singleton.mp hb]; exact ⟨g0, na⟩) (hz2.imp (fun z w => z (by simp [w])) id)
        exact PostS.nx p1 st'
end
end GW
end

section
/-! C21: sorted(set(texts)). -/
noncomputable section
namespace GW
namespace TX
open PySem PySem.Spec PyProof.Rows L2
/-- the text of an entry -/
def tx (e : Int × Value) : Str := match e.2 with
  | .str k _ => k
  | _ => Str.empty
def Ent (w : World) (e : Int × Value) : Prop := ∃ k u, e.2 = Value.str k u ∧ e.1 = hashStr w k
/-- the set at a of the texts l, each once -/
def TSet (w : World) (h : Heap) (a : Addr) (l : List Str) : Prop :=
  ∃ o rows ep tb, h.get? a = some o ∧ o.ExactSet ∧ o.data = .set rows ep tb ∧ (∀ e ∈ rows.toList, Ent w e) ∧ (rows.toList.map tx).Perm l ∧ l.Nodup ∧ rows.size < scanBound ∧ tb.fits rows.size = true ∧
    Ris tb.place.toList ∧ (w.params.followText "set-order" = true ∨ tb.led = true)
section
variable {P : Program} {w : World} {h h' : Heap} {a : Addr} {l : List Str}
theorem TSet.keep (T : TSet w h a l) (kp : ∀ o, h.get? a = some o → h'.get? a = some o) : TSet w h' a l := by
  obtain ⟨o, rows, ep, tb, q, r⟩ := T
  exact ⟨o, rows, ep, tb, kp o q, r⟩
theorem ent_elems {rs : List (Int × Value)} (g : ∀ e ∈ rs, Ent w e) : ElemsOf (strKind P w) rs := fun e he => by
  obtain ⟨k, u, q1, q2⟩ := g e he
  refine ⟨⟨k, ?_, q2⟩, ?_⟩
  · rw [q1]
    exact strKind_is P w k u
  · rw [q1]
    rfl
theorem ent_is {e : Int × Value} (g : Ent w e) (k : Str) : (strKind P w).is k e.2 = true ↔ tx e = k := by
  obtain ⟨k', u, q1, _⟩ := g
  unfold tx
  rw [q1]
  show Value.isStrOf k (.str k' u) = true ↔ k' = k
  simp [Value.isStrOf]
theorem ent_mem {rs : List (Int × Value)} (g : ∀ e ∈ rs, Ent w e) (k : Str) : k ∈ rs.map tx ↔ ∃ e ∈ rs, (strKind P w).is k e.2 = true := by
  rw [List.mem_map]
  exact ⟨fun ⟨e, he, q⟩ => ⟨e, he, (ent_is (g e he) k).mpr q⟩, fun ⟨e, he, q⟩ => ⟨e, he, (ent_is (g e he) k).mp q⟩⟩
theorem tset_new {hp : Heap} (w : World) {b : Addr} (q : hp.get? b = some { cls := .type "set", dict := none, data := .set #[] 0 (.fresh 0 0 (!w.params.followText "set-order")) }) : TSet w hp b [] := by
  refine ⟨_, #[], 0, _, q, ⟨rfl, rfl, rfl⟩, rfl, fun e he => (by simp at he), List.Perm.refl _, List.nodup_nil, by decide, rfl, List.Pairwise.nil, ?_⟩
  show _ ∨ (!w.params.followText "set-order") = true
  cases w.params.followText "set-order" <;> simp
end
section
variable {P : Program} {w : World} {A : Around} {E : Value → Shared → Prop} {s : Shared} {a : Addr} {l : List Str}
/-- laid, and laid wider if it is full -/
theorem tail_at {wide : Bool → Sem Unit} (hw : ∀ (b : Bool) (s1 : Shared) (J : Unit → Shared → Prop), J () s1 → wpAny (model P w) A (wide b) J E s1)
    {o : Obj} {rows : Array (Int × Value)} {ep : Nat} {tb : SetTable} (q0 : s.heap.get? a = some o) (qx : o.ExactSet) (qd : o.data = .set rows ep tb)
    {fs : Array (Int × Value)} {tt : SetTable} (ge : ∀ e ∈ fs.toList, Ent w e) (pl : (fs.toList.map tx).Perm l) (nl : l.Nodup) (few : fs.size < scanBound) (ft : tt.fits fs.size = true) (ri : Ris tt.place.toList)
    (ld : w.params.followText "set-order" = true ∨ tt.led = true) {wd : Bool} {J : Option Bool → Shared → Prop} (kk : ∀ h', Heap.SameBut a s.heap h' → TSet w h' a l → J (some true) { s with heap := h' }) :
    wpAny (model P w) A (do
        storeSet a fs tt
        if (!wd && tt.tooFull) = true then do
            wide (relayAll tt fs (SetTable.grown fs.size)).2.2
            storeSet a (relayAll tt fs (SetTable.grown fs.size)).1 (relayAll tt fs (SetTable.grown fs.size)).2.1
            pure (some true)
          else pure (some true)) J E s := by
  refine wpAny_bind (wpAny_storeSet_of q0 qd ?_ (fits_of_scanBound few))
  have q1 := store_at (es' := fs) (t' := tt) q0 qd
  have c1 := Heap.SameBut.update s.heap a (Obj.putSet fs tt)
  split
  · have y1 := relayAll_perm tt fs (SetTable.grown fs.size)
    have y2 := relayAll_fits tt fs (SetTable.grown fs.size)
    have y3 := relayAll_ris tt fs (SetTable.grown fs.size)
    have y4 := relayAll_led tt fs (SetTable.grown fs.size)
    generalize relayAll tt fs (SetTable.grown fs.size) = Y at y1 y2 y3 y4 ⊢
    obtain ⟨f2, t3, gv⟩ := Y
    dsimp only at y1 y2 y3 y4 ⊢
    have z : f2.size = fs.size := by
      have := y1.length_eq
      simpa using this
    have few2 : f2.size < scanBound := by omega
    refine wpAny_bind (hw _ _ _ ?_)
    refine wpAny_bind (wpAny_storeSet_of q1 rfl ?_ (fits_of_scanBound few2))
    have q2 := store_at (es' := f2) (t' := t3) q1 rfl
    refine wpAny_pure (kk _ (c1.trans (Heap.SameBut.update _ a _)) ⟨_, f2, _, t3, q2, qx, rfl, fun e he => ge e (y1.mem_iff.mp he), (y1.map tx).trans pl, nl, few2, y2, y3, ?_⟩)
    rcases ld with z | z
    · exact .inl z
    · exact .inr (by rw [y4]; exact z)
  · exact wpAny_pure (kk _ c1 ⟨_, fs, _, tt, q1, qx, rfl, ge, pl, nl, few, ft, ri, ld⟩)
/-- one text more, or there already -/
theorem put_at {k : Str} {u : Tok} {J : Bool → Shared → Prop} (T : TSet w s.heap a l) (room : l.length + 1 < scanBound)
    (kk : ∀ b h', Heap.SameBut a s.heap h' → TSet w h' a (if k ∈ l then l else k :: l) → J b { s with heap := h' }) :
    wpAny (model P w) A (setAddHashed a (.str k u) ((strKind P w).hash k)) J E s := by
  obtain ⟨o, rows, ep, tb, q0, qx, qd, ge, pl, nl, few, ft, ri, ld⟩ := T
  have ki : (strKind P w).is k (.str k u) = true := strKind_is P w k u
  have ks : (Value.str k u).scannable = true := rfl
  have el : ElemsOf (strKind P w) rows.toList := ent_elems ge
  have hz : rows.size = l.length := by
    have := pl.length_eq
    simpa using this
  unfold setAddHashed setAddHashedIn
  refine wpAny_holding (wpAny_bind (wpAny_setState_of q0 qd ft ?_))
  dsimp only
  rw [byScan_of ks few el]
  simp only [↓reduceIte]
  unfold setAddByScan
  refine wpAny_bind (wpAny_bind (wpAny_rule ?_))
  refine wpAny_bind (wpAny_setScan_of ki q0 qd ft el ?_)
  cases sc : List.findIdx? (fun e => (strKind P w).is k e.2) rows.toList with
  | some j =>
    dsimp only
    obtain ⟨hj, pj, _⟩ := List.findIdx?_eq_some_iff_getElem.mp sc
    have hk : k ∈ l := pl.mem_iff.mp ((ent_mem (P := P) ge k).mpr ⟨_, List.getElem_mem hj, pj⟩)
    have fin := kk false s.heap (Heap.SameBut.refl a s.heap) (by
      rw [if_pos hk]
      exact ⟨o, rows, ep, tb, q0, qx, qd, ge, pl, nl, few, ft, ri, ld⟩)
    exact wpAny_pure (wpAny_pure fin)
  | none =>
    dsimp only
    have hk : k ∉ l := fun z => by
      obtain ⟨e, he, q⟩ := (ent_mem (P := P) ge k).mp (pl.mem_iff.mpr z)
      have c := List.findIdx?_eq_none_iff.mp sc e he
      rw [q] at c
      cases c
    have gw : ∀ (b : Bool) {s1 : Shared} {J' : Unit → Shared → Prop}, J' () s1 → wpAny (model P w) A (match b with | true => rule "set.scan.the-table-gave-way" | false => pure ()) J' E s1 := fun b s1 J' q => by
      cases b
      · exact wpAny_pure q
      · exact wpAny_rule q
    have x1 := layNew_perm tb rows ((strKind P w).hash k) (.str k u)
    have x2 := layNew_fits tb rows ((strKind P w).hash k) (.str k u)
    have x3 := layNew_ris tb rows ((strKind P w).hash k) (.str k u) ri
    have x4 := layNew_led tb rows ((strKind P w).hash k) (.str k u)
    generalize layNew tb rows ((strKind P w).hash k) (.str k u) = Y at x1 x2 x3 x4 ⊢
    obtain ⟨fs, tt, wd, gv⟩ := Y
    dsimp only at x1 x2 x3 x4 ⊢
    rw [Array.toList_push] at x1
    have y1 : fs.toList.Perm (((strKind P w).hash k, Value.str k u) :: rows.toList) := x1.trans (List.perm_append_singleton _ _)
    have ge2 : ∀ e ∈ fs.toList, Ent w e := fun e he => by
      rcases List.mem_cons.mp (y1.mem_iff.mp he) with z | z
      · exact z ▸ ⟨k, u, rfl, rfl⟩
      · exact ge e z
    have pl2 : (fs.toList.map tx).Perm (k :: l) := (y1.map tx).trans (pl.cons k)
    have nl2 : (k :: l).Nodup := List.nodup_cons.mpr ⟨hk, nl⟩
    have few2 : fs.size < scanBound := by
      have := pl2.length_eq
      simp at this
      omega
    have ld2 : w.params.followText "set-order" = true ∨ tt.led = true := by
      rcases ld with z | z
      · exact .inl z
      · exact .inr (by rw [x4]; exact z)
    have fin : ∀ h', Heap.SameBut a s.heap h' → TSet w h' a (k :: l) → J true { s with heap := h' } := fun h' c t => kk true h' c (by rw [if_neg hk]; exact t)
    refine wpAny_bind (gw _ ?_)
    split
    · refine wpAny_bind ?_
      rw [hashByValue_scannable 8 ks]
      refine wpAny_pure (tail_at ?_ q0 qx qd ge2 pl2 nl2 few2 ?_ ?_ ?_ fun h' c t => ?_)
      · intro b s1 J' q
        cases b <;> first | exact wpAny_pure q | exact wpAny_rule q
      · first | exact x2 | (split <;> first | exact x2 | exact SetTable.fits_plain_off x2)
      · first | exact x3 | (split <;> exact x3)
      · first | exact ld2 | (split <;> exact ld2)
      · dsimp only
        exact wpAny_pure (fin h' c t)
    · refine wpAny_bind (wpAny_pure ?_)
      simp only [↓reduceIte]
      refine tail_at ?_ q0 qx qd ge2 pl2 nl2 few2 x2 x3 ld2 fun h' c t => ?_
      · intro b s1 J' q
        cases b <;> first | exact wpAny_pure q | exact wpAny_rule q
      · dsimp only
        exact wpAny_pure (fin h' c t)
end
/-- what the set has got of the first i texts -/
structure GotX (zs : List Str) (i : Nat) (l : List Str) : Prop where
  mem : ∀ k, k ∈ l ↔ k ∈ zs.take i
  len : l.length ≤ i
theorem GotX.next {zs l : List Str} {i : Nat} {k : Str} (g : GotX zs i l) (hk : zs[i]? = some k) : GotX zs (i + 1) (if k ∈ l then l else k :: l) := by
  have e : zs.take (i + 1) = zs.take i ++ [k] := by
    rw [List.take_add_one, hk]
    rfl
  refine ⟨fun j => ?_, ?_⟩
  · rw [e, List.mem_append, List.mem_singleton, ← g.mem j]
    split
    · rename_i c
      exact ⟨.inl, fun z => z.elim id fun q => q ▸ c⟩
    · rw [List.mem_cons]
      exact Or.comm
  · have := g.len
    split
    · omega
    · rw [List.length_cons]
      omega
section
variable {P : Program} {w : World} {A : Around} {E : Value → Shared → Prop} {s : Shared}
/-- the loop that puts all into a set -/
theorem loop_at {it : Addr} {fp wr : List Addr} {G : Array GenState → Array GenState → Prop} {n : Nat} {Pv : Nat → Value → Prop} {St : Nat → Shared → Prop} {R : Result → Shared → Prop}
    (W : WalksS P w A.in1 it fp wr G n Pv St) (b : Addr) (nb : b ∉ fp) (zs : List Str) (nz : n = zs.length) (few : zs.length < 64) (vals : ∀ i v, Pv i v → ∃ k u, zs[i]? = some k ∧ v = Value.str k u)
    (g0 : Heap) (gb : g0.get? b = none) (gw : ∀ c ∈ wr, g0.get? c = none) :
    ∀ (left i : Nat) (s : Shared), n - i = left → i ≤ n → St i s → (∀ c o, g0.get? c = some o → s.heap.get? c = some o) → (∃ l, TSet w s.heap b l ∧ GotX zs i l) →
      (∀ s' l, Moved (b :: wr) G s s' → TSet w s'.heap b l → GotX zs n l → (∀ c o, g0.get? c = some o → s'.heap.get? c = some o) → R (.ok (.ret .none)) s') →
      codeAny (model P w) A (.builtin "set.update.loop" ⟨[.ref b, .ref it], []⟩) R s := by
  have bw : b ∉ wr := fun z => nb (W.sub _ z)
  have up : ∀ c ∈ wr, c ∈ b :: wr := fun c hc => List.mem_cons_of_mem _ hc
  have old : ∀ {s s' : Shared}, Moved wr G s s' → (∀ c o, g0.get? c = some o → s.heap.get? c = some o) → ∀ c o, g0.get? c = some o → s'.heap.get? c = some o := fun mv kp c o q =>
    mv.heap c o (fun hc => by rw [gw c hc] at q; cases q) (kp c o q)
  intro left
  induction left with
  | zero =>
    intro i s hl hi st kp ⟨l, T, g⟩ fin
    obtain rfl : i = n := by omega
    refine codeAny_builtin F.entry_set_update_loop ?_
    rw [Around.under_plainId F.plain_set_update_loop _]
    refine wpAny_bind (W.done s _ _ st fun s' mv => ?_)
    have kp2 := old mv kp
    exact wpAny_pure (fin s' l (mv.mono up) (T.keep fun o q => mv.heap b o bw q) g kp2)
  | succ left ih =>
    intro i s hl hi st kp ⟨l, T, g⟩ fin
    have lt : i < n := by omega
    refine codeAny_builtin F.entry_set_update_loop ?_
    rw [Around.under_plainId F.plain_set_update_loop _]
    refine wpAny_bind (W.item i s _ _ lt st fun v s' pv st' mv => ?_)
    obtain ⟨k, u, hk, rfl⟩ := vals i v pv
    have kp2 := old mv kp
    have T' : TSet w s'.heap b l := T.keep fun o q => mv.heap b o bw q
    show wpAny _ A.in1 (holding [Value.str k u] (setAdd b (.str k u)) >>= _) _ _ s'
    refine wpAny_bind (wpAny_holding ?_)
    unfold setAdd
    refine wpAny_holding (wpAny_bind ((strKind P w).pyHash (strKind_is P w k u) ?_))
    refine put_at (s := { s' with toks := s'.toks + 1 }) T' (by have := g.len; unfold scanBound; omega) fun bl h' c t => ?_
    have kp3 : ∀ c o, g0.get? c = some o → h'.get? c = some o := fun d o q => (c.2 d (fun z => by rw [z, gb] at q; cases q)).trans (kp2 d o q)
    refine wpAny_pure ⟨plainId_quiet F.plain_set_update_loop _, ih (i + 1) _ (by omega) lt (W.frame _ s' _ _ st' (Nat.le_succ _) fun d hd o q => ?_) kp3 ⟨_, t, g.next hk⟩ fun s2 l2 mv2 t2 g2 kp4 => ?_⟩
    · rw [c.2 d (fun z : d = b => nb (by rw [← z]; exact hd))]
      exact q
    · refine fin s2 l2 (Moved.trans W.gtrans ((mv.mono up).then_heap (Nat.le_succ _) fun d o hd q => ?_) mv2) t2 g2 kp4
      rw [c.2 d (fun z : d = b => hd (by rw [z]; exact List.mem_cons_self))]
      exact q
theorem str_at : ∀ {us : List Value} {zs : List Str}, StrsAre us zs → ∀ (i : Nat) (v : Value), us[i]? = some v → ∃ k u, zs[i]? = some k ∧ v = Value.str k u
  | _, _, .nil, i, v, q => by simp at q
  | _, _, .cons k u r, 0, v, q => ⟨k, u, rfl, by simpa using q.symm⟩
  | _, _, .cons k u r, i + 1, v, q => by
    obtain ⟨k', u', q1, q2⟩ := str_at r i v (by simpa using q)
    exact ⟨k', u', by simpa using q1, q2⟩
abbrev newS (w : World) : Obj := { cls := .type "set", dict := none, data := .set #[] 0 (.fresh 0 0 (!w.params.followText "set-order")) }
set_option maxHeartbeats 3200000 in
/-- set(texts) -/
theorem call_at {l0 : Addr} {its : Array Value} (zs : List Str) {J : Value → Shared → Prop} (hh : A.handled = none) (hl : s.heap.IsList l0 its) (hz : StrsAre its.toList zs) (few : zs.length < 64)
    (fin : ∀ (h' : Heap) (tk : Nat) l, TSet w h' s.heap.objs.size l → GotX zs zs.length l → (∀ b o, s.heap.get? b = some o → h'.get? b = some o) → J (.ref s.heap.objs.size) { s with heap := h', toks := tk }) :
    wpAny (model P w) A (call (.type "set") [.ref l0]) J E s := by
  have nz : its.size = zs.length := by
    have := hz.length
    simpa using this
  obtain ⟨c, tl, f0⟩ := F.called_set.mro
  have f1 := F.called_set.made
  have f2 := F.called_set.sub
  refine wpAny_call (codeAny_of_tree ?_)
  show wpAny _ _ (callAny (.type "set") ⟨[.ref l0], []⟩) _ _ s
  refine wpAny_pure ⟨Code.quiet_builtin _ (by decide +kernel), codeAny_builtin F.entry_type_call ?_⟩
  rw [Around.under_plain (weight_type_call_type "set" [.ref l0] []) rfl]
  have f3 := F.called_set.notType
  have f4 := F.called_set.canCreate
  have f5 := F.typeCall_set_1 (.ref l0)
  repeat (any_goals (first | assumption | wp_step))
  refine codeAny_mono (code_set_led1 (.ref l0) (E := E) (Q₁ := fun v s1 => v = .ref s.heap.objs.size ∧ s1 = { s with heap := s.heap.push (newS w) }) ⟨rfl, rfl⟩) fun r s1 q => ?_
  cases r with
  | error e => exact q
  | ok fl =>
    cases fl with
    | ret v =>
      obtain ⟨rfl, rfl⟩ := q
      have o1 : (s.heap.push (newS w)).get? s.heap.objs.size = some (newS w) := Heap.get?_push_size _ rfl
      have o2 : Shared.TypeIs { s with heap := s.heap.push (newS w) } (.ref s.heap.objs.size) "set" := ⟨_, o1, rfl⟩
      have f6 := F.called_set.init.lookup
      have f7 := F.called_set.init.bind (.ref s.heap.objs.size)
      repeat (any_goals (first | assumption | wp_step))
      refine codeAny_mono (codeAny_call_builtin (R := wants (fun r s2 => r = .none ∧ ∃ h' tk l, s2 = { s with heap := h', toks := tk } ∧ TSet w h' s.heap.objs.size l ∧ GotX zs zs.length l ∧
          ∀ b o, s.heap.get? b = some o → h'.get? b = some o) E) F.called_set.init.plain F.entry_set_init (check_set_init_1 o2 ?_)) fun r2 s2 q2 => ?_
      · obtain ⟨ol, q0, qc, m, qd⟩ := hl
        obtain ⟨cl, di, da, sl⟩ := ol
        simp only at qc qd
        subst qc; subst qd
        have q1 : (s.heap.push (newS w)).get? l0 = some { cls := .type "list", dict := di, data := .seq its m, slots := sl } := Heap.get?_push_of_some _ q0
        have s1 := F.sub_list_set
        have s2 := F.sub_list_frozenset
        have s3 : (Value.type "list" == Value.type "dict") = false := by decide
        have il : (s.heap.push (newS w)).IsList l0 its := ⟨_, q1, rfl, m, rfl⟩
        unfold Builtin.«set.__init__» noKeywords Builtin.Frozenset.updateFrom
        generalize hp : pyIter = PY
        wp_walk
        subst hp
        refine wpAny_pyIter_list il (wpAny_bind (wpAny_runValue ?_))
        have lts : l0 < s.heap.objs.size := Heap.lt_size q0
        have h3 : A.in1.in1.in1.handled = none := by simp [hh]
        have n1 : l0 ≠ (s.heap.push (newS w)).objs.size := by
          rw [Heap.size_push]
          exact Nat.ne_of_lt (Nat.lt_succ_of_lt lts)
        have n2 : s.heap.objs.size ∉ [(s.heap.push (newS w)).objs.size, l0] := by
          rw [Heap.size_push]
          simp only [List.mem_cons, List.not_mem_nil, or_false, not_or]
          exact ⟨Nat.ne_of_lt (Nat.lt_succ_self _), Nat.ne_of_gt lts⟩
        have no : ∀ b, s.heap.objs.size ≤ b → s.heap.get? b = none := fun b hb => by
          cases q : s.heap.get? b with
          | none => rfl
          | some o => exact absurd (Nat.lt_of_lt_of_le (Heap.lt_size q) hb) (Nat.lt_irrefl _)
        refine loop_at ((Walks.list h3 _ l0 n1 its).toS) s.heap.objs.size n2 zs nz few (fun i v hv => str_at hz i v (by rw [Array.getElem?_toList]; exact hv)) s.heap (no _ (Nat.le_refl _)) (fun b hb => no b (by
            rw [List.mem_singleton.mp hb, Heap.size_push]
            exact Nat.le_succ _)) (its.size - 0) 0 _ (by omega) (Nat.zero_le _)
          ⟨⟨_, Heap.get?_push_size _ rfl, rfl, rfl⟩, (il.push _)⟩ (fun b o q => Heap.get?_push_of_some _ (Heap.get?_push_of_some _ q)) ?_ ?_
        · exact ⟨[], tset_new w (Heap.get?_push_of_some _ o1), ⟨fun k => by simp, Nat.le_refl _⟩⟩
        · intro s' l mv t g kp
          obtain ⟨h', gs, dr, tk, os⟩ := s'
          obtain rfl : gs = s.gens := mv.gens
          obtain rfl : dr = s.drawn := mv.drawn
          obtain rfl : os = s.os := mv.os
          show wpAny _ _ _ _ _ _
          refine wpAny_pure ?_
          show wpAny _ _ (ret Value.none) _ _ _
          rw [nz] at g
          exact wpAny_pure ⟨rfl, h', tk, l, rfl, t, g, kp⟩
      · cases r2 with
        | error e => exact q2
        | ok f =>
          cases f with
          | ret r =>
            obtain ⟨rfl, h', tk, l, rfl, t, g, kp⟩ := q2
            repeat (any_goals (first | assumption | wp_step))
            exact fin _ _ _ t g kp
          | _ => exact q2.elim
    | _ => exact q.elim
end
end TX
end GW
end

section
/-! C22: sorted(set(texts)): the sorting. -/
noncomputable section
namespace GW
namespace TX
open PySem PySem.Spec PyProof.Rows L2 PySem.W
section
variable {P : Program} {w : World} {A : Around} {E : Value → Shared → Prop} {s : Shared}
/-- a text and a value that is it -/
def IsX (v : Value) (k : Str) : Prop := ∃ u, v = Value.str k u
theorem isx_of : ∀ {us : List Value}, (∀ v ∈ us, ∃ k u, v = Value.str k u) → PySem.W.EachIs IsX us (us.map fun v => tx (0, v))
  | [], _ => .nil
  | v :: us, h => by
    obtain ⟨k, u, rfl⟩ := h v List.mem_cons_self
    exact .cons ⟨u, rfl⟩ (isx_of fun v hv => h v (List.mem_cons_of_mem _ hv))
theorem isx_reads {g : Heap} {n : Addr} : ∀ {us : List Value} {l : List Str}, PySem.W.EachIs IsX us l → PySem.W.EachIs (fun v k => ∃ as, Reads g v (PyData.str k) as ∧ n ∉ as) us l
  | _, _, .nil => .nil
  | _, _, .cons ⟨u, q⟩ r => .cons ⟨[], by
      subst q
      exact ⟨.str _ u, by simp⟩⟩ (isx_reads r)
theorem sortX_perm {l m : List Str} (h : l.Perm m) : sortX l = sortX m := by
  have T := sortLe_total (listOrd itemOrd) false (fun b : Str => keyToks (PyData.str b))
  refine Srt.the_of_perm _ (fun a b c => T.trans a b c) (fun a b => by rw [Bool.or_eq_true]; exact T.total a b) (fun a b h1 h2 => ?_) ((List.mergeSort_perm l _).trans h) (List.pairwise_mergeSort (fun a b c => T.trans a b c) (fun a b => by rw [Bool.or_eq_true]; exact T.total a b) l)
  have h1 : (!dataLt (.str b) (.str a)) = true := h1
  have h2 : (!dataLt (.str a) (.str b)) = true := h2
  have h1 : dataLt (.str b) (.str a) = false := by simpa using h1
  have h2 : dataLt (.str a) (.str b) = false := by simpa using h2
  rw [dataLt_str] at h1 h2
  have h1 := of_decide_eq_false h1
  have h2 := of_decide_eq_false h2
  exact str_of_cps (List.le_antisymm (List.not_lt.mp h1) (List.not_lt.mp h2))
/-- sorted(a set of texts) -/
theorem sort_at {a : Addr} {l : List Str} {J : Value → Shared → Prop} (T : TSet w s.heap a l) (hh : A.handled = none) (few : l.length < 64) (hu : A.units + 8 < cLine)
    (fin : ∀ s' p (out : List Value) (c : Nat), (∀ b o, s.heap.get? b = some o → s'.heap.get? b = some o) → s'.gens = s.gens → s'.os = s.os → s.heap.objs.size ≤ p →
      s'.heap.get? p = some (seqObj "list" out.toArray c) → PySem.W.EachIs IsX out (sortX l) → J (.ref p) s') :
    wpAny (model P w) A (call (.builtin "sorted") [.ref a]) J E s := by
  obtain ⟨o, rows, ep, tb, q0, qx, qd, ge, pl, nl, fewr, ft, ri, ld⟩ := T
  refine Calls.call_function_entry kind_sorted plain_sorted entry_sorted (args_sorted1 _) ?_
  unfold Builtin.«sorted»
  refine wpAny_bind (m := checkCount "sorted" 1 1 _) (wpAny_pure ?_)
  refine wpAny_bind (collect_set (A := A.in1) hh ⟨o, q0, qx.1, qd⟩ ft fewr ri ld fun s1 vs k1 z1 g1 o1 pm => ?_)
  have vt : ∀ v ∈ vs, ∃ k u, v = Value.str k u := fun v hv => by
    obtain ⟨e, he, q⟩ := List.mem_map.mp (pm.mem_iff.mp hv)
    obtain ⟨k, u, x1, _⟩ := ge e he
    exact ⟨k, u, by rw [← q, x1]⟩
  have ev := isx_of vt
  have pb : (vs.map fun v => tx (0, v)).Perm l := by
    refine List.Perm.trans ?_ pl
    have q := pm.map fun v => tx (0, v)
    rw [List.map_map] at q
    exact q
  have lv : vs.length < 64 := by
    have := pb.length_eq
    rw [List.length_map] at this
    omega
  refine wpAny_bind (wpAny_newList ?_ (by rw [sizeLine_eq]; omega))
  have o2 : (s1.heap.push (seqObj "list" vs.toArray 0)).get? s1.heap.objs.size = some (seqObj "list" vs.toArray 0) := Heap.get?_push_size _ rfl
  refine wpAny_bind (wpAny_holding (PySem.W.list_sort_data (s := { s1 with heap := s1.heap.push (seqObj "list" vs.toArray 0) }) (enc := PyData.str) (R := IsX) o2 ev (isx_reads ev) ?_ ?_ (by rw [List.length_map, sizeLine_eq]; omega) (fun b hb => ?_) fun out lo eo => ?_))
  · intro d hd d' hd'
    obtain ⟨x, _, rfl⟩ := List.mem_map.mp hd
    obtain ⟨y, _, rfl⟩ := List.mem_map.mp hd'
    rfl
  · refine .inr fun d hd => ?_
    obtain ⟨x, _, rfl⟩ := List.mem_map.mp hd
    exact ⟨fun z => (by cases z), fun _ z => (by cases z)⟩
  · have : (PyData.str b).depth = 0 := rfl
    rw [this]
    show A.in1.units + 1 + 0 < cLine
    simp
    omega
  · obtain ⟨c, hc⟩ := sortedHeap_at (vs := vs) (out := out.toArray) o2
    rw [show (vs.map fun v => tx (0, v)).mergeSort (PySem.W.dataLe false PyData.str) = sortX l from sortX_perm pb] at eo
    refine wpAny_pure ⟨_, rfl, fin _ s1.heap.objs.size out c (fun b o q => ?_) g1 o1 z1 hc eo⟩
    have q' := k1 b o q
    have lt := Heap.lt_size q'
    show (sortedHeap (s1.heap.push (seqObj "list" vs.toArray 0)) s1.heap.objs.size vs out.toArray).get? b = some o
    rw [sortedHeap_old (Nat.ne_of_lt lt) (by rw [size_push']; exact Nat.lt_succ_of_lt lt)]
    exact Heap.get?_push_of_some _ q'
end
end TX
end GW
end

section
/-! C23: sorted(set(texts)) in the language. -/
namespace GW
open PySem PySem.Spec PyProof.Rows L2
theorem mem_nub {k : Str} : ∀ {l : List Str}, k ∈ nub l ↔ k ∈ l
  | [] => Iff.rfl
  | s :: r => by
    unfold nub
    split
    · rename_i h
      rw [mem_nub, List.mem_cons]
      exact ⟨.inr, fun z => z.elim (fun e => by rw [e]; exact mem_nub.mp h) id⟩
    · rw [List.mem_cons, List.mem_cons, mem_nub]
theorem nodup_nub : ∀ l : List Str, (nub l).Nodup
  | [] => by unfold nub; exact List.nodup_nil
  | s :: r => by
    unfold nub
    split
    · exact nodup_nub r
    · rename_i h
      exact List.nodup_cons.mpr ⟨h, nodup_nub r⟩
theorem sortX_nub {l ss : List Str} (h : l.Nodup) (m : ∀ k, k ∈ l ↔ k ∈ ss) : sortX l = sortX (nub ss) := TX.sortX_perm ((List.perm_ext_iff_of_nodup h (nodup_nub ss)).mpr fun k => by rw [m, mem_nub])
/-- the set at p -/
def TSetO (w : World) (p : Addr) (l : List Str) : HO := .ext fun h => TX.TSet w h p l
def rSetT (w : World) : List V → Hp → VK → Prop := fun xs H Q => ∃ (a : Addr) (ss : List Str), xs = [.ref a] ∧ Rd H a (.lst (ss.map V.str)) ∧ ss.length < 64 ∧ ∀ p l, H p = none → l.Nodup → (∀ k, k ∈ l ↔ k ∈ ss) → l.length < 64 → Q (.ref p) (upd H p (TSetO w p l))
def rSrtT (w : World) : List V → Hp → VK → Prop := fun xs H Q => ∃ p l, xs = [.ref p] ∧ H p = some (TSetO w p l) ∧ l.length < 64 ∧ ∀ q, H q = none → Q (.ref q) (upd H q (.lst ((sortX l).map V.str)))
section
variable {X : Cx} {A : Cls} {W : WX} {e a b c : Expr} {pos : Pos}
theorem strs_are : ∀ {ss : List Str} {us : List Value}, Vals (ss.map V.str) us → StrsAre us ss
  | [], _, h => by cases h; exact .nil
  | s :: ss, _, h => by
    cases h with
    | cons h1 h2 =>
      obtain ⟨t, rfl⟩ := h1
      exact .cons _ _ (strs_are h2)
theorem isx_vals : ∀ {us : List Value} {ss : List Str}, PySem.W.EachIs TX.IsX us ss → Vals (ss.map V.str) us
  | _, _, .nil => .nil
  | _, _, .cons ⟨u, h1⟩ t => .cons ⟨u, h1⟩ (isx_vals t)
theorem tset_nodup {w : World} {h : Heap} {p : Addr} {l : List Str} (t : TX.TSet w h p l) : l.Nodup := by
  obtain ⟨_, _, _, _, _, _, _, _, _, n, _⟩ := t
  exact n
theorem cr_setT (hc : X.calm = true) : CallR X (.type "set") (rSetT X.w) := by
  intro pins s σ H xs us Q I r h
  obtain ⟨a, ss, rfl, h1, h2, q⟩ := h
  obtain ⟨its, rv, hl, hz⟩ := I.list (.inl h1)
  rw [Vals.ref1 r]
  refine TX.call_at ss (I.ok.hd hc) hl.isList (strs_are rv) h2 fun h' tk l t g kp => ?_
  have hn : ∀ o, s.heap.get? s.heap.objs.size ≠ some o := fun o z => Nat.lt_irrefl _ (Heap.lt_size z)
  refine ⟨.ref _, upd H s.heap.objs.size (TSetO X.w s.heap.objs.size l), I.laid kp (Nat.le_refl _) ⟨t, ?_, fun k1 k2 z st => ?_⟩, rfl, q _ l (I.hok.fresh (Nat.le_refl _)) (tset_nodup t) (fun k => by rw [g.mem, List.take_length]) (by have := g.len; omega)⟩
  · obtain ⟨o, _, _, _, z, _⟩ := t
    exact ⟨o, z⟩
  · exact TX.TSet.keep z fun o q => st o q
theorem cr_srtT (hc : X.calm = true) (hu : X.A.units + 65 < cLine) : CallR X (.builtin "sorted") (rSrtT X.w) := by
  intro pins s σ H xs us Q I r h
  obtain ⟨p, l, rfl, h1, h2, q⟩ := h
  obtain ⟨t, _, _⟩ := I.hok p _ h1
  rw [Vals.ref1 r]
  refine TX.sort_at t (I.ok.hd hc) h2 (by omega) fun s' d out c kp g os hs hd e => ?_
  have hv := isx_vals e
  have hl : ((sortX l).map V.str).length ≤ sizeLine := by
    rw [List.length_map, (List.mergeSort_perm l _).length_eq]
    rw [sizeLine_eq]
    omega
  have J : Inv X pins σ (upd H d (.lst ((sortX l).map V.str))) s' := I.call' (ch := []) os (Un.laid kp hs (I.hok.fresh hs)) (I.hok.laid kp hs ⟨hl, out, c, hv, hd⟩) (by rw [g]; exact I.bare) (fun b hb => absurd hb (by simp))
  exact ⟨.ref d, _, J, rfl, q d (I.hok.fresh hs)⟩
theorem txs_reps {K : PySem.W.Frag} {S : Hp} : ∀ {ds : List D} {ss : List Str} {vs : List V}, txs ds = some ss → Reps K A S ds vs → vs = ss.map V.str
  | [], ss, vs, h, r => by
    cases h
    unfold Reps at r
    exact r
  | d :: ds, ss, vs, h, r => by
    cases d with
    | str b =>
      unfold txs at h
      obtain ⟨bs', h1, rfl⟩ := Option.map_eq_some_iff.mp h
      unfold Reps at r
      obtain ⟨v, r', rfl, h2, h3⟩ := r
      cases h2.str_inv
      rw [txs_reps h1 h3]
      rfl
    | _ => cases h
theorem snd_srs {G : Prog} {fa : Nat → Addr} {fd : Nat → FuncData} {call : Nat → D → List D → Res} {n : Nat} {p p2 p3 : Pos} {ca : Code} (C : Ctx G A fa fd call n X W) (hg : Gl X "sorted") (hg2 : Gl X "set") (h : Alls X A W [a] [ca]) :
    PE X (.Call (.Name "sorted" p) [.Call (.Name "set" p2) [a] [] p3] [] pos) (tO X.K A W fun ρ => (evsC [ca] ρ).bind fun ds ρ => Out.of (biv .sset ds) ρ) := by
  have pa := Alls.pa h
  cases h with
  | @cons _ _ _ _ h1 h2 hs hr =>
    have hu : X.A.units + 65 < cLine := by have := C.room.un; omega
    have inner := pe_callTy (pos := p3) (p := p2) (cr_setT C.calm) hg2 (C.facts.blt _ (by decide +kernel)) (by decide +kernel) pa (by decide +kernel) (by decide +kernel) (star_of hs) rfl
    have outer := pe_callB (pos := pos) (p := p) (cr_srtT C.calm hu) hg (C.facts.blt _ (by decide +kernel)) (by decide +kernel) (pa_cons inner pa_nil (star_of (es := []) rfl)) (by decide +kernel) (by decide +kernel) (star_of (es := []) rfl) rfl
    refine outer.imp fun σ H Q hw => ?_
    obtain ⟨E, S, ρ, fs, st, p⟩ := hw
    refine ⟨E, S, ρ, fs, st, (Post.bind p).mono fun ds ρ1 S1 H1 fs1 e1 st1 p1 vs r => ?_⟩
    cases hb : biv .sset ds with
    | none => rw [hb] at p1; exact p1.elim
    | some z =>
      rw [hb] at p1
      unfold biv at hb
      split at hb <;> first | contradiction | skip
      rename_i xs _
      cases hx : txs xs with
      | none => rw [hx] at hb; cases hb
      | some ss =>
        rw [hx] at hb
        dsimp only [Option.bind] at hb
        split at hb <;> first | contradiction | skip
        rename_i hlen
        cases hb
        obtain ⟨v, rfl, hv⟩ := reps_one r
        obtain ⟨a0, vs0, rfl, h3, h4⟩ := hv.lst_inv
        obtain rfl := txs_reps hx h4
        refine ⟨a0, ss, rfl, Same.rd st1.sub h3, hlen, fun q l hq nl ml ll => ⟨q, l, rfl, upd_same, ll, ?_⟩⟩
        rw [sortX_nub nl ml]
        have st2 := st1.lay (o := TSetO X.w q l) hq
        exact (tells_of (z := (.lst ((sortX (nub ss)).map .str), true)) st2 fun S' H' v fp e st' r ap => p1 S' H' fs1 e st' v fp r ap).lst st2.sub (reps_strs _)
end
end GW
end

section
/-! C24: several names in one assignment; the values stay one's own. -/
namespace GW
open PySem PySem.Spec PyProof.Rows L2 RZ
section
variable (K : PySem.W.Frag) (A : Cls)
/-- values told, each apart from all else -/
def RVs (E : Ent) (S H : Hp) (fs : Nat → List Addr) : List (D × Bool) → List V → List (List Addr) → Prop
  | [], vs, fps => vs = [] ∧ fps = []
  | x :: xs, vs, fps => ∃ v vr fp fpr, vs = v :: vr ∧ fps = fp :: fpr ∧ RV K A S H x v fp ∧ Apart E fs fp ∧ (∀ a ∈ fp, ∀ q ∈ fpr, a ∉ q) ∧ RVs E S H fs xs vr fpr
def tAO (W : WX) (c : Env → Out (List (D × Bool))) : TA := fun σ H Q => ∃ E S ρ fs, Sta K A E S H ρ σ fs ∧ Post K A W E S σ (c ρ) fun xs S' H' fs' _ => ∀ vs fps, RVs K A E S' H' fs' xs vs fps → Q vs H'
end
section
variable {K : PySem.W.Frag} {A : Cls} {W : WX} {E : Ent} {S S' H H' H0 : Hp} {ρ : Env} {σ : L2.St} {fs fs' : Nat → List Addr} {fp : List Addr} {x : D × Bool} {v : V}
theorem RV.at (r : RV K A S H x v fp) : ∀ a ∈ fp, S a = none ∧ ∃ o, H a = some o := by
  unfold RV at r
  split at r
  · exact Own.at r
  · rw [r.1]
    intro a ha
    simp at ha
theorem RV.keep (e : Same S S') (k : ∀ a ∈ fp, S' a = none ∧ H' a = H a) (r : RV K A S H x v fp) : RV K A S' H' x v fp := by
  unfold RV at r ⊢
  split
  · rename_i h
    rw [if_pos h] at r
    exact Own.keep e k r
  · rename_i h
    rw [if_neg h] at r
    exact ⟨r.1, Rep.mono e _ _ r.2⟩
def holdF (E : Ent) (H : Hp) (fp : List Addr) : Ent := ⟨E.S, fun a => open Classical in if a ∈ fp then H a else E.gh a, E.z⟩
theorem holdF_in {a : Addr} (h : a ∈ fp) : (holdF E H fp).gh a = H a := if_pos h
theorem holdF_out {a : Addr} (h : a ∉ fp) : (holdF E H fp).gh a = E.gh a := if_neg h
theorem Sta.holdF (st : Sta K A E S H ρ σ fs) (hd : ∀ a ∈ fp, S a = none ∧ ∃ o, H a = some o) (ap : Apart E fs fp) : Sta K A (GW.holdF E H fp) S H ρ σ fs := by
  refine ⟨st.len, st.sub, st.slot, st.dis, fun b u q => ?_, st.s0, fun j a ha => ?_, fun b u q => ?_, st.z⟩
  · by_cases h : b ∈ fp
    · rw [holdF_in h] at q
      exact q
    · rw [holdF_out h] at q
      exact st.ghost b u q
  · rw [holdF_out fun z => (ap a z).2 j ha]
    exact st.new j a ha
  · by_cases h : b ∈ fp
    · rw [(hd b h).1] at q
      cases q
    · rw [holdF_out h]
      exact st.snew b u q
theorem Sta.unholdF (st : Sta K A (GW.holdF E H0 fp) S H ρ σ fs) (h : ∀ a ∈ fp, E.gh a = none) : Sta K A E S H ρ σ fs := by
  have g : ∀ b, (GW.holdF E H0 fp).gh b = none → E.gh b = none := fun b q => by
    by_cases e : b ∈ fp
    · exact h b e
    · rw [holdF_out e] at q
      exact q
  refine ⟨st.len, st.sub, st.slot, st.dis, fun b u q => st.ghost b u ?_, st.s0, fun j b hb => g b (st.new j b hb), fun b u q => ?_, st.z⟩
  · rw [holdF_out fun z => by rw [h b z] at q; cases q]
    exact q
  · rcases st.snew b u q with z | z
    · exact .inl z
    · exact .inr (g b z)
/-- what was held is as it was -/
theorem Sta.heldF (st : Sta K A (GW.holdF E H0 fp) S H ρ σ fs) (hd : ∀ a ∈ fp, ∃ o, H0 a = some o) (hS : ∀ a ∈ fp, E.S a = none) : (∀ a ∈ fp, S a = none ∧ H a = H0 a) ∧ ∀ a ∈ fp, ∀ j, a ∉ fs j := by
  refine ⟨fun a ha => ?_, fun a ha j hj => ?_⟩
  · obtain ⟨o, ho⟩ := hd a ha
    refine ⟨?_, ?_⟩
    · cases q : S a with
      | none => rfl
      | some u =>
        rcases st.snew a u q with z | z
        · have z : E.S a = some u := z
          rw [hS a ha] at z
          cases z
        · rw [holdF_in ha, ho] at z
          cases z
    · rw [ho]
      exact st.ghost a o (by rw [holdF_in ha]; exact ho)
  · have z := st.new j a hj
    obtain ⟨o, ho⟩ := hd a ha
    rw [holdF_in ha, ho] at z
    cases z
theorem RVs.unhold (hd : ∀ a ∈ fp, (∃ o, H0 a = some o) ∧ E.gh a = none) : ∀ {xs : List (D × Bool)} {vs : List V} {fps : List (List Addr)}, RVs K A (GW.holdF E H0 fp) S H fs xs vs fps → RVs K A E S H fs xs vs fps ∧ ∀ a ∈ fp, ∀ q ∈ fps, a ∉ q
  | [], _, _, h => by
    obtain ⟨rfl, rfl⟩ := h
    exact ⟨⟨rfl, rfl⟩, fun a _ q hq => by simp at hq⟩
  | x :: xs, _, _, h => by
    obtain ⟨v, vr, f1, fr, rfl, rfl, h1, h2, h3, h4⟩ := h
    obtain ⟨i1, i2⟩ := RVs.unhold hd h4
    have no : ∀ a ∈ fp, a ∉ f1 := fun a ha hf => by
      have z := (h2 a hf).1
      obtain ⟨o, ho⟩ := (hd a ha).1
      rw [holdF_in ha, ho] at z
      cases z
    refine ⟨⟨v, vr, f1, fr, rfl, rfl, h1, fun a ha => ⟨?_, (h2 a ha).2⟩, h3, i1⟩, fun a ha q hq => ?_⟩
    · have z := (h2 a ha).1
      rw [holdF_out fun y => no a y ha] at z
      exact z
    · rcases List.mem_cons.mp hq with rfl | hq
      · exact no a ha
      · exact i2 a ha q hq
theorem RVs.keep : ∀ {xs : List (D × Bool)} {vs : List V} {fps : List (List Addr)}, (∀ q ∈ fps, ∀ a ∈ q, S a = none ∧ H' a = H a) → RVs K A E S H fs xs vs fps → RVs K A E S H' fs xs vs fps
  | [], _, _, _, h => h
  | x :: xs, _, _, k, h => by
    obtain ⟨v, vr, f1, fr, rfl, rfl, h1, h2, h3, h4⟩ := h
    exact ⟨v, vr, f1, fr, rfl, rfl, h1.keep (Same.refl S) (k f1 (by simp)), h2, h3, RVs.keep (fun q hq => k q (List.mem_cons_of_mem _ hq)) h4⟩
theorem RVs.at : ∀ {xs : List (D × Bool)} {vs : List V} {fps : List (List Addr)}, RVs K A E S H fs xs vs fps → ∀ q ∈ fps, ∀ a ∈ q, S a = none ∧ ∃ o, H a = some o
  | [], _, _, h => by
    obtain ⟨rfl, rfl⟩ := h
    intro q hq
    simp at hq
  | x :: xs, _, _, h => by
    obtain ⟨v, vr, f1, fr, rfl, rfl, h1, h2, h3, h4⟩ := h
    intro q hq
    rcases List.mem_cons.mp hq with rfl | hq
    · exact h1.at
    · exact RVs.at h4 q hq
theorem RVs.len : ∀ {xs : List (D × Bool)} {vs : List V} {fps : List (List Addr)}, RVs K A E S H fs xs vs fps → vs.length = xs.length
  | [], _, _, h => by
    obtain ⟨rfl, rfl⟩ := h
    rfl
  | x :: xs, _, _, h => by
    obtain ⟨v, vr, f1, fr, rfl, rfl, h1, h2, h3, h4⟩ := h
    rw [List.length_cons, List.length_cons, RVs.len h4]
/-- other slots' footprints -/
theorem RVs.slots (k : ∀ a, (∀ j, a ∉ fs j) → (∃ q ∈ fp, a = q) ∨ ∀ j, a ∉ fs' j) : ∀ {xs : List (D × Bool)} {vs : List V} {fps : List (List Addr)}, (∀ a ∈ fp, ∀ q ∈ fps, a ∉ q) → RVs K A E S H fs xs vs fps → RVs K A E S H fs' xs vs fps
  | [], _, _, _, h => h
  | x :: xs, _, _, d, h => by
    obtain ⟨v, vr, f1, fr, rfl, rfl, h1, h2, h3, h4⟩ := h
    refine ⟨v, vr, f1, fr, rfl, rfl, h1, fun a ha => ⟨(h2 a ha).1, ?_⟩, h3, RVs.slots k (fun a ha q hq => d a ha q (List.mem_cons_of_mem _ hq)) h4⟩
    rcases k a (h2 a ha).2 with ⟨q, hq, rfl⟩ | z
    · exact absurd ha (d a hq f1 (by simp))
    · exact z
theorem Sta.putV2 {i : Nat} (st : Sta K A E S H ρ σ fs) (r : RV K A S H x v fp) (ap : Apart E fs fp) (hz : i ≠ 0 ∨ E.z = none) :
    ∃ fs', Sta K A E S H (GW.putV ρ i x) (σ.set i (some v)) fs' ∧ ∀ a, (∀ j, a ∉ fs j) → (∃ q ∈ fp, a = q) ∨ ∀ j, a ∉ fs' j := by
  obtain ⟨d, o⟩ := x
  unfold RV at r
  unfold GW.putV
  cases o with
  | false =>
    rw [if_neg (by simp)] at r ⊢
    refine ⟨_, st.put' r.2 hz, fun a ha => .inr fun j hj => ?_⟩
    revert hj
    split
    · simp
    · exact ha j
  | true =>
    rw [if_pos rfl] at r ⊢
    by_cases hi : i < σ.length
    · refine ⟨_, st.putO hi r ap hz, fun a ha => ?_⟩
      by_cases q : a ∈ fp
      · exact .inl ⟨a, q, rfl⟩
      · refine .inr fun j hj => ?_
        revert hj
        split
        · exact q
        · exact ha j
    · have h1 : σ.set i (some v) = σ := List.set_eq_of_length_le (by omega)
      have h2 : ρ.set i (.ow d) = ρ := List.set_eq_of_length_le (by rw [← st.len]; omega)
      dsimp only
      rw [h1, h2]
      exact ⟨fs, st, fun a ha => .inr ha⟩
end
section
variable {X : Cx} {A : Cls} {W : WX} {e a b c : Expr} {pos : Pos} {R : Rt} {mt : Bool}
theorem Alls.pao {es : List Expr} {cs : List Code} (h : Alls X A W es cs) : PA X es (tAO X.K A W (evsCO cs)) := by
  induction h with
  | nil =>
    refine pa_nil.imp fun σ H Q hw => ?_
    obtain ⟨E, S, ρ, fs, st, p⟩ := hw
    exact Post.here p st [] [] ⟨rfl, rfl⟩
  | @cons e c es cs h1 h2 hs _ ih =>
    refine (pa_cons h1 ih (star_of hs)).imp fun σ H Q hw => ?_
    obtain ⟨E, S, ρ, fs, st, p⟩ := hw
    refine ⟨E, S, ρ, fs, st, (Post.bind p).mono fun x ρ1 S1 H1 fs1 e1 st1 p1 v fp r ap => ?_⟩
    have hd := r.at
    have hE : ∀ a ∈ fp, E.S a = none := fun a ha => st1.s0.free (hd a ha).1
    refine ⟨holdF E H1 fp, S1, ρ1, fs1, st1.holdF hd ap, ?_⟩
    cases hc : evsCO cs ρ1 with
    | bad =>
      rw [hc] at p1
      exact p1.elim
    | exn c' ρ2 =>
      rw [hc] at p1
      exact fun S2 H2 fs2 e2 st2 => p1 S2 H2 fs2 e2 (st2.unholdF fun a ha => (ap a ha).1)
    | ok xs ρ2 =>
      rw [hc] at p1
      intro S2 H2 fs2 e2 st2 vs fps rv
      obtain ⟨k1, k2⟩ := st2.heldF (fun a ha => (hd a ha).2) hE
      obtain ⟨u1, u2⟩ := RVs.unhold (fun a ha => ⟨(hd a ha).2, (ap a ha).1⟩) rv
      exact p1 S2 H2 fs2 e2 (st2.unholdF fun a ha => (ap a ha).1) (v :: vs) (fp :: fps) ⟨v, vs, fp, fps, rfl, rfl, r.keep e2 k1, fun a ha => ⟨(ap a ha).1, k2 a ha⟩, u2, u1⟩
theorem gNms_okO {K : PySem.W.Frag} {E : Ent} {S H : Hp} : ∀ {is : List Nat} {ρ ρ1 : Env} {σ : L2.St} {fs : Nat → List Addr} {xs : List (D × Bool)} {vs : List V} {fps : List (List Addr)} {Q : L2.St → Hp → Prop}, Sta K A E S H ρ σ fs → RVs K A E S H fs xs vs fps → putsV ρ is xs = some ρ1 → (0 ∉ is ∨ E.z = none) →
    (∀ σ1 fs1, Sta K A E S H ρ1 σ1 fs1 → Q σ1 H) → gNms is vs σ H Q
  | [], ρ, ρ1, σ, fs, xs, vs, fps, Q, st, r, h, hz, q => by
    cases xs with
    | nil =>
      cases h
      exact ⟨r.1, q σ fs st⟩
    | cons _ _ => cases h
  | i :: is, ρ, ρ1, σ, fs, xs, vs, fps, Q, st, r, h, hz, q => by
    cases xs with
    | nil => cases h
    | cons x xs =>
      obtain ⟨v, vr, f1, fr, rfl, rfl, h1, h2, h3, h4⟩ := r
      unfold putsV at h
      obtain ⟨fs', st', k⟩ := st.putV2 (i := i) h1 h2 (hz.imp (fun z w => z (by simp [w])) id)
      exact ⟨v, vr, rfl, gNms_okO st' (RVs.slots k h3 h4) h (hz.imp (fun z w => z (List.mem_cons_of_mem _ w)) id) q⟩
theorem putsV_len : ∀ {is : List Nat} {ρ ρ1 : Env} {xs : List (D × Bool)}, putsV ρ is xs = some ρ1 → xs.length = is.length
  | [], _, _, [], _ => rfl
  | [], _, _, _ :: _, h => by cases h
  | _ :: _, _, _, [], h => by cases h
  | i :: is, ρ, ρ1, x :: xs, h => by
    unfold putsV at h
    rw [List.length_cons, List.length_cons, putsV_len h]
/-- a, b, c = x, y, z: a tuple, then its items -/
theorem snd_asgO {cs : List Code} {vals es : List Expr} {is : List Nat} {k k2 : Nat} {p p2 : Pos} (hm : R.meth = mt) (hc : X.calm = true) (hN : X.N.Nodup) (h : Nms X es is) (hv : Alls X A W vals cs) (hl : is.length < 900)
    (hs : swapsWithSole [.Tuple es k p] (.Tuple vals k2 p2) pos.line X.env = pure false) (hw : swappedStores [.Tuple es k p] (.Tuple vals k2 p2) X.env = pure none) :
    PS X (.Assign [.Tuple es k p] (.Tuple vals k2 p2) pos) (tS X.K A mt W fun ρ => onOut (evsCO cs ρ) fun xs ρ => match putsV ρ is xs with
    | some ρ => if okS R is then .nx ρ else .bad
    | none => .bad) := by
  refine PS.imp (ps_asg (pe_tup (Alls.pao hv)) (pg_tup hc (h.pgs hN) h.len.1 h.len.2) hs hw rfl) fun D σ H hw => ?_
  obtain ⟨E, S, ρ, fs, hz, st, p⟩ := hw
  refine ⟨E, S, ρ, fs, st, (PostS.on p).mono fun xs ρ1 S1 H1 fs1 e1 st1 p1 vs fps r => ?_⟩
  cases hset : putsV ρ1 is xs with
  | none => rw [hset] at p1; exact p1.elim
  | some ρ2 =>
    rw [hset] at p1
    dsimp only at p1
    cases hk : okS R is with
    | false => rw [hk, if_neg Bool.false_ne_true] at p1; exact p1.elim
    | true =>
      rw [hk, if_pos rfl] at p1
      have hlen : vs.length = is.length := by rw [r.len, putsV_len hset]
      have hz2 := okS_of hm hk hz
      refine ⟨by rw [hlen, sizeLine_eq]; omega, fun q hq => ?_⟩
      have h2 : ∀ j, q ∉ fs1 j := fun j hj => by
        obtain ⟨u, hu⟩ := ((st1.slot j).at q hj).2
        rw [hq] at hu
        cases hu
      have st3 := st1.aside (o := .tup vs) (st1.sub.free hq) h2 (st1.ghost.free hq)
      have r3 : RVs X.K A E S1 (upd H1 q (.tup vs)) fs1 xs vs fps := RVs.keep (fun f hf a ha => by
        obtain ⟨z1, o, z2⟩ := RVs.at r f hf a ha
        refine ⟨z1, upd_ne fun z => ?_⟩
        rw [z, hq] at z2
        cases z2) r
      refine ⟨q, vs, rfl, SqT.of upd_same, hlen, ?_⟩
      exact gNms_okO st3 r3 hset hz2 fun σ1 fs2 st4 => PostS.nx p1 st4
end
end GW
end

section
/-! C14: an own term stands for an expression of the text: a check, and what it is good for. -/
namespace GW
open PySem PySem.Spec PyProof.Rows L2

/-! ### names -/
def visB (sc : Scope) (x : Str) : Bool := match sc.names.lookup x with
  | some .local => true
  | some .cell => true
  | some .free => true
  | _ => false
def locB (sc : Scope) (x : Str) : Bool := match sc.names.lookup x with
  | some .local => true
  | some .cell => true
  | _ => false
def lclB (sc : Scope) (x : Str) : Bool := match sc.names.lookup x with
  | some .local => true
  | _ => false
def gloB (sc : Scope) (x : Str) : Bool := match sc.names.lookup x with
  | some .globalImplicit => true
  | _ => false
theorem visB_ok {sc : Scope} {x : Str} (h : visB sc x = true) : Vis sc x := by
  unfold visB at h
  split at h <;> first | (exact .inl (by assumption)) | (exact .inr (.inl (by assumption))) | (exact .inr (.inr (by assumption))) | cases h
theorem locB_ok {sc : Scope} {x : Str} (h : locB sc x = true) : Loc sc x := by
  unfold locB at h
  split at h <;> first | (exact .inl (by assumption)) | (exact .inr (by assumption)) | cases h
theorem lclB_ok {sc : Scope} {x : Str} (h : lclB sc x = true) : sc.names.lookup x = some .local := by
  unfold lclB at h
  split at h <;> first | assumption | cases h
theorem gloB_ok {sc : Scope} {x : Str} (h : gloB sc x = true) : sc.names.lookup x = some .globalImplicit := by
  unfold gloB at h
  split at h <;> first | assumption | cases h
/-- a name that stands in slot i -/
def nameB (N : List Str) (sc : Scope) (i : Nat) : Expr → Bool
  | .Name x _ => decide (N[i]? = some x) && visB sc x && okN x
  | _ => false
/-- a name that is stored to -/
def namL (N : List Str) (sc : Scope) (i : Nat) : Expr → Bool
  | .Name x _ => decide (N[i]? = some x) && locB sc x
  | _ => false
def namsL (N : List Str) (sc : Scope) : List Nat → List Expr → Bool
  | [], [] => true
  | i :: is, e :: es => namL N sc i e && namsL N sc is es
  | _, _ => false
def tgB (N : List Str) (sc : Scope) : Tg → Expr → Bool
  | .nm i, e => namL N sc i e
  | .tp is, .Tuple es _ _ => namsL N sc is es
  | _, _ => false
/-- what goes through needs a tuple of targets -/
def tgFit : Px → Expr → Bool
  | .zip _ _, .Tuple _ _ _ => true
  | .zip _ _, _ => false
  | .enum _, .Tuple _ _ _ => true
  | .enum _, _ => false
  | _, _ => true
def notSet : Expr → Bool
  | .Set .. => false
  | _ => true
theorem folded_no {e : Expr} {env : PySem.Env} (h : notSet e = true) : ∀ x, foldedSetIterable e env x = pure x := by
  intro x
  cases e <;> first | rfl | cases h
def tyB (G : Prog) (sc : Scope) (t : Ty) (e : Expr) : Bool := match t with
  | .exc k => (match e with
    | .Name y _ => decide (G.excs[k]? = some y) && gloB sc y && okN y
    | _ => false)
  | t => (match e with
    | .Name y _ => decide (y = Str.ofString t.py) && gloB sc y
    | _ => false)

/-- slots with their names -/
def named (N : List Str) (own : List Nat) : List (Str × Nat) := own.map fun i => ((N[i]?).getD ("" : Str), i)
/-! ### the check -/
mutual
def chk (G : Prog) (N : List Str) : Px → Bool → Scope → Expr → Bool
  | .var i, _, sc, e => nameB N sc i e
  | .mov i, _, sc, e => nameB N sc i e
  | .int i, _, _, e => match e with
    | .Constant (.int j) _ _ => decide (j = i)
    | _ => false
  | .bl b, _, _, e => match e with
    | .Constant (.bool c) _ _ => decide (c = b)
    | _ => false
  | .non, _, _, e => match e with
    | .Constant .none _ _ => true
    | _ => false
  | .str s, _, _, e => match e with
    | .Constant (.str t) _ _ => decide (t = s)
    | _ => false
  | .glo g, _, sc, e => match e with
    | .Name x _ => gloB sc x && okN x && (match G.glos[g]? with
      | some (y, d) => decide (y = x) && (match D.dic? d with
        | none => true
        | some _ => false)
      | none => false)
    | _ => false
  | .tup es, _, sc, e => match e with
    | .Tuple xs _ _ => decide (es.length < 1000) && chks G N es sc xs
    | _ => false
  | .lst es, _, sc, e => match e with
    | .List xs _ => decide (es.length < 1000) && chks G N es sc xs
    | _ => false
  | .bin o a b, _, sc, e => match e with
    | .BinOp x p y _ => decide (p = o.py) && (chk G N a false sc x && chk G N b false sc y)
    | _ => false
  | .neg a, _, sc, e => match e with
    | .UnaryOp .USub x _ => chk G N a false sc x
    | _ => false
  | .cmp o a b, _, sc, e => match e with
    | .Compare x [p] [y] _ => decide (p = o.py) && !behindInMarks o.py y && (chk G N a false sc x && chk G N b false sc y)
    | _ => false
  | .chain o1 o2 a b c, _, sc, e => match e with
    | .Compare x [p, q] [y, z] _ => decide (p = o1.py) && (decide (q = o2.py) && (!lastMarks [o1.py, o2.py] [y, z] && (chk G N a false sc x && (chk G N b false sc y && chk G N c false sc z))))
    | _ => false
  | .conj es, _, sc, e => match e with
    | .BoolOp .And xs _ => !xs.isEmpty && chks G N es sc xs
    | _ => false
  | .disj es, _, sc, e => match e with
    | .BoolOp .Or xs _ => !xs.isEmpty && chks G N es sc xs
    | _ => false
  | .nt a, _, sc, e => match e with
    | .UnaryOp .Not x _ => chk G N a false sc x
    | _ => false
  | .ife t a b, _, sc, e => match e with
    | .IfExp z x y _ => chk G N t false sc z && (chk G N a false sc x && chk G N b false sc y)
    | _ => false
  | .ix a i, _, sc, e => match e with
    | .Subscript x y _ => notSlice y && (chk G N a false sc x && chk G N i false sc y)
    | _ => false
  | .gix g i, _, sc, e => match e with
    | .Subscript (.Name x _) y _ => notSlice y && gloB sc x && okN x && (match G.glos[g]? with
      | some (z, .dic _) => decide (z = x)
      | _ => false) && chk G N i false sc y
    | _ => false
  | .sl a lo hi, _, sc, e => match e with
    | .Subscript x (.Slice l h none _) _ => chk G N a false sc x && (chks G N lo sc l.toList && chks G N hi sc h.toList)
    | _ => false
  | .fz a, _, sc, e => chk G N a false sc e
  | .rev a, _, sc, e => match e with
    | .Subscript x (.Slice none none (some (.UnaryOp .USub (.Constant (.int 1) _ _) _)) _) _ => chk G N a false sc x
    | _ => false
  | .call f es, _, sc, e => match e with
    | .Call (.Name x _) xs [] _ => (match G.fns[f]? with
      | some F => !F.meth && decide (F.name = x) && decide (es.length = F.pars.length)
      | none => false) && okN x && gloB sc x && !xs.isEmpty && chks G N es sc xs
    | _ => false
  | .bi .sset es, _, sc, e => match e with
    | .Call (.Name f _) [.Call (.Name g _) [x] [] _] [] _ => decide (f = "sorted") && gloB sc f && decide (g = "set") && gloB sc g && decide (es.length = 1) && chks G N es sc [x]
    | _ => false
  | .bi b es, _, sc, e => match e with
    | .Call (.Name x _) xs [] _ => decide (x = b.py) && gloB sc x && !xs.isEmpty && chks G N es sc xs
    | _ => false
  | .isi a t, _, sc, e => match e with
    | .Call (.Name f _) [x, y] [] _ => decide (f = "isinstance") && gloB sc f && notStar x && tyB G sc t y && chk G N a false sc x
    | _ => false
  | .dct ks es, _, sc, e => match e with
    | .Dict keys vals _ => (ks.isEmpty && (es.isEmpty && (keys.isEmpty && vals.isEmpty))) || (keysB ks keys && decide (keys.length = vals.length) && !ks.isEmpty && decide (ks.length ≤ 15) && decide ks.Nodup && chks G N es sc vals)
    | _ => false
  | .mt .get a es, _, sc, e => match e with
    | .Call (.Attribute o nm apos) [x, y] [] pos => decide (nm = "get") && notCall o && (apos.endLine == pos.line) && decide (es.length = 2) && (chk G N a false sc o && chks G N es sc [x, y])
    | _ => false
  | .mt k a es, _, sc, e => match e with
    | .Call (.Attribute o nm apos) [x] [] pos => (match k with
      | .count => true
      | .index => true
      | _ => false) && decide (nm = k.py) && notCall o && (apos.endLine == pos.line) && decide (es.length = 1) && (chk G N a false sc o && chks G N es sc [x])
    | _ => false
  | .bop .len (.sl i) es, _, sc, e => match e with
    | .Call (.Name x _) [y] [] _ => decide (x = "len") && gloB sc x && nameB N sc i y && es.isEmpty
    | _ => false
  | .bop .ix (.sl i) es, _, sc, e => match e with
    | .Subscript x y _ => nameB N sc i x && notSlice y && decide (es.length = 1) && chks G N es sc [y]
    | _ => false
  | .bop .eq (.sl i) es, _, sc, e => match e with
    | .Compare x [p] [y] _ => decide (p = COp.eq.py) && nameB N sc i x && !behindInMarks COp.eq.py y && decide (es.length = 1) && chks G N es sc [y]
    | _ => false
  | .bop .ne (.sl i) es, _, sc, e => match e with
    | .Compare x [p] [y] _ => decide (p = COp.ne.py) && nameB N sc i x && !behindInMarks COp.ne.py y && decide (es.length = 1) && chks G N es sc [y]
    | _ => false
  | .bop .in_ (.sl i) es, _, sc, e => match e with
    | .Compare y [p] [x] _ => decide (p = COp.in_.py) && nameB N sc i x && decide (es.length = 1) && chks G N es sc [y]
    | _ => false
  | .bop .nin (.sl i) es, _, sc, e => match e with
    | .Compare y [p] [x] _ => decide (p = COp.nin.py) && nameB N sc i x && decide (es.length = 1) && chks G N es sc [y]
    | _ => false
  | .pop (.sl i), _, sc, e => match e with
    | .Call (.Attribute o nm apos) [] [] pos => decide (nm = "pop") && nameB N sc i o && (apos.endLine == pos.line)
    | _ => false
  | .rng es, it, sc, e => match e with
    | .Call (.Name x _) xs [] _ => it && decide (x = "range") && gloB sc x && (decide (xs.length = 1) || decide (xs.length = 2)) && chks G N es sc xs
    | _ => false
  | .zip a b, it, sc, e => match e with
    | .Call (.Name f _) [x, y] [] _ => it && decide (f = "zip") && gloB sc f && notStar x && notStar y && (chk G N a false sc x && chk G N b false sc y)
    | _ => false
  | .enum a, it, sc, e => match e with
    | .Call (.Name f _) [x] [] _ => it && decide (f = "enumerate") && gloB sc f && notStar x && chk G N a false sc x
    | _ => false
  | .lc own tg it cond el, _, sc, e => match e with
    | .ListComp elt [⟨t, iter, ifs, 0⟩] scope _ => blkC N sc scope (named N own) && tgB N scope tg t && tgFit it t && notSet iter && (tg.slots.all fun i => own.contains i) && decide (cond.length ≤ 1) &&
        (chk G N it true sc iter && (chks G N cond (relS scope sc) ifs && chk G N el false (relS scope sc) elt))
    | _ => false
  | _, _, _, _ => false
def chks (G : Prog) (N : List Str) : List Px → Scope → List Expr → Bool
  | [], _, xs => xs.isEmpty
  | p :: ps, sc, xs => match xs with
    | x :: xs => notStar x && chk G N p false sc x && chks G N ps sc xs
    | [] => false
end
end GW
end

section
/-! C15: what passed the check is good (expressions). -/
namespace GW
open PySem PySem.Spec PyProof.Rows L2

section
variable {X : Cx} {A : Cls} {W : WX} {e : Expr} {c c' : Code}
theorem PE.cg (h : PE X e (tO X.K A W c)) (q : ∀ ρ, c' ρ = c ρ) : PE X e (tO X.K A W c') := by
  have z : c' = c := funext q
  rw [z]
  exact h
theorem PT.cg {c c' : Env → Out Bool} (h : PT X e (tT X.K A W c)) (q : ∀ ρ, c' ρ = c ρ) : PT X e (tT X.K A W c') := by
  have z : c' = c := funext q
  rw [z]
  exact h
/-- a value and a test -/
structure Sd (X : Cx) (A : Cls) (W : WX) (e : Expr) (c : Code) : Prop where
  pe : PE X e (tO X.K A W c)
  pt : PT X e (tT X.K A W fun ρ => (c ρ).tob)
theorem Sd.cg (h : Sd X A W e c) (q : ∀ ρ, c' ρ = c ρ) : Sd X A W e c' := by
  have z : c' = c := funext q
  rw [z]
  exact h
theorem Sd.of (h : PE X e (tO X.K A W c)) (he : ∀ whole, isTrue e X.env whole = (do let v ← whole; standAt e.pos; holding [v] (truthy v))) : Sd X A W e c := ⟨h, pt_of h he⟩
theorem Sd.frz (h : Sd X A W e c) : PE X e (tX X.K A W fun ρ => (c ρ).frz) := h.pe.frz
end
/-- where a text stands -/
structure Cn (G : Prog) (A : Cls) (fa : Nat → Addr) (fd : Nat → FuncData) (call : Nat → D → List D → Res) (n : Nat) (N : List Str) (sc : Scope) (X : Cx) (W : WX) : Prop where
  c : Ctx G A fa fd call n X W
  hN : X.N = N
  hsc : X.env.scope = sc
section
variable {G : Prog} {A : Cls} {fa : Nat → Addr} {fd : Nat → FuncData} {call : Nat → D → List D → Res} {n : Nat} {N : List Str} {sc : Scope} {X : Cx} {W : WX} {e : Expr} {mt m : Bool}
theorem Cn.gl (C : Cn G A fa fd call n N sc X W) {x : Str} (h : gloB sc x = true) : Gl X x := by
  show X.env.scope.names.lookup x = _
  rw [C.hsc]
  exact gloB_ok h
theorem Cn.var (C : Cn G A fa fd call n N sc X W) {i : Nat} (h : nameB N sc i e = true) : ∃ x p, e = .Name x p ∧ PE X e (tVar i) := by
  unfold nameB at h
  split at h <;> first | cases h | skip
  rename_i x p
  simp only [Bool.and_eq_true, decide_eq_true_eq] at h
  refine ⟨x, p, rfl, pe_var (by rw [C.hN]; exact h.1.1) (by rw [C.hsc]; exact visB_ok h.1.2) (okN_dbg h.2) (okN_cls h.2)⟩
theorem Cn.units (C : Cn G A fa fd call n N sc X W) : X.A.units + 65 < cLine := by
  have := C.c.room.un
  omega
/-- into a comprehension's block -/
theorem Cn.blk (C : Cn G A fa fd call n N sc X W) {scope : Scope} {s : Shared} {H : Hp} {a : Addr} {cl : List (Str × Addr)} {fp : List Addr} : Cn G A fa fd call n N (relS scope sc) (X.blk s H scope (compEnvC scope cl a X.env) fp) (fun _ _ _ _ => False) :=
  ⟨⟨C.c.facts, C.c.fnok, C.c.room, C.c.calm, C.c.nd, takes0, PassesOwn.never⟩, C.hN, by rw [← C.hsc]; rfl⟩
theorem isd_name {x : Str} {p : Pos} (h : PE X (.Name x p) (tO X.K A W c)) : Sd X A W (.Name x p) c := .of h fun _ => rfl
theorem glo_ok (C : Cn G A fa fd call n N sc X W) {g : Nat} {y : Str} {d : D} {p : Pos} (h : G.glos[g]? = some (y, d)) (hd : D.dic? d = none) (hg : gloB sc y = true) (ho : okN y = true) : Sd X A W (.Name y p) (ev (G.rt call mt) m (.glo g)) := by
  obtain ⟨u, v, h1, h2, h3⟩ := C.c.facts.glo g y d h hd
  refine isd_name (PE.cg (c := fun ρ => .ok (d, false) ρ) (snd_plain (v := v) (pe_glob (C.gl hg) h1 h2 (okN_dbg ho)) fun S => Rep.mono (fun _ _ z => by cases z) _ _ h3) fun ρ => ?_)
  unfold ev
  have : (G.rt call mt).glob g = some d := by
    show (G.glos[g]?).map (·.2) = _
    rw [h]
    rfl
  rw [this]
theorem ty_ok (C : Cn G A fa fd call n N sc X W) {t : Ty} (h : tyB G sc t e = true) : ∃ x p c u, e = .Name x p ∧ PE X e (tC c) ∧ ClsT A t c u := by
  have key : ∀ t : Ty, (∀ k, t ≠ .exc k) → ∀ y p, decide (y = Str.ofString t.py) && gloB sc y → ∃ c u, PE X (.Name y p) (tC c) ∧ ClsT A t c u := fun t ht y p h => by
    simp only [Bool.and_eq_true, decide_eq_true_eq] at h
    obtain ⟨rfl, hg⟩ := h
    have hb : bootBuiltins (Str.ofString t.py) = some (.type t.py) := by
      cases t <;> first | (decide +kernel) | exact absurd rfl (ht _)
    have hm : Str.ofString t.py ∈ bnames := by
      cases t <;> first | (decide +kernel) | exact absurd rfl (ht _)
    have hn : Str.ofString t.py ≠ "__name__" := by
      cases t <;> first | (decide +kernel) | exact absurd rfl (ht _)
    have hd : (Str.ofString t.py == ("__debug__" : Str)) = false := by
      cases t <;> first | (decide +kernel) | exact absurd rfl (ht _)
    refine ⟨.ty t.py, .type t.py, pe_bltn (C.gl hg) (C.c.facts.blt _ hm) hb rfl hn hd, ?_⟩
    cases t <;> first | exact ⟨rfl, rfl⟩ | exact absurd rfl (ht _)
  unfold tyB at h
  split at h
  · rename_i k
    split at h <;> first | cases h | skip
    rename_i y p
    simp only [Bool.and_eq_true, decide_eq_true_eq] at h
    obtain ⟨⟨h1, h2⟩, h3⟩ := h
    obtain ⟨g1, _⟩ := C.c.facts.exc k y h1
    exact ⟨y, p, .ref (A.exc k), .ref (A.exc k), rfl, pe_glob (C.gl h2) g1 rfl (okN_dbg h3), rfl, rfl⟩
  · rename_i hne
    split at h <;> first | cases h | skip
    rename_i y p
    obtain ⟨c, u, h1, h2⟩ := key t (fun k hk => hne k hk) y p h
    exact ⟨y, p, c, u, rfl, h1, h2⟩
/-- a scope's own names are the block's -/
def OwnN (sc : Scope) (env : PySem.Env) : Prop := ∀ x k, sc.names.lookup x = some k → k ≠ .free → env.scope.names.lookup x = some k
theorem OwnN.loc {sc : Scope} {env : PySem.Env} (h : OwnN sc env) {x : Str} (hl : Loc sc x) : Loc env.scope x := hl.imp (fun z => h _ _ z (by decide)) (fun z => h _ _ z (by decide))
theorem relS_keep {scope sc : Scope} {x : Str} {k : NameKind} (hk : k ≠ .free) : ∀ {names : List (Str × NameKind)}, names.lookup x = some k → (names.map fun (n, k) => if (k == NameKind.free && sc.kind == .function && sc.names.lookup n == some .cell) then (n, NameKind.cell) else (n, k)).lookup x = some k
  | [], h => by cases h
  | (n, j) :: r, h => by
    have ih := @relS_keep scope sc x k hk r
    show List.lookup x ((if (j == NameKind.free && sc.kind == .function && sc.names.lookup n == some .cell) = true then (n, NameKind.cell) else (n, j)) :: _) = _
    by_cases e : x = n
    · subst e
      rw [List.lookup_cons_self] at h
      cases h
      have hj : (k == NameKind.free) = false := by
        cases k <;> first | rfl | exact absurd rfl hk
      rw [hj]
      simp
    · have hne : (x == n) = false := by simpa using e
      rw [List.lookup_cons, hne] at h
      split
      · rw [List.lookup_cons, hne]; exact ih h
      · rw [List.lookup_cons, hne]; exact ih h
theorem own_self {env : PySem.Env} (h : env.scope = sc) : OwnN sc env := fun x k hx _ => by rw [h]; exact hx
theorem own_blk {scope : Scope} {cl : List (Str × Addr)} {a : Addr} {env : PySem.Env} : OwnN scope (compEnvC scope cl a env) := fun x k hx hk => relS_keep (scope := scope) (sc := env.scope) hk hx
theorem tgB_slots : ∀ {is : List Nat} {es : List Expr}, namsL N sc is es = true → X.N = N → OwnN sc X.env → (∀ x, sc.names.lookup x = some .cell → X.fn x = true) → Nms X es is
  | [], [], _, _, _, _ => .nil
  | i :: is, e :: es, h, hN, hs, hf => by
    unfold namsL at h
    rw [Bool.and_eq_true] at h
    obtain ⟨h1, h2⟩ := h
    unfold namL at h1
    split at h1 <;> first | cases h1 | skip
    simp only [Bool.and_eq_true, decide_eq_true_eq] at h1
    have hl := locB_ok h1.2
    refine .cons (by rw [hN]; exact h1.1) (hs.loc hl) ?_ (tgB_slots h2 hN hs hf)
    rcases hl with hl | hl
    · right; exact hs _ _ hl (by decide)
    · left; exact hf _ hl
  | [], _ :: _, h, _, _, _ => by cases h
  | _ :: _, [], h, _, _, _ => by cases h
theorem tgB_ok {T : Tg} {tg : Expr} (h : tgB N sc T tg = true) (hc : X.calm = true) (nd : X.N.Nodup) (hN : X.N = N) (hs : OwnN sc X.env) (hf : ∀ x, sc.names.lookup x = some .cell → X.fn x = true) : PGok X A tg T := by
  unfold tgB at h
  split at h
  · rename_i i
    unfold namL at h
    split at h <;> first | cases h | skip
    simp only [Bool.and_eq_true, decide_eq_true_eq] at h
    have hl := locB_ok h.2
    refine pgok_nm nd (by rw [hN]; exact h.1) (hs.loc hl) ?_
    rcases hl with hl | hl
    · right; exact hs _ _ hl (by decide)
    · left; exact hf _ hl
  · exact pgok_tp hc nd (tgB_slots h hN hs hf)
  · cases h

/-- a test of a comprehension -/
theorem pts_of {es : List Expr} {cs : List Code} (h : Alls X A W es cs) (hl : cs.length ≤ 1) : PTs X es (tT X.K A W fun ρ => (andC cs ρ).tob) := by
  cases h with
  | nil =>
    refine ⟨fun pins s σ H Q I hw => pts_nil.run pins s σ H Q I ?_⟩
    obtain ⟨E, S, ρ, fs, st, p⟩ := hw
    exact Post.here (show Post X.K A W E S σ (Out.ok true ρ) _ from p) st
  | @cons e c es cs h1 h2 hs hr =>
    cases hr with
    | cons => simp at hl
    | nil =>
      refine pts_one (PT.cg h2 fun ρ => ?_)
      show (andC [c] ρ).tob = _
      unfold andC
      cases hc : c ρ with
      | ok x ρ =>
        obtain ⟨d, o⟩ := x
        cases d with
        | bl b => cases b <;> rfl
        | _ => rfl
      | _ => rfl
/-- the codes of a list -/
abbrev cds (G : Prog) (call : Nat → D → List D → Res) (mt m : Bool) (es : List Px) : List Code := es.map (ev (G.rt call mt) m)
theorem iter_of {p : Px} (h : (match p with | .rng _ => true | .zip _ _ => true | .enum _ => true | _ => false) = false) : chk G N p true sc e = chk G N p false sc e := by
  cases p with
  | bop o q es => cases o <;> cases q <;> rfl
  | pop q => cases q <;> rfl
  | mt k a es => cases k <;> rfl
  | bi k es => cases k <;> rfl
  | _ => first | rfl | cases h
theorem parts_of {o : Option Expr} {cs : List Code} (h : Alls X A W o.toList cs) : Parts X A W o cs := by
  cases o with
  | none =>
    cases h
    exact .none
  | some e =>
    cases h with
    | cons h1 _ _ hr =>
      cases hr
      exact .some h1
end
end GW
end

section
/-! C16: what passed the check is good: expressions, form by form. -/
namespace GW
open PySem PySem.Spec PyProof.Rows L2 RZ

section
variable (G : Prog) (A : Cls) (fa : Nat → Addr) (fd : Nat → FuncData) (call : Nat → D → List D → Res) (n : Nat) (N : List Str) (mt : Bool)
def P1 (p : Px) : Prop := ∀ (m : Bool) (X : Cx) (W : WX) (sc : Scope) (e : Expr), Cn G A fa fd call n N sc X W → chk G N p false sc e = true → Sd X A W e (ev (G.rt call mt) m p)
def P2 (p : Px) : Prop := ∀ (m : Bool) (X : Cx) (W : WX) (sc : Scope) (e tg : Expr), Cn G A fa fd call n N sc X W → chk G N p true sc e = true → tgFit p tg = true →
  PI X tg e (tI X.K A W fun ρ => (ev (G.rt call mt) m p ρ).frz.bind fun x ρ => Out.of (itemsv x) ρ)
def PL (es : List Px) : Prop := ∀ (m : Bool) (X : Cx) (W : WX) (sc : Scope) (xs : List Expr), Cn G A fa fd call n N sc X W → chks G N es sc xs = true → Alls X A W xs (cds G call mt m es)
end
section
variable {G : Prog} {A : Cls} {fa : Nat → Addr} {fd : Nat → FuncData} {call : Nat → D → List D → Res} {n : Nat} {N : List Str} {mt : Bool}
theorem s_var (i : Nat) : P1 G A fa fd call n N mt (.var i) := fun m X W sc e C h => by
  unfold chk at h
  obtain ⟨x, p, rfl, h1⟩ := C.var h
  exact isd_name (snd_var h1)
theorem s_mov (i : Nat) : P1 G A fa fd call n N mt (.mov i) := fun m X W sc e C h => by
  unfold chk at h
  obtain ⟨x, p, rfl, h1⟩ := C.var h
  exact isd_name (snd_mov h1)
theorem s_int (i : Int) : P1 G A fa fd call n N mt (.int i) := fun m X W sc e C h => by
  unfold chk at h
  split at h <;> first | cases h | skip
  rw [decide_eq_true_eq] at h
  subst h
  exact Sd.cg (Sd.of (snd_plain pe_int fun S => Rep.int _) fun _ => rfl) fun ρ => by (conv => lhs; unfold ev) <;> rfl
theorem s_bl (b : Bool) : P1 G A fa fd call n N mt (.bl b) := fun m X W sc e C h => by
  unfold chk at h
  split at h <;> first | cases h | skip
  rw [decide_eq_true_eq] at h
  subst h
  exact Sd.cg (Sd.of (snd_plain pe_bl fun S => Rep.bl _) fun _ => rfl) fun ρ => by (conv => lhs; unfold ev) <;> rfl
theorem s_non : P1 G A fa fd call n N mt .non := fun m X W sc e C h => by
  unfold chk at h
  split at h <;> first | cases h | skip
  exact Sd.cg (Sd.of (snd_plain pe_non fun S => Rep.non) fun _ => rfl) fun ρ => by (conv => lhs; unfold ev) <;> rfl
theorem s_str (s : Str) : P1 G A fa fd call n N mt (.str s) := fun m X W sc e C h => by
  unfold chk at h
  split at h <;> first | cases h | skip
  rw [decide_eq_true_eq] at h
  subst h
  exact Sd.cg (Sd.of (snd_plain pe_str fun S => Rep.str _) fun _ => rfl) fun ρ => by (conv => lhs; unfold ev) <;> rfl
theorem s_glo (g : Nat) : P1 G A fa fd call n N mt (.glo g) := fun m X W sc e C h => by
  unfold chk at h
  split at h <;> first | cases h | skip
  simp only [Bool.and_eq_true] at h
  obtain ⟨⟨h1, h2⟩, h3⟩ := h
  split at h3 <;> first | cases h3 | skip
  rename_i y d hg
  rw [Bool.and_eq_true, decide_eq_true_eq] at h3
  obtain ⟨rfl, h4⟩ := h3
  cases hd : D.dic? d with
  | none => exact glo_ok C hg hd h1 h2
  | some _ => rw [hd] at h4; cases h4
theorem cds_len {m : Bool} {es : List Px} : (cds G call mt m es).length = es.length := List.length_map ..
theorem s_tup {es : List Px} (ih : PL G A fa fd call n N mt es) : P1 G A fa fd call n N mt (.tup es) := fun m X W sc e C h => by
  unfold chk at h
  split at h <;> first | cases h | skip
  rw [Bool.and_eq_true, decide_eq_true_eq] at h
  exact Sd.cg (Sd.of (snd_tup (ih m X W sc _ C h.2) (by rw [cds_len]; exact h.1)) fun _ => rfl) fun ρ => by (conv => lhs; unfold ev; simp only [evs_C]) <;> rfl
theorem s_lst {es : List Px} (ih : PL G A fa fd call n N mt es) : P1 G A fa fd call n N mt (.lst es) := fun m X W sc e C h => by
  unfold chk at h
  split at h <;> first | cases h | skip
  rw [Bool.and_eq_true, decide_eq_true_eq] at h
  exact Sd.cg (Sd.of (snd_lst (ih m X W sc _ C h.2) (by rw [cds_len]; exact h.1)) fun _ => rfl) fun ρ => by (conv => lhs; unfold ev; simp only [evs_C]) <;> rfl
theorem s_bin {o : BOp} {a b : Px} (ha : P1 G A fa fd call n N mt a) (hb : P1 G A fa fd call n N mt b) : P1 G A fa fd call n N mt (.bin o a b) := fun m X W sc e C h => by
  unfold chk at h
  split at h <;> first | cases h | skip
  simp only [Bool.and_eq_true, decide_eq_true_eq] at h
  obtain ⟨rfl, h1, h2⟩ := h
  exact Sd.cg (Sd.of (snd_bin o (ha m X W sc _ C h1).frz (hb m X W sc _ C h2).frz) fun _ => rfl) fun ρ => by (conv => lhs; unfold ev) <;> rfl
theorem s_neg {a : Px} (ha : P1 G A fa fd call n N mt a) : P1 G A fa fd call n N mt (.neg a) := fun m X W sc e C h => by
  unfold chk at h
  split at h <;> first | cases h | skip
  exact Sd.cg (Sd.of (snd_neg (ha m X W sc _ C h).pe) fun _ => rfl) fun ρ => by (conv => lhs; unfold ev) <;> rfl
theorem s_cmp {o : COp} {a b : Px} (ha : P1 G A fa fd call n N mt a) (hb : P1 G A fa fd call n N mt b) : P1 G A fa fd call n N mt (.cmp o a b) := fun m X W sc e C h => by
  unfold chk at h
  split at h <;> first | cases h | skip
  simp only [Bool.and_eq_true, Bool.not_eq_true', decide_eq_true_eq] at h
  obtain ⟨⟨rfl, hm⟩, h1, h2⟩ := h
  refine Sd.cg (c := fun ρ => (ev (G.rt call mt) m a ρ).frz.bind fun x ρ => (ev (G.rt call mt) m b ρ).frz.bind fun y ρ => (Out.of (cmpv o x y) ρ).bind fun d ρ => .ok (.bl d, false) ρ) ⟨snd_cmp C.units o hm (ha m X W sc _ C h1).frz (hb m X W sc _ C h2).frz, ?_⟩ fun ρ => by (conv => lhs; unfold ev) <;> rfl
  exact PT.cg (snd_cmpT C.units o hm (ha m X W sc _ C h1).frz (hb m X W sc _ C h2).frz) fun ρ => tob_cmp (ca := fun ρ => (ev (G.rt call mt) m a ρ).frz) (cb := fun ρ => (ev (G.rt call mt) m b ρ).frz)
theorem s_chain {o1 o2 : COp} {a b c : Px} (ha : P1 G A fa fd call n N mt a) (hb : P1 G A fa fd call n N mt b) (hc : P1 G A fa fd call n N mt c) : P1 G A fa fd call n N mt (.chain o1 o2 a b c) := fun m X W sc e C h => by
  unfold chk at h
  split at h <;> first | cases h | skip
  simp only [Bool.and_eq_true, Bool.not_eq_true', decide_eq_true_eq] at h
  obtain ⟨rfl, rfl, hm, h1, h2, h3⟩ := h
  exact Sd.cg (c := chainC o1 o2 (fun ρ => (ev (G.rt call mt) m a ρ).frz) (fun ρ => (ev (G.rt call mt) m b ρ).frz) (fun ρ => (ev (G.rt call mt) m c ρ).frz))
    ⟨snd_chain C.units o1 o2 hm (ha m X W sc _ C h1).frz (hb m X W sc _ C h2).frz (hc m X W sc _ C h3).frz, snd_chainT C.units o1 o2 hm (ha m X W sc _ C h1).frz (hb m X W sc _ C h2).frz (hc m X W sc _ C h3).frz⟩ fun ρ => by (conv => lhs; unfold ev) <;> rfl
theorem ne_of {xs : List Expr} (h : (!xs.isEmpty) = true) : xs ≠ [] := by
  rintro rfl
  cases h
theorem s_conj {es : List Px} (ih : PL G A fa fd call n N mt es) : P1 G A fa fd call n N mt (.conj es) := fun m X W sc e C h => by
  unfold chk at h
  split at h <;> first | cases h | skip
  rw [Bool.and_eq_true] at h
  have al := ih m X W sc _ C h.2
  exact Sd.cg ⟨and_pe al (ne_of h.1), (and_pw al (ne_of h.1)).pt⟩ fun ρ => by (conv => lhs; unfold ev; simp only [evAnd_C]) <;> rfl
theorem s_disj {es : List Px} (ih : PL G A fa fd call n N mt es) : P1 G A fa fd call n N mt (.disj es) := fun m X W sc e C h => by
  unfold chk at h
  split at h <;> first | cases h | skip
  rw [Bool.and_eq_true] at h
  have al := ih m X W sc _ C h.2
  exact Sd.cg ⟨or_pe al (ne_of h.1), (or_pw al (ne_of h.1)).pt⟩ fun ρ => by (conv => lhs; unfold ev; simp only [evOr_C]) <;> rfl
theorem s_nt {a : Px} (ha : P1 G A fa fd call n N mt a) : P1 G A fa fd call n N mt (.nt a) := fun m X W sc e C h => by
  unfold chk at h
  split at h <;> first | cases h | skip
  have s := ha m X W sc _ C h
  refine Sd.cg (c := fun ρ => (ev (G.rt call mt) m a ρ).bind fun x ρ => match x.1 with
    | .bl b => .ok (.bl (!b), false) ρ
    | _ => .bad) ⟨snd_ntE s.pe, PT.cg (snd_nt s.pt) fun ρ => tob_nt⟩ fun ρ => by (conv => lhs; unfold ev) <;> rfl
theorem s_ife {t a b : Px} (ht : P1 G A fa fd call n N mt t) (ha : P1 G A fa fd call n N mt a) (hb : P1 G A fa fd call n N mt b) : P1 G A fa fd call n N mt (.ife t a b) := fun m X W sc e C h => by
  unfold chk at h
  split at h <;> first | cases h | skip
  simp only [Bool.and_eq_true] at h
  have st := ht m X W sc _ C h.1
  have sa := ha m X W sc _ C h.2.1
  have sb := hb m X W sc _ C h.2.2
  exact Sd.cg ⟨snd_ife st.pt sa.pe sb.pe, snd_ifeT st.pt sa.pt sb.pt⟩ fun ρ => by (conv => lhs; unfold ev) <;> rfl
theorem s_ix {a i : Px} (ha : P1 G A fa fd call n N mt a) (hi : P1 G A fa fd call n N mt i) : P1 G A fa fd call n N mt (.ix a i) := fun m X W sc e C h => by
  unfold chk at h
  split at h <;> first | cases h | skip
  simp only [Bool.and_eq_true] at h
  exact Sd.cg (Sd.of (snd_ix C.units (ha m X W sc _ C h.2.1).frz (hi m X W sc _ C h.2.2).frz h.1) fun _ => rfl) fun ρ => by (conv => lhs; unfold ev) <;> rfl
theorem snd_gix {X : Cx} {W : WX} {b : Expr} {x : Str} {p pos : Pos} {cb : Env → Out D} {g : Nat} {kvs : List (Str × D)} (C : Ctx G A fa fd call n X W) (hg : G.glos[g]? = some (x, .dic kvs)) (hx : Gl X x) (ho : okN x = true) (hb : PE X b (tX X.K A W cb)) (hs : notSlice b = true) :
    PE X (.Subscript (.Name x p) b pos) (tO X.K A W fun ρ => (cb ρ).bind fun y ρ => (Out.of (dixv (.dic kvs) y) ρ).bind fun d ρ => .ok (d, false) ρ) := by
  obtain ⟨a, h1, h2⟩ := C.facts.dic g x kvs hg
  refine (pe_ix ix_kdict (pe_glob (v := .ref a) hx h1 rfl (okN_dbg ho)) hb (plainIx hs)).imp fun σ H Q hw => ?_
  obtain ⟨E, S, ρ, fs, st, q⟩ := hw
  refine ⟨E, S, ρ, fs, st, (Post.bind q).mono fun dy ρ1 S1 H1 fs1 e1 st1 p1 y ry => ?_⟩
  cases dy with
  | str k =>
    cases ry.str_inv
    cases hl : kvs.lookup k with
    | none =>
      unfold dixv at p1
      dsimp only at p1
      rw [hl] at p1
      exact p1.elim
    | some d =>
      unfold dixv at p1
      dsimp only at p1
      rw [hl] at p1
      obtain ⟨v, k1, k2⟩ := h2 k d hl
      exact ⟨a, k, v, rfl, rfl, k1, Post.here (show Post X.K A W E S1 σ (Out.ok (d, false) ρ1) _ from p1) st1 v [] (RV.plain (Rep.mono (fun _ _ z => by cases z) _ _ k2)) Apart.nil⟩
  | _ => exact (show False from p1).elim
theorem s_gix {g : Nat} {i : Px} (hi : P1 G A fa fd call n N mt i) : P1 G A fa fd call n N mt (.gix g i) := fun m X W sc e C h => by
  unfold chk at h
  split at h <;> first | cases h | skip
  simp only [Bool.and_eq_true] at h
  obtain ⟨⟨⟨⟨h1, h2⟩, h3⟩, h4⟩, h5⟩ := h
  split at h4 <;> first | cases h4 | skip
  rename_i z kvs hg
  cases of_decide_eq_true h4
  refine Sd.cg (Sd.of (snd_gix C.c hg (C.gl h2) h3 (hi m X W sc _ C h5).frz h1) fun _ => rfl) fun ρ => ?_
  conv => lhs; unfold ev
  have hr : (G.rt call mt).glob g = some (.dic kvs) := by
    show (G.glos[g]?).map (·.2) = _
    rw [hg]
    rfl
  simp only [hr]
theorem s_sl {a : Px} {lo hi : List Px} (ha : P1 G A fa fd call n N mt a) (hl : PL G A fa fd call n N mt lo) (hh : PL G A fa fd call n N mt hi) : P1 G A fa fd call n N mt (.sl a lo hi) := fun m X W sc e C h => by
  unfold chk at h
  split at h <;> first | cases h | skip
  simp only [Bool.and_eq_true] at h
  exact Sd.cg (Sd.of (snd_sl (ha m X W sc _ C h.1).frz (parts_of (hl m X W sc _ C h.2.1)) (parts_of (hh m X W sc _ C h.2.2))) fun _ => rfl) fun ρ => by (conv => lhs; unfold ev; simp only [evs_C]) <;> rfl
theorem tob_fz (o : Out (D × Bool)) : ((o.frz).bind fun x ρ => (.ok (x, false) ρ : Out (D × Bool))).tob = o.tob := by
  cases o with
  | ok x ρ =>
    obtain ⟨d, o⟩ := x
    unfold Out.frz
    dsimp only
    cases d <;> cases o <;> rfl
  | exn c ρ => rfl
  | bad => rfl
theorem s_fz {a : Px} (ha : P1 G A fa fd call n N mt a) : P1 G A fa fd call n N mt (.fz a) := fun m X W sc e C h => by
  unfold chk at h
  have s := ha m X W sc _ C h
  refine Sd.cg (c := fun ρ => (ev (G.rt call mt) m a ρ).frz.bind fun x ρ => .ok (x, false) ρ) ⟨s.pe.frz.imp fun σ H Q hw => ?_, PT.cg s.pt fun ρ => tob_fz _⟩ fun ρ => by (conv => lhs; unfold ev) <;> rfl
  obtain ⟨E, S, ρ, fs, st, p⟩ := hw
  exact ⟨E, S, ρ, fs, st, (Post.bind p).mono fun d ρ1 S1 H1 fs1 e1 st1 p1 v r => Post.here p1 st1 v [] (RV.plain r) Apart.nil⟩
theorem s_rev {a : Px} (ha : P1 G A fa fd call n N mt a) : P1 G A fa fd call n N mt (.rev a) := fun m X W sc e C h => by
  unfold chk at h
  split at h <;> first | cases h | skip
  exact Sd.cg (Sd.of (snd_rev (ha m X W sc _ C h).frz) fun _ => rfl) fun ρ => by (conv => lhs; unfold ev) <;> rfl
theorem s_call {f : Nat} {es : List Px} (ih : PL G A fa fd call n N mt es) : P1 G A fa fd call n N mt (.call f es) := fun m X W sc e C h => by
  unfold chk at h
  split at h <;> first | cases h | skip
  simp only [Bool.and_eq_true] at h
  obtain ⟨⟨⟨⟨h1, h2⟩, h3⟩, h4⟩, h5⟩ := h
  split at h1 <;> first | cases h1 | skip
  rename_i F hF
  simp only [Bool.and_eq_true, Bool.not_eq_true', decide_eq_true_eq] at h1
  obtain ⟨⟨g1, rfl⟩, g3⟩ := h1
  exact Sd.cg (Sd.of (snd_call C.c hF g1 h2 (C.gl h3) (by rw [cds_len]; exact g3) (ne_of h4) (ih m X W sc _ C h5)) fun _ => rfl) fun ρ => by (conv => lhs; unfold ev; simp only [evs_C]) <;> rfl
theorem one_of {X : Cx} {W : WX} {x : Expr} {es : List Px} {m : Bool} (hl : es.length = 1) (h : Alls X A W [x] (cds G call mt m es)) : ∃ p, es = [p] ∧ PE X x (tO X.K A W (ev (G.rt call mt) m p)) ∧ notStar x = true := by
  match es, hl, h with
  | [p], _, .cons h1 _ hs _ => exact ⟨p, rfl, h1, hs⟩
theorem s_bi {b : Bi} {es : List Px} (ih : PL G A fa fd call n N mt es) : P1 G A fa fd call n N mt (.bi b es) := fun m X W sc e C h => by
  by_cases hb : b = .sset
  · subst hb
    unfold chk at h
    split at h <;> first | cases h | skip
    simp only [Bool.and_eq_true, decide_eq_true_eq] at h
    obtain ⟨⟨⟨⟨⟨rfl, h2⟩, rfl⟩, h4⟩, h5⟩, h6⟩ := h
    have al := ih m X W sc _ C h6
    obtain ⟨p, rfl, g1, g2⟩ := one_of h5 al
    exact Sd.cg (Sd.of (snd_srs C.c (C.gl h2) (C.gl h4) al) fun _ => rfl) fun ρ => by (conv => lhs; unfold ev; simp only [evs_C]) <;> rfl
  · have old : (match (generalizing := false) e with
      | .Call (.Name x _) xs [] _ => decide (x = b.py) && gloB sc x && !xs.isEmpty && chks G N es sc xs
      | _ => false) = true := by
      cases b <;> first | exact absurd rfl hb | (unfold chk at h; exact h)
    clear h
    split at old <;> first | cases old | skip
    simp only [Bool.and_eq_true, decide_eq_true_eq] at old
    obtain ⟨⟨⟨rfl, h3⟩, h4⟩, h5⟩ := old
    exact Sd.cg (Sd.of (snd_bi C.c b hb (C.gl h3) (ne_of h4) (ih m X W sc _ C h5)) fun _ => rfl) fun ρ => by (conv => lhs; unfold ev; simp only [evs_C]) <;> rfl
theorem s_isi {a : Px} {t : Ty} (ha : P1 G A fa fd call n N mt a) : P1 G A fa fd call n N mt (.isi a t) := fun m X W sc e C h => by
  unfold chk at h
  split at h <;> first | cases h | skip
  simp only [Bool.and_eq_true, decide_eq_true_eq] at h
  obtain ⟨⟨⟨⟨rfl, h3⟩, h4⟩, h5⟩, h6⟩ := h
  obtain ⟨y, p, c, u, rfl, g1, g2⟩ := ty_ok C h5
  exact Sd.cg (Sd.of (snd_isi C.c t (C.gl h3) h4 (ha m X W sc _ C h6).frz g1 g2) fun _ => rfl) fun ρ => by (conv => lhs; unfold ev) <;> rfl
theorem two_of {X : Cx} {W : WX} {m : Bool} {es : List Px} {x y : Expr} (hl : es.length = 2) (h : Alls X A W [x, y] (cds G call mt m es)) : ∃ p q, es = [p, q] ∧ PE X x (tO X.K A W (ev (G.rt call mt) m p)) ∧ notStar x = true ∧ PE X y (tO X.K A W (ev (G.rt call mt) m q)) ∧ notStar y = true := by
  match es, hl, h with
  | [p, q], _, h =>
    cases h with
    | cons h1 _ s1 hr =>
      cases hr with
      | cons h2 _ s2 _ => exact ⟨p, q, rfl, h1, s1, h2, s2⟩
theorem s_dct {ks : List Str} {es : List Px} (ih : PL G A fa fd call n N mt es) : P1 G A fa fd call n N mt (.dct ks es) := fun m X W sc e C h => by
  unfold chk at h
  split at h <;> first | cases h | skip
  rw [Bool.or_eq_true] at h
  rcases h with h | h
  · simp only [Bool.and_eq_true, List.isEmpty_iff] at h
    obtain ⟨rfl, rfl, rfl, rfl⟩ := h
    exact Sd.cg (Sd.of snd_dct0 fun _ => rfl) fun ρ => by (conv => lhs; unfold ev; simp only [evs_C]) <;> rfl
  simp only [Bool.and_eq_true, decide_eq_true_eq, Bool.not_eq_true'] at h
  obtain ⟨⟨⟨⟨⟨h1, h2⟩, h3⟩, h4⟩, h5⟩, h6⟩ := h
  have h0 : ks ≠ [] := fun z => by rw [z] at h3; cases h3
  exact Sd.cg (Sd.of (snd_dct (ih m X W sc _ C h6) h1 h2 h0 h4 h5) fun _ => rfl) fun ρ => by (conv => lhs; unfold ev; simp only [evs_C]) <;> rfl
theorem s_mt {k : Mt} {a : Px} {es : List Px} (ha : P1 G A fa fd call n N mt a) (ih : PL G A fa fd call n N mt es) : P1 G A fa fd call n N mt (.mt k a es) := fun m X W sc e C h => by
  have old : (k = .count ∨ k = .index) → Sd X A W e (ev (G.rt call mt) m (.mt k a es)) := fun hk' => by
    rcases hk' with rfl | rfl
    · unfold chk at h
      split at h <;> first | cases h | skip
      simp only [Bool.and_eq_true, decide_eq_true_eq] at h
      obtain ⟨⟨⟨⟨⟨hk, rfl⟩, h3⟩, h4⟩, h5⟩, h6, h7⟩ := h
      obtain ⟨p, rfl, g1, g2⟩ := one_of h5 (ih m X W sc _ C h7)
      exact Sd.cg (Sd.of (snd_mtL (.inl rfl) C.units h3 h4 g2 (ha m X W sc _ C h6).pe g1) fun _ => rfl) fun ρ => by (conv => lhs; unfold ev; simp only [evs_C]) <;> rfl
    · unfold chk at h
      split at h <;> first | cases h | skip
      simp only [Bool.and_eq_true, decide_eq_true_eq] at h
      obtain ⟨⟨⟨⟨⟨hk, rfl⟩, h3⟩, h4⟩, h5⟩, h6, h7⟩ := h
      obtain ⟨p, rfl, g1, g2⟩ := one_of h5 (ih m X W sc _ C h7)
      exact Sd.cg (Sd.of (snd_mtL (.inr rfl) C.units h3 h4 g2 (ha m X W sc _ C h6).pe g1) fun _ => rfl) fun ρ => by (conv => lhs; unfold ev; simp only [evs_C]) <;> rfl
  cases k with
  | count => exact old (.inl rfl)
  | index => exact old (.inr rfl)
  | get =>
    unfold chk at h
    split at h <;> first | cases h | skip
    simp only [Bool.and_eq_true, decide_eq_true_eq] at h
    obtain ⟨⟨⟨⟨rfl, h3⟩, h4⟩, h5⟩, h6, h7⟩ := h
    obtain ⟨p, q, rfl, g1, s1, g2, s2⟩ := two_of h5 (ih m X W sc _ C h7)
    exact Sd.cg (Sd.of (snd_get C.units h3 h4 s1 s2 (ha m X W sc _ C h6).pe g1 g2) fun _ => rfl) fun ρ => by (conv => lhs; unfold ev; simp only [evs_C]) <;> rfl
  | join => unfold chk at h; split at h <;> first | cases h | simp at h
  | split => unfold chk at h; split at h <;> first | cases h | simp at h
  | partition => unfold chk at h; split at h <;> first | cases h | simp at h
  | items => unfold chk at h; split at h <;> first | cases h | simp at h
theorem ev_bop {R : Rt} {m : Bool} {o : Bo} {i : Nat} {es : List Px} {ρ : Env} : ev R m (.bop o (.sl i) es) ρ = bopC o i (es.map (ev R m)) ρ := by
  unfold ev bopC
  simp only [evs_C]
  first
    | done
    | (cases peek ρ (.sl i) <;> rfl)
theorem s_bop {o : Bo} {q : Pl} {es : List Px} (ih : PL G A fa fd call n N mt es) : P1 G A fa fd call n N mt (.bop o q es) := fun m X W sc e C h => by
  cases q with
  | fld i f => cases o <;> (unfold chk at h; cases h)
  | sl i =>
    cases o with
    | len =>
      unfold chk at h
      split at h <;> first | cases h | skip
      simp only [Bool.and_eq_true, decide_eq_true_eq] at h
      obtain ⟨⟨⟨rfl, h2⟩, h3⟩, h4⟩ := h
      obtain ⟨x, p, rfl, g1⟩ := C.var h3
      cases es with
      | cons _ _ => cases h4
      | nil => exact Sd.cg (Sd.of (snd_blen C.c (C.gl h2) g1) fun _ => rfl) fun ρ => ev_bop
    | ix =>
      unfold chk at h
      split at h <;> first | cases h | skip
      simp only [Bool.and_eq_true, decide_eq_true_eq] at h
      obtain ⟨⟨⟨h1, h2⟩, h3⟩, h4⟩ := h
      obtain ⟨x, p, rfl, g1⟩ := C.var h1
      obtain ⟨p, rfl, g2, _⟩ := one_of h3 (ih m X W sc _ C h4)
      exact Sd.cg (Sd.of (snd_bix g1 g2 h2) fun _ => rfl) fun ρ => ev_bop
    | eq =>
      unfold chk at h
      split at h <;> first | cases h | skip
      simp only [Bool.and_eq_true, Bool.not_eq_true', decide_eq_true_eq] at h
      obtain ⟨⟨⟨⟨rfl, h1⟩, h2⟩, h3⟩, h4⟩ := h
      obtain ⟨x, p, rfl, g1⟩ := C.var h1
      obtain ⟨p, rfl, g2, _⟩ := one_of h3 (ih m X W sc _ C h4)
      exact Sd.cg ⟨(snd_bcmp (o := .eq) (k := .eq) C.units rfl h2 g1 g2).1, (snd_bcmp (o := .eq) (k := .eq) C.units rfl h2 g1 g2).2⟩ fun ρ => ev_bop
    | ne =>
      unfold chk at h
      split at h <;> first | cases h | skip
      simp only [Bool.and_eq_true, Bool.not_eq_true', decide_eq_true_eq] at h
      obtain ⟨⟨⟨⟨rfl, h1⟩, h2⟩, h3⟩, h4⟩ := h
      obtain ⟨x, p, rfl, g1⟩ := C.var h1
      obtain ⟨p, rfl, g2, _⟩ := one_of h3 (ih m X W sc _ C h4)
      exact Sd.cg ⟨(snd_bcmp (o := .ne) (k := .ne) C.units rfl h2 g1 g2).1, (snd_bcmp (o := .ne) (k := .ne) C.units rfl h2 g1 g2).2⟩ fun ρ => ev_bop
    | in_ =>
      unfold chk at h
      split at h <;> first | cases h | skip
      simp only [Bool.and_eq_true, decide_eq_true_eq] at h
      obtain ⟨⟨⟨rfl, h1⟩, h3⟩, h4⟩ := h
      obtain ⟨x, p, rfl, g1⟩ := C.var h1
      obtain ⟨p, rfl, g2, _⟩ := one_of h3 (ih m X W sc _ C h4)
      exact Sd.cg ⟨(snd_bin_ (o := .in_) (k := .in_) C.units rfl g1 g2).1, (snd_bin_ (o := .in_) (k := .in_) C.units rfl g1 g2).2⟩ fun ρ => ev_bop
    | nin =>
      unfold chk at h
      split at h <;> first | cases h | skip
      simp only [Bool.and_eq_true, decide_eq_true_eq] at h
      obtain ⟨⟨⟨rfl, h1⟩, h3⟩, h4⟩ := h
      obtain ⟨x, p, rfl, g1⟩ := C.var h1
      obtain ⟨p, rfl, g2, _⟩ := one_of h3 (ih m X W sc _ C h4)
      exact Sd.cg ⟨(snd_bin_ (o := .nin) (k := .nin) C.units rfl g1 g2).1, (snd_bin_ (o := .nin) (k := .nin) C.units rfl g1 g2).2⟩ fun ρ => ev_bop
    | _ => unfold chk at h; cases h
theorem s_pop {q : Pl} : P1 G A fa fd call n N mt (.pop q) := fun m X W sc e C h => by
  cases q with
  | sl i =>
    unfold chk at h
    split at h <;> first | cases h | skip
    simp only [Bool.and_eq_true, decide_eq_true_eq] at h
    obtain ⟨⟨rfl, h1⟩, h2⟩ := h
    obtain ⟨x, p, rfl, g1⟩ := C.var h1
    cases m with
    | false => exact Sd.cg (Sd.of (snd_pop g1 h2) fun _ => rfl) fun ρ => by (conv => lhs; unfold ev) <;> rfl
    | true =>
      refine Sd.of (PE.imp (snd_pop (A := A) (W := W) g1 h2) fun σ H Q hw => ?_) fun _ => rfl
      obtain ⟨E, S, ρ, fs, st, p⟩ := hw
      unfold ev at p
      rw [if_pos rfl] at p
      exact p.elim
  | fld _ _ => unfold chk at h; cases h
/-! ### what is gone through -/
def iterPx : Px → Bool
  | .rng _ => true
  | .zip _ _ => true
  | .enum _ => true
  | _ => false
theorem i_of {p : Px} (hp : iterPx p = false) (h1 : P1 G A fa fd call n N mt p) : P2 G A fa fd call n N mt p := fun m X W sc e tg C h _ => by
  have h' : chk G N p false sc e = true := by
    rw [← iter_of (p := p)]
    · exact h
    · cases p <;> first | rfl | cases hp
  exact pi_of (h1 m X W sc e C h').frz
theorem i_rng {es : List Px} (ih : PL G A fa fd call n N mt es) : P2 G A fa fd call n N mt (.rng es) := fun m X W sc e tg C h _ => by
  unfold chk at h
  split at h <;> first | cases h | skip
  simp only [Bool.and_eq_true, Bool.or_eq_true, Bool.true_and, decide_eq_true_eq] at h
  obtain ⟨⟨⟨rfl, h2⟩, h3⟩, h4⟩ := h
  refine PI.imp (pi_rng C.c (C.gl h2) (ih m X W sc _ C h4) h3) fun σ H R hw => ?_
  have z : (fun ρ => (ev (G.rt call mt) m (.rng es) ρ).frz.bind fun x ρ => Out.of (itemsv x) ρ) = fun ρ => (evsC (cds G call mt m es) ρ).bind fun ds ρ => Out.of (rngv ds) ρ := by
    funext ρ
    unfold ev
    rw [evs_C]
    cases evsC (cds G call mt m es) ρ with
    | ok ds ρ =>
      show Out.bind (Out.frz (match rngv ds with
        | some xs => .ok (.lst xs, false) ρ
        | none => .bad)) _ = Out.of (rngv ds) ρ
      cases rngv ds <;> rfl
    | _ => rfl
  rw [z] at hw
  exact hw
theorem ev_zip {R : Rt} {m : Bool} {a b : Px} {ρ : Env} : ev R m (.zip a b) ρ = (ev R m a ρ).frz.bind fun x ρ => (ev R m b ρ).frz.bind fun y ρ => match zipv x y with
    | some xs => .ok (.lst xs, false) ρ
    | none => .bad := by
  (conv => lhs; unfold ev) <;> rfl
theorem i_zip {a b : Px} (ha : P1 G A fa fd call n N mt a) (hb : P1 G A fa fd call n N mt b) : P2 G A fa fd call n N mt (.zip a b) := fun m X W sc e tg C h ht => by
  unfold chk at h
  split at h <;> first | cases h | skip
  simp only [Bool.and_eq_true, Bool.true_and, decide_eq_true_eq] at h
  obtain ⟨⟨⟨⟨rfl, h2⟩, h3⟩, h4⟩, h5, h6⟩ := h
  cases tg with
  | Tuple elts kk tpos =>
    refine PI.imp (pi_zip_ C.c (C.gl h2) (ha m X W sc _ C h5).frz (hb m X W sc _ C h6).frz h3 h4) fun σ H R hw => ?_
    have z : (fun ρ => (ev (G.rt call mt) m (.zip a b) ρ).frz.bind fun x ρ => Out.of (itemsv x) ρ) = fun ρ => (ev (G.rt call mt) m a ρ).frz.bind fun x ρ => (ev (G.rt call mt) m b ρ).frz.bind fun y ρ => Out.of (zipv x y) ρ := by
      funext ρ
      rw [ev_zip]
      cases (ev (G.rt call mt) m a ρ).frz with
      | ok x ρ =>
        dsimp only [Out.bind]
        cases (ev (G.rt call mt) m b ρ).frz with
        | ok y ρ =>
          dsimp only [Out.bind]
          cases zipv x y <;> rfl
        | _ => rfl
      | _ => rfl
    rw [z] at hw
    exact hw
  | _ => cases ht
theorem ev_enum {R : Rt} {m : Bool} {a : Px} {ρ : Env} : ev R m (.enum a) ρ = (ev R m a ρ).frz.bind fun x ρ => match enumv x with
    | some xs => .ok (.lst xs, false) ρ
    | none => .bad := by
  (conv => lhs; unfold ev) <;> rfl
theorem i_enum {a : Px} (ha : P1 G A fa fd call n N mt a) : P2 G A fa fd call n N mt (.enum a) := fun m X W sc e tg C h ht => by
  unfold chk at h
  split at h <;> first | cases h | skip
  simp only [Bool.and_eq_true, Bool.true_and, decide_eq_true_eq] at h
  obtain ⟨⟨⟨rfl, h2⟩, h3⟩, h5⟩ := h
  cases tg with
  | Tuple elts kk tpos =>
    refine PI.imp (pi_enum_ C.c (C.gl h2) (ha m X W sc _ C h5).frz h3) fun σ H R hw => ?_
    have z : (fun ρ => (ev (G.rt call mt) m (.enum a) ρ).frz.bind fun x ρ => Out.of (itemsv x) ρ) = fun ρ => (ev (G.rt call mt) m a ρ).frz.bind fun x ρ => Out.of (enumv x) ρ := by
      funext ρ
      rw [ev_enum]
      cases (ev (G.rt call mt) m a ρ).frz with
      | ok x ρ =>
        dsimp only [Out.bind]
        cases enumv x <;> rfl
      | _ => rfl
    rw [z] at hw
    exact hw
  | _ => cases ht
theorem ev_lc {R : Rt} {m : Bool} {own : List Nat} {tg : Tg} {it : Px} {cond : List Px} {el : Px} {ρ : Env} : ev R m (.lc own tg it cond el) ρ = lcC (fun ρ => (ev R m it ρ).frz.bind fun x ρ => Out.of (itemsv x) ρ) (fun ρ => evAnd R true cond ρ) (fun ρ => (ev R true el ρ).frz) tg own ρ := by
  conv => lhs; unfold ev
  unfold lcC
  dsimp only
  cases (ev R m it ρ).frz with
  | ok x ρ =>
    dsimp only [Out.bind]
    cases itemsv x with
    | none => rfl
    | some xs => rfl
  | _ => rfl
theorem own_map {N : List Str} (own : List Nat) : (named N own).map (·.2) = own := by
  unfold named
  rw [List.map_map]
  exact List.map_id own
theorem s_lc {own : List Nat} {tg : Tg} {it : Px} {cond : List Px} {el : Px} (hi : P2 G A fa fd call n N mt it) (hc : PL G A fa fd call n N mt cond) (he : P1 G A fa fd call n N mt el) : P1 G A fa fd call n N mt (.lc own tg it cond el) := fun m X W sc e C h => by
  unfold chk at h
  split at h <;> first | cases h | skip
  rename_i elt t iter ifs scope pos
  simp only [Bool.and_eq_true, decide_eq_true_eq] at h
  obtain ⟨⟨⟨⟨⟨⟨h1, h2⟩, h3⟩, h4⟩, h5⟩, h6⟩, h7, h8, h9⟩ := h
  have hb : PE X (.ListComp elt [⟨t, iter, ifs, 0⟩] scope pos) (tO X.K A W (lcC (fun ρ => (ev (G.rt call mt) m it ρ).frz.bind fun x ρ => Out.of (itemsv x) ρ) (fun ρ => evAnd (G.rt call mt) true cond ρ) (fun ρ => (ev (G.rt call mt) true el ρ).frz) tg ((named N own).map (·.2)))) := by
    refine snd_lc C.c.calm C.c.nd (hi m X W sc iter t C h7 h3) (by rw [C.hN, C.hsc]; exact blkOk_by h1) (fun s H a cl fp => tgB_ok h2 C.c.calm C.c.nd C.hN own_blk fun x hx => ?_) (fun s H a cl fp => ?_) (fun s H a cl fp => (he true _ _ _ _ C.blk h9).frz) (folded_no h4) (fun j hj => ?_) (evAnd_still _ _) (Still.frz (ev_still _ _))
    · show (scope.names.lookup x == some .cell) = true
      rw [hx]
      rfl
    · have z : (fun ρ => (evAnd (G.rt call mt) true cond ρ).tob) = fun ρ => (andC (cds G call mt true cond) ρ).tob := funext fun ρ => by rw [evAnd_C]
      rw [z]
      exact pts_of (hc true _ _ _ _ C.blk h8) (by rw [cds_len]; exact h6)
    · rw [own_map]
      rw [List.all_eq_true] at h5
      exact List.contains_iff_mem.mp (h5 j hj)
  rw [own_map] at hb
  exact Sd.cg (Sd.of hb fun _ => rfl) fun ρ => ev_lc
mutual
theorem snd : ∀ p : Px, P1 G A fa fd call n N mt p ∧ P2 G A fa fd call n N mt p
  | .var i => ⟨s_var i, i_of rfl (s_var i)⟩
  | .mov i => ⟨s_mov i, i_of rfl (s_mov i)⟩
  | .int i => ⟨s_int i, i_of rfl (s_int i)⟩
  | .bl b => ⟨s_bl b, i_of rfl (s_bl b)⟩
  | .non => ⟨s_non, i_of rfl s_non⟩
  | .str s => ⟨s_str s, i_of rfl (s_str s)⟩
  | .glo g => ⟨s_glo g, i_of rfl (s_glo g)⟩
  | .tup es => have z := s_tup (snds es); ⟨z, i_of rfl z⟩
  | .lst es => have z := s_lst (snds es); ⟨z, i_of rfl z⟩
  | .bin o a b => have z := s_bin (o := o) (snd a).1 (snd b).1; ⟨z, i_of rfl z⟩
  | .neg a => have z := s_neg (snd a).1; ⟨z, i_of rfl z⟩
  | .cmp o a b => have z := s_cmp (o := o) (snd a).1 (snd b).1; ⟨z, i_of rfl z⟩
  | .conj es => have z := s_conj (snds es); ⟨z, i_of rfl z⟩
  | .disj es => have z := s_disj (snds es); ⟨z, i_of rfl z⟩
  | .nt a => have z := s_nt (snd a).1; ⟨z, i_of rfl z⟩
  | .ife t a b => have z := s_ife (snd t).1 (snd a).1 (snd b).1; ⟨z, i_of rfl z⟩
  | .ix a b => have z := s_ix (snd a).1 (snd b).1; ⟨z, i_of rfl z⟩
  | .sl a lo hi => have z := s_sl (snd a).1 (snds lo) (snds hi); ⟨z, i_of rfl z⟩
  | .rev a => have z := s_rev (snd a).1; ⟨z, i_of rfl z⟩
  | .fz a => have z := s_fz (snd a).1; ⟨z, i_of rfl z⟩
  | .call f es => have z := s_call (f := f) (snds es); ⟨z, i_of rfl z⟩
  | .bi b es => have z := s_bi (b := b) (snds es); ⟨z, i_of rfl z⟩
  | .isi a t => have z := s_isi (t := t) (snd a).1; ⟨z, i_of rfl z⟩
  | .mt k a es => have z := s_mt (k := k) (snd a).1 (snds es); ⟨z, i_of rfl z⟩
  | .bop o q es => have z := s_bop (o := o) (q := q) (snds es); ⟨z, i_of rfl z⟩
  | .rng es => ⟨fun m X W sc e C h => (by unfold chk at h; split at h <;> simp at h), i_rng (snds es)⟩
  | .zip a b => ⟨fun m X W sc e C h => (by unfold chk at h; split at h <;> simp at h), i_zip (snd a).1 (snd b).1⟩
  | .lc own tg it cond el => have z := s_lc (own := own) (tg := tg) (snd it).2 (snds cond) (snd el).1; ⟨z, i_of rfl z⟩
  | .fld i f => ⟨fun m X W sc e C h => (by unfold chk at h; cases h), fun m X W sc e tg C h => (by unfold chk at h; cases h)⟩
  | .dct ks es => have z := s_dct (ks := ks) (snds es); ⟨z, i_of rfl z⟩
  | .chain o1 o2 a b c => have z := s_chain (o1 := o1) (o2 := o2) (snd a).1 (snd b).1 (snd c).1; ⟨z, i_of rfl z⟩
  | .dix a b => ⟨fun m X W sc e C h => (by unfold chk at h; cases h), fun m X W sc e tg C h => (by unfold chk at h; cases h)⟩
  | .gix g b => have z := s_gix (g := g) (snd b).1; ⟨z, i_of rfl z⟩
  | .pop q => have z := s_pop (q := q); ⟨z, i_of rfl z⟩
  | .mcall f i es => ⟨fun m X W sc e C h => (by unfold chk at h; cases h), fun m X W sc e tg C h => (by unfold chk at h; cases h)⟩
  | .make c f es => ⟨fun m X W sc e C h => (by unfold chk at h; cases h), fun m X W sc e tg C h => (by unfold chk at h; cases h)⟩
  | .enum a => ⟨fun m X W sc e C h => (by unfold chk at h; split at h <;> simp at h), i_enum (snd a).1⟩
theorem snds : ∀ es : List Px, PL G A fa fd call n N mt es
  | [] => fun m X W sc xs C h => by
    unfold chks at h
    cases xs with
    | nil => exact .nil
    | cons _ _ => cases h
  | p :: ps => fun m X W sc xs C h => by
    unfold chks at h
    cases xs with
    | nil => cases h
    | cons x xs =>
      simp only [Bool.and_eq_true] at h
      have z := (snd p).1 m X W sc x C h.1.2
      exact .cons z.pe z.pt h.1.1 (snds ps m X W sc xs C h.2)
end
end
end GW
end

section
/-! C17: statements: more rules. -/
namespace GW
open PySem PySem.Spec PyProof.Rows L2 RZ

/-! ### several stores at once -/
def starB : Expr → Bool
  | .Starred .. => true
  | _ => false
def swB (sc : Scope) (ts vs : List Expr) : Option (Option (List Str)) :=
  if !(ts.length == 2 || ts.length == 3) || vs.length != ts.length then some none
  else if vs.any starB then some none
  else
    let line := (ts.head?.map (·.pos.line)).getD 0
    let names := ts.filterMap fun
      | .Name id pos => if sc.names.lookup id == some .local && pos.line == line then some id else none
      | _ => none
    if names.length != ts.length || names.eraseDups.length != names.length then some none
    else if vs.all (foldedForSure 8) then some none
    else if vs.all (constantsAlone 8) then none
    else some (some names)
theorem swB_ok {env : PySem.Env} {ts vs : List Expr} {k k2 : Nat} {p p2 : Pos} {r : Option (List Str)} (hk : env.scope.kind = .function) (h : swB env.scope ts vs = some r) : swappedStores [.Tuple ts k p] (.Tuple vs k2 p2) env = pure r := by
  have hb : (env.blockKind != ScopeKind.function) = false := by
    unfold Env.blockKind
    rw [hk]
    rfl
  unfold swB at h
  unfold swappedStores
  dsimp only
  rw [hb, Bool.or_false]
  have any_c : ∀ f : Expr → Bool, (∀ e, f e = starB e) → vs.any f = vs.any starB := fun f hf => by
    have z : f = starB := funext hf
    rw [z]
  by_cases c1 : (!(ts.length == 2 || ts.length == 3) || vs.length != ts.length) = true
  · rw [if_pos c1] at h
    cases h
    rw [if_pos c1]
  · rw [if_neg c1] at h
    rw [if_neg c1]
    by_cases c2 : vs.any starB = true
    · rw [if_pos c2] at h
      cases h
      exact if_pos ((any_c _ (fun e => by cases e <;> rfl)).trans c2)
    · rw [if_neg c2] at h
      refine (if_neg (fun z => c2 ((any_c _ (fun e => by cases e <;> rfl)).symm.trans z))).trans ?_
      dsimp only at h
      by_cases c3 : ((List.filterMap (fun (e : Expr) => match e with
          | .Name id pos => if (env.scope.names.lookup id == some NameKind.local && pos.line == (ts.head?.map (·.pos.line)).getD 0) = true then some id else none
          | _ => none) ts).length != ts.length || (List.filterMap (fun (e : Expr) => match e with
          | .Name id pos => if (env.scope.names.lookup id == some NameKind.local && pos.line == (ts.head?.map (·.pos.line)).getD 0) = true then some id else none
          | _ => none) ts).eraseDups.length != (List.filterMap (fun (e : Expr) => match e with
          | .Name id pos => if (env.scope.names.lookup id == some NameKind.local && pos.line == (ts.head?.map (·.pos.line)).getD 0) = true then some id else none
          | _ => none) ts).length) = true
      · rw [if_pos c3] at h
        cases h
        exact if_pos c3
      · rw [if_neg c3] at h
        refine (if_neg c3).trans ?_
        by_cases c4 : vs.all (foldedForSure 8) = true
        · rw [if_pos c4] at h
          cases h
          rw [if_pos c4]
        · rw [if_neg c4] at h
          rw [if_neg c4]
          by_cases c5 : vs.all (constantsAlone 8) = true
          · rw [if_pos c5] at h
            cases h
          · rw [if_neg c5] at h
            cases h
            rw [if_neg c5]
            rfl
theorem sole_no {ts : List Expr} {k : Nat} {p : Pos} {v : Expr} {l : Nat} {env : PySem.Env} : swapsWithSole [.Tuple ts k p] v l env = pure false := by
  show swapsWith v (some (.Tuple ts k p)) l env = pure false
  cases v <;> rfl
/-- the value is no tuple, or the stores are one by one -/
def plainB (sc : Scope) (ts : List Expr) : Expr → Bool
  | .Tuple vs _ _ => (match swB sc ts vs with
    | some none => true
    | _ => false)
  | _ => true
theorem plainB_ok {env : PySem.Env} {ts : List Expr} {k : Nat} {p : Pos} {v : Expr} (hk : env.scope.kind = .function) (h : plainB env.scope ts v = true) : swappedStores [.Tuple ts k p] v env = pure none := by
  cases v with
  | Tuple vs k2 p2 =>
    unfold plainB at h
    dsimp only at h
    split at h <;> first | cases h | skip
    exact swB_ok hk (by assumption)
  | _ => rfl
/-! ### a comprehension stored -/
def swLc (sc : Scope) (x : Str) (tpos vpos : Pos) (scope : Scope) : Bool := (sc.names.lookup x == some .local) && tpos.line == vpos.line && !(scope.names.any fun (n, k) => n == x && (k == .local || k == .cell))
theorem swLc_ok {env : PySem.Env} {elt : Expr} {gens : List Comprehension} {scope : Scope} {vpos tpos : Pos} {x : Str} {l : Nat} (hk : env.scope.kind = .function) : swapsWith (.ListComp elt gens scope vpos) (some (.Name x tpos)) l env = pure (swLc env.scope x tpos vpos scope) := by
  have hb : (env.blockKind == ScopeKind.function) = true := by
    unfold Env.blockKind
    rw [hk]
    rfl
  show pure (env.blockKind == .function && (env.scope.names.lookup x == some .local) && tpos.line == vpos.line && !(scope.names.any fun (n, k) => n == x && (k == .local || k == .cell))) = _
  rw [hb, Bool.true_and]
  rfl

section
variable {X : Cx} {A : Cls} {W : WX} {e a b c tg : Expr} {pos : Pos} {R : Rt} {mt : Bool}
/-- three at once -/
theorem snd_par3 {cs : List Code} {i j l : Nat} {x y z : Str} {px py pz pt : Pos} {kt k2 : Nat} {pt2 : Pos} (hm : R.meth = mt) (hc : X.calm = true) (hN : X.N.Nodup) (hi : X.N[i]? = some x) (hj : X.N[j]? = some y) (hl : X.N[l]? = some z) (hij : i ≠ j) (hil : i ≠ l) (hjl : j ≠ l) (hx : X.env.scope.names.lookup x = some .local) (hy : X.env.scope.names.lookup y = some .local) (hz : X.env.scope.names.lookup z = some .local)
    (h : Alls X A W [a, b, c] cs) (hw : swappedStores [.Tuple [.Name x px, .Name y py, .Name z pz] kt pt] (.Tuple [a, b, c] k2 pt2) X.env = pure (some [x, y, z])) :
    PS X (.Assign [.Tuple [.Name x px, .Name y py, .Name z pz] kt pt] (.Tuple [a, b, c] k2 pt2) pos) (tS X.K A mt W fun ρ => onOut (evsC cs ρ) fun ds ρ => match setPar ρ [i, j, l] ds with
    | some ρ => if okS R [i, j, l] then .nx ρ else .bad
    | none => .bad) := by
  refine PS.imp (ps_par3 hc hN hi hj hl hij hil hjl hx hy hz h.pa hw rfl) fun D σ H hw => ?_
  obtain ⟨E, S, ρ, fs, hz, st, p⟩ := hw
  refine ⟨E, S, ρ, fs, st, (PostS.on p).mono fun ds ρ1 S1 H1 fs1 e1 st1 p1 vs r => ?_⟩
  match ds, p1, r with
  | [], p1, _ => exact (show False from p1).elim
  | [_], p1, _ => exact (show False from p1).elim
  | [_, _], p1, _ => exact (show False from p1).elim
  | _ :: _ :: _ :: _ :: _, p1, _ => exact (show False from p1).elim
  | [d1, d2, d3], p1, r =>
    unfold Reps at r
    obtain ⟨u, r', rfl, r1, r2⟩ := r
    unfold Reps at r2
    obtain ⟨v, r', rfl, r2, r3⟩ := r2
    obtain ⟨w, rfl, r4⟩ := reps_one r3
    cases hk : okS R [i, j, l] with
    | false =>
      dsimp only [setPar, Option.map] at p1
      rw [hk] at p1
      exact p1.elim
    | true =>
      dsimp only [setPar, Option.map] at p1
      rw [hk] at p1
      have hz' := okS_of hm hk hz
      have z1 : i ≠ 0 ∨ E.z = none := hz'.imp (fun z q => z (by simp [q])) id
      have z2 : j ≠ 0 ∨ E.z = none := hz'.imp (fun z q => z (by simp [q])) id
      have z3 : l ≠ 0 ∨ E.z = none := hz'.imp (fun z q => z (by simp [q])) id
      refine ⟨u, v, w, rfl, ?_⟩
      have s1 := st1.put' (i := l) r4 z3
      have s2 := s1.put' (i := j) r2 z2
      have s3 := s2.put' (i := i) r1 z1
      have e : ((σ.set i (some u)).set j (some v)).set l (some w) = ((σ.set l (some w)).set j (some v)).set i (some u) := by
        rw [List.set_comm _ _ hij, List.set_comm _ _ hil, List.set_comm _ _ hjl]
      rw [e]
      exact PostS.nx p1 s3
/-- a, b = x, y, the values one's own -/
theorem snd_parO2 {cs : List Code} {i j : Nat} {x y : Str} {px py pt : Pos} {kt k2 : Nat} {pt2 : Pos} (hm : R.meth = mt) (hc : X.calm = true) (hN : X.N.Nodup) (hi : X.N[i]? = some x) (hj : X.N[j]? = some y) (hij : i ≠ j) (hx : X.env.scope.names.lookup x = some .local) (hy : X.env.scope.names.lookup y = some .local)
    (h : Alls X A W [a, b] cs) (hw : swappedStores [.Tuple [.Name x px, .Name y py] kt pt] (.Tuple [a, b] k2 pt2) X.env = pure (some [x, y])) :
    PS X (.Assign [.Tuple [.Name x px, .Name y py] kt pt] (.Tuple [a, b] k2 pt2) pos) (tS X.K A mt W fun ρ => onOut (evsCO cs ρ) fun xs ρ => match putsV ρ [i, j] xs with
    | some ρ => if okS R [i, j] then .nx ρ else .bad
    | none => .bad) := by
  refine PS.imp (ps_par hc hN hi hj hij hx hy h.pao hw rfl) fun D σ H hw => ?_
  obtain ⟨E, S, ρ, fs, hz, st, p⟩ := hw
  refine ⟨E, S, ρ, fs, st, (PostS.on p).mono fun xs ρ1 S1 H1 fs1 e1 st1 p1 vs fps r => ?_⟩
  match xs, p1, r with
  | [], p1, _ => exact (show False from p1).elim
  | [_], p1, _ => exact (show False from p1).elim
  | _ :: _ :: _ :: _, p1, _ => exact (show False from p1).elim
  | [d1, d2], p1, r =>
    cases hk : okS R [i, j] with
    | false =>
      dsimp only [putsV] at p1
      rw [hk] at p1
      exact p1.elim
    | true =>
      dsimp only [putsV] at p1
      rw [hk] at p1
      have g := gNms_okO (Q := fun σ1 H1 => D.nx σ1 H1) st1 r (is := [i, j]) rfl (okS_of hm hk hz) fun σ1 fs2 st4 => PostS.nx p1 st4
      obtain ⟨v, r', rfl, w, r2, rfl, g1, g2⟩ := g
      subst g1
      exact ⟨v, w, rfl, g2⟩
theorem snd_parO3 {cs : List Code} {i j l : Nat} {x y z : Str} {px py pz pt : Pos} {kt k2 : Nat} {pt2 : Pos} (hm : R.meth = mt) (hc : X.calm = true) (hN : X.N.Nodup) (hi : X.N[i]? = some x) (hj : X.N[j]? = some y) (hl : X.N[l]? = some z) (hij : i ≠ j) (hil : i ≠ l) (hjl : j ≠ l) (hx : X.env.scope.names.lookup x = some .local) (hy : X.env.scope.names.lookup y = some .local) (hz : X.env.scope.names.lookup z = some .local)
    (h : Alls X A W [a, b, c] cs) (hw : swappedStores [.Tuple [.Name x px, .Name y py, .Name z pz] kt pt] (.Tuple [a, b, c] k2 pt2) X.env = pure (some [x, y, z])) :
    PS X (.Assign [.Tuple [.Name x px, .Name y py, .Name z pz] kt pt] (.Tuple [a, b, c] k2 pt2) pos) (tS X.K A mt W fun ρ => onOut (evsCO cs ρ) fun xs ρ => match putsV ρ [i, j, l] xs with
    | some ρ => if okS R [i, j, l] then .nx ρ else .bad
    | none => .bad) := by
  refine PS.imp (ps_par3 hc hN hi hj hl hij hil hjl hx hy hz h.pao hw rfl) fun D σ H hw => ?_
  obtain ⟨E, S, ρ, fs, hz, st, p⟩ := hw
  refine ⟨E, S, ρ, fs, st, (PostS.on p).mono fun xs ρ1 S1 H1 fs1 e1 st1 p1 vs fps r => ?_⟩
  match xs, p1, r with
  | [], p1, _ => exact (show False from p1).elim
  | [_], p1, _ => exact (show False from p1).elim
  | [_, _], p1, _ => exact (show False from p1).elim
  | _ :: _ :: _ :: _ :: _, p1, _ => exact (show False from p1).elim
  | [d1, d2, d3], p1, r =>
    cases hk : okS R [i, j, l] with
    | false =>
      dsimp only [putsV] at p1
      rw [hk] at p1
      exact p1.elim
    | true =>
      dsimp only [putsV] at p1
      rw [hk] at p1
      have g := gNms_okO (Q := fun σ1 H1 => D.nx σ1 H1) st1 r (is := [i, j, l]) rfl (okS_of hm hk hz) fun σ1 fs2 st4 => PostS.nx p1 st4
      obtain ⟨v, r', rfl, w, r2, rfl, u, r3, rfl, g1, g2⟩ := g
      subst g1
      exact ⟨v, w, u, rfl, g2⟩
/-- a slot forgotten -/
theorem Sta.del {K : PySem.W.Frag} {E : Ent} {S H : Hp} {ρ : Env} {σ : L2.St} {fs : Nat → List Addr} {i : Nat} (st : Sta K A E S H ρ σ fs) (hz : i ≠ 0 ∨ E.z = none) : ∃ fs', Sta K A E S H (ρ.set i .no) (σ.set i none) fs' := by
  refine ⟨fun j => if j = i then [] else fs j, by rw [List.length_set, List.length_set]; exact st.len, st.sub, fun j => ?_, fun j k hjk a ha => ?_, st.ghost, st.s0, fun j a ha => ?_, st.snew, fun w hw => ?_⟩
  · rw [getS_set]
    by_cases e : i = j
    · subst e
      rw [if_pos rfl, if_pos rfl]
      by_cases hl : i < ρ.length
      · rw [if_pos hl]; rfl
      · rw [if_neg hl]; rfl
    · rw [if_neg e, if_neg (fun z => e z.symm), List.getElem?_set_ne e]
      exact st.slot j
  · by_cases e : j = i
    · rw [if_pos e] at ha; simp at ha
    · rw [if_neg e] at ha
      by_cases e2 : k = i
      · rw [if_pos e2]; simp
      · rw [if_neg e2]
        exact st.dis j k hjk a ha
  · by_cases e : j = i
    · rw [if_pos e] at ha; simp at ha
    · rw [if_neg e] at ha
      exact st.new j a ha
  · rcases hz with z | z
    · rw [List.getElem?_set_ne z]
      exact st.z w hw
    · rw [z] at hw; cases hw
/-- try: body except x as n: k = n -/
theorem snd_try {G : Prog} {fa : Nat → Addr} {fd : Nat → FuncData} {call : Nat → D → List D → Res} {n c i k : Nat} {x y nm : Str} {np pos' p1 p2 p3 : Pos} {body : List Stmt} {fb : Env → GW.Flow} (C : Ctx G A fa fd call n X W) (hs : X.stack = X.env :: X.outer) (hf : X.env.frame = some X.env.locals) (hex : X.ex = [])
    (hi : X.N[i]? = some nm) (hln : X.env.kindOf nm = some .local) (hk : X.N[k]? = some y) (hly : X.env.kindOf y = some .local) (hik : i ≠ k) (hdn : okN nm = true) (hc : G.excs[c]? = some x) (hg : Gl X x) (hx : okN x = true)
    (hb : ∀ (W : WX) (pn : List (Addr × Obj)) (xe : Value → Shared → Prop), Ctx G A fa fd call n (X.tr pn xe) W → PSs (X.tr pn xe) body (tS X.K A mt W fb)) :
    PS X (.Try body [.ExceptHandler (some (.Name x np)) (some nm) [.Assign [.Name y p1] (.Name nm p2) p3] pos'] [] [] pos) (tS X.K A mt W fun ρ => match fb ρ with
    | .exn c' ρ => match G.sub c' c with
      | some true => if okS (G.rt call mt) [k, i] then .nx ((ρ.set k (.fz (.exc c'))).set i .no) else .bad
      | some false => .exn c' ρ
      | none => .bad
    | r => r) := by
  have hcx := C.facts.exc c x hc
  have hnm : Names X x (.ref (A.exc c)) := ⟨hg, okN_dbg hx, .inl hcx.1⟩
  refine PS.imp (ps_try_keep hs hf hex C.nd hi hln hk hly hik hdn hnm C.tk (tb := fun W => tS X.K A mt W fb) fun W pn xe tk po => hb W pn xe ⟨C.facts, C.fnok, C.room, C.calm, C.nd, tk, po⟩) fun D σ H hw => ?_
  obtain ⟨E, S, ρ, fs, hz, st, p⟩ := hw
  refine ⟨E, S, ρ, fs, hz, st, ?_⟩
  dsimp only at p
  cases hfl : fb ρ with
  | nx ρ1 => rw [hfl] at p; exact p
  | rt d o ρ1 => rw [hfl] at p; exact p
  | bk ρ1 => rw [hfl] at p; exact p
  | ct ρ1 => rw [hfl] at p; exact p
  | bad => rw [hfl] at p; exact p
  | exn c' ρ1 =>
    rw [hfl] at p
    dsimp only at p
    intro S1 H1 σ1 fs1 e1 st1
    cases hsub : G.sub c' c with
    | none => rw [hsub] at p; exact p.elim
    | some b =>
      rw [hsub] at p
      obtain ⟨_, g2⟩ := C.facts.sub c' c b hsub
      refine ⟨b, g2, fun hb => ?_, fun hb => ?_⟩
      · subst hb
        dsimp only at p
        cases hok : okS (G.rt call mt) [k, i] with
        | false => rw [hok] at p; exact p.elim
        | true =>
          rw [hok, if_pos rfl] at p
          have hz' := okS_of (mt := mt) (R := G.rt call mt) rfl hok hz
          have z1 : k ≠ 0 ∨ E.z = none := hz'.imp (fun z q => z (by simp [q])) id
          have z2 : i ≠ 0 ∨ E.z = none := hz'.imp (fun z q => z (by simp [q])) id
          refine ⟨A.exc c', rfl, rfl, fun a ha => ?_⟩
          obtain ⟨s2, e2⟩ := st1.layS (a := a) (o := ExI (A.exc c') a) ha
          have s3 := s2.put' (i := k) (d := .exc c') (v := .ref a) (by unfold Rep; exact ⟨a, rfl, upd_same ..⟩) z1
          obtain ⟨fs4, s4⟩ := s3.del z2
          exact p _ _ _ _ (e1.trans e2) s4
      · subst hb
        exact p S1 H1 σ1 fs1 e1 st1
end
end GW
end

section
/-! C18: statements: the check, and what it is good for. -/
namespace GW
open PySem PySem.Spec PyProof.Rows L2 RZ

def namO (N : List Str) (sc : Scope) (i : Nat) : Expr → Bool
  | .Name x _ => decide (N[i]? = some x) && lclB sc x
  | _ => false
/-- x = [..] in one line: stored as it is made -/
def swapB (sc : Scope) (t v : Expr) : Bool := match t, v with
  | .Name x p, .ListComp _ _ scope vp => swLc sc x p vp scope
  | _, _ => false
def isLc : Px → Bool
  | .lc .. => true
  | _ => false
/-- the value's form is known -/
def okV : Expr → Bool
  | .SetComp .. => false
  | .DictComp .. => false
  | _ => true
def sw2 (N : List Str) (sc : Scope) (i j : Nat) (ts vs : List Expr) : Bool := match ts, vs with
  | [.Name x px, .Name y py], [a, b] => decide (swB sc [.Name x px, .Name y py] [a, b] = some (some [x, y])) && decide (N[i]? = some x) && decide (N[j]? = some y) && lclB sc x && lclB sc y && decide (i ≠ j)
  | _, _ => false
def sw3 (N : List Str) (sc : Scope) (i j l : Nat) (ts vs : List Expr) : Bool := match ts, vs with
  | [.Name x px, .Name y py, .Name z pz], [a, b, c] => decide (swB sc [.Name x px, .Name y py, .Name z pz] [a, b, c] = some (some [x, y, z])) && decide (N[i]? = some x) && decide (N[j]? = some y) && decide (N[l]? = some z) && lclB sc x && lclB sc y && lclB sc z && decide (i ≠ j) && decide (i ≠ l) && decide (j ≠ l)
  | _, _ => false
def swN (N : List Str) (sc : Scope) (ts vs : List Expr) : List Nat → Bool
  | [i, j] => sw2 N sc i j ts vs
  | [i, j, l] => sw3 N sc i j l ts vs
  | _ => false
mutual
def chkS (G : Prog) (N : List Str) : Ps → Scope → Stmt → Bool
  | .asg i e, sc, st => match st with
    | .Assign [t] v _ => namL N sc i t && okV v && chk G N e false sc v && (!swapB sc t v || isLc e)
    | _ => false
  | .asgT is e, sc, st => match st with
    | .Assign [.Tuple ts _ _] v _ => namsL N sc is ts && plainB sc ts v && chk G N e false sc v
    | _ => false
  | .asgN is i es, sc, st => match st with
    | .Assign [.Tuple ts _ _] (.Tuple vs k2 p2) _ => namsL N sc (is ++ [i]) ts && plainB sc ts (.Tuple vs k2 p2) && decide (is.length < 900) && (match vs.reverse with
      | .List [] _ :: r => chks G N es sc r.reverse
      | _ => false)
    | _ => false
  | .asgs is es, sc, st => match st with
    | .Assign [.Tuple ts _ _] (.Tuple vs k2 p2) _ => chks G N es sc vs && ((namsL N sc is ts && (plainB sc ts (.Tuple vs k2 p2) && decide (is.length < 900))) || swN N sc ts vs is)
    | _ => false
  | .par [i, j] es, sc, st => match st with
    | .Assign [.Tuple [.Name x px, .Name y py] _ _] (.Tuple [a, b] _ _) _ => decide (swB sc [.Name x px, .Name y py] [a, b] = some (some [x, y])) && decide (N[i]? = some x) && decide (N[j]? = some y) && lclB sc x && lclB sc y && decide (i ≠ j) && chks G N es sc [a, b]
    | _ => false
  | .par [i, j, l] es, sc, st => match st with
    | .Assign [.Tuple [.Name x px, .Name y py, .Name z pz] _ _] (.Tuple [a, b, c] _ _) _ => decide (swB sc [.Name x px, .Name y py, .Name z pz] [a, b, c] = some (some [x, y, z])) && decide (N[i]? = some x) && decide (N[j]? = some y) && decide (N[l]? = some z) && lclB sc x && lclB sc y && lclB sc z && decide (i ≠ j) && decide (i ≠ l) && decide (j ≠ l) && chks G N es sc [a, b, c]
    | _ => false
  | .exp e, sc, st => match st with
    | .Expr v _ => notComp v && chk G N e false sc v
    | _ => false
  | .app (.sl i) e, sc, st => match st with
    | .Expr (.Call (.Attribute o nm ap) [v] [] cp) _ => decide (nm = "append") && nameB N sc i o && (ap.endLine == cp.line) && notStar v && chk G N e false sc v
    | _ => false
  | .ext (.sl i) e, sc, st => match st with
    | .Expr (.Call (.Attribute o nm ap) [v] [] cp) _ => decide (nm = "extend") && nameB N sc i o && (ap.endLine == cp.line) && notStar v && chk G N e false sc v
    | _ => false
  | .insr (.sl i) k e, sc, st => match st with
    | .Expr (.Call (.Attribute o nm ap) [u, v] [] cp) _ => decide (nm = "insert") && nameB N sc i o && (ap.endLine == cp.line) && notStar u && notStar v && chk G N k false sc u && chk G N e false sc v
    | _ => false
  | .setk (.sl i) k v, sc, st => match st with
    | .Assign [.Subscript o k' _] v' _ => nameB N sc i o && chk G N k false sc k' && chk G N v false sc v'
    | _ => false
  | .ite c a b, sc, st => match st with
    | .If v x y _ => chk G N c false sc v && (chkB G N a sc x && chkB G N b sc y)
    | _ => false
  | .forS tg it b, sc, st => match st with
    | .For t v x [] _ => tgB N sc tg t && tgFit it t && notSet v && chk G N it true sc v && chkB G N b sc x
    | _ => false
  | .whl c b, sc, st => match st with
    | .While v x [] _ => chk G N c false sc v && chkB G N b sc x
    | _ => false
  | .ret e, sc, st => match st with
    | .Return (some v) _ => chk G N e false sc v
    | _ => false
  | .retN, sc, st => match st with
    | .Return none _ => true
    | _ => false
  | .raise c, sc, st => match st with
    | .Raise (some (.Call (.Name x _) [.Constant (.str _) _ _] [] _)) none _ => decide (G.excs[c]? = some x) && gloB sc x && okN x
    | _ => false
  | .tryK body c i k, sc, st => match st with
    | .Try x [.ExceptHandler (some (.Name f _)) (some nm) [.Assign [.Name y _] (.Name z _) _] _] [] [] _ => decide (z = nm) && decide (N[i]? = some nm) && lclB sc nm && decide (N[k]? = some y) && lclB sc y && decide (i ≠ k) && okN nm && decide (G.excs[c]? = some f) && gloB sc f && okN f && chkB G N body sc x
    | _ => false
  | .brk, sc, st => match st with
    | .Break _ => true
    | _ => false
  | .cont, sc, st => match st with
    | .Continue _ => true
    | _ => false
  | .pass, sc, st => match st with
    | .Pass _ => true
    | _ => false
  | _, _, _ => false
def chkB (G : Prog) (N : List Str) : List Ps → Scope → List Stmt → Bool
  | [], _, xs => xs.isEmpty
  | p :: ps, sc, xs => match xs with
    | x :: xs => chkS G N p sc x && chkB G N ps sc xs
    | [] => false
end

/-! ### soundness -/
structure Cs (G : Prog) (A : Cls) (fa : Nat → Addr) (fd : Nat → FuncData) (call : Nat → D → List D → Res) (n : Nat) (N : List Str) (sc : Scope) (X : Cx) (W : WX) : Prop where
  c : Cn G A fa fd call n N sc X W
  kind : sc.kind = .function
  stk : X.stack = X.env :: X.outer
  fr : X.env.frame = some X.env.locals
  ex : X.ex = []
  fn : ∀ x, sc.names.lookup x = some .cell → X.fn x = true
section
variable (G : Prog) (A : Cls) (fa : Nat → Addr) (fd : Nat → FuncData) (call : Nat → D → List D → Res) (n : Nat) (N : List Str) (mt : Bool)
def PS1 (p : Ps) : Prop := ∀ (X : Cx) (W : WX) (sc : Scope) (st : Stmt), Cs G A fa fd call n N sc X W → chkS G N p sc st = true → PS X st (tS X.K A mt W (exec (G.rt call mt) p))
def PSL (ps : List Ps) : Prop := ∀ (X : Cx) (W : WX) (sc : Scope) (sts : List Stmt), Cs G A fa fd call n N sc X W → chkB G N ps sc sts = true → PSs X sts (tS X.K A mt W (execs (G.rt call mt) ps))
end
section
variable {G : Prog} {A : Cls} {fa : Nat → Addr} {fd : Nat → FuncData} {call : Nat → D → List D → Res} {n : Nat} {N : List Str} {mt : Bool} {X : Cx} {W : WX} {sc : Scope}
theorem PS.cg {st : Stmt} {f f' : Env → GW.Flow} (h : PS X st (tS X.K A mt W f)) (q : ∀ ρ, f' ρ = f ρ) : PS X st (tS X.K A mt W f') := by
  have z : f' = f := funext q
  rw [z]
  exact h
theorem Cs.lcl (C : Cs G A fa fd call n N sc X W) {x : Str} (h : lclB sc x = true) : X.env.scope.names.lookup x = some .local := by
  rw [C.c.hsc]
  exact lclB_ok h
theorem Cs.idx (C : Cs G A fa fd call n N sc X W) {i : Nat} {x : Str} (h : N[i]? = some x) : X.N[i]? = some x := by
  rw [C.c.hN]
  exact h
theorem Cs.kindX (C : Cs G A fa fd call n N sc X W) : X.env.scope.kind = .function := by
  rw [C.c.hsc]
  exact C.kind
theorem Cs.nms (C : Cs G A fa fd call n N sc X W) {is : List Nat} {es : List Expr} (h : namsL N sc is es = true) : Nms X es is := tgB_slots h C.c.hN (own_self C.c.hsc) C.fn
theorem Cs.tg (C : Cs G A fa fd call n N sc X W) {T : Tg} {t : Expr} (h : tgB N sc T t = true) : PGok X A t T := tgB_ok h C.c.c.calm C.c.c.nd C.c.hN (own_self C.c.hsc) C.fn
theorem Cs.nam (C : Cs G A fa fd call n N sc X W) {i : Nat} {t : Expr} (h : namL N sc i t = true) : ∃ x p, t = .Name x p ∧ X.N[i]? = some x ∧ Loc X.env.scope x ∧ (X.fn x = true ∨ X.env.scope.names.lookup x = some .local) := by
  unfold namL at h
  split at h <;> first | cases h | skip
  simp only [Bool.and_eq_true, decide_eq_true_eq] at h
  have hl := locB_ok h.2
  refine ⟨_, _, rfl, C.idx h.1, (own_self C.c.hsc).loc hl, ?_⟩
  rcases hl with hl | hl
  · right; rw [C.c.hsc]; exact hl
  · left; exact C.fn _ hl
theorem Cs.tr (C : Cs G A fa fd call n N sc X W) {W2 : WX} {pn : List (Addr × Obj)} {xe : Value → Shared → Prop} (c : Ctx G A fa fd call n (X.tr pn xe) W2) : Cs G A fa fd call n N sc (X.tr pn xe) W2 :=
  ⟨⟨c, C.c.hN, C.c.hsc⟩, C.kind, C.stk, C.fr, C.ex, C.fn⟩
theorem okV_swap {sc : Scope} {x : Str} {p : Pos} {v : Expr} {l : Nat} {env : PySem.Env} (hk : env.scope.kind = .function) (hv : okV v = true) : swapsWith v (some (.Name x p)) l env = pure (swapB env.scope (.Name x p) v) := by
  cases v with
  | ListComp elt gens scope vp => exact swLc_ok hk
  | SetComp _ _ _ _ => cases hv
  | DictComp _ _ _ _ _ => cases hv
  | _ => rfl
theorem t_asg (i : Nat) (p : Px) : PS1 G A fa fd call n N mt (.asg i p) := fun X W sc st C h => by
  unfold chkS at h
  split at h <;> first | cases h | skip
  rename_i t v pos
  simp only [Bool.and_eq_true, Bool.or_eq_true, Bool.not_eq_true'] at h
  obtain ⟨⟨⟨h1, h2⟩, h3⟩, h4⟩ := h
  obtain ⟨x, tp, rfl, g1, g2, g3⟩ := C.nam h1
  have s := (snd (mt := mt) p).1 false X W sc v C.c h3
  have hsw := okV_swap (sc := sc) (x := x) (p := tp) (l := pos.line) C.kindX h2
  rw [C.c.hsc] at hsw
  refine PS.cg (f := fun ρ => onOut (ev (G.rt call mt) false p ρ) fun x ρ => if okS (G.rt call mt) [i] then .nx (putV ρ i x) else .bad) ?_ fun ρ => by (conv => lhs; unfold exec)
  cases hb : swapB sc (.Name x tp) v with
  | false =>
    rw [hb] at hsw
    exact snd_asg rfl C.c.c.nd g1 g2 g3 s.pe hsw
  | true =>
    rw [hb] at hsw h4
    rcases h4 with h4 | h4
    · cases h4
    · cases p with
      | lc own tg it cond el =>
        unfold chk at h3
        split at h3 <;> first | cases h3 | skip
        rename_i elt t iter ifs scope vpos
        simp only [Bool.and_eq_true, decide_eq_true_eq] at h3
        obtain ⟨⟨⟨⟨⟨⟨h1, h2⟩, h3⟩, h4⟩, h5⟩, h6⟩, h7, h8, h9⟩ := h3
        have hl : X.env.scope.names.lookup x = some .local := by
          rw [C.c.hsc]
          have z : swLc sc x tp vpos scope = true := hb
          unfold swLc at z
          simp only [Bool.and_eq_true] at z
          exact eq_of_beq z.1.1
        have hp : PS X (.Assign [.Name x tp] (.ListComp elt [⟨t, iter, ifs, 0⟩] scope vpos) pos) (tAsg (tO X.K A W (lcC (fun ρ => (ev (G.rt call mt) false it ρ).frz.bind fun x ρ => Out.of (itemsv x) ρ) (fun ρ => evAnd (G.rt call mt) true cond ρ) (fun ρ => (ev (G.rt call mt) true el ρ).frz) tg ((named N own).map (·.2)))) (gName i)) := by
          refine snd_setLc C.c.c.calm C.c.c.nd g1 hl hsw ((snd it).2 false X W sc iter t C.c h7 h3) (by rw [C.c.hN, C.c.hsc]; exact blkOk_by h1) (fun s H a cl fp => tgB_ok h2 C.c.c.calm C.c.c.nd C.c.hN own_blk fun x hx => ?_) (fun s H a cl fp => ?_) (fun s H a cl fp => ((snd el).1 true _ _ _ _ C.c.blk h9).frz) (folded_no h4) (fun j hj => ?_) (evAnd_still _ _) (Still.frz (ev_still _ _))
          · show (scope.names.lookup x == some .cell) = true
            rw [hx]
            rfl
          · have z : (fun ρ => (evAnd (G.rt call mt) true cond ρ).tob) = fun ρ => (andC (cds G call mt true cond) ρ).tob := funext fun ρ => by rw [evAnd_C]
            rw [z]
            exact pts_of (snds cond true _ _ _ _ C.c.blk h8) (by rw [cds_len]; exact h6)
          · rw [own_map]
            rw [List.all_eq_true] at h5
            exact List.contains_iff_mem.mp (h5 j hj)
        rw [own_map] at hp
        have z : (lcC (fun ρ => (ev (G.rt call mt) false it ρ).frz.bind fun x ρ => Out.of (itemsv x) ρ) (fun ρ => evAnd (G.rt call mt) true cond ρ) (fun ρ => (ev (G.rt call mt) true el ρ).frz) tg own) = ev (G.rt call mt) false (.lc own tg it cond el) := funext fun ρ => ev_lc.symm
        rw [z] at hp
        exact snd_asg_of rfl hp
      | _ => cases h4
theorem t_asgT (is : List Nat) (p : Px) : PS1 G A fa fd call n N mt (.asgT is p) := fun X W sc st C h => by
  unfold chkS at h
  split at h <;> first | cases h | skip
  simp only [Bool.and_eq_true] at h
  obtain ⟨⟨h1, h2⟩, h3⟩ := h
  have s := (snd (mt := mt) p).1 false X W sc _ C.c h3
  exact PS.cg (snd_asgT (R := G.rt call mt) rfl C.c.c.calm C.c.c.nd (C.nms h1) s.frz sole_no (plainB_ok C.kindX (by rw [C.c.hsc]; exact h2))) fun ρ => by (conv => lhs; unfold exec) <;> rfl
theorem t_asgN (is : List Nat) (i : Nat) (es : List Px) : PS1 G A fa fd call n N mt (.asgN is i es) := fun X W sc st C h => by
  unfold chkS at h
  split at h <;> first | cases h | skip
  rename_i ts k p vs k2 p2 pos
  simp only [Bool.and_eq_true, decide_eq_true_eq] at h
  obtain ⟨⟨⟨h1, h2⟩, h3⟩, h4⟩ := h
  split at h4 <;> first | cases h4 | skip
  rename_i p3 r hr
  have e : vs = r.reverse ++ [.List [] p3] := by
    have := congrArg List.reverse hr
    rw [List.reverse_reverse, List.reverse_cons] at this
    exact this
  subst e
  have s := snds (mt := mt) es false X W sc _ C.c h4
  exact PS.cg (snd_asgN (R := G.rt call mt) rfl C.c.c.calm C.c.c.nd (C.nms h1) s h3 sole_no (plainB_ok C.kindX (by rw [C.c.hsc]; exact h2))) fun ρ => by (conv => lhs; unfold exec; simp only [evs_C]) <;> rfl
theorem t_asgs (is : List Nat) (es : List Px) : PS1 G A fa fd call n N mt (.asgs is es) := fun X W sc st C h => by
  unfold chkS at h
  split at h <;> first | cases h | skip
  rename_i ts k p vs k2 p2 pos
  simp only [Bool.and_eq_true, Bool.or_eq_true, decide_eq_true_eq] at h
  obtain ⟨h0, h⟩ := h
  have s := snds (mt := mt) es false X W sc _ C.c h0
  rcases h with ⟨h1, h2, h3⟩ | h
  · exact PS.cg (snd_asgO (R := G.rt call mt) rfl C.c.c.calm C.c.c.nd (C.nms h1) s h3 sole_no (plainB_ok C.kindX (by rw [C.c.hsc]; exact h2))) fun ρ => by (conv => lhs; unfold exec) <;> rfl
  · unfold swN at h
    split at h
    · unfold sw2 at h
      split at h <;> first | cases h | skip
      simp only [Bool.and_eq_true, decide_eq_true_eq] at h
      obtain ⟨⟨⟨⟨⟨h0, h1⟩, h2⟩, h3⟩, h4⟩, h5⟩ := h
      exact PS.cg (snd_parO2 (R := G.rt call mt) rfl C.c.c.calm C.c.c.nd (C.idx (by simpa using h1)) (C.idx (by simpa using h2)) h5 (C.lcl h3) (C.lcl h4) s (swB_ok C.kindX (by rw [C.c.hsc]; exact h0))) fun ρ => by (conv => lhs; unfold exec) <;> rfl
    · unfold sw3 at h
      split at h <;> first | cases h | skip
      simp only [Bool.and_eq_true, decide_eq_true_eq] at h
      obtain ⟨⟨⟨⟨⟨⟨⟨⟨⟨h0, h1⟩, h2⟩, h2'⟩, h3⟩, h4⟩, h4'⟩, h5⟩, h5'⟩, h5''⟩ := h
      exact PS.cg (snd_parO3 (R := G.rt call mt) rfl C.c.c.calm C.c.c.nd (C.idx (by simpa using h1)) (C.idx (by simpa using h2)) (C.idx (by simpa using h2')) h5 h5' h5'' (C.lcl h3) (C.lcl h4) (C.lcl h4') s (swB_ok C.kindX (by rw [C.c.hsc]; exact h0))) fun ρ => by (conv => lhs; unfold exec) <;> rfl
    · cases h
theorem t_par (is : List Nat) (es : List Px) : PS1 G A fa fd call n N mt (.par is es) := fun X W sc st C h => by
  match is, h with
  | [], h => unfold chkS at h; cases h
  | [_], h => unfold chkS at h; cases h
  | _ :: _ :: _ :: _ :: _, h => unfold chkS at h; cases h
  | [i, j], h =>
    unfold chkS at h
    split at h <;> first | cases h | skip
    simp only [Bool.and_eq_true, decide_eq_true_eq] at h
    obtain ⟨⟨⟨⟨⟨⟨h0, h1⟩, h2⟩, h3⟩, h4⟩, h5⟩, h6⟩ := h
    exact PS.cg (snd_par2 (R := G.rt call mt) rfl C.c.c.calm C.c.c.nd (C.idx h1) (C.idx h2) h5 (C.lcl h3) (C.lcl h4) (snds es false X W sc _ C.c h6) (swB_ok C.kindX (by rw [C.c.hsc]; exact h0))) fun ρ => by (conv => lhs; unfold exec; simp only [evs_C]) <;> rfl
  | [i, j, l], h =>
    unfold chkS at h
    split at h <;> first | cases h | skip
    simp only [Bool.and_eq_true, decide_eq_true_eq] at h
    obtain ⟨⟨⟨⟨⟨⟨⟨⟨⟨⟨h0, h1⟩, h2⟩, h2'⟩, h3⟩, h4⟩, h4'⟩, h5⟩, h5'⟩, h5''⟩, h6⟩ := h
    exact PS.cg (snd_par3 (R := G.rt call mt) rfl C.c.c.calm C.c.c.nd (C.idx h1) (C.idx h2) (C.idx h2') h5 h5' h5'' (C.lcl h3) (C.lcl h4) (C.lcl h4') (snds es false X W sc _ C.c h6) (swB_ok C.kindX (by rw [C.c.hsc]; exact h0))) fun ρ => by (conv => lhs; unfold exec; simp only [evs_C]) <;> rfl
theorem t_exp (p : Px) : PS1 G A fa fd call n N mt (.exp p) := fun X W sc st C h => by
  unfold chkS at h
  split at h <;> first | cases h | skip
  rw [Bool.and_eq_true] at h
  exact PS.cg (snd_exp ((snd (mt := mt) p).1 false X W sc _ C.c h.2).pe h.1) fun ρ => by (conv => lhs; unfold exec) <;> rfl
theorem t_app (q : Pl) (p : Px) : PS1 G A fa fd call n N mt (.app q p) := fun X W sc st C h => by
  cases q with
  | fld i f => unfold chkS at h; cases h
  | sl i =>
    unfold chkS at h
    split at h <;> first | cases h | skip
    simp only [Bool.and_eq_true, decide_eq_true_eq] at h
    obtain ⟨⟨⟨⟨rfl, h1⟩, h2⟩, h3⟩, h4⟩ := h
    obtain ⟨x, xp, rfl, g⟩ := C.c.var h1
    exact PS.cg (snd_app g ((snd (mt := mt) p).1 false X W sc _ C.c h4).frz h3 h2) fun ρ => by (conv => lhs; unfold exec) <;> rfl
theorem t_ext (q : Pl) (p : Px) : PS1 G A fa fd call n N mt (.ext q p) := fun X W sc st C h => by
  cases q with
  | fld i f => unfold chkS at h; cases h
  | sl i =>
    unfold chkS at h
    split at h <;> first | cases h | skip
    simp only [Bool.and_eq_true, decide_eq_true_eq] at h
    obtain ⟨⟨⟨⟨rfl, h1⟩, h2⟩, h3⟩, h4⟩ := h
    obtain ⟨x, xp, rfl, g⟩ := C.c.var h1
    exact PS.cg (snd_ext g ((snd (mt := mt) p).1 false X W sc _ C.c h4).frz h3 h2) fun ρ => by (conv => lhs; unfold exec) <;> rfl
theorem t_insr (q : Pl) (k p : Px) : PS1 G A fa fd call n N mt (.insr q k p) := fun X W sc st C h => by
  cases q with
  | fld i f => unfold chkS at h; cases h
  | sl i =>
    unfold chkS at h
    split at h <;> first | cases h | skip
    simp only [Bool.and_eq_true, decide_eq_true_eq] at h
    obtain ⟨⟨⟨⟨⟨⟨rfl, h1⟩, h2⟩, h3⟩, h4⟩, h5⟩, h6⟩ := h
    obtain ⟨x, xp, rfl, g⟩ := C.c.var h1
    exact PS.cg (snd_insr g ((snd (mt := mt) k).1 false X W sc _ C.c h5).frz ((snd (mt := mt) p).1 false X W sc _ C.c h6).frz h3 h4 h2) fun ρ => by (conv => lhs; unfold exec) <;> rfl
theorem t_setk (q : Pl) (k p : Px) : PS1 G A fa fd call n N mt (.setk q k p) := fun X W sc st C h => by
  cases q with
  | fld i f => unfold chkS at h; cases h
  | sl i =>
    unfold chkS at h
    split at h <;> first | cases h | skip
    simp only [Bool.and_eq_true] at h
    obtain ⟨⟨h1, h2⟩, h3⟩ := h
    obtain ⟨x, xp, rfl, g⟩ := C.c.var h1
    exact PS.cg (snd_setk C.c.units g ((snd (mt := mt) k).1 false X W sc _ C.c h2).frz ((snd (mt := mt) p).1 false X W sc _ C.c h3).frz) fun ρ => by (conv => lhs; unfold exec) <;> rfl
theorem t_ite {c : Px} {a b : List Ps} (ha : PSL G A fa fd call n N mt a) (hb : PSL G A fa fd call n N mt b) : PS1 G A fa fd call n N mt (.ite c a b) := fun X W sc st C h => by
  unfold chkS at h
  split at h <;> first | cases h | skip
  simp only [Bool.and_eq_true] at h
  exact PS.cg (snd_ite ((snd (mt := mt) c).1 false X W sc _ C.c h.1).pt (ha X W sc _ C h.2.1) (hb X W sc _ C h.2.2)) fun ρ => by (conv => lhs; unfold exec) <;> rfl
theorem exec_for {R : Rt} {tg : Tg} {it : Px} {b : List Ps} {ρ : Env} : exec R (.forS tg it b) ρ = onOut ((ev R false it ρ).frz.bind fun x ρ => Out.of (itemsv x) ρ) fun xs ρ => if okS R tg.slots then forL (fun d ρ => match setTg ρ tg d with
      | some ρ => execs R b ρ
      | none => .bad) xs ρ else .bad := by
  conv => lhs; unfold exec
  cases (ev R false it ρ).frz with
  | ok x ρ =>
    dsimp only [onOut, Out.bind]
    cases itemsv x with
    | none => rfl
    | some xs => rfl
  | _ => rfl
theorem t_for {tg : Tg} {it : Px} {b : List Ps} (hb : PSL G A fa fd call n N mt b) : PS1 G A fa fd call n N mt (.forS tg it b) := fun X W sc st C h => by
  unfold chkS at h
  split at h <;> first | cases h | skip
  simp only [Bool.and_eq_true] at h
  obtain ⟨⟨⟨⟨h1, h2⟩, h3⟩, h4⟩, h5⟩ := h
  exact PS.cg (snd_for (R := G.rt call mt) rfl C.c.c.po C.c.c.calm ((snd (mt := mt) it).2 false X W sc _ _ C.c h4 h2) (C.tg h1) (hb X W sc _ C h5) (folded_no h3)) fun ρ => exec_for
theorem t_whl {c : Px} {b : List Ps} (hb : PSL G A fa fd call n N mt b) : PS1 G A fa fd call n N mt (.whl c b) := fun X W sc st C h => by
  unfold chkS at h
  split at h <;> first | cases h | skip
  simp only [Bool.and_eq_true] at h
  exact PS.cg (snd_whl C.c.c.po ((snd (mt := mt) c).1 false X W sc _ C.c h.1).pt (hb X W sc _ C h.2)) fun ρ => by (conv => lhs; unfold exec) <;> rfl
theorem t_ret (p : Px) : PS1 G A fa fd call n N mt (.ret p) := fun X W sc st C h => by
  unfold chkS at h
  split at h <;> first | cases h | skip
  exact PS.cg (snd_ret ((snd (mt := mt) p).1 false X W sc _ C.c h).pe) fun ρ => by (conv => lhs; unfold exec) <;> rfl
theorem t_retN : PS1 G A fa fd call n N mt .retN := fun X W sc st C h => by
  unfold chkS at h
  split at h <;> first | cases h | skip
  exact PS.cg snd_retN fun ρ => by (conv => lhs; unfold exec) <;> rfl
theorem t_raise (c : Nat) : PS1 G A fa fd call n N mt (.raise c) := fun X W sc st C h => by
  unfold chkS at h
  split at h <;> first | cases h | skip
  simp only [Bool.and_eq_true, decide_eq_true_eq] at h
  exact PS.cg (snd_raise C.c.c h.1.1 (C.c.gl h.1.2) h.2) fun ρ => by (conv => lhs; unfold exec) <;> rfl
theorem t_try {body : List Ps} {c i k : Nat} (hb : PSL G A fa fd call n N mt body) : PS1 G A fa fd call n N mt (.tryK body c i k) := fun X W sc st C h => by
  unfold chkS at h
  split at h <;> first | cases h | skip
  simp only [Bool.and_eq_true, decide_eq_true_eq] at h
  obtain ⟨⟨⟨⟨⟨⟨⟨⟨⟨⟨rfl, h1⟩, h2⟩, h3⟩, h4⟩, h5⟩, h6⟩, h7⟩, h8⟩, h9⟩, h10⟩ := h
  exact PS.cg (snd_try C.c.c C.stk C.fr C.ex (C.idx h1) (C.lcl h2) (C.idx h3) (C.lcl h4) h5 h6 h7 (C.c.gl h8) h9 fun W2 pn xe c2 => hb (X.tr pn xe) W2 sc _ (C.tr c2) h10) fun ρ => by (conv => lhs; unfold exec) <;> rfl
theorem t_brk : PS1 G A fa fd call n N mt .brk := fun X W sc st C h => by
  unfold chkS at h
  split at h <;> first | cases h | skip
  exact PS.cg snd_brk fun ρ => by (conv => lhs; unfold exec) <;> rfl
theorem t_cont : PS1 G A fa fd call n N mt .cont := fun X W sc st C h => by
  unfold chkS at h
  split at h <;> first | cases h | skip
  exact PS.cg snd_cont fun ρ => by (conv => lhs; unfold exec) <;> rfl
theorem t_pass : PS1 G A fa fd call n N mt .pass := fun X W sc st C h => by
  unfold chkS at h
  split at h <;> first | cases h | skip
  exact PS.cg snd_pass fun ρ => by (conv => lhs; unfold exec) <;> rfl
theorem no_S {p : Ps} (h : ∀ sc st, chkS G N p sc st = false) : PS1 G A fa fd call n N mt p := fun X W sc st C q => by
  rw [h] at q
  cases q
mutual
theorem sndS : ∀ p : Ps, PS1 G A fa fd call n N mt p
  | .asg i e => t_asg i e
  | .asgT is e => t_asgT is e
  | .asgN is i es => t_asgN is i es
  | .asgs is es => t_asgs is es
  | .par is es => t_par is es
  | .exp e => t_exp e
  | .app q e => t_app q e
  | .ext q e => t_ext q e
  | .insr q k e => t_insr q k e
  | .setk q k v => t_setk q k v
  | .setf i f e => no_S fun sc st => by unfold chkS; rfl
  | .ite c a b => t_ite (sndB a) (sndB b)
  | .forS tg it b => t_for (sndB b)
  | .whl c b => t_whl (sndB b)
  | .ret e => t_ret e
  | .retN => t_retN
  | .raise c => t_raise c
  | .tryK body c i k => t_try (sndB body)
  | .brk => t_brk
  | .cont => t_cont
  | .pass => t_pass
theorem sndB : ∀ ps : List Ps, PSL G A fa fd call n N mt ps
  | [] => fun X W sc sts C h => by
    unfold chkB at h
    cases sts with
    | nil =>
      have z : execs (G.rt call mt) [] = fun ρ => .nx ρ := funext fun ρ => by unfold execs; rfl
      rw [z]
      exact snd_nil
    | cons _ _ => cases h
  | p :: ps => fun X W sc sts C h => by
    unfold chkB at h
    cases sts with
    | nil => cases h
    | cons x xs =>
      simp only [Bool.and_eq_true] at h
      have z : execs (G.rt call mt) (p :: ps) = fun ρ => match exec (G.rt call mt) p ρ with
        | .nx ρ => execs (G.rt call mt) ps ρ
        | r => r := funext fun ρ => by (conv => lhs; unfold execs) <;> rfl
      rw [z]
      exact snd_cons (sndS p X W sc x C h.1) (sndB ps X W sc xs C h.2)
end
end
end GW
end

section
/-! C19: every def of the text does what its term tells. -/
namespace GW
open PySem PySem.Spec PyProof.Rows L2 RZ

/-- a def's term is good -/
structure DefOk (G : Prog) (d : He.DefD) (F : Fn) : Prop where
  at_ : d.at_ = (F.name, none)
  meth : F.meth = false
  dfl : d.dfl = []
  kwd : d.kwd = []
  sc : FnScope F.names F.pars d.scope
  body : chkB G F.names F.body d.scope d.body = true
  binds : ∀ (kV doc pm : Value) (an : Option Addr) (cdv ct : Value) (us : List Value), us.length = F.pars.length → bindArgs (PySem.W.fnOf d.name d.qual d.params d.body d.scope .none kV doc pm an cdv ct) ⟨us, []⟩ = pure (F.pars.zip us)

section
variable {K : PySem.W.Frag} {A : Cls}
theorem start_sta {S H : Hp} {ds : List D} {vs : List V} {k : Nat} (sub : Same S H) (r : Reps K A S ds vs) : Sta K A ⟨S, H, none⟩ S H (ds.map .fz ++ List.replicate k .no) (vs.map some ++ List.replicate k none) (fun _ => []) := by
  have key : ∀ {ds : List D} {vs : List V}, Reps K A S ds vs → ∀ i, SlR K A S H (getS (ds.map .fz ++ List.replicate k .no) i) (vs.map some ++ List.replicate k none)[i]? [] := by
    intro ds
    induction ds with
    | nil =>
      intro vs r i
      unfold Reps at r
      subst r
      have h : getS (([] : List D).map Sl.fz ++ List.replicate k .no) i = .no := by
        show getS (List.replicate k .no) i = .no
        unfold getS
        rw [List.getElem?_replicate]
        by_cases e : i < k
        · rw [if_pos e]
        · rw [if_neg e]
      rw [h]
      rfl
    | cons d ds ih =>
      intro vs r i
      unfold Reps at r
      obtain ⟨v, r', rfl, h1, h2⟩ := r
      cases i with
      | zero => exact ⟨rfl, v, rfl, h1⟩
      | succ i => exact ih h2 i
  refine ⟨?_, sub, fun i => key r i, fun i j _ a ha => by simp at ha, Same.refl H, Same.refl S, fun i a ha => by simp at ha, fun a o h => .inl h, fun w hw => by cases hw⟩
  simp [r.len]
theorem own_out {S H : Hp} {z : D × Bool} {v : V} {fp : List Addr} (r : RV K A S H z v fp) : ∀ a ∈ fp, S a = none := by
  intro a ha
  unfold RV at r
  split at r
  · exact (r.at a ha).1
  · rw [r.1] at ha
    simp at ha
end
section
variable {P : Program} {w : World} {K : PySem.W.Frag} {mg : Str → Option Value} {base : Heap} {G : Prog} {A : Cls} {fa : Nat → Addr} {fd : Nat → FuncData}
theorem fns_ok (Fc : Facts G A fa fd w K mg) (ok : ∀ (f : Nat) (F : Fn), G.fns[f]? = some F → ∃ d, DefOk G d F ∧ FunD K d.name d.qual d.params d.body d.scope [] [] (fa f) (fd f)) :
    ∀ (n f : Nat) (F : Fn), G.fns[f]? = some F → FnOk P w K mg base (L2.CX P w) n (fa f) (fd f) F.pars (spF K A (run G n) f F)
  | 0, f, F, hf => ⟨fun vs H Q E h => h.1, fun A0 outer s H args us vs Q E _ _ _ _ h => by
      obtain ⟨_, _, S, ds, _, _, h⟩ := h
      exact h.elim⟩
  | n + 1, f, F, hf => by
    obtain ⟨d, dk, FD⟩ := ok f F hf
    refine FD.ok dk.sc (fun vs H Q E h => h.1) fun cdv A0 outer s H vs Q E hr h => ?_
    obtain ⟨h1, _, S, ds, sub, r, h⟩ := h
    refine ⟨tS K A false (fun cls d _ H => E cls d H) (execs (G.rt (run G n) false) F.body), sndB F.body _ _ d.scope d.body ⟨⟨⟨Fc, fns_ok Fc ok n, hr, rfl, dk.sc.nd, takes_of rfl rfl rfl rfl, passes_of rfl⟩, rfl, rfl⟩, dk.sc.kind, rfl, rfl, rfl, fun _ _ => rfl⟩ dk.body, ?_⟩
    have hl : ds.length = vs.length := r.len.symm
    have st := start_sta (k := F.names.length - F.pars.length) sub r
    have e1 : L2.start F.names vs = vs.map some ++ List.replicate (F.names.length - F.pars.length) none := by
      unfold L2.start
      rw [h1]
    refine ⟨⟨S, H, none⟩, S, ds.map .fz ++ List.replicate (F.names.length - F.pars.length) .no, fun _ => [], .inl rfl, by rw [e1]; exact st, ?_⟩
    have e2 : run G (n + 1) f .non ds = (execs (G.rt (run G n) false) F.body (ds.map .fz ++ List.replicate (F.names.length - F.pars.length) .no)).res F := by
      show (match G.fns[f]? with
        | some F => runBody G (run G n) F .non ds
        | none => .bad) = _
      rw [hf]
      show runBody G (run G n) F .non ds = _
      unfold runBody Fn.start
      rw [dk.meth]
      rw [if_pos (by rw [hl, h1]; rfl)]
      rfl
    rw [e2] at h
    cases hx : execs (G.rt (run G n) false) F.body (ds.map .fz ++ List.replicate (F.names.length - F.pars.length) .no) with
    | nx ρ =>
      rw [hx] at h
      unfold Flow.res selfOf at h
      rw [dk.meth] at h
      intro S' H' σ fs e s
      exact h S' H' .non [] e s.ghost s.sub s.snew (RV.plain Rep.non) (by simp)
    | rt d o ρ =>
      rw [hx] at h
      unfold Flow.res selfOf at h
      rw [dk.meth] at h
      intro S' H' σ fs v fp e s rv ap
      exact h S' H' v fp e s.ghost s.sub s.snew rv fun a ha => ⟨(ap a ha).1, own_out rv a ha⟩
    | exn c ρ =>
      rw [hx] at h
      unfold Flow.res selfOf at h
      rw [dk.meth] at h
      intro S' H' σ fs e s
      exact h H' s.ghost
    | bk ρ => rw [hx] at h; exact h.elim
    | ct ρ => rw [hx] at h; exact h.elim
    | bad => rw [hx] at h; exact h.elim
end
end GW
end

section
/-! C20: what the head told is what the terms lean on; a law's end. -/
namespace GW
open PySem PySem.Spec PyProof.Rows L2 RZ

/-! ### constants of the text -/
mutual
def repB (K : PySem.W.Frag) : D → Value → Bool
  | .non, u => match u with
    | .none => true
    | _ => false
  | .bl b, u => match u with
    | .bool c => b == c
    | _ => false
  | .int i, u => match u with
    | .int j _ => decide (i = j)
    | _ => false
  | .str s, u => match u with
    | .str t _ => decide (s = t)
    | _ => false
  | .tup ds, u => match u with
    | .ref a => match K.lookup a with
      | some ⟨.type c, _, .seq its _, _⟩ => decide (c = "tuple") && decide (its.size ≤ sizeLine) && repsB K ds its.toList
      | _ => false
    | _ => false
  | _, _ => false
def repsB (K : PySem.W.Frag) : List D → List Value → Bool
  | [], us => us.isEmpty
  | d :: ds, us => match us with
    | u :: us => repB K d u && repsB K ds us
    | [] => false
end
mutual
theorem repB_ok {K : PySem.W.Frag} {A : Cls} : ∀ {d : D} {u : Value}, repB K d u = true → ∃ v, RelV v u ∧ Rep K A (fun _ => none) d v
  | .non, u, h => by
    unfold repB at h
    split at h <;> first | cases h | skip
    exact ⟨.non, rfl, Rep.non⟩
  | .bl b, u, h => by
    unfold repB at h
    split at h <;> first | cases h | skip
    cases eq_of_beq h
    exact ⟨.bl b, rfl, Rep.bl _⟩
  | .int i, u, h => by
    unfold repB at h
    split at h <;> first | cases h | skip
    cases of_decide_eq_true h
    exact ⟨.int i, ⟨_, rfl⟩, Rep.int _⟩
  | .str s, u, h => by
    unfold repB at h
    split at h <;> first | cases h | skip
    cases of_decide_eq_true h
    exact ⟨.str s, ⟨_, rfl⟩, Rep.str _⟩
  | .tup ds, u, h => by
    unfold repB at h
    split at h <;> first | cases h | skip
    split at h <;> first | cases h | skip
    rename_i a _ c od its n sl q
    simp only [Bool.and_eq_true, decide_eq_true_eq] at h
    obtain ⟨⟨rfl, h2⟩, h3⟩ := h
    obtain ⟨vs, r1, r2⟩ := repsB_ok (A := A) h3
    exact ⟨.ref a, rfl, by unfold Rep; exact ⟨a, vs, rfl, .inr ⟨_, its, n, q, rfl, rfl, h2, r1⟩, r2⟩⟩
  | .lst _, u, h => by unfold repB at h; cases h
  | .dic _, u, h => by unfold repB at h; cases h
  | .exc _, u, h => by unfold repB at h; cases h
  | .ins _ _, u, h => by unfold repB at h; cases h
theorem repsB_ok {K : PySem.W.Frag} {A : Cls} : ∀ {ds : List D} {us : List Value}, repsB K ds us = true → ∃ vs, Vals vs us ∧ Reps K A (fun _ => none) ds vs
  | [], us, h => by
    unfold repsB at h
    cases us with
    | nil => exact ⟨[], .nil, Reps.nil⟩
    | cons _ _ => cases h
  | d :: ds, us, h => by
    unfold repsB at h
    cases us with
    | nil => cases h
    | cons u us =>
      dsimp only at h
      rw [Bool.and_eq_true] at h
      obtain ⟨v, r1, r2⟩ := repB_ok (A := A) h.1
      obtain ⟨vs, r3, r4⟩ := repsB_ok (A := A) h.2
      exact ⟨v :: vs, .cons r1 r3, Reps.cons r2 r4⟩
end
def dicB (K : PySem.W.Frag) (x : Str) (kvs : List (Str × D)) : Bool := kvs.all fun q => match PySem.W.nsIn K (He.ga K x) q.1 with
  | some (some u) => repB K q.2 u
  | _ => false
def gloK (K : PySem.W.Frag) (q : Str × D) : Bool := match D.dic? q.2 with
  | some kvs => dicB K q.1 kvs
  | none => match PySem.W.nsIn K mainGlobals q.1 with
    | some (some u) => repB K q.2 u
    | _ => false
/-! ### refusals -/
def eqW (a b : Option (Option Value)) : Bool := decide (a = b)
def excB (K : PySem.W.Frag) (x : Str) : Bool :=
  eqW (PySem.W.findIn K (.ref (He.ga K x)) "__getattribute__") (some (some (.builtin "BaseException.__getattribute__"))) &&
  (eqW (PySem.W.findIn K (.ref (He.ga K x)) "__getattr__") (some none) &&
  (PySem.W.hasDictIn K (He.ga K x) &&
  (eqW (PySem.W.findIn K (.ref (He.ga K x)) "__class__") (some (some (.builtin "object.__class__"))) &&
  (eqW (PySem.W.specialIn K (.builtin "object.__class__") "__get__") (some (some (.builtin "getset_descriptor.__get__"))) &&
  (decide (PySem.W.takesIn K (.builtin "object.__class__") = some true) &&
  (decide (PySem.W.mroIn K (He.ga K x) (.type "object") = some true) &&
  decide (PySem.W.kitOne K (.ref (He.ga K x)) (.type "ValueError") = some true)))))))
def excN (G : Prog) (c : Nat) : Str := (G.excs[c]?).getD ("" : Str)
def subB (G : Prog) (K : PySem.W.Frag) : Bool := (List.range G.excs.length).all fun c => (List.range G.excs.length).all fun k => match G.sub c k with
  | some b => decide (PySem.W.kitOne K (.ref (He.ga K (excN G c))) (.ref (He.ga K (excN G k))) = some b) && decide (PySem.W.exmOne K (.ref (He.ga K (excN G c))) (.ref (He.ga K (excN G k))) = some b)
  | none => true
/-- no list stands in the head's part -/
def noLst (K : PySem.W.Frag) : Bool := K.all fun q => match q.2.cls with
  | .type c => c != "list"
  | _ => true
def exB (G : Prog) (K : PySem.W.Frag) : Bool := noLst K && (G.glos.all (gloK K) && (G.excs.all (excB K) && subB G K))
/-- the dicts among the constants -/
def dicOf (q : Str × D) : Option He.Tab := match D.dic? q.2 with
  | some kvs => some (fun K => He.ga K q.1, kvs.map (·.1))
  | none => none
def tsOf (G : Prog) : List He.Tab := G.glos.filterMap dicOf
def dicN (q : Str × D) : Option He.Fa := match D.dic? q.2 with
  | some _ => some (.glo q.1)
  | none => none
def faOf (G : Prog) : List He.Fa := bnames.map .free ++ (G.fns.filterMap (fun F => if F.meth then none else some (.glo F.name)) ++ (G.excs.map .exc ++ (G.excs.map .glo ++ G.glos.filterMap dicN)))
def clsOf (G : Prog) (K : PySem.W.Frag) : Cls := ⟨fun c => He.ga K (excN G c), fun _ => 0⟩

/-- all defs have good terms -/
inductive DefsOk (G : Prog) : List He.DefD → List Fn → Prop
  | nil : DefsOk G [] []
  | cons {d : He.DefD} {F : Fn} {ds : List He.DefD} {Fs : List Fn} : DefOk G d F → DefsOk G ds Fs → DefsOk G (d :: ds) (F :: Fs)
theorem DefsOk.get {G : Prog} {ds : List He.DefD} {Fs : List Fn} (h : DefsOk G ds Fs) : ∀ {f : Nat} {F : Fn}, Fs[f]? = some F → ∃ d, ds[f]? = some d ∧ DefOk G d F := by
  induction h with
  | nil => intro f F e; simp at e
  | @cons d F ds Fs h1 _ ih =>
    intro f F' e
    cases f with
    | zero => cases e; exact ⟨d, rfl, h1⟩
    | succ f => exact ih e
section
variable {G : Prog} {defs : List He.DefD} {K : PySem.W.Frag} {mg : Str → Option Value} {h : Heap} {fd : Nat → FuncData} {w : World}
def faAt (K : PySem.W.Frag) (defs : List He.DefD) (f : Nat) : Addr := match defs[f]? with
  | some d => He.fAd K d.at_
  | none => 0
theorem facts_of (hd : DefsOk G defs G.fns) (ct : He.SaysT (faOf G) defs (tsOf G) w K) (e : exB G K = true) (X : K.In h) (Gs : h.Ns mainGlobals mg) (hfd : ∀ f d, defs[f]? = some d → FunD K d.name d.qual d.params d.body d.scope (d.dvs K) (d.kws K) (He.fAd K d.at_) (fd f)) :
    Facts G (clsOf G K) (faAt K defs) fd w K mg := by
  have c := ct.d
  unfold exB at e
  simp only [Bool.and_eq_true] at e
  obtain ⟨_, e1, e2, e3⟩ := e
  refine ⟨fun g x d hg hdic => ?_, fun g x kvs hg => ?_, fun x hx => ?_, fun f F hf hm => ?_, fun f F hf => ?_, fun k x hx => ?_, fun k j b hb => ?_⟩
  · have q := List.all_eq_true.mp e1 _ (List.mem_of_getElem? hg)
    unfold gloK at q
    rw [hdic] at q
    dsimp only at q
    split at q <;> first | cases q | skip
    rename_i u hu
    obtain ⟨v, r1, r2⟩ := repB_ok (A := clsOf G K) q
    exact ⟨u, v, PySem.W.mg_of X Gs hu, r1, r2⟩
  · have hm := List.mem_of_getElem? hg
    have q := List.all_eq_true.mp e1 _ hm
    have hgl := He.glo_ok X Gs (c.facts (f := .glo x) (by
      unfold faOf
      refine List.mem_append_right _ (List.mem_append_right _ (List.mem_append_right _ (List.mem_append_right _ (List.mem_filterMap.mpr ⟨(x, .dic kvs), hm, rfl⟩))))))
    have ht : ((fun K => He.ga K x, kvs.map (·.1)) : He.Tab) ∈ tsOf G := List.mem_filterMap.mpr ⟨(x, .dic kvs), hm, rfl⟩
    obtain ⟨i, hi, ei⟩ := List.mem_iff_getElem.mp ht
    obtain ⟨es, n, D⟩ := ct.tab i (t := (fun K => He.ga K x, kvs.map (·.1))) (by rw [List.getElem?_eq_getElem hi, ei])
    refine ⟨He.ga K x, hgl, fun k d hk => ?_⟩
    have q2 := List.all_eq_true.mp (show dicB K x kvs = true from q) _ (PySem.mem_of_lookup hk)
    dsimp only at q2
    split at q2 <;> first | cases q2 | skip
    rename_i u hu
    obtain ⟨v, r1, r2⟩ := repB_ok (A := clsOf G K) q2
    exact ⟨v, ⟨es, n, u, D.at_, D.lit, hu, r1⟩, r2⟩
  · exact He.free_ok X Gs (c.facts (f := .free x) (by unfold faOf; exact List.mem_append_left _ (List.mem_map_of_mem hx)))
  · obtain ⟨d, h1, h2⟩ := hd.get hf
    have q := He.glo_ok X Gs (c.facts (f := .glo F.name) (by
      unfold faOf
      refine List.mem_append_right _ (List.mem_append_left _ (List.mem_filterMap.mpr ⟨F, List.mem_of_getElem? hf, ?_⟩))
      rw [hm]
      rfl))
    rw [q]
    unfold faAt
    rw [h1]
    dsimp only
    rw [h2.at_]
    rfl
  · obtain ⟨d, h1, h2⟩ := hd.get hf
    have q := hfd f d h1
    have z : faAt K defs f = He.fAd K d.at_ := by
      unfold faAt
      rw [h1]
    unfold He.DefD.dvs He.DefD.kws at q
    rw [h2.dfl, h2.kwd] at q
    rw [z]
    exact ⟨q.kp, FunD.bindsN q h2.binds⟩
  · have hx' : x ∈ G.excs := List.mem_of_getElem? hx
    have q := List.all_eq_true.mp e2 x hx'
    have en : excN G k = x := by
      unfold excN
      rw [hx]
      rfl
    have m1 := He.glo_ok X Gs (c.facts (f := .glo x) (by unfold faOf; exact List.mem_append_right _ (List.mem_append_right _ (List.mem_append_right _ (List.mem_append_left _ (List.mem_map_of_mem hx'))))))
    obtain ⟨m2, m3, m4, m5⟩ := He.exc_ok (c.facts (f := .exc x) (by unfold faOf; exact List.mem_append_right _ (List.mem_append_right _ (List.mem_append_left _ (List.mem_map_of_mem hx')))))
    unfold excB eqW at q
    simp only [Bool.and_eq_true, decide_eq_true_eq] at q
    obtain ⟨q1, q2, q3, q4, q5, q6, q7, q8⟩ := q
    show mg x = some (.ref (He.ga K (excN G k))) ∧ _
    rw [en]
    refine ⟨m1, ?_⟩
    show PySem.W.keepIn K (.ref (He.ga K (excN G k))) = true ∧ PySem.W.excIn K (He.ga K (excN G k)) _ _ = true ∧ PySem.W.subIn K (.ref (He.ga K (excN G k))) _ = _ ∧ PySem.W.typeIn K (.ref (He.ga K (excN G k))) = _ ∧ ExcC K (He.ga K (excN G k)) ∧ PySem.W.kitOne K (.ref (He.ga K (excN G k))) _ = _
    rw [en]
    exact ⟨m3, m2, m4, m5, ⟨q1, q2, m4, q3, q4, q5, q6, q7⟩, q8⟩
  · obtain ⟨l1, l2⟩ := Prog.sub_lt hb
    unfold subB at e3
    have q := List.all_eq_true.mp (List.all_eq_true.mp e3 k (List.mem_range.mpr l1)) j (List.mem_range.mpr l2)
    rw [hb] at q
    simp only [Bool.and_eq_true, decide_eq_true_eq] at q
    exact q
end
/-! ### a law's end -/
theorem rep_ints {K : PySem.W.Frag} {A : Cls} {H : Hp} : ∀ ns : List Int, Reps K A H (ns.map .int) (ns.map V.int)
  | [] => Reps.nil
  | n :: ns => Reps.cons (Rep.int n) (rep_ints ns)
theorem noLst_ok {K : PySem.W.Frag} (e : noLst K = true) {H : Hp} {a : Addr} {xs : List V} (h : SqL K H a xs) : Rd H a (.lst xs) := by
  rcases h with h | ⟨o, its, n, h1, h2, _⟩
  · exact h
  · unfold noLst at e
    have q := List.all_eq_true.mp e _ (He.lookup_mem h1)
    dsimp only at q
    rw [h2] at q
    cases q
theorem law_walk {l : PySem.W.OpenLaw} {q : Program} {loose : List Str} {XP : (Str → Option Value) → Heap → Prop} {dr : DefRec} {G : Prog} {defs : List He.DefD} {nH f N : Nat} {F : Fn} {x : Str}
    (hn : l.most = some 63) (hdf : dr.params.defaults = []) (hname : dr.name = F.name) (hf : G.fns[f]? = some F) (hp : F.pars = [x]) (hd : DefsOk G defs G.fns) (hr : Room N callerA)
    (hlaw : ∀ ns : List Int, ns.length ≤ 63 → (∀ z ∈ ns, Builtin.Int.intBits z ≤ 1048576) → ∃ o, run G N f .non [.lst (ns.map .int)] = .ok (.bl true) o .non) :
    PySem.W.WalkO q loose XP (He.hookX nH (faOf G) defs (tsOf G) [] (exB G)).says l.row.toRowW dr [] (fun f vs => PySem.call f vs) := by
  refine Att.attach_callB hn hdf fun w s₀ s₁ mg mb fa o pm cd doc a vs ns Gr Y ho hdd hcd hmg hobj hints hlen hbits hg => ?_
  obtain ⟨K, KX, c⟩ := Y
  have cd' := c.t.d
  have ex := c.more
  have ch : ∀ i : Nat, ∃ fdi : FuncData, ∀ d : He.DefD, defs[i]? = some d → FunD K d.name d.qual d.params d.body d.scope (d.dvs K) (d.kws K) (He.fAd K d.at_) fdi := fun i => by
    cases hi : defs[i]? with
    | none => exact ⟨default, fun d h => by cases h⟩
    | some d =>
      obtain ⟨fdi, h⟩ := cd'.def_ i (d := d) hi
      exact ⟨fdi, fun d' h' => by cases h'; exact h⟩
  obtain ⟨fd, hfd⟩ := Classical.axiomOfChoice ch
  obtain ⟨d, g1, g2⟩ := hd.get hf
  have FD := hfd f d g1
  unfold He.DefD.dvs He.DefD.kws at FD
  rw [g2.dfl, g2.kwd] at FD
  have hfa : He.fAd K d.at_ = fa := by
    have e1 := He.glo_ok KX Gr.T.g (cd'.facts (f := .glo F.name) (by
      unfold faOf
      refine List.mem_append_right _ (List.mem_append_left _ (List.mem_filterMap.mpr ⟨F, List.mem_of_getElem? hf, ?_⟩))
      rw [g2.meth]
      rfl))
    rw [hname] at hmg
    rw [hmg] at e1
    rw [g2.at_]
    cases e1
    rfl
  have hfa2 : faAt K defs f = fa := by
    unfold faAt
    rw [g1]
    exact hfa
  have bnd : ∀ (s : Shared) (u : Value), BindsTo s (fd f) ⟨[u], []⟩ [(x, u)] := fun s u => by
    have b := FunD.bindsA FD g2.binds s [u] (by rw [hp]; rfl)
    rw [hp] at b
    exact b
  refine law_call (CX := L2.CX l.prog w) (k := N) (x := x) (fd := fd f) (sp := spF K (clsOf G K) (run G N) f F) KX Gr.T.g Gr.T.b Gr.T.builtins Gr.T.nolimit hg hobj hints (Nat.le_trans hlen (by decide)) hr (fun base kb nsb => ?_) bnd (fun H hO hS => ?_) fun H e s' z => ?_
  · have Fc := facts_of hd c.t ex kb nsb hfd
    have r := fns_ok (P := l.prog) (w := w) (base := base) Fc (fun f F hf => by
      obtain ⟨d, k1, k2⟩ := hd.get hf
      have FD := hfd f d k1
      unfold He.DefD.dvs He.DefD.kws at FD
      rw [k2.dfl, k2.kwd] at FD
      have z : faAt K defs f = He.fAd K d.at_ := by
        unfold faAt
        rw [k1]
      exact ⟨d, k2, by rw [z]; exact FD⟩) N f F hf
    rw [hfa2, hp] at r
    exact r
  · refine ⟨by rw [hp]; rfl, g2.meth, H, [.lst (ns.map .int)], Same.refl H, Reps.one (by unfold Rep; exact ⟨a, _, rfl, noLst_ok (by unfold exB at ex; exact (Bool.and_eq_true_iff.mp ex).1) hS, rep_ints ns⟩), ?_⟩
    obtain ⟨o, e⟩ := hlaw ns hlen hbits
    rw [e]
    intro S' H' v fp e1 e2 e3 e4 r ap
    unfold RV at r
    cases o with
    | false =>
      rw [if_neg (by simp)] at r
      exact r.2.bl_inv
    | true =>
      rw [if_pos rfl] at r
      exact r.elim
  · obtain ⟨_, _, _, _, _, _, _, _, _, _, _, _, z⟩ := z
    exact z.elim
end GW
end

section
/-! S1: what a term comes to, told forward: rules to rewrite by. -/
namespace GW
/-- a key: what it is about is not looked into by the rewriting -/
structure Lk {α : Type} (a : α) : Type where
structure Lk2 (p q : Prop) : Type where
/-- no instance is put to others' use -/
def nf (d : D) (o : Bool) : Prop := (o && d.isIns) = false
/-- what an answer comes to -/
def ww {α : Type} (o : Out α) (K : α → Env → Prop) (X : Nat → Env → Prop) : Prop := match o with
  | .ok x ρ => K x ρ
  | .exn c ρ => X c ρ
  | .bad => False
def WE (R : Rt) (m : Bool) (e : Px) (ρ : Env) (K : D → Bool → Env → Prop) (X : Nat → Env → Prop) (_t : Lk (K, X) := {}) : Prop := ww (ev R m e ρ) (fun x ρ => K x.1 x.2 ρ) X
def WL (R : Rt) (m : Bool) (es : List Px) (ρ : Env) (K : List D → Env → Prop) (X : Nat → Env → Prop) (_t : Lk (K, X) := {}) : Prop := ww (evs R m es ρ) K X
def WA (R : Rt) (m : Bool) (es : List Px) (ρ : Env) (K : D → Bool → Env → Prop) (X : Nat → Env → Prop) (_t : Lk (K, X) := {}) : Prop := ww (evAnd R m es ρ) (fun x ρ => K x.1 x.2 ρ) X
def WO (R : Rt) (m : Bool) (es : List Px) (ρ : Env) (K : D → Bool → Env → Prop) (X : Nat → Env → Prop) (_t : Lk (K, X) := {}) : Prop := ww (evOr R m es ρ) (fun x ρ => K x.1 x.2 ρ) X
def gd (Q : Flow → Prop) : Flow → Prop
  | .bad => False
  | .nx ρ => Q (.nx ρ)
  | .rt d o ρ => Q (.rt d o ρ)
  | .bk ρ => Q (.bk ρ)
  | .ct ρ => Q (.ct ρ)
  | .exn c ρ => Q (.exn c ρ)
def WS (R : Rt) (ss : List Ps) (ρ : Env) (Q : Flow → Prop) : Prop := gd Q (execs R ss ρ)
/-- a branch -/
def BR (d : D) (P P' : Prop) (_t : Lk2 P P' := {}) : Prop := match d with
  | .bl b => (b = true → P) ∧ (b = false → P')
  | _ => False
def D.lst? : D → Option (List D)
  | .lst xs => some xs
  | _ => none
/-- an answer that must be there -/
def OV {α : Type} (o : Option α) (k : α → Prop) (_t : Lk k := {}) : Prop := match o with
  | some a => k a
  | none => False
/-- a call's answer -/
def CW (r : Res) (ρ : Env) (K : D → Bool → Env → Prop) (X : Nat → Env → Prop) (_t : Lk (K, X) := {}) : Prop := match r with
  | .ok d o .non => K d o ρ
  | .exn c .non => X c ρ
  | _ => False
section
variable {R : Rt} {m : Bool} {ρ : Env} {K : D → Bool → Env → Prop} {X : Nat → Env → Prop} {Q : Flow → Prop} {ss : List Ps}
theorem nf_f (d : D) : nf d false = True := by simp [nf]
theorem nf_l (xs : List D) (o : Bool) : nf (.lst xs) o = True := by cases o <;> simp [nf, D.isIns]
theorem nf_i (x : Int) (o : Bool) : nf (.int x) o = True := by cases o <;> simp [nf, D.isIns]
theorem nf_b (x : Bool) (o : Bool) : nf (.bl x) o = True := by cases o <;> simp [nf, D.isIns]
theorem nf_t (xs : List D) (o : Bool) : nf (.tup xs) o = True := by cases o <;> simp [nf, D.isIns]
theorem nf_n (o : Bool) : nf .non o = True := by cases o <;> simp [nf, D.isIns]
theorem nf_s (s : PySem.Str) (o : Bool) : nf (.str s) o = True := by cases o <;> simp [nf, D.isIns]
theorem nf_x (c : Nat) (o : Bool) : nf (.exc c) o = True := by cases o <;> simp [nf, D.isIns]
theorem br_t {P P' : Prop} : BR (.bl true) P P' = P := by simp [BR]
theorem br_f {P P' : Prop} : BR (.bl false) P P' = P' := by simp [BR]
theorem br_d {p : Prop} [Decidable p] {P P' : Prop} : BR (.bl (decide p)) P P' = ((p → P) ∧ (¬ p → P')) := by simp [BR]
theorem br_T {p : Prop} [Decidable p] {P P' : Prop} (h : p) : BR (.bl (decide p)) P P' = P := by simp [BR, h]
theorem br_F {p : Prop} [Decidable p] {P P' : Prop} (h : ¬ p) : BR (.bl (decide p)) P P' = P' := by simp [BR, h]
theorem br_n {b : Bool} {P P' : Prop} : BR (.bl (!b)) P P' = BR (.bl b) P' P := by cases b <;> simp [BR]
theorem ov_s {α : Type} {a : α} {k : α → Prop} : OV (some a) k = k a := rfl
theorem ov_if {α : Type} {c : Prop} [Decidable c] {a : α} {k : α → Prop} : OV (if c then some a else none) k = (c ∧ k a) := by
  by_cases h : c <;> simp [h, OV]
theorem cw_o {d : D} {o : Bool} : CW (.ok d o .non) ρ K X = K d o ρ := rfl
theorem cw_e {c : Nat} : CW (.exn c .non) ρ K X = X c ρ := rfl
theorem ww_b {α β : Type} {o : Out α} {f : α → Env → Out β} {K : β → Env → Prop} : ww (o.bind f) K X = ww o (fun x ρ => ww (f x ρ) K X) X := by
  cases o <;> rfl
theorem ww_frz {o : Out (D × Bool)} {K : D → Env → Prop} : ww o.frz K X = ww o (fun x ρ => nf x.1 x.2 ∧ K x.1 ρ) X := by
  cases o with
  | ok x ρ =>
    obtain ⟨d, o⟩ := x
    unfold Out.frz nf ww
    dsimp only
    cases h : (o && d.isIns) with
    | true => simp
    | false => simp
  | _ => rfl
theorem ww_of {α : Type} {o : Option α} {ρ : Env} {K : α → Env → Prop} : ww (Out.of o ρ) K X = OV o fun a => K a ρ := by
  cases o <;> rfl
theorem ww_ok {α : Type} {x : α} {ρ : Env} {K : α → Env → Prop} : ww (.ok x ρ) K X = K x ρ := rfl
theorem ww_bad {α : Type} {K : α → Env → Prop} : ww .bad K X = False := rfl
theorem ww_if {α : Type} {c : Prop} [Decidable c] {a : Out α} {K : α → Env → Prop} : ww (if c then a else .bad) K X = (c ∧ ww a K X) := by
  by_cases h : c <;> simp [h, ww_bad]
/-! ### expressions -/
theorem we_var {i : Nat} {d : D} (h : getS ρ i = .fz d) : WE R m (.var i) ρ K X = K d false ρ := by
  unfold WE ev
  rw [h]
  rfl
theorem we_varo {i : Nat} {d : D} (h : getS ρ i = .ow d) (hi : d.isIns = false) : WE R false (.var i) ρ K X = K d false (ρ.set i (.fz d)) := by
  unfold WE ev
  rw [h]
  dsimp only
  rw [hi]
  rfl
theorem we_movf {i : Nat} {d : D} (h : getS ρ i = .fz d) : WE R m (.mov i) ρ K X = K d false ρ := by
  unfold WE ev
  rw [h]
  rfl
theorem we_mov {i : Nat} {d : D} (h : getS ρ i = .ow d) : WE R false (.mov i) ρ K X = K d true (ρ.set i .no) := by
  unfold WE ev
  rw [h]
  rfl
theorem we_int {i : Int} : WE R m (.int i) ρ K X = K (.int i) false ρ := by unfold WE ev; rfl
theorem we_bl {i : Bool} : WE R m (.bl i) ρ K X = K (.bl i) false ρ := by unfold WE ev; rfl
theorem we_non : WE R m .non ρ K X = K .non false ρ := by unfold WE ev; rfl
theorem we_str {i : PySem.Str} : WE R m (.str i) ρ K X = K (.str i) false ρ := by unfold WE ev; rfl
theorem we_glo {g : Nat} : WE R m (.glo g) ρ K X = OV (R.glob g) fun d => K d false ρ := by
  unfold WE ev
  cases R.glob g <;> rfl
theorem we_tup {es : List Px} : WE R m (.tup es) ρ K X = WL R m es ρ (fun ds ρ => K (.tup ds) false ρ) X := by
  unfold WE WL
  conv => lhs; unfold ev
  simp only [ww_b, ww_ok]
theorem we_lst {es : List Px} : WE R m (.lst es) ρ K X = WL R m es ρ (fun ds ρ => K (.lst ds) true ρ) X := by
  unfold WE WL
  conv => lhs; unfold ev
  simp only [ww_b, ww_ok]
theorem wl_nil {K : List D → Env → Prop} : WL R m [] ρ K X = K [] ρ := by unfold WL evs; rfl
theorem wl_cons {e : Px} {es : List Px} {K : List D → Env → Prop} : WL R m (e :: es) ρ K X = WE R m e ρ (fun d o ρ => nf d o ∧ WL R m es ρ (fun ds ρ => K (d :: ds) ρ) X) X := by
  unfold WL WE
  conv => lhs; unfold evs
  simp only [ww_frz, ww_b, ww_ok]
theorem we_bin {o : BOp} {a b : Px} : WE R m (.bin o a b) ρ K X = WE R m a ρ (fun x o1 ρ => nf x o1 ∧ WE R m b ρ (fun y o2 ρ => nf y o2 ∧ OV (binv o x y) fun z => K z.1 z.2 ρ) X) X := by
  unfold WE
  conv => lhs; unfold ev
  simp only [ww_frz, ww_b, ww_of]
theorem we_cmp {o : COp} {a b : Px} : WE R m (.cmp o a b) ρ K X = WE R m a ρ (fun x o1 ρ => nf x o1 ∧ WE R m b ρ (fun y o2 ρ => nf y o2 ∧ OV (cmpv o x y) fun z => K (.bl z) false ρ) X) X := by
  unfold WE
  conv => lhs; unfold ev
  simp only [ww_frz, ww_b, ww_of, ww_ok]
theorem we_chain {o1 o2 : COp} {a b c : Px} : WE R m (.chain o1 o2 a b c) ρ K X = WE R m a ρ (fun x q1 ρ => nf x q1 ∧ WE R m b ρ (fun y q2 ρ => nf y q2 ∧ OV (cmpv o1 x y) fun k => BR (.bl k) (WE R m c ρ (fun z q3 ρ => nf z q3 ∧ OV (cmpv o2 y z) fun k => K (.bl k) false ρ) X) (K (.bl false) false ρ)) X) X := by
  unfold WE
  conv => lhs; unfold ev
  simp only [ww_frz, ww_b, ww_of, ww_ok]
  congr
  funext x ρ
  congr
  funext y ρ
  have e : (fun k => ww (if k = true then (ev R m c ρ).frz.bind fun z ρ => (Out.of (cmpv o2 y.1 z) ρ).bind fun k ρ => Out.ok (D.bl k, false) ρ else Out.ok (D.bl false, false) ρ) (fun x ρ => K x.1 x.2 ρ) X) =
      fun k => BR (D.bl k) (ww (ev R m c ρ) (fun x ρ => nf x.1 x.2 ∧ OV (cmpv o2 y.1 x.1) fun k => K (D.bl k) false ρ) X) (K (D.bl false) false ρ) := by
    funext k
    cases k <;> simp [OV, BR, ww_frz, ww_b, ww_of, ww_ok]
  rw [e]
theorem we_ix {a b : Px} : WE R m (.ix a b) ρ K X = WE R m a ρ (fun x o1 ρ => nf x o1 ∧ WE R m b ρ (fun y o2 ρ => nf y o2 ∧ OV (ixv x y) fun z => K z false ρ) X) X := by
  unfold WE
  conv => lhs; unfold ev
  simp only [ww_frz, ww_b, ww_of, ww_ok]
/-- the int behind a minus -/
def negv : D → Option D
  | .int i => some (.int (-i))
  | _ => none
theorem we_neg {a : Px} : WE R m (.neg a) ρ K X = WE R m a ρ (fun x _ ρ => OV (negv x) fun z => K z false ρ) X := by
  unfold WE
  conv => lhs; unfold ev
  cases ev R m a ρ with
  | ok x ρ =>
    obtain ⟨d, o⟩ := x
    cases d <;> rfl
  | _ => rfl
theorem we_nt {a : Px} : WE R m (.nt a) ρ K X = WE R m a ρ (fun x _ ρ => BR x (K (.bl false) false ρ) (K (.bl true) false ρ)) X := by
  unfold WE
  conv => lhs; unfold ev
  cases ev R m a ρ with
  | ok x ρ =>
    obtain ⟨d, o⟩ := x
    cases d with
    | bl b => cases b <;> simp [Out.bind, BR, ww]
    | _ => rfl
  | _ => rfl
theorem we_ife {t a b : Px} : WE R m (.ife t a b) ρ K X = WE R m t ρ (fun x _ ρ => BR x (WE R m a ρ K X) (WE R m b ρ K X)) X := by
  unfold WE
  conv => lhs; unfold ev
  cases ev R m t ρ with
  | ok x ρ =>
    obtain ⟨d, o⟩ := x
    cases d with
    | bl b => cases b <;> simp [Out.bind, BR, ww]
    | _ => rfl
  | _ => rfl
theorem we_conj {es : List Px} : WE R m (.conj es) ρ K X = WA R m es ρ K X := by unfold WE WA; conv => lhs; unfold ev
theorem we_disj {es : List Px} : WE R m (.disj es) ρ K X = WO R m es ρ K X := by unfold WE WO; conv => lhs; unfold ev
theorem wa_nil : WA R m [] ρ K X = K (.bl true) false ρ := by unfold WA evAnd; rfl
theorem wo_nil : WO R m [] ρ K X = K (.bl false) false ρ := by unfold WO evOr; rfl
theorem wa_cons {e : Px} {es : List Px} : WA R m (e :: es) ρ K X = WE R m e ρ (fun x _ ρ => BR x (WA R m es ρ K X) (K (.bl false) false ρ)) X := by
  unfold WA WE
  conv => lhs; unfold evAnd
  cases ev R m e ρ with
  | ok x ρ =>
    obtain ⟨d, o⟩ := x
    cases d with
    | bl b => cases b <;> simp [Out.bind, BR, ww]
    | _ => rfl
  | _ => rfl
theorem wo_cons {e : Px} {es : List Px} : WO R m (e :: es) ρ K X = WE R m e ρ (fun x _ ρ => BR x (K (.bl true) false ρ) (WO R m es ρ K X)) X := by
  unfold WO WE
  conv => lhs; unfold evOr
  cases ev R m e ρ with
  | ok x ρ =>
    obtain ⟨d, o⟩ := x
    cases d with
    | bl b => cases b <;> simp [Out.bind, BR, ww]
    | _ => rfl
  | _ => rfl
theorem we_call {f : Nat} {es : List Px} : WE R m (.call f es) ρ K X = WL R m es ρ (fun ds ρ => CW (R.call f .non ds) ρ K X) X := by
  unfold WE WL
  conv => lhs; unfold ev
  cases evs R m es ρ with
  | ok ds ρ =>
    simp only [ww_b, ww_ok]
    cases R.call f .non ds with
    | ok d o s => cases s <;> rfl
    | exn c s => cases s <;> rfl
    | bad => rfl
  | _ => rfl
theorem we_bi {b : Bi} {es : List Px} : WE R m (.bi b es) ρ K X = WL R m es ρ (fun ds ρ => OV (biv b ds) fun z => K z.1 z.2 ρ) X := by
  unfold WE WL
  conv => lhs; unfold ev
  simp only [ww_b, ww_of]
theorem we_isi {a : Px} {t : Ty} : WE R m (.isi a t) ρ K X = WE R m a ρ (fun x o ρ => nf x o ∧ OV (isiv R.sub x t) fun z => K (.bl z) false ρ) X := by
  unfold WE
  conv => lhs; unfold ev
  simp only [ww_frz, ww_b, ww_of, ww_ok]
theorem we_rev {a : Px} : WE R m (.rev a) ρ K X = WE R m a ρ (fun x o ρ => nf x o ∧ OV (revv x) fun z => K z.1 z.2 ρ) X := by
  unfold WE
  conv => lhs; unfold ev
  simp only [ww_frz, ww_b, ww_of, ww_ok]
theorem we_sl {a : Px} {lo hi : List Px} : WE R m (.sl a lo hi) ρ K X = WE R m a ρ (fun x o ρ => nf x o ∧ WL R m lo ρ (fun l ρ => OV (partv l) fun l => WL R m hi ρ (fun h ρ => OV (partv h) fun h => OV (slv x l h) fun z => K z.1 z.2 ρ) X) X) X := by
  unfold WE WL
  conv => lhs; unfold ev
  simp only [ww_frz, ww_b, ww_of, ww_ok]
theorem we_mt {k : Mt} {a : Px} {es : List Px} : WE R m (.mt k a es) ρ K X = WE R m a ρ (fun x o ρ => nf x o ∧ mtTy k x = true ∧ WL R m es ρ (fun ds ρ => OV (mtv k x ds) fun z => K z.1 z.2 ρ) X) X := by
  unfold WE WL
  conv => lhs; unfold ev
  simp only [ww_frz, ww_b, ww_if, ww_of, ww_ok]
theorem we_bop {o : Bo} {p : Pl} {es : List Px} : WE R m (.bop o p es) ρ K X = OV (peek ρ p) fun _ => WL R m es ρ (fun ds ρ => OV (peek ρ p) fun d => OV (bov o d ds) fun z => K z.1 z.2 ρ) X := by
  unfold WE WL
  conv => lhs; unfold ev
  cases peek ρ p with
  | none => rfl
  | some d =>
    dsimp only [OV]
    cases evs R m es ρ with
    | ok ds ρ =>
      simp only [ww_b, ww_ok]
      cases peek ρ p with
      | none => rfl
      | some d => dsimp only; cases bov o d ds <;> rfl
    | _ => rfl
theorem we_rng {es : List Px} : WE R m (.rng es) ρ K X = WL R m es ρ (fun ds ρ => OV (rngv ds) fun xs => K (.lst xs) false ρ) X := by
  unfold WE WL
  conv => lhs; unfold ev
  cases evs R m es ρ with
  | ok ds ρ => simp only [ww_b, ww_ok]; cases rngv ds <;> rfl
  | _ => rfl
def gixv : D → D → Option D
  | .dic kvs, y => dixv (.dic kvs) y
  | _, _ => none
theorem we_gix {g : Nat} {i : Px} : WE R m (.gix g i) ρ K X = WE R m i ρ (fun y o ρ => nf y o ∧ OV (R.glob g) fun d => OV (gixv d y) fun z => K z false ρ) X := by
  unfold WE
  conv => lhs; unfold ev
  simp only [ww_frz, ww_b]
  congr
  funext x ρ
  cases R.glob g with
  | none => rfl
  | some d =>
    cases d with
    | dic kvs => simp only [ww_b, ww_of, ww_ok, OV, gixv]
    | _ => rfl
theorem we_zip {a b : Px} : WE R m (.zip a b) ρ K X = WE R m a ρ (fun x o1 ρ => nf x o1 ∧ WE R m b ρ (fun y o2 ρ => nf y o2 ∧ OV (zipv x y) fun xs => K (.lst xs) false ρ) X) X := by
  unfold WE
  conv => lhs; unfold ev
  simp only [ww_frz, ww_b]
  congr
  funext x ρ
  congr
  funext y ρ
  cases zipv x.1 y.1 <;> rfl
theorem we_enum {a : Px} : WE R m (.enum a) ρ K X = WE R m a ρ (fun x o ρ => nf x o ∧ OV (enumv x) fun xs => K (.lst xs) false ρ) X := by
  unfold WE
  conv => lhs; unfold ev
  simp only [ww_frz, ww_b]
  congr
  funext x ρ
  cases enumv x.1 <;> rfl
/-! ### statements -/
theorem ws_nil : WS R [] ρ Q = Q (.nx ρ) := by unfold WS execs; rfl
theorem execs_cons (s : Ps) (ss : List Ps) (ρ : Env) : execs R (s :: ss) ρ = match exec R s ρ with
  | .nx ρ => execs R ss ρ
  | r => r := by (conv => lhs; unfold execs) <;> rfl
theorem ws_asg {i : Nat} {e : Px} : WS R (.asg i e :: ss) ρ Q = WE R false e ρ (fun d o ρ => okS R [i] = true ∧ WS R ss (putV ρ i (d, o)) Q) (fun c ρ => Q (.exn c ρ)) := by
  unfold WS WE
  rw [execs_cons]
  conv => lhs; unfold exec
  cases ev R false e ρ with
  | ok x ρ =>
    simp only [onOut, ww_ok]
    cases okS R [i] <;> simp [gd]
  | _ => rfl
theorem ws_exp {e : Px} : WS R (.exp e :: ss) ρ Q = WE R false e ρ (fun d o ρ => WS R ss ρ Q) (fun c ρ => Q (.exn c ρ)) := by
  unfold WS WE
  rw [execs_cons]
  conv => lhs; unfold exec
  cases ev R false e ρ <;> rfl
theorem ws_ret {e : Px} : WS R (.ret e :: ss) ρ Q = WE R false e ρ (fun d o ρ => Q (.rt d o ρ)) (fun c ρ => Q (.exn c ρ)) := by
  unfold WS WE
  rw [execs_cons]
  conv => lhs; unfold exec
  cases ev R false e ρ <;> rfl
theorem ws_retN : WS R (.retN :: ss) ρ Q = Q (.rt .non false ρ) := by
  unfold WS
  rw [execs_cons]
  (conv => lhs; unfold exec) <;> rfl
theorem ws_raise {c : Nat} : WS R (.raise c :: ss) ρ Q = Q (.exn c ρ) := by
  unfold WS
  rw [execs_cons]
  (conv => lhs; unfold exec) <;> rfl
theorem ws_pass : WS R (.pass :: ss) ρ Q = WS R ss ρ Q := by
  unfold WS
  rw [execs_cons]
  conv => lhs; unfold exec
/-- a value is stored, then on -/
def SE (R : Rt) (i : Nat) (d : D) (o : Bool) (ρ : Env) (k : Env → Prop) (_t : Lk k := {}) : Prop := okS R [i] = true ∧ k (putV ρ i (d, o))
def SES (R : Rt) (is : List Nat) (ds : List D) (ρ : Env) (k : Env → Prop) (_t : Lk k := {}) : Prop := match setTs ρ is ds with
  | some ρ => okS R is = true ∧ k ρ
  | none => False
def SEP (R : Rt) (is : List Nat) (ds : List D) (ρ : Env) (k : Env → Prop) (_t : Lk k := {}) : Prop := match setPar ρ is ds with
  | some ρ => okS R is = true ∧ k ρ
  | none => False
theorem ws_set {i : Nat} {e : Px} : WS R (.asg i e :: ss) ρ Q = WE R false e ρ (fun d o ρ => SE R i d o ρ fun ρ => WS R ss ρ Q) (fun c ρ => Q (.exn c ρ)) := ws_asg
theorem ws_asgT {is : List Nat} {e : Px} : WS R (.asgT is e :: ss) ρ Q = WE R false e ρ (fun d o ρ => nf d o ∧ OV (unpackv d) fun ds => SES R is ds ρ fun ρ => WS R ss ρ Q) (fun c ρ => Q (.exn c ρ)) := by
  unfold WS WE
  rw [execs_cons]
  conv => lhs; unfold exec
  cases ev R false e ρ with
  | ok x ρ =>
    obtain ⟨d, o⟩ := x
    simp only [ww_ok]
    unfold Out.frz nf
    dsimp only
    cases h : (o && d.isIns) with
    | true => simp [onOut, gd]
    | false =>
      simp only [Bool.false_eq_true, if_false, onOut, true_and]
      cases unpackv d with
      | none => rfl
      | some ds =>
        dsimp only [OV, SES]
        cases setTs ρ is ds with
        | none => rfl
        | some ρ => dsimp only; cases okS R is <;> simp [gd]
  | _ => rfl
theorem ws_par {is : List Nat} {es : List Px} : WS R (.par is es :: ss) ρ Q = WL R false es ρ (fun ds ρ => SEP R is ds ρ fun ρ => WS R ss ρ Q) (fun c ρ => Q (.exn c ρ)) := by
  unfold WS WL
  rw [execs_cons]
  conv => lhs; unfold exec
  cases evs R false es ρ with
  | ok ds ρ =>
    simp only [onOut, ww_ok, SEP]
    cases setPar ρ is ds with
    | none => rfl
    | some ρ => dsimp only; cases okS R is <;> simp [gd]
  | _ => rfl
/-- what comes behind a block -/
def TH (R : Rt) (ss : List Ps) (Q : Flow → Prop) (fl : Flow) : Prop := match fl with
  | .nx ρ => WS R ss ρ Q
  | fl => Q fl
theorem th_nx : TH R ss Q (.nx ρ) = WS R ss ρ Q := rfl
theorem th_rt {d : D} {o : Bool} : TH R ss Q (.rt d o ρ) = Q (.rt d o ρ) := rfl
theorem th_exn {c : Nat} : TH R ss Q (.exn c ρ) = Q (.exn c ρ) := rfl
theorem th_bk : TH R ss Q (.bk ρ) = Q (.bk ρ) := rfl
theorem th_ct : TH R ss Q (.ct ρ) = Q (.ct ρ) := rfl
theorem ws_ite {c : Px} {a b : List Ps} : WS R (.ite c a b :: ss) ρ Q = WE R false c ρ (fun d _ ρ => BR d (WS R a ρ (TH R ss Q)) (WS R b ρ (TH R ss Q))) (fun c ρ => Q (.exn c ρ)) := by
  unfold WS WE
  rw [execs_cons]
  conv => lhs; unfold exec
  cases ev R false c ρ with
  | ok x ρ =>
    obtain ⟨d, o⟩ := x
    cases d with
    | bl z =>
      cases z with
      | true =>
        simp only [ww_ok, onOut, BR, true_implies, Bool.true_eq_false, false_implies, and_true]
        cases execs R a ρ <;> rfl
      | false =>
        simp only [ww_ok, onOut, BR, true_implies, Bool.false_eq_true, false_implies, true_and]
        cases execs R b ρ <;> rfl
    | _ => rfl
  | _ => rfl
theorem ws_tryK {body : List Ps} {c n k : Nat} : WS R (.tryK body c n k :: ss) ρ Q = WS R body ρ (fun fl => match fl with
  | .nx ρ => WS R ss ρ Q
  | .exn c' ρ => OV (R.sub c' c) fun b => (b = true → okS R [k, n] = true ∧ WS R ss ((ρ.set k (.fz (.exc c'))).set n .no) Q) ∧ (b = false → Q (.exn c' ρ))
  | fl => Q fl) := by
  unfold WS
  rw [execs_cons]
  conv => lhs; unfold exec
  cases execs R body ρ with
  | exn c' ρ =>
    cases h : R.sub c' c with
    | none => simp [h, gd, OV]
    | some b => cases b <;> cases h2 : okS R [k, n] <;> simp [h, h2, OV, gd]
  | _ => rfl
/-- what is caught -/
def TK (R : Rt) (c n k : Nat) (ss : List Ps) (Q : Flow → Prop) (fl : Flow) : Prop := match fl with
  | .nx ρ => WS R ss ρ Q
  | .exn c' ρ => OV (R.sub c' c) fun b => (b = true → okS R [k, n] = true ∧ WS R ss ((ρ.set k (.fz (.exc c'))).set n .no) Q) ∧ (b = false → Q (.exn c' ρ))
  | fl => Q fl
theorem ws_try {body : List Ps} {c n k : Nat} : WS R (.tryK body c n k :: ss) ρ Q = WS R body ρ (TK R c n k ss Q) := ws_tryK
theorem tk_nx {c n k : Nat} : TK R c n k ss Q (.nx ρ) = WS R ss ρ Q := rfl
theorem tk_rt {c n k : Nat} {d : D} {o : Bool} : TK R c n k ss Q (.rt d o ρ) = Q (.rt d o ρ) := rfl
theorem tk_exn {c n k c' : Nat} (h : R.sub c' c = some true) (h2 : R.meth = false) : TK R c n k ss Q (.exn c' ρ) = WS R ss ((ρ.set k (.fz (.exc c'))).set n .no) Q := by
  simp [TK, h, OV, okS, h2]
theorem ws_for {tg : Tg} {it : Px} {b : List Ps} : WS R (.forS tg it b :: ss) ρ Q = WE R false it ρ (fun x o ρ => nf x o ∧ OV (itemsv x) fun xs => okS R tg.slots = true ∧ gd (TH R ss Q) (forL (fun d ρ => match setTg ρ tg d with
      | some ρ => execs R b ρ
      | none => .bad) xs ρ)) (fun c ρ => Q (.exn c ρ)) := by
  unfold WS WE
  rw [execs_cons]
  conv => lhs; unfold exec
  cases ev R false it ρ with
  | ok x ρ =>
    obtain ⟨d, o⟩ := x
    simp only [ww_ok]
    unfold Out.frz nf
    dsimp only
    cases h : (o && d.isIns) with
    | true => simp [onOut, gd]
    | false =>
      simp only [Bool.false_eq_true, if_false, onOut, true_and]
      cases itemsv d with
      | none => rfl
      | some xs =>
        dsimp only [OV]
        cases okS R tg.slots with
        | false => simp [gd]
        | true =>
          simp only [if_true, true_and]
          cases forL (fun d ρ => match setTg ρ tg d with
            | some ρ => execs R b ρ
            | none => .bad) xs ρ <;> rfl
  | _ => rfl
theorem ws_whl {c : Px} {b : List Ps} : WS R (.whl c b :: ss) ρ Q = gd (TH R ss Q) (whlL (ev R false c) (execs R b) R.turns ρ) := by
  unfold WS
  rw [execs_cons]
  conv => lhs; unfold exec
  cases whlL (ev R false c) (execs R b) R.turns ρ <;> rfl
theorem ws_appl {i : Nat} {e : Px} : WS R (.app (.sl i) e :: ss) ρ Q = (OV (peekO ρ (.sl i)) fun l => OV (D.lst? l) fun _ => WE R false e ρ (fun x o ρ => nf x o ∧ OV (peekO ρ (.sl i)) fun l => OV (D.lst? l) fun xs => xs.length < lineD ∧ WS R ss (ρ.set i (.ow (.lst (xs ++ [x])))) Q) (fun c ρ => Q (.exn c ρ))) := by
  unfold WS WE
  rw [execs_cons]
  conv => lhs; unfold exec
  cases peekO ρ (.sl i) with
  | none => rfl
  | some l =>
    cases l with
    | lst xs0 =>
      dsimp only [OV, D.lst?]
      cases ev R false e ρ with
      | ok x ρ =>
        obtain ⟨d, o⟩ := x
        simp only [ww_ok]
        unfold Out.frz nf
        dsimp only
        cases h : (o && d.isIns) with
        | true => simp [onOut, gd]
        | false =>
          simp only [Bool.false_eq_true, if_false, onOut, true_and]
          cases peekO ρ (.sl i) with
          | none => rfl
          | some l =>
            cases l with
            | lst xs =>
              dsimp only [OV, D.lst?, poke]
              by_cases hl : xs.length < lineD
              · simp [hl, gd]
              · simp [hl, gd]
            | _ => rfl
      | _ => rfl
    | _ => rfl
theorem ws_extl {i : Nat} {e : Px} : WS R (.ext (.sl i) e :: ss) ρ Q = (OV (peekO ρ (.sl i)) fun l => OV (D.lst? l) fun _ => WE R false e ρ (fun x o ρ => nf x o ∧ OV (peekO ρ (.sl i)) fun l => OV (D.lst? l) fun xs => OV (D.lst? x) fun ys => xs.length + ys.length ≤ lineD ∧ WS R ss (ρ.set i (.ow (.lst (xs ++ ys)))) Q) (fun c ρ => Q (.exn c ρ))) := by
  unfold WS WE
  rw [execs_cons]
  conv => lhs; unfold exec
  cases peekO ρ (.sl i) with
  | none => rfl
  | some l =>
    cases l with
    | lst xs0 =>
      dsimp only [OV, D.lst?]
      cases ev R false e ρ with
      | ok x ρ =>
        obtain ⟨d, o⟩ := x
        simp only [ww_ok]
        unfold Out.frz nf
        dsimp only
        cases h : (o && d.isIns) with
        | true => simp [onOut, gd]
        | false =>
          simp only [Bool.false_eq_true, if_false, onOut, true_and]
          cases peekO ρ (.sl i) with
          | none => rfl
          | some l =>
            cases l with
            | lst xs =>
              cases d with
              | lst ys =>
                dsimp only [OV, D.lst?, poke]
                by_cases hl : xs.length + ys.length ≤ lineD
                · simp [hl, gd]
                · simp [hl, gd]
              | _ => rfl
            | _ => cases d <;> simp [gd, ww, OV, D.lst?]
      | _ => rfl
    | _ => rfl
end
end GW
end

section
/-! S2: leaf rules (printed by genS2.py). -/
namespace GW
/-- a slot is set, then on -/
def SX (i : Nat) (s : Sl) (ρ : Env) (k : Env → Prop) (_t : Lk k := {}) : Prop := k (ρ.set i s)
/-- a fraction -/
def fr (q : Rat) : D := .tup [.int q.num, .int q.den]
section
variable {R : Rt} {m : Bool} {ρ : Env} {K : D → Bool → Env → Prop} {X : Nat → Env → Prop} {Q : Flow → Prop} {ss : List Ps} {G : Prog} {call : Nat → D → List D → Res} {r : List Sl} {d : D} {xs ys : List D}
theorem wv0 : WE R m (.var 0) (.fz d :: r) K X = K d false (.fz d :: r) := we_var rfl
theorem wo0 : WE R false (.var 0) (.ow (.lst xs) :: r) K X = K (.lst xs) false (.fz (.lst xs) :: r) := we_varo rfl rfl
theorem wm0 : WE R m (.mov 0) (.fz d :: r) K X = K d false (.fz d :: r) := we_movf rfl
theorem wn0 : WE R false (.mov 0) (.ow (.lst xs) :: r) K X = K (.lst xs) true (.no :: r) := we_mov rfl
theorem se0f { s0 : Sl} {k : Env → Prop} : SE (Prog.rt G call false) 0 d false (s0 :: r) k = k (.fz d :: r) := by simp [SE, okS, Prog.rt, putV]
theorem se0o { s0 : Sl} {k : Env → Prop} : SE (Prog.rt G call false) 0 d true (s0 :: r) k = k (.ow d :: r) := by simp [SE, okS, Prog.rt, putV]
theorem sx0 { s0 : Sl} {s : Sl} {k : Env → Prop} : SX 0 s (s0 :: r) k = k (s :: r) := rfl
theorem pk0f {k : D → Prop} : OV (peek (.fz d :: r) (.sl 0)) k = k d := rfl
theorem pk0o {k : D → Prop} : OV (peek (.ow (.lst xs) :: r) (.sl 0)) k = k (.lst xs) := rfl
theorem po0 {k : D → Prop} : OV (peekO (.ow (.lst xs) :: r) (.sl 0)) k = k (.lst xs) := rfl
theorem wv1 {s0 : Sl} : WE R m (.var 1) (s0 :: .fz d :: r) K X = K d false (s0 :: .fz d :: r) := we_var rfl
theorem wo1 {s0 : Sl} : WE R false (.var 1) (s0 :: .ow (.lst xs) :: r) K X = K (.lst xs) false (s0 :: .fz (.lst xs) :: r) := we_varo rfl rfl
theorem wm1 {s0 : Sl} : WE R m (.mov 1) (s0 :: .fz d :: r) K X = K d false (s0 :: .fz d :: r) := we_movf rfl
theorem wn1 {s0 : Sl} : WE R false (.mov 1) (s0 :: .ow (.lst xs) :: r) K X = K (.lst xs) true (s0 :: .no :: r) := we_mov rfl
theorem se1f {s0 s1 : Sl} {k : Env → Prop} : SE (Prog.rt G call false) 1 d false (s0 :: s1 :: r) k = k (s0 :: .fz d :: r) := by simp [SE, okS, Prog.rt, putV]
theorem se1o {s0 s1 : Sl} {k : Env → Prop} : SE (Prog.rt G call false) 1 d true (s0 :: s1 :: r) k = k (s0 :: .ow d :: r) := by simp [SE, okS, Prog.rt, putV]
theorem sx1 {s0 s1 : Sl} {s : Sl} {k : Env → Prop} : SX 1 s (s0 :: s1 :: r) k = k (s0 :: s :: r) := rfl
theorem pk1f {s0 : Sl} {k : D → Prop} : OV (peek (s0 :: .fz d :: r) (.sl 1)) k = k d := rfl
theorem pk1o {s0 : Sl} {k : D → Prop} : OV (peek (s0 :: .ow (.lst xs) :: r) (.sl 1)) k = k (.lst xs) := rfl
theorem po1 {s0 : Sl} {k : D → Prop} : OV (peekO (s0 :: .ow (.lst xs) :: r) (.sl 1)) k = k (.lst xs) := rfl
theorem wv2 {s0 s1 : Sl} : WE R m (.var 2) (s0 :: s1 :: .fz d :: r) K X = K d false (s0 :: s1 :: .fz d :: r) := we_var rfl
theorem wo2 {s0 s1 : Sl} : WE R false (.var 2) (s0 :: s1 :: .ow (.lst xs) :: r) K X = K (.lst xs) false (s0 :: s1 :: .fz (.lst xs) :: r) := we_varo rfl rfl
theorem wm2 {s0 s1 : Sl} : WE R m (.mov 2) (s0 :: s1 :: .fz d :: r) K X = K d false (s0 :: s1 :: .fz d :: r) := we_movf rfl
theorem wn2 {s0 s1 : Sl} : WE R false (.mov 2) (s0 :: s1 :: .ow (.lst xs) :: r) K X = K (.lst xs) true (s0 :: s1 :: .no :: r) := we_mov rfl
theorem se2f {s0 s1 s2 : Sl} {k : Env → Prop} : SE (Prog.rt G call false) 2 d false (s0 :: s1 :: s2 :: r) k = k (s0 :: s1 :: .fz d :: r) := by simp [SE, okS, Prog.rt, putV]
theorem se2o {s0 s1 s2 : Sl} {k : Env → Prop} : SE (Prog.rt G call false) 2 d true (s0 :: s1 :: s2 :: r) k = k (s0 :: s1 :: .ow d :: r) := by simp [SE, okS, Prog.rt, putV]
theorem sx2 {s0 s1 s2 : Sl} {s : Sl} {k : Env → Prop} : SX 2 s (s0 :: s1 :: s2 :: r) k = k (s0 :: s1 :: s :: r) := rfl
theorem pk2f {s0 s1 : Sl} {k : D → Prop} : OV (peek (s0 :: s1 :: .fz d :: r) (.sl 2)) k = k d := rfl
theorem pk2o {s0 s1 : Sl} {k : D → Prop} : OV (peek (s0 :: s1 :: .ow (.lst xs) :: r) (.sl 2)) k = k (.lst xs) := rfl
theorem po2 {s0 s1 : Sl} {k : D → Prop} : OV (peekO (s0 :: s1 :: .ow (.lst xs) :: r) (.sl 2)) k = k (.lst xs) := rfl
theorem wv3 {s0 s1 s2 : Sl} : WE R m (.var 3) (s0 :: s1 :: s2 :: .fz d :: r) K X = K d false (s0 :: s1 :: s2 :: .fz d :: r) := we_var rfl
theorem wo3 {s0 s1 s2 : Sl} : WE R false (.var 3) (s0 :: s1 :: s2 :: .ow (.lst xs) :: r) K X = K (.lst xs) false (s0 :: s1 :: s2 :: .fz (.lst xs) :: r) := we_varo rfl rfl
theorem wm3 {s0 s1 s2 : Sl} : WE R m (.mov 3) (s0 :: s1 :: s2 :: .fz d :: r) K X = K d false (s0 :: s1 :: s2 :: .fz d :: r) := we_movf rfl
theorem wn3 {s0 s1 s2 : Sl} : WE R false (.mov 3) (s0 :: s1 :: s2 :: .ow (.lst xs) :: r) K X = K (.lst xs) true (s0 :: s1 :: s2 :: .no :: r) := we_mov rfl
theorem se3f {s0 s1 s2 s3 : Sl} {k : Env → Prop} : SE (Prog.rt G call false) 3 d false (s0 :: s1 :: s2 :: s3 :: r) k = k (s0 :: s1 :: s2 :: .fz d :: r) := by simp [SE, okS, Prog.rt, putV]
theorem se3o {s0 s1 s2 s3 : Sl} {k : Env → Prop} : SE (Prog.rt G call false) 3 d true (s0 :: s1 :: s2 :: s3 :: r) k = k (s0 :: s1 :: s2 :: .ow d :: r) := by simp [SE, okS, Prog.rt, putV]
theorem sx3 {s0 s1 s2 s3 : Sl} {s : Sl} {k : Env → Prop} : SX 3 s (s0 :: s1 :: s2 :: s3 :: r) k = k (s0 :: s1 :: s2 :: s :: r) := rfl
theorem pk3f {s0 s1 s2 : Sl} {k : D → Prop} : OV (peek (s0 :: s1 :: s2 :: .fz d :: r) (.sl 3)) k = k d := rfl
theorem pk3o {s0 s1 s2 : Sl} {k : D → Prop} : OV (peek (s0 :: s1 :: s2 :: .ow (.lst xs) :: r) (.sl 3)) k = k (.lst xs) := rfl
theorem po3 {s0 s1 s2 : Sl} {k : D → Prop} : OV (peekO (s0 :: s1 :: s2 :: .ow (.lst xs) :: r) (.sl 3)) k = k (.lst xs) := rfl
theorem wv4 {s0 s1 s2 s3 : Sl} : WE R m (.var 4) (s0 :: s1 :: s2 :: s3 :: .fz d :: r) K X = K d false (s0 :: s1 :: s2 :: s3 :: .fz d :: r) := we_var rfl
theorem wo4 {s0 s1 s2 s3 : Sl} : WE R false (.var 4) (s0 :: s1 :: s2 :: s3 :: .ow (.lst xs) :: r) K X = K (.lst xs) false (s0 :: s1 :: s2 :: s3 :: .fz (.lst xs) :: r) := we_varo rfl rfl
theorem wm4 {s0 s1 s2 s3 : Sl} : WE R m (.mov 4) (s0 :: s1 :: s2 :: s3 :: .fz d :: r) K X = K d false (s0 :: s1 :: s2 :: s3 :: .fz d :: r) := we_movf rfl
theorem wn4 {s0 s1 s2 s3 : Sl} : WE R false (.mov 4) (s0 :: s1 :: s2 :: s3 :: .ow (.lst xs) :: r) K X = K (.lst xs) true (s0 :: s1 :: s2 :: s3 :: .no :: r) := we_mov rfl
theorem se4f {s0 s1 s2 s3 s4 : Sl} {k : Env → Prop} : SE (Prog.rt G call false) 4 d false (s0 :: s1 :: s2 :: s3 :: s4 :: r) k = k (s0 :: s1 :: s2 :: s3 :: .fz d :: r) := by simp [SE, okS, Prog.rt, putV]
theorem se4o {s0 s1 s2 s3 s4 : Sl} {k : Env → Prop} : SE (Prog.rt G call false) 4 d true (s0 :: s1 :: s2 :: s3 :: s4 :: r) k = k (s0 :: s1 :: s2 :: s3 :: .ow d :: r) := by simp [SE, okS, Prog.rt, putV]
theorem sx4 {s0 s1 s2 s3 s4 : Sl} {s : Sl} {k : Env → Prop} : SX 4 s (s0 :: s1 :: s2 :: s3 :: s4 :: r) k = k (s0 :: s1 :: s2 :: s3 :: s :: r) := rfl
theorem pk4f {s0 s1 s2 s3 : Sl} {k : D → Prop} : OV (peek (s0 :: s1 :: s2 :: s3 :: .fz d :: r) (.sl 4)) k = k d := rfl
theorem pk4o {s0 s1 s2 s3 : Sl} {k : D → Prop} : OV (peek (s0 :: s1 :: s2 :: s3 :: .ow (.lst xs) :: r) (.sl 4)) k = k (.lst xs) := rfl
theorem po4 {s0 s1 s2 s3 : Sl} {k : D → Prop} : OV (peekO (s0 :: s1 :: s2 :: s3 :: .ow (.lst xs) :: r) (.sl 4)) k = k (.lst xs) := rfl
theorem wv5 {s0 s1 s2 s3 s4 : Sl} : WE R m (.var 5) (s0 :: s1 :: s2 :: s3 :: s4 :: .fz d :: r) K X = K d false (s0 :: s1 :: s2 :: s3 :: s4 :: .fz d :: r) := we_var rfl
theorem wo5 {s0 s1 s2 s3 s4 : Sl} : WE R false (.var 5) (s0 :: s1 :: s2 :: s3 :: s4 :: .ow (.lst xs) :: r) K X = K (.lst xs) false (s0 :: s1 :: s2 :: s3 :: s4 :: .fz (.lst xs) :: r) := we_varo rfl rfl
theorem wm5 {s0 s1 s2 s3 s4 : Sl} : WE R m (.mov 5) (s0 :: s1 :: s2 :: s3 :: s4 :: .fz d :: r) K X = K d false (s0 :: s1 :: s2 :: s3 :: s4 :: .fz d :: r) := we_movf rfl
theorem wn5 {s0 s1 s2 s3 s4 : Sl} : WE R false (.mov 5) (s0 :: s1 :: s2 :: s3 :: s4 :: .ow (.lst xs) :: r) K X = K (.lst xs) true (s0 :: s1 :: s2 :: s3 :: s4 :: .no :: r) := we_mov rfl
theorem se5f {s0 s1 s2 s3 s4 s5 : Sl} {k : Env → Prop} : SE (Prog.rt G call false) 5 d false (s0 :: s1 :: s2 :: s3 :: s4 :: s5 :: r) k = k (s0 :: s1 :: s2 :: s3 :: s4 :: .fz d :: r) := by simp [SE, okS, Prog.rt, putV]
theorem se5o {s0 s1 s2 s3 s4 s5 : Sl} {k : Env → Prop} : SE (Prog.rt G call false) 5 d true (s0 :: s1 :: s2 :: s3 :: s4 :: s5 :: r) k = k (s0 :: s1 :: s2 :: s3 :: s4 :: .ow d :: r) := by simp [SE, okS, Prog.rt, putV]
theorem sx5 {s0 s1 s2 s3 s4 s5 : Sl} {s : Sl} {k : Env → Prop} : SX 5 s (s0 :: s1 :: s2 :: s3 :: s4 :: s5 :: r) k = k (s0 :: s1 :: s2 :: s3 :: s4 :: s :: r) := rfl
theorem pk5f {s0 s1 s2 s3 s4 : Sl} {k : D → Prop} : OV (peek (s0 :: s1 :: s2 :: s3 :: s4 :: .fz d :: r) (.sl 5)) k = k d := rfl
theorem pk5o {s0 s1 s2 s3 s4 : Sl} {k : D → Prop} : OV (peek (s0 :: s1 :: s2 :: s3 :: s4 :: .ow (.lst xs) :: r) (.sl 5)) k = k (.lst xs) := rfl
theorem po5 {s0 s1 s2 s3 s4 : Sl} {k : D → Prop} : OV (peekO (s0 :: s1 :: s2 :: s3 :: s4 :: .ow (.lst xs) :: r) (.sl 5)) k = k (.lst xs) := rfl
theorem wv6 {s0 s1 s2 s3 s4 s5 : Sl} : WE R m (.var 6) (s0 :: s1 :: s2 :: s3 :: s4 :: s5 :: .fz d :: r) K X = K d false (s0 :: s1 :: s2 :: s3 :: s4 :: s5 :: .fz d :: r) := we_var rfl
theorem wo6 {s0 s1 s2 s3 s4 s5 : Sl} : WE R false (.var 6) (s0 :: s1 :: s2 :: s3 :: s4 :: s5 :: .ow (.lst xs) :: r) K X = K (.lst xs) false (s0 :: s1 :: s2 :: s3 :: s4 :: s5 :: .fz (.lst xs) :: r) := we_varo rfl rfl
theorem wm6 {s0 s1 s2 s3 s4 s5 : Sl} : WE R m (.mov 6) (s0 :: s1 :: s2 :: s3 :: s4 :: s5 :: .fz d :: r) K X = K d false (s0 :: s1 :: s2 :: s3 :: s4 :: s5 :: .fz d :: r) := we_movf rfl
theorem wn6 {s0 s1 s2 s3 s4 s5 : Sl} : WE R false (.mov 6) (s0 :: s1 :: s2 :: s3 :: s4 :: s5 :: .ow (.lst xs) :: r) K X = K (.lst xs) true (s0 :: s1 :: s2 :: s3 :: s4 :: s5 :: .no :: r) := we_mov rfl
theorem se6f {s0 s1 s2 s3 s4 s5 s6 : Sl} {k : Env → Prop} : SE (Prog.rt G call false) 6 d false (s0 :: s1 :: s2 :: s3 :: s4 :: s5 :: s6 :: r) k = k (s0 :: s1 :: s2 :: s3 :: s4 :: s5 :: .fz d :: r) := by simp [SE, okS, Prog.rt, putV]
theorem se6o {s0 s1 s2 s3 s4 s5 s6 : Sl} {k : Env → Prop} : SE (Prog.rt G call false) 6 d true (s0 :: s1 :: s2 :: s3 :: s4 :: s5 :: s6 :: r) k = k (s0 :: s1 :: s2 :: s3 :: s4 :: s5 :: .ow d :: r) := by simp [SE, okS, Prog.rt, putV]
theorem sx6 {s0 s1 s2 s3 s4 s5 s6 : Sl} {s : Sl} {k : Env → Prop} : SX 6 s (s0 :: s1 :: s2 :: s3 :: s4 :: s5 :: s6 :: r) k = k (s0 :: s1 :: s2 :: s3 :: s4 :: s5 :: s :: r) := rfl
theorem pk6f {s0 s1 s2 s3 s4 s5 : Sl} {k : D → Prop} : OV (peek (s0 :: s1 :: s2 :: s3 :: s4 :: s5 :: .fz d :: r) (.sl 6)) k = k d := rfl
theorem pk6o {s0 s1 s2 s3 s4 s5 : Sl} {k : D → Prop} : OV (peek (s0 :: s1 :: s2 :: s3 :: s4 :: s5 :: .ow (.lst xs) :: r) (.sl 6)) k = k (.lst xs) := rfl
theorem po6 {s0 s1 s2 s3 s4 s5 : Sl} {k : D → Prop} : OV (peekO (s0 :: s1 :: s2 :: s3 :: s4 :: s5 :: .ow (.lst xs) :: r) (.sl 6)) k = k (.lst xs) := rfl
theorem wv7 {s0 s1 s2 s3 s4 s5 s6 : Sl} : WE R m (.var 7) (s0 :: s1 :: s2 :: s3 :: s4 :: s5 :: s6 :: .fz d :: r) K X = K d false (s0 :: s1 :: s2 :: s3 :: s4 :: s5 :: s6 :: .fz d :: r) := we_var rfl
theorem wo7 {s0 s1 s2 s3 s4 s5 s6 : Sl} : WE R false (.var 7) (s0 :: s1 :: s2 :: s3 :: s4 :: s5 :: s6 :: .ow (.lst xs) :: r) K X = K (.lst xs) false (s0 :: s1 :: s2 :: s3 :: s4 :: s5 :: s6 :: .fz (.lst xs) :: r) := we_varo rfl rfl
theorem wm7 {s0 s1 s2 s3 s4 s5 s6 : Sl} : WE R m (.mov 7) (s0 :: s1 :: s2 :: s3 :: s4 :: s5 :: s6 :: .fz d :: r) K X = K d false (s0 :: s1 :: s2 :: s3 :: s4 :: s5 :: s6 :: .fz d :: r) := we_movf rfl
theorem wn7 {s0 s1 s2 s3 s4 s5 s6 : Sl} : WE R false (.mov 7) (s0 :: s1 :: s2 :: s3 :: s4 :: s5 :: s6 :: .ow (.lst xs) :: r) K X = K (.lst xs) true (s0 :: s1 :: s2 :: s3 :: s4 :: s5 :: s6 :: .no :: r) := we_mov rfl
theorem se7f {s0 s1 s2 s3 s4 s5 s6 s7 : Sl} {k : Env → Prop} : SE (Prog.rt G call false) 7 d false (s0 :: s1 :: s2 :: s3 :: s4 :: s5 :: s6 :: s7 :: r) k = k (s0 :: s1 :: s2 :: s3 :: s4 :: s5 :: s6 :: .fz d :: r) := by simp [SE, okS, Prog.rt, putV]
theorem se7o {s0 s1 s2 s3 s4 s5 s6 s7 : Sl} {k : Env → Prop} : SE (Prog.rt G call false) 7 d true (s0 :: s1 :: s2 :: s3 :: s4 :: s5 :: s6 :: s7 :: r) k = k (s0 :: s1 :: s2 :: s3 :: s4 :: s5 :: s6 :: .ow d :: r) := by simp [SE, okS, Prog.rt, putV]
theorem sx7 {s0 s1 s2 s3 s4 s5 s6 s7 : Sl} {s : Sl} {k : Env → Prop} : SX 7 s (s0 :: s1 :: s2 :: s3 :: s4 :: s5 :: s6 :: s7 :: r) k = k (s0 :: s1 :: s2 :: s3 :: s4 :: s5 :: s6 :: s :: r) := rfl
theorem pk7f {s0 s1 s2 s3 s4 s5 s6 : Sl} {k : D → Prop} : OV (peek (s0 :: s1 :: s2 :: s3 :: s4 :: s5 :: s6 :: .fz d :: r) (.sl 7)) k = k d := rfl
theorem pk7o {s0 s1 s2 s3 s4 s5 s6 : Sl} {k : D → Prop} : OV (peek (s0 :: s1 :: s2 :: s3 :: s4 :: s5 :: s6 :: .ow (.lst xs) :: r) (.sl 7)) k = k (.lst xs) := rfl
theorem po7 {s0 s1 s2 s3 s4 s5 s6 : Sl} {k : D → Prop} : OV (peekO (s0 :: s1 :: s2 :: s3 :: s4 :: s5 :: s6 :: .ow (.lst xs) :: r) (.sl 7)) k = k (.lst xs) := rfl
theorem wv8 {s0 s1 s2 s3 s4 s5 s6 s7 : Sl} : WE R m (.var 8) (s0 :: s1 :: s2 :: s3 :: s4 :: s5 :: s6 :: s7 :: .fz d :: r) K X = K d false (s0 :: s1 :: s2 :: s3 :: s4 :: s5 :: s6 :: s7 :: .fz d :: r) := we_var rfl
theorem wo8 {s0 s1 s2 s3 s4 s5 s6 s7 : Sl} : WE R false (.var 8) (s0 :: s1 :: s2 :: s3 :: s4 :: s5 :: s6 :: s7 :: .ow (.lst xs) :: r) K X = K (.lst xs) false (s0 :: s1 :: s2 :: s3 :: s4 :: s5 :: s6 :: s7 :: .fz (.lst xs) :: r) := we_varo rfl rfl
theorem wm8 {s0 s1 s2 s3 s4 s5 s6 s7 : Sl} : WE R m (.mov 8) (s0 :: s1 :: s2 :: s3 :: s4 :: s5 :: s6 :: s7 :: .fz d :: r) K X = K d false (s0 :: s1 :: s2 :: s3 :: s4 :: s5 :: s6 :: s7 :: .fz d :: r) := we_movf rfl
theorem wn8 {s0 s1 s2 s3 s4 s5 s6 s7 : Sl} : WE R false (.mov 8) (s0 :: s1 :: s2 :: s3 :: s4 :: s5 :: s6 :: s7 :: .ow (.lst xs) :: r) K X = K (.lst xs) true (s0 :: s1 :: s2 :: s3 :: s4 :: s5 :: s6 :: s7 :: .no :: r) := we_mov rfl
theorem se8f {s0 s1 s2 s3 s4 s5 s6 s7 s8 : Sl} {k : Env → Prop} : SE (Prog.rt G call false) 8 d false (s0 :: s1 :: s2 :: s3 :: s4 :: s5 :: s6 :: s7 :: s8 :: r) k = k (s0 :: s1 :: s2 :: s3 :: s4 :: s5 :: s6 :: s7 :: .fz d :: r) := by simp [SE, okS, Prog.rt, putV]
theorem se8o {s0 s1 s2 s3 s4 s5 s6 s7 s8 : Sl} {k : Env → Prop} : SE (Prog.rt G call false) 8 d true (s0 :: s1 :: s2 :: s3 :: s4 :: s5 :: s6 :: s7 :: s8 :: r) k = k (s0 :: s1 :: s2 :: s3 :: s4 :: s5 :: s6 :: s7 :: .ow d :: r) := by simp [SE, okS, Prog.rt, putV]
theorem sx8 {s0 s1 s2 s3 s4 s5 s6 s7 s8 : Sl} {s : Sl} {k : Env → Prop} : SX 8 s (s0 :: s1 :: s2 :: s3 :: s4 :: s5 :: s6 :: s7 :: s8 :: r) k = k (s0 :: s1 :: s2 :: s3 :: s4 :: s5 :: s6 :: s7 :: s :: r) := rfl
theorem pk8f {s0 s1 s2 s3 s4 s5 s6 s7 : Sl} {k : D → Prop} : OV (peek (s0 :: s1 :: s2 :: s3 :: s4 :: s5 :: s6 :: s7 :: .fz d :: r) (.sl 8)) k = k d := rfl
theorem pk8o {s0 s1 s2 s3 s4 s5 s6 s7 : Sl} {k : D → Prop} : OV (peek (s0 :: s1 :: s2 :: s3 :: s4 :: s5 :: s6 :: s7 :: .ow (.lst xs) :: r) (.sl 8)) k = k (.lst xs) := rfl
theorem po8 {s0 s1 s2 s3 s4 s5 s6 s7 : Sl} {k : D → Prop} : OV (peekO (s0 :: s1 :: s2 :: s3 :: s4 :: s5 :: s6 :: s7 :: .ow (.lst xs) :: r) (.sl 8)) k = k (.lst xs) := rfl
theorem wv9 {s0 s1 s2 s3 s4 s5 s6 s7 s8 : Sl} : WE R m (.var 9) (s0 :: s1 :: s2 :: s3 :: s4 :: s5 :: s6 :: s7 :: s8 :: .fz d :: r) K X = K d false (s0 :: s1 :: s2 :: s3 :: s4 :: s5 :: s6 :: s7 :: s8 :: .fz d :: r) := we_var rfl
theorem wo9 {s0 s1 s2 s3 s4 s5 s6 s7 s8 : Sl} : WE R false (.var 9) (s0 :: s1 :: s2 :: s3 :: s4 :: s5 :: s6 :: s7 :: s8 :: .ow (.lst xs) :: r) K X = K (.lst xs) false (s0 :: s1 :: s2 :: s3 :: s4 :: s5 :: s6 :: s7 :: s8 :: .fz (.lst xs) :: r) := we_varo rfl rfl
theorem wm9 {s0 s1 s2 s3 s4 s5 s6 s7 s8 : Sl} : WE R m (.mov 9) (s0 :: s1 :: s2 :: s3 :: s4 :: s5 :: s6 :: s7 :: s8 :: .fz d :: r) K X = K d false (s0 :: s1 :: s2 :: s3 :: s4 :: s5 :: s6 :: s7 :: s8 :: .fz d :: r) := we_movf rfl
theorem wn9 {s0 s1 s2 s3 s4 s5 s6 s7 s8 : Sl} : WE R false (.mov 9) (s0 :: s1 :: s2 :: s3 :: s4 :: s5 :: s6 :: s7 :: s8 :: .ow (.lst xs) :: r) K X = K (.lst xs) true (s0 :: s1 :: s2 :: s3 :: s4 :: s5 :: s6 :: s7 :: s8 :: .no :: r) := we_mov rfl
theorem se9f {s0 s1 s2 s3 s4 s5 s6 s7 s8 s9 : Sl} {k : Env → Prop} : SE (Prog.rt G call false) 9 d false (s0 :: s1 :: s2 :: s3 :: s4 :: s5 :: s6 :: s7 :: s8 :: s9 :: r) k = k (s0 :: s1 :: s2 :: s3 :: s4 :: s5 :: s6 :: s7 :: s8 :: .fz d :: r) := by simp [SE, okS, Prog.rt, putV]
theorem se9o {s0 s1 s2 s3 s4 s5 s6 s7 s8 s9 : Sl} {k : Env → Prop} : SE (Prog.rt G call false) 9 d true (s0 :: s1 :: s2 :: s3 :: s4 :: s5 :: s6 :: s7 :: s8 :: s9 :: r) k = k (s0 :: s1 :: s2 :: s3 :: s4 :: s5 :: s6 :: s7 :: s8 :: .ow d :: r) := by simp [SE, okS, Prog.rt, putV]
theorem sx9 {s0 s1 s2 s3 s4 s5 s6 s7 s8 s9 : Sl} {s : Sl} {k : Env → Prop} : SX 9 s (s0 :: s1 :: s2 :: s3 :: s4 :: s5 :: s6 :: s7 :: s8 :: s9 :: r) k = k (s0 :: s1 :: s2 :: s3 :: s4 :: s5 :: s6 :: s7 :: s8 :: s :: r) := rfl
theorem pk9f {s0 s1 s2 s3 s4 s5 s6 s7 s8 : Sl} {k : D → Prop} : OV (peek (s0 :: s1 :: s2 :: s3 :: s4 :: s5 :: s6 :: s7 :: s8 :: .fz d :: r) (.sl 9)) k = k d := rfl
theorem pk9o {s0 s1 s2 s3 s4 s5 s6 s7 s8 : Sl} {k : D → Prop} : OV (peek (s0 :: s1 :: s2 :: s3 :: s4 :: s5 :: s6 :: s7 :: s8 :: .ow (.lst xs) :: r) (.sl 9)) k = k (.lst xs) := rfl
theorem po9 {s0 s1 s2 s3 s4 s5 s6 s7 s8 : Sl} {k : D → Prop} : OV (peekO (s0 :: s1 :: s2 :: s3 :: s4 :: s5 :: s6 :: s7 :: s8 :: .ow (.lst xs) :: r) (.sl 9)) k = k (.lst xs) := rfl
theorem wv10 {s0 s1 s2 s3 s4 s5 s6 s7 s8 s9 : Sl} : WE R m (.var 10) (s0 :: s1 :: s2 :: s3 :: s4 :: s5 :: s6 :: s7 :: s8 :: s9 :: .fz d :: r) K X = K d false (s0 :: s1 :: s2 :: s3 :: s4 :: s5 :: s6 :: s7 :: s8 :: s9 :: .fz d :: r) := we_var rfl
theorem wo10 {s0 s1 s2 s3 s4 s5 s6 s7 s8 s9 : Sl} : WE R false (.var 10) (s0 :: s1 :: s2 :: s3 :: s4 :: s5 :: s6 :: s7 :: s8 :: s9 :: .ow (.lst xs) :: r) K X = K (.lst xs) false (s0 :: s1 :: s2 :: s3 :: s4 :: s5 :: s6 :: s7 :: s8 :: s9 :: .fz (.lst xs) :: r) := we_varo rfl rfl
theorem wm10 {s0 s1 s2 s3 s4 s5 s6 s7 s8 s9 : Sl} : WE R m (.mov 10) (s0 :: s1 :: s2 :: s3 :: s4 :: s5 :: s6 :: s7 :: s8 :: s9 :: .fz d :: r) K X = K d false (s0 :: s1 :: s2 :: s3 :: s4 :: s5 :: s6 :: s7 :: s8 :: s9 :: .fz d :: r) := we_movf rfl
theorem wn10 {s0 s1 s2 s3 s4 s5 s6 s7 s8 s9 : Sl} : WE R false (.mov 10) (s0 :: s1 :: s2 :: s3 :: s4 :: s5 :: s6 :: s7 :: s8 :: s9 :: .ow (.lst xs) :: r) K X = K (.lst xs) true (s0 :: s1 :: s2 :: s3 :: s4 :: s5 :: s6 :: s7 :: s8 :: s9 :: .no :: r) := we_mov rfl
theorem se10f {s0 s1 s2 s3 s4 s5 s6 s7 s8 s9 s10 : Sl} {k : Env → Prop} : SE (Prog.rt G call false) 10 d false (s0 :: s1 :: s2 :: s3 :: s4 :: s5 :: s6 :: s7 :: s8 :: s9 :: s10 :: r) k = k (s0 :: s1 :: s2 :: s3 :: s4 :: s5 :: s6 :: s7 :: s8 :: s9 :: .fz d :: r) := by simp [SE, okS, Prog.rt, putV]
theorem se10o {s0 s1 s2 s3 s4 s5 s6 s7 s8 s9 s10 : Sl} {k : Env → Prop} : SE (Prog.rt G call false) 10 d true (s0 :: s1 :: s2 :: s3 :: s4 :: s5 :: s6 :: s7 :: s8 :: s9 :: s10 :: r) k = k (s0 :: s1 :: s2 :: s3 :: s4 :: s5 :: s6 :: s7 :: s8 :: s9 :: .ow d :: r) := by simp [SE, okS, Prog.rt, putV]
theorem sx10 {s0 s1 s2 s3 s4 s5 s6 s7 s8 s9 s10 : Sl} {s : Sl} {k : Env → Prop} : SX 10 s (s0 :: s1 :: s2 :: s3 :: s4 :: s5 :: s6 :: s7 :: s8 :: s9 :: s10 :: r) k = k (s0 :: s1 :: s2 :: s3 :: s4 :: s5 :: s6 :: s7 :: s8 :: s9 :: s :: r) := rfl
theorem pk10f {s0 s1 s2 s3 s4 s5 s6 s7 s8 s9 : Sl} {k : D → Prop} : OV (peek (s0 :: s1 :: s2 :: s3 :: s4 :: s5 :: s6 :: s7 :: s8 :: s9 :: .fz d :: r) (.sl 10)) k = k d := rfl
theorem pk10o {s0 s1 s2 s3 s4 s5 s6 s7 s8 s9 : Sl} {k : D → Prop} : OV (peek (s0 :: s1 :: s2 :: s3 :: s4 :: s5 :: s6 :: s7 :: s8 :: s9 :: .ow (.lst xs) :: r) (.sl 10)) k = k (.lst xs) := rfl
theorem po10 {s0 s1 s2 s3 s4 s5 s6 s7 s8 s9 : Sl} {k : D → Prop} : OV (peekO (s0 :: s1 :: s2 :: s3 :: s4 :: s5 :: s6 :: s7 :: s8 :: s9 :: .ow (.lst xs) :: r) (.sl 10)) k = k (.lst xs) := rfl
theorem wv11 {s0 s1 s2 s3 s4 s5 s6 s7 s8 s9 s10 : Sl} : WE R m (.var 11) (s0 :: s1 :: s2 :: s3 :: s4 :: s5 :: s6 :: s7 :: s8 :: s9 :: s10 :: .fz d :: r) K X = K d false (s0 :: s1 :: s2 :: s3 :: s4 :: s5 :: s6 :: s7 :: s8 :: s9 :: s10 :: .fz d :: r) := we_var rfl
theorem wo11 {s0 s1 s2 s3 s4 s5 s6 s7 s8 s9 s10 : Sl} : WE R false (.var 11) (s0 :: s1 :: s2 :: s3 :: s4 :: s5 :: s6 :: s7 :: s8 :: s9 :: s10 :: .ow (.lst xs) :: r) K X = K (.lst xs) false (s0 :: s1 :: s2 :: s3 :: s4 :: s5 :: s6 :: s7 :: s8 :: s9 :: s10 :: .fz (.lst xs) :: r) := we_varo rfl rfl
theorem wm11 {s0 s1 s2 s3 s4 s5 s6 s7 s8 s9 s10 : Sl} : WE R m (.mov 11) (s0 :: s1 :: s2 :: s3 :: s4 :: s5 :: s6 :: s7 :: s8 :: s9 :: s10 :: .fz d :: r) K X = K d false (s0 :: s1 :: s2 :: s3 :: s4 :: s5 :: s6 :: s7 :: s8 :: s9 :: s10 :: .fz d :: r) := we_movf rfl
theorem wn11 {s0 s1 s2 s3 s4 s5 s6 s7 s8 s9 s10 : Sl} : WE R false (.mov 11) (s0 :: s1 :: s2 :: s3 :: s4 :: s5 :: s6 :: s7 :: s8 :: s9 :: s10 :: .ow (.lst xs) :: r) K X = K (.lst xs) true (s0 :: s1 :: s2 :: s3 :: s4 :: s5 :: s6 :: s7 :: s8 :: s9 :: s10 :: .no :: r) := we_mov rfl
theorem se11f {s0 s1 s2 s3 s4 s5 s6 s7 s8 s9 s10 s11 : Sl} {k : Env → Prop} : SE (Prog.rt G call false) 11 d false (s0 :: s1 :: s2 :: s3 :: s4 :: s5 :: s6 :: s7 :: s8 :: s9 :: s10 :: s11 :: r) k = k (s0 :: s1 :: s2 :: s3 :: s4 :: s5 :: s6 :: s7 :: s8 :: s9 :: s10 :: .fz d :: r) := by simp [SE, okS, Prog.rt, putV]
theorem se11o {s0 s1 s2 s3 s4 s5 s6 s7 s8 s9 s10 s11 : Sl} {k : Env → Prop} : SE (Prog.rt G call false) 11 d true (s0 :: s1 :: s2 :: s3 :: s4 :: s5 :: s6 :: s7 :: s8 :: s9 :: s10 :: s11 :: r) k = k (s0 :: s1 :: s2 :: s3 :: s4 :: s5 :: s6 :: s7 :: s8 :: s9 :: s10 :: .ow d :: r) := by simp [SE, okS, Prog.rt, putV]
theorem sx11 {s0 s1 s2 s3 s4 s5 s6 s7 s8 s9 s10 s11 : Sl} {s : Sl} {k : Env → Prop} : SX 11 s (s0 :: s1 :: s2 :: s3 :: s4 :: s5 :: s6 :: s7 :: s8 :: s9 :: s10 :: s11 :: r) k = k (s0 :: s1 :: s2 :: s3 :: s4 :: s5 :: s6 :: s7 :: s8 :: s9 :: s10 :: s :: r) := rfl
theorem pk11f {s0 s1 s2 s3 s4 s5 s6 s7 s8 s9 s10 : Sl} {k : D → Prop} : OV (peek (s0 :: s1 :: s2 :: s3 :: s4 :: s5 :: s6 :: s7 :: s8 :: s9 :: s10 :: .fz d :: r) (.sl 11)) k = k d := rfl
theorem pk11o {s0 s1 s2 s3 s4 s5 s6 s7 s8 s9 s10 : Sl} {k : D → Prop} : OV (peek (s0 :: s1 :: s2 :: s3 :: s4 :: s5 :: s6 :: s7 :: s8 :: s9 :: s10 :: .ow (.lst xs) :: r) (.sl 11)) k = k (.lst xs) := rfl
theorem po11 {s0 s1 s2 s3 s4 s5 s6 s7 s8 s9 s10 : Sl} {k : D → Prop} : OV (peekO (s0 :: s1 :: s2 :: s3 :: s4 :: s5 :: s6 :: s7 :: s8 :: s9 :: s10 :: .ow (.lst xs) :: r) (.sl 11)) k = k (.lst xs) := rfl
theorem wv12 {s0 s1 s2 s3 s4 s5 s6 s7 s8 s9 s10 s11 : Sl} : WE R m (.var 12) (s0 :: s1 :: s2 :: s3 :: s4 :: s5 :: s6 :: s7 :: s8 :: s9 :: s10 :: s11 :: .fz d :: r) K X = K d false (s0 :: s1 :: s2 :: s3 :: s4 :: s5 :: s6 :: s7 :: s8 :: s9 :: s10 :: s11 :: .fz d :: r) := we_var rfl
theorem wo12 {s0 s1 s2 s3 s4 s5 s6 s7 s8 s9 s10 s11 : Sl} : WE R false (.var 12) (s0 :: s1 :: s2 :: s3 :: s4 :: s5 :: s6 :: s7 :: s8 :: s9 :: s10 :: s11 :: .ow (.lst xs) :: r) K X = K (.lst xs) false (s0 :: s1 :: s2 :: s3 :: s4 :: s5 :: s6 :: s7 :: s8 :: s9 :: s10 :: s11 :: .fz (.lst xs) :: r) := we_varo rfl rfl
theorem wm12 {s0 s1 s2 s3 s4 s5 s6 s7 s8 s9 s10 s11 : Sl} : WE R m (.mov 12) (s0 :: s1 :: s2 :: s3 :: s4 :: s5 :: s6 :: s7 :: s8 :: s9 :: s10 :: s11 :: .fz d :: r) K X = K d false (s0 :: s1 :: s2 :: s3 :: s4 :: s5 :: s6 :: s7 :: s8 :: s9 :: s10 :: s11 :: .fz d :: r) := we_movf rfl
theorem wn12 {s0 s1 s2 s3 s4 s5 s6 s7 s8 s9 s10 s11 : Sl} : WE R false (.mov 12) (s0 :: s1 :: s2 :: s3 :: s4 :: s5 :: s6 :: s7 :: s8 :: s9 :: s10 :: s11 :: .ow (.lst xs) :: r) K X = K (.lst xs) true (s0 :: s1 :: s2 :: s3 :: s4 :: s5 :: s6 :: s7 :: s8 :: s9 :: s10 :: s11 :: .no :: r) := we_mov rfl
theorem se12f {s0 s1 s2 s3 s4 s5 s6 s7 s8 s9 s10 s11 s12 : Sl} {k : Env → Prop} : SE (Prog.rt G call false) 12 d false (s0 :: s1 :: s2 :: s3 :: s4 :: s5 :: s6 :: s7 :: s8 :: s9 :: s10 :: s11 :: s12 :: r) k = k (s0 :: s1 :: s2 :: s3 :: s4 :: s5 :: s6 :: s7 :: s8 :: s9 :: s10 :: s11 :: .fz d :: r) := by simp [SE, okS, Prog.rt, putV]
theorem se12o {s0 s1 s2 s3 s4 s5 s6 s7 s8 s9 s10 s11 s12 : Sl} {k : Env → Prop} : SE (Prog.rt G call false) 12 d true (s0 :: s1 :: s2 :: s3 :: s4 :: s5 :: s6 :: s7 :: s8 :: s9 :: s10 :: s11 :: s12 :: r) k = k (s0 :: s1 :: s2 :: s3 :: s4 :: s5 :: s6 :: s7 :: s8 :: s9 :: s10 :: s11 :: .ow d :: r) := by simp [SE, okS, Prog.rt, putV]
theorem sx12 {s0 s1 s2 s3 s4 s5 s6 s7 s8 s9 s10 s11 s12 : Sl} {s : Sl} {k : Env → Prop} : SX 12 s (s0 :: s1 :: s2 :: s3 :: s4 :: s5 :: s6 :: s7 :: s8 :: s9 :: s10 :: s11 :: s12 :: r) k = k (s0 :: s1 :: s2 :: s3 :: s4 :: s5 :: s6 :: s7 :: s8 :: s9 :: s10 :: s11 :: s :: r) := rfl
theorem pk12f {s0 s1 s2 s3 s4 s5 s6 s7 s8 s9 s10 s11 : Sl} {k : D → Prop} : OV (peek (s0 :: s1 :: s2 :: s3 :: s4 :: s5 :: s6 :: s7 :: s8 :: s9 :: s10 :: s11 :: .fz d :: r) (.sl 12)) k = k d := rfl
theorem pk12o {s0 s1 s2 s3 s4 s5 s6 s7 s8 s9 s10 s11 : Sl} {k : D → Prop} : OV (peek (s0 :: s1 :: s2 :: s3 :: s4 :: s5 :: s6 :: s7 :: s8 :: s9 :: s10 :: s11 :: .ow (.lst xs) :: r) (.sl 12)) k = k (.lst xs) := rfl
theorem po12 {s0 s1 s2 s3 s4 s5 s6 s7 s8 s9 s10 s11 : Sl} {k : D → Prop} : OV (peekO (s0 :: s1 :: s2 :: s3 :: s4 :: s5 :: s6 :: s7 :: s8 :: s9 :: s10 :: s11 :: .ow (.lst xs) :: r) (.sl 12)) k = k (.lst xs) := rfl
theorem wv13 {s0 s1 s2 s3 s4 s5 s6 s7 s8 s9 s10 s11 s12 : Sl} : WE R m (.var 13) (s0 :: s1 :: s2 :: s3 :: s4 :: s5 :: s6 :: s7 :: s8 :: s9 :: s10 :: s11 :: s12 :: .fz d :: r) K X = K d false (s0 :: s1 :: s2 :: s3 :: s4 :: s5 :: s6 :: s7 :: s8 :: s9 :: s10 :: s11 :: s12 :: .fz d :: r) := we_var rfl
theorem wo13 {s0 s1 s2 s3 s4 s5 s6 s7 s8 s9 s10 s11 s12 : Sl} : WE R false (.var 13) (s0 :: s1 :: s2 :: s3 :: s4 :: s5 :: s6 :: s7 :: s8 :: s9 :: s10 :: s11 :: s12 :: .ow (.lst xs) :: r) K X = K (.lst xs) false (s0 :: s1 :: s2 :: s3 :: s4 :: s5 :: s6 :: s7 :: s8 :: s9 :: s10 :: s11 :: s12 :: .fz (.lst xs) :: r) := we_varo rfl rfl
theorem wm13 {s0 s1 s2 s3 s4 s5 s6 s7 s8 s9 s10 s11 s12 : Sl} : WE R m (.mov 13) (s0 :: s1 :: s2 :: s3 :: s4 :: s5 :: s6 :: s7 :: s8 :: s9 :: s10 :: s11 :: s12 :: .fz d :: r) K X = K d false (s0 :: s1 :: s2 :: s3 :: s4 :: s5 :: s6 :: s7 :: s8 :: s9 :: s10 :: s11 :: s12 :: .fz d :: r) := we_movf rfl
theorem wn13 {s0 s1 s2 s3 s4 s5 s6 s7 s8 s9 s10 s11 s12 : Sl} : WE R false (.mov 13) (s0 :: s1 :: s2 :: s3 :: s4 :: s5 :: s6 :: s7 :: s8 :: s9 :: s10 :: s11 :: s12 :: .ow (.lst xs) :: r) K X = K (.lst xs) true (s0 :: s1 :: s2 :: s3 :: s4 :: s5 :: s6 :: s7 :: s8 :: s9 :: s10 :: s11 :: s12 :: .no :: r) := we_mov rfl
theorem se13f {s0 s1 s2 s3 s4 s5 s6 s7 s8 s9 s10 s11 s12 s13 : Sl} {k : Env → Prop} : SE (Prog.rt G call false) 13 d false (s0 :: s1 :: s2 :: s3 :: s4 :: s5 :: s6 :: s7 :: s8 :: s9 :: s10 :: s11 :: s12 :: s13 :: r) k = k (s0 :: s1 :: s2 :: s3 :: s4 :: s5 :: s6 :: s7 :: s8 :: s9 :: s10 :: s11 :: s12 :: .fz d :: r) := by simp [SE, okS, Prog.rt, putV]
theorem se13o {s0 s1 s2 s3 s4 s5 s6 s7 s8 s9 s10 s11 s12 s13 : Sl} {k : Env → Prop} : SE (Prog.rt G call false) 13 d true (s0 :: s1 :: s2 :: s3 :: s4 :: s5 :: s6 :: s7 :: s8 :: s9 :: s10 :: s11 :: s12 :: s13 :: r) k = k (s0 :: s1 :: s2 :: s3 :: s4 :: s5 :: s6 :: s7 :: s8 :: s9 :: s10 :: s11 :: s12 :: .ow d :: r) := by simp [SE, okS, Prog.rt, putV]
theorem sx13 {s0 s1 s2 s3 s4 s5 s6 s7 s8 s9 s10 s11 s12 s13 : Sl} {s : Sl} {k : Env → Prop} : SX 13 s (s0 :: s1 :: s2 :: s3 :: s4 :: s5 :: s6 :: s7 :: s8 :: s9 :: s10 :: s11 :: s12 :: s13 :: r) k = k (s0 :: s1 :: s2 :: s3 :: s4 :: s5 :: s6 :: s7 :: s8 :: s9 :: s10 :: s11 :: s12 :: s :: r) := rfl
theorem pk13f {s0 s1 s2 s3 s4 s5 s6 s7 s8 s9 s10 s11 s12 : Sl} {k : D → Prop} : OV (peek (s0 :: s1 :: s2 :: s3 :: s4 :: s5 :: s6 :: s7 :: s8 :: s9 :: s10 :: s11 :: s12 :: .fz d :: r) (.sl 13)) k = k d := rfl
theorem pk13o {s0 s1 s2 s3 s4 s5 s6 s7 s8 s9 s10 s11 s12 : Sl} {k : D → Prop} : OV (peek (s0 :: s1 :: s2 :: s3 :: s4 :: s5 :: s6 :: s7 :: s8 :: s9 :: s10 :: s11 :: s12 :: .ow (.lst xs) :: r) (.sl 13)) k = k (.lst xs) := rfl
theorem po13 {s0 s1 s2 s3 s4 s5 s6 s7 s8 s9 s10 s11 s12 : Sl} {k : D → Prop} : OV (peekO (s0 :: s1 :: s2 :: s3 :: s4 :: s5 :: s6 :: s7 :: s8 :: s9 :: s10 :: s11 :: s12 :: .ow (.lst xs) :: r) (.sl 13)) k = k (.lst xs) := rfl
theorem wv14 {s0 s1 s2 s3 s4 s5 s6 s7 s8 s9 s10 s11 s12 s13 : Sl} : WE R m (.var 14) (s0 :: s1 :: s2 :: s3 :: s4 :: s5 :: s6 :: s7 :: s8 :: s9 :: s10 :: s11 :: s12 :: s13 :: .fz d :: r) K X = K d false (s0 :: s1 :: s2 :: s3 :: s4 :: s5 :: s6 :: s7 :: s8 :: s9 :: s10 :: s11 :: s12 :: s13 :: .fz d :: r) := we_var rfl
theorem wo14 {s0 s1 s2 s3 s4 s5 s6 s7 s8 s9 s10 s11 s12 s13 : Sl} : WE R false (.var 14) (s0 :: s1 :: s2 :: s3 :: s4 :: s5 :: s6 :: s7 :: s8 :: s9 :: s10 :: s11 :: s12 :: s13 :: .ow (.lst xs) :: r) K X = K (.lst xs) false (s0 :: s1 :: s2 :: s3 :: s4 :: s5 :: s6 :: s7 :: s8 :: s9 :: s10 :: s11 :: s12 :: s13 :: .fz (.lst xs) :: r) := we_varo rfl rfl
theorem wm14 {s0 s1 s2 s3 s4 s5 s6 s7 s8 s9 s10 s11 s12 s13 : Sl} : WE R m (.mov 14) (s0 :: s1 :: s2 :: s3 :: s4 :: s5 :: s6 :: s7 :: s8 :: s9 :: s10 :: s11 :: s12 :: s13 :: .fz d :: r) K X = K d false (s0 :: s1 :: s2 :: s3 :: s4 :: s5 :: s6 :: s7 :: s8 :: s9 :: s10 :: s11 :: s12 :: s13 :: .fz d :: r) := we_movf rfl
theorem wn14 {s0 s1 s2 s3 s4 s5 s6 s7 s8 s9 s10 s11 s12 s13 : Sl} : WE R false (.mov 14) (s0 :: s1 :: s2 :: s3 :: s4 :: s5 :: s6 :: s7 :: s8 :: s9 :: s10 :: s11 :: s12 :: s13 :: .ow (.lst xs) :: r) K X = K (.lst xs) true (s0 :: s1 :: s2 :: s3 :: s4 :: s5 :: s6 :: s7 :: s8 :: s9 :: s10 :: s11 :: s12 :: s13 :: .no :: r) := we_mov rfl
theorem se14f {s0 s1 s2 s3 s4 s5 s6 s7 s8 s9 s10 s11 s12 s13 s14 : Sl} {k : Env → Prop} : SE (Prog.rt G call false) 14 d false (s0 :: s1 :: s2 :: s3 :: s4 :: s5 :: s6 :: s7 :: s8 :: s9 :: s10 :: s11 :: s12 :: s13 :: s14 :: r) k = k (s0 :: s1 :: s2 :: s3 :: s4 :: s5 :: s6 :: s7 :: s8 :: s9 :: s10 :: s11 :: s12 :: s13 :: .fz d :: r) := by simp [SE, okS, Prog.rt, putV]
theorem se14o {s0 s1 s2 s3 s4 s5 s6 s7 s8 s9 s10 s11 s12 s13 s14 : Sl} {k : Env → Prop} : SE (Prog.rt G call false) 14 d true (s0 :: s1 :: s2 :: s3 :: s4 :: s5 :: s6 :: s7 :: s8 :: s9 :: s10 :: s11 :: s12 :: s13 :: s14 :: r) k = k (s0 :: s1 :: s2 :: s3 :: s4 :: s5 :: s6 :: s7 :: s8 :: s9 :: s10 :: s11 :: s12 :: s13 :: .ow d :: r) := by simp [SE, okS, Prog.rt, putV]
theorem sx14 {s0 s1 s2 s3 s4 s5 s6 s7 s8 s9 s10 s11 s12 s13 s14 : Sl} {s : Sl} {k : Env → Prop} : SX 14 s (s0 :: s1 :: s2 :: s3 :: s4 :: s5 :: s6 :: s7 :: s8 :: s9 :: s10 :: s11 :: s12 :: s13 :: s14 :: r) k = k (s0 :: s1 :: s2 :: s3 :: s4 :: s5 :: s6 :: s7 :: s8 :: s9 :: s10 :: s11 :: s12 :: s13 :: s :: r) := rfl
theorem pk14f {s0 s1 s2 s3 s4 s5 s6 s7 s8 s9 s10 s11 s12 s13 : Sl} {k : D → Prop} : OV (peek (s0 :: s1 :: s2 :: s3 :: s4 :: s5 :: s6 :: s7 :: s8 :: s9 :: s10 :: s11 :: s12 :: s13 :: .fz d :: r) (.sl 14)) k = k d := rfl
theorem pk14o {s0 s1 s2 s3 s4 s5 s6 s7 s8 s9 s10 s11 s12 s13 : Sl} {k : D → Prop} : OV (peek (s0 :: s1 :: s2 :: s3 :: s4 :: s5 :: s6 :: s7 :: s8 :: s9 :: s10 :: s11 :: s12 :: s13 :: .ow (.lst xs) :: r) (.sl 14)) k = k (.lst xs) := rfl
theorem po14 {s0 s1 s2 s3 s4 s5 s6 s7 s8 s9 s10 s11 s12 s13 : Sl} {k : D → Prop} : OV (peekO (s0 :: s1 :: s2 :: s3 :: s4 :: s5 :: s6 :: s7 :: s8 :: s9 :: s10 :: s11 :: s12 :: s13 :: .ow (.lst xs) :: r) (.sl 14)) k = k (.lst xs) := rfl
theorem wv15 {s0 s1 s2 s3 s4 s5 s6 s7 s8 s9 s10 s11 s12 s13 s14 : Sl} : WE R m (.var 15) (s0 :: s1 :: s2 :: s3 :: s4 :: s5 :: s6 :: s7 :: s8 :: s9 :: s10 :: s11 :: s12 :: s13 :: s14 :: .fz d :: r) K X = K d false (s0 :: s1 :: s2 :: s3 :: s4 :: s5 :: s6 :: s7 :: s8 :: s9 :: s10 :: s11 :: s12 :: s13 :: s14 :: .fz d :: r) := we_var rfl
theorem wo15 {s0 s1 s2 s3 s4 s5 s6 s7 s8 s9 s10 s11 s12 s13 s14 : Sl} : WE R false (.var 15) (s0 :: s1 :: s2 :: s3 :: s4 :: s5 :: s6 :: s7 :: s8 :: s9 :: s10 :: s11 :: s12 :: s13 :: s14 :: .ow (.lst xs) :: r) K X = K (.lst xs) false (s0 :: s1 :: s2 :: s3 :: s4 :: s5 :: s6 :: s7 :: s8 :: s9 :: s10 :: s11 :: s12 :: s13 :: s14 :: .fz (.lst xs) :: r) := we_varo rfl rfl
theorem wm15 {s0 s1 s2 s3 s4 s5 s6 s7 s8 s9 s10 s11 s12 s13 s14 : Sl} : WE R m (.mov 15) (s0 :: s1 :: s2 :: s3 :: s4 :: s5 :: s6 :: s7 :: s8 :: s9 :: s10 :: s11 :: s12 :: s13 :: s14 :: .fz d :: r) K X = K d false (s0 :: s1 :: s2 :: s3 :: s4 :: s5 :: s6 :: s7 :: s8 :: s9 :: s10 :: s11 :: s12 :: s13 :: s14 :: .fz d :: r) := we_movf rfl
theorem wn15 {s0 s1 s2 s3 s4 s5 s6 s7 s8 s9 s10 s11 s12 s13 s14 : Sl} : WE R false (.mov 15) (s0 :: s1 :: s2 :: s3 :: s4 :: s5 :: s6 :: s7 :: s8 :: s9 :: s10 :: s11 :: s12 :: s13 :: s14 :: .ow (.lst xs) :: r) K X = K (.lst xs) true (s0 :: s1 :: s2 :: s3 :: s4 :: s5 :: s6 :: s7 :: s8 :: s9 :: s10 :: s11 :: s12 :: s13 :: s14 :: .no :: r) := we_mov rfl
theorem se15f {s0 s1 s2 s3 s4 s5 s6 s7 s8 s9 s10 s11 s12 s13 s14 s15 : Sl} {k : Env → Prop} : SE (Prog.rt G call false) 15 d false (s0 :: s1 :: s2 :: s3 :: s4 :: s5 :: s6 :: s7 :: s8 :: s9 :: s10 :: s11 :: s12 :: s13 :: s14 :: s15 :: r) k = k (s0 :: s1 :: s2 :: s3 :: s4 :: s5 :: s6 :: s7 :: s8 :: s9 :: s10 :: s11 :: s12 :: s13 :: s14 :: .fz d :: r) := by simp [SE, okS, Prog.rt, putV]
theorem se15o {s0 s1 s2 s3 s4 s5 s6 s7 s8 s9 s10 s11 s12 s13 s14 s15 : Sl} {k : Env → Prop} : SE (Prog.rt G call false) 15 d true (s0 :: s1 :: s2 :: s3 :: s4 :: s5 :: s6 :: s7 :: s8 :: s9 :: s10 :: s11 :: s12 :: s13 :: s14 :: s15 :: r) k = k (s0 :: s1 :: s2 :: s3 :: s4 :: s5 :: s6 :: s7 :: s8 :: s9 :: s10 :: s11 :: s12 :: s13 :: s14 :: .ow d :: r) := by simp [SE, okS, Prog.rt, putV]
theorem sx15 {s0 s1 s2 s3 s4 s5 s6 s7 s8 s9 s10 s11 s12 s13 s14 s15 : Sl} {s : Sl} {k : Env → Prop} : SX 15 s (s0 :: s1 :: s2 :: s3 :: s4 :: s5 :: s6 :: s7 :: s8 :: s9 :: s10 :: s11 :: s12 :: s13 :: s14 :: s15 :: r) k = k (s0 :: s1 :: s2 :: s3 :: s4 :: s5 :: s6 :: s7 :: s8 :: s9 :: s10 :: s11 :: s12 :: s13 :: s14 :: s :: r) := rfl
theorem pk15f {s0 s1 s2 s3 s4 s5 s6 s7 s8 s9 s10 s11 s12 s13 s14 : Sl} {k : D → Prop} : OV (peek (s0 :: s1 :: s2 :: s3 :: s4 :: s5 :: s6 :: s7 :: s8 :: s9 :: s10 :: s11 :: s12 :: s13 :: s14 :: .fz d :: r) (.sl 15)) k = k d := rfl
theorem pk15o {s0 s1 s2 s3 s4 s5 s6 s7 s8 s9 s10 s11 s12 s13 s14 : Sl} {k : D → Prop} : OV (peek (s0 :: s1 :: s2 :: s3 :: s4 :: s5 :: s6 :: s7 :: s8 :: s9 :: s10 :: s11 :: s12 :: s13 :: s14 :: .ow (.lst xs) :: r) (.sl 15)) k = k (.lst xs) := rfl
theorem po15 {s0 s1 s2 s3 s4 s5 s6 s7 s8 s9 s10 s11 s12 s13 s14 : Sl} {k : D → Prop} : OV (peekO (s0 :: s1 :: s2 :: s3 :: s4 :: s5 :: s6 :: s7 :: s8 :: s9 :: s10 :: s11 :: s12 :: s13 :: s14 :: .ow (.lst xs) :: r) (.sl 15)) k = k (.lst xs) := rfl
theorem wv16 {s0 s1 s2 s3 s4 s5 s6 s7 s8 s9 s10 s11 s12 s13 s14 s15 : Sl} : WE R m (.var 16) (s0 :: s1 :: s2 :: s3 :: s4 :: s5 :: s6 :: s7 :: s8 :: s9 :: s10 :: s11 :: s12 :: s13 :: s14 :: s15 :: .fz d :: r) K X = K d false (s0 :: s1 :: s2 :: s3 :: s4 :: s5 :: s6 :: s7 :: s8 :: s9 :: s10 :: s11 :: s12 :: s13 :: s14 :: s15 :: .fz d :: r) := we_var rfl
theorem wo16 {s0 s1 s2 s3 s4 s5 s6 s7 s8 s9 s10 s11 s12 s13 s14 s15 : Sl} : WE R false (.var 16) (s0 :: s1 :: s2 :: s3 :: s4 :: s5 :: s6 :: s7 :: s8 :: s9 :: s10 :: s11 :: s12 :: s13 :: s14 :: s15 :: .ow (.lst xs) :: r) K X = K (.lst xs) false (s0 :: s1 :: s2 :: s3 :: s4 :: s5 :: s6 :: s7 :: s8 :: s9 :: s10 :: s11 :: s12 :: s13 :: s14 :: s15 :: .fz (.lst xs) :: r) := we_varo rfl rfl
theorem wm16 {s0 s1 s2 s3 s4 s5 s6 s7 s8 s9 s10 s11 s12 s13 s14 s15 : Sl} : WE R m (.mov 16) (s0 :: s1 :: s2 :: s3 :: s4 :: s5 :: s6 :: s7 :: s8 :: s9 :: s10 :: s11 :: s12 :: s13 :: s14 :: s15 :: .fz d :: r) K X = K d false (s0 :: s1 :: s2 :: s3 :: s4 :: s5 :: s6 :: s7 :: s8 :: s9 :: s10 :: s11 :: s12 :: s13 :: s14 :: s15 :: .fz d :: r) := we_movf rfl
theorem wn16 {s0 s1 s2 s3 s4 s5 s6 s7 s8 s9 s10 s11 s12 s13 s14 s15 : Sl} : WE R false (.mov 16) (s0 :: s1 :: s2 :: s3 :: s4 :: s5 :: s6 :: s7 :: s8 :: s9 :: s10 :: s11 :: s12 :: s13 :: s14 :: s15 :: .ow (.lst xs) :: r) K X = K (.lst xs) true (s0 :: s1 :: s2 :: s3 :: s4 :: s5 :: s6 :: s7 :: s8 :: s9 :: s10 :: s11 :: s12 :: s13 :: s14 :: s15 :: .no :: r) := we_mov rfl
theorem se16f {s0 s1 s2 s3 s4 s5 s6 s7 s8 s9 s10 s11 s12 s13 s14 s15 s16 : Sl} {k : Env → Prop} : SE (Prog.rt G call false) 16 d false (s0 :: s1 :: s2 :: s3 :: s4 :: s5 :: s6 :: s7 :: s8 :: s9 :: s10 :: s11 :: s12 :: s13 :: s14 :: s15 :: s16 :: r) k = k (s0 :: s1 :: s2 :: s3 :: s4 :: s5 :: s6 :: s7 :: s8 :: s9 :: s10 :: s11 :: s12 :: s13 :: s14 :: s15 :: .fz d :: r) := by simp [SE, okS, Prog.rt, putV]
theorem se16o {s0 s1 s2 s3 s4 s5 s6 s7 s8 s9 s10 s11 s12 s13 s14 s15 s16 : Sl} {k : Env → Prop} : SE (Prog.rt G call false) 16 d true (s0 :: s1 :: s2 :: s3 :: s4 :: s5 :: s6 :: s7 :: s8 :: s9 :: s10 :: s11 :: s12 :: s13 :: s14 :: s15 :: s16 :: r) k = k (s0 :: s1 :: s2 :: s3 :: s4 :: s5 :: s6 :: s7 :: s8 :: s9 :: s10 :: s11 :: s12 :: s13 :: s14 :: s15 :: .ow d :: r) := by simp [SE, okS, Prog.rt, putV]
theorem sx16 {s0 s1 s2 s3 s4 s5 s6 s7 s8 s9 s10 s11 s12 s13 s14 s15 s16 : Sl} {s : Sl} {k : Env → Prop} : SX 16 s (s0 :: s1 :: s2 :: s3 :: s4 :: s5 :: s6 :: s7 :: s8 :: s9 :: s10 :: s11 :: s12 :: s13 :: s14 :: s15 :: s16 :: r) k = k (s0 :: s1 :: s2 :: s3 :: s4 :: s5 :: s6 :: s7 :: s8 :: s9 :: s10 :: s11 :: s12 :: s13 :: s14 :: s15 :: s :: r) := rfl
theorem pk16f {s0 s1 s2 s3 s4 s5 s6 s7 s8 s9 s10 s11 s12 s13 s14 s15 : Sl} {k : D → Prop} : OV (peek (s0 :: s1 :: s2 :: s3 :: s4 :: s5 :: s6 :: s7 :: s8 :: s9 :: s10 :: s11 :: s12 :: s13 :: s14 :: s15 :: .fz d :: r) (.sl 16)) k = k d := rfl
theorem pk16o {s0 s1 s2 s3 s4 s5 s6 s7 s8 s9 s10 s11 s12 s13 s14 s15 : Sl} {k : D → Prop} : OV (peek (s0 :: s1 :: s2 :: s3 :: s4 :: s5 :: s6 :: s7 :: s8 :: s9 :: s10 :: s11 :: s12 :: s13 :: s14 :: s15 :: .ow (.lst xs) :: r) (.sl 16)) k = k (.lst xs) := rfl
theorem po16 {s0 s1 s2 s3 s4 s5 s6 s7 s8 s9 s10 s11 s12 s13 s14 s15 : Sl} {k : D → Prop} : OV (peekO (s0 :: s1 :: s2 :: s3 :: s4 :: s5 :: s6 :: s7 :: s8 :: s9 :: s10 :: s11 :: s12 :: s13 :: s14 :: s15 :: .ow (.lst xs) :: r) (.sl 16)) k = k (.lst xs) := rfl
theorem wv17 {s0 s1 s2 s3 s4 s5 s6 s7 s8 s9 s10 s11 s12 s13 s14 s15 s16 : Sl} : WE R m (.var 17) (s0 :: s1 :: s2 :: s3 :: s4 :: s5 :: s6 :: s7 :: s8 :: s9 :: s10 :: s11 :: s12 :: s13 :: s14 :: s15 :: s16 :: .fz d :: r) K X = K d false (s0 :: s1 :: s2 :: s3 :: s4 :: s5 :: s6 :: s7 :: s8 :: s9 :: s10 :: s11 :: s12 :: s13 :: s14 :: s15 :: s16 :: .fz d :: r) := we_var rfl
theorem wo17 {s0 s1 s2 s3 s4 s5 s6 s7 s8 s9 s10 s11 s12 s13 s14 s15 s16 : Sl} : WE R false (.var 17) (s0 :: s1 :: s2 :: s3 :: s4 :: s5 :: s6 :: s7 :: s8 :: s9 :: s10 :: s11 :: s12 :: s13 :: s14 :: s15 :: s16 :: .ow (.lst xs) :: r) K X = K (.lst xs) false (s0 :: s1 :: s2 :: s3 :: s4 :: s5 :: s6 :: s7 :: s8 :: s9 :: s10 :: s11 :: s12 :: s13 :: s14 :: s15 :: s16 :: .fz (.lst xs) :: r) := we_varo rfl rfl
theorem wm17 {s0 s1 s2 s3 s4 s5 s6 s7 s8 s9 s10 s11 s12 s13 s14 s15 s16 : Sl} : WE R m (.mov 17) (s0 :: s1 :: s2 :: s3 :: s4 :: s5 :: s6 :: s7 :: s8 :: s9 :: s10 :: s11 :: s12 :: s13 :: s14 :: s15 :: s16 :: .fz d :: r) K X = K d false (s0 :: s1 :: s2 :: s3 :: s4 :: s5 :: s6 :: s7 :: s8 :: s9 :: s10 :: s11 :: s12 :: s13 :: s14 :: s15 :: s16 :: .fz d :: r) := we_movf rfl
theorem wn17 {s0 s1 s2 s3 s4 s5 s6 s7 s8 s9 s10 s11 s12 s13 s14 s15 s16 : Sl} : WE R false (.mov 17) (s0 :: s1 :: s2 :: s3 :: s4 :: s5 :: s6 :: s7 :: s8 :: s9 :: s10 :: s11 :: s12 :: s13 :: s14 :: s15 :: s16 :: .ow (.lst xs) :: r) K X = K (.lst xs) true (s0 :: s1 :: s2 :: s3 :: s4 :: s5 :: s6 :: s7 :: s8 :: s9 :: s10 :: s11 :: s12 :: s13 :: s14 :: s15 :: s16 :: .no :: r) := we_mov rfl
theorem se17f {s0 s1 s2 s3 s4 s5 s6 s7 s8 s9 s10 s11 s12 s13 s14 s15 s16 s17 : Sl} {k : Env → Prop} : SE (Prog.rt G call false) 17 d false (s0 :: s1 :: s2 :: s3 :: s4 :: s5 :: s6 :: s7 :: s8 :: s9 :: s10 :: s11 :: s12 :: s13 :: s14 :: s15 :: s16 :: s17 :: r) k = k (s0 :: s1 :: s2 :: s3 :: s4 :: s5 :: s6 :: s7 :: s8 :: s9 :: s10 :: s11 :: s12 :: s13 :: s14 :: s15 :: s16 :: .fz d :: r) := by simp [SE, okS, Prog.rt, putV]
theorem se17o {s0 s1 s2 s3 s4 s5 s6 s7 s8 s9 s10 s11 s12 s13 s14 s15 s16 s17 : Sl} {k : Env → Prop} : SE (Prog.rt G call false) 17 d true (s0 :: s1 :: s2 :: s3 :: s4 :: s5 :: s6 :: s7 :: s8 :: s9 :: s10 :: s11 :: s12 :: s13 :: s14 :: s15 :: s16 :: s17 :: r) k = k (s0 :: s1 :: s2 :: s3 :: s4 :: s5 :: s6 :: s7 :: s8 :: s9 :: s10 :: s11 :: s12 :: s13 :: s14 :: s15 :: s16 :: .ow d :: r) := by simp [SE, okS, Prog.rt, putV]
theorem sx17 {s0 s1 s2 s3 s4 s5 s6 s7 s8 s9 s10 s11 s12 s13 s14 s15 s16 s17 : Sl} {s : Sl} {k : Env → Prop} : SX 17 s (s0 :: s1 :: s2 :: s3 :: s4 :: s5 :: s6 :: s7 :: s8 :: s9 :: s10 :: s11 :: s12 :: s13 :: s14 :: s15 :: s16 :: s17 :: r) k = k (s0 :: s1 :: s2 :: s3 :: s4 :: s5 :: s6 :: s7 :: s8 :: s9 :: s10 :: s11 :: s12 :: s13 :: s14 :: s15 :: s16 :: s :: r) := rfl
theorem pk17f {s0 s1 s2 s3 s4 s5 s6 s7 s8 s9 s10 s11 s12 s13 s14 s15 s16 : Sl} {k : D → Prop} : OV (peek (s0 :: s1 :: s2 :: s3 :: s4 :: s5 :: s6 :: s7 :: s8 :: s9 :: s10 :: s11 :: s12 :: s13 :: s14 :: s15 :: s16 :: .fz d :: r) (.sl 17)) k = k d := rfl
theorem pk17o {s0 s1 s2 s3 s4 s5 s6 s7 s8 s9 s10 s11 s12 s13 s14 s15 s16 : Sl} {k : D → Prop} : OV (peek (s0 :: s1 :: s2 :: s3 :: s4 :: s5 :: s6 :: s7 :: s8 :: s9 :: s10 :: s11 :: s12 :: s13 :: s14 :: s15 :: s16 :: .ow (.lst xs) :: r) (.sl 17)) k = k (.lst xs) := rfl
theorem po17 {s0 s1 s2 s3 s4 s5 s6 s7 s8 s9 s10 s11 s12 s13 s14 s15 s16 : Sl} {k : D → Prop} : OV (peekO (s0 :: s1 :: s2 :: s3 :: s4 :: s5 :: s6 :: s7 :: s8 :: s9 :: s10 :: s11 :: s12 :: s13 :: s14 :: s15 :: s16 :: .ow (.lst xs) :: r) (.sl 17)) k = k (.lst xs) := rfl
theorem wv18 {s0 s1 s2 s3 s4 s5 s6 s7 s8 s9 s10 s11 s12 s13 s14 s15 s16 s17 : Sl} : WE R m (.var 18) (s0 :: s1 :: s2 :: s3 :: s4 :: s5 :: s6 :: s7 :: s8 :: s9 :: s10 :: s11 :: s12 :: s13 :: s14 :: s15 :: s16 :: s17 :: .fz d :: r) K X = K d false (s0 :: s1 :: s2 :: s3 :: s4 :: s5 :: s6 :: s7 :: s8 :: s9 :: s10 :: s11 :: s12 :: s13 :: s14 :: s15 :: s16 :: s17 :: .fz d :: r) := we_var rfl
theorem wo18 {s0 s1 s2 s3 s4 s5 s6 s7 s8 s9 s10 s11 s12 s13 s14 s15 s16 s17 : Sl} : WE R false (.var 18) (s0 :: s1 :: s2 :: s3 :: s4 :: s5 :: s6 :: s7 :: s8 :: s9 :: s10 :: s11 :: s12 :: s13 :: s14 :: s15 :: s16 :: s17 :: .ow (.lst xs) :: r) K X = K (.lst xs) false (s0 :: s1 :: s2 :: s3 :: s4 :: s5 :: s6 :: s7 :: s8 :: s9 :: s10 :: s11 :: s12 :: s13 :: s14 :: s15 :: s16 :: s17 :: .fz (.lst xs) :: r) := we_varo rfl rfl
theorem wm18 {s0 s1 s2 s3 s4 s5 s6 s7 s8 s9 s10 s11 s12 s13 s14 s15 s16 s17 : Sl} : WE R m (.mov 18) (s0 :: s1 :: s2 :: s3 :: s4 :: s5 :: s6 :: s7 :: s8 :: s9 :: s10 :: s11 :: s12 :: s13 :: s14 :: s15 :: s16 :: s17 :: .fz d :: r) K X = K d false (s0 :: s1 :: s2 :: s3 :: s4 :: s5 :: s6 :: s7 :: s8 :: s9 :: s10 :: s11 :: s12 :: s13 :: s14 :: s15 :: s16 :: s17 :: .fz d :: r) := we_movf rfl
theorem wn18 {s0 s1 s2 s3 s4 s5 s6 s7 s8 s9 s10 s11 s12 s13 s14 s15 s16 s17 : Sl} : WE R false (.mov 18) (s0 :: s1 :: s2 :: s3 :: s4 :: s5 :: s6 :: s7 :: s8 :: s9 :: s10 :: s11 :: s12 :: s13 :: s14 :: s15 :: s16 :: s17 :: .ow (.lst xs) :: r) K X = K (.lst xs) true (s0 :: s1 :: s2 :: s3 :: s4 :: s5 :: s6 :: s7 :: s8 :: s9 :: s10 :: s11 :: s12 :: s13 :: s14 :: s15 :: s16 :: s17 :: .no :: r) := we_mov rfl
theorem se18f {s0 s1 s2 s3 s4 s5 s6 s7 s8 s9 s10 s11 s12 s13 s14 s15 s16 s17 s18 : Sl} {k : Env → Prop} : SE (Prog.rt G call false) 18 d false (s0 :: s1 :: s2 :: s3 :: s4 :: s5 :: s6 :: s7 :: s8 :: s9 :: s10 :: s11 :: s12 :: s13 :: s14 :: s15 :: s16 :: s17 :: s18 :: r) k = k (s0 :: s1 :: s2 :: s3 :: s4 :: s5 :: s6 :: s7 :: s8 :: s9 :: s10 :: s11 :: s12 :: s13 :: s14 :: s15 :: s16 :: s17 :: .fz d :: r) := by simp [SE, okS, Prog.rt, putV]
theorem se18o {s0 s1 s2 s3 s4 s5 s6 s7 s8 s9 s10 s11 s12 s13 s14 s15 s16 s17 s18 : Sl} {k : Env → Prop} : SE (Prog.rt G call false) 18 d true (s0 :: s1 :: s2 :: s3 :: s4 :: s5 :: s6 :: s7 :: s8 :: s9 :: s10 :: s11 :: s12 :: s13 :: s14 :: s15 :: s16 :: s17 :: s18 :: r) k = k (s0 :: s1 :: s2 :: s3 :: s4 :: s5 :: s6 :: s7 :: s8 :: s9 :: s10 :: s11 :: s12 :: s13 :: s14 :: s15 :: s16 :: s17 :: .ow d :: r) := by simp [SE, okS, Prog.rt, putV]
theorem sx18 {s0 s1 s2 s3 s4 s5 s6 s7 s8 s9 s10 s11 s12 s13 s14 s15 s16 s17 s18 : Sl} {s : Sl} {k : Env → Prop} : SX 18 s (s0 :: s1 :: s2 :: s3 :: s4 :: s5 :: s6 :: s7 :: s8 :: s9 :: s10 :: s11 :: s12 :: s13 :: s14 :: s15 :: s16 :: s17 :: s18 :: r) k = k (s0 :: s1 :: s2 :: s3 :: s4 :: s5 :: s6 :: s7 :: s8 :: s9 :: s10 :: s11 :: s12 :: s13 :: s14 :: s15 :: s16 :: s17 :: s :: r) := rfl
theorem pk18f {s0 s1 s2 s3 s4 s5 s6 s7 s8 s9 s10 s11 s12 s13 s14 s15 s16 s17 : Sl} {k : D → Prop} : OV (peek (s0 :: s1 :: s2 :: s3 :: s4 :: s5 :: s6 :: s7 :: s8 :: s9 :: s10 :: s11 :: s12 :: s13 :: s14 :: s15 :: s16 :: s17 :: .fz d :: r) (.sl 18)) k = k d := rfl
theorem pk18o {s0 s1 s2 s3 s4 s5 s6 s7 s8 s9 s10 s11 s12 s13 s14 s15 s16 s17 : Sl} {k : D → Prop} : OV (peek (s0 :: s1 :: s2 :: s3 :: s4 :: s5 :: s6 :: s7 :: s8 :: s9 :: s10 :: s11 :: s12 :: s13 :: s14 :: s15 :: s16 :: s17 :: .ow (.lst xs) :: r) (.sl 18)) k = k (.lst xs) := rfl
theorem po18 {s0 s1 s2 s3 s4 s5 s6 s7 s8 s9 s10 s11 s12 s13 s14 s15 s16 s17 : Sl} {k : D → Prop} : OV (peekO (s0 :: s1 :: s2 :: s3 :: s4 :: s5 :: s6 :: s7 :: s8 :: s9 :: s10 :: s11 :: s12 :: s13 :: s14 :: s15 :: s16 :: s17 :: .ow (.lst xs) :: r) (.sl 18)) k = k (.lst xs) := rfl
theorem wv19 {s0 s1 s2 s3 s4 s5 s6 s7 s8 s9 s10 s11 s12 s13 s14 s15 s16 s17 s18 : Sl} : WE R m (.var 19) (s0 :: s1 :: s2 :: s3 :: s4 :: s5 :: s6 :: s7 :: s8 :: s9 :: s10 :: s11 :: s12 :: s13 :: s14 :: s15 :: s16 :: s17 :: s18 :: .fz d :: r) K X = K d false (s0 :: s1 :: s2 :: s3 :: s4 :: s5 :: s6 :: s7 :: s8 :: s9 :: s10 :: s11 :: s12 :: s13 :: s14 :: s15 :: s16 :: s17 :: s18 :: .fz d :: r) := we_var rfl
theorem wo19 {s0 s1 s2 s3 s4 s5 s6 s7 s8 s9 s10 s11 s12 s13 s14 s15 s16 s17 s18 : Sl} : WE R false (.var 19) (s0 :: s1 :: s2 :: s3 :: s4 :: s5 :: s6 :: s7 :: s8 :: s9 :: s10 :: s11 :: s12 :: s13 :: s14 :: s15 :: s16 :: s17 :: s18 :: .ow (.lst xs) :: r) K X = K (.lst xs) false (s0 :: s1 :: s2 :: s3 :: s4 :: s5 :: s6 :: s7 :: s8 :: s9 :: s10 :: s11 :: s12 :: s13 :: s14 :: s15 :: s16 :: s17 :: s18 :: .fz (.lst xs) :: r) := we_varo rfl rfl
theorem wm19 {s0 s1 s2 s3 s4 s5 s6 s7 s8 s9 s10 s11 s12 s13 s14 s15 s16 s17 s18 : Sl} : WE R m (.mov 19) (s0 :: s1 :: s2 :: s3 :: s4 :: s5 :: s6 :: s7 :: s8 :: s9 :: s10 :: s11 :: s12 :: s13 :: s14 :: s15 :: s16 :: s17 :: s18 :: .fz d :: r) K X = K d false (s0 :: s1 :: s2 :: s3 :: s4 :: s5 :: s6 :: s7 :: s8 :: s9 :: s10 :: s11 :: s12 :: s13 :: s14 :: s15 :: s16 :: s17 :: s18 :: .fz d :: r) := we_movf rfl
theorem wn19 {s0 s1 s2 s3 s4 s5 s6 s7 s8 s9 s10 s11 s12 s13 s14 s15 s16 s17 s18 : Sl} : WE R false (.mov 19) (s0 :: s1 :: s2 :: s3 :: s4 :: s5 :: s6 :: s7 :: s8 :: s9 :: s10 :: s11 :: s12 :: s13 :: s14 :: s15 :: s16 :: s17 :: s18 :: .ow (.lst xs) :: r) K X = K (.lst xs) true (s0 :: s1 :: s2 :: s3 :: s4 :: s5 :: s6 :: s7 :: s8 :: s9 :: s10 :: s11 :: s12 :: s13 :: s14 :: s15 :: s16 :: s17 :: s18 :: .no :: r) := we_mov rfl
theorem se19f {s0 s1 s2 s3 s4 s5 s6 s7 s8 s9 s10 s11 s12 s13 s14 s15 s16 s17 s18 s19 : Sl} {k : Env → Prop} : SE (Prog.rt G call false) 19 d false (s0 :: s1 :: s2 :: s3 :: s4 :: s5 :: s6 :: s7 :: s8 :: s9 :: s10 :: s11 :: s12 :: s13 :: s14 :: s15 :: s16 :: s17 :: s18 :: s19 :: r) k = k (s0 :: s1 :: s2 :: s3 :: s4 :: s5 :: s6 :: s7 :: s8 :: s9 :: s10 :: s11 :: s12 :: s13 :: s14 :: s15 :: s16 :: s17 :: s18 :: .fz d :: r) := by simp [SE, okS, Prog.rt, putV]
theorem se19o {s0 s1 s2 s3 s4 s5 s6 s7 s8 s9 s10 s11 s12 s13 s14 s15 s16 s17 s18 s19 : Sl} {k : Env → Prop} : SE (Prog.rt G call false) 19 d true (s0 :: s1 :: s2 :: s3 :: s4 :: s5 :: s6 :: s7 :: s8 :: s9 :: s10 :: s11 :: s12 :: s13 :: s14 :: s15 :: s16 :: s17 :: s18 :: s19 :: r) k = k (s0 :: s1 :: s2 :: s3 :: s4 :: s5 :: s6 :: s7 :: s8 :: s9 :: s10 :: s11 :: s12 :: s13 :: s14 :: s15 :: s16 :: s17 :: s18 :: .ow d :: r) := by simp [SE, okS, Prog.rt, putV]
theorem sx19 {s0 s1 s2 s3 s4 s5 s6 s7 s8 s9 s10 s11 s12 s13 s14 s15 s16 s17 s18 s19 : Sl} {s : Sl} {k : Env → Prop} : SX 19 s (s0 :: s1 :: s2 :: s3 :: s4 :: s5 :: s6 :: s7 :: s8 :: s9 :: s10 :: s11 :: s12 :: s13 :: s14 :: s15 :: s16 :: s17 :: s18 :: s19 :: r) k = k (s0 :: s1 :: s2 :: s3 :: s4 :: s5 :: s6 :: s7 :: s8 :: s9 :: s10 :: s11 :: s12 :: s13 :: s14 :: s15 :: s16 :: s17 :: s18 :: s :: r) := rfl
theorem pk19f {s0 s1 s2 s3 s4 s5 s6 s7 s8 s9 s10 s11 s12 s13 s14 s15 s16 s17 s18 : Sl} {k : D → Prop} : OV (peek (s0 :: s1 :: s2 :: s3 :: s4 :: s5 :: s6 :: s7 :: s8 :: s9 :: s10 :: s11 :: s12 :: s13 :: s14 :: s15 :: s16 :: s17 :: s18 :: .fz d :: r) (.sl 19)) k = k d := rfl
theorem pk19o {s0 s1 s2 s3 s4 s5 s6 s7 s8 s9 s10 s11 s12 s13 s14 s15 s16 s17 s18 : Sl} {k : D → Prop} : OV (peek (s0 :: s1 :: s2 :: s3 :: s4 :: s5 :: s6 :: s7 :: s8 :: s9 :: s10 :: s11 :: s12 :: s13 :: s14 :: s15 :: s16 :: s17 :: s18 :: .ow (.lst xs) :: r) (.sl 19)) k = k (.lst xs) := rfl
theorem po19 {s0 s1 s2 s3 s4 s5 s6 s7 s8 s9 s10 s11 s12 s13 s14 s15 s16 s17 s18 : Sl} {k : D → Prop} : OV (peekO (s0 :: s1 :: s2 :: s3 :: s4 :: s5 :: s6 :: s7 :: s8 :: s9 :: s10 :: s11 :: s12 :: s13 :: s14 :: s15 :: s16 :: s17 :: s18 :: .ow (.lst xs) :: r) (.sl 19)) k = k (.lst xs) := rfl
theorem wv20 {s0 s1 s2 s3 s4 s5 s6 s7 s8 s9 s10 s11 s12 s13 s14 s15 s16 s17 s18 s19 : Sl} : WE R m (.var 20) (s0 :: s1 :: s2 :: s3 :: s4 :: s5 :: s6 :: s7 :: s8 :: s9 :: s10 :: s11 :: s12 :: s13 :: s14 :: s15 :: s16 :: s17 :: s18 :: s19 :: .fz d :: r) K X = K d false (s0 :: s1 :: s2 :: s3 :: s4 :: s5 :: s6 :: s7 :: s8 :: s9 :: s10 :: s11 :: s12 :: s13 :: s14 :: s15 :: s16 :: s17 :: s18 :: s19 :: .fz d :: r) := we_var rfl
theorem wo20 {s0 s1 s2 s3 s4 s5 s6 s7 s8 s9 s10 s11 s12 s13 s14 s15 s16 s17 s18 s19 : Sl} : WE R false (.var 20) (s0 :: s1 :: s2 :: s3 :: s4 :: s5 :: s6 :: s7 :: s8 :: s9 :: s10 :: s11 :: s12 :: s13 :: s14 :: s15 :: s16 :: s17 :: s18 :: s19 :: .ow (.lst xs) :: r) K X = K (.lst xs) false (s0 :: s1 :: s2 :: s3 :: s4 :: s5 :: s6 :: s7 :: s8 :: s9 :: s10 :: s11 :: s12 :: s13 :: s14 :: s15 :: s16 :: s17 :: s18 :: s19 :: .fz (.lst xs) :: r) := we_varo rfl rfl
theorem wm20 {s0 s1 s2 s3 s4 s5 s6 s7 s8 s9 s10 s11 s12 s13 s14 s15 s16 s17 s18 s19 : Sl} : WE R m (.mov 20) (s0 :: s1 :: s2 :: s3 :: s4 :: s5 :: s6 :: s7 :: s8 :: s9 :: s10 :: s11 :: s12 :: s13 :: s14 :: s15 :: s16 :: s17 :: s18 :: s19 :: .fz d :: r) K X = K d false (s0 :: s1 :: s2 :: s3 :: s4 :: s5 :: s6 :: s7 :: s8 :: s9 :: s10 :: s11 :: s12 :: s13 :: s14 :: s15 :: s16 :: s17 :: s18 :: s19 :: .fz d :: r) := we_movf rfl
theorem wn20 {s0 s1 s2 s3 s4 s5 s6 s7 s8 s9 s10 s11 s12 s13 s14 s15 s16 s17 s18 s19 : Sl} : WE R false (.mov 20) (s0 :: s1 :: s2 :: s3 :: s4 :: s5 :: s6 :: s7 :: s8 :: s9 :: s10 :: s11 :: s12 :: s13 :: s14 :: s15 :: s16 :: s17 :: s18 :: s19 :: .ow (.lst xs) :: r) K X = K (.lst xs) true (s0 :: s1 :: s2 :: s3 :: s4 :: s5 :: s6 :: s7 :: s8 :: s9 :: s10 :: s11 :: s12 :: s13 :: s14 :: s15 :: s16 :: s17 :: s18 :: s19 :: .no :: r) := we_mov rfl
theorem se20f {s0 s1 s2 s3 s4 s5 s6 s7 s8 s9 s10 s11 s12 s13 s14 s15 s16 s17 s18 s19 s20 : Sl} {k : Env → Prop} : SE (Prog.rt G call false) 20 d false (s0 :: s1 :: s2 :: s3 :: s4 :: s5 :: s6 :: s7 :: s8 :: s9 :: s10 :: s11 :: s12 :: s13 :: s14 :: s15 :: s16 :: s17 :: s18 :: s19 :: s20 :: r) k = k (s0 :: s1 :: s2 :: s3 :: s4 :: s5 :: s6 :: s7 :: s8 :: s9 :: s10 :: s11 :: s12 :: s13 :: s14 :: s15 :: s16 :: s17 :: s18 :: s19 :: .fz d :: r) := by simp [SE, okS, Prog.rt, putV]
theorem se20o {s0 s1 s2 s3 s4 s5 s6 s7 s8 s9 s10 s11 s12 s13 s14 s15 s16 s17 s18 s19 s20 : Sl} {k : Env → Prop} : SE (Prog.rt G call false) 20 d true (s0 :: s1 :: s2 :: s3 :: s4 :: s5 :: s6 :: s7 :: s8 :: s9 :: s10 :: s11 :: s12 :: s13 :: s14 :: s15 :: s16 :: s17 :: s18 :: s19 :: s20 :: r) k = k (s0 :: s1 :: s2 :: s3 :: s4 :: s5 :: s6 :: s7 :: s8 :: s9 :: s10 :: s11 :: s12 :: s13 :: s14 :: s15 :: s16 :: s17 :: s18 :: s19 :: .ow d :: r) := by simp [SE, okS, Prog.rt, putV]
theorem sx20 {s0 s1 s2 s3 s4 s5 s6 s7 s8 s9 s10 s11 s12 s13 s14 s15 s16 s17 s18 s19 s20 : Sl} {s : Sl} {k : Env → Prop} : SX 20 s (s0 :: s1 :: s2 :: s3 :: s4 :: s5 :: s6 :: s7 :: s8 :: s9 :: s10 :: s11 :: s12 :: s13 :: s14 :: s15 :: s16 :: s17 :: s18 :: s19 :: s20 :: r) k = k (s0 :: s1 :: s2 :: s3 :: s4 :: s5 :: s6 :: s7 :: s8 :: s9 :: s10 :: s11 :: s12 :: s13 :: s14 :: s15 :: s16 :: s17 :: s18 :: s19 :: s :: r) := rfl
theorem pk20f {s0 s1 s2 s3 s4 s5 s6 s7 s8 s9 s10 s11 s12 s13 s14 s15 s16 s17 s18 s19 : Sl} {k : D → Prop} : OV (peek (s0 :: s1 :: s2 :: s3 :: s4 :: s5 :: s6 :: s7 :: s8 :: s9 :: s10 :: s11 :: s12 :: s13 :: s14 :: s15 :: s16 :: s17 :: s18 :: s19 :: .fz d :: r) (.sl 20)) k = k d := rfl
theorem pk20o {s0 s1 s2 s3 s4 s5 s6 s7 s8 s9 s10 s11 s12 s13 s14 s15 s16 s17 s18 s19 : Sl} {k : D → Prop} : OV (peek (s0 :: s1 :: s2 :: s3 :: s4 :: s5 :: s6 :: s7 :: s8 :: s9 :: s10 :: s11 :: s12 :: s13 :: s14 :: s15 :: s16 :: s17 :: s18 :: s19 :: .ow (.lst xs) :: r) (.sl 20)) k = k (.lst xs) := rfl
theorem po20 {s0 s1 s2 s3 s4 s5 s6 s7 s8 s9 s10 s11 s12 s13 s14 s15 s16 s17 s18 s19 : Sl} {k : D → Prop} : OV (peekO (s0 :: s1 :: s2 :: s3 :: s4 :: s5 :: s6 :: s7 :: s8 :: s9 :: s10 :: s11 :: s12 :: s13 :: s14 :: s15 :: s16 :: s17 :: s18 :: s19 :: .ow (.lst xs) :: r) (.sl 20)) k = k (.lst xs) := rfl
theorem wv21 {s0 s1 s2 s3 s4 s5 s6 s7 s8 s9 s10 s11 s12 s13 s14 s15 s16 s17 s18 s19 s20 : Sl} : WE R m (.var 21) (s0 :: s1 :: s2 :: s3 :: s4 :: s5 :: s6 :: s7 :: s8 :: s9 :: s10 :: s11 :: s12 :: s13 :: s14 :: s15 :: s16 :: s17 :: s18 :: s19 :: s20 :: .fz d :: r) K X = K d false (s0 :: s1 :: s2 :: s3 :: s4 :: s5 :: s6 :: s7 :: s8 :: s9 :: s10 :: s11 :: s12 :: s13 :: s14 :: s15 :: s16 :: s17 :: s18 :: s19 :: s20 :: .fz d :: r) := we_var rfl
theorem wo21 {s0 s1 s2 s3 s4 s5 s6 s7 s8 s9 s10 s11 s12 s13 s14 s15 s16 s17 s18 s19 s20 : Sl} : WE R false (.var 21) (s0 :: s1 :: s2 :: s3 :: s4 :: s5 :: s6 :: s7 :: s8 :: s9 :: s10 :: s11 :: s12 :: s13 :: s14 :: s15 :: s16 :: s17 :: s18 :: s19 :: s20 :: .ow (.lst xs) :: r) K X = K (.lst xs) false (s0 :: s1 :: s2 :: s3 :: s4 :: s5 :: s6 :: s7 :: s8 :: s9 :: s10 :: s11 :: s12 :: s13 :: s14 :: s15 :: s16 :: s17 :: s18 :: s19 :: s20 :: .fz (.lst xs) :: r) := we_varo rfl rfl
theorem wm21 {s0 s1 s2 s3 s4 s5 s6 s7 s8 s9 s10 s11 s12 s13 s14 s15 s16 s17 s18 s19 s20 : Sl} : WE R m (.mov 21) (s0 :: s1 :: s2 :: s3 :: s4 :: s5 :: s6 :: s7 :: s8 :: s9 :: s10 :: s11 :: s12 :: s13 :: s14 :: s15 :: s16 :: s17 :: s18 :: s19 :: s20 :: .fz d :: r) K X = K d false (s0 :: s1 :: s2 :: s3 :: s4 :: s5 :: s6 :: s7 :: s8 :: s9 :: s10 :: s11 :: s12 :: s13 :: s14 :: s15 :: s16 :: s17 :: s18 :: s19 :: s20 :: .fz d :: r) := we_movf rfl
theorem wn21 {s0 s1 s2 s3 s4 s5 s6 s7 s8 s9 s10 s11 s12 s13 s14 s15 s16 s17 s18 s19 s20 : Sl} : WE R false (.mov 21) (s0 :: s1 :: s2 :: s3 :: s4 :: s5 :: s6 :: s7 :: s8 :: s9 :: s10 :: s11 :: s12 :: s13 :: s14 :: s15 :: s16 :: s17 :: s18 :: s19 :: s20 :: .ow (.lst xs) :: r) K X = K (.lst xs) true (s0 :: s1 :: s2 :: s3 :: s4 :: s5 :: s6 :: s7 :: s8 :: s9 :: s10 :: s11 :: s12 :: s13 :: s14 :: s15 :: s16 :: s17 :: s18 :: s19 :: s20 :: .no :: r) := we_mov rfl
theorem se21f {s0 s1 s2 s3 s4 s5 s6 s7 s8 s9 s10 s11 s12 s13 s14 s15 s16 s17 s18 s19 s20 s21 : Sl} {k : Env → Prop} : SE (Prog.rt G call false) 21 d false (s0 :: s1 :: s2 :: s3 :: s4 :: s5 :: s6 :: s7 :: s8 :: s9 :: s10 :: s11 :: s12 :: s13 :: s14 :: s15 :: s16 :: s17 :: s18 :: s19 :: s20 :: s21 :: r) k = k (s0 :: s1 :: s2 :: s3 :: s4 :: s5 :: s6 :: s7 :: s8 :: s9 :: s10 :: s11 :: s12 :: s13 :: s14 :: s15 :: s16 :: s17 :: s18 :: s19 :: s20 :: .fz d :: r) := by simp [SE, okS, Prog.rt, putV]
theorem se21o {s0 s1 s2 s3 s4 s5 s6 s7 s8 s9 s10 s11 s12 s13 s14 s15 s16 s17 s18 s19 s20 s21 : Sl} {k : Env → Prop} : SE (Prog.rt G call false) 21 d true (s0 :: s1 :: s2 :: s3 :: s4 :: s5 :: s6 :: s7 :: s8 :: s9 :: s10 :: s11 :: s12 :: s13 :: s14 :: s15 :: s16 :: s17 :: s18 :: s19 :: s20 :: s21 :: r) k = k (s0 :: s1 :: s2 :: s3 :: s4 :: s5 :: s6 :: s7 :: s8 :: s9 :: s10 :: s11 :: s12 :: s13 :: s14 :: s15 :: s16 :: s17 :: s18 :: s19 :: s20 :: .ow d :: r) := by simp [SE, okS, Prog.rt, putV]
theorem sx21 {s0 s1 s2 s3 s4 s5 s6 s7 s8 s9 s10 s11 s12 s13 s14 s15 s16 s17 s18 s19 s20 s21 : Sl} {s : Sl} {k : Env → Prop} : SX 21 s (s0 :: s1 :: s2 :: s3 :: s4 :: s5 :: s6 :: s7 :: s8 :: s9 :: s10 :: s11 :: s12 :: s13 :: s14 :: s15 :: s16 :: s17 :: s18 :: s19 :: s20 :: s21 :: r) k = k (s0 :: s1 :: s2 :: s3 :: s4 :: s5 :: s6 :: s7 :: s8 :: s9 :: s10 :: s11 :: s12 :: s13 :: s14 :: s15 :: s16 :: s17 :: s18 :: s19 :: s20 :: s :: r) := rfl
theorem pk21f {s0 s1 s2 s3 s4 s5 s6 s7 s8 s9 s10 s11 s12 s13 s14 s15 s16 s17 s18 s19 s20 : Sl} {k : D → Prop} : OV (peek (s0 :: s1 :: s2 :: s3 :: s4 :: s5 :: s6 :: s7 :: s8 :: s9 :: s10 :: s11 :: s12 :: s13 :: s14 :: s15 :: s16 :: s17 :: s18 :: s19 :: s20 :: .fz d :: r) (.sl 21)) k = k d := rfl
theorem pk21o {s0 s1 s2 s3 s4 s5 s6 s7 s8 s9 s10 s11 s12 s13 s14 s15 s16 s17 s18 s19 s20 : Sl} {k : D → Prop} : OV (peek (s0 :: s1 :: s2 :: s3 :: s4 :: s5 :: s6 :: s7 :: s8 :: s9 :: s10 :: s11 :: s12 :: s13 :: s14 :: s15 :: s16 :: s17 :: s18 :: s19 :: s20 :: .ow (.lst xs) :: r) (.sl 21)) k = k (.lst xs) := rfl
theorem po21 {s0 s1 s2 s3 s4 s5 s6 s7 s8 s9 s10 s11 s12 s13 s14 s15 s16 s17 s18 s19 s20 : Sl} {k : D → Prop} : OV (peekO (s0 :: s1 :: s2 :: s3 :: s4 :: s5 :: s6 :: s7 :: s8 :: s9 :: s10 :: s11 :: s12 :: s13 :: s14 :: s15 :: s16 :: s17 :: s18 :: s19 :: s20 :: .ow (.lst xs) :: r) (.sl 21)) k = k (.lst xs) := rfl
theorem wv22 {s0 s1 s2 s3 s4 s5 s6 s7 s8 s9 s10 s11 s12 s13 s14 s15 s16 s17 s18 s19 s20 s21 : Sl} : WE R m (.var 22) (s0 :: s1 :: s2 :: s3 :: s4 :: s5 :: s6 :: s7 :: s8 :: s9 :: s10 :: s11 :: s12 :: s13 :: s14 :: s15 :: s16 :: s17 :: s18 :: s19 :: s20 :: s21 :: .fz d :: r) K X = K d false (s0 :: s1 :: s2 :: s3 :: s4 :: s5 :: s6 :: s7 :: s8 :: s9 :: s10 :: s11 :: s12 :: s13 :: s14 :: s15 :: s16 :: s17 :: s18 :: s19 :: s20 :: s21 :: .fz d :: r) := we_var rfl
theorem wo22 {s0 s1 s2 s3 s4 s5 s6 s7 s8 s9 s10 s11 s12 s13 s14 s15 s16 s17 s18 s19 s20 s21 : Sl} : WE R false (.var 22) (s0 :: s1 :: s2 :: s3 :: s4 :: s5 :: s6 :: s7 :: s8 :: s9 :: s10 :: s11 :: s12 :: s13 :: s14 :: s15 :: s16 :: s17 :: s18 :: s19 :: s20 :: s21 :: .ow (.lst xs) :: r) K X = K (.lst xs) false (s0 :: s1 :: s2 :: s3 :: s4 :: s5 :: s6 :: s7 :: s8 :: s9 :: s10 :: s11 :: s12 :: s13 :: s14 :: s15 :: s16 :: s17 :: s18 :: s19 :: s20 :: s21 :: .fz (.lst xs) :: r) := we_varo rfl rfl
theorem wm22 {s0 s1 s2 s3 s4 s5 s6 s7 s8 s9 s10 s11 s12 s13 s14 s15 s16 s17 s18 s19 s20 s21 : Sl} : WE R m (.mov 22) (s0 :: s1 :: s2 :: s3 :: s4 :: s5 :: s6 :: s7 :: s8 :: s9 :: s10 :: s11 :: s12 :: s13 :: s14 :: s15 :: s16 :: s17 :: s18 :: s19 :: s20 :: s21 :: .fz d :: r) K X = K d false (s0 :: s1 :: s2 :: s3 :: s4 :: s5 :: s6 :: s7 :: s8 :: s9 :: s10 :: s11 :: s12 :: s13 :: s14 :: s15 :: s16 :: s17 :: s18 :: s19 :: s20 :: s21 :: .fz d :: r) := we_movf rfl
theorem wn22 {s0 s1 s2 s3 s4 s5 s6 s7 s8 s9 s10 s11 s12 s13 s14 s15 s16 s17 s18 s19 s20 s21 : Sl} : WE R false (.mov 22) (s0 :: s1 :: s2 :: s3 :: s4 :: s5 :: s6 :: s7 :: s8 :: s9 :: s10 :: s11 :: s12 :: s13 :: s14 :: s15 :: s16 :: s17 :: s18 :: s19 :: s20 :: s21 :: .ow (.lst xs) :: r) K X = K (.lst xs) true (s0 :: s1 :: s2 :: s3 :: s4 :: s5 :: s6 :: s7 :: s8 :: s9 :: s10 :: s11 :: s12 :: s13 :: s14 :: s15 :: s16 :: s17 :: s18 :: s19 :: s20 :: s21 :: .no :: r) := we_mov rfl
theorem se22f {s0 s1 s2 s3 s4 s5 s6 s7 s8 s9 s10 s11 s12 s13 s14 s15 s16 s17 s18 s19 s20 s21 s22 : Sl} {k : Env → Prop} : SE (Prog.rt G call false) 22 d false (s0 :: s1 :: s2 :: s3 :: s4 :: s5 :: s6 :: s7 :: s8 :: s9 :: s10 :: s11 :: s12 :: s13 :: s14 :: s15 :: s16 :: s17 :: s18 :: s19 :: s20 :: s21 :: s22 :: r) k = k (s0 :: s1 :: s2 :: s3 :: s4 :: s5 :: s6 :: s7 :: s8 :: s9 :: s10 :: s11 :: s12 :: s13 :: s14 :: s15 :: s16 :: s17 :: s18 :: s19 :: s20 :: s21 :: .fz d :: r) := by simp [SE, okS, Prog.rt, putV]
theorem se22o {s0 s1 s2 s3 s4 s5 s6 s7 s8 s9 s10 s11 s12 s13 s14 s15 s16 s17 s18 s19 s20 s21 s22 : Sl} {k : Env → Prop} : SE (Prog.rt G call false) 22 d true (s0 :: s1 :: s2 :: s3 :: s4 :: s5 :: s6 :: s7 :: s8 :: s9 :: s10 :: s11 :: s12 :: s13 :: s14 :: s15 :: s16 :: s17 :: s18 :: s19 :: s20 :: s21 :: s22 :: r) k = k (s0 :: s1 :: s2 :: s3 :: s4 :: s5 :: s6 :: s7 :: s8 :: s9 :: s10 :: s11 :: s12 :: s13 :: s14 :: s15 :: s16 :: s17 :: s18 :: s19 :: s20 :: s21 :: .ow d :: r) := by simp [SE, okS, Prog.rt, putV]
theorem sx22 {s0 s1 s2 s3 s4 s5 s6 s7 s8 s9 s10 s11 s12 s13 s14 s15 s16 s17 s18 s19 s20 s21 s22 : Sl} {s : Sl} {k : Env → Prop} : SX 22 s (s0 :: s1 :: s2 :: s3 :: s4 :: s5 :: s6 :: s7 :: s8 :: s9 :: s10 :: s11 :: s12 :: s13 :: s14 :: s15 :: s16 :: s17 :: s18 :: s19 :: s20 :: s21 :: s22 :: r) k = k (s0 :: s1 :: s2 :: s3 :: s4 :: s5 :: s6 :: s7 :: s8 :: s9 :: s10 :: s11 :: s12 :: s13 :: s14 :: s15 :: s16 :: s17 :: s18 :: s19 :: s20 :: s21 :: s :: r) := rfl
theorem pk22f {s0 s1 s2 s3 s4 s5 s6 s7 s8 s9 s10 s11 s12 s13 s14 s15 s16 s17 s18 s19 s20 s21 : Sl} {k : D → Prop} : OV (peek (s0 :: s1 :: s2 :: s3 :: s4 :: s5 :: s6 :: s7 :: s8 :: s9 :: s10 :: s11 :: s12 :: s13 :: s14 :: s15 :: s16 :: s17 :: s18 :: s19 :: s20 :: s21 :: .fz d :: r) (.sl 22)) k = k d := rfl
theorem pk22o {s0 s1 s2 s3 s4 s5 s6 s7 s8 s9 s10 s11 s12 s13 s14 s15 s16 s17 s18 s19 s20 s21 : Sl} {k : D → Prop} : OV (peek (s0 :: s1 :: s2 :: s3 :: s4 :: s5 :: s6 :: s7 :: s8 :: s9 :: s10 :: s11 :: s12 :: s13 :: s14 :: s15 :: s16 :: s17 :: s18 :: s19 :: s20 :: s21 :: .ow (.lst xs) :: r) (.sl 22)) k = k (.lst xs) := rfl
theorem po22 {s0 s1 s2 s3 s4 s5 s6 s7 s8 s9 s10 s11 s12 s13 s14 s15 s16 s17 s18 s19 s20 s21 : Sl} {k : D → Prop} : OV (peekO (s0 :: s1 :: s2 :: s3 :: s4 :: s5 :: s6 :: s7 :: s8 :: s9 :: s10 :: s11 :: s12 :: s13 :: s14 :: s15 :: s16 :: s17 :: s18 :: s19 :: s20 :: s21 :: .ow (.lst xs) :: r) (.sl 22)) k = k (.lst xs) := rfl
theorem wv23 {s0 s1 s2 s3 s4 s5 s6 s7 s8 s9 s10 s11 s12 s13 s14 s15 s16 s17 s18 s19 s20 s21 s22 : Sl} : WE R m (.var 23) (s0 :: s1 :: s2 :: s3 :: s4 :: s5 :: s6 :: s7 :: s8 :: s9 :: s10 :: s11 :: s12 :: s13 :: s14 :: s15 :: s16 :: s17 :: s18 :: s19 :: s20 :: s21 :: s22 :: .fz d :: r) K X = K d false (s0 :: s1 :: s2 :: s3 :: s4 :: s5 :: s6 :: s7 :: s8 :: s9 :: s10 :: s11 :: s12 :: s13 :: s14 :: s15 :: s16 :: s17 :: s18 :: s19 :: s20 :: s21 :: s22 :: .fz d :: r) := we_var rfl
theorem wo23 {s0 s1 s2 s3 s4 s5 s6 s7 s8 s9 s10 s11 s12 s13 s14 s15 s16 s17 s18 s19 s20 s21 s22 : Sl} : WE R false (.var 23) (s0 :: s1 :: s2 :: s3 :: s4 :: s5 :: s6 :: s7 :: s8 :: s9 :: s10 :: s11 :: s12 :: s13 :: s14 :: s15 :: s16 :: s17 :: s18 :: s19 :: s20 :: s21 :: s22 :: .ow (.lst xs) :: r) K X = K (.lst xs) false (s0 :: s1 :: s2 :: s3 :: s4 :: s5 :: s6 :: s7 :: s8 :: s9 :: s10 :: s11 :: s12 :: s13 :: s14 :: s15 :: s16 :: s17 :: s18 :: s19 :: s20 :: s21 :: s22 :: .fz (.lst xs) :: r) := we_varo rfl rfl
theorem wm23 {s0 s1 s2 s3 s4 s5 s6 s7 s8 s9 s10 s11 s12 s13 s14 s15 s16 s17 s18 s19 s20 s21 s22 : Sl} : WE R m (.mov 23) (s0 :: s1 :: s2 :: s3 :: s4 :: s5 :: s6 :: s7 :: s8 :: s9 :: s10 :: s11 :: s12 :: s13 :: s14 :: s15 :: s16 :: s17 :: s18 :: s19 :: s20 :: s21 :: s22 :: .fz d :: r) K X = K d false (s0 :: s1 :: s2 :: s3 :: s4 :: s5 :: s6 :: s7 :: s8 :: s9 :: s10 :: s11 :: s12 :: s13 :: s14 :: s15 :: s16 :: s17 :: s18 :: s19 :: s20 :: s21 :: s22 :: .fz d :: r) := we_movf rfl
theorem wn23 {s0 s1 s2 s3 s4 s5 s6 s7 s8 s9 s10 s11 s12 s13 s14 s15 s16 s17 s18 s19 s20 s21 s22 : Sl} : WE R false (.mov 23) (s0 :: s1 :: s2 :: s3 :: s4 :: s5 :: s6 :: s7 :: s8 :: s9 :: s10 :: s11 :: s12 :: s13 :: s14 :: s15 :: s16 :: s17 :: s18 :: s19 :: s20 :: s21 :: s22 :: .ow (.lst xs) :: r) K X = K (.lst xs) true (s0 :: s1 :: s2 :: s3 :: s4 :: s5 :: s6 :: s7 :: s8 :: s9 :: s10 :: s11 :: s12 :: s13 :: s14 :: s15 :: s16 :: s17 :: s18 :: s19 :: s20 :: s21 :: s22 :: .no :: r) := we_mov rfl
theorem se23f {s0 s1 s2 s3 s4 s5 s6 s7 s8 s9 s10 s11 s12 s13 s14 s15 s16 s17 s18 s19 s20 s21 s22 s23 : Sl} {k : Env → Prop} : SE (Prog.rt G call false) 23 d false (s0 :: s1 :: s2 :: s3 :: s4 :: s5 :: s6 :: s7 :: s8 :: s9 :: s10 :: s11 :: s12 :: s13 :: s14 :: s15 :: s16 :: s17 :: s18 :: s19 :: s20 :: s21 :: s22 :: s23 :: r) k = k (s0 :: s1 :: s2 :: s3 :: s4 :: s5 :: s6 :: s7 :: s8 :: s9 :: s10 :: s11 :: s12 :: s13 :: s14 :: s15 :: s16 :: s17 :: s18 :: s19 :: s20 :: s21 :: s22 :: .fz d :: r) := by simp [SE, okS, Prog.rt, putV]
theorem se23o {s0 s1 s2 s3 s4 s5 s6 s7 s8 s9 s10 s11 s12 s13 s14 s15 s16 s17 s18 s19 s20 s21 s22 s23 : Sl} {k : Env → Prop} : SE (Prog.rt G call false) 23 d true (s0 :: s1 :: s2 :: s3 :: s4 :: s5 :: s6 :: s7 :: s8 :: s9 :: s10 :: s11 :: s12 :: s13 :: s14 :: s15 :: s16 :: s17 :: s18 :: s19 :: s20 :: s21 :: s22 :: s23 :: r) k = k (s0 :: s1 :: s2 :: s3 :: s4 :: s5 :: s6 :: s7 :: s8 :: s9 :: s10 :: s11 :: s12 :: s13 :: s14 :: s15 :: s16 :: s17 :: s18 :: s19 :: s20 :: s21 :: s22 :: .ow d :: r) := by simp [SE, okS, Prog.rt, putV]
theorem sx23 {s0 s1 s2 s3 s4 s5 s6 s7 s8 s9 s10 s11 s12 s13 s14 s15 s16 s17 s18 s19 s20 s21 s22 s23 : Sl} {s : Sl} {k : Env → Prop} : SX 23 s (s0 :: s1 :: s2 :: s3 :: s4 :: s5 :: s6 :: s7 :: s8 :: s9 :: s10 :: s11 :: s12 :: s13 :: s14 :: s15 :: s16 :: s17 :: s18 :: s19 :: s20 :: s21 :: s22 :: s23 :: r) k = k (s0 :: s1 :: s2 :: s3 :: s4 :: s5 :: s6 :: s7 :: s8 :: s9 :: s10 :: s11 :: s12 :: s13 :: s14 :: s15 :: s16 :: s17 :: s18 :: s19 :: s20 :: s21 :: s22 :: s :: r) := rfl
theorem pk23f {s0 s1 s2 s3 s4 s5 s6 s7 s8 s9 s10 s11 s12 s13 s14 s15 s16 s17 s18 s19 s20 s21 s22 : Sl} {k : D → Prop} : OV (peek (s0 :: s1 :: s2 :: s3 :: s4 :: s5 :: s6 :: s7 :: s8 :: s9 :: s10 :: s11 :: s12 :: s13 :: s14 :: s15 :: s16 :: s17 :: s18 :: s19 :: s20 :: s21 :: s22 :: .fz d :: r) (.sl 23)) k = k d := rfl
theorem pk23o {s0 s1 s2 s3 s4 s5 s6 s7 s8 s9 s10 s11 s12 s13 s14 s15 s16 s17 s18 s19 s20 s21 s22 : Sl} {k : D → Prop} : OV (peek (s0 :: s1 :: s2 :: s3 :: s4 :: s5 :: s6 :: s7 :: s8 :: s9 :: s10 :: s11 :: s12 :: s13 :: s14 :: s15 :: s16 :: s17 :: s18 :: s19 :: s20 :: s21 :: s22 :: .ow (.lst xs) :: r) (.sl 23)) k = k (.lst xs) := rfl
theorem po23 {s0 s1 s2 s3 s4 s5 s6 s7 s8 s9 s10 s11 s12 s13 s14 s15 s16 s17 s18 s19 s20 s21 s22 : Sl} {k : D → Prop} : OV (peekO (s0 :: s1 :: s2 :: s3 :: s4 :: s5 :: s6 :: s7 :: s8 :: s9 :: s10 :: s11 :: s12 :: s13 :: s14 :: s15 :: s16 :: s17 :: s18 :: s19 :: s20 :: s21 :: s22 :: .ow (.lst xs) :: r) (.sl 23)) k = k (.lst xs) := rfl
theorem wv24 {s0 s1 s2 s3 s4 s5 s6 s7 s8 s9 s10 s11 s12 s13 s14 s15 s16 s17 s18 s19 s20 s21 s22 s23 : Sl} : WE R m (.var 24) (s0 :: s1 :: s2 :: s3 :: s4 :: s5 :: s6 :: s7 :: s8 :: s9 :: s10 :: s11 :: s12 :: s13 :: s14 :: s15 :: s16 :: s17 :: s18 :: s19 :: s20 :: s21 :: s22 :: s23 :: .fz d :: r) K X = K d false (s0 :: s1 :: s2 :: s3 :: s4 :: s5 :: s6 :: s7 :: s8 :: s9 :: s10 :: s11 :: s12 :: s13 :: s14 :: s15 :: s16 :: s17 :: s18 :: s19 :: s20 :: s21 :: s22 :: s23 :: .fz d :: r) := we_var rfl
theorem wo24 {s0 s1 s2 s3 s4 s5 s6 s7 s8 s9 s10 s11 s12 s13 s14 s15 s16 s17 s18 s19 s20 s21 s22 s23 : Sl} : WE R false (.var 24) (s0 :: s1 :: s2 :: s3 :: s4 :: s5 :: s6 :: s7 :: s8 :: s9 :: s10 :: s11 :: s12 :: s13 :: s14 :: s15 :: s16 :: s17 :: s18 :: s19 :: s20 :: s21 :: s22 :: s23 :: .ow (.lst xs) :: r) K X = K (.lst xs) false (s0 :: s1 :: s2 :: s3 :: s4 :: s5 :: s6 :: s7 :: s8 :: s9 :: s10 :: s11 :: s12 :: s13 :: s14 :: s15 :: s16 :: s17 :: s18 :: s19 :: s20 :: s21 :: s22 :: s23 :: .fz (.lst xs) :: r) := we_varo rfl rfl
theorem wm24 {s0 s1 s2 s3 s4 s5 s6 s7 s8 s9 s10 s11 s12 s13 s14 s15 s16 s17 s18 s19 s20 s21 s22 s23 : Sl} : WE R m (.mov 24) (s0 :: s1 :: s2 :: s3 :: s4 :: s5 :: s6 :: s7 :: s8 :: s9 :: s10 :: s11 :: s12 :: s13 :: s14 :: s15 :: s16 :: s17 :: s18 :: s19 :: s20 :: s21 :: s22 :: s23 :: .fz d :: r) K X = K d false (s0 :: s1 :: s2 :: s3 :: s4 :: s5 :: s6 :: s7 :: s8 :: s9 :: s10 :: s11 :: s12 :: s13 :: s14 :: s15 :: s16 :: s17 :: s18 :: s19 :: s20 :: s21 :: s22 :: s23 :: .fz d :: r) := we_movf rfl
theorem wn24 {s0 s1 s2 s3 s4 s5 s6 s7 s8 s9 s10 s11 s12 s13 s14 s15 s16 s17 s18 s19 s20 s21 s22 s23 : Sl} : WE R false (.mov 24) (s0 :: s1 :: s2 :: s3 :: s4 :: s5 :: s6 :: s7 :: s8 :: s9 :: s10 :: s11 :: s12 :: s13 :: s14 :: s15 :: s16 :: s17 :: s18 :: s19 :: s20 :: s21 :: s22 :: s23 :: .ow (.lst xs) :: r) K X = K (.lst xs) true (s0 :: s1 :: s2 :: s3 :: s4 :: s5 :: s6 :: s7 :: s8 :: s9 :: s10 :: s11 :: s12 :: s13 :: s14 :: s15 :: s16 :: s17 :: s18 :: s19 :: s20 :: s21 :: s22 :: s23 :: .no :: r) := we_mov rfl
theorem se24f {s0 s1 s2 s3 s4 s5 s6 s7 s8 s9 s10 s11 s12 s13 s14 s15 s16 s17 s18 s19 s20 s21 s22 s23 s24 : Sl} {k : Env → Prop} : SE (Prog.rt G call false) 24 d false (s0 :: s1 :: s2 :: s3 :: s4 :: s5 :: s6 :: s7 :: s8 :: s9 :: s10 :: s11 :: s12 :: s13 :: s14 :: s15 :: s16 :: s17 :: s18 :: s19 :: s20 :: s21 :: s22 :: s23 :: s24 :: r) k = k (s0 :: s1 :: s2 :: s3 :: s4 :: s5 :: s6 :: s7 :: s8 :: s9 :: s10 :: s11 :: s12 :: s13 :: s14 :: s15 :: s16 :: s17 :: s18 :: s19 :: s20 :: s21 :: s22 :: s23 :: .fz d :: r) := by simp [SE, okS, Prog.rt, putV]
theorem se24o {s0 s1 s2 s3 s4 s5 s6 s7 s8 s9 s10 s11 s12 s13 s14 s15 s16 s17 s18 s19 s20 s21 s22 s23 s24 : Sl} {k : Env → Prop} : SE (Prog.rt G call false) 24 d true (s0 :: s1 :: s2 :: s3 :: s4 :: s5 :: s6 :: s7 :: s8 :: s9 :: s10 :: s11 :: s12 :: s13 :: s14 :: s15 :: s16 :: s17 :: s18 :: s19 :: s20 :: s21 :: s22 :: s23 :: s24 :: r) k = k (s0 :: s1 :: s2 :: s3 :: s4 :: s5 :: s6 :: s7 :: s8 :: s9 :: s10 :: s11 :: s12 :: s13 :: s14 :: s15 :: s16 :: s17 :: s18 :: s19 :: s20 :: s21 :: s22 :: s23 :: .ow d :: r) := by simp [SE, okS, Prog.rt, putV]
theorem sx24 {s0 s1 s2 s3 s4 s5 s6 s7 s8 s9 s10 s11 s12 s13 s14 s15 s16 s17 s18 s19 s20 s21 s22 s23 s24 : Sl} {s : Sl} {k : Env → Prop} : SX 24 s (s0 :: s1 :: s2 :: s3 :: s4 :: s5 :: s6 :: s7 :: s8 :: s9 :: s10 :: s11 :: s12 :: s13 :: s14 :: s15 :: s16 :: s17 :: s18 :: s19 :: s20 :: s21 :: s22 :: s23 :: s24 :: r) k = k (s0 :: s1 :: s2 :: s3 :: s4 :: s5 :: s6 :: s7 :: s8 :: s9 :: s10 :: s11 :: s12 :: s13 :: s14 :: s15 :: s16 :: s17 :: s18 :: s19 :: s20 :: s21 :: s22 :: s23 :: s :: r) := rfl
theorem pk24f {s0 s1 s2 s3 s4 s5 s6 s7 s8 s9 s10 s11 s12 s13 s14 s15 s16 s17 s18 s19 s20 s21 s22 s23 : Sl} {k : D → Prop} : OV (peek (s0 :: s1 :: s2 :: s3 :: s4 :: s5 :: s6 :: s7 :: s8 :: s9 :: s10 :: s11 :: s12 :: s13 :: s14 :: s15 :: s16 :: s17 :: s18 :: s19 :: s20 :: s21 :: s22 :: s23 :: .fz d :: r) (.sl 24)) k = k d := rfl
theorem pk24o {s0 s1 s2 s3 s4 s5 s6 s7 s8 s9 s10 s11 s12 s13 s14 s15 s16 s17 s18 s19 s20 s21 s22 s23 : Sl} {k : D → Prop} : OV (peek (s0 :: s1 :: s2 :: s3 :: s4 :: s5 :: s6 :: s7 :: s8 :: s9 :: s10 :: s11 :: s12 :: s13 :: s14 :: s15 :: s16 :: s17 :: s18 :: s19 :: s20 :: s21 :: s22 :: s23 :: .ow (.lst xs) :: r) (.sl 24)) k = k (.lst xs) := rfl
theorem po24 {s0 s1 s2 s3 s4 s5 s6 s7 s8 s9 s10 s11 s12 s13 s14 s15 s16 s17 s18 s19 s20 s21 s22 s23 : Sl} {k : D → Prop} : OV (peekO (s0 :: s1 :: s2 :: s3 :: s4 :: s5 :: s6 :: s7 :: s8 :: s9 :: s10 :: s11 :: s12 :: s13 :: s14 :: s15 :: s16 :: s17 :: s18 :: s19 :: s20 :: s21 :: s22 :: s23 :: .ow (.lst xs) :: r) (.sl 24)) k = k (.lst xs) := rfl
theorem wv25 {s0 s1 s2 s3 s4 s5 s6 s7 s8 s9 s10 s11 s12 s13 s14 s15 s16 s17 s18 s19 s20 s21 s22 s23 s24 : Sl} : WE R m (.var 25) (s0 :: s1 :: s2 :: s3 :: s4 :: s5 :: s6 :: s7 :: s8 :: s9 :: s10 :: s11 :: s12 :: s13 :: s14 :: s15 :: s16 :: s17 :: s18 :: s19 :: s20 :: s21 :: s22 :: s23 :: s24 :: .fz d :: r) K X = K d false (s0 :: s1 :: s2 :: s3 :: s4 :: s5 :: s6 :: s7 :: s8 :: s9 :: s10 :: s11 :: s12 :: s13 :: s14 :: s15 :: s16 :: s17 :: s18 :: s19 :: s20 :: s21 :: s22 :: s23 :: s24 :: .fz d :: r) := we_var rfl
theorem wo25 {s0 s1 s2 s3 s4 s5 s6 s7 s8 s9 s10 s11 s12 s13 s14 s15 s16 s17 s18 s19 s20 s21 s22 s23 s24 : Sl} : WE R false (.var 25) (s0 :: s1 :: s2 :: s3 :: s4 :: s5 :: s6 :: s7 :: s8 :: s9 :: s10 :: s11 :: s12 :: s13 :: s14 :: s15 :: s16 :: s17 :: s18 :: s19 :: s20 :: s21 :: s22 :: s23 :: s24 :: .ow (.lst xs) :: r) K X = K (.lst xs) false (s0 :: s1 :: s2 :: s3 :: s4 :: s5 :: s6 :: s7 :: s8 :: s9 :: s10 :: s11 :: s12 :: s13 :: s14 :: s15 :: s16 :: s17 :: s18 :: s19 :: s20 :: s21 :: s22 :: s23 :: s24 :: .fz (.lst xs) :: r) := we_varo rfl rfl
theorem wm25 {s0 s1 s2 s3 s4 s5 s6 s7 s8 s9 s10 s11 s12 s13 s14 s15 s16 s17 s18 s19 s20 s21 s22 s23 s24 : Sl} : WE R m (.mov 25) (s0 :: s1 :: s2 :: s3 :: s4 :: s5 :: s6 :: s7 :: s8 :: s9 :: s10 :: s11 :: s12 :: s13 :: s14 :: s15 :: s16 :: s17 :: s18 :: s19 :: s20 :: s21 :: s22 :: s23 :: s24 :: .fz d :: r) K X = K d false (s0 :: s1 :: s2 :: s3 :: s4 :: s5 :: s6 :: s7 :: s8 :: s9 :: s10 :: s11 :: s12 :: s13 :: s14 :: s15 :: s16 :: s17 :: s18 :: s19 :: s20 :: s21 :: s22 :: s23 :: s24 :: .fz d :: r) := we_movf rfl
theorem wn25 {s0 s1 s2 s3 s4 s5 s6 s7 s8 s9 s10 s11 s12 s13 s14 s15 s16 s17 s18 s19 s20 s21 s22 s23 s24 : Sl} : WE R false (.mov 25) (s0 :: s1 :: s2 :: s3 :: s4 :: s5 :: s6 :: s7 :: s8 :: s9 :: s10 :: s11 :: s12 :: s13 :: s14 :: s15 :: s16 :: s17 :: s18 :: s19 :: s20 :: s21 :: s22 :: s23 :: s24 :: .ow (.lst xs) :: r) K X = K (.lst xs) true (s0 :: s1 :: s2 :: s3 :: s4 :: s5 :: s6 :: s7 :: s8 :: s9 :: s10 :: s11 :: s12 :: s13 :: s14 :: s15 :: s16 :: s17 :: s18 :: s19 :: s20 :: s21 :: s22 :: s23 :: s24 :: .no :: r) := we_mov rfl
theorem se25f {s0 s1 s2 s3 s4 s5 s6 s7 s8 s9 s10 s11 s12 s13 s14 s15 s16 s17 s18 s19 s20 s21 s22 s23 s24 s25 : Sl} {k : Env → Prop} : SE (Prog.rt G call false) 25 d false (s0 :: s1 :: s2 :: s3 :: s4 :: s5 :: s6 :: s7 :: s8 :: s9 :: s10 :: s11 :: s12 :: s13 :: s14 :: s15 :: s16 :: s17 :: s18 :: s19 :: s20 :: s21 :: s22 :: s23 :: s24 :: s25 :: r) k = k (s0 :: s1 :: s2 :: s3 :: s4 :: s5 :: s6 :: s7 :: s8 :: s9 :: s10 :: s11 :: s12 :: s13 :: s14 :: s15 :: s16 :: s17 :: s18 :: s19 :: s20 :: s21 :: s22 :: s23 :: s24 :: .fz d :: r) := by simp [SE, okS, Prog.rt, putV]
theorem se25o {s0 s1 s2 s3 s4 s5 s6 s7 s8 s9 s10 s11 s12 s13 s14 s15 s16 s17 s18 s19 s20 s21 s22 s23 s24 s25 : Sl} {k : Env → Prop} : SE (Prog.rt G call false) 25 d true (s0 :: s1 :: s2 :: s3 :: s4 :: s5 :: s6 :: s7 :: s8 :: s9 :: s10 :: s11 :: s12 :: s13 :: s14 :: s15 :: s16 :: s17 :: s18 :: s19 :: s20 :: s21 :: s22 :: s23 :: s24 :: s25 :: r) k = k (s0 :: s1 :: s2 :: s3 :: s4 :: s5 :: s6 :: s7 :: s8 :: s9 :: s10 :: s11 :: s12 :: s13 :: s14 :: s15 :: s16 :: s17 :: s18 :: s19 :: s20 :: s21 :: s22 :: s23 :: s24 :: .ow d :: r) := by simp [SE, okS, Prog.rt, putV]
theorem sx25 {s0 s1 s2 s3 s4 s5 s6 s7 s8 s9 s10 s11 s12 s13 s14 s15 s16 s17 s18 s19 s20 s21 s22 s23 s24 s25 : Sl} {s : Sl} {k : Env → Prop} : SX 25 s (s0 :: s1 :: s2 :: s3 :: s4 :: s5 :: s6 :: s7 :: s8 :: s9 :: s10 :: s11 :: s12 :: s13 :: s14 :: s15 :: s16 :: s17 :: s18 :: s19 :: s20 :: s21 :: s22 :: s23 :: s24 :: s25 :: r) k = k (s0 :: s1 :: s2 :: s3 :: s4 :: s5 :: s6 :: s7 :: s8 :: s9 :: s10 :: s11 :: s12 :: s13 :: s14 :: s15 :: s16 :: s17 :: s18 :: s19 :: s20 :: s21 :: s22 :: s23 :: s24 :: s :: r) := rfl
theorem pk25f {s0 s1 s2 s3 s4 s5 s6 s7 s8 s9 s10 s11 s12 s13 s14 s15 s16 s17 s18 s19 s20 s21 s22 s23 s24 : Sl} {k : D → Prop} : OV (peek (s0 :: s1 :: s2 :: s3 :: s4 :: s5 :: s6 :: s7 :: s8 :: s9 :: s10 :: s11 :: s12 :: s13 :: s14 :: s15 :: s16 :: s17 :: s18 :: s19 :: s20 :: s21 :: s22 :: s23 :: s24 :: .fz d :: r) (.sl 25)) k = k d := rfl
theorem pk25o {s0 s1 s2 s3 s4 s5 s6 s7 s8 s9 s10 s11 s12 s13 s14 s15 s16 s17 s18 s19 s20 s21 s22 s23 s24 : Sl} {k : D → Prop} : OV (peek (s0 :: s1 :: s2 :: s3 :: s4 :: s5 :: s6 :: s7 :: s8 :: s9 :: s10 :: s11 :: s12 :: s13 :: s14 :: s15 :: s16 :: s17 :: s18 :: s19 :: s20 :: s21 :: s22 :: s23 :: s24 :: .ow (.lst xs) :: r) (.sl 25)) k = k (.lst xs) := rfl
theorem po25 {s0 s1 s2 s3 s4 s5 s6 s7 s8 s9 s10 s11 s12 s13 s14 s15 s16 s17 s18 s19 s20 s21 s22 s23 s24 : Sl} {k : D → Prop} : OV (peekO (s0 :: s1 :: s2 :: s3 :: s4 :: s5 :: s6 :: s7 :: s8 :: s9 :: s10 :: s11 :: s12 :: s13 :: s14 :: s15 :: s16 :: s17 :: s18 :: s19 :: s20 :: s21 :: s22 :: s23 :: s24 :: .ow (.lst xs) :: r) (.sl 25)) k = k (.lst xs) := rfl
theorem ses_n {k : Env → Prop} : SES (Prog.rt G call false) [] [] ρ k = k ρ := by simp [SES, setTs, okS, Prog.rt]
theorem ses_c {i : Nat} {is : List Nat} {ds : List D} {k : Env → Prop} : SES (Prog.rt G call false) (i :: is) (d :: ds) ρ k = SX i (.fz d) ρ fun ρ => SES (Prog.rt G call false) is ds ρ k := by
  unfold SES SX
  rw [show setTs ρ (i :: is) (d :: ds) = setTs (ρ.set i (.fz d)) is ds from rfl]
  dsimp only
  cases setTs (ρ.set i (.fz d)) is ds <;> simp [okS, Prog.rt]
theorem sep_n {k : Env → Prop} : SEP (Prog.rt G call false) [] [] ρ k = k ρ := by simp [SEP, setPar, okS, Prog.rt]
theorem sep_c {i : Nat} {is : List Nat} {ds : List D} {k : Env → Prop} : SEP (Prog.rt G call false) (i :: is) (d :: ds) ρ k = SEP (Prog.rt G call false) is ds ρ fun ρ => SX i (.fz d) ρ k := by
  unfold SEP SX
  rw [show setPar ρ (i :: is) (d :: ds) = (setPar ρ is ds).map fun ρ => ρ.set i (.fz d) from rfl]
  dsimp only
  cases setPar ρ is ds <;> simp [okS, Prog.rt]
theorem ws_appn {i : Nat} {e : Px} : WS R (.app (.sl i) e :: ss) ρ Q = (OV (peekO ρ (.sl i)) fun l => OV (D.lst? l) fun _ => WE R false e ρ (fun x o ρ => nf x o ∧ OV (peekO ρ (.sl i)) fun l => OV (D.lst? l) fun xs => xs.length < lineD ∧ SX i (.ow (.lst (xs ++ [x]))) ρ fun ρ => WS R ss ρ Q) (fun c ρ => Q (.exn c ρ))) := ws_appl
theorem ws_extn {i : Nat} {e : Px} : WS R (.ext (.sl i) e :: ss) ρ Q = (OV (peekO ρ (.sl i)) fun l => OV (D.lst? l) fun _ => WE R false e ρ (fun x o ρ => nf x o ∧ OV (peekO ρ (.sl i)) fun l => OV (D.lst? l) fun xs => OV (D.lst? x) fun ys => xs.length + ys.length ≤ lineD ∧ SX i (.ow (.lst (xs ++ ys))) ρ fun ρ => WS R ss ρ Q) (fun c ρ => Q (.exn c ρ))) := ws_extl
theorem tk_exnn {c n k c' : Nat} (h : G.sub c' c = some true) : TK (Prog.rt G call false) c n k ss Q (.exn c' ρ) = SX k (.fz (.exc c')) ρ fun ρ => SX n .no ρ fun ρ => WS (Prog.rt G call false) ss ρ Q := tk_exn h rfl
theorem b_add {k : D × Bool → Prop} {i j : Int} : OV (binv .add (.int i) (.int j)) k = k (.int (i + j), false) := rfl
theorem b_addl {k : D × Bool → Prop} : OV (binv .add (.lst xs) (.lst ys)) k = (xs.length + ys.length ≤ lineD ∧ k (.lst (xs ++ ys), true)) := ov_if
theorem b_addt {k : D × Bool → Prop} : OV (binv .add (.tup xs) (.tup ys)) k = (xs.length + ys.length ≤ lineD ∧ k (.tup (xs ++ ys), false)) := ov_if
theorem b_sub {k : D × Bool → Prop} {i j : Int} : OV (binv .sub (.int i) (.int j)) k = k (.int (i - j), false) := rfl
theorem b_mul {k : D × Bool → Prop} {i j : Int} : OV (binv .mul (.int i) (.int j)) k = (i.natAbs.log2 + j.natAbs.log2 < 100000000 ∧ k (.int (i * j), false)) := ov_if
theorem b_fdiv {k : D × Bool → Prop} {i j : Int} : OV (binv .fdiv (.int i) (.int j)) k = ((j ≠ 0 ∧ j.natAbs.log2 < 9000) ∧ k (.int (i.fdiv j), false)) := by
  show OV (if (j != 0 && decide (j.natAbs.log2 < 9000)) = true then _ else _) k = _
  rw [ov_if]
  simp
theorem b_mod {k : D × Bool → Prop} {i j : Int} : OV (binv .mod (.int i) (.int j)) k = (j ≠ 0 ∧ k (.int (i.fmod j), false)) := by
  show OV (if (j != 0) = true then _ else _) k = _
  rw [ov_if]
  simp
theorem b_pow {k : D × Bool → Prop} {i j : Int} : OV (binv .pow (.int i) (.int j)) k = ((0 ≤ j ∧ j ≤ 1000 ∧ i.natAbs < 18446744073709551616) ∧ k (.int (i ^ j.toNat), false)) := by
  show OV (if (decide (0 ≤ j) && decide (j ≤ 1000) && decide (i.natAbs < 18446744073709551616)) = true then _ else _) k = _
  rw [ov_if]
  simp [and_assoc]
theorem c_lt {k : Bool → Prop} {i j : Int} : OV (cmpv .lt (.int i) (.int j)) k = k (decide (i < j)) := rfl
theorem c_le {k : Bool → Prop} {i j : Int} : OV (cmpv .le (.int i) (.int j)) k = k (decide (i ≤ j)) := rfl
theorem c_gt {k : Bool → Prop} {i j : Int} : OV (cmpv .gt (.int i) (.int j)) k = k (decide (j < i)) := rfl
theorem c_ge {k : Bool → Prop} {i j : Int} : OV (cmpv .ge (.int i) (.int j)) k = k (decide (j ≤ i)) := rfl
theorem c_eq {k : Bool → Prop} {i j : Int} : OV (cmpv .eq (.int i) (.int j)) k = k (decide (i = j)) := by
  show k (D.eqv (.int i) (.int j)) = _
  unfold D.eqv
  congr 1
theorem c_ne {k : Bool → Prop} {i j : Int} : OV (cmpv .ne (.int i) (.int j)) k = k (!decide (i = j)) := by
  show k (!D.eqv (.int i) (.int j)) = _
  unfold D.eqv
  congr 1
theorem is_n {k : Bool → Prop}  : OV (cmpv .is_ .non .non) k = k true := rfl
theorem isn_n {k : Bool → Prop}  : OV (cmpv .isnot .non .non) k = k false := rfl
theorem is_b {k : Bool → Prop} {b : Bool} : OV (cmpv .is_ (.bl b) .non) k = k false := rfl
theorem isn_b {k : Bool → Prop} {b : Bool} : OV (cmpv .isnot (.bl b) .non) k = k true := rfl
theorem is_i {k : Bool → Prop} {i : Int} : OV (cmpv .is_ (.int i) .non) k = k false := rfl
theorem isn_i {k : Bool → Prop} {i : Int} : OV (cmpv .isnot (.int i) .non) k = k true := rfl
theorem is_s {k : Bool → Prop} {s : PySem.Str} : OV (cmpv .is_ (.str s) .non) k = k false := rfl
theorem isn_s {k : Bool → Prop} {s : PySem.Str} : OV (cmpv .isnot (.str s) .non) k = k true := rfl
theorem is_t {k : Bool → Prop}  : OV (cmpv .is_ (.tup xs) .non) k = k false := rfl
theorem isn_t {k : Bool → Prop}  : OV (cmpv .isnot (.tup xs) .non) k = k true := rfl
theorem is_l {k : Bool → Prop}  : OV (cmpv .is_ (.lst xs) .non) k = k false := rfl
theorem isn_l {k : Bool → Prop}  : OV (cmpv .isnot (.lst xs) .non) k = k true := rfl
theorem is_x {k : Bool → Prop} {n : Nat} : OV (cmpv .is_ (.exc n) .non) k = k false := rfl
theorem isn_x {k : Bool → Prop} {n : Nat} : OV (cmpv .isnot (.exc n) .non) k = k true := rfl
theorem isn_bb {k : Bool → Prop} {a b : Bool} : OV (cmpv .isnot (.bl a) (.bl b)) k = k (!(a == b)) := rfl
theorem b_mult {k : D × Bool → Prop} {j : Int} : OV (binv .mul (.tup xs) (.int j)) k = ((!xs.isEmpty && (decide (2 ≤ j) && (decide (j ≤ 1000) && decide (xs.length ≤ 1000)))) = true ∧ k (.tup ((List.replicate j.toNat xs).flatten), false)) := ov_if
theorem is_bb {k : Bool → Prop} {a b : Bool} : OV (cmpv .is_ (.bl a) (.bl b)) k = k (a == b) := rfl
theorem ix_tup0 {k : D → Prop} {d0 : D} {ds : List D} : OV (ixv (.tup (d0 :: ds)) (.int 0)) k = k d0 := by
  show OV (ixL (d0 :: ds) 0) k = _
  have h : ixN (d0 :: ds).length 0 = some 0 := by
    unfold ixN
    rw [if_pos (by decide), if_pos (by simp only [List.length_cons]; omega)]
    rfl
  unfold ixL
  rw [h]
  rfl
theorem ix_lst0 {k : D → Prop} {d0 : D} {ds : List D} : OV (ixv (.lst (d0 :: ds)) (.int 0)) k = k d0 := by
  show OV (ixL (d0 :: ds) 0) k = _
  have h : ixN (d0 :: ds).length 0 = some 0 := by
    unfold ixN
    rw [if_pos (by decide), if_pos (by simp only [List.length_cons]; omega)]
    rfl
  unfold ixL
  rw [h]
  rfl
theorem ix_tup1 {k : D → Prop} {d0 d1 : D} {ds : List D} : OV (ixv (.tup (d0 :: d1 :: ds)) (.int 1)) k = k d1 := by
  show OV (ixL (d0 :: d1 :: ds) 1) k = _
  have h : ixN (d0 :: d1 :: ds).length 1 = some 1 := by
    unfold ixN
    rw [if_pos (by decide), if_pos (by simp only [List.length_cons]; omega)]
    rfl
  unfold ixL
  rw [h]
  rfl
theorem ix_lst1 {k : D → Prop} {d0 d1 : D} {ds : List D} : OV (ixv (.lst (d0 :: d1 :: ds)) (.int 1)) k = k d1 := by
  show OV (ixL (d0 :: d1 :: ds) 1) k = _
  have h : ixN (d0 :: d1 :: ds).length 1 = some 1 := by
    unfold ixN
    rw [if_pos (by decide), if_pos (by simp only [List.length_cons]; omega)]
    rfl
  unfold ixL
  rw [h]
  rfl
theorem ix_tup2 {k : D → Prop} {d0 d1 d2 : D} {ds : List D} : OV (ixv (.tup (d0 :: d1 :: d2 :: ds)) (.int 2)) k = k d2 := by
  show OV (ixL (d0 :: d1 :: d2 :: ds) 2) k = _
  have h : ixN (d0 :: d1 :: d2 :: ds).length 2 = some 2 := by
    unfold ixN
    rw [if_pos (by decide), if_pos (by simp only [List.length_cons]; omega)]
    rfl
  unfold ixL
  rw [h]
  rfl
theorem ix_lst2 {k : D → Prop} {d0 d1 d2 : D} {ds : List D} : OV (ixv (.lst (d0 :: d1 :: d2 :: ds)) (.int 2)) k = k d2 := by
  show OV (ixL (d0 :: d1 :: d2 :: ds) 2) k = _
  have h : ixN (d0 :: d1 :: d2 :: ds).length 2 = some 2 := by
    unfold ixN
    rw [if_pos (by decide), if_pos (by simp only [List.length_cons]; omega)]
    rfl
  unfold ixL
  rw [h]
  rfl
theorem ix_tup3 {k : D → Prop} {d0 d1 d2 d3 : D} {ds : List D} : OV (ixv (.tup (d0 :: d1 :: d2 :: d3 :: ds)) (.int 3)) k = k d3 := by
  show OV (ixL (d0 :: d1 :: d2 :: d3 :: ds) 3) k = _
  have h : ixN (d0 :: d1 :: d2 :: d3 :: ds).length 3 = some 3 := by
    unfold ixN
    rw [if_pos (by decide), if_pos (by simp only [List.length_cons]; omega)]
    rfl
  unfold ixL
  rw [h]
  rfl
theorem ix_lst3 {k : D → Prop} {d0 d1 d2 d3 : D} {ds : List D} : OV (ixv (.lst (d0 :: d1 :: d2 :: d3 :: ds)) (.int 3)) k = k d3 := by
  show OV (ixL (d0 :: d1 :: d2 :: d3 :: ds) 3) k = _
  have h : ixN (d0 :: d1 :: d2 :: d3 :: ds).length 3 = some 3 := by
    unfold ixN
    rw [if_pos (by decide), if_pos (by simp only [List.length_cons]; omega)]
    rfl
  unfold ixL
  rw [h]
  rfl
theorem ix_tup4 {k : D → Prop} {d0 d1 d2 d3 d4 : D} {ds : List D} : OV (ixv (.tup (d0 :: d1 :: d2 :: d3 :: d4 :: ds)) (.int 4)) k = k d4 := by
  show OV (ixL (d0 :: d1 :: d2 :: d3 :: d4 :: ds) 4) k = _
  have h : ixN (d0 :: d1 :: d2 :: d3 :: d4 :: ds).length 4 = some 4 := by
    unfold ixN
    rw [if_pos (by decide), if_pos (by simp only [List.length_cons]; omega)]
    rfl
  unfold ixL
  rw [h]
  rfl
theorem ix_lst4 {k : D → Prop} {d0 d1 d2 d3 d4 : D} {ds : List D} : OV (ixv (.lst (d0 :: d1 :: d2 :: d3 :: d4 :: ds)) (.int 4)) k = k d4 := by
  show OV (ixL (d0 :: d1 :: d2 :: d3 :: d4 :: ds) 4) k = _
  have h : ixN (d0 :: d1 :: d2 :: d3 :: d4 :: ds).length 4 = some 4 := by
    unfold ixN
    rw [if_pos (by decide), if_pos (by simp only [List.length_cons]; omega)]
    rfl
  unfold ixL
  rw [h]
  rfl
theorem ix_tup5 {k : D → Prop} {d0 d1 d2 d3 d4 d5 : D} {ds : List D} : OV (ixv (.tup (d0 :: d1 :: d2 :: d3 :: d4 :: d5 :: ds)) (.int 5)) k = k d5 := by
  show OV (ixL (d0 :: d1 :: d2 :: d3 :: d4 :: d5 :: ds) 5) k = _
  have h : ixN (d0 :: d1 :: d2 :: d3 :: d4 :: d5 :: ds).length 5 = some 5 := by
    unfold ixN
    rw [if_pos (by decide), if_pos (by simp only [List.length_cons]; omega)]
    rfl
  unfold ixL
  rw [h]
  rfl
theorem ix_lst5 {k : D → Prop} {d0 d1 d2 d3 d4 d5 : D} {ds : List D} : OV (ixv (.lst (d0 :: d1 :: d2 :: d3 :: d4 :: d5 :: ds)) (.int 5)) k = k d5 := by
  show OV (ixL (d0 :: d1 :: d2 :: d3 :: d4 :: d5 :: ds) 5) k = _
  have h : ixN (d0 :: d1 :: d2 :: d3 :: d4 :: d5 :: ds).length 5 = some 5 := by
    unfold ixN
    rw [if_pos (by decide), if_pos (by simp only [List.length_cons]; omega)]
    rfl
  unfold ixL
  rw [h]
  rfl
theorem ix_tup6 {k : D → Prop} {d0 d1 d2 d3 d4 d5 d6 : D} {ds : List D} : OV (ixv (.tup (d0 :: d1 :: d2 :: d3 :: d4 :: d5 :: d6 :: ds)) (.int 6)) k = k d6 := by
  show OV (ixL (d0 :: d1 :: d2 :: d3 :: d4 :: d5 :: d6 :: ds) 6) k = _
  have h : ixN (d0 :: d1 :: d2 :: d3 :: d4 :: d5 :: d6 :: ds).length 6 = some 6 := by
    unfold ixN
    rw [if_pos (by decide), if_pos (by simp only [List.length_cons]; omega)]
    rfl
  unfold ixL
  rw [h]
  rfl
theorem ix_lst6 {k : D → Prop} {d0 d1 d2 d3 d4 d5 d6 : D} {ds : List D} : OV (ixv (.lst (d0 :: d1 :: d2 :: d3 :: d4 :: d5 :: d6 :: ds)) (.int 6)) k = k d6 := by
  show OV (ixL (d0 :: d1 :: d2 :: d3 :: d4 :: d5 :: d6 :: ds) 6) k = _
  have h : ixN (d0 :: d1 :: d2 :: d3 :: d4 :: d5 :: d6 :: ds).length 6 = some 6 := by
    unfold ixN
    rw [if_pos (by decide), if_pos (by simp only [List.length_cons]; omega)]
    rfl
  unfold ixL
  rw [h]
  rfl
theorem ix_tup7 {k : D → Prop} {d0 d1 d2 d3 d4 d5 d6 d7 : D} {ds : List D} : OV (ixv (.tup (d0 :: d1 :: d2 :: d3 :: d4 :: d5 :: d6 :: d7 :: ds)) (.int 7)) k = k d7 := by
  show OV (ixL (d0 :: d1 :: d2 :: d3 :: d4 :: d5 :: d6 :: d7 :: ds) 7) k = _
  have h : ixN (d0 :: d1 :: d2 :: d3 :: d4 :: d5 :: d6 :: d7 :: ds).length 7 = some 7 := by
    unfold ixN
    rw [if_pos (by decide), if_pos (by simp only [List.length_cons]; omega)]
    rfl
  unfold ixL
  rw [h]
  rfl
theorem ix_lst7 {k : D → Prop} {d0 d1 d2 d3 d4 d5 d6 d7 : D} {ds : List D} : OV (ixv (.lst (d0 :: d1 :: d2 :: d3 :: d4 :: d5 :: d6 :: d7 :: ds)) (.int 7)) k = k d7 := by
  show OV (ixL (d0 :: d1 :: d2 :: d3 :: d4 :: d5 :: d6 :: d7 :: ds) 7) k = _
  have h : ixN (d0 :: d1 :: d2 :: d3 :: d4 :: d5 :: d6 :: d7 :: ds).length 7 = some 7 := by
    unfold ixN
    rw [if_pos (by decide), if_pos (by simp only [List.length_cons]; omega)]
    rfl
  unfold ixL
  rw [h]
  rfl
theorem ix_tup8 {k : D → Prop} {d0 d1 d2 d3 d4 d5 d6 d7 d8 : D} {ds : List D} : OV (ixv (.tup (d0 :: d1 :: d2 :: d3 :: d4 :: d5 :: d6 :: d7 :: d8 :: ds)) (.int 8)) k = k d8 := by
  show OV (ixL (d0 :: d1 :: d2 :: d3 :: d4 :: d5 :: d6 :: d7 :: d8 :: ds) 8) k = _
  have h : ixN (d0 :: d1 :: d2 :: d3 :: d4 :: d5 :: d6 :: d7 :: d8 :: ds).length 8 = some 8 := by
    unfold ixN
    rw [if_pos (by decide), if_pos (by simp only [List.length_cons]; omega)]
    rfl
  unfold ixL
  rw [h]
  rfl
theorem ix_lst8 {k : D → Prop} {d0 d1 d2 d3 d4 d5 d6 d7 d8 : D} {ds : List D} : OV (ixv (.lst (d0 :: d1 :: d2 :: d3 :: d4 :: d5 :: d6 :: d7 :: d8 :: ds)) (.int 8)) k = k d8 := by
  show OV (ixL (d0 :: d1 :: d2 :: d3 :: d4 :: d5 :: d6 :: d7 :: d8 :: ds) 8) k = _
  have h : ixN (d0 :: d1 :: d2 :: d3 :: d4 :: d5 :: d6 :: d7 :: d8 :: ds).length 8 = some 8 := by
    unfold ixN
    rw [if_pos (by decide), if_pos (by simp only [List.length_cons]; omega)]
    rfl
  unfold ixL
  rw [h]
  rfl
theorem ix_tup9 {k : D → Prop} {d0 d1 d2 d3 d4 d5 d6 d7 d8 d9 : D} {ds : List D} : OV (ixv (.tup (d0 :: d1 :: d2 :: d3 :: d4 :: d5 :: d6 :: d7 :: d8 :: d9 :: ds)) (.int 9)) k = k d9 := by
  show OV (ixL (d0 :: d1 :: d2 :: d3 :: d4 :: d5 :: d6 :: d7 :: d8 :: d9 :: ds) 9) k = _
  have h : ixN (d0 :: d1 :: d2 :: d3 :: d4 :: d5 :: d6 :: d7 :: d8 :: d9 :: ds).length 9 = some 9 := by
    unfold ixN
    rw [if_pos (by decide), if_pos (by simp only [List.length_cons]; omega)]
    rfl
  unfold ixL
  rw [h]
  rfl
theorem ix_lst9 {k : D → Prop} {d0 d1 d2 d3 d4 d5 d6 d7 d8 d9 : D} {ds : List D} : OV (ixv (.lst (d0 :: d1 :: d2 :: d3 :: d4 :: d5 :: d6 :: d7 :: d8 :: d9 :: ds)) (.int 9)) k = k d9 := by
  show OV (ixL (d0 :: d1 :: d2 :: d3 :: d4 :: d5 :: d6 :: d7 :: d8 :: d9 :: ds) 9) k = _
  have h : ixN (d0 :: d1 :: d2 :: d3 :: d4 :: d5 :: d6 :: d7 :: d8 :: d9 :: ds).length 9 = some 9 := by
    unfold ixN
    rw [if_pos (by decide), if_pos (by simp only [List.length_cons]; omega)]
    rfl
  unfold ixL
  rw [h]
  rfl
theorem ix_tup10 {k : D → Prop} {d0 d1 d2 d3 d4 d5 d6 d7 d8 d9 d10 : D} {ds : List D} : OV (ixv (.tup (d0 :: d1 :: d2 :: d3 :: d4 :: d5 :: d6 :: d7 :: d8 :: d9 :: d10 :: ds)) (.int 10)) k = k d10 := by
  show OV (ixL (d0 :: d1 :: d2 :: d3 :: d4 :: d5 :: d6 :: d7 :: d8 :: d9 :: d10 :: ds) 10) k = _
  have h : ixN (d0 :: d1 :: d2 :: d3 :: d4 :: d5 :: d6 :: d7 :: d8 :: d9 :: d10 :: ds).length 10 = some 10 := by
    unfold ixN
    rw [if_pos (by decide), if_pos (by simp only [List.length_cons]; omega)]
    rfl
  unfold ixL
  rw [h]
  rfl
theorem ix_lst10 {k : D → Prop} {d0 d1 d2 d3 d4 d5 d6 d7 d8 d9 d10 : D} {ds : List D} : OV (ixv (.lst (d0 :: d1 :: d2 :: d3 :: d4 :: d5 :: d6 :: d7 :: d8 :: d9 :: d10 :: ds)) (.int 10)) k = k d10 := by
  show OV (ixL (d0 :: d1 :: d2 :: d3 :: d4 :: d5 :: d6 :: d7 :: d8 :: d9 :: d10 :: ds) 10) k = _
  have h : ixN (d0 :: d1 :: d2 :: d3 :: d4 :: d5 :: d6 :: d7 :: d8 :: d9 :: d10 :: ds).length 10 = some 10 := by
    unfold ixN
    rw [if_pos (by decide), if_pos (by simp only [List.length_cons]; omega)]
    rfl
  unfold ixL
  rw [h]
  rfl
theorem ix_tup11 {k : D → Prop} {d0 d1 d2 d3 d4 d5 d6 d7 d8 d9 d10 d11 : D} {ds : List D} : OV (ixv (.tup (d0 :: d1 :: d2 :: d3 :: d4 :: d5 :: d6 :: d7 :: d8 :: d9 :: d10 :: d11 :: ds)) (.int 11)) k = k d11 := by
  show OV (ixL (d0 :: d1 :: d2 :: d3 :: d4 :: d5 :: d6 :: d7 :: d8 :: d9 :: d10 :: d11 :: ds) 11) k = _
  have h : ixN (d0 :: d1 :: d2 :: d3 :: d4 :: d5 :: d6 :: d7 :: d8 :: d9 :: d10 :: d11 :: ds).length 11 = some 11 := by
    unfold ixN
    rw [if_pos (by decide), if_pos (by simp only [List.length_cons]; omega)]
    rfl
  unfold ixL
  rw [h]
  rfl
theorem ix_lst11 {k : D → Prop} {d0 d1 d2 d3 d4 d5 d6 d7 d8 d9 d10 d11 : D} {ds : List D} : OV (ixv (.lst (d0 :: d1 :: d2 :: d3 :: d4 :: d5 :: d6 :: d7 :: d8 :: d9 :: d10 :: d11 :: ds)) (.int 11)) k = k d11 := by
  show OV (ixL (d0 :: d1 :: d2 :: d3 :: d4 :: d5 :: d6 :: d7 :: d8 :: d9 :: d10 :: d11 :: ds) 11) k = _
  have h : ixN (d0 :: d1 :: d2 :: d3 :: d4 :: d5 :: d6 :: d7 :: d8 :: d9 :: d10 :: d11 :: ds).length 11 = some 11 := by
    unfold ixN
    rw [if_pos (by decide), if_pos (by simp only [List.length_cons]; omega)]
    rfl
  unfold ixL
  rw [h]
  rfl
theorem ix_tup12 {k : D → Prop} {d0 d1 d2 d3 d4 d5 d6 d7 d8 d9 d10 d11 d12 : D} {ds : List D} : OV (ixv (.tup (d0 :: d1 :: d2 :: d3 :: d4 :: d5 :: d6 :: d7 :: d8 :: d9 :: d10 :: d11 :: d12 :: ds)) (.int 12)) k = k d12 := by
  show OV (ixL (d0 :: d1 :: d2 :: d3 :: d4 :: d5 :: d6 :: d7 :: d8 :: d9 :: d10 :: d11 :: d12 :: ds) 12) k = _
  have h : ixN (d0 :: d1 :: d2 :: d3 :: d4 :: d5 :: d6 :: d7 :: d8 :: d9 :: d10 :: d11 :: d12 :: ds).length 12 = some 12 := by
    unfold ixN
    rw [if_pos (by decide), if_pos (by simp only [List.length_cons]; omega)]
    rfl
  unfold ixL
  rw [h]
  rfl
theorem ix_lst12 {k : D → Prop} {d0 d1 d2 d3 d4 d5 d6 d7 d8 d9 d10 d11 d12 : D} {ds : List D} : OV (ixv (.lst (d0 :: d1 :: d2 :: d3 :: d4 :: d5 :: d6 :: d7 :: d8 :: d9 :: d10 :: d11 :: d12 :: ds)) (.int 12)) k = k d12 := by
  show OV (ixL (d0 :: d1 :: d2 :: d3 :: d4 :: d5 :: d6 :: d7 :: d8 :: d9 :: d10 :: d11 :: d12 :: ds) 12) k = _
  have h : ixN (d0 :: d1 :: d2 :: d3 :: d4 :: d5 :: d6 :: d7 :: d8 :: d9 :: d10 :: d11 :: d12 :: ds).length 12 = some 12 := by
    unfold ixN
    rw [if_pos (by decide), if_pos (by simp only [List.length_cons]; omega)]
    rfl
  unfold ixL
  rw [h]
  rfl
theorem ix_tup13 {k : D → Prop} {d0 d1 d2 d3 d4 d5 d6 d7 d8 d9 d10 d11 d12 d13 : D} {ds : List D} : OV (ixv (.tup (d0 :: d1 :: d2 :: d3 :: d4 :: d5 :: d6 :: d7 :: d8 :: d9 :: d10 :: d11 :: d12 :: d13 :: ds)) (.int 13)) k = k d13 := by
  show OV (ixL (d0 :: d1 :: d2 :: d3 :: d4 :: d5 :: d6 :: d7 :: d8 :: d9 :: d10 :: d11 :: d12 :: d13 :: ds) 13) k = _
  have h : ixN (d0 :: d1 :: d2 :: d3 :: d4 :: d5 :: d6 :: d7 :: d8 :: d9 :: d10 :: d11 :: d12 :: d13 :: ds).length 13 = some 13 := by
    unfold ixN
    rw [if_pos (by decide), if_pos (by simp only [List.length_cons]; omega)]
    rfl
  unfold ixL
  rw [h]
  rfl
theorem ix_lst13 {k : D → Prop} {d0 d1 d2 d3 d4 d5 d6 d7 d8 d9 d10 d11 d12 d13 : D} {ds : List D} : OV (ixv (.lst (d0 :: d1 :: d2 :: d3 :: d4 :: d5 :: d6 :: d7 :: d8 :: d9 :: d10 :: d11 :: d12 :: d13 :: ds)) (.int 13)) k = k d13 := by
  show OV (ixL (d0 :: d1 :: d2 :: d3 :: d4 :: d5 :: d6 :: d7 :: d8 :: d9 :: d10 :: d11 :: d12 :: d13 :: ds) 13) k = _
  have h : ixN (d0 :: d1 :: d2 :: d3 :: d4 :: d5 :: d6 :: d7 :: d8 :: d9 :: d10 :: d11 :: d12 :: d13 :: ds).length 13 = some 13 := by
    unfold ixN
    rw [if_pos (by decide), if_pos (by simp only [List.length_cons]; omega)]
    rfl
  unfold ixL
  rw [h]
  rfl
theorem ix_tup14 {k : D → Prop} {d0 d1 d2 d3 d4 d5 d6 d7 d8 d9 d10 d11 d12 d13 d14 : D} {ds : List D} : OV (ixv (.tup (d0 :: d1 :: d2 :: d3 :: d4 :: d5 :: d6 :: d7 :: d8 :: d9 :: d10 :: d11 :: d12 :: d13 :: d14 :: ds)) (.int 14)) k = k d14 := by
  show OV (ixL (d0 :: d1 :: d2 :: d3 :: d4 :: d5 :: d6 :: d7 :: d8 :: d9 :: d10 :: d11 :: d12 :: d13 :: d14 :: ds) 14) k = _
  have h : ixN (d0 :: d1 :: d2 :: d3 :: d4 :: d5 :: d6 :: d7 :: d8 :: d9 :: d10 :: d11 :: d12 :: d13 :: d14 :: ds).length 14 = some 14 := by
    unfold ixN
    rw [if_pos (by decide), if_pos (by simp only [List.length_cons]; omega)]
    rfl
  unfold ixL
  rw [h]
  rfl
theorem ix_lst14 {k : D → Prop} {d0 d1 d2 d3 d4 d5 d6 d7 d8 d9 d10 d11 d12 d13 d14 : D} {ds : List D} : OV (ixv (.lst (d0 :: d1 :: d2 :: d3 :: d4 :: d5 :: d6 :: d7 :: d8 :: d9 :: d10 :: d11 :: d12 :: d13 :: d14 :: ds)) (.int 14)) k = k d14 := by
  show OV (ixL (d0 :: d1 :: d2 :: d3 :: d4 :: d5 :: d6 :: d7 :: d8 :: d9 :: d10 :: d11 :: d12 :: d13 :: d14 :: ds) 14) k = _
  have h : ixN (d0 :: d1 :: d2 :: d3 :: d4 :: d5 :: d6 :: d7 :: d8 :: d9 :: d10 :: d11 :: d12 :: d13 :: d14 :: ds).length 14 = some 14 := by
    unfold ixN
    rw [if_pos (by decide), if_pos (by simp only [List.length_cons]; omega)]
    rfl
  unfold ixL
  rw [h]
  rfl
theorem ix_tup15 {k : D → Prop} {d0 d1 d2 d3 d4 d5 d6 d7 d8 d9 d10 d11 d12 d13 d14 d15 : D} {ds : List D} : OV (ixv (.tup (d0 :: d1 :: d2 :: d3 :: d4 :: d5 :: d6 :: d7 :: d8 :: d9 :: d10 :: d11 :: d12 :: d13 :: d14 :: d15 :: ds)) (.int 15)) k = k d15 := by
  show OV (ixL (d0 :: d1 :: d2 :: d3 :: d4 :: d5 :: d6 :: d7 :: d8 :: d9 :: d10 :: d11 :: d12 :: d13 :: d14 :: d15 :: ds) 15) k = _
  have h : ixN (d0 :: d1 :: d2 :: d3 :: d4 :: d5 :: d6 :: d7 :: d8 :: d9 :: d10 :: d11 :: d12 :: d13 :: d14 :: d15 :: ds).length 15 = some 15 := by
    unfold ixN
    rw [if_pos (by decide), if_pos (by simp only [List.length_cons]; omega)]
    rfl
  unfold ixL
  rw [h]
  rfl
theorem ix_lst15 {k : D → Prop} {d0 d1 d2 d3 d4 d5 d6 d7 d8 d9 d10 d11 d12 d13 d14 d15 : D} {ds : List D} : OV (ixv (.lst (d0 :: d1 :: d2 :: d3 :: d4 :: d5 :: d6 :: d7 :: d8 :: d9 :: d10 :: d11 :: d12 :: d13 :: d14 :: d15 :: ds)) (.int 15)) k = k d15 := by
  show OV (ixL (d0 :: d1 :: d2 :: d3 :: d4 :: d5 :: d6 :: d7 :: d8 :: d9 :: d10 :: d11 :: d12 :: d13 :: d14 :: d15 :: ds) 15) k = _
  have h : ixN (d0 :: d1 :: d2 :: d3 :: d4 :: d5 :: d6 :: d7 :: d8 :: d9 :: d10 :: d11 :: d12 :: d13 :: d14 :: d15 :: ds).length 15 = some 15 := by
    unfold ixN
    rw [if_pos (by decide), if_pos (by simp only [List.length_cons]; omega)]
    rfl
  unfold ixL
  rw [h]
  rfl
theorem ng {k : D → Prop} {i : Int} : OV (negv (.int i)) k = k (.int (-i)) := rfl
theorem up_t {k : List D → Prop} : OV (unpackv (.tup xs)) k = k xs := rfl
theorem up_l {k : List D → Prop} : OV (unpackv (.lst xs)) k = k xs := rfl
theorem it_t {k : List D → Prop} : OV (itemsv (.tup xs)) k = k xs := rfl
theorem it_l {k : List D → Prop} : OV (itemsv (.lst xs)) k = k xs := rfl
theorem ls_l {k : List D → Prop} : OV (D.lst? (.lst xs)) k = k xs := rfl
theorem pt_n {k : Option Int → Prop} : OV (partv []) k = k none := rfl
theorem pt_i {k : Option Int → Prop} {i : Int} : OV (partv [.int i]) k = k (some i) := rfl
theorem rg1 {k : List D → Prop} {j : Int} : OV (rngv [.int j]) k = (okI j = true ∧ k ((List.range j.toNat).map fun (n : Nat) => .int n)) := ov_if
theorem rg2 {k : List D → Prop} {i j : Int} : OV (rngv [.int i, .int j]) k = ((okI i && okI j) = true ∧ k ((List.range (j - i).toNat).map fun (n : Nat) => .int (i + n))) := ov_if
theorem bi_lenl {k : D × Bool → Prop} : OV (biv .len [.lst xs]) k = k (.int xs.length, false) := rfl
theorem bi_lent {k : D × Bool → Prop} : OV (biv .len [.tup xs]) k = k (.int xs.length, false) := rfl
theorem bi_abs {k : D × Bool → Prop} {i : Int} : OV (biv .abs [.int i]) k = k (.int i.natAbs, false) := by
  show k (.int (if i < 0 then -i else i), false) = _
  have h : (if i < 0 then -i else i) = (i.natAbs : Int) := by split <;> omega
  rw [h]
theorem bi_lil {k : D × Bool → Prop} : OV (biv .list [.lst xs]) k = k (.lst xs, true) := rfl
theorem bi_lit {k : D × Bool → Prop} : OV (biv .list [.tup xs]) k = k (.lst xs, true) := rfl
theorem bi_tul {k : D × Bool → Prop} : OV (biv .tuple [.lst xs]) k = k (.tup xs, false) := rfl
theorem bi_tut {k : D × Bool → Prop} : OV (biv .tuple [.tup xs]) k = k (.tup xs, false) := rfl
theorem rv_l {k : D × Bool → Prop} : OV (revv (.lst xs)) k = k (.lst xs.reverse, true) := rfl
theorem ii_non_int {k : Bool → Prop} {sub : Nat → Nat → Option Bool}  : OV (isiv sub .non .int) k = k false := rfl
theorem ii_non_bool {k : Bool → Prop} {sub : Nat → Nat → Option Bool}  : OV (isiv sub .non .bool) k = k false := rfl
theorem ii_non_str {k : Bool → Prop} {sub : Nat → Nat → Option Bool}  : OV (isiv sub .non .str) k = k false := rfl
theorem ii_non_tuple {k : Bool → Prop} {sub : Nat → Nat → Option Bool}  : OV (isiv sub .non .tuple) k = k false := rfl
theorem ii_non_list {k : Bool → Prop} {sub : Nat → Nat → Option Bool}  : OV (isiv sub .non .list) k = k false := rfl
theorem ii_bl_int {k : Bool → Prop} {sub : Nat → Nat → Option Bool} {b : Bool} : OV (isiv sub (.bl b) .int) k = k true := rfl
theorem ii_bl_bool {k : Bool → Prop} {sub : Nat → Nat → Option Bool} {b : Bool} : OV (isiv sub (.bl b) .bool) k = k true := rfl
theorem ii_bl_str {k : Bool → Prop} {sub : Nat → Nat → Option Bool} {b : Bool} : OV (isiv sub (.bl b) .str) k = k false := rfl
theorem ii_bl_tuple {k : Bool → Prop} {sub : Nat → Nat → Option Bool} {b : Bool} : OV (isiv sub (.bl b) .tuple) k = k false := rfl
theorem ii_bl_list {k : Bool → Prop} {sub : Nat → Nat → Option Bool} {b : Bool} : OV (isiv sub (.bl b) .list) k = k false := rfl
theorem ii_int_int {k : Bool → Prop} {sub : Nat → Nat → Option Bool} {i : Int} : OV (isiv sub (.int i) .int) k = k true := rfl
theorem ii_int_bool {k : Bool → Prop} {sub : Nat → Nat → Option Bool} {i : Int} : OV (isiv sub (.int i) .bool) k = k false := rfl
theorem ii_int_str {k : Bool → Prop} {sub : Nat → Nat → Option Bool} {i : Int} : OV (isiv sub (.int i) .str) k = k false := rfl
theorem ii_int_tuple {k : Bool → Prop} {sub : Nat → Nat → Option Bool} {i : Int} : OV (isiv sub (.int i) .tuple) k = k false := rfl
theorem ii_int_list {k : Bool → Prop} {sub : Nat → Nat → Option Bool} {i : Int} : OV (isiv sub (.int i) .list) k = k false := rfl
theorem ii_str_int {k : Bool → Prop} {sub : Nat → Nat → Option Bool} {s : PySem.Str} : OV (isiv sub (.str s) .int) k = k false := rfl
theorem ii_str_bool {k : Bool → Prop} {sub : Nat → Nat → Option Bool} {s : PySem.Str} : OV (isiv sub (.str s) .bool) k = k false := rfl
theorem ii_str_str {k : Bool → Prop} {sub : Nat → Nat → Option Bool} {s : PySem.Str} : OV (isiv sub (.str s) .str) k = k true := rfl
theorem ii_str_tuple {k : Bool → Prop} {sub : Nat → Nat → Option Bool} {s : PySem.Str} : OV (isiv sub (.str s) .tuple) k = k false := rfl
theorem ii_str_list {k : Bool → Prop} {sub : Nat → Nat → Option Bool} {s : PySem.Str} : OV (isiv sub (.str s) .list) k = k false := rfl
theorem ii_tup_int {k : Bool → Prop} {sub : Nat → Nat → Option Bool}  : OV (isiv sub (.tup xs) .int) k = k false := rfl
theorem ii_tup_bool {k : Bool → Prop} {sub : Nat → Nat → Option Bool}  : OV (isiv sub (.tup xs) .bool) k = k false := rfl
theorem ii_tup_str {k : Bool → Prop} {sub : Nat → Nat → Option Bool}  : OV (isiv sub (.tup xs) .str) k = k false := rfl
theorem ii_tup_tuple {k : Bool → Prop} {sub : Nat → Nat → Option Bool}  : OV (isiv sub (.tup xs) .tuple) k = k true := rfl
theorem ii_tup_list {k : Bool → Prop} {sub : Nat → Nat → Option Bool}  : OV (isiv sub (.tup xs) .list) k = k false := rfl
theorem ii_lst_int {k : Bool → Prop} {sub : Nat → Nat → Option Bool}  : OV (isiv sub (.lst xs) .int) k = k false := rfl
theorem ii_lst_bool {k : Bool → Prop} {sub : Nat → Nat → Option Bool}  : OV (isiv sub (.lst xs) .bool) k = k false := rfl
theorem ii_lst_str {k : Bool → Prop} {sub : Nat → Nat → Option Bool}  : OV (isiv sub (.lst xs) .str) k = k false := rfl
theorem ii_lst_tuple {k : Bool → Prop} {sub : Nat → Nat → Option Bool}  : OV (isiv sub (.lst xs) .tuple) k = k false := rfl
theorem ii_lst_list {k : Bool → Prop} {sub : Nat → Nat → Option Bool}  : OV (isiv sub (.lst xs) .list) k = k true := rfl
theorem nf_fr {q : Rat} {o : Bool} : nf (fr q) o = True := nf_t _ _
theorem ix_fr0 {k : D → Prop} {q : Rat} : OV (ixv (fr q) (.int 0)) k = k (.int q.num) := ix_tup0
theorem ix_fr1 {k : D → Prop} {q : Rat} : OV (ixv (fr q) (.int 1)) k = k (.int q.den) := ix_tup1
theorem ii_fr_t {k : Bool → Prop} {sub : Nat → Nat → Option Bool} {q : Rat} : OV (isiv sub (fr q) .tuple) k = k true := rfl
theorem len_fr {k : D × Bool → Prop} {q : Rat} : OV (biv .len [fr q]) k = k (.int 2, false) := rfl
theorem eqv_int (i j : Int) : D.eqv (.int i) (.int j) = decide (i = j) := by
  unfold D.eqv
  congr 1
theorem eqv_fr (a b : Rat) : D.eqv (fr a) (fr b) = decide (a = b) := by
  unfold fr
  by_cases h : a = b
  · subst h
    simp [D.eqv, D.eqvs]
  · have : ¬ (a.num = b.num ∧ (a.den : Int) = b.den) := fun ⟨h1, h2⟩ => h (Rat.ext h1 (by omega))
    simp [D.eqv, D.eqvs, h]
    omega
theorem c_eqfr {k : Bool → Prop} {a b : Rat} : OV (cmpv .eq (fr a) (fr b)) k = k (decide (a = b)) := by
  show k (D.eqv (fr a) (fr b)) = _
  rw [eqv_fr]
theorem c_nefr {k : Bool → Prop} {a b : Rat} : OV (cmpv .ne (fr a) (fr b)) k = k (!decide (a = b)) := by
  show k (!D.eqv (fr a) (fr b)) = _
  rw [eqv_fr]
theorem c_eqfrs {k : Bool → Prop} {a : Rat} : OV (cmpv .eq (fr a) (fr a)) k = k true := by rw [c_eqfr]; simp
theorem c_nefrs {k : Bool → Prop} {a : Rat} : OV (cmpv .ne (fr a) (fr a)) k = k false := by rw [c_nefr]; simp
theorem c_eqbs {k : Bool → Prop} {a : Bool} : OV (cmpv .eq (.bl a) (.bl a)) k = k true := by
  show k (D.eqv (.bl a) (.bl a)) = _
  cases a <;> rfl
theorem c_nebs {k : Bool → Prop} {a : Bool} : OV (cmpv .ne (.bl a) (.bl a)) k = k false := by
  show k (!D.eqv (.bl a) (.bl a)) = _
  cases a <;> rfl
end
end GW
end

section
/-! S3: a def's answer. -/
namespace GW
def RI (r : Res) : Flow → Prop
  | .nx _ => r = .ok .non false .non
  | .rt d o _ => r = .ok d o .non
  | .exn c _ => r = .exn c .non
  | _ => False
section
variable {G : Prog} {n f : Nat} {F : Fn} {args : List D} {r : Res} {ρ : Env} {K : D → Bool → Env → Prop} {X : Nat → Env → Prop} {d d' : D} {o o' : Bool} {c c' : Nat} {mt : Bool}
theorem run_of (hf : G.fns[f]? = some F) (hm : F.meth = false) (hl : args.length = F.pars.length) (h : WS (Prog.rt G (run G n) false) F.body (args.map .fz ++ List.replicate (F.names.length - F.pars.length) .no) (RI r)) : run G (n + 1) f .non args = r := by
  show (match G.fns[f]? with
    | some F => runBody G (run G n) F .non args
    | none => .bad) = r
  rw [hf]
  show runBody G (run G n) F .non args = r
  unfold runBody Fn.start
  rw [hm]
  rw [if_pos (by rw [hl]; rfl)]
  unfold WS at h
  show (execs (Prog.rt G (run G n) false) F.body (args.map .fz ++ List.replicate (F.names.length - F.pars.length) .no)).res F = r
  cases hx : execs (Prog.rt G (run G n) false) F.body (args.map .fz ++ List.replicate (F.names.length - F.pars.length) .no) with
  | nx ρ =>
    rw [hx] at h
    unfold Flow.res selfOf
    rw [hm]
    exact h.symm
  | rt d o ρ =>
    rw [hx] at h
    unfold Flow.res selfOf
    rw [hm]
    exact h.symm
  | exn c ρ =>
    rw [hx] at h
    unfold Flow.res selfOf
    rw [hm]
    exact h.symm
  | bk ρ => rw [hx] at h; exact h.elim
  | ct ρ => rw [hx] at h; exact h.elim
  | bad => rw [hx] at h; exact h.elim
theorem ri_rt : RI (.ok d o .non) (.rt d' o' ρ) = (d = d' ∧ o = o') := by
  show (Res.ok d o .non = .ok d' o' .non) = _
  simp
theorem ri_nx : RI (.ok d o .non) (.nx ρ) = (d = .non ∧ o = false) := by
  show (Res.ok d o .non = .ok .non false .non) = _
  simp
theorem ri_ex : RI (.exn c .non) (.exn c' ρ) = (c = c') := by
  show (Res.exn c .non = .exn c' .non) = _
  simp
theorem ri_rx : RI (.ok d o .non) (.exn c ρ) = False := by
  show (Res.ok d o .non = .exn c .non) = _
  simp
theorem ri_xr : RI (.exn c .non) (.rt d o ρ) = False := by
  show (Res.exn c .non = .ok d o .non) = _
  simp
theorem gd_nx {Q : Flow → Prop} : gd Q (.nx ρ) = Q (.nx ρ) := rfl
theorem gd_rt {Q : Flow → Prop} : gd Q (.rt d o ρ) = Q (.rt d o ρ) := rfl
theorem gd_ex {Q : Flow → Prop} : gd Q (.exn c ρ) = Q (.exn c ρ) := rfl
/-- a call that is known -/
theorem cw_run (h : run G n f .non args = r) : CW ((Prog.rt G (run G n) mt).call f .non args) ρ K X = CW r ρ K X := by
  show CW (run G n f .non args) ρ K X = _
  rw [h]
theorem cw_ok (h : run G n f .non args = .ok d o .non) : CW ((Prog.rt G (run G n) mt).call f .non args) ρ K X = K d o ρ := cw_run h
end
end GW
end

section
/-! S4: whole numbers and fractions. -/
namespace GW
theorem fmod_abs {a b : Int} (h : b ≠ 0) : (a.fmod b).natAbs < b.natAbs := by
  rcases Int.lt_or_gt_of_ne h with h | h
  · have e := Int.neg_fmod_neg a b
    have h1 := Int.fmod_nonneg_of_pos (-a) (b := -b) (by omega)
    have h2 := Int.fmod_lt_of_pos (-a) (b := -b) (by omega)
    omega
  · have h1 := Int.fmod_nonneg_of_pos a h
    have h2 := Int.fmod_lt_of_pos a h
    omega
theorem gcd_fmod (a b : Int) : Int.gcd b (a.fmod b) = Int.gcd a b := by
  rw [Int.fmod_def, Int.gcd_sub_mul_left_right, Int.gcd_comm]
/-- the loop of a divisor -/
theorem gcd_loop {R : Rt} (hR : R.meth = false) : ∀ (N : Nat) (a b : Int), b.natAbs < N → ∃ g : Int, g.natAbs = Int.gcd a b ∧ whlL (ev R false (.cmp .ne (.var 1) (.int 0))) (execs R [.par [0, 1] [.var 1, .bin .mod (.var 0) (.var 1)]]) N [.fz (.int a), .fz (.int b)] = .nx [.fz (.int g), .fz (.int 0)]
  | 0, a, b, h => absurd h (Nat.not_lt_zero _)
  | N + 1, a, b, h => by
    have hc : ev R false (.cmp .ne (.var 1) (.int 0)) [.fz (.int a), .fz (.int b)] = .ok (.bl (!decide (b = 0)), false) [.fz (.int a), .fz (.int b)] := by
      have z : (D.int b).eqv (.int 0) = decide (b = 0) := eqv_int b 0
      simp [ev, getS, Out.frz, Out.bind, Out.of, cmpv, deep, D.dep, z]
    by_cases hb : b = 0
    · subst hb
      refine ⟨a, by simp, ?_⟩
      unfold whlL
      rw [hc]
      rfl
    · obtain ⟨g, h1, h2⟩ := gcd_loop hR N b (a.fmod b) (by have := fmod_abs (a := a) hb; omega)
      refine ⟨g, by rw [h1, gcd_fmod], ?_⟩
      have hx : execs R [.par [0, 1] [.var 1, .bin .mod (.var 0) (.var 1)]] [.fz (.int a), .fz (.int b)] = .nx [.fz (.int b), .fz (.int (a.fmod b))] := by
        simp [execs, exec, evs, ev, getS, Out.frz, Out.bind, Out.of, binv, hb, onOut, setPar, okS, hR]
      unfold whlL
      rw [hc]
      simp only [hb, decide_false, Bool.not_false]
      rw [hx]
      exact h2
/-! ### sizes -/
/-- a fraction's size in bits at most -/
class SzLe (q : Rat) (b : outParam Nat) : Prop where
  n : q.num.natAbs < 2 ^ b
  d : q.den < 2 ^ b
theorem SzLe.up {q : Rat} {b c : Nat} (h : SzLe q b) (hc : b ≤ c) : SzLe q c := ⟨Nat.lt_of_lt_of_le h.n (Nat.pow_le_pow_right (by decide) hc), Nat.lt_of_lt_of_le h.d (Nat.pow_le_pow_right (by decide) hc)⟩
theorem mkRat_sz {n : Int} {d b : Nat} (hn : n.natAbs < 2 ^ b) (hd : d < 2 ^ b) (h0 : 0 < b) : SzLe (mkRat n d) b := by
  have p := Rat.num_mkRat n d
  have q := Rat.den_mkRat n d
  constructor
  · rw [p]
    split
    · simp; exact Nat.pow_pos (by decide)
    · refine Nat.lt_of_le_of_lt ?_ hn
      exact Int.natAbs_ediv_le_natAbs _ _
  · rw [q]
    split
    · exact Nat.one_lt_two_pow (by omega)
    · exact Nat.lt_of_le_of_lt (Nat.div_le_self ..) hd
theorem den_lt_pos {q : Rat} {b : Nat} (h : SzLe q b) : 0 < b := by
  rcases Nat.eq_zero_or_pos b with z | z
  · subst z
    have := h.d
    have := q.den_pos
    omega
  · exact z
theorem mul_lt2 {x y i j : Nat} (hx : x < 2 ^ i) (hy : y < 2 ^ j) : x * y < 2 ^ (i + j) := by
  rw [Nat.pow_add]
  exact Nat.mul_lt_mul'' hx hy
theorem sz_add {a b : Rat} {i j : Nat} (ha : SzLe a i) (hb : SzLe b j) : SzLe (a + b) (i + j + 1) := by
  rw [Rat.add_def']
  refine mkRat_sz ?_ (Nat.lt_of_lt_of_le (mul_lt2 ha.d hb.d) (Nat.pow_le_pow_right (by decide) (by omega))) (by omega)
  have h1 : (a.num * b.den).natAbs < 2 ^ (i + j) := by rw [Int.natAbs_mul]; exact mul_lt2 ha.n (by simpa using hb.d)
  have h2 : (b.num * a.den).natAbs < 2 ^ (i + j) := by rw [Int.natAbs_mul, Nat.add_comm i j]; exact mul_lt2 hb.n (by simpa using ha.d)
  have h3 := Int.natAbs_add_le (a.num * b.den) (b.num * a.den)
  have h4 : 2 ^ (i + j + 1) = 2 ^ (i + j) * 2 := Nat.pow_succ 2 (i + j)
  omega
theorem sz_neg {a : Rat} {i : Nat} (ha : SzLe a i) : SzLe (-a) i := ⟨by simpa using ha.n, by simpa using ha.d⟩
theorem sz_sub {a b : Rat} {i j : Nat} (ha : SzLe a i) (hb : SzLe b j) : SzLe (a - b) (i + j + 1) := by
  rw [Rat.sub_eq_add_neg]
  exact sz_add ha (sz_neg hb)
theorem sz_mul {a b : Rat} {i j : Nat} (ha : SzLe a i) (hb : SzLe b j) : SzLe (a * b) (i + j) := by
  rw [Rat.mul_def']
  have := den_lt_pos ha
  exact mkRat_sz (by rw [Int.natAbs_mul]; exact mul_lt2 ha.n hb.n) (mul_lt2 ha.d hb.d) (by omega)
theorem sz_inv {a : Rat} {i : Nat} (ha : SzLe a i) : SzLe a⁻¹ i := by
  constructor
  · rw [Rat.num_inv, Int.natAbs_mul]
    have h1 : a.num.sign.natAbs ≤ 1 := by
      rcases Int.lt_trichotomy a.num 0 with z | z | z
      · rw [Int.sign_eq_neg_one_of_neg z]; decide
      · rw [z]; decide
      · rw [Int.sign_eq_one_of_pos z]; decide
    have h2 : a.num.sign.natAbs * ((a.den : Int)).natAbs ≤ 1 * a.den := Nat.mul_le_mul h1 (by simp)
    have := ha.d
    omega
  · rw [Rat.den_inv]
    split
    · have := den_lt_pos ha
      exact Nat.one_lt_two_pow (by omega)
    · exact ha.n
theorem sz_div {a b : Rat} {i j : Nat} (ha : SzLe a i) (hb : SzLe b j) : SzLe (a / b) (i + j) := by
  rw [Rat.div_def]
  exact sz_mul ha (sz_inv hb)
theorem log2_lt {n b : Nat} (h : n < 2 ^ b) (h0 : 0 < b) : n.log2 < b := by
  by_cases z : n = 0
  · subst z; simpa using h0
  · exact (Nat.log2_lt z).mpr h
/-! ### the divisor's answer -/
theorem divInt_pair {u d : Int} {g : Int} (hd : d ≠ 0) (hg : g.natAbs = Int.gcd u d) (hs : 0 < g ↔ 0 < d) : u.fdiv g = (Rat.divInt u d).num ∧ d.fdiv g = ((Rat.divInt u d).den : Int) := by
  have g0 : Int.gcd u d ≠ 0 := fun z => hd (Int.gcd_eq_zero_iff.mp z).2
  have e1 : (g.natAbs : Int) = Int.gcd u d := by rw [hg]
  have du : (Int.gcd u d : Int) ∣ u := Int.gcd_dvd_left ..
  have dd : (Int.gcd u d : Int) ∣ d := Int.gcd_dvd_right ..
  rw [Rat.num_divInt, Rat.den_divInt, if_neg hd, Int.gcd_comm d u]
  rcases Int.lt_or_gt_of_ne hd with h | h
  · have hn : g = -(Int.gcd u d : Int) := by
      have : ¬ 0 < g := fun z => by have := hs.mp z; omega
      omega
    rw [hn, Int.sign_eq_neg_one_of_neg h]
    obtain ⟨x, hx⟩ := du
    obtain ⟨y, hy⟩ := dd
    generalize (Int.gcd u d) = k at *
    have k0 : (k : Int) ≠ 0 := by omega
    constructor
    · rw [hx, Int.fdiv_eq_ediv_of_dvd (Int.neg_dvd.mpr (Int.dvd_mul_right ..)), Int.ediv_neg, Int.mul_ediv_cancel_left _ k0]
      rw [show (-1 : Int) * (k * x) = k * (-x) by rw [Int.mul_neg, Int.neg_mul, Int.one_mul], Int.mul_ediv_cancel_left _ k0]
    · rw [hy] at h ⊢
      rw [Int.fdiv_eq_ediv_of_dvd (Int.neg_dvd.mpr (Int.dvd_mul_right ..)), Int.ediv_neg, Int.mul_ediv_cancel_left _ k0]
      have : ((k : Int) * y).natAbs / k = y.natAbs := by
        rw [Int.natAbs_mul, Int.natAbs_natCast, Nat.mul_div_cancel_left _ (by omega)]
      rw [this]
      have : y < 0 := by
        rcases Int.lt_or_le y 0 with z | z
        · exact z
        · have := Int.mul_nonneg (Int.natCast_nonneg k) z
          omega
      omega
  · have hn : g = (Int.gcd u d : Int) := by
      have := hs.mpr h
      omega
    rw [hn, Int.sign_eq_one_of_pos h, Int.one_mul]
    obtain ⟨y, hy⟩ := dd
    generalize (Int.gcd u d) = k at *
    have k0 : (k : Int) ≠ 0 := by omega
    constructor
    · exact Int.fdiv_eq_ediv_of_dvd du
    · rw [hy] at h ⊢
      rw [Int.fdiv_eq_ediv_of_dvd (Int.dvd_mul_right ..), Int.mul_ediv_cancel_left _ k0]
      have : ((k : Int) * y).natAbs / k = y.natAbs := by
        rw [Int.natAbs_mul, Int.natAbs_natCast, Nat.mul_div_cancel_left _ (by omega)]
      rw [this]
      have : 0 < y := by
        rcases Int.lt_or_le 0 y with z | z
        · exact z
        · have := Int.mul_nonneg (Int.natCast_nonneg k) (Int.neg_nonneg_of_nonpos z)
          rw [Int.mul_neg] at this
          omega
      omega
end GW
namespace GW
theorem mulOk {x y i j : Nat} (hx : x < 2 ^ i) (hy : y < 2 ^ j) (h0 : 0 < i) (h1 : 0 < j) (h : i + j ≤ 100000000) : x.log2 + y.log2 < 100000000 := by
  have := log2_lt hx h0
  have := log2_lt hy h1
  omega
theorem SzLe.di {q : Rat} {b : Nat} (h : SzLe q b) : ((q.den : Int)).natAbs < 2 ^ b := by simpa using h.d
theorem den_ne (q : Rat) : (q.den : Int) ≠ 0 := by have := q.den_nz; omega
theorem mul_ne {a b : Int} (ha : a ≠ 0) (hb : b ≠ 0) : a * b ≠ 0 := fun z => (Int.mul_eq_zero.mp z).elim ha hb
theorem fr_add (a b : Rat) : Rat.divInt (a.num * b.den + b.num * a.den) ((a.den : Int) * b.den) = a + b := by
  rw [Rat.add_def', ← Int.natCast_mul, Rat.divInt_ofNat]
theorem fr_sub (a b : Rat) : Rat.divInt (a.num * b.den - b.num * a.den) ((a.den : Int) * b.den) = a - b := by
  rw [Rat.sub_def', ← Int.natCast_mul, Rat.divInt_ofNat]
theorem fr_mul (a b : Rat) : Rat.divInt (a.num * b.num) ((a.den : Int) * b.den) = a * b := by
  rw [Rat.mul_def', ← Int.natCast_mul, Rat.divInt_ofNat]
theorem fr_div (a b : Rat) : Rat.divInt (a.num * b.den) ((a.den : Int) * b.num) = a / b := by
  rw [Rat.div_def, Rat.inv_def, ← Rat.divInt_mul_divInt, Rat.num_divInt_den]
theorem num_ne {b : Rat} (h : b ≠ 0) : b.num ≠ 0 := fun z => h (Rat.num_eq_zero.mp z)
end GW
namespace GW
theorem sz_divInt {u d : Int} {b : Nat} (hu : u.natAbs < 2 ^ b) (hd : d.natAbs < 2 ^ b) (h0 : 0 < b) : SzLe (Rat.divInt u d) b := by
  constructor
  · rw [Rat.num_divInt]
    refine Nat.lt_of_le_of_lt (Int.natAbs_ediv_le_natAbs _ _) ?_
    rw [Int.natAbs_mul]
    have h1 : d.sign.natAbs ≤ 1 := by
      rcases Int.lt_trichotomy d 0 with z | z | z
      · rw [Int.sign_eq_neg_one_of_neg z]; decide
      · rw [z]; decide
      · rw [Int.sign_eq_one_of_pos z]; decide
    have h2 : d.sign.natAbs * u.natAbs ≤ 1 * u.natAbs := Nat.mul_le_mul_right _ h1
    omega
  · rw [Rat.den_divInt]
    split
    · exact Nat.one_lt_two_pow (by omega)
    · exact Nat.lt_of_le_of_lt (Nat.div_le_self ..) hd
end GW
namespace GW
instance {a b : Rat} {i j : Nat} [ha : SzLe a i] [hb : SzLe b j] : SzLe (a + b) (i + j + 1) := sz_add ha hb
instance {a b : Rat} {i j : Nat} [ha : SzLe a i] [hb : SzLe b j] : SzLe (a - b) (i + j + 1) := sz_sub ha hb
instance {a b : Rat} {i j : Nat} [ha : SzLe a i] [hb : SzLe b j] : SzLe (a * b) (i + j) := sz_mul ha hb
instance {a b : Rat} {i j : Nat} [ha : SzLe a i] [hb : SzLe b j] : SzLe (a / b) (i + j) := sz_div ha hb
instance {a : Rat} {i : Nat} [ha : SzLe a i] : SzLe (-a) i := sz_neg ha
instance : SzLe (0 : Rat) 1 := ⟨by decide, by decide⟩
instance : SzLe (1 : Rat) 1 := ⟨by decide, by decide⟩
instance : SzLe (2 : Rat) 2 := ⟨by decide, by decide⟩
instance : SzLe (3 : Rat) 2 := ⟨by decide, by decide⟩
instance : SzLe (4 : Rat) 3 := ⟨by decide, by decide⟩
instance : SzLe (5 : Rat) 3 := ⟨by decide, by decide⟩
instance : SzLe (6 : Rat) 3 := ⟨by decide, by decide⟩
instance : SzLe (8 : Rat) 4 := ⟨by decide, by decide⟩
theorem lit01 : D.tup [.int 0, .int 1] = fr 0 := rfl
theorem lit11 : D.tup [.int 1, .int 1] = fr 1 := rfl
theorem lit21 : D.tup [.int 2, .int 1] = fr 2 := rfl
theorem lit31 : D.tup [.int 3, .int 1] = fr 3 := rfl
theorem lit41 : D.tup [.int 4, .int 1] = fr 4 := rfl
theorem lit61 : D.tup [.int 6, .int 1] = fr 6 := rfl
theorem lit12 : D.tup [.int 1, .int 2] = fr (1 / 2) := by
  have h1 : (1 / 2 : Rat).num = 1 := by decide +kernel
  have h2 : (1 / 2 : Rat).den = 2 := by decide +kernel
  unfold fr
  rw [h1, h2]
  rfl
theorem lit32 : D.tup [.int 3, .int 2] = fr (3 / 2) := by
  have h1 : (3 / 2 : Rat).num = 3 := by decide +kernel
  have h2 : (3 / 2 : Rat).den = 2 := by decide +kernel
  unfold fr
  rw [h1, h2]
  rfl
end GW
end

section
/-! S5: the script. -/
namespace GW
def scr (ns : List Int) : D := .lst (ns.map .int)
structure ScOk (ns : List Int) : Prop where
  len : ns.length ≤ 63
  bits : ∀ z ∈ ns, PySem.Builtin.Int.intBits z ≤ 1048580
theorem nf_scr (ns : List Int) (o : Bool) : nf (scr ns) o = True := nf_l _ _
theorem len_scr {k : D × Bool → Prop} {ns : List Int} : OV (biv .len [scr ns]) k = k (.int ns.length, false) := by
  show k (.int (ns.map D.int).length, false) = _
  rw [List.length_map]
theorem ix_scr {k : D → Prop} {ns : List Int} {i : Int} (h0 : 0 ≤ i) (h1 : i < ns.length) : OV (ixv (scr ns) (.int i)) k = k (.int (ns.getD i.toNat 0)) := by
  show OV (ixL (ns.map D.int) i) k = _
  unfold ixL ixN
  rw [if_pos h0, List.length_map, if_pos h1]
  dsimp only [Option.bind]
  have h2 : i.toNat < ns.length := by omega
  rw [List.getElem?_map, List.getElem?_eq_getElem h2]
  show k (.int ns[i.toNat]) = _
  rw [List.getD_eq_getElem?_getD, List.getElem?_eq_getElem h2]
  rfl
theorem deps_ints : ∀ ns : List Int, D.deps (ns.map .int) = 0
  | [] => by unfold D.deps; rfl
  | n :: ns => by
    show D.deps (.int n :: ns.map .int) = 0
    unfold D.deps
    rw [deps_ints ns]
    rfl
theorem c_eqscr {k : Bool → Prop} {ns : List Int} : OV (cmpv .eq (scr ns) (.lst [])) k = k (decide (ns = [])) := by
  have h : deep (scr ns) (.lst []) = true := by
    unfold deep scr
    have e1 : D.dep (.lst (ns.map .int)) = 1 := by unfold D.dep; rw [deps_ints]
    rw [e1]
    rfl
  show OV (if deep (scr ns) (.lst []) = true then some ((scr ns).eqv (.lst [])) else _) k = _
  rw [if_pos h]
  cases ns with
  | nil => rfl
  | cons n ns =>
    show k (D.eqv (.lst (.int n :: ns.map .int)) (.lst [])) = _
    unfold D.eqv D.eqvs
    simp
def cellV (ns : List Int) (k : Int) : Int := if k < ns.length then ns.getD k.toNat 0 else if ns = [] then 0 else ns.getD (k.fmod ns.length).toNat 0 * 31 + k
def drawnV (ns : List Int) (k : Int) : Int := ((cellV ns k + 6151 * (k + 1)) * 40692).fmod 2147483399
def pickV (ns : List Int) (k m : Int) : Int := ((drawnV ns k * drawnV ns k + (drawnV ns k).fdiv 31).fmod 2147483629).fmod m
theorem pick_lo (ns : List Int) (k : Int) {m : Int} (h : 0 < m) : 0 ≤ pickV ns k m := Int.fmod_nonneg_of_pos _ h
theorem pick_hi (ns : List Int) (k : Int) {m : Int} (h : 0 < m) : pickV ns k m < m := Int.fmod_lt_of_pos _ h
theorem bits_lt {z : Int} {b : Nat} (h : PySem.Builtin.Int.intBits z ≤ b) : z.natAbs < 2 ^ b := by
  unfold PySem.Builtin.Int.intBits at h
  split at h
  · rename_i h0
    have : z = 0 := by simpa using h0
    subst this
    exact Nat.pow_pos (by decide)
  · rename_i h0
    have h1 : z.natAbs ≠ 0 := by
      intro q
      apply h0
      have : z = 0 := by omega
      rw [this]
      rfl
    exact (Nat.log2_lt h1).mp (by omega)
theorem getD_bits {ns : List Int} (ok : ScOk ns) (i : Nat) : ∃ b, b = 1048580 ∧ (ns.getD i 0).natAbs < 2 ^ b := by
  refine ⟨1048580, rfl, ?_⟩
  rw [List.getD_eq_getElem?_getD]
  cases h : ns[i]? with
  | none => exact Nat.pow_pos (by decide)
  | some z => exact bits_lt (ok.bits z (List.mem_of_getElem? h))
theorem cell_bits {ns : List Int} (ok : ScOk ns) {k : Int} (h0 : 0 ≤ k) (h1 : k ≤ 1000000) : ∃ b, b = 1048604 ∧ (cellV ns k).natAbs < 2 ^ b := by
  refine ⟨_, rfl, ?_⟩
  generalize hb : (1048604 : Nat) = b
  unfold cellV
  have big : ∀ i, (ns.getD i 0).natAbs < 2 ^ (b - 24) := fun i => by
    obtain ⟨c, hc, h⟩ := getD_bits ok i
    have : b - 24 = c := by omega
    rw [this]
    exact h
  have e : 2 ^ b = 2 ^ (b - 24) * 16777216 := by
    rw [show (16777216 : Nat) = 2 ^ 24 from by decide, ← Nat.pow_add]
    congr 1
    omega
  have p : 0 < 2 ^ (b - 24) := Nat.pow_pos (by decide)
  generalize 2 ^ (b - 24) = w at *
  generalize 2 ^ b = v at *
  split
  · have := big k.toNat
    omega
  · split
    · omega
    · have := big (k.fmod ns.length).toNat
      generalize ns.getD (k.fmod ns.length).toNat 0 = z at *
      omega
theorem draw_ok {ns : List Int} (ok : ScOk ns) {k : Int} (h0 : 0 ≤ k) (h1 : k ≤ 1000000) : (cellV ns k + 6151 * (k + 1)).natAbs.log2 + (40692 : Int).natAbs.log2 < 100000000 := by
  obtain ⟨b, hb, h⟩ := cell_bits ok h0 h1
  have e : 2 ^ (b + 40) = 2 ^ b * 1099511627776 := by
    rw [show (1099511627776 : Nat) = 2 ^ 40 from by decide, ← Nat.pow_add]
  have p : 0 < 2 ^ b := Nat.pow_pos (by decide)
  have h2 : (cellV ns k + 6151 * (k + 1)).natAbs < 2 ^ (b + 40) := by
    rw [e]
    generalize 2 ^ b = w at *
    omega
  have h3 := log2_lt h2 (by omega)
  have h4 : (40692 : Int).natAbs.log2 ≤ 20 := by decide
  omega
theorem nat_log {n : Nat} (h : n < 2 ^ 60) : n.log2 < 60 := log2_lt h (by decide)
theorem drawn_rng (ns : List Int) (k : Int) : 0 ≤ drawnV ns k ∧ drawnV ns k < 2147483399 := ⟨Int.fmod_nonneg_of_pos _ (by decide), Int.fmod_lt_of_pos _ (by decide)⟩
theorem int_log {z : Int} (h0 : -1000000000000000 < z) (h : z < 1000000000000000) : z.natAbs.log2 < 60 := nat_log (by
  have : (2 : Nat) ^ 60 = 1152921504606846976 := by decide
  omega)
end GW
end

section
/-! S6: loops, comprehensions, kinds, like things. -/
namespace GW
section
variable {R : Rt} {m : Bool} {ρ : Env} {K : D → Bool → Env → Prop} {X : Nat → Env → Prop} {Q : Flow → Prop} {ss b : List Ps} {xs ys : List D} {d : D} {tg : Tg} {G : Prog} {call : Nat → D → List D → Res}
theorem ok_rt {is : List Nat} : (okS (Prog.rt G call false) is = true) = True := by simp [okS, Prog.rt]
/-! ### loops -/
def forF (R : Rt) (tg : Tg) (b : List Ps) : D → Env → Flow := fun d ρ => match setTg ρ tg d with
      | some ρ => execs R b ρ
      | none => .bad
def WF (R : Rt) (tg : Tg) (b : List Ps) (xs : List D) (ρ : Env) (Q : Flow → Prop) : Prop := gd Q (forL (forF R tg b) xs ρ)
theorem ws_forW {it : Px} : WS R (.forS tg it b :: ss) ρ Q = WE R false it ρ (fun x o ρ => nf x o ∧ OV (itemsv x) fun xs => okS R tg.slots = true ∧ WF R tg b xs ρ (TH R ss Q)) (fun c ρ => Q (.exn c ρ)) := ws_for
def LQ (R : Rt) (tg : Tg) (b : List Ps) (xs : List D) (Q : Flow → Prop) (fl : Flow) : Prop := match fl with
  | .nx ρ => WF R tg b xs ρ Q
  | .ct ρ => WF R tg b xs ρ Q
  | .bk ρ => Q (.nx ρ)
  | fl => Q fl
theorem lq_nx : LQ R tg b xs Q (.nx ρ) = WF R tg b xs ρ Q := rfl
theorem lq_ct : LQ R tg b xs Q (.ct ρ) = WF R tg b xs ρ Q := rfl
theorem lq_bk : LQ R tg b xs Q (.bk ρ) = Q (.nx ρ) := rfl
theorem lq_rt {o : Bool} : LQ R tg b xs Q (.rt d o ρ) = Q (.rt d o ρ) := rfl
theorem lq_exn {c : Nat} : LQ R tg b xs Q (.exn c ρ) = Q (.exn c ρ) := rfl
theorem wf_cons : WF R tg b (d :: xs) ρ Q = OV (setTg ρ tg d) fun ρ => WS R b ρ (LQ R tg b xs Q) := by
  unfold WF WS
  conv => lhs; unfold forL
  unfold forF
  cases setTg ρ tg d with
  | none => rfl
  | some ρ1 =>
    dsimp only [OV]
    cases execs R b ρ1 <;> rfl
def IQ (J : Env → Prop) (Q : Flow → Prop) (fl : Flow) : Prop := match fl with
  | .nx ρ => J ρ
  | .ct ρ => J ρ
  | .bk ρ => Q (.nx ρ)
  | fl => Q fl
theorem iq_nx {J : Env → Prop} : IQ J Q (.nx ρ) = J ρ := rfl
theorem iq_ct {J : Env → Prop} : IQ J Q (.ct ρ) = J ρ := rfl
theorem iq_bk {J : Env → Prop} : IQ J Q (.bk ρ) = Q (.nx ρ) := rfl
theorem iq_rt {J : Env → Prop} {o : Bool} : IQ J Q (.rt d o ρ) = Q (.rt d o ρ) := rfl
theorem iq_exn {J : Env → Prop} {c : Nat} : IQ J Q (.exn c ρ) = Q (.exn c ρ) := rfl
theorem ws_brk : WS R (.brk :: ss) ρ Q = Q (.bk ρ) := by
  unfold WS
  rw [execs_cons]
  (conv => lhs; unfold exec) <;> rfl
theorem ws_cont : WS R (.cont :: ss) ρ Q = Q (.ct ρ) := by
  unfold WS
  rw [execs_cons]
  (conv => lhs; unfold exec) <;> rfl
theorem gd_mono {Q Q' : Flow → Prop} (h : ∀ fl, Q fl → Q' fl) : ∀ {fl : Flow}, gd Q fl → gd Q' fl
  | .bad, q => q
  | .nx _, q => h _ q
  | .rt _ _ _, q => h _ q
  | .bk _, q => h _ q
  | .ct _, q => h _ q
  | .exn _ _, q => h _ q
theorem WS.mono {Q Q' : Flow → Prop} (h : ∀ fl, Q fl → Q' fl) (w : WS R b ρ Q) : WS R b ρ Q' := gd_mono h w
/-- a loop by what holds ahead of each turn -/
theorem wf_inv : ∀ {xs : List D} {ρ : Env} (I : Nat → Env → Prop) (_ : I 0 ρ) (_ : ∀ i d ρ, xs[i]? = some d → I i ρ → OV (setTg ρ tg d) fun ρ => WS R b ρ (IQ (I (i + 1)) Q)) (_ : ∀ ρ, I xs.length ρ → Q (.nx ρ)), WF R tg b xs ρ Q
  | [], ρ, I, h0, _, hq => hq ρ h0
  | d :: xs, ρ, I, h0, hs, hq => by
    rw [wf_cons]
    have h1 := hs 0 d ρ rfl h0
    cases h : setTg ρ tg d with
    | none => rw [h] at h1; exact h1
    | some ρ1 =>
      rw [h] at h1
      refine WS.mono (fun fl q => ?_) h1
      have key : ∀ ρ, I 1 ρ → WF R tg b xs ρ Q := fun ρ j => wf_inv (fun i => I (i + 1)) j (fun i d ρ hi => hs (i + 1) d ρ hi) fun ρ z => hq ρ z
      cases fl with
      | nx ρ => exact key ρ q
      | ct ρ => exact key ρ q
      | _ => exact q
theorem up_fr {q : Rat} {k : List D → Prop} : OV (unpackv (fr q)) k = k [.int q.num, .int q.den] := rfl
/-! ### targets -/
theorem st_n {i : Nat} {k : Env → Prop} : OV (setTg ρ (.nm i) d) k = SX i (.fz d) ρ k := rfl
theorem st_t {is : List Nat} {ds : List D} {k : Env → Prop} : OV (setTg ρ (.tp is) (.tup ds)) k = OV (setTs ρ is ds) k := rfl
theorem sts_n {k : Env → Prop} : OV (setTs ρ [] []) k = k ρ := rfl
theorem sts_c {i : Nat} {is : List Nat} {ds : List D} {k : Env → Prop} : OV (setTs ρ (i :: is) (d :: ds)) k = SX i (.fz d) ρ fun ρ => OV (setTs ρ is ds) k := rfl
/-! ### comprehensions -/
def lcQ (R : Rt) (own : List Nat) (tg : Tg) (cond : List Px) (e : Px) (ρ : Env) (d : D) : Option (Option D) := match setTg (wipeE ρ own) tg d with
  | none => none
  | some ρ1 => match evAnd R true cond ρ1 with
    | .ok (.bl true, _) _ => match (ev R true e ρ1).frz with
      | .ok y _ => some (some y)
      | _ => none
    | .ok (.bl false, _) _ => some none
    | _ => none
def noOw (own : List Nat) (ρ : Env) : Prop := (own.any fun i => isOw (getS ρ i)) = false
theorem we_lc {own : List Nat} {it : Px} {cond : List Px} {e : Px} : WE R m (.lc own tg it cond e) ρ K X = WE R m it ρ (fun x o ρ => nf x o ∧ OV (itemsv x) fun xs => noOw own ρ ∧ OV (collect (lcQ R own tg cond e ρ) xs) fun ys => ys.length ≤ lineD ∧ K (.lst ys) true ρ) X := by
  unfold WE
  conv => lhs; unfold ev
  simp only [ww_b, ww_frz]
  congr
  funext x ρ
  congr 1
  cases itemsv x.1 with
  | none => rfl
  | some xs =>
    dsimp only [OV, noOw]
    cases h : own.any fun i => isOw (getS ρ i) with
    | true => simp [ww]
    | false =>
      simp only [Bool.false_eq_true, if_false, true_and]
      show ww (match collect (lcQ R own tg cond e ρ) xs with
        | none => .bad
        | some ys => if ys.length ≤ lineD then Out.ok (D.lst ys, true) ρ else .bad) (fun x ρ => K x.1 x.2 ρ) X = _
      cases collect (lcQ R own tg cond e ρ) xs with
      | none => rfl
      | some ys => exact ww_if
theorem now_n : noOw [] ρ = True := by simp [noOw]
theorem now_c {i : Nat} {is : List Nat} : noOw (i :: is) ρ = (isOw (getS ρ i) = false ∧ noOw is ρ) := by simp [noOw]
theorem gs_0 {s : Sl} {r : List Sl} : getS (s :: r) 0 = s := rfl
theorem gs_s {s : Sl} {r : List Sl} {n : Nat} : getS (s :: r) (n + 1) = getS r n := rfl
theorem io_f : (isOw (.fz d) = false) = True := by simp [isOw]
theorem io_n : (isOw .no = false) = True := by simp [isOw]
def WP (own : List Nat) (ρ : Env) (k : Env → Prop) (_t : Lk k := {}) : Prop := k (wipeE ρ own)
theorem wp_n {k : Env → Prop} : WP [] ρ k = k ρ := rfl
theorem wp_c {i : Nat} {is : List Nat} {k : Env → Prop} : WP (i :: is) ρ k = WP is ρ fun ρ => SX i .no ρ k := rfl
theorem ov_lcf {own : List Nat} {cond : List Px} {e : Px} {k : Option D → Prop} : OV (lcQ R own tg cond e ρ d) k = WP own ρ fun ρ => OV (setTg ρ tg d) fun ρ => WA R true cond ρ (fun c _ _ => BR c (WE R true e ρ (fun y o _ => nf y o ∧ k (some y)) fun _ _ => False) (k none)) fun _ _ => False := by
  unfold WP lcQ WA WE
  dsimp only
  cases setTg (wipeE ρ own) tg d with
  | none => rfl
  | some ρ1 =>
    dsimp only [OV]
    cases evAnd R true cond ρ1 with
    | ok x ρ2 =>
      obtain ⟨c, o⟩ := x
      cases c with
      | bl z =>
        cases z with
        | true =>
          simp only [ww_ok, br_t]
          rw [← ww_frz (K := fun y _ => k (some y))]
          cases (ev R true e ρ1).frz <;> rfl
        | false => simp only [ww_ok, br_f]
      | _ => rfl
    | _ => rfl
theorem lc_f {own : List Nat} {cond : List Px} {e : Px} {r : Option D} (h : WP own ρ fun ρ => OV (setTg ρ tg d) fun ρ => WA R true cond ρ (fun c _ _ => BR c (WE R true e ρ (fun y o _ => nf y o ∧ some y = r) fun _ _ => False) (none = r)) fun _ _ => False) : lcQ R own tg cond e ρ d = some r := by
  have h' : OV (lcQ R own tg cond e ρ d) (fun x => x = r) := by rw [ov_lcf]; exact h
  cases z : lcQ R own tg cond e ρ d with
  | none => rw [z] at h'; exact h'.elim
  | some x => rw [z] at h'; exact congrArg some h'
theorem col_map {α : Type} {f : D → Option (Option D)} {h : α → D} (g : α → D) : ∀ {l : List α}, (∀ a ∈ l, f (h a) = some (some (g a))) → collect f (l.map h) = some (l.map g)
  | [], _ => rfl
  | a :: l, H => by
    rw [List.map_cons, List.map_cons]
    unfold collect
    rw [H a List.mem_cons_self, col_map g fun x hx => H x (List.mem_cons_of_mem _ hx)]
    rfl
theorem col_filt {α : Type} {f : D → Option (Option D)} {h : α → D} (g : α → D) (p : α → Bool) : ∀ {l : List α}, (∀ a ∈ l, f (h a) = some (if p a then some (g a) else none)) → collect f (l.map h) = some ((l.filter p).map g)
  | [], _ => rfl
  | a :: l, H => by
    rw [List.map_cons]
    unfold collect
    rw [H a List.mem_cons_self, col_filt g p fun x hx => H x (List.mem_cons_of_mem _ hx)]
    cases hp : p a with
    | true => simp [hp]
    | false => simp [hp]
/-! ### like things -/
mutual
theorem eqv_self : ∀ d : D, d.dep ≤ 60 → d.eqv d = true
  | .non, _ => by unfold D.eqv; rfl
  | .bl b, _ => by unfold D.eqv; simp
  | .int i, _ => by unfold D.eqv; simp
  | .str s, _ => by unfold D.eqv; simp
  | .tup xs, h => by
    unfold D.eqv
    unfold D.dep at h
    exact eqvs_self xs (by omega)
  | .lst xs, h => by
    unfold D.eqv
    unfold D.dep at h
    exact eqvs_self xs (by omega)
  | .dic _, h => by unfold D.dep at h; omega
  | .exc _, h => by unfold D.dep at h; omega
  | .ins _ _, h => by unfold D.dep at h; omega
theorem eqvs_self : ∀ ds : List D, D.deps ds ≤ 60 → D.eqvs ds ds = true
  | [], _ => by unfold D.eqvs; rfl
  | d :: ds, h => by
    unfold D.eqvs
    unfold D.deps at h
    rw [eqv_self d (by omega), eqvs_self ds (by omega)]
    rfl
end
class Dq (d : D) (n : outParam Nat) : Prop where
  h : D.dep d ≤ n
class Dqs (ds : List D) (n : outParam Nat) : Prop where
  h : D.deps ds ≤ n
instance {i : Int} : Dq (.int i) 0 := ⟨by unfold D.dep; exact Nat.le_refl _⟩
instance {i : Bool} : Dq (.bl i) 0 := ⟨by unfold D.dep; exact Nat.le_refl _⟩
instance : Dq .non 0 := ⟨by unfold D.dep; exact Nat.le_refl _⟩
instance : Dqs [] 0 := ⟨by unfold D.deps; exact Nat.le_refl _⟩
instance {d : D} {ds : List D} {i j : Nat} [a : Dq d i] [b : Dqs ds j] : Dqs (d :: ds) (max i j) := ⟨by unfold D.deps; have := a.h; have := b.h; omega⟩
instance {ds : List D} {i : Nat} [a : Dqs ds i] : Dq (.tup ds) (i + 1) := ⟨by unfold D.dep; have := a.h; omega⟩
instance {ds : List D} {i : Nat} [a : Dqs ds i] : Dq (.lst ds) (i + 1) := ⟨by unfold D.dep; have := a.h; omega⟩
instance {q : Rat} : Dq (fr q) 1 := inferInstanceAs (Dq (.tup [.int q.num, .int q.den]) 1)
theorem deps_map {α : Type} {f : α → D} {n : Nat} (H : ∀ a, Dq (f a) n) : ∀ {l : List α}, D.deps (l.map f) ≤ n
  | [] => by unfold List.map D.deps; exact Nat.zero_le _
  | a :: l => by
    rw [List.map_cons]
    unfold D.deps
    have := (H a).h
    have := deps_map H (l := l)
    omega
instance {α : Type} {f : α → D} {n : Nat} {l : List α} [H : ∀ a, Dq (f a) n] : Dqs (l.map f) n := ⟨deps_map H⟩
theorem c_eqself {n : Nat} [H : Dq d n] {k : Bool → Prop} (h : n ≤ 60) : OV (cmpv .eq d d) k = k true := by
  have e := H.h
  show OV (if deep d d = true then some (D.eqv d d) else _) k = _
  rw [if_pos (by unfold deep; simp; omega), eqv_self d (by omega)]
  rfl
theorem c_neself {n : Nat} [H : Dq d n] {k : Bool → Prop} (h : n ≤ 60) : OV (cmpv .ne d d) k = k false := by
  have e := H.h
  show OV (if deep d d = true then some (!D.eqv d d) else _) k = _
  rw [if_pos (by unfold deep; simp; omega), eqv_self d (by omega)]
  rfl
end
/-! ### kinds -/
inductive Kd where
  | even | in_ | out | both | hold | jump | kept
  deriving DecidableEq
def kS : Kd → PySem.Str
  | .even => "even"
  | .in_ => "in"
  | .out => "out"
  | .both => "both"
  | .hold => "hold"
  | .jump => "jump"
  | .kept => "kept"
def turnK : Kd → Kd
  | .in_ => .out
  | .out => .in_
  | .hold => .jump
  | .jump => .hold
  | k => k
section
variable {K : Bool → Prop} {k : Kd} {sub : Nat → Nat → Option Bool}
theorem ck_even : OV (cmpv .eq (.str (kS k)) (.str "even")) K = K (decide (k = .even)) := by cases k <;> kernel_rfl
theorem cn_even : OV (cmpv .ne (.str (kS k)) (.str "even")) K = K (!decide (k = .even)) := by cases k <;> kernel_rfl
theorem ck_in : OV (cmpv .eq (.str (kS k)) (.str "in")) K = K (decide (k = .in_)) := by cases k <;> kernel_rfl
theorem cn_in : OV (cmpv .ne (.str (kS k)) (.str "in")) K = K (!decide (k = .in_)) := by cases k <;> kernel_rfl
theorem ck_out : OV (cmpv .eq (.str (kS k)) (.str "out")) K = K (decide (k = .out)) := by cases k <;> kernel_rfl
theorem cn_out : OV (cmpv .ne (.str (kS k)) (.str "out")) K = K (!decide (k = .out)) := by cases k <;> kernel_rfl
theorem ck_both : OV (cmpv .eq (.str (kS k)) (.str "both")) K = K (decide (k = .both)) := by cases k <;> kernel_rfl
theorem cn_both : OV (cmpv .ne (.str (kS k)) (.str "both")) K = K (!decide (k = .both)) := by cases k <;> kernel_rfl
theorem ck_hold : OV (cmpv .eq (.str (kS k)) (.str "hold")) K = K (decide (k = .hold)) := by cases k <;> kernel_rfl
theorem cn_hold : OV (cmpv .ne (.str (kS k)) (.str "hold")) K = K (!decide (k = .hold)) := by cases k <;> kernel_rfl
theorem ck_jump : OV (cmpv .eq (.str (kS k)) (.str "jump")) K = K (decide (k = .jump)) := by cases k <;> kernel_rfl
theorem cn_jump : OV (cmpv .ne (.str (kS k)) (.str "jump")) K = K (!decide (k = .jump)) := by cases k <;> kernel_rfl
theorem ck_kept : OV (cmpv .eq (.str (kS k)) (.str "kept")) K = K (decide (k = .kept)) := by cases k <;> kernel_rfl
theorem cn_kept : OV (cmpv .ne (.str (kS k)) (.str "kept")) K = K (!decide (k = .kept)) := by cases k <;> kernel_rfl
theorem ci_hj : OV (cmpv .in_ (.str (kS k)) (.tup [.str "hold", .str "jump"])) K = K (decide (k = .hold ∨ k = .jump)) := by cases k <;> kernel_rfl
theorem cj_hj : OV (cmpv .nin (.str (kS k)) (.tup [.str "hold", .str "jump"])) K = K (!decide (k = .hold ∨ k = .jump)) := by cases k <;> kernel_rfl
theorem ci_bk : OV (cmpv .in_ (.str (kS k)) (.tup [.str "both", .str "kept"])) K = K (decide (k = .both ∨ k = .kept)) := by cases k <;> kernel_rfl
theorem cj_bk : OV (cmpv .nin (.str (kS k)) (.tup [.str "both", .str "kept"])) K = K (!decide (k = .both ∨ k = .kept)) := by cases k <;> kernel_rfl
theorem ci_kinds : OV (cmpv .in_ (.str (kS k)) (.tup [.str "even", .str "in", .str "out", .str "both", .str "hold", .str "jump"])) K = K (!decide (k = .kept)) := by cases k <;> kernel_rfl
theorem cj_kinds : OV (cmpv .nin (.str (kS k)) (.tup [.str "even", .str "in", .str "out", .str "both", .str "hold", .str "jump"])) K = K (decide (k = .kept)) := by cases k <;> kernel_rfl
def turnD : D := .dic [("even", .str "even"), ("in", .str "out"), ("out", .str "in"), ("both", .str "both"), ("hold", .str "jump"), ("jump", .str "hold")]
theorem gx_turn {K : D → Prop} (h : ¬ k = .kept) : OV (gixv turnD (.str (kS k))) K = K (.str (kS (turnK k))) := by cases k <;> first | exact absurd rfl h | kernel_rfl
instance : Dq (.str (kS k)) 0 := ⟨by cases k <;> decide +kernel⟩
end
end GW
end

section
/-! S7: what kinds of ways and motions tell, in fractions. -/
namespace GW
theorem szz {q : Rat} {i j : Nat} (h : SzLe q i) (e : i ≤ j) : SzLe q j := h.up e
def keptQ (p : Rat) : Rat := if p < 0 then 0 else if 1 < p then 1 else p
instance {p : Rat} {i : Nat} [h : SzLe p i] : SzLe (keptQ p) (i + 1) := by
  unfold keptQ
  split
  · exact szz (i := 1) inferInstance (by omega)
  · split
    · exact szz (i := 1) inferInstance (by omega)
    · exact szz h (by omega)
def easedQ (k : Kd) (p : Rat) : Rat := match k with
  | .even => keptQ p
  | .in_ => keptQ p * keptQ p
  | .out => keptQ p + keptQ p - keptQ p * keptQ p
  | .both => keptQ p * keptQ p * (3 - (keptQ p + keptQ p))
  | .hold => if keptQ p = 1 then 1 else 0
  | .jump => if keptQ p = 0 then 0 else 1
  | .kept => if keptQ p = 0 then 0 else 1
instance {k : Kd} {p : Rat} {i : Nat} [h : SzLe p i] : SzLe (easedQ k p) (4 * i + 10) := by
  unfold easedQ
  cases k
  · exact szz (i := i + 1) inferInstance (by omega)
  · exact szz (i := (i + 1) + (i + 1)) inferInstance (by omega)
  · exact szz (i := ((i + 1) + (i + 1) + 1) + ((i + 1) + (i + 1)) + 1) inferInstance (by omega)
  · exact szz (i := ((i + 1) + (i + 1)) + (2 + ((i + 1) + (i + 1) + 1) + 1)) inferInstance (by omega)
  · dsimp only
    split <;> exact szz (i := 1) inferInstance (by omega)
  · dsimp only
    split <;> exact szz (i := 1) inferInstance (by omega)
  · dsimp only
    split <;> exact szz (i := 1) inferInstance (by omega)
def slopeQ (k : Kd) (p : Rat) : Rat := if p < 0 then 0 else if 1 < p then 0 else match k with
  | .even => 1
  | .in_ => p + p
  | .out => 2 - (p + p)
  | .both => 6 * (p - p * p)
  | _ => 0
instance {k : Kd} {p : Rat} {i : Nat} [h : SzLe p i] : SzLe (slopeQ k p) (3 * i + 10) := by
  unfold slopeQ
  split
  · exact szz (i := 1) inferInstance (by omega)
  · split
    · exact szz (i := 1) inferInstance (by omega)
    · cases k <;> dsimp only
      · exact szz (i := 1) inferInstance (by omega)
      · exact szz (i := i + i + 1) inferInstance (by omega)
      · exact szz (i := 2 + (i + i + 1) + 1) inferInstance (by omega)
      · exact szz (i := 3 + (i + (i + i) + 1)) inferInstance (by omega)
      · exact szz (i := 1) inferInstance (by omega)
      · exact szz (i := 1) inferInstance (by omega)
      · exact szz (i := 1) inferInstance (by omega)
theorem keptQ_in {p : Rat} (h0 : 0 ≤ p) (h1 : p ≤ 1) : keptQ p = p := by unfold keptQ; grind
end GW
namespace GW
/-! ### draws -/
section
variable (ns : List Int) (k : Int)
def downV : Int := 1 + pickV ns k 4
def fracV : Rat := Rat.divInt (pickV ns (k + 1) (12 * downV ns k + 1) - 6 * downV ns k) (downV ns k)
theorem down_rng : 1 ≤ downV ns k ∧ downV ns k ≤ 4 := by
  have := pick_lo ns k (m := 4) (by decide)
  have := pick_hi ns k (m := 4) (by decide)
  unfold downV
  omega
instance frac_sz : SzLe (fracV ns k) 6 := by
  have h := down_rng ns k
  have := pick_lo ns (k + 1) (m := 12 * downV ns k + 1) (by omega)
  have := pick_hi ns (k + 1) (m := 12 * downV ns k + 1) (by omega)
  refine sz_divInt ?_ ?_ (by decide)
  · show _ < 64
    omega
  · show _ < 64
    omega
def down3 : Int := 1 + pickV ns k 3
def sizeV : Rat := Rat.divInt (1 + pickV ns (k + 1) (6 * down3 ns k)) (down3 ns k)
theorem down3_rng : 1 ≤ down3 ns k ∧ down3 ns k ≤ 3 := by
  have := pick_lo ns k (m := 3) (by decide)
  have := pick_hi ns k (m := 3) (by decide)
  unfold down3
  omega
instance size_sz : SzLe (sizeV ns k) 6 := by
  have h := down3_rng ns k
  have := pick_lo ns (k + 1) (m := 6 * down3 ns k) (by omega)
  have := pick_hi ns (k + 1) (m := 6 * down3 ns k) (by omega)
  refine sz_divInt ?_ ?_ (by decide)
  · show _ < 64
    omega
  · show _ < 64
    omega
theorem divInt_pos {u d : Int} (hu : 0 < u) (hd : 0 < d) : 0 < Rat.divInt u d := by
  rw [Rat.divInt_eq_div, Rat.div_def]
  exact Rat.mul_pos (Rat.intCast_pos.mpr hu) (Rat.inv_pos.mpr (Rat.intCast_pos.mpr hd))
theorem size_pos : 0 < sizeV ns k := by
  have h := down3_rng ns k
  have := pick_lo ns (k + 1) (m := 6 * down3 ns k) (by omega)
  exact divInt_pos (by omega) (by omega)
def kindV : Kd := if pickV ns k 6 = 0 then .even else if pickV ns k 6 = 1 then .in_ else if pickV ns k 6 = 2 then .out else if pickV ns k 6 = 3 then .both else if pickV ns k 6 = 4 then .hold else .jump
theorem kind_ne : ¬ kindV ns k = .kept := by
  unfold kindV
  grind
end
theorem den_nz (p : Rat) : ((p.den : Int) : Rat) ≠ 0 := fun z => den_ne p (Rat.intCast_eq_zero_iff.mp z)
end GW
namespace GW
theorem okI_big {i : Int} (h0 : -1000000000000 < i) (h1 : i < 1000000000000) : okI i = true := by
  unfold okI
  simp
  omega
theorem ok_i {i : Int} (h0 : -1000000000000 < i) (h1 : i < 1000000000000) : (okI i = true) = True := by rw [okI_big h0 h1]; simp
theorem ok_ii {i j : Int} (h0 : -1000000000000 < i) (h1 : i < 1000000000000) (h2 : -1000000000000 < j) (h3 : j < 1000000000000) : ((okI i && okI j) = true) = True := by rw [okI_big h0 h1, okI_big h2 h3]; simp
instance : Dq (.str "no frac") 0 := ⟨by decide +kernel⟩
instance : Dq (.str "no kind") 0 := ⟨by decide +kernel⟩
instance : Dq (.str "no name") 0 := ⟨by decide +kernel⟩
instance : Dq (.str "no plan") 0 := ⟨by decide +kernel⟩
instance : Dq (.str "no text") 0 := ⟨by decide +kernel⟩
instance : Dq (.str "no time") 0 := ⟨by decide +kernel⟩
instance : Dq (.str "no track") 0 := ⟨by decide +kernel⟩
instance : Dq (.str "no back") 0 := ⟨by decide +kernel⟩
theorem turn_turn (k : Kd) : turnK (turnK k) = k := by cases k <;> rfl
theorem sz_eighth {u : Int} (h : u.natAbs < 32) : SzLe (Rat.divInt u 8) 5 := sz_divInt (by show _ < 32; exact h) (by decide) (by decide)
theorem sz_small {u d : Int} (h : u.natAbs < 1024) (h' : d.natAbs < 1024) : SzLe (Rat.divInt u d) 10 := sz_divInt (by show _ < 1024; exact h) (by show _ < 1024; exact h') (by decide)
end GW
end

section
/-! S8: motions, in fractions. -/
namespace GW
abbrev mo (a b t l : Rat) (k : Kd) (u v : Rat) : D := .tup [fr a, fr b, fr t, fr l, .str (kS k), .tup [fr u, fr v]]
def keptWQ (a b l u v p : Rat) : Rat := (a + (b - a) * (3 * (p * p) - 2 * (p * p * p))) + l * (u * (p * p * p - 2 * (p * p) + p) + v * (p * p * p - p * p))
def keptSQ (a b l u v p : Rat) : Rat := (b - a) / l * (6 * (p - p * p)) + (u * (3 * (p * p) - 4 * p + 1) + v * (3 * (p * p) - 2 * p))
section
variable {a b t l u v p x : Rat} {k : Kd} {ia ib it il iu iv ip ix : Nat} [SzLe a ia] [SzLe b ib] [SzLe t it] [SzLe l il] [SzLe u iu] [SzLe v iv] [SzLe p ip] [SzLe x ix]
instance : SzLe (keptWQ a b l u v p) (2 * ia + ib + il + iu + iv + 20 * ip + 40) := by
  unfold keptWQ
  exact szz inferInstance (by omega)
instance : SzLe (keptSQ a b l u v p) (ia + ib + il + iu + iv + 20 * ip + 40) := by
  unfold keptSQ
  exact szz inferInstance (by omega)
end
def worthQ (a b t l : Rat) (k : Kd) (u v x : Rat) : Rat := if k = .kept then keptWQ a b l u v (keptQ ((x - t) / l)) else a + (b - a) * easedQ k ((x - t) / l)
def speedQ (a b t l : Rat) (k : Kd) (u v x : Rat) : Rat := if (x - t) / l < 0 then 0 else if 1 < (x - t) / l then 0 else if k = .kept then keptSQ a b l u v ((x - t) / l) else (b - a) / l * slopeQ k ((x - t) / l)
section
variable {a b t l u v p x : Rat} {k : Kd} {ia ib it il iu iv ip ix : Nat} [SzLe a ia] [SzLe b ib] [SzLe t it] [SzLe l il] [SzLe u iu] [SzLe v iv] [SzLe p ip] [SzLe x ix]
instance : SzLe (worthQ a b t l k u v x) (2 * ia + ib + 21 * il + iu + iv + 20 * it + 20 * ix + 100) := by
  unfold worthQ
  split
  · exact szz inferInstance (by omega)
  · exact szz inferInstance (by omega)
instance : SzLe (speedQ a b t l k u v x) (2 * ia + ib + 22 * il + iu + iv + 20 * it + 20 * ix + 100) := by
  unfold speedQ
  split
  · exact szz (i := 1) inferInstance (by omega)
  · split
    · exact szz (i := 1) inferInstance (by omega)
    · split
      · exact szz inferInstance (by omega)
      · exact szz inferInstance (by omega)
end
/-! ### what they tell -/
section
variable {a b t l u v p x y : Rat} {k : Kd}
end
def minQ (a b : Rat) : Rat := if b < a then b else a
def maxQ (a b : Rat) : Rat := if a < b then b else a
instance {a b : Rat} {i j : Nat} [ha : SzLe a i] [hb : SzLe b j] : SzLe (minQ a b) (i + j) := by
  unfold minQ
  split
  · exact szz hb (by omega)
  · exact szz ha (by omega)
instance {a b : Rat} {i j : Nat} [ha : SzLe a i] [hb : SzLe b j] : SzLe (maxQ a b) (i + j) := by
  unfold maxQ
  split
  · exact szz hb (by omega)
  · exact szz ha (by omega)
/-! ### drawn motions -/
section
variable (ns : List Int) (k : Int)
def mkV : Kd := if pickV ns (k + 1) 4 = 0 then .kept else kindV ns k
def muV : Rat := if pickV ns (k + 1) 4 = 0 then fracV ns (k + 2) else 0
def mvV : Rat := if pickV ns (k + 1) 4 = 0 then fracV ns (k + 4) else 0
instance : SzLe (muV ns k) 6 := by
  unfold muV
  split
  · infer_instance
  · exact szz (i := 1) inferInstance (by omega)
instance : SzLe (mvV ns k) 6 := by
  unfold mvV
  split
  · infer_instance
  · exact szz (i := 1) inferInstance (by omega)
end
end GW
namespace GW
def timeV (ns : List Int) (j : Int) : Rat := Rat.divInt (pickV ns j 17 - 4) 8
instance time_sz (ns : List Int) (j : Int) : SzLe (timeV ns j) 5 := by
  have := pick_lo ns j (m := 17) (by decide)
  have := pick_hi ns j (m := 17) (by decide)
  exact sz_eighth (by omega)
end GW
namespace GW
section
variable {k : D × Bool → Prop} {xs r : List D} {lo hi : Option Int}
theorem sl_t : OV (slv (.tup xs) lo hi) k = k (.tup (cutL xs lo hi), false) := rfl
theorem sl_l : OV (slv (.lst xs) lo hi) k = k (.lst (cutL xs lo hi), true) := rfl
theorem cut_h1 {a0 : D} : cutL (a0 :: r) none (some 1) = [a0] := by
  have e : cutN (a0 :: r).length (a0 :: r).length (some 1) = 1 := by
    unfold cutN
    dsimp only
    rw [if_neg (by decide)]
    simp only [List.length_cons]
    omega
  unfold cutL
  rw [e]
  rfl
theorem cut_l1 {a0 : D} : cutL (a0 :: r) (some 1) none = r := by
  have e : cutN (a0 :: r).length 0 (some 1) = 1 := by
    unfold cutN
    dsimp only
    rw [if_neg (by decide)]
    simp only [List.length_cons]
    omega
  unfold cutL
  rw [e]
  show ((r).take ((a0 :: r).length - 1)) = r
  rw [List.take_of_length_le (by simp only [List.length_cons]; omega)]
theorem cut_h2 {a0 a1 : D} : cutL (a0 :: a1 :: r) none (some 2) = [a0, a1] := by
  have e : cutN (a0 :: a1 :: r).length (a0 :: a1 :: r).length (some 2) = 2 := by
    unfold cutN
    dsimp only
    rw [if_neg (by decide)]
    simp only [List.length_cons]
    omega
  unfold cutL
  rw [e]
  rfl
theorem cut_l2 {a0 a1 : D} : cutL (a0 :: a1 :: r) (some 2) none = r := by
  have e : cutN (a0 :: a1 :: r).length 0 (some 2) = 2 := by
    unfold cutN
    dsimp only
    rw [if_neg (by decide)]
    simp only [List.length_cons]
    omega
  unfold cutL
  rw [e]
  show ((r).take ((a0 :: a1 :: r).length - 2)) = r
  rw [List.take_of_length_le (by simp only [List.length_cons]; omega)]
theorem cut_h3 {a0 a1 a2 : D} : cutL (a0 :: a1 :: a2 :: r) none (some 3) = [a0, a1, a2] := by
  have e : cutN (a0 :: a1 :: a2 :: r).length (a0 :: a1 :: a2 :: r).length (some 3) = 3 := by
    unfold cutN
    dsimp only
    rw [if_neg (by decide)]
    simp only [List.length_cons]
    omega
  unfold cutL
  rw [e]
  rfl
theorem cut_l3 {a0 a1 a2 : D} : cutL (a0 :: a1 :: a2 :: r) (some 3) none = r := by
  have e : cutN (a0 :: a1 :: a2 :: r).length 0 (some 3) = 3 := by
    unfold cutN
    dsimp only
    rw [if_neg (by decide)]
    simp only [List.length_cons]
    omega
  unfold cutL
  rw [e]
  show ((r).take ((a0 :: a1 :: a2 :: r).length - 3)) = r
  rw [List.take_of_length_le (by simp only [List.length_cons]; omega)]
theorem cut_h4 {a0 a1 a2 a3 : D} : cutL (a0 :: a1 :: a2 :: a3 :: r) none (some 4) = [a0, a1, a2, a3] := by
  have e : cutN (a0 :: a1 :: a2 :: a3 :: r).length (a0 :: a1 :: a2 :: a3 :: r).length (some 4) = 4 := by
    unfold cutN
    dsimp only
    rw [if_neg (by decide)]
    simp only [List.length_cons]
    omega
  unfold cutL
  rw [e]
  rfl
theorem cut_l4 {a0 a1 a2 a3 : D} : cutL (a0 :: a1 :: a2 :: a3 :: r) (some 4) none = r := by
  have e : cutN (a0 :: a1 :: a2 :: a3 :: r).length 0 (some 4) = 4 := by
    unfold cutN
    dsimp only
    rw [if_neg (by decide)]
    simp only [List.length_cons]
    omega
  unfold cutL
  rw [e]
  show ((r).take ((a0 :: a1 :: a2 :: a3 :: r).length - 4)) = r
  rw [List.take_of_length_le (by simp only [List.length_cons]; omega)]
theorem cut_h5 {a0 a1 a2 a3 a4 : D} : cutL (a0 :: a1 :: a2 :: a3 :: a4 :: r) none (some 5) = [a0, a1, a2, a3, a4] := by
  have e : cutN (a0 :: a1 :: a2 :: a3 :: a4 :: r).length (a0 :: a1 :: a2 :: a3 :: a4 :: r).length (some 5) = 5 := by
    unfold cutN
    dsimp only
    rw [if_neg (by decide)]
    simp only [List.length_cons]
    omega
  unfold cutL
  rw [e]
  rfl
theorem cut_l5 {a0 a1 a2 a3 a4 : D} : cutL (a0 :: a1 :: a2 :: a3 :: a4 :: r) (some 5) none = r := by
  have e : cutN (a0 :: a1 :: a2 :: a3 :: a4 :: r).length 0 (some 5) = 5 := by
    unfold cutN
    dsimp only
    rw [if_neg (by decide)]
    simp only [List.length_cons]
    omega
  unfold cutL
  rw [e]
  show ((r).take ((a0 :: a1 :: a2 :: a3 :: a4 :: r).length - 5)) = r
  rw [List.take_of_length_le (by simp only [List.length_cons]; omega)]
theorem cut_2_4 {a0 a1 a2 a3 : D} : cutL (a0 :: a1 :: a2 :: a3 :: r) (some 2) (some 4) = [a2, a3] := by
  have e : cutN (a0 :: a1 :: a2 :: a3 :: r).length 0 (some 2) = 2 := by
    unfold cutN
    dsimp only
    rw [if_neg (by decide)]
    simp only [List.length_cons]
    omega
  have e' : cutN (a0 :: a1 :: a2 :: a3 :: r).length (a0 :: a1 :: a2 :: a3 :: r).length (some 4) = 4 := by
    unfold cutN
    dsimp only
    rw [if_neg (by decide)]
    simp only [List.length_cons]
    omega
  unfold cutL
  rw [e, e']
  rfl
theorem r_nn {u : Rat} : (0 : Rat) - (0 - u) = u := by grind
theorem rng1_get {m i : Nat} {d : D} (h : ((List.range m).map fun (n : Nat) => D.int n)[i]? = some d) : i < m ∧ d = .int i := by
  rw [List.getElem?_map] at h
  obtain ⟨x, h1, rfl⟩ := Option.map_eq_some_iff.mp h
  obtain ⟨h2, h3⟩ := List.getElem?_eq_some_iff.mp h1
  rw [List.getElem_range] at h3
  rw [List.length_range] at h2
  subst h3
  exact ⟨h2, rfl⟩
end
end GW
end

section
/-! S9: lengths. -/
namespace GW
theorem ld {n : Nat} (h : n ≤ 1000000) : (n ≤ lineD) = True := by
  unfold lineD
  simp
  omega
theorem ld2 {n : Nat} (h : n ≤ 1000000) : (n < lineD) = True := by
  unfold lineD
  simp
  omega
theorem is_fr {q : Rat} {k : Bool → Prop} : OV (cmpv .is_ (fr q) .non) k = k false := rfl
theorem isn_fr {q : Rat} {k : Bool → Prop} : OV (cmpv .isnot (fr q) .non) k = k true := rfl
section
variable {k : D → Prop} {kb : Bool → Prop} {kp : D × Bool → Prop} {xs : List D} {i : Int}
theorem bo_ix : OV (bov .ix (.lst xs) [.int i]) kp = OV (ixv (.lst xs) (.int i)) fun d => kp (d, false) := by
  show OV ((ixL xs i).map (·, false)) kp = OV (ixL xs i) _
  cases ixL xs i <;> rfl
theorem b_pow6 : OV (binv .pow (.int 10) (.int 6)) kp = kp (.int 1000000, false) := by kernel_rfl
theorem bi_sort {a b : Rat} : OV (biv .sorted [.lst [fr a, fr b]]) kp = kp (.lst (sortB ltD [fr a, fr b]), true) := rfl
theorem p2_fr {q : Rat} : (p2? (fr q)).isSome = true := rfl
theorem sort2 (x y : D) : sortB ltD [x, y] = if ltD y x then [y, x] else [x, y] := rfl
instance {a b : Rat} : Dq (.lst (sortB ltD [fr a, fr b])) 2 := by
  rw [sort2]
  split
  · exact inferInstanceAs (Dq (.lst [fr b, fr a]) 2)
  · exact inferInstanceAs (Dq (.lst [fr a, fr b]) 2)
theorem lit_m12 : D.tup [.int (-1), .int 2] = fr (-1 / 2) := by
  have h1 : (-1 / 2 : Rat).num = -1 := by decide +kernel
  have h2 : (-1 / 2 : Rat).den = 2 := by decide +kernel
  unfold fr
  rw [h1, h2]
  rfl
end
theorem bq_tt : (true == true) = true := rfl
theorem bq_ff : (false == false) = true := rfl
theorem bq_tf : (true == false) = false := rfl
theorem bq_ft : (false == true) = false := rfl
theorem b_mul3 {x : D} {kp : D × Bool → Prop} : OV (binv .mul (.tup [x]) (.int 3)) kp = kp (.tup [x, x, x], false) := by
  have e : binv .mul (.tup [x]) (.int 3) = some (.tup [x, x, x], false) := rfl
  rw [e]
  rfl
end GW
end

section
/-! S10: tracks. -/
namespace GW
structure Mo where
  (a b t l : Rat)
  k : Kd
  (u v : Rat)
abbrev dM (m : Mo) : D := mo m.a m.b m.t m.l m.k m.u m.v
class MoOk (m : Mo) : Prop where
  sa : SzLe m.a 40
  sb : SzLe m.b 40
  st : SzLe m.t 120
  sl : SzLe m.l 40
  su : SzLe m.u 40
  sv : SzLe m.v 40
  hl : 0 < m.l
  hk : m.k = .kept ∨ (m.u = 0 ∧ m.v = 0)
instance {m : Mo} [h : MoOk m] : SzLe m.a 40 := h.sa
instance {m : Mo} [h : MoOk m] : SzLe m.b 40 := h.sb
instance {m : Mo} [h : MoOk m] : SzLe m.t 120 := h.st
instance {m : Mo} [h : MoOk m] : SzLe m.l 40 := h.sl
instance {m : Mo} [h : MoOk m] : SzLe m.u 40 := h.su
instance {m : Mo} [h : MoOk m] : SzLe m.v 40 := h.sv
theorem MoOk.ne {m : Mo} (h : MoOk m) : ¬ m.l = 0 := by have := h.hl; grind
abbrev dT (w : Rat) (ms : List Mo) : D := .tup [fr w, .tup (ms.map dM)]
/-- motions one behind the other, each from where the one ahead ends -/
structure TrOk (ms : List Mo) : Prop where
  all : ∀ m ∈ ms, MoOk m
  ord : ∀ p ∈ ms.zip ms.tail, p.1.t + p.1.l ≤ p.2.t
section
variable {k : D → Prop} {kb : Bool → Prop} {kp : D × Bool → Prop} {xs ys : List D} {x y d : D} {i : Int} {ds : List D}
theorem zip_tail_app {α : Type} : ∀ (l : List α) (x : α), (l ++ [x]).zip (l ++ [x]).tail = l.zip l.tail ++ (match l.getLast? with | some y => [(y, x)] | none => [])
  | [], x => rfl
  | [y], x => rfl
  | y :: z :: l, x => by
    have h := zip_tail_app (z :: l) x
    show (y, z) :: ((z :: l) ++ [x]).zip ((z :: l) ++ [x]).tail = _
    rw [h]
    have e : (y :: z :: l).getLast? = (z :: l).getLast? := by simp
    rw [e]
    rfl
theorem ix_last : OV (ixv (.lst (xs ++ [x])) (.int (-1))) k = k x := by
  show OV (ixL (xs ++ [x]) (-1)) k = _
  unfold ixL ixN
  rw [if_neg (by decide), if_pos (by simp; omega)]
  dsimp only [Option.bind]
  have e : (-1 + ((xs ++ [x]).length : Int)).toNat = xs.length := by simp; omega
  rw [e, List.getElem?_append_right (Nat.le_refl _)]
  simp [OV]
theorem ix_lastt : OV (ixv (.tup (xs ++ [x])) (.int (-1))) k = k x := ix_last
theorem bo_ne : OV (bov .ne d [x]) kp = OV (cmpv .ne d x) fun b => kp (.bl b, false) := by
  show OV ((cmpv .ne d x).map _) kp = _
  cases cmpv .ne d x <;> rfl
theorem bo_eq : OV (bov .eq d [x]) kp = OV (cmpv .eq d x) fun b => kp (.bl b, false) := by
  show OV ((cmpv .eq d x).map _) kp = _
  cases cmpv .eq d x <;> rfl
theorem bo_in : OV (bov .in_ d [x]) kp = OV (cmpv .in_ x d) fun b => kp (.bl b, false) := by
  show OV ((cmpv .in_ x d).map _) kp = _
  cases cmpv .in_ x d <;> rfl
theorem bo_nin : OV (bov .nin d [x]) kp = OV (cmpv .nin x d) fun b => kp (.bl b, false) := by
  show OV ((cmpv .nin x d).map _) kp = _
  cases cmpv .nin x d <;> rfl
theorem bo_len : OV (bov .len d []) kp = OV (biv .len [d]) kp := rfl
theorem deps_app : ∀ (xs ys : List D), D.deps (xs ++ ys) = max (D.deps xs) (D.deps ys)
  | [], ys => by
    have e : D.deps [] = 0 := by unfold D.deps; rfl
    rw [List.nil_append, e]
    omega
  | x :: xs, ys => by
    have e : ∀ zs, D.deps (x :: zs) = max (D.dep x) (D.deps zs) := fun zs => by (conv => lhs; unfold D.deps)
    rw [List.cons_append, e, e, deps_app xs ys]
    omega
instance {xs ys : List D} {i j : Nat} [a : Dqs xs i] [b : Dqs ys j] : Dqs (xs ++ ys) (max i j) := ⟨by rw [deps_app]; have := a.h; have := b.h; omega⟩
theorem eqvs_app_nil : D.eqvs (xs ++ [x]) [] = false := by
  cases xs <;> (simp only [List.nil_append, List.cons_append]; unfold D.eqvs; rfl)
theorem c_neapp {n : Nat} [H : Dqs (xs ++ [x]) n] (h : n ≤ 50) : OV (cmpv .ne (.lst (xs ++ [x])) (.lst [])) kb = kb true := by
  have e := H.h
  have d1 : D.dep (.lst (xs ++ [x])) ≤ 60 := by unfold D.dep; omega
  have d2 : D.dep (.lst []) ≤ 60 := by unfold D.dep D.deps; omega
  show OV (if deep _ _ = true then some (!D.eqv _ _) else _) kb = _
  rw [if_pos (by unfold deep; simp [d1, d2])]
  unfold D.eqv
  rw [eqvs_app_nil]
  rfl
theorem c_neappt {n : Nat} [H : Dqs (xs ++ [x]) n] (h : n ≤ 50) : OV (cmpv .ne (.tup (xs ++ [x])) (.tup [])) kb = kb true := by
  have e := H.h
  have d1 : D.dep (.tup (xs ++ [x])) ≤ 60 := by unfold D.dep; omega
  have d2 : D.dep (.tup []) ≤ 60 := by unfold D.dep D.deps; omega
  show OV (if deep _ _ = true then some (!D.eqv _ _) else _) kb = _
  rw [if_pos (by unfold deep; simp [d1, d2])]
  unfold D.eqv
  rw [eqvs_app_nil]
  rfl
theorem c_eqappt {n : Nat} [H : Dqs (xs ++ [x]) n] (h : n ≤ 50) : OV (cmpv .eq (.tup (xs ++ [x])) (.tup [])) kb = kb false := by
  have e := H.h
  have d1 : D.dep (.tup (xs ++ [x])) ≤ 60 := by unfold D.dep; omega
  have d2 : D.dep (.tup []) ≤ 60 := by unfold D.dep D.deps; omega
  show OV (if deep _ _ = true then some (D.eqv _ _) else _) kb = _
  rw [if_pos (by unfold deep; simp [d1, d2])]
  unfold D.eqv
  rw [eqvs_app_nil]
  rfl
theorem c_eqapp {n : Nat} [H : Dqs (xs ++ [x]) n] (h : n ≤ 50) : OV (cmpv .eq (.lst (xs ++ [x])) (.lst [])) kb = kb false := by
  have e := H.h
  have d1 : D.dep (.lst (xs ++ [x])) ≤ 60 := by unfold D.dep; omega
  have d2 : D.dep (.lst []) ≤ 60 := by unfold D.dep D.deps; omega
  show OV (if deep _ _ = true then some (D.eqv _ _) else _) kb = _
  rw [if_pos (by unfold deep; simp [d1, d2])]
  unfold D.eqv
  rw [eqvs_app_nil]
  rfl
/-! ### all, any, zip -/
theorem boolsv_map {α : Type} {f : α → Bool} : ∀ {l : List α}, boolsv (l.map fun a => D.bl (f a)) = some (l.map f)
  | [] => rfl
  | a :: l => by
    rw [List.map_cons, List.map_cons]
    unfold boolsv
    rw [boolsv_map]
    rfl
theorem bi_all {α : Type} {f : α → Bool} {l : List α} : OV (biv .all [.lst (l.map fun a => D.bl (f a))]) kp = kp (.bl ((l.map f).all id), false) := by
  show OV ((boolsv _).map _) kp = _
  rw [boolsv_map]
  rfl
theorem bi_any {α : Type} {f : α → Bool} {l : List α} : OV (biv .any [.lst (l.map fun a => D.bl (f a))]) kp = kp (.bl ((l.map f).any id), false) := by
  show OV ((boolsv _).map _) kp = _
  rw [boolsv_map]
  rfl
theorem cut_tail {α : Type} {f : α → D} {l : List α} : cutL (l.map f) (some 1) none = l.tail.map f := by
  cases l with
  | nil => rfl
  | cons a l =>
    rw [List.map_cons, cut_l1]
    rfl
theorem zp_t' {kl : List D → Prop} : OV (zipv (.tup xs) (.tup ys)) kl = kl (List.zipWith pairD xs ys) := rfl
theorem zp_l' {kl : List D → Prop} : OV (zipv (.lst xs) (.lst ys)) kl = kl (List.zipWith pairD xs ys) := rfl
end
theorem concat_cases {α : Type} (l : List α) : l = [] ∨ ∃ m x, l = m ++ [x] := by
  rcases List.eq_nil_or_concat l with h | ⟨m, x, h⟩
  · exact .inl h
  · exact .inr ⟨m, x, by simpa using h⟩
end GW
end

section
/-! S11: drawn tracks. -/
namespace GW
section
variable (ns : List Int) (j : Int)
def lastB (w : Rat) (ms : List Mo) : Rat := match ms.getLast? with
  | some p => p.b
  | none => w
def trMo (w : Rat) (st : List Mo × Rat) (i : Nat) : Mo := ⟨lastB w st.1, fracV ns (j + 10 + 20 * i + 8), st.2, sizeV ns (j + 10 + 20 * i + 10), mkV ns (j + 10 + 20 * i), muV ns (j + 10 + 20 * i), mvV ns (j + 10 + 20 * i)⟩
def trStep (w : Rat) (st : List Mo × Rat) (i : Nat) : List Mo × Rat :=
  (st.1 ++ [trMo ns j w st i], if pickV ns (j + 10 + 20 * i + 14) 2 = 0 then st.2 + sizeV ns (j + 10 + 20 * i + 10) + sizeV ns (j + 10 + 20 * i + 15) else st.2 + sizeV ns (j + 10 + 20 * i + 10))
def trFold : Nat → List Mo × Rat
  | 0 => ([], fracV ns (j + 2))
  | i + 1 => trStep ns j (fracV ns j) (trFold i) i
instance trT_sz : ∀ i, SzLe (trFold ns j i).2 (6 + 14 * i)
  | 0 => frac_sz ns (j + 2)
  | i + 1 => by
    have := trT_sz i
    show SzLe (if pickV ns (j + 10 + 20 * i + 14) 2 = 0 then _ else _) _
    split
    · exact szz inferInstance (by omega)
    · exact szz inferInstance (by omega)
theorem lastB_app {w : Rat} {ms : List Mo} {m : Mo} : lastB w (ms ++ [m]) = m.b := by
  unfold lastB
  simp
end
end GW
namespace GW
theorem pair_tup {x y : D} : pairD x y = .tup [x, y] := rfl
theorem al_t {α : Type} {l : List α} : ((l.map fun _ => true).all id) = true := by simp
theorem lit_m99 : D.tup [.int (-99), .int 1] = fr (-99) := rfl
instance : SzLe (-99 : Rat) 8 := ⟨by decide, by decide⟩
instance : Dq (.str "even") 0 := ⟨by decide +kernel⟩
instance : Dq (.str "in") 0 := ⟨by decide +kernel⟩
instance : Dq (.str "out") 0 := ⟨by decide +kernel⟩
instance : Dq (.str "both") 0 := ⟨by decide +kernel⟩
instance : Dq (.str "hold") 0 := ⟨by decide +kernel⟩
instance : Dq (.str "jump") 0 := ⟨by decide +kernel⟩
instance : Dq (.str "kept") 0 := ⟨by decide +kernel⟩
instance : Dq (.str "slow") 0 := ⟨by decide +kernel⟩
end GW
end

section
/-! S12: plans. -/
namespace GW
inductive Pn where
  | wait (s : Rat)
  | go (by_ : Bool) (w s : Rat) (k : Kd)
  | thn (p q : Pn)
  | again (m : Nat) (p : Pn)
def dP : Pn → D
  | .wait s => .tup [.str "wait", fr s]
  | .go false w s k => .tup [.str "go", fr w, fr s, .str (kS k)]
  | .go true w s k => .tup [.str "by", fr w, fr s, .str (kS k)]
  | .thn p q => .tup [.str "then", dP p, dP q]
  | .again m p => .tup [.str "again", .int m, dP p]
def stepsP : Pn → List Pn
  | .thn p q => stepsP p ++ stepsP q
  | .again m p => (List.replicate m (stepsP p)).flatten
  | p => [p]
def sizeP : Pn → Rat
  | .wait s => s
  | .go _ _ s _ => s
  | .thn p q => sizeP p + sizeP q
  | .again m p => ((m : Int) : Rat) * sizeP p
/-- a plan, so deep at most -/
def PnZ (z : Nat) : Nat → Pn → Prop
  | 0, _ => False
  | _ + 1, .wait s => 0 < s ∧ SzLe s z
  | _ + 1, .go _ w s k => SzLe w 6 ∧ 0 < s ∧ SzLe s z ∧ ¬ k = .kept
  | d + 1, .thn p q => PnZ z d p ∧ PnZ z d q
  | d + 1, .again m p => m ≤ 4 ∧ PnZ z d p
/-- of steps of at most 6 bits -/
abbrev PnOk : Nat → Pn → Prop := PnZ 6
def szP (z : Nat) : Nat → Nat
  | 0 => z + 6
  | d + 1 => 2 * szP z d + 4
theorem szP_lo {z : Nat} : ∀ d, z + 6 ≤ szP z d
  | 0 => Nat.le_refl _
  | d + 1 => by
    have := szP_lo (z := z) d
    show z + 6 ≤ 2 * szP z d + 4
    omega
instance {m : Nat} : SzLe ((m : Int) : Rat) (m + 1) := by
  constructor
  · show (m : Int).natAbs < 2 ^ (m + 1)
    have : m < 2 ^ m := Nat.lt_two_pow_self
    have e : 2 ^ (m + 1) = 2 ^ m * 2 := Nat.pow_succ 2 m
    omega
  · show 1 < 2 ^ (m + 1)
    exact Nat.one_lt_two_pow (by omega)
theorem sizeP_sz {z : Nat} : ∀ {d : Nat} {p : Pn}, PnZ z d p → SzLe (sizeP p) (szP z d)
  | 0, _, h => h.elim
  | d + 1, .wait s, h => szz h.2 (by show z ≤ 2 * szP z d + 4; have := szP_lo (z := z) d; omega)
  | d + 1, .go _ w s k, h => szz h.2.2.1 (by show z ≤ 2 * szP z d + 4; have := szP_lo (z := z) d; omega)
  | d + 1, .thn p q, h => by
    have h1 := sizeP_sz h.1
    have h2 := sizeP_sz h.2
    show SzLe (sizeP p + sizeP q) (2 * szP z d + 4)
    exact szz inferInstance (by omega)
  | d + 1, .again m p, h => by
    have h2 := sizeP_sz h.2
    have h1 := h.1
    have := szP_lo (z := z) d
    show SzLe (((m : Int) : Rat) * sizeP p) (2 * szP z d + 4)
    exact szz inferInstance (by omega)
theorem steps_len {z : Nat} : ∀ {d : Nat} {p : Pn}, PnZ z d p → (stepsP p).length ≤ 4 ^ d
  | 0, _, h => h.elim
  | d + 1, .wait s, h => Nat.one_le_pow _ _ (by decide)
  | d + 1, .go _ w s k, h => Nat.one_le_pow _ _ (by decide)
  | d + 1, .thn p q, h => by
    have h1 := steps_len h.1
    have h2 := steps_len h.2
    show (stepsP p ++ stepsP q).length ≤ _
    rw [List.length_append, Nat.pow_succ]
    omega
  | d + 1, .again m p, h => by
    have h1 := steps_len h.2
    have h2 := h.1
    show ((List.replicate m (stepsP p)).flatten).length ≤ _
    rw [List.length_flatten, List.map_replicate, List.sum_replicate_nat, Nat.pow_succ]
    have := Nat.mul_le_mul h2 h1
    omega
/-- a single step -/
def IsStep : Pn → Prop
  | .wait _ => True
  | .go _ _ _ _ => True
  | _ => False
theorem steps_ok {z : Nat} : ∀ {d : Nat} {p : Pn}, PnZ z d p → ∀ q ∈ stepsP p, IsStep q ∧ PnZ z 1 q
  | 0, _, h => h.elim
  | d + 1, .wait s, h => fun q hq => by
    have e := List.mem_singleton.mp hq
    subst e
    exact ⟨trivial, h⟩
  | d + 1, .go _ w s k, h => fun q hq => by
    have e := List.mem_singleton.mp hq
    subst e
    exact ⟨trivial, h⟩
  | d + 1, .thn p q, h => fun x hx => by
    rcases List.mem_append.mp hx with hx | hx
    · exact steps_ok h.1 x hx
    · exact steps_ok h.2 x hx
  | d + 1, .again m p, h => fun x hx => by
    have hx : x ∈ (List.replicate m (stepsP p)).flatten := hx
    obtain ⟨l, h1, h2⟩ := List.mem_flatten.mp hx
    have e := List.eq_of_mem_replicate h1
    subst e
    exact steps_ok h.2 x h2
def sumQ : List Rat → Rat
  | [] => 0
  | x :: l => x + sumQ l
theorem sumQ_app : ∀ (l m : List Rat), sumQ (l ++ m) = sumQ l + sumQ m
  | [], m => by
    show sumQ m = 0 + sumQ m
    grind
  | x :: l, m => by
    show x + sumQ (l ++ m) = x + sumQ l + sumQ m
    rw [sumQ_app l m]
    grind
theorem sumQ_rep (l : List Rat) : ∀ m : Nat, sumQ ((List.replicate m l).flatten) = ((m : Int) : Rat) * sumQ l
  | 0 => by
    show (0 : Rat) = ((0 : Int) : Rat) * sumQ l
    rw [show ((0 : Int) : Rat) = 0 from rfl]
    grind
  | m + 1 => by
    rw [List.replicate_succ, List.flatten_cons, sumQ_app, sumQ_rep l m]
    have e : (((m + 1 : Nat) : Int) : Rat) = ((m : Int) : Rat) + 1 := by
      rw [show ((m + 1 : Nat) : Int) = (m : Int) + 1 from rfl, Rat.intCast_add]
      rfl
    rw [e]
    grind
theorem size_sum : ∀ p : Pn, sizeP p = sumQ ((stepsP p).map sizeP)
  | .wait s => by
    show s = s + 0
    grind
  | .go _ w s k => by
    show s = s + 0
    grind
  | .thn p q => by
    show sizeP p + sizeP q = sumQ ((stepsP p ++ stepsP q).map sizeP)
    rw [List.map_append, sumQ_app, ← size_sum p, ← size_sum q]
  | .again m p => by
    show ((m : Int) : Rat) * sizeP p = sumQ (((List.replicate m (stepsP p)).flatten).map sizeP)
    rw [List.map_flatten, List.map_replicate, sumQ_rep, ← size_sum p]
/-! ### what is drawn -/
section
variable (ns : List Int)
def leafV (j : Int) : Pn := if pickV ns (j + 1) 5 = 0 then .wait (sizeV ns (j + 2)) else .go (!decide (pickV ns (j + 1) 5 < 3)) (fracV ns (j + 4)) (sizeV ns (j + 6)) (kindV ns (j + 8))
def planV : Nat → Int → Pn
  | 0, j => leafV ns j
  | d + 1, j => if pickV ns j 8 < 3 then leafV ns j else if pickV ns j 8 < 6 then .thn (planV d (3 * j + 11)) (planV d (3 * j + 37)) else .again (pickV ns (j + 9) 4).toNat (planV d (3 * j + 23))
theorem leaf_ok (j : Int) (d : Nat) : PnOk (d + 1) (leafV ns j) := by
  unfold leafV
  split
  · exact ⟨size_pos ns _, inferInstance⟩
  · exact ⟨inferInstance, size_pos ns _, inferInstance, kind_ne ns _⟩
theorem plan_ok : ∀ (d : Nat) (j : Int), PnOk (d + 1) (planV ns d j)
  | 0, j => leaf_ok ns j 0
  | d + 1, j => by
    unfold planV
    split
    · exact leaf_ok ns j _
    · split
      · exact ⟨plan_ok d _, plan_ok d _⟩
      · have := pick_lo ns (j + 9) (m := 4) (by decide)
        have := pick_hi ns (j + 9) (m := 4) (by decide)
        exact ⟨by omega, plan_ok d _⟩
end
section
variable {kb : Bool → Prop} {x : D} {xs : List D}
instance : Dq (.str "wait") 0 := ⟨by decide +kernel⟩
instance : Dq (.str "go") 0 := ⟨by decide +kernel⟩
instance : Dq (.str "by") 0 := ⟨by decide +kernel⟩
instance : Dq (.str "then") 0 := ⟨by decide +kernel⟩
instance : Dq (.str "again") 0 := ⟨by decide +kernel⟩
theorem dq_of {d : D} {n : Nat} [h : Dq d n] : D.dep d ≤ n := h.h
theorem dP_dep {z : Nat} : ∀ {d : Nat} {p : Pn}, PnZ z d p → D.dep (dP p) ≤ d + 1
  | 0, _, h => h.elim
  | d + 1, .wait s, _ => by
    have := dq_of (d := .tup [.str "wait", fr s])
    show D.dep (.tup [.str "wait", fr s]) ≤ _
    omega
  | d + 1, .go b w s k, _ => by
    cases b
    · have := dq_of (d := .tup [.str "go", fr w, fr s, .str (kS k)])
      show D.dep (.tup [.str "go", fr w, fr s, .str (kS k)]) ≤ _
      omega
    · have := dq_of (d := .tup [.str "by", fr w, fr s, .str (kS k)])
      show D.dep (.tup [.str "by", fr w, fr s, .str (kS k)]) ≤ _
      omega
  | d + 1, .thn p q, h => by
    have h1 : Dq (dP p) (d + 1) := ⟨dP_dep h.1⟩
    have h2 : Dq (dP q) (d + 1) := ⟨dP_dep h.2⟩
    have := dq_of (d := .tup [.str "then", dP p, dP q])
    show D.dep (.tup [.str "then", dP p, dP q]) ≤ _
    omega
  | d + 1, .again m p, h => by
    have h1 : Dq (dP p) (d + 1) := ⟨dP_dep h.2⟩
    have := dq_of (d := .tup [.str "again", .int m, dP p])
    show D.dep (.tup [.str "again", .int m, dP p]) ≤ _
    omega
theorem c_eqnilt {n : Nat} [H : Dqs (x :: xs) n] (h : n ≤ 50) : OV (cmpv .eq (.tup (x :: xs)) (.tup [])) kb = kb false := by
  have e := H.h
  have d1 : D.dep (.tup (x :: xs)) ≤ 60 := by unfold D.dep; omega
  have d2 : D.dep (.tup []) ≤ 60 := by unfold D.dep D.deps; omega
  show OV (if deep _ _ = true then some (D.eqv _ _) else _) kb = _
  rw [if_pos (by unfold deep; simp [d1, d2])]
  unfold D.eqv D.eqvs
  rfl
theorem b_mull {kp : D × Bool → Prop} {j : Int} : OV (binv .mul (.lst xs) (.int j)) kp = ((okI j && decide (xs.length * j.toNat ≤ lineD)) = true ∧ kp (.lst ((List.replicate j.toNat xs).flatten), true)) := ov_if
theorem tq_wait_wait : OV (cmpv .eq (.str "wait") (.str "wait")) kb = kb true := by kernel_rfl
theorem tq_wait_go : OV (cmpv .eq (.str "wait") (.str "go")) kb = kb false := by kernel_rfl
theorem tq_wait_by : OV (cmpv .eq (.str "wait") (.str "by")) kb = kb false := by kernel_rfl
theorem tq_wait_then : OV (cmpv .eq (.str "wait") (.str "then")) kb = kb false := by kernel_rfl
theorem tq_wait_again : OV (cmpv .eq (.str "wait") (.str "again")) kb = kb false := by kernel_rfl
theorem tn_wait : OV (cmpv .ne (.str "wait") (.str "again")) kb = kb true := by kernel_rfl
theorem tw_wait : OV (cmpv .ne (.str "wait") (.str "wait")) kb = kb false := by kernel_rfl
theorem ti_wait : OV (cmpv .in_ (.str "wait") (.tup [.str "go", .str "by"])) kb = kb false := by kernel_rfl
theorem tq_go_wait : OV (cmpv .eq (.str "go") (.str "wait")) kb = kb false := by kernel_rfl
theorem tq_go_go : OV (cmpv .eq (.str "go") (.str "go")) kb = kb true := by kernel_rfl
theorem tq_go_by : OV (cmpv .eq (.str "go") (.str "by")) kb = kb false := by kernel_rfl
theorem tq_go_then : OV (cmpv .eq (.str "go") (.str "then")) kb = kb false := by kernel_rfl
theorem tq_go_again : OV (cmpv .eq (.str "go") (.str "again")) kb = kb false := by kernel_rfl
theorem tn_go : OV (cmpv .ne (.str "go") (.str "again")) kb = kb true := by kernel_rfl
theorem tw_go : OV (cmpv .ne (.str "go") (.str "wait")) kb = kb true := by kernel_rfl
theorem ti_go : OV (cmpv .in_ (.str "go") (.tup [.str "go", .str "by"])) kb = kb true := by kernel_rfl
theorem tq_by_wait : OV (cmpv .eq (.str "by") (.str "wait")) kb = kb false := by kernel_rfl
theorem tq_by_go : OV (cmpv .eq (.str "by") (.str "go")) kb = kb false := by kernel_rfl
theorem tq_by_by : OV (cmpv .eq (.str "by") (.str "by")) kb = kb true := by kernel_rfl
theorem tq_by_then : OV (cmpv .eq (.str "by") (.str "then")) kb = kb false := by kernel_rfl
theorem tq_by_again : OV (cmpv .eq (.str "by") (.str "again")) kb = kb false := by kernel_rfl
theorem tn_by : OV (cmpv .ne (.str "by") (.str "again")) kb = kb true := by kernel_rfl
theorem tw_by : OV (cmpv .ne (.str "by") (.str "wait")) kb = kb true := by kernel_rfl
theorem ti_by : OV (cmpv .in_ (.str "by") (.tup [.str "go", .str "by"])) kb = kb true := by kernel_rfl
theorem tq_then_wait : OV (cmpv .eq (.str "then") (.str "wait")) kb = kb false := by kernel_rfl
theorem tq_then_go : OV (cmpv .eq (.str "then") (.str "go")) kb = kb false := by kernel_rfl
theorem tq_then_by : OV (cmpv .eq (.str "then") (.str "by")) kb = kb false := by kernel_rfl
theorem tq_then_then : OV (cmpv .eq (.str "then") (.str "then")) kb = kb true := by kernel_rfl
theorem tq_then_again : OV (cmpv .eq (.str "then") (.str "again")) kb = kb false := by kernel_rfl
theorem tn_then : OV (cmpv .ne (.str "then") (.str "again")) kb = kb true := by kernel_rfl
theorem tw_then : OV (cmpv .ne (.str "then") (.str "wait")) kb = kb true := by kernel_rfl
theorem ti_then : OV (cmpv .in_ (.str "then") (.tup [.str "go", .str "by"])) kb = kb false := by kernel_rfl
theorem tq_again_wait : OV (cmpv .eq (.str "again") (.str "wait")) kb = kb false := by kernel_rfl
theorem tq_again_go : OV (cmpv .eq (.str "again") (.str "go")) kb = kb false := by kernel_rfl
theorem tq_again_by : OV (cmpv .eq (.str "again") (.str "by")) kb = kb false := by kernel_rfl
theorem tq_again_then : OV (cmpv .eq (.str "again") (.str "then")) kb = kb false := by kernel_rfl
theorem tq_again_again : OV (cmpv .eq (.str "again") (.str "again")) kb = kb true := by kernel_rfl
theorem tn_again : OV (cmpv .ne (.str "again") (.str "again")) kb = kb false := by kernel_rfl
theorem tw_again : OV (cmpv .ne (.str "again") (.str "wait")) kb = kb true := by kernel_rfl
theorem ti_again : OV (cmpv .in_ (.str "again") (.tup [.str "go", .str "by"])) kb = kb false := by kernel_rfl
end
end GW
namespace GW
theorem fr_intN {m : Nat} : D.tup [.int (m : Int), .int 1] = fr ((m : Int) : Rat) := rfl
theorem pow4 {d : Nat} (h : d ≤ 8) : 4 ^ d ≤ 65536 := Nat.le_trans (Nat.pow_le_pow_right (by decide) h) (by decide : 4 ^ 8 ≤ 65536)
theorem b_pow4 {kp : D × Bool → Prop} : OV (binv .pow (.int 10) (.int 4)) kp = kp (.int 10000, false) := by kernel_rfl
theorem it_scr {ns : List Int} {k : List D → Prop} : OV (itemsv (scr ns)) k = k (ns.map D.int) := rfl
end GW
end

section
/-! S13: plans played. -/
namespace GW
class MoBig (m : Mo) : Prop where
  sa : SzLe m.a 2000
  sb : SzLe m.b 2000
  st : SzLe m.t 2000
  sl : SzLe m.l 40
  su : SzLe m.u 40
  sv : SzLe m.v 40
  hl : 0 < m.l
  hk : m.k = .kept ∨ (m.u = 0 ∧ m.v = 0)
structure St where
  made : List Mo
  here : Rat
  time : Rat
def stStep (st : St) : Pn → St
  | .wait s => ⟨st.made, st.here, st.time + s⟩
  | .go false w s k => ⟨st.made ++ [⟨st.here, w, st.time, s, k, 0, 0⟩], w, st.time + s⟩
  | .go true w s k => ⟨st.made ++ [⟨st.here, st.here + w, st.time, s, k, 0, 0⟩], st.here + w, st.time + s⟩
  | _ => st
def stF (w b : Rat) (l : List Pn) : St := l.foldl stStep ⟨[], w, b⟩
theorem stF_take {w b : Rat} {l : List Pn} {i : Nat} {q : Pn} (h : l[i]? = some q) : stF w b (l.take (i + 1)) = stStep (stF w b (l.take i)) q := by
  unfold stF
  rw [List.take_add_one, h, List.foldl_append]
  rfl
/-- what holds on the way -/
structure StOk (z iw ib : Nat) (w : Rat) (n : Nat) (st : St) : Prop where
  sh : SzLe st.here (iw + 7 * n)
  sm : SzLe st.time (ib + (z + 1) * n)
  tm : ∀ m ∈ st.made, m.t + m.l ≤ st.time
  mo : iw + 7 * n ≤ 2000 → ib + (z + 1) * n ≤ 2000 → ∀ m ∈ st.made, MoBig m
  ord : ∀ p ∈ st.made.zip st.made.tail, p.1.t + p.1.l ≤ p.2.t
  last : lastB w st.made = st.here
  len : st.made.length ≤ n
theorem stOk_step {z iw ib : Nat} {w : Rat} {n : Nat} {st : St} {q : Pn} (hz : z ≤ 40) (hi : 6 ≤ iw) (h : StOk z iw ib w n st) (h1 : IsStep q) (h2 : PnZ z 1 q) : StOk z iw ib w (n + 1) (stStep st q) := by
  have en : (z + 1) * (n + 1) = (z + 1) * n + (z + 1) := Nat.mul_succ ..
  have one : ∀ (g : Rat) (s : Rat) (k : Kd), SzLe g (iw + 7 * (n + 1)) → 0 < s → SzLe s z → StOk z iw ib w (n + 1) ⟨st.made ++ [⟨st.here, g, st.time, s, k, 0, 0⟩], g, st.time + s⟩ := by
    intro g s k hg hs ss
    have sh := h.sh
    have st' := h.sm
    refine ⟨hg, szz (i := ib + (z + 1) * n + z + 1) (show SzLe (st.time + s) (ib + (z + 1) * n + z + 1) from inferInstance) (by omega), fun m hm => ?_, fun hn hn' m hm => ?_, fun p hp => ?_, lastB_app, by simp; exact h.len⟩
    · rcases List.mem_append.mp hm with hm | hm
      · have := h.tm m hm
        show m.t + m.l ≤ st.time + s
        grind
      · rw [List.mem_singleton.mp hm]
        exact Rat.le_refl
    · rcases List.mem_append.mp hm with hm | hm
      · exact h.mo (by omega) (by omega) m hm
      · rw [List.mem_singleton.mp hm]
        exact ⟨szz sh (by omega), szz hg (by omega), szz st' (by omega), szz ss (by omega), szz (i := 1) (show SzLe (0 : Rat) 1 from inferInstance) (by decide), szz (i := 1) (show SzLe (0 : Rat) 1 from inferInstance) (by decide), hs, .inr ⟨rfl, rfl⟩⟩
    · rw [zip_tail_app] at hp
      rcases List.mem_append.mp hp with hp | hp
      · exact h.ord p hp
      · rcases concat_cases st.made with e | ⟨l, x, e⟩
        · rw [e] at hp
          simp at hp
        · rw [e] at hp
          simp at hp
          subst hp
          exact h.tm x (by rw [e]; simp)
  cases q with
  | wait s =>
    have sh := h.sh
    have st' := h.sm
    have ss := h2.2
    have hs := h2.1
    refine ⟨szz sh (by omega), szz (i := ib + (z + 1) * n + z + 1) (show SzLe (st.time + s) (ib + (z + 1) * n + z + 1) from inferInstance) (by omega), fun m hm => ?_, fun hn hn' => h.mo (by omega) (by omega), h.ord, h.last, Nat.le_succ_of_le h.len⟩
    have := h.tm m hm
    show m.t + m.l ≤ st.time + s
    grind
  | go by_ w' s k =>
    have sw := h2.1
    cases by_
    · exact one w' s k (szz sw (by omega)) h2.2.1 h2.2.2.1
    · have sh := h.sh
      exact one (st.here + w') s k (szz (i := iw + 7 * n + 6 + 1) (show SzLe (st.here + w') (iw + 7 * n + 6 + 1) from inferInstance) (by omega)) h2.2.1 h2.2.2.1
  | thn _ _ => exact h1.elim
  | again _ _ => exact h1.elim
theorem stOk_at {z iw ib : Nat} {w b : Rat} {l : List Pn} (hz : z ≤ 40) (hi6 : 6 ≤ iw) (hw : SzLe w iw) (hb : SzLe b ib) (h : ∀ q ∈ l, IsStep q ∧ PnZ z 1 q) : ∀ i, i ≤ l.length → StOk z iw ib w i (stF w b (l.take i))
  | 0, _ => ⟨hw, hb, fun m h => absurd h (by show m ∉ []; simp), fun _ _ m h => absurd h (by show m ∉ []; simp), fun p h => absurd h (by show p ∉ []; simp), rfl, Nat.le_refl _⟩
  | i + 1, hi => by
    have hx : l[i]? = some l[i] := List.getElem?_eq_getElem (by omega)
    rw [stF_take hx]
    obtain ⟨h1, h2⟩ := h l[i] (List.getElem_mem _)
    exact stOk_step hz hi6 (stOk_at hz hi6 hw hb h i (by omega)) h1 h2
theorem stOk_all {z iw ib : Nat} {w b : Rat} {l : List Pn} (hz : z ≤ 40) (hi6 : 6 ≤ iw) (hw : SzLe w iw) (hb : SzLe b ib) (h : ∀ q ∈ l, IsStep q ∧ PnZ z 1 q) : StOk z iw ib w l.length (stF w b l) := by
  have := stOk_at hz hi6 hw hb h l.length (Nat.le_refl _)
  rwa [List.take_length] at this
theorem stF_time {w b : Rat} (l : List Pn) : (∀ q ∈ l, IsStep q) → (stF w b l).time = b + sumQ (l.map sizeP) := by
  have key : ∀ (l : List Pn) (st : St), (∀ q ∈ l, IsStep q) → (l.foldl stStep st).time = st.time + sumQ (l.map sizeP) := by
    intro l
    induction l with
    | nil =>
      intro st _
      show st.time = st.time + 0
      grind
    | cons q l ih =>
      intro st h
      show (l.foldl stStep (stStep st q)).time = st.time + (sizeP q + sumQ (l.map sizeP))
      rw [ih _ fun x hx => h x (List.mem_cons_of_mem _ hx)]
      have hq := h q List.mem_cons_self
      cases q with
      | wait s =>
        show st.time + s + _ = st.time + (s + _)
        grind
      | go b w s k =>
        cases b
        · show st.time + s + _ = st.time + (s + _)
          grind
        · show st.time + s + _ = st.time + (s + _)
          grind
      | thn _ _ => exact hq.elim
      | again _ _ => exact hq.elim
  exact key l _
theorem b_pow5 {kp : D × Bool → Prop} : OV (binv .pow (.int 10) (.int 5)) kp = kp (.int 100000, false) := by kernel_rfl
end GW
end

section
/-! S14: what tracks tell. -/
namespace GW
class MoS (m : Mo) : Prop where
  sa : SzLe m.a 20
  sb : SzLe m.b 20
  st : SzLe m.t 60
  sl : SzLe m.l 12
  su : SzLe m.u 12
  sv : SzLe m.v 12
  hl : 0 < m.l
  hk : m.k = .kept ∨ (m.u = 0 ∧ m.v = 0)
theorem MoS.ok {m : Mo} (h : MoS m) : MoOk m := ⟨szz h.sa (by decide), szz h.sb (by decide), szz h.st (by decide), szz h.sl (by decide), szz h.su (by decide), szz h.sv (by decide), h.hl, h.hk⟩
def begunL (ms : List Mo) (x : Rat) : List Mo := ms.filter fun m => !decide (x < m.t)
def worthM (m : Mo) (x : Rat) : Rat := worthQ m.a m.b m.t m.l m.k m.u m.v x
def speedM (m : Mo) (x : Rat) : Rat := speedQ m.a m.b m.t m.l m.k m.u m.v x
def worthOf (w : Rat) (ms : List Mo) (x : Rat) : Rat := match (begunL ms x).getLast? with
  | none => w
  | some m => worthM m x
theorem last_mem {α : Type} {l : List α} {m : α} (h : l.getLast? = some m) : m ∈ l := List.mem_of_getLast? h
/-! ### the same at other times -/
structure Shift (f : Mo → Mo) (g h : Rat → Rat) (ms : List Mo) : Prop where
  t : ∀ m, (f m).t = g m.t
  e : ∀ m, (f m).t + (f m).l = g (m.t + m.l)
  k : ∀ m, (f m).k = m.k
  a : ∀ m, (f m).a = m.a
  b : ∀ m, (f m).b = m.b
  lt : ∀ x y, g x < g y ↔ x < y
  inj : ∀ x y, g x = g y ↔ x = y
  w : ∀ m ∈ ms, ∀ x, worthM (f m) (g x) = worthM m x
  s : ∀ m ∈ ms, ∀ x, speedM (f m) (g x) = h (speedM m x)
  h0 : h 0 = 0
section
variable {f : Mo → Mo} {g h : Rat → Rat} {ms : List Mo} {w x : Rat}
end
def slMo (c : Rat) (m : Mo) : Mo := ⟨m.a, m.b, m.t * c, m.l * c, m.k, m.u / c, m.v / c⟩
section
variable {kb : Bool → Prop}
end
structure MoT (m : Mo) : Prop where
  sa : SzLe m.a 6
  sb : SzLe m.b 6
  st : SzLe m.t 48
  sl : SzLe m.l 6
  su : SzLe m.u 6
  sv : SzLe m.v 6
  hl : 0 < m.l
  hk : m.k = .kept ∨ (m.u = 0 ∧ m.v = 0)
theorem MoT.s {m : Mo} (h : MoT m) : MoS m := ⟨szz h.sa (by decide), szz h.sb (by decide), szz h.st (by decide), szz h.sl (by decide), szz h.su (by decide), szz h.sv (by decide), h.hl, h.hk⟩
theorem MoT.slow {m : Mo} {c : Rat} [hy : SzLe c 6] (hc : 0 < c) (h : MoT m) : MoS (slMo c m) := by
  have := h.st
  have := h.sl
  have := h.su
  have := h.sv
  refine ⟨szz h.sa (by decide), szz h.sb (by decide), szz (i := 48 + 6) (show SzLe (m.t * c) (48 + 6) from inferInstance) (by decide), szz (i := 6 + 6) (show SzLe (m.l * c) (6 + 6) from inferInstance) (by decide), szz (i := 6 + 6) (show SzLe (m.u / c) (6 + 6) from inferInstance) (by decide), szz (i := 6 + 6) (show SzLe (m.v / c) (6 + 6) from inferInstance) (by decide), Rat.mul_pos h.hl hc, ?_⟩
  rcases h.hk with z | ⟨z1, z2⟩
  · exact .inl z
  · refine .inr ⟨?_, ?_⟩
    · show m.u / c = 0
      rw [z1]
      grind
    · show m.v / c = 0
      rw [z2]
      grind
end GW
end

section
/-! S15: least pairs. -/
namespace GW
open PyProof.Rows PySem.W
end GW
end

section
/-! S16: plans slowed; fractions on a grid. -/
namespace GW
def slP (c : Rat) : Pn → Pn
  | .wait s => .wait (s * c)
  | .go b w s k => .go b w (s * c) k
  | .thn p q => .thn (slP c p) (slP c q)
  | .again m p => .again m (slP c p)
theorem slP_size {c : Rat} : ∀ p : Pn, sizeP (slP c p) = sizeP p * c
  | .wait s => rfl
  | .go _ _ _ _ => rfl
  | .thn p q => by
    show sizeP (slP c p) + sizeP (slP c q) = (sizeP p + sizeP q) * c
    rw [slP_size p, slP_size q]
    grind
  | .again m p => by
    show ((m : Int) : Rat) * sizeP (slP c p) = ((m : Int) : Rat) * sizeP p * c
    rw [slP_size p]
    grind
theorem slP_steps {c : Rat} : ∀ p : Pn, stepsP (slP c p) = (stepsP p).map (slP c)
  | .wait s => rfl
  | .go _ _ _ _ => rfl
  | .thn p q => by
    show stepsP (slP c p) ++ stepsP (slP c q) = (stepsP p ++ stepsP q).map (slP c)
    rw [slP_steps p, slP_steps q, List.map_append]
  | .again m p => by
    show (List.replicate m (stepsP (slP c p))).flatten = ((List.replicate m (stepsP p)).flatten).map (slP c)
    rw [slP_steps p, List.map_flatten, List.map_replicate]
theorem slP_ok {c : Rat} {z ic : Nat} [SzLe c ic] (hc : 0 < c) : ∀ {d : Nat} {p : Pn}, PnZ z d p → PnZ (z + ic) d (slP c p)
  | 0, _, h => h.elim
  | d + 1, .wait s, h => by
    have := h.2
    exact ⟨Rat.mul_pos h.1 hc, show SzLe (s * c) (z + ic) from inferInstance⟩
  | d + 1, .go _ w s k, h => by
    have := h.2.2.1
    exact ⟨h.1, Rat.mul_pos h.2.1 hc, show SzLe (s * c) (z + ic) from inferInstance, h.2.2.2⟩
  | d + 1, .thn p q, h => ⟨slP_ok hc h.1, slP_ok hc h.2⟩
  | d + 1, .again m p, h => ⟨h.1, slP_ok hc h.2⟩
/-! ### on a grid -/
/-- a part of N, at most M of them -/
def Gr (N M : Nat) (x : Rat) : Prop := ∃ i : Int, x = Rat.divInt i N ∧ i.natAbs ≤ M
theorem Gr.sz {N M b : Nat} {x : Rat} (h : Gr N M x) (h1 : N < 2 ^ b) (h2 : M < 2 ^ b) (h0 : 0 < b) : SzLe x b := by
  obtain ⟨i, rfl, hi⟩ := h
  exact sz_divInt (by omega) (by omega) h0
theorem Gr.add {N M M' : Nat} {x y : Rat} (hN : N ≠ 0) (h : Gr N M x) (h' : Gr N M' y) : Gr N (M + M') (x + y) := by
  obtain ⟨i, rfl, hi⟩ := h
  obtain ⟨j, rfl, hj⟩ := h'
  have h0 : ((N : Int) : Rat) ≠ 0 := fun z => hN (by have := Rat.intCast_eq_zero_iff.mp z; omega)
  refine ⟨i + j, ?_, by omega⟩
  rw [Rat.divInt_eq_div, Rat.divInt_eq_div, Rat.divInt_eq_div, Rat.intCast_add]
  grind
theorem Gr.up {N M M' : Nat} {x : Rat} (h : Gr N M x) (hM : M ≤ M') : Gr N M' x := by
  obtain ⟨i, e, hi⟩ := h
  exact ⟨i, e, by omega⟩
theorem Gr.mul {N M N' M' : Nat} {x y : Rat} (hN : N ≠ 0) (hN' : N' ≠ 0) (h : Gr N M x) (h' : Gr N' M' y) : Gr (N * N') (M * M') (x * y) := by
  obtain ⟨i, rfl, hi⟩ := h
  obtain ⟨j, rfl, hj⟩ := h'
  have h0 : ((N : Int) : Rat) ≠ 0 := fun z => hN (by have := Rat.intCast_eq_zero_iff.mp z; omega)
  have h1 : ((N' : Int) : Rat) ≠ 0 := fun z => hN' (by have := Rat.intCast_eq_zero_iff.mp z; omega)
  refine ⟨i * j, ?_, by rw [Int.natAbs_mul]; exact Nat.mul_le_mul hi hj⟩
  rw [Rat.divInt_eq_div, Rat.divInt_eq_div, Rat.divInt_eq_div, Rat.intCast_mul, Int.natCast_mul, Rat.intCast_mul]
  grind
theorem Gr.of_div {N M : Nat} {u d : Int} (c : Int) (hc : c ≠ 0) (e : d * c = N) (h : (u * c).natAbs ≤ M) : Gr N M (Rat.divInt u d) :=
  ⟨u * c, by rw [← e, Rat.divInt_mul_right hc], h⟩
theorem frac_gr (ns : List Int) (k : Int) : Gr 12 72 (fracV ns k) := by
  have h := down_rng ns k
  have p0 := pick_lo ns (k + 1) (m := 12 * downV ns k + 1) (by omega)
  have p1 := pick_hi ns (k + 1) (m := 12 * downV ns k + 1) (by omega)
  unfold fracV
  have hc : downV ns k = 1 ∨ downV ns k = 2 ∨ downV ns k = 3 ∨ downV ns k = 4 := by omega
  rcases hc with e | e | e | e <;> rw [e] at p0 p1 ⊢
  · exact Gr.of_div 12 (by decide) rfl (by omega)
  · exact Gr.of_div 6 (by decide) rfl (by omega)
  · exact Gr.of_div 4 (by decide) rfl (by omega)
  · exact Gr.of_div 3 (by decide) rfl (by omega)
structure StGr (N M W T n : Nat) (st : St) : Prop where
  sh : Gr 12 (W + 72 * n) st.here
  sm : Gr N (T + M * n) st.time
  mo : ∀ m ∈ st.made, Gr 12 (W + 72 * n) m.a ∧ Gr 12 (W + 72 * n) m.b ∧ Gr N (T + M * n) m.t ∧ Gr N M m.l
end GW
end

section
/-! S17: whiles; marks. -/
namespace GW
open PyProof.Rows PySem.W
section
variable {R : Rt} {m : Bool} {ρ : Env} {K : D → Bool → Env → Prop} {X : Nat → Env → Prop} {Q : Flow → Prop} {ss : List Ps}
end
/-! ### marks -/
abbrev Mk := Rat × PySem.Str
/-! ### sorted -/
theorem deps_all {n : Nat} : ∀ {xs : List D}, (∀ x ∈ xs, D.dep x ≤ n) → D.deps xs ≤ n
  | [], _ => Nat.zero_le _
  | x :: xs, h => by
    unfold D.deps
    exact Nat.max_le.mpr ⟨h x List.mem_cons_self, deps_all fun y hy => h y (List.mem_cons_of_mem _ hy)⟩
section
variable {kp : D × Bool → Prop} {kb : Bool → Prop}
/-! ### rules about marks -/
variable {k : D → Prop} {m : Mk} {ρ : Env}
/-! ### labels -/
variable (ns : List Int)
end
end GW
end

section
/-! S18: areas. -/
namespace GW
section
variable {a b t l u v y : Rat} {k : Kd}
def shareQ : Kd → Rat
  | .even => 1 / 2
  | .in_ => 1 / 3
  | .out => 2 / 3
  | .both => 1 / 2
  | .hold => 0
  | .jump => 1
  | .kept => 1 / 2
instance : SzLe (shareQ k) 2 := by
  cases k <;> exact ⟨by decide +kernel, by decide +kernel⟩
def areaQ (a b l : Rat) (k : Kd) (u v : Rat) : Rat := l * (a + shareQ k * (b - a)) + l * l * (1 / 12 * (u - v))
instance : SzLe (1 / 12 : Rat) 4 := ⟨by decide +kernel, by decide +kernel⟩
instance {ia ib il iu iv : Nat} [SzLe a ia] [SzLe b ib] [SzLe l il] [SzLe u iu] [SzLe v iv] : SzLe (areaQ a b l k u v) (2 * ia + ib + 3 * il + iu + iv + 20) := by
  unfold areaQ
  exact szz inferInstance (by omega)
theorem d14 : Rat.divInt 1 4 = 1 / 4 := by decide +kernel
theorem d7 : Rat.divInt 7 90 = 7 / 90 := by decide +kernel
theorem d12 : Rat.divInt 12 90 = 12 / 90 := by decide +kernel
end
end GW
end

section
/-! S19: the way back. -/
namespace GW
variable {w b x y : Rat} {l l2 : List Pn} {q : Pn}
end GW
end

section
/-! S20: pops; the rows of the way back. -/
namespace GW
section
variable {R : Rt} {m : Bool} {ρ : Env} {K : D → Bool → Env → Prop} {X : Nat → Env → Prop}
end
def RowG (V : Nat) : Pn → Prop
  | .wait s => 0 < s ∧ SzLe s 6 ∧ Gr 6 36 s
  | .go false g s k => Gr 12 V g ∧ 0 < s ∧ SzLe s 6 ∧ Gr 6 36 s ∧ ¬ k = .kept
  | _ => False
theorem RowG.up {V V' : Nat} (hV : V ≤ V') : ∀ {q : Pn}, RowG V q → RowG V' q
  | .wait s, h => h
  | .go false g s k, h => ⟨h.1.up hV, h.2⟩
structure MoG (V T : Nat) (m : Mo) : Prop where
  a : Gr 12 V m.a
  b : Gr 12 V m.b
  t : Gr 6 T m.t
  l : Gr 6 36 m.l
  hl : 0 < m.l
  hu : m.u = 0 ∧ m.v = 0
theorem MoG.up {V T T' : Nat} {m : Mo} (h : MoG V T m) (ht : T ≤ T') : MoG V T' m := ⟨h.a, h.b, h.t.up ht, h.l, h.hl, h.hu⟩
theorem MoG.s {V T : Nat} {m : Mo} (h : MoG V T m) (hV : V < 2 ^ 20) (hT : T < 2 ^ 60) : MoS m := by
  have z1 : SzLe (0 : Rat) 1 := inferInstance
  exact ⟨h.a.sz (by decide) hV (by decide), h.b.sz (by decide) hV (by decide), h.t.sz (by decide) hT (by decide), h.l.sz (by decide) (by decide) (by decide), by rw [h.hu.1]; exact szz z1 (by decide), by rw [h.hu.2]; exact szz z1 (by decide), h.hl, .inr h.hu⟩
structure StG (V T : Nat) (st : St) : Prop where
  sh : Gr 12 V st.here
  sm : Gr 6 T st.time
  mo : ∀ m ∈ st.made, MoG V T m
end GW
end

section
/-! S21: dicts that are written and asked; slopes. -/
namespace GW
section
variable {R : Rt} {m : Bool} {ρ : Env} {K : D → Bool → Env → Prop} {X : Nat → Env → Prop}
end
end GW
end

section
/-! S22: several names and a new list at once. -/
namespace GW
section
variable {R : Rt} {ρ : Env} {Q : Flow → Prop} {ss : List Ps}
end
end GW
end

section
/-! S23: areas of tracks. -/
namespace GW
section
variable {w y c s x : Rat} {ms : List Mo} {m q : Mo}
/-! ### absolute -/
def absQ (x : Rat) : Rat := if x < 0 then -x else x
instance {i : Nat} [h : SzLe x i] : SzLe (absQ x) i := by
  unfold absQ
  split
  · exact sz_neg h
  · exact h
/-! ### least and most of some -/
/-! ### moved, slowed -/
/-! ### sizes -/
/-! ### other starts -/
variable {f : Nat → Rat}
theorem en_l {xs : List D} {k : List D → Prop} : OV (enumv (.lst xs)) k = k (enumFrom 0 xs) := rfl
end
end GW
end

section
/-! S24: runs. -/
namespace GW
/-! ### on a grid of 48 -/
theorem Gr.neg {N M : Nat} {x : Rat} (hN : N ≠ 0) (h : Gr N M x) : Gr N M (-x) := by
  obtain ⟨i, rfl, hi⟩ := h
  refine ⟨-i, ?_, by omega⟩
  rw [Rat.divInt_eq_div, Rat.divInt_eq_div, Rat.intCast_neg]
  grind
theorem Gr.sub {N M M' : Nat} {x y : Rat} (hN : N ≠ 0) (h : Gr N M x) (h' : Gr N M' y) : Gr N (M + M') (x - y) := by
  rw [Rat.sub_eq_add_neg]
  exact Gr.add hN h (h'.neg hN)
theorem Gr.s20 {M : Nat} {x : Rat} (h : Gr 48 M x) (hM : M < 2 ^ 20) : SzLe x 20 := h.sz (by decide) hM (by decide)
structure MoW (A U M : Nat) (m : Mo) : Prop where
  sa : SzLe m.a A
  sb : SzLe m.b A
  gt : Gr 48 M m.t
  gl : Gr 6 36 m.l
  su : SzLe m.u U
  sv : SzLe m.v U
  hl : 0 < m.l
  hk : m.k = .kept ∨ (m.u = 0 ∧ m.v = 0)
theorem MoW.up {A U M A' U' M' : Nat} {m : Mo} (h : MoW A U M m) (hA : A ≤ A') (hU : U ≤ U') (hM : M ≤ M') : MoW A' U' M' m := ⟨szz h.sa hA, szz h.sb hA, h.gt.up hM, h.gl, szz h.su hU, szz h.sv hU, h.hl, h.hk⟩
section
variable {A U M M' : Nat} {m : Mo} {ms : List Mo} {w x : Rat}
end
/-! ### drawn tracks -/
/-! ### runs -/
structure Br where
  (x w : Rat)
  ms : List Mo
def lateL (bs : List Br) (x : Rat) : List Br := bs.filter fun b => !decide (x < b.x)
def atR (w : Rat) (ms : List Mo) (bs : List Br) (x : Rat) : Rat × List Mo := match (lateL bs x).getLast? with
  | none => (w, ms)
  | some b => (b.w, b.ms)
structure BrOk (A U M : Nat) (b : Br) : Prop where
  gx : Gr 48 M b.x
  sw : SzLe b.w A
  hm : ∀ m ∈ b.ms, MoW A U M m
  hl : b.ms.length ≤ 10
structure RunOk (A U M : Nat) (w : Rat) (ms : List Mo) (bs : List Br) : Prop where
  sw : SzLe w A
  hm : ∀ m ∈ ms, MoW A U M m
  hl : ms.length ≤ 10
  hb : ∀ b ∈ bs, BrOk A U M b
  ln : bs.length ≤ 10
section
variable {A U M A' U' M' : Nat} {m : Mo} {ms : List Mo} {w x : Rat} {bs : List Br} {b : Br}
theorem BrOk.up (h : BrOk A U M b) (hA : A ≤ A') (hU : U ≤ U') (hM : M ≤ M') : BrOk A' U' M' b := ⟨h.gx.up hM, szz h.sw hA, fun m hm => (h.hm m hm).up hA hU hM, h.hl⟩
theorem RunOk.up (h : RunOk A U M w ms bs) (hA : A ≤ A') (hU : U ≤ U') (hM : M ≤ M') : RunOk A' U' M' w ms bs := ⟨szz h.sw hA, fun m hm => (h.hm m hm).up hA hU hM, h.hl, fun b hb => (h.hb b hb).up hA hU hM, h.ln⟩
theorem late_mem (h : (lateL bs x).getLast? = some b) : b ∈ bs := (List.mem_filter.mp (last_mem h)).1
theorem RunOk.at (h : RunOk A U M w ms bs) : SzLe (atR w ms bs x).1 A ∧ (∀ m ∈ (atR w ms bs x).2, MoW A U M m) ∧ (atR w ms bs x).2.length ≤ 10 := by
  unfold atR
  cases hm : (lateL bs x).getLast? with
  | none => exact ⟨h.sw, h.hm, h.hl⟩
  | some b =>
    have := h.hb b (late_mem hm)
    exact ⟨this.sw, this.hm, this.hl⟩
end
section
variable {k : D → Prop} {xs : List D} {x y : D}
end
end GW
end

section
/-! S25: turned round. -/
namespace GW
section
variable {w x z : Rat} {m q : Mo} {ms : List Mo}
/-! ### runs -/
end
section
variable {R : Rt} {ρ : Env} {s : Ps} {ss : List Ps} {Q : Flow → Prop}
end
instance : SzLe (1 / 4 : Rat) 3 := ⟨by decide +kernel, by decide +kernel⟩
end GW
end

section
/-! S26: what is a run. -/
namespace GW
section
variable {k : Bool → Prop} {a b c d e : D}
theorem d10 : decide ((1 : Int) = 0) = false := rfl
instance : SzLe (5 / 2 : Rat) 4 := ⟨by decide +kernel, by decide +kernel⟩
end
def ordL (ms : List Mo) : Prop := ∀ p ∈ ms.zip ms.tail, p.1.t + p.1.l ≤ p.2.t
def riseB (bs : List Br) : Bool := !((bs.zip bs.tail).map fun p => !decide (p.1.x < p.2.x)).any id
section
variable {w y : Rat} {ms : List Mo} {bs : List Br}
end
/-- what this law's runs keep -/
structure GoodR (ms : List Mo) (bs : List Br) : Prop where
  ln : bs.length ≤ 2
  ord0 : ordL ms
  ord : ∀ b ∈ bs, ordL b.ms
  rise : riseB bs = true
  beg : ∀ b ∈ bs, ∀ m ∈ b.ms, b.x ≤ m.t
end GW
end

section
/-! S27: kept going: how great all numbers are. -/
namespace GW
/-! ### bounds -/
def Bd (B x : Rat) : Prop := -B ≤ x ∧ x ≤ B
section
variable {A B x y a b e : Rat}
theorem Bd.up (h : Bd A x) (hB : A ≤ B) : Bd B x := ⟨by have := h.1; grind, by have := h.2; grind⟩
theorem Bd.add (h : Bd A x) (h' : Bd B y) : Bd (A + B) (x + y) := ⟨by have := h.1; have := h'.1; grind, by have := h.2; have := h'.2; grind⟩
theorem Bd.neg (h : Bd A x) : Bd A (-x) := ⟨by have := h.2; grind, by have := h.1; grind⟩
theorem Bd.sub (h : Bd A x) (h' : Bd B y) : Bd (A + B) (x - y) := ⟨by have := h.1; have := h'.2; grind, by have := h.2; have := h'.1; grind⟩
theorem Bd.mul (h : Bd A x) (h' : Bd B y) : Bd (A * B) (x * y) := by
  obtain ⟨a1, a2⟩ := h
  obtain ⟨b1, b2⟩ := h'
  have e1 := Rat.mul_nonneg (show (0 : Rat) ≤ A - x by grind) (show (0 : Rat) ≤ B + y by grind)
  have e2 := Rat.mul_nonneg (show (0 : Rat) ≤ A + x by grind) (show (0 : Rat) ≤ B - y by grind)
  have e3 := Rat.mul_nonneg (show (0 : Rat) ≤ A - x by grind) (show (0 : Rat) ≤ B - y by grind)
  have e4 := Rat.mul_nonneg (show (0 : Rat) ≤ A + x by grind) (show (0 : Rat) ≤ B + y by grind)
  exact ⟨by grind, by grind⟩
theorem Bd.of (h0 : 0 ≤ x) (h1 : x ≤ B) : Bd B x := ⟨by grind, h1⟩
end
/-! ### denominators -/
def DN (N : Int) (x : Rat) : Prop := ∃ i : Int, x * (N : Rat) = (i : Rat)
section
variable {N M c : Int} {x y : Rat}
theorem DN.add (h : DN N x) (h' : DN N y) : DN N (x + y) := by
  obtain ⟨i, hi⟩ := h
  obtain ⟨j, hj⟩ := h'
  exact ⟨i + j, by rw [Rat.intCast_add]; grind⟩
theorem DN.sub (h : DN N x) (h' : DN N y) : DN N (x - y) := by
  obtain ⟨i, hi⟩ := h
  obtain ⟨j, hj⟩ := h'
  exact ⟨i - j, by rw [Rat.intCast_sub]; grind⟩
theorem DN.mul (h : DN N x) (h' : DN M y) : DN (N * M) (x * y) := by
  obtain ⟨i, hi⟩ := h
  obtain ⟨j, hj⟩ := h'
  exact ⟨i * j, by rw [Rat.intCast_mul, Rat.intCast_mul, ← hi, ← hj]; grind⟩
theorem DN.up (c : Int) (h : DN N x) : DN (N * c) x := by
  obtain ⟨i, hi⟩ := h
  exact ⟨i * c, by rw [Rat.intCast_mul, Rat.intCast_mul, ← hi]; grind⟩
theorem DN.to (h : DN N x) (e : M = N * c) : DN M x := by
  rw [e]
  exact h.up c
theorem DN.int (i : Int) : DN 1 (i : Rat) := ⟨i, by
  have : ((1 : Int) : Rat) = 1 := rfl
  rw [this]
  grind⟩
theorem DN.sz {k : Nat} {b : Nat} (h : DN N x) (h0 : 0 < N) (hb : Bd ((k : Int) : Rat) x) (hN : N.natAbs < 2 ^ b) (hk : N.natAbs * k < 2 ^ b) (b0 : 0 < b) : SzLe x b := by
  obtain ⟨i, hi⟩ := h
  have p0 : (0 : Rat) < (N : Rat) := by
    have : ((0 : Int) : Rat) < (N : Rat) := Rat.intCast_lt_intCast.mpr h0
    exact this
  have e : x = Rat.divInt i N := by
    rw [Rat.divInt_eq_div, ← hi]
    grind
  obtain ⟨b1, b2⟩ := hb
  have i1 : (i : Rat) ≤ ((k * N : Int) : Rat) := by
    rw [Rat.intCast_mul, ← hi]
    have := Rat.mul_nonneg (show (0 : Rat) ≤ ((k : Int) : Rat) - x by grind) (Rat.le_of_lt p0)
    grind
  have i2 : ((-(k * N) : Int) : Rat) ≤ (i : Rat) := by
    rw [Rat.intCast_neg, Rat.intCast_mul, ← hi]
    have := Rat.mul_nonneg (show (0 : Rat) ≤ ((k : Int) : Rat) + x by grind) (Rat.le_of_lt p0)
    grind
  have i1 := Rat.intCast_le_intCast.mp i1
  have i2 := Rat.intCast_le_intCast.mp i2
  rw [e]
  refine sz_divInt ?_ hN b0
  have e3 : (k * N : Int) = ((N.natAbs * k : Nat) : Int) := by
    rw [Int.natCast_mul, Int.natAbs_of_nonneg (Int.le_of_lt h0), Int.mul_comm]
  rw [e3] at i1 i2
  omega
end
/-! ### curves between 0 and 1 -/
section
variable {p : Rat}
end
/-! ### parts -/
section
variable {N j : Int} {x t l s p y : Rat} {M : Nat} {A : Rat}
end
theorem DN.one {N : Int} : DN N 1 := ⟨N, by grind⟩
section
variable {D : Int} {q : Rat}
end
/-! ### levels -/
structure LevN (N : Int) (Ba Bu b : Nat) (a u : Rat) : Prop where
  h0 : 0 < N
  hN : N.natAbs < 2 ^ b
  h12 : ∃ c, N = 12 * c
  da : DN N a
  du : DN N u
  ba : Bd ((Ba : Int) : Rat) a
  bu : Bd ((Bu : Int) : Rat) u
def Lev (Ba Bu b : Nat) (a u : Rat) : Prop := ∃ N, LevN N Ba Bu b a u
theorem Lev.up {Ba Bu b Ba' Bu' b' : Nat} {a u : Rat} (h : Lev Ba Bu b a u) (h1 : Ba ≤ Ba') (h2 : Bu ≤ Bu') (h3 : b ≤ b') : Lev Ba' Bu' b' a u := by
  obtain ⟨N, k⟩ := h
  exact ⟨N, k.h0, Nat.lt_of_lt_of_le k.hN (Nat.pow_le_pow_right (by decide) h3), k.h12, k.da, k.du, k.ba.up (Rat.intCast_le_intCast.mpr (by omega)), k.bu.up (Rat.intCast_le_intCast.mpr (by omega))⟩
theorem Lev.sz {Ba Bu b : Nat} {a u : Rat} (h : Lev Ba Bu b a u) (h1 : Ba < 2 ^ 9) (h2 : Bu < 2 ^ 9) : SzLe a (b + 9) ∧ SzLe u (b + 9) := by
  obtain ⟨N, k⟩ := h
  have e : 2 ^ (b + 9) = 2 ^ b * 2 ^ 9 := Nat.pow_add ..
  have g : 2 ^ b ≤ 2 ^ (b + 9) := Nat.pow_le_pow_right (by decide) (by omega)
  have f : ∀ c, c < 2 ^ 9 → N.natAbs * c < 2 ^ (b + 9) := fun c hc => by
    rw [e]
    exact Nat.mul_lt_mul_of_lt_of_le k.hN (Nat.le_of_lt hc) (by decide)
  exact ⟨k.da.sz k.h0 k.ba (Nat.lt_of_lt_of_le k.hN g) (f _ h1) (by omega), k.du.sz k.h0 k.bu (Nat.lt_of_lt_of_le k.hN g) (f _ h2) (by omega)⟩
end GW
end

section
/-! S28: kept going: from piece to piece. -/
namespace GW
section
variable {a u g l s x h w z : Rat} {Ba Bu b : Nat} {m : Mo} {ms : List Mo} {k : Kd}
theorem one_worth (hz : ¬ z < m.t) : worthOf w [m] z = worthM m z := by
  have e : begunL [m] z = [m] := by simp [begunL, hz]
  unfold worthOf
  rw [e]
  rfl
end
end GW
end

section
/-! S29: kept going: the first pieces; how near. -/
namespace GW
structure Mo0 (m : Mo) : Prop where
  ga : Gr 12 72 m.a
  gb : Gr 12 72 m.b
  gu : Gr 12 72 m.u
  gv : Gr 12 72 m.v
  gl : Gr 6 36 m.l
  l3 : 1 / 3 ≤ m.l
  gt : ∃ M, Gr 48 M m.t
section
variable {m : Mo} {ms : List Mo} {w x y z : Rat} {M : Nat} {bs : List Br} {Ba Bu b : Nat} {a u g l s : Rat} {k : Kd}
/-! ### how near -/
theorem near (ha : Bd 230 a) (hu : Bd 426 u) (hg : Bd 6 g) (h3 : 1 / 3 ≤ l) : ¬ (1 / 100 < absQ ((worthOf a [⟨a, g, x, l, .kept, u, 0⟩] (x + 1 / 1000000) - a) / (1 / 1000000) - u)) := by
  have l0 : 0 < l := by grind
  have hn : ¬ x + 1 / 1000000 < x := by grind
  rw [one_worth (m := ⟨a, g, x, l, .kept, u, 0⟩) hn]
  have e1 : worthM ⟨a, g, x, l, .kept, u, 0⟩ (x + 1 / 1000000) = keptWQ a g l u 0 (keptQ ((x + 1 / 1000000 - x) / l)) := by
    show worthQ a g x l .kept u 0 (x + 1 / 1000000) = _
    unfold worthQ
    rw [if_pos rfl]
  rw [e1]
  have i0 : 0 < l⁻¹ := Rat.inv_pos.mpr l0
  have el : l * l⁻¹ = 1 := Rat.mul_inv_cancel _ (by grind)
  have i3 : l⁻¹ ≤ 3 := by
    have := Rat.mul_nonneg (show (0 : Rat) ≤ 3 * l - 1 by grind) (Rat.le_of_lt i0)
    grind
  have ep : (x + 1 / 1000000 - x) / l = 1 / 1000000 * l⁻¹ := by
    rw [Rat.div_def]
    grind
  rw [ep]
  generalize l⁻¹ = q at *
  rw [keptQ_in (by grind) (by grind)]
  have ew : (keptWQ a g l u 0 (1 / 1000000 * q) - a) / (1 / 1000000) - u = (g - a) * ((3 * (1 / 1000000 * q) - 2 * (1 / 1000000 * q * (1 / 1000000 * q))) * q) - u * (2 * (1 / 1000000 * q) - 1 / 1000000 * q * (1 / 1000000 * q)) := by
    unfold keptWQ
    grind
  rw [ew]
  have qq : 0 ≤ q * q := Rat.mul_nonneg (Rat.le_of_lt i0) (Rat.le_of_lt i0)
  have qq9 : q * q ≤ 9 := by
    have := Rat.mul_nonneg (show (0 : Rat) ≤ 3 - q by grind) (show (0 : Rat) ≤ 3 + q by grind)
    grind
  have q3 : 0 ≤ q * q * q := Rat.mul_nonneg qq (Rat.le_of_lt i0)
  have q327 : q * q * q ≤ 27 := by
    have := Rat.mul_nonneg qq (show (0 : Rat) ≤ 3 - q by grind)
    grind
  have qq3 : q * q ≤ 3 * q := by
    have := Rat.mul_nonneg (Rat.le_of_lt i0) (show (0 : Rat) ≤ 3 - q by grind)
    grind
  have q33 : q * q * q ≤ 3 * (q * q) := by
    have := Rat.mul_nonneg qq (show (0 : Rat) ≤ 3 - q by grind)
    grind
  have ec : (3 * (1 / 1000000 * q) - 2 * (1 / 1000000 * q * (1 / 1000000 * q))) * q = 3 / 1000000 * (q * q) - 2 / 1000000000000 * (q * q * q) := by grind
  have ed : 2 * (1 / 1000000 * q) - 1 / 1000000 * q * (1 / 1000000 * q) = 2 / 1000000 * q - 1 / 1000000000000 * (q * q) := by grind
  have c0 : Bd (27 / 1000000) ((3 * (1 / 1000000 * q) - 2 * (1 / 1000000 * q * (1 / 1000000 * q))) * q) := by
    rw [ec]
    generalize q * q * q = B at *
    generalize q * q = A at *
    exact Bd.of (by grind) (by grind)
  have d0 : Bd (6 / 1000000) (2 * (1 / 1000000 * q) - 1 / 1000000 * q * (1 / 1000000 * q)) := by
    rw [ed]
    generalize q * q * q = B at *
    generalize q * q = A at *
    exact Bd.of (by grind) (by grind)
  have hb := (((hg.sub ha).mul c0).sub (hu.mul d0)).up (B := 1 / 100) (by decide +kernel)
  generalize (g - a) * ((3 * (1 / 1000000 * q) - 2 * (1 / 1000000 * q * (1 / 1000000 * q))) * q) - u * (2 * (1 / 1000000 * q) - 1 / 1000000 * q * (1 / 1000000 * q)) = f at *
  obtain ⟨b1, b2⟩ := hb
  unfold absQ
  split <;> grind
end
end GW
end

section
/-! S30: kept going: small things. -/
namespace GW
instance : SzLe (1 / 1000000 : Rat) 20 := ⟨by decide +kernel, by decide +kernel⟩
instance : SzLe (1 / 100 : Rat) 7 := ⟨by decide +kernel, by decide +kernel⟩
end GW
end

section
/-! S31: texts sorted, sets of them; ways passed. -/
namespace GW
open PySem.W PyProof.Rows
section
variable {kp : D × Bool → Prop} {kb : Bool → Prop} {k : D → Prop} {l ss : List PySem.Str}
theorem strs_deps (h : ∀ s ∈ l, PySem.PyData.strOk s = true) : D.deps (l.map .str) = 0 := by
  refine Nat.le_zero.mp (deps_all fun x hx => ?_)
  obtain ⟨s, hs, rfl⟩ := List.mem_map.mp hx
  unfold D.dep
  rw [h s hs]
  exact Nat.le_refl _
theorem txs_map : ∀ l : List PySem.Str, txs (l.map .str) = some l
  | [] => rfl
  | s :: r => by
    show (txs (r.map .str)).map (s :: ·) = _
    rw [txs_map r]
    rfl
theorem bi_srs (h : l.length < 64) : OV (biv .sset [.lst (l.map .str)]) kp = kp (.lst ((sortX (nub l)).map .str), true) := by
  show OV ((txs (l.map .str)).bind fun ss => if ss.length < 64 then some (D.lst ((sortX (nub ss)).map .str), true) else none) kp = _
  rw [txs_map]
  show OV (if l.length < 64 then some (D.lst ((sortX (nub l)).map .str), true) else none) kp = _
  rw [if_pos h]
  rfl
theorem sortX_okk (h : ∀ s ∈ l, PySem.PyData.strOk s = true) : ∀ s ∈ sortX l, PySem.PyData.strOk s = true := fun s hs => h s ((List.mergeSort_perm l _).mem_iff.mp hs)
end
/-! ### three drawn times in their order -/
section
variable {kp : D × Bool → Prop}
end
/-! ### what is passed by ways -/
section
variable {α : Type} {f : α → Rat} {p q r : α → Bool}
end
section
variable {l : List Mk} {a b c : Rat}
/-- labels stand once -/
structure LabOk (l : List Mk) : Prop where
  nd : (l.map (·.2)).Nodup
  inj : ∀ m ∈ l, ∀ m' ∈ l, m.2 = m'.2 → m = m'
end
end GW
end

section
/-! S32: dicts. -/
namespace GW
section
variable {R : Rt} {m : Bool} {ρ : Env} {ss : List Ps} {Q : Flow → Prop} {K : D → Bool → Env → Prop} {X : Nat → Env → Prop} {r : Env} {kvs : List (PySem.Str × D)} {k : D → Prop} {kp : D × Bool → Prop} {kb : Bool → Prop} {d : D} {s : PySem.Str} {kl : List (PySem.Str × D) → Prop} {ks : PySem.Str → Prop}
end
/-! ### dicts as lists of pairs -/
section
variable {α : Type} {kp : D × Bool → Prop} {kb : Bool → Prop}
/-! ### like dicts -/
end
end GW
end

section
/-! S33: sheets. -/
namespace GW
abbrev Tk := PySem.Str × Rat × List Mo
structure ShOk (A U M : Nat) (l : List Tk) : Prop where
  nd : (l.map (·.1)).Nodup
  ln : l.length ≤ 10
  tr : ∀ p ∈ l, p.2.2.length ≤ 100 ∧ ∀ m ∈ p.2.2, MoW A U M m
  sz : ∀ p ∈ l, SzLe p.2.1 A
  ok : ∀ p ∈ l, PySem.PyData.strOk p.1 = true
section
variable {l : List Tk} {x : Rat} {p : Tk} {A U M : Nat}
end
end GW
end

section
/-! S34: drawn sheets. -/
namespace GW
section
variable {l : List Tk} {x y w : Rat} {p : Tk} {ms : List Mo} {m : Mo} {kp : D × Bool → Prop} {kb : Bool → Prop} {k : D → Prop} {s : PySem.Str}
theorem kS_ok (k : Kd) : PySem.PyData.strOk (kS k) = true := by cases k <;> decide +kernel
/-! ### ends -/
/-! ### what goes on -/
end
/-! ### the drawn sheet -/
section
variable {R : Rt} {m : Bool} {K : D → Bool → Env → Prop} {X : Nat → Env → Prop} {r : Env} {l : List Tk} {k : D → Prop}
end
end GW
end

section
/-! S35: sheets with one plan, each name later. -/
namespace GW
section
variable {w b g x y : Rat} {B ms : List Mo} {m : Mo} {l : List Tk} {N M M' : Nat} {kb : Bool → Prop} {k : D → Prop}
/-! ### steps on a grid -/
structure StI (n : Nat) (st : St) : Prop where
  he : Gr 12 (72 + 72 * n) st.here
  ti : Gr 48 (288 + 288 * n) st.time
  mo : n ≤ 64 → ∀ m ∈ st.made, MoW 13 1 20000 m
/-! ### so much later -/
/-! ### the sheet -/
/-! ### what it tells -/
theorem enum_get : ∀ (xs : List D) (n i : Nat), (enumFrom n xs)[i]? = xs[i]?.map fun x => .tup [.int ((n + i : Nat) : Int), x]
  | [], n, i => by simp [enumFrom]
  | x :: xs, n, 0 => by simp [enumFrom]
  | x :: xs, n, i + 1 => by
    unfold enumFrom
    rw [List.getElem?_cons_succ, List.getElem?_cons_succ, enum_get xs (n + 1) i, show n + 1 + i = n + (i + 1) by omega]
theorem enum_len : ∀ (xs : List D) (n : Nat), (enumFrom n xs).length = xs.length
  | [], _ => rfl
  | x :: xs, n => by
    unfold enumFrom
    rw [List.length_cons, List.length_cons, enum_len xs]
end
end GW
end

section
/-! S36: several names, values that stay one's own. -/
namespace GW
section
variable {R : Rt} {ρ : Env} {ss : List Ps} {Q : Flow → Prop} {X : Nat → Env → Prop} {G : Prog} {call : Nat → D → List D → Res} {k : Env → Prop} {d : D} {o : Bool}
def WLO (R : Rt) (es : List Px) (ρ : Env) (K : List (D × Bool) → Env → Prop) (X : Nat → Env → Prop) (_t : Lk (K, X) := {}) : Prop := ww (evsCO (es.map (ev R false)) ρ) K X
def PV (R : Rt) (is : List Nat) (xs : List (D × Bool)) (ρ : Env) (k : Env → Prop) (_t : Lk k := {}) : Prop := match putsV ρ is xs with
  | some ρ => okS R is = true ∧ k ρ
  | none => False
theorem we_fz {m : Bool} {a : Px} {K : D → Bool → Env → Prop} : WE R m (.fz a) ρ K X = WE R m a ρ (fun x o ρ => nf x o ∧ K x false ρ) X := by
  unfold WE
  conv => lhs; unfold ev
  simp only [ww_frz, ww_b, ww_ok]
theorem wlo_nil {K : List (D × Bool) → Env → Prop} : WLO R [] ρ K X = K [] ρ := rfl
theorem wlo_cons {e : Px} {es : List Px} {K : List (D × Bool) → Env → Prop} : WLO R (e :: es) ρ K X = WE R false e ρ (fun d o ρ => WLO R es ρ (fun xs ρ => K ((d, o) :: xs) ρ) X) X := by
  unfold WLO WE
  show ww ((ev R false e ρ).bind fun x ρ => (evsCO (es.map (ev R false)) ρ).bind fun xs ρ => .ok (x :: xs) ρ) K X = _
  simp only [ww_b, ww_ok]
theorem ws_asgs {is : List Nat} {es : List Px} : WS R (.asgs is es :: ss) ρ Q = WLO R es ρ (fun xs ρ => PV R is xs ρ fun ρ => WS R ss ρ Q) (fun c ρ => Q (.exn c ρ)) := by
  unfold WS WLO
  rw [execs_cons]
  conv => lhs; unfold exec
  cases evsCO (es.map (ev R false)) ρ with
  | ok xs ρ =>
    simp only [ww_ok, onOut]
    unfold PV
    cases putsV ρ is xs with
    | none => rfl
    | some ρ =>
      dsimp only
      by_cases h : okS R is = true
      · rw [if_pos h]
        exact propext ⟨fun q => ⟨h, q⟩, fun q => q.2⟩
      · rw [if_neg h]
        exact propext ⟨fun q => q.elim, fun q => absurd q.1 h⟩
  | _ => rfl
theorem pv_n : PV (Prog.rt G call false) [] [] ρ k = k ρ := by simp [PV, putsV, okS, Prog.rt]
theorem pv_c {i : Nat} {is : List Nat} {xs : List (D × Bool)} : PV (Prog.rt G call false) (i :: is) ((d, o) :: xs) ρ k = SE (Prog.rt G call false) i d o ρ fun ρ => PV (Prog.rt G call false) is xs ρ k := by
  unfold PV SE
  rw [show putsV ρ (i :: is) ((d, o) :: xs) = putsV (putV ρ i (d, o)) is xs from rfl]
  dsimp only
  cases putsV (putV ρ i (d, o)) is xs <;> simp [okS, Prog.rt]
end
end GW
end

section
/-! S37: cues. -/
namespace GW
/-- the times at which steps begin -/
def cuL (b : Rat) : List Pn → List Rat
  | [] => []
  | q :: r => b :: cuL (b + sizeP q) r
def enL (b : Rat) : List Pn → Rat
  | [] => b
  | q :: r => enL (b + sizeP q) r
section
variable {b x y c : Rat} {l r : List Pn} {q : Pn} {i : Nat}
theorem cu_len : ∀ (l : List Pn) (b : Rat), (cuL b l).length = l.length
  | [], _ => rfl
  | q :: l, b => by
    show (cuL (b + sizeP q) l).length + 1 = l.length + 1
    rw [cu_len l]
theorem cu_app : ∀ (l r : List Pn) (b : Rat), cuL b (l ++ r) = cuL b l ++ cuL (enL b l) r
  | [], _, _ => rfl
  | q :: l, r, b => by
    show b :: cuL (b + sizeP q) (l ++ r) = b :: (cuL (b + sizeP q) l ++ cuL (enL (b + sizeP q) l) r)
    rw [cu_app l r]
theorem eL_app : ∀ (l r : List Pn) (b : Rat), enL b (l ++ r) = enL (enL b l) r
  | [], _, _ => rfl
  | q :: l, r, b => eL_app l r (b + sizeP q)
theorem eL_sum : ∀ (l : List Pn) (b : Rat), enL b l = b + sumQ (l.map sizeP)
  | [], b => by
    show b = b + 0
    rw [Rat.add_zero]
  | q :: l, b => by
    show enL (b + sizeP q) l = b + (sizeP q + sumQ (l.map sizeP))
    rw [eL_sum l, Rat.add_assoc]
theorem cu_snoc : cuL b (l ++ [q]) = cuL b l ++ [enL b l] := by
  rw [cu_app]
  rfl
theorem eL_snoc : enL b (l ++ [q]) = enL b l + sizeP q := by
  rw [eL_app]
  rfl
theorem take_s (h : l[i]? = some q) : l.take (i + 1) = l.take i ++ [q] := by
  rw [List.take_add_one, h]
  rfl
theorem cu_take (h : l[i]? = some q) : cuL b (l.take (i + 1)) = cuL b (l.take i) ++ [enL b (l.take i)] := by rw [take_s h, cu_snoc]
theorem eL_take (h : l[i]? = some q) : enL b (l.take (i + 1)) = enL b (l.take i) + sizeP q := by rw [take_s h, eL_snoc]
theorem cu_get : ∀ (l : List Pn) (b : Rat) (i : Nat), i < l.length → (cuL b l)[i]? = some (enL b (l.take i))
  | [], _, _, h => by cases h
  | q :: l, b, 0, _ => rfl
  | q :: l, b, i + 1, h => cu_get l (b + sizeP q) i (Nat.lt_of_succ_lt_succ h)
theorem step_sz {z : Nat} (h1 : IsStep q) (h2 : PnZ z 1 q) : SzLe (sizeP q) z := by
  cases q with
  | wait s => exact h2.2
  | go by_ w s k => exact h2.2.2.1
  | thn _ _ => exact h1.elim
  | again _ _ => exact h1.elim
theorem eL_stF {w : Rat} (h : ∀ q ∈ l, IsStep q) : enL b l = (stF w b l).time := by rw [eL_sum, stF_time l h]
theorem eL_sz {z ib : Nat} (hz : z ≤ 40) (hb : SzLe b ib) (h : ∀ q ∈ l, IsStep q ∧ PnZ z 1 q) (hi : i ≤ l.length) : SzLe (enL b (l.take i)) (ib + (z + 1) * i) := by
  have s := (stOk_at (iw := 6) (w := 0) hz (by decide) (szz (show SzLe (0 : Rat) 1 from inferInstance) (by decide)) hb h i hi).sm
  rw [eL_stF (w := 0) fun q hq => (h q (List.mem_of_mem_take hq)).1]
  exact s
/-- the times at which they end -/
theorem ends_get (h : i < l.length) : ((cuL b l).drop 1 ++ [enL b l])[i]? = some (enL b (l.take (i + 1))) := by
  by_cases z : i + 1 < l.length
  · rw [List.getElem?_append_left (by rw [List.length_drop, cu_len]; omega), List.getElem?_drop, Nat.add_comm, cu_get _ _ _ z]
  · have e : i + 1 = l.length := by omega
    rw [List.getElem?_append_right (by rw [List.length_drop, cu_len]; omega), List.length_drop, cu_len, show i - (l.length - 1) = 0 by omega, e, List.take_length]
    rfl
/-- the step that goes on -/
def onB (x b : Rat) (l : List Pn) (i : Nat) : Bool := !decide (x < enL b (l.take i)) && decide (x < enL b (l.take (i + 1)))
def stepAt (x b : Rat) (l : List Pn) : Option Nat := ((List.range l.length).filter (onB x b l)).head?
theorem stepAt_some (hi : i < l.length) (h : onB x b l i = true) (hn : ∀ j < i, onB x b l j = false) : stepAt x b l = some i := by
  unfold stepAt
  have e : List.range l.length = List.range i ++ (i :: (List.range (l.length - i - 1)).map (· + (i + 1))) := by
    have : l.length = i + (1 + (l.length - i - 1)) := by omega
    conv => lhs; rw [this, List.range_add, Nat.add_comm 1, List.range_succ_eq_map]
    rw [List.map_cons, List.map_map]
    congr 2
    refine List.map_congr_left fun j _ => ?_
    show i + (j + 1) = j + (i + 1)
    omega
  rw [e, List.filter_append]
  have e1 : (List.range i).filter (onB x b l) = [] := by
    rw [List.filter_eq_nil_iff]
    intro j hj
    rw [hn j (List.mem_range.mp hj)]
    decide
  rw [e1, List.nil_append, List.filter_cons_of_pos h]
  rfl
theorem stepAt_none (hn : ∀ j < l.length, onB x b l j = false) : stepAt x b l = none := by
  unfold stepAt
  have e1 : (List.range l.length).filter (onB x b l) = [] := by
    rw [List.filter_eq_nil_iff]
    intro j hj
    rw [hn j (List.mem_range.mp hj)]
    decide
  rw [e1]
  rfl
def optN : Option Nat → D
  | none => .non
  | some i => .int (i : Int)
/-- the kinds of steps -/
def wordP : Pn → PySem.Str
  | .wait _ => "wait"
  | .go _ _ _ k => kS k
  | _ => ""
def countW (w : PySem.Str) (ws : List PySem.Str) : Nat := (ws.filter fun v => v == w).length
theorem word_ok (q : Pn) : PySem.PyData.strOk (wordP q) = true := by
  cases q with
  | wait s => exact (by decide +kernel : PySem.PyData.strOk "wait" = true)
  | go by_ w s k => exact kS_ok k
  | thn _ _ => exact (by decide +kernel : PySem.PyData.strOk "" = true)
  | again _ _ => exact (by decide +kernel : PySem.PyData.strOk "" = true)
theorem words_ok (l : List Pn) : ∀ s ∈ l.map wordP, PySem.PyData.strOk s = true := fun s hs => by
  obtain ⟨q, _, rfl⟩ := List.mem_map.mp hs
  exact word_ok q
theorem count_map (w : PySem.Str) : ∀ ws : List PySem.Str, countv (.str w) (ws.map .str) = countW w ws
  | [] => rfl
  | v :: ws => by
    have ih := count_map w ws
    unfold countv countW at *
    rw [List.map_cons, List.filter_cons, List.filter_cons]
    have e : D.eqv (.str v) (.str w) = (v == w) := rfl
    rw [e]
    split
    · rw [List.length_cons, List.length_cons, ih]
    · exact ih
theorem mt_countS {w : PySem.Str} {ws : List PySem.Str} {kp : D × Bool → Prop} (hw : PySem.PyData.strOk w = true) (h : ∀ s ∈ ws, PySem.PyData.strOk s = true) : OV (mtv .count (.lst (ws.map .str)) [.str w]) kp = kp (.int (countW w ws : Nat), false) := by
  have e : deep (.str w) (.lst (ws.map .str)) = true := by
    unfold deep D.dep
    rw [strs_deps h, hw]
    rfl
  show OV (if deep (.str w) (.lst (ws.map .str)) = true then some (D.int (countv (.str w) (ws.map .str)), false) else none) kp = _
  rw [if_pos e, count_map]
  rfl
theorem nub_len : ∀ l : List PySem.Str, (nub l).length ≤ l.length
  | [] => Nat.le_refl _
  | s :: r => by
    have ih := nub_len r
    unfold nub
    split
    · rw [List.length_cons]; omega
    · rw [List.length_cons, List.length_cons]; omega
theorem sortX_len (l : List PySem.Str) : (sortX l).length = l.length := (List.mergeSort_perm l _).length_eq
theorem plan_len (ns : List Int) : ∀ (d : Nat) (j : Int), (stepsP (planV ns d j)).length ≤ 3 ^ d
  | 0, j => by
    unfold planV leafV
    split <;> exact Nat.le_refl _
  | d + 1, j => by
    have p3 : 1 ≤ 3 ^ d := Nat.one_le_pow _ _ (by decide)
    unfold planV
    split
    · have : (stepsP (leafV ns j)).length = 1 := by
        unfold leafV
        split <;> rfl
      rw [this, Nat.pow_succ]
      omega
    · split
      · have h1 := plan_len ns d (3 * j + 11)
        have h2 := plan_len ns d (3 * j + 37)
        show (stepsP _ ++ stepsP _).length ≤ _
        rw [List.length_append, Nat.pow_succ]
        omega
      · have h1 := plan_len ns d (3 * j + 23)
        have q1 := pick_hi ns (j + 9) (m := 4) (by decide)
        have q0 := pick_lo ns (j + 9) (m := 4) (by decide)
        show ((List.replicate _ (stepsP _)).flatten).length ≤ _
        rw [List.length_flatten, List.map_replicate, List.sum_replicate_nat, Nat.pow_succ, Nat.mul_comm (3 ^ d)]
        exact Nat.mul_le_mul (by omega) h1
def kindsD (l : List Pn) : D := .lst ((sortX (nub (l.map wordP))).map fun w => .tup [.str w, .int (countW w (l.map wordP) : Nat)])
end
end GW
end

section
/-! S38: cues: slower, played, behind all. -/
namespace GW
section
variable {b c x : Rat}
theorem cu_slow : ∀ (l : List Pn) (x : Rat), cuL (b + c * (x - b)) (l.map (slP c)) = (cuL x l).map fun y => b + c * (y - b)
  | [], _ => rfl
  | q :: l, x => by
    show (b + c * (x - b)) :: cuL (b + c * (x - b) + sizeP (slP c q)) (l.map (slP c)) = (b + c * (x - b)) :: (cuL (x + sizeP q) l).map fun y => b + c * (y - b)
    rw [← cu_slow l, slP_size]
    congr 2
    grind
def isWt : Pn → Bool
  | .wait _ => true
  | _ => false
theorem made_cu : ∀ (l : List Pn) (st : St), (∀ q ∈ l, IsStep q) → (l.foldl stStep st).made.map (·.t) = st.made.map (·.t) ++ (((cuL st.time l).zip l).filter fun p => !isWt p.2).map (·.1)
  | [], st, _ => by simp [cuL]
  | q :: l, st, h => by
    have ih := made_cu l (stStep st q) fun r hr => h r (List.mem_cons_of_mem _ hr)
    have hq := h q List.mem_cons_self
    show (l.foldl stStep (stStep st q)).made.map (·.t) = _
    rw [ih]
    cases q with
    | wait s =>
      show st.made.map (·.t) ++ (((cuL (st.time + s) l).zip l).filter fun p => !isWt p.2).map (·.1) = st.made.map (·.t) ++ (((st.time, Pn.wait s) :: (cuL (st.time + s) l).zip l).filter fun p => !isWt p.2).map (·.1)
      rw [List.filter_cons_of_neg (by simp [isWt])]
    | go by_ w s k =>
      cases by_
      · show (st.made ++ [_]).map Mo.t ++ (((cuL (st.time + s) l).zip l).filter fun p => !isWt p.2).map (·.1) = st.made.map Mo.t ++ (((st.time, Pn.go false w s k) :: (cuL (st.time + s) l).zip l).filter fun p => !isWt p.2).map (·.1)
        rw [List.filter_cons_of_pos (by simp [isWt]), List.map_append, List.append_assoc]
        rfl
      · show (st.made ++ [_]).map Mo.t ++ (((cuL (st.time + s) l).zip l).filter fun p => !isWt p.2).map (·.1) = st.made.map Mo.t ++ (((st.time, Pn.go true w s k) :: (cuL (st.time + s) l).zip l).filter fun p => !isWt p.2).map (·.1)
        rw [List.filter_cons_of_pos (by simp [isWt]), List.map_append, List.append_assoc]
        rfl
    | thn _ _ => exact hq.elim
    | again _ _ => exact hq.elim
theorem made_cues {w : Rat} {l : List Pn} (h : ∀ q ∈ l, IsStep q) : (stF w b l).made.map (·.t) = (((cuL b l).zip l).filter fun p => !isWt p.2).map (·.1) := by
  have := made_cu l ⟨[], w, b⟩ h
  unfold stF
  simpa using this
theorem eL_ge : ∀ (l : List Pn) (b : Rat), (∀ q ∈ l, 0 ≤ sizeP q) → b ≤ enL b l
  | [], _, _ => Rat.le_refl
  | q :: l, b, h => by
    have ih := eL_ge l (b + sizeP q) fun r hr => h r (List.mem_cons_of_mem _ hr)
    have hq := h q List.mem_cons_self
    show b ≤ enL (b + sizeP q) l
    grind
theorem eL_le {l : List Pn} {i : Nat} (h : ∀ q ∈ l, 0 ≤ sizeP q) : enL b (l.take i) ≤ enL b l := by
  have e : enL b l = enL (enL b (l.take i)) (l.drop i) := by rw [← eL_app, List.take_append_drop]
  rw [e]
  exact eL_ge _ _ fun q hq => h q (List.mem_of_mem_drop hq)
theorem stepAt_end {l : List Pn} (h : ∀ q ∈ l, 0 ≤ sizeP q) : stepAt (enL b l) b l = none := stepAt_none fun j hj => by
  unfold onB
  have := eL_le (b := b) (i := j + 1) h
  rw [decide_eq_false (Rat.not_lt.mpr this), Bool.and_false]
theorem step_pos {q : Pn} (h1 : IsStep q) {z : Nat} (h2 : PnZ z 1 q) : 0 ≤ sizeP q := by
  cases q with
  | wait s => exact Rat.le_of_lt h2.1
  | go by_ w s k => exact Rat.le_of_lt h2.2.1
  | thn _ _ => exact h1.elim
  | again _ _ => exact h1.elim
theorem word_sl {q : Pn} : wordP (slP c q) = wordP q := by
  cases q <;> rfl
theorem kinds_sl {l : List Pn} : kindsD (l.map (slP c)) = kindsD l := by
  have e : (l.map (slP c)).map wordP = l.map wordP := by
    rw [List.map_map]
    exact List.map_congr_left fun q _ => word_sl
  unfold kindsD
  rw [e]
theorem cu_mem : ∀ {l : List Pn} {b y : Rat}, y ∈ cuL b l → ∃ i, i < l.length ∧ y = enL b (l.take i)
  | [], _, _, h => by cases h
  | q :: l, b, y, h => by
    rcases List.mem_cons.mp h with rfl | h
    · exact ⟨0, Nat.succ_pos _, rfl⟩
    · obtain ⟨i, h1, h2⟩ := cu_mem h
      exact ⟨i + 1, Nat.succ_lt_succ h1, h2⟩
theorem ix_mapA {α : Type} {h : α → D} {l : List α} {j : Nat} {y : α} {k : D → Prop} (e : l[j]? = some y) : OV (ixv (.lst (l.map h)) (.int (j : Nat))) k = k (h y) := by
  have hj := (List.getElem?_eq_some_iff.mp e).1
  have e2 : ixv (.lst (l.map h)) (.int (j : Nat)) = some (h y) := by
    show (ixN (l.map h).length (j : Int)).bind (fun i => (l.map h)[i]?) = _
    unfold ixN
    rw [if_pos (Int.natCast_nonneg j), if_pos (by rw [List.length_map]; exact_mod_cast hj)]
    show (l.map h)[(j : Int).toNat]? = _
    rw [Int.toNat_natCast, List.getElem?_map, e]
    rfl
  rw [e2]
  rfl
theorem kinds_dq {l : List Pn} : Dq (kindsD l) 3 := by
  refine ⟨?_⟩
  unfold kindsD D.dep
  have key : ∀ L : List PySem.Str, (∀ w ∈ L, PySem.PyData.strOk w = true) → D.deps (L.map fun w => .tup [.str w, .int (countW w (l.map wordP) : Nat)]) ≤ 1 := by
    intro L
    induction L with
    | nil => intro _; exact Nat.zero_le _
    | cons w L ih =>
      intro h
      rw [List.map_cons]
      unfold D.deps
      have h1 := ih fun v hv => h v (List.mem_cons_of_mem _ hv)
      have h2 := h w List.mem_cons_self
      have h3 : D.dep (.tup [.str w, .int (countW w (l.map wordP) : Nat)]) = 1 := by
        simp [D.dep, D.deps, h2]
      omega
  have := key (sortX (nub (l.map wordP))) (sortX_okk fun w hw' => words_ok l w (mem_nub.mp hw'))
  omega
instance {l : List Pn} : Dq (kindsD l) 3 := kinds_dq
theorem c_nenl {x : D} {xs : List D} {n : Nat} {kb : Bool → Prop} [H : Dqs (x :: xs) n] (h : n ≤ 50) : OV (cmpv .ne (.lst (x :: xs)) (.lst [])) kb = kb true := by
  have e := H.h
  have d1 : D.dep (.lst (x :: xs)) ≤ 60 := by unfold D.dep; omega
  have d2 : D.dep (.lst []) ≤ 60 := by unfold D.dep D.deps; omega
  show OV (if deep _ _ = true then some (!D.eqv _ _) else _) kb = _
  unfold deep
  rw [decide_eq_true d1, decide_eq_true d2]
  rfl
theorem c_nenn {kb : Bool → Prop} : OV (cmpv .ne (.lst []) (.lst [])) kb = kb false := by
  have h : cmpv .ne (.lst []) (.lst []) = some false := by kernel_rfl
  rw [h]
  rfl
end
end GW
end

section
namespace Gk54
open PySem PySem.Spec PyProof.Rows GW
abbrev prog : Program := PySem.Challenge.pw_glideways_k54_whole_cues
def top (i : Nat) : Stmt := prog.main.body.getD i (.Pass ⟨0, 0, 0, 0⟩)
def dd (x : Str) (i : Nat) : He.DefD := ⟨(x, none), x, x, L2.defArgs (top i), L2.defBody (top i), L2.defScope (top i), [], []⟩
abbrev i_is_whole : Nat := 0
abbrev i_divisor : Nat := 1
abbrev i_is_frac : Nat := 2
abbrev i_frac : Nat := 3
abbrev i_plus : Nat := 4
abbrev i_times : Nat := 5
abbrev i_is_less : Nat := 6
abbrev i_is_size : Nat := 7
abbrev i_is_plan_in : Nat := 8
abbrev i_is_kind : Nat := 9
abbrev i_is_plan : Nat := 10
abbrev i_look_plan : Nat := 11
abbrev i_size_of : Nat := 12
abbrev i_steps_of : Nat := 13
abbrev i_played : Nat := 14
abbrev i_slower : Nat := 15
abbrev i_long_of : Nat := 16
abbrev i_cues : Nat := 17
abbrev i_step_at : Nat := 18
abbrev i_kinds_used : Nat := 19
abbrev i__law_cell : Nat := 20
abbrev i__law_pick : Nat := 21
abbrev i__law_divisor : Nat := 22
abbrev i__law_made : Nat := 23
abbrev i__law_frac : Nat := 24
abbrev i__law_size : Nat := 25
abbrev i__law_plus : Nat := 26
abbrev i__law_minus : Nat := 27
abbrev i__law_times : Nat := 28
abbrev i__law_over : Nat := 29
abbrev i__law_less : Nat := 30
abbrev i__law_kind : Nat := 31
abbrev i__law_plan : Nat := 32
abbrev i__law_steps : Nat := 33
abbrev i_law : Nat := 34
abbrev x_GlideError : Nat := 0
abbrev x_NoFrac : Nat := 1
abbrev x_NoPlan : Nat := 2
/-- is_whole -/
def F_is_whole : Fn := { name := "is_whole", qual := "is_whole", names := ["thing"], pars := ["thing"], meth := false, body :=
  [.ret (.conj [.isi (.var 0) (.int), .nt (.isi (.var 0) (.bool))])] }
/-- divisor -/
def F_divisor : Fn := { name := "divisor", qual := "divisor", names := ["one", "other"], pars := ["one", "other"], meth := false, body :=
  [.whl (.cmp .ne (.var 1) (.int 0)) [.par [0, 1] [.var 1, .bin .mod (.var 0) (.var 1)]],
   .ret (.bi .abs [.var 0])] }
/-- is_frac -/
def F_is_frac : Fn := { name := "is_frac", qual := "is_frac", names := ["thing"], pars := ["thing"], meth := false, body :=
  [.ite (.disj [.nt (.isi (.var 0) (.tuple)), .cmp .ne (.bi .len [.var 0]) (.int 2), .nt (.call i_is_whole [.ix (.var 0) (.int 0)]), .nt (.call i_is_whole [.ix (.var 0) (.int 1)])]) [.ret (.bl false)] [],
   .ret (.conj [.cmp .gt (.ix (.var 0) (.int 1)) (.int 0), .cmp .eq (.call i_divisor [.ix (.var 0) (.int 0), .ix (.var 0) (.int 1)]) (.int 1)])] }
/-- frac -/
def F_frac : Fn := { name := "frac", qual := "frac", names := ["up", "down", "size"], pars := ["up", "down"], meth := false, body :=
  [.ite (.cmp .eq (.var 1) (.int 0)) [.raise 1] [],
   .asg 2 (.call i_divisor [.var 0, .var 1]),
   .ite (.cmp .lt (.var 1) (.int 0)) [.asg 2 (.bin .sub (.int 0) (.var 2))] [],
   .ret (.tup [.bin .fdiv (.var 0) (.var 2), .bin .fdiv (.var 1) (.var 2)])] }
/-- plus -/
def F_plus : Fn := { name := "plus", qual := "plus", names := ["one", "other"], pars := ["one", "other"], meth := false, body :=
  [.ret (.call i_frac [.bin .add (.bin .mul (.ix (.var 0) (.int 0)) (.ix (.var 1) (.int 1))) (.bin .mul (.ix (.var 1) (.int 0)) (.ix (.var 0) (.int 1))), .bin .mul (.ix (.var 0) (.int 1)) (.ix (.var 1) (.int 1))])] }
/-- times -/
def F_times : Fn := { name := "times", qual := "times", names := ["one", "other"], pars := ["one", "other"], meth := false, body :=
  [.ret (.call i_frac [.bin .mul (.ix (.var 0) (.int 0)) (.ix (.var 1) (.int 0)), .bin .mul (.ix (.var 0) (.int 1)) (.ix (.var 1) (.int 1))])] }
/-- is_less -/
def F_is_less : Fn := { name := "is_less", qual := "is_less", names := ["one", "other"], pars := ["one", "other"], meth := false, body :=
  [.ret (.cmp .lt (.bin .mul (.ix (.var 0) (.int 0)) (.ix (.var 1) (.int 1))) (.bin .mul (.ix (.var 1) (.int 0)) (.ix (.var 0) (.int 1))))] }
/-- is_size -/
def F_is_size : Fn := { name := "is_size", qual := "is_size", names := ["thing"], pars := ["thing"], meth := false, body :=
  [.ret (.conj [.call i_is_frac [.var 0], .call i_is_less [.glo 1, .var 0]])] }
/-- is_plan_in -/
def F_is_plan_in : Fn := { name := "is_plan_in", qual := "is_plan_in", names := ["thing", "deep"], pars := ["thing", "deep"], meth := false, body :=
  [.ite (.disj [.cmp .eq (.var 1) (.int 0), .nt (.isi (.var 0) (.tuple)), .cmp .eq (.var 0) (.tup []), .nt (.isi (.ix (.var 0) (.int 0)) (.str))]) [.ret (.bl false)] [],
   .ite (.cmp .eq (.ix (.var 0) (.int 0)) (.str "go")) [.ret (.conj [.cmp .eq (.bi .len [.var 0]) (.int 4), .call i_is_frac [.ix (.var 0) (.int 1)], .call i_is_size [.ix (.var 0) (.int 2)], .call i_is_kind [.ix (.var 0) (.int 3)]])] [],
   .ite (.cmp .eq (.ix (.var 0) (.int 0)) (.str "by")) [.ret (.conj [.cmp .eq (.bi .len [.var 0]) (.int 4), .call i_is_frac [.ix (.var 0) (.int 1)], .call i_is_size [.ix (.var 0) (.int 2)], .call i_is_kind [.ix (.var 0) (.int 3)]])] [],
   .ite (.cmp .eq (.ix (.var 0) (.int 0)) (.str "wait")) [.ret (.conj [.cmp .eq (.bi .len [.var 0]) (.int 2), .call i_is_size [.ix (.var 0) (.int 1)]])] [],
   .ite (.cmp .eq (.ix (.var 0) (.int 0)) (.str "then")) [.ret (.conj [.cmp .eq (.bi .len [.var 0]) (.int 3), .call i_is_plan_in [.ix (.var 0) (.int 1), .bin .sub (.var 1) (.int 1)], .call i_is_plan_in [.ix (.var 0) (.int 2), .bin .sub (.var 1) (.int 1)]])] [],
   .ite (.disj [.cmp .ne (.ix (.var 0) (.int 0)) (.str "again"), .cmp .ne (.bi .len [.var 0]) (.int 3), .nt (.call i_is_whole [.ix (.var 0) (.int 1)])]) [.ret (.bl false)] [],
   .ret (.conj [.chain .le .le (.int 0) (.ix (.var 0) (.int 1)) (.glo 4), .call i_is_plan_in [.ix (.var 0) (.int 2), .bin .sub (.var 1) (.int 1)]])] }
/-- is_kind -/
def F_is_kind : Fn := { name := "is_kind", qual := "is_kind", names := ["thing"], pars := ["thing"], meth := false, body :=
  [.ret (.conj [.isi (.var 0) (.str), .cmp .in_ (.var 0) (.glo 0)])] }
/-- is_plan -/
def F_is_plan : Fn := { name := "is_plan", qual := "is_plan", names := ["thing"], pars := ["thing"], meth := false, body :=
  [.ret (.call i_is_plan_in [.var 0, .glo 3])] }
/-- look_plan -/
def F_look_plan : Fn := { name := "look_plan", qual := "look_plan", names := ["plan"], pars := ["plan"], meth := false, body :=
  [.ite (.nt (.call i_is_plan [.var 0])) [.raise 2] []] }
/-- size_of -/
def F_size_of : Fn := { name := "size_of", qual := "size_of", names := ["plan"], pars := ["plan"], meth := false, body :=
  [.ite (.cmp .in_ (.ix (.var 0) (.int 0)) (.tup [.str "go", .str "by"])) [.ret (.ix (.var 0) (.int 2))] [],
   .ite (.cmp .eq (.ix (.var 0) (.int 0)) (.str "wait")) [.ret (.ix (.var 0) (.int 1))] [],
   .ite (.cmp .eq (.ix (.var 0) (.int 0)) (.str "then")) [.ret (.call i_plus [.call i_size_of [.ix (.var 0) (.int 1)], .call i_size_of [.ix (.var 0) (.int 2)]])] [],
   .ret (.call i_times [.tup [.ix (.var 0) (.int 1), .int 1], .call i_size_of [.ix (.var 0) (.int 2)]])] }
/-- steps_of -/
def F_steps_of : Fn := { name := "steps_of", qual := "steps_of", names := ["plan"], pars := ["plan"], meth := false, body :=
  [.ite (.cmp .eq (.ix (.var 0) (.int 0)) (.str "then")) [.ret (.bin .add (.call i_steps_of [.ix (.var 0) (.int 1)]) (.call i_steps_of [.ix (.var 0) (.int 2)]))] [],
   .ite (.cmp .eq (.ix (.var 0) (.int 0)) (.str "again")) [.ret (.bin .mul (.call i_steps_of [.ix (.var 0) (.int 2)]) (.ix (.var 0) (.int 1)))] [],
   .ret (.lst [.var 0])] }
/-- played -/
def F_played : Fn := { name := "played", qual := "played", names := ["plan", "worth", "begin", "made", "here", "time", "step", "goal"], pars := ["plan", "worth", "begin"], meth := false, body :=
  [.exp (.call i_look_plan [.var 0]),
   .asg 3 (.lst []),
   .asg 4 (.var 1),
   .asg 5 (.var 2),
   .forS (.nm 6) (.call i_steps_of [.var 0]) [.ite (.cmp .ne (.ix (.var 6) (.int 0)) (.str "wait")) [.asg 7 (.ife (.cmp .eq (.ix (.var 6) (.int 0)) (.str "go")) (.ix (.var 6) (.int 1)) (.call i_plus [.var 4, .ix (.var 6) (.int 1)])),
                 .app (.sl 3) (.tup [.var 4, .var 7, .var 5, .ix (.var 6) (.int 2), .ix (.var 6) (.int 3), .glo 2]),
                 .asg 4 (.var 7)] [],
          .asg 5 (.call i_plus [.var 5, .call i_size_of [.var 6]])],
   .ret (.tup [.var 1, .bi .tuple [.var 3]])] }
/-- slower -/
def F_slower : Fn := { name := "slower", qual := "slower", names := ["plan", "by"], pars := ["plan", "by"], meth := false, body :=
  [.ite (.cmp .in_ (.ix (.var 0) (.int 0)) (.tup [.str "go", .str "by"])) [.ret (.tup [.ix (.var 0) (.int 0), .ix (.var 0) (.int 1), .call i_times [.ix (.var 0) (.int 2), .var 1], .ix (.var 0) (.int 3)])] [],
   .ite (.cmp .eq (.ix (.var 0) (.int 0)) (.str "wait")) [.ret (.tup [.str "wait", .call i_times [.ix (.var 0) (.int 1), .var 1]])] [],
   .ite (.cmp .eq (.ix (.var 0) (.int 0)) (.str "then")) [.ret (.tup [.str "then", .call i_slower [.ix (.var 0) (.int 1), .var 1], .call i_slower [.ix (.var 0) (.int 2), .var 1]])] [],
   .ret (.tup [.str "again", .ix (.var 0) (.int 1), .call i_slower [.ix (.var 0) (.int 2), .var 1]])] }
/-- long_of -/
def F_long_of : Fn := { name := "long_of", qual := "long_of", names := ["step"], pars := ["step"], meth := false, body :=
  [.ret (.ife (.cmp .eq (.ix (.var 0) (.int 0)) (.str "wait")) (.ix (.var 0) (.int 1)) (.ix (.var 0) (.int 2)))] }
/-- cues -/
def F_cues : Fn := { name := "cues", qual := "cues", names := ["plan", "begin", "made", "here", "step"], pars := ["plan", "begin"], meth := false, body :=
  [.exp (.call i_look_plan [.var 0]),
   .asgs [2, 3] [.lst [], .var 1],
   .forS (.nm 4) (.call i_steps_of [.var 0]) [.app (.sl 2) (.var 3),
          .asg 3 (.call i_plus [.var 3, .call i_long_of [.var 4]])],
   .ret (.mov 2)] }
/-- step_at -/
def F_step_at : Fn := { name := "step_at", qual := "step_at", names := ["plan", "begin", "time", "here", "number", "step", "after"], pars := ["plan", "begin", "time"], meth := false, body :=
  [.exp (.call i_look_plan [.var 0]),
   .asg 3 (.var 1),
   .forS (.tp [4, 5]) (.enum (.call i_steps_of [.var 0])) [.asg 6 (.call i_plus [.var 3, .call i_long_of [.var 5]]),
          .ite (.conj [.nt (.call i_is_less [.var 2, .var 3]), .call i_is_less [.var 2, .var 6]]) [.ret (.var 4)] [],
          .asg 3 (.var 6)],
   .ret (.non)] }
/-- kinds_used -/
def F_kinds_used : Fn := { name := "kinds_used", qual := "kinds_used", names := ["plan", "words", "step", "word"], pars := ["plan"], meth := false, body :=
  [.exp (.call i_look_plan [.var 0]),
   .asg 1 (.fz (.lc [2] (.nm 2) (.call i_steps_of [.var 0]) [] (.ife (.cmp .ne (.ix (.var 2) (.int 0)) (.str "wait")) (.ix (.var 2) (.int 3)) (.str "wait")))),
   .ret (.lc [3] (.nm 3) (.bi .sset [.var 1]) [] (.tup [.var 3, .mt .count (.var 1) [.var 3]]))] }
/-- _law_cell -/
def F__law_cell : Fn := { name := "_law_cell", qual := "_law_cell", names := ["_law_script", "_law_k"], pars := ["_law_script", "_law_k"], meth := false, body :=
  [.ite (.cmp .lt (.var 1) (.bi .len [.var 0])) [.ret (.ix (.var 0) (.var 1))] [],
   .ite (.cmp .eq (.var 0) (.lst [])) [.ret (.int 0)] [],
   .ret (.bin .add (.bin .mul (.ix (.var 0) (.bin .mod (.var 1) (.bi .len [.var 0]))) (.int 31)) (.var 1))] }
/-- _law_pick -/
def F__law_pick : Fn := { name := "_law_pick", qual := "_law_pick", names := ["_law_script", "_law_k", "_law_many", "_law_drawn"], pars := ["_law_script", "_law_k", "_law_many"], meth := false, body :=
  [.asg 3 (.bin .mod (.bin .mul (.bin .add (.call i__law_cell [.var 0, .var 1]) (.bin .mul (.int 6151) (.bin .add (.var 1) (.int 1)))) (.int 40692)) (.int 2147483399)),
   .ret (.bin .mod (.bin .mod (.bin .add (.bin .mul (.var 3) (.var 3)) (.bin .fdiv (.var 3) (.int 31))) (.int 2147483629)) (.var 2))] }
/-- _law_divisor -/
def F__law_divisor : Fn := { name := "_law_divisor", qual := "_law_divisor", names := ["_law_one", "_law_other"], pars := ["_law_one", "_law_other"], meth := false, body :=
  [.whl (.cmp .ne (.var 1) (.int 0)) [.par [0, 1] [.var 1, .bin .mod (.var 0) (.var 1)]],
   .ret (.bi .abs [.var 0])] }
/-- _law_made -/
def F__law_made : Fn := { name := "_law_made", qual := "_law_made", names := ["_law_up", "_law_down", "_law_size_here"], pars := ["_law_up", "_law_down"], meth := false, body :=
  [.asg 2 (.bin .mul (.call i__law_divisor [.var 0, .var 1]) (.ife (.cmp .gt (.var 1) (.int 0)) (.int 1) (.neg (.int 1)))),
   .ret (.tup [.bin .fdiv (.var 0) (.var 2), .bin .fdiv (.var 1) (.var 2)])] }
/-- _law_frac -/
def F__law_frac : Fn := { name := "_law_frac", qual := "_law_frac", names := ["_law_script", "_law_at", "_law_down"], pars := ["_law_script", "_law_at"], meth := false, body :=
  [.asg 2 (.bin .add (.int 1) (.call i__law_pick [.var 0, .var 1, .int 4])),
   .ret (.call i__law_made [.bin .sub (.call i__law_pick [.var 0, .bin .add (.var 1) (.int 1), .bin .add (.bin .mul (.int 12) (.var 2)) (.int 1)]) (.bin .mul (.int 6) (.var 2)), .var 2])] }
/-- _law_size -/
def F__law_size : Fn := { name := "_law_size", qual := "_law_size", names := ["_law_script", "_law_at", "_law_down"], pars := ["_law_script", "_law_at"], meth := false, body :=
  [.asg 2 (.bin .add (.int 1) (.call i__law_pick [.var 0, .var 1, .int 3])),
   .ret (.call i__law_made [.bin .add (.int 1) (.call i__law_pick [.var 0, .bin .add (.var 1) (.int 1), .bin .mul (.int 6) (.var 2)]), .var 2])] }
/-- _law_plus -/
def F__law_plus : Fn := { name := "_law_plus", qual := "_law_plus", names := ["_law_one", "_law_other"], pars := ["_law_one", "_law_other"], meth := false, body :=
  [.ret (.call i__law_made [.bin .add (.bin .mul (.ix (.var 0) (.int 0)) (.ix (.var 1) (.int 1))) (.bin .mul (.ix (.var 1) (.int 0)) (.ix (.var 0) (.int 1))), .bin .mul (.ix (.var 0) (.int 1)) (.ix (.var 1) (.int 1))])] }
/-- _law_minus -/
def F__law_minus : Fn := { name := "_law_minus", qual := "_law_minus", names := ["_law_one", "_law_other"], pars := ["_law_one", "_law_other"], meth := false, body :=
  [.ret (.call i__law_made [.bin .sub (.bin .mul (.ix (.var 0) (.int 0)) (.ix (.var 1) (.int 1))) (.bin .mul (.ix (.var 1) (.int 0)) (.ix (.var 0) (.int 1))), .bin .mul (.ix (.var 0) (.int 1)) (.ix (.var 1) (.int 1))])] }
/-- _law_times -/
def F__law_times : Fn := { name := "_law_times", qual := "_law_times", names := ["_law_one", "_law_other"], pars := ["_law_one", "_law_other"], meth := false, body :=
  [.ret (.call i__law_made [.bin .mul (.ix (.var 0) (.int 0)) (.ix (.var 1) (.int 0)), .bin .mul (.ix (.var 0) (.int 1)) (.ix (.var 1) (.int 1))])] }
/-- _law_over -/
def F__law_over : Fn := { name := "_law_over", qual := "_law_over", names := ["_law_one", "_law_other"], pars := ["_law_one", "_law_other"], meth := false, body :=
  [.ret (.call i__law_made [.bin .mul (.ix (.var 0) (.int 0)) (.ix (.var 1) (.int 1)), .bin .mul (.ix (.var 0) (.int 1)) (.ix (.var 1) (.int 0))])] }
/-- _law_less -/
def F__law_less : Fn := { name := "_law_less", qual := "_law_less", names := ["_law_one", "_law_other"], pars := ["_law_one", "_law_other"], meth := false, body :=
  [.ret (.cmp .lt (.bin .mul (.ix (.var 0) (.int 0)) (.ix (.var 1) (.int 1))) (.bin .mul (.ix (.var 1) (.int 0)) (.ix (.var 0) (.int 1))))] }
/-- _law_kind -/
def F__law_kind : Fn := { name := "_law_kind", qual := "_law_kind", names := ["_law_script", "_law_at"], pars := ["_law_script", "_law_at"], meth := false, body :=
  [.ret (.ix (.lst [.str "even", .str "in", .str "out", .str "both", .str "hold", .str "jump"]) (.call i__law_pick [.var 0, .var 1, .int 6]))] }
/-- _law_plan -/
def F__law_plan : Fn := { name := "_law_plan", qual := "_law_plan", names := ["_law_script", "_law_at", "_law_deep", "_law_way", "_law_step", "_law_word", "_law_one"], pars := ["_law_script", "_law_at", "_law_deep"], meth := false, body :=
  [.asg 3 (.call i__law_pick [.var 0, .var 1, .int 8]),
   .ite (.disj [.cmp .eq (.var 2) (.int 1), .cmp .lt (.var 3) (.int 3)]) [.asg 4 (.call i__law_pick [.var 0, .bin .add (.var 1) (.int 1), .int 5]),
          .ite (.cmp .eq (.var 4) (.int 0)) [.ret (.tup [.str "wait", .call i__law_size [.var 0, .bin .add (.var 1) (.int 2)]])] [],
          .asg 5 (.ife (.cmp .lt (.var 4) (.int 3)) (.str "go") (.str "by")),
          .ret (.tup [.var 5, .call i__law_frac [.var 0, .bin .add (.var 1) (.int 4)], .call i__law_size [.var 0, .bin .add (.var 1) (.int 6)], .call i__law_kind [.var 0, .bin .add (.var 1) (.int 8)]])] [],
   .ite (.cmp .lt (.var 3) (.int 6)) [.asg 6 (.call i__law_plan [.var 0, .bin .add (.bin .mul (.int 3) (.var 1)) (.int 11), .bin .sub (.var 2) (.int 1)]),
          .ret (.tup [.str "then", .var 6, .call i__law_plan [.var 0, .bin .add (.bin .mul (.int 3) (.var 1)) (.int 37), .bin .sub (.var 2) (.int 1)]])] [],
   .ret (.tup [.str "again", .call i__law_pick [.var 0, .bin .add (.var 1) (.int 9), .int 4], .call i__law_plan [.var 0, .bin .add (.bin .mul (.int 3) (.var 1)) (.int 23), .bin .sub (.var 2) (.int 1)]])] }
/-- _law_steps -/
def F__law_steps : Fn := { name := "_law_steps", qual := "_law_steps", names := ["_law_plan_here", "_law_made_here", "_law_again"], pars := ["_law_plan_here"], meth := false, body :=
  [.ite (.cmp .eq (.ix (.var 0) (.int 0)) (.str "then")) [.ret (.bin .add (.call i__law_steps [.ix (.var 0) (.int 1)]) (.call i__law_steps [.ix (.var 0) (.int 2)]))] [],
   .ite (.cmp .eq (.ix (.var 0) (.int 0)) (.str "again")) [.asg 1 (.lst []),
          .forS (.nm 2) (.rng [.ix (.var 0) (.int 1)]) [.ext (.sl 1) (.call i__law_steps [.ix (.var 0) (.int 2)])],
          .ret (.mov 1)] [],
   .ret (.lst [.var 0])] }
/-- law -/
def F_law : Fn := { name := "law", qual := "law", names := ["_law_script", "_law_plan_here", "_law_begin", "_law_some", "_law_due", "_law_here", "_law_step", "_law_told", "_law_ends", "_law_k", "_law_time", "_law_on", "_law_j", "_law_begins", "_law_motion", "_law_words", "_law_word", "_law_by", "_law_slow"], pars := ["_law_script"], meth := false, body :=
  [.asgT [1, 2] (.tup [.call i__law_plan [.var 0, .int 100, .int 3], .call i__law_frac [.var 0, .int 0]]),
   .asgs [3, 4, 5] [.call i__law_steps [.var 1], .lst [], .var 2],
   .forS (.nm 6) (.var 3) [.app (.sl 4) (.var 5),
          .asg 5 (.call i__law_plus [.var 5, .ife (.cmp .eq (.ix (.var 6) (.int 0)) (.str "wait")) (.ix (.var 6) (.int 1)) (.ix (.var 6) (.int 2))])],
   .asg 7 (.call i_cues [.var 1, .var 2]),
   .ite (.disj [.cmp .ne (.var 7) (.var 4), .cmp .ne (.var 5) (.call i__law_plus [.var 2, .call i_size_of [.var 1]])]) [.ret (.bl false)] [],
   .asg 8 (.fz (.bin .add (.sl (.var 4) [.int 1] []) (.lst [.var 5]))),
   .forS (.nm 9) (.rng [.int 5]) [.asg 10 (.fz (.call i__law_plus [.var 2, .call i__law_times [.call i_size_of [.var 1], .call i__law_made [.bin .sub (.call i__law_pick [.var 0, .bin .add (.int 30) (.var 9), .int 9]) (.int 1), .int 6]]])),
          .ite (.cmp .lt (.var 9) (.bop .len (.sl 4) [])) [.asg 10 (.fz (.ife (.cmp .eq (.bin .mod (.var 9) (.int 2)) (.int 0)) (.bop .ix (.sl 4) [.call i__law_pick [.var 0, .bin .add (.int 40) (.var 9), .bop .len (.sl 4) []]]) (.var 10)))] [],
          .asg 11 (.lc [12] (.nm 12) (.rng [.bop .len (.sl 4) []]) [.conj [.nt (.call i__law_less [.var 10, .bop .ix (.sl 4) [.var 12]]), .call i__law_less [.var 10, .ix (.var 8) (.var 12)]]] (.var 12)),
          .ite (.cmp .ne (.call i_step_at [.var 1, .var 2, .var 10]) (.ife (.cmp .ne (.var 11) (.lst [])) (.ix (.var 11) (.int 0)) (.non))) [.ret (.bl false)] []],
   .asg 13 (.lc [14] (.nm 14) (.ix (.call i_played [.var 1, .tup [.int 0, .int 1], .var 2]) (.int 1)) [] (.ix (.var 14) (.int 2))),
   .ite (.cmp .ne (.var 13) (.lc [10, 6] (.tp [10, 6]) (.zip (.var 7) (.var 3)) [.cmp .ne (.ix (.var 6) (.int 0)) (.str "wait")] (.var 10))) [.ret (.bl false)] [],
   .ite (.cmp .isnot (.call i_step_at [.var 1, .var 2, .var 5]) (.non)) [.ret (.bl false)] [],
   .asg 15 (.fz (.lc [6] (.nm 6) (.var 3) [] (.ife (.cmp .ne (.ix (.var 6) (.int 0)) (.str "wait")) (.ix (.var 6) (.int 3)) (.str "wait")))),
   .ite (.cmp .ne (.call i_kinds_used [.var 1]) (.lc [16] (.nm 16) (.bi .sset [.var 15]) [] (.tup [.var 16, .mt .count (.var 15) [.var 16]]))) [.ret (.bl false)] [],
   .asg 17 (.fz (.call i__law_size [.var 0, .int 20])),
   .asg 18 (.lc [10] (.nm 10) (.var 7) [] (.call i__law_plus [.var 2, .call i__law_times [.var 17, .call i__law_minus [.var 10, .var 2]]])),
   .ret (.conj [.cmp .eq (.call i_cues [.call i_slower [.var 1, .var 17], .var 2]) (.var 18), .cmp .eq (.call i_kinds_used [.call i_slower [.var 1, .var 17]]) (.call i_kinds_used [.var 1])])] }
def G : Prog := { fns := [F_is_whole, F_divisor, F_is_frac, F_frac, F_plus, F_times, F_is_less, F_is_size, F_is_plan_in, F_is_kind, F_is_plan, F_look_plan, F_size_of, F_steps_of, F_played, F_slower, F_long_of, F_cues, F_step_at, F_kinds_used, F__law_cell, F__law_pick, F__law_divisor, F__law_made, F__law_frac, F__law_size, F__law_plus, F__law_minus, F__law_times, F__law_over, F__law_less, F__law_kind, F__law_plan, F__law_steps, F_law], glos := [("KINDS", .tup [.str "even", .str "in", .str "out", .str "both", .str "hold", .str "jump"]), ("NONE", .tup [.int 0, .int 1]), ("STILL", .tup [.tup [.int 0, .int 1], .tup [.int 0, .int 1]]), ("DEEPEST", .int 5), ("MOST", .int 4)], excs := ["GlideError", "NoFrac", "NoPlan"], sup := [[0], [1, 0], [2, 0]], turns := 2 ^ 20000 }
def defs : List He.DefD := [dd "is_whole" 5, dd "divisor" 6, dd "is_frac" 7, dd "frac" 8, dd "plus" 9, dd "times" 10, dd "is_less" 11, dd "is_size" 18, dd "is_plan_in" 19, dd "is_kind" 20, dd "is_plan" 21, dd "look_plan" 22, dd "size_of" 23, dd "steps_of" 24, dd "played" 25, dd "slower" 26, dd "long_of" 28, dd "cues" 29, dd "step_at" 30, dd "kinds_used" 31, dd "_law_cell" 33, dd "_law_pick" 34, dd "_law_divisor" 35, dd "_law_made" 36, dd "_law_frac" 37, dd "_law_size" 38, dd "_law_plus" 39, dd "_law_minus" 40, dd "_law_times" 41, dd "_law_over" 42, dd "_law_less" 43, dd "_law_kind" 44, dd "_law_plan" 45, dd "_law_steps" 46, dd "law" 47]
theorem ok0 : DefOk G (dd "is_whole" 5) F_is_whole := ⟨rfl, rfl, rfl, rfl, ⟨rfl, rfl, rfl, by decide +kernel, rfl, by decide +kernel, by decide +kernel⟩, by decide +kernel, fun _ _ _ _ _ _ us hl => match us, hl with | [_], _ => rfl⟩
theorem ok1 : DefOk G (dd "divisor" 6) F_divisor := ⟨rfl, rfl, rfl, rfl, ⟨rfl, rfl, rfl, by decide +kernel, rfl, by decide +kernel, by decide +kernel⟩, by decide +kernel, fun _ _ _ _ _ _ us hl => match us, hl with | [_, _], _ => rfl⟩
theorem ok2 : DefOk G (dd "is_frac" 7) F_is_frac := ⟨rfl, rfl, rfl, rfl, ⟨rfl, rfl, rfl, by decide +kernel, rfl, by decide +kernel, by decide +kernel⟩, by decide +kernel, fun _ _ _ _ _ _ us hl => match us, hl with | [_], _ => rfl⟩
theorem ok3 : DefOk G (dd "frac" 8) F_frac := ⟨rfl, rfl, rfl, rfl, ⟨rfl, rfl, rfl, by decide +kernel, rfl, by decide +kernel, by decide +kernel⟩, by decide +kernel, fun _ _ _ _ _ _ us hl => match us, hl with | [_, _], _ => rfl⟩
theorem ok4 : DefOk G (dd "plus" 9) F_plus := ⟨rfl, rfl, rfl, rfl, ⟨rfl, rfl, rfl, by decide +kernel, rfl, by decide +kernel, by decide +kernel⟩, by decide +kernel, fun _ _ _ _ _ _ us hl => match us, hl with | [_, _], _ => rfl⟩
theorem ok5 : DefOk G (dd "times" 10) F_times := ⟨rfl, rfl, rfl, rfl, ⟨rfl, rfl, rfl, by decide +kernel, rfl, by decide +kernel, by decide +kernel⟩, by decide +kernel, fun _ _ _ _ _ _ us hl => match us, hl with | [_, _], _ => rfl⟩
theorem ok6 : DefOk G (dd "is_less" 11) F_is_less := ⟨rfl, rfl, rfl, rfl, ⟨rfl, rfl, rfl, by decide +kernel, rfl, by decide +kernel, by decide +kernel⟩, by decide +kernel, fun _ _ _ _ _ _ us hl => match us, hl with | [_, _], _ => rfl⟩
theorem ok7 : DefOk G (dd "is_size" 18) F_is_size := ⟨rfl, rfl, rfl, rfl, ⟨rfl, rfl, rfl, by decide +kernel, rfl, by decide +kernel, by decide +kernel⟩, by decide +kernel, fun _ _ _ _ _ _ us hl => match us, hl with | [_], _ => rfl⟩
theorem ok8 : DefOk G (dd "is_plan_in" 19) F_is_plan_in := ⟨rfl, rfl, rfl, rfl, ⟨rfl, rfl, rfl, by decide +kernel, rfl, by decide +kernel, by decide +kernel⟩, by decide +kernel, fun _ _ _ _ _ _ us hl => match us, hl with | [_, _], _ => rfl⟩
theorem ok9 : DefOk G (dd "is_kind" 20) F_is_kind := ⟨rfl, rfl, rfl, rfl, ⟨rfl, rfl, rfl, by decide +kernel, rfl, by decide +kernel, by decide +kernel⟩, by decide +kernel, fun _ _ _ _ _ _ us hl => match us, hl with | [_], _ => rfl⟩
theorem ok10 : DefOk G (dd "is_plan" 21) F_is_plan := ⟨rfl, rfl, rfl, rfl, ⟨rfl, rfl, rfl, by decide +kernel, rfl, by decide +kernel, by decide +kernel⟩, by decide +kernel, fun _ _ _ _ _ _ us hl => match us, hl with | [_], _ => rfl⟩
theorem ok11 : DefOk G (dd "look_plan" 22) F_look_plan := ⟨rfl, rfl, rfl, rfl, ⟨rfl, rfl, rfl, by decide +kernel, rfl, by decide +kernel, by decide +kernel⟩, by decide +kernel, fun _ _ _ _ _ _ us hl => match us, hl with | [_], _ => rfl⟩
theorem ok12 : DefOk G (dd "size_of" 23) F_size_of := ⟨rfl, rfl, rfl, rfl, ⟨rfl, rfl, rfl, by decide +kernel, rfl, by decide +kernel, by decide +kernel⟩, by decide +kernel, fun _ _ _ _ _ _ us hl => match us, hl with | [_], _ => rfl⟩
theorem ok13 : DefOk G (dd "steps_of" 24) F_steps_of := ⟨rfl, rfl, rfl, rfl, ⟨rfl, rfl, rfl, by decide +kernel, rfl, by decide +kernel, by decide +kernel⟩, by decide +kernel, fun _ _ _ _ _ _ us hl => match us, hl with | [_], _ => rfl⟩
theorem ok14 : DefOk G (dd "played" 25) F_played := ⟨rfl, rfl, rfl, rfl, ⟨rfl, rfl, rfl, by decide +kernel, rfl, by decide +kernel, by decide +kernel⟩, by decide +kernel, fun _ _ _ _ _ _ us hl => match us, hl with | [_, _, _], _ => rfl⟩
theorem ok15 : DefOk G (dd "slower" 26) F_slower := ⟨rfl, rfl, rfl, rfl, ⟨rfl, rfl, rfl, by decide +kernel, rfl, by decide +kernel, by decide +kernel⟩, by decide +kernel, fun _ _ _ _ _ _ us hl => match us, hl with | [_, _], _ => rfl⟩
theorem ok16 : DefOk G (dd "long_of" 28) F_long_of := ⟨rfl, rfl, rfl, rfl, ⟨rfl, rfl, rfl, by decide +kernel, rfl, by decide +kernel, by decide +kernel⟩, by decide +kernel, fun _ _ _ _ _ _ us hl => match us, hl with | [_], _ => rfl⟩
theorem ok17 : DefOk G (dd "cues" 29) F_cues := ⟨rfl, rfl, rfl, rfl, ⟨rfl, rfl, rfl, by decide +kernel, rfl, by decide +kernel, by decide +kernel⟩, by decide +kernel, fun _ _ _ _ _ _ us hl => match us, hl with | [_, _], _ => rfl⟩
theorem ok18 : DefOk G (dd "step_at" 30) F_step_at := ⟨rfl, rfl, rfl, rfl, ⟨rfl, rfl, rfl, by decide +kernel, rfl, by decide +kernel, by decide +kernel⟩, by decide +kernel, fun _ _ _ _ _ _ us hl => match us, hl with | [_, _, _], _ => rfl⟩
theorem ok19 : DefOk G (dd "kinds_used" 31) F_kinds_used := ⟨rfl, rfl, rfl, rfl, ⟨rfl, rfl, rfl, by decide +kernel, rfl, by decide +kernel, by decide +kernel⟩, by decide +kernel, fun _ _ _ _ _ _ us hl => match us, hl with | [_], _ => rfl⟩
theorem ok20 : DefOk G (dd "_law_cell" 33) F__law_cell := ⟨rfl, rfl, rfl, rfl, ⟨rfl, rfl, rfl, by decide +kernel, rfl, by decide +kernel, by decide +kernel⟩, by decide +kernel, fun _ _ _ _ _ _ us hl => match us, hl with | [_, _], _ => rfl⟩
theorem ok21 : DefOk G (dd "_law_pick" 34) F__law_pick := ⟨rfl, rfl, rfl, rfl, ⟨rfl, rfl, rfl, by decide +kernel, rfl, by decide +kernel, by decide +kernel⟩, by decide +kernel, fun _ _ _ _ _ _ us hl => match us, hl with | [_, _, _], _ => rfl⟩
theorem ok22 : DefOk G (dd "_law_divisor" 35) F__law_divisor := ⟨rfl, rfl, rfl, rfl, ⟨rfl, rfl, rfl, by decide +kernel, rfl, by decide +kernel, by decide +kernel⟩, by decide +kernel, fun _ _ _ _ _ _ us hl => match us, hl with | [_, _], _ => rfl⟩
theorem ok23 : DefOk G (dd "_law_made" 36) F__law_made := ⟨rfl, rfl, rfl, rfl, ⟨rfl, rfl, rfl, by decide +kernel, rfl, by decide +kernel, by decide +kernel⟩, by decide +kernel, fun _ _ _ _ _ _ us hl => match us, hl with | [_, _], _ => rfl⟩
theorem ok24 : DefOk G (dd "_law_frac" 37) F__law_frac := ⟨rfl, rfl, rfl, rfl, ⟨rfl, rfl, rfl, by decide +kernel, rfl, by decide +kernel, by decide +kernel⟩, by decide +kernel, fun _ _ _ _ _ _ us hl => match us, hl with | [_, _], _ => rfl⟩
theorem ok25 : DefOk G (dd "_law_size" 38) F__law_size := ⟨rfl, rfl, rfl, rfl, ⟨rfl, rfl, rfl, by decide +kernel, rfl, by decide +kernel, by decide +kernel⟩, by decide +kernel, fun _ _ _ _ _ _ us hl => match us, hl with | [_, _], _ => rfl⟩
theorem ok26 : DefOk G (dd "_law_plus" 39) F__law_plus := ⟨rfl, rfl, rfl, rfl, ⟨rfl, rfl, rfl, by decide +kernel, rfl, by decide +kernel, by decide +kernel⟩, by decide +kernel, fun _ _ _ _ _ _ us hl => match us, hl with | [_, _], _ => rfl⟩
theorem ok27 : DefOk G (dd "_law_minus" 40) F__law_minus := ⟨rfl, rfl, rfl, rfl, ⟨rfl, rfl, rfl, by decide +kernel, rfl, by decide +kernel, by decide +kernel⟩, by decide +kernel, fun _ _ _ _ _ _ us hl => match us, hl with | [_, _], _ => rfl⟩
theorem ok28 : DefOk G (dd "_law_times" 41) F__law_times := ⟨rfl, rfl, rfl, rfl, ⟨rfl, rfl, rfl, by decide +kernel, rfl, by decide +kernel, by decide +kernel⟩, by decide +kernel, fun _ _ _ _ _ _ us hl => match us, hl with | [_, _], _ => rfl⟩
theorem ok29 : DefOk G (dd "_law_over" 42) F__law_over := ⟨rfl, rfl, rfl, rfl, ⟨rfl, rfl, rfl, by decide +kernel, rfl, by decide +kernel, by decide +kernel⟩, by decide +kernel, fun _ _ _ _ _ _ us hl => match us, hl with | [_, _], _ => rfl⟩
theorem ok30 : DefOk G (dd "_law_less" 43) F__law_less := ⟨rfl, rfl, rfl, rfl, ⟨rfl, rfl, rfl, by decide +kernel, rfl, by decide +kernel, by decide +kernel⟩, by decide +kernel, fun _ _ _ _ _ _ us hl => match us, hl with | [_, _], _ => rfl⟩
theorem ok31 : DefOk G (dd "_law_kind" 44) F__law_kind := ⟨rfl, rfl, rfl, rfl, ⟨rfl, rfl, rfl, by decide +kernel, rfl, by decide +kernel, by decide +kernel⟩, by decide +kernel, fun _ _ _ _ _ _ us hl => match us, hl with | [_, _], _ => rfl⟩
theorem ok32 : DefOk G (dd "_law_plan" 45) F__law_plan := ⟨rfl, rfl, rfl, rfl, ⟨rfl, rfl, rfl, by decide +kernel, rfl, by decide +kernel, by decide +kernel⟩, by decide +kernel, fun _ _ _ _ _ _ us hl => match us, hl with | [_, _, _], _ => rfl⟩
theorem ok33 : DefOk G (dd "_law_steps" 46) F__law_steps := ⟨rfl, rfl, rfl, rfl, ⟨rfl, rfl, rfl, by decide +kernel, rfl, by decide +kernel, by decide +kernel⟩, by decide +kernel, fun _ _ _ _ _ _ us hl => match us, hl with | [_], _ => rfl⟩
theorem ok34 : DefOk G (dd "law" 47) F_law := ⟨rfl, rfl, rfl, rfl, ⟨rfl, rfl, rfl, by decide +kernel, rfl, by decide +kernel, by decide +kernel⟩, by decide +kernel, fun _ _ _ _ _ _ us hl => match us, hl with | [_], _ => rfl⟩
theorem oks : DefsOk G defs G.fns := .cons ok0 (.cons ok1 (.cons ok2 (.cons ok3 (.cons ok4 (.cons ok5 (.cons ok6 (.cons ok7 (.cons ok8 (.cons ok9 (.cons ok10 (.cons ok11 (.cons ok12 (.cons ok13 (.cons ok14 (.cons ok15 (.cons ok16 (.cons ok17 (.cons ok18 (.cons ok19 (.cons ok20 (.cons ok21 (.cons ok22 (.cons ok23 (.cons ok24 (.cons ok25 (.cons ok26 (.cons ok27 (.cons ok28 (.cons ok29 (.cons ok30 (.cons ok31 (.cons ok32 (.cons ok33 (.cons ok34 (.nil)))))))))))))))))))))))))))))))))))
abbrev hk : PySem.W.Hook := He.hookX 5 (faOf G) defs (tsOf G) [] (exB G)
def ob (s : PySem.W.SharedT) : He.AlX := He.obsX 5 (faOf G) defs (tsOf G) [] (exB G) (HandSHeadRun.getT s)
theorem ob_eq (s : PySem.W.SharedT) : ob s = hk.obs s.abs := He.obsX_eq (HandSHeadRun.getT_eq s)
abbrev loose : List Str := [Str.ofString "GlideError", Str.ofString "NoFrac", Str.ofString "NoPlan", Str.ofString "is_whole", Str.ofString "divisor", Str.ofString "is_frac", Str.ofString "frac", Str.ofString "plus", Str.ofString "times", Str.ofString "is_less", Str.ofString "KINDS", Str.ofString "NONE", Str.ofString "STILL", Str.ofString "DEEPEST", Str.ofString "MOST", Str.ofString "is_size", Str.ofString "is_plan_in", Str.ofString "is_kind", Str.ofString "is_plan", Str.ofString "look_plan", Str.ofString "size_of", Str.ofString "steps_of", Str.ofString "played", Str.ofString "slower", Str.ofString "long_of", Str.ofString "cues", Str.ofString "step_at", Str.ofString "kinds_used", Str.ofString "_law_cell", Str.ofString "_law_pick", Str.ofString "_law_divisor", Str.ofString "_law_made", Str.ofString "_law_frac", Str.ofString "_law_size", Str.ofString "_law_plus", Str.ofString "_law_minus", Str.ofString "_law_times", Str.ofString "_law_over", Str.ofString "_law_less", Str.ofString "_law_kind", Str.ofString "_law_plan", Str.ofString "_law_steps"]
abbrev iLaw : Nat := 47
abbrev fLaw : Nat := i_law
end Gk54
end

section
namespace Gk54
open PySem PySem.Spec PyProof.Rows GW
theorem run_eq (w : World) : HandSHeadRun.RunEq (PySem.W.OpenLaw.row PySem.Challenge.rw_glideways_k54_whole_cues) (PySem.W.view (PySem.W.OpenLaw.row PySem.Challenge.rw_glideways_k54_whole_cues).prog [iLaw]) hk ob 6000 loose w := by
  intro os
  kernel_rfl
end Gk54
open PySem PySem.W PySem.Calls PyProof.Rows GW
theorem Gk54.holds (hlaw : ∀ ns : List Int, ns.length ≤ 63 → (∀ z ∈ ns, Builtin.Int.intBits z ≤ 1048576) → ∃ o, GW.run Gk54.G 60 Gk54.fLaw .non [.lst (ns.map .int)] = .ok (.bl true) o .non) : PySem.Challenge.rw_glideways_k54_whole_cues.Holds := by
  w_on; o_law
  refine HandSHeadRun.head_any (r := OpenLaw.row PySem.Challenge.rw_glideways_k54_whole_cues) (q := view (OpenLaw.row PySem.Challenge.rw_glideways_k54_whole_cues).prog [Gk54.iLaw]) (H := Gk54.hk) (ob := Gk54.ob) (M := 6000) (loose := Gk54.loose) (d := HandSHeadRun.topDef (OpenLaw.row PySem.Challenge.rw_glideways_k54_whole_cues).prog Gk54.iLaw) (kwd := []) Gk54.ob_eq
    (by kernel_rfl) (fun s => by kernel_rfl) Gk54.run_eq (by kernel_rfl) (by kernel_rfl) (by kernel_rfl) (by rfl) (by first | assumption | decide +kernel) (by decide +kernel) ⟨rfl, rfl, rfl, rfl, rfl, by decide +kernel⟩ ?hw ?hc
  case hw => w_witness2
  case hc => exact law_walk (l := PySem.Challenge.rw_glideways_k54_whole_cues) rfl (by kernel_rfl) (by kernel_rfl) (f := Gk54.fLaw) rfl rfl Gk54.oks ⟨rfl, by decide, by decide⟩ hlaw
end

section
namespace Gk54
open GW
theorem en_is_whole {n : Nat} {a0 : D} {r : Res} (h : WS (Prog.rt G (run G n) false) F_is_whole.body [.fz a0] (RI r)) : run G (n + 1) i_is_whole .non [a0] = r := run_of rfl rfl rfl h
theorem en_divisor {n : Nat} {a0 a1 : D} {r : Res} (h : WS (Prog.rt G (run G n) false) F_divisor.body [.fz a0, .fz a1] (RI r)) : run G (n + 1) i_divisor .non [a0, a1] = r := run_of rfl rfl rfl h
theorem en_is_frac {n : Nat} {a0 : D} {r : Res} (h : WS (Prog.rt G (run G n) false) F_is_frac.body [.fz a0] (RI r)) : run G (n + 1) i_is_frac .non [a0] = r := run_of rfl rfl rfl h
theorem en_frac {n : Nat} {a0 a1 : D} {r : Res} (h : WS (Prog.rt G (run G n) false) F_frac.body [.fz a0, .fz a1, .no] (RI r)) : run G (n + 1) i_frac .non [a0, a1] = r := run_of rfl rfl rfl h
theorem en_plus {n : Nat} {a0 a1 : D} {r : Res} (h : WS (Prog.rt G (run G n) false) F_plus.body [.fz a0, .fz a1] (RI r)) : run G (n + 1) i_plus .non [a0, a1] = r := run_of rfl rfl rfl h
theorem en_times {n : Nat} {a0 a1 : D} {r : Res} (h : WS (Prog.rt G (run G n) false) F_times.body [.fz a0, .fz a1] (RI r)) : run G (n + 1) i_times .non [a0, a1] = r := run_of rfl rfl rfl h
theorem en_is_less {n : Nat} {a0 a1 : D} {r : Res} (h : WS (Prog.rt G (run G n) false) F_is_less.body [.fz a0, .fz a1] (RI r)) : run G (n + 1) i_is_less .non [a0, a1] = r := run_of rfl rfl rfl h
theorem en_is_size {n : Nat} {a0 : D} {r : Res} (h : WS (Prog.rt G (run G n) false) F_is_size.body [.fz a0] (RI r)) : run G (n + 1) i_is_size .non [a0] = r := run_of rfl rfl rfl h
theorem en_is_plan_in {n : Nat} {a0 a1 : D} {r : Res} (h : WS (Prog.rt G (run G n) false) F_is_plan_in.body [.fz a0, .fz a1] (RI r)) : run G (n + 1) i_is_plan_in .non [a0, a1] = r := run_of rfl rfl rfl h
theorem en_is_kind {n : Nat} {a0 : D} {r : Res} (h : WS (Prog.rt G (run G n) false) F_is_kind.body [.fz a0] (RI r)) : run G (n + 1) i_is_kind .non [a0] = r := run_of rfl rfl rfl h
theorem en_is_plan {n : Nat} {a0 : D} {r : Res} (h : WS (Prog.rt G (run G n) false) F_is_plan.body [.fz a0] (RI r)) : run G (n + 1) i_is_plan .non [a0] = r := run_of rfl rfl rfl h
theorem en_look_plan {n : Nat} {a0 : D} {r : Res} (h : WS (Prog.rt G (run G n) false) F_look_plan.body [.fz a0] (RI r)) : run G (n + 1) i_look_plan .non [a0] = r := run_of rfl rfl rfl h
theorem en_size_of {n : Nat} {a0 : D} {r : Res} (h : WS (Prog.rt G (run G n) false) F_size_of.body [.fz a0] (RI r)) : run G (n + 1) i_size_of .non [a0] = r := run_of rfl rfl rfl h
theorem en_steps_of {n : Nat} {a0 : D} {r : Res} (h : WS (Prog.rt G (run G n) false) F_steps_of.body [.fz a0] (RI r)) : run G (n + 1) i_steps_of .non [a0] = r := run_of rfl rfl rfl h
theorem en_played {n : Nat} {a0 a1 a2 : D} {r : Res} (h : WS (Prog.rt G (run G n) false) F_played.body [.fz a0, .fz a1, .fz a2, .no, .no, .no, .no, .no] (RI r)) : run G (n + 1) i_played .non [a0, a1, a2] = r := run_of rfl rfl rfl h
theorem en_slower {n : Nat} {a0 a1 : D} {r : Res} (h : WS (Prog.rt G (run G n) false) F_slower.body [.fz a0, .fz a1] (RI r)) : run G (n + 1) i_slower .non [a0, a1] = r := run_of rfl rfl rfl h
theorem en_long_of {n : Nat} {a0 : D} {r : Res} (h : WS (Prog.rt G (run G n) false) F_long_of.body [.fz a0] (RI r)) : run G (n + 1) i_long_of .non [a0] = r := run_of rfl rfl rfl h
theorem en_cues {n : Nat} {a0 a1 : D} {r : Res} (h : WS (Prog.rt G (run G n) false) F_cues.body [.fz a0, .fz a1, .no, .no, .no] (RI r)) : run G (n + 1) i_cues .non [a0, a1] = r := run_of rfl rfl rfl h
theorem en_step_at {n : Nat} {a0 a1 a2 : D} {r : Res} (h : WS (Prog.rt G (run G n) false) F_step_at.body [.fz a0, .fz a1, .fz a2, .no, .no, .no, .no] (RI r)) : run G (n + 1) i_step_at .non [a0, a1, a2] = r := run_of rfl rfl rfl h
theorem en_kinds_used {n : Nat} {a0 : D} {r : Res} (h : WS (Prog.rt G (run G n) false) F_kinds_used.body [.fz a0, .no, .no, .no] (RI r)) : run G (n + 1) i_kinds_used .non [a0] = r := run_of rfl rfl rfl h
theorem en__law_cell {n : Nat} {a0 a1 : D} {r : Res} (h : WS (Prog.rt G (run G n) false) F__law_cell.body [.fz a0, .fz a1] (RI r)) : run G (n + 1) i__law_cell .non [a0, a1] = r := run_of rfl rfl rfl h
theorem en__law_pick {n : Nat} {a0 a1 a2 : D} {r : Res} (h : WS (Prog.rt G (run G n) false) F__law_pick.body [.fz a0, .fz a1, .fz a2, .no] (RI r)) : run G (n + 1) i__law_pick .non [a0, a1, a2] = r := run_of rfl rfl rfl h
theorem en__law_divisor {n : Nat} {a0 a1 : D} {r : Res} (h : WS (Prog.rt G (run G n) false) F__law_divisor.body [.fz a0, .fz a1] (RI r)) : run G (n + 1) i__law_divisor .non [a0, a1] = r := run_of rfl rfl rfl h
theorem en__law_made {n : Nat} {a0 a1 : D} {r : Res} (h : WS (Prog.rt G (run G n) false) F__law_made.body [.fz a0, .fz a1, .no] (RI r)) : run G (n + 1) i__law_made .non [a0, a1] = r := run_of rfl rfl rfl h
theorem en__law_frac {n : Nat} {a0 a1 : D} {r : Res} (h : WS (Prog.rt G (run G n) false) F__law_frac.body [.fz a0, .fz a1, .no] (RI r)) : run G (n + 1) i__law_frac .non [a0, a1] = r := run_of rfl rfl rfl h
theorem en__law_size {n : Nat} {a0 a1 : D} {r : Res} (h : WS (Prog.rt G (run G n) false) F__law_size.body [.fz a0, .fz a1, .no] (RI r)) : run G (n + 1) i__law_size .non [a0, a1] = r := run_of rfl rfl rfl h
theorem en__law_plus {n : Nat} {a0 a1 : D} {r : Res} (h : WS (Prog.rt G (run G n) false) F__law_plus.body [.fz a0, .fz a1] (RI r)) : run G (n + 1) i__law_plus .non [a0, a1] = r := run_of rfl rfl rfl h
theorem en__law_minus {n : Nat} {a0 a1 : D} {r : Res} (h : WS (Prog.rt G (run G n) false) F__law_minus.body [.fz a0, .fz a1] (RI r)) : run G (n + 1) i__law_minus .non [a0, a1] = r := run_of rfl rfl rfl h
theorem en__law_times {n : Nat} {a0 a1 : D} {r : Res} (h : WS (Prog.rt G (run G n) false) F__law_times.body [.fz a0, .fz a1] (RI r)) : run G (n + 1) i__law_times .non [a0, a1] = r := run_of rfl rfl rfl h
theorem en__law_over {n : Nat} {a0 a1 : D} {r : Res} (h : WS (Prog.rt G (run G n) false) F__law_over.body [.fz a0, .fz a1] (RI r)) : run G (n + 1) i__law_over .non [a0, a1] = r := run_of rfl rfl rfl h
theorem en__law_less {n : Nat} {a0 a1 : D} {r : Res} (h : WS (Prog.rt G (run G n) false) F__law_less.body [.fz a0, .fz a1] (RI r)) : run G (n + 1) i__law_less .non [a0, a1] = r := run_of rfl rfl rfl h
theorem en__law_kind {n : Nat} {a0 a1 : D} {r : Res} (h : WS (Prog.rt G (run G n) false) F__law_kind.body [.fz a0, .fz a1] (RI r)) : run G (n + 1) i__law_kind .non [a0, a1] = r := run_of rfl rfl rfl h
theorem en__law_plan {n : Nat} {a0 a1 a2 : D} {r : Res} (h : WS (Prog.rt G (run G n) false) F__law_plan.body [.fz a0, .fz a1, .fz a2, .no, .no, .no, .no] (RI r)) : run G (n + 1) i__law_plan .non [a0, a1, a2] = r := run_of rfl rfl rfl h
theorem en__law_steps {n : Nat} {a0 : D} {r : Res} (h : WS (Prog.rt G (run G n) false) F__law_steps.body [.fz a0, .no, .no] (RI r)) : run G (n + 1) i__law_steps .non [a0] = r := run_of rfl rfl rfl h
theorem en_law {n : Nat} {a0 : D} {r : Res} (h : WS (Prog.rt G (run G n) false) F_law.body [.fz a0, .no, .no, .no, .no, .no, .no, .no, .no, .no, .no, .no, .no, .no, .no, .no, .no, .no, .no] (RI r)) : run G (n + 1) i_law .non [a0] = r := run_of rfl rfl rfl h
theorem gl_KINDS {call : Nat → D → List D → Res} {mt : Bool} {k : D → Prop} : OV ((Prog.rt G call mt).glob 0) k = k (.tup [.str "even", .str "in", .str "out", .str "both", .str "hold", .str "jump"]) := rfl
theorem gl_NONE {call : Nat → D → List D → Res} {mt : Bool} {k : D → Prop} : OV ((Prog.rt G call mt).glob 1) k = k (fr 0) := rfl
theorem gl_STILL {call : Nat → D → List D → Res} {mt : Bool} {k : D → Prop} : OV ((Prog.rt G call mt).glob 2) k = k (.tup [fr 0, fr 0]) := rfl
theorem gl_DEEPEST {call : Nat → D → List D → Res} {mt : Bool} {k : D → Prop} : OV ((Prog.rt G call mt).glob 3) k = k (.int 5) := rfl
theorem gl_MOST {call : Nat → D → List D → Res} {mt : Bool} {k : D → Prop} : OV ((Prog.rt G call mt).glob 4) k = k (.int 4) := rfl
theorem cv_tk0_0 {call : Nat → D → List D → Res} {ss : List Ps} {Q : Flow → Prop} {ρ : Env} {m k : Nat} : TK (Prog.rt G call false) 0 m k ss Q (.exn 0 ρ) = SX k (.fz (.exc 0)) ρ fun ρ => SX m .no ρ fun ρ => WS (Prog.rt G call false) ss ρ Q := tk_exnn rfl
theorem cv_tk1_1 {call : Nat → D → List D → Res} {ss : List Ps} {Q : Flow → Prop} {ρ : Env} {m k : Nat} : TK (Prog.rt G call false) 1 m k ss Q (.exn 1 ρ) = SX k (.fz (.exc 1)) ρ fun ρ => SX m .no ρ fun ρ => WS (Prog.rt G call false) ss ρ Q := tk_exnn rfl
theorem cv_tk1_0 {call : Nat → D → List D → Res} {ss : List Ps} {Q : Flow → Prop} {ρ : Env} {m k : Nat} : TK (Prog.rt G call false) 0 m k ss Q (.exn 1 ρ) = SX k (.fz (.exc 1)) ρ fun ρ => SX m .no ρ fun ρ => WS (Prog.rt G call false) ss ρ Q := tk_exnn rfl
theorem cv_tk2_2 {call : Nat → D → List D → Res} {ss : List Ps} {Q : Flow → Prop} {ρ : Env} {m k : Nat} : TK (Prog.rt G call false) 2 m k ss Q (.exn 2 ρ) = SX k (.fz (.exc 2)) ρ fun ρ => SX m .no ρ fun ρ => WS (Prog.rt G call false) ss ρ Q := tk_exnn rfl
theorem cv_tk2_0 {call : Nat → D → List D → Res} {ss : List Ps} {Q : Flow → Prop} {ρ : Env} {m k : Nat} : TK (Prog.rt G call false) 0 m k ss Q (.exn 2 ρ) = SX k (.fz (.exc 2)) ρ fun ρ => SX m .no ρ fun ρ => WS (Prog.rt G call false) ss ρ Q := tk_exnn rfl
end Gk54
end

section
open GW in
local macro_rules | `(tactic| walk_at "ev") => `(tactic| simp only [↓we_int, ↓we_bl, ↓we_non, ↓we_str, ↓we_tup, ↓we_lst, ↓wl_nil, ↓wl_cons, ↓we_bin, ↓we_cmp, ↓we_chain, ↓we_ix, ↓we_neg, ↓we_nt, ↓we_ife, ↓we_conj, ↓we_disj, ↓wa_nil, ↓wo_nil, ↓wa_cons, ↓wo_cons, ↓we_call, ↓we_bi, ↓we_isi, ↓we_rev, ↓we_sl, ↓we_mt, ↓we_bop, ↓we_rng, ↓we_zip, ↓we_enum, ↓we_gix, ↓we_glo, ↓ws_nil, ↓ws_set, ↓ws_exp, ↓ws_ret, ↓ws_retN, ↓ws_raise, ↓ws_pass, ↓ws_asgT, ↓ws_par, ↓ws_ite, ↓ws_try, ↓ws_whl, ↓th_nx, ↓th_rt, ↓th_exn, ↓th_bk, ↓th_ct, ↓tk_nx, ↓tk_rt, ↓nf_f, ↓nf_l, ↓nf_i, ↓nf_b, ↓nf_t, ↓nf_n, ↓nf_s, ↓nf_x, ↓br_t, ↓br_f, ↓br_n, ↓br_d, ↓ov_s, ↓cw_o, ↓cw_e, ↓wv0, ↓wo0, ↓wm0, ↓wn0, ↓se0f, ↓se0o, ↓sx0, ↓pk0f, ↓pk0o, ↓po0, ↓wv1, ↓wo1, ↓wm1, ↓wn1, ↓se1f, ↓se1o, ↓sx1, ↓pk1f, ↓pk1o, ↓po1, ↓wv2, ↓wo2, ↓wm2, ↓wn2, ↓se2f, ↓se2o, ↓sx2, ↓pk2f, ↓pk2o, ↓po2, ↓wv3, ↓wo3, ↓wm3, ↓wn3, ↓se3f, ↓se3o, ↓sx3, ↓pk3f, ↓pk3o, ↓po3, ↓wv4, ↓wo4, ↓wm4, ↓wn4, ↓se4f, ↓se4o, ↓sx4, ↓pk4f, ↓pk4o, ↓po4, ↓wv5, ↓wo5, ↓wm5, ↓wn5, ↓se5f, ↓se5o, ↓sx5, ↓pk5f, ↓pk5o, ↓po5, ↓wv6, ↓wo6, ↓wm6, ↓wn6, ↓se6f, ↓se6o, ↓sx6, ↓pk6f, ↓pk6o, ↓po6, ↓wv7, ↓wo7, ↓wm7, ↓wn7, ↓se7f, ↓se7o, ↓sx7, ↓pk7f, ↓pk7o, ↓po7, ↓wv8, ↓wo8, ↓wm8, ↓wn8, ↓se8f, ↓se8o, ↓sx8, ↓pk8f, ↓pk8o, ↓po8, ↓wv9, ↓wo9, ↓wm9, ↓wn9, ↓se9f, ↓se9o, ↓sx9, ↓pk9f, ↓pk9o, ↓po9, ↓wv10, ↓wo10, ↓wm10, ↓wn10, ↓se10f, ↓se10o, ↓sx10, ↓pk10f, ↓pk10o, ↓po10, ↓wv11, ↓wo11, ↓wm11, ↓wn11, ↓se11f, ↓se11o, ↓sx11, ↓pk11f, ↓pk11o, ↓po11, ↓wv12, ↓wo12, ↓wm12, ↓wn12, ↓se12f, ↓se12o, ↓sx12, ↓pk12f, ↓pk12o, ↓po12, ↓wv13, ↓wo13, ↓wm13, ↓wn13, ↓se13f, ↓se13o, ↓sx13, ↓pk13f, ↓pk13o, ↓po13, ↓wv14, ↓wo14, ↓wm14, ↓wn14, ↓se14f, ↓se14o, ↓sx14, ↓pk14f, ↓pk14o, ↓po14, ↓wv15, ↓wo15, ↓wm15, ↓wn15, ↓se15f, ↓se15o, ↓sx15, ↓pk15f, ↓pk15o, ↓po15, ↓wv16, ↓wo16, ↓wm16, ↓wn16, ↓se16f, ↓se16o, ↓sx16, ↓pk16f, ↓pk16o, ↓po16, ↓wv17, ↓wo17, ↓wm17, ↓wn17, ↓se17f, ↓se17o, ↓sx17, ↓pk17f, ↓pk17o, ↓po17, ↓wv18, ↓wo18, ↓wm18, ↓wn18, ↓se18f, ↓se18o, ↓sx18, ↓pk18f, ↓pk18o, ↓po18, ↓wv19, ↓wo19, ↓wm19, ↓wn19, ↓se19f, ↓se19o, ↓sx19, ↓pk19f, ↓pk19o, ↓po19, ↓wv20, ↓wo20, ↓wm20, ↓wn20, ↓se20f, ↓se20o, ↓sx20, ↓pk20f, ↓pk20o, ↓po20, ↓wv21, ↓wo21, ↓wm21, ↓wn21, ↓se21f, ↓se21o, ↓sx21, ↓pk21f, ↓pk21o, ↓po21, ↓wv22, ↓wo22, ↓wm22, ↓wn22, ↓se22f, ↓se22o, ↓sx22, ↓pk22f, ↓pk22o, ↓po22, ↓wv23, ↓wo23, ↓wm23, ↓wn23, ↓se23f, ↓se23o, ↓sx23, ↓pk23f, ↓pk23o, ↓po23, ↓wv24, ↓wo24, ↓wm24, ↓wn24, ↓se24f, ↓se24o, ↓sx24, ↓pk24f, ↓pk24o, ↓po24, ↓wv25, ↓wo25, ↓wm25, ↓wn25, ↓se25f, ↓se25o, ↓sx25, ↓pk25f, ↓pk25o, ↓po25, ↓ses_n, ↓ses_c, ↓sep_n, ↓sep_c, ↓ws_appn, ↓ws_extn, ↓b_add, ↓b_addl, ↓b_addt, ↓b_sub, ↓b_mul, ↓b_fdiv, ↓b_mod, ↓b_pow, ↓c_lt, ↓c_le, ↓c_gt, ↓c_ge, ↓c_eq, ↓c_ne, ↓is_n, ↓isn_n, ↓is_b, ↓isn_b, ↓is_i, ↓isn_i, ↓is_s, ↓isn_s, ↓is_t, ↓isn_t, ↓is_l, ↓isn_l, ↓is_x, ↓isn_x, ↓isn_bb, ↓b_mult, ↓is_bb, ↓ix_tup0, ↓ix_lst0, ↓ix_tup1, ↓ix_lst1, ↓ix_tup2, ↓ix_lst2, ↓ix_tup3, ↓ix_lst3, ↓ix_tup4, ↓ix_lst4, ↓ix_tup5, ↓ix_lst5, ↓ix_tup6, ↓ix_lst6, ↓ix_tup7, ↓ix_lst7, ↓ix_tup8, ↓ix_lst8, ↓ix_tup9, ↓ix_lst9, ↓ix_tup10, ↓ix_lst10, ↓ix_tup11, ↓ix_lst11, ↓ix_tup12, ↓ix_lst12, ↓ix_tup13, ↓ix_lst13, ↓ix_tup14, ↓ix_lst14, ↓ix_tup15, ↓ix_lst15, ↓ng, ↓up_t, ↓up_l, ↓it_t, ↓it_l, ↓ls_l, ↓pt_n, ↓pt_i, ↓rg1, ↓rg2, ↓bi_lenl, ↓bi_lent, ↓bi_abs, ↓bi_lil, ↓bi_lit, ↓bi_tul, ↓bi_tut, ↓rv_l, ↓ii_non_int, ↓ii_non_bool, ↓ii_non_str, ↓ii_non_tuple, ↓ii_non_list, ↓ii_bl_int, ↓ii_bl_bool, ↓ii_bl_str, ↓ii_bl_tuple, ↓ii_bl_list, ↓ii_int_int, ↓ii_int_bool, ↓ii_int_str, ↓ii_int_tuple, ↓ii_int_list, ↓ii_str_int, ↓ii_str_bool, ↓ii_str_str, ↓ii_str_tuple, ↓ii_str_list, ↓ii_tup_int, ↓ii_tup_bool, ↓ii_tup_str, ↓ii_tup_tuple, ↓ii_tup_list, ↓ii_lst_int, ↓ii_lst_bool, ↓ii_lst_str, ↓ii_lst_tuple, ↓ii_lst_list, ↓nf_fr, ↓ix_fr0, ↓ix_fr1, ↓ii_fr_t, ↓len_fr, ↓c_eqfr, ↓c_nefr, ↓we_fz, ↓ws_asgs, ↓wlo_nil, ↓wlo_cons, ↓pv_n, ↓pv_c, ↓ri_rt, ↓ri_nx, ↓ri_ex, ↓ri_rx, ↓ri_xr, ↓gd_nx, ↓gd_rt, ↓gd_ex, ↓ok_rt, ↓ws_forW, ↓ws_brk, ↓ws_cont, ↓lq_nx, ↓lq_ct, ↓lq_bk, ↓lq_rt, ↓lq_exn, ↓iq_nx, ↓iq_ct, ↓iq_bk, ↓iq_rt, ↓iq_exn, ↓st_n, ↓st_t, ↓sts_n, ↓sts_c, ↓we_lc, ↓now_n, ↓now_c, ↓gs_0, ↓gs_s, ↓io_f, ↓io_n, ↓wp_n, ↓wp_c, ↓ck_even, ↓cn_even, ↓ck_in, ↓cn_in, ↓ck_out, ↓cn_out, ↓ck_both, ↓cn_both, ↓ck_hold, ↓cn_hold, ↓ck_jump, ↓cn_jump, ↓ck_kept, ↓cn_kept, ↓ci_hj, ↓cj_hj, ↓ci_bk, ↓cj_bk, ↓ci_kinds, ↓cj_kinds, ↓gx_turn, ↓up_fr, ↓ok_i, ↓ok_ii, ↓turn_turn, ↓sl_t, ↓sl_l, ↓cut_h1, ↓cut_l1, ↓cut_h2, ↓cut_l2, ↓cut_h3, ↓cut_l3, ↓cut_h4, ↓cut_l4, ↓cut_h5, ↓cut_l5, ↓cut_2_4, ↓r_nn, ↓Gk54.gl_KINDS, ↓Gk54.gl_NONE, ↓Gk54.gl_STILL, ↓Gk54.gl_DEEPEST, ↓Gk54.gl_MOST, decide_eq_true_eq, decide_eq_false_iff_not, Bool.not_eq_true', Bool.not_eq_false', true_and, and_true, and_self, true_implies, false_implies, implies_true, forall_const, not_true_eq_false, not_false_eq_true, Bool.not_true, Bool.not_false, decide_true, decide_false, reduceCtorEq, List.cons_append, List.nil_append, List.append_assoc, not_false_iff, eq_self, Tg.slots])
namespace Gk54
open GW
section
variable {n : Nat} {ρ : Env} {K : D → Bool → Env → Prop} {X : Nat → Env → Prop}
theorem rn_is_whole (hn : 1 ≤ n) (i : Int) : run G n i_is_whole .non [.int i] = .ok (.bl true) false .non := by
  obtain ⟨n, rfl⟩ : ∃ m, n = m + 1 := ⟨n - 1, by omega⟩
  refine en_is_whole ?_
  unfold F_is_whole
  walk_at "ev"
theorem cw_is_whole (hn : 1 ≤ n) {i : Int} : CW ((Prog.rt G (run G n) false).call i_is_whole .non [.int i]) ρ K X = K (.bl true) false ρ := cw_ok (rn_is_whole hn i)
theorem rn_divisor (hn : 1 ≤ n) (a b : Int) (hb : b.natAbs < 2 ^ 20000) : run G n i_divisor .non [.int a, .int b] = .ok (.int (Int.gcd a b)) false .non := by
  obtain ⟨n, rfl⟩ : ∃ m, n = m + 1 := ⟨n - 1, by omega⟩
  refine en_divisor ?_
  unfold F_divisor
  obtain ⟨g, h1, h2⟩ := gcd_loop (R := Prog.rt G (run G n) false) rfl (2 ^ 20000) a b hb
  rw [ws_whl, show (Prog.rt G (run G n) false).turns = 2 ^ 20000 from rfl, h2]
  walk_at "ev"
  rw [h1]
theorem cw_divisor (hn : 1 ≤ n) {a b : Int} (hb : b.natAbs < 2 ^ 20000) : CW ((Prog.rt G (run G n) false).call i_divisor .non [.int a, .int b]) ρ K X = K (.int (Int.gcd a b)) false ρ := cw_ok (rn_divisor hn a b hb)
theorem rn__law_divisor (hn : 1 ≤ n) (a b : Int) (hb : b.natAbs < 2 ^ 20000) : run G n i__law_divisor .non [.int a, .int b] = .ok (.int (Int.gcd a b)) false .non := by
  obtain ⟨n, rfl⟩ : ∃ m, n = m + 1 := ⟨n - 1, by omega⟩
  refine en__law_divisor ?_
  unfold F__law_divisor
  obtain ⟨g, h1, h2⟩ := gcd_loop (R := Prog.rt G (run G n) false) rfl (2 ^ 20000) a b hb
  rw [ws_whl, show (Prog.rt G (run G n) false).turns = 2 ^ 20000 from rfl, h2]
  walk_at "ev"
  rw [h1]
theorem cw__law_divisor (hn : 1 ≤ n) {a b : Int} (hb : b.natAbs < 2 ^ 20000) : CW ((Prog.rt G (run G n) false).call i__law_divisor .non [.int a, .int b]) ρ K X = K (.int (Int.gcd a b)) false ρ := cw_ok (rn__law_divisor hn a b hb)
theorem rn_frac (hn : 2 ≤ n) (u d : Int) (hd : d ≠ 0) (h : d.natAbs < 2 ^ 8000) : run G n i_frac .non [.int u, .int d] = .ok (fr (Rat.divInt u d)) false .non := by
  obtain ⟨n, rfl⟩ : ∃ m, n = m + 1 := ⟨n - 1, by omega⟩
  refine en_frac ?_
  unfold F_frac
  have hb : d.natAbs < 2 ^ 20000 := Nat.lt_of_lt_of_le h (Nat.pow_le_pow_right (by decide) (by decide))
  have hg : Int.gcd u d ≠ 0 := fun z => hd (Int.gcd_eq_zero_iff.mp z).2
  have hl : (Int.gcd u d).log2 < 9000 := log2_lt (Nat.lt_of_le_of_lt (Int.gcd_le_natAbs_right u hd) (Nat.lt_of_lt_of_le h (Nat.pow_le_pow_right (by decide) (by decide)))) (by decide)
  have e1 : (0 - (Int.gcd u d : Int)).natAbs = Int.gcd u d := by omega
  walk_at "ev"
  simp only [cw_ok (rn_divisor (n := n) (by omega) u d hb)]
  walk_at "ev"
  refine ⟨fun z => hd z, fun _ => ⟨fun hn => ?_, fun hp => ?_⟩⟩
  · rw [e1]
    obtain ⟨k1, k2⟩ := divInt_pair (u := u) (d := d) (g := 0 - (Int.gcd u d : Int)) hd e1 (by omega)
    refine ⟨⟨by omega, hl⟩, ⟨by omega, hl⟩, ?_⟩
    rw [k1, k2]
    rfl
  · obtain ⟨k1, k2⟩ := divInt_pair (u := u) (d := d) (g := (Int.gcd u d : Int)) hd (by simp) (by omega)
    refine ⟨⟨by omega, by simpa using hl⟩, ⟨by omega, by simpa using hl⟩, ?_⟩
    rw [k1, k2]
    rfl
theorem rn_frac0 (hn : 1 ≤ n) (u : Int) : run G n i_frac .non [.int u, .int 0] = .exn 1 .non := by
  obtain ⟨n, rfl⟩ : ∃ m, n = m + 1 := ⟨n - 1, by omega⟩
  refine en_frac ?_
  unfold F_frac
  walk_at "ev"
theorem rn__law_made (hn : 2 ≤ n) (u d : Int) (hd : d ≠ 0) (h : d.natAbs < 2 ^ 8000) : run G n i__law_made .non [.int u, .int d] = .ok (fr (Rat.divInt u d)) false .non := by
  obtain ⟨n, rfl⟩ : ∃ m, n = m + 1 := ⟨n - 1, by omega⟩
  refine en__law_made ?_
  unfold F__law_made
  have hb : d.natAbs < 2 ^ 20000 := Nat.lt_of_lt_of_le h (Nat.pow_le_pow_right (by decide) (by decide))
  have hg : Int.gcd u d ≠ 0 := fun z => hd (Int.gcd_eq_zero_iff.mp z).2
  have hl : (Int.gcd u d).log2 < 9000 := log2_lt (Nat.lt_of_le_of_lt (Int.gcd_le_natAbs_right u hd) (Nat.lt_of_lt_of_le h (Nat.pow_le_pow_right (by decide) (by decide)))) (by decide)
  walk_at "ev"
  simp only [cw_ok (rn__law_divisor (n := n) (by omega) u d hb)]
  walk_at "ev"
  refine ⟨fun hp => ?_, fun hn => ?_⟩
  · obtain ⟨k1, k2⟩ := divInt_pair (u := u) (d := d) (g := (Int.gcd u d : Int) * 1) hd (by simp) (by omega)
    have e2 : ((Int.gcd u d : Int) * 1).natAbs = Int.gcd u d := by omega
    rw [k1, k2, e2, show (1 : Int).natAbs = 1 from rfl]
    refine ⟨?_, ⟨by omega, hl⟩, ⟨by omega, hl⟩, rfl⟩
    have : Int.natAbs (Int.gcd u d : Int) = Int.gcd u d := by omega
    rw [this]
    have : Nat.log2 1 = 0 := by decide
    omega
  · obtain ⟨k1, k2⟩ := divInt_pair (u := u) (d := d) (g := (Int.gcd u d : Int) * -1) hd (by omega) (by omega)
    have e2 : ((Int.gcd u d : Int) * -1).natAbs = Int.gcd u d := by omega
    rw [k1, k2, e2, show (-1 : Int).natAbs = 1 from rfl]
    refine ⟨?_, ⟨by omega, hl⟩, ⟨by omega, hl⟩, rfl⟩
    have : Int.natAbs (Int.gcd u d : Int) = Int.gcd u d := by omega
    rw [this]
    have : Nat.log2 1 = 0 := by decide
    omega
theorem rn_plus (hn : 3 ≤ n) (a b : Rat) {i j : Nat} (ha : SzLe a i) (hb : SzLe b j) (h : i + j ≤ 7000) : run G n i_plus .non [fr a, fr b] = .ok (fr (a + b)) false .non := by
  obtain ⟨n, rfl⟩ : ∃ m, n = m + 1 := ⟨n - 1, by omega⟩
  refine en_plus ?_
  unfold F_plus
  have pa := den_lt_pos ha
  have pb := den_lt_pos hb
  have hd : ((a.den : Int) * b.den).natAbs < 2 ^ 8000 := by
    rw [Int.natAbs_mul]
    exact Nat.lt_of_lt_of_le (mul_lt2 ha.di hb.di) (Nat.pow_le_pow_right (by decide) (by omega))
  walk_at "ev"
  refine ⟨mulOk ha.n hb.di pa pb (by omega), mulOk hb.n ha.di pb pa (by omega), mulOk ha.di hb.di pa pb (by omega), ?_⟩
  rw [cw_ok (rn_frac (by omega) _ _ (mul_ne (den_ne a) (den_ne b)) hd), fr_add]
  walk_at "ev"
theorem cw_plus (hn : 3 ≤ n) {a b : Rat} {i j : Nat} [ha : SzLe a i] [hb : SzLe b j] (h : i + j ≤ 7000) : CW ((Prog.rt G (run G n) false).call i_plus .non [fr a, fr b]) ρ K X = K (fr (a + b)) false ρ := cw_ok (rn_plus hn a b ha hb h)
theorem rn_times (hn : 3 ≤ n) (a b : Rat) {i j : Nat} (ha : SzLe a i) (hb : SzLe b j) (h : i + j ≤ 7000) : run G n i_times .non [fr a, fr b] = .ok (fr (a * b)) false .non := by
  obtain ⟨n, rfl⟩ : ∃ m, n = m + 1 := ⟨n - 1, by omega⟩
  refine en_times ?_
  unfold F_times
  have pa := den_lt_pos ha
  have pb := den_lt_pos hb
  have hd : ((a.den : Int) * b.den).natAbs < 2 ^ 8000 := by
    rw [Int.natAbs_mul]
    exact Nat.lt_of_lt_of_le (mul_lt2 ha.di hb.di) (Nat.pow_le_pow_right (by decide) (by omega))
  walk_at "ev"
  refine ⟨mulOk ha.n hb.n pa pb (by omega), mulOk ha.di hb.di pa pb (by omega), ?_⟩
  rw [cw_ok (rn_frac (by omega) _ _ (mul_ne (den_ne a) (den_ne b)) hd), fr_mul]
  walk_at "ev"
theorem cw_times (hn : 3 ≤ n) {a b : Rat} {i j : Nat} [ha : SzLe a i] [hb : SzLe b j] (h : i + j ≤ 7000) : CW ((Prog.rt G (run G n) false).call i_times .non [fr a, fr b]) ρ K X = K (fr (a * b)) false ρ := cw_ok (rn_times hn a b ha hb h)
theorem rn__law_plus (hn : 3 ≤ n) (a b : Rat) {i j : Nat} (ha : SzLe a i) (hb : SzLe b j) (h : i + j ≤ 7000) : run G n i__law_plus .non [fr a, fr b] = .ok (fr (a + b)) false .non := by
  obtain ⟨n, rfl⟩ : ∃ m, n = m + 1 := ⟨n - 1, by omega⟩
  refine en__law_plus ?_
  unfold F__law_plus
  have pa := den_lt_pos ha
  have pb := den_lt_pos hb
  have hd : ((a.den : Int) * b.den).natAbs < 2 ^ 8000 := by
    rw [Int.natAbs_mul]
    exact Nat.lt_of_lt_of_le (mul_lt2 ha.di hb.di) (Nat.pow_le_pow_right (by decide) (by omega))
  walk_at "ev"
  refine ⟨mulOk ha.n hb.di pa pb (by omega), mulOk hb.n ha.di pb pa (by omega), mulOk ha.di hb.di pa pb (by omega), ?_⟩
  rw [cw_ok (rn__law_made (by omega) _ _ (mul_ne (den_ne a) (den_ne b)) hd), fr_add]
  walk_at "ev"
theorem cw__law_plus (hn : 3 ≤ n) {a b : Rat} {i j : Nat} [ha : SzLe a i] [hb : SzLe b j] (h : i + j ≤ 7000) : CW ((Prog.rt G (run G n) false).call i__law_plus .non [fr a, fr b]) ρ K X = K (fr (a + b)) false ρ := cw_ok (rn__law_plus hn a b ha hb h)
theorem rn__law_minus (hn : 3 ≤ n) (a b : Rat) {i j : Nat} (ha : SzLe a i) (hb : SzLe b j) (h : i + j ≤ 7000) : run G n i__law_minus .non [fr a, fr b] = .ok (fr (a - b)) false .non := by
  obtain ⟨n, rfl⟩ : ∃ m, n = m + 1 := ⟨n - 1, by omega⟩
  refine en__law_minus ?_
  unfold F__law_minus
  have pa := den_lt_pos ha
  have pb := den_lt_pos hb
  have hd : ((a.den : Int) * b.den).natAbs < 2 ^ 8000 := by
    rw [Int.natAbs_mul]
    exact Nat.lt_of_lt_of_le (mul_lt2 ha.di hb.di) (Nat.pow_le_pow_right (by decide) (by omega))
  walk_at "ev"
  refine ⟨mulOk ha.n hb.di pa pb (by omega), mulOk hb.n ha.di pb pa (by omega), mulOk ha.di hb.di pa pb (by omega), ?_⟩
  rw [cw_ok (rn__law_made (by omega) _ _ (mul_ne (den_ne a) (den_ne b)) hd), fr_sub]
  walk_at "ev"
theorem cw__law_minus (hn : 3 ≤ n) {a b : Rat} {i j : Nat} [ha : SzLe a i] [hb : SzLe b j] (h : i + j ≤ 7000) : CW ((Prog.rt G (run G n) false).call i__law_minus .non [fr a, fr b]) ρ K X = K (fr (a - b)) false ρ := cw_ok (rn__law_minus hn a b ha hb h)
theorem rn__law_times (hn : 3 ≤ n) (a b : Rat) {i j : Nat} (ha : SzLe a i) (hb : SzLe b j) (h : i + j ≤ 7000) : run G n i__law_times .non [fr a, fr b] = .ok (fr (a * b)) false .non := by
  obtain ⟨n, rfl⟩ : ∃ m, n = m + 1 := ⟨n - 1, by omega⟩
  refine en__law_times ?_
  unfold F__law_times
  have pa := den_lt_pos ha
  have pb := den_lt_pos hb
  have hd : ((a.den : Int) * b.den).natAbs < 2 ^ 8000 := by
    rw [Int.natAbs_mul]
    exact Nat.lt_of_lt_of_le (mul_lt2 ha.di hb.di) (Nat.pow_le_pow_right (by decide) (by omega))
  walk_at "ev"
  refine ⟨mulOk ha.n hb.n pa pb (by omega), mulOk ha.di hb.di pa pb (by omega), ?_⟩
  rw [cw_ok (rn__law_made (by omega) _ _ (mul_ne (den_ne a) (den_ne b)) hd), fr_mul]
  walk_at "ev"
theorem cw__law_times (hn : 3 ≤ n) {a b : Rat} {i j : Nat} [ha : SzLe a i] [hb : SzLe b j] (h : i + j ≤ 7000) : CW ((Prog.rt G (run G n) false).call i__law_times .non [fr a, fr b]) ρ K X = K (fr (a * b)) false ρ := cw_ok (rn__law_times hn a b ha hb h)
theorem rn__law_over (hn : 3 ≤ n) (a b : Rat) (h0 : b ≠ 0) {i j : Nat} (ha : SzLe a i) (hb : SzLe b j) (h : i + j ≤ 7000) : run G n i__law_over .non [fr a, fr b] = .ok (fr (a / b)) false .non := by
  obtain ⟨n, rfl⟩ : ∃ m, n = m + 1 := ⟨n - 1, by omega⟩
  refine en__law_over ?_
  unfold F__law_over
  have pa := den_lt_pos ha
  have pb := den_lt_pos hb
  have hd : ((a.den : Int) * b.num).natAbs < 2 ^ 8000 := by
    rw [Int.natAbs_mul]
    exact Nat.lt_of_lt_of_le (mul_lt2 ha.di hb.n) (Nat.pow_le_pow_right (by decide) (by omega))
  walk_at "ev"
  refine ⟨mulOk ha.n hb.di pa pb (by omega), mulOk ha.di hb.n pa pb (by omega), ?_⟩
  rw [cw_ok (rn__law_made (by omega) _ _ (mul_ne (den_ne a) (num_ne h0)) hd), fr_div]
  walk_at "ev"
theorem cw__law_over (hn : 3 ≤ n) {a b : Rat} (h0 : b ≠ 0) {i j : Nat} [ha : SzLe a i] [hb : SzLe b j] (h : i + j ≤ 7000) : CW ((Prog.rt G (run G n) false).call i__law_over .non [fr a, fr b]) ρ K X = K (fr (a / b)) false ρ := cw_ok (rn__law_over hn a b h0 ha hb h)
theorem rn_is_less (hn : 1 ≤ n) (a b : Rat) {i j : Nat} (ha : SzLe a i) (hb : SzLe b j) (h : i + j ≤ 7000) : run G n i_is_less .non [fr a, fr b] = .ok (.bl (decide (a < b))) false .non := by
  obtain ⟨n, rfl⟩ : ∃ m, n = m + 1 := ⟨n - 1, by omega⟩
  refine en_is_less ?_
  unfold F_is_less
  have pa := den_lt_pos ha
  have pb := den_lt_pos hb
  walk_at "ev"
  refine ⟨mulOk ha.n hb.di pa pb (by omega), mulOk hb.n ha.di pb pa (by omega), ?_⟩
  rw [decide_eq_decide.mpr (Rat.lt_iff a b)]
theorem cw_is_less (hn : 1 ≤ n) {a b : Rat} {i j : Nat} [ha : SzLe a i] [hb : SzLe b j] (h : i + j ≤ 7000) : CW ((Prog.rt G (run G n) false).call i_is_less .non [fr a, fr b]) ρ K X = K (.bl (decide (a < b))) false ρ := cw_ok (rn_is_less hn a b ha hb h)
theorem rn__law_less (hn : 1 ≤ n) (a b : Rat) {i j : Nat} (ha : SzLe a i) (hb : SzLe b j) (h : i + j ≤ 7000) : run G n i__law_less .non [fr a, fr b] = .ok (.bl (decide (a < b))) false .non := by
  obtain ⟨n, rfl⟩ : ∃ m, n = m + 1 := ⟨n - 1, by omega⟩
  refine en__law_less ?_
  unfold F__law_less
  have pa := den_lt_pos ha
  have pb := den_lt_pos hb
  walk_at "ev"
  refine ⟨mulOk ha.n hb.di pa pb (by omega), mulOk hb.n ha.di pb pa (by omega), ?_⟩
  rw [decide_eq_decide.mpr (Rat.lt_iff a b)]
theorem cw__law_less (hn : 1 ≤ n) {a b : Rat} {i j : Nat} [ha : SzLe a i] [hb : SzLe b j] (h : i + j ≤ 7000) : CW ((Prog.rt G (run G n) false).call i__law_less .non [fr a, fr b]) ρ K X = K (.bl (decide (a < b))) false ρ := cw_ok (rn__law_less hn a b ha hb h)
end
end Gk54
end

section
open GW in
local macro_rules | `(tactic| walk_at "ev") => `(tactic| simp only [↓we_int, ↓we_bl, ↓we_non, ↓we_str, ↓we_tup, ↓we_lst, ↓wl_nil, ↓wl_cons, ↓we_bin, ↓we_cmp, ↓we_chain, ↓we_ix, ↓we_neg, ↓we_nt, ↓we_ife, ↓we_conj, ↓we_disj, ↓wa_nil, ↓wo_nil, ↓wa_cons, ↓wo_cons, ↓we_call, ↓we_bi, ↓we_isi, ↓we_rev, ↓we_sl, ↓we_mt, ↓we_bop, ↓we_rng, ↓we_zip, ↓we_enum, ↓we_gix, ↓we_glo, ↓ws_nil, ↓ws_set, ↓ws_exp, ↓ws_ret, ↓ws_retN, ↓ws_raise, ↓ws_pass, ↓ws_asgT, ↓ws_par, ↓ws_ite, ↓ws_try, ↓ws_whl, ↓th_nx, ↓th_rt, ↓th_exn, ↓th_bk, ↓th_ct, ↓tk_nx, ↓tk_rt, ↓nf_f, ↓nf_l, ↓nf_i, ↓nf_b, ↓nf_t, ↓nf_n, ↓nf_s, ↓nf_x, ↓br_t, ↓br_f, ↓br_n, ↓br_d, ↓ov_s, ↓cw_o, ↓cw_e, ↓wv0, ↓wo0, ↓wm0, ↓wn0, ↓se0f, ↓se0o, ↓sx0, ↓pk0f, ↓pk0o, ↓po0, ↓wv1, ↓wo1, ↓wm1, ↓wn1, ↓se1f, ↓se1o, ↓sx1, ↓pk1f, ↓pk1o, ↓po1, ↓wv2, ↓wo2, ↓wm2, ↓wn2, ↓se2f, ↓se2o, ↓sx2, ↓pk2f, ↓pk2o, ↓po2, ↓wv3, ↓wo3, ↓wm3, ↓wn3, ↓se3f, ↓se3o, ↓sx3, ↓pk3f, ↓pk3o, ↓po3, ↓wv4, ↓wo4, ↓wm4, ↓wn4, ↓se4f, ↓se4o, ↓sx4, ↓pk4f, ↓pk4o, ↓po4, ↓wv5, ↓wo5, ↓wm5, ↓wn5, ↓se5f, ↓se5o, ↓sx5, ↓pk5f, ↓pk5o, ↓po5, ↓wv6, ↓wo6, ↓wm6, ↓wn6, ↓se6f, ↓se6o, ↓sx6, ↓pk6f, ↓pk6o, ↓po6, ↓wv7, ↓wo7, ↓wm7, ↓wn7, ↓se7f, ↓se7o, ↓sx7, ↓pk7f, ↓pk7o, ↓po7, ↓wv8, ↓wo8, ↓wm8, ↓wn8, ↓se8f, ↓se8o, ↓sx8, ↓pk8f, ↓pk8o, ↓po8, ↓wv9, ↓wo9, ↓wm9, ↓wn9, ↓se9f, ↓se9o, ↓sx9, ↓pk9f, ↓pk9o, ↓po9, ↓wv10, ↓wo10, ↓wm10, ↓wn10, ↓se10f, ↓se10o, ↓sx10, ↓pk10f, ↓pk10o, ↓po10, ↓wv11, ↓wo11, ↓wm11, ↓wn11, ↓se11f, ↓se11o, ↓sx11, ↓pk11f, ↓pk11o, ↓po11, ↓wv12, ↓wo12, ↓wm12, ↓wn12, ↓se12f, ↓se12o, ↓sx12, ↓pk12f, ↓pk12o, ↓po12, ↓wv13, ↓wo13, ↓wm13, ↓wn13, ↓se13f, ↓se13o, ↓sx13, ↓pk13f, ↓pk13o, ↓po13, ↓wv14, ↓wo14, ↓wm14, ↓wn14, ↓se14f, ↓se14o, ↓sx14, ↓pk14f, ↓pk14o, ↓po14, ↓wv15, ↓wo15, ↓wm15, ↓wn15, ↓se15f, ↓se15o, ↓sx15, ↓pk15f, ↓pk15o, ↓po15, ↓wv16, ↓wo16, ↓wm16, ↓wn16, ↓se16f, ↓se16o, ↓sx16, ↓pk16f, ↓pk16o, ↓po16, ↓wv17, ↓wo17, ↓wm17, ↓wn17, ↓se17f, ↓se17o, ↓sx17, ↓pk17f, ↓pk17o, ↓po17, ↓wv18, ↓wo18, ↓wm18, ↓wn18, ↓se18f, ↓se18o, ↓sx18, ↓pk18f, ↓pk18o, ↓po18, ↓wv19, ↓wo19, ↓wm19, ↓wn19, ↓se19f, ↓se19o, ↓sx19, ↓pk19f, ↓pk19o, ↓po19, ↓wv20, ↓wo20, ↓wm20, ↓wn20, ↓se20f, ↓se20o, ↓sx20, ↓pk20f, ↓pk20o, ↓po20, ↓wv21, ↓wo21, ↓wm21, ↓wn21, ↓se21f, ↓se21o, ↓sx21, ↓pk21f, ↓pk21o, ↓po21, ↓wv22, ↓wo22, ↓wm22, ↓wn22, ↓se22f, ↓se22o, ↓sx22, ↓pk22f, ↓pk22o, ↓po22, ↓wv23, ↓wo23, ↓wm23, ↓wn23, ↓se23f, ↓se23o, ↓sx23, ↓pk23f, ↓pk23o, ↓po23, ↓wv24, ↓wo24, ↓wm24, ↓wn24, ↓se24f, ↓se24o, ↓sx24, ↓pk24f, ↓pk24o, ↓po24, ↓wv25, ↓wo25, ↓wm25, ↓wn25, ↓se25f, ↓se25o, ↓sx25, ↓pk25f, ↓pk25o, ↓po25, ↓ses_n, ↓ses_c, ↓sep_n, ↓sep_c, ↓ws_appn, ↓ws_extn, ↓b_add, ↓b_addl, ↓b_addt, ↓b_sub, ↓b_mul, ↓b_fdiv, ↓b_mod, ↓b_pow, ↓c_lt, ↓c_le, ↓c_gt, ↓c_ge, ↓c_eq, ↓c_ne, ↓is_n, ↓isn_n, ↓is_b, ↓isn_b, ↓is_i, ↓isn_i, ↓is_s, ↓isn_s, ↓is_t, ↓isn_t, ↓is_l, ↓isn_l, ↓is_x, ↓isn_x, ↓isn_bb, ↓b_mult, ↓is_bb, ↓ix_tup0, ↓ix_lst0, ↓ix_tup1, ↓ix_lst1, ↓ix_tup2, ↓ix_lst2, ↓ix_tup3, ↓ix_lst3, ↓ix_tup4, ↓ix_lst4, ↓ix_tup5, ↓ix_lst5, ↓ix_tup6, ↓ix_lst6, ↓ix_tup7, ↓ix_lst7, ↓ix_tup8, ↓ix_lst8, ↓ix_tup9, ↓ix_lst9, ↓ix_tup10, ↓ix_lst10, ↓ix_tup11, ↓ix_lst11, ↓ix_tup12, ↓ix_lst12, ↓ix_tup13, ↓ix_lst13, ↓ix_tup14, ↓ix_lst14, ↓ix_tup15, ↓ix_lst15, ↓ng, ↓up_t, ↓up_l, ↓it_t, ↓it_l, ↓ls_l, ↓pt_n, ↓pt_i, ↓rg1, ↓rg2, ↓bi_lenl, ↓bi_lent, ↓bi_abs, ↓bi_lil, ↓bi_lit, ↓bi_tul, ↓bi_tut, ↓rv_l, ↓ii_non_int, ↓ii_non_bool, ↓ii_non_str, ↓ii_non_tuple, ↓ii_non_list, ↓ii_bl_int, ↓ii_bl_bool, ↓ii_bl_str, ↓ii_bl_tuple, ↓ii_bl_list, ↓ii_int_int, ↓ii_int_bool, ↓ii_int_str, ↓ii_int_tuple, ↓ii_int_list, ↓ii_str_int, ↓ii_str_bool, ↓ii_str_str, ↓ii_str_tuple, ↓ii_str_list, ↓ii_tup_int, ↓ii_tup_bool, ↓ii_tup_str, ↓ii_tup_tuple, ↓ii_tup_list, ↓ii_lst_int, ↓ii_lst_bool, ↓ii_lst_str, ↓ii_lst_tuple, ↓ii_lst_list, ↓nf_fr, ↓ix_fr0, ↓ix_fr1, ↓ii_fr_t, ↓len_fr, ↓c_eqfr, ↓c_nefr, ↓we_fz, ↓ws_asgs, ↓wlo_nil, ↓wlo_cons, ↓pv_n, ↓pv_c, ↓ri_rt, ↓ri_nx, ↓ri_ex, ↓ri_rx, ↓ri_xr, ↓gd_nx, ↓gd_rt, ↓gd_ex, ↓ok_rt, ↓ws_forW, ↓ws_brk, ↓ws_cont, ↓lq_nx, ↓lq_ct, ↓lq_bk, ↓lq_rt, ↓lq_exn, ↓iq_nx, ↓iq_ct, ↓iq_bk, ↓iq_rt, ↓iq_exn, ↓st_n, ↓st_t, ↓sts_n, ↓sts_c, ↓we_lc, ↓now_n, ↓now_c, ↓gs_0, ↓gs_s, ↓io_f, ↓io_n, ↓wp_n, ↓wp_c, ↓ck_even, ↓cn_even, ↓ck_in, ↓cn_in, ↓ck_out, ↓cn_out, ↓ck_both, ↓cn_both, ↓ck_hold, ↓cn_hold, ↓ck_jump, ↓cn_jump, ↓ck_kept, ↓cn_kept, ↓ci_hj, ↓cj_hj, ↓ci_bk, ↓cj_bk, ↓ci_kinds, ↓cj_kinds, ↓gx_turn, ↓up_fr, ↓ok_i, ↓ok_ii, ↓turn_turn, ↓sl_t, ↓sl_l, ↓cut_h1, ↓cut_l1, ↓cut_h2, ↓cut_l2, ↓cut_h3, ↓cut_l3, ↓cut_h4, ↓cut_l4, ↓cut_h5, ↓cut_l5, ↓cut_2_4, ↓r_nn, ↓Gk54.gl_KINDS, ↓Gk54.gl_NONE, ↓Gk54.gl_STILL, ↓Gk54.gl_DEEPEST, ↓Gk54.gl_MOST, decide_eq_true_eq, decide_eq_false_iff_not, Bool.not_eq_true', Bool.not_eq_false', true_and, and_true, and_self, true_implies, false_implies, implies_true, forall_const, not_true_eq_false, not_false_eq_true, Bool.not_true, Bool.not_false, decide_true, decide_false, reduceCtorEq, List.cons_append, List.nil_append, List.append_assoc, not_false_iff, eq_self, Tg.slots])
open GW in
local macro_rules | `(tactic| walk_at "e1") => `(tactic| simp (maxSteps := 10000000) (disch := (first | assumption | omega | decide)) only [↓Gk54.gl_KINDS, ↓Gk54.gl_NONE, ↓Gk54.gl_STILL, ↓Gk54.gl_DEEPEST, ↓Gk54.gl_MOST, ↓Gk54.cv_tk0_0, ↓Gk54.cv_tk1_1, ↓Gk54.cv_tk1_0, ↓Gk54.cv_tk2_2, ↓Gk54.cv_tk2_0, ↓Gk54.cw_is_whole, ↓Gk54.cw_divisor, ↓Gk54.cw__law_divisor, ↓Gk54.cw_plus, ↓Gk54.cw_times, ↓Gk54.cw__law_plus, ↓Gk54.cw__law_minus, ↓Gk54.cw__law_times, ↓Gk54.cw__law_over, ↓Gk54.cw_is_less, ↓Gk54.cw__law_less, ↓GW.nf_scr, ↓GW.len_scr, ↓GW.c_eqscr, ↓GW.ix_scr, ↓we_int, ↓we_bl, ↓we_non, ↓we_str, ↓we_tup, ↓we_lst, ↓wl_nil, ↓wl_cons, ↓we_bin, ↓we_cmp, ↓we_chain, ↓we_ix, ↓we_neg, ↓we_nt, ↓we_ife, ↓we_conj, ↓we_disj, ↓wa_nil, ↓wo_nil, ↓wa_cons, ↓wo_cons, ↓we_call, ↓we_bi, ↓we_isi, ↓we_rev, ↓we_sl, ↓we_mt, ↓we_bop, ↓we_rng, ↓we_zip, ↓we_enum, ↓we_gix, ↓we_glo, ↓ws_nil, ↓ws_set, ↓ws_exp, ↓ws_ret, ↓ws_retN, ↓ws_raise, ↓ws_pass, ↓ws_asgT, ↓ws_par, ↓ws_ite, ↓ws_try, ↓ws_whl, ↓th_nx, ↓th_rt, ↓th_exn, ↓th_bk, ↓th_ct, ↓tk_nx, ↓tk_rt, ↓nf_f, ↓nf_l, ↓nf_i, ↓nf_b, ↓nf_t, ↓nf_n, ↓nf_s, ↓nf_x, ↓br_t, ↓br_f, ↓br_n, ↓ov_s, ↓cw_o, ↓cw_e, ↓wv0, ↓wo0, ↓wm0, ↓wn0, ↓se0f, ↓se0o, ↓sx0, ↓pk0f, ↓pk0o, ↓po0, ↓wv1, ↓wo1, ↓wm1, ↓wn1, ↓se1f, ↓se1o, ↓sx1, ↓pk1f, ↓pk1o, ↓po1, ↓wv2, ↓wo2, ↓wm2, ↓wn2, ↓se2f, ↓se2o, ↓sx2, ↓pk2f, ↓pk2o, ↓po2, ↓wv3, ↓wo3, ↓wm3, ↓wn3, ↓se3f, ↓se3o, ↓sx3, ↓pk3f, ↓pk3o, ↓po3, ↓wv4, ↓wo4, ↓wm4, ↓wn4, ↓se4f, ↓se4o, ↓sx4, ↓pk4f, ↓pk4o, ↓po4, ↓wv5, ↓wo5, ↓wm5, ↓wn5, ↓se5f, ↓se5o, ↓sx5, ↓pk5f, ↓pk5o, ↓po5, ↓wv6, ↓wo6, ↓wm6, ↓wn6, ↓se6f, ↓se6o, ↓sx6, ↓pk6f, ↓pk6o, ↓po6, ↓wv7, ↓wo7, ↓wm7, ↓wn7, ↓se7f, ↓se7o, ↓sx7, ↓pk7f, ↓pk7o, ↓po7, ↓wv8, ↓wo8, ↓wm8, ↓wn8, ↓se8f, ↓se8o, ↓sx8, ↓pk8f, ↓pk8o, ↓po8, ↓wv9, ↓wo9, ↓wm9, ↓wn9, ↓se9f, ↓se9o, ↓sx9, ↓pk9f, ↓pk9o, ↓po9, ↓wv10, ↓wo10, ↓wm10, ↓wn10, ↓se10f, ↓se10o, ↓sx10, ↓pk10f, ↓pk10o, ↓po10, ↓wv11, ↓wo11, ↓wm11, ↓wn11, ↓se11f, ↓se11o, ↓sx11, ↓pk11f, ↓pk11o, ↓po11, ↓wv12, ↓wo12, ↓wm12, ↓wn12, ↓se12f, ↓se12o, ↓sx12, ↓pk12f, ↓pk12o, ↓po12, ↓wv13, ↓wo13, ↓wm13, ↓wn13, ↓se13f, ↓se13o, ↓sx13, ↓pk13f, ↓pk13o, ↓po13, ↓wv14, ↓wo14, ↓wm14, ↓wn14, ↓se14f, ↓se14o, ↓sx14, ↓pk14f, ↓pk14o, ↓po14, ↓wv15, ↓wo15, ↓wm15, ↓wn15, ↓se15f, ↓se15o, ↓sx15, ↓pk15f, ↓pk15o, ↓po15, ↓wv16, ↓wo16, ↓wm16, ↓wn16, ↓se16f, ↓se16o, ↓sx16, ↓pk16f, ↓pk16o, ↓po16, ↓wv17, ↓wo17, ↓wm17, ↓wn17, ↓se17f, ↓se17o, ↓sx17, ↓pk17f, ↓pk17o, ↓po17, ↓wv18, ↓wo18, ↓wm18, ↓wn18, ↓se18f, ↓se18o, ↓sx18, ↓pk18f, ↓pk18o, ↓po18, ↓wv19, ↓wo19, ↓wm19, ↓wn19, ↓se19f, ↓se19o, ↓sx19, ↓pk19f, ↓pk19o, ↓po19, ↓wv20, ↓wo20, ↓wm20, ↓wn20, ↓se20f, ↓se20o, ↓sx20, ↓pk20f, ↓pk20o, ↓po20, ↓wv21, ↓wo21, ↓wm21, ↓wn21, ↓se21f, ↓se21o, ↓sx21, ↓pk21f, ↓pk21o, ↓po21, ↓wv22, ↓wo22, ↓wm22, ↓wn22, ↓se22f, ↓se22o, ↓sx22, ↓pk22f, ↓pk22o, ↓po22, ↓wv23, ↓wo23, ↓wm23, ↓wn23, ↓se23f, ↓se23o, ↓sx23, ↓pk23f, ↓pk23o, ↓po23, ↓wv24, ↓wo24, ↓wm24, ↓wn24, ↓se24f, ↓se24o, ↓sx24, ↓pk24f, ↓pk24o, ↓po24, ↓wv25, ↓wo25, ↓wm25, ↓wn25, ↓se25f, ↓se25o, ↓sx25, ↓pk25f, ↓pk25o, ↓po25, ↓ses_n, ↓ses_c, ↓sep_n, ↓sep_c, ↓ws_appn, ↓ws_extn, ↓b_add, ↓b_addl, ↓b_addt, ↓b_sub, ↓b_mul, ↓b_fdiv, ↓b_mod, ↓b_pow, ↓c_lt, ↓c_le, ↓c_gt, ↓c_ge, ↓c_eq, ↓c_ne, ↓is_n, ↓isn_n, ↓is_b, ↓isn_b, ↓is_i, ↓isn_i, ↓is_s, ↓isn_s, ↓is_t, ↓isn_t, ↓is_l, ↓isn_l, ↓is_x, ↓isn_x, ↓isn_bb, ↓b_mult, ↓is_bb, ↓ix_tup0, ↓ix_lst0, ↓ix_tup1, ↓ix_lst1, ↓ix_tup2, ↓ix_lst2, ↓ix_tup3, ↓ix_lst3, ↓ix_tup4, ↓ix_lst4, ↓ix_tup5, ↓ix_lst5, ↓ix_tup6, ↓ix_lst6, ↓ix_tup7, ↓ix_lst7, ↓ix_tup8, ↓ix_lst8, ↓ix_tup9, ↓ix_lst9, ↓ix_tup10, ↓ix_lst10, ↓ix_tup11, ↓ix_lst11, ↓ix_tup12, ↓ix_lst12, ↓ix_tup13, ↓ix_lst13, ↓ix_tup14, ↓ix_lst14, ↓ix_tup15, ↓ix_lst15, ↓ng, ↓up_t, ↓up_l, ↓it_t, ↓it_l, ↓ls_l, ↓pt_n, ↓pt_i, ↓rg1, ↓rg2, ↓bi_lenl, ↓bi_lent, ↓bi_abs, ↓bi_lil, ↓bi_lit, ↓bi_tul, ↓bi_tut, ↓rv_l, ↓ii_non_int, ↓ii_non_bool, ↓ii_non_str, ↓ii_non_tuple, ↓ii_non_list, ↓ii_bl_int, ↓ii_bl_bool, ↓ii_bl_str, ↓ii_bl_tuple, ↓ii_bl_list, ↓ii_int_int, ↓ii_int_bool, ↓ii_int_str, ↓ii_int_tuple, ↓ii_int_list, ↓ii_str_int, ↓ii_str_bool, ↓ii_str_str, ↓ii_str_tuple, ↓ii_str_list, ↓ii_tup_int, ↓ii_tup_bool, ↓ii_tup_str, ↓ii_tup_tuple, ↓ii_tup_list, ↓ii_lst_int, ↓ii_lst_bool, ↓ii_lst_str, ↓ii_lst_tuple, ↓ii_lst_list, ↓nf_fr, ↓ix_fr0, ↓ix_fr1, ↓ii_fr_t, ↓len_fr, ↓c_eqfr, ↓c_nefr, ↓c_eqfrs, ↓c_nefrs, ↓c_eqbs, ↓c_nebs, ↓we_fz, ↓ws_asgs, ↓wlo_nil, ↓wlo_cons, ↓pv_n, ↓pv_c, ↓ri_rt, ↓ri_nx, ↓ri_ex, ↓ri_rx, ↓ri_xr, ↓gd_nx, ↓gd_rt, ↓gd_ex, ↓ok_rt, ↓ws_forW, ↓ws_brk, ↓ws_cont, ↓lq_nx, ↓lq_ct, ↓lq_bk, ↓lq_rt, ↓lq_exn, ↓iq_nx, ↓iq_ct, ↓iq_bk, ↓iq_rt, ↓iq_exn, ↓st_n, ↓st_t, ↓sts_n, ↓sts_c, ↓we_lc, ↓now_n, ↓now_c, ↓gs_0, ↓gs_s, ↓io_f, ↓io_n, ↓wp_n, ↓wp_c, ↓ck_even, ↓cn_even, ↓ck_in, ↓cn_in, ↓ck_out, ↓cn_out, ↓ck_both, ↓cn_both, ↓ck_hold, ↓cn_hold, ↓ck_jump, ↓cn_jump, ↓ck_kept, ↓cn_kept, ↓ci_hj, ↓cj_hj, ↓ci_bk, ↓cj_bk, ↓ci_kinds, ↓cj_kinds, ↓gx_turn, ↓up_fr, ↓ok_i, ↓ok_ii, ↓turn_turn, ↓sl_t, ↓sl_l, ↓cut_h1, ↓cut_l1, ↓cut_h2, ↓cut_l2, ↓cut_h3, ↓cut_l3, ↓cut_h4, ↓cut_l4, ↓cut_h5, ↓cut_l5, ↓cut_2_4, ↓r_nn, ↓c_eqself, ↓c_neself, ↓br_T, ↓br_F, ↓lit01, ↓lit11, ↓lit21, ↓lit31, ↓lit41, ↓lit61, ↓lit12, ↓lit32, decide_eq_true_eq, decide_eq_false_iff_not, Bool.not_eq_true', Bool.not_eq_false', true_and, and_true, and_self, true_implies, false_implies, implies_true, forall_const, not_true_eq_false, not_false_eq_true, Bool.not_true, Bool.not_false, decide_true, decide_false, reduceCtorEq, List.cons_append, List.nil_append, List.append_assoc, not_false_iff, eq_self, Tg.slots])
namespace Gk54
open GW
section
variable {n : Nat} {ρ : Env} {K : D → Bool → Env → Prop} {X : Nat → Env → Prop} {ns : List Int}
theorem rn__law_cell (ok : ScOk ns) (hn : 1 ≤ n) (k : Int) (h0 : 0 ≤ k) (h1 : k ≤ 1000000) : run G n i__law_cell .non [scr ns, .int k] = .ok (.int (cellV ns k)) false .non := by
  obtain ⟨n, rfl⟩ : ∃ m, n = m + 1 := ⟨n - 1, by omega⟩
  refine en__law_cell ?_
  unfold F__law_cell
  by_cases hk : k < ns.length
  · have e : cellV ns k = ns.getD k.toNat 0 := by unfold cellV; rw [if_pos hk]
    walk_at "e1"
    rw [e]
  · by_cases hz : ns = []
    · have e : cellV ns k = 0 := by unfold cellV; rw [if_neg hk, if_pos hz]
      walk_at "e1"
      rw [e]
    · have e : cellV ns k = ns.getD (k.fmod ns.length).toNat 0 * 31 + k := by unfold cellV; rw [if_neg hk, if_neg hz]
      have hl : 0 < ns.length := List.length_pos_iff.mpr hz
      have m0 := Int.fmod_nonneg_of_pos k (b := (ns.length : Int)) (by omega)
      have m1 := Int.fmod_lt_of_pos k (b := (ns.length : Int)) (by omega)
      walk_at "e1"
      rw [e]
      obtain ⟨b, hb, h⟩ := getD_bits ok (k.fmod ns.length).toNat
      have h2 := log2_lt h (by omega)
      have h3 : (31 : Int).natAbs.log2 ≤ 20 := by decide
      exact ⟨by omega, by omega, rfl⟩
theorem rn__law_pick (ok : ScOk ns) (hn : 2 ≤ n) (k m : Int) (h0 : 0 ≤ k) (h1 : k ≤ 1000000) (hm : 0 < m) : run G n i__law_pick .non [scr ns, .int k, .int m] = .ok (.int (pickV ns k m)) false .non := by
  obtain ⟨n, rfl⟩ : ∃ m, n = m + 1 := ⟨n - 1, by omega⟩
  refine en__law_pick ?_
  unfold F__law_pick
  have d := drawn_rng ns k
  walk_at "ev"
  rw [cw_ok (rn__law_cell ok (by omega) k h0 h1)]
  walk_at "ev"
  have l1 : (6151 : Int).natAbs.log2 ≤ 20 := by decide
  have l2 : (k + 1).natAbs.log2 < 60 := int_log (by omega) (by omega)
  have l3 : (drawnV ns k).natAbs.log2 < 60 := int_log (by omega) (by omega)
  have e : ((cellV ns k + 6151 * (k + 1)) * 40692).fmod 2147483399 = drawnV ns k := rfl
  rw [e]
  refine ⟨by omega, draw_ok ok h0 h1, by decide, by omega, ⟨by decide, by decide⟩, by decide, by omega, rfl⟩
theorem cw__law_pick (ok : ScOk ns) (hn : 2 ≤ n) {k m : Int} (h0 : 0 ≤ k) (h1 : k ≤ 1000000) (hm : 0 < m) : CW ((Prog.rt G (run G n) false).call i__law_pick .non [scr ns, .int k, .int m]) ρ K X = K (.int (pickV ns k m)) false ρ := cw_ok (rn__law_pick ok hn k m h0 h1 hm)
end
end Gk54
end

section
open GW in
local macro_rules | `(tactic| walk_at "ev") => `(tactic| simp only [↓we_int, ↓we_bl, ↓we_non, ↓we_str, ↓we_tup, ↓we_lst, ↓wl_nil, ↓wl_cons, ↓we_bin, ↓we_cmp, ↓we_chain, ↓we_ix, ↓we_neg, ↓we_nt, ↓we_ife, ↓we_conj, ↓we_disj, ↓wa_nil, ↓wo_nil, ↓wa_cons, ↓wo_cons, ↓we_call, ↓we_bi, ↓we_isi, ↓we_rev, ↓we_sl, ↓we_mt, ↓we_bop, ↓we_rng, ↓we_zip, ↓we_enum, ↓we_gix, ↓we_glo, ↓ws_nil, ↓ws_set, ↓ws_exp, ↓ws_ret, ↓ws_retN, ↓ws_raise, ↓ws_pass, ↓ws_asgT, ↓ws_par, ↓ws_ite, ↓ws_try, ↓ws_whl, ↓th_nx, ↓th_rt, ↓th_exn, ↓th_bk, ↓th_ct, ↓tk_nx, ↓tk_rt, ↓nf_f, ↓nf_l, ↓nf_i, ↓nf_b, ↓nf_t, ↓nf_n, ↓nf_s, ↓nf_x, ↓br_t, ↓br_f, ↓br_n, ↓br_d, ↓ov_s, ↓cw_o, ↓cw_e, ↓wv0, ↓wo0, ↓wm0, ↓wn0, ↓se0f, ↓se0o, ↓sx0, ↓pk0f, ↓pk0o, ↓po0, ↓wv1, ↓wo1, ↓wm1, ↓wn1, ↓se1f, ↓se1o, ↓sx1, ↓pk1f, ↓pk1o, ↓po1, ↓wv2, ↓wo2, ↓wm2, ↓wn2, ↓se2f, ↓se2o, ↓sx2, ↓pk2f, ↓pk2o, ↓po2, ↓wv3, ↓wo3, ↓wm3, ↓wn3, ↓se3f, ↓se3o, ↓sx3, ↓pk3f, ↓pk3o, ↓po3, ↓wv4, ↓wo4, ↓wm4, ↓wn4, ↓se4f, ↓se4o, ↓sx4, ↓pk4f, ↓pk4o, ↓po4, ↓wv5, ↓wo5, ↓wm5, ↓wn5, ↓se5f, ↓se5o, ↓sx5, ↓pk5f, ↓pk5o, ↓po5, ↓wv6, ↓wo6, ↓wm6, ↓wn6, ↓se6f, ↓se6o, ↓sx6, ↓pk6f, ↓pk6o, ↓po6, ↓wv7, ↓wo7, ↓wm7, ↓wn7, ↓se7f, ↓se7o, ↓sx7, ↓pk7f, ↓pk7o, ↓po7, ↓wv8, ↓wo8, ↓wm8, ↓wn8, ↓se8f, ↓se8o, ↓sx8, ↓pk8f, ↓pk8o, ↓po8, ↓wv9, ↓wo9, ↓wm9, ↓wn9, ↓se9f, ↓se9o, ↓sx9, ↓pk9f, ↓pk9o, ↓po9, ↓wv10, ↓wo10, ↓wm10, ↓wn10, ↓se10f, ↓se10o, ↓sx10, ↓pk10f, ↓pk10o, ↓po10, ↓wv11, ↓wo11, ↓wm11, ↓wn11, ↓se11f, ↓se11o, ↓sx11, ↓pk11f, ↓pk11o, ↓po11, ↓wv12, ↓wo12, ↓wm12, ↓wn12, ↓se12f, ↓se12o, ↓sx12, ↓pk12f, ↓pk12o, ↓po12, ↓wv13, ↓wo13, ↓wm13, ↓wn13, ↓se13f, ↓se13o, ↓sx13, ↓pk13f, ↓pk13o, ↓po13, ↓wv14, ↓wo14, ↓wm14, ↓wn14, ↓se14f, ↓se14o, ↓sx14, ↓pk14f, ↓pk14o, ↓po14, ↓wv15, ↓wo15, ↓wm15, ↓wn15, ↓se15f, ↓se15o, ↓sx15, ↓pk15f, ↓pk15o, ↓po15, ↓wv16, ↓wo16, ↓wm16, ↓wn16, ↓se16f, ↓se16o, ↓sx16, ↓pk16f, ↓pk16o, ↓po16, ↓wv17, ↓wo17, ↓wm17, ↓wn17, ↓se17f, ↓se17o, ↓sx17, ↓pk17f, ↓pk17o, ↓po17, ↓wv18, ↓wo18, ↓wm18, ↓wn18, ↓se18f, ↓se18o, ↓sx18, ↓pk18f, ↓pk18o, ↓po18, ↓wv19, ↓wo19, ↓wm19, ↓wn19, ↓se19f, ↓se19o, ↓sx19, ↓pk19f, ↓pk19o, ↓po19, ↓wv20, ↓wo20, ↓wm20, ↓wn20, ↓se20f, ↓se20o, ↓sx20, ↓pk20f, ↓pk20o, ↓po20, ↓wv21, ↓wo21, ↓wm21, ↓wn21, ↓se21f, ↓se21o, ↓sx21, ↓pk21f, ↓pk21o, ↓po21, ↓wv22, ↓wo22, ↓wm22, ↓wn22, ↓se22f, ↓se22o, ↓sx22, ↓pk22f, ↓pk22o, ↓po22, ↓wv23, ↓wo23, ↓wm23, ↓wn23, ↓se23f, ↓se23o, ↓sx23, ↓pk23f, ↓pk23o, ↓po23, ↓wv24, ↓wo24, ↓wm24, ↓wn24, ↓se24f, ↓se24o, ↓sx24, ↓pk24f, ↓pk24o, ↓po24, ↓wv25, ↓wo25, ↓wm25, ↓wn25, ↓se25f, ↓se25o, ↓sx25, ↓pk25f, ↓pk25o, ↓po25, ↓ses_n, ↓ses_c, ↓sep_n, ↓sep_c, ↓ws_appn, ↓ws_extn, ↓b_add, ↓b_addl, ↓b_addt, ↓b_sub, ↓b_mul, ↓b_fdiv, ↓b_mod, ↓b_pow, ↓c_lt, ↓c_le, ↓c_gt, ↓c_ge, ↓c_eq, ↓c_ne, ↓is_n, ↓isn_n, ↓is_b, ↓isn_b, ↓is_i, ↓isn_i, ↓is_s, ↓isn_s, ↓is_t, ↓isn_t, ↓is_l, ↓isn_l, ↓is_x, ↓isn_x, ↓isn_bb, ↓b_mult, ↓is_bb, ↓ix_tup0, ↓ix_lst0, ↓ix_tup1, ↓ix_lst1, ↓ix_tup2, ↓ix_lst2, ↓ix_tup3, ↓ix_lst3, ↓ix_tup4, ↓ix_lst4, ↓ix_tup5, ↓ix_lst5, ↓ix_tup6, ↓ix_lst6, ↓ix_tup7, ↓ix_lst7, ↓ix_tup8, ↓ix_lst8, ↓ix_tup9, ↓ix_lst9, ↓ix_tup10, ↓ix_lst10, ↓ix_tup11, ↓ix_lst11, ↓ix_tup12, ↓ix_lst12, ↓ix_tup13, ↓ix_lst13, ↓ix_tup14, ↓ix_lst14, ↓ix_tup15, ↓ix_lst15, ↓ng, ↓up_t, ↓up_l, ↓it_t, ↓it_l, ↓ls_l, ↓pt_n, ↓pt_i, ↓rg1, ↓rg2, ↓bi_lenl, ↓bi_lent, ↓bi_abs, ↓bi_lil, ↓bi_lit, ↓bi_tul, ↓bi_tut, ↓rv_l, ↓ii_non_int, ↓ii_non_bool, ↓ii_non_str, ↓ii_non_tuple, ↓ii_non_list, ↓ii_bl_int, ↓ii_bl_bool, ↓ii_bl_str, ↓ii_bl_tuple, ↓ii_bl_list, ↓ii_int_int, ↓ii_int_bool, ↓ii_int_str, ↓ii_int_tuple, ↓ii_int_list, ↓ii_str_int, ↓ii_str_bool, ↓ii_str_str, ↓ii_str_tuple, ↓ii_str_list, ↓ii_tup_int, ↓ii_tup_bool, ↓ii_tup_str, ↓ii_tup_tuple, ↓ii_tup_list, ↓ii_lst_int, ↓ii_lst_bool, ↓ii_lst_str, ↓ii_lst_tuple, ↓ii_lst_list, ↓nf_fr, ↓ix_fr0, ↓ix_fr1, ↓ii_fr_t, ↓len_fr, ↓c_eqfr, ↓c_nefr, ↓we_fz, ↓ws_asgs, ↓wlo_nil, ↓wlo_cons, ↓pv_n, ↓pv_c, ↓ri_rt, ↓ri_nx, ↓ri_ex, ↓ri_rx, ↓ri_xr, ↓gd_nx, ↓gd_rt, ↓gd_ex, ↓ok_rt, ↓ws_forW, ↓ws_brk, ↓ws_cont, ↓lq_nx, ↓lq_ct, ↓lq_bk, ↓lq_rt, ↓lq_exn, ↓iq_nx, ↓iq_ct, ↓iq_bk, ↓iq_rt, ↓iq_exn, ↓st_n, ↓st_t, ↓sts_n, ↓sts_c, ↓we_lc, ↓now_n, ↓now_c, ↓gs_0, ↓gs_s, ↓io_f, ↓io_n, ↓wp_n, ↓wp_c, ↓ck_even, ↓cn_even, ↓ck_in, ↓cn_in, ↓ck_out, ↓cn_out, ↓ck_both, ↓cn_both, ↓ck_hold, ↓cn_hold, ↓ck_jump, ↓cn_jump, ↓ck_kept, ↓cn_kept, ↓ci_hj, ↓cj_hj, ↓ci_bk, ↓cj_bk, ↓ci_kinds, ↓cj_kinds, ↓gx_turn, ↓up_fr, ↓ok_i, ↓ok_ii, ↓turn_turn, ↓sl_t, ↓sl_l, ↓cut_h1, ↓cut_l1, ↓cut_h2, ↓cut_l2, ↓cut_h3, ↓cut_l3, ↓cut_h4, ↓cut_l4, ↓cut_h5, ↓cut_l5, ↓cut_2_4, ↓r_nn, ↓Gk54.gl_KINDS, ↓Gk54.gl_NONE, ↓Gk54.gl_STILL, ↓Gk54.gl_DEEPEST, ↓Gk54.gl_MOST, decide_eq_true_eq, decide_eq_false_iff_not, Bool.not_eq_true', Bool.not_eq_false', true_and, and_true, and_self, true_implies, false_implies, implies_true, forall_const, not_true_eq_false, not_false_eq_true, Bool.not_true, Bool.not_false, decide_true, decide_false, reduceCtorEq, List.cons_append, List.nil_append, List.append_assoc, not_false_iff, eq_self, Tg.slots])
namespace Gk54
open GW
section
variable {n : Nat} {ρ : Env} {K : D → Bool → Env → Prop} {X : Nat → Env → Prop} {ns : List Int}
theorem rn__law_frac (ok : ScOk ns) (hn : 3 ≤ n) (k : Int) (h0 : 0 ≤ k) (h1 : k ≤ 900000) : run G n i__law_frac .non [scr ns, .int k] = .ok (fr (fracV ns k)) false .non := by
  obtain ⟨n, rfl⟩ : ∃ m, n = m + 1 := ⟨n - 1, by omega⟩
  refine en__law_frac ?_
  unfold F__law_frac
  have h := down_rng ns k
  walk_at "ev"
  rw [cw_ok (rn__law_pick ok (by omega) k 4 h0 (by omega) (by decide))]
  walk_at "ev"
  have e : 1 + pickV ns k 4 = downV ns k := rfl
  have l1 : (12 : Int).natAbs.log2 ≤ 20 := by decide
  have l2 : (6 : Int).natAbs.log2 ≤ 20 := by decide
  have l3 : (downV ns k).natAbs.log2 < 60 := int_log (by omega) (by omega)
  rw [e]
  refine ⟨by omega, ?_⟩
  rw [cw_ok (rn__law_pick ok (by omega) (k + 1) (12 * downV ns k + 1) (by omega) (by omega) (by omega))]
  walk_at "ev"
  refine ⟨by omega, ?_⟩
  have p0 := pick_lo ns (k + 1) (m := 12 * downV ns k + 1) (by omega)
  have p1 := pick_hi ns (k + 1) (m := 12 * downV ns k + 1) (by omega)
  rw [cw_ok (rn__law_made (by omega) _ _ (by omega) (Nat.lt_of_lt_of_le (m := 2 ^ 5) (by show _ < 32; omega) (Nat.pow_le_pow_right (by decide) (by decide))))]
  walk_at "ev"
  rfl
theorem cw__law_frac (ok : ScOk ns) (hn : 3 ≤ n) {k : Int} (h0 : 0 ≤ k) (h1 : k ≤ 900000) : CW ((Prog.rt G (run G n) false).call i__law_frac .non [scr ns, .int k]) ρ K X = K (fr (fracV ns k)) false ρ := cw_ok (rn__law_frac ok hn k h0 h1)
theorem rn__law_size (ok : ScOk ns) (hn : 3 ≤ n) (k : Int) (h0 : 0 ≤ k) (h1 : k ≤ 900000) : run G n i__law_size .non [scr ns, .int k] = .ok (fr (sizeV ns k)) false .non := by
  obtain ⟨n, rfl⟩ : ∃ m, n = m + 1 := ⟨n - 1, by omega⟩
  refine en__law_size ?_
  unfold F__law_size
  have h := down3_rng ns k
  walk_at "ev"
  rw [cw_ok (rn__law_pick ok (by omega) k 3 h0 (by omega) (by decide))]
  walk_at "ev"
  have e : 1 + pickV ns k 3 = down3 ns k := rfl
  have l2 : (6 : Int).natAbs.log2 ≤ 20 := by decide
  have l3 : (down3 ns k).natAbs.log2 < 60 := int_log (by omega) (by omega)
  rw [e]
  refine ⟨by omega, ?_⟩
  rw [cw_ok (rn__law_pick ok (by omega) (k + 1) (6 * down3 ns k) (by omega) (by omega) (by omega))]
  walk_at "ev"
  rw [cw_ok (rn__law_made (by omega) _ _ (by omega) (Nat.lt_of_lt_of_le (m := 2 ^ 5) (by show _ < 32; omega) (Nat.pow_le_pow_right (by decide) (by decide))))]
  walk_at "ev"
  rfl
theorem cw__law_size (ok : ScOk ns) (hn : 3 ≤ n) {k : Int} (h0 : 0 ≤ k) (h1 : k ≤ 900000) : CW ((Prog.rt G (run G n) false).call i__law_size .non [scr ns, .int k]) ρ K X = K (fr (sizeV ns k)) false ρ := cw_ok (rn__law_size ok hn k h0 h1)
theorem rn__law_kind (ok : ScOk ns) (hn : 3 ≤ n) (k : Int) (h0 : 0 ≤ k) (h1 : k ≤ 900000) : run G n i__law_kind .non [scr ns, .int k] = .ok (.str (kS (kindV ns k))) false .non := by
  obtain ⟨n, rfl⟩ : ∃ m, n = m + 1 := ⟨n - 1, by omega⟩
  refine en__law_kind ?_
  unfold F__law_kind
  walk_at "ev"
  rw [cw_ok (rn__law_pick ok (by omega) k 6 h0 (by omega) (by decide))]
  have p0 := pick_lo ns k (m := 6) (by omega)
  have p1 := pick_hi ns k (m := 6) (by omega)
  have hp : pickV ns k 6 = 0 ∨ pickV ns k 6 = 1 ∨ pickV ns k 6 = 2 ∨ pickV ns k 6 = 3 ∨ pickV ns k 6 = 4 ∨ pickV ns k 6 = 5 := by omega
  unfold kindV
  rcases hp with hp | hp | hp | hp | hp | hp <;> rw [hp] <;> walk_at "ev" <;> rfl
theorem cw__law_kind (ok : ScOk ns) (hn : 3 ≤ n) {k : Int} (h0 : 0 ≤ k) (h1 : k ≤ 900000) : CW ((Prog.rt G (run G n) false).call i__law_kind .non [scr ns, .int k]) ρ K X = K (.str (kS (kindV ns k))) false ρ := cw_ok (rn__law_kind ok hn k h0 h1)
theorem cw__law_made (hn : 2 ≤ n) {u d : Int} (hd : ¬ d = 0) (h : d.natAbs < 1000000) : CW ((Prog.rt G (run G n) false).call i__law_made .non [.int u, .int d]) ρ K X = K (fr (Rat.divInt u d)) false ρ := cw_ok (rn__law_made hn u d hd (Nat.lt_of_lt_of_le (m := 2 ^ 20) (by show _ < 1048576; omega) (Nat.pow_le_pow_right (by decide) (by decide))))
theorem cw_frac (hn : 2 ≤ n) {u d : Int} (hd : ¬ d = 0) (h : d.natAbs < 1000000) : CW ((Prog.rt G (run G n) false).call i_frac .non [.int u, .int d]) ρ K X = K (fr (Rat.divInt u d)) false ρ := cw_ok (rn_frac hn u d hd (Nat.lt_of_lt_of_le (m := 2 ^ 20) (by show _ < 1048576; omega) (Nat.pow_le_pow_right (by decide) (by decide))))
end
end Gk54
end

section
namespace Gk54
open GW
section
variable {n : Nat} {ρ : Env} {K : D → Bool → Env → Prop} {X : Nat → Env → Prop} {ns : List Int}

end
end Gk54
end

section
namespace Gk54
open GW
section
variable {n : Nat} {ρ : Env} {K : D → Bool → Env → Prop} {X : Nat → Env → Prop} {ns : List Int} {a b t l u v x y : Rat} {k : Kd} {ia ib it il iu iv ix iy : Nat} [SzLe a ia] [SzLe b ib] [SzLe t it] [SzLe l il] [SzLe u iu] [SzLe v iv] [SzLe x ix] [SzLe y iy]



end
end Gk54
end

section
open GW in
local macro_rules | `(tactic| walk_at "e1") => `(tactic| simp (maxSteps := 10000000) (disch := (first | assumption | omega | decide)) only [↓Gk54.gl_KINDS, ↓Gk54.gl_NONE, ↓Gk54.gl_STILL, ↓Gk54.gl_DEEPEST, ↓Gk54.gl_MOST, ↓Gk54.cv_tk0_0, ↓Gk54.cv_tk1_1, ↓Gk54.cv_tk1_0, ↓Gk54.cv_tk2_2, ↓Gk54.cv_tk2_0, ↓Gk54.cw_is_whole, ↓Gk54.cw_divisor, ↓Gk54.cw__law_divisor, ↓Gk54.cw_plus, ↓Gk54.cw_times, ↓Gk54.cw__law_plus, ↓Gk54.cw__law_minus, ↓Gk54.cw__law_times, ↓Gk54.cw__law_over, ↓Gk54.cw_is_less, ↓Gk54.cw__law_less, ↓Gk54.cw__law_pick, ↓Gk54.cw__law_frac, ↓Gk54.cw__law_size, ↓Gk54.cw__law_kind, ↓Gk54.cw__law_made, ↓Gk54.cw_frac, ↓we_int, ↓we_bl, ↓we_non, ↓we_str, ↓we_tup, ↓we_lst, ↓wl_nil, ↓wl_cons, ↓we_bin, ↓we_cmp, ↓we_chain, ↓we_ix, ↓we_neg, ↓we_nt, ↓we_ife, ↓we_conj, ↓we_disj, ↓wa_nil, ↓wo_nil, ↓wa_cons, ↓wo_cons, ↓we_call, ↓we_bi, ↓we_isi, ↓we_rev, ↓we_sl, ↓we_mt, ↓we_bop, ↓we_rng, ↓we_zip, ↓we_enum, ↓we_gix, ↓we_glo, ↓ws_nil, ↓ws_set, ↓ws_exp, ↓ws_ret, ↓ws_retN, ↓ws_raise, ↓ws_pass, ↓ws_asgT, ↓ws_par, ↓ws_ite, ↓ws_try, ↓ws_whl, ↓th_nx, ↓th_rt, ↓th_exn, ↓th_bk, ↓th_ct, ↓tk_nx, ↓tk_rt, ↓nf_f, ↓nf_l, ↓nf_i, ↓nf_b, ↓nf_t, ↓nf_n, ↓nf_s, ↓nf_x, ↓br_t, ↓br_f, ↓br_n, ↓ov_s, ↓cw_o, ↓cw_e, ↓wv0, ↓wo0, ↓wm0, ↓wn0, ↓se0f, ↓se0o, ↓sx0, ↓pk0f, ↓pk0o, ↓po0, ↓wv1, ↓wo1, ↓wm1, ↓wn1, ↓se1f, ↓se1o, ↓sx1, ↓pk1f, ↓pk1o, ↓po1, ↓wv2, ↓wo2, ↓wm2, ↓wn2, ↓se2f, ↓se2o, ↓sx2, ↓pk2f, ↓pk2o, ↓po2, ↓wv3, ↓wo3, ↓wm3, ↓wn3, ↓se3f, ↓se3o, ↓sx3, ↓pk3f, ↓pk3o, ↓po3, ↓wv4, ↓wo4, ↓wm4, ↓wn4, ↓se4f, ↓se4o, ↓sx4, ↓pk4f, ↓pk4o, ↓po4, ↓wv5, ↓wo5, ↓wm5, ↓wn5, ↓se5f, ↓se5o, ↓sx5, ↓pk5f, ↓pk5o, ↓po5, ↓wv6, ↓wo6, ↓wm6, ↓wn6, ↓se6f, ↓se6o, ↓sx6, ↓pk6f, ↓pk6o, ↓po6, ↓wv7, ↓wo7, ↓wm7, ↓wn7, ↓se7f, ↓se7o, ↓sx7, ↓pk7f, ↓pk7o, ↓po7, ↓wv8, ↓wo8, ↓wm8, ↓wn8, ↓se8f, ↓se8o, ↓sx8, ↓pk8f, ↓pk8o, ↓po8, ↓wv9, ↓wo9, ↓wm9, ↓wn9, ↓se9f, ↓se9o, ↓sx9, ↓pk9f, ↓pk9o, ↓po9, ↓wv10, ↓wo10, ↓wm10, ↓wn10, ↓se10f, ↓se10o, ↓sx10, ↓pk10f, ↓pk10o, ↓po10, ↓wv11, ↓wo11, ↓wm11, ↓wn11, ↓se11f, ↓se11o, ↓sx11, ↓pk11f, ↓pk11o, ↓po11, ↓wv12, ↓wo12, ↓wm12, ↓wn12, ↓se12f, ↓se12o, ↓sx12, ↓pk12f, ↓pk12o, ↓po12, ↓wv13, ↓wo13, ↓wm13, ↓wn13, ↓se13f, ↓se13o, ↓sx13, ↓pk13f, ↓pk13o, ↓po13, ↓wv14, ↓wo14, ↓wm14, ↓wn14, ↓se14f, ↓se14o, ↓sx14, ↓pk14f, ↓pk14o, ↓po14, ↓wv15, ↓wo15, ↓wm15, ↓wn15, ↓se15f, ↓se15o, ↓sx15, ↓pk15f, ↓pk15o, ↓po15, ↓wv16, ↓wo16, ↓wm16, ↓wn16, ↓se16f, ↓se16o, ↓sx16, ↓pk16f, ↓pk16o, ↓po16, ↓wv17, ↓wo17, ↓wm17, ↓wn17, ↓se17f, ↓se17o, ↓sx17, ↓pk17f, ↓pk17o, ↓po17, ↓wv18, ↓wo18, ↓wm18, ↓wn18, ↓se18f, ↓se18o, ↓sx18, ↓pk18f, ↓pk18o, ↓po18, ↓wv19, ↓wo19, ↓wm19, ↓wn19, ↓se19f, ↓se19o, ↓sx19, ↓pk19f, ↓pk19o, ↓po19, ↓wv20, ↓wo20, ↓wm20, ↓wn20, ↓se20f, ↓se20o, ↓sx20, ↓pk20f, ↓pk20o, ↓po20, ↓wv21, ↓wo21, ↓wm21, ↓wn21, ↓se21f, ↓se21o, ↓sx21, ↓pk21f, ↓pk21o, ↓po21, ↓wv22, ↓wo22, ↓wm22, ↓wn22, ↓se22f, ↓se22o, ↓sx22, ↓pk22f, ↓pk22o, ↓po22, ↓wv23, ↓wo23, ↓wm23, ↓wn23, ↓se23f, ↓se23o, ↓sx23, ↓pk23f, ↓pk23o, ↓po23, ↓wv24, ↓wo24, ↓wm24, ↓wn24, ↓se24f, ↓se24o, ↓sx24, ↓pk24f, ↓pk24o, ↓po24, ↓wv25, ↓wo25, ↓wm25, ↓wn25, ↓se25f, ↓se25o, ↓sx25, ↓pk25f, ↓pk25o, ↓po25, ↓ses_n, ↓ses_c, ↓sep_n, ↓sep_c, ↓ws_appn, ↓ws_extn, ↓b_add, ↓b_addl, ↓b_addt, ↓b_sub, ↓b_mul, ↓b_fdiv, ↓b_mod, ↓b_pow, ↓c_lt, ↓c_le, ↓c_gt, ↓c_ge, ↓c_eq, ↓c_ne, ↓is_n, ↓isn_n, ↓is_b, ↓isn_b, ↓is_i, ↓isn_i, ↓is_s, ↓isn_s, ↓is_t, ↓isn_t, ↓is_l, ↓isn_l, ↓is_x, ↓isn_x, ↓isn_bb, ↓b_mult, ↓is_bb, ↓ix_tup0, ↓ix_lst0, ↓ix_tup1, ↓ix_lst1, ↓ix_tup2, ↓ix_lst2, ↓ix_tup3, ↓ix_lst3, ↓ix_tup4, ↓ix_lst4, ↓ix_tup5, ↓ix_lst5, ↓ix_tup6, ↓ix_lst6, ↓ix_tup7, ↓ix_lst7, ↓ix_tup8, ↓ix_lst8, ↓ix_tup9, ↓ix_lst9, ↓ix_tup10, ↓ix_lst10, ↓ix_tup11, ↓ix_lst11, ↓ix_tup12, ↓ix_lst12, ↓ix_tup13, ↓ix_lst13, ↓ix_tup14, ↓ix_lst14, ↓ix_tup15, ↓ix_lst15, ↓ng, ↓up_t, ↓up_l, ↓it_t, ↓it_l, ↓ls_l, ↓pt_n, ↓pt_i, ↓rg1, ↓rg2, ↓bi_lenl, ↓bi_lent, ↓bi_abs, ↓bi_lil, ↓bi_lit, ↓bi_tul, ↓bi_tut, ↓rv_l, ↓ii_non_int, ↓ii_non_bool, ↓ii_non_str, ↓ii_non_tuple, ↓ii_non_list, ↓ii_bl_int, ↓ii_bl_bool, ↓ii_bl_str, ↓ii_bl_tuple, ↓ii_bl_list, ↓ii_int_int, ↓ii_int_bool, ↓ii_int_str, ↓ii_int_tuple, ↓ii_int_list, ↓ii_str_int, ↓ii_str_bool, ↓ii_str_str, ↓ii_str_tuple, ↓ii_str_list, ↓ii_tup_int, ↓ii_tup_bool, ↓ii_tup_str, ↓ii_tup_tuple, ↓ii_tup_list, ↓ii_lst_int, ↓ii_lst_bool, ↓ii_lst_str, ↓ii_lst_tuple, ↓ii_lst_list, ↓nf_fr, ↓ix_fr0, ↓ix_fr1, ↓ii_fr_t, ↓len_fr, ↓c_eqfr, ↓c_nefr, ↓c_eqfrs, ↓c_nefrs, ↓c_eqbs, ↓c_nebs, ↓we_fz, ↓ws_asgs, ↓wlo_nil, ↓wlo_cons, ↓pv_n, ↓pv_c, ↓ri_rt, ↓ri_nx, ↓ri_ex, ↓ri_rx, ↓ri_xr, ↓gd_nx, ↓gd_rt, ↓gd_ex, ↓ok_rt, ↓ws_forW, ↓ws_brk, ↓ws_cont, ↓lq_nx, ↓lq_ct, ↓lq_bk, ↓lq_rt, ↓lq_exn, ↓iq_nx, ↓iq_ct, ↓iq_bk, ↓iq_rt, ↓iq_exn, ↓st_n, ↓st_t, ↓sts_n, ↓sts_c, ↓we_lc, ↓now_n, ↓now_c, ↓gs_0, ↓gs_s, ↓io_f, ↓io_n, ↓wp_n, ↓wp_c, ↓ck_even, ↓cn_even, ↓ck_in, ↓cn_in, ↓ck_out, ↓cn_out, ↓ck_both, ↓cn_both, ↓ck_hold, ↓cn_hold, ↓ck_jump, ↓cn_jump, ↓ck_kept, ↓cn_kept, ↓ci_hj, ↓cj_hj, ↓ci_bk, ↓cj_bk, ↓ci_kinds, ↓cj_kinds, ↓gx_turn, ↓up_fr, ↓ok_i, ↓ok_ii, ↓turn_turn, ↓sl_t, ↓sl_l, ↓cut_h1, ↓cut_l1, ↓cut_h2, ↓cut_l2, ↓cut_h3, ↓cut_l3, ↓cut_h4, ↓cut_l4, ↓cut_h5, ↓cut_l5, ↓cut_2_4, ↓r_nn, ↓c_eqself, ↓c_neself, ↓br_T, ↓br_F, ↓lit01, ↓lit11, ↓lit21, ↓lit31, ↓lit41, ↓lit61, ↓lit12, ↓lit32, decide_eq_true_eq, decide_eq_false_iff_not, Bool.not_eq_true', Bool.not_eq_false', true_and, and_true, and_self, true_implies, false_implies, implies_true, forall_const, not_true_eq_false, not_false_eq_true, Bool.not_true, Bool.not_false, decide_true, decide_false, reduceCtorEq, List.cons_append, List.nil_append, List.append_assoc, not_false_iff, eq_self, Tg.slots, GW.ld, GW.ld2, List.length_cons, List.length_nil])
namespace Gk54
open GW
section
variable {n : Nat} {ρ : Env} {K : D → Bool → Env → Prop} {X : Nat → Env → Prop} {ns : List Int} {a b t l u v x y : Rat} {k : Kd} {ia ib it il iu iv ix iy : Nat} [SzLe a ia] [SzLe b ib] [SzLe t it] [SzLe l il] [SzLe u iu] [SzLe v iv] [SzLe x ix] [SzLe y iy]
theorem cv_is_whole (hn : 1 ≤ n) {i : Int} : CW ((Prog.rt G (run G n) false).call i_is_whole .non [.int i]) ρ K X = K (.bl true) false ρ := cw_ok (rn_is_whole hn i)
theorem cv_divisor (hn : 1 ≤ n) {i : Int} (h : ix ≤ 20000) : CW ((Prog.rt G (run G n) false).call i_divisor .non [.int i, .int x.den]) ρ K X = K (.int (Int.gcd i x.den)) false ρ := cw_ok (rn_divisor hn i x.den (Nat.lt_of_lt_of_le (SzLe.di (q := x) inferInstance) (Nat.pow_le_pow_right (by decide) h)))

open GW in
local macro_rules | `(tactic| walk_at "e1") => `(tactic| simp (maxSteps := 10000000) (disch := (first | assumption | omega | decide)) only [↓Gk54.gl_KINDS, ↓Gk54.gl_NONE, ↓Gk54.gl_STILL, ↓Gk54.gl_DEEPEST, ↓Gk54.gl_MOST, ↓Gk54.cv_tk0_0, ↓Gk54.cv_tk1_1, ↓Gk54.cv_tk1_0, ↓Gk54.cv_tk2_2, ↓Gk54.cv_tk2_0, ↓Gk54.cw_is_whole, ↓Gk54.cw_divisor, ↓Gk54.cw__law_divisor, ↓Gk54.cw_plus, ↓Gk54.cw_times, ↓Gk54.cw__law_plus, ↓Gk54.cw__law_minus, ↓Gk54.cw__law_times, ↓Gk54.cw__law_over, ↓Gk54.cw_is_less, ↓Gk54.cw__law_less, ↓Gk54.cw__law_pick, ↓Gk54.cw__law_frac, ↓Gk54.cw__law_size, ↓Gk54.cw__law_kind, ↓Gk54.cw__law_made, ↓Gk54.cw_frac, ↓Gk54.cv_is_whole, ↓Gk54.cv_divisor, ↓we_int, ↓we_bl, ↓we_non, ↓we_str, ↓we_tup, ↓we_lst, ↓wl_nil, ↓wl_cons, ↓we_bin, ↓we_cmp, ↓we_chain, ↓we_ix, ↓we_neg, ↓we_nt, ↓we_ife, ↓we_conj, ↓we_disj, ↓wa_nil, ↓wo_nil, ↓wa_cons, ↓wo_cons, ↓we_call, ↓we_bi, ↓we_isi, ↓we_rev, ↓we_sl, ↓we_mt, ↓we_bop, ↓we_rng, ↓we_zip, ↓we_enum, ↓we_gix, ↓we_glo, ↓ws_nil, ↓ws_set, ↓ws_exp, ↓ws_ret, ↓ws_retN, ↓ws_raise, ↓ws_pass, ↓ws_asgT, ↓ws_par, ↓ws_ite, ↓ws_try, ↓ws_whl, ↓th_nx, ↓th_rt, ↓th_exn, ↓th_bk, ↓th_ct, ↓tk_nx, ↓tk_rt, ↓nf_f, ↓nf_l, ↓nf_i, ↓nf_b, ↓nf_t, ↓nf_n, ↓nf_s, ↓nf_x, ↓br_t, ↓br_f, ↓br_n, ↓ov_s, ↓cw_o, ↓cw_e, ↓wv0, ↓wo0, ↓wm0, ↓wn0, ↓se0f, ↓se0o, ↓sx0, ↓pk0f, ↓pk0o, ↓po0, ↓wv1, ↓wo1, ↓wm1, ↓wn1, ↓se1f, ↓se1o, ↓sx1, ↓pk1f, ↓pk1o, ↓po1, ↓wv2, ↓wo2, ↓wm2, ↓wn2, ↓se2f, ↓se2o, ↓sx2, ↓pk2f, ↓pk2o, ↓po2, ↓wv3, ↓wo3, ↓wm3, ↓wn3, ↓se3f, ↓se3o, ↓sx3, ↓pk3f, ↓pk3o, ↓po3, ↓wv4, ↓wo4, ↓wm4, ↓wn4, ↓se4f, ↓se4o, ↓sx4, ↓pk4f, ↓pk4o, ↓po4, ↓wv5, ↓wo5, ↓wm5, ↓wn5, ↓se5f, ↓se5o, ↓sx5, ↓pk5f, ↓pk5o, ↓po5, ↓wv6, ↓wo6, ↓wm6, ↓wn6, ↓se6f, ↓se6o, ↓sx6, ↓pk6f, ↓pk6o, ↓po6, ↓wv7, ↓wo7, ↓wm7, ↓wn7, ↓se7f, ↓se7o, ↓sx7, ↓pk7f, ↓pk7o, ↓po7, ↓wv8, ↓wo8, ↓wm8, ↓wn8, ↓se8f, ↓se8o, ↓sx8, ↓pk8f, ↓pk8o, ↓po8, ↓wv9, ↓wo9, ↓wm9, ↓wn9, ↓se9f, ↓se9o, ↓sx9, ↓pk9f, ↓pk9o, ↓po9, ↓wv10, ↓wo10, ↓wm10, ↓wn10, ↓se10f, ↓se10o, ↓sx10, ↓pk10f, ↓pk10o, ↓po10, ↓wv11, ↓wo11, ↓wm11, ↓wn11, ↓se11f, ↓se11o, ↓sx11, ↓pk11f, ↓pk11o, ↓po11, ↓wv12, ↓wo12, ↓wm12, ↓wn12, ↓se12f, ↓se12o, ↓sx12, ↓pk12f, ↓pk12o, ↓po12, ↓wv13, ↓wo13, ↓wm13, ↓wn13, ↓se13f, ↓se13o, ↓sx13, ↓pk13f, ↓pk13o, ↓po13, ↓wv14, ↓wo14, ↓wm14, ↓wn14, ↓se14f, ↓se14o, ↓sx14, ↓pk14f, ↓pk14o, ↓po14, ↓wv15, ↓wo15, ↓wm15, ↓wn15, ↓se15f, ↓se15o, ↓sx15, ↓pk15f, ↓pk15o, ↓po15, ↓wv16, ↓wo16, ↓wm16, ↓wn16, ↓se16f, ↓se16o, ↓sx16, ↓pk16f, ↓pk16o, ↓po16, ↓wv17, ↓wo17, ↓wm17, ↓wn17, ↓se17f, ↓se17o, ↓sx17, ↓pk17f, ↓pk17o, ↓po17, ↓wv18, ↓wo18, ↓wm18, ↓wn18, ↓se18f, ↓se18o, ↓sx18, ↓pk18f, ↓pk18o, ↓po18, ↓wv19, ↓wo19, ↓wm19, ↓wn19, ↓se19f, ↓se19o, ↓sx19, ↓pk19f, ↓pk19o, ↓po19, ↓wv20, ↓wo20, ↓wm20, ↓wn20, ↓se20f, ↓se20o, ↓sx20, ↓pk20f, ↓pk20o, ↓po20, ↓wv21, ↓wo21, ↓wm21, ↓wn21, ↓se21f, ↓se21o, ↓sx21, ↓pk21f, ↓pk21o, ↓po21, ↓wv22, ↓wo22, ↓wm22, ↓wn22, ↓se22f, ↓se22o, ↓sx22, ↓pk22f, ↓pk22o, ↓po22, ↓wv23, ↓wo23, ↓wm23, ↓wn23, ↓se23f, ↓se23o, ↓sx23, ↓pk23f, ↓pk23o, ↓po23, ↓wv24, ↓wo24, ↓wm24, ↓wn24, ↓se24f, ↓se24o, ↓sx24, ↓pk24f, ↓pk24o, ↓po24, ↓wv25, ↓wo25, ↓wm25, ↓wn25, ↓se25f, ↓se25o, ↓sx25, ↓pk25f, ↓pk25o, ↓po25, ↓ses_n, ↓ses_c, ↓sep_n, ↓sep_c, ↓ws_appn, ↓ws_extn, ↓b_add, ↓b_addl, ↓b_addt, ↓b_sub, ↓b_mul, ↓b_fdiv, ↓b_mod, ↓b_pow, ↓c_lt, ↓c_le, ↓c_gt, ↓c_ge, ↓c_eq, ↓c_ne, ↓is_n, ↓isn_n, ↓is_b, ↓isn_b, ↓is_i, ↓isn_i, ↓is_s, ↓isn_s, ↓is_t, ↓isn_t, ↓is_l, ↓isn_l, ↓is_x, ↓isn_x, ↓isn_bb, ↓b_mult, ↓is_bb, ↓ix_tup0, ↓ix_lst0, ↓ix_tup1, ↓ix_lst1, ↓ix_tup2, ↓ix_lst2, ↓ix_tup3, ↓ix_lst3, ↓ix_tup4, ↓ix_lst4, ↓ix_tup5, ↓ix_lst5, ↓ix_tup6, ↓ix_lst6, ↓ix_tup7, ↓ix_lst7, ↓ix_tup8, ↓ix_lst8, ↓ix_tup9, ↓ix_lst9, ↓ix_tup10, ↓ix_lst10, ↓ix_tup11, ↓ix_lst11, ↓ix_tup12, ↓ix_lst12, ↓ix_tup13, ↓ix_lst13, ↓ix_tup14, ↓ix_lst14, ↓ix_tup15, ↓ix_lst15, ↓ng, ↓up_t, ↓up_l, ↓it_t, ↓it_l, ↓ls_l, ↓pt_n, ↓pt_i, ↓rg1, ↓rg2, ↓bi_lenl, ↓bi_lent, ↓bi_abs, ↓bi_lil, ↓bi_lit, ↓bi_tul, ↓bi_tut, ↓rv_l, ↓ii_non_int, ↓ii_non_bool, ↓ii_non_str, ↓ii_non_tuple, ↓ii_non_list, ↓ii_bl_int, ↓ii_bl_bool, ↓ii_bl_str, ↓ii_bl_tuple, ↓ii_bl_list, ↓ii_int_int, ↓ii_int_bool, ↓ii_int_str, ↓ii_int_tuple, ↓ii_int_list, ↓ii_str_int, ↓ii_str_bool, ↓ii_str_str, ↓ii_str_tuple, ↓ii_str_list, ↓ii_tup_int, ↓ii_tup_bool, ↓ii_tup_str, ↓ii_tup_tuple, ↓ii_tup_list, ↓ii_lst_int, ↓ii_lst_bool, ↓ii_lst_str, ↓ii_lst_tuple, ↓ii_lst_list, ↓nf_fr, ↓ix_fr0, ↓ix_fr1, ↓ii_fr_t, ↓len_fr, ↓c_eqfr, ↓c_nefr, ↓c_eqfrs, ↓c_nefrs, ↓c_eqbs, ↓c_nebs, ↓we_fz, ↓ws_asgs, ↓wlo_nil, ↓wlo_cons, ↓pv_n, ↓pv_c, ↓ri_rt, ↓ri_nx, ↓ri_ex, ↓ri_rx, ↓ri_xr, ↓gd_nx, ↓gd_rt, ↓gd_ex, ↓ok_rt, ↓ws_forW, ↓ws_brk, ↓ws_cont, ↓lq_nx, ↓lq_ct, ↓lq_bk, ↓lq_rt, ↓lq_exn, ↓iq_nx, ↓iq_ct, ↓iq_bk, ↓iq_rt, ↓iq_exn, ↓st_n, ↓st_t, ↓sts_n, ↓sts_c, ↓we_lc, ↓now_n, ↓now_c, ↓gs_0, ↓gs_s, ↓io_f, ↓io_n, ↓wp_n, ↓wp_c, ↓ck_even, ↓cn_even, ↓ck_in, ↓cn_in, ↓ck_out, ↓cn_out, ↓ck_both, ↓cn_both, ↓ck_hold, ↓cn_hold, ↓ck_jump, ↓cn_jump, ↓ck_kept, ↓cn_kept, ↓ci_hj, ↓cj_hj, ↓ci_bk, ↓cj_bk, ↓ci_kinds, ↓cj_kinds, ↓gx_turn, ↓up_fr, ↓ok_i, ↓ok_ii, ↓turn_turn, ↓sl_t, ↓sl_l, ↓cut_h1, ↓cut_l1, ↓cut_h2, ↓cut_l2, ↓cut_h3, ↓cut_l3, ↓cut_h4, ↓cut_l4, ↓cut_h5, ↓cut_l5, ↓cut_2_4, ↓r_nn, ↓c_eqself, ↓c_neself, ↓br_T, ↓br_F, ↓lit01, ↓lit11, ↓lit21, ↓lit31, ↓lit41, ↓lit61, ↓lit12, ↓lit32, decide_eq_true_eq, decide_eq_false_iff_not, Bool.not_eq_true', Bool.not_eq_false', true_and, and_true, and_self, true_implies, false_implies, implies_true, forall_const, not_true_eq_false, not_false_eq_true, Bool.not_true, Bool.not_false, decide_true, decide_false, reduceCtorEq, List.cons_append, List.nil_append, List.append_assoc, not_false_iff, eq_self, Tg.slots, GW.ld, GW.ld2, List.length_cons, List.length_nil])
theorem rn_is_frac (hn : 2 ≤ n) (h : ix ≤ 20000) : run G n i_is_frac .non [fr x] = .ok (.bl true) false .non := by
  obtain ⟨n, rfl⟩ : ∃ m, n = m + 1 := ⟨n - 1, by omega⟩
  refine en_is_frac ?_
  unfold F_is_frac
  have h1 : (0 : Int) < x.den := by have := x.den_pos; omega
  have h2 : Int.gcd x.num (x.den : Int) = 1 := by
    have := x.reduced
    unfold Nat.Coprime at this
    rw [Int.gcd_eq_natAbs_gcd_natAbs]
    simpa using this
  have h3 : (Int.gcd x.num (x.den : Int) : Int) = 1 := by omega
  walk_at "e1"
theorem cw_is_frac (hn : 2 ≤ n) (h : ix ≤ 20000) : CW ((Prog.rt G (run G n) false).call i_is_frac .non [fr x]) ρ K X = K (.bl true) false ρ := cw_ok (rn_is_frac hn h)

open GW in
local macro_rules | `(tactic| walk_at "e1") => `(tactic| simp (maxSteps := 10000000) (disch := (first | assumption | omega | decide)) only [↓Gk54.gl_KINDS, ↓Gk54.gl_NONE, ↓Gk54.gl_STILL, ↓Gk54.gl_DEEPEST, ↓Gk54.gl_MOST, ↓Gk54.cv_tk0_0, ↓Gk54.cv_tk1_1, ↓Gk54.cv_tk1_0, ↓Gk54.cv_tk2_2, ↓Gk54.cv_tk2_0, ↓Gk54.cw_is_whole, ↓Gk54.cw_divisor, ↓Gk54.cw__law_divisor, ↓Gk54.cw_plus, ↓Gk54.cw_times, ↓Gk54.cw__law_plus, ↓Gk54.cw__law_minus, ↓Gk54.cw__law_times, ↓Gk54.cw__law_over, ↓Gk54.cw_is_less, ↓Gk54.cw__law_less, ↓Gk54.cw__law_pick, ↓Gk54.cw__law_frac, ↓Gk54.cw__law_size, ↓Gk54.cw__law_kind, ↓Gk54.cw__law_made, ↓Gk54.cw_frac, ↓Gk54.cv_is_whole, ↓Gk54.cv_divisor, ↓Gk54.cw_is_frac, ↓we_int, ↓we_bl, ↓we_non, ↓we_str, ↓we_tup, ↓we_lst, ↓wl_nil, ↓wl_cons, ↓we_bin, ↓we_cmp, ↓we_chain, ↓we_ix, ↓we_neg, ↓we_nt, ↓we_ife, ↓we_conj, ↓we_disj, ↓wa_nil, ↓wo_nil, ↓wa_cons, ↓wo_cons, ↓we_call, ↓we_bi, ↓we_isi, ↓we_rev, ↓we_sl, ↓we_mt, ↓we_bop, ↓we_rng, ↓we_zip, ↓we_enum, ↓we_gix, ↓we_glo, ↓ws_nil, ↓ws_set, ↓ws_exp, ↓ws_ret, ↓ws_retN, ↓ws_raise, ↓ws_pass, ↓ws_asgT, ↓ws_par, ↓ws_ite, ↓ws_try, ↓ws_whl, ↓th_nx, ↓th_rt, ↓th_exn, ↓th_bk, ↓th_ct, ↓tk_nx, ↓tk_rt, ↓nf_f, ↓nf_l, ↓nf_i, ↓nf_b, ↓nf_t, ↓nf_n, ↓nf_s, ↓nf_x, ↓br_t, ↓br_f, ↓br_n, ↓ov_s, ↓cw_o, ↓cw_e, ↓wv0, ↓wo0, ↓wm0, ↓wn0, ↓se0f, ↓se0o, ↓sx0, ↓pk0f, ↓pk0o, ↓po0, ↓wv1, ↓wo1, ↓wm1, ↓wn1, ↓se1f, ↓se1o, ↓sx1, ↓pk1f, ↓pk1o, ↓po1, ↓wv2, ↓wo2, ↓wm2, ↓wn2, ↓se2f, ↓se2o, ↓sx2, ↓pk2f, ↓pk2o, ↓po2, ↓wv3, ↓wo3, ↓wm3, ↓wn3, ↓se3f, ↓se3o, ↓sx3, ↓pk3f, ↓pk3o, ↓po3, ↓wv4, ↓wo4, ↓wm4, ↓wn4, ↓se4f, ↓se4o, ↓sx4, ↓pk4f, ↓pk4o, ↓po4, ↓wv5, ↓wo5, ↓wm5, ↓wn5, ↓se5f, ↓se5o, ↓sx5, ↓pk5f, ↓pk5o, ↓po5, ↓wv6, ↓wo6, ↓wm6, ↓wn6, ↓se6f, ↓se6o, ↓sx6, ↓pk6f, ↓pk6o, ↓po6, ↓wv7, ↓wo7, ↓wm7, ↓wn7, ↓se7f, ↓se7o, ↓sx7, ↓pk7f, ↓pk7o, ↓po7, ↓wv8, ↓wo8, ↓wm8, ↓wn8, ↓se8f, ↓se8o, ↓sx8, ↓pk8f, ↓pk8o, ↓po8, ↓wv9, ↓wo9, ↓wm9, ↓wn9, ↓se9f, ↓se9o, ↓sx9, ↓pk9f, ↓pk9o, ↓po9, ↓wv10, ↓wo10, ↓wm10, ↓wn10, ↓se10f, ↓se10o, ↓sx10, ↓pk10f, ↓pk10o, ↓po10, ↓wv11, ↓wo11, ↓wm11, ↓wn11, ↓se11f, ↓se11o, ↓sx11, ↓pk11f, ↓pk11o, ↓po11, ↓wv12, ↓wo12, ↓wm12, ↓wn12, ↓se12f, ↓se12o, ↓sx12, ↓pk12f, ↓pk12o, ↓po12, ↓wv13, ↓wo13, ↓wm13, ↓wn13, ↓se13f, ↓se13o, ↓sx13, ↓pk13f, ↓pk13o, ↓po13, ↓wv14, ↓wo14, ↓wm14, ↓wn14, ↓se14f, ↓se14o, ↓sx14, ↓pk14f, ↓pk14o, ↓po14, ↓wv15, ↓wo15, ↓wm15, ↓wn15, ↓se15f, ↓se15o, ↓sx15, ↓pk15f, ↓pk15o, ↓po15, ↓wv16, ↓wo16, ↓wm16, ↓wn16, ↓se16f, ↓se16o, ↓sx16, ↓pk16f, ↓pk16o, ↓po16, ↓wv17, ↓wo17, ↓wm17, ↓wn17, ↓se17f, ↓se17o, ↓sx17, ↓pk17f, ↓pk17o, ↓po17, ↓wv18, ↓wo18, ↓wm18, ↓wn18, ↓se18f, ↓se18o, ↓sx18, ↓pk18f, ↓pk18o, ↓po18, ↓wv19, ↓wo19, ↓wm19, ↓wn19, ↓se19f, ↓se19o, ↓sx19, ↓pk19f, ↓pk19o, ↓po19, ↓wv20, ↓wo20, ↓wm20, ↓wn20, ↓se20f, ↓se20o, ↓sx20, ↓pk20f, ↓pk20o, ↓po20, ↓wv21, ↓wo21, ↓wm21, ↓wn21, ↓se21f, ↓se21o, ↓sx21, ↓pk21f, ↓pk21o, ↓po21, ↓wv22, ↓wo22, ↓wm22, ↓wn22, ↓se22f, ↓se22o, ↓sx22, ↓pk22f, ↓pk22o, ↓po22, ↓wv23, ↓wo23, ↓wm23, ↓wn23, ↓se23f, ↓se23o, ↓sx23, ↓pk23f, ↓pk23o, ↓po23, ↓wv24, ↓wo24, ↓wm24, ↓wn24, ↓se24f, ↓se24o, ↓sx24, ↓pk24f, ↓pk24o, ↓po24, ↓wv25, ↓wo25, ↓wm25, ↓wn25, ↓se25f, ↓se25o, ↓sx25, ↓pk25f, ↓pk25o, ↓po25, ↓ses_n, ↓ses_c, ↓sep_n, ↓sep_c, ↓ws_appn, ↓ws_extn, ↓b_add, ↓b_addl, ↓b_addt, ↓b_sub, ↓b_mul, ↓b_fdiv, ↓b_mod, ↓b_pow, ↓c_lt, ↓c_le, ↓c_gt, ↓c_ge, ↓c_eq, ↓c_ne, ↓is_n, ↓isn_n, ↓is_b, ↓isn_b, ↓is_i, ↓isn_i, ↓is_s, ↓isn_s, ↓is_t, ↓isn_t, ↓is_l, ↓isn_l, ↓is_x, ↓isn_x, ↓isn_bb, ↓b_mult, ↓is_bb, ↓ix_tup0, ↓ix_lst0, ↓ix_tup1, ↓ix_lst1, ↓ix_tup2, ↓ix_lst2, ↓ix_tup3, ↓ix_lst3, ↓ix_tup4, ↓ix_lst4, ↓ix_tup5, ↓ix_lst5, ↓ix_tup6, ↓ix_lst6, ↓ix_tup7, ↓ix_lst7, ↓ix_tup8, ↓ix_lst8, ↓ix_tup9, ↓ix_lst9, ↓ix_tup10, ↓ix_lst10, ↓ix_tup11, ↓ix_lst11, ↓ix_tup12, ↓ix_lst12, ↓ix_tup13, ↓ix_lst13, ↓ix_tup14, ↓ix_lst14, ↓ix_tup15, ↓ix_lst15, ↓ng, ↓up_t, ↓up_l, ↓it_t, ↓it_l, ↓ls_l, ↓pt_n, ↓pt_i, ↓rg1, ↓rg2, ↓bi_lenl, ↓bi_lent, ↓bi_abs, ↓bi_lil, ↓bi_lit, ↓bi_tul, ↓bi_tut, ↓rv_l, ↓ii_non_int, ↓ii_non_bool, ↓ii_non_str, ↓ii_non_tuple, ↓ii_non_list, ↓ii_bl_int, ↓ii_bl_bool, ↓ii_bl_str, ↓ii_bl_tuple, ↓ii_bl_list, ↓ii_int_int, ↓ii_int_bool, ↓ii_int_str, ↓ii_int_tuple, ↓ii_int_list, ↓ii_str_int, ↓ii_str_bool, ↓ii_str_str, ↓ii_str_tuple, ↓ii_str_list, ↓ii_tup_int, ↓ii_tup_bool, ↓ii_tup_str, ↓ii_tup_tuple, ↓ii_tup_list, ↓ii_lst_int, ↓ii_lst_bool, ↓ii_lst_str, ↓ii_lst_tuple, ↓ii_lst_list, ↓nf_fr, ↓ix_fr0, ↓ix_fr1, ↓ii_fr_t, ↓len_fr, ↓c_eqfr, ↓c_nefr, ↓c_eqfrs, ↓c_nefrs, ↓c_eqbs, ↓c_nebs, ↓we_fz, ↓ws_asgs, ↓wlo_nil, ↓wlo_cons, ↓pv_n, ↓pv_c, ↓ri_rt, ↓ri_nx, ↓ri_ex, ↓ri_rx, ↓ri_xr, ↓gd_nx, ↓gd_rt, ↓gd_ex, ↓ok_rt, ↓ws_forW, ↓ws_brk, ↓ws_cont, ↓lq_nx, ↓lq_ct, ↓lq_bk, ↓lq_rt, ↓lq_exn, ↓iq_nx, ↓iq_ct, ↓iq_bk, ↓iq_rt, ↓iq_exn, ↓st_n, ↓st_t, ↓sts_n, ↓sts_c, ↓we_lc, ↓now_n, ↓now_c, ↓gs_0, ↓gs_s, ↓io_f, ↓io_n, ↓wp_n, ↓wp_c, ↓ck_even, ↓cn_even, ↓ck_in, ↓cn_in, ↓ck_out, ↓cn_out, ↓ck_both, ↓cn_both, ↓ck_hold, ↓cn_hold, ↓ck_jump, ↓cn_jump, ↓ck_kept, ↓cn_kept, ↓ci_hj, ↓cj_hj, ↓ci_bk, ↓cj_bk, ↓ci_kinds, ↓cj_kinds, ↓gx_turn, ↓up_fr, ↓ok_i, ↓ok_ii, ↓turn_turn, ↓sl_t, ↓sl_l, ↓cut_h1, ↓cut_l1, ↓cut_h2, ↓cut_l2, ↓cut_h3, ↓cut_l3, ↓cut_h4, ↓cut_l4, ↓cut_h5, ↓cut_l5, ↓cut_2_4, ↓r_nn, ↓c_eqself, ↓c_neself, ↓br_T, ↓br_F, ↓lit01, ↓lit11, ↓lit21, ↓lit31, ↓lit41, ↓lit61, ↓lit12, ↓lit32, decide_eq_true_eq, decide_eq_false_iff_not, Bool.not_eq_true', Bool.not_eq_false', true_and, and_true, and_self, true_implies, false_implies, implies_true, forall_const, not_true_eq_false, not_false_eq_true, Bool.not_true, Bool.not_false, decide_true, decide_false, reduceCtorEq, List.cons_append, List.nil_append, List.append_assoc, not_false_iff, eq_self, Tg.slots, GW.ld, GW.ld2, List.length_cons, List.length_nil])

open GW in
local macro_rules | `(tactic| walk_at "e1") => `(tactic| simp (maxSteps := 10000000) (disch := (first | assumption | omega | decide)) only [↓Gk54.gl_KINDS, ↓Gk54.gl_NONE, ↓Gk54.gl_STILL, ↓Gk54.gl_DEEPEST, ↓Gk54.gl_MOST, ↓Gk54.cv_tk0_0, ↓Gk54.cv_tk1_1, ↓Gk54.cv_tk1_0, ↓Gk54.cv_tk2_2, ↓Gk54.cv_tk2_0, ↓Gk54.cw_is_whole, ↓Gk54.cw_divisor, ↓Gk54.cw__law_divisor, ↓Gk54.cw_plus, ↓Gk54.cw_times, ↓Gk54.cw__law_plus, ↓Gk54.cw__law_minus, ↓Gk54.cw__law_times, ↓Gk54.cw__law_over, ↓Gk54.cw_is_less, ↓Gk54.cw__law_less, ↓Gk54.cw__law_pick, ↓Gk54.cw__law_frac, ↓Gk54.cw__law_size, ↓Gk54.cw__law_kind, ↓Gk54.cw__law_made, ↓Gk54.cw_frac, ↓Gk54.cv_is_whole, ↓Gk54.cv_divisor, ↓Gk54.cw_is_frac, ↓we_int, ↓we_bl, ↓we_non, ↓we_str, ↓we_tup, ↓we_lst, ↓wl_nil, ↓wl_cons, ↓we_bin, ↓we_cmp, ↓we_chain, ↓we_ix, ↓we_neg, ↓we_nt, ↓we_ife, ↓we_conj, ↓we_disj, ↓wa_nil, ↓wo_nil, ↓wa_cons, ↓wo_cons, ↓we_call, ↓we_bi, ↓we_isi, ↓we_rev, ↓we_sl, ↓we_mt, ↓we_bop, ↓we_rng, ↓we_zip, ↓we_enum, ↓we_gix, ↓we_glo, ↓ws_nil, ↓ws_set, ↓ws_exp, ↓ws_ret, ↓ws_retN, ↓ws_raise, ↓ws_pass, ↓ws_asgT, ↓ws_par, ↓ws_ite, ↓ws_try, ↓ws_whl, ↓th_nx, ↓th_rt, ↓th_exn, ↓th_bk, ↓th_ct, ↓tk_nx, ↓tk_rt, ↓nf_f, ↓nf_l, ↓nf_i, ↓nf_b, ↓nf_t, ↓nf_n, ↓nf_s, ↓nf_x, ↓br_t, ↓br_f, ↓br_n, ↓ov_s, ↓cw_o, ↓cw_e, ↓wv0, ↓wo0, ↓wm0, ↓wn0, ↓se0f, ↓se0o, ↓sx0, ↓pk0f, ↓pk0o, ↓po0, ↓wv1, ↓wo1, ↓wm1, ↓wn1, ↓se1f, ↓se1o, ↓sx1, ↓pk1f, ↓pk1o, ↓po1, ↓wv2, ↓wo2, ↓wm2, ↓wn2, ↓se2f, ↓se2o, ↓sx2, ↓pk2f, ↓pk2o, ↓po2, ↓wv3, ↓wo3, ↓wm3, ↓wn3, ↓se3f, ↓se3o, ↓sx3, ↓pk3f, ↓pk3o, ↓po3, ↓wv4, ↓wo4, ↓wm4, ↓wn4, ↓se4f, ↓se4o, ↓sx4, ↓pk4f, ↓pk4o, ↓po4, ↓wv5, ↓wo5, ↓wm5, ↓wn5, ↓se5f, ↓se5o, ↓sx5, ↓pk5f, ↓pk5o, ↓po5, ↓wv6, ↓wo6, ↓wm6, ↓wn6, ↓se6f, ↓se6o, ↓sx6, ↓pk6f, ↓pk6o, ↓po6, ↓wv7, ↓wo7, ↓wm7, ↓wn7, ↓se7f, ↓se7o, ↓sx7, ↓pk7f, ↓pk7o, ↓po7, ↓wv8, ↓wo8, ↓wm8, ↓wn8, ↓se8f, ↓se8o, ↓sx8, ↓pk8f, ↓pk8o, ↓po8, ↓wv9, ↓wo9, ↓wm9, ↓wn9, ↓se9f, ↓se9o, ↓sx9, ↓pk9f, ↓pk9o, ↓po9, ↓wv10, ↓wo10, ↓wm10, ↓wn10, ↓se10f, ↓se10o, ↓sx10, ↓pk10f, ↓pk10o, ↓po10, ↓wv11, ↓wo11, ↓wm11, ↓wn11, ↓se11f, ↓se11o, ↓sx11, ↓pk11f, ↓pk11o, ↓po11, ↓wv12, ↓wo12, ↓wm12, ↓wn12, ↓se12f, ↓se12o, ↓sx12, ↓pk12f, ↓pk12o, ↓po12, ↓wv13, ↓wo13, ↓wm13, ↓wn13, ↓se13f, ↓se13o, ↓sx13, ↓pk13f, ↓pk13o, ↓po13, ↓wv14, ↓wo14, ↓wm14, ↓wn14, ↓se14f, ↓se14o, ↓sx14, ↓pk14f, ↓pk14o, ↓po14, ↓wv15, ↓wo15, ↓wm15, ↓wn15, ↓se15f, ↓se15o, ↓sx15, ↓pk15f, ↓pk15o, ↓po15, ↓wv16, ↓wo16, ↓wm16, ↓wn16, ↓se16f, ↓se16o, ↓sx16, ↓pk16f, ↓pk16o, ↓po16, ↓wv17, ↓wo17, ↓wm17, ↓wn17, ↓se17f, ↓se17o, ↓sx17, ↓pk17f, ↓pk17o, ↓po17, ↓wv18, ↓wo18, ↓wm18, ↓wn18, ↓se18f, ↓se18o, ↓sx18, ↓pk18f, ↓pk18o, ↓po18, ↓wv19, ↓wo19, ↓wm19, ↓wn19, ↓se19f, ↓se19o, ↓sx19, ↓pk19f, ↓pk19o, ↓po19, ↓wv20, ↓wo20, ↓wm20, ↓wn20, ↓se20f, ↓se20o, ↓sx20, ↓pk20f, ↓pk20o, ↓po20, ↓wv21, ↓wo21, ↓wm21, ↓wn21, ↓se21f, ↓se21o, ↓sx21, ↓pk21f, ↓pk21o, ↓po21, ↓wv22, ↓wo22, ↓wm22, ↓wn22, ↓se22f, ↓se22o, ↓sx22, ↓pk22f, ↓pk22o, ↓po22, ↓wv23, ↓wo23, ↓wm23, ↓wn23, ↓se23f, ↓se23o, ↓sx23, ↓pk23f, ↓pk23o, ↓po23, ↓wv24, ↓wo24, ↓wm24, ↓wn24, ↓se24f, ↓se24o, ↓sx24, ↓pk24f, ↓pk24o, ↓po24, ↓wv25, ↓wo25, ↓wm25, ↓wn25, ↓se25f, ↓se25o, ↓sx25, ↓pk25f, ↓pk25o, ↓po25, ↓ses_n, ↓ses_c, ↓sep_n, ↓sep_c, ↓ws_appn, ↓ws_extn, ↓b_add, ↓b_addl, ↓b_addt, ↓b_sub, ↓b_mul, ↓b_fdiv, ↓b_mod, ↓b_pow, ↓c_lt, ↓c_le, ↓c_gt, ↓c_ge, ↓c_eq, ↓c_ne, ↓is_n, ↓isn_n, ↓is_b, ↓isn_b, ↓is_i, ↓isn_i, ↓is_s, ↓isn_s, ↓is_t, ↓isn_t, ↓is_l, ↓isn_l, ↓is_x, ↓isn_x, ↓isn_bb, ↓b_mult, ↓is_bb, ↓ix_tup0, ↓ix_lst0, ↓ix_tup1, ↓ix_lst1, ↓ix_tup2, ↓ix_lst2, ↓ix_tup3, ↓ix_lst3, ↓ix_tup4, ↓ix_lst4, ↓ix_tup5, ↓ix_lst5, ↓ix_tup6, ↓ix_lst6, ↓ix_tup7, ↓ix_lst7, ↓ix_tup8, ↓ix_lst8, ↓ix_tup9, ↓ix_lst9, ↓ix_tup10, ↓ix_lst10, ↓ix_tup11, ↓ix_lst11, ↓ix_tup12, ↓ix_lst12, ↓ix_tup13, ↓ix_lst13, ↓ix_tup14, ↓ix_lst14, ↓ix_tup15, ↓ix_lst15, ↓ng, ↓up_t, ↓up_l, ↓it_t, ↓it_l, ↓ls_l, ↓pt_n, ↓pt_i, ↓rg1, ↓rg2, ↓bi_lenl, ↓bi_lent, ↓bi_abs, ↓bi_lil, ↓bi_lit, ↓bi_tul, ↓bi_tut, ↓rv_l, ↓ii_non_int, ↓ii_non_bool, ↓ii_non_str, ↓ii_non_tuple, ↓ii_non_list, ↓ii_bl_int, ↓ii_bl_bool, ↓ii_bl_str, ↓ii_bl_tuple, ↓ii_bl_list, ↓ii_int_int, ↓ii_int_bool, ↓ii_int_str, ↓ii_int_tuple, ↓ii_int_list, ↓ii_str_int, ↓ii_str_bool, ↓ii_str_str, ↓ii_str_tuple, ↓ii_str_list, ↓ii_tup_int, ↓ii_tup_bool, ↓ii_tup_str, ↓ii_tup_tuple, ↓ii_tup_list, ↓ii_lst_int, ↓ii_lst_bool, ↓ii_lst_str, ↓ii_lst_tuple, ↓ii_lst_list, ↓nf_fr, ↓ix_fr0, ↓ix_fr1, ↓ii_fr_t, ↓len_fr, ↓c_eqfr, ↓c_nefr, ↓c_eqfrs, ↓c_nefrs, ↓c_eqbs, ↓c_nebs, ↓we_fz, ↓ws_asgs, ↓wlo_nil, ↓wlo_cons, ↓pv_n, ↓pv_c, ↓ri_rt, ↓ri_nx, ↓ri_ex, ↓ri_rx, ↓ri_xr, ↓gd_nx, ↓gd_rt, ↓gd_ex, ↓ok_rt, ↓ws_forW, ↓ws_brk, ↓ws_cont, ↓lq_nx, ↓lq_ct, ↓lq_bk, ↓lq_rt, ↓lq_exn, ↓iq_nx, ↓iq_ct, ↓iq_bk, ↓iq_rt, ↓iq_exn, ↓st_n, ↓st_t, ↓sts_n, ↓sts_c, ↓we_lc, ↓now_n, ↓now_c, ↓gs_0, ↓gs_s, ↓io_f, ↓io_n, ↓wp_n, ↓wp_c, ↓ck_even, ↓cn_even, ↓ck_in, ↓cn_in, ↓ck_out, ↓cn_out, ↓ck_both, ↓cn_both, ↓ck_hold, ↓cn_hold, ↓ck_jump, ↓cn_jump, ↓ck_kept, ↓cn_kept, ↓ci_hj, ↓cj_hj, ↓ci_bk, ↓cj_bk, ↓ci_kinds, ↓cj_kinds, ↓gx_turn, ↓up_fr, ↓ok_i, ↓ok_ii, ↓turn_turn, ↓sl_t, ↓sl_l, ↓cut_h1, ↓cut_l1, ↓cut_h2, ↓cut_l2, ↓cut_h3, ↓cut_l3, ↓cut_h4, ↓cut_l4, ↓cut_h5, ↓cut_l5, ↓cut_2_4, ↓r_nn, ↓c_eqself, ↓c_neself, ↓br_T, ↓br_F, ↓lit01, ↓lit11, ↓lit21, ↓lit31, ↓lit41, ↓lit61, ↓lit12, ↓lit32, decide_eq_true_eq, decide_eq_false_iff_not, Bool.not_eq_true', Bool.not_eq_false', true_and, and_true, and_self, true_implies, false_implies, implies_true, forall_const, not_true_eq_false, not_false_eq_true, Bool.not_true, Bool.not_false, decide_true, decide_false, reduceCtorEq, List.cons_append, List.nil_append, List.append_assoc, not_false_iff, eq_self, Tg.slots, GW.ld, GW.ld2, List.length_cons, List.length_nil])
end
end Gk54
end

section
namespace Gk54
open GW
section
variable {n : Nat} {ρ : Env} {K : D → Bool → Env → Prop} {X : Nat → Env → Prop} {ns : List Int} {w x y : Rat} {ms : List Mo} {m : Mo} {iw ix : Nat} [SzLe w iw] [SzLe x ix]
theorem track_ok (h : TrOk ms) : (!((ms.zip ms.tail).map fun p => decide (p.2.t < p.1.t + p.1.l)).any id) = true := by
  simp only [Bool.not_eq_true', List.any_eq_false, List.mem_map]
  rintro b ⟨p, hp, rfl⟩
  have := h.ord p hp
  simp
  grind
end
end Gk54
end

section
namespace Gk54
open GW
section
variable {n : Nat} {ρ : Env} {K : D → Bool → Env → Prop} {X : Nat → Env → Prop}
end
end Gk54
end

section
open GW in
local macro_rules | `(tactic| walk_at "e1") => `(tactic| simp (maxSteps := 10000000) (disch := (first | assumption | omega | decide)) only [↓Gk54.gl_KINDS, ↓Gk54.gl_NONE, ↓Gk54.gl_STILL, ↓Gk54.gl_DEEPEST, ↓Gk54.gl_MOST, ↓Gk54.cv_tk0_0, ↓Gk54.cv_tk1_1, ↓Gk54.cv_tk1_0, ↓Gk54.cv_tk2_2, ↓Gk54.cv_tk2_0, ↓Gk54.cw_is_whole, ↓Gk54.cw_divisor, ↓Gk54.cw__law_divisor, ↓Gk54.cw_plus, ↓Gk54.cw_times, ↓Gk54.cw__law_plus, ↓Gk54.cw__law_minus, ↓Gk54.cw__law_times, ↓Gk54.cw__law_over, ↓Gk54.cw_is_less, ↓Gk54.cw__law_less, ↓Gk54.cw__law_pick, ↓Gk54.cw__law_frac, ↓Gk54.cw__law_size, ↓Gk54.cw__law_kind, ↓Gk54.cw__law_made, ↓Gk54.cw_frac, ↓Gk54.cv_is_whole, ↓Gk54.cv_divisor, ↓Gk54.cw_is_frac, ↓GW.is_fr, ↓GW.isn_fr, ↓GW.bo_ix, ↓GW.b_pow6, ↓GW.bi_sort, ↓GW.lit_m12, ↓GW.b_mul3, ↓GW.ix_last, ↓GW.ix_lastt, ↓GW.bo_ne, ↓GW.bo_eq, ↓GW.bo_in, ↓GW.bo_nin, ↓GW.bo_len, ↓GW.c_neapp, ↓GW.c_neappt, ↓GW.c_eqapp, ↓GW.c_eqappt, ↓GW.bi_all, ↓GW.bi_any, ↓GW.zp_t', ↓GW.zp_l', ↓GW.c_eqnilt, ↓GW.b_mull, ↓GW.tq_wait_wait, ↓GW.tq_wait_go, ↓GW.tq_wait_by, ↓GW.tq_wait_then, ↓GW.tq_wait_again, ↓GW.tn_wait, ↓GW.tw_wait, ↓GW.ti_wait, ↓GW.tq_go_wait, ↓GW.tq_go_go, ↓GW.tq_go_by, ↓GW.tq_go_then, ↓GW.tq_go_again, ↓GW.tn_go, ↓GW.tw_go, ↓GW.ti_go, ↓GW.tq_by_wait, ↓GW.tq_by_go, ↓GW.tq_by_by, ↓GW.tq_by_then, ↓GW.tq_by_again, ↓GW.tn_by, ↓GW.tw_by, ↓GW.ti_by, ↓GW.tq_then_wait, ↓GW.tq_then_go, ↓GW.tq_then_by, ↓GW.tq_then_then, ↓GW.tq_then_again, ↓GW.tn_then, ↓GW.tw_then, ↓GW.ti_then, ↓GW.tq_again_wait, ↓GW.tq_again_go, ↓GW.tq_again_by, ↓GW.tq_again_then, ↓GW.tq_again_again, ↓GW.tn_again, ↓GW.tw_again, ↓GW.ti_again, ↓we_int, ↓we_bl, ↓we_non, ↓we_str, ↓we_tup, ↓we_lst, ↓wl_nil, ↓wl_cons, ↓we_bin, ↓we_cmp, ↓we_chain, ↓we_ix, ↓we_neg, ↓we_nt, ↓we_ife, ↓we_conj, ↓we_disj, ↓wa_nil, ↓wo_nil, ↓wa_cons, ↓wo_cons, ↓we_call, ↓we_bi, ↓we_isi, ↓we_rev, ↓we_sl, ↓we_mt, ↓we_bop, ↓we_rng, ↓we_zip, ↓we_enum, ↓we_gix, ↓we_glo, ↓ws_nil, ↓ws_set, ↓ws_exp, ↓ws_ret, ↓ws_retN, ↓ws_raise, ↓ws_pass, ↓ws_asgT, ↓ws_par, ↓ws_ite, ↓ws_try, ↓ws_whl, ↓th_nx, ↓th_rt, ↓th_exn, ↓th_bk, ↓th_ct, ↓tk_nx, ↓tk_rt, ↓nf_f, ↓nf_l, ↓nf_i, ↓nf_b, ↓nf_t, ↓nf_n, ↓nf_s, ↓nf_x, ↓br_t, ↓br_f, ↓br_n, ↓ov_s, ↓cw_o, ↓cw_e, ↓wv0, ↓wo0, ↓wm0, ↓wn0, ↓se0f, ↓se0o, ↓sx0, ↓pk0f, ↓pk0o, ↓po0, ↓wv1, ↓wo1, ↓wm1, ↓wn1, ↓se1f, ↓se1o, ↓sx1, ↓pk1f, ↓pk1o, ↓po1, ↓wv2, ↓wo2, ↓wm2, ↓wn2, ↓se2f, ↓se2o, ↓sx2, ↓pk2f, ↓pk2o, ↓po2, ↓wv3, ↓wo3, ↓wm3, ↓wn3, ↓se3f, ↓se3o, ↓sx3, ↓pk3f, ↓pk3o, ↓po3, ↓wv4, ↓wo4, ↓wm4, ↓wn4, ↓se4f, ↓se4o, ↓sx4, ↓pk4f, ↓pk4o, ↓po4, ↓wv5, ↓wo5, ↓wm5, ↓wn5, ↓se5f, ↓se5o, ↓sx5, ↓pk5f, ↓pk5o, ↓po5, ↓wv6, ↓wo6, ↓wm6, ↓wn6, ↓se6f, ↓se6o, ↓sx6, ↓pk6f, ↓pk6o, ↓po6, ↓wv7, ↓wo7, ↓wm7, ↓wn7, ↓se7f, ↓se7o, ↓sx7, ↓pk7f, ↓pk7o, ↓po7, ↓wv8, ↓wo8, ↓wm8, ↓wn8, ↓se8f, ↓se8o, ↓sx8, ↓pk8f, ↓pk8o, ↓po8, ↓wv9, ↓wo9, ↓wm9, ↓wn9, ↓se9f, ↓se9o, ↓sx9, ↓pk9f, ↓pk9o, ↓po9, ↓wv10, ↓wo10, ↓wm10, ↓wn10, ↓se10f, ↓se10o, ↓sx10, ↓pk10f, ↓pk10o, ↓po10, ↓wv11, ↓wo11, ↓wm11, ↓wn11, ↓se11f, ↓se11o, ↓sx11, ↓pk11f, ↓pk11o, ↓po11, ↓wv12, ↓wo12, ↓wm12, ↓wn12, ↓se12f, ↓se12o, ↓sx12, ↓pk12f, ↓pk12o, ↓po12, ↓wv13, ↓wo13, ↓wm13, ↓wn13, ↓se13f, ↓se13o, ↓sx13, ↓pk13f, ↓pk13o, ↓po13, ↓wv14, ↓wo14, ↓wm14, ↓wn14, ↓se14f, ↓se14o, ↓sx14, ↓pk14f, ↓pk14o, ↓po14, ↓wv15, ↓wo15, ↓wm15, ↓wn15, ↓se15f, ↓se15o, ↓sx15, ↓pk15f, ↓pk15o, ↓po15, ↓wv16, ↓wo16, ↓wm16, ↓wn16, ↓se16f, ↓se16o, ↓sx16, ↓pk16f, ↓pk16o, ↓po16, ↓wv17, ↓wo17, ↓wm17, ↓wn17, ↓se17f, ↓se17o, ↓sx17, ↓pk17f, ↓pk17o, ↓po17, ↓wv18, ↓wo18, ↓wm18, ↓wn18, ↓se18f, ↓se18o, ↓sx18, ↓pk18f, ↓pk18o, ↓po18, ↓wv19, ↓wo19, ↓wm19, ↓wn19, ↓se19f, ↓se19o, ↓sx19, ↓pk19f, ↓pk19o, ↓po19, ↓wv20, ↓wo20, ↓wm20, ↓wn20, ↓se20f, ↓se20o, ↓sx20, ↓pk20f, ↓pk20o, ↓po20, ↓wv21, ↓wo21, ↓wm21, ↓wn21, ↓se21f, ↓se21o, ↓sx21, ↓pk21f, ↓pk21o, ↓po21, ↓wv22, ↓wo22, ↓wm22, ↓wn22, ↓se22f, ↓se22o, ↓sx22, ↓pk22f, ↓pk22o, ↓po22, ↓wv23, ↓wo23, ↓wm23, ↓wn23, ↓se23f, ↓se23o, ↓sx23, ↓pk23f, ↓pk23o, ↓po23, ↓wv24, ↓wo24, ↓wm24, ↓wn24, ↓se24f, ↓se24o, ↓sx24, ↓pk24f, ↓pk24o, ↓po24, ↓wv25, ↓wo25, ↓wm25, ↓wn25, ↓se25f, ↓se25o, ↓sx25, ↓pk25f, ↓pk25o, ↓po25, ↓ses_n, ↓ses_c, ↓sep_n, ↓sep_c, ↓ws_appn, ↓ws_extn, ↓b_add, ↓b_addl, ↓b_addt, ↓b_sub, ↓b_mul, ↓b_fdiv, ↓b_mod, ↓c_lt, ↓c_le, ↓c_gt, ↓c_ge, ↓c_eq, ↓c_ne, ↓is_n, ↓isn_n, ↓is_b, ↓isn_b, ↓is_i, ↓isn_i, ↓is_s, ↓isn_s, ↓is_t, ↓isn_t, ↓is_l, ↓isn_l, ↓is_x, ↓isn_x, ↓isn_bb, ↓is_bb, ↓ix_tup0, ↓ix_lst0, ↓ix_tup1, ↓ix_lst1, ↓ix_tup2, ↓ix_lst2, ↓ix_tup3, ↓ix_lst3, ↓ix_tup4, ↓ix_lst4, ↓ix_tup5, ↓ix_lst5, ↓ix_tup6, ↓ix_lst6, ↓ix_tup7, ↓ix_lst7, ↓ix_tup8, ↓ix_lst8, ↓ix_tup9, ↓ix_lst9, ↓ix_tup10, ↓ix_lst10, ↓ix_tup11, ↓ix_lst11, ↓ix_tup12, ↓ix_lst12, ↓ix_tup13, ↓ix_lst13, ↓ix_tup14, ↓ix_lst14, ↓ix_tup15, ↓ix_lst15, ↓ng, ↓up_t, ↓up_l, ↓it_t, ↓it_l, ↓ls_l, ↓pt_n, ↓pt_i, ↓rg1, ↓rg2, ↓bi_lenl, ↓bi_lent, ↓bi_abs, ↓bi_lil, ↓bi_lit, ↓bi_tul, ↓bi_tut, ↓rv_l, ↓ii_non_int, ↓ii_non_bool, ↓ii_non_str, ↓ii_non_tuple, ↓ii_non_list, ↓ii_bl_int, ↓ii_bl_bool, ↓ii_bl_str, ↓ii_bl_tuple, ↓ii_bl_list, ↓ii_int_int, ↓ii_int_bool, ↓ii_int_str, ↓ii_int_tuple, ↓ii_int_list, ↓ii_str_int, ↓ii_str_bool, ↓ii_str_str, ↓ii_str_tuple, ↓ii_str_list, ↓ii_tup_int, ↓ii_tup_bool, ↓ii_tup_str, ↓ii_tup_tuple, ↓ii_tup_list, ↓ii_lst_int, ↓ii_lst_bool, ↓ii_lst_str, ↓ii_lst_tuple, ↓ii_lst_list, ↓nf_fr, ↓ix_fr0, ↓ix_fr1, ↓ii_fr_t, ↓len_fr, ↓c_eqfr, ↓c_nefr, ↓c_eqfrs, ↓c_nefrs, ↓c_eqbs, ↓c_nebs, ↓we_fz, ↓ws_asgs, ↓wlo_nil, ↓wlo_cons, ↓pv_n, ↓pv_c, ↓ri_rt, ↓ri_nx, ↓ri_ex, ↓ri_rx, ↓ri_xr, ↓gd_nx, ↓gd_rt, ↓gd_ex, ↓ok_rt, ↓ws_forW, ↓ws_brk, ↓ws_cont, ↓lq_nx, ↓lq_ct, ↓lq_bk, ↓lq_rt, ↓lq_exn, ↓iq_nx, ↓iq_ct, ↓iq_bk, ↓iq_rt, ↓iq_exn, ↓st_n, ↓st_t, ↓sts_n, ↓sts_c, ↓we_lc, ↓now_n, ↓now_c, ↓gs_0, ↓gs_s, ↓io_f, ↓io_n, ↓wp_n, ↓wp_c, ↓ck_even, ↓cn_even, ↓ck_in, ↓cn_in, ↓ck_out, ↓cn_out, ↓ck_both, ↓cn_both, ↓ck_hold, ↓cn_hold, ↓ck_jump, ↓cn_jump, ↓ck_kept, ↓cn_kept, ↓ci_hj, ↓cj_hj, ↓ci_bk, ↓cj_bk, ↓ci_kinds, ↓cj_kinds, ↓gx_turn, ↓up_fr, ↓ok_i, ↓ok_ii, ↓turn_turn, ↓sl_t, ↓sl_l, ↓cut_h1, ↓cut_l1, ↓cut_h2, ↓cut_l2, ↓cut_h3, ↓cut_l3, ↓cut_h4, ↓cut_l4, ↓cut_h5, ↓cut_l5, ↓cut_2_4, ↓r_nn, ↓c_eqself, ↓c_neself, ↓br_T, ↓br_F, ↓lit01, ↓lit11, ↓lit21, ↓lit31, ↓lit41, ↓lit61, ↓lit12, ↓lit32, decide_eq_true_eq, decide_eq_false_iff_not, Bool.not_eq_true', Bool.not_eq_false', true_and, and_true, and_self, true_implies, false_implies, implies_true, forall_const, not_true_eq_false, not_false_eq_true, Bool.not_true, Bool.not_false, decide_true, decide_false, reduceCtorEq, List.cons_append, List.nil_append, List.append_assoc, not_false_iff, eq_self, Tg.slots, GW.ld, GW.ld2, GW.p2_fr, List.length_cons, List.length_nil, List.all_cons, List.all_nil, Bool.and_self, GW.bq_tt, GW.bq_ff, GW.bq_tf, GW.bq_ft, GW.cut_tail, List.map_append, List.map_cons, List.map_nil, List.length_map, List.length_append, GW.pair_tup, GW.al_t, GW.lit_m99, GW.dT, GW.fr_intN])
namespace Gk54
open GW
section
variable {n : Nat} {ρ : Env} {K : D → Bool → Env → Prop} {X : Nat → Env → Prop} {ns : List Int} {x y : Rat} {k : Kd} {ix iy : Nat} [SzLe x ix] [SzLe y iy]
theorem rn_is_size (hn : 3 ≤ n) (h0 : 0 < x) (h : ix ≤ 6000) : run G n i_is_size .non [fr x] = .ok (.bl true) false .non := by
  obtain ⟨n, rfl⟩ : ∃ m, n = m + 1 := ⟨n - 1, by omega⟩
  refine en_is_size ?_
  unfold F_is_size
  walk_at "e1"
theorem cw_is_size (hn : 3 ≤ n) (h0 : 0 < x) (h : ix ≤ 6000) : CW ((Prog.rt G (run G n) false).call i_is_size .non [fr x]) ρ K X = K (.bl true) false ρ := cw_ok (rn_is_size hn h0 h)
theorem rn_is_kind (hn : 1 ≤ n) (h : ¬ k = .kept) : run G n i_is_kind .non [.str (kS k)] = .ok (.bl true) false .non := by
  obtain ⟨n, rfl⟩ : ∃ m, n = m + 1 := ⟨n - 1, by omega⟩
  refine en_is_kind ?_
  unfold F_is_kind
  walk_at "e1"
theorem cw_is_kind (hn : 1 ≤ n) (h : ¬ k = .kept) : CW ((Prog.rt G (run G n) false).call i_is_kind .non [.str (kS k)]) ρ K X = K (.bl true) false ρ := cw_ok (rn_is_kind hn h)
end

open GW in
local macro_rules | `(tactic| walk_at "e1") => `(tactic| simp (maxSteps := 10000000) (disch := (first | assumption | omega | decide)) only [↓Gk54.gl_KINDS, ↓Gk54.gl_NONE, ↓Gk54.gl_STILL, ↓Gk54.gl_DEEPEST, ↓Gk54.gl_MOST, ↓Gk54.cv_tk0_0, ↓Gk54.cv_tk1_1, ↓Gk54.cv_tk1_0, ↓Gk54.cv_tk2_2, ↓Gk54.cv_tk2_0, ↓Gk54.cw_is_whole, ↓Gk54.cw_divisor, ↓Gk54.cw__law_divisor, ↓Gk54.cw_plus, ↓Gk54.cw_times, ↓Gk54.cw__law_plus, ↓Gk54.cw__law_minus, ↓Gk54.cw__law_times, ↓Gk54.cw__law_over, ↓Gk54.cw_is_less, ↓Gk54.cw__law_less, ↓Gk54.cw__law_pick, ↓Gk54.cw__law_frac, ↓Gk54.cw__law_size, ↓Gk54.cw__law_kind, ↓Gk54.cw__law_made, ↓Gk54.cw_frac, ↓Gk54.cv_is_whole, ↓Gk54.cv_divisor, ↓Gk54.cw_is_frac, ↓Gk54.cw_is_size, ↓Gk54.cw_is_kind, ↓GW.is_fr, ↓GW.isn_fr, ↓GW.bo_ix, ↓GW.b_pow6, ↓GW.bi_sort, ↓GW.lit_m12, ↓GW.b_mul3, ↓GW.ix_last, ↓GW.ix_lastt, ↓GW.bo_ne, ↓GW.bo_eq, ↓GW.bo_in, ↓GW.bo_nin, ↓GW.bo_len, ↓GW.c_neapp, ↓GW.c_neappt, ↓GW.c_eqapp, ↓GW.c_eqappt, ↓GW.bi_all, ↓GW.bi_any, ↓GW.zp_t', ↓GW.zp_l', ↓GW.c_eqnilt, ↓GW.b_mull, ↓GW.tq_wait_wait, ↓GW.tq_wait_go, ↓GW.tq_wait_by, ↓GW.tq_wait_then, ↓GW.tq_wait_again, ↓GW.tn_wait, ↓GW.tw_wait, ↓GW.ti_wait, ↓GW.tq_go_wait, ↓GW.tq_go_go, ↓GW.tq_go_by, ↓GW.tq_go_then, ↓GW.tq_go_again, ↓GW.tn_go, ↓GW.tw_go, ↓GW.ti_go, ↓GW.tq_by_wait, ↓GW.tq_by_go, ↓GW.tq_by_by, ↓GW.tq_by_then, ↓GW.tq_by_again, ↓GW.tn_by, ↓GW.tw_by, ↓GW.ti_by, ↓GW.tq_then_wait, ↓GW.tq_then_go, ↓GW.tq_then_by, ↓GW.tq_then_then, ↓GW.tq_then_again, ↓GW.tn_then, ↓GW.tw_then, ↓GW.ti_then, ↓GW.tq_again_wait, ↓GW.tq_again_go, ↓GW.tq_again_by, ↓GW.tq_again_then, ↓GW.tq_again_again, ↓GW.tn_again, ↓GW.tw_again, ↓GW.ti_again, ↓we_int, ↓we_bl, ↓we_non, ↓we_str, ↓we_tup, ↓we_lst, ↓wl_nil, ↓wl_cons, ↓we_bin, ↓we_cmp, ↓we_chain, ↓we_ix, ↓we_neg, ↓we_nt, ↓we_ife, ↓we_conj, ↓we_disj, ↓wa_nil, ↓wo_nil, ↓wa_cons, ↓wo_cons, ↓we_call, ↓we_bi, ↓we_isi, ↓we_rev, ↓we_sl, ↓we_mt, ↓we_bop, ↓we_rng, ↓we_zip, ↓we_enum, ↓we_gix, ↓we_glo, ↓ws_nil, ↓ws_set, ↓ws_exp, ↓ws_ret, ↓ws_retN, ↓ws_raise, ↓ws_pass, ↓ws_asgT, ↓ws_par, ↓ws_ite, ↓ws_try, ↓ws_whl, ↓th_nx, ↓th_rt, ↓th_exn, ↓th_bk, ↓th_ct, ↓tk_nx, ↓tk_rt, ↓nf_f, ↓nf_l, ↓nf_i, ↓nf_b, ↓nf_t, ↓nf_n, ↓nf_s, ↓nf_x, ↓br_t, ↓br_f, ↓br_n, ↓ov_s, ↓cw_o, ↓cw_e, ↓wv0, ↓wo0, ↓wm0, ↓wn0, ↓se0f, ↓se0o, ↓sx0, ↓pk0f, ↓pk0o, ↓po0, ↓wv1, ↓wo1, ↓wm1, ↓wn1, ↓se1f, ↓se1o, ↓sx1, ↓pk1f, ↓pk1o, ↓po1, ↓wv2, ↓wo2, ↓wm2, ↓wn2, ↓se2f, ↓se2o, ↓sx2, ↓pk2f, ↓pk2o, ↓po2, ↓wv3, ↓wo3, ↓wm3, ↓wn3, ↓se3f, ↓se3o, ↓sx3, ↓pk3f, ↓pk3o, ↓po3, ↓wv4, ↓wo4, ↓wm4, ↓wn4, ↓se4f, ↓se4o, ↓sx4, ↓pk4f, ↓pk4o, ↓po4, ↓wv5, ↓wo5, ↓wm5, ↓wn5, ↓se5f, ↓se5o, ↓sx5, ↓pk5f, ↓pk5o, ↓po5, ↓wv6, ↓wo6, ↓wm6, ↓wn6, ↓se6f, ↓se6o, ↓sx6, ↓pk6f, ↓pk6o, ↓po6, ↓wv7, ↓wo7, ↓wm7, ↓wn7, ↓se7f, ↓se7o, ↓sx7, ↓pk7f, ↓pk7o, ↓po7, ↓wv8, ↓wo8, ↓wm8, ↓wn8, ↓se8f, ↓se8o, ↓sx8, ↓pk8f, ↓pk8o, ↓po8, ↓wv9, ↓wo9, ↓wm9, ↓wn9, ↓se9f, ↓se9o, ↓sx9, ↓pk9f, ↓pk9o, ↓po9, ↓wv10, ↓wo10, ↓wm10, ↓wn10, ↓se10f, ↓se10o, ↓sx10, ↓pk10f, ↓pk10o, ↓po10, ↓wv11, ↓wo11, ↓wm11, ↓wn11, ↓se11f, ↓se11o, ↓sx11, ↓pk11f, ↓pk11o, ↓po11, ↓wv12, ↓wo12, ↓wm12, ↓wn12, ↓se12f, ↓se12o, ↓sx12, ↓pk12f, ↓pk12o, ↓po12, ↓wv13, ↓wo13, ↓wm13, ↓wn13, ↓se13f, ↓se13o, ↓sx13, ↓pk13f, ↓pk13o, ↓po13, ↓wv14, ↓wo14, ↓wm14, ↓wn14, ↓se14f, ↓se14o, ↓sx14, ↓pk14f, ↓pk14o, ↓po14, ↓wv15, ↓wo15, ↓wm15, ↓wn15, ↓se15f, ↓se15o, ↓sx15, ↓pk15f, ↓pk15o, ↓po15, ↓wv16, ↓wo16, ↓wm16, ↓wn16, ↓se16f, ↓se16o, ↓sx16, ↓pk16f, ↓pk16o, ↓po16, ↓wv17, ↓wo17, ↓wm17, ↓wn17, ↓se17f, ↓se17o, ↓sx17, ↓pk17f, ↓pk17o, ↓po17, ↓wv18, ↓wo18, ↓wm18, ↓wn18, ↓se18f, ↓se18o, ↓sx18, ↓pk18f, ↓pk18o, ↓po18, ↓wv19, ↓wo19, ↓wm19, ↓wn19, ↓se19f, ↓se19o, ↓sx19, ↓pk19f, ↓pk19o, ↓po19, ↓wv20, ↓wo20, ↓wm20, ↓wn20, ↓se20f, ↓se20o, ↓sx20, ↓pk20f, ↓pk20o, ↓po20, ↓wv21, ↓wo21, ↓wm21, ↓wn21, ↓se21f, ↓se21o, ↓sx21, ↓pk21f, ↓pk21o, ↓po21, ↓wv22, ↓wo22, ↓wm22, ↓wn22, ↓se22f, ↓se22o, ↓sx22, ↓pk22f, ↓pk22o, ↓po22, ↓wv23, ↓wo23, ↓wm23, ↓wn23, ↓se23f, ↓se23o, ↓sx23, ↓pk23f, ↓pk23o, ↓po23, ↓wv24, ↓wo24, ↓wm24, ↓wn24, ↓se24f, ↓se24o, ↓sx24, ↓pk24f, ↓pk24o, ↓po24, ↓wv25, ↓wo25, ↓wm25, ↓wn25, ↓se25f, ↓se25o, ↓sx25, ↓pk25f, ↓pk25o, ↓po25, ↓ses_n, ↓ses_c, ↓sep_n, ↓sep_c, ↓ws_appn, ↓ws_extn, ↓b_add, ↓b_addl, ↓b_addt, ↓b_sub, ↓b_mul, ↓b_fdiv, ↓b_mod, ↓c_lt, ↓c_le, ↓c_gt, ↓c_ge, ↓c_eq, ↓c_ne, ↓is_n, ↓isn_n, ↓is_b, ↓isn_b, ↓is_i, ↓isn_i, ↓is_s, ↓isn_s, ↓is_t, ↓isn_t, ↓is_l, ↓isn_l, ↓is_x, ↓isn_x, ↓isn_bb, ↓is_bb, ↓ix_tup0, ↓ix_lst0, ↓ix_tup1, ↓ix_lst1, ↓ix_tup2, ↓ix_lst2, ↓ix_tup3, ↓ix_lst3, ↓ix_tup4, ↓ix_lst4, ↓ix_tup5, ↓ix_lst5, ↓ix_tup6, ↓ix_lst6, ↓ix_tup7, ↓ix_lst7, ↓ix_tup8, ↓ix_lst8, ↓ix_tup9, ↓ix_lst9, ↓ix_tup10, ↓ix_lst10, ↓ix_tup11, ↓ix_lst11, ↓ix_tup12, ↓ix_lst12, ↓ix_tup13, ↓ix_lst13, ↓ix_tup14, ↓ix_lst14, ↓ix_tup15, ↓ix_lst15, ↓ng, ↓up_t, ↓up_l, ↓it_t, ↓it_l, ↓ls_l, ↓pt_n, ↓pt_i, ↓rg1, ↓rg2, ↓bi_lenl, ↓bi_lent, ↓bi_abs, ↓bi_lil, ↓bi_lit, ↓bi_tul, ↓bi_tut, ↓rv_l, ↓ii_non_int, ↓ii_non_bool, ↓ii_non_str, ↓ii_non_tuple, ↓ii_non_list, ↓ii_bl_int, ↓ii_bl_bool, ↓ii_bl_str, ↓ii_bl_tuple, ↓ii_bl_list, ↓ii_int_int, ↓ii_int_bool, ↓ii_int_str, ↓ii_int_tuple, ↓ii_int_list, ↓ii_str_int, ↓ii_str_bool, ↓ii_str_str, ↓ii_str_tuple, ↓ii_str_list, ↓ii_tup_int, ↓ii_tup_bool, ↓ii_tup_str, ↓ii_tup_tuple, ↓ii_tup_list, ↓ii_lst_int, ↓ii_lst_bool, ↓ii_lst_str, ↓ii_lst_tuple, ↓ii_lst_list, ↓nf_fr, ↓ix_fr0, ↓ix_fr1, ↓ii_fr_t, ↓len_fr, ↓c_eqfr, ↓c_nefr, ↓c_eqfrs, ↓c_nefrs, ↓c_eqbs, ↓c_nebs, ↓we_fz, ↓ws_asgs, ↓wlo_nil, ↓wlo_cons, ↓pv_n, ↓pv_c, ↓ri_rt, ↓ri_nx, ↓ri_ex, ↓ri_rx, ↓ri_xr, ↓gd_nx, ↓gd_rt, ↓gd_ex, ↓ok_rt, ↓ws_forW, ↓ws_brk, ↓ws_cont, ↓lq_nx, ↓lq_ct, ↓lq_bk, ↓lq_rt, ↓lq_exn, ↓iq_nx, ↓iq_ct, ↓iq_bk, ↓iq_rt, ↓iq_exn, ↓st_n, ↓st_t, ↓sts_n, ↓sts_c, ↓we_lc, ↓now_n, ↓now_c, ↓gs_0, ↓gs_s, ↓io_f, ↓io_n, ↓wp_n, ↓wp_c, ↓ck_even, ↓cn_even, ↓ck_in, ↓cn_in, ↓ck_out, ↓cn_out, ↓ck_both, ↓cn_both, ↓ck_hold, ↓cn_hold, ↓ck_jump, ↓cn_jump, ↓ck_kept, ↓cn_kept, ↓ci_hj, ↓cj_hj, ↓ci_bk, ↓cj_bk, ↓ci_kinds, ↓cj_kinds, ↓gx_turn, ↓up_fr, ↓ok_i, ↓ok_ii, ↓turn_turn, ↓sl_t, ↓sl_l, ↓cut_h1, ↓cut_l1, ↓cut_h2, ↓cut_l2, ↓cut_h3, ↓cut_l3, ↓cut_h4, ↓cut_l4, ↓cut_h5, ↓cut_l5, ↓cut_2_4, ↓r_nn, ↓c_eqself, ↓c_neself, ↓br_T, ↓br_F, ↓lit01, ↓lit11, ↓lit21, ↓lit31, ↓lit41, ↓lit61, ↓lit12, ↓lit32, decide_eq_true_eq, decide_eq_false_iff_not, Bool.not_eq_true', Bool.not_eq_false', true_and, and_true, and_self, true_implies, false_implies, implies_true, forall_const, not_true_eq_false, not_false_eq_true, Bool.not_true, Bool.not_false, decide_true, decide_false, reduceCtorEq, List.cons_append, List.nil_append, List.append_assoc, not_false_iff, eq_self, Tg.slots, GW.ld, GW.ld2, GW.p2_fr, List.length_cons, List.length_nil, List.all_cons, List.all_nil, Bool.and_self, GW.bq_tt, GW.bq_ff, GW.bq_tf, GW.bq_ft, GW.cut_tail, List.map_append, List.map_cons, List.map_nil, List.length_map, List.length_append, GW.pair_tup, GW.al_t, GW.lit_m99, GW.dT, GW.fr_intN])
theorem rn_is_plan_in {z : Nat} (hz : z ≤ 5000) : ∀ {d : Nat} {p : Pn}, PnZ z d p → ∀ (e : Int) (n : Nat), d ≤ e → e ≤ 20 → d + 5 ≤ n → run G n i_is_plan_in .non [dP p, .int e] = .ok (.bl true) false .non
  | 0, _, h, _, _, _, _, _ => h.elim
  | d + 1, .wait s, h, e, n, h1, h2, h3 => by
    obtain ⟨n, rfl⟩ : ∃ m, n = m + 1 := ⟨n - 1, by omega⟩
    refine en_is_plan_in ?_
    unfold F_is_plan_in dP
    obtain ⟨g1, g2⟩ := h
    have e0 : ¬ e = 0 := by omega
    walk_at "e1"
  | d + 1, .go false w s k, h, e, n, h1, h2, h3 => by
    obtain ⟨n, rfl⟩ : ∃ m, n = m + 1 := ⟨n - 1, by omega⟩
    refine en_is_plan_in ?_
    unfold F_is_plan_in dP
    obtain ⟨g1, g2, g3, g4⟩ := h
    have e0 : ¬ e = 0 := by omega
    walk_at "e1"
  | d + 1, .go true w s k, h, e, n, h1, h2, h3 => by
    obtain ⟨n, rfl⟩ : ∃ m, n = m + 1 := ⟨n - 1, by omega⟩
    refine en_is_plan_in ?_
    unfold F_is_plan_in dP
    obtain ⟨g1, g2, g3, g4⟩ := h
    have e0 : ¬ e = 0 := by omega
    walk_at "e1"
  | d + 1, .thn p q, h, e, n, h1, h2, h3 => by
    obtain ⟨n, rfl⟩ : ∃ m, n = m + 1 := ⟨n - 1, by omega⟩
    refine en_is_plan_in ?_
    unfold F_is_plan_in
    show WS _ _ [.fz (.tup [.str "then", dP p, dP q]), _] _
    have g1 : Dq (dP p) (d + 1) := ⟨dP_dep h.1⟩
    have g2 : Dq (dP q) (d + 1) := ⟨dP_dep h.2⟩
    have e0 : ¬ e = 0 := by omega
    walk_at "e1"
    rw [cw_ok (rn_is_plan_in hz h.1 (e - 1) n (by omega) (by omega) (by omega))]
    walk_at "e1"
    rw [cw_ok (rn_is_plan_in hz h.2 (e - 1) n (by omega) (by omega) (by omega))]
    walk_at "e1"
  | d + 1, .again m p, h, e, n, h1, h2, h3 => by
    obtain ⟨n, rfl⟩ : ∃ m, n = m + 1 := ⟨n - 1, by omega⟩
    refine en_is_plan_in ?_
    unfold F_is_plan_in
    show WS _ _ [.fz (.tup [.str "again", .int m, dP p]), _] _
    have g0 := h.1
    have g1 : Dq (dP p) (d + 1) := ⟨dP_dep h.2⟩
    have e0 : ¬ e = 0 := by omega
    have m4 : (m : Int) ≤ 4 := by omega
    walk_at "e1"
    rw [cw_ok (rn_is_plan_in hz h.2 (e - 1) n (by omega) (by omega) (by omega))]
    walk_at "e1"
theorem rn_is_plan {z d : Nat} {p : Pn} (hz : z ≤ 5000) (h : PnZ z d p) (hd : d ≤ 5) {n : Nat} (hn : d + 6 ≤ n) : run G n i_is_plan .non [dP p] = .ok (.bl true) false .non := by
  obtain ⟨n, rfl⟩ : ∃ m, n = m + 1 := ⟨n - 1, by omega⟩
  refine en_is_plan ?_
  unfold F_is_plan
  walk_at "e1"
  rw [cw_ok (rn_is_plan_in hz h 5 n (by omega) (by omega) (by omega))]
  walk_at "e1"
theorem rn_size_of {z : Nat} : ∀ {d : Nat} {p : Pn}, PnZ z d p → szP z d ≤ 6000 → ∀ (n : Nat), d + 4 ≤ n → run G n i_size_of .non [dP p] = .ok (fr (sizeP p)) false .non
  | 0, _, h, _, _, _ => h.elim
  | d + 1, .wait s, h, h1, n, h3 => by
    obtain ⟨n, rfl⟩ : ∃ m, n = m + 1 := ⟨n - 1, by omega⟩
    refine en_size_of ?_
    unfold F_size_of dP
    walk_at "e1"
    rfl
  | d + 1, .go false w s k, h, h1, n, h3 => by
    obtain ⟨n, rfl⟩ : ∃ m, n = m + 1 := ⟨n - 1, by omega⟩
    refine en_size_of ?_
    unfold F_size_of dP
    walk_at "e1"
    rfl
  | d + 1, .go true w s k, h, h1, n, h3 => by
    obtain ⟨n, rfl⟩ : ∃ m, n = m + 1 := ⟨n - 1, by omega⟩
    refine en_size_of ?_
    unfold F_size_of dP
    walk_at "e1"
    rfl
  | d + 1, .thn p q, h, h1, n, h3 => by
    obtain ⟨n, rfl⟩ : ∃ m, n = m + 1 := ⟨n - 1, by omega⟩
    refine en_size_of ?_
    unfold F_size_of
    show WS _ _ [.fz (.tup [.str "then", dP p, dP q])] (RI (.ok (fr (sizeP p + sizeP q)) false .non))
    have s1 := sizeP_sz h.1
    have s2 := sizeP_sz h.2
    have e9 : szP z (d + 1) = 2 * szP z d + 4 := rfl
    walk_at "e1"
    rw [cw_ok (rn_size_of h.1 (by omega) n (by omega))]
    walk_at "e1"
    rw [cw_ok (rn_size_of h.2 (by omega) n (by omega))]
    walk_at "e1"
  | d + 1, .again m p, h, h1, n, h3 => by
    obtain ⟨n, rfl⟩ : ∃ m, n = m + 1 := ⟨n - 1, by omega⟩
    refine en_size_of ?_
    unfold F_size_of
    show WS _ _ [.fz (.tup [.str "again", .int m, dP p])] (RI (.ok (fr (((m : Int) : Rat) * sizeP p)) false .non))
    have g0 := h.1
    have s2 := sizeP_sz h.2
    have e9 : szP z (d + 1) = 2 * szP z d + 4 := rfl
    walk_at "e1"
    rw [cw_ok (rn_size_of h.2 (by omega) n (by omega))]
    walk_at "e1"
theorem rn_steps_of {z : Nat} : ∀ {d : Nat} {p : Pn}, PnZ z d p → d ≤ 8 → ∀ (n : Nat), d + 1 ≤ n → run G n i_steps_of .non [dP p] = .ok (.lst ((stepsP p).map dP)) true .non
  | 0, _, h, _, _, _ => h.elim
  | d + 1, .wait s, h, h1, n, h3 => by
    obtain ⟨n, rfl⟩ : ∃ m, n = m + 1 := ⟨n - 1, by omega⟩
    refine en_steps_of ?_
    unfold F_steps_of
    show WS _ _ [.fz (.tup [.str "wait", fr s])] (RI (.ok (.lst [.tup [.str "wait", fr s]]) true .non))
    walk_at "e1"
  | d + 1, .go false w s k, h, h1, n, h3 => by
    obtain ⟨n, rfl⟩ : ∃ m, n = m + 1 := ⟨n - 1, by omega⟩
    refine en_steps_of ?_
    unfold F_steps_of
    show WS _ _ [.fz (.tup [.str "go", fr w, fr s, .str (kS k)])] (RI (.ok (.lst [.tup [.str "go", fr w, fr s, .str (kS k)]]) true .non))
    walk_at "e1"
  | d + 1, .go true w s k, h, h1, n, h3 => by
    obtain ⟨n, rfl⟩ : ∃ m, n = m + 1 := ⟨n - 1, by omega⟩
    refine en_steps_of ?_
    unfold F_steps_of
    show WS _ _ [.fz (.tup [.str "by", fr w, fr s, .str (kS k)])] (RI (.ok (.lst [.tup [.str "by", fr w, fr s, .str (kS k)]]) true .non))
    walk_at "e1"
  | d + 1, .thn p q, h, h1, n, h3 => by
    obtain ⟨n, rfl⟩ : ∃ m, n = m + 1 := ⟨n - 1, by omega⟩
    refine en_steps_of ?_
    unfold F_steps_of
    show WS _ _ [.fz (.tup [.str "then", dP p, dP q])] (RI (.ok (.lst ((stepsP p ++ stepsP q).map dP)) true .non))
    have l1 := steps_len h.1
    have l2 := steps_len h.2
    have := pow4 (d := d) (by omega)
    walk_at "e1"
    rw [cw_ok (rn_steps_of h.1 (by omega) n (by omega))]
    walk_at "e1"
    rw [cw_ok (rn_steps_of h.2 (by omega) n (by omega))]
    walk_at "e1"
  | d + 1, .again m p, h, h1, n, h3 => by
    obtain ⟨n, rfl⟩ : ∃ m, n = m + 1 := ⟨n - 1, by omega⟩
    refine en_steps_of ?_
    unfold F_steps_of
    show WS _ _ [.fz (.tup [.str "again", .int m, dP p])] (RI (.ok (.lst (((List.replicate m (stepsP p)).flatten).map dP)) true .non))
    have g0 := h.1
    have l2 := steps_len h.2
    have := pow4 (d := d) (by omega)
    have l3 : (stepsP p).length * (m : Int).toNat ≤ 65536 * 4 := Nat.mul_le_mul (by omega) (by omega)
    walk_at "e1"
    rw [cw_ok (rn_steps_of h.2 (by omega) n (by omega))]
    walk_at "e1"
    refine ⟨?_, ?_⟩
    · rw [Bool.and_eq_true]
      exact ⟨okI_big (by omega) (by omega), rfl⟩
    · rw [List.map_flatten, List.map_replicate]
      rfl
theorem rn__law_plan {ns : List Int} (ok : ScOk ns) : ∀ (d : Nat) (j : Int) (n : Nat), 0 ≤ j → j * 3 ^ d + 37 * 4 ^ d ≤ 800000 → d + 5 ≤ n → run G n i__law_plan .non [scr ns, .int j, .int ((d : Int) + 1)] = .ok (dP (planV ns d j)) false .non
  | 0, j, n, h0, h1, h2 => by
    obtain ⟨n, rfl⟩ : ∃ m, n = m + 1 := ⟨n - 1, by omega⟩
    refine en__law_plan ?_
    unfold F__law_plan
    have e1 : ((0 : Nat) : Int) + 1 = 1 := by decide
    rw [e1]
    have h1 : j ≤ 800000 := by omega
    unfold planV leafV
    rcases Decidable.em (pickV ns (j + 1) 5 = 0) with z | z
    · walk_at "e1"
      rw [if_pos z]
      rfl
    · rcases Decidable.em (pickV ns (j + 1) 5 < 3) with z1 | z1
      · walk_at "e1"
        rw [if_neg z, decide_eq_true z1]
        rfl
      · walk_at "e1"
        rw [if_neg z, decide_eq_false z1]
        rfl
  | d + 1, j, n, h0, h1, h2 => by
    obtain ⟨n, rfl⟩ : ∃ m, n = m + 1 := ⟨n - 1, by omega⟩
    refine en__law_plan ?_
    unfold F__law_plan
    have hd1 : ¬ (((d + 1 : Nat) : Int) + 1 = 1) := by omega
    have p1 : (1 : Int) ≤ 3 ^ d := by
      have := Nat.one_le_pow d 3 (by decide)
      exact_mod_cast this
    have p2 : (1 : Int) ≤ 4 ^ d := by
      have := Nat.one_le_pow d 4 (by decide)
      exact_mod_cast this
    have q3 : (3 : Int) ^ (d + 1) = 3 ^ d * 3 := Int.pow_succ ..
    have q4 : (4 : Int) ^ (d + 1) = 4 ^ d * 4 := Int.pow_succ ..
    rw [q3, q4] at h1
    have hj : j ≤ 800000 := by
      have := Int.mul_le_mul_of_nonneg_left (show (1 : Int) ≤ 3 ^ d * 3 by omega) h0
      omega
    have p34 : (3 : Int) ^ d ≤ 4 ^ d := by
      have := Nat.pow_le_pow_left (show 3 ≤ 4 by decide) d
      exact_mod_cast this
    have hc : ∀ c : Int, 0 ≤ c → c ≤ 37 → (3 * j + c) * 3 ^ d + 37 * 4 ^ d ≤ 800000 := fun c c0 c1 => by
      have a1 : (3 * j + c) * 3 ^ d = j * (3 ^ d * 3) + c * 3 ^ d := by
        rw [Int.add_mul, Int.mul_comm 3 j, Int.mul_assoc, Int.mul_comm 3 (3 ^ d)]
      have a2 : c * 3 ^ d ≤ 37 * 4 ^ d := Int.mul_le_mul c1 p34 (by omega) (by omega)
      omega
    have ed : ((d + 1 : Nat) : Int) + 1 - 1 = (d : Int) + 1 := by omega
    have l3 : (3 : Int).natAbs.log2 + j.natAbs.log2 < 100000000 := by
      have h1 : (3 : Int).natAbs.log2 ≤ 20 := by decide
      have h2 : j.natAbs.log2 < 60 := int_log (by omega) (by omega)
      omega
    have r1 := rn__law_plan ok d (3 * j + 11) n (by omega) (hc 11 (by decide) (by decide)) (by omega)
    have r2 := rn__law_plan ok d (3 * j + 37) n (by omega) (hc 37 (by decide) (by decide)) (by omega)
    have r3 := rn__law_plan ok d (3 * j + 23) n (by omega) (hc 23 (by decide) (by decide)) (by omega)
    clear q3 q4 p34 p1 p2 hc h1
    unfold planV leafV
    rcases Decidable.em (pickV ns j 8 < 3) with y | y
    · rw [if_pos y]
      rcases Decidable.em (pickV ns (j + 1) 5 = 0) with z | z
      · walk_at "e1"
        rw [if_pos z]
        rfl
      · rcases Decidable.em (pickV ns (j + 1) 5 < 3) with z1 | z1
        · walk_at "e1"
          rw [if_neg z, decide_eq_true z1]
          rfl
        · walk_at "e1"
          rw [if_neg z, decide_eq_false z1]
          rfl
    · rw [if_neg y]
      rcases Decidable.em (pickV ns j 8 < 6) with y1 | y1
      · rw [if_pos y1]
        walk_at "e1"
        rw [ed]
        refine ⟨l3, ?_⟩
        rw [cw_ok r1]
        walk_at "e1"
        rw [ed]
        refine ⟨l3, ?_⟩
        rw [cw_ok r2]
        walk_at "e1"
        rfl
      · rw [if_neg y1]
        have m0 := pick_lo ns (j + 9) (m := 4) (by decide)
        walk_at "e1"
        rw [ed]
        refine ⟨l3, ?_⟩
        rw [cw_ok r3]
        walk_at "e1"
        show D.tup [.str "again", .int ((pickV ns (j + 9) 4).toNat : Int), _] = D.tup [.str "again", .int (pickV ns (j + 9) 4), _]
        rw [Int.toNat_of_nonneg m0]
theorem rn__law_steps {z : Nat} : ∀ {d : Nat} {p : Pn}, PnZ z d p → d ≤ 8 → ∀ (n : Nat), d + 1 ≤ n → run G n i__law_steps .non [dP p] = .ok (.lst ((stepsP p).map dP)) true .non
  | 0, _, h, _, _, _ => h.elim
  | d + 1, .wait s, h, h1, n, h3 => by
    obtain ⟨n, rfl⟩ : ∃ m, n = m + 1 := ⟨n - 1, by omega⟩
    refine en__law_steps ?_
    unfold F__law_steps
    show WS _ _ [.fz (.tup [.str "wait", fr s]), _, _] (RI (.ok (.lst [.tup [.str "wait", fr s]]) true .non))
    walk_at "e1"
  | d + 1, .go false w s k, h, h1, n, h3 => by
    obtain ⟨n, rfl⟩ : ∃ m, n = m + 1 := ⟨n - 1, by omega⟩
    refine en__law_steps ?_
    unfold F__law_steps
    show WS _ _ [.fz (.tup [.str "go", fr w, fr s, .str (kS k)]), _, _] (RI (.ok (.lst [.tup [.str "go", fr w, fr s, .str (kS k)]]) true .non))
    walk_at "e1"
  | d + 1, .go true w s k, h, h1, n, h3 => by
    obtain ⟨n, rfl⟩ : ∃ m, n = m + 1 := ⟨n - 1, by omega⟩
    refine en__law_steps ?_
    unfold F__law_steps
    show WS _ _ [.fz (.tup [.str "by", fr w, fr s, .str (kS k)]), _, _] (RI (.ok (.lst [.tup [.str "by", fr w, fr s, .str (kS k)]]) true .non))
    walk_at "e1"
  | d + 1, .thn p q, h, h1, n, h3 => by
    obtain ⟨n, rfl⟩ : ∃ m, n = m + 1 := ⟨n - 1, by omega⟩
    refine en__law_steps ?_
    unfold F__law_steps
    show WS _ _ [.fz (.tup [.str "then", dP p, dP q]), _, _] (RI (.ok (.lst ((stepsP p ++ stepsP q).map dP)) true .non))
    have l1 := steps_len h.1
    have l2 := steps_len h.2
    have := pow4 (d := d) (by omega)
    walk_at "e1"
    rw [cw_ok (rn__law_steps h.1 (by omega) n (by omega))]
    walk_at "e1"
    rw [cw_ok (rn__law_steps h.2 (by omega) n (by omega))]
    walk_at "e1"
  | d + 1, .again m p, h, h1, n, h3 => by
    obtain ⟨n, rfl⟩ : ∃ m, n = m + 1 := ⟨n - 1, by omega⟩
    refine en__law_steps ?_
    unfold F__law_steps
    show WS _ _ [.fz (.tup [.str "again", .int m, dP p]), _, _] (RI (.ok (.lst (((List.replicate m (stepsP p)).flatten).map dP)) true .non))
    have g0 := h.1
    have l2 := steps_len h.2
    have := pow4 (d := d) (by omega)
    have r := rn__law_steps h.2 (by omega) n (by omega)
    walk_at "e1"
    refine wf_inv (fun i ρ => ∃ s : Sl, ρ = [.fz (.tup [.str "again", .int m, dP p]), .ow (.lst (((List.replicate i (stepsP p)).flatten).map dP)), s]) ⟨_, rfl⟩ ?_ ?_
    · rintro i x ρ hd ⟨s, rfl⟩
      obtain ⟨hi, rfl⟩ := rng1_get hd
      have hi : i < 4 := by omega
      have l4 : ((List.replicate i (stepsP p)).flatten).length ≤ 4 * 65536 := by
        rw [List.length_flatten, List.map_replicate, List.sum_replicate_nat]
        exact Nat.mul_le_mul (by omega) (by omega)
      walk_at "e1"
      rw [cw_ok r]
      walk_at "e1"
      refine ⟨.fz (.int i), ?_⟩
      rw [List.replicate_succ', List.flatten_append, List.map_append]
      simp
    · rintro ρ ⟨s, rfl⟩
      walk_at "e1"
      rw [List.length_range]
      rfl
end Gk54
end

section
open GW in
local macro_rules | `(tactic| walk_at "e1") => `(tactic| simp (maxSteps := 10000000) (disch := (first | assumption | omega | decide)) only [↓Gk54.gl_KINDS, ↓Gk54.gl_NONE, ↓Gk54.gl_STILL, ↓Gk54.gl_DEEPEST, ↓Gk54.gl_MOST, ↓Gk54.cv_tk0_0, ↓Gk54.cv_tk1_1, ↓Gk54.cv_tk1_0, ↓Gk54.cv_tk2_2, ↓Gk54.cv_tk2_0, ↓Gk54.cw_is_whole, ↓Gk54.cw_divisor, ↓Gk54.cw__law_divisor, ↓Gk54.cw_plus, ↓Gk54.cw_times, ↓Gk54.cw__law_plus, ↓Gk54.cw__law_minus, ↓Gk54.cw__law_times, ↓Gk54.cw__law_over, ↓Gk54.cw_is_less, ↓Gk54.cw__law_less, ↓Gk54.cw__law_pick, ↓Gk54.cw__law_frac, ↓Gk54.cw__law_size, ↓Gk54.cw__law_kind, ↓Gk54.cw__law_made, ↓Gk54.cw_frac, ↓Gk54.cv_is_whole, ↓Gk54.cv_divisor, ↓Gk54.cw_is_frac, ↓Gk54.cw_is_size, ↓Gk54.cw_is_kind, ↓GW.is_fr, ↓GW.isn_fr, ↓GW.bo_ix, ↓GW.b_pow6, ↓GW.bi_sort, ↓GW.lit_m12, ↓GW.b_mul3, ↓GW.ix_last, ↓GW.ix_lastt, ↓GW.bo_ne, ↓GW.bo_eq, ↓GW.bo_in, ↓GW.bo_nin, ↓GW.bo_len, ↓GW.c_neapp, ↓GW.c_neappt, ↓GW.c_eqapp, ↓GW.c_eqappt, ↓GW.bi_all, ↓GW.bi_any, ↓GW.zp_t', ↓GW.zp_l', ↓GW.c_eqnilt, ↓GW.b_mull, ↓GW.tq_wait_wait, ↓GW.tq_wait_go, ↓GW.tq_wait_by, ↓GW.tq_wait_then, ↓GW.tq_wait_again, ↓GW.tn_wait, ↓GW.tw_wait, ↓GW.ti_wait, ↓GW.tq_go_wait, ↓GW.tq_go_go, ↓GW.tq_go_by, ↓GW.tq_go_then, ↓GW.tq_go_again, ↓GW.tn_go, ↓GW.tw_go, ↓GW.ti_go, ↓GW.tq_by_wait, ↓GW.tq_by_go, ↓GW.tq_by_by, ↓GW.tq_by_then, ↓GW.tq_by_again, ↓GW.tn_by, ↓GW.tw_by, ↓GW.ti_by, ↓GW.tq_then_wait, ↓GW.tq_then_go, ↓GW.tq_then_by, ↓GW.tq_then_then, ↓GW.tq_then_again, ↓GW.tn_then, ↓GW.tw_then, ↓GW.ti_then, ↓GW.tq_again_wait, ↓GW.tq_again_go, ↓GW.tq_again_by, ↓GW.tq_again_then, ↓GW.tq_again_again, ↓GW.tn_again, ↓GW.tw_again, ↓GW.ti_again, ↓we_int, ↓we_bl, ↓we_non, ↓we_str, ↓we_tup, ↓we_lst, ↓wl_nil, ↓wl_cons, ↓we_bin, ↓we_cmp, ↓we_chain, ↓we_ix, ↓we_neg, ↓we_nt, ↓we_ife, ↓we_conj, ↓we_disj, ↓wa_nil, ↓wo_nil, ↓wa_cons, ↓wo_cons, ↓we_call, ↓we_bi, ↓we_isi, ↓we_rev, ↓we_sl, ↓we_mt, ↓we_bop, ↓we_rng, ↓we_zip, ↓we_enum, ↓we_gix, ↓we_glo, ↓ws_nil, ↓ws_set, ↓ws_exp, ↓ws_ret, ↓ws_retN, ↓ws_raise, ↓ws_pass, ↓ws_asgT, ↓ws_par, ↓ws_ite, ↓ws_try, ↓ws_whl, ↓th_nx, ↓th_rt, ↓th_exn, ↓th_bk, ↓th_ct, ↓tk_nx, ↓tk_rt, ↓nf_f, ↓nf_l, ↓nf_i, ↓nf_b, ↓nf_t, ↓nf_n, ↓nf_s, ↓nf_x, ↓br_t, ↓br_f, ↓br_n, ↓ov_s, ↓cw_o, ↓cw_e, ↓wv0, ↓wo0, ↓wm0, ↓wn0, ↓se0f, ↓se0o, ↓sx0, ↓pk0f, ↓pk0o, ↓po0, ↓wv1, ↓wo1, ↓wm1, ↓wn1, ↓se1f, ↓se1o, ↓sx1, ↓pk1f, ↓pk1o, ↓po1, ↓wv2, ↓wo2, ↓wm2, ↓wn2, ↓se2f, ↓se2o, ↓sx2, ↓pk2f, ↓pk2o, ↓po2, ↓wv3, ↓wo3, ↓wm3, ↓wn3, ↓se3f, ↓se3o, ↓sx3, ↓pk3f, ↓pk3o, ↓po3, ↓wv4, ↓wo4, ↓wm4, ↓wn4, ↓se4f, ↓se4o, ↓sx4, ↓pk4f, ↓pk4o, ↓po4, ↓wv5, ↓wo5, ↓wm5, ↓wn5, ↓se5f, ↓se5o, ↓sx5, ↓pk5f, ↓pk5o, ↓po5, ↓wv6, ↓wo6, ↓wm6, ↓wn6, ↓se6f, ↓se6o, ↓sx6, ↓pk6f, ↓pk6o, ↓po6, ↓wv7, ↓wo7, ↓wm7, ↓wn7, ↓se7f, ↓se7o, ↓sx7, ↓pk7f, ↓pk7o, ↓po7, ↓wv8, ↓wo8, ↓wm8, ↓wn8, ↓se8f, ↓se8o, ↓sx8, ↓pk8f, ↓pk8o, ↓po8, ↓wv9, ↓wo9, ↓wm9, ↓wn9, ↓se9f, ↓se9o, ↓sx9, ↓pk9f, ↓pk9o, ↓po9, ↓wv10, ↓wo10, ↓wm10, ↓wn10, ↓se10f, ↓se10o, ↓sx10, ↓pk10f, ↓pk10o, ↓po10, ↓wv11, ↓wo11, ↓wm11, ↓wn11, ↓se11f, ↓se11o, ↓sx11, ↓pk11f, ↓pk11o, ↓po11, ↓wv12, ↓wo12, ↓wm12, ↓wn12, ↓se12f, ↓se12o, ↓sx12, ↓pk12f, ↓pk12o, ↓po12, ↓wv13, ↓wo13, ↓wm13, ↓wn13, ↓se13f, ↓se13o, ↓sx13, ↓pk13f, ↓pk13o, ↓po13, ↓wv14, ↓wo14, ↓wm14, ↓wn14, ↓se14f, ↓se14o, ↓sx14, ↓pk14f, ↓pk14o, ↓po14, ↓wv15, ↓wo15, ↓wm15, ↓wn15, ↓se15f, ↓se15o, ↓sx15, ↓pk15f, ↓pk15o, ↓po15, ↓wv16, ↓wo16, ↓wm16, ↓wn16, ↓se16f, ↓se16o, ↓sx16, ↓pk16f, ↓pk16o, ↓po16, ↓wv17, ↓wo17, ↓wm17, ↓wn17, ↓se17f, ↓se17o, ↓sx17, ↓pk17f, ↓pk17o, ↓po17, ↓wv18, ↓wo18, ↓wm18, ↓wn18, ↓se18f, ↓se18o, ↓sx18, ↓pk18f, ↓pk18o, ↓po18, ↓wv19, ↓wo19, ↓wm19, ↓wn19, ↓se19f, ↓se19o, ↓sx19, ↓pk19f, ↓pk19o, ↓po19, ↓wv20, ↓wo20, ↓wm20, ↓wn20, ↓se20f, ↓se20o, ↓sx20, ↓pk20f, ↓pk20o, ↓po20, ↓wv21, ↓wo21, ↓wm21, ↓wn21, ↓se21f, ↓se21o, ↓sx21, ↓pk21f, ↓pk21o, ↓po21, ↓wv22, ↓wo22, ↓wm22, ↓wn22, ↓se22f, ↓se22o, ↓sx22, ↓pk22f, ↓pk22o, ↓po22, ↓wv23, ↓wo23, ↓wm23, ↓wn23, ↓se23f, ↓se23o, ↓sx23, ↓pk23f, ↓pk23o, ↓po23, ↓wv24, ↓wo24, ↓wm24, ↓wn24, ↓se24f, ↓se24o, ↓sx24, ↓pk24f, ↓pk24o, ↓po24, ↓wv25, ↓wo25, ↓wm25, ↓wn25, ↓se25f, ↓se25o, ↓sx25, ↓pk25f, ↓pk25o, ↓po25, ↓ses_n, ↓ses_c, ↓sep_n, ↓sep_c, ↓ws_appn, ↓ws_extn, ↓b_add, ↓b_addl, ↓b_addt, ↓b_sub, ↓b_mul, ↓b_fdiv, ↓b_mod, ↓c_lt, ↓c_le, ↓c_gt, ↓c_ge, ↓c_eq, ↓c_ne, ↓is_n, ↓isn_n, ↓is_b, ↓isn_b, ↓is_i, ↓isn_i, ↓is_s, ↓isn_s, ↓is_t, ↓isn_t, ↓is_l, ↓isn_l, ↓is_x, ↓isn_x, ↓isn_bb, ↓is_bb, ↓ix_tup0, ↓ix_lst0, ↓ix_tup1, ↓ix_lst1, ↓ix_tup2, ↓ix_lst2, ↓ix_tup3, ↓ix_lst3, ↓ix_tup4, ↓ix_lst4, ↓ix_tup5, ↓ix_lst5, ↓ix_tup6, ↓ix_lst6, ↓ix_tup7, ↓ix_lst7, ↓ix_tup8, ↓ix_lst8, ↓ix_tup9, ↓ix_lst9, ↓ix_tup10, ↓ix_lst10, ↓ix_tup11, ↓ix_lst11, ↓ix_tup12, ↓ix_lst12, ↓ix_tup13, ↓ix_lst13, ↓ix_tup14, ↓ix_lst14, ↓ix_tup15, ↓ix_lst15, ↓ng, ↓up_t, ↓up_l, ↓it_t, ↓it_l, ↓ls_l, ↓pt_n, ↓pt_i, ↓rg1, ↓rg2, ↓bi_lenl, ↓bi_lent, ↓bi_abs, ↓bi_lil, ↓bi_lit, ↓bi_tul, ↓bi_tut, ↓rv_l, ↓ii_non_int, ↓ii_non_bool, ↓ii_non_str, ↓ii_non_tuple, ↓ii_non_list, ↓ii_bl_int, ↓ii_bl_bool, ↓ii_bl_str, ↓ii_bl_tuple, ↓ii_bl_list, ↓ii_int_int, ↓ii_int_bool, ↓ii_int_str, ↓ii_int_tuple, ↓ii_int_list, ↓ii_str_int, ↓ii_str_bool, ↓ii_str_str, ↓ii_str_tuple, ↓ii_str_list, ↓ii_tup_int, ↓ii_tup_bool, ↓ii_tup_str, ↓ii_tup_tuple, ↓ii_tup_list, ↓ii_lst_int, ↓ii_lst_bool, ↓ii_lst_str, ↓ii_lst_tuple, ↓ii_lst_list, ↓nf_fr, ↓ix_fr0, ↓ix_fr1, ↓ii_fr_t, ↓len_fr, ↓c_eqfr, ↓c_nefr, ↓c_eqfrs, ↓c_nefrs, ↓c_eqbs, ↓c_nebs, ↓we_fz, ↓ws_asgs, ↓wlo_nil, ↓wlo_cons, ↓pv_n, ↓pv_c, ↓ri_rt, ↓ri_nx, ↓ri_ex, ↓ri_rx, ↓ri_xr, ↓gd_nx, ↓gd_rt, ↓gd_ex, ↓ok_rt, ↓ws_forW, ↓ws_brk, ↓ws_cont, ↓lq_nx, ↓lq_ct, ↓lq_bk, ↓lq_rt, ↓lq_exn, ↓iq_nx, ↓iq_ct, ↓iq_bk, ↓iq_rt, ↓iq_exn, ↓st_n, ↓st_t, ↓sts_n, ↓sts_c, ↓we_lc, ↓now_n, ↓now_c, ↓gs_0, ↓gs_s, ↓io_f, ↓io_n, ↓wp_n, ↓wp_c, ↓ck_even, ↓cn_even, ↓ck_in, ↓cn_in, ↓ck_out, ↓cn_out, ↓ck_both, ↓cn_both, ↓ck_hold, ↓cn_hold, ↓ck_jump, ↓cn_jump, ↓ck_kept, ↓cn_kept, ↓ci_hj, ↓cj_hj, ↓ci_bk, ↓cj_bk, ↓ci_kinds, ↓cj_kinds, ↓gx_turn, ↓up_fr, ↓ok_i, ↓ok_ii, ↓turn_turn, ↓sl_t, ↓sl_l, ↓cut_h1, ↓cut_l1, ↓cut_h2, ↓cut_l2, ↓cut_h3, ↓cut_l3, ↓cut_h4, ↓cut_l4, ↓cut_h5, ↓cut_l5, ↓cut_2_4, ↓r_nn, ↓c_eqself, ↓c_neself, ↓br_T, ↓br_F, ↓lit01, ↓lit11, ↓lit21, ↓lit31, ↓lit41, ↓lit61, ↓lit12, ↓lit32, decide_eq_true_eq, decide_eq_false_iff_not, Bool.not_eq_true', Bool.not_eq_false', true_and, and_true, and_self, true_implies, false_implies, implies_true, forall_const, not_true_eq_false, not_false_eq_true, Bool.not_true, Bool.not_false, decide_true, decide_false, reduceCtorEq, List.cons_append, List.nil_append, List.append_assoc, not_false_iff, eq_self, Tg.slots, GW.ld, GW.ld2, GW.p2_fr, List.length_cons, List.length_nil, List.all_cons, List.all_nil, Bool.and_self, GW.bq_tt, GW.bq_ff, GW.bq_tf, GW.bq_ft, GW.cut_tail, List.map_append, List.map_cons, List.map_nil, List.length_map, List.length_append, GW.pair_tup, GW.al_t, GW.lit_m99, GW.dT, GW.fr_intN])
namespace Gk54
open GW
section
variable {n : Nat} {ρ : Env} {K : D → Bool → Env → Prop} {X : Nat → Env → Prop} {ns : List Int} {w b x y : Rat} {ms : List Mo} {m : Mo} {iw ib ix iy : Nat} [SzLe w iw] [SzLe b ib] [SzLe x ix] [SzLe y iy]
theorem rn_look_plan {z d : Nat} {p : Pn} (hz : z ≤ 5000) (h : PnZ z d p) (hd : d ≤ 5) (hn : d + 7 ≤ n) : run G n i_look_plan .non [dP p] = .ok .non false .non := by
  obtain ⟨n, rfl⟩ : ∃ m, n = m + 1 := ⟨n - 1, by omega⟩
  refine en_look_plan ?_
  unfold F_look_plan
  walk_at "e1"
  rw [cw_ok (rn_is_plan hz h hd (by omega))]
  walk_at "e1"
theorem map_get {l : List Pn} {i : Nat} {d : D} (h : (l.map dP)[i]? = some d) : ∃ q, l[i]? = some q ∧ d = dP q := by
  rw [List.getElem?_map] at h
  obtain ⟨q, h1, h2⟩ := Option.map_eq_some_iff.mp h
  exact ⟨q, h1, h2.symm⟩
theorem rn_played {z d : Nat} {p : Pn} (hz : z ≤ 40) (h : PnZ z d p) (hd : d ≤ 5) (hn : d + 10 ≤ n) (hi6 : 6 ≤ iw) (hw : iw + 7 * (stepsP p).length ≤ 2000) (hb : ib + (z + 1) * (stepsP p).length ≤ 2000) : run G n i_played .non [dP p, fr w, fr b] = .ok (dT w (stF w b (stepsP p)).made) false .non := by
  obtain ⟨n, rfl⟩ : ∃ m, n = m + 1 := ⟨n - 1, by omega⟩
  refine en_played ?_
  unfold F_played
  have hs := steps_ok h
  have r1 := rn_look_plan (by omega) h hd (n := n) (by omega)
  have r2 := rn_steps_of h (by omega) n (by omega)
  walk_at "e1"
  rw [cw_ok r1]
  walk_at "e1"
  rw [cw_ok r2]
  walk_at "e1"
  refine wf_inv (fun i ρ => ∃ s6 s7 : Sl, ρ = [.fz (dP p), .fz (fr w), .fz (fr b), .ow (.lst ((stF w b ((stepsP p).take i)).made.map dM)), .fz (fr (stF w b ((stepsP p).take i)).here), .fz (fr (stF w b ((stepsP p).take i)).time), s6, s7]) ⟨_, _, rfl⟩ ?_ ?_
  · rintro i x ρ hx ⟨s6, s7, rfl⟩
    obtain ⟨q, h1, rfl⟩ := map_get hx
    have hi : i < (stepsP p).length := (List.getElem?_eq_some_iff.mp h1).1
    obtain ⟨h2, h3⟩ := hs q (List.mem_of_getElem? h1)
    have hm := Nat.mul_le_mul_left (z + 1) (Nat.le_of_lt hi)
    have ok := stOk_at (w := w) (b := b) hz hi6 inferInstance inferInstance hs i (by omega)
    have r3 := rn_size_of h3 (by show 2 * (z + 6) + 4 ≤ 6000; omega) n (by omega)
    rw [stF_take h1]
    generalize stF w b ((stepsP p).take i) = F at *
    have z1 := ok.sh
    have z2 := ok.sm
    have z3 := ok.len
    have z4 : F.made.length < 1000 := by omega
    cases q with
    | wait s =>
      have r3 : run G n i_size_of .non [.tup [.str "wait", fr s]] = .ok (fr s) false .non := r3
      have z5 : SzLe s z := h3.2
      show OV (setTg _ (.nm 6) (.tup [.str "wait", fr s])) _
      walk_at "e1"
      rw [cw_ok r3]
      walk_at "e1"
      exact ⟨_, _, rfl⟩
    | go by_ w' s k =>
      have z5 : SzLe s z := h3.2.2.1
      have z6 : SzLe w' 6 := h3.1
      cases by_
      · have r3 : run G n i_size_of .non [.tup [.str "go", fr w', fr s, .str (kS k)]] = .ok (fr s) false .non := r3
        show OV (setTg _ (.nm 6) (.tup [.str "go", fr w', fr s, .str (kS k)])) _
        unfold stStep
        walk_at "e1"
        rw [cw_ok r3]
        walk_at "e1"
        exact ⟨_, _, rfl⟩
      · have r3 : run G n i_size_of .non [.tup [.str "by", fr w', fr s, .str (kS k)]] = .ok (fr s) false .non := r3
        show OV (setTg _ (.nm 6) (.tup [.str "by", fr w', fr s, .str (kS k)])) _
        unfold stStep
        walk_at "e1"
        rw [cw_ok r3]
        walk_at "e1"
        exact ⟨_, _, rfl⟩
    | thn _ _ => exact h2.elim
    | again _ _ => exact h2.elim
  · rintro ρ ⟨s6, s7, rfl⟩
    have e : (stepsP p).take (((stepsP p).map dP).length) = stepsP p := by
      rw [List.length_map, List.take_length]
    rw [e]
    walk_at "e1"
theorem lastB_snoc {l : List Mo} : lastB w (l ++ [m]) = m.b := lastB_app
end
end Gk54
end

section
open GW in
local macro_rules | `(tactic| walk_at "e1") => `(tactic| simp (maxSteps := 10000000) (disch := (first | assumption | omega | decide)) only [↓Gk54.gl_KINDS, ↓Gk54.gl_NONE, ↓Gk54.gl_STILL, ↓Gk54.gl_DEEPEST, ↓Gk54.gl_MOST, ↓Gk54.cv_tk0_0, ↓Gk54.cv_tk1_1, ↓Gk54.cv_tk1_0, ↓Gk54.cv_tk2_2, ↓Gk54.cv_tk2_0, ↓Gk54.cw_is_whole, ↓Gk54.cw_divisor, ↓Gk54.cw__law_divisor, ↓Gk54.cw_plus, ↓Gk54.cw_times, ↓Gk54.cw__law_plus, ↓Gk54.cw__law_minus, ↓Gk54.cw__law_times, ↓Gk54.cw__law_over, ↓Gk54.cw_is_less, ↓Gk54.cw__law_less, ↓Gk54.cw__law_pick, ↓Gk54.cw__law_frac, ↓Gk54.cw__law_size, ↓Gk54.cw__law_kind, ↓Gk54.cw__law_made, ↓Gk54.cw_frac, ↓Gk54.cv_is_whole, ↓Gk54.cv_divisor, ↓Gk54.cw_is_frac, ↓Gk54.cw_is_size, ↓Gk54.cw_is_kind, ↓GW.is_fr, ↓GW.isn_fr, ↓GW.bo_ix, ↓GW.b_pow6, ↓GW.bi_sort, ↓GW.b_mul3, ↓GW.ix_last, ↓GW.ix_lastt, ↓GW.bo_ne, ↓GW.bo_eq, ↓GW.bo_in, ↓GW.bo_nin, ↓GW.bo_len, ↓GW.c_neapp, ↓GW.c_neappt, ↓GW.c_eqapp, ↓GW.c_eqappt, ↓GW.bi_all, ↓GW.bi_any, ↓GW.zp_t', ↓GW.zp_l', ↓GW.c_eqnilt, ↓GW.b_mull, ↓GW.tq_wait_wait, ↓GW.tq_wait_go, ↓GW.tq_wait_by, ↓GW.tq_wait_then, ↓GW.tq_wait_again, ↓GW.tn_wait, ↓GW.tw_wait, ↓GW.ti_wait, ↓GW.tq_go_wait, ↓GW.tq_go_go, ↓GW.tq_go_by, ↓GW.tq_go_then, ↓GW.tq_go_again, ↓GW.tn_go, ↓GW.tw_go, ↓GW.ti_go, ↓GW.tq_by_wait, ↓GW.tq_by_go, ↓GW.tq_by_by, ↓GW.tq_by_then, ↓GW.tq_by_again, ↓GW.tn_by, ↓GW.tw_by, ↓GW.ti_by, ↓GW.tq_then_wait, ↓GW.tq_then_go, ↓GW.tq_then_by, ↓GW.tq_then_then, ↓GW.tq_then_again, ↓GW.tn_then, ↓GW.tw_then, ↓GW.ti_then, ↓GW.tq_again_wait, ↓GW.tq_again_go, ↓GW.tq_again_by, ↓GW.tq_again_then, ↓GW.tq_again_again, ↓GW.tn_again, ↓GW.tw_again, ↓GW.ti_again, ↓GW.nf_scr, ↓GW.c_eqscr, ↓GW.it_scr, ↓GW.b_pow4, ↓GW.b_pow5, ↓GW.en_l, ↓GW.bi_srs, ↓we_int, ↓we_bl, ↓we_non, ↓we_str, ↓we_tup, ↓we_lst, ↓wl_nil, ↓wl_cons, ↓we_bin, ↓we_cmp, ↓we_chain, ↓we_ix, ↓we_neg, ↓we_nt, ↓we_ife, ↓we_conj, ↓we_disj, ↓wa_nil, ↓wo_nil, ↓wa_cons, ↓wo_cons, ↓we_call, ↓we_bi, ↓we_isi, ↓we_rev, ↓we_sl, ↓we_mt, ↓we_bop, ↓we_rng, ↓we_zip, ↓we_enum, ↓we_gix, ↓we_glo, ↓ws_nil, ↓ws_set, ↓ws_exp, ↓ws_ret, ↓ws_retN, ↓ws_raise, ↓ws_pass, ↓ws_asgT, ↓ws_par, ↓ws_ite, ↓ws_try, ↓ws_whl, ↓th_nx, ↓th_rt, ↓th_exn, ↓th_bk, ↓th_ct, ↓tk_nx, ↓tk_rt, ↓nf_f, ↓nf_l, ↓nf_i, ↓nf_b, ↓nf_t, ↓nf_n, ↓nf_s, ↓nf_x, ↓br_t, ↓br_f, ↓br_n, ↓ov_s, ↓cw_o, ↓cw_e, ↓wv0, ↓wo0, ↓wm0, ↓wn0, ↓se0f, ↓se0o, ↓sx0, ↓pk0f, ↓pk0o, ↓po0, ↓wv1, ↓wo1, ↓wm1, ↓wn1, ↓se1f, ↓se1o, ↓sx1, ↓pk1f, ↓pk1o, ↓po1, ↓wv2, ↓wo2, ↓wm2, ↓wn2, ↓se2f, ↓se2o, ↓sx2, ↓pk2f, ↓pk2o, ↓po2, ↓wv3, ↓wo3, ↓wm3, ↓wn3, ↓se3f, ↓se3o, ↓sx3, ↓pk3f, ↓pk3o, ↓po3, ↓wv4, ↓wo4, ↓wm4, ↓wn4, ↓se4f, ↓se4o, ↓sx4, ↓pk4f, ↓pk4o, ↓po4, ↓wv5, ↓wo5, ↓wm5, ↓wn5, ↓se5f, ↓se5o, ↓sx5, ↓pk5f, ↓pk5o, ↓po5, ↓wv6, ↓wo6, ↓wm6, ↓wn6, ↓se6f, ↓se6o, ↓sx6, ↓pk6f, ↓pk6o, ↓po6, ↓wv7, ↓wo7, ↓wm7, ↓wn7, ↓se7f, ↓se7o, ↓sx7, ↓pk7f, ↓pk7o, ↓po7, ↓wv8, ↓wo8, ↓wm8, ↓wn8, ↓se8f, ↓se8o, ↓sx8, ↓pk8f, ↓pk8o, ↓po8, ↓wv9, ↓wo9, ↓wm9, ↓wn9, ↓se9f, ↓se9o, ↓sx9, ↓pk9f, ↓pk9o, ↓po9, ↓wv10, ↓wo10, ↓wm10, ↓wn10, ↓se10f, ↓se10o, ↓sx10, ↓pk10f, ↓pk10o, ↓po10, ↓wv11, ↓wo11, ↓wm11, ↓wn11, ↓se11f, ↓se11o, ↓sx11, ↓pk11f, ↓pk11o, ↓po11, ↓wv12, ↓wo12, ↓wm12, ↓wn12, ↓se12f, ↓se12o, ↓sx12, ↓pk12f, ↓pk12o, ↓po12, ↓wv13, ↓wo13, ↓wm13, ↓wn13, ↓se13f, ↓se13o, ↓sx13, ↓pk13f, ↓pk13o, ↓po13, ↓wv14, ↓wo14, ↓wm14, ↓wn14, ↓se14f, ↓se14o, ↓sx14, ↓pk14f, ↓pk14o, ↓po14, ↓wv15, ↓wo15, ↓wm15, ↓wn15, ↓se15f, ↓se15o, ↓sx15, ↓pk15f, ↓pk15o, ↓po15, ↓wv16, ↓wo16, ↓wm16, ↓wn16, ↓se16f, ↓se16o, ↓sx16, ↓pk16f, ↓pk16o, ↓po16, ↓wv17, ↓wo17, ↓wm17, ↓wn17, ↓se17f, ↓se17o, ↓sx17, ↓pk17f, ↓pk17o, ↓po17, ↓wv18, ↓wo18, ↓wm18, ↓wn18, ↓se18f, ↓se18o, ↓sx18, ↓pk18f, ↓pk18o, ↓po18, ↓wv19, ↓wo19, ↓wm19, ↓wn19, ↓se19f, ↓se19o, ↓sx19, ↓pk19f, ↓pk19o, ↓po19, ↓wv20, ↓wo20, ↓wm20, ↓wn20, ↓se20f, ↓se20o, ↓sx20, ↓pk20f, ↓pk20o, ↓po20, ↓wv21, ↓wo21, ↓wm21, ↓wn21, ↓se21f, ↓se21o, ↓sx21, ↓pk21f, ↓pk21o, ↓po21, ↓wv22, ↓wo22, ↓wm22, ↓wn22, ↓se22f, ↓se22o, ↓sx22, ↓pk22f, ↓pk22o, ↓po22, ↓wv23, ↓wo23, ↓wm23, ↓wn23, ↓se23f, ↓se23o, ↓sx23, ↓pk23f, ↓pk23o, ↓po23, ↓wv24, ↓wo24, ↓wm24, ↓wn24, ↓se24f, ↓se24o, ↓sx24, ↓pk24f, ↓pk24o, ↓po24, ↓wv25, ↓wo25, ↓wm25, ↓wn25, ↓se25f, ↓se25o, ↓sx25, ↓pk25f, ↓pk25o, ↓po25, ↓ses_n, ↓ses_c, ↓sep_n, ↓sep_c, ↓ws_appn, ↓ws_extn, ↓b_add, ↓b_addl, ↓b_addt, ↓b_sub, ↓b_mul, ↓b_fdiv, ↓b_mod, ↓c_lt, ↓c_le, ↓c_gt, ↓c_ge, ↓c_eq, ↓c_ne, ↓is_n, ↓isn_n, ↓is_b, ↓isn_b, ↓is_i, ↓isn_i, ↓is_s, ↓isn_s, ↓is_t, ↓isn_t, ↓is_l, ↓isn_l, ↓is_x, ↓isn_x, ↓isn_bb, ↓is_bb, ↓ix_tup0, ↓ix_lst0, ↓ix_tup1, ↓ix_lst1, ↓ix_tup2, ↓ix_lst2, ↓ix_tup3, ↓ix_lst3, ↓ix_tup4, ↓ix_lst4, ↓ix_tup5, ↓ix_lst5, ↓ix_tup6, ↓ix_lst6, ↓ix_tup7, ↓ix_lst7, ↓ix_tup8, ↓ix_lst8, ↓ix_tup9, ↓ix_lst9, ↓ix_tup10, ↓ix_lst10, ↓ix_tup11, ↓ix_lst11, ↓ix_tup12, ↓ix_lst12, ↓ix_tup13, ↓ix_lst13, ↓ix_tup14, ↓ix_lst14, ↓ix_tup15, ↓ix_lst15, ↓ng, ↓up_t, ↓up_l, ↓it_t, ↓it_l, ↓ls_l, ↓pt_n, ↓pt_i, ↓rg1, ↓rg2, ↓bi_lenl, ↓bi_lent, ↓bi_abs, ↓bi_lil, ↓bi_lit, ↓bi_tul, ↓bi_tut, ↓rv_l, ↓ii_non_int, ↓ii_non_bool, ↓ii_non_str, ↓ii_non_tuple, ↓ii_non_list, ↓ii_bl_int, ↓ii_bl_bool, ↓ii_bl_str, ↓ii_bl_tuple, ↓ii_bl_list, ↓ii_int_int, ↓ii_int_bool, ↓ii_int_str, ↓ii_int_tuple, ↓ii_int_list, ↓ii_str_int, ↓ii_str_bool, ↓ii_str_str, ↓ii_str_tuple, ↓ii_str_list, ↓ii_tup_int, ↓ii_tup_bool, ↓ii_tup_str, ↓ii_tup_tuple, ↓ii_tup_list, ↓ii_lst_int, ↓ii_lst_bool, ↓ii_lst_str, ↓ii_lst_tuple, ↓ii_lst_list, ↓nf_fr, ↓ix_fr0, ↓ix_fr1, ↓ii_fr_t, ↓len_fr, ↓c_eqfr, ↓c_nefr, ↓c_eqfrs, ↓c_nefrs, ↓c_eqbs, ↓c_nebs, ↓we_fz, ↓ws_asgs, ↓wlo_nil, ↓wlo_cons, ↓pv_n, ↓pv_c, ↓ri_rt, ↓ri_nx, ↓ri_ex, ↓ri_rx, ↓ri_xr, ↓gd_nx, ↓gd_rt, ↓gd_ex, ↓ok_rt, ↓ws_forW, ↓ws_brk, ↓ws_cont, ↓lq_nx, ↓lq_ct, ↓lq_bk, ↓lq_rt, ↓lq_exn, ↓iq_nx, ↓iq_ct, ↓iq_bk, ↓iq_rt, ↓iq_exn, ↓st_n, ↓st_t, ↓sts_n, ↓sts_c, ↓we_lc, ↓now_n, ↓now_c, ↓gs_0, ↓gs_s, ↓io_f, ↓io_n, ↓wp_n, ↓wp_c, ↓ck_even, ↓cn_even, ↓ck_in, ↓cn_in, ↓ck_out, ↓cn_out, ↓ck_both, ↓cn_both, ↓ck_hold, ↓cn_hold, ↓ck_jump, ↓cn_jump, ↓ck_kept, ↓cn_kept, ↓ci_hj, ↓cj_hj, ↓ci_bk, ↓cj_bk, ↓ci_kinds, ↓cj_kinds, ↓gx_turn, ↓up_fr, ↓ok_i, ↓ok_ii, ↓turn_turn, ↓sl_t, ↓sl_l, ↓cut_h1, ↓cut_l1, ↓cut_h2, ↓cut_l2, ↓cut_h3, ↓cut_l3, ↓cut_h4, ↓cut_l4, ↓cut_h5, ↓cut_l5, ↓cut_2_4, ↓r_nn, ↓c_eqself, ↓c_neself, ↓br_T, ↓br_F, ↓lit01, ↓lit11, ↓lit21, ↓lit31, ↓lit41, ↓lit61, ↓lit12, ↓lit32, decide_eq_true_eq, decide_eq_false_iff_not, Bool.not_eq_true', Bool.not_eq_false', true_and, and_true, and_self, true_implies, false_implies, implies_true, forall_const, not_true_eq_false, not_false_eq_true, Bool.not_true, Bool.not_false, decide_true, decide_false, reduceCtorEq, List.cons_append, List.nil_append, List.append_assoc, not_false_iff, eq_self, Tg.slots, GW.ld, GW.ld2, GW.p2_fr, List.length_cons, List.length_nil, List.all_cons, List.all_nil, Bool.and_self, GW.bq_tt, GW.bq_ff, GW.bq_tf, GW.bq_ft, GW.cut_tail, List.map_append, List.map_cons, List.map_nil, List.length_map, List.length_append, GW.pair_tup, GW.al_t, GW.lit_m99, GW.dT, GW.fr_intN, GW.dP])
namespace Gk54
open GW
section
variable {n z d : Nat} {ρ : Env} {K : D → Bool → Env → Prop} {X : Nat → Env → Prop} {b x : Rat} {p q : Pn} {ib ix : Nat} [SzLe b ib] [SzLe x ix]
theorem rn_long_of (hn : 1 ≤ n) (h : IsStep q) : run G n i_long_of .non [dP q] = .ok (fr (sizeP q)) false .non := by
  obtain ⟨n, rfl⟩ : ∃ m, n = m + 1 := ⟨n - 1, by omega⟩
  refine en_long_of ?_
  unfold F_long_of
  cases q with
  | wait s =>
    walk_at "e1"
    rfl
  | go by_ w s k =>
    cases by_
    · walk_at "e1"
      rfl
    · walk_at "e1"
      rfl
  | thn _ _ => exact h.elim
  | again _ _ => exact h.elim
theorem rn_cues (hz : z ≤ 40) (h : PnZ z d p) (hd : d ≤ 5) (hn : d + 10 ≤ n) (hb : ib + (z + 1) * (stepsP p).length ≤ 2000) : run G n i_cues .non [dP p, fr b] = .ok (.lst ((cuL b (stepsP p)).map fr)) true .non := by
  obtain ⟨n, rfl⟩ : ∃ m, n = m + 1 := ⟨n - 1, by omega⟩
  refine en_cues ?_
  unfold F_cues
  have hs := steps_ok h
  have r1 := rn_look_plan (n := n) (by omega) h hd (by omega)
  have r2 := rn_steps_of h (by omega) n (by omega)
  have sb : SzLe b ib := inferInstance
  walk_at "e1"
  rw [cw_ok r1]
  walk_at "e1"
  rw [cw_ok r2]
  walk_at "e1"
  refine wf_inv (fun i ρ => ∃ s4 : Sl, ρ = [.fz (dP p), .fz (fr b), .ow (.lst ((cuL b ((stepsP p).take i)).map fr)), .fz (fr (enL b ((stepsP p).take i))), s4]) ⟨_, rfl⟩ ?_ ?_
  · rintro i d' ρ hd' ⟨s4, rfl⟩
    obtain ⟨q, hq, rfl⟩ := map_get hd'
    have hi := (List.getElem?_eq_some_iff.mp hq).1
    obtain ⟨h1, h2⟩ := hs q (List.mem_of_getElem? hq)
    have r3 := rn_long_of (n := n) (q := q) (by omega) h1
    have s1 : SzLe (enL b ((stepsP p).take i)) 2000 := szz (eL_sz hz sb hs (i := i) (by omega)) (Nat.le_trans (Nat.add_le_add_left (Nat.mul_le_mul_left _ (Nat.le_of_lt hi)) _) hb)
    have s2 : SzLe (sizeP q) 40 := szz (step_sz h1 h2) hz
    have hl : (cuL b ((stepsP p).take i)).length < lineD := by
      rw [cu_len, List.length_take]
      have l1 := steps_len h
      have l2 := pow4 (d := d) (by omega)
      unfold lineD
      omega
    rw [cu_take hq, eL_take hq, List.map_append]
    generalize enL b ((stepsP p).take i) = A at *
    walk_at "e1"
    refine ⟨hl, ?_⟩
    rw [cw_ok r3]
    walk_at "e1"
    exact ⟨_, rfl⟩
  · rintro ρ ⟨s4, rfl⟩
    rw [List.length_map, List.take_length]
    walk_at "e1"
theorem rn_step_at (hz : z ≤ 40) (h : PnZ z d p) (hd : d ≤ 5) (hn : d + 10 ≤ n) (hb : ib + (z + 1) * (stepsP p).length ≤ 2000) (hx : ix ≤ 2000) : run G n i_step_at .non [dP p, fr b, fr x] = .ok (optN (stepAt x b (stepsP p))) false .non := by
  obtain ⟨n, rfl⟩ : ∃ m, n = m + 1 := ⟨n - 1, by omega⟩
  refine en_step_at ?_
  unfold F_step_at
  have hs := steps_ok h
  have r1 := rn_look_plan (n := n) (by omega) h hd (by omega)
  have r2 := rn_steps_of h (by omega) n (by omega)
  have sb : SzLe b ib := inferInstance
  walk_at "e1"
  rw [cw_ok r1]
  walk_at "e1"
  rw [cw_ok r2]
  walk_at "e1"
  refine wf_inv (fun i ρ => (∃ s4 s5 s6 : Sl, ρ = [.fz (dP p), .fz (fr b), .fz (fr x), .fz (fr (enL b ((stepsP p).take i))), s4, s5, s6]) ∧ ∀ j < i, onB x b (stepsP p) j = false) ⟨⟨_, _, _, rfl⟩, fun j hj => absurd hj (Nat.not_lt_zero j)⟩ ?_ ?_
  · rintro i d' ρ hd' ⟨⟨s4, s5, s6, rfl⟩, hno⟩
    rw [enum_get, List.getElem?_map] at hd'
    obtain ⟨d1, hd1, rfl⟩ := Option.map_eq_some_iff.mp hd'
    obtain ⟨q, hq, rfl⟩ := Option.map_eq_some_iff.mp hd1
    have hi := (List.getElem?_eq_some_iff.mp hq).1
    obtain ⟨h1, h2⟩ := hs q (List.mem_of_getElem? hq)
    have r3 := rn_long_of (n := n) (q := q) (by omega) h1
    have s1 : SzLe (enL b ((stepsP p).take i)) 2000 := szz (eL_sz hz sb hs (i := i) (by omega)) (Nat.le_trans (Nat.add_le_add_left (Nat.mul_le_mul_left _ (Nat.le_of_lt hi)) _) hb)
    have s2 : SzLe (sizeP q) 40 := szz (step_sz h1 h2) hz
    have eo : onB x b (stepsP p) i = (!decide (x < enL b ((stepsP p).take i)) && decide (x < enL b ((stepsP p).take i) + sizeP q)) := by
      unfold onB
      rw [eL_take hq]
    have hst : onB x b (stepsP p) i = true → stepAt x b (stepsP p) = some i := fun z => stepAt_some hi z hno
    have hne : onB x b (stepsP p) i = false → ∀ j < i + 1, onB x b (stepsP p) j = false := fun z j hj => by
      rcases Nat.lt_or_ge j i with y | y
      · exact hno j y
      · have : j = i := by omega
        rw [this]
        exact z
    rw [eL_take hq, Nat.zero_add]
    rw [eo] at hst hne
    generalize enL b ((stepsP p).take i) = A at *
    walk_at "e1"
    rw [cw_ok r3]
    walk_at "e1"
    rcases Decidable.em (x < A) with z1 | z1
    · rw [decide_eq_true z1] at hne
      walk_at "e1"
      exact ⟨⟨_, _, _, rfl⟩, hne rfl⟩
    · rcases Decidable.em (x < A + sizeP q) with z2 | z2
      · rw [decide_eq_true z2, decide_eq_false z1] at hst
        rw [hst rfl]
        walk_at "e1"
        rfl
      · rw [decide_eq_false z2, decide_eq_false z1] at hne
        walk_at "e1"
        exact ⟨⟨_, _, _, rfl⟩, hne rfl⟩
  · rintro ρ ⟨⟨s4, s5, s6, rfl⟩, hno⟩
    rw [enum_len, List.length_map] at hno
    rw [stepAt_none hno]
    walk_at "e1"
    rfl
theorem rn_kinds_used (h : PnZ z d p) (hz : z ≤ 40) (hd : d ≤ 5) (hn : d + 10 ≤ n) (hl : (stepsP p).length < 64) : run G n i_kinds_used .non [dP p] = .ok (kindsD (stepsP p)) true .non := by
  obtain ⟨n, rfl⟩ : ∃ m, n = m + 1 := ⟨n - 1, by omega⟩
  refine en_kinds_used ?_
  unfold F_kinds_used
  have hs := steps_ok h
  have r1 := rn_look_plan (n := n) (by omega) h hd (by omega)
  have r2 := rn_steps_of h (by omega) n (by omega)
  walk_at "e1"
  rw [cw_ok r1]
  walk_at "e1"
  rw [cw_ok r2]
  walk_at "e1"
  rw [col_map (h := dP) (fun q => .str (wordP q)) fun q hq => lc_f ?_]
  rotate_left
  · obtain ⟨h1, h2⟩ := hs q hq
    cases q with
    | wait s =>
      walk_at "e1"
      rfl
    | go by_ w s k =>
      cases by_
      · walk_at "e1"
        rfl
      · walk_at "e1"
        rfl
    | thn _ _ => exact h1.elim
    | again _ _ => exact h1.elim
  have em : (stepsP p).map (fun q => D.str (wordP q)) = ((stepsP p).map wordP).map .str := by rw [List.map_map]; rfl
  rw [em]
  have hw := words_ok (stepsP p)
  have hlw : ((stepsP p).map wordP).length < 64 := by rw [List.length_map]; exact hl
  have hns : ∀ w ∈ sortX (nub ((stepsP p).map wordP)), PySem.PyData.strOk w = true := sortX_okk fun w hw' => hw w (mem_nub.mp hw')
  walk_at "e1"
  rw [col_map (h := D.str) (fun w => .tup [.str w, .int (countW w ((stepsP p).map wordP) : Nat)]) fun w hw' => lc_f ?_]
  rotate_left
  · walk_at "e1"
    refine ⟨rfl, ?_⟩
    rw [mt_countS (hns w hw') hw]
    walk_at "e1"
  walk_at "e1"
  refine ⟨?_, rfl⟩
  rw [sortX_len]
  have := nub_len ((stepsP p).map wordP)
  unfold lineD
  omega
end
end Gk54
end

section
open GW in
local macro_rules | `(tactic| walk_at "e1") => `(tactic| simp (maxSteps := 10000000) (disch := (first | assumption | omega | decide)) only [↓Gk54.gl_KINDS, ↓Gk54.gl_NONE, ↓Gk54.gl_STILL, ↓Gk54.gl_DEEPEST, ↓Gk54.gl_MOST, ↓Gk54.cv_tk0_0, ↓Gk54.cv_tk1_1, ↓Gk54.cv_tk1_0, ↓Gk54.cv_tk2_2, ↓Gk54.cv_tk2_0, ↓Gk54.cw_is_whole, ↓Gk54.cw_divisor, ↓Gk54.cw__law_divisor, ↓Gk54.cw_plus, ↓Gk54.cw_times, ↓Gk54.cw__law_plus, ↓Gk54.cw__law_minus, ↓Gk54.cw__law_times, ↓Gk54.cw__law_over, ↓Gk54.cw_is_less, ↓Gk54.cw__law_less, ↓Gk54.cw__law_pick, ↓Gk54.cw__law_frac, ↓Gk54.cw__law_size, ↓Gk54.cw__law_kind, ↓Gk54.cw__law_made, ↓Gk54.cw_frac, ↓Gk54.cv_is_whole, ↓Gk54.cv_divisor, ↓Gk54.cw_is_frac, ↓Gk54.cw_is_size, ↓Gk54.cw_is_kind, ↓GW.is_fr, ↓GW.isn_fr, ↓GW.bo_ix, ↓GW.b_pow6, ↓GW.bi_sort, ↓GW.b_mul3, ↓GW.ix_last, ↓GW.ix_lastt, ↓GW.bo_ne, ↓GW.bo_eq, ↓GW.bo_in, ↓GW.bo_nin, ↓GW.bo_len, ↓GW.c_neapp, ↓GW.c_neappt, ↓GW.c_eqapp, ↓GW.c_eqappt, ↓GW.bi_all, ↓GW.bi_any, ↓GW.zp_t', ↓GW.zp_l', ↓GW.c_eqnilt, ↓GW.b_mull, ↓GW.tq_wait_wait, ↓GW.tq_wait_go, ↓GW.tq_wait_by, ↓GW.tq_wait_then, ↓GW.tq_wait_again, ↓GW.tn_wait, ↓GW.tw_wait, ↓GW.ti_wait, ↓GW.tq_go_wait, ↓GW.tq_go_go, ↓GW.tq_go_by, ↓GW.tq_go_then, ↓GW.tq_go_again, ↓GW.tn_go, ↓GW.tw_go, ↓GW.ti_go, ↓GW.tq_by_wait, ↓GW.tq_by_go, ↓GW.tq_by_by, ↓GW.tq_by_then, ↓GW.tq_by_again, ↓GW.tn_by, ↓GW.tw_by, ↓GW.ti_by, ↓GW.tq_then_wait, ↓GW.tq_then_go, ↓GW.tq_then_by, ↓GW.tq_then_then, ↓GW.tq_then_again, ↓GW.tn_then, ↓GW.tw_then, ↓GW.ti_then, ↓GW.tq_again_wait, ↓GW.tq_again_go, ↓GW.tq_again_by, ↓GW.tq_again_then, ↓GW.tq_again_again, ↓GW.tn_again, ↓GW.tw_again, ↓GW.ti_again, ↓GW.nf_scr, ↓GW.c_eqscr, ↓GW.it_scr, ↓GW.b_pow4, ↓GW.b_pow5, ↓we_int, ↓we_bl, ↓we_non, ↓we_str, ↓we_tup, ↓we_lst, ↓wl_nil, ↓wl_cons, ↓we_bin, ↓we_cmp, ↓we_chain, ↓we_ix, ↓we_neg, ↓we_nt, ↓we_ife, ↓we_conj, ↓we_disj, ↓wa_nil, ↓wo_nil, ↓wa_cons, ↓wo_cons, ↓we_call, ↓we_bi, ↓we_isi, ↓we_rev, ↓we_sl, ↓we_mt, ↓we_bop, ↓we_rng, ↓we_zip, ↓we_enum, ↓we_gix, ↓we_glo, ↓ws_nil, ↓ws_set, ↓ws_exp, ↓ws_ret, ↓ws_retN, ↓ws_raise, ↓ws_pass, ↓ws_asgT, ↓ws_par, ↓ws_ite, ↓ws_try, ↓ws_whl, ↓th_nx, ↓th_rt, ↓th_exn, ↓th_bk, ↓th_ct, ↓tk_nx, ↓tk_rt, ↓nf_f, ↓nf_l, ↓nf_i, ↓nf_b, ↓nf_t, ↓nf_n, ↓nf_s, ↓nf_x, ↓br_t, ↓br_f, ↓br_n, ↓ov_s, ↓cw_o, ↓cw_e, ↓wv0, ↓wo0, ↓wm0, ↓wn0, ↓se0f, ↓se0o, ↓sx0, ↓pk0f, ↓pk0o, ↓po0, ↓wv1, ↓wo1, ↓wm1, ↓wn1, ↓se1f, ↓se1o, ↓sx1, ↓pk1f, ↓pk1o, ↓po1, ↓wv2, ↓wo2, ↓wm2, ↓wn2, ↓se2f, ↓se2o, ↓sx2, ↓pk2f, ↓pk2o, ↓po2, ↓wv3, ↓wo3, ↓wm3, ↓wn3, ↓se3f, ↓se3o, ↓sx3, ↓pk3f, ↓pk3o, ↓po3, ↓wv4, ↓wo4, ↓wm4, ↓wn4, ↓se4f, ↓se4o, ↓sx4, ↓pk4f, ↓pk4o, ↓po4, ↓wv5, ↓wo5, ↓wm5, ↓wn5, ↓se5f, ↓se5o, ↓sx5, ↓pk5f, ↓pk5o, ↓po5, ↓wv6, ↓wo6, ↓wm6, ↓wn6, ↓se6f, ↓se6o, ↓sx6, ↓pk6f, ↓pk6o, ↓po6, ↓wv7, ↓wo7, ↓wm7, ↓wn7, ↓se7f, ↓se7o, ↓sx7, ↓pk7f, ↓pk7o, ↓po7, ↓wv8, ↓wo8, ↓wm8, ↓wn8, ↓se8f, ↓se8o, ↓sx8, ↓pk8f, ↓pk8o, ↓po8, ↓wv9, ↓wo9, ↓wm9, ↓wn9, ↓se9f, ↓se9o, ↓sx9, ↓pk9f, ↓pk9o, ↓po9, ↓wv10, ↓wo10, ↓wm10, ↓wn10, ↓se10f, ↓se10o, ↓sx10, ↓pk10f, ↓pk10o, ↓po10, ↓wv11, ↓wo11, ↓wm11, ↓wn11, ↓se11f, ↓se11o, ↓sx11, ↓pk11f, ↓pk11o, ↓po11, ↓wv12, ↓wo12, ↓wm12, ↓wn12, ↓se12f, ↓se12o, ↓sx12, ↓pk12f, ↓pk12o, ↓po12, ↓wv13, ↓wo13, ↓wm13, ↓wn13, ↓se13f, ↓se13o, ↓sx13, ↓pk13f, ↓pk13o, ↓po13, ↓wv14, ↓wo14, ↓wm14, ↓wn14, ↓se14f, ↓se14o, ↓sx14, ↓pk14f, ↓pk14o, ↓po14, ↓wv15, ↓wo15, ↓wm15, ↓wn15, ↓se15f, ↓se15o, ↓sx15, ↓pk15f, ↓pk15o, ↓po15, ↓wv16, ↓wo16, ↓wm16, ↓wn16, ↓se16f, ↓se16o, ↓sx16, ↓pk16f, ↓pk16o, ↓po16, ↓wv17, ↓wo17, ↓wm17, ↓wn17, ↓se17f, ↓se17o, ↓sx17, ↓pk17f, ↓pk17o, ↓po17, ↓wv18, ↓wo18, ↓wm18, ↓wn18, ↓se18f, ↓se18o, ↓sx18, ↓pk18f, ↓pk18o, ↓po18, ↓wv19, ↓wo19, ↓wm19, ↓wn19, ↓se19f, ↓se19o, ↓sx19, ↓pk19f, ↓pk19o, ↓po19, ↓wv20, ↓wo20, ↓wm20, ↓wn20, ↓se20f, ↓se20o, ↓sx20, ↓pk20f, ↓pk20o, ↓po20, ↓wv21, ↓wo21, ↓wm21, ↓wn21, ↓se21f, ↓se21o, ↓sx21, ↓pk21f, ↓pk21o, ↓po21, ↓wv22, ↓wo22, ↓wm22, ↓wn22, ↓se22f, ↓se22o, ↓sx22, ↓pk22f, ↓pk22o, ↓po22, ↓wv23, ↓wo23, ↓wm23, ↓wn23, ↓se23f, ↓se23o, ↓sx23, ↓pk23f, ↓pk23o, ↓po23, ↓wv24, ↓wo24, ↓wm24, ↓wn24, ↓se24f, ↓se24o, ↓sx24, ↓pk24f, ↓pk24o, ↓po24, ↓wv25, ↓wo25, ↓wm25, ↓wn25, ↓se25f, ↓se25o, ↓sx25, ↓pk25f, ↓pk25o, ↓po25, ↓ses_n, ↓ses_c, ↓sep_n, ↓sep_c, ↓ws_appn, ↓ws_extn, ↓b_add, ↓b_addl, ↓b_addt, ↓b_sub, ↓b_mul, ↓b_fdiv, ↓b_mod, ↓c_lt, ↓c_le, ↓c_gt, ↓c_ge, ↓c_eq, ↓c_ne, ↓is_n, ↓isn_n, ↓is_b, ↓isn_b, ↓is_i, ↓isn_i, ↓is_s, ↓isn_s, ↓is_t, ↓isn_t, ↓is_l, ↓isn_l, ↓is_x, ↓isn_x, ↓isn_bb, ↓is_bb, ↓ix_tup0, ↓ix_lst0, ↓ix_tup1, ↓ix_lst1, ↓ix_tup2, ↓ix_lst2, ↓ix_tup3, ↓ix_lst3, ↓ix_tup4, ↓ix_lst4, ↓ix_tup5, ↓ix_lst5, ↓ix_tup6, ↓ix_lst6, ↓ix_tup7, ↓ix_lst7, ↓ix_tup8, ↓ix_lst8, ↓ix_tup9, ↓ix_lst9, ↓ix_tup10, ↓ix_lst10, ↓ix_tup11, ↓ix_lst11, ↓ix_tup12, ↓ix_lst12, ↓ix_tup13, ↓ix_lst13, ↓ix_tup14, ↓ix_lst14, ↓ix_tup15, ↓ix_lst15, ↓ng, ↓up_t, ↓up_l, ↓it_t, ↓it_l, ↓ls_l, ↓pt_n, ↓pt_i, ↓rg1, ↓rg2, ↓bi_lenl, ↓bi_lent, ↓bi_abs, ↓bi_lil, ↓bi_lit, ↓bi_tul, ↓bi_tut, ↓rv_l, ↓ii_non_int, ↓ii_non_bool, ↓ii_non_str, ↓ii_non_tuple, ↓ii_non_list, ↓ii_bl_int, ↓ii_bl_bool, ↓ii_bl_str, ↓ii_bl_tuple, ↓ii_bl_list, ↓ii_int_int, ↓ii_int_bool, ↓ii_int_str, ↓ii_int_tuple, ↓ii_int_list, ↓ii_str_int, ↓ii_str_bool, ↓ii_str_str, ↓ii_str_tuple, ↓ii_str_list, ↓ii_tup_int, ↓ii_tup_bool, ↓ii_tup_str, ↓ii_tup_tuple, ↓ii_tup_list, ↓ii_lst_int, ↓ii_lst_bool, ↓ii_lst_str, ↓ii_lst_tuple, ↓ii_lst_list, ↓nf_fr, ↓ix_fr0, ↓ix_fr1, ↓ii_fr_t, ↓len_fr, ↓c_eqfr, ↓c_nefr, ↓c_eqfrs, ↓c_nefrs, ↓c_eqbs, ↓c_nebs, ↓we_fz, ↓ws_asgs, ↓wlo_nil, ↓wlo_cons, ↓pv_n, ↓pv_c, ↓ri_rt, ↓ri_nx, ↓ri_ex, ↓ri_rx, ↓ri_xr, ↓gd_nx, ↓gd_rt, ↓gd_ex, ↓ok_rt, ↓ws_forW, ↓ws_brk, ↓ws_cont, ↓lq_nx, ↓lq_ct, ↓lq_bk, ↓lq_rt, ↓lq_exn, ↓iq_nx, ↓iq_ct, ↓iq_bk, ↓iq_rt, ↓iq_exn, ↓st_n, ↓st_t, ↓sts_n, ↓sts_c, ↓we_lc, ↓now_n, ↓now_c, ↓gs_0, ↓gs_s, ↓io_f, ↓io_n, ↓wp_n, ↓wp_c, ↓ck_even, ↓cn_even, ↓ck_in, ↓cn_in, ↓ck_out, ↓cn_out, ↓ck_both, ↓cn_both, ↓ck_hold, ↓cn_hold, ↓ck_jump, ↓cn_jump, ↓ck_kept, ↓cn_kept, ↓ci_hj, ↓cj_hj, ↓ci_bk, ↓cj_bk, ↓ci_kinds, ↓cj_kinds, ↓gx_turn, ↓up_fr, ↓ok_i, ↓ok_ii, ↓turn_turn, ↓sl_t, ↓sl_l, ↓cut_h1, ↓cut_l1, ↓cut_h2, ↓cut_l2, ↓cut_h3, ↓cut_l3, ↓cut_h4, ↓cut_l4, ↓cut_h5, ↓cut_l5, ↓cut_2_4, ↓r_nn, ↓c_eqself, ↓c_neself, ↓br_T, ↓br_F, ↓lit01, ↓lit11, ↓lit21, ↓lit31, ↓lit41, ↓lit61, ↓lit12, ↓lit32, decide_eq_true_eq, decide_eq_false_iff_not, Bool.not_eq_true', Bool.not_eq_false', true_and, and_true, and_self, true_implies, false_implies, implies_true, forall_const, not_true_eq_false, not_false_eq_true, Bool.not_true, Bool.not_false, decide_true, decide_false, reduceCtorEq, List.cons_append, List.nil_append, List.append_assoc, not_false_iff, eq_self, Tg.slots, GW.ld, GW.ld2, GW.p2_fr, List.length_cons, List.length_nil, List.all_cons, List.all_nil, Bool.and_self, GW.bq_tt, GW.bq_ff, GW.bq_tf, GW.bq_ft, GW.cut_tail, List.map_append, List.map_cons, List.map_nil, List.length_map, List.length_append, GW.pair_tup, GW.al_t, GW.lit_m99, GW.dT, GW.fr_intN])
namespace Gk54
open GW
section
variable {n : Nat} {ρ : Env} {K : D → Bool → Env → Prop} {X : Nat → Env → Prop} {ns : List Int} {x c : Rat} {ix ic : Nat} [SzLe x ix] [SzLe c ic]
theorem rn_slower {z : Nat} (hz : z + ic ≤ 6000) : ∀ {d : Nat} {p : Pn}, PnZ z d p → ∀ (n : Nat), d + 4 ≤ n → run G n i_slower .non [dP p, fr c] = .ok (dP (slP c p)) false .non
  | 0, _, h, _, _ => h.elim
  | d + 1, .wait s, h, n, h3 => by
    obtain ⟨n, rfl⟩ : ∃ m, n = m + 1 := ⟨n - 1, by omega⟩
    refine en_slower ?_
    unfold F_slower
    show WS _ _ [.fz (.tup [.str "wait", fr s]), _] (RI (.ok (.tup [.str "wait", fr (s * c)]) false .non))
    obtain ⟨g1, g2⟩ := h
    walk_at "e1"
  | d + 1, .go false w s k, h, n, h3 => by
    obtain ⟨n, rfl⟩ : ∃ m, n = m + 1 := ⟨n - 1, by omega⟩
    refine en_slower ?_
    unfold F_slower
    show WS _ _ [.fz (.tup [.str "go", fr w, fr s, .str (kS k)]), _] (RI (.ok (.tup [.str "go", fr w, fr (s * c), .str (kS k)]) false .non))
    obtain ⟨g1, g2, g3, g4⟩ := h
    walk_at "e1"
  | d + 1, .go true w s k, h, n, h3 => by
    obtain ⟨n, rfl⟩ : ∃ m, n = m + 1 := ⟨n - 1, by omega⟩
    refine en_slower ?_
    unfold F_slower
    show WS _ _ [.fz (.tup [.str "by", fr w, fr s, .str (kS k)]), _] (RI (.ok (.tup [.str "by", fr w, fr (s * c), .str (kS k)]) false .non))
    obtain ⟨g1, g2, g3, g4⟩ := h
    walk_at "e1"
  | d + 1, .thn p q, h, n, h3 => by
    obtain ⟨n, rfl⟩ : ∃ m, n = m + 1 := ⟨n - 1, by omega⟩
    refine en_slower ?_
    unfold F_slower
    show WS _ _ [.fz (.tup [.str "then", dP p, dP q]), _] (RI (.ok (.tup [.str "then", dP (slP c p), dP (slP c q)]) false .non))
    walk_at "e1"
    rw [cw_ok (rn_slower hz h.1 n (by omega))]
    walk_at "e1"
    rw [cw_ok (rn_slower hz h.2 n (by omega))]
    walk_at "e1"
  | d + 1, .again m p, h, n, h3 => by
    obtain ⟨n, rfl⟩ : ∃ m, n = m + 1 := ⟨n - 1, by omega⟩
    refine en_slower ?_
    unfold F_slower
    show WS _ _ [.fz (.tup [.str "again", .int m, dP p]), _] (RI (.ok (.tup [.str "again", .int m, dP (slP c p)]) false .non))
    walk_at "e1"
    rw [cw_ok (rn_slower hz h.2 n (by omega))]
    walk_at "e1"
end
end Gk54
end

section
open GW in
local macro_rules | `(tactic| walk_at "e1") => `(tactic| simp (maxSteps := 10000000) (disch := (first | assumption | omega | decide)) only [↓Gk54.gl_KINDS, ↓Gk54.gl_NONE, ↓Gk54.gl_STILL, ↓Gk54.gl_DEEPEST, ↓Gk54.gl_MOST, ↓Gk54.cv_tk0_0, ↓Gk54.cv_tk1_1, ↓Gk54.cv_tk1_0, ↓Gk54.cv_tk2_2, ↓Gk54.cv_tk2_0, ↓Gk54.cw_is_whole, ↓Gk54.cw_divisor, ↓Gk54.cw__law_divisor, ↓Gk54.cw_plus, ↓Gk54.cw_times, ↓Gk54.cw__law_plus, ↓Gk54.cw__law_minus, ↓Gk54.cw__law_times, ↓Gk54.cw__law_over, ↓Gk54.cw_is_less, ↓Gk54.cw__law_less, ↓Gk54.cw__law_pick, ↓Gk54.cw__law_frac, ↓Gk54.cw__law_size, ↓Gk54.cw__law_kind, ↓Gk54.cw__law_made, ↓Gk54.cw_frac, ↓Gk54.cv_is_whole, ↓Gk54.cv_divisor, ↓Gk54.cw_is_frac, ↓Gk54.cw_is_size, ↓Gk54.cw_is_kind, ↓GW.is_fr, ↓GW.isn_fr, ↓GW.bo_ix, ↓GW.b_pow6, ↓GW.bi_sort, ↓GW.b_mul3, ↓GW.ix_last, ↓GW.ix_lastt, ↓GW.bo_ne, ↓GW.bo_eq, ↓GW.bo_in, ↓GW.bo_nin, ↓GW.bo_len, ↓GW.c_neapp, ↓GW.c_neappt, ↓GW.c_eqapp, ↓GW.c_eqappt, ↓GW.bi_all, ↓GW.bi_any, ↓GW.zp_t', ↓GW.zp_l', ↓GW.c_eqnilt, ↓GW.b_mull, ↓GW.tq_wait_wait, ↓GW.tq_wait_go, ↓GW.tq_wait_by, ↓GW.tq_wait_then, ↓GW.tq_wait_again, ↓GW.tn_wait, ↓GW.tw_wait, ↓GW.ti_wait, ↓GW.tq_go_wait, ↓GW.tq_go_go, ↓GW.tq_go_by, ↓GW.tq_go_then, ↓GW.tq_go_again, ↓GW.tn_go, ↓GW.tw_go, ↓GW.ti_go, ↓GW.tq_by_wait, ↓GW.tq_by_go, ↓GW.tq_by_by, ↓GW.tq_by_then, ↓GW.tq_by_again, ↓GW.tn_by, ↓GW.tw_by, ↓GW.ti_by, ↓GW.tq_then_wait, ↓GW.tq_then_go, ↓GW.tq_then_by, ↓GW.tq_then_then, ↓GW.tq_then_again, ↓GW.tn_then, ↓GW.tw_then, ↓GW.ti_then, ↓GW.tq_again_wait, ↓GW.tq_again_go, ↓GW.tq_again_by, ↓GW.tq_again_then, ↓GW.tq_again_again, ↓GW.tn_again, ↓GW.tw_again, ↓GW.ti_again, ↓GW.nf_scr, ↓GW.c_eqscr, ↓GW.it_scr, ↓GW.b_pow4, ↓GW.b_pow5, ↓GW.en_l, ↓GW.bi_srs, ↓GW.c_nenl, ↓GW.c_nenn, ↓we_int, ↓we_bl, ↓we_non, ↓we_str, ↓we_tup, ↓we_lst, ↓wl_nil, ↓wl_cons, ↓we_bin, ↓we_cmp, ↓we_chain, ↓we_ix, ↓we_neg, ↓we_nt, ↓we_ife, ↓we_conj, ↓we_disj, ↓wa_nil, ↓wo_nil, ↓wa_cons, ↓wo_cons, ↓we_call, ↓we_bi, ↓we_isi, ↓we_rev, ↓we_sl, ↓we_mt, ↓we_bop, ↓we_rng, ↓we_zip, ↓we_enum, ↓we_gix, ↓we_glo, ↓ws_nil, ↓ws_set, ↓ws_exp, ↓ws_ret, ↓ws_retN, ↓ws_raise, ↓ws_pass, ↓ws_asgT, ↓ws_par, ↓ws_ite, ↓ws_try, ↓ws_whl, ↓th_nx, ↓th_rt, ↓th_exn, ↓th_bk, ↓th_ct, ↓tk_nx, ↓tk_rt, ↓nf_f, ↓nf_l, ↓nf_i, ↓nf_b, ↓nf_t, ↓nf_n, ↓nf_s, ↓nf_x, ↓br_t, ↓br_f, ↓br_n, ↓ov_s, ↓cw_o, ↓cw_e, ↓wv0, ↓wo0, ↓wm0, ↓wn0, ↓se0f, ↓se0o, ↓sx0, ↓pk0f, ↓pk0o, ↓po0, ↓wv1, ↓wo1, ↓wm1, ↓wn1, ↓se1f, ↓se1o, ↓sx1, ↓pk1f, ↓pk1o, ↓po1, ↓wv2, ↓wo2, ↓wm2, ↓wn2, ↓se2f, ↓se2o, ↓sx2, ↓pk2f, ↓pk2o, ↓po2, ↓wv3, ↓wo3, ↓wm3, ↓wn3, ↓se3f, ↓se3o, ↓sx3, ↓pk3f, ↓pk3o, ↓po3, ↓wv4, ↓wo4, ↓wm4, ↓wn4, ↓se4f, ↓se4o, ↓sx4, ↓pk4f, ↓pk4o, ↓po4, ↓wv5, ↓wo5, ↓wm5, ↓wn5, ↓se5f, ↓se5o, ↓sx5, ↓pk5f, ↓pk5o, ↓po5, ↓wv6, ↓wo6, ↓wm6, ↓wn6, ↓se6f, ↓se6o, ↓sx6, ↓pk6f, ↓pk6o, ↓po6, ↓wv7, ↓wo7, ↓wm7, ↓wn7, ↓se7f, ↓se7o, ↓sx7, ↓pk7f, ↓pk7o, ↓po7, ↓wv8, ↓wo8, ↓wm8, ↓wn8, ↓se8f, ↓se8o, ↓sx8, ↓pk8f, ↓pk8o, ↓po8, ↓wv9, ↓wo9, ↓wm9, ↓wn9, ↓se9f, ↓se9o, ↓sx9, ↓pk9f, ↓pk9o, ↓po9, ↓wv10, ↓wo10, ↓wm10, ↓wn10, ↓se10f, ↓se10o, ↓sx10, ↓pk10f, ↓pk10o, ↓po10, ↓wv11, ↓wo11, ↓wm11, ↓wn11, ↓se11f, ↓se11o, ↓sx11, ↓pk11f, ↓pk11o, ↓po11, ↓wv12, ↓wo12, ↓wm12, ↓wn12, ↓se12f, ↓se12o, ↓sx12, ↓pk12f, ↓pk12o, ↓po12, ↓wv13, ↓wo13, ↓wm13, ↓wn13, ↓se13f, ↓se13o, ↓sx13, ↓pk13f, ↓pk13o, ↓po13, ↓wv14, ↓wo14, ↓wm14, ↓wn14, ↓se14f, ↓se14o, ↓sx14, ↓pk14f, ↓pk14o, ↓po14, ↓wv15, ↓wo15, ↓wm15, ↓wn15, ↓se15f, ↓se15o, ↓sx15, ↓pk15f, ↓pk15o, ↓po15, ↓wv16, ↓wo16, ↓wm16, ↓wn16, ↓se16f, ↓se16o, ↓sx16, ↓pk16f, ↓pk16o, ↓po16, ↓wv17, ↓wo17, ↓wm17, ↓wn17, ↓se17f, ↓se17o, ↓sx17, ↓pk17f, ↓pk17o, ↓po17, ↓wv18, ↓wo18, ↓wm18, ↓wn18, ↓se18f, ↓se18o, ↓sx18, ↓pk18f, ↓pk18o, ↓po18, ↓wv19, ↓wo19, ↓wm19, ↓wn19, ↓se19f, ↓se19o, ↓sx19, ↓pk19f, ↓pk19o, ↓po19, ↓wv20, ↓wo20, ↓wm20, ↓wn20, ↓se20f, ↓se20o, ↓sx20, ↓pk20f, ↓pk20o, ↓po20, ↓wv21, ↓wo21, ↓wm21, ↓wn21, ↓se21f, ↓se21o, ↓sx21, ↓pk21f, ↓pk21o, ↓po21, ↓wv22, ↓wo22, ↓wm22, ↓wn22, ↓se22f, ↓se22o, ↓sx22, ↓pk22f, ↓pk22o, ↓po22, ↓wv23, ↓wo23, ↓wm23, ↓wn23, ↓se23f, ↓se23o, ↓sx23, ↓pk23f, ↓pk23o, ↓po23, ↓wv24, ↓wo24, ↓wm24, ↓wn24, ↓se24f, ↓se24o, ↓sx24, ↓pk24f, ↓pk24o, ↓po24, ↓wv25, ↓wo25, ↓wm25, ↓wn25, ↓se25f, ↓se25o, ↓sx25, ↓pk25f, ↓pk25o, ↓po25, ↓ses_n, ↓ses_c, ↓sep_n, ↓sep_c, ↓ws_appn, ↓ws_extn, ↓b_add, ↓b_addl, ↓b_addt, ↓b_sub, ↓b_mul, ↓b_fdiv, ↓b_mod, ↓c_lt, ↓c_le, ↓c_gt, ↓c_ge, ↓c_eq, ↓c_ne, ↓is_n, ↓isn_n, ↓is_b, ↓isn_b, ↓is_i, ↓isn_i, ↓is_s, ↓isn_s, ↓is_t, ↓isn_t, ↓is_l, ↓isn_l, ↓is_x, ↓isn_x, ↓isn_bb, ↓is_bb, ↓ix_tup0, ↓ix_lst0, ↓ix_tup1, ↓ix_lst1, ↓ix_tup2, ↓ix_lst2, ↓ix_tup3, ↓ix_lst3, ↓ix_tup4, ↓ix_lst4, ↓ix_tup5, ↓ix_lst5, ↓ix_tup6, ↓ix_lst6, ↓ix_tup7, ↓ix_lst7, ↓ix_tup8, ↓ix_lst8, ↓ix_tup9, ↓ix_lst9, ↓ix_tup10, ↓ix_lst10, ↓ix_tup11, ↓ix_lst11, ↓ix_tup12, ↓ix_lst12, ↓ix_tup13, ↓ix_lst13, ↓ix_tup14, ↓ix_lst14, ↓ix_tup15, ↓ix_lst15, ↓ng, ↓up_t, ↓up_l, ↓it_t, ↓it_l, ↓ls_l, ↓pt_n, ↓pt_i, ↓rg1, ↓rg2, ↓bi_lenl, ↓bi_lent, ↓bi_abs, ↓bi_lil, ↓bi_lit, ↓bi_tul, ↓bi_tut, ↓rv_l, ↓ii_non_int, ↓ii_non_bool, ↓ii_non_str, ↓ii_non_tuple, ↓ii_non_list, ↓ii_bl_int, ↓ii_bl_bool, ↓ii_bl_str, ↓ii_bl_tuple, ↓ii_bl_list, ↓ii_int_int, ↓ii_int_bool, ↓ii_int_str, ↓ii_int_tuple, ↓ii_int_list, ↓ii_str_int, ↓ii_str_bool, ↓ii_str_str, ↓ii_str_tuple, ↓ii_str_list, ↓ii_tup_int, ↓ii_tup_bool, ↓ii_tup_str, ↓ii_tup_tuple, ↓ii_tup_list, ↓ii_lst_int, ↓ii_lst_bool, ↓ii_lst_str, ↓ii_lst_tuple, ↓ii_lst_list, ↓nf_fr, ↓ix_fr0, ↓ix_fr1, ↓ii_fr_t, ↓len_fr, ↓c_eqfr, ↓c_nefr, ↓c_eqfrs, ↓c_nefrs, ↓c_eqbs, ↓c_nebs, ↓we_fz, ↓ws_asgs, ↓wlo_nil, ↓wlo_cons, ↓pv_n, ↓pv_c, ↓ri_rt, ↓ri_nx, ↓ri_ex, ↓ri_rx, ↓ri_xr, ↓gd_nx, ↓gd_rt, ↓gd_ex, ↓ok_rt, ↓ws_forW, ↓ws_brk, ↓ws_cont, ↓lq_nx, ↓lq_ct, ↓lq_bk, ↓lq_rt, ↓lq_exn, ↓iq_nx, ↓iq_ct, ↓iq_bk, ↓iq_rt, ↓iq_exn, ↓st_n, ↓st_t, ↓sts_n, ↓sts_c, ↓we_lc, ↓now_n, ↓now_c, ↓gs_0, ↓gs_s, ↓io_f, ↓io_n, ↓wp_n, ↓wp_c, ↓ck_even, ↓cn_even, ↓ck_in, ↓cn_in, ↓ck_out, ↓cn_out, ↓ck_both, ↓cn_both, ↓ck_hold, ↓cn_hold, ↓ck_jump, ↓cn_jump, ↓ck_kept, ↓cn_kept, ↓ci_hj, ↓cj_hj, ↓ci_bk, ↓cj_bk, ↓ci_kinds, ↓cj_kinds, ↓gx_turn, ↓up_fr, ↓ok_i, ↓ok_ii, ↓turn_turn, ↓sl_t, ↓sl_l, ↓cut_h1, ↓cut_l1, ↓cut_h2, ↓cut_l2, ↓cut_h3, ↓cut_l3, ↓cut_h4, ↓cut_l4, ↓cut_h5, ↓cut_l5, ↓cut_2_4, ↓r_nn, ↓c_eqself, ↓c_neself, ↓br_T, ↓br_F, ↓lit01, ↓lit11, ↓lit21, ↓lit31, ↓lit41, ↓lit61, ↓lit12, ↓lit32, decide_eq_true_eq, decide_eq_false_iff_not, Bool.not_eq_true', Bool.not_eq_false', true_and, and_true, and_self, true_implies, false_implies, implies_true, forall_const, not_true_eq_false, not_false_eq_true, Bool.not_true, Bool.not_false, decide_true, decide_false, reduceCtorEq, List.cons_append, List.nil_append, List.append_assoc, not_false_iff, eq_self, Tg.slots, GW.ld, GW.ld2, GW.p2_fr, List.length_cons, List.length_nil, List.all_cons, List.all_nil, Bool.and_self, GW.bq_tt, GW.bq_ff, GW.bq_tf, GW.bq_ft, GW.cut_tail, List.map_append, List.map_cons, List.map_nil, List.length_map, List.length_append, GW.pair_tup, GW.al_t, GW.lit_m99, GW.dT, GW.fr_intN, GW.dP, GW.optN, List.head?_nil, List.head?_cons, List.map_nil])
namespace Gk54
open GW
theorem law_ok (ns : List Int) (ok : ScOk ns) : run G 60 i_law .non [scr ns] = .ok (.bl true) false .non := by
  refine en_law (n := 59) ?_
  unfold F_law
  have hp := plan_ok ns 2 100
  have lp := plan_len ns 2 100
  have r1 : run G 59 i__law_plan .non [scr ns, .int 100, .int 3] = .ok (dP (planV ns 2 100)) false .non := rn__law_plan ok 2 100 59 (by decide) (by decide) (by decide)
  generalize planV ns 2 100 = p at *
  have hs := steps_ok hp
  have r2 := rn__law_steps hp (by decide) 59 (by decide)
  have r3 := rn_size_of hp (by decide) 59 (by decide)
  walk_at "e1"
  rw [cw_ok r1]
  walk_at "e1"
  rw [cw_ok r2]
  walk_at "e1"
  have gb : Gr 12 72 (fracV ns 0) := frac_gr ns 0
  have sb : SzLe (fracV ns 0) 7 := gb.sz (by decide) (by decide) (by decide)
  generalize fracV ns 0 = b at *
  have sE : ∀ i, i ≤ (stepsP p).length → SzLe (enL b ((stepsP p).take i)) 80 := fun i hi => szz (eL_sz (by decide) sb hs hi) (by
    have : (stepsP p).length ≤ 9 := lp
    omega)
  refine wf_inv (fun i ρ => ∃ s6 : Sl, isOw s6 = false ∧ ρ = [.fz (scr ns), .fz (dP p), .fz (fr b), .fz (.lst ((stepsP p).map dP)), .ow (.lst ((cuL b ((stepsP p).take i)).map fr)), .fz (fr (enL b ((stepsP p).take i))), s6, .no, .no, .no, .no, .no, .no, .no, .no, .no, .no, .no, .no]) ⟨_, rfl, rfl⟩ ?_ ?_
  · rintro i d' ρ hd' ⟨s6, h6, rfl⟩
    obtain ⟨q, hq, rfl⟩ := map_get hd'
    have hi := (List.getElem?_eq_some_iff.mp hq).1
    obtain ⟨h1, h2⟩ := hs q (List.mem_of_getElem? hq)
    have s1 := sE i (Nat.le_of_lt hi)
    have s2 : SzLe (sizeP q) 6 := step_sz h1 h2
    rw [cu_take hq, eL_take hq, List.map_append]
    generalize enL b ((stepsP p).take i) = A at *
    have hl : (cuL b ((stepsP p).take i)).length < lineD := by
      rw [cu_len, List.length_take]
      have : (stepsP p).length ≤ 9 := lp
      unfold lineD
      omega
    cases q with
    | wait s =>
      have s3 : SzLe s 6 := s2
      walk_at "e1"
      refine ⟨hl, ?_⟩
      exact ⟨_, rfl, rfl⟩
    | go by_ w s k =>
      have s3 : SzLe s 6 := s2
      cases by_
      · walk_at "e1"
        refine ⟨hl, ?_⟩
        exact ⟨_, rfl, rfl⟩
      · walk_at "e1"
        refine ⟨hl, ?_⟩
        exact ⟨_, rfl, rfl⟩
    | thn _ _ => exact h1.elim
    | again _ _ => exact h1.elim
  · rintro ρ ⟨s6, h6, rfl⟩
    rw [List.length_map, List.take_length]
    walk_at "e1"
    have r4 := rn_cues (n := 59) (b := b) (ib := 7) (by decide) hp (by decide) (by decide) (by
      have : (stepsP p).length ≤ 9 := lp
      omega)
    rw [cw_ok r4]
    walk_at "e1"
    have ee : enL b (stepsP p) = b + sizeP p := by rw [eL_sum, size_sum]
    rw [cw_ok r3]
    have sS : SzLe (sizeP p) 124 := sizeP_sz hp
    have s00 : SzLe (0 : Rat) 6 := szz (i := 1) inferInstance (by decide)
    have sE' : SzLe (b + sizeP p) 80 := by
      have h := sE (stepsP p).length (Nat.le_refl _)
      rwa [List.take_length, ee] at h
    rw [ee]
    walk_at "e1"
    have ln9 : (stepsP p).length ≤ 9 := lp
    refine ⟨by rw [List.length_tail, cu_len]; unfold lineD; omega, ?_⟩
    refine wf_inv (fun i ρ => ∃ s9 s10 s11 : Sl, isOw s10 = false ∧ ρ = [.fz (scr ns), .fz (dP p), .fz (fr b), .fz (.lst ((stepsP p).map dP)), .fz (.lst ((cuL b (stepsP p)).map fr)), .fz (fr (b + sizeP p)), s6, .fz (.lst ((cuL b (stepsP p)).map fr)), .fz (.lst ((cuL b (stepsP p)).tail.map fr ++ [fr (b + sizeP p)])), s9, s10, s11, .no, .no, .no, .no, .no, .no, .no]) ⟨_, _, _, rfl, rfl⟩ ?_ ?_
    · rintro i d ρ hd ⟨s9, s10, s11, h10, rfl⟩
      obtain ⟨hi, rfl⟩ := rng1_get hd
      have hi : i < 5 := hi
      walk_at "e1"
      rw [cw_ok r3]
      have q0 := pick_lo ns (30 + (i : Int)) (m := 9) (by decide)
      have q1 := pick_hi ns (30 + (i : Int)) (m := 9) (by decide)
      have sd : SzLe (Rat.divInt (pickV ns (30 + (i : Int)) 9 - 1) 6) 10 := sz_small (by omega) (by decide)
      walk_at "e1"
      have hcl : (cuL b (stepsP p)).length = (stepsP p).length := cu_len _ _
      rcases Decidable.em ((i : Int) < ((cuL b (stepsP p)).length : Int)) with c1 | c1
      · rcases Decidable.em (Int.fmod (i : Int) 2 = 0) with c2 | c2
        · have c0 : (0 : Int) < ((cuL b (stepsP p)).length : Int) := by omega
          have m0 := pick_lo ns (40 + (i : Int)) c0
          have m1 := pick_hi ns (40 + (i : Int)) c0
          obtain ⟨m, hm⟩ := Int.eq_ofNat_of_zero_le m0
          have hml : m < (stepsP p).length := by omega
          walk_at "e1"
          refine ⟨by decide, ?_⟩
          rw [hm, ix_mapA (cu_get _ _ _ hml)]
          have sx : SzLe (enL b (List.take m (stepsP p))) 300 := szz (sE m (Nat.le_of_lt hml)) (by decide)
          generalize enL b (List.take m (stepsP p)) = x at *
          try (walk_at "e1")
          have rr : (List.map (fun (n : Nat) => D.int n) (List.range ((cuL b (stepsP p)).length : Int).toNat)) = (List.range (stepsP p).length).map fun (n : Nat) => D.int n := by rw [Int.toNat_natCast, hcl]
          rw [rr, col_filt (h := fun (n : Nat) => D.int n) (fun (n : Nat) => D.int n) (onB x b (stepsP p)) fun j hj => lc_f ?_]
          rotate_left
          · have hj := List.mem_range.mp hj
            have g1 := cu_get (stepsP p) b j hj
            have g2 := ends_get (b := b) hj
            have t1 := sE j (Nat.le_of_lt hj)
            have t2 := sE (j + 1) hj
            have eo : onB x b (stepsP p) j = (!decide (x < enL b ((stepsP p).take j)) && decide (x < enL b ((stepsP p).take (j + 1)))) := rfl
            have el : (cuL b (stepsP p)).tail.map fr ++ [fr (b + sizeP p)] = ((cuL b (stepsP p)).drop 1 ++ [enL b (stepsP p)]).map fr := by rw [List.map_append, ee, List.drop_one]; rfl
            rw [el]
            walk_at "e1"
            rw [ix_mapA g1]
            walk_at "e1"
            rcases Decidable.em (x < enL b ((stepsP p).take j)) with z1 | z1
            · rw [eo, decide_eq_true z1]
              walk_at "e1"
              rfl
            · walk_at "e1"
              rw [show (List.map fr (List.drop 1 (cuL b (stepsP p))) ++ [fr (enL b (stepsP p))]) = ((cuL b (stepsP p)).drop 1 ++ [enL b (stepsP p)]).map fr by rw [List.map_append]; rfl, ix_mapA g2]
              walk_at "e1"
              rcases Decidable.em (x < enL b ((stepsP p).take (j + 1))) with z2 | z2
              · rw [eo, decide_eq_false z1, decide_eq_true z2]
                walk_at "e1"
                rfl
              · rw [eo, decide_eq_false z1, decide_eq_false z2]
                walk_at "e1"
                rfl
          walk_at "e1"
          have sA := rn_step_at (n := 59) (b := b) (x := x) (ib := 7) (ix := 300) (by decide) hp (by decide) (by decide) (by omega) (by decide)
          have eA : stepAt x b (stepsP p) = ((List.range (stepsP p).length).filter (onB x b (stepsP p))).head? := rfl
          have lA : ((List.range (stepsP p).length).filter (onB x b (stepsP p))).length ≤ lineD := Nat.le_trans (List.length_filter_le _ _) (by rw [List.length_range]; unfold lineD; omega)
          refine ⟨lA, ?_⟩
          rw [cw_ok sA, eA]
          generalize (List.range (stepsP p).length).filter (onB x b (stepsP p)) = L at *
          cases L with
          | nil =>
            walk_at "e1"
            exact ⟨_, _, _, rfl, rfl⟩
          | cons y L =>
            walk_at "e1"
            exact ⟨_, _, _, rfl, rfl⟩
        · walk_at "e1"
          refine ⟨by decide, ?_⟩
          have sx : SzLe (b + sizeP p * Rat.divInt (pickV ns (30 + (i : Int)) 9 - 1) 6) 300 := szz inferInstance (by decide)
          generalize b + sizeP p * Rat.divInt (pickV ns (30 + (i : Int)) 9 - 1) 6 = x at *
          try (walk_at "e1")
          have rr : (List.map (fun (n : Nat) => D.int n) (List.range ((cuL b (stepsP p)).length : Int).toNat)) = (List.range (stepsP p).length).map fun (n : Nat) => D.int n := by rw [Int.toNat_natCast, hcl]
          rw [rr, col_filt (h := fun (n : Nat) => D.int n) (fun (n : Nat) => D.int n) (onB x b (stepsP p)) fun j hj => lc_f ?_]
          rotate_left
          · have hj := List.mem_range.mp hj
            have g1 := cu_get (stepsP p) b j hj
            have g2 := ends_get (b := b) hj
            have t1 := sE j (Nat.le_of_lt hj)
            have t2 := sE (j + 1) hj
            have eo : onB x b (stepsP p) j = (!decide (x < enL b ((stepsP p).take j)) && decide (x < enL b ((stepsP p).take (j + 1)))) := rfl
            have el : (cuL b (stepsP p)).tail.map fr ++ [fr (b + sizeP p)] = ((cuL b (stepsP p)).drop 1 ++ [enL b (stepsP p)]).map fr := by rw [List.map_append, ee, List.drop_one]; rfl
            rw [el]
            walk_at "e1"
            rw [ix_mapA g1]
            walk_at "e1"
            rcases Decidable.em (x < enL b ((stepsP p).take j)) with z1 | z1
            · rw [eo, decide_eq_true z1]
              walk_at "e1"
              rfl
            · walk_at "e1"
              rw [show (List.map fr (List.drop 1 (cuL b (stepsP p))) ++ [fr (enL b (stepsP p))]) = ((cuL b (stepsP p)).drop 1 ++ [enL b (stepsP p)]).map fr by rw [List.map_append]; rfl, ix_mapA g2]
              walk_at "e1"
              rcases Decidable.em (x < enL b ((stepsP p).take (j + 1))) with z2 | z2
              · rw [eo, decide_eq_false z1, decide_eq_true z2]
                walk_at "e1"
                rfl
              · rw [eo, decide_eq_false z1, decide_eq_false z2]
                walk_at "e1"
                rfl
          walk_at "e1"
          have sA := rn_step_at (n := 59) (b := b) (x := x) (ib := 7) (ix := 300) (by decide) hp (by decide) (by decide) (by omega) (by decide)
          have eA : stepAt x b (stepsP p) = ((List.range (stepsP p).length).filter (onB x b (stepsP p))).head? := rfl
          have lA : ((List.range (stepsP p).length).filter (onB x b (stepsP p))).length ≤ lineD := Nat.le_trans (List.length_filter_le _ _) (by rw [List.length_range]; unfold lineD; omega)
          refine ⟨lA, ?_⟩
          rw [cw_ok sA, eA]
          generalize (List.range (stepsP p).length).filter (onB x b (stepsP p)) = L at *
          cases L with
          | nil =>
            walk_at "e1"
            exact ⟨_, _, _, rfl, rfl⟩
          | cons y L =>
            walk_at "e1"
            exact ⟨_, _, _, rfl, rfl⟩
      · walk_at "e1"
        have sx : SzLe (b + sizeP p * Rat.divInt (pickV ns (30 + (i : Int)) 9 - 1) 6) 300 := szz inferInstance (by decide)
        generalize b + sizeP p * Rat.divInt (pickV ns (30 + (i : Int)) 9 - 1) 6 = x at *
        try (walk_at "e1")
        have rr : (List.map (fun (n : Nat) => D.int n) (List.range ((cuL b (stepsP p)).length : Int).toNat)) = (List.range (stepsP p).length).map fun (n : Nat) => D.int n := by rw [Int.toNat_natCast, hcl]
        rw [rr, col_filt (h := fun (n : Nat) => D.int n) (fun (n : Nat) => D.int n) (onB x b (stepsP p)) fun j hj => lc_f ?_]
        rotate_left
        · have hj := List.mem_range.mp hj
          have g1 := cu_get (stepsP p) b j hj
          have g2 := ends_get (b := b) hj
          have t1 := sE j (Nat.le_of_lt hj)
          have t2 := sE (j + 1) hj
          have eo : onB x b (stepsP p) j = (!decide (x < enL b ((stepsP p).take j)) && decide (x < enL b ((stepsP p).take (j + 1)))) := rfl
          have el : (cuL b (stepsP p)).tail.map fr ++ [fr (b + sizeP p)] = ((cuL b (stepsP p)).drop 1 ++ [enL b (stepsP p)]).map fr := by rw [List.map_append, ee, List.drop_one]; rfl
          rw [el]
          walk_at "e1"
          rw [ix_mapA g1]
          walk_at "e1"
          rcases Decidable.em (x < enL b ((stepsP p).take j)) with z1 | z1
          · rw [eo, decide_eq_true z1]
            walk_at "e1"
            rfl
          · walk_at "e1"
            rw [show (List.map fr (List.drop 1 (cuL b (stepsP p))) ++ [fr (enL b (stepsP p))]) = ((cuL b (stepsP p)).drop 1 ++ [enL b (stepsP p)]).map fr by rw [List.map_append]; rfl, ix_mapA g2]
            walk_at "e1"
            rcases Decidable.em (x < enL b ((stepsP p).take (j + 1))) with z2 | z2
            · rw [eo, decide_eq_false z1, decide_eq_true z2]
              walk_at "e1"
              rfl
            · rw [eo, decide_eq_false z1, decide_eq_false z2]
              walk_at "e1"
              rfl
        walk_at "e1"
        have sA := rn_step_at (n := 59) (b := b) (x := x) (ib := 7) (ix := 300) (by decide) hp (by decide) (by decide) (by omega) (by decide)
        have eA : stepAt x b (stepsP p) = ((List.range (stepsP p).length).filter (onB x b (stepsP p))).head? := rfl
        have lA : ((List.range (stepsP p).length).filter (onB x b (stepsP p))).length ≤ lineD := Nat.le_trans (List.length_filter_le _ _) (by rw [List.length_range]; unfold lineD; omega)
        refine ⟨lA, ?_⟩
        rw [cw_ok sA, eA]
        generalize (List.range (stepsP p).length).filter (onB x b (stepsP p)) = L at *
        cases L with
        | nil =>
          walk_at "e1"
          exact ⟨_, _, _, rfl, rfl⟩
        | cons y L =>
          walk_at "e1"
          exact ⟨_, _, _, rfl, rfl⟩
    · rintro ρ ⟨s9, s10, s11, h10, rfl⟩
      walk_at "e1"
      have r5 := rn_played (n := 59) (w := 0) (b := b) (iw := 6) (ib := 7) (by decide) hp (by decide) (by decide) (by decide) (by omega) (by omega)
      rw [cw_ok r5]
      walk_at "e1"
      rw [col_map (h := dM) (fun m => fr m.t) fun m hm => lc_f ?_]
      rotate_left
      · walk_at "e1"
      walk_at "e1"
      have mcu := made_cues (b := b) (w := 0) (l := stepsP p) fun q hq => (hs q hq).1
      have lm : (stF 0 b (stepsP p)).made.length ≤ 9 := Nat.le_trans (stOk_all (z := 6) (iw := 6) (ib := 7) (w := 0) (b := b) (by decide) (by decide) s00 sb hs).len ln9
      refine ⟨by unfold lineD; omega, ⟨h10, h6⟩, ?_⟩
      have ezw : List.zipWith pairD (List.map fr (cuL b (stepsP p))) (List.map dP (stepsP p)) = ((cuL b (stepsP p)).zip (stepsP p)).map fun q => .tup [fr q.1, dP q.2] := by
        rw [List.zipWith_map, List.zip, List.map_zipWith]
        rfl
      rw [ezw, col_filt (h := fun q : Rat × Pn => .tup [fr q.1, dP q.2]) (fun q => fr q.1) (fun q => !isWt q.2) fun q hq => lc_f ?_]
      rotate_left
      · have hq2 := (List.of_mem_zip hq).2
        obtain ⟨x, q⟩ := q
        obtain ⟨h1, h2⟩ := hs q hq2
        cases q with
        | wait s =>
          walk_at "e1"
          rfl
        | go by_ w s k =>
          cases by_
          · walk_at "e1"
            rfl
          · walk_at "e1"
            rfl
        | thn _ _ => exact h1.elim
        | again _ _ => exact h1.elim
      have lz : (((cuL b (stepsP p)).zip (stepsP p)).filter fun q => !isWt q.2).length ≤ lineD := Nat.le_trans (List.length_filter_le _ _) (by rw [List.length_zip, cu_len]; unfold lineD; omega)
      have e13 : (stF 0 b (stepsP p)).made.map (fun m => fr m.t) = (((cuL b (stepsP p)).zip (stepsP p)).filter fun q => !isWt q.2).map fun q => fr q.1 := by
        have := congrArg (List.map fr) mcu
        rw [List.map_map, List.map_map] at this
        exact this
      rw [e13]
      walk_at "e1"
      refine ⟨lz, ?_⟩
      have sE2 := rn_step_at (n := 59) (b := b) (x := b + sizeP p) (ib := 7) (ix := 80) (by decide) hp (by decide) (by decide) (by omega) (by decide)
      have sE3 : stepAt (b + sizeP p) b (stepsP p) = none := by
        have := stepAt_end (b := b) (l := stepsP p) fun q hq => step_pos (hs q hq).1 (hs q hq).2
        rwa [ee] at this
      rw [sE3] at sE2
      rw [cw_ok sE2]
      walk_at "e1"
      refine ⟨h6, ?_⟩
      rw [col_map (h := dP) (fun q => .str (wordP q)) fun q hq => lc_f ?_]
      rotate_left
      · obtain ⟨h1, h2⟩ := hs q hq
        cases q with
        | wait s =>
          walk_at "e1"
          rfl
        | go by_ w s k =>
          cases by_
          · walk_at "e1"
            rfl
          · walk_at "e1"
            rfl
        | thn _ _ => exact h1.elim
        | again _ _ => exact h1.elim
      have rk := rn_kinds_used (n := 59) hp (by decide) (by decide) (by decide) (by omega)
      have ekd : kindsD (stepsP p) = .lst ((sortX (nub ((stepsP p).map wordP))).map fun w => .tup [.str w, .int (countW w ((stepsP p).map wordP) : Nat)]) := rfl
      have dqk : Dq (.lst ((sortX (nub ((stepsP p).map wordP))).map fun w => .tup [.str w, .int (countW w ((stepsP p).map wordP) : Nat)])) 3 := kinds_dq (l := stepsP p)
      rw [ekd] at rk
      have em : (stepsP p).map (fun q => D.str (wordP q)) = ((stepsP p).map wordP).map .str := by rw [List.map_map]; rfl
      rw [em]
      have hw := words_ok (stepsP p)
      have hlw : ((stepsP p).map wordP).length < 64 := by rw [List.length_map]; omega
      have hns : ∀ w ∈ sortX (nub ((stepsP p).map wordP)), PySem.PyData.strOk w = true := sortX_okk fun w hw' => hw w (mem_nub.mp hw')
      walk_at "e1"
      rw [cw_ok rk]
      walk_at "e1"
      rw [col_map (h := D.str) (fun w => .tup [.str w, .int (countW w ((stepsP p).map wordP) : Nat)]) fun w hw' => lc_f ?_]
      rotate_left
      · walk_at "e1"
        refine ⟨rfl, ?_⟩
        rw [mt_countS (hns w hw') hw]
        walk_at "e1"
      have lk : (sortX (nub ((stepsP p).map wordP))).length ≤ lineD := by
        rw [sortX_len]
        have := nub_len ((stepsP p).map wordP)
        unfold lineD
        omega
      have hc := size_pos ns 20
      have sc : SzLe (sizeV ns 20) 6 := inferInstance
      walk_at "e1"
      refine ⟨lk, h10, ?_⟩
      generalize sizeV ns 20 = c at *
      rw [col_map (h := fr) (fun y => fr (b + c * (y - b))) fun y hy => lc_f ?_]
      rotate_left
      · obtain ⟨j, hj, ey⟩ := cu_mem hy
        have sy : SzLe y 80 := by
          rw [ey]
          exact sE j (Nat.le_of_lt hj)
        walk_at "e1"
      have rs := rn_slower (c := c) (by decide) hp 59 (by decide)
      have hps := slP_ok (c := c) hc hp
      have ssl : stepsP (slP c p) = (stepsP p).map (slP c) := slP_steps p
      have lsl : (stepsP (slP c p)).length = (stepsP p).length := by rw [ssl, List.length_map]
      have rc := rn_cues (n := 59) (b := b) (ib := 7) (by decide) hps (by decide) (by decide) (by rw [lsl]; omega)
      have ecs : cuL b (stepsP (slP c p)) = (cuL b (stepsP p)).map fun y => b + c * (y - b) := by
        have := cu_slow (b := b) (c := c) (stepsP p) b
        rw [ssl]
        rw [show b + c * (b - b) = b by grind] at this
        exact this
      rw [ecs, List.map_map] at rc
      have rc : run G 59 i_cues .non [dP (slP c p), fr b] = .ok (.lst ((cuL b (stepsP p)).map fun y => fr (b + c * (y - b)))) true .non := rc
      have rk2 := rn_kinds_used (n := 59) hps (by decide) (by decide) (by decide) (by rw [lsl]; omega)
      rw [ssl, kinds_sl, ekd] at rk2
      walk_at "e1"
      refine ⟨by rw [cu_len]; unfold lineD; omega, ?_⟩
      rw [cw_ok rs]
      walk_at "e1"
      rw [cw_ok rc]
      walk_at "e1"
      rw [cw_ok rs]
      walk_at "e1"
      rw [cw_ok rk2]
      walk_at "e1"
      rw [cw_ok rk]
      walk_at "e1"
end Gk54
end

section
open PySem PySem.W PyProof.Rows
theorem PySem.Challenge.cw_glideways_k54_whole_cues_holds : PySem.Challenge.rw_glideways_k54_whole_cues.Holds :=
  Gk54.holds fun ns hl hb => ⟨false, Gk54.law_ok ns ⟨hl, fun z h => Nat.le_trans (hb z h) (by decide)⟩⟩
end
