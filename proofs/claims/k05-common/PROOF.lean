import PyProof.Rows.All
import Wide.All
import OpenK.AllK
import Wide.FinOn
import HandS.ForMost
import HandS.ForExc
import HandS.ExcInit
import HandS.IsInst
import HandS.Gcd
import HandS.Wide
import HandS.WideBits
import HandS.TupAny
import HandS.TupMul
import HandS.Zip
import HandS.Deep
import HandS.Conv
import HandS.SortInts
import HandS.Small
import HandS.EndBits
import KE.DataEq
import KE.GoesEnum
import HandS.More
import HandS.Style
import HandS.Defaults
import HandS.HeadHook4
import HandS.Head3
import HandS.HeadEnd
import PySem.Challenge.RW_wholesigns_k05_whole_common_polynomials
set_option Elab.async false
set_option linter.all false
set_option maxRecDepth 100000
set_option maxHeartbeats 8000000
set_option exponentiation.threshold 200
/-! Part A: a small machine for the part of Python that these laws use: values are data (trees), what is changed in place stands in numbered cells. -/
namespace Pv
open PySem
abbrev D := PyData

/-- what stands in a cell -/
inductive Cell where
  | lst (xs : List D)
  | dct (kvs : List (Str × D))
  | dead
/-- a value: data; a thing in a cell; an exception that was caught (class, what it bears) -/
inductive IV where
  | d (x : D)
  | ref (n : Nat)
  | exc (c : Nat) (x : D)
abbrev W := List Cell
abbrev Sl := List (Option IV)
/-- how an expression ends -/
inductive R (α : Type) where
  | ok (a : α) (w : W)
  | exc (c : Nat) (x : D) (w : W)
  | no
def R.bind {α β : Type} (r : R α) (f : α → W → R β) : R β :=
  match r with
  | .ok a w => f a w
  | .exc c x w => .exc c x w
  | .no => .no
def ofO {α : Type} (o : Option α) (w : W) : R α := match o with
  | some a => .ok a w
  | none => .no

/-- targets -/
inductive Tg where
  | nm (i : Nat)
  | nil
  | cons (a r : Tg)
  | tup (ts : Tg)
/-- built-in functions -/
inductive B where
  | len | int | abs | max | min | sum | all | any | tuple | list | gcd | lcm | isqrt | sorted | str | bool
  deriving DecidableEq
/-- methods of things in cells -/
inductive M where
  | append | insert | pop | popAt | extend
  deriving DecidableEq
/-- built-in types -/
inductive T where
  | int | bool | str | tuple | list | dict
  deriving DecidableEq
inductive Ex where
  | var (i : Nat)
  | frz (i : Nat)
  | cst (x : D)
  | glob (j : Nat)
  | nil
  | cons (a r : Ex)
  | tup (es : Ex)
  | lst (es : Ex)
  | new (a : Ex)
  | dct
  | bin (o : Operator) (a b : Ex)
  | neg (a : Ex)
  | not (a : Ex)
  | and (a b : Ex)
  | or (a b : Ex)
  | ite (c a b : Ex)
  | cmp (o : CmpOp) (a b : Ex)
  | chain (o o' : CmpOp) (a b c : Ex)
  | call (f : Nat) (es : Ex)
  | callk (f : Nat) (es : Ex) (ks : Ex) (perm : List Nat)
  | blt (f : B) (es : Ex)
  | isi (a : Ex) (ts : List T)
  | sub (a i : Ex)
  | sl (a lo hi : Ex)
  | mth (m : M) (a : Ex) (es : Ex)
  | seq (a : Ex)
  | rng (es : Ex)
  | enm (a : Ex)
  | zp (a b : Ex)
  | comp (own : List Nat) (e : Ex) (t : Tg) (it c : Ex)
inductive St where
  | nil
  | cons (s r : St)
  | stuck
  | pass
  | brk
  | cnt
  | expr (e : Ex)
  | ret (e : Ex)
  | retN
  | asg (t : Tg) (e : Ex)
  | par (is : List Nat) (es : Ex)
  | stix (o ix e : Ex)
  | auix (op : Operator) (o ix e : Ex)
  | ifs (c : Ex) (a b : St)
  | for_ (t : Tg) (it : Ex) (b : St)
  | whl (c : Ex) (b : St)
  | rais (c : Nat) (e : Ex)
  | try_ (b : St) (c ei ci : Nat)

/-! ### values -/
def okL (n : Nat) : Bool := decide (n ≤ 16777216)
/-- an int that may be a factor -/
def okI (i : Int) : Bool := decide (i.natAbs.log2 < 60000000)
def okDiv (i j : Int) : Bool := (j != 0) && (decide (j.natAbs.log2 < 9000) || decide (i.natAbs.log2 ≤ j.natAbs.log2 + 4000))
/-- what == takes -/
def okD (x : D) : Bool := x.plain && decide (x.depth ≤ 60)
def binD : Operator → D → D → Option D
  | .Add, .int i, .int j => some (.int (i + j))
  | .Add, .str x, .str y => if okL (x.length + y.length) then some (.str (x ++ y)) else none
  | .Add, .tuple xs, .tuple ys => if okL (xs.length + ys.length) then some (.tuple (xs ++ ys)) else none
  | .Add, .list xs, .list ys => if okL (xs.length + ys.length) then some (.list (xs ++ ys)) else none
  | .Sub, .int i, .int j => some (.int (i - j))
  | .Mult, .int i, .int j => if okI i && okI j then some (.int (i * j)) else none
  | .Mult, .tuple xs, .int k => if decide (xs.length ≤ 1000) && decide (k ≤ 1000) && decide (-1000 ≤ k) then some (.tuple (List.replicate k.toNat xs).flatten) else none
  | .Mult, .list xs, .int k => if decide (xs.length ≤ 1000) && decide (k ≤ 1000) && decide (-1000 ≤ k) then some (.list (List.replicate k.toNat xs).flatten) else none
  | .FloorDiv, .int i, .int j => if okDiv i j then some (.int (i.fdiv j)) else none
  | .Mod, .int i, .int j => if j != 0 then some (.int (i.fmod j)) else none
  | .Pow, .int i, .int j => if decide (0 ≤ j) && decide (j ≤ 1000000) && decide (i.natAbs < 2 ^ 64) then some (.int (i ^ j.toNat)) else none
  | _, _, _ => none
def isIn (x : D) (ys : List D) : Bool := ys.any fun y => PyData.eqv y x
def isNone : D → Bool
  | .none => true
  | _ => false
def cmpD : CmpOp → D → D → Option Bool
  | .Eq, x, y => if okD x && okD y then some (PyData.eqv x y) else none
  | .NotEq, x, y => if okD x && okD y then some (!PyData.eqv x y) else none
  | .Lt, .int i, .int j => some (decide (i < j))
  | .LtE, .int i, .int j => some (decide (i ≤ j))
  | .Gt, .int i, .int j => some (decide (j < i))
  | .GtE, .int i, .int j => some (decide (j ≤ i))
  | .Is, x, .none => some (isNone x)
  | .IsNot, x, .none => some (!isNone x)
  | .In, x, .list ys => if okD x && okD (.list ys) then some (isIn x ys) else none
  | .In, x, .tuple ys => if okD x && okD (.tuple ys) then some (isIn x ys) else none
  | .NotIn, x, .list ys => if okD x && okD (.list ys) then some (!isIn x ys) else none
  | .NotIn, x, .tuple ys => if okD x && okD (.tuple ys) then some (!isIn x ys) else none
  | _, _, _ => none
/-- what a cell holds, as data -/
def rdC : Option Cell → Option D
  | some (.lst xs) => some (.list xs)
  | _ => none
def rd (w : W) : IV → Option D
  | .d x => some x
  | .ref n => rdC w[n]?
  | .exc _ _ => none
def ixN (n : Nat) (i : Int) : Option Nat := if 0 ≤ i then (if i < n then some i.toNat else none) else if -(n : Int) ≤ i then some (i + n).toNat else none
def subD : D → D → Option D
  | .list xs, .int i => (ixN xs.length i).bind fun j => xs[j]?
  | .tuple xs, .int i => (ixN xs.length i).bind fun j => xs[j]?
  | _, _ => none
def partD : Option D → Option (Option Int)
  | none => some none
  | some (.int i) => some (some i)
  | some _ => none
/-- the place that an end of a slice names -/
def clip (n d : Nat) : Option Int → Nat
  | none => d
  | some i => if i < 0 then (if i + n < 0 then 0 else (i + n).toNat) else (if (n : Int) < i then n else i.toNat)
def cut (xs : List D) (lo hi : Option Int) : List D := (xs.drop (clip xs.length 0 lo)).take (clip xs.length xs.length hi - clip xs.length 0 lo)
def slD : D → Option Int → Option Int → Option D
  | .list xs, lo, hi => some (.list (cut xs lo hi))
  | .tuple xs, lo, hi => some (.tuple (cut xs lo hi))
  | _, _, _ => none
/-- what a for walks -/
def itemsD : D → Option (List D)
  | .list xs => some xs
  | .tuple xs => some xs
  | _ => none
def ints? : List D → Option (List Int)
  | [] => some []
  | .int i :: r => (ints? r).map (i :: ·)
  | _ :: _ => none
def bools? : List D → Option (List Bool)
  | [] => some []
  | .bool b :: r => (bools? r).map (b :: ·)
  | _ :: _ => none
def maxL : List Int → Option Int
  | [] => none
  | [i] => some i
  | i :: r => (maxL r).map fun m => if m < i then i else m
def minL : List Int → Option Int
  | [] => none
  | [i] => some i
  | i :: r => (minL r).map fun m => if i < m then i else m
def tyB : D → T → Bool
  | .bool _, .bool => true
  | .bool _, .int => true
  | .int _, .int => true
  | .str _, .str => true
  | .tuple _, .tuple => true
  | .list _, .list => true
  | .dict _, .dict => true
  | _, _ => false
def bltD : B → List D → Option D
  | .len, [.list xs] => some (.int xs.length)
  | .len, [.tuple xs] => some (.int xs.length)
  | .len, [.str x] => if okL x.length then some (.int x.length) else none
  | .int, [.int i] => some (.int i)
  | .int, [.bool b] => some (.int (if b then 1 else 0))
  | .abs, [.int i] => some (.int (if i < 0 then -i else i))
  | .max, [.int i, .int j] => some (.int (if j > i then j else i))
  | .min, [.int i, .int j] => some (.int (if j < i then j else i))
  | .max, [.list xs] => ((ints? xs).bind maxL).map .int
  | .min, [.list xs] => ((ints? xs).bind minL).map .int
  | .sum, [.list xs] => (ints? xs).map fun ns => .int ns.sum
  | .all, [.list xs] => (bools? xs).map fun bs => .bool (bs.all id)
  | .any, [.list xs] => (bools? xs).map fun bs => .bool (bs.any id)
  | .tuple, [.list xs] => some (.tuple xs)
  | .tuple, [.tuple xs] => some (.tuple xs)
  | .list, [.list xs] => some (.list xs)
  | .list, [.tuple xs] => some (.list xs)
  | .gcd, [.int i, .int j] => some (.int ((Nat.gcd i.natAbs j.natAbs : Nat) : Int))
  | .lcm, [.int i, .int j] => if decide (i.natAbs.log2 < 9000) && decide (j.natAbs.log2 < 9000) then some (.int ((Nat.lcm i.natAbs j.natAbs : Nat) : Int)) else none
  | .isqrt, [.int i] => if decide (0 ≤ i) && decide (i.natAbs.log2 < 9000) then some (.int ((Float64.isqrt i.toNat : Nat) : Int)) else none
  | _, _ => none
def rdAll (w : W) : List IV → Option (List D)
  | [] => some []
  | v :: r => (rd w v).bind fun x => (rdAll w r).map (x :: ·)
def rngD : List D → Option (List D)
  | [.int j] => if decide (-4611686018427387904 ≤ j) && decide (j ≤ 16777216) then some ((List.range j.toNat).map fun k => .int (k : Nat)) else none
  | [.int i, .int j] => if decide (-4611686018427387904 ≤ i) && decide (i < 4611686018427387904) && decide (-4611686018427387904 ≤ j) && decide (j < 4611686018427387904) && decide (j - i ≤ 16777216) then some ((List.range (j - i).toNat).map fun (k : Nat) => .int (i + k)) else none
  | _ => none
def enumD (k : Nat) : List D → List D
  | [] => []
  | x :: r => .tuple [.int k, x] :: enumD (k + 1) r
def zipD : List D → List D → List D
  | x :: r, y :: q => .tuple [x, y] :: zipD r q
  | _, _ => []

/-! ### targets, cells -/
mutual
def asgT : Tg → D → Sl → Option Sl
  | .nm i, x, σ => some (σ.set i (some (.d x)))
  | .tup ts, .tuple xs, σ => asgTs ts xs σ
  | _, _, _ => none
def asgTs : Tg → List D → Sl → Option Sl
  | .nil, [], σ => some σ
  | .cons a r, x :: xs, σ => (asgT a x σ).bind fun σ1 => asgTs r xs σ1
  | _, _, _ => none
end
def wip (σ : Sl) : List Nat → Sl
  | [] => σ
  | v :: vs => (wip σ vs).set v none
def slot (σ : Sl) (i : Nat) : Option IV := (σ[i]?).bind id
/-- a slot's list, made data for good -/
def frzW (w : W) : IV → R IV
  | .d x => .ok (.d x) w
  | .ref n => match w[n]? with
    | some (.lst xs) => .ok (.d (.list xs)) (w.set n .dead)
    | _ => .no
  | .exc _ _ => .no
def newW (w : W) : IV → R IV
  | .d (.list xs) => .ok (.ref w.length) (w ++ [.lst xs])
  | _ => .no
def toB : IV → Option Bool
  | .d (.bool b) => some b
  | _ => none
/-- a test's answer -/
def tst {α : Type} (r : R IV) (f : Bool → W → R α) : R α := r.bind fun v w => match toB v with
  | some b => f b w
  | none => .no
/-- read as data -/
def dat {α : Type} (r : R IV) (f : D → W → R α) : R α := r.bind fun v w => match rd w v with
  | some x => f x w
  | none => .no
/-- it is data itself -/
def pur {α : Type} (r : R IV) (f : D → W → R α) : R α := r.bind fun v w => match v with
  | .d x => f x w
  | _ => .no
def purs : List IV → Option (List D)
  | [] => some []
  | .d x :: r => (purs r).map (x :: ·)
  | _ :: _ => none
def stL (xs : List D) (i : D) (v : D) : Option (List D) := match i with
  | .int k => (ixN xs.length k).map fun j => xs.set j v
  | _ => none
def mthW : M → IV → List D → W → R IV
  | .append, .ref n, [x], w => match w[n]? with
    | some (.lst xs) => if decide (xs.length < 16777216) then .ok (.d .none) (w.set n (.lst (xs ++ [x]))) else .no
    | _ => .no
  | .insert, .ref n, [.int i, x], w => match w[n]? with
    | some (.lst xs) => if decide (xs.length < 16777216) && decide (0 ≤ i) && decide (i < 9223372036854775808) then .ok (.d .none) (w.set n (.lst (xs.take i.toNat ++ [x] ++ xs.drop i.toNat))) else .no
    | _ => .no
  | _, _, _, _ => .no
/-- the list of what a turn gives, for each item; nothing may be raised in it -/
def compL (f : D → W → R (Option D)) : List D → W → R (List D)
  | [], w => .ok [] w
  | x :: xs, w => match f x w with
    | .ok o w1 => (compL f xs w1).bind fun ys w2 => .ok (o.toList ++ ys) w2
    | _ => .no
/-- .. over a cell's list as it stands at each turn -/
def compC (f : D → W → R (Option D)) (n : Nat) : Nat → Nat → W → R (List D)
  | 0, _, _ => .no
  | q + 1, k, w => match w[n]? with
    | some (.lst xs) => (match xs[k]? with
      | none => .ok [] w
      | some x => (match f x w with
        | .ok o w1 => (compC f n q (k + 1) w1).bind fun ys w2 => .ok (o.toList ++ ys) w2
        | _ => .no))
    | _ => .no
/-- what is walked -/
inductive It where
  | dat (xs : List D)
  | cel (n : Nat)
/-- around: what calls give, how often a while may turn, the module's constants -/
structure En where
  Φ : Nat → List IV → W → R IV
  q : Nat
  G : Nat → Option D
def toIt (w : W) (v : IV) : Option It := match v with
  | .d x => (itemsD x).map It.dat
  | .ref n => (match w[n]? with
    | some (.lst _) => some (.cel n)
    | _ => none)
  | .exc _ _ => none
def cmpV (o : CmpOp) (w : W) (u v : IV) : Option Bool := match rd w u, rd w v with
  | some x, some y => cmpD o x y
  | none, some .none => (match u, o with
    | .exc _ _, .Is => some false
    | .exc _ _, .IsNot => some true
    | _, _ => none)
  | _, _ => none
def pick (vs : List IV) : List Nat → Option (List IV)
  | [] => some []
  | j :: r => (vs[j]?).bind fun v => (pick vs r).map (v :: ·)
def isiV (w : W) (ts : List T) (v : IV) : Option Bool := (rd w v).map fun x => ts.any (tyB x)
def isLst : Option D → Bool
  | some (.list _) => true
  | _ => false
def isNil : Ex → Bool
  | .nil => true
  | _ => false
mutual
def ev (E : En) : Ex → Sl → W → R IV
  | .var i, σ, w => ofO (slot σ i) w
  | .frz i, σ, w => (ofO (slot σ i) w).bind fun v w => frzW w v
  | .cst x, _, w => .ok (.d x) w
  | .dct, _, w => .ok (.d (.dict [])) w
  | .glob j, _, w => ofO ((E.G j).map IV.d) w
  | .tup es, σ, w => (evA E es σ w).bind fun vs w1 => match purs vs with
    | some xs => if okL xs.length then .ok (.d (.tuple xs)) w1 else .no
    | none => .no
  | .lst es, σ, w => (evA E es σ w).bind fun vs w1 => match purs vs with
    | some xs => if okL xs.length then .ok (.d (.list xs)) w1 else .no
    | none => .no
  | .new a, σ, w => (ev E a σ w).bind fun v w1 => newW w1 v
  | .bin o a b, σ, w => (ev E a σ w).bind fun u w1 => (ev E b σ w1).bind fun v w2 => match rd w2 u, rd w2 v with
    | some x, some y => ofO ((binD o x y).map IV.d) w2
    | _, _ => .no
  | .neg a, σ, w => (ev E a σ w).bind fun v w1 => match v with
    | .d (.int i) => .ok (.d (.int (-i))) w1
    | _ => .no
  | .not a, σ, w => tst (ev E a σ w) fun b w1 => .ok (.d (.bool (!b))) w1
  | .and a b, σ, w => tst (ev E a σ w) fun c w1 => if c then ev E b σ w1 else .ok (.d (.bool false)) w1
  | .or a b, σ, w => tst (ev E a σ w) fun c w1 => if c then .ok (.d (.bool true)) w1 else ev E b σ w1
  | .ite c a b, σ, w => tst (ev E c σ w) fun k w1 => if k then ev E a σ w1 else ev E b σ w1
  | .cmp o a b, σ, w => (ev E a σ w).bind fun u w1 => (ev E b σ w1).bind fun v w2 => ofO ((cmpV o w2 u v).map fun k => .d (.bool k)) w2
  | .chain o o' a b c, σ, w => (ev E a σ w).bind fun u w1 => (ev E b σ w1).bind fun v w2 => (ofO (cmpV o w2 u v) w2).bind fun k w2 =>
      if k then (ev E c σ w2).bind fun z w3 => ofO ((cmpV o' w3 v z).map fun k => .d (.bool k)) w3 else .ok (.d (.bool false)) w2
  | .call f es, σ, w => (evA E es σ w).bind fun vs w1 => E.Φ f vs w1
  | .callk f es ks perm, σ, w => (evA E es σ w).bind fun vs w1 => (evA E ks σ w1).bind fun zs w2 => match pick (vs ++ zs) perm with
    | some us => E.Φ f us w2
    | none => .no
  | .blt f es, σ, w => (evA E es σ w).bind fun vs w1 => match rdAll w1 vs with
    | some xs => ofO ((bltD f xs).map IV.d) w1
    | none => .no
  | .isi a ts, σ, w => (ev E a σ w).bind fun v w1 => ofO ((isiV w1 ts v).map fun k => .d (.bool k)) w1
  | .sub a i, σ, w => (ev E a σ w).bind fun u w1 => (ev E i σ w1).bind fun v w2 => match rd w2 u, rd w2 v with
    | some x, some y => ofO ((subD x y).map IV.d) w2
    | _, _ => .no
  | .sl a lo hi, σ, w => (ev E a σ w).bind fun u w1 => (evP E lo σ w1).bind fun l w2 => (evP E hi σ w2).bind fun h w3 => match rd w3 u with
    | some x => ofO ((slD x l h).map IV.d) w3
    | none => .no
  | .mth m a es, σ, w => (ev E a σ w).bind fun u w1 => if isLst (rd w1 u) then (evA E es σ w1).bind fun vs w2 => match purs vs with
    | some xs => mthW m u xs w2
    | none => .no else .no
  | .comp own e t it c, σ, w => (evI E it σ w).bind fun J w1 =>
      (match J with
        | .dat xs => if okL xs.length then compL (fun x w => match asgT t x (wip σ own) with
            | some σ1 => if isNil c then (ev E e σ1 w).bind fun v w1 => (match v with
                | .d y => .ok (some y) w1
                | _ => .no) else tst (ev E c σ1 w) fun b w1 => if b then (ev E e σ1 w1).bind fun v w2 => (match v with
                | .d y => .ok (some y) w2
                | _ => .no) else .ok none w1
            | none => .no) xs w1 else .no
        | .cel n => compC (fun x w => match asgT t x (wip σ own) with
            | some σ1 => if isNil c then (ev E e σ1 w).bind fun v w1 => (match v with
                | .d y => .ok (some y) w1
                | _ => .no) else tst (ev E c σ1 w) fun b w1 => if b then (ev E e σ1 w1).bind fun v w2 => (match v with
                | .d y => .ok (some y) w2
                | _ => .no) else .ok none w1
            | none => .no) n E.q 0 w1).bind fun ys w2 => .ok (.d (.list ys)) w2
  | _, _, _ => .no
def evA (E : En) : Ex → Sl → W → R (List IV)
  | .nil, _, w => .ok [] w
  | .cons a r, σ, w => (ev E a σ w).bind fun v w1 => (evA E r σ w1).bind fun vs w2 => .ok (v :: vs) w2
  | _, _, _ => .no
def evP (E : En) : Ex → Sl → W → R (Option Int)
  | .nil, _, w => .ok none w
  | .cons a _, σ, w => (ev E a σ w).bind fun v w1 => match v with
    | .d (.int i) => .ok (some i) w1
    | _ => .no
  | _, _, _ => .no
def evI (E : En) : Ex → Sl → W → R It
  | .seq a, σ, w => (ev E a σ w).bind fun v w1 => ofO (toIt w1 v) w1
  | .rng es, σ, w => (evA E es σ w).bind fun vs w1 => match purs vs with
    | some xs => ofO ((rngD xs).map It.dat) w1
    | none => .no
  | .enm a, σ, w => (ev E a σ w).bind fun v w1 => match v with
    | .d x => ofO ((itemsD x).map fun xs => It.dat (enumD 0 xs)) w1
    | _ => .no
  | .zp a b, σ, w => (ev E a σ w).bind fun u w1 => (ev E b σ w1).bind fun v w2 => match u, v with
    | .d (.tuple xs), .d (.tuple ys) => .ok (.dat (zipD xs ys)) w2
    | .d (.list xs), .d (.list ys) => .ok (.dat (zipD xs ys)) w2
    | _, _ => .no
  | _, _, _ => .no
end
/-! ### statements -/
inductive Fl where
  | next (σ : Sl)
  | ret (v : IV)
  | brk (σ : Sl)
  | cnt (σ : Sl)
  | exc (c : Nat) (x : D) (σ : Sl)
inductive RS where
  | mk (f : Fl) (w : W)
  | no
def onE {α : Type} (r : R α) (σ : Sl) (f : α → W → RS) : RS := match r with
  | .ok a w => f a w
  | .exc c x w => .mk (.exc c x σ) w
  | .no => .no
def setAll : List Nat → List IV → Sl → Option Sl
  | [], [], σ => some σ
  | i :: is, v :: vs, σ => setAll is vs (σ.set i (some v))
  | _, _, _ => none
def ofS (o : Option Sl) (w : W) : RS := match o with
  | some σ => .mk (.next σ) w
  | none => .no
def forL (f : D → Sl → W → RS) : List D → Sl → W → RS
  | [], σ, w => .mk (.next σ) w
  | x :: xs, σ, w => match f x σ w with
    | .mk (.next σ1) w1 => forL f xs σ1 w1
    | .mk (.cnt σ1) w1 => forL f xs σ1 w1
    | .mk (.brk σ1) w1 => .mk (.next σ1) w1
    | o => o
def forC (f : D → Sl → W → RS) (n : Nat) : Nat → Nat → Sl → W → RS
  | 0, _, _, _ => .no
  | q + 1, k, σ, w => match w[n]? with
    | some (.lst xs) => (match xs[k]? with
      | none => .mk (.next σ) w
      | some x => (match f x σ w with
        | .mk (.next σ1) w1 => forC f n q (k + 1) σ1 w1
        | .mk (.cnt σ1) w1 => forC f n q (k + 1) σ1 w1
        | .mk (.brk σ1) w1 => .mk (.next σ1) w1
        | o => o))
    | _ => .no
def whlL (c : Sl → W → R IV) (f : Sl → W → RS) : Nat → Sl → W → RS
  | 0, _, _ => .no
  | q + 1, σ, w => onE (tst (c σ w) fun b w => .ok b w) σ fun b w1 => if b then (match f σ w1 with
      | .mk (.next σ1) w2 => whlL c f q σ1 w2
      | .mk (.cnt σ1) w2 => whlL c f q σ1 w2
      | .mk (.brk σ1) w2 => .mk (.next σ1) w2
      | o => o) else .mk (.next σ) w1
/-- one class under another -/
def under (c c' : Nat) : Bool := c == c' || c' == 0
def evS (E : En) : St → Sl → W → RS
  | .nil, σ, w => .mk (.next σ) w
  | .cons s r, σ, w => match evS E s σ w with
    | .mk (.next σ1) w1 => evS E r σ1 w1
    | o => o
  | .stuck, _, _ => .no
  | .pass, σ, w => .mk (.next σ) w
  | .brk, σ, w => .mk (.brk σ) w
  | .cnt, σ, w => .mk (.cnt σ) w
  | .expr e, σ, w => onE (ev E e σ w) σ fun _ w1 => .mk (.next σ) w1
  | .ret e, σ, w => onE (ev E e σ w) σ fun v w1 => .mk (.ret v) w1
  | .retN, _, w => .mk (.ret (.d .none)) w
  | .asg t e, σ, w => onE (ev E e σ w) σ fun v w1 => (match t, v with
    | .nm i, v => .mk (.next (σ.set i (some v))) w1
    | t, .d x => ofS (asgT t x σ) w1
    | _, _ => .no)
  | .par is es, σ, w => onE (evA E es σ w) σ fun vs w1 => ofS (setAll is vs σ) w1
  | .stix o ix e, σ, w => onE (ev E e σ w) σ fun v w1 => onE (ev E o σ w1) σ fun u w2 => onE (ev E ix σ w2) σ fun i w3 => (match u, i, v with
    | .ref n, .d ix, .d x => (match w3[n]? with
      | some (.lst xs) => (match stL xs ix x with
        | some ys => .mk (.next σ) (w3.set n (.lst ys))
        | none => .no)
      | _ => .no)
    | _, _, _ => .no)
  | .auix op o ix e, σ, w => onE (ev E o σ w) σ fun u w1 => onE (ev E ix σ w1) σ fun i w2 => (match u, i with
    | .ref n, .d ix => (match (rdC w2[n]?).bind fun x => subD x ix with
      | some old => onE (ev E e σ w2) σ fun v w3 => (match v with
        | .d x => (match op, old, x, w3[n]? with
          | .Add, .int a, .int b, some (.lst xs) => (match stL xs ix (.int (a + b)) with
            | some ys => .mk (.next σ) (w3.set n (.lst ys))
            | none => .no)
          | _, _, _, _ => .no)
        | _ => .no)
      | none => .no)
    | _, _ => .no)
  | .ifs c a b, σ, w => onE (tst (ev E c σ w) fun k w => .ok k w) σ fun k w1 => if k then evS E a σ w1 else evS E b σ w1
  | .for_ t it b, σ, w => onE (evI E it σ w) σ fun J w1 => (match J with
    | .dat xs => if okL xs.length then forL (fun x σ w => match asgT t x σ with
        | some σ1 => evS E b σ1 w
        | none => .no) xs σ w1 else .no
    | .cel n => forC (fun x σ w => match asgT t x σ with
        | some σ1 => evS E b σ1 w
        | none => .no) n E.q 0 σ w1)
  | .whl c b, σ, w => whlL (fun σ w => ev E c σ w) (fun σ w => evS E b σ w) E.q σ w
  | .rais c e, σ, w => onE (ev E e σ w) σ fun v w1 => (match v with
    | .d x => .mk (.exc c x σ) w1
    | _ => .no)
  | .try_ b c ei ci, σ, w => match evS E b σ w with
    | .mk (.exc c' x σ1) w1 => if under c' c then .mk (.next ((σ1.set ci (some (.exc c' x))).set ei none)) w1 else .mk (.exc c' x σ1) w1
    | o => o
structure Fn where
  np : Nat
  ns : Nat
  body : St
def fin (n : Nat) : RS → R IV
  | .mk (.ret v) w1 => match v with
    | .ref k => if k < n then .ok v (w1.take n) else .no
    | _ => .ok v (w1.take n)
  | .mk (.next _) w1 => .ok (.d .none) (w1.take n)
  | .mk (.exc c x _) w1 => .exc c x (w1.take n)
  | _ => .no
def runF (E : En) (fn : Fn) (as : List IV) (w : W) : R IV :=
  if as.length == fn.np then fin w.length (evS E fn.body (as.map some ++ List.replicate (fn.ns - fn.np) none) w) else .no
def callF (P : List Fn) (q : Nat) (G : Nat → Option D) : Nat → Nat → List IV → W → R IV
  | 0, _, _, _ => .no
  | d + 1, f, as, w => match P[f]? with
    | none => .no
    | some fn => runF ⟨callF P q G d, q, G⟩ fn as w
end Pv

/-! Part B: what stands in the heap, told by the small machine's values. -/
namespace Pv
open PySem PySem.Spec PyProof.Rows L2
/-- where the classes of exceptions stand -/
structure Tab where
  cls : Nat → Addr
/-! ### data that is never changed -/
def FzL (_ : PySem.W.Frag) (H : Hp) (a : Addr) (xs : List V) : Prop := ∃ o, H a = some (.frz o (.lst xs))
theorem FzL.sq {K : PySem.W.Frag} {H : Hp} {a : Addr} {xs : List V} (h : FzL K H a xs) : SqL K H a xs := by
  obtain ⟨o, h⟩ := h
  exact .inl (.inr ⟨o, h⟩)
theorem FzL.rd {K : PySem.W.Frag} {H : Hp} {a : Addr} {xs : List V} (h : FzL K H a xs) : Rd H a (.lst xs) := .inr h
mutual
inductive Fz (K : PySem.W.Frag) (H : Hp) : V → D → Prop
  | non : Fz K H .non .none
  | bl (b : Bool) : Fz K H (.bl b) (.bool b)
  | int (i : Int) : Fz K H (.int i) (.int i)
  | str (x : Str) : Fz K H (.str x) (.str x)
  | lst {a : Addr} {xs : List V} {ds : List D} : FzL K H a xs → FzAll K H xs ds → Fz K H (.ref a) (.list ds)
  | tup {a : Addr} {xs : List V} {ds : List D} : SqT K H a xs → FzAll K H xs ds → Fz K H (.ref a) (.tuple ds)
  | dct {a : Addr} : (∃ o, H a = some (.frz o (.dK []))) → Fz K H (.ref a) (.dict [])
inductive FzAll (K : PySem.W.Frag) (H : Hp) : List V → List D → Prop
  | nil : FzAll K H [] []
  | cons {v : V} {vs : List V} {d : D} {ds : List D} : Fz K H v d → FzAll K H vs ds → FzAll K H (v :: vs) (d :: ds)
end
mutual
theorem Fz.dp {K : PySem.W.Frag} {H : Hp} : ∀ {v : V} {d : D}, Fz K H v d → d.plain = true → Dp K H v d
  | _, _, .non, _ => .non
  | _, _, .bl b, _ => .bl b
  | _, _, .int i, _ => .int i
  | _, _, .str x, _ => .str x
  | _, _, .lst h r, p => .lst h.sq (FzAll.dp r (by simpa [PyData.plain] using p))
  | _, _, .tup h r, p => .tup h (FzAll.dp r (by simpa [PyData.plain] using p))
  | _, _, .dct _, p => absurd p (by simp [PyData.plain])
theorem FzAll.dp {K : PySem.W.Frag} {H : Hp} : ∀ {vs : List V} {ds : List D}, FzAll K H vs ds → PyData.plainAll ds = true → DpAll K H vs ds
  | _, _, .nil, _ => .nil
  | _, _, .cons h r, p => by
    rw [PyData.plainAll, Bool.and_eq_true] at p
    exact .cons (Fz.dp h p.1) (FzAll.dp r p.2)
end
structure Grow (H H' : Hp) : Prop where
  tup : ∀ a xs, H a = some (.tup xs) → H' a = some (.tup xs)
  frz : ∀ a o u, H a = some (.frz o u) → H' a = some (.frz o u)
theorem Grow.refl (H : Hp) : Grow H H := ⟨fun _ _ h => h, fun _ _ _ h => h⟩
theorem Grow.trans {H H1 H2 : Hp} (a : Grow H H1) (b : Grow H1 H2) : Grow H H2 := ⟨fun c xs h => b.tup c xs (a.tup c xs h), fun c o u h => b.frz c o u (a.frz c o u h)⟩
theorem Grow.new {H : Hp} {p : Addr} {o : HO} (h : H p = none) : Grow H (upd H p o) :=
  ⟨fun a xs e => by rw [upd_ne (ne_of_none e h)]; exact e, fun a ob u e => by rw [upd_ne (ne_of_none e h)]; exact e⟩
/-- an object is changed that may be written -/
theorem Grow.set {H : Hp} {p : Addr} {o u : HO} (h : H p = some u) (m : Mut (some u)) : Grow H (upd H p o) :=
  ⟨fun a xs e => by rw [upd_ne (ne_of e h fun z => by subst z; exact m)]; exact e, fun a ob x e => by rw [upd_ne (ne_of e h fun z => by subst z; exact m)]; exact e⟩
theorem SqT.grow {K : PySem.W.Frag} {H H' : Hp} (g : Grow H H') {a : Addr} {xs : List V} (h : SqT K H a xs) : SqT K H' a xs := by
  rcases h with (h | ⟨o, h⟩) | h
  · exact .inl (.inl (g.tup a xs h))
  · exact .inl (.inr ⟨o, g.frz a o _ h⟩)
  · exact .inr h
theorem FzL.grow {K : PySem.W.Frag} {H H' : Hp} (g : Grow H H') {a : Addr} {xs : List V} (h : FzL K H a xs) : FzL K H' a xs := by
  obtain ⟨o, h⟩ := h
  exact ⟨o, g.frz a o _ h⟩
mutual
theorem Fz.grow {K : PySem.W.Frag} {H H' : Hp} (g : Grow H H') : ∀ {v : V} {d : D}, Fz K H v d → Fz K H' v d
  | _, _, .non => .non
  | _, _, .bl b => .bl b
  | _, _, .int i => .int i
  | _, _, .str x => .str x
  | _, _, .lst h r => .lst (h.grow g) (FzAll.grow g r)
  | _, _, .tup h r => .tup (SqT.grow g h) (FzAll.grow g r)
  | _, _, .dct ⟨o, h⟩ => .dct ⟨o, g.frz _ _ _ h⟩
theorem FzAll.grow {K : PySem.W.Frag} {H H' : Hp} (g : Grow H H') : ∀ {vs : List V} {ds : List D}, FzAll K H vs ds → FzAll K H' vs ds
  | _, _, .nil => .nil
  | _, _, .cons h r => .cons (Fz.grow g h) (FzAll.grow g r)
end
theorem FzAll.length {K : PySem.W.Frag} {H : Hp} : ∀ {vs : List V} {ds : List D}, FzAll K H vs ds → vs.length = ds.length
  | _, _, .nil => rfl
  | _, _, .cons _ r => by rw [List.length_cons, List.length_cons, FzAll.length r]
theorem FzAll.get {K : PySem.W.Frag} {H : Hp} : ∀ {vs : List V} {ds : List D} {i : Nat} {d : D}, FzAll K H vs ds → ds[i]? = some d → ∃ v, vs[i]? = some v ∧ Fz K H v d
  | _, _, _, _, .nil, e => by simp at e
  | _, _, 0, _, .cons h _, e => by simp at e; subst e; exact ⟨_, rfl, h⟩
  | _, _, i + 1, d, .cons _ r, e => by
    obtain ⟨v, h1, h2⟩ := FzAll.get (i := i) (d := d) r (by simpa using e)
    exact ⟨v, by simpa using h1, h2⟩
theorem FzAll.append {K : PySem.W.Frag} {H : Hp} : ∀ {vs us : List V} {ds es : List D}, FzAll K H vs ds → FzAll K H us es → FzAll K H (vs ++ us) (ds ++ es)
  | _, _, _, _, .nil, s => s
  | _, _, _, _, .cons h r, s => .cons h (FzAll.append r s)
theorem FzAll.set {K : PySem.W.Frag} {H : Hp} {v : V} {d : D} (h : Fz K H v d) : ∀ {vs : List V} {ds : List D} (i : Nat), FzAll K H vs ds → FzAll K H (vs.set i v) (ds.set i d)
  | _, _, _, .nil => .nil
  | _, _, 0, .cons _ r => .cons h r
  | _, _, i + 1, .cons q r => .cons q (FzAll.set h i r)
theorem FzAll.take {K : PySem.W.Frag} {H : Hp} : ∀ {vs : List V} {ds : List D} (n : Nat), FzAll K H vs ds → FzAll K H (vs.take n) (ds.take n)
  | _, _, 0, _ => .nil
  | _, _, _ + 1, .nil => .nil
  | _, _, n + 1, .cons h r => .cons h (FzAll.take n r)
theorem FzAll.drop {K : PySem.W.Frag} {H : Hp} : ∀ {vs : List V} {ds : List D} (n : Nat), FzAll K H vs ds → FzAll K H (vs.drop n) (ds.drop n)
  | _, _, 0, r => r
  | _, _, _ + 1, .nil => .nil
  | _, _, n + 1, .cons _ r => FzAll.drop n r
theorem FzAll.rep {K : PySem.W.Frag} {H : Hp} {vs : List V} {ds : List D} (r : FzAll K H vs ds) : ∀ n : Nat, FzAll K H (List.replicate n vs).flatten (List.replicate n ds).flatten
  | 0 => .nil
  | n + 1 => by
    rw [List.replicate_succ, List.replicate_succ, List.flatten_cons, List.flatten_cons]
    exact r.append (FzAll.rep r n)

/-! ### cells -/
def CellOk (K : PySem.W.Frag) (H : Hp) (a : Addr) : Cell → Prop
  | .lst ds => ∃ xs, H a = some (.lst xs) ∧ FzAll K H xs ds
  | .dct kvs => ∃ ps : List (Key × V), H a = some (.dK ps) ∧ Paired (fun (p : Key × V) (q : Str × D) => p.1 = Sum.inr q.1 ∧ Fz K H p.2 q.2) ps kvs
  | .dead => ∃ u, H a = some u
theorem CellOk.tracked {K : PySem.W.Frag} {H : Hp} {a : Addr} {c : Cell} (h : CellOk K H a c) : ∃ u, H a = some u := by
  cases c with
  | lst ds => obtain ⟨xs, e, _⟩ := h; exact ⟨_, e⟩
  | dct kvs => obtain ⟨ps, e, _⟩ := h; exact ⟨_, e⟩
  | dead => exact h
/-- the heap at a is as before, all else has grown -/
theorem CellOk.move {K : PySem.W.Frag} {H H' : Hp} {a : Addr} {c : Cell} (g : Grow H H') (e : ∀ u, H a = some u → H' a = some u) (h : CellOk K H a c) : CellOk K H' a c := by
  cases c with
  | lst ds => obtain ⟨xs, q, r⟩ := h; exact ⟨xs, e _ q, r.grow g⟩
  | dct kvs =>
    obtain ⟨ps, q, r⟩ := h
    exact ⟨ps, e _ q, Paired.mapP r fun p z h => ⟨h.1, h.2.grow g⟩⟩
  | dead => obtain ⟨u, q⟩ := h; exact ⟨u, e _ q⟩
structure RelW (K : PySem.W.Frag) (ms : List Addr) (H : Hp) (w : W) : Prop where
  len : ms.length = w.length
  nd : ms.Nodup
  at_ : ∀ (n : Nat) (c : Cell) (a : Addr), w[n]? = some c → ms[n]? = some a → CellOk K H a c
section
variable {K : PySem.W.Frag} {ms ms' : List Addr} {H H' : Hp} {w w' : W}
theorem RelW.get (r : RelW K ms H w) {n : Nat} {c : Cell} (e : w[n]? = some c) : ∃ a, ms[n]? = some a ∧ CellOk K H a c := by
  have hn : n < ms.length := by rw [r.len]; exact (List.getElem?_eq_some_iff.mp e).1
  exact ⟨ms[n], List.getElem?_eq_getElem hn, r.at_ n c _ e (List.getElem?_eq_getElem hn)⟩
theorem RelW.mem (r : RelW K ms H w) {a : Addr} (h : a ∈ ms) : ∃ u, H a = some u := by
  obtain ⟨n, hn, e⟩ := List.mem_iff_getElem.mp h
  have hw : n < w.length := by rw [← r.len]; exact hn
  exact (r.at_ n w[n] a (List.getElem?_eq_getElem hw) (by rw [List.getElem?_eq_getElem hn, e])).tracked
theorem RelW.move (r : RelW K ms H w) (g : Grow H H') (e : ∀ a ∈ ms, ∀ u, H a = some u → H' a = some u) : RelW K ms H' w :=
  ⟨r.len, r.nd, fun n c a h1 h2 => (r.at_ n c a h1 h2).move g (e a (List.mem_of_getElem? h2))⟩
/-- a new thing beside -/
theorem RelW.new (r : RelW K ms H w) {p : Addr} {o : HO} (h : H p = none) : RelW K ms (upd H p o) w :=
  r.move (Grow.new h) fun a _ u e => by rw [upd_ne (ne_of_none e h)]; exact e
theorem RelW.push (r : RelW K ms H w) {p : Addr} {c : Cell} (h : p ∉ ms) (k : CellOk K H p c) : RelW K (ms ++ [p]) H (w ++ [c]) := by
  refine ⟨by simp [r.len], ?_, fun n c' a h1 h2 => ?_⟩
  · rw [List.nodup_append]
    refine ⟨r.nd, by simp, fun a ha b hb => ?_⟩
    have e : b = p := by simpa using hb
    subst e
    exact fun z => h (z ▸ ha)
  · by_cases hn : n < w.length
    · rw [List.getElem?_append_left hn] at h1
      rw [List.getElem?_append_left (by rw [r.len]; exact hn)] at h2
      exact r.at_ n c' a h1 h2
    · have hn' : n = w.length := by
        have := (List.getElem?_eq_some_iff.mp h1).1
        simp at this; omega
      subst hn'
      rw [List.getElem?_append_right (Nat.le_refl _)] at h1
      rw [List.getElem?_append_right (by rw [r.len]; exact Nat.le_refl _)] at h2
      simp [r.len] at h1 h2
      subst h1 h2
      exact k
theorem RelW.inj (r : RelW K ms H w) {i j : Nat} {a : Addr} (h1 : ms[i]? = some a) (h2 : ms[j]? = some a) : i = j := by
  obtain ⟨p1, e1⟩ := List.getElem?_eq_some_iff.mp h1
  obtain ⟨p2, e2⟩ := List.getElem?_eq_some_iff.mp h2
  exact (List.getElem_inj r.nd).mp (e1.trans e2.symm)
/-- one cell's thing is changed -/
theorem RelW.set (r : RelW K ms H w) {n : Nat} {a : Addr} {o u : HO} {c : Cell} (hn : ms[n]? = some a) (e : H a = some u) (m : Mut (some u)) (k : CellOk K (upd H a o) a c) : RelW K ms (upd H a o) (w.set n c) := by
  refine ⟨by simp [r.len], r.nd, fun j c' b h1 h2 => ?_⟩
  by_cases hj : j = n
  · subst hj
    rw [hn] at h2; cases h2
    have hw : j < w.length := by
      have := (List.getElem?_eq_some_iff.mp h1).1
      simpa using this
    rw [List.getElem?_set_self hw] at h1
    cases h1
    exact k
  · rw [List.getElem?_set_ne (Ne.symm hj)] at h1
    have hb : b ≠ a := fun z => hj (r.inj (z ▸ h2) hn)
    exact (r.at_ j c' b h1 h2).move (Grow.set e m) fun v q => by rw [upd_ne hb]; exact q
theorem RelW.take (r : RelW K ms H w) (n : Nat) : RelW K (ms.take n) H (w.take n) := by
  refine ⟨by simp [r.len], r.nd.sublist (List.take_sublist _ _), fun j c a h1 h2 => ?_⟩
  rw [List.getElem?_take] at h1 h2
  split at h1
  · rename_i hj
    rw [if_pos hj] at h2
    exact r.at_ j c a h1 h2
  · cases h1
end
/-! ### values, slots -/
def RelI (T : Tab) (K : PySem.W.Frag) (ms : List Addr) (H : Hp) : IV → V → Prop
  | .d x, v => Fz K H v x
  | .ref n, v => ∃ a, ms[n]? = some a ∧ v = .ref a
  | .exc _ _, _ => False
/-- what has happened between two states: what is fast stays, what is told of stays told of, what is no cell's stays as it is, new cells' things are new -/
structure Ext (H : Hp) (ms : List Addr) (H' : Hp) (ms' : List Addr) : Prop extends Grow H H' where
  keep : ∀ a u, H a = some u → a ∉ ms → H' a = some u
  trk : ∀ a u, H a = some u → ∃ u', H' a = some u'
  px : ∃ t, ms' = ms ++ t ∧ ∀ b ∈ t, H b = none
theorem Ext.refl (H : Hp) (ms : List Addr) : Ext H ms H ms := ⟨Grow.refl H, fun _ _ h _ => h, fun _ u h => ⟨u, h⟩, [], by simp, fun _ h => nomatch h⟩
theorem Ext.none {H : Hp} {ms : List Addr} {H' : Hp} {ms' : List Addr} (x : Ext H ms H' ms') {a : Addr} (h : H' a = Option.none) : H a = Option.none := by
  cases q : H a with
  | none => rfl
  | some u =>
    obtain ⟨u', e⟩ := x.trk a u q
    rw [h] at e; cases e
theorem Ext.trans {H H1 H2 : Hp} {m m1 m2 : List Addr} (a : Ext H m H1 m1) (b : Ext H1 m1 H2 m2) : Ext H m H2 m2 := by
  obtain ⟨t, e1, h1⟩ := a.px
  obtain ⟨t', e2, h2⟩ := b.px
  refine ⟨a.toGrow.trans b.toGrow, fun c u h hn => b.keep c u (a.keep c u h hn) ?_, fun c u h => ?_, t ++ t', by rw [e2, e1, List.append_assoc], fun c hc => ?_⟩
  · rw [e1]
    intro hc
    rcases List.mem_append.mp hc with z | z
    · exact hn z
    · rw [h1 c z] at h; cases h
  · obtain ⟨u1, e⟩ := a.trk c u h
    exact b.trk c u1 e
  · rcases List.mem_append.mp hc with z | z
    · exact h1 c z
    · exact a.none (h2 c z)
theorem Ext.new {H : Hp} {ms : List Addr} {p : Addr} {o : HO} (h : H p = Option.none) : Ext H ms (upd H p o) ms :=
  ⟨Grow.new h, fun a u e _ => by rw [upd_ne (ne_of_none e h)]; exact e, fun a u e => ⟨u, by rw [upd_ne (ne_of_none e h)]; exact e⟩, [], by simp, fun _ h => nomatch h⟩
theorem upd_trk {H : Hp} {p : Addr} {o : HO} (a : Addr) (u : HO) (e : H a = some u) : ∃ u', upd H p o a = some u' := by
  by_cases z : a = p
  · subst z; exact ⟨o, upd_same⟩
  · exact ⟨u, by rw [upd_ne z]; exact e⟩
/-- a cell's thing is changed -/
theorem Ext.set {H : Hp} {ms : List Addr} {p : Addr} {o u : HO} (h : H p = some u) (m : Mut (some u)) (hp : p ∈ ms) : Ext H ms (upd H p o) ms :=
  ⟨Grow.set h m, fun a v e hn => by
    have z : a ≠ p := fun q => hn (by rw [q]; exact hp)
    rw [upd_ne z]; exact e, fun a v e => upd_trk a v e, [], by simp, fun _ h => nomatch h⟩
/-- a thing that came since is changed -/
theorem Ext.later {H H1 : Hp} {ms ms1 : List Addr} (x : Ext H ms H1 ms1) {p : Addr} {o u : HO} (h0 : H p = Option.none) (h : H1 p = some u) (m : Mut (some u)) : Ext H ms (upd H1 p o) ms1 := by
  refine ⟨x.toGrow.trans (Grow.set h m), fun a v e hn => ?_, fun a v e => ?_, x.px⟩
  · rw [upd_ne (ne_of_none e h0)]
    exact x.keep a v e hn
  · obtain ⟨v', e'⟩ := x.trk a v e
    exact upd_trk a v' e'
/-- a new cell -/
theorem Ext.cell {H H1 : Hp} {ms ms1 : List Addr} (x : Ext H ms H1 ms1) {p : Addr} (h0 : H p = Option.none) : Ext H ms H1 (ms1 ++ [p]) := by
  obtain ⟨t, e, h⟩ := x.px
  refine ⟨x.toGrow, x.keep, x.trk, t ++ [p], by rw [e, List.append_assoc], fun b hb => ?_⟩
  rcases List.mem_append.mp hb with z | z
  · exact h b z
  · have e : b = p := by simpa using z
    rw [e]; exact h0
theorem Ext.get {H H' : Hp} {a b : List Addr} (h : Ext H a H' b) {n : Nat} {x : Addr} (e : a[n]? = some x) : b[n]? = some x := by
  obtain ⟨t, rfl, _⟩ := h.px
  rw [List.getElem?_append_left (List.getElem?_eq_some_iff.mp e).1]
  exact e
theorem RelI.grow {T : Tab} {K : PySem.W.Frag} {ms ms' : List Addr} {H H' : Hp} (g : Ext H ms H' ms') : ∀ {v : IV} {u : V}, RelI T K ms H v u → RelI T K ms' H' v u
  | .d _, _, h => Fz.grow g.toGrow h
  | .ref _, _, ⟨a, h, e⟩ => ⟨a, g.get h, e⟩
  | .exc _ _, _, h => h
structure Sim (T : Tab) (K : PySem.W.Frag) (ms : List Addr) (H : Hp) (iσ : Sl) (σ : List (Option V)) (w : W) : Prop where
  len : iσ.length = σ.length
  sl : ∀ i v, slot iσ i = some v → ∃ u, σ[i]? = some (some u) ∧ RelI T K ms H v u
  w : RelW K ms H w
theorem Sim.grow {T : Tab} {K : PySem.W.Frag} {ms ms' : List Addr} {H H' : Hp} {iσ : Sl} {σ : List (Option V)} {w w' : W} (s : Sim T K ms H iσ σ w) (g : Ext H ms H' ms') (r : RelW K ms' H' w') : Sim T K ms' H' iσ σ w' :=
  ⟨s.len, fun i v e => let ⟨u, h1, h2⟩ := s.sl i v e; ⟨u, h1, h2.grow g⟩, r⟩
theorem slot_set {σ : Sl} {i j : Nat} {x : Option IV} : slot (σ.set i x) j = if i = j then (if i < σ.length then x else none) else slot σ j := by
  unfold slot
  by_cases h : i = j
  · subst h
    rw [if_pos rfl]
    by_cases hi : i < σ.length
    · rw [List.getElem?_set_self hi, if_pos hi]; rfl
    · rw [if_neg hi, List.getElem?_eq_none (by simpa using hi)]; rfl
  · rw [if_neg h, List.getElem?_set_ne h]
theorem Sim.set {T : Tab} {K : PySem.W.Frag} {ms : List Addr} {H : Hp} {iσ : Sl} {σ : List (Option V)} {w : W} (s : Sim T K ms H iσ σ w) {i : Nat} {v : IV} {u : V} (r : RelI T K ms H v u) : Sim T K ms H (iσ.set i (some v)) (σ.set i (some u)) w := by
  refine ⟨by simp [s.len], fun j z e => ?_, s.w⟩
  rw [slot_set] at e
  split at e
  · rename_i hj
    subst hj
    split at e
    · rename_i hi
      cases e
      exact ⟨u, List.getElem?_set_self (by rw [← s.len]; exact hi), r⟩
    · cases e
  · rename_i hj
    obtain ⟨u', h1, h2⟩ := s.sl j z e
    exact ⟨u', by rw [List.getElem?_set_ne hj]; exact h1, h2⟩
theorem Sim.del {T : Tab} {K : PySem.W.Frag} {ms : List Addr} {H : Hp} {iσ : Sl} {σ : List (Option V)} {w : W} (s : Sim T K ms H iσ σ w) {i : Nat} : Sim T K ms H (iσ.set i none) (σ.set i none) w := by
  refine ⟨by simp [s.len], fun j z e => ?_, s.w⟩
  rw [slot_set] at e
  split at e
  · split at e <;> cases e
  · rename_i hj
    obtain ⟨u', h1, h2⟩ := s.sl j z e
    exact ⟨u', by rw [List.getElem?_set_ne hj]; exact h1, h2⟩
theorem Sim.wipe {T : Tab} {K : PySem.W.Frag} {ms : List Addr} {H : Hp} {iσ : Sl} {σ : List (Option V)} {w : W} (s : Sim T K ms H iσ σ w) : ∀ vs : List Nat, Sim T K ms H (wip iσ vs) (wipe σ vs) w
  | [] => s
  | v :: vs => (Sim.wipe s vs).del
/-! ### how it ends -/
def Xw (T : Tab) (K : PySem.W.Frag) (ms : List Addr) (H : Hp) (P : Value → Option Addr → Hp → Prop) (c : Nat) (x : D) (w' : W) : Prop :=
  ∀ (d : Addr) (v : V) (H' : Hp) (ms' : List Addr), Ext H ms H' ms' → H' d = some (.xd [(("value" : Str), v)]) → Fz K H' v x → RelW K ms' H' w' → P (.ref (T.cls c)) (some d) H'
/-- how a value is told: the heap ahead, the cells and the heap behind -/
abbrev Rel (α β : Type) := Hp → List Addr → Hp → α → β → Prop
class RM {α β : Type} (rel : Rel α β) : Prop where
  mono : ∀ {H ms H1 ms1 m' H' a b}, Ext H ms H1 ms1 → rel H1 m' H' a b → rel H m' H' a b
def endsR {α β : Type} (T : Tab) (K : PySem.W.Frag) (ms : List Addr) (H : Hp) (P : Value → Option Addr → Hp → Prop) (rel : Rel α β) (Q : β → Hp → Prop) : R α → Prop
  | .ok a w' => ∀ (b : β) (H' : Hp) (ms' : List Addr), Ext H ms H' ms' → rel H ms' H' a b → RelW K ms' H' w' → Q b H'
  | .exc c x w' => Xw T K ms H P c x w'
  | .no => False
section
variable {α β γ δ : Type} {T : Tab} {K : PySem.W.Frag} {ms ms' : List Addr} {H H' : Hp} {P P' : Value → Option Addr → Hp → Prop} {rel : Rel α β} {rel' : Rel γ δ} {Q Q' : β → Hp → Prop} {r : R α}
theorem endsR.grow [RM rel] (g : Ext H ms H' ms') (h : endsR T K ms H P rel Q r) : endsR T K ms' H' P rel Q r := by
  cases r with
  | ok a w => exact fun b H2 ms2 g2 r2 => h b H2 ms2 (g.trans g2) (RM.mono g r2)
  | exc c x w => exact fun d v H2 ms2 g2 => h d v H2 ms2 (g.trans g2)
  | no => exact h
theorem endsR.mono (h : endsR T K ms H P rel Q r) (q : ∀ b H', Q b H' → Q' b H') : endsR T K ms H P rel Q' r := by
  cases r with
  | ok a w => exact fun b H2 ms2 g2 r2 w2 => q b H2 (h b H2 ms2 g2 r2 w2)
  | exc c x w => exact h
  | no => exact h
/-- two steps -/
theorem endsR.bind [RM rel'] {f : α → W → R γ} {Q2 : δ → Hp → Prop} (h : endsR T K ms H P rel' Q2 (r.bind f))
    (q : ∀ (a : α) (w1 : W) (b : β) (H1 : Hp) (ms1 : List Addr), Ext H ms H1 ms1 → rel H ms1 H1 a b → RelW K ms1 H1 w1 → endsR T K ms1 H1 P rel' Q2 (f a w1) → Q b H1) : endsR T K ms H P rel Q r := by
  cases r with
  | ok a w => exact fun b H2 ms2 g2 r2 w2 => q a w b H2 ms2 g2 r2 w2 (endsR.grow g2 h)
  | exc c x w => exact h
  | no => exact h
end
def relI (T : Tab) (K : PySem.W.Frag) : Rel IV V := fun _ ms H v u => RelI T K ms H v u
instance {T : Tab} {K : PySem.W.Frag} : RM (relI T K) := ⟨fun _ h => h⟩
/-- an expression's reading -/
def tI (T : Tab) (K : PySem.W.Frag) (Wx : WX) (f : Sl → W → R IV) : TE := fun σ H Q => ∃ ms iσ w, Sim T K ms H iσ σ w ∧ endsR T K ms H (fun c d H' => Wx c d σ H') (relI T K) Q (f iσ w)
def RelA (T : Tab) (K : PySem.W.Frag) (ms : List Addr) (H : Hp) : List IV → List V → Prop := Paired (RelI T K ms H)
def relA (T : Tab) (K : PySem.W.Frag) : Rel (List IV) (List V) := fun _ ms H v u => RelA T K ms H v u
instance {T : Tab} {K : PySem.W.Frag} : RM (relA T K) := ⟨fun _ h => h⟩
theorem RelA.grow {T : Tab} {K : PySem.W.Frag} {ms ms' : List Addr} {H H' : Hp} (g : Ext H ms H' ms') {v : List IV} {u : List V} (h : RelA T K ms H v u) : RelA T K ms' H' v u := Paired.mapP h fun _ _ r => r.grow g
def tIA (T : Tab) (K : PySem.W.Frag) (Wx : WX) (f : Sl → W → R (List IV)) : TA := fun σ H Q => ∃ ms iσ w, Sim T K ms H iσ σ w ∧ endsR T K ms H (fun c d H' => Wx c d σ H') (relA T K) Q (f iσ w)
theorem PE.imp {X : Cx} {e : Expr} {t t' : TE} (h : PE X e t) (i : ∀ σ H Q, t' σ H Q → t σ H Q) : PE X e t' := ⟨fun pins s σ H Q I q => h.run pins s σ H Q I (i σ H Q q)⟩
theorem PT.imp {X : Cx} {e : Expr} {t t' : TT} (h : PT X e t) (i : ∀ σ H Q, t' σ H Q → t σ H Q) : PT X e t' := ⟨fun pins s σ H Q I q => h.run pins s σ H Q I (i σ H Q q)⟩
theorem PW.imp {X : Cx} {e : Expr} {t t' : TT} (h : PW X e t) (i : ∀ σ H Q, t' σ H Q → t σ H Q) : PW X e t' := ⟨fun wh pins s σ H Q I q => h.run wh pins s σ H Q I (i σ H Q q)⟩
theorem PA.imp {X : Cx} {e : List Expr} {t t' : TA} (h : PA X e t) (i : ∀ σ H Q, t' σ H Q → t σ H Q) : PA X e t' := ⟨fun pos pins s σ H Q I q => h.run pos pins s σ H Q I (i σ H Q q)⟩
theorem PS.imp {X : Cx} {e : Stmt} {t t' : TS} (h : PS X e t) (i : ∀ D σ H, t' D σ H → t D σ H) : PS X e t' := ⟨fun pins s σ H D I q => h.run pins s σ H D I (i D σ H q)⟩
theorem PSs.imp {X : Cx} {e : List Stmt} {t t' : TS} (h : PSs X e t) (i : ∀ D σ H, t' D σ H → t D σ H) : PSs X e t' := ⟨fun pins s σ H D I q => h.run pins s σ H D I (i D σ H q)⟩
section
variable {T : Tab} {K : PySem.W.Frag} {Wx : WX} {f : Sl → W → R IV} {ms : List Addr} {H : Hp} {iσ : Sl} {σ : List (Option V)} {w : W}
/-- the first part of a reading: its value, then the rest -/
theorem stepI {γ δ : Type} {rel' : Rel γ δ} [RM rel'] {g : IV → W → R γ} {Q : δ → Hp → Prop} {Q' : V → Hp → Prop} (s : Sim T K ms H iσ σ w) (h : endsR T K ms H (fun c d H' => Wx c d σ H') rel' Q ((f iσ w).bind g))
    (k : ∀ (v : IV) (w1 : W) (u : V) (H1 : Hp) (ms1 : List Addr), Ext H ms H1 ms1 → RelI T K ms1 H1 v u → Sim T K ms1 H1 iσ σ w1 → endsR T K ms1 H1 (fun c d H' => Wx c d σ H') rel' Q (g v w1) → Q' u H1) : tI T K Wx f σ H Q' :=
  ⟨ms, iσ, w, s, h.bind fun a w1 b H1 ms1 g1 r1 w1' e => k a w1 b H1 ms1 g1 r1 (s.grow g1 w1') e⟩
theorem stepA {γ δ : Type} {rel' : Rel γ δ} [RM rel'] {f : Sl → W → R (List IV)} {g : List IV → W → R γ} {Q : δ → Hp → Prop} {Q' : List V → Hp → Prop} (s : Sim T K ms H iσ σ w) (h : endsR T K ms H (fun c d H' => Wx c d σ H') rel' Q ((f iσ w).bind g))
    (k : ∀ (v : List IV) (w1 : W) (u : List V) (H1 : Hp) (ms1 : List Addr), Ext H ms H1 ms1 → RelA T K ms1 H1 v u → Sim T K ms1 H1 iσ σ w1 → endsR T K ms1 H1 (fun c d H' => Wx c d σ H') rel' Q (g v w1) → Q' u H1) : tIA T K Wx f σ H Q' :=
  ⟨ms, iσ, w, s, h.bind fun a w1 b H1 ms1 g1 r1 w1' e => k a w1 b H1 ms1 g1 r1 (s.grow g1 w1') e⟩
/-- the last part: the value stands -/
theorem endI {α β : Type} {rel : Rel α β} {P : Value → Option Addr → Hp → Prop} {Q : β → Hp → Prop} {a : α} {b : β} (h : endsR T K ms H P rel Q (.ok a w)) (r : rel H ms H a b) (rw' : RelW K ms H w) : Q b H := h b H ms (Ext.refl H ms) r rw'
end
end Pv

/-! Part C: the operations, by values. -/
namespace PySem.PvX
open PySem PySem.W PySem.Calls PyProof.Rows
open Builtin Builtin.Tuple
theorem tuple_mul_one (l : Addr) (items : Array Value) (n : Nat) (dd : Option Addr) (sl : Array (Option Value)) (x : Int) (u : Tok) (c0 : (decide (x < -(2 ^ 63)) || decide (x ≥ 2 ^ 63)) = false) (c1 : (items.isEmpty || x == 1) = true) :
    Meets (Builtin.«tuple.__mul__» ⟨[.ref l, .int x u], []⟩) (fun _ R s => s.heap.get? l = some { cls := .type "tuple", dict := dd, data := .seq items n, slots := sl } ∧ R (.ok (.ret (Value.ref l))) s) :=
  .of_wp fun prog w A R s h => by
    obtain ⟨hp, g, d, tk, os⟩ := s
    obtain ⟨hl, h⟩ := h
    have f1 := AutoSeq1.idx_int
    wp_walk using wpAny_loadPart' hl
    repeat (first
      | (refine wpAny_ite_false (decide_eq_false (by rw [c0]; exact Bool.false_ne_true)) ?_; wp_walk using wpAny_loadPart' hl)
      | (refine wpAny_ite_true (decide_eq_true (by rw [c1])) ?_; wp_walk using wpAny_loadPart' hl))
    exact ⟨_, rfl, h⟩
theorem tuple_mul_none (l : Addr) (items : Array Value) (n : Nat) (dd : Option Addr) (sl : Array (Option Value)) (x : Int) (u : Tok) (c0 : (decide (x < -(2 ^ 63)) || decide (x ≥ 2 ^ 63)) = false) (c1 : (items.isEmpty || x == 1) = false) (c2 : (decide (x ≤ 0) || items.isEmpty) = true) :
    Meets (Builtin.«tuple.__mul__» ⟨[.ref l, .int x u], []⟩) (fun _ R s => s.heap.get? l = some { cls := .type "tuple", dict := dd, data := .seq items n, slots := sl } ∧
      R (.ok (.ret (Value.ref s.heap.objs.size))) { s with heap := s.heap.push { cls := Value.type "tuple", data := Data.seq #[] }, toks := s.toks }) :=
  .of_wp fun prog w A R s h => by
    obtain ⟨hp, g, d, tk, os⟩ := s
    obtain ⟨hl, h⟩ := h
    have f1 := AutoSeq1.idx_int
    wp_walk using wpAny_loadPart' hl
    repeat (first
      | (refine wpAny_ite_false (decide_eq_false (by rw [c0]; exact Bool.false_ne_true)) ?_; wp_walk using wpAny_loadPart' hl)
      | (refine wpAny_ite_false (decide_eq_false (by rw [c1]; exact Bool.false_ne_true)) ?_; wp_walk using wpAny_loadPart' hl)
      | (refine wpAny_ite_true (decide_eq_true (by rw [c2])) ?_; wp_walk using wpAny_loadPart' hl))
    exact ⟨_, rfl, h⟩
end PySem.PvX
namespace Pv
open PySem PySem.Spec PyProof.Rows L2
section
variable {X : Cx} {pins : List (Addr × Obj)} {σ : List (Option V)} {H : Hp} {s : Shared} {l a : Addr} {xs ys : List V}
theorem Inv.lstR (I : Inv X pins σ H s) (hH : Rd H l (.lst xs)) : xs.length ≤ sizeLine ∧ ∃ (its : List Value) (n : Nat), Vals xs its ∧ xs.length = its.length ∧ s.heap.get? l = some { cls := .type "list", data := .seq its.toArray n } := by
  obtain ⟨z, its, n, r, e⟩ := hH.ok I.hok
  exact ⟨z, its, n, r, r.length, e⟩
/-- + of lists, live or not -/
def rCatR : R2 := fun x y H Q => ∃ l b xs zs, x = .ref l ∧ y = .ref b ∧ Rd H l (.lst xs) ∧ Rd H b (.lst zs) ∧ xs.length + zs.length ≤ sizeLine ∧ ∀ p, H p = none → Q (.ref p) (upd H p (.lst (xs ++ zs)))
theorem op_catR : OpR X (binaryOp .Add) rCatR := by
  intro pins s σ H x y v u Q I rx ry h
  obtain ⟨l, b, xs, zs, rfl, rfl, hH, hB, hz, q⟩ := h
  cases rx
  cases ry
  obtain ⟨z, its, n, r, hl, e⟩ := Inv.lstR I hH
  obtain ⟨z2, its2, n2, r2, hl2, e2⟩ := Inv.lstR I hB
  refine PySem.P.add_list e e2 ?_ (by rw [List.size_toArray, List.size_toArray]; omega)
  have ea : its.toArray ++ its2.toArray = (its ++ its2).toArray := by simp
  rw [ea]
  exact ⟨.ref _, _, I.lnew (t' := s.toks) (r.append r2) (by rw [List.length_append]; omega), rfl, q _ I.fresh⟩
def rRepR : R2 := fun x y H Q => ∃ l k xs, x = .ref l ∧ y = .int k ∧ Rd H l (.lst xs) ∧ -(2 ^ 63) ≤ k ∧ k < 2 ^ 63 ∧ xs.length * k.toNat ≤ sizeLine ∧
  ∀ p, H p = none → Q (.ref p) (upd H p (.lst (List.replicate k.toNat xs).flatten))
theorem op_repR : OpR X (binaryOp .Mult) rRepR := by
  intro pins s σ H x y v u Q I rx ry h
  obtain ⟨l, k, xs, rfl, rfl, hH, h1, h2, hz, q⟩ := h
  cases rx
  obtain ⟨t, rfl⟩ := ry
  obtain ⟨z, its, n, r, hl, e⟩ := Inv.lstR I hH
  have hlen : its.toArray.size * k.toNat ≤ sizeLine := by rw [List.size_toArray, ← hl]; exact hz
  have hcap : ¬ its.toArray.size * k.toNat > (2 ^ 63 - 1) / 8 := by
    have : (sizeLine : Nat) ≤ (2 ^ 63 - 1) / 8 := by decide
    omega
  have hfit : ¬ (!Builtin.List.listFitsIndex k) = true := by rw [fitsIndex_both h1 h2]; exact Bool.false_ne_true
  have hlong : ¬ Builtin.List.listTooLong (its.toArray.size * k.toNat) = true := by rw [notLongL hlen]; exact Bool.false_ne_true
  have hnew : List.foldl (fun x1 x2 => x1 ++ x2) #[] (List.replicate (if its.toArray.isEmpty = true then 0 else k.toNat) its.toArray) = (List.replicate k.toNat its).flatten.toArray := by
    have f0 : ∀ m : Nat, List.foldl (fun x1 x2 => x1 ++ x2) #[] (List.replicate m its.toArray) = (List.replicate m its).flatten.toArray := fun m => size_rep its m
    rw [f0]
    cases its with
    | nil => simp
    | cons a r' => rw [if_neg (by simp)]
  refine wpAny_binaryOp_repeat_ref (T := "list") (U := "int") (by decide) ⟨_, e, rfl⟩ (fun s' => typeIs_int s' k t) noFill_list_mul F.fills_int_mul F.slot_int_rmul repeat_list F.slot_int_index.lookup
    (call_meets F.slot_int_rmul (typeIs_int s k t) F.entry_int_rmul (F.args_int_rmul_2 _ _) (int___rmul___int_list k t l its.toArray n)
      ⟨e, rfl, ⟨_, e, rfl⟩, call_meets F.slot_list_mul ⟨_, e, rfl⟩ F.entry_list_mul (F.args_list_mul_2 _ _) (AutoListH.list___mul___list_int_3 l its.toArray n k t hfit hcap hlong) ⟨e, ?_⟩⟩)
  rw [hnew]
  exact ⟨.ref _, _, I.lnew (t' := s.toks) (r.rep k.toNat) (by rw [PyProof.Rows.lm_len_rep_flat, Nat.mul_comm]; exact hz), rfl, q _ I.fresh⟩
/-- a tuple so often -/
def rRepA (K : PySem.W.Frag) : R2 := fun x y H Q => ∃ l k xs, x = .ref l ∧ y = .int k ∧ SqT K H l xs ∧ -1000 ≤ k ∧ k ≤ 1000 ∧ xs.length ≤ 1000 ∧
  ((xs = [] ∨ k = 1) → Q (.ref l) H) ∧ ∀ p, H p = none → Q (.ref p) (upd H p (.tup (List.replicate k.toNat xs).flatten))
theorem op_repA : OpR X (binaryOp .Mult) (rRepA X.K) := by
  intro pins s σ H x y v u Q I rx ry h
  obtain ⟨l, k, xs, rfl, rfl, hT, h1, h2, hz, q0, q⟩ := h
  by_cases big : xs ≠ [] ∧ 2 ≤ k
  · exact op_repT pins s σ H _ _ v u Q I rx ry ⟨l, k, xs, rfl, rfl, hT, big.1, big.2, h2, hz, q⟩
  cases rx
  obtain ⟨t, rfl⟩ := ry
  obtain ⟨its, r, ⟨⟨cls, dd, data, sl⟩, ho, hc, n, hd⟩, hs⟩ := I.tuple hT
  simp only at hc hd
  subst hc hd
  have hle : its.length = xs.length := r.length.symm
  have c0 : (decide (k < -(2 ^ 63)) || decide (k ≥ 2 ^ 63)) = false := by rw [decide_eq_false (by omega), decide_eq_false (by omega)] <;> rfl
  have hem : its.toArray.isEmpty = xs.isEmpty := by
    cases xs with
    | nil => cases its with
      | nil => rfl
      | cons a b => simp at hle
    | cons a b => cases its with
      | nil => simp at hle
      | cons a b => rfl
  refine wpAny_binaryOp_repeat_ref (T := "tuple") (U := "int") (by decide) ⟨_, ho, rfl⟩ (fun s' => typeIs_int s' k t) noFill_tuple_mul F.fills_int_mul F.slot_int_rmul repeat_tuple F.slot_int_index.lookup
    (call_meets F.slot_int_rmul (typeIs_int s k t) F.entry_int_rmul (F.args_int_rmul_2 _ _) (int_rmul_tuple k t l its.toArray n dd sl)
      ⟨ho, rfl, ⟨_, ho, rfl⟩, ?_⟩)
  by_cases one : xs = [] ∨ k = 1
  · have c1 : (its.toArray.isEmpty || k == 1) = true := by
      rw [hem]
      rcases one with e | e
      · subst e; rfl
      · subst e; simp
    exact call_meets F.slot_tuple_mul ⟨_, ho, rfl⟩ F.entry_tuple_mul (F.args_tuple_mul_2 _ _) (PvX.tuple_mul_one l its.toArray n dd sl k t c0 c1) ⟨ho, .ref l, H, I, rfl, q0 one⟩
  · have hk : k ≤ 0 := by
      have a1 : ¬ k = 1 := fun e => one (.inr e)
      have a2 : ¬ 2 ≤ k := fun e => big ⟨fun z => one (.inl z), e⟩
      omega
    have hne : xs.isEmpty = false := by
      cases xs with
      | nil => exact absurd (.inl rfl) one
      | cons a b => rfl
    have c1 : (its.toArray.isEmpty || k == 1) = false := by rw [hem, hne, Bool.false_or]; exact beq_eq_false_iff_ne.mpr (by omega)
    have c2 : (decide (k ≤ 0) || its.toArray.isEmpty) = true := by rw [decide_eq_true hk]; rfl
    have e0 : (List.replicate k.toNat xs).flatten = [] := by rw [show k.toNat = 0 by omega]; rfl
    rw [e0] at q
    refine call_meets F.slot_tuple_mul ⟨_, ho, rfl⟩ F.entry_tuple_mul (F.args_tuple_mul_2 _ _) (PvX.tuple_mul_none l its.toArray n dd sl k t c0 c1 c2) ⟨ho, ?_⟩
    exact ⟨.ref s.heap.objs.size, _, I.laid (t' := s.toks) (o := .tup []) (fun b ob q => Heap.get?_push_of_some _ q) (Nat.le_refl _) ⟨by rw [sizeLine_eq]; decide, [], .nil, IsTup.new _ _⟩, rfl, q _ (I.hok.fresh (Nat.le_refl _))⟩
end
/-! ### what a value is -/
inductive Lv (K : PySem.W.Frag) (H : Hp) : V → D → Prop
  | fz {v : V} {d : D} : Fz K H v d → Lv K H v d
  | lst {a : Addr} {xs : List V} {ds : List D} : H a = some (.lst xs) → FzAll K H xs ds → Lv K H (.ref a) (.list ds)
section
variable {K : PySem.W.Frag} {H : Hp} {v : V} {T : Tab} {ms : List Addr} {w : W} {u : IV}
theorem Lv.dp {d : D} (h : Lv K H v d) (p : d.plain = true) : Dp K H v d := by
  cases h with
  | fz h => exact h.dp p
  | lst h r => exact .lst (.of h) (r.dp (by simpa [PyData.plain] using p))
theorem Lv.list {ds : List D} (h : Lv K H v (.list ds)) : ∃ a xs, v = .ref a ∧ Rd H a (.lst xs) ∧ FzAll K H xs ds := by
  cases h with
  | fz h => cases h with | lst h r => exact ⟨_, _, rfl, h.rd, r⟩
  | lst h r => exact ⟨_, _, rfl, .inl h, r⟩
theorem Lv.tuple {ds : List D} (h : Lv K H v (.tuple ds)) : ∃ a xs, v = .ref a ∧ SqT K H a xs ∧ FzAll K H xs ds := by
  cases h with
  | fz h => cases h with | tup h r => exact ⟨_, _, rfl, h, r⟩
theorem Lv.int {i : Int} (h : Lv K H v (.int i)) : v = .int i := by cases h with | fz h => cases h; rfl
theorem Lv.bl {b : Bool} (h : Lv K H v (.bool b)) : v = .bl b := by cases h with | fz h => cases h; rfl
theorem Lv.str {b : Str} (h : Lv K H v (.str b)) : v = .str b := by cases h with | fz h => cases h; rfl
theorem Lv.non (h : Lv K H v .none) : v = .non := by cases h with | fz h => cases h; rfl
theorem rd_lv {d : D} (r : RelI T K ms H u v) (rw' : RelW K ms H w) (e : rd w u = some d) : Lv K H v d := by
  cases u with
  | d x => cases e; exact .fz r
  | ref n =>
    obtain ⟨a, h1, rfl⟩ := r
    simp only [rd] at e
    cases hc : w[n]? with
    | none => rw [hc] at e; cases e
    | some c =>
      rw [hc] at e
      cases c with
      | lst xs =>
        cases e
        obtain ⟨xs', h2, h3⟩ := rw'.at_ n _ a hc h1
        exact .lst h2 h3
      | dct _ => cases e
      | dead => cases e
  | exc c x => cases e
end
/-- as RelI, but a list is new and nobody else's -/
def RelF (T : Tab) (K : PySem.W.Frag) : Rel IV V := fun H0 ms H v u => match v with
  | .d (.list ds) => ∃ a xs, u = .ref a ∧ H0 a = none ∧ a ∉ ms ∧ H a = some (.lst xs) ∧ FzAll K H xs ds
  | v => RelI T K ms H v u
instance {T : Tab} {K : PySem.W.Frag} : RM (RelF T K) := ⟨fun {H ms H1 ms1 m' H' a b} g h => by
  cases a with
  | d x => cases x with
    | list ds =>
      obtain ⟨p, xs, e, h0, r⟩ := h
      exact ⟨p, xs, e, g.none h0, r⟩
    | _ => exact h
  | ref n => exact h
  | exc c x => exact h⟩
/-- an operation on two values -/
def rF2 (T : Tab) (K : PySem.W.Frag) (g : IV → IV → W → R IV) : R2 := fun x y H Q => ∃ ms w u v P, RelI T K ms H u x ∧ RelI T K ms H v y ∧ RelW K ms H w ∧ endsR T K ms H P (RelF T K) Q (g u v w)
def rI2 (T : Tab) (K : PySem.W.Frag) (g : IV → IV → W → R IV) : R2 := fun x y H Q => ∃ ms w u v P, RelI T K ms H u x ∧ RelI T K ms H v y ∧ RelW K ms H w ∧ endsR T K ms H P (relI T K) Q (g u v w)
def binV (o : Operator) (u v : IV) (w : W) : R IV := match rd w u, rd w v with
  | some x, some y => ofO ((binD o x y).map IV.d) w
  | _, _ => .no
theorem sz_of {n : Nat} (h : okL n = true) : n ≤ sizeLine := by rw [sizeLine_eq]; exact of_decide_eq_true h
/-- the end where a new tuple is laid -/
theorem end_tup {T : Tab} {K : PySem.W.Frag} {ms : List Addr} {H : Hp} {P : Value → Option Addr → Hp → Prop} {Q : VK} {w : W} {ds : List D} {xs : List V} (h : endsR T K ms H P (relI T K) Q (.ok (.d (.tuple ds)) w)) (rw' : RelW K ms H w) (r : FzAll K H xs ds)
    {p : Addr} (hp : H p = none) : Q (.ref p) (upd H p (.tup xs)) :=
  h _ _ ms (Ext.new hp) (show Fz K _ _ _ from .tup (.of upd_same) (r.grow (Grow.new hp))) (rw'.new hp)
theorem end_lst {T : Tab} {K : PySem.W.Frag} {ms : List Addr} {H : Hp} {P : Value → Option Addr → Hp → Prop} {Q : VK} {w : W} {ds : List D} {xs : List V} (h : endsR T K ms H P (RelF T K) Q (.ok (.d (.list ds)) w)) (rw' : RelW K ms H w) (r : FzAll K H xs ds)
    {p : Addr} (hp : H p = none) : Q (.ref p) (upd H p (.lst xs)) :=
  h (.ref p) (upd H p (.lst xs)) ms (Ext.new hp) (by
    refine ⟨p, xs, rfl, hp, fun z => ?_, upd_same, r.grow (Grow.new hp)⟩
    obtain ⟨u, e⟩ := rw'.mem z
    rw [hp] at e; cases e) (rw'.new hp)
theorem relF_I {T : Tab} {K : PySem.W.Frag} {H0 : Hp} {ms : List Addr} {H : Hp} {x : D} {u : V} (h : ∀ ds, x ≠ .list ds) (r : Fz K H u x) : RelF T K H0 ms H (.d x) u := by
  cases x with
  | list ds => exact absurd rfl (h ds)
  | _ => exact r
theorem endF_tup {T : Tab} {K : PySem.W.Frag} {ms : List Addr} {H : Hp} {P : Value → Option Addr → Hp → Prop} {Q : VK} {w : W} {ds : List D} {xs : List V} (h : endsR T K ms H P (RelF T K) Q (.ok (.d (.tuple ds)) w)) (rw' : RelW K ms H w) (r : FzAll K H xs ds)
    {p : Addr} (hp : H p = none) : Q (.ref p) (upd H p (.tup xs)) :=
  h _ _ ms (Ext.new hp) (show Fz K _ _ _ from .tup (.of upd_same) (r.grow (Grow.new hp))) (rw'.new hp)
theorem log2_lt {i : Int} (h : okI i = true) : i.natAbs.log2 < 60000000 := of_decide_eq_true h
theorem mul_ok {i j : Int} (hi : okI i = true) (hj : okI j = true) : IntMulOk i j := by
  refine CMulX.ok ?_
  have b : ∀ x : Int, Builtin.Int.intBits x ≤ x.natAbs.log2 + 1 := fun x => by unfold Builtin.Int.intBits; split <;> omega
  have h1 := b i
  have h2 := b j
  have h3 := log2_lt hi
  have h4 := log2_lt hj
  unfold CMulX
  omega
theorem div_ok {i j : Int} (h : okDiv i j = true) : j ≠ 0 ∧ Builtin.divisionGoesByPylong i j = false := by
  unfold okDiv at h
  rw [Bool.and_eq_true, Bool.or_eq_true, decide_eq_true_eq, decide_eq_true_eq, bne_iff_ne] at h
  refine ⟨h.1, ?_⟩
  rcases h.2 with h' | h'
  · exact PyProof.noPylong_of_log2 h'
  · show (decide ((if j == 0 then 0 else j.natAbs.log2 / 30 + 1) > 300) && decide ((if i == 0 then 0 else i.natAbs.log2 / 30 + 1) > (if j == 0 then 0 else j.natAbs.log2 / 30 + 1) + 150)) = false
    rw [if_neg (show ¬ (j == 0) = true by simpa using h.1)]
    have k : ¬ ((if i == 0 then 0 else i.natAbs.log2 / 30 + 1) > j.natAbs.log2 / 30 + 1 + 150) := by
      split <;> omega
    rw [decide_eq_false k, Bool.and_false]
theorem bin_ok {T : Tab} {X : Cx} (o : Operator) : OpR X (binaryOp o) (rF2 T X.K (binV o)) := by
  intro pins s σ H x y v u Q I rx ry h
  obtain ⟨ms, w, a, b, P, ra, rb, rw', h⟩ := h
  unfold binV at h
  cases ea : rd w a with
  | none => rw [ea] at h; cases rd w b <;> exact False.elim h
  | some d =>
  cases eb : rd w b with
  | none => rw [ea, eb] at h; exact False.elim h
  | some e =>
  rw [ea, eb] at h
  have la := rd_lv ra rw' ea
  have lb := rd_lv rb rw' eb
  dsimp only at h
  have fin : ∀ z : D, binD o d e = some z → (∀ ds, z ≠ .list ds) → ∀ q : V, Fz X.K H q z → Q q H := fun z hz hn q hq => by
    rw [hz] at h
    exact endI h (relF_I hn hq) rw'
  unfold binD at h fin
  split at h
  · cases la.int; cases lb.int
    exact op_add pins s σ H _ _ v u Q I rx ry ⟨_, _, rfl, rfl, fin _ rfl (fun _ z => by cases z) _ (.int _)⟩
  · cases la.str; cases lb.str
    split at h
    · rename_i hz
      exact op_add_str pins s σ H _ _ v u Q I rx ry ⟨_, _, rfl, rfl, sz_of hz, endI h (relF_I (fun _ z => by cases z) (.str _)) rw'⟩
    · exact False.elim h
  · obtain ⟨a1, xs, rfl, h1, f1⟩ := la.tuple
    obtain ⟨a2, ys, rfl, h2, f2⟩ := lb.tuple
    split at h
    · rename_i hz
      refine op_catA pins s σ H _ _ v u Q I rx ry ⟨a1, a2, xs, ys, rfl, rfl, h1, h2, by rw [f1.length, f2.length]; exact sz_of hz, fun e => ?_, fun _ e => ?_, fun _ _ p hp => endF_tup h rw' (f1.append f2) hp⟩
      · subst e
        cases f1
        exact endI h (relF_I (fun _ z => by cases z) (.tup h2 f2)) rw'
      · subst e
        cases f2
        rw [List.append_nil] at h
        exact endI h (relF_I (fun _ z => by cases z) (.tup h1 f1)) rw'
    · exact False.elim h
  · obtain ⟨a1, xs, rfl, h1, f1⟩ := la.list
    obtain ⟨a2, ys, rfl, h2, f2⟩ := lb.list
    split at h
    · rename_i hz
      exact op_catR pins s σ H _ _ v u Q I rx ry ⟨a1, a2, xs, ys, rfl, rfl, h1, h2, by rw [f1.length, f2.length]; exact sz_of hz, fun p hp => end_lst h rw' (f1.append f2) hp⟩
    · exact False.elim h
  · cases la.int; cases lb.int
    exact op_sub pins s σ H _ _ v u Q I rx ry ⟨_, _, rfl, rfl, fin _ rfl (fun _ z => by cases z) _ (.int _)⟩
  · cases la.int; cases lb.int
    split at h
    · rename_i hz
      rw [Bool.and_eq_true] at hz
      obtain ⟨t, rfl⟩ := rx
      obtain ⟨t', rfl⟩ := ry
      exact mul_int ⟨.int _, H, I.tok _, ⟨_, rfl⟩, endI h (relF_I (fun _ z => by cases z) (.int _)) rw'⟩ (mul_ok hz.1 hz.2)
    · exact False.elim h
  · cases lb.int
    obtain ⟨a1, xs, rfl, h1, f1⟩ := la.tuple
    split at h
    · rename_i hz
      simp only [Bool.and_eq_true, decide_eq_true_eq] at hz
      refine op_repA pins s σ H _ _ v u Q I rx ry ⟨a1, _, xs, rfl, rfl, h1, hz.2, hz.1.2, by rw [f1.length]; exact hz.1.1, fun e => ?_, fun p hp => endF_tup h rw' (f1.rep _) hp⟩
      refine endI h (relF_I (fun _ z => by cases z) ?_) rw'
      rcases e with e | e
      · subst e
        cases f1
        rw [show ∀ n : Nat, (List.replicate n ([] : List D)).flatten = [] from fun n => by induction n with | zero => rfl | succ n ih => rw [List.replicate_succ, List.flatten_cons, ih]; rfl]
        exact .tup h1 .nil
      · subst e
        rw [show (List.replicate (1 : Int).toNat _).flatten = _ from List.append_nil _]
        exact .tup h1 f1
    · exact False.elim h
  · cases lb.int
    obtain ⟨a1, xs, rfl, h1, f1⟩ := la.list
    split at h
    · rename_i hz
      simp only [Bool.and_eq_true, decide_eq_true_eq] at hz
      refine op_repR pins s σ H _ _ v u Q I rx ry ⟨a1, _, xs, rfl, rfl, h1, by omega, by omega, ?_, fun p hp => end_lst h rw' (f1.rep _) hp⟩
      rw [f1.length, sizeLine_eq]
      exact Nat.le_trans (Nat.mul_le_mul hz.1.1 (show _ ≤ 1000 by omega)) (by decide)
    · exact False.elim h
  · cases la.int; cases lb.int
    split at h
    · rename_i hz
      obtain ⟨k1, k2⟩ := div_ok hz
      obtain ⟨t, rfl⟩ := rx
      obtain ⟨t', rfl⟩ := ry
      exact floordiv_int k1 ⟨.int _, H, I.tok _, ⟨_, rfl⟩, endI h (relF_I (fun _ z => by cases z) (.int _)) rw'⟩ (.inl k2)
    · exact False.elim h
  · cases la.int; cases lb.int
    split at h
    · rename_i hz
      exact op_modN pins s σ H _ _ v u Q I rx ry ⟨_, _, rfl, rfl, by simpa using hz, endI h (relF_I (fun _ z => by cases z) (.int _)) rw'⟩
    · exact False.elim h
  · cases la.int; cases lb.int
    split at h
    · rename_i hz
      simp only [Bool.and_eq_true, decide_eq_true_eq] at hz
      exact op_pow pins s σ H _ _ v u Q I rx ry ⟨_, _, rfl, rfl, ⟨hz.1.1, hz.1.2, hz.2⟩, endI h (relF_I (fun _ z => by cases z) (.int _)) rw'⟩
    · exact False.elim h
  · exact False.elim h
end Pv

/-! Part D: comparisons, items, slices, built-in functions, by values. -/
namespace Pv
open PySem PySem.Spec PyProof.Rows L2
section
variable {T : Tab} {K : PySem.W.Frag} {ms : List Addr} {H : Hp} {w : W}
theorem okD_iff {x : D} (h : okD x = true) : x.plain = true ∧ x.depth ≤ 60 := by
  unfold okD at h
  rw [Bool.and_eq_true, decide_eq_true_eq] at h
  exact h
theorem cmp_nn {o : CmpOp} {d : D} : cmpD o d .none = none ∨ o = .Eq ∨ o = .NotEq ∨ o = .Is ∨ o = .IsNot := by
  cases o <;> cases d <;> simp [cmpD]
theorem Fz.isN {v : V} {d : D} (h : Fz K H v d) : decide (v = .non) = isNone d := by
  cases h <;> rfl
theorem Lv.isN {v : V} {d : D} (h : Lv K H v d) : decide (v = .non) = isNone d := by
  cases h with
  | fz h => exact h.isN
  | lst h r => rfl
end
/-- a comparison by data -/
def rCmp (K : PySem.W.Frag) (o : CmpOp) : R2 := fun x y H Q => ∃ d e k, Lv K H x d ∧ Lv K H y e ∧ cmpD o d e = some k ∧ Q (.bl k) H
theorem min_le60 {d e : D} (h : d.depth ≤ 60) : min d.depth e.depth ≤ 60 := Nat.le_trans (Nat.min_le_left _ _) h
theorem cmp_ok {X : Cx} {k : Nat} (hr : Room k X.A) (o : CmpOp) : OpR X (compareOp o) (rCmp X.K o) := by
  intro pins s σ H x y v u Q I rx ry h
  obtain ⟨d, e, b, la, lb, hc, q⟩ := h
  have hu := hr.units
  have R1 := fun p => Dp.reads I d x v (la.dp p) rx
  have R2 := fun p => Dp.reads I e y u (lb.dp p) ry
  unfold cmpD at hc
  split at hc
  · split at hc
    · rename_i hz
      rw [Bool.and_eq_true] at hz
      cases hc
      obtain ⟨p1, d1⟩ := okD_iff hz.1
      obtain ⟨p2, d2⟩ := okD_iff hz.2
      obtain ⟨as, r1⟩ := R1 p1
      obtain ⟨bs, r2⟩ := R2 p2
      exact SeqAt.eq_plain r1 r2 p1 p2 (by have := Nat.min_le_left d.depth e.depth; omega) ⟨.bl _, H, I, rfl, q⟩
    · cases hc
  · split at hc
    · rename_i hz
      rw [Bool.and_eq_true] at hz
      cases hc
      obtain ⟨p1, d1⟩ := okD_iff hz.1
      obtain ⟨p2, d2⟩ := okD_iff hz.2
      obtain ⟨as, r1⟩ := R1 p1
      obtain ⟨bs, r2⟩ := R2 p2
      exact SeqAt.ne_plain r1 r2 p1 p2 (by have := Nat.min_le_left d.depth e.depth; omega) ⟨.bl _, H, I, rfl, q⟩
    · cases hc
  · cases hc; cases la.int; cases lb.int
    exact op_lt pins s σ H _ _ v u Q I rx ry ⟨_, _, rfl, rfl, q⟩
  · cases hc; cases la.int; cases lb.int
    exact op_le pins s σ H _ _ v u Q I rx ry ⟨_, _, rfl, rfl, q⟩
  · cases hc; cases la.int; cases lb.int
    exact op_gt pins s σ H _ _ v u Q I rx ry ⟨_, _, rfl, rfl, q⟩
  · cases hc; cases la.int; cases lb.int
    exact op_ge pins s σ H _ _ v u Q I rx ry ⟨_, _, rfl, rfl, q⟩
  · cases hc; cases lb.non
    refine op_isN pins s σ H _ _ v u Q I rx ry ⟨rfl, ?_⟩
    rw [la.isN]; exact q
  · cases hc; cases lb.non
    refine op_notN pins s σ H _ _ v u Q I rx ry ⟨rfl, ?_⟩
    rw [la.isN]; exact q
  · split at hc
    · rename_i hz
      rw [Bool.and_eq_true] at hz
      cases hc
      obtain ⟨p1, d1⟩ := okD_iff hz.1
      obtain ⟨p2, d2⟩ := okD_iff hz.2
      obtain ⟨as, r1⟩ := R1 p1
      obtain ⟨bs, r2⟩ := R2 p2
      exact SeqAt.in_list_data r2 r1 (by simpa [PyData.plain] using p2) p1 (by have := Nat.min_le_right (PyData.depthAll ‹List D›) d.depth; omega) ⟨.bl _, H, I, rfl, q⟩
    · cases hc
  · split at hc
    · rename_i hz
      rw [Bool.and_eq_true] at hz
      cases hc
      obtain ⟨p1, d1⟩ := okD_iff hz.1
      obtain ⟨p2, d2⟩ := okD_iff hz.2
      obtain ⟨as, r1⟩ := R1 p1
      obtain ⟨bs, r2⟩ := R2 p2
      exact SeqAt.in_tuple_data r2 r1 (by simpa [PyData.plain] using p2) p1 (by have := Nat.min_le_right (PyData.depthAll ‹List D›) d.depth; omega) ⟨.bl _, H, I, rfl, q⟩
    · cases hc
  · split at hc
    · rename_i hz
      rw [Bool.and_eq_true] at hz
      cases hc
      obtain ⟨p1, d1⟩ := okD_iff hz.1
      obtain ⟨p2, d2⟩ := okD_iff hz.2
      obtain ⟨as, r1⟩ := R1 p1
      obtain ⟨bs, r2⟩ := R2 p2
      exact SeqAt.notIn_list_data r2 r1 (by simpa [PyData.plain] using p2) p1 (by have := Nat.min_le_right (PyData.depthAll ‹List D›) d.depth; omega) ⟨.bl _, H, I, rfl, q⟩
    · cases hc
  · split at hc
    · rename_i hz
      rw [Bool.and_eq_true] at hz
      cases hc
      obtain ⟨p1, d1⟩ := okD_iff hz.1
      obtain ⟨p2, d2⟩ := okD_iff hz.2
      obtain ⟨as, r1⟩ := R1 p1
      obtain ⟨bs, r2⟩ := R2 p2
      exact SeqAt.notIn_tuple_data r2 r1 (by simpa [PyData.plain] using p2) p1 (by have := Nat.min_le_right (PyData.depthAll ‹List D›) d.depth; omega) ⟨.bl _, H, I, rfl, q⟩
    · cases hc
  · cases hc
/-- .. of the machine's values -/
def rCmpI (T : Tab) (K : PySem.W.Frag) (o : CmpOp) : R2 := fun x y H Q => ∃ ms w a b k, RelI T K ms H a x ∧ RelI T K ms H b y ∧ RelW K ms H w ∧ cmpV o w a b = some k ∧ Q (.bl k) H
theorem cmpI_ok {T : Tab} {X : Cx} {k : Nat} (hr : Room k X.A) (o : CmpOp) : OpR X (compareOp o) (rCmpI T X.K o) := by
  intro pins s σ H x y v u Q I rx ry h
  obtain ⟨ms, w, a, b, c, ra, rb, rw', hc, q⟩ := h
  unfold cmpV at hc
  cases ea : rd w a with
  | some d =>
    cases eb : rd w b with
    | some e =>
      rw [ea, eb] at hc
      exact cmp_ok hr o pins s σ H x y v u Q I rx ry ⟨d, e, c, rd_lv ra rw' ea, rd_lv rb rw' eb, hc, q⟩
    | none => rw [ea, eb] at hc; cases hc
  | none =>
    cases a with
    | d z => cases ea
    | exc _ _ => exact False.elim ra
    | ref n =>
      cases eb : rd w b with
      | none => rw [ea, eb] at hc; cases hc
      | some e =>
        rw [ea, eb] at hc
        cases e <;> first | cases hc | (dsimp only at hc; split at hc <;> first | cases hc | (rename_i z; cases z))
/-! ### items -/
theorem ixN_L {n : Nat} {i : Int} : ixN n i = L2.ixN n i := rfl
theorem sub_ok {T : Tab} {X : Cx} : IxR X (rI2 T X.K fun u v w => match rd w u, rd w v with | some x, some y => ofO ((subD x y).map IV.d) w | _, _ => .no) := by
  intro value slice pins s σ H x y v u Q I rx ry h hs
  obtain ⟨ms, w, a, b, P, ra, rb, rw', h⟩ := h
  dsimp only at h
  cases ea : rd w a with
  | none => rw [ea] at h; cases rd w b <;> exact False.elim h
  | some d =>
  cases eb : rd w b with
  | none => rw [ea, eb] at h; exact False.elim h
  | some e =>
  rw [ea, eb] at h
  have la := rd_lv ra rw' ea
  have lb := rd_lv rb rw' eb
  dsimp only at h
  unfold subD at h
  split at h
  · cases lb.int
    obtain ⟨a1, xs, rfl, h1, f1⟩ := la.list
    rename_i ds i
    cases hj : ixN ds.length i with
    | none => rw [hj] at h; exact False.elim h
    | some j =>
    rw [hj, Option.bind_some] at h
    cases hd : ds[j]? with
    | none => rw [hd] at h; exact False.elim h
    | some z =>
    rw [hd] at h
    obtain ⟨q, hq, fq⟩ := f1.get hd
    refine ix_list value slice pins s σ H _ _ v u Q I rx ry ⟨a1, xs, i, q, rfl, rfl, .inl h1, ?_, endI h (show Fz _ _ _ _ from fq) rw'⟩ hs
    unfold atI
    rw [f1.length, ← ixN_L, hj, Option.bind_some, hq]
  · cases lb.int
    obtain ⟨a1, xs, rfl, h1, f1⟩ := la.tuple
    rename_i ds i
    cases hj : ixN ds.length i with
    | none => rw [hj] at h; exact False.elim h
    | some j =>
    rw [hj, Option.bind_some] at h
    cases hd : ds[j]? with
    | none => rw [hd] at h; exact False.elim h
    | some z =>
    rw [hd] at h
    obtain ⟨q, hq, fq⟩ := f1.get hd
    refine ix_tup value slice pins s σ H _ _ v u Q I rx ry ⟨a1, xs, i, q, rfl, rfl, h1, ?_, endI h (show Fz _ _ _ _ from fq) rw'⟩ hs
    unfold atI
    rw [f1.length, ← ixN_L, hj, Option.bind_some, hq]
  · exact False.elim h
/-! ### slices -/
theorem clip_L (n d : Nat) : ∀ o : Option Int, d ≤ n → clip n d o = HT.sIx n d o
  | none, _ => rfl
  | some i, hd => by
    show (if i < 0 then (if i + n < 0 then 0 else (i + n).toNat) else (if (n : Int) < i then n else i.toNat)) = (if i < 0 then (i + (n : Int)).toNat else min i.toNat n)
    by_cases h : i < 0
    · rw [if_pos h, if_pos h]
      split <;> omega
    · rw [if_neg h, if_neg h]
      split <;> omega
theorem cut_map {K : PySem.W.Frag} {H : Hp} {xs : List V} {ds : List D} (f : FzAll K H xs ds) (lo hi : Option Int) : FzAll K H (cutV xs lo hi) (cut ds lo hi) := by
  unfold cutV cut
  rw [clip_L _ _ _ (Nat.zero_le _), clip_L _ _ _ (Nat.le_refl _), f.length]
  exact (f.drop _).take _
def rSlI (T : Tab) (K : PySem.W.Frag) : V → Option Int → Option Int → Hp → VK → Prop := fun x lo hi H Q => ∃ ms w a d P, RelI T K ms H a x ∧ RelW K ms H w ∧ rd w a = some d ∧ endsR T K ms H P (RelF T K) Q (ofO ((slD d lo hi).map IV.d) w)
theorem sl_ok {T : Tab} {X : Cx} : SlR X (rSlI T X.K) := by
  intro pins s σ H x v vl vu lo hi sl Q I rx hs pl pu h
  obtain ⟨ms, w, a, d, P, ra, rw', ea, h⟩ := h
  have la := rd_lv ra rw' ea
  unfold slD at h
  split at h
  · obtain ⟨a1, xs, rfl, h1, f1⟩ := la.list
    exact sl_list pins s σ H _ v vl vu lo hi sl Q I rx hs pl pu ⟨a1, xs, rfl, .inl h1, fun p hp => end_lst h rw' (cut_map f1 _ _) hp⟩
  · obtain ⟨a1, xs, rfl, h1, f1⟩ := la.tuple
    rename_i ds
    refine sl_tupA pins s σ H _ v vl vu lo hi sl Q I rx hs pl pu ⟨a1, xs, rfl, h1, fun e => ?_, fun _ p hp => endF_tup h rw' (cut_map f1 _ _) hp⟩
    have e2 : cut ds lo hi = ds := by
      unfold cut
      rw [clip_L _ _ _ (Nat.zero_le _), clip_L _ _ _ (Nat.le_refl _), ← f1.length, e.1, e.2, f1.length]
      simp
    rw [e2] at h
    exact endI h (relF_I (fun _ z => by cases z) (.tup h1 f1)) rw'
  · exact False.elim h
/-! ### built-in functions -/
def bltV (f : B) (us : List IV) (w : W) : R IV := match rdAll w us with
  | some xs => ofO ((bltD f xs).map IV.d) w
  | none => .no
theorem rdAll_lv {T : Tab} {K : PySem.W.Frag} {ms : List Addr} {H : Hp} {w : W} (rw' : RelW K ms H w) : ∀ {us : List IV} {xs : List V} {ds : List D}, RelA T K ms H us xs → rdAll w us = some ds → Paired (Lv K H) xs ds
  | [], _, _, .nil, e => by cases e; exact .nil
  | u :: us, _, ds, .cons r rr, e => by
    unfold rdAll at e
    cases h1 : rd w u with
    | none => rw [h1] at e; cases e
    | some d =>
    rw [h1, Option.bind_some] at e
    cases h2 : rdAll w us with
    | none => rw [h2] at e; cases e
    | some es =>
    rw [h2] at e
    cases e
    exact .cons (rd_lv r rw' h1) (rdAll_lv rw' rr h2)
def cal : B → Value
  | .len => .builtin "len"
  | .int => .type "int"
  | .abs => .builtin "abs"
  | .max => .builtin "max"
  | .min => .builtin "min"
  | .sum => .builtin "sum"
  | .all => .builtin "all"
  | .any => .builtin "any"
  | .tuple => .type "tuple"
  | .list => .type "list"
  | .gcd => .builtin "math.gcd"
  | .lcm => .builtin "math.lcm"
  | .isqrt => .builtin "math.isqrt"
  | .sorted => .builtin "sorted"
  | .str => .type "str"
  | .bool => .type "bool"
def rFA (T : Tab) (K : PySem.W.Frag) (g : List IV → W → R IV) : List V → Hp → VK → Prop := fun xs H Q => ∃ ms w us P, RelA T K ms H us xs ∧ RelW K ms H w ∧ endsR T K ms H P (RelF T K) Q (g us w)
theorem ints_fz {K : PySem.W.Frag} {H : Hp} : ∀ {xs : List V} {ds : List D} {ns : List Int}, FzAll K H xs ds → ints? ds = some ns → xs = ns.map V.int
  | _, _, _, .nil, e => by cases e; rfl
  | _, _, ns, .cons h r, e => by
    cases h <;> first
      | (cases e; done)
      | (rename_i i
         unfold ints? at e
         cases e2 : ints? _ with
         | none => rw [e2] at e; cases e
         | some ms => rw [e2] at e; cases e; rw [ints_fz r e2]; rfl)
theorem bools_fz {K : PySem.W.Frag} {H : Hp} : ∀ {xs : List V} {ds : List D} {ns : List Bool}, FzAll K H xs ds → bools? ds = some ns → xs = ns.map V.bl
  | _, _, _, .nil, e => by cases e; rfl
  | _, _, ns, .cons h r, e => by
    cases h <;> first
      | (cases e; done)
      | (rename_i i
         unfold bools? at e
         cases e2 : bools? _ with
         | none => rw [e2] at e; cases e
         | some ms => rw [e2] at e; cases e; rw [bools_fz r e2]; rfl)
theorem maxL_is : ∀ {ns : List Int} {m : Int}, maxL ns = some m → m ∈ ns ∧ ∀ y ∈ ns, y ≤ m
  | [], _, e => by cases e
  | [i], _, e => by cases e; simp
  | i :: j :: r, m, e => by
    simp only [maxL] at e
    cases e2 : maxL (j :: r) with
    | none => rw [e2] at e; cases e
    | some k =>
    rw [e2] at e
    have e' : (if k < i then i else k) = m := Option.some.inj e
    subst e'
    obtain ⟨h1, h2⟩ := maxL_is e2
    by_cases c : k < i
    · rw [if_pos c]
      exact ⟨List.mem_cons_self, fun y hy => (List.mem_cons.mp hy).elim (fun z => by omega) fun z => by have := h2 y z; omega⟩
    · rw [if_neg c]
      exact ⟨List.mem_cons_of_mem _ h1, fun y hy => (List.mem_cons.mp hy).elim (fun z => by omega) fun z => h2 y z⟩
theorem minL_is : ∀ {ns : List Int} {m : Int}, minL ns = some m → m ∈ ns ∧ ∀ y ∈ ns, m ≤ y
  | [], _, e => by cases e
  | [i], _, e => by cases e; simp
  | i :: j :: r, m, e => by
    simp only [minL] at e
    cases e2 : minL (j :: r) with
    | none => rw [e2] at e; cases e
    | some k =>
    rw [e2] at e
    have e' : (if i < k then i else k) = m := Option.some.inj e
    subst e'
    obtain ⟨h1, h2⟩ := minL_is e2
    by_cases c : i < k
    · rw [if_pos c]
      exact ⟨List.mem_cons_self, fun y hy => (List.mem_cons.mp hy).elim (fun z => by omega) fun z => by have := h2 y z; omega⟩
    · rw [if_neg c]
      exact ⟨List.mem_cons_of_mem _ h1, fun y hy => (List.mem_cons.mp hy).elim (fun z => by omega) fun z => h2 y z⟩
theorem lcm_log {a b : Nat} (ha : a.log2 < 9000) (hb : b.log2 < 9000) : ((((Nat.lcm 1 a).lcm b : Nat) : Int)).natAbs.log2 < bitsLine := by
  have e : bitsLine = 134217728 := by decide
  rw [e, Nat.lcm_one_left, Int.natAbs_natCast]
  have h1 : a < 2 ^ 9000 := by
    by_cases z : a = 0
    · subst z; exact Nat.two_pow_pos _
    · exact (Nat.log2_lt z).mp ha
  have h2 : b < 2 ^ 9000 := by
    by_cases z : b = 0
    · subst z; exact Nat.two_pow_pos _
    · exact (Nat.log2_lt z).mp hb
  by_cases z : a.lcm b = 0
  · rw [z]; decide
  · refine Nat.lt_of_lt_of_le (show (a.lcm b).log2 < 18000 from (Nat.log2_lt z).mpr ?_) (by decide)
    have a0 : 0 < a := Nat.pos_of_ne_zero fun q => z (by rw [q, Nat.lcm_zero_left])
    have b0 : 0 < b := Nat.pos_of_ne_zero fun q => z (by rw [q, Nat.lcm_zero_right])
    refine Nat.lt_of_le_of_lt (Nat.le_of_dvd (Nat.mul_pos a0 b0) (Nat.lcm_dvd (Nat.dvd_mul_right a b) (Nat.dvd_mul_left b a))) ?_
    rw [show (18000 : Nat) = 9000 + 9000 from rfl, Nat.pow_add]
    exact Nat.mul_lt_mul'' h1 h2
theorem log2_max {a b k : Nat} (ha : a.log2 < k) (hb : b.log2 < k) : (max a b).log2 < k := by
  rcases Nat.le_total a b with h | h
  · rw [Nat.max_eq_right h]; exact hb
  · rw [Nat.max_eq_left h]; exact ha
theorem pd1 {α β : Type} {R : α → β → Prop} {xs : List α} {y : β} (h : Paired R xs [y]) : ∃ x, xs = [x] ∧ R x y := by
  cases h with
  | cons a b => cases b; exact ⟨_, rfl, a⟩
theorem pd2 {α β : Type} {R : α → β → Prop} {xs : List α} {y z : β} (h : Paired R xs [y, z]) : ∃ x x', xs = [x, x'] ∧ R x y ∧ R x' z := by
  cases h with
  | cons a b => cases b with
    | cons c d => cases d; exact ⟨_, _, rfl, a, c⟩
theorem blt_ok {T : Tab} {X : Cx} (hcalm : X.calm = true) (f : B) : CallR X (cal f) (rFA T X.K (bltV f)) := by
  intro pins s σ H xs us Q I rs h
  obtain ⟨ms, w, as, P, ra, rw', h⟩ := h
  unfold bltV at h
  cases ea : rdAll w as with
  | none => rw [ea] at h; exact False.elim h
  | some ds =>
  rw [ea] at h
  have la := rdAll_lv rw' ra ea
  dsimp only at h
  clear ea ra
  unfold bltD at h
  split at h
  · obtain ⟨x1, rfl, l1⟩ := pd1 la
    obtain ⟨a1, ys, rfl, h1, f1⟩ := l1.list
    refine call_len_seq pins s σ H _ us Q I rs ⟨a1, ys, rfl, .inl (.inl h1), ?_⟩
    rw [f1.length]
    exact endI h (relF_I (fun _ z => by cases z) (.int _)) rw'
  · obtain ⟨x1, rfl, l1⟩ := pd1 la
    obtain ⟨a1, ys, rfl, h1, f1⟩ := l1.tuple
    refine call_len_seq pins s σ H _ us Q I rs ⟨a1, ys, rfl, .inr h1, ?_⟩
    rw [f1.length]
    exact endI h (relF_I (fun _ z => by cases z) (.int _)) rw'
  · obtain ⟨x1, rfl, l1⟩ := pd1 la
    cases l1.str
    split at h
    · rename_i hz
      exact call_len_str pins s σ H _ us Q I rs ⟨_, rfl, sz_of hz, endI h (relF_I (fun _ z => by cases z) (.int _)) rw'⟩
    · exact False.elim h
  · obtain ⟨x1, rfl, l1⟩ := pd1 la
    cases l1.int
    exact call_int1 pins s σ H _ us Q I rs (.inl ⟨_, rfl, endI h (relF_I (fun _ z => by cases z) (.int _)) rw'⟩)
  · obtain ⟨x1, rfl, l1⟩ := pd1 la
    cases l1.bl
    exact call_int1 pins s σ H _ us Q I rs (.inr ⟨_, rfl, endI h (relF_I (fun _ z => by cases z) (.int _)) rw'⟩)
  · obtain ⟨x1, rfl, l1⟩ := pd1 la
    cases l1.int
    exact call_abs pins s σ H _ us Q I rs ⟨_, rfl, endI h (relF_I (fun _ z => by cases z) (.int _)) rw'⟩
  · obtain ⟨x1, x2, rfl, l1, l2⟩ := pd2 la
    cases l1.int; cases l2.int
    exact call_max2 hcalm pins s σ H _ us Q I rs ⟨_, _, rfl, endI h (relF_I (fun _ z => by cases z) (.int _)) rw'⟩
  · obtain ⟨x1, x2, rfl, l1, l2⟩ := pd2 la
    cases l1.int; cases l2.int
    exact call_min2 hcalm pins s σ H _ us Q I rs ⟨_, _, rfl, endI h (relF_I (fun _ z => by cases z) (.int _)) rw'⟩
  · obtain ⟨x1, rfl, l1⟩ := pd1 la
    obtain ⟨a1, ys, rfl, h1, f1⟩ := l1.list
    cases e2 : ints? ‹List D› with
    | none => rw [e2] at h; exact False.elim h
    | some ns =>
    rw [e2, Option.bind_some] at h
    cases e3 : maxL ns with
    | none => rw [e3] at h; exact False.elim h
    | some m =>
    rw [e3] at h
    have ey := ints_fz f1 e2
    subst ey
    obtain ⟨i1, i2⟩ := maxL_is e3
    refine cr_max hcalm pins s σ H _ us Q I rs ⟨a1, ns, rfl, .inl h1, List.length_pos_of_mem i1, fun m' hm hall => ?_⟩
    have : m' = m := by have := i2 m' hm; have := hall m i1; omega
    rw [this]
    exact endI h (relF_I (fun _ z => by cases z) (.int _)) rw'
  · obtain ⟨x1, rfl, l1⟩ := pd1 la
    obtain ⟨a1, ys, rfl, h1, f1⟩ := l1.list
    cases e2 : ints? ‹List D› with
    | none => rw [e2] at h; exact False.elim h
    | some ns =>
    rw [e2, Option.bind_some] at h
    cases e3 : minL ns with
    | none => rw [e3] at h; exact False.elim h
    | some m =>
    rw [e3] at h
    have ey := ints_fz f1 e2
    subst ey
    obtain ⟨i1, i2⟩ := minL_is e3
    refine cr_min hcalm pins s σ H _ us Q I rs ⟨a1, ns, rfl, .inl h1, List.length_pos_of_mem i1, fun m' hm hall => ?_⟩
    have : m' = m := by have := i2 m' hm; have := hall m i1; omega
    rw [this]
    exact endI h (relF_I (fun _ z => by cases z) (.int _)) rw'
  · obtain ⟨x1, rfl, l1⟩ := pd1 la
    obtain ⟨a1, ys, rfl, h1, f1⟩ := l1.list
    cases e2 : ints? ‹List D› with
    | none => rw [e2] at h; exact False.elim h
    | some ns =>
    rw [e2] at h
    have ey := ints_fz f1 e2
    subst ey
    exact cr_sum hcalm pins s σ H _ us Q I rs ⟨a1, ns, rfl, .inl h1, endI h (relF_I (fun _ z => by cases z) (.int _)) rw'⟩
  · obtain ⟨x1, rfl, l1⟩ := pd1 la
    obtain ⟨a1, ys, rfl, h1, f1⟩ := l1.list
    cases e2 : bools? ‹List D› with
    | none => rw [e2] at h; exact False.elim h
    | some ns =>
    rw [e2] at h
    have ey := bools_fz f1 e2
    subst ey
    exact cr_all hcalm pins s σ H _ us Q I rs ⟨a1, ns, rfl, .inl h1, endI h (relF_I (fun _ z => by cases z) (.bl _)) rw'⟩
  · obtain ⟨x1, rfl, l1⟩ := pd1 la
    obtain ⟨a1, ys, rfl, h1, f1⟩ := l1.list
    cases e2 : bools? ‹List D› with
    | none => rw [e2] at h; exact False.elim h
    | some ns =>
    rw [e2] at h
    have ey := bools_fz f1 e2
    subst ey
    exact cr_any hcalm pins s σ H _ us Q I rs ⟨a1, ns, rfl, .inl h1, endI h (relF_I (fun _ z => by cases z) (.bl _)) rw'⟩
  · obtain ⟨x1, rfl, l1⟩ := pd1 la
    obtain ⟨a1, ys, rfl, h1, f1⟩ := l1.list
    exact call_tuple_of pins s σ H _ us Q I rs ⟨a1, ys, rfl, .inl ⟨.inl h1, fun p hp => endF_tup h rw' f1 hp⟩⟩
  · obtain ⟨x1, rfl, l1⟩ := pd1 la
    obtain ⟨a1, ys, rfl, h1, f1⟩ := l1.tuple
    exact call_tuple_of pins s σ H _ us Q I rs ⟨a1, ys, rfl, .inr ⟨h1, endI h (relF_I (fun _ z => by cases z) (.tup h1 f1)) rw'⟩⟩
  · obtain ⟨x1, rfl, l1⟩ := pd1 la
    obtain ⟨a1, ys, rfl, h1, f1⟩ := l1.list
    exact call_list_of pins s σ H _ us Q I rs ⟨a1, ys, rfl, .inl (.inl h1), fun p hp => end_lst h rw' f1 hp⟩
  · obtain ⟨x1, rfl, l1⟩ := pd1 la
    obtain ⟨a1, ys, rfl, h1, f1⟩ := l1.tuple
    exact call_list_of pins s σ H _ us Q I rs ⟨a1, ys, rfl, .inr h1, fun p hp => end_lst h rw' f1 hp⟩
  · obtain ⟨x1, x2, rfl, l1, l2⟩ := pd2 la
    cases l1.int; cases l2.int
    exact cr_gcd pins s σ H _ us Q I rs ⟨_, _, rfl, endI h (relF_I (fun _ z => by cases z) (.int _)) rw'⟩
  · obtain ⟨x1, x2, rfl, l1, l2⟩ := pd2 la
    cases l1.int; cases l2.int
    split at h
    · rename_i hz
      rw [Bool.and_eq_true, decide_eq_true_eq, decide_eq_true_eq] at hz
      obtain ⟨t, u, rfl⟩ := Vals.int2 rs
      have o1 : (1 : Nat).log2 < 9000 := by decide
      refine call_function_meets PySem.W.MGF.kind_lcm PySem.W.MGF.plain_lcm PySem.W.MGF.entry_lcm (PySem.W.MGF.args_lcm _ _) (PySem.W.mg_run_lcm _ t _ u (by have := log2_max o1 hz.1; omega) (by have := log2_max hz.1 hz.2; omega) (lcm_log hz.1 hz.2)).meets ?_
      rw [Nat.lcm_one_left]
      exact ⟨.int _, H, I.tok _, ⟨_, rfl⟩, endI h (relF_I (fun _ z => by cases z) (.int _)) rw'⟩
    · exact False.elim h
  · obtain ⟨x1, rfl, l1⟩ := pd1 la
    cases l1.int
    split at h
    · rename_i hz
      rw [Bool.and_eq_true, decide_eq_true_eq, decide_eq_true_eq] at hz
      obtain ⟨u, rfl, rx⟩ := vals1 rs
      obtain ⟨t, rfl⟩ := rx
      rename_i i
      have e : i.toNat.log2 < 9000 := by rw [show i.toNat = i.natAbs by omega]; exact hz.2
      refine call_function_meets PySem.W.MGF.kind_isqrt PySem.W.MGF.plain_isqrt PySem.W.MGF.entry_isqrt (PySem.W.MGF.args_isqrt _) (PySem.W.mg_run_isqrt _ t (by omega) (by omega) (by omega)).meets ?_
      exact ⟨.int _, H, I.tok _, ⟨_, rfl⟩, endI h (relF_I (fun _ z => by cases z) (.int _)) rw'⟩
    · exact False.elim h
  · exact False.elim h
end Pv

/-! Part E: enumerate of a tuple; isinstance; what is done to a cell. -/
namespace PySem.PvX
open PySem
theorem enum_new1 {v : Value} {o : Obj} {H : Heap → Prop} (B : Begins v o H) :
    Meets (Builtin.«enumerate.__new__» ⟨[.type "enumerate", v], []⟩) (fun _ R s => H s.heap ∧
      R (.ok (.ret (.ref (s.heap.push o).objs.size))) { s with heap := (s.heap.push o).push { cls := .type "enumerate", data := .fields #[.none, .bool false, .ref s.heap.objs.size, rawInt 0, .none, .none] } }) :=
  .of_wp fun prog w A R s h => by
    obtain ⟨hp, g, d, tk, os⟩ := s
    obtain ⟨h1, h⟩ := h
    have hsub := sub_enumerate
    have q1 : ∀ {A' : Around} {E : Value → Shared → Prop} {Q : Value → Shared → Prop}, Q (.ref hp.objs.size) ⟨hp.push o, g, d, tk, os⟩ → wpAny (model prog w) A' (pyIter v) Q E ⟨hp, g, d, tk, os⟩ :=
      fun q => B.iter prog w _ _ ⟨hp, g, d, tk, os⟩ _ h1 q
    wp_walk using q1
    refine wpAny_stack_any fun st => wpAny_pure ?_
    split
    · rename_i c _ _ _ _ _
      cases (c == Value.type "enumerate") <;> (wp_walk using q1; exact ⟨_, rfl, h⟩)
    · wp_walk using q1
      exact ⟨_, rfl, h⟩
theorem enum_call1 {prog : Program} {w : World} {A : Around} {E : Value → Shared → Prop} {s : Shared} {v : Value} {o : Obj} {H : Heap → Prop} {Q : Value → Shared → Prop} (B : Begins v o H) (h1 : H s.heap)
    (h : ∀ h', IsEnum h' (s.heap.objs.size + 1) s.heap.objs.size 0 .none → h'.get? s.heap.objs.size = some o → (∀ b o, s.heap.get? b = some o → h'.get? b = some o) → Q (.ref (s.heap.objs.size + 1)) { s with heap := h' }) :
    wpAny (model prog w) A (call (.type "enumerate") [v]) Q E s := by
  refine callType_new F.called_enumerate (by decide) (F.typeCall_enumerate_1 _) (F.newCall_enumerate_1 _) (fun obj => F.args_object_init_2 obj _) F.entry_enumerate_new (enum_new1 B) ⟨h1, ?_⟩
  have hz : (s.heap.push o).objs.size = s.heap.objs.size + 1 := Heap.size_push ..
  show _ ∧ _
  rw [hz]
  have he : IsEnum ((s.heap.push o).push { cls := .type "enumerate", data := .fields #[.none, .bool false, .ref s.heap.objs.size, rawInt 0, .none, .none] }) (s.heap.objs.size + 1) s.heap.objs.size 0 .none := by
    have := Heap.get?_push_size (s.heap.push o) (o := { cls := .type "enumerate", data := .fields #[.none, .bool false, .ref s.heap.objs.size, rawInt 0, .none, .none] }) rfl
    rw [hz] at this
    exact this
  exact ⟨⟨_, he, rfl⟩, h _ he (Heap.get?_push_of_some _ (Heap.get?_push_size _ B.free)) fun b o x => Heap.get?_push_of_some _ (Heap.get?_push_of_some _ x)⟩
end PySem.PvX
namespace Pv
open PySem PySem.Spec PyProof.Rows L2
/-- the tuple at a, each item in a new pair with its place -/
def IteT (K : PySem.W.Frag) (a : Addr) : L2.It :=
  ⟨fun i H => ∃ (xs : List V) (x : V), SqT K H a xs ∧ xs[i]? = some x, fun i H v H' => ∃ T x, v = .ref T ∧ H T = none ∧ H' = upd H T (.tup [.int (i : Nat), x]) ∧ ∀ xs, SqT K H a xs → xs[i]? = some x, fun i H => ∃ xs : List V, SqT K H a xs ∧ xs.length ≤ i⟩
theorem turn_enumT {P : Program} {w : World} {K : PySem.W.Frag} {elts : List Expr} {kk : Nat} {tpos : Pos} (a e it : Addr) :
    Turn P w K (.Tuple elts kk tpos) (IteT K a) [e, it] e (fun i h => (∃ old, IsEnum h e it ((i : Nat) : Int) old) ∧ h.IsTupleIter it a i ∧ e ≠ it ∧ a ≠ it ∧ e ≠ a) where
  mem := by simp
  obj := fun i h st b hb => by
    obtain ⟨⟨old, he⟩, ⟨o, ho, hc, hd⟩, _⟩ := st
    have e' : b = e ∨ b = it := by simpa using hb
    rcases e' with z | z
    · rw [z]; exact ⟨_, he, fun v q => nomatch q⟩
    · rw [z]; exact ⟨o, ho, fun v q => by rw [hd] at q; cases q⟩
  keep := fun i h h' st k => let ⟨⟨old, he⟩, hi, r⟩ := st; ⟨⟨old, k e (by simp) _ he⟩, hi.at fun o q => k it (by simp) o q, r⟩
  item := by
    intro X hP hw hK hc i pins s σ H E I hf st hg
    subst hP hw hK
    obtain ⟨⟨old, he⟩, hit, hne, hai, hea⟩ := st
    obtain ⟨xs, x, hq, hx⟩ := hg
    obtain ⟨its, rv, p, hz⟩ := I.tuple hq
    obtain ⟨u, hu, ru⟩ := rv.get hx
    have hel : e < s.heap.objs.size := Heap.lt_size he
    have hil : it < s.heap.objs.size := by obtain ⟨_, q, _⟩ := hit; exact Heap.lt_size q
    have hi : i < its.toArray.size := by
      rw [List.size_toArray]
      exact (List.getElem?_eq_some_iff.mp hu).1
    refine wpAny_pyNext_enum_itemC (Draws.tuple (show X.A.in1.handled = none from I.ok.hd hc) it a hai its.toArray) he ⟨hit, p⟩ hi hne (by simp [hne, hea]) fun y h' tk hy ho st' hT hsz hk => ?_
    have ey : y = u := by
      have : its[i]? = some y := by simpa using hy
      rw [hu] at this
      exact (Option.some.inj this).symm
    subst ey
    obtain ⟨hit', p'⟩ := st'
    refine ⟨_, rfl, wpAny_letOwnedTupleGo_enum (s := { s with heap := h', toks := tk + 1 }) ho fun h'' he' sb => ?_⟩
    have hT2 : h''.get? s.heap.objs.size = some { cls := .type "tuple", data := .seq #[.int i tk, y] } := (sb.2 _ (Nat.ne_of_gt hel)).trans hT
    have new : ObjOk X.prog X.w (upd H s.heap.objs.size (.tup [.int (i : Nat), x])) h'' s.heap.objs.size (.tup [.int (i : Nat), x]) :=
      ⟨by show 2 ≤ sizeLine; decide, [.int i tk, y], .cons ⟨_, rfl⟩ (.cons ru .nil), ⟨_, hT2, rfl, _, rfl⟩⟩
    have I1 : Inv X pins σ (upd H s.heap.objs.size (.tup [.int (i : Nat), x])) { s with heap := h'', toks := tk + 1 } :=
      I.turnedNew (ch := [e, it]) (fun b ob hb q => (sb.2 b (fun z => hb (by simp [z]))).trans (hk b ob (fun z => hb (by simp [z])) (fun z => hb (by simp [z])) q)) hf (Nat.le_refl _) new
    refine ⟨.ref s.heap.objs.size, _, I1, rfl, ⟨_, x, rfl, I.hok.fresh (Nat.le_refl _), rfl, fun ys hy => by rw [I.tuple_inj hy hq]; exact hx⟩, ⟨⟨y, ?_⟩, hit'.at fun o q => (sb.2 it (Ne.symm hne)).trans q, hne, hai, hea⟩, fun b hb => ?_⟩
    · have e1 : ((i + 1 : Nat) : Int) = (i : Int) + 1 := by omega
      rw [e1]; exact he'
    · have hb' : b < s.heap.objs.size := by
        have e' : b = e ∨ b = it := by simpa using hb
        rcases e' with z | z
        · rw [z]; exact hel
        · rw [z]; exact hil
      rw [upd_ne (Nat.ne_of_lt hb')]
      exact (hf b hb).1
  done := by
    intro X hP hw hK hc i pins s σ H E I hf st hg
    subst hP hw hK
    obtain ⟨⟨old, he⟩, hit, hne, hai, hea⟩ := st
    obtain ⟨xs, hq, hx⟩ := hg
    obtain ⟨its, rv, p, hz⟩ := I.tuple hq
    obtain ⟨f0, f1, f2, f3, f4, f5⟩ := hf it (by simp)
    have hl := rv.length
    have hh : X.A.in1.handled = none := I.ok.hd hc
    have D : Draws X.prog X.w X.A.in1 it [it, a] 0 (fun _ _ => False) (fun _ h => h.IsTupleIter it a i ∧ h.IsTuple a its.toArray) :=
      { live := fun _ _ st => let ⟨o, ho, _⟩ := st.1; ⟨o, ho⟩
        frame := fun _ _ _ st hk => ⟨st.1.at fun o e => hk it (by simp) o e, st.2.at fun o e => hk a (by simp) o e⟩
        item := fun j s Q E hi st hQ => absurd hi (Nat.not_lt_zero _)
        done := fun s Q E st hE => wpAny_nextOf_tuple_end hh st.1 st.2 (by rw [Array.getElem?_eq_none_iff, List.size_toArray]; omega) hE }
    exact wpAny_pyNext_enum_endD D he ⟨hit, p⟩ fun h' eb => ⟨rfl, I.turned (t' := s.toks) (fun b o hb q => eb b o hb q) f0 f1 f3 f4 f5⟩
  self := fun A i s Q E st h => let ⟨⟨_, he⟩, _⟩ := st; wpAny_pyIter_enum he h
def iEnumA (K : PySem.W.Frag) (ta : TA) : TI := fun σ H R => ta σ H fun vs H1 => ∃ a xs, vs = [.ref a] ∧ ((SqL K H1 a xs ∧ R (Ite K a) H1) ∨ (SqT K H1 a xs ∧ R (IteT K a) H1))
theorem pi_enumA {X : Cx} {e : Expr} {ta : TA} {p pos tpos : Pos} {elts : List Expr} {kk : Nat} (hg : Gl X "enumerate") (hm : X.mg "enumerate" = none) (ha : PA X [e] ta) (hs : starEach [e] X.env = [(false, eval e X.env)]) :
    PI X (.Tuple elts kk tpos) (.Call (.Name "enumerate" p) [e] [] pos) (iEnumA X.K ta) := by
  refine ⟨fun pins s σ H R I h => ?_⟩
  refine Call_ (ld_blt I hg hm boot_enumerate (PyProof.Rows.callWith_type1 (thn (ha.run pos pins s σ H _ I h) fun us s1 ⟨vs, H1, I1, r1, q1⟩ => ?_) hs rfl))
  obtain ⟨a, xs, ex, q1⟩ := q1
  subst ex
  cases r1 with
  | cons r rr =>
  cases rr
  cases r
  have far : ∀ (h' : Heap) (b : Addr), b ∈ [s1.heap.objs.size + 1, s1.heap.objs.size] → s1.heap.objs.size ≤ b := fun h' b hb => by
    have e' : b = s1.heap.objs.size + 1 ∨ b = s1.heap.objs.size := by simpa using hb
    rcases e' with z | z <;> rw [z]
    · exact Nat.le_add_right _ _
    · exact Nat.le_refl _
  rcases q1 with ⟨hq, q⟩ | ⟨hq, q⟩
  · obtain ⟨its, rv, p', hz⟩ := I1.list hq
    refine PvX.enum_call1 (begins_list a its.toArray) p'.isList fun h' he hit hk => wpAny_pyIter_enum he ?_
    have I2 : Inv X pins σ H1 { s1 with heap := h' } := I1.kept (t' := s1.toks) hk
    exact ⟨s1.heap.objs.size + 1, [s1.heap.objs.size + 1, s1.heap.objs.size], _, _, H1, rfl, I2, turn_enum a (s1.heap.objs.size + 1) s1.heap.objs.size, ⟨⟨.none, he⟩, ⟨_, hit, rfl, rfl⟩, Nat.succ_ne_self _⟩, fun b hb => I1.fpOk (far h' b hb) (I1.hok.fresh (far h' b hb)), q⟩
  · obtain ⟨its, rv, p', hz⟩ := I1.tuple hq
    have hal : a < s1.heap.objs.size := IsTup.lt p'
    refine PvX.enum_call1 (begins_tuple a its.toArray) p' fun h' he hit hk => wpAny_pyIter_enum he ?_
    have I2 : Inv X pins σ H1 { s1 with heap := h' } := I1.kept (t' := s1.toks) hk
    exact ⟨s1.heap.objs.size + 1, [s1.heap.objs.size + 1, s1.heap.objs.size], _, _, H1, rfl, I2, turn_enumT a (s1.heap.objs.size + 1) s1.heap.objs.size,
      ⟨⟨.none, he⟩, ⟨_, hit, rfl, rfl⟩, Nat.succ_ne_self _, Nat.ne_of_lt hal, Nat.ne_of_gt (Nat.lt_succ_of_lt hal)⟩, fun b hb => I1.fpOk (far h' b hb) (I1.hok.fresh (far h' b hb)), q⟩
end Pv

/-! Part F: isinstance; what is done to a cell; freezing; new cells. -/
namespace Pv
open PySem PySem.Spec PyProof.Rows L2
def T.nm : T → String
  | .int => "int"
  | .bool => "bool"
  | .str => "str"
  | .tuple => "tuple"
  | .list => "list"
  | .dict => "dict"
inductive N7 where
  | n | b | i | s | l | t | d
def N7.nm : N7 → String
  | .n => "NoneType"
  | .b => "bool"
  | .i => "int"
  | .s => "str"
  | .l => "list"
  | .t => "tuple"
  | .d => "dict"
def N7.is : N7 → T → Bool
  | .b, .bool => true
  | .b, .int => true
  | .i, .int => true
  | .s, .str => true
  | .t, .tuple => true
  | .l, .list => true
  | .d, .dict => true
  | _, _ => false
def n7 : D → N7
  | .none => .n
  | .bool _ => .b
  | .int _ => .i
  | .str _ => .s
  | .list _ => .l
  | .tuple _ => .t
  | .dict _ => .d
def tyNm (d : D) : String := (n7 d).nm
theorem kit0 (n : N7) (t : T) : kitB n.nm t.nm = some (n.is t) := by
  cases n <;> cases t <;> decide +kernel
theorem kit1 (d : D) (t : T) : kitB (tyNm d) t.nm = some (tyB d t) := by
  have e : tyB d t = (n7 d).is t := by cases d <;> cases t <;> rfl
  rw [e]
  exact kit0 _ _
theorem kit_any {K : PySem.W.Frag} (d : D) : ∀ ts : List T, PySem.W.kitAny K (.type (tyNm d)) (ts.map fun t => Value.type t.nm) = some (ts.any (tyB d))
  | [] => kitAny_nil
  | t :: ts => by
    refine kitAny_cons (kit_ty (kit1 d t)) (fun h => ?_) (fun h => ?_)
    · rw [List.any_cons, h, Bool.false_or]
      exact kit_any d ts
    · rw [List.any_cons, h, Bool.true_or]
theorem Lv.ty {K : PySem.W.Frag} {H : Hp} {v : V} {d : D} (h : Lv K H v d) : TyX K H v (.type (tyNm d)) := by
  cases h with
  | lst e r => exact .base (.lst e)
  | fz h =>
    cases h with
    | non => exact .base .non
    | bl b => exact .base (.bl b)
    | int i => exact .base (.int i)
    | str x => exact .base (.str x)
    | lst h r => obtain ⟨o, e⟩ := h; exact .base (.frz e)
    | tup h r =>
      rcases h with (e | ⟨o, e⟩) | ⟨o, its, n, e, c, _⟩
      · exact .base (.tup e)
      · exact .fTuple e
      · exact .kTuple e c
    | dct h => obtain ⟨o, e⟩ := h; exact .fDict e
/-- the types, as they are handed in -/
def TyArg (H : Hp) (ts : List T) (c : V) : Prop := match ts with
  | [t] => c = .ty t.nm
  | ts => ∃ p, c = .ref p ∧ H p = some (.tup (ts.map fun t => V.ty t.nm))
def rIsT (T' : Tab) (K : PySem.W.Frag) (ts : List T) : List V → Hp → VK → Prop := fun xs H Q => ∃ ms w u k x c, xs = [x, c] ∧ RelI T' K ms H u x ∧ RelW K ms H w ∧ isiV w ts u = some k ∧ TyArg H ts c ∧ Q (.bl k) H
theorem tys_cls : ∀ ts : List T, Paired ClsV (ts.map fun t => V.ty t.nm) (ts.map fun t => Value.type t.nm)
  | [] => .nil
  | t :: ts => .cons (.ty _) (tys_cls ts)
theorem isi_ok {T' : Tab} {X : Cx} (ts : List T) : CallR X (.builtin "isinstance") (rIsT T' X.K ts) := by
  intro pins s σ H xs us Q I r h
  obtain ⟨ms, w, u, k, x, c, rfl, ru, rw', hk, ht, q⟩ := h
  unfold isiV at hk
  cases hd : rd w u with
  | none => rw [hd] at hk; cases hk
  | some d =>
  rw [hd] at hk
  cases hk
  have lv := rd_lv ru rw' hd
  unfold TyArg at ht
  split at ht
  · rename_i t
    subst ht
    refine call_isi pins s σ H _ us Q I r ⟨x, _, _, _, tyB d t, rfl, .ty _, lv.ty, kit_ty (kit1 d t), ?_⟩
    have e : [t].any (tyB d) = tyB d t := by simp
    rw [← e]; exact q
  · obtain ⟨p, rfl, hp⟩ := ht
    exact call_isiT pins s σ H _ us Q I r ⟨x, p, _, _, _, _, rfl, hp, tys_cls ts, lv.ty, kit_any d ts, q⟩
/-! ### cells changed -/
def rMth (T' : Tab) (K : PySem.W.Frag) (m : M) : V → List V → Hp → VK → Prop := fun x xs H Q => ∃ ms w u us ds P, RelI T' K ms H u x ∧ RelA T' K ms H us xs ∧ RelW K ms H w ∧ purs us = some ds ∧ endsR T' K ms H P (relI T' K) Q (mthW m u ds w)
theorem purs_fz {T' : Tab} {K : PySem.W.Frag} {ms : List Addr} {H : Hp} : ∀ {us : List IV} {xs : List V} {ds : List D}, RelA T' K ms H us xs → purs us = some ds → FzAll K H xs ds
  | [], _, _, .nil, e => by cases e; exact .nil
  | .d x :: us, _, ds, .cons r rr, e => by
    unfold purs at e
    cases h2 : purs us with
    | none => rw [h2] at e; cases e
    | some es =>
    rw [h2] at e
    cases e
    exact .cons r (purs_fz rr h2)
  | .ref _ :: _, _, _, _, e => by cases e
  | .exc _ _ :: _, _, _, _, e => by cases e
/-- the end where a cell's list is another one now -/
theorem end_set {T' : Tab} {K : PySem.W.Frag} {ms : List Addr} {H : Hp} {P : Value → Option Addr → Hp → Prop} {α β : Type} {rel : Rel α β} {Q : β → Hp → Prop} {w : W} {n : Nat} {a : Addr} {ds' : List D} {xs xs' : List V} {v : α} {u : β} (h : endsR T' K ms H P rel Q (.ok v (w.set n (.lst ds')))) (rw' : RelW K ms H w)
    (hn : ms[n]? = some a) (he : H a = some (.lst xs)) (f : FzAll K H xs' ds') (r : ∀ H', Grow H H' → rel H ms H' v u) : Q u (upd H a (.lst xs')) := by
  have g : Ext H ms (upd H a (.lst xs')) ms := Ext.set he trivial (List.mem_of_getElem? hn)
  exact h u _ ms g (r _ g.toGrow) (rw'.set hn he trivial ⟨xs', upd_same, f.grow g.toGrow⟩)
theorem cell_lst {T' : Tab} {K : PySem.W.Frag} {ms : List Addr} {H : Hp} {w : W} {n : Nat} {x : V} {ds : List D} (ru : RelI T' K ms H (.ref n) x) (rw' : RelW K ms H w) (e : w[n]? = some (.lst ds)) : ∃ a xs, x = .ref a ∧ ms[n]? = some a ∧ H a = some (.lst xs) ∧ FzAll K H xs ds := by
  obtain ⟨a, h1, rfl⟩ := ru
  obtain ⟨xs, h2, h3⟩ := rw'.at_ n _ a e h1
  exact ⟨a, xs, rfl, h1, h2, h3⟩
def mthId : M → String
  | .append => "list.append"
  | .insert => "list.insert"
  | .pop => "list.pop"
  | .popAt => "list.pop"
  | .extend => "list.extend"
theorem mth_ok {T' : Tab} {X : Cx} (m : M) : MtR X (mthId m) (rMth T' X.K m) := by
  intro pins s σ H x xs v us Q I rx rv h
  obtain ⟨ms, w, u, as, ds, P, ru, ra, rw', hp, h⟩ := h
  have f := purs_fz ra hp
  unfold mthW at h
  split at h
  · cases f with
    | cons fx f0 =>
    cases f0
    split at h
    · rename_i ys hc
      obtain ⟨a, zs, rfl, hn, he, fz⟩ := cell_lst ru rw' hc
      split at h
      · rename_i hz
        refine mt_append pins s σ H _ _ v us Q I rx rv ⟨a, zs, _, rfl, rfl, he, by rw [fz.length, sizeLine_eq]; exact of_decide_eq_true hz, ?_⟩
        exact end_set h rw' hn he (fz.append (.cons fx .nil)) fun H' _ => .non
      · exact False.elim h
    · exact False.elim h
  · cases f with
    | cons fi f =>
    cases f with
    | cons fx f0 =>
    cases f0
    cases fi
    split at h
    · rename_i ys hc
      obtain ⟨a, zs, rfl, hn, he, fz⟩ := cell_lst ru rw' hc
      split at h
      · rename_i hz
        simp only [Bool.and_eq_true, decide_eq_true_eq] at hz
        refine mt_insert pins s σ H _ _ v us Q I rx rv ⟨a, zs, _, _, rfl, rfl, he, by rw [fz.length, sizeLine_eq]; exact hz.1.1, hz.1.2, hz.2, ?_⟩
        exact end_set h rw' hn he (((fz.take _).append (.cons fx .nil)).append (fz.drop _)) fun H' _ => .non
      · exact False.elim h
    · exact False.elim h
  · exact False.elim h
/-! ### freezing -/
theorem Inv.freeze {X : Cx} {pins : List (Addr × Obj)} {σ : List (Option V)} {H : Hp} {s : Shared} {a : Addr} {xs : List V} (I : L2.Inv X pins σ H s) (h : H a = some (.lst xs)) : ∃ o, L2.Inv X pins σ (upd H a (.frz o (.lst xs))) s := I.lock h trivial
/-- what is read behind e, the list at hand made fast -/
theorem pe_fast {X : Cx} {e : Expr} {t : TE} (he : PE X e t) : PE X e (fun σ H Q => t σ H fun u H1 => (∃ a xs, u = .ref a ∧ H1 a = some (.lst xs) ∧ ∀ o, Q u (upd H1 a (.frz o (.lst xs)))) ∨ Q u H1) := by
  refine ⟨fun pins s σ H Q I h => ?_⟩
  refine thn (he.run pins s σ H _ I h) fun v s1 ⟨u, H1, I1, r1, q1⟩ => ?_
  rcases q1 with ⟨a, xs, rfl, hh, q⟩ | q
  · obtain ⟨o, I2⟩ := Inv.freeze I1 hh
    exact ⟨_, _, I2, r1, q o⟩
  · exact ⟨_, _, I1, r1, q⟩
theorem pe_fastU {X : Cx} {e : Expr} {t : TE} (he : PE X e t) : PE X e (fun σ H Q => t σ H fun u H1 => ∃ a x, u = .ref a ∧ H1 a = some x ∧ Mut (some x) ∧ ∀ o, Q u (upd H1 a (.frz o x))) := by
  refine ⟨fun pins s σ H Q I h => ?_⟩
  refine thn (he.run pins s σ H _ I h) fun v s1 ⟨u, H1, I1, r1, q1⟩ => ?_
  obtain ⟨a, x, rfl, hh, m, q⟩ := q1
  obtain ⟨o, I2⟩ := I1.lock hh m
  exact ⟨_, _, I2, r1, q o⟩
/-- {} -/
theorem pe_dct {T' : Tab} {X : Cx} {Wx : WX} {pos : Pos} : PE X (.Dict [] [] pos) (tI T' X.K Wx fun _ w => .ok (.d (.dict [])) w) := by
  refine PE.imp (pe_fastU pe_dnewK) fun σ H Q ⟨ms, iσ, w, s, q⟩ => fun p hp => ⟨p, _, rfl, upd_same, trivial, fun o => ?_⟩
  have g1 : Ext H ms (upd H p (.dK [])) ms := Ext.new hp
  have g : Ext H ms (upd (upd H p (.dK [])) p (.frz o (.dK []))) ms := g1.later hp upd_same trivial
  refine q _ _ ms g (show Fz _ _ _ _ from .dct ⟨o, upd_same⟩) (s.w.move g.toGrow fun a ha u e => ?_)
  rw [upd_ne (ne_of_none e hp), upd_ne (ne_of_none e hp)]
  exact e
/-- the reading of what makes a new list -/
def tF (T' : Tab) (K : PySem.W.Frag) (Wx : WX) (f : Sl → W → R IV) : TE := fun σ H Q => ∃ ms iσ w, Sim T' K ms H iσ σ w ∧ endsR T' K ms H (fun c d H' => Wx c d σ H') (RelF T' K) Q (f iσ w)
theorem RelF.cases {T' : Tab} {K : PySem.W.Frag} {H0 : Hp} {ms : List Addr} {H : Hp} {v : IV} {u : V} (r : RelF T' K H0 ms H v u) : (∃ ds a xs, v = .d (.list ds) ∧ u = .ref a ∧ H0 a = none ∧ a ∉ ms ∧ H a = some (.lst xs) ∧ FzAll K H xs ds) ∨ ((∀ ds, v ≠ .d (.list ds)) ∧ RelI T' K ms H v u) := by
  unfold RelF at r
  split at r
  · obtain ⟨a, xs, h1, h0, h2, h3, h4⟩ := r
    exact .inl ⟨_, a, xs, rfl, h1, h0, h2, h3, h4⟩
  · rename_i hn
    exact .inr ⟨hn, r⟩
theorem RelW.keep {K : PySem.W.Frag} {ms : List Addr} {H : Hp} {w : W} (r : RelW K ms H w) {a : Addr} {o u : HO} (he : H a = some u) (m : Mut (some u)) (hn : a ∉ ms) : RelW K ms (upd H a o) w :=
  r.move (Grow.set he m) fun b hb z e => by
    have hba : b ≠ a := fun q => hn (by rw [← q]; exact hb)
    rw [upd_ne hba]
    exact e
theorem freezeF {T' : Tab} {X : Cx} {Wx : WX} {e : Expr} {f : Sl → W → R IV} (h : PE X e (tF T' X.K Wx f)) : PE X e (tI T' X.K Wx f) := by
  refine PE.imp (pe_fast h) fun σ H Q q => ?_
  obtain ⟨ms, iσ, w, s, q⟩ := q
  refine ⟨ms, iσ, w, s, ?_⟩
  cases hf : f iσ w with
  | no => rw [hf] at q; exact q
  | exc c x w1 => rw [hf] at q; exact q
  | ok v w1 =>
    rw [hf] at q
    intro u H1 ms1 g1 r1 w1'
    rcases RelF.cases r1 with ⟨ds, a, xs, rfl, rfl, h0, hn, he, fz⟩ | ⟨hn, r⟩
    · refine .inl ⟨a, xs, rfl, he, fun o => ?_⟩
      have g : Grow H1 (upd H1 a (.frz o (.lst xs))) := Grow.set he trivial
      exact q _ _ ms1 (g1.later h0 he trivial) (show Fz _ _ _ _ from .lst ⟨o, upd_same⟩ (fz.grow g)) (w1'.keep he trivial hn)
    · exact .inr (q _ _ ms1 g1 r w1')
theorem newF {T' : Tab} {X : Cx} {Wx : WX} {e : Expr} {f : Sl → W → R IV} (h : PE X e (tF T' X.K Wx f)) : PE X e (tI T' X.K Wx fun σ w => (f σ w).bind fun v w1 => newW w1 v) := by
  refine PE.imp h fun σ H Q q => ?_
  obtain ⟨ms, iσ, w, s, q⟩ := q
  refine ⟨ms, iσ, w, s, ?_⟩
  dsimp only at q
  cases hf : f iσ w with
  | no => rw [hf] at q; exact q
  | exc c x w1 => rw [hf] at q; exact q
  | ok v w1 =>
  rw [hf] at q
  intro u H1 ms1 g1 r1 w1'
  have q2 : endsR T' X.K ms H (fun c d H' => Wx c d σ H') (relI T' X.K) Q (newW w1 v) := q
  rcases RelF.cases r1 with ⟨ds, a, xs, rfl, rfl, h0, hn, he, fz⟩ | ⟨hn, r⟩
  · exact q2 _ H1 (ms1 ++ [a]) (g1.cell h0) ⟨a, by rw [List.getElem?_append_right (by rw [w1'.len]; exact Nat.le_refl _), w1'.len]; simp, rfl⟩ (w1'.push hn ⟨xs, he, fz⟩)
  · unfold newW at q2
    split at q2
    · exact absurd rfl (hn _)
    · exact False.elim q2
/-- a slot's list is made fast -/
theorem pe_frz {T' : Tab} {X : Cx} {Wx : WX} {i : Nat} {x : Str} {pos : Pos} (hN : X.N[i]? = some x) (hv : Vis X.env.scope x) (hd : (x == ("__debug__" : Str)) = false) (hcd : (x == ("__classdict__" : Str)) = false) :
    PE X (.Name x pos) (tI T' X.K Wx fun σ w => (ofO (slot σ i) w).bind fun v w => frzW w v) := by
  refine PE.imp (pe_fast (pe_var (i := i) hN hv hd hcd)) fun σ H Q q => ?_
  obtain ⟨ms, iσ, w, s, q⟩ := q
  dsimp only at q
  cases hs : slot iσ i with
  | none => rw [hs] at q; exact False.elim q
  | some v =>
  rw [hs] at q
  obtain ⟨u, hu, ru⟩ := s.sl i v hs
  refine ⟨u, hu, ?_⟩
  have q' : endsR T' X.K ms H (fun c d H' => Wx c d σ H') (relI T' X.K) Q (frzW w v) := q
  unfold frzW at q'
  split at q'
  · exact .inr (endI q' ru s.w)
  · rename_i n
    split at q'
    · rename_i ds hc
      obtain ⟨a, xs, rfl, hn, he, fz⟩ := cell_lst ru s.w hc
      refine .inl ⟨a, xs, rfl, he, fun o => ?_⟩
      have g : Ext H ms (upd H a (.frz o (.lst xs))) ms := Ext.set he trivial (List.mem_of_getElem? hn)
      exact q' _ _ ms g (show Fz _ _ _ _ from .lst ⟨o, upd_same⟩ (fz.grow g.toGrow)) (s.w.set hn he trivial ⟨_, upd_same⟩)
    · exact False.elim q'
  · exact False.elim q'
theorem pe_slot {T' : Tab} {X : Cx} {Wx : WX} {i : Nat} {x : Str} {pos : Pos} (hN : X.N[i]? = some x) (hv : Vis X.env.scope x) (hd : (x == ("__debug__" : Str)) = false) (hcd : (x == ("__classdict__" : Str)) = false) :
    PE X (.Name x pos) (tI T' X.K Wx fun σ w => ofO (slot σ i) w) := by
  refine PE.imp (pe_var (i := i) hN hv hd hcd) fun σ H Q q => ?_
  obtain ⟨ms, iσ, w, s, q⟩ := q
  dsimp only at q
  cases hs : slot iσ i with
  | none => rw [hs] at q; exact False.elim q
  | some v =>
  rw [hs] at q
  obtain ⟨u, hu, ru⟩ := s.sl i v hs
  exact ⟨u, hu, endI q ru s.w⟩
theorem pe_data {T' : Tab} {X : Cx} {Wx : WX} {e : Expr} {v : V} {x : D} (h : PE X e (tC v)) (r : ∀ H, Fz X.K H v x) : PE X e (tI T' X.K Wx fun _ w => .ok (.d x) w) :=
  PE.imp h fun σ H Q ⟨ms, iσ, w, s, q⟩ => endI q (r H) s.w
end Pv

/-! Part G: does a piece of syntax say what the small machine's piece says? -/
namespace Pv
open PySem PySem.Spec PyProof.Rows L2
structure Cc where
  N : List Str
  sc : Scope
  fs : List (Str × List Str)
  gl : List Str
  bs : List B
  ms : List Str
  kw : List (Nat × Nat × List Str × List Nat)
  cl : List Str
def visB (sc : Scope) (x : Str) : Bool := match sc.names.lookup x with
  | some .local => true
  | some .cell => true
  | some .free => true
  | _ => false
def locB (sc : Scope) (x : Str) : Bool := match sc.names.lookup x with
  | some .local => true
  | some .cell => true
  | _ => false
def justL (sc : Scope) (x : Str) : Bool := match sc.names.lookup x with
  | some .local => true
  | _ => false
def glB (sc : Scope) (x : Str) : Bool := match sc.names.lookup x with
  | some .globalImplicit => !decide (x = "__debug__")
  | _ => false
def plainN (x : Str) : Bool := !decide (x = "__debug__") && !decide (x = "__classdict__")
def isS (x : Str) (y : Str) : Bool := decide (x = y)
def B.nm : B → Str
  | .len => "len"
  | .int => "int"
  | .abs => "abs"
  | .max => "max"
  | .min => "min"
  | .sum => "sum"
  | .all => "all"
  | .any => "any"
  | .tuple => "tuple"
  | .list => "list"
  | .gcd => "gcd"
  | .lcm => "lcm"
  | .isqrt => "isqrt"
  | .sorted => "sorted"
  | .str => "str"
  | .bool => "bool"
def M.nm : M → Str
  | .append => "append"
  | .insert => "insert"
  | .pop => "pop"
  | .popAt => "pop"
  | .extend => "extend"
def cstB : D → Const → Bool
  | .none, .none => true
  | .bool a, .bool b => a == b
  | .int a, .int b => a == b
  | .str a, .str b => decide (a = b)
  | _, _ => false
/-- what may stand in a test -/
def tOk : Ex → Bool
  | .and a b => tOk a && tOk b
  | .or a b => tOk a && tOk b
  | .not a => tOk a
  | .var _ => true
  | .cst _ => true
  | .glob _ => true
  | .call _ _ => true
  | .callk _ _ _ _ => true
  | .blt _ _ => true
  | .isi _ _ => true
  | .cmp _ _ _ => true
  | .chain _ _ _ _ _ => true
  | .sub _ _ => true
  | _ => false
/-- what makes a new list -/
def fresh : Ex → Bool
  | .lst _ => true
  | .comp _ _ _ _ _ => true
  | .bin .Add _ _ => true
  | .bin .Mult _ _ => true
  | .blt .list _ => true
  | .sl _ _ _ => true
  | .ite _ a b => fresh a && fresh b
  | _ => false
mutual
def mT (c : Cc) : Tg → Expr → Bool
  | .nm i, .Name x _ => decide (c.N[i]? = some x) && locB c.sc x
  | .tup ts, .Tuple es _ _ => mTs c ts es
  | _, _ => false
def mTs (c : Cc) : Tg → List Expr → Bool
  | .nil, [] => true
  | .cons a r, e :: es => mT c a e && mTs c r es
  | _, _ => false
end
/-! no stars -/
def noStar : Expr → Bool
  | .Starred _ _ => false
  | _ => true
def tyNames : List T → List Expr → Bool
  | [], [] => true
  | t :: ts, .Name x _ :: es => isS x (Str.ofString t.nm) && tyNames ts es
  | _, _ => false
def kwNames : List Keyword → List Str
  | [] => []
  | ⟨some x, _, _⟩ :: r => x :: kwNames r
  | ⟨none, _, _⟩ :: r => "" :: kwNames r
/-- the slots that a target fills are among these -/
def tgIn : Tg → List Nat → Bool
  | .nm i, vs => decide (i ∈ vs)
  | .nil, _ => true
  | .cons a r, vs => tgIn a vs && tgIn r vs
  | .tup ts, vs => tgIn ts vs
def notSlice : Expr → Bool
  | .Slice _ _ _ _ => false
  | _ => true
def notSet : Expr → Bool
  | .Set _ _ _ => false
  | _ => true
mutual
def mE : Ex → Cc → Expr → Bool
  | .var i, c, .Name x _ => decide (c.N[i]? = some x) && visB c.sc x && plainN x
  | .frz i, c, .Name x _ => decide (c.N[i]? = some x) && visB c.sc x && plainN x
  | .cst d, _, .Constant k _ _ => cstB d k
  | .dct, _, .Dict [] [] _ => true
  | .glob j, c, .Name x _ => decide (c.gl[j]? = some x) && glB c.sc x
  | .tup es, c, .Tuple xs _ _ => mA es c xs
  | .lst es, c, .List xs _ => mA es c xs
  | .new a, c, x => fresh a && mE a c x
  | .bin o a b, c, .BinOp x o' y _ => decide (o = o') && mE a c x && mE b c y
  | .neg a, c, .UnaryOp .USub x _ => mE a c x
  | .not a, c, .UnaryOp .Not x _ => mE a c x
  | .and a b, c, .BoolOp .And (x :: y :: r) p => mE a c x && (match r with
    | [] => mE b c y
    | z :: q => mE b c (.BoolOp .And (y :: z :: q) p))
  | .or a b, c, .BoolOp .Or (x :: y :: r) p => mE a c x && (match r with
    | [] => mE b c y
    | z :: q => mE b c (.BoolOp .Or (y :: z :: q) p))
  | .ite k a b, c, .IfExp z x y _ => tOk k && mE k c z && mE a c x && mE b c y
  | .cmp o a b, c, .Compare x [o'] [y] _ => decide (o = o') && mE a c x && mE b c y && !behindInMarks o y
  | .chain o o' a b z, c, .Compare x [p, p'] [y, u] _ => decide (o = p) && decide (o' = p') && mE a c x && mE b c y && mE z c u && !behindInMarks p' u
  | .call f es, c, .Call (.Name x _) (y :: ys) [] _ => (match c.fs[f]? with
    | some (n, _) => isS x n
    | none => false) && glB c.sc x && mA es c (y :: ys)
  | .callk f es ks perm, c, .Call (.Name x _) ys kws _ => (match c.fs[f]? with
    | some (n, _) => isS x n
    | none => false) && glB c.sc x && decide ((f, ys.length, kwNames kws, perm) ∈ c.kw) && mA es c ys && mK ks c kws
  | .blt f es, c, .Call (.Name x _) (y :: ys) [] _ => isS x f.nm && glB c.sc x && decide (f ∈ c.bs) && mA es c (y :: ys)
  | .isi a ts, c, .Call (.Name x _) [y, z] [] _ => isS x "isinstance" && glB c.sc x && decide (x ∈ c.ms) && noStar y && mE a c y && (match ts, z with
    | [t], .Name u _ => isS u (Str.ofString t.nm) && glB c.sc u && decide (u ∈ c.ms)
    | t :: t' :: ts, .Tuple us _ _ => tyNames (t :: t' :: ts) us && decide (ts.length ≤ 100) && us.all (fun u => match u with
      | .Name v _ => glB c.sc v && decide (v ∈ c.ms)
      | _ => false)
    | _, _ => false)
  | .sub a i, c, .Subscript x y _ => notSlice y && mE a c x && mE i c y
  | .sl a lo hi, c, .Subscript x (.Slice l h none _) _ => mE a c x && mP lo c l && mP hi c h
  | .mth m (.var i) es, c, .Call (.Attribute (.Name x p) nm ap) (y :: ys) [] cp => mE (.var i) c (.Name x p) && isS nm m.nm && (ap.endLine == cp.line) && decide (ys.length < 20) && mA es c (y :: ys)
  | .comp own e t it k, c, .ListComp el [⟨tg, iter, ifs, a⟩] scope _ =>
      blkC c.N c.sc scope (own.map fun i => ((c.N[i]?).getD "", i)) && decide (a = 0) && notSet iter && tgIn t own && mI it c tg iter && mT { c with sc := scope } t tg && mE e { c with sc := scope } el &&
      (match ifs with
        | [] => isNil k
        | [z] => !isNil k && tOk k && mE k { c with sc := scope } z
        | _ => false)
  | _, _, _ => false
def mA : Ex → Cc → List Expr → Bool
  | .nil, _, [] => true
  | .cons a r, c, x :: xs => noStar x && mE a c x && mA r c xs
  | _, _, _ => false
def mK : Ex → Cc → List Keyword → Bool
  | .nil, _, [] => true
  | .cons a r, c, ⟨some _, x, _⟩ :: xs => mE a c x && mK r c xs
  | _, _, _ => false
def mP : Ex → Cc → Option Expr → Bool
  | .nil, _, none => true
  | .cons a .nil, c, some x => mE a c x
  | _, _, _ => false
def mI : Ex → Cc → Expr → Expr → Bool
  | .seq a, c, _, x => mE a c x
  | .rng es, c, _, .Call (.Name x _) (y :: ys) [] _ => isS x "range" && glB c.sc x && decide (x ∈ c.ms) && decide (ys.length ≤ 1) && mA es c (y :: ys)
  | .enm a, c, .Tuple _ _ _, .Call (.Name x _) [y] [] _ => isS x "enumerate" && glB c.sc x && decide (x ∈ c.ms) && noStar y && mE a c y
  | .zp a b, c, .Tuple _ _ _, .Call (.Name x _) [y, z] [] _ => isS x "zip" && glB c.sc x && decide (x ∈ c.ms) && noStar y && noStar z && mE a c y && mE b c z
  | _, _, _, _ => false
end
end Pv

/-! Part H: expressions that the checker takes say what the small machine says. -/
namespace Pv
open PySem PySem.Spec PyProof.Rows L2
/-- a def's promise: what the small machine's function gives -/
def spI (T : Tab) (K : PySem.W.Frag) (n : Nat) (F : List IV → W → R IV) : Sp := fun vs H Q Ex => vs.length = n ∧ ∃ ms w as, RelA T K ms H as vs ∧ RelW K ms H w ∧ endsR T K ms H (fun c d H' => Ex c d H') (relI T K) Q (F as w)
/-- values taken by their places -/
def pickG {α : Type} (vs : List α) : List Nat → Option (List α)
  | [] => some []
  | j :: r => (vs[j]?).bind fun v => (pickG vs r).map (v :: ·)
/-- what stands of the i-th def -/
structure FnG (T : Tab) (c : Cc) (E : En) (P : Program) (w : World) (K : PySem.W.Frag) (mg : Str → Option Value) (base : Heap) (k : Nat) (i : Nat) (x : Str) (ps : List Str) : Prop where
  ar : ∀ us w, us.length ≠ ps.length → E.Φ i us w = .no
  ex : ∃ (f : Addr) (fd : FuncData), mg x = some (.ref f) ∧ PySem.W.keepIn K (.ref f) = true ∧ Binds K fd ps [] ∧ FnOk P w K mg base (L2.CX P w) k f fd ps (spI T K ps.length (E.Φ i)) ∧
    ∀ n kn perm, (i, n, kn, perm) ∈ c.kw → ∀ (s : Shared) (us ws us' : List Value), us.length = n → ws.length = kn.length → pickG (us ++ ws) perm = some us' → us'.length = ps.length ∧ BindsTo s fd ⟨us, kn.zip ws⟩ (ps.zip us')
def BltG (mg : Str → Option Value) : B → Prop
  | .gcd => mg "gcd" = some (.builtin "math.gcd")
  | .lcm => mg "lcm" = some (.builtin "math.lcm")
  | .isqrt => mg "isqrt" = some (.builtin "math.isqrt")
  | f => mg f.nm = none
/-- what is known of the program, apart from where one stands -/
structure Gk (T : Tab) (c : Cc) (E : En) (P : Program) (w : World) (K : PySem.W.Frag) (mg : Str → Option Value) (base : Heap) (k : Nat) : Prop where
  fn : ∀ i x ps, c.fs[i]? = some (x, ps) → FnG T c E P w K mg base k i x ps
  gl : ∀ j x, c.gl[j]? = some x → ∃ u v d, mg x = some u ∧ RelV v u ∧ E.G j = some d ∧ ∀ H, Fz K H v d
  bl : ∀ f ∈ c.bs, BltG mg f
  ms : ∀ x ∈ c.ms, mg x = none
  q : E.q ≤ 16777216
theorem Gk.scope {T : Tab} {c : Cc} {E : En} {P : Program} {w : World} {K : PySem.W.Frag} {mg : Str → Option Value} {base : Heap} {k : Nat} (g : Gk T c E P w K mg base k) (N : List Str) (sc : Scope) : Gk T { c with N := N, sc := sc } E P w K mg base k :=
  ⟨fun i x ps h => let ⟨a, e⟩ := g.fn i x ps h; ⟨a, e⟩, g.gl, g.bl, g.ms, g.q⟩
/-- the names of a stretch of code as they are bound: those of a block that come from around may be cells there -/
structure ScR (a b : Scope) : Prop where
  loc : ∀ x, a.names.lookup x = some .local → b.names.lookup x = some .local
  cel : ∀ x, a.names.lookup x = some .cell → b.names.lookup x = some .cell
  fre : ∀ x, a.names.lookup x = some .free → b.names.lookup x = some .cell ∨ b.names.lookup x = some .free
  gl : ∀ x, a.names.lookup x = some .globalImplicit → b.names.lookup x = some .globalImplicit
theorem ScR.refl (a : Scope) : ScR a a := ⟨fun _ h => h, fun _ h => h, fun _ h => .inr h, fun _ h => h⟩
theorem ScR.vis {a b : Scope} (r : ScR a b) {x : Str} (h : Vis a x) : Vis b x := by
  rcases h with h | h | h
  · exact .inl (r.loc x h)
  · exact .inr (.inl (r.cel x h))
  · rcases r.fre x h with h | h
    · exact .inr (.inl h)
    · exact .inr (.inr h)
theorem relabel_lookup {env : Env} {k : NameKind} (hk : k ≠ .free) : ∀ {names : List (Str × NameKind)} {x : Str}, names.lookup x = some k →
    (names.map fun (n, k) => if (k == NameKind.free && env.scope.kind == .function && env.kindOf n == some .cell) then (n, NameKind.cell) else (n, k)).lookup x = some k
  | [], _, h => by simp at h
  | (n, k') :: r, x, h => by
    have ih := @relabel_lookup env k hk r x
    show List.lookup x ((if (k' == NameKind.free && env.scope.kind == .function && env.kindOf n == some .cell) = true then (n, NameKind.cell) else (n, k')) :: _) = _
    cases hx : x == n with
    | true =>
      simp only [List.lookup_cons, hx] at h
      cases h
      have : (k == NameKind.free) = false := by cases k <;> first | rfl | exact absurd rfl hk
      rw [this, Bool.false_and, Bool.false_and, if_neg Bool.false_ne_true]
      simp [List.lookup_cons, hx]
    | false =>
      simp only [List.lookup_cons, hx] at h
      by_cases hc : (k' == NameKind.free && env.scope.kind == .function && env.kindOf n == some .cell) = true
      · rw [if_pos hc]; simp only [List.lookup_cons, hx]; exact ih h
      · rw [if_neg hc]; simp only [List.lookup_cons, hx]; exact ih h
theorem relabel_free {env : Env} : ∀ {names : List (Str × NameKind)} {x : Str}, names.lookup x = some .free →
    (names.map fun (n, k) => if (k == NameKind.free && env.scope.kind == .function && env.kindOf n == some .cell) then (n, NameKind.cell) else (n, k)).lookup x = some .cell ∨ (names.map fun (n, k) => if (k == NameKind.free && env.scope.kind == .function && env.kindOf n == some .cell) then (n, NameKind.cell) else (n, k)).lookup x = some .free
  | [], _, h => by simp at h
  | (n, k') :: r, x, h => by
    have ih := @relabel_free env r x
    show List.lookup x ((if (k' == NameKind.free && env.scope.kind == .function && env.kindOf n == some .cell) = true then (n, NameKind.cell) else (n, k')) :: _) = _ ∨ List.lookup x ((if (k' == NameKind.free && env.scope.kind == .function && env.kindOf n == some .cell) = true then (n, NameKind.cell) else (n, k')) :: _) = _
    cases hx : x == n with
    | true =>
      simp only [List.lookup_cons, hx] at h
      cases h
      by_cases hc : (NameKind.free == NameKind.free && env.scope.kind == .function && env.kindOf n == some .cell) = true
      · rw [if_pos hc]; simp [List.lookup_cons, hx]
      · rw [if_neg hc]; simp [List.lookup_cons, hx]
    | false =>
      simp only [List.lookup_cons, hx] at h
      by_cases hc : (k' == NameKind.free && env.scope.kind == .function && env.kindOf n == some .cell) = true
      · rw [if_pos hc]; simp only [List.lookup_cons, hx]; exact ih h
      · rw [if_neg hc]; simp only [List.lookup_cons, hx]; exact ih h
theorem ScR.relabel (scope : Scope) (env : Env) : ScR scope (relabel scope env) :=
  ⟨fun _ h => relabel_lookup (by decide) h, fun _ h => relabel_lookup (by decide) h, fun _ h => relabel_free h, fun _ h => relabel_lookup (by decide) h⟩
/-- where one stands -/
structure Gd (T : Tab) (c : Cc) (E : En) (X : Cx) (Wx : WX) (k : Nat) : Prop where
  gk : Gk T c E X.prog X.w X.K X.mg X.base k
  calm : X.calm = true
  N : X.N = c.N
  nd : c.N.Nodup
  sc : ScR c.sc X.env.scope
  kind : c.sc.kind = .function
  fn : ∀ x, c.sc.names.lookup x = some .cell → X.fn x = true
  tk : Takes X Wx
  room : Room k X.A
section
variable {T : Tab} {c : Cc} {E : En} {X : Cx} {Wx : WX} {k : Nat}
theorem vis_of {sc : Scope} {x : Str} (h : visB sc x = true) : Vis sc x := by
  unfold visB at h
  split at h
  · exact .inl (by assumption)
  · exact .inr (.inl (by assumption))
  · exact .inr (.inr (by assumption))
  · cases h
theorem loc_of {sc : Scope} {x : Str} (h : locB sc x = true) : Loc sc x := by
  unfold locB at h
  split at h
  · exact .inl (by assumption)
  · exact .inr (by assumption)
  · cases h
theorem Gd.gl (g : Gd T c E X Wx k) {x : Str} (h : glB c.sc x = true) : Gl X x ∧ (x == ("__debug__" : Str)) = false := by
  unfold glB at h
  split at h
  · rename_i e
    refine ⟨?_, ?_⟩
    · show X.env.scope.names.lookup x = _
      exact g.sc.gl x e
    · simpa using h
  · cases h
theorem plain_of {x : Str} (h : plainN x = true) : (x == ("__debug__" : Str)) = false ∧ (x == ("__classdict__" : Str)) = false := by
  unfold plainN at h
  simpa using h
theorem Gd.slot (g : Gd T c E X Wx k) {i : Nat} {x : Str} (h : decide (c.N[i]? = some x) = true) : X.N[i]? = some x := by
  rw [g.N]; exact of_decide_eq_true h
theorem star_cons {e : Expr} {es : List Expr} {env : Env} (h : noStar e = true) : starEach (e :: es) env = (false, eval e env) :: starEach es env := by
  cases e <;> first | rfl | cases h
theorem star_any {pos : Pos} {env : Env} : ∀ {es : List Expr}, es.all noStar = true → (backTo pos (starEach es env)).any (·.1) = false
  | [], _ => rfl
  | e :: es, h => by
    rw [List.all_cons, Bool.and_eq_true] at h
    rw [star_cons h.1]
    show (false || (backTo pos (starEach es env)).any (·.1)) = false
    rw [star_any h.2]; rfl
theorem star_all {pos : Pos} {env : Env} : ∀ {es : List Expr}, es.all noStar = true → (backTo pos (starEach es env)).all (fun x => !x.1) = true
  | [], _ => rfl
  | e :: es, h => by
    rw [List.all_cons, Bool.and_eq_true] at h
    rw [star_cons h.1]
    show (true && (backTo pos (starEach es env)).all (fun x => !x.1)) = true
    rw [star_all h.2]; rfl
theorem mA_cases {a : Ex} {c : Cc} {es : List Expr} (h : mA a c es = true) : (a = .nil ∧ es = []) ∨ ∃ x r e q, a = .cons x r ∧ es = e :: q ∧ noStar e = true ∧ mE x c e = true ∧ mA r c q = true := by
  cases es with
  | nil => cases a <;> first | exact .inl ⟨rfl, rfl⟩ | exact absurd (show false = true from h) Bool.false_ne_true
  | cons e q =>
    cases a with
    | cons x r =>
      have h' : (noStar e && mE x c e && mA r c q) = true := h
      rw [Bool.and_eq_true, Bool.and_eq_true] at h'
      exact .inr ⟨x, r, e, q, rfl, rfl, h'.1.1, h'.1.2, h'.2⟩
    | _ => exact absurd (show false = true from h) Bool.false_ne_true
theorem mA_noStar : ∀ {es : List Expr} {a : Ex} {c : Cc}, mA a c es = true → es.all noStar = true
  | [], _, _, _ => rfl
  | e :: es, a, c, h => by
    rcases mA_cases h with ⟨_, z⟩ | ⟨x, r, e', q, rfl, z, h1, _, h2⟩
    · cases z
    · cases z
      rw [List.all_cons, h1, mA_noStar h2]; rfl
end
end Pv

/-! Part I: each expression by its parts. -/
namespace Pv
open PySem PySem.Spec PyProof.Rows L2
section
variable {T : Tab} {X : Cx} {Wx : WX} {x y z : Expr} {pos : Pos} {fa fb fc : Sl → W → R IV} {fs : Sl → W → R (List IV)}
abbrev I_ (T : Tab) (X : Cx) (Wx : WX) (e : Expr) (f : Sl → W → R IV) : Prop := PE X e (tI T X.K Wx f)
abbrev F_ (T : Tab) (X : Cx) (Wx : WX) (e : Expr) (f : Sl → W → R IV) : Prop := PE X e (tF T X.K Wx f)
theorem sE_bin {o : Operator} (ha : I_ T X Wx x fa) (hb : I_ T X Wx y fb) : F_ T X Wx (.BinOp x o y pos) fun σ w => (fa σ w).bind fun u w1 => (fb σ w1).bind fun v w2 => binV o u v w2 := by
  refine PE.imp (pe_op (bin_ok (T := T) o) ha hb) fun σ H Q ⟨ms, iσ, w, s, q⟩ => ?_
  refine stepI s q fun u w1 ux H1 m1 g1 r1 s1 q1 => ?_
  refine stepI s1 q1 fun v w2 vx H2 m2 g2 r2 s2 q2 => ?_
  exact ⟨m2, w2, u, v, _, r1.grow g2, r2, s2.w, q2⟩
theorem sE_neg (ha : I_ T X Wx x fa) : I_ T X Wx (.UnaryOp .USub x pos) fun σ w => (fa σ w).bind fun v w1 => match v with
    | .d (.int i) => .ok (.d (.int (-i))) w1
    | _ => .no := by
  refine PE.imp (pe_un un_neg ha) fun σ H Q ⟨ms, iσ, w, s, q⟩ => ?_
  refine stepI s q fun u w1 ux H1 m1 g1 r1 s1 q1 => ?_
  split at q1
  · cases (show Fz _ _ _ _ from r1)
    exact ⟨_, rfl, endI q1 (show Fz _ _ _ _ from .int _) s1.w⟩
  · exact False.elim q1
/-- a test's value -/
theorem tst_step {γ δ : Type} {rel' : Rel γ δ} [RM rel'] {ms : List Addr} {H : Hp} {iσ : Sl} {σ : List (Option V)} {w : W} {f : Sl → W → R IV} {g : Bool → W → R γ} {Q : δ → Hp → Prop} {Q' : V → Hp → Prop} (s : Sim T X.K ms H iσ σ w) (h : endsR T X.K ms H (fun c d H' => Wx c d σ H') rel' Q (tst (f iσ w) g))
    (k : ∀ (b : Bool) (w1 : W) (H1 : Hp) (ms1 : List Addr), Ext H ms H1 ms1 → Sim T X.K ms1 H1 iσ σ w1 → endsR T X.K ms1 H1 (fun c d H' => Wx c d σ H') rel' Q (g b w1) → Q' (.bl b) H1) : tI T X.K Wx f σ H Q' := by
  refine stepI s h fun v w1 u H1 m1 g1 r1 s1 q1 => ?_
  cases hb : toB v with
  | none => rw [hb] at q1; exact False.elim q1
  | some b =>
  rw [hb] at q1
  unfold toB at hb
  split at hb
  · cases hb
    cases (show Fz _ _ _ _ from r1)
    exact k _ w1 H1 m1 g1 s1 q1
  · cases hb
theorem sE_not (ha : I_ T X Wx x fa) : I_ T X Wx (.UnaryOp .Not x pos) fun σ w => tst (fa σ w) fun b w1 => .ok (.d (.bool (!b))) w1 := by
  refine PE.imp (pe_not ha) fun σ H Q ⟨ms, iσ, w, s, q⟩ => ?_
  exact tst_step s q fun b w1 H1 m1 g1 s1 q1 => ⟨b, rfl, endI q1 (show Fz _ _ _ _ from .bl _) s1.w⟩
theorem sE_and {r : List Expr} (ha : I_ T X Wx x fa) (hb : I_ T X Wx (.BoolOp .And (y :: r) pos) fb) : I_ T X Wx (.BoolOp .And (x :: y :: r) pos) fun σ w => tst (fa σ w) fun c w1 => if c then fb σ w1 else .ok (.d (.bool false)) w1 := by
  refine PE.imp (pe_and ha hb) fun σ H Q ⟨ms, iσ, w, s, q⟩ => ?_
  refine tst_step s q fun b w1 H1 m1 g1 s1 q1 => ⟨b, rfl, ?_⟩
  cases b with
  | true => exact ⟨m1, iσ, w1, s1, q1⟩
  | false => exact endI q1 (show Fz _ _ _ _ from .bl _) s1.w
theorem sE_or {r : List Expr} (ha : I_ T X Wx x fa) (hb : I_ T X Wx (.BoolOp .Or (y :: r) pos) fb) : I_ T X Wx (.BoolOp .Or (x :: y :: r) pos) fun σ w => tst (fa σ w) fun c w1 => if c then .ok (.d (.bool true)) w1 else fb σ w1 := by
  refine PE.imp (pe_or ha hb) fun σ H Q ⟨ms, iσ, w, s, q⟩ => ?_
  refine tst_step s q fun b w1 H1 m1 g1 s1 q1 => ⟨b, rfl, ?_⟩
  cases b with
  | false => exact ⟨m1, iσ, w1, s1, q1⟩
  | true => exact endI q1 (show Fz _ _ _ _ from .bl _) s1.w
/-! tests -/
abbrev T_ (T : Tab) (X : Cx) (Wx : WX) (e : Expr) (f : Sl → W → R IV) : Prop := PT X e (tB (tI T X.K Wx f))
abbrev TW_ (T : Tab) (X : Cx) (Wx : WX) (e : Expr) (f : Sl → W → R IV) : Prop := PW X e (tB (tI T X.K Wx f))
theorem sT_not (ha : T_ T X Wx x fa) : T_ T X Wx (.UnaryOp .Not x pos) fun σ w => tst (fa σ w) fun b w1 => .ok (.d (.bool (!b))) w1 := by
  refine PT.imp (pt_not ha) fun σ H Q ⟨ms, iσ, w, s, q⟩ => ?_
  refine tst_step s q fun b w1 H1 m1 g1 s1 q1 => ⟨b, rfl, ?_⟩
  obtain ⟨c, e, q2⟩ := endI q1 (show Fz _ _ (.bl (!b)) _ from .bl _) s1.w
  cases e
  exact q2
theorem sT_and {r : List Expr} (ha : T_ T X Wx x fa) (hb : TW_ T X Wx (.BoolOp .And (y :: r) pos) fb) : TW_ T X Wx (.BoolOp .And (x :: y :: r) pos) fun σ w => tst (fa σ w) fun c w1 => if c then fb σ w1 else .ok (.d (.bool false)) w1 := by
  refine PW.imp (pw_and ha hb) fun σ H Q ⟨ms, iσ, w, s, q⟩ => ?_
  refine tst_step s q fun b w1 H1 m1 g1 s1 q1 => ⟨b, rfl, ?_⟩
  cases b with
  | true => exact ⟨m1, iσ, w1, s1, q1⟩
  | false =>
    obtain ⟨c, e, q2⟩ := endI q1 (show Fz _ _ (.bl false) _ from .bl _) s1.w
    cases e
    exact q2
theorem sT_or {r : List Expr} (ha : T_ T X Wx x fa) (hb : TW_ T X Wx (.BoolOp .Or (y :: r) pos) fb) : TW_ T X Wx (.BoolOp .Or (x :: y :: r) pos) fun σ w => tst (fa σ w) fun c w1 => if c then .ok (.d (.bool true)) w1 else fb σ w1 := by
  refine PW.imp (pw_or ha hb) fun σ H Q ⟨ms, iσ, w, s, q⟩ => ?_
  refine tst_step s q fun b w1 H1 m1 g1 s1 q1 => ⟨b, rfl, ?_⟩
  cases b with
  | false => exact ⟨m1, iσ, w1, s1, q1⟩
  | true =>
    obtain ⟨c, e, q2⟩ := endI q1 (show Fz _ _ (.bl true) _ from .bl _) s1.w
    cases e
    exact q2
/-- the test's parts, told of its value -/
theorem sE_ite (hc : T_ T X Wx z fc) (ha : I_ T X Wx x fa) (hb : I_ T X Wx y fb) : I_ T X Wx (.IfExp z x y pos) fun σ w => tst (fc σ w) fun k w1 => if k then fa σ w1 else fb σ w1 := by
  refine PE.imp (pe_ifExp hc ha hb) fun σ H Q ⟨ms, iσ, w, s, q⟩ => ?_
  refine tst_step s q fun b w1 H1 m1 g1 s1 q1 => ⟨b, rfl, ?_⟩
  cases b with
  | true => exact ⟨m1, iσ, w1, s1, q1⟩
  | false => exact ⟨m1, iσ, w1, s1, q1⟩
theorem sF_ite (hc : T_ T X Wx z fc) (ha : F_ T X Wx x fa) (hb : F_ T X Wx y fb) : F_ T X Wx (.IfExp z x y pos) fun σ w => tst (fc σ w) fun k w1 => if k then fa σ w1 else fb σ w1 := by
  refine PE.imp (pe_ifExp hc ha hb) fun σ H Q ⟨ms, iσ, w, s, q⟩ => ?_
  refine tst_step s q fun b w1 H1 m1 g1 s1 q1 => ⟨b, rfl, ?_⟩
  cases b with
  | true => exact ⟨m1, iσ, w1, s1, q1⟩
  | false => exact ⟨m1, iσ, w1, s1, q1⟩
theorem sE_cmp {o : CmpOp} {k : Nat} (hr : Room k X.A) (hm : behindInMarks o y = false) (ha : I_ T X Wx x fa) (hb : I_ T X Wx y fb) : I_ T X Wx (.Compare x [o] [y] pos) fun σ w => (fa σ w).bind fun u w1 => (fb σ w1).bind fun v w2 => ofO ((cmpV o w2 u v).map fun k => .d (.bool k)) w2 := by
  refine PE.imp (pe_cmpR (cmpI_ok (T := T) hr o) ha hb hm) fun σ H Q ⟨ms, iσ, w, s, q⟩ => ?_
  refine stepI s q fun u w1 ux H1 m1 g1 r1 s1 q1 => ?_
  refine stepI s1 q1 fun v w2 vx H2 m2 g2 r2 s2 q2 => ?_
  cases hc : cmpV o w2 u v with
  | none => rw [hc] at q2; exact False.elim q2
  | some b =>
  rw [hc] at q2
  exact ⟨m2, w2, u, v, b, r1.grow g2, r2, s2.w, hc, endI q2 (show Fz _ _ _ _ from .bl _) s2.w⟩
theorem sT_cmp {o : CmpOp} {k : Nat} (hr : Room k X.A) (hm : behindInMarks o y = false) (ha : I_ T X Wx x fa) (hb : I_ T X Wx y fb) : T_ T X Wx (.Compare x [o] [y] pos) fun σ w => (fa σ w).bind fun u w1 => (fb σ w1).bind fun v w2 => ofO ((cmpV o w2 u v).map fun k => .d (.bool k)) w2 := by
  refine PT.imp (pt_cmpR (cmpI_ok (T := T) hr o) ha hb hm) fun σ H Q ⟨ms, iσ, w, s, q⟩ => ?_
  refine stepI s q fun u w1 ux H1 m1 g1 r1 s1 q1 => ?_
  refine stepI s1 q1 fun v w2 vx H2 m2 g2 r2 s2 q2 => ?_
  cases hc : cmpV o w2 u v with
  | none => rw [hc] at q2; exact False.elim q2
  | some b =>
  rw [hc] at q2
  exact ⟨m2, w2, u, v, b, r1.grow g2, r2, s2.w, hc, endI q2 (show Fz _ _ _ _ from .bl _) s2.w⟩
theorem chain_step {o o' : CmpOp} {σ : List (Option V)} {H : Hp} {Q : VK} {ms : List Addr} {iσ : Sl} {w : W} (s : Sim T X.K ms H iσ σ w) (q : endsR T X.K ms H (fun c d H' => Wx c d σ H') (relI T X.K) Q ((fa iσ w).bind fun u w1 => (fb iσ w1).bind fun v w2 => (ofO (cmpV o w2 u v) w2).bind fun k w2 =>
      if k then (fc iσ w2).bind fun z w3 => ofO ((cmpV o' w3 v z).map fun k => .d (.bool k)) w3 else .ok (.d (.bool false)) w2)) :
    tChain (rCmpI T X.K o) (rCmpI T X.K o') (tI T X.K Wx fa) (tI T X.K Wx fb) (tI T X.K Wx fc) σ H Q := by
  refine stepI s q fun u w1 ux H1 m1 g1 r1 s1 q1 => ?_
  refine stepI s1 q1 fun v w2 vx H2 m2 g2 r2 s2 q2 => ?_
  cases hc : cmpV o w2 u v with
  | none => rw [hc] at q2; exact False.elim q2
  | some b =>
  rw [hc] at q2
  refine ⟨m2, w2, u, v, b, r1.grow g2, r2, s2.w, hc, b, rfl, ?_⟩
  cases b with
  | false => exact endI q2 (show Fz _ _ _ _ from .bl _) s2.w
  | true =>
    refine stepI s2 q2 fun z w3 zx H3 m3 g3 r3 s3 q3 => ?_
    cases hd : cmpV o' w3 v z with
    | none => rw [hd] at q3; exact False.elim q3
    | some b =>
    rw [hd] at q3
    exact ⟨m3, w3, v, z, b, r2.grow g3, r3, s3.w, hd, endI q3 (show Fz _ _ _ _ from .bl _) s3.w⟩
theorem sE_chain {o o' : CmpOp} {k : Nat} (hr : Room k X.A) (hm : behindInMarks o' z = false) (ha : I_ T X Wx x fa) (hb : I_ T X Wx y fb) (hc : I_ T X Wx z fc) : I_ T X Wx (.Compare x [o, o'] [y, z] pos) fun σ w => (fa σ w).bind fun u w1 => (fb σ w1).bind fun v w2 => (ofO (cmpV o w2 u v) w2).bind fun k w2 =>
      if k then (fc σ w2).bind fun z w3 => ofO ((cmpV o' w3 v z).map fun k => .d (.bool k)) w3 else .ok (.d (.bool false)) w2 :=
  PE.imp (pe_chain (cmpI_ok (T := T) hr o) (cmpI_ok (T := T) hr o') ha hb hc (show behindInMarks o' z = false from hm)) fun σ H Q ⟨ms, iσ, w, s, q⟩ => chain_step s q
theorem sT_chain {o o' : CmpOp} {k : Nat} (hr : Room k X.A) (hm : behindInMarks o' z = false) (ha : I_ T X Wx x fa) (hb : I_ T X Wx y fb) (hc : I_ T X Wx z fc) : T_ T X Wx (.Compare x [o, o'] [y, z] pos) fun σ w => (fa σ w).bind fun u w1 => (fb σ w1).bind fun v w2 => (ofO (cmpV o w2 u v) w2).bind fun k w2 =>
      if k then (fc σ w2).bind fun z w3 => ofO ((cmpV o' w3 v z).map fun k => .d (.bool k)) w3 else .ok (.d (.bool false)) w2 :=
  PT.imp (pt_chain (cmpI_ok (T := T) hr o) (cmpI_ok (T := T) hr o') ha hb hc (show behindInMarks o' z = false from hm)) fun σ H Q ⟨ms, iσ, w, s, q⟩ => chain_step s q
/-! displays -/
abbrev A_ (T : Tab) (X : Cx) (Wx : WX) (es : List Expr) (f : Sl → W → R (List IV)) : Prop := PA X es (tIA T X.K Wx f)
theorem sA_nil : A_ T X Wx [] fun _ w => .ok [] w := PA.imp pa_nil fun σ H Q ⟨ms, iσ, w, s, q⟩ => endI q .nil s.w
theorem sA_cons {es : List Expr} (hn : noStar x = true) (ha : I_ T X Wx x fa) (hr : A_ T X Wx es fs) : A_ T X Wx (x :: es) fun σ w => (fa σ w).bind fun v w1 => (fs σ w1).bind fun vs w2 => .ok (v :: vs) w2 := by
  refine PA.imp (pa_cons ha hr (star_cons hn)) fun σ H Q ⟨ms, iσ, w, s, q⟩ => ?_
  refine stepI s q fun u w1 ux H1 m1 g1 r1 s1 q1 => ?_
  refine stepA s1 q1 fun v w2 vx H2 m2 g2 r2 s2 q2 => ?_
  exact endI q2 (.cons (r1.grow g2) r2) s2.w
theorem sE_tup {es : List Expr} {n : Nat} (h : A_ T X Wx es fs) : I_ T X Wx (.Tuple es n pos) fun σ w => (fs σ w).bind fun vs w1 => match purs vs with
    | some xs => if okL xs.length then .ok (.d (.tuple xs)) w1 else .no
    | none => .no := by
  refine PE.imp (pe_tup h) fun σ H Q ⟨ms, iσ, w, s, q⟩ => ?_
  refine stepA s q fun us w1 xs H1 m1 g1 r1 s1 q1 => ?_
  cases hp : purs us with
  | none => rw [hp] at q1; exact False.elim q1
  | some ds =>
  rw [hp] at q1
  have f := purs_fz r1 hp
  dsimp only at q1
  split at q1
  · rename_i hz
    exact ⟨by rw [f.length]; exact sz_of hz, fun p hp => end_tup q1 s1.w f hp⟩
  · exact False.elim q1
theorem sF_lst {es : List Expr} (h : A_ T X Wx es fs) : F_ T X Wx (.List es pos) fun σ w => (fs σ w).bind fun vs w1 => match purs vs with
    | some xs => if okL xs.length then .ok (.d (.list xs)) w1 else .no
    | none => .no := by
  refine PE.imp (pe_lst h) fun σ H Q ⟨ms, iσ, w, s, q⟩ => ?_
  refine stepA s q fun us w1 xs H1 m1 g1 r1 s1 q1 => ?_
  cases hp : purs us with
  | none => rw [hp] at q1; exact False.elim q1
  | some ds =>
  rw [hp] at q1
  have f := purs_fz r1 hp
  dsimp only at q1
  split at q1
  · rename_i hz
    exact ⟨by rw [f.length]; exact sz_of hz, fun p hp => end_lst q1 s1.w f hp⟩
  · exact False.elim q1
/-! items, slices -/
theorem sE_sub (hs : PlainIx y) (ha : I_ T X Wx x fa) (hb : I_ T X Wx y fb) : I_ T X Wx (.Subscript x y pos) fun σ w => (fa σ w).bind fun u w1 => (fb σ w1).bind fun v w2 => match rd w2 u, rd w2 v with
    | some x, some y => ofO ((subD x y).map IV.d) w2
    | _, _ => .no := by
  refine PE.imp (pe_ix (sub_ok (T := T)) ha hb hs) fun σ H Q ⟨ms, iσ, w, s, q⟩ => ?_
  refine stepI s q fun u w1 ux H1 m1 g1 r1 s1 q1 => ?_
  refine stepI s1 q1 fun v w2 vx H2 m2 g2 r2 s2 q2 => ?_
  exact ⟨m2, w2, u, v, _, r1.grow g2, r2, s2.w, q2⟩
def relO : Rel (Option Int) (Option Int) := fun _ _ _ a b => a = b
instance : RM relO := ⟨fun _ h => h⟩
def tIP (T : Tab) (K : PySem.W.Frag) (Wx : WX) (f : Sl → W → R (Option Int)) : TO := fun σ H Q => ∃ ms iσ w, Sim T K ms H iσ σ w ∧ endsR T K ms H (fun c d H' => Wx c d σ H') relO Q (f iσ w)
theorem PO.imp {e : Option Expr} {t t' : TO} (h : PO X e t) (i : ∀ σ H Q, t' σ H Q → t σ H Q) : PO X e t' := ⟨fun pins s σ H Q I q => h.run pins s σ H Q I (i σ H Q q)⟩
theorem sP_none : PO X none (tIP T X.K Wx fun _ w => .ok none w) := PO.imp po_none fun σ H Q ⟨ms, iσ, w, s, q⟩ => endI q rfl s.w
theorem sP_some (ha : I_ T X Wx x fa) : PO X (some x) (tIP T X.K Wx fun σ w => (fa σ w).bind fun v w1 => match v with
    | .d (.int i) => .ok (some i) w1
    | _ => .no) := by
  refine PO.imp (po_some ha) fun σ H Q ⟨ms, iσ, w, s, q⟩ => ?_
  refine stepI s q fun u w1 ux H1 m1 g1 r1 s1 q1 => ?_
  split at q1
  · cases (show Fz _ _ _ _ from r1)
    exact ⟨_, rfl, endI q1 rfl s1.w⟩
  · exact False.elim q1
theorem stepP {γ δ : Type} {rel' : Rel γ δ} [RM rel'] {ms : List Addr} {H : Hp} {iσ : Sl} {σ : List (Option V)} {w : W} {f : Sl → W → R (Option Int)} {g : Option Int → W → R γ} {Q : δ → Hp → Prop} {Q' : Option Int → Hp → Prop} (s : Sim T X.K ms H iσ σ w) (h : endsR T X.K ms H (fun c d H' => Wx c d σ H') rel' Q ((f iσ w).bind g))
    (k : ∀ (v : Option Int) (w1 : W) (H1 : Hp) (ms1 : List Addr), Ext H ms H1 ms1 → Sim T X.K ms1 H1 iσ σ w1 → endsR T X.K ms1 H1 (fun c d H' => Wx c d σ H') rel' Q (g v w1) → Q' v H1) : tIP T X.K Wx f σ H Q' :=
  ⟨ms, iσ, w, s, h.bind fun a w1 b H1 ms1 g1 r1 w1' e => by
    have e1 : a = b := r1
    subst e1
    exact k a w1 H1 ms1 g1 (s.grow g1 w1') e⟩
theorem sF_sl {l h : Option Expr} {p2 : Pos} {fl fh : Sl → W → R (Option Int)} (ha : I_ T X Wx x fa) (hl : PO X l (tIP T X.K Wx fl)) (hh : PO X h (tIP T X.K Wx fh)) :
    F_ T X Wx (.Subscript x (.Slice l h none p2) pos) fun σ w => (fa σ w).bind fun u w1 => (fl σ w1).bind fun l w2 => (fh σ w2).bind fun h w3 => match rd w3 u with
      | some x => ofO ((slD x l h).map IV.d) w3
      | none => .no := by
  refine PE.imp (pe_slice (sl_ok (T := T)) ha hl hh) fun σ H Q ⟨ms, iσ, w, s, q⟩ => ?_
  refine stepI s q fun u w1 ux H1 m1 g1 r1 s1 q1 => ?_
  refine stepP s1 q1 fun v w2 H2 m2 g2 s2 q2 => ?_
  refine stepP s2 q2 fun v' w3 H3 m3 g3 s3 q3 => ?_
  cases hd : rd w3 u with
  | none => rw [hd] at q3; exact False.elim q3
  | some d =>
  rw [hd] at q3
  exact ⟨m3, w3, u, d, _, (r1.grow g2).grow g3, s3.w, hd, q3⟩
end
end Pv

/-! Part J: calls. -/
namespace Pv
open PySem PySem.Spec PyProof.Rows L2
section
variable {T : Tab} {c : Cc} {E : En} {X : Cx} {Wx : WX} {k : Nat} {x y z : Expr} {pos p : Pos} {fa fb fc : Sl → W → R IV} {fs fk : Sl → W → R (List IV)}
theorem RelA.len {T : Tab} {K : PySem.W.Frag} {ms : List Addr} {H : Hp} {v : List IV} {u : List V} (h : RelA T K ms H v u) : v.length = u.length := Paired.length h
theorem pickG_len {α : Type} {vs : List α} : ∀ {p : List Nat} {us : List α}, pickG vs p = some us → us.length = p.length
  | [], _, e => by cases e; rfl
  | j :: r, us, e => by
    unfold pickG at e
    cases h1 : vs[j]? with
    | none => rw [h1] at e; cases e
    | some v =>
    rw [h1, Option.bind_some] at e
    cases h2 : pickG vs r with
    | none => rw [h2] at e; cases e
    | some ws =>
    rw [h2] at e
    cases e
    rw [List.length_cons, List.length_cons, pickG_len h2]
theorem pick_rel {α β : Type} {R : α → β → Prop} {vs : List α} {us : List β} (h : Paired R vs us) : ∀ {p : List Nat} {ws : List α}, pickG vs p = some ws → ∃ zs, pickG us p = some zs ∧ Paired R ws zs
  | [], _, e => by cases e; exact ⟨[], rfl, .nil⟩
  | j :: r, ws, e => by
    unfold pickG at e
    cases h1 : vs[j]? with
    | none => rw [h1] at e; cases e
    | some v =>
    rw [h1, Option.bind_some] at e
    cases h2 : pickG vs r with
    | none => rw [h2] at e; cases e
    | some w =>
    rw [h2] at e
    cases e
    obtain ⟨zs, q1, q2⟩ := pick_rel h h2
    have hj : ∃ u, us[j]? = some u ∧ R v u := by
      clear h2 q1 q2
      revert j us
      induction vs with
      | nil => intro us h j h1; simp at h1
      | cons a vs ih =>
        intro us h j h1
        cases h with
        | cons ra rr =>
        cases j with
        | zero =>
          have e := Option.some.inj (show some a = some v from h1)
          subst e
          exact ⟨_, rfl, ra⟩
        | succ j => exact ih rr j (show vs[j]? = some v from h1)
    obtain ⟨u, hu, ru⟩ := hj
    exact ⟨u :: zs, by unfold pickG; rw [hu, Option.bind_some, q1]; rfl, .cons ru q2⟩
theorem pick_pickG (vs : List IV) : ∀ p : List Nat, pick vs p = pickG vs p
  | [] => rfl
  | j :: r => by unfold pick pickG; rw [pick_pickG vs r]
/-- a def's call -/
theorem sE_call {i : Nat} {n : Str} {ps : List Str} {es : List Expr} (g : Gd T c E X Wx k) (hi : c.fs[i]? = some (n, ps)) (hg : Gl X n) (hd : (n == ("__debug__" : Str)) = false) (hn : (y :: es).all noStar = true) (ha : A_ T X Wx (y :: es) fs) :
    I_ T X Wx (.Call (.Name n p) (y :: es) [] pos) fun σ w => (fs σ w).bind fun vs w1 => E.Φ i vs w1 := by
  obtain ⟨f, fd, h1, h2, h3, h4, _⟩ := (g.gk.fn i n ps hi).ex
  rw [List.all_cons, Bool.and_eq_true] at hn
  refine PE.imp (pe_callS h4 g.room hg h1 h2 h3 (fun σ => passAt g.tk σ) ha hd (star_cons hn.1) (star_any hn.2)) fun σ H Q ⟨ms, iσ, w, s, q⟩ => ?_
  refine stepA s q fun us w1 xs H1 m1 g1 r1 s1 q1 => ?_
  have hl : xs.length = ps.length := by
    by_cases hl : us.length = ps.length
    · rw [← r1.len]; exact hl
    · rw [(g.gk.fn i n ps hi).ar us w1 hl] at q1
      exact False.elim q1
  exact ⟨hl, m1, w1, us, r1, s1.w, q1⟩
/-! keywords -/
abbrev K_ (T : Tab) (X : Cx) (Wx : WX) (kws : List Keyword) (f : Sl → W → R (List IV)) : Prop := PK X kws (tIA T X.K Wx f)
theorem PK.imp {e : List Keyword} {t t' : TA} (h : PK X e t) (i : ∀ σ H Q, t' σ H Q → t σ H Q) : PK X e t' := ⟨fun pos pins s σ H Q I q => h.run pos pins s σ H Q I (i σ H Q q)⟩
theorem sK_nil : K_ T X Wx [] fun _ w => .ok [] w := PK.imp pk_nil fun σ H Q ⟨ms, iσ, w, s, q⟩ => endI q .nil s.w
theorem sK_cons {kws : List Keyword} {nm : Option Str} {kp : Pos} (ha : I_ T X Wx x fa) (hr : K_ T X Wx kws fs) : K_ T X Wx (⟨nm, x, kp⟩ :: kws) fun σ w => (fa σ w).bind fun v w1 => (fs σ w1).bind fun vs w2 => .ok (v :: vs) w2 := by
  refine PK.imp (pk_cons ha hr) fun σ H Q ⟨ms, iσ, w, s, q⟩ => ?_
  refine stepI s q fun u w1 ux H1 m1 g1 r1 s1 q1 => ?_
  refine stepA s1 q1 fun v w2 vx H2 m2 g2 r2 s2 q2 => ?_
  exact endI q2 (.cons (r1.grow g2) r2) s2.w
def named : List Keyword → Bool
  | [] => true
  | ⟨some _, _, _⟩ :: r => named r
  | ⟨none, _, _⟩ :: _ => false
theorem kw_all {env : Env} : ∀ {kws : List Keyword}, named kws = true → (backToKw pos (keywordEach kws env)).all (·.1.isSome) = true ∧ (backToKw pos (keywordEach kws env)).any (·.1.isNone) = false ∧ (backToKw pos (keywordEach kws env)).filterMap (·.1) = kwNames kws
  | [], _ => ⟨rfl, rfl, rfl⟩
  | ⟨some n, e, q⟩ :: r, h => by
    obtain ⟨h1, h2, h3⟩ := kw_all (env := env) (kws := r) h
    refine ⟨?_, ?_, ?_⟩
    · show (true && (backToKw pos (keywordEach r env)).all (·.1.isSome)) = true
      rw [h1]; rfl
    · show (false || (backToKw pos (keywordEach r env)).any (·.1.isNone)) = false
      rw [h2]; rfl
    · show n :: (backToKw pos (keywordEach r env)).filterMap (·.1) = n :: kwNames r
      rw [h3]
  | ⟨none, _, _⟩ :: _, h => by cases h
theorem kwNames_len : ∀ kws : List Keyword, (kwNames kws).length = kws.length
  | [] => rfl
  | ⟨some _, _, _⟩ :: r => by show (kwNames r).length + 1 = r.length + 1; rw [kwNames_len r]
  | ⟨none, _, _⟩ :: r => by show (kwNames r).length + 1 = r.length + 1; rw [kwNames_len r]
theorem paired_append {α β : Type} {R : α → β → Prop} : ∀ {as bs : List α} {vs zs : List β}, Paired R as vs → Paired R bs zs → Paired R (as ++ bs) (vs ++ zs)
  | _, _, _, _, .nil, s => s
  | _, _, _, _, .cons r t, s => .cons r (paired_append t s)
theorem run_kw {i : Nat} {n : Str} {ps : List Str} {perm : List Nat} {kn : List Str} {f : Addr} {fd : FuncData} {pins : List (Addr × Obj)} {σ : List (Option V)} {H : Hp} {s : Shared} {Q : VK} {us ws : List Value} {vs zs : List V} {as bs cs : List IV} {ms : List Addr} {w : W} (g : Gd T c E X Wx k) (hi : c.fs[i]? = some (n, ps))
    (F : FnOk X.prog X.w X.K X.mg X.base (L2.CX X.prog X.w) k f fd ps (spI T X.K ps.length (E.Φ i))) (hb : ∀ (s : Shared) (us ws us' : List Value), us.length = as.length → ws.length = kn.length → pickG (us ++ ws) perm = some us' → us'.length = ps.length ∧ BindsTo s fd ⟨us, kn.zip ws⟩ (ps.zip us'))
    (I : L2.Inv X pins σ H s) (r : Vals vs us) (rz : Vals zs ws) (ra : RelA T X.K ms H as vs) (rb : RelA T X.K ms H bs zs) (hkn : kn.length = bs.length) (rw' : RelW X.K ms H w) (hp : pick (as ++ bs) perm = some cs) (q : endsR T X.K ms H (fun c d H' => Wx c d σ H') (relI T X.K) Q (E.Φ i cs w)) :
    wpAny (model X.prog X.w) X.A (call (.ref f) us (kn.zip ws)) (EP X pins σ Q) X.xe s := by
  rw [pick_pickG] at hp
  obtain ⟨vs', h1, ra'⟩ := pick_rel (paired_append ra rb) hp
  obtain ⟨us', h2, rv'⟩ := pick_rel (show Paired L2.RelV (vs ++ zs) (us ++ ws) from r.append rz) h1
  have hl1 : us.length = as.length := by rw [← r.length, ra.length]
  have hl2 : ws.length = kn.length := by rw [hkn, ← rz.length, RelA.len rb]
  obtain ⟨b1, b2⟩ := hb s us ws us' hl1 hl2 h2
  have hlen : vs'.length = ps.length := by rw [show vs'.length = us'.length from Paired.length rv', b1]
  refine wpAny_call (codeAny_mono (F.run X.A X.stack s H ⟨us, kn.zip ws⟩ us' vs' Q (WE Wx σ) g.room I.env0 b2 rv' ⟨hlen, ms, w, cs, ra', rw', q⟩) fun r s' hq => ?_)
  cases r with
  | error e => exact passAt g.tk σ pins H s e s' I hq
  | ok fl =>
    cases fl with
    | ret u => exact I.after hq
    | next => exact False.elim hq
    | brk => exact False.elim hq
    | cont => exact False.elim hq
theorem stepAe {γ δ : Type} {rel' : Rel γ δ} [RM rel'] {ms : List Addr} {H : Hp} {iσ : Sl} {σ : List (Option V)} {w : W} {f : Sl → W → R (List IV)} {g : List IV → W → R γ} {Q : δ → Hp → Prop} {Q' : List V → Hp → Prop} (s : Sim T X.K ms H iσ σ w) (h : endsR T X.K ms H (fun c d H' => Wx c d σ H') rel' Q ((f iσ w).bind g))
    (k : ∀ (v : List IV) (w1 : W) (u : List V) (H1 : Hp) (ms1 : List Addr), f iσ w = .ok v w1 → Ext H ms H1 ms1 → RelA T X.K ms1 H1 v u → Sim T X.K ms1 H1 iσ σ w1 → endsR T X.K ms1 H1 (fun c d H' => Wx c d σ H') rel' Q (g v w1) → Q' u H1) : tIA T X.K Wx f σ H Q' := by
  refine ⟨ms, iσ, w, s, ?_⟩
  cases hf : f iσ w with
  | no => rw [hf] at h; exact h
  | exc c x w1 => rw [hf] at h; exact h
  | ok v w1 =>
    rw [hf] at h
    exact fun u H1 ms1 g1 r1 w1' => k v w1 u H1 ms1 hf g1 r1 (s.grow g1 w1') (endsR.grow g1 h)
/-- a def's call with keywords -/
theorem sE_callk1 {i : Nat} {n : Str} {ps : List Str} {e : Expr} {es : List Expr} {kws : List Keyword} {perm : List Nat} (g : Gd T c E X Wx k) (hi : c.fs[i]? = some (n, ps)) (hg : Gl X n) (hd : (n == ("__debug__" : Str)) = false) (hn : (e :: es).all noStar = true) (hk : named kws = true)
    (hkw : (i, (e :: es).length, kwNames kws, perm) ∈ c.kw) (ha : A_ T X Wx (e :: es) fs) (hb : K_ T X Wx kws fk) (la : ∀ σ w vs w', fs σ w = .ok vs w' → vs.length = (e :: es).length) (lb : ∀ σ w vs w', fk σ w = .ok vs w' → vs.length = kws.length) :
    I_ T X Wx (.Call (.Name n p) (e :: es) kws pos) fun σ w => (fs σ w).bind fun vs w1 => (fk σ w1).bind fun zs w2 => match pick (vs ++ zs) perm with
      | some us => E.Φ i us w2
      | none => .no := by
  obtain ⟨f, fd, h1, h2, h3, h4, h5⟩ := (g.gk.fn i n ps hi).ex
  obtain ⟨q1, q2, q3⟩ := kw_all (pos := pos) (env := X.env) hk
  refine ⟨fun pins s σ H Q I h => ?_⟩
  obtain ⟨ms, iσ, w, sm, q⟩ := h
  refine wpAny_Call_Name_kw (ld_glob I hg h1 ?_ hd)
  have hn' := hn
  rw [List.all_cons, Bool.and_eq_true] at hn'
  refine PySem.W.callWith_KW (h₀ := X.base) I.ok.mod.kin h2 q1 (thn (ha.run pos pins s σ H (fun vs H1 => ∃ as m1 w1, as.length = (e :: es).length ∧ RelA T X.K m1 H1 as vs ∧ Sim T X.K m1 H1 iσ σ w1 ∧ endsR T X.K m1 H1 (fun c d H' => Wx c d σ H') (relI T X.K) Q ((fk iσ w1).bind fun zs w2 => match pick (as ++ zs) perm with
      | some us => E.Φ i us w2
      | none => .no)) I (stepAe sm q fun as w1 vs H1 m1 ef g1 r1 s1 q1 => ⟨as, m1, w1, la _ _ _ _ ef, r1, s1, q1⟩)) fun us s1 ⟨vs, H1, I1, rv, as, m1, w1, l1, ra, sm1, qq⟩ => ?_) (by rw [Bool.or_eq_false_iff]; exact ⟨star_any hn, q2⟩) (star_cons hn'.1)
  refine thn (hb.run pos pins s1 σ H1 (fun zs H2 => ∃ bs m2 w2, bs.length = kws.length ∧ RelA T X.K m2 H2 as vs ∧ RelA T X.K m2 H2 bs zs ∧ RelW X.K m2 H2 w2 ∧ endsR T X.K m2 H2 (fun c d H' => Wx c d σ H') (relI T X.K) Q (match pick (as ++ bs) perm with
      | some us => E.Φ i us w2
      | none => .no)) I1 (stepAe sm1 qq fun bs w2 zs H2 m2 ef g2 r2 s2 q2 => ⟨bs, m2, w2, lb _ _ _ _ ef, ra.grow g2, r2, s2.w, q2⟩)) fun ws s2 ⟨zs, H2, I2, rz, bs, m2, w2, l2, ra2, rb2, rw2, q4⟩ => ⟨I2.kIn, ?_⟩
  rw [q3]
  cases hp : pick (as ++ bs) perm with
  | none => rw [hp] at q4; exact False.elim q4
  | some cs =>
  rw [hp] at q4
  exact run_kw g hi h4 (fun s us ws us' e1 e2 e3 => h5 _ (kwNames kws) perm hkw s us ws us' (by rw [e1, l1]) e2 e3) I2 rv rz ra2 rb2 (by rw [kwNames_len, l2]) rw2 hp q4
theorem sE_callk0 {i : Nat} {n : Str} {ps : List Str} {kws : List Keyword} {perm : List Nat} (g : Gd T c E X Wx k) (hi : c.fs[i]? = some (n, ps)) (hg : Gl X n) (hd : (n == ("__debug__" : Str)) = false) (hk : named kws = true)
    (hkw : (i, 0, kwNames kws, perm) ∈ c.kw) (hb : K_ T X Wx kws fk) (lb : ∀ σ w vs w', fk σ w = .ok vs w' → vs.length = kws.length) :
    I_ T X Wx (.Call (.Name n p) [] kws pos) fun σ w => (fk σ w).bind fun zs w2 => match pick zs perm with
      | some us => E.Φ i us w2
      | none => .no := by
  obtain ⟨f, fd, h1, h2, h3, h4, h5⟩ := (g.gk.fn i n ps hi).ex
  obtain ⟨q1, q2, q3⟩ := kw_all (pos := pos) (env := X.env) hk
  refine ⟨fun pins s σ H Q I h => ?_⟩
  obtain ⟨ms, iσ, w, sm, q⟩ := h
  refine wpAny_Call_Name_kw (ld_glob I hg h1 ?_ hd)
  refine PySem.W.callWith_KW0 (h₀ := X.base) I.ok.mod.kin h2 q1 ?_ (by rw [q2]; rfl)
  refine thn (hb.run pos pins s σ H (fun zs H2 => ∃ bs m2 w2, bs.length = kws.length ∧ RelA T X.K m2 H2 bs zs ∧ RelW X.K m2 H2 w2 ∧ endsR T X.K m2 H2 (fun c d H' => Wx c d σ H') (relI T X.K) Q (match pick bs perm with
      | some us => E.Φ i us w2
      | none => .no)) I (stepAe sm q fun bs w2 zs H2 m2 ef g2 r2 s2 q2 => ⟨bs, m2, w2, lb _ _ _ _ ef, r2, s2.w, q2⟩)) fun ws s2 ⟨zs, H2, I2, rz, bs, m2, w2, l2, rb2, rw2, q4⟩ => ⟨I2.kIn, ?_⟩
  rw [q3]
  cases hp : pick bs perm with
  | none => rw [hp] at q4; exact False.elim q4
  | some cs =>
  rw [hp] at q4
  exact run_kw (as := []) g hi h4 (fun s us ws us' e1 e2 e3 => h5 _ (kwNames kws) perm hkw s us ws us' e1 e2 e3) I2 .nil rz .nil rb2 (by rw [kwNames_len, l2]) rw2 hp q4
/-! built-in functions -/
theorem cal_boot (f : B) (h : f ≠ .gcd ∧ f ≠ .lcm ∧ f ≠ .isqrt) : bootBuiltins f.nm = some (cal f) := by
  obtain ⟨h1, h2, h3⟩ := h
  cases f <;> first | exact absurd rfl h1 | exact absurd rfl h2 | exact absurd rfl h3 | (show bootBuiltins _ = some _; decide +kernel)
theorem cal_kind (f : B) : (∃ id, cal f = .builtin id) ∨ ∃ n, cal f = .type n := by
  cases f <;> first | exact .inl ⟨_, rfl⟩ | exact .inr ⟨_, rfl⟩
theorem nm_plain (f : B) : f.nm ≠ "__name__" := by cases f <;> decide
theorem sF_blt {f : B} {n : Str} {es : List Expr} (g : Gd T c E X Wx k) (hf : f ∈ c.bs) (hnm : n = f.nm) (hg : Gl X n) (hd : (n == ("__debug__" : Str)) = false) (hn : (y :: es).all noStar = true) (ha : A_ T X Wx (y :: es) fs) :
    F_ T X Wx (.Call (.Name n p) (y :: es) [] pos) fun σ w => (fs σ w).bind fun vs w1 => bltV f vs w1 := by
  subst hnm
  have hb := g.gk.bl f hf
  have hc := blt_ok (T := T) g.calm f
  have hn' := hn
  rw [List.all_cons, Bool.and_eq_true] at hn'
  have fin : PE X (.Call (.Name f.nm p) (y :: es) [] pos) (tCB (rFA T X.K (bltV f)) (tIA T X.K Wx fs)) → F_ T X Wx (.Call (.Name f.nm p) (y :: es) [] pos) fun σ w => (fs σ w).bind fun vs w1 => bltV f vs w1 := fun h =>
    PE.imp h fun σ H Q ⟨ms, iσ, w, s, q⟩ => stepA s q fun us w1 xs H1 m1 g1 r1 s1 q1 => ⟨m1, w1, us, _, r1, s1.w, q1⟩
  refine fin ?_
  by_cases hs : f ≠ .gcd ∧ f ≠ .lcm ∧ f ≠ .isqrt
  · have hm : X.mg f.nm = none := by
      obtain ⟨h1, h2, h3⟩ := hs
      cases f <;> first | exact absurd rfl h1 | exact absurd rfl h2 | exact absurd rfl h3 | exact hb
    rcases cal_kind f with ⟨id, e⟩ | ⟨id, e⟩
    · rw [e] at hc
      exact pe_callB hc hg hm (by rw [cal_boot f hs, e]) ha (nm_plain f) hd (star_cons hn'.1) (star_any hn'.2)
    · rw [e] at hc
      exact pe_callTy hc hg hm (by rw [cal_boot f hs, e]) ha (nm_plain f) hd (star_cons hn'.1) (star_any hn'.2)
  · have : f = .gcd ∨ f = .lcm ∨ f = .isqrt := by
      by_cases a : f = .gcd
      · exact .inl a
      · by_cases b : f = .lcm
        · exact .inr (.inl b)
        · by_cases c : f = .isqrt
          · exact .inr (.inr c)
          · exact absurd ⟨a, b, c⟩ hs
    rcases this with rfl | rfl | rfl
    · exact pe_callBfun (id := "math.gcd") hc hg hb ha hd (star_cons hn'.1) (star_any hn'.2)
    · exact pe_callBfun (id := "math.lcm") hc hg hb ha hd (star_cons hn'.1) (star_any hn'.2)
    · exact pe_callBfun (id := "math.isqrt") hc hg hb ha hd (star_cons hn'.1) (star_any hn'.2)
end
end Pv

/-! Part K: isinstance, methods, targets, what is walked. -/
namespace Pv
open PySem PySem.Spec PyProof.Rows L2
section
variable {T : Tab} {c : Cc} {E : En} {X : Cx} {Wx : WX} {k : Nat} {x y z : Expr} {pos p : Pos} {fa fb fc : Sl → W → R IV} {fs fk : Sl → W → R (List IV)}
/-! isinstance -/
theorem boot_ty (t : Pv.T) : bootBuiltins (Str.ofString t.nm) = some (.type t.nm) := by cases t <;> decide +kernel
theorem ty_plain (t : Pv.T) : Str.ofString t.nm ≠ "__name__" := by cases t <;> decide
theorem pe_ty {t : Pv.T} {n : Str} (hn : n = Str.ofString t.nm) (hg : Gl X n) (hm : X.mg n = none) (hd : (n == ("__debug__" : Str)) = false) : PE X (.Name n p) (tC (.ty t.nm)) := by
  subst hn
  exact pe_bltn hg hm (boot_ty t) rfl (ty_plain t) hd
theorem sE_isi1 {t : Pv.T} (hg : Gl X "isinstance") (hm : X.mg "isinstance" = none) (hn : noStar y = true) (ha : I_ T X Wx y fa) (hz : PE X z (tC (.ty t.nm))) (hzn : noStar z = true) :
    I_ T X Wx (.Call (.Name "isinstance" p) [y, z] [] pos) fun σ w => (fa σ w).bind fun v w1 => ofO ((isiV w1 [t] v).map fun k => .d (.bool k)) w1 := by
  refine PE.imp (pe_callB (isi_ok (T' := T) [t]) hg hm boot_isinstance (pa_cons ha (pa_cons hz pa_nil (star_cons hzn)) (star_cons hn)) (by decide) (by decide) (star_cons hn) (star_any (by simp [hzn]))) fun σ H Q ⟨ms, iσ, w, s, q⟩ => ?_
  refine stepI s q fun u w1 ux H1 m1 g1 r1 s1 q1 => ?_
  cases hk : isiV w1 [t] u with
  | none => rw [hk] at q1; exact False.elim q1
  | some b =>
  rw [hk] at q1
  exact ⟨m1, w1, u, b, ux, _, rfl, r1, s1.w, hk, rfl, endI q1 (show Fz _ _ _ _ from .bl _) s1.w⟩
theorem sE_isi2 {t t' : Pv.T} {ts : List Pv.T} {us : List Expr} {n : Nat} {tp : Pos} (hg : Gl X "isinstance") (hm : X.mg "isinstance" = none) (hn : noStar y = true) (ha : I_ T X Wx y fa) (hz : PA X us fun _ H Q => Q ((t :: t' :: ts).map fun t => V.ty t.nm) H) (hlen : ts.length ≤ 1000) :
    I_ T X Wx (.Call (.Name "isinstance" p) [y, .Tuple us n tp] [] pos) fun σ w => (fa σ w).bind fun v w1 => ofO ((isiV w1 (t :: t' :: ts) v).map fun k => .d (.bool k)) w1 := by
  refine PE.imp (pe_callB (isi_ok (T' := T) (t :: t' :: ts)) hg hm boot_isinstance (pa_cons ha (pa_cons (pe_tup hz) pa_nil) (star_cons hn)) (by decide) (by decide) (star_cons hn) rfl) fun σ H Q ⟨ms, iσ, w, s, q⟩ => ?_
  refine stepI s q fun u w1 ux H1 m1 g1 r1 s1 q1 => ?_
  refine ⟨by rw [sizeLine_eq, List.length_map, List.length_cons, List.length_cons]; omega, fun pp hp => ?_⟩
  cases hk : isiV w1 (t :: t' :: ts) u with
  | none => rw [hk] at q1; exact False.elim q1
  | some b =>
  rw [hk] at q1
  have g : Ext H1 m1 (upd H1 pp (.tup ((t :: t' :: ts).map fun t => V.ty t.nm))) m1 := Ext.new hp
  exact ⟨m1, w1, u, b, ux, _, rfl, r1.grow g, s1.w.new hp, hk, ⟨pp, rfl, upd_same⟩, q1 _ _ m1 g (show Fz _ _ _ _ from .bl _) (s1.w.new hp)⟩
/-! methods of a cell's list -/
theorem mth_slot (m : M) : Slot "list" m.nm (mthId m) ∧ typeOf (.builtin (mthId m)) = pure (.type "method_descriptor") := by
  cases m
  · exact ⟨PySem.F.slot_list_append, PySem.F.type_list_append⟩
  · exact ⟨PySem.F.slot_list_insert, PySem.F.type_list_insert⟩
  · exact ⟨PySem.F.slot_list_pop, PySem.F.type_list_pop⟩
  · exact ⟨PySem.F.slot_list_pop, PySem.F.type_list_pop⟩
  · exact ⟨PySem.F.slot_list_extend, PySem.F.type_list_extend⟩
theorem sE_mth {m : M} {n : Str} {np ap : Pos} {es : List Expr} (ha : I_ T X Wx (.Name n np) fa) (hl : (ap.endLine == pos.line) = true) (hlen : es.length < 20) (hn : (y :: es).all noStar = true) (hs : A_ T X Wx (y :: es) fs) :
    I_ T X Wx (.Call (.Attribute (.Name n np) m.nm ap) (y :: es) [] pos) fun σ w => (fa σ w).bind fun u w1 => if isLst (rd w1 u) then (fs σ w1).bind fun vs w2 => match purs vs with
      | some xs => mthW m u xs w2
      | none => .no else .no := by
  obtain ⟨h1, h2⟩ := mth_slot m
  have hn' := hn
  rw [List.all_cons, Bool.and_eq_true] at hn'
  refine PE.imp (pe_bm PySem.F.plainAttrs_list h1 h2 (mth_ok (T' := T) m) ha hs rfl (by
    rw [Bool.and_eq_true, Bool.and_eq_true]
    refine ⟨⟨star_all hn, rfl⟩, decide_eq_true ?_⟩
    show es.length + 1 + 0 + 0 < 30
    omega) hl (star_cons hn'.1) (star_any hn'.2)) fun σ H Q ⟨ms, iσ, w, s, q⟩ => ?_
  refine stepI s q fun u w1 ux H1 m1 g1 r1 s1 q1 => ?_
  split at q1
  · rename_i hc
    refine ⟨?_, ?_⟩
    · cases hd : rd w1 u with
      | none => rw [hd] at hc; cases hc
      | some d =>
      rw [hd] at hc
      cases d with
      | list ds =>
        obtain ⟨a, xs, rfl, h, _⟩ := (rd_lv r1 s1.w hd).list
        exact .inl ⟨rfl, xs, .inl h⟩
      | _ => cases hc
    · refine stepA s1 q1 fun us w2 xs H2 m2 g2 r2 s2 q2 => ?_
      cases hp : purs us with
      | none => rw [hp] at q2; exact False.elim q2
      | some ds =>
      rw [hp] at q2
      exact ⟨m2, w2, u, us, ds, _, r1.grow g2, r2, s2.w, hp, q2⟩
  · exact False.elim q1
/-! targets -/
theorem wipe_set {σ : List (Option V)} {v : Option V} : ∀ {vs : List Nat} {i : Nat}, i ∈ vs → wipe (σ.set i v) vs = wipe σ vs
  | [], _, h => nomatch h
  | j :: vs, i, h => by
    show (wipe (σ.set i v) vs).set j none = (wipe σ vs).set j none
    by_cases hi : i ∈ vs
    · rw [wipe_set hi]
    · have e : i = j := (List.mem_cons.mp h).resolve_right hi
      subst e
      have q : wipe (σ.set i v) vs = (wipe σ vs).set i v := by
        clear h
        induction vs with
        | nil => rfl
        | cons l vs ih =>
          have h1 : i ≠ l := fun z => hi (by rw [z]; exact List.mem_cons_self)
          have h2 : i ∉ vs := fun z => hi (List.mem_cons_of_mem _ z)
          show (wipe (σ.set i v) vs).set l none = ((wipe σ vs).set l none).set i v
          rw [ih h2, List.set_comm _ _ h1]
      rw [q, List.set_set]
theorem wipe_wipe (σ : List (Option V)) (vs : List Nat) : wipe (wipe σ vs) vs = wipe σ vs := by
  have h : ∀ us : List Nat, (∀ i ∈ us, i ∈ vs) → wipe (wipe σ us) vs = wipe σ vs := by
    intro us
    induction us with
    | nil => intro _; rfl
    | cons u us ih =>
      intro hu
      show wipe ((wipe σ us).set u none) vs = _
      rw [wipe_set (hu u List.mem_cons_self)]
      exact ih fun i hi => hu i (List.mem_cons_of_mem _ hi)
  exact h vs fun _ h => h
def gI (T : Tab) (K : PySem.W.Frag) (t : Tg) : TG := fun v σ H Q => ∃ ms iσ w d σ1, Sim T K ms H iσ σ w ∧ Fz K H v d ∧ asgT t d iσ = some σ1 ∧ ∀ σ', Sim T K ms H σ1 σ' w → (∀ vs, tgIn t vs = true → wipe σ' vs = wipe σ vs) → Q σ' H
def gIs (T : Tab) (K : PySem.W.Frag) (t : Tg) : TGs := fun v σ H Q => ∃ ms iσ w d σ1, Sim T K ms H iσ σ w ∧ FzAll K H v d ∧ asgTs t d iσ = some σ1 ∧ ∀ σ', Sim T K ms H σ1 σ' w → (∀ vs, tgIn t vs = true → wipe σ' vs = wipe σ vs) → Q σ' H
theorem PG.imp {e : Expr} {t t' : TG} (h : PG X e t) (i : ∀ v σ H Q, t' v σ H Q → t v σ H Q) : PG X e t' := ⟨fun pins s σ H v u Q I r q => h.run pins s σ H v u Q I r (i v σ H Q q)⟩
theorem PGs.imp {e : List Expr} {t t' : TGs} (h : PGs X e t) (i : ∀ v σ H Q, t' v σ H Q → t v σ H Q) : PGs X e t' := ⟨fun pins s σ H v u Q I r q => h.run pins s σ H v u Q I r (i v σ H Q q)⟩
def tgStar : Expr → Bool
  | .Starred _ _ => false
  | _ => true
theorem asgE_cons {e : Expr} {es : List Expr} {env : Env} (h : tgStar e = true) : assignEach (e :: es) env = (false, assign e env) :: assignEach es env := by
  cases e <;> first | rfl | cases h
theorem asgE {env : Env} : ∀ {es : List Expr}, es.all tgStar = true → (assignEach es env).length = es.length ∧ (assignEach es env).findIdx? (·.1) = none
  | [], _ => ⟨rfl, rfl⟩
  | e :: es, h => by
    rw [List.all_cons, Bool.and_eq_true] at h
    obtain ⟨h1, h2⟩ := asgE (env := env) h.2
    rw [asgE_cons h.1]
    refine ⟨by rw [List.length_cons, List.length_cons, h1], ?_⟩
    rw [List.findIdx?_cons, h2]
    rfl
theorem mT_star {t : Tg} {e : Expr} (h : mT c t e = true) : tgStar e = true := by
  cases t with
  | nm i => cases e <;> first | rfl | exact absurd (show false = true from h) Bool.false_ne_true
  | tup ts => cases e <;> first | rfl | exact absurd (show false = true from h) Bool.false_ne_true
  | _ => exact absurd (show false = true from h) Bool.false_ne_true
theorem mTs_star : ∀ {ts : Tg} {es : List Expr}, mTs c ts es = true → es.all tgStar = true
  | .nil, [], _ => rfl
  | .cons a r, e :: es, h => by
    have h' : (mT c a e && mTs c r es) = true := h
    rw [Bool.and_eq_true] at h'
    rw [List.all_cons, mT_star h'.1, mTs_star h'.2]; rfl
  | .nil, _ :: _, h => absurd (show false = true from h) Bool.false_ne_true
  | .cons _ _, [], h => absurd (show false = true from h) Bool.false_ne_true
  | .nm _, _, h => absurd (show false = true from h) Bool.false_ne_true
  | .tup _, _, h => absurd (show false = true from h) Bool.false_ne_true
/-- where names are stored -/
structure Gs (c : Cc) (X : Cx) : Prop where
  calm : X.calm = true
  N : X.N = c.N
  nd : c.N.Nodup
  sc : ScR c.sc X.env.scope
  fn : ∀ x, c.sc.names.lookup x = some .cell → X.fn x = true
theorem Gd.gs (g : Gd T c E X Wx k) : Gs c X := ⟨g.calm, g.N, g.nd, g.sc, g.fn⟩
theorem sG_nm {i : Nat} {n : Str} (g : Gs c X) (h1 : decide (c.N[i]? = some n) = true) (h2 : locB c.sc n = true) : PG X (.Name n pos) (gName i) := by
  have l := loc_of h2
  refine pg_name (by rw [g.N]; exact g.nd) (by rw [g.N]; exact of_decide_eq_true h1) (by rcases l with l | l <;> first | exact .inl (g.sc.loc n l) | exact .inr (g.sc.cel n l)) ?_
  rcases l with l | l
  · exact .inr (g.sc.loc n l)
  · exact .inl (g.fn n l)
mutual
theorem sG (g : Gs c X) : ∀ (t : Tg) (e : Expr), mT c t e = true → PG X e (gI T X.K t)
  | .nm i, .Name n p, h => by
    have h' : (decide (c.N[i]? = some n) && locB c.sc n) = true := h
    rw [Bool.and_eq_true] at h'
    refine PG.imp (sG_nm g h'.1 h'.2) fun v σ H Q ⟨ms, iσ, w, d, σ1, s, fz, ha, q⟩ => ?_
    cases ha
    exact q _ (s.set (v := .d d) fz) fun vs hv => wipe_set (of_decide_eq_true hv)
  | .tup ts, .Tuple es kk p, h => by
    have h' : mTs c ts es = true := h
    have hs := sGs g ts es h'
    obtain ⟨e1, e2⟩ := asgE (env := X.env) (mTs_star h')
    refine PG.imp (pg_tup (n := es.length) g.calm hs e1 e2) fun v σ H Q ⟨ms, iσ, w, d, σ1, s, fz, ha, q⟩ => ?_
    cases d with
    | tuple ds =>
      obtain ⟨a, xs, rfl, h1, f1⟩ := (Lv.fz fz).tuple
      have ha' : asgTs ts ds iσ = some σ1 := ha
      refine ⟨a, xs, rfl, h1, ?_, ms, iσ, w, ds, σ1, s, f1, ha', q⟩
      rw [f1.length]
      exact asgTs_len ts es ds iσ h' ha'
    | _ => cases ha
  | .nm _, .Tuple .., h => absurd (show false = true from h) Bool.false_ne_true
  | .tup _, .Name .., h => absurd (show false = true from h) Bool.false_ne_true
  | .nil, _, h => absurd (show false = true from h) Bool.false_ne_true
  | .cons _ _, _, h => absurd (show false = true from h) Bool.false_ne_true
  | .nm _, .BoolOp .., h | .nm _, .NamedExpr .., h | .nm _, .BinOp .., h | .nm _, .UnaryOp .., h | .nm _, .Lambda .., h | .nm _, .IfExp .., h | .nm _, .Dict .., h | .nm _, .Set .., h | .nm _, .ListComp .., h | .nm _, .SetComp .., h | .nm _, .DictComp .., h | .nm _, .GeneratorExp .., h | .nm _, .Await .., h | .nm _, .Yield .., h | .nm _, .YieldFrom .., h | .nm _, .Compare .., h | .nm _, .Call .., h | .nm _, .FormattedValue .., h | .nm _, .JoinedStr .., h | .nm _, .Constant .., h | .nm _, .Attribute .., h | .nm _, .Subscript .., h | .nm _, .Starred .., h | .nm _, .List .., h | .nm _, .Slice .., h => absurd (show false = true from h) Bool.false_ne_true
  | .tup _, .BoolOp .., h | .tup _, .NamedExpr .., h | .tup _, .BinOp .., h | .tup _, .UnaryOp .., h | .tup _, .Lambda .., h | .tup _, .IfExp .., h | .tup _, .Dict .., h | .tup _, .Set .., h | .tup _, .ListComp .., h | .tup _, .SetComp .., h | .tup _, .DictComp .., h | .tup _, .GeneratorExp .., h | .tup _, .Await .., h | .tup _, .Yield .., h | .tup _, .YieldFrom .., h | .tup _, .Compare .., h | .tup _, .Call .., h | .tup _, .FormattedValue .., h | .tup _, .JoinedStr .., h | .tup _, .Constant .., h | .tup _, .Attribute .., h | .tup _, .Subscript .., h | .tup _, .Starred .., h | .tup _, .List .., h | .tup _, .Slice .., h => absurd (show false = true from h) Bool.false_ne_true
theorem sGs (g : Gs c X) : ∀ (ts : Tg) (es : List Expr), mTs c ts es = true → PGs X es (gIs T X.K ts)
  | .nil, [], _ => by
    refine PGs.imp pgs_nil fun v σ H Q ⟨ms, iσ, w, d, σ1, s, fz, ha, q⟩ => ?_
    cases d with
    | nil =>
      cases ha
      cases fz
      exact ⟨rfl, q σ s fun _ _ => rfl⟩
    | cons _ _ => cases ha
  | .cons a r, e :: es, h => by
    have h' : (mT c a e && mTs c r es) = true := h
    rw [Bool.and_eq_true] at h'
    have st : (assignEach (e :: es) X.env).map (·.2) = assign e X.env :: (assignEach es X.env).map (·.2) := by rw [asgE_cons (mT_star h'.1)]; rfl
    refine PGs.imp (pgs_cons (sG g a e h'.1) (sGs g r es h'.2) st) fun v σ H Q ⟨ms, iσ, w, d, σ1, s, fz, ha, q⟩ => ?_
    cases d with
    | nil => cases ha
    | cons d ds =>
      have ha' : ((asgT a d iσ).bind fun σ1 => asgTs r ds σ1) = some σ1 := ha
      cases e1 : asgT a d iσ with
      | none => rw [e1] at ha'; cases ha'
      | some σ2 =>
      rw [e1, Option.bind_some] at ha'
      cases fz with
      | cons f1 f2 =>
      refine ⟨_, _, rfl, ms, iσ, w, d, σ2, s, f1, e1, fun σ' s' hw => ⟨ms, σ2, w, ds, σ1, s', f2, ha', fun σ'' s'' hw' => q σ'' s'' fun vs hv => ?_⟩⟩
      have hv' : (tgIn a vs && tgIn r vs) = true := hv
      rw [Bool.and_eq_true] at hv'
      rw [hw' vs hv'.2, hw vs hv'.1]
  | .nil, _ :: _, h => absurd (show false = true from h) Bool.false_ne_true
  | .cons _ _, [], h => absurd (show false = true from h) Bool.false_ne_true
  | .nm _, _, h => absurd (show false = true from h) Bool.false_ne_true
  | .tup _, _, h => absurd (show false = true from h) Bool.false_ne_true
theorem asgTs_len : ∀ (ts : Tg) (es : List Expr) (ds : List D) (σ : Sl) {σ1 : Sl}, mTs c ts es = true → asgTs ts ds σ = some σ1 → ds.length = es.length
  | .nil, [], [], _, _, _, _ => rfl
  | .nil, [], _ :: _, _, _, _, e => by cases e
  | .cons a r, e :: es, [], _, _, _, q => by cases q
  | .cons a r, e :: es, d :: ds, σ, σ1, h, q => by
    have h' : (mT c a e && mTs c r es) = true := h
    rw [Bool.and_eq_true] at h'
    have q' : ((asgT a d σ).bind fun σ1 => asgTs r ds σ1) = some σ1 := q
    cases e1 : asgT a d σ with
    | none => rw [e1] at q'; cases q'
    | some σ2 =>
    rw [e1, Option.bind_some] at q'
    rw [List.length_cons, List.length_cons, asgTs_len r es ds σ2 h'.2 q']
  | .nil, _ :: _, _, _, _, h, _ => absurd (show false = true from h) Bool.false_ne_true
  | .cons _ _, [], _, _, _, h, _ => absurd (show false = true from h) Bool.false_ne_true
  | .nm _, _, _, _, _, h, _ => absurd (show false = true from h) Bool.false_ne_true
  | .tup _, _, _, _, _, h, _ => absurd (show false = true from h) Bool.false_ne_true
end
end
end Pv

/-! Part L: what is walked; comprehensions. -/
namespace Pv
open PySem PySem.Spec PyProof.Rows L2 RZ
section
variable {T : Tab} {c : Cc} {E : En} {X : Cx} {Wx : WX} {k : Nat} {x y z tg : Expr} {pos p : Pos} {fa fb fc : Sl → W → R IV} {fs fk : Sl → W → R (List IV)}
/-- a walk over data -/
def WalkD (K : PySem.W.Frag) (H : Hp) (xs : List D) (j : L2.It) : Prop := ∀ H', Grow H H' →
  (∀ i d, xs[i]? = some d → j.go i H' ∧ ∀ x H'', j.yld i H' x H'' → (∀ ms, Ext H' ms H'' ms) ∧ (∀ a u, H' a = some u → H'' a = some u) ∧ Fz K H'' x d) ∧ ∀ i, xs.length ≤ i → j.stop i H'
def relJ (K : PySem.W.Frag) : Rel Pv.It L2.It := fun _ ms H J j => match J with
  | .dat xs => WalkD K H xs j
  | .cel n => ∃ a, ms[n]? = some a ∧ j = Itl K a
instance {K : PySem.W.Frag} : RM (relJ K) := ⟨fun _ h => h⟩
def tII (T : Tab) (K : PySem.W.Frag) (Wx : WX) (f : Sl → W → R Pv.It) : TI := fun σ H R => ∃ ms iσ w, Sim T K ms H iσ σ w ∧ endsR T K ms H (fun c d H' => Wx c d σ H') (relJ K) R (f iσ w)
theorem PI.imp {tg e : Expr} {t t' : TI} (h : PI X tg e t) (i : ∀ σ H Q, t' σ H Q → t σ H Q) : PI X tg e t' := ⟨fun pins s σ H Q I q => h.run pins s σ H Q I (i σ H Q q)⟩
/-- a list or a tuple -/
def iSeq (K : PySem.W.Frag) (tl : TE) : TI := fun σ H R => tl σ H fun x H1 => ∃ a, x = .ref a ∧ (((∃ xs, SqL K H1 a xs) ∧ R (Itl K a) H1) ∨ ((∃ xs, SqT K H1 a xs) ∧ R (Itt K a) H1))
theorem pi_seq {l : Expr} {tl : TE} (hl : PE X l tl) : PI X tg l (iSeq X.K tl) := by
  refine ⟨fun pins s σ H R I h => ?_⟩
  refine thn (hl.run pins s σ H _ I h) fun v s1 ⟨x, H1, I1, r1, a, e, q1⟩ => ?_
  subst e
  cases r1
  have far : ∀ b ∈ [s1.heap.objs.size], FpOk X pins H1 b := fun b hb => by
    have e : b = s1.heap.objs.size := by simpa using hb
    subst e
    exact I1.fpOk (Nat.le_refl _) (I1.hok.fresh (Nat.le_refl _))
  rcases q1 with ⟨⟨xs, hq⟩, q⟩ | ⟨⟨xs, hq⟩, q⟩
  · obtain ⟨its, rv, pl, hz⟩ := I1.list hq
    exact wpAny_pyIter_list pl.isList ⟨s1.heap.objs.size, [s1.heap.objs.size], _, _, H1, rfl, I1.kept (t' := s1.toks) fun b o e => Heap.get?_push_of_some _ e, turn_list a _, ⟨_, Heap.get?_push_size _ rfl, rfl, rfl⟩, far, q⟩
  · obtain ⟨its, rv, pl, hz⟩ := I1.tuple hq
    exact wpAny_pyIter_tuple (show s1.heap.IsTuple a its.toArray from pl) ⟨s1.heap.objs.size, [s1.heap.objs.size], _, _, H1, rfl, I1.kept (t' := s1.toks) fun b o e => Heap.get?_push_of_some _ e, turn_tuple a _, ⟨_, Heap.get?_push_size _ rfl, rfl, rfl⟩, far, q⟩
theorem walk_list {K : PySem.W.Frag} {H : Hp} {a : Addr} {xs : List V} {ds : List D} (h : FzL K H a xs) (f : FzAll K H xs ds) : WalkD K H ds (Itl K a) := fun H' g =>
  ⟨fun i d hd => by
    obtain ⟨v, hv, fv⟩ := f.get hd
    refine ⟨⟨xs, v, (h.grow g).sq, hv⟩, fun x H'' y => ?_⟩
    obtain ⟨rfl, y⟩ := y
    have e : v = x := Option.some.inj (hv.symm.trans (y xs (h.grow g).sq))
    subst e
    exact ⟨fun ms => Ext.refl _ _, fun _ _ e => e, fv.grow g⟩, fun i hi => ⟨xs, (h.grow g).sq, by rw [f.length]; exact hi⟩⟩
theorem walk_tup {K : PySem.W.Frag} {H : Hp} {a : Addr} {xs : List V} {ds : List D} (h : SqT K H a xs) (f : FzAll K H xs ds) : WalkD K H ds (Itt K a) := fun H' g =>
  ⟨fun i d hd => by
    obtain ⟨v, hv, fv⟩ := f.get hd
    refine ⟨⟨xs, v, SqT.grow g h, hv⟩, fun x H'' y => ?_⟩
    obtain ⟨rfl, y⟩ := y
    have e : v = x := Option.some.inj (hv.symm.trans (y xs (SqT.grow g h)))
    subst e
    exact ⟨fun ms => Ext.refl _ _, fun _ _ e => e, fv.grow g⟩, fun i hi => ⟨xs, SqT.grow g h, by rw [f.length]; exact hi⟩⟩
theorem enumD_get : ∀ {ds : List D} {k i : Nat} {d : D}, (enumD k ds)[i]? = some d → ∃ e, ds[i]? = some e ∧ d = .tuple [.int ((k + i : Nat) : Int), e]
  | [], _, _, _, h => by simp [enumD] at h
  | x :: r, k, 0, d, h => by
    have h' : some (.tuple [.int (k : Nat), x]) = some d := h
    cases h'
    exact ⟨x, rfl, rfl⟩
  | x :: r, k, i + 1, d, h => by
    obtain ⟨e, h1, h2⟩ := enumD_get (ds := r) (k := k + 1) (i := i) (d := d) h
    exact ⟨e, h1, by rw [h2, show k + 1 + i = k + (i + 1) by omega]⟩
theorem enumD_len : ∀ (ds : List D) (k : Nat), (enumD k ds).length = ds.length
  | [], _ => rfl
  | x :: r, k => by show (enumD (k + 1) r).length + 1 = r.length + 1; rw [enumD_len r]
theorem pair_new {K : PySem.W.Frag} {H : Hp} {T : Addr} {a b : V} {d e : D} (hT : H T = none) (ha : Fz K H a d) (hb : Fz K H b e) :
    (∀ ms, Ext H ms (upd H T (.tup [a, b])) ms) ∧ (∀ p u, H p = some u → upd H T (.tup [a, b]) p = some u) ∧ Fz K (upd H T (.tup [a, b])) (.ref T) (.tuple [d, e]) :=
  ⟨fun ms => Ext.new hT, fun p u q => by rw [upd_ne (ne_of_none q hT)]; exact q, .tup (.of upd_same) (.cons (ha.grow (Grow.new hT)) (.cons (hb.grow (Grow.new hT)) .nil))⟩
theorem walk_enumL {K : PySem.W.Frag} {H : Hp} {a : Addr} {xs : List V} {ds : List D} (h : FzL K H a xs) (f : FzAll K H xs ds) : WalkD K H (enumD 0 ds) (Ite K a) := fun H' g =>
  ⟨fun i d hd => by
    obtain ⟨e, he, rfl⟩ := enumD_get hd
    obtain ⟨v, hv, fv⟩ := f.get he
    refine ⟨⟨xs, v, (h.grow g).sq, hv⟩, fun x H'' y => ?_⟩
    obtain ⟨T, u, rfl, hT, rfl, y⟩ := y
    have e' : v = u := Option.some.inj (hv.symm.trans (y xs (h.grow g).sq))
    subst e'
    have q := pair_new hT (.int ((i : Nat) : Int)) (fv.grow g)
    rw [Nat.zero_add]
    exact q, fun i hi => ⟨xs, (h.grow g).sq, by rw [f.length, ← enumD_len ds 0]; exact hi⟩⟩
theorem walk_enumT {K : PySem.W.Frag} {H : Hp} {a : Addr} {xs : List V} {ds : List D} (h : SqT K H a xs) (f : FzAll K H xs ds) : WalkD K H (enumD 0 ds) (IteT K a) := fun H' g =>
  ⟨fun i d hd => by
    obtain ⟨e, he, rfl⟩ := enumD_get hd
    obtain ⟨v, hv, fv⟩ := f.get he
    refine ⟨⟨xs, v, SqT.grow g h, hv⟩, fun x H'' y => ?_⟩
    obtain ⟨T, u, rfl, hT, rfl, y⟩ := y
    have e' : v = u := Option.some.inj (hv.symm.trans (y xs (SqT.grow g h)))
    subst e'
    have q := pair_new hT (.int ((i : Nat) : Int)) (fv.grow g)
    rw [Nat.zero_add]
    exact q, fun i hi => ⟨xs, SqT.grow g h, by rw [f.length, ← enumD_len ds 0]; exact hi⟩⟩
theorem zipD_get : ∀ {ds es : List D} {i : Nat} {d : D}, (zipD ds es)[i]? = some d → ∃ a b, ds[i]? = some a ∧ es[i]? = some b ∧ d = .tuple [a, b]
  | [], _, _, _, h => by simp [zipD] at h
  | _ :: _, [], _, _, h => by simp [zipD] at h
  | x :: r, y :: q, 0, d, h => by
    have h' : some (.tuple [x, y]) = some d := h
    cases h'
    exact ⟨x, y, rfl, rfl, rfl⟩
  | x :: r, y :: q, i + 1, d, h => zipD_get (ds := r) (es := q) (i := i) (d := d) h
theorem zipD_len : ∀ (ds es : List D), (zipD ds es).length = min ds.length es.length
  | [], _ => by simp [zipD]
  | _ :: _, [] => by simp [zipD]
  | x :: r, y :: q => by
    show (zipD r q).length + 1 = min (r.length + 1) (q.length + 1)
    rw [zipD_len r q]; omega
theorem walk_zipT {K : PySem.W.Frag} {H : Hp} {a b : Addr} {xs ys : List V} {ds es : List D} (h : SqT K H a xs) (f : FzAll K H xs ds) (h' : SqT K H b ys) (f' : FzAll K H ys es) : WalkD K H (zipD ds es) (ItzT K a b) := fun H' g =>
  ⟨fun i d hd => by
    obtain ⟨d1, d2, e1, e2, rfl⟩ := zipD_get hd
    obtain ⟨v, hv, fv⟩ := f.get e1
    obtain ⟨v', hv', fv'⟩ := f'.get e2
    refine ⟨⟨xs, ys, v, v', SqT.grow g h, SqT.grow g h', hv, hv'⟩, fun x H'' y => ?_⟩
    obtain ⟨T, u, u', rfl, hT, rfl, y, y'⟩ := y
    have q1 : v = u := Option.some.inj (hv.symm.trans (y xs (SqT.grow g h)))
    have q2 : v' = u' := Option.some.inj (hv'.symm.trans (y' ys (SqT.grow g h')))
    subst q1 q2
    exact pair_new hT (fv.grow g) (fv'.grow g), fun i hi => ⟨xs, ys, SqT.grow g h, SqT.grow g h', by rw [zipD_len] at hi; rw [f.length, f'.length]; omega⟩⟩
theorem walk_zipL {K : PySem.W.Frag} {H : Hp} {a b : Addr} {xs ys : List V} {ds es : List D} (h : FzL K H a xs) (f : FzAll K H xs ds) (h' : FzL K H b ys) (f' : FzAll K H ys es) : WalkD K H (zipD ds es) (Itz K a b) := fun H' g =>
  ⟨fun i d hd => by
    obtain ⟨d1, d2, e1, e2, rfl⟩ := zipD_get hd
    obtain ⟨v, hv, fv⟩ := f.get e1
    obtain ⟨v', hv', fv'⟩ := f'.get e2
    refine ⟨⟨xs, ys, v, v', (h.grow g).sq, (h'.grow g).sq, hv, hv'⟩, fun x H'' y => ?_⟩
    obtain ⟨T, u, u', rfl, hT, rfl, y, y'⟩ := y
    have q1 : v = u := Option.some.inj (hv.symm.trans (y xs (h.grow g).sq))
    have q2 : v' = u' := Option.some.inj (hv'.symm.trans (y' ys (h'.grow g).sq))
    subst q1 q2
    exact pair_new hT (fv.grow g) (fv'.grow g), fun i hi => ⟨xs, ys, (h.grow g).sq, (h'.grow g).sq, by rw [zipD_len] at hi; rw [f.length, f'.length]; omega⟩⟩
theorem walk_rng {K : PySem.W.Frag} {H : Hp} {lo : Int} {n : Nat} {ds : List D} (h : ds = (List.range n).map fun (k : Nat) => .int (lo + k)) : WalkD K H ds (Itr lo n) := fun H' g => by
  subst h
  refine ⟨fun i d hd => ?_, fun i hi => show n ≤ i by simpa using hi⟩
  rw [List.getElem?_map] at hd
  cases hr : (List.range n)[i]? with
  | none => rw [hr] at hd; cases hd
  | some j =>
  rw [hr] at hd
  cases hd
  obtain ⟨hl, ej⟩ := List.getElem?_eq_some_iff.mp hr
  rw [List.length_range] at hl
  rw [List.getElem_range] at ej
  subst ej
  refine ⟨hl, fun x H'' y => ?_⟩
  obtain ⟨rfl, rfl⟩ := y
  exact ⟨fun ms => Ext.refl _ _, fun _ _ e => e, .int _⟩
/-! by the syntax -/
theorem sI_seq (ha : I_ T X Wx x fa) : PI X tg x (tII T X.K Wx fun σ w => (fa σ w).bind fun v w1 => ofO (toIt w1 v) w1) := by
  refine PI.imp (pi_seq ha) fun σ H R ⟨ms, iσ, w, s, q⟩ => ?_
  refine stepI s q fun v w1 u H1 m1 g1 r1 s1 q1 => ?_
  cases v with
  | exc _ _ => exact False.elim r1
  | d d =>
    cases d with
    | list ds =>
      obtain ⟨a, xs, rfl, h, f⟩ := (show ∃ a xs, u = .ref a ∧ FzL X.K H1 a xs ∧ FzAll X.K H1 xs ds by
        cases (show Fz _ _ _ _ from r1) with
        | lst h r => exact ⟨_, _, rfl, h, r⟩)
      exact ⟨a, rfl, .inl ⟨⟨xs, h.sq⟩, endI q1 (walk_list h f) s1.w⟩⟩
    | tuple ds =>
      obtain ⟨a, xs, rfl, h, f⟩ := (Lv.fz (show Fz _ _ _ _ from r1)).tuple
      exact ⟨a, rfl, .inr ⟨⟨xs, h⟩, endI q1 (walk_tup h f) s1.w⟩⟩
    | _ => exact False.elim q1
  | ref n =>
    have q2 : endsR T X.K m1 H1 (fun c d H' => Wx c d σ H') (relJ X.K) R (ofO (match w1[n]? with
      | some (.lst _) => some (.cel n)
      | _ => none) w1) := q1
    split at q2
    · rename_i hc
      obtain ⟨a, xs, rfl, hn, he, f⟩ := cell_lst r1 s1.w hc
      exact ⟨a, rfl, .inl ⟨⟨xs, .of he⟩, endI q2 ⟨a, hn, rfl⟩ s1.w⟩⟩
    · exact False.elim q2
theorem sI_rng {n : Str} {es : List Expr} (hn : n = "range") (hg : Gl X n) (hm : X.mg n = none) (hst : (y :: es).all noStar = true) (hl : es.length ≤ 1) (ha : A_ T X Wx (y :: es) fs) (la : ∀ σ w vs w', fs σ w = .ok vs w' → vs.length = (y :: es).length) :
    PI X tg (.Call (.Name n p) (y :: es) [] pos) (tII T X.K Wx fun σ w => (fs σ w).bind fun vs w1 => match purs vs with
      | some xs => ofO ((rngD xs).map Pv.It.dat) w1
      | none => .no) := by
  subst hn
  rw [List.all_cons, Bool.and_eq_true] at hst
  cases es with
  | nil =>
    refine PI.imp (pi_range1 hg hm ha (star_cons hst.1)) fun σ H R ⟨ms, iσ, w, s, q⟩ => ?_
    refine stepAe s q fun us w1 xs H1 m1 ef g1 r1 s1 q1 => ?_
    cases hp : purs us with
    | none => rw [hp] at q1; exact False.elim q1
    | some ds =>
    rw [hp] at q1
    have f := purs_fz r1 hp
    have hlen : ds.length = 1 := by rw [← f.length, ← r1.len, la _ _ _ _ ef]; rfl
    dsimp only at q1
    unfold rngD at q1
    split at q1
    · cases f with
      | cons f1 f2 =>
      cases f2
      cases f1
      split at q1
      · rename_i hz
        simp only [Bool.and_eq_true, decide_eq_true_eq] at hz
        exact ⟨_, rfl, by omega, by omega, endI q1 (walk_rng (by apply List.map_congr_left; intro a _; rw [Int.zero_add])) s1.w⟩
      · exact False.elim q1
    · simp at hlen
    · exact False.elim q1
  | cons e es =>
    cases es with
    | cons _ _ => simp at hl
    | nil =>
    rw [List.all_cons, Bool.and_eq_true] at hst
    refine PI.imp (pi_range2 hg hm ha (by rw [star_cons hst.1, star_cons hst.2.1]; rfl) (by rw [star_cons hst.2.1]; rfl)) fun σ H R ⟨ms, iσ, w, s, q⟩ => ?_
    refine stepAe s q fun us w1 xs H1 m1 ef g1 r1 s1 q1 => ?_
    cases hp : purs us with
    | none => rw [hp] at q1; exact False.elim q1
    | some ds =>
    rw [hp] at q1
    have f := purs_fz r1 hp
    have hlen : ds.length = 2 := by rw [← f.length, ← r1.len, la _ _ _ _ ef]; rfl
    dsimp only at q1
    unfold rngD at q1
    split at q1
    · simp at hlen
    · cases f with
      | cons f1 f2 =>
      cases f2 with
      | cons f2 f3 =>
      cases f3
      cases f1
      cases f2
      split at q1
      · rename_i hz
        simp only [Bool.and_eq_true, decide_eq_true_eq] at hz
        exact ⟨_, _, rfl, ⟨by omega, by omega, by omega, by omega⟩, endI q1 (walk_rng rfl) s1.w⟩
      · exact False.elim q1
    · exact False.elim q1
theorem sI_enm {n : Str} {elts : List Expr} {kk : Nat} {tp : Pos} (hn : n = "enumerate") (hg : Gl X n) (hm : X.mg n = none) (hst : noStar y = true) (ha : I_ T X Wx y fa) :
    PI X (.Tuple elts kk tp) (.Call (.Name n p) [y] [] pos) (tII T X.K Wx fun σ w => (fa σ w).bind fun v w1 => match v with
      | .d x => ofO ((itemsD x).map fun xs => Pv.It.dat (enumD 0 xs)) w1
      | _ => .no) := by
  subst hn
  refine PI.imp (pi_enumA hg hm (pa_cons ha pa_nil (star_cons hst)) (star_cons hst)) fun σ H R ⟨ms, iσ, w, s, q⟩ => ?_
  refine stepI s q fun v w1 u H1 m1 g1 r1 s1 q1 => ?_
  cases v with
  | exc _ _ => exact False.elim q1
  | ref _ => exact False.elim q1
  | d d =>
    cases d with
    | list ds =>
      obtain ⟨a, xs, rfl, h, f⟩ := (show ∃ a xs, u = .ref a ∧ FzL X.K H1 a xs ∧ FzAll X.K H1 xs ds by
        cases (show Fz _ _ _ _ from r1) with
        | lst h r => exact ⟨_, _, rfl, h, r⟩)
      exact ⟨a, xs, rfl, .inl ⟨h.sq, endI q1 (walk_enumL h f) s1.w⟩⟩
    | tuple ds =>
      obtain ⟨a, xs, rfl, h, f⟩ := (Lv.fz (show Fz _ _ _ _ from r1)).tuple
      exact ⟨a, xs, rfl, .inr ⟨h, endI q1 (walk_enumT h f) s1.w⟩⟩
    | _ => exact False.elim q1
theorem sI_zp {n : Str} {elts : List Expr} {kk : Nat} {tp : Pos} (hn : n = "zip") (hg : Gl X n) (hm : X.mg n = none) (hst : noStar y = true) (hst2 : noStar z = true) (ha : I_ T X Wx y fa) (hb : I_ T X Wx z fb) :
    PI X (.Tuple elts kk tp) (.Call (.Name n p) [y, z] [] pos) (tII T X.K Wx fun σ w => (fa σ w).bind fun u w1 => (fb σ w1).bind fun v w2 => match u, v with
      | .d (.tuple xs), .d (.tuple ys) => .ok (.dat (zipD xs ys)) w2
      | .d (.list xs), .d (.list ys) => .ok (.dat (zipD xs ys)) w2
      | _, _ => .no) := by
  subst hn
  refine PI.imp (pi_zipA hg hm (pa_cons ha (pa_cons hb pa_nil (star_cons hst2)) (star_cons hst)) (star_cons hst) (star_any (by simp [hst2]))) fun σ H R ⟨ms, iσ, w, s, q⟩ => ?_
  refine stepI s q fun v w1 u H1 m1 g1 r1 s1 q1 => ?_
  refine stepI s1 q1 fun v' w2 u' H2 m2 g2 r2 s2 q2 => ?_
  have r1' := r1.grow g2
  split at q2
  · obtain ⟨a, xs, rfl, h, f⟩ := (Lv.fz (show Fz _ _ _ _ from r1')).tuple
    obtain ⟨b, ys, rfl, h', f'⟩ := (Lv.fz (show Fz _ _ _ _ from r2)).tuple
    exact ⟨a, b, xs, ys, rfl, .inr ⟨h, h', endI q2 (walk_zipT h f h' f') s2.w⟩⟩
  · rename_i ds es
    obtain ⟨a, xs, rfl, h, f⟩ := (show ∃ a xs, u = .ref a ∧ FzL X.K H2 a xs ∧ FzAll X.K H2 xs ds by
      cases (show Fz _ _ _ _ from r1') with
      | lst h r => exact ⟨_, _, rfl, h, r⟩)
    obtain ⟨b, ys, rfl, h', f'⟩ := (show ∃ a xs, u' = .ref a ∧ FzL X.K H2 a xs ∧ FzAll X.K H2 xs es by
      cases (show Fz _ _ _ _ from r2) with
      | lst h r => exact ⟨_, _, rfl, h, r⟩)
    exact ⟨a, b, xs, ys, rfl, .inl ⟨h.sq, h'.sq, endI q2 (walk_zipL h f h' f') s2.w⟩⟩
  · exact False.elim q2
end
end Pv

/-! Part M: comprehensions. -/
namespace Pv
open PySem PySem.Spec PyProof.Rows L2 RZ
def elF (isN : Bool) (t : Tg) (fc fe : Sl → W → R IV) (σ0 : Sl) : D → W → R (Option D) := fun x w => match asgT t x σ0 with
  | some σ1 => if isN then (fe σ1 w).bind fun v w1 => (match v with
      | .d y => .ok (some y) w1
      | _ => .no) else tst (fc σ1 w) fun b w1 => if b then (fe σ1 w1).bind fun v w2 => (match v with
      | .d y => .ok (some y) w2
      | _ => .no) else .ok none w1
  | none => .no
abbrev W0 : WX := fun _ _ _ _ => False
def ttF (T : Tab) (K : PySem.W.Frag) (isN : Bool) (fc : Sl → W → R IV) : TT := if isN then tYes else tB (tI T K W0 fc)
theorem Ext.out {H H' : Hp} {ms ms' : List Addr} (g : Ext H ms H' ms') {a : Addr} {u : HO} (h : H a = some u) (n : a ∉ ms) : H' a = some u ∧ a ∉ ms' := by
  refine ⟨g.keep a u h n, fun hm => ?_⟩
  obtain ⟨t, rfl, ht⟩ := g.px
  rcases List.mem_append.mp hm with z | z
  · exact n z
  · rw [ht a z] at h; cases h
def elQ (K : PySem.W.Frag) (D : Addr) (acc : List V) (Nx : Hp → Prop) : Option PyData → Hp → Prop
  | none, H => Nx H
  | some y, H => ∀ u, Fz K H u y → Nx (upd H D (.lst (acc ++ [u])))
section
variable {T : Tab} {K : PySem.W.Frag} {t : Tg} {fc fe : Sl → W → R IV} {σ0 : Sl} {vs : List Nat} {σ : List (Option V)} {ms : List Addr} {H : Hp} {w w1 : W} {D : Addr} {acc : List V} {Nx : Hp → Prop}
/-- the value at last -/
theorem el_val {σ1 : Sl} {σ2 : List (Option V)} {o : Option PyData} (s : Sim T K ms H σ1 σ2 w) (hD : H D = some (.lst acc)) (nD : D ∉ ms) (hz : acc.length < sizeLine)
    (e : ((fe σ1 w).bind fun v w1 => (match v with
      | .d y => R.ok (some y) w1
      | _ => .no)) = .ok o w1)
    (q : ∀ H' ms', Ext H ms H' ms' → RelW K ms' H' w1 → H' D = some (.lst acc) → D ∉ ms' → elQ K D acc Nx o H') :
    tI T K W0 fe σ2 H fun y H4 => ∃ acc, H4 D = some (.lst acc) ∧ acc.length < sizeLine ∧ Nx (upd H4 D (.lst (acc ++ [y]))) := by
  refine ⟨ms, σ1, w, s, ?_⟩
  cases hf : fe σ1 w with
  | no => rw [hf] at e; cases e
  | exc _ _ _ => rw [hf] at e; cases e
  | ok v w2 =>
  rw [hf] at e
  cases v with
  | d y =>
    cases e
    intro u H1 ms1 g r rw'
    obtain ⟨h1, h2⟩ := g.out hD nD
    exact ⟨acc, h1, hz, q H1 ms1 g rw' h1 h2 u r⟩
  | ref _ => cases e
  | exc _ _ => cases e
theorem el_turn {isN : Bool} {x : V} {d : PyData} {o : Option PyData} (s : Sim T K ms H σ0 (wipe σ vs) w) (fz : Fz K H x d) (htg : tgIn t vs = true) (hD : H D = some (.lst acc)) (nD : D ∉ ms) (hz : acc.length < sizeLine)
    (e : elF isN t fc fe σ0 d w = .ok o w1)
    (q : ∀ H' ms', Ext H ms H' ms' → RelW K ms' H' w1 → H' D = some (.lst acc) → D ∉ ms' → elQ K D acc Nx o H') :
    gI T K t x (wipe σ vs) H fun σ2 H2 => wipe σ2 vs = wipe σ vs ∧ ttF T K isN fc σ2 H2 fun b H3 =>
      if b = true then tI T K W0 fe σ2 H3 fun y H4 => ∃ acc, H4 D = some (.lst acc) ∧ acc.length < sizeLine ∧ Nx (upd H4 D (.lst (acc ++ [y]))) else Nx H3 := by
  unfold elF at e
  cases ha : asgT t d σ0 with
  | none => rw [ha] at e; cases e
  | some σ1 =>
  rw [ha] at e
  refine ⟨ms, σ0, w, d, σ1, s, fz, ha, fun σ' s' hw => ⟨by rw [hw vs htg, wipe_wipe], ?_⟩⟩
  cases isN with
  | true =>
    show (if true = true then tI T K W0 fe σ' H (fun y H4 => ∃ acc, H4 D = some (.lst acc) ∧ acc.length < sizeLine ∧ Nx (upd H4 D (.lst (acc ++ [y])))) else Nx H)
    rw [if_pos rfl]
    exact el_val s' hD nD hz e q
  | false =>
    have e' : tst (fc σ1 w) (fun b w1 => if b then (fe σ1 w1).bind fun v w2 => (match v with
      | .d y => R.ok (some y) w2
      | _ => .no) else .ok none w1) = .ok o w1 := e
    show tB (tI T K W0 fc) σ' H _
    refine ⟨ms, σ1, w, s', ?_⟩
    cases hf : fc σ1 w with
    | no => rw [hf] at e'; cases e'
    | exc _ _ _ => rw [hf] at e'; cases e'
    | ok v w2 =>
    rw [hf] at e'
    unfold tst at e'
    have e2 : (match toB v with
      | some b => if b then (fe σ1 w2).bind fun v w2 => (match v with
        | .d y => R.ok (some y) w2
        | _ => .no) else .ok none w2
      | none => .no) = .ok o w1 := e'
    intro u H1 ms1 g r rw'
    cases hb : toB v with
    | none => rw [hb] at e2; cases e2
    | some b =>
    rw [hb] at e2
    obtain ⟨h1, h2⟩ := g.out hD nD
    unfold toB at hb
    split at hb
    · cases hb
      cases (show Fz _ _ _ _ from r)
      refine ⟨b, rfl, ?_⟩
      cases b with
      | true =>
        rw [if_pos rfl]
        exact el_val (s'.grow g rw') h1 h2 hz e2 fun H' ms' g' r' => q H' ms' (g.trans g') r'
      | false =>
        rw [if_neg Bool.false_ne_true]
        cases e2
        exact q H1 ms1 g rw' h1 h2
    · cases hb
end
/-- over data -/
theorem lc_dat {T : Tab} {K : PySem.W.Frag} {isN : Bool} {t : Tg} {fc fe : Sl → W → R IV} {iσ : Sl} {vs : List Nat} {σ : List (Option V)} {ms : List Addr} {H1 : Hp} {w : W} {P : Value → Option Addr → Hp → Prop} {Q : VK} {xs : List PyData} {J : L2.It}
    (s : Sim T K ms H1 iσ σ w) (htg : tgIn t vs = true) (hw : WalkD K H1 xs J) (hx : okL xs.length = true)
    (h : endsR T K ms H1 P (RelF T K) Q ((compL (elF isN t fc fe (wip iσ vs)) xs w).bind fun ys w2 => .ok (.d (.list ys)) w2)) : ∀ D, H1 D = none →
    ∃ Wv : Nat → Nat → Hp → Prop, (∃ m, Wv 0 m (upd H1 D (.lst []))) ∧ ∀ i m H, Wv i m H →
      (J.stop i H ∧ Q (.ref D) H) ∨ (J.go i H ∧ ∃ Nx : Hp → Prop, (∀ H', Nx H' → ∃ m', m' < m ∧ Wv (i + 1) m' H') ∧ ∀ x H', J.yld i H x H' → gI T K t x (wipe σ vs) H' fun σ2 H2 => wipe σ2 vs = wipe σ vs ∧ ttF T K isN fc σ2 H2 fun b H3 =>
        if b = true then tI T K W0 fe σ2 H3 fun y H4 => ∃ acc, H4 D = some (.lst acc) ∧ acc.length < sizeLine ∧ Nx (upd H4 D (.lst (acc ++ [y]))) else Nx H3) := by
  intro D hD0
  let Wv : Nat → Nat → Hp → Prop := fun i m H => m + i = xs.length ∧ ∃ ms' w' acc dacc, Ext H1 ms H ms' ∧ RelW K ms' H w' ∧ H D = some (.lst acc) ∧ D ∉ ms' ∧ FzAll K H acc dacc ∧ dacc.length ≤ i ∧
    endsR T K ms H1 P (RelF T K) Q ((compL (elF isN t fc fe (wip iσ vs)) (xs.drop i) w').bind fun ys w2 => .ok (.d (.list (dacc ++ ys))) w2)
  have nD0 : D ∉ ms := fun hm => by
    obtain ⟨u, hu⟩ := s.w.mem hm
    rw [hD0] at hu; cases hu
  refine ⟨Wv, ⟨xs.length, rfl, ms, w, [], [], Ext.new hD0, s.w.new hD0, upd_same, nD0, .nil, Nat.le_refl _, h⟩, ?_⟩
  rintro i m H ⟨hm, ms', w', acc, dacc, g, rw', hD, nD, fz, hl, h'⟩
  obtain ⟨w1, w2⟩ := hw H g.toGrow
  by_cases hlt : i < xs.length
  · obtain ⟨k1, k2⟩ := w1 i xs[i] (List.getElem?_eq_getElem hlt)
    refine .inr ⟨k1, Wv (i + 1) (m - 1), fun H' p => ⟨m - 1, by omega, p⟩, fun x H' y => ?_⟩
    obtain ⟨e1, e2, e3⟩ := k2 x H' y
    have dr : xs.drop i = xs[i] :: xs.drop (i + 1) := List.drop_eq_getElem_cons hlt
    rw [dr] at h'
    cases he : elF isN t fc fe (wip iσ vs) xs[i] w' with
    | no => unfold compL at h'; rw [he] at h'; exact False.elim h'
    | exc _ _ _ => unfold compL at h'; rw [he] at h'; exact False.elim h'
    | ok o w3 =>
    unfold compL at h'; rw [he] at h'
    have gx : Ext H ms' H' ms' := e1 ms'
    have s1 : Sim T K ms' H' (wip iσ vs) (wipe σ vs) w' := ((s.grow g rw').grow gx (rw'.move gx.toGrow fun a _ u q => e2 a u q)).wipe vs
    refine el_turn s1 e3 htg (e2 D _ hD) nD ?_ he fun H4 ms4 g4 rw4 h4 n4 => ?_
    · have := of_decide_eq_true hx
      rw [fz.length, sizeLine_eq]; omega
    · have gg : Ext H1 ms H4 ms4 := g.trans (gx.trans g4)
      have h'' : endsR T K ms H1 P (RelF T K) Q (((compL (elF isN t fc fe (wip iσ vs)) (xs.drop (i + 1)) w3).bind fun ys w2 => R.ok (o.toList ++ ys) w2).bind fun ys w2 => .ok (.d (.list (dacc ++ ys))) w2) := h'
      have fz4 := fz.grow (gx.trans g4).toGrow
      cases o with
      | none =>
        show Wv (i + 1) _ H4
        refine ⟨by omega, ms4, w3, acc, dacc, gg, rw4, h4, n4, fz4, by omega, ?_⟩
        cases hc : compL (elF isN t fc fe (wip iσ vs)) (xs.drop (i + 1)) w3 with
        | no => rw [hc] at h''; exact h''
        | exc _ _ _ => rw [hc] at h''; exact h''
        | ok ys w5 => rw [hc] at h''; exact h''
      | some y =>
        show ∀ u, Fz K H4 u y → _
        intro u fu
        have gs : Grow H4 (upd H4 D (.lst (acc ++ [u]))) := Grow.set h4 trivial
        refine ⟨by omega, ms4, w3, acc ++ [u], dacc ++ [y], gg.later hD0 h4 trivial, rw4.keep h4 trivial n4, upd_same, n4, (fz4.append (.cons fu .nil)).grow gs, by simp; omega, ?_⟩
        cases hc : compL (elF isN t fc fe (wip iσ vs)) (xs.drop (i + 1)) w3 with
        | no => rw [hc] at h''; exact h''
        | exc _ _ _ => rw [hc] at h''; exact h''
        | ok ys w5 =>
          rw [hc] at h''
          show endsR T K ms H1 P (RelF T K) Q (.ok (.d (.list ((dacc ++ [y]) ++ ys))) w5)
          rw [List.append_assoc]
          exact h''
  · have dr : xs.drop i = [] := List.drop_eq_nil_of_le (by omega)
    rw [dr] at h'
    have h'' : endsR T K ms H1 P (RelF T K) Q (.ok (.d (.list (dacc ++ []))) w') := h'
    refine .inl ⟨w2 i (by omega), h'' (.ref D) H ms' g ?_ rw'⟩
    rw [List.append_nil]
    exact ⟨D, acc, rfl, hD0, nD, hD, fz⟩
/-- over a cell's list -/
theorem lc_cel {T : Tab} {K : PySem.W.Frag} {isN : Bool} {t : Tg} {fc fe : Sl → W → R IV} {iσ : Sl} {vs : List Nat} {σ : List (Option V)} {ms : List Addr} {H1 : Hp} {w : W} {P : Value → Option Addr → Hp → Prop} {Q : VK} {n q0 : Nat} {a : Addr}
    (s : Sim T K ms H1 iσ σ w) (htg : tgIn t vs = true) (hn : ms[n]? = some a) (hq : q0 ≤ 16777216)
    (h : endsR T K ms H1 P (RelF T K) Q ((compC (elF isN t fc fe (wip iσ vs)) n q0 0 w).bind fun ys w2 => .ok (.d (.list ys)) w2)) : ∀ D, H1 D = none →
    ∃ Wv : Nat → Nat → Hp → Prop, (∃ m, Wv 0 m (upd H1 D (.lst []))) ∧ ∀ i m H, Wv i m H →
      ((Itl K a).stop i H ∧ Q (.ref D) H) ∨ ((Itl K a).go i H ∧ ∃ Nx : Hp → Prop, (∀ H', Nx H' → ∃ m', m' < m ∧ Wv (i + 1) m' H') ∧ ∀ x H', (Itl K a).yld i H x H' → gI T K t x (wipe σ vs) H' fun σ2 H2 => wipe σ2 vs = wipe σ vs ∧ ttF T K isN fc σ2 H2 fun b H3 =>
        if b = true then tI T K W0 fe σ2 H3 fun y H4 => ∃ acc, H4 D = some (.lst acc) ∧ acc.length < sizeLine ∧ Nx (upd H4 D (.lst (acc ++ [y]))) else Nx H3) := by
  intro D hD0
  let Wv : Nat → Nat → Hp → Prop := fun i m H => m + i = q0 ∧ ∃ ms' w' acc dacc, Ext H1 ms H ms' ∧ RelW K ms' H w' ∧ H D = some (.lst acc) ∧ D ∉ ms' ∧ FzAll K H acc dacc ∧ dacc.length ≤ i ∧
    endsR T K ms H1 P (RelF T K) Q ((compC (elF isN t fc fe (wip iσ vs)) n m i w').bind fun ys w2 => .ok (.d (.list (dacc ++ ys))) w2)
  have nD0 : D ∉ ms := fun hm => by
    obtain ⟨u, hu⟩ := s.w.mem hm
    rw [hD0] at hu; cases hu
  refine ⟨Wv, ⟨q0, rfl, ms, w, [], [], Ext.new hD0, s.w.new hD0, upd_same, nD0, .nil, Nat.le_refl _, h⟩, ?_⟩
  rintro i m H ⟨hm, ms', w', acc, dacc, g, rw', hD, nD, fz, hl, h'⟩
  cases m with
  | zero => exact False.elim h'
  | succ m =>
  unfold compC at h'
  split at h'
  case h_2 => exact False.elim h'
  rename_i xs hc
  obtain ⟨b, hb, us, hb2, fus⟩ : ∃ b, ms'[n]? = some b ∧ ∃ us, H b = some (.lst us) ∧ FzAll K H us xs := by
    obtain ⟨b, h1, us, h2, h3⟩ := rw'.get hc
    exact ⟨b, h1, us, h2, h3⟩
  have eb : b = a := Option.some.inj (hb.symm.trans (g.get hn))
  subst eb
  cases hx : xs[i]? with
  | none =>
    rw [hx] at h'
    have h'' : endsR T K ms H1 P (RelF T K) Q (.ok (.d (.list (dacc ++ []))) w') := h'
    refine .inl ⟨⟨us, .inl (.inl hb2), by rw [fus.length]; exact List.getElem?_eq_none_iff.mp hx⟩, h'' (.ref D) H ms' g ?_ rw'⟩
    rw [List.append_nil]
    exact ⟨D, acc, rfl, hD0, nD, hD, fz⟩
  | some d =>
    rw [hx] at h'
    obtain ⟨v, hv, fv⟩ := fus.get hx
    refine .inr ⟨⟨us, v, .inl (.inl hb2), hv⟩, Wv (i + 1) m, fun H' p => ⟨m, by omega, p⟩, fun x H' y => ?_⟩
    obtain ⟨rfl, y⟩ := y
    have e : v = x := Option.some.inj (hv.symm.trans (y us (.inl (.inl hb2))))
    subst e
    dsimp only at h'
    cases he : elF isN t fc fe (wip iσ vs) d w' with
    | no => rw [he] at h'; exact False.elim h'
    | exc _ _ _ => rw [he] at h'; exact False.elim h'
    | ok o w3 =>
    rw [he] at h'
    have s1 : Sim T K ms' H' (wip iσ vs) (wipe σ vs) w' := (s.grow g rw').wipe vs
    refine el_turn s1 fv htg hD nD ?_ he fun H4 ms4 g4 rw4 h4 n4 => ?_
    · rw [fz.length, sizeLine_eq]; omega
    · have gg : Ext H1 ms H4 ms4 := g.trans g4
      have h'' : endsR T K ms H1 P (RelF T K) Q (((compC (elF isN t fc fe (wip iσ vs)) n m (i + 1) w3).bind fun ys w2 => R.ok (o.toList ++ ys) w2).bind fun ys w2 => .ok (.d (.list (dacc ++ ys))) w2) := h'
      have fz4 := fz.grow g4.toGrow
      cases o with
      | none =>
        show Wv (i + 1) _ H4
        refine ⟨by omega, ms4, w3, acc, dacc, gg, rw4, h4, n4, fz4, by omega, ?_⟩
        cases hc : compC (elF isN t fc fe (wip iσ vs)) n m (i + 1) w3 with
        | no => rw [hc] at h''; exact h''
        | exc _ _ _ => rw [hc] at h''; exact h''
        | ok ys w5 => rw [hc] at h''; exact h''
      | some y =>
        show ∀ u, Fz K H4 u y → _
        intro u fu
        have gs : Grow H4 (upd H4 D (.lst (acc ++ [u]))) := Grow.set h4 trivial
        refine ⟨by omega, ms4, w3, acc ++ [u], dacc ++ [y], gg.later hD0 h4 trivial, rw4.keep h4 trivial n4, upd_same, n4, (fz4.append (.cons fu .nil)).grow gs, by simp; omega, ?_⟩
        cases hc : compC (elF isN t fc fe (wip iσ vs)) n m (i + 1) w3 with
        | no => rw [hc] at h''; exact h''
        | exc _ _ _ => rw [hc] at h''; exact h''
        | ok ys w5 =>
          rw [hc] at h''
          show endsR T K ms H1 P (RelF T K) Q (.ok (.d (.list ((dacc ++ [y]) ++ ys))) w5)
          rw [List.append_assoc]
          exact h''
section
variable {T : Tab} {c : Cc} {E : En} {X : Cx} {Wx : WX} {k : Nat}
/-- the block's place -/
theorem Gd.blk (g : Gd T c E X Wx k) {scope : Scope} (hk : scope.kind = .function) (s : Shared) (H : Hp) (C : Addr) (cl : List (Str × Addr)) (fp : List Addr) : Gd T { c with sc := scope } E (X.blk s H scope (compEnvC scope cl C X.env) fp) W0 k where
  gk := g.gk.scope c.N scope
  calm := g.calm
  N := g.N
  nd := g.nd
  sc := ScR.relabel scope X.env
  kind := hk
  fn := fun x e => by
    show (scope.names.lookup x == some .cell) = true
    rw [e]; rfl
  tk := takes0
  room := g.room
theorem _root_.L2.BlkOk.rel {N : List Str} {a b scope : Scope} {own : List (Str × Nat)} (h : BlkOk N a scope own) (r : ScR a b) : BlkOk N b scope own :=
  ⟨h.kind, h.uniq, h.ix, fun y hy e => by
    rcases h.free y hy e with h | h
    · exact .inl (r.cel _ h)
    · exact r.fre _ h, h.own⟩
theorem nofold (x : Expr) (h : (match x with | .Set .. => false | _ => true) = true) (env : Env) (v : Value) : foldedSetIterable x env v = pure v := by
  cases x <;> first | rfl | cases h
theorem own_snd (N : List Str) : ∀ own : List Nat, (own.map fun (i : Nat) => (((N[i]?).getD ("" : Str)), i)).map (·.2) = own
  | [] => rfl
  | a :: r => by rw [List.map_cons, List.map_cons, own_snd N r]
theorem ttF_pts {X : Cx} {isN : Bool} {fc : Sl → W → R IV} {ifs : List Expr} (h : (isN = true ∧ ifs = []) ∨ (isN = false ∧ ∃ z, ifs = [z] ∧ T_ T X W0 z fc)) : PTs X ifs (ttF T X.K isN fc) := by
  rcases h with ⟨rfl, rfl⟩ | ⟨rfl, z, rfl, h⟩
  · exact pts_nil
  · exact pts_one h
/-- what a comprehension's turns are, from what the small machine gives -/
theorem lc_read {K : PySem.W.Frag} {q0 : Nat} {own : List Nat} {t : Tg} {isN : Bool} {fi : Sl → W → R Pv.It} {fc fe : Sl → W → R IV} (hq : q0 ≤ 16777216) (htg : tgIn t own = true) {σ : L2.St} {H : Hp} {Q : VK}
    (h : tF T K Wx (fun σ w => (fi σ w).bind fun J w1 => (match J with
        | .dat xs => if okL xs.length then compL (elF isN t fc fe (wip σ own)) xs w1 else .no
        | .cel n => compC (elF isN t fc fe (wip σ own)) n q0 0 w1).bind fun ys w2 => .ok (.d (.list ys)) w2) σ H Q) : tLc (tII T K Wx fi) (gI T K t) (ttF T K isN fc) (tI T K W0 fe) own σ H Q := by
  obtain ⟨ms, iσ, w, s, q⟩ := h
  refine ⟨ms, iσ, w, s, q.bind fun J w1 j H1 m1 g1 r1 w1' q1 => ?_⟩
  have s1 := s.grow g1 w1'
  cases J with
  | dat xs =>
    by_cases hx : okL xs.length = true
    · have q2 : endsR T K m1 H1 _ (RelF T K) Q ((if okL xs.length then compL (elF isN t fc fe (wip iσ own)) xs w1 else .no).bind fun ys w2 => .ok (.d (.list ys)) w2) := q1
      rw [if_pos hx] at q2
      exact lc_dat s1 htg r1 hx q2
    · have q2 : endsR T K m1 H1 _ (RelF T K) Q ((if okL xs.length then compL (elF isN t fc fe (wip iσ own)) xs w1 else .no).bind fun ys w2 => .ok (.d (.list ys)) w2) := q1
      rw [if_neg hx] at q2
      exact False.elim q2
  | cel n =>
    obtain ⟨a, hn, rfl⟩ := r1
    exact lc_cel s1 htg hn hq q1
theorem sF_comp {own : List Nat} {t : Tg} {el tg iter : Expr} {ifs : List Expr} {scope : Scope} {pos : Pos} {isN : Bool} {fi : Sl → W → R Pv.It} {fc fe : Sl → W → R IV} (g : Gd T c E X Wx k) (hq : E.q ≤ 16777216)
    (hb : blkC c.N c.sc scope (own.map fun i => ((c.N[i]?).getD "", i)) = true) (htg : tgIn t own = true) (hf : ∀ env v, foldedSetIterable iter env v = pure v) (hi : PI X tg iter (tII T X.K Wx fi)) (hg : mT { c with sc := scope } t tg = true)
    (ht : ∀ X', Gd T { c with sc := scope } E X' W0 k → PTs X' ifs (ttF T X'.K isN fc)) (he : ∀ X', Gd T { c with sc := scope } E X' W0 k → I_ T X' W0 el fe) :
    F_ T X Wx (.ListComp el [⟨tg, iter, ifs, 0⟩] scope pos) fun σ w => (fi σ w).bind fun J w1 => (match J with
        | .dat xs => if okL xs.length then compL (elF isN t fc fe (wip σ own)) xs w1 else .no
        | .cel n => compC (elF isN t fc fe (wip σ own)) n E.q 0 w1).bind fun ys w2 => .ok (.d (.list ys)) w2 := by
  have bo := blkOk_by hb
  have hk : scope.kind = .function := bo.kind
  refine PE.imp (pe_lc (own := own.map fun i => ((c.N[i]?).getD "", i)) g.calm (by rw [g.N]; exact g.nd) hi (by rw [g.N]; exact bo.rel g.sc) (g := gI T X.K t) (fun s H C cl fp => sG (T := T) (g.blk hk s H C cl fp).gs t tg hg) (tt := ttF T X.K isN fc) (fun s H C cl fp => ht _ (g.blk hk s H C cl fp)) (te := tI T X.K W0 fe) (fun s H C cl fp => he _ (g.blk hk s H C cl fp)) (hf X.env)) fun σ H Q h => ?_
  rw [own_snd]
  exact lc_read hq htg h
/-- name = [..], stored within -/
theorem ps_fast {st : Stmt} {t : TS} (h : PS X st t) : PS X st fun D σ H => t { D with nx := fun σ1 H1 => (∃ a xs, H1 a = some (.lst xs) ∧ ∀ o, D.nx σ1 (upd H1 a (.frz o (.lst xs)))) ∨ D.nx σ1 H1 } σ H := by
  refine ⟨fun pins s σ H D I q => thn (h.run pins s σ H _ I q) fun f s' e => ?_⟩
  cases f with
  | next =>
    obtain ⟨σ1, H1, I1, q1⟩ := e
    rcases q1 with ⟨a, xs, ha, q1⟩ | q1
    · obtain ⟨o, I2⟩ := Inv.freeze I1 ha
      exact ⟨σ1, _, I2, q1 o⟩
    · exact ⟨σ1, H1, I1, q1⟩
  | brk => exact e
  | cont => exact e
  | ret u => exact e
end
end Pv

/-! Part N: every expression that the checker takes says what the small machine says. -/
namespace Pv
open PySem PySem.Spec PyProof.Rows L2 RZ
theorem a2 {a b : Bool} (h : (a && b) = true) : a = true ∧ b = true := Bool.and_eq_true _ _ ▸ h
theorem no2 {p : Prop} (h : false = true) : p := absurd h Bool.false_ne_true
structure Oks (T : Tab) (E : En) (k : Nat) (u : Ex) : Prop where
  e : ∀ c X Wx x, Gd T c E X Wx k → mE u c x = true → I_ T X Wx x (ev E u)
  f : ∀ c X Wx x, Gd T c E X Wx k → mE u c x = true → fresh u = true → F_ T X Wx x (ev E u)
  t : ∀ c X Wx x, Gd T c E X Wx k → mE u c x = true → tOk u = true → T_ T X Wx x (ev E u)
  w : ∀ c X Wx o y z r p, Gd T c E X Wx k → mE u c (.BoolOp o (y :: z :: r) p) = true → tOk u = true → TW_ T X Wx (.BoolOp o (y :: z :: r) p) (ev E u)
  a : ∀ c X Wx xs, Gd T c E X Wx k → mA u c xs = true → A_ T X Wx xs (evA E u)
  kw : ∀ c X Wx xs, Gd T c E X Wx k → mK u c xs = true → K_ T X Wx xs (evA E u)
  p : ∀ c X Wx o, Gd T c E X Wx k → mP u c o = true → PO X o (tIP T X.K Wx (evP E u))
  i : ∀ c X Wx tg x, Gd T c E X Wx k → mI u c tg x = true → PI X tg x (tII T X.K Wx (evI E u))
section
variable {T : Tab} {c : Cc} {E : En} {X : Cx} {Wx : WX} {k : Nat}
theorem PT.ofW {x : Expr} {t : TT} (h : PW X x t) : PT X x t := ⟨fun pins s σ H Q I q => h.run _ pins s σ H Q I q⟩
theorem evA_len : ∀ {es : List Expr} {a : Ex} {c : Cc} {σ : Sl} {w w' : W} {vs : List IV}, mA a c es = true → evA E a σ w = .ok vs w' → vs.length = es.length
  | [], a, c, σ, w, w', vs, h, e => by
    rcases mA_cases h with ⟨rfl, _⟩ | ⟨x, r, e', q, _, z, _⟩
    · have e' : R.ok [] w = .ok vs w' := e
      cases e'; rfl
    · cases z
  | y :: es, a, c, σ, w, w', vs, h, e => by
    rcases mA_cases h with ⟨_, z⟩ | ⟨x, r, e', q, rfl, z, _, _, h2⟩
    · cases z
    · cases z
      have e1 : ((ev E x σ w).bind fun v w1 => (evA E r σ w1).bind fun vs w2 => .ok (v :: vs) w2) = .ok vs w' := e
      cases h1 : ev E x σ w with
      | no => rw [h1] at e1; cases e1
      | exc _ _ _ => rw [h1] at e1; cases e1
      | ok v w1 =>
      rw [h1] at e1
      have e2 : ((evA E r σ w1).bind fun vs w2 => R.ok (v :: vs) w2) = .ok vs w' := e1
      cases h3 : evA E r σ w1 with
      | no => rw [h3] at e2; cases e2
      | exc _ _ _ => rw [h3] at e2; cases e2
      | ok us w2 =>
      rw [h3] at e2
      have e3 : R.ok (v :: us) w2 = .ok vs w' := e2
      cases e3
      rw [List.length_cons, List.length_cons, evA_len h2 h3]
theorem mK_cases {a : Ex} {c : Cc} {es : List Keyword} (h : mK a c es = true) : (a = .nil ∧ es = []) ∨ ∃ x r n e p q, a = .cons x r ∧ es = ⟨some n, e, p⟩ :: q ∧ mE x c e = true ∧ mK r c q = true := by
  cases es with
  | nil => cases a <;> first | exact .inl ⟨rfl, rfl⟩ | exact no2 h
  | cons e q =>
    obtain ⟨n, e, p⟩ := e
    cases a with
    | cons x r =>
      cases n with
      | none => exact no2 h
      | some n =>
      obtain ⟨h1, h2⟩ := a2 (show (mE x c e && mK r c q) = true from h)
      exact .inr ⟨x, r, n, e, p, q, rfl, rfl, h1, h2⟩
    | _ => exact no2 h
theorem mK_named : ∀ {es : List Keyword} {a : Ex} {c : Cc}, mK a c es = true → named es = true
  | [], _, _, _ => rfl
  | e :: es, a, c, h => by
    rcases mK_cases h with ⟨_, z⟩ | ⟨x, r, n, e', p, q, rfl, z, _, h2⟩
    · cases z
    · cases z
      exact (mK_named h2 : named es = true)
theorem evK_len : ∀ {es : List Keyword} {a : Ex} {c : Cc} {σ : Sl} {w w' : W} {vs : List IV}, mK a c es = true → evA E a σ w = .ok vs w' → vs.length = es.length
  | [], a, c, σ, w, w', vs, h, e => by
    rcases mK_cases h with ⟨rfl, _⟩ | ⟨x, r, n, e', p, q, _, z, _⟩
    · have e' : R.ok [] w = .ok vs w' := e
      cases e'; rfl
    · cases z
  | y :: es, a, c, σ, w, w', vs, h, e => by
    rcases mK_cases h with ⟨_, z⟩ | ⟨x, r, n, e', p, q, rfl, z, _, h2⟩
    · cases z
    · cases z
      have e1 : ((ev E x σ w).bind fun v w1 => (evA E r σ w1).bind fun vs w2 => .ok (v :: vs) w2) = .ok vs w' := e
      cases h1 : ev E x σ w with
      | no => rw [h1] at e1; cases e1
      | exc _ _ _ => rw [h1] at e1; cases e1
      | ok v w1 =>
      rw [h1] at e1
      have e2 : ((evA E r σ w1).bind fun vs w2 => R.ok (v :: vs) w2) = .ok vs w' := e1
      cases h3 : evA E r σ w1 with
      | no => rw [h3] at e2; cases e2
      | exc _ _ _ => rw [h3] at e2; cases e2
      | ok us w2 =>
      rw [h3] at e2
      have e3 : R.ok (v :: us) w2 = .ok vs w' := e2
      cases e3
      rw [List.length_cons, List.length_cons, evK_len h2 h3]
theorem pa_tys (g : Gd T c E X Wx k) : ∀ {ts : List Pv.T} {us : List Expr}, tyNames ts us = true → us.all (fun u => match u with
      | .Name v _ => glB c.sc v && decide (v ∈ c.ms)
      | _ => false) = true → PA X us fun _ H Q => Q (ts.map fun t => V.ty t.nm) H
  | [], [], _, _ => pa_nil
  | t :: ts, u :: us, h, h2 => by
    obtain ⟨h3, h4⟩ := a2 (show (_ && _) = true from h2)
    cases u with
    | Name v p =>
      obtain ⟨h5, h6⟩ := a2 (show (isS v (Str.ofString t.nm) && tyNames ts us) = true from h)
      obtain ⟨h7, h8⟩ := a2 (show (glB c.sc v && decide (v ∈ c.ms)) = true from h3)
      obtain ⟨q1, q2⟩ := g.gl h7
      exact pa_cons (pe_ty (t := t) (of_decide_eq_true h5) q1 (g.gk.ms v (of_decide_eq_true h8)) q2) (pa_tys g h6 h4) rfl
    | _ => exact no2 h
  | [], _ :: _, h, _ => no2 h
  | _ :: _, [], h, _ => no2 h
theorem plainIx_of {y : Expr} (h : notSlice y = true) : PlainIx y := by
  intro o j
  cases y <;> first | rfl | exact no2 h
end
def isE : Ex → Bool
  | .nil => false
  | .cons _ _ => false
  | .seq _ => false
  | .rng _ => false
  | .enm _ => false
  | .zp _ _ => false
  | _ => true
theorem isE_a {u : Ex} {c : Cc} {xs : List Expr} (hu : isE u = true) (h : mA u c xs = true) : False := by
  rcases mA_cases h with ⟨rfl, _⟩ | ⟨_, _, _, _, rfl, _⟩ <;> cases hu
theorem isE_k {u : Ex} {c : Cc} {xs : List Keyword} (hu : isE u = true) (h : mK u c xs = true) : False := by
  rcases mK_cases h with ⟨rfl, _⟩ | ⟨_, _, _, _, _, _, rfl, _⟩ <;> cases hu
theorem isE_p {u : Ex} {c : Cc} {o : Option Expr} (hu : isE u = true) (h : mP u c o = true) : False := by
  cases u <;> first | exact no2 h | cases hu
theorem isE_i {u : Ex} {c : Cc} {tg x : Expr} (hu : isE u = true) (h : mI u c tg x = true) : False := by
  cases u <;> first | exact no2 h | cases hu
theorem nE {u : Ex} {c : Cc} {x : Expr} (hu : isE u = false) (h : mE u c x = true) : False := by
  cases u <;> first | exact no2 h | cases hu
theorem Oks.ex {T : Tab} {E : En} {k : Nat} {u : Ex} (hu : isE u = true) (he : ∀ c X Wx x, Gd T c E X Wx k → mE u c x = true → I_ T X Wx x (ev E u))
    (hf : ∀ c X Wx x, Gd T c E X Wx k → mE u c x = true → fresh u = true → F_ T X Wx x (ev E u)) (ht : ∀ c X Wx x, Gd T c E X Wx k → mE u c x = true → tOk u = true → T_ T X Wx x (ev E u))
    (hw : ∀ c X Wx o y z r p, Gd T c E X Wx k → mE u c (.BoolOp o (y :: z :: r) p) = true → tOk u = true → TW_ T X Wx (.BoolOp o (y :: z :: r) p) (ev E u)) : Oks T E k u where
  e := he
  f := hf
  t := ht
  w := hw
  a := fun _ _ _ _ _ h => (isE_a hu h).elim
  kw := fun _ _ _ _ _ h => (isE_k hu h).elim
  p := fun _ _ _ _ _ h => (isE_p hu h).elim
  i := fun _ _ _ _ _ _ h => (isE_i hu h).elim
theorem Oks.no {T : Tab} {E : En} {k : Nat} {u : Ex} (hu : isE u = false) (ha : ∀ c X Wx xs, Gd T c E X Wx k → mA u c xs = true → A_ T X Wx xs (evA E u))
    (hk : ∀ c X Wx xs, Gd T c E X Wx k → mK u c xs = true → K_ T X Wx xs (evA E u)) (hp : ∀ c X Wx o, Gd T c E X Wx k → mP u c o = true → PO X o (tIP T X.K Wx (evP E u)))
    (hi : ∀ c X Wx tg x, Gd T c E X Wx k → mI u c tg x = true → PI X tg x (tII T X.K Wx (evI E u))) : Oks T E k u where
  e := fun _ _ _ _ _ h => (nE hu h).elim
  f := fun _ _ _ _ _ h => (nE hu h).elim
  t := fun _ _ _ _ _ h => (nE hu h).elim
  w := fun _ _ _ _ _ _ _ _ _ h => (nE hu h).elim
  a := ha
  kw := hk
  p := hp
  i := hi
end Pv

/-! Part O: the same by the syntax. -/
namespace Pv
open PySem PySem.Spec PyProof.Rows L2 RZ
section
variable {T : Tab} {E : En} {k : Nat}
theorem no_f {u : Ex} {p : Prop} (h : fresh u = false) (h' : fresh u = true) : p := no2 (h ▸ h')
theorem ok_var (i : Nat) : Oks T E k (.var i) := by
  have he : ∀ c X Wx x, Gd T c E X Wx k → mE (.var i) c x = true → I_ T X Wx x (ev E (.var i)) := fun c X Wx x g h => by
    cases x with
    | Name n p =>
      obtain ⟨h1, h3⟩ := a2 (show (decide (c.N[i]? = some n) && visB c.sc n && plainN n) = true from h)
      obtain ⟨h1, h2⟩ := a2 h1
      obtain ⟨q1, q2⟩ := plain_of h3
      exact pe_slot (g.slot h1) (g.sc.vis (vis_of h2)) q1 q2
    | _ => exact no2 h
  refine .ex rfl he (fun _ _ _ _ _ _ h => no2 h) (fun c X Wx x g h _ => pt_val (he c X Wx x g h) ?_) (fun _ _ _ _ _ _ _ _ _ h => no2 h)
  cases x <;> first | (intro _; rfl) | exact no2 h
theorem ok_frz (i : Nat) : Oks T E k (.frz i) := by
  refine .ex rfl (fun c X Wx x g h => ?_) (fun _ _ _ _ _ _ h => no2 h) (fun _ _ _ _ _ _ h => no2 h) (fun _ _ _ _ _ _ _ _ _ h => no2 h)
  cases x with
  | Name n p =>
    obtain ⟨h1, h3⟩ := a2 (show (decide (c.N[i]? = some n) && visB c.sc n && plainN n) = true from h)
    obtain ⟨h1, h2⟩ := a2 h1
    obtain ⟨q1, q2⟩ := plain_of h3
    exact pe_frz (g.slot h1) (g.sc.vis (vis_of h2)) q1 q2
  | _ => exact no2 h
theorem ok_cst (d : D) : Oks T E k (.cst d) := by
  have he : ∀ c X Wx x, Gd T c E X Wx k → mE (.cst d) c x = true → I_ T X Wx x (ev E (.cst d)) := fun c X Wx x g h => by
    cases x with
    | Constant n j p =>
      have h' : cstB d n = true := h
      unfold cstB at h'
      split at h'
      · exact pe_data pe_non fun _ => .non
      · rename_i a b
        have e : a = b := by simpa using h'
        subst e
        exact pe_data pe_bl fun _ => .bl _
      · rename_i a b
        have e : a = b := by simpa using h'
        subst e
        exact pe_data pe_int fun _ => .int _
      · have e := of_decide_eq_true h'
        subst e
        exact pe_data pe_str fun _ => .str _
      · exact no2 h'
    | _ => exact no2 h
  refine .ex rfl he (fun _ _ _ _ _ _ h => no2 h) (fun c X Wx x g h _ => pt_val (he c X Wx x g h) ?_) (fun _ _ _ _ _ _ _ _ _ h => no2 h)
  cases x <;> first | (intro _; rfl) | exact no2 h
theorem ok_dct : Oks T E k .dct := by
  refine .ex rfl (fun c X Wx x g h => ?_) (fun _ _ _ _ _ _ h => no2 h) (fun _ _ _ _ _ _ h => no2 h) (fun _ _ _ _ _ _ _ _ _ h => no2 h)
  cases x with
  | Dict ks vs p =>
    match ks, vs, h with
    | [], [], _ => exact pe_dct
    | [], _ :: _, h => exact no2 h
    | none :: _, _, h => exact no2 h
    | some _ :: _, _, h => exact no2 h
  | _ => exact no2 h
theorem ok_glob (j : Nat) : Oks T E k (.glob j) := by
  have he : ∀ c X Wx x, Gd T c E X Wx k → mE (.glob j) c x = true → I_ T X Wx x (ev E (.glob j)) := fun c X Wx x g h => by
    cases x with
    | Name n p =>
      obtain ⟨h1, h2⟩ := a2 (show (decide (c.gl[j]? = some n) && glB c.sc n) = true from h)
      obtain ⟨q1, q2⟩ := g.gl h2
      obtain ⟨u, v, d, e1, e2, e3, e4⟩ := g.gk.gl j n (of_decide_eq_true h1)
      have := pe_data (T' := T) (Wx := Wx) (pe_glob (pos := p) q1 e1 e2 q2) e4
      show I_ T X Wx _ fun _ w => ofO ((E.G j).map IV.d) w
      rw [e3]
      exact this
    | _ => exact no2 h
  refine .ex rfl he (fun _ _ _ _ _ _ h => no2 h) (fun c X Wx x g h _ => pt_val (he c X Wx x g h) ?_) (fun _ _ _ _ _ _ _ _ _ h => no2 h)
  cases x <;> first | (intro _; rfl) | exact no2 h
theorem ok_nil : Oks T E k .nil := by
  refine .no rfl (fun c X Wx xs g h => ?_) (fun c X Wx xs g h => ?_) (fun c X Wx o g h => ?_) (fun _ _ _ _ _ _ h => no2 h)
  · rcases mA_cases h with ⟨_, rfl⟩ | ⟨_, _, _, _, z, _⟩
    · exact sA_nil
    · cases z
  · rcases mK_cases h with ⟨_, rfl⟩ | ⟨_, _, _, _, _, _, z, _⟩
    · exact sK_nil
    · cases z
  · cases o with
    | none => exact sP_none
    | some _ => exact no2 h
theorem ok_cons {a r : Ex} (ha : Oks T E k a) (hr : Oks T E k r) : Oks T E k (.cons a r) := by
  refine .no rfl (fun c X Wx xs g h => ?_) (fun c X Wx xs g h => ?_) (fun c X Wx o g h => ?_) (fun _ _ _ _ _ _ h => no2 h)
  · rcases mA_cases h with ⟨z, _⟩ | ⟨_, _, e, q, z, rfl, h1, h2, h3⟩
    · cases z
    · cases z
      exact sA_cons h1 (ha.e c X Wx e g h2) (hr.a c X Wx q g h3)
  · rcases mK_cases h with ⟨z, _⟩ | ⟨_, _, n, e, p, q, z, rfl, h2, h3⟩
    · cases z
    · cases z
      exact sK_cons (ha.e c X Wx e g h2) (hr.kw c X Wx q g h3)
  · cases o with
    | none => cases r <;> exact no2 h
    | some x => cases r <;> first | exact no2 h | exact sP_some (ha.e c X Wx x g h)
theorem ok_tup {a : Ex} (ha : Oks T E k a) : Oks T E k (.tup a) := by
  refine .ex rfl (fun c X Wx x g h => ?_) (fun _ _ _ _ _ _ h => no2 h) (fun _ _ _ _ _ _ h => no2 h) (fun _ _ _ _ _ _ _ _ _ h => no2 h)
  cases x with
  | Tuple xs n p => exact sE_tup (ha.a c X Wx xs g h)
  | _ => exact no2 h
theorem ok_lst {a : Ex} (ha : Oks T E k a) : Oks T E k (.lst a) := by
  have hf : ∀ c X Wx x, Gd T c E X Wx k → mE (.lst a) c x = true → F_ T X Wx x (ev E (.lst a)) := fun c X Wx x g h => by
    cases x with
    | List xs p => exact sF_lst (ha.a c X Wx xs g h)
    | _ => exact no2 h
  exact .ex rfl (fun c X Wx x g h => freezeF (hf c X Wx x g h)) (fun c X Wx x g h _ => hf c X Wx x g h) (fun _ _ _ _ _ _ h => no2 h) (fun _ _ _ _ _ _ _ _ _ h => no2 h)
theorem ok_new {a : Ex} (ha : Oks T E k a) : Oks T E k (.new a) := by
  refine .ex rfl (fun c X Wx x g h => ?_) (fun _ _ _ _ _ _ h => no2 h) (fun _ _ _ _ _ _ h => no2 h) (fun _ _ _ _ _ _ _ _ _ _ h => no2 h)
  obtain ⟨h1, h2⟩ := a2 (show (fresh a && mE a c x) = true from h)
  exact newF (ha.f c X Wx x g h2 h1)
theorem ok_bin {o : Operator} {a b : Ex} (ha : Oks T E k a) (hb : Oks T E k b) : Oks T E k (.bin o a b) := by
  have hf : ∀ c X Wx x, Gd T c E X Wx k → mE (.bin o a b) c x = true → F_ T X Wx x (ev E (.bin o a b)) := fun c X Wx x g h => by
    cases x with
    | BinOp x o' y p =>
      obtain ⟨h1, h3⟩ := a2 (show (decide (o = o') && mE a c x && mE b c y) = true from h)
      obtain ⟨h1, h2⟩ := a2 h1
      have e := of_decide_eq_true h1
      subst e
      exact sE_bin (ha.e c X Wx x g h2) (hb.e c X Wx y g h3)
    | _ => exact no2 h
  exact .ex rfl (fun c X Wx x g h => freezeF (hf c X Wx x g h)) (fun c X Wx x g h _ => hf c X Wx x g h) (fun _ _ _ _ _ _ h => no2 h) (fun _ _ _ _ _ _ _ _ _ h => no2 h)
theorem ok_neg {a : Ex} (ha : Oks T E k a) : Oks T E k (.neg a) := by
  refine .ex rfl (fun c X Wx x g h => ?_) (fun _ _ _ _ _ _ h => no2 h) (fun _ _ _ _ _ _ h => no2 h) (fun _ _ _ _ _ _ _ _ _ h => no2 h)
  cases x with
  | UnaryOp o x p => cases o <;> first | exact no2 h | exact sE_neg (ha.e c X Wx x g h)
  | _ => exact no2 h
theorem ok_not {a : Ex} (ha : Oks T E k a) : Oks T E k (.not a) := by
  refine .ex rfl (fun c X Wx x g h => ?_) (fun _ _ _ _ _ _ h => no2 h) (fun c X Wx x g h t => ?_) (fun _ _ _ _ _ _ _ _ _ h => no2 h)
  · cases x with
    | UnaryOp o x p => cases o <;> first | exact no2 h | exact sE_not (ha.e c X Wx x g h)
    | _ => exact no2 h
  · cases x with
    | UnaryOp o x p => cases o <;> first | exact no2 h | exact sT_not (ha.t c X Wx x g h t)
    | _ => exact no2 h
theorem ok_and {a b : Ex} (ha : Oks T E k a) (hb : Oks T E k b) : Oks T E k (.and a b) := by
  have hw : ∀ c X Wx o y z r p, Gd T c E X Wx k → mE (.and a b) c (.BoolOp o (y :: z :: r) p) = true → tOk (.and a b) = true → TW_ T X Wx (.BoolOp o (y :: z :: r) p) (ev E (.and a b)) := fun c X Wx o y z r p g h t => by
    cases o with
    | Or => exact no2 h
    | And =>
      obtain ⟨t1, t2⟩ := a2 (show (tOk a && tOk b) = true from t)
      cases r with
      | nil =>
        obtain ⟨h1, h2⟩ := a2 (show (mE a c y && mE b c z) = true from h)
        exact sT_and (ha.t c X Wx y g h1 t1) (pw_and1 (hb.t c X Wx z g h2 t2))
      | cons u q =>
        obtain ⟨h1, h2⟩ := a2 (show (mE a c y && mE b c (.BoolOp .And (z :: u :: q) p)) = true from h)
        exact sT_and (ha.t c X Wx y g h1 t1) (hb.w c X Wx .And z u q p g h2 t2)
  refine .ex rfl (fun c X Wx x g h => ?_) (fun _ _ _ _ _ _ h => no2 h) (fun c X Wx x g h t => ?_) hw
  · cases x with
    | BoolOp o xs p =>
      cases o with
      | Or => exact no2 h
      | And =>
        match xs, h with
        | [], h => exact no2 h
        | [_], h => exact no2 h
        | [y, z], h =>
          obtain ⟨h1, h2⟩ := a2 (show (mE a c y && mE b c z) = true from h)
          exact sE_and (ha.e c X Wx y g h1) (pe_one (hb.e c X Wx z g h2))
        | y :: z :: u :: q, h =>
          obtain ⟨h1, h2⟩ := a2 (show (mE a c y && mE b c (.BoolOp .And (z :: u :: q) p)) = true from h)
          exact sE_and (ha.e c X Wx y g h1) (hb.e c X Wx _ g h2)
    | _ => exact no2 h
  · cases x with
    | BoolOp o xs p =>
      match xs, h with
      | [], h => cases o <;> exact no2 h
      | [_], h => cases o <;> exact no2 h
      | y :: z :: r, h => exact PT.ofW (hw c X Wx o y z r p g h t)
    | _ => exact no2 h
theorem ok_or {a b : Ex} (ha : Oks T E k a) (hb : Oks T E k b) : Oks T E k (.or a b) := by
  have hw : ∀ c X Wx o y z r p, Gd T c E X Wx k → mE (.or a b) c (.BoolOp o (y :: z :: r) p) = true → tOk (.or a b) = true → TW_ T X Wx (.BoolOp o (y :: z :: r) p) (ev E (.or a b)) := fun c X Wx o y z r p g h t => by
    cases o with
    | And => exact no2 h
    | Or =>
      obtain ⟨t1, t2⟩ := a2 (show (tOk a && tOk b) = true from t)
      cases r with
      | nil =>
        obtain ⟨h1, h2⟩ := a2 (show (mE a c y && mE b c z) = true from h)
        exact sT_or (ha.t c X Wx y g h1 t1) (pw_or1 (hb.t c X Wx z g h2 t2))
      | cons u q =>
        obtain ⟨h1, h2⟩ := a2 (show (mE a c y && mE b c (.BoolOp .Or (z :: u :: q) p)) = true from h)
        exact sT_or (ha.t c X Wx y g h1 t1) (hb.w c X Wx .Or z u q p g h2 t2)
  refine .ex rfl (fun c X Wx x g h => ?_) (fun _ _ _ _ _ _ h => no2 h) (fun c X Wx x g h t => ?_) hw
  · cases x with
    | BoolOp o xs p =>
      cases o with
      | And => exact no2 h
      | Or =>
        match xs, h with
        | [], h => exact no2 h
        | [_], h => exact no2 h
        | [y, z], h =>
          obtain ⟨h1, h2⟩ := a2 (show (mE a c y && mE b c z) = true from h)
          exact sE_or (ha.e c X Wx y g h1) (pe_one (hb.e c X Wx z g h2))
        | y :: z :: u :: q, h =>
          obtain ⟨h1, h2⟩ := a2 (show (mE a c y && mE b c (.BoolOp .Or (z :: u :: q) p)) = true from h)
          exact sE_or (ha.e c X Wx y g h1) (hb.e c X Wx _ g h2)
    | _ => exact no2 h
  · cases x with
    | BoolOp o xs p =>
      match xs, h with
      | [], h => cases o <;> exact no2 h
      | [_], h => cases o <;> exact no2 h
      | y :: z :: r, h => exact PT.ofW (hw c X Wx o y z r p g h t)
    | _ => exact no2 h
theorem ok_ite {a b d : Ex} (ha : Oks T E k a) (hb : Oks T E k b) (hd : Oks T E k d) : Oks T E k (.ite a b d) := by
  refine .ex rfl (fun c X Wx x g h => ?_) (fun c X Wx x g h f => ?_) (fun _ _ _ _ _ _ h => no2 h) (fun _ _ _ _ _ _ _ _ _ h => no2 h)
  · cases x with
    | IfExp z x y p =>
      obtain ⟨h1, h4⟩ := a2 (show (tOk a && mE a c z && mE b c x && mE d c y) = true from h)
      obtain ⟨h1, h3⟩ := a2 h1
      obtain ⟨h1, h2⟩ := a2 h1
      exact sE_ite (ha.t c X Wx z g h2 h1) (hb.e c X Wx x g h3) (hd.e c X Wx y g h4)
    | _ => exact no2 h
  · cases x with
    | IfExp z x y p =>
      obtain ⟨h1, h4⟩ := a2 (show (tOk a && mE a c z && mE b c x && mE d c y) = true from h)
      obtain ⟨h1, h3⟩ := a2 h1
      obtain ⟨h1, h2⟩ := a2 h1
      obtain ⟨f1, f2⟩ := a2 (show (fresh b && fresh d) = true from f)
      exact sF_ite (ha.t c X Wx z g h2 h1) (hb.f c X Wx x g h3 f1) (hd.f c X Wx y g h4 f2)
    | _ => exact no2 h
theorem ok_cmp {o : CmpOp} {a b : Ex} (ha : Oks T E k a) (hb : Oks T E k b) : Oks T E k (.cmp o a b) := by
  have gen : ∀ {c x}, mE (.cmp o a b) c x = true → ∃ x' y p, x = .Compare x' [o] [y] p ∧ mE a c x' = true ∧ mE b c y = true ∧ behindInMarks o y = false := fun {c x} h => by
    cases x with
    | Compare x os ys p =>
      match os, ys, h with
      | [o'], [y], h =>
        obtain ⟨h1, h4⟩ := a2 (show (decide (o = o') && mE a c x && mE b c y && !behindInMarks o y) = true from h)
        obtain ⟨h1, h3⟩ := a2 h1
        obtain ⟨h1, h2⟩ := a2 h1
        have e := of_decide_eq_true h1
        subst e
        exact ⟨x, y, p, rfl, h2, h3, by simpa using h4⟩
      | [], _, h => exact no2 h
      | _ :: _ :: _, _, h => exact no2 h
      | [_], [], h => exact no2 h
      | [_], _ :: _ :: _, h => exact no2 h
    | _ => exact no2 h
  refine .ex rfl (fun c X Wx x g h => ?_) (fun _ _ _ _ _ _ h => no2 h) (fun c X Wx x g h _ => ?_) (fun _ _ _ _ _ _ _ _ _ h => no2 h)
  · obtain ⟨x, y, p, rfl, h2, h3, h4⟩ := gen h
    exact sE_cmp g.room h4 (ha.e c X Wx x g h2) (hb.e c X Wx y g h3)
  · obtain ⟨x, y, p, rfl, h2, h3, h4⟩ := gen h
    exact sT_cmp g.room h4 (ha.e c X Wx x g h2) (hb.e c X Wx y g h3)
theorem ok_chain {o o' : CmpOp} {a b d : Ex} (ha : Oks T E k a) (hb : Oks T E k b) (hd : Oks T E k d) : Oks T E k (.chain o o' a b d) := by
  have gen : ∀ {c x}, mE (.chain o o' a b d) c x = true → ∃ x' y z p, x = .Compare x' [o, o'] [y, z] p ∧ mE a c x' = true ∧ mE b c y = true ∧ mE d c z = true ∧ behindInMarks o' z = false := fun {c x} h => by
    cases x with
    | Compare x os ys pp =>
      match os, ys, h with
      | [p, p'], [y, u], h =>
        obtain ⟨h1, h6⟩ := a2 (show (decide (o = p) && decide (o' = p') && mE a c x && mE b c y && mE d c u && !behindInMarks p' u) = true from h)
        obtain ⟨h1, h5⟩ := a2 h1
        obtain ⟨h1, h4⟩ := a2 h1
        obtain ⟨h1, h3⟩ := a2 h1
        obtain ⟨h1, h2⟩ := a2 h1
        have e := of_decide_eq_true h1
        have e' := of_decide_eq_true h2
        subst e e'
        exact ⟨x, y, u, pp, rfl, h3, h4, h5, by simpa using h6⟩
      | [], _, h => exact no2 h
      | [_], _, h => exact no2 h
      | _ :: _ :: _ :: _, _, h => exact no2 h
      | [_, _], [], h => exact no2 h
      | [_, _], [_], h => exact no2 h
      | [_, _], _ :: _ :: _ :: _, h => exact no2 h
    | _ => exact no2 h
  refine .ex rfl (fun c X Wx x g h => ?_) (fun _ _ _ _ _ _ h => no2 h) (fun c X Wx x g h _ => ?_) (fun _ _ _ _ _ _ _ _ _ h => no2 h)
  · obtain ⟨x, y, z, p, rfl, h2, h3, h4, h5⟩ := gen h
    exact sE_chain g.room h5 (ha.e c X Wx x g h2) (hb.e c X Wx y g h3) (hd.e c X Wx z g h4)
  · obtain ⟨x, y, z, p, rfl, h2, h3, h4, h5⟩ := gen h
    exact sT_chain g.room h5 (ha.e c X Wx x g h2) (hb.e c X Wx y g h3) (hd.e c X Wx z g h4)
end
end Pv

/-! Part P: the same for calls, items, comprehensions; every expression. -/
namespace Pv
open PySem PySem.Spec PyProof.Rows L2 RZ
section
variable {T : Tab} {E : En} {k : Nat}
theorem fnm {c : Cc} {f : Nat} {x : Str} (h : (match c.fs[f]? with
    | some (n, _) => isS x n
    | none => false) = true) : ∃ ps, c.fs[f]? = some (x, ps) := by
  split at h
  · rename_i n ps e
    have := of_decide_eq_true h
    subst this
    exact ⟨ps, e⟩
  · cases h
theorem ok_call {f : Nat} {a : Ex} (ha : Oks T E k a) : Oks T E k (.call f a) := by
  have he : ∀ c X Wx x, Gd T c E X Wx k → mE (.call f a) c x = true → I_ T X Wx x (ev E (.call f a)) ∧ ∀ whole, isTrue x X.env whole = (do let v ← whole; standAt x.pos; holding [v] (truthy v)) := fun c X Wx x g h => by
    cases x with
    | Call fn ys kws p =>
      cases fn with
      | Name x p2 =>
        match ys, kws, h with
        | y :: ys, [], h =>
          obtain ⟨h1, h3⟩ := a2 (show ((match c.fs[f]? with
            | some (n, _) => isS x n
            | none => false) && glB c.sc x && mA a c (y :: ys)) = true from h)
          obtain ⟨h1, h2⟩ := a2 h1
          obtain ⟨ps, e⟩ := fnm h1
          obtain ⟨q1, q2⟩ := g.gl h2
          exact ⟨sE_call g e q1 q2 (mA_noStar h3) (ha.a c X Wx _ g h3), fun _ => rfl⟩
        | [], _, h => exact no2 h
        | _ :: _, _ :: _, h => exact no2 h
      | _ => exact no2 h
    | _ => exact no2 h
  exact .ex rfl (fun c X Wx x g h => (he c X Wx x g h).1) (fun _ _ _ _ _ _ h => no2 h) (fun c X Wx x g h _ => pt_val (he c X Wx x g h).1 (he c X Wx x g h).2) (fun _ _ _ _ _ _ _ _ _ h => no2 h)
theorem ok_callk {f : Nat} {a b : Ex} {perm : List Nat} (ha : Oks T E k a) (hb : Oks T E k b) : Oks T E k (.callk f a b perm) := by
  have he : ∀ c X Wx x, Gd T c E X Wx k → mE (.callk f a b perm) c x = true → I_ T X Wx x (ev E (.callk f a b perm)) ∧ ∀ whole, isTrue x X.env whole = (do let v ← whole; standAt x.pos; holding [v] (truthy v)) := fun c X Wx x g h => by
    cases x with
    | Call fn ys kws p =>
      cases fn with
      | Name x p2 =>
        obtain ⟨h1, h5⟩ := a2 (show ((match c.fs[f]? with
          | some (n, _) => isS x n
          | none => false) && glB c.sc x && decide ((f, ys.length, kwNames kws, perm) ∈ c.kw) && mA a c ys && mK b c kws) = true from h)
        obtain ⟨h1, h4⟩ := a2 h1
        obtain ⟨h1, h3⟩ := a2 h1
        obtain ⟨h1, h2⟩ := a2 h1
        obtain ⟨ps, e⟩ := fnm h1
        obtain ⟨q1, q2⟩ := g.gl h2
        have hk := hb.kw c X Wx _ g h5
        have h3' := of_decide_eq_true h3
        refine ⟨?_, fun _ => rfl⟩
        cases ys with
        | nil =>
          have := sE_callk0 (p := p2) (pos := p) g e q1 q2 (mK_named h5) h3' hk fun _ _ _ _ e => evK_len h5 e
          rcases mA_cases h4 with ⟨rfl, _⟩ | ⟨_, _, _, _, _, z, _⟩
          · exact this
          · cases z
        | cons y ys => exact sE_callk1 g e q1 q2 (mA_noStar h4) (mK_named h5) h3' (ha.a c X Wx _ g h4) hk (fun _ _ _ _ e => evA_len h4 e) fun _ _ _ _ e => evK_len h5 e
      | _ => cases ys <;> exact no2 h
    | _ => exact no2 h
  exact .ex rfl (fun c X Wx x g h => (he c X Wx x g h).1) (fun _ _ _ _ _ _ h => no2 h) (fun c X Wx x g h _ => pt_val (he c X Wx x g h).1 (he c X Wx x g h).2) (fun _ _ _ _ _ _ _ _ _ h => no2 h)
theorem ok_blt {f : B} {a : Ex} (ha : Oks T E k a) : Oks T E k (.blt f a) := by
  have he : ∀ c X Wx x, Gd T c E X Wx k → mE (.blt f a) c x = true → F_ T X Wx x (ev E (.blt f a)) ∧ ∀ whole, isTrue x X.env whole = (do let v ← whole; standAt x.pos; holding [v] (truthy v)) := fun c X Wx x g h => by
    cases x with
    | Call fn ys kws p =>
      cases fn with
      | Name x p2 =>
        match ys, kws, h with
        | y :: ys, [], h =>
          obtain ⟨h1, h4⟩ := a2 (show (isS x f.nm && glB c.sc x && decide (f ∈ c.bs) && mA a c (y :: ys)) = true from h)
          obtain ⟨h1, h3⟩ := a2 h1
          obtain ⟨h1, h2⟩ := a2 h1
          obtain ⟨q1, q2⟩ := g.gl h2
          exact ⟨sF_blt g (of_decide_eq_true h3) (of_decide_eq_true h1) q1 q2 (mA_noStar h4) (ha.a c X Wx _ g h4), fun _ => rfl⟩
        | [], _, h => exact no2 h
        | _ :: _, _ :: _, h => exact no2 h
      | _ => exact no2 h
    | _ => exact no2 h
  exact .ex rfl (fun c X Wx x g h => freezeF (he c X Wx x g h).1) (fun c X Wx x g h _ => (he c X Wx x g h).1) (fun c X Wx x g h _ => pt_val (freezeF (he c X Wx x g h).1) (he c X Wx x g h).2) (fun _ _ _ _ _ _ _ _ _ h => no2 h)
theorem ok_isi {a : Ex} {ts : List Pv.T} (ha : Oks T E k a) : Oks T E k (.isi a ts) := by
  have he : ∀ c X Wx x, Gd T c E X Wx k → mE (.isi a ts) c x = true → I_ T X Wx x (ev E (.isi a ts)) ∧ ∀ whole, isTrue x X.env whole = (do let v ← whole; standAt x.pos; holding [v] (truthy v)) := fun c X Wx x g h => by
    cases x with
    | Call fn ys kws p =>
      cases fn with
      | Name x p2 =>
        match ys, kws, h with
        | [y, z], [], h =>
          obtain ⟨h1, h6⟩ := a2 (show (isS x "isinstance" && glB c.sc x && decide (x ∈ c.ms) && noStar y && mE a c y && (match (generalizing := false) ts, z with
            | [t], .Name u _ => isS u (Str.ofString t.nm) && glB c.sc u && decide (u ∈ c.ms)
            | t :: t' :: ts, .Tuple us _ _ => tyNames (t :: t' :: ts) us && decide (ts.length ≤ 100) && us.all (fun u => match u with
              | .Name v _ => glB c.sc v && decide (v ∈ c.ms)
              | _ => false)
            | _, _ => false)) = true from h)
          obtain ⟨h1, h5⟩ := a2 h1
          obtain ⟨h1, h4⟩ := a2 h1
          obtain ⟨h1, h3⟩ := a2 h1
          obtain ⟨h1, h2⟩ := a2 h1
          have e := of_decide_eq_true h1
          subst e
          obtain ⟨q1, q2⟩ := g.gl h2
          have hm := g.gk.ms _ (of_decide_eq_true h3)
          refine ⟨?_, fun _ => rfl⟩
          split at h6
          · rename_i t u up
            obtain ⟨h6, h8⟩ := a2 h6
            obtain ⟨h6, h7⟩ := a2 h6
            obtain ⟨q3, q4⟩ := g.gl h7
            exact sE_isi1 q1 hm h4 (ha.e c X Wx y g h5) (pe_ty (of_decide_eq_true h6) q3 (g.gk.ms _ (of_decide_eq_true h8)) q4) rfl
          · obtain ⟨h6, h8⟩ := a2 h6
            obtain ⟨h6, h7⟩ := a2 h6
            exact sE_isi2 q1 hm h4 (ha.e c X Wx y g h5) (pa_tys g h6 h8) (Nat.le_trans (of_decide_eq_true h7) (by decide))
          · cases h6
        | [], _, h => exact no2 h
        | [_], _, h => exact no2 h
        | _ :: _ :: _ :: _, _, h => exact no2 h
        | [_, _], _ :: _, h => exact no2 h
      | _ => exact no2 h
    | _ => exact no2 h
  exact .ex rfl (fun c X Wx x g h => (he c X Wx x g h).1) (fun _ _ _ _ _ _ h => no2 h) (fun c X Wx x g h _ => pt_val (he c X Wx x g h).1 (he c X Wx x g h).2) (fun _ _ _ _ _ _ _ _ _ h => no2 h)
theorem ok_sub {a b : Ex} (ha : Oks T E k a) (hb : Oks T E k b) : Oks T E k (.sub a b) := by
  have he : ∀ c X Wx x, Gd T c E X Wx k → mE (.sub a b) c x = true → I_ T X Wx x (ev E (.sub a b)) ∧ ∀ whole, isTrue x X.env whole = (do let v ← whole; standAt x.pos; holding [v] (truthy v)) := fun c X Wx x g h => by
    cases x with
    | Subscript x y p =>
      obtain ⟨h1, h3⟩ := a2 (show (notSlice y && mE a c x && mE b c y) = true from h)
      obtain ⟨h1, h2⟩ := a2 h1
      exact ⟨sE_sub (plainIx_of h1) (ha.e c X Wx x g h2) (hb.e c X Wx y g h3), fun _ => rfl⟩
    | _ => exact no2 h
  exact .ex rfl (fun c X Wx x g h => (he c X Wx x g h).1) (fun _ _ _ _ _ _ h => no2 h) (fun c X Wx x g h _ => pt_val (he c X Wx x g h).1 (he c X Wx x g h).2) (fun _ _ _ _ _ _ _ _ _ h => no2 h)
theorem ok_sl {a b d : Ex} (ha : Oks T E k a) (hb : Oks T E k b) (hd : Oks T E k d) : Oks T E k (.sl a b d) := by
  have hf : ∀ c X Wx x, Gd T c E X Wx k → mE (.sl a b d) c x = true → F_ T X Wx x (ev E (.sl a b d)) := fun c X Wx x g h => by
    cases x with
    | Subscript x y p =>
      cases y with
      | Slice l u st p2 =>
        cases st with
        | some _ => exact no2 h
        | none =>
          obtain ⟨h1, h3⟩ := a2 (show (mE a c x && mP b c l && mP d c u) = true from h)
          obtain ⟨h1, h2⟩ := a2 h1
          exact sF_sl (ha.e c X Wx x g h1) (hb.p c X Wx l g h2) (hd.p c X Wx u g h3)
      | _ => exact no2 h
    | _ => exact no2 h
  exact .ex rfl (fun c X Wx x g h => freezeF (hf c X Wx x g h)) (fun c X Wx x g h _ => hf c X Wx x g h) (fun _ _ _ _ _ _ h => no2 h) (fun _ _ _ _ _ _ _ _ _ h => no2 h)
theorem ok_mth {m : M} {a b : Ex} (ha : Oks T E k a) (hb : Oks T E k b) : Oks T E k (.mth m a b) := by
  refine .ex rfl (fun c X Wx x g h => ?_) (fun _ _ _ _ _ _ h => no2 h) (fun _ _ _ _ _ _ h => no2 h) (fun _ _ _ _ _ _ _ _ _ h => ?_)
  · cases a with
    | var i =>
      cases x with
      | Call fn ys kws cp =>
        cases fn with
        | Attribute o nm ap =>
          cases o with
          | Name n p =>
            match ys, kws, h with
            | y :: ys, [], h =>
              obtain ⟨h1, h5⟩ := a2 (show (mE (.var i) c (.Name n p) && isS nm m.nm && (ap.endLine == cp.line) && decide (ys.length < 20) && mA b c (y :: ys)) = true from h)
              obtain ⟨h1, h4⟩ := a2 h1
              obtain ⟨h1, h3⟩ := a2 h1
              obtain ⟨k1, h2⟩ := a2 h1
              have e := of_decide_eq_true h2
              subst e
              exact sE_mth (ha.e c X Wx _ g k1) h3 (of_decide_eq_true h4) (mA_noStar h5) (hb.a c X Wx _ g h5)
            | [], _, h => exact no2 h
            | _ :: _, _ :: _, h => exact no2 h
          | _ => exact no2 h
        | _ => exact no2 h
      | _ => exact no2 h
    | _ => exact no2 h
  · cases a <;> exact no2 h
theorem ok_seq {a : Ex} (ha : Oks T E k a) : Oks T E k (.seq a) := by
  refine .no rfl (fun _ _ _ _ _ h => ?_) (fun _ _ _ _ _ h => ?_) (fun _ _ _ _ _ h => no2 h) (fun c X Wx tg x g h => sI_seq (ha.e c X Wx x g h))
  · rcases mA_cases h with ⟨z, _⟩ | ⟨_, _, _, _, z, _⟩ <;> cases z
  · rcases mK_cases h with ⟨z, _⟩ | ⟨_, _, _, _, _, _, z, _⟩ <;> cases z
theorem ok_rng {a : Ex} (ha : Oks T E k a) : Oks T E k (.rng a) := by
  refine .no rfl (fun _ _ _ _ _ h => ?_) (fun _ _ _ _ _ h => ?_) (fun _ _ _ _ _ h => no2 h) (fun c X Wx tg x g h => ?_)
  · rcases mA_cases h with ⟨z, _⟩ | ⟨_, _, _, _, z, _⟩ <;> cases z
  · rcases mK_cases h with ⟨z, _⟩ | ⟨_, _, _, _, _, _, z, _⟩ <;> cases z
  · cases x with
    | Call fn ys kws p =>
      cases fn with
      | Name x p2 =>
        match ys, kws, h with
        | y :: ys, [], h =>
          obtain ⟨h1, h5⟩ := a2 (show (isS x "range" && glB c.sc x && decide (x ∈ c.ms) && decide (ys.length ≤ 1) && mA a c (y :: ys)) = true from h)
          obtain ⟨h1, h4⟩ := a2 h1
          obtain ⟨h1, h3⟩ := a2 h1
          obtain ⟨h1, h2⟩ := a2 h1
          obtain ⟨q1, q2⟩ := g.gl h2
          exact sI_rng (of_decide_eq_true h1) q1 (g.gk.ms _ (of_decide_eq_true h3)) (mA_noStar h5) (of_decide_eq_true h4) (ha.a c X Wx _ g h5) fun _ _ _ _ e => evA_len h5 e
        | [], _, h => exact no2 h
        | _ :: _, _ :: _, h => exact no2 h
      | _ => exact no2 h
    | _ => exact no2 h
theorem ok_enm {a : Ex} (ha : Oks T E k a) : Oks T E k (.enm a) := by
  refine .no rfl (fun _ _ _ _ _ h => ?_) (fun _ _ _ _ _ h => ?_) (fun _ _ _ _ _ h => no2 h) (fun c X Wx tg x g h => ?_)
  · rcases mA_cases h with ⟨z, _⟩ | ⟨_, _, _, _, z, _⟩ <;> cases z
  · rcases mK_cases h with ⟨z, _⟩ | ⟨_, _, _, _, _, _, z, _⟩ <;> cases z
  · cases tg with
    | Tuple es n tp =>
      cases x with
      | Call fn ys kws p =>
        cases fn with
        | Name x p2 =>
          match ys, kws, h with
          | [y], [], h =>
            obtain ⟨h1, h5⟩ := a2 (show (isS x "enumerate" && glB c.sc x && decide (x ∈ c.ms) && noStar y && mE a c y) = true from h)
            obtain ⟨h1, h4⟩ := a2 h1
            obtain ⟨h1, h3⟩ := a2 h1
            obtain ⟨h1, h2⟩ := a2 h1
            obtain ⟨q1, q2⟩ := g.gl h2
            exact sI_enm (of_decide_eq_true h1) q1 (g.gk.ms _ (of_decide_eq_true h3)) h4 (ha.e c X Wx _ g h5)
          | [], _, h => exact no2 h
          | _ :: _ :: _, _, h => exact no2 h
          | [_], _ :: _, h => exact no2 h
        | _ => exact no2 h
      | _ => exact no2 h
    | _ => exact no2 h
theorem ok_zp {a b : Ex} (ha : Oks T E k a) (hb : Oks T E k b) : Oks T E k (.zp a b) := by
  refine .no rfl (fun _ _ _ _ _ h => ?_) (fun _ _ _ _ _ h => ?_) (fun _ _ _ _ _ h => no2 h) (fun c X Wx tg x g h => ?_)
  · rcases mA_cases h with ⟨z, _⟩ | ⟨_, _, _, _, z, _⟩ <;> cases z
  · rcases mK_cases h with ⟨z, _⟩ | ⟨_, _, _, _, _, _, z, _⟩ <;> cases z
  · cases tg with
    | Tuple es n tp =>
      cases x with
      | Call fn ys kws p =>
        cases fn with
        | Name x p2 =>
          match ys, kws, h with
          | [y, z], [], h =>
            obtain ⟨h1, h7⟩ := a2 (show (isS x "zip" && glB c.sc x && decide (x ∈ c.ms) && noStar y && noStar z && mE a c y && mE b c z) = true from h)
            obtain ⟨h1, h6⟩ := a2 h1
            obtain ⟨h1, h5⟩ := a2 h1
            obtain ⟨h1, h4⟩ := a2 h1
            obtain ⟨h1, h3⟩ := a2 h1
            obtain ⟨h1, h2⟩ := a2 h1
            obtain ⟨q1, q2⟩ := g.gl h2
            exact sI_zp (of_decide_eq_true h1) q1 (g.gk.ms _ (of_decide_eq_true h3)) h4 h5 (ha.e c X Wx _ g h6) (hb.e c X Wx _ g h7)
          | [], _, h => exact no2 h
          | [_], _, h => exact no2 h
          | _ :: _ :: _ :: _, _, h => exact no2 h
          | [_, _], _ :: _, h => exact no2 h
        | _ => exact no2 h
      | _ => exact no2 h
    | _ => exact no2 h
theorem nofold_of {x : Expr} (h : notSet x = true) (env : Env) (v : Value) : foldedSetIterable x env v = pure v := by
  cases x <;> first | rfl | exact no2 h
theorem comp_parts {c : Cc} {own : List Nat} {e : Ex} {t : Tg} {it d : Ex} {el : Expr} {gens : List Comprehension} {scope : Scope} {p : Pos} (h : mE (.comp own e t it d) c (.ListComp el gens scope p) = true) :
    ∃ tg iter ifs, gens = [⟨tg, iter, ifs, 0⟩] ∧ blkC c.N c.sc scope (own.map fun i => ((c.N[i]?).getD "", i)) = true ∧ notSet iter = true ∧ tgIn t own = true ∧ mI it c tg iter = true ∧ mT { c with sc := scope } t tg = true ∧ mE e { c with sc := scope } el = true ∧
      ((isNil d = true ∧ ifs = []) ∨ (isNil d = false ∧ ∃ z, ifs = [z] ∧ tOk d = true ∧ mE d { c with sc := scope } z = true)) := by
  match gens, h with
  | [⟨tg, iter, ifs, a⟩], h =>
    obtain ⟨h1, h8⟩ := a2 (show (blkC c.N c.sc scope (own.map fun i => ((c.N[i]?).getD "", i)) && decide (a = 0) && notSet iter && tgIn t own && mI it c tg iter && mT { c with sc := scope } t tg && mE e { c with sc := scope } el &&
      (match (generalizing := false) ifs with
        | [] => isNil d
        | [z] => !isNil d && tOk d && mE d { c with sc := scope } z
        | _ => false)) = true from h)
    obtain ⟨h1, h7⟩ := a2 h1
    obtain ⟨h1, h6⟩ := a2 h1
    obtain ⟨h1, h5⟩ := a2 h1
    obtain ⟨h1, h4⟩ := a2 h1
    obtain ⟨h1, h3⟩ := a2 h1
    obtain ⟨k1, h2⟩ := a2 h1
    have ea := of_decide_eq_true h2
    subst ea
    refine ⟨tg, iter, ifs, rfl, k1, h3, h4, h5, h6, h7, ?_⟩
    split at h8
    · exact .inl ⟨h8, rfl⟩
    · obtain ⟨h8, h10⟩ := a2 h8
      obtain ⟨h8, h9⟩ := a2 h8
      exact .inr ⟨by simpa using h8, _, rfl, h9, h10⟩
    · cases h8
  | [], h => exact no2 h
  | ⟨_, _, _, _⟩ :: _ :: _, h => exact no2 h
theorem ok_comp {own : List Nat} {e : Ex} {t : Tg} {it d : Ex} (he : Oks T E k e) (hi : Oks T E k it) (hd : Oks T E k d) : Oks T E k (.comp own e t it d) := by
  have hf : ∀ c X Wx x, Gd T c E X Wx k → mE (.comp own e t it d) c x = true → F_ T X Wx x (ev E (.comp own e t it d)) := fun c X Wx x g h => by
    cases x with
    | ListComp el gens scope p =>
      obtain ⟨tg, iter, ifs, rfl, h1, h3, h4, h5, h6, h7, h8⟩ := comp_parts h
      refine sF_comp (fi := evI E it) (fc := ev E d) (fe := ev E e) (isN := isNil d) g g.gk.q h1 h4 (nofold_of h3) (hi.i c X Wx tg iter g h5) h6 (fun X' g' => ttF_pts ?_) (fun X' g' => he.e _ X' W0 el g' h7)
      rcases h8 with ⟨h8, rfl⟩ | ⟨h8, z, rfl, h9, h10⟩
      · exact .inl ⟨h8, rfl⟩
      · exact .inr ⟨h8, z, rfl, hd.t _ X' W0 _ g' h10 h9⟩
    | _ => exact no2 h
  exact .ex rfl (fun c X Wx x g h => freezeF (hf c X Wx x g h)) (fun c X Wx x g h _ => hf c X Wx x g h) (fun _ _ _ _ _ _ h => no2 h) (fun _ _ _ _ _ _ _ _ _ h => no2 h)
theorem oks : ∀ u : Ex, Oks T E k u
  | .var i => ok_var i
  | .frz i => ok_frz i
  | .cst d => ok_cst d
  | .dct => ok_dct
  | .glob j => ok_glob j
  | .nil => ok_nil
  | .cons a r => ok_cons (oks a) (oks r)
  | .tup a => ok_tup (oks a)
  | .lst a => ok_lst (oks a)
  | .new a => ok_new (oks a)
  | .bin _ a b => ok_bin (oks a) (oks b)
  | .neg a => ok_neg (oks a)
  | .not a => ok_not (oks a)
  | .and a b => ok_and (oks a) (oks b)
  | .or a b => ok_or (oks a) (oks b)
  | .ite a b d => ok_ite (oks a) (oks b) (oks d)
  | .cmp _ a b => ok_cmp (oks a) (oks b)
  | .chain _ _ a b d => ok_chain (oks a) (oks b) (oks d)
  | .call _ a => ok_call (oks a)
  | .callk _ a b _ => ok_callk (oks a) (oks b)
  | .blt _ a => ok_blt (oks a)
  | .isi a _ => ok_isi (oks a)
  | .sub a b => ok_sub (oks a) (oks b)
  | .sl a b d => ok_sl (oks a) (oks b) (oks d)
  | .mth _ a b => ok_mth (oks a) (oks b)
  | .seq a => ok_seq (oks a)
  | .rng a => ok_rng (oks a)
  | .enm a => ok_enm (oks a)
  | .zp a b => ok_zp (oks a) (oks b)
  | .comp _ e _ it d => ok_comp (oks e) (oks it) (oks d)
end
end Pv

/-! Part Q: statements: readings, rules. -/
namespace Pv
open PySem PySem.Spec PyProof.Rows L2 RZ
/-- how a stretch of statements ends -/
def endsS (T : Tab) (K : PySem.W.Frag) (ms : List Addr) (H : Hp) (D : Ends) (Wx : WX) : RS → Prop
  | .mk (.next iσ) w => ∀ σ H' ms', Ext H ms H' ms' → Sim T K ms' H' iσ σ w → D.nx σ H'
  | .mk (.brk iσ) w => ∀ σ H' ms', Ext H ms H' ms' → Sim T K ms' H' iσ σ w → D.bk σ H'
  | .mk (.cnt iσ) w => ∀ σ H' ms', Ext H ms H' ms' → Sim T K ms' H' iσ σ w → D.ct σ H'
  | .mk (.ret v) w => ∀ u H' ms', Ext H ms H' ms' → RelI T K ms' H' v u → RelW K ms' H' w → D.rt u H'
  | .mk (.exc c x iσ) w => ∀ σ (d : Addr) (v : V) H' ms', Ext H ms H' ms' → H' d = some (.xd [(("value" : Str), v)]) → Fz K H' v x → Sim T K ms' H' iσ σ w → Wx (.ref (T.cls c)) (some d) σ H'
  | .no => False
def tS (T : Tab) (K : PySem.W.Frag) (Wx : WX) (f : Sl → W → RS) : TS := fun D σ H => ∃ ms iσ w, Sim T K ms H iσ σ w ∧ endsS T K ms H D Wx (f iσ w)
section
variable {T : Tab} {K : PySem.W.Frag} {Wx : WX} {ms ms' : List Addr} {H H' : Hp} {iσ : Sl} {σ : List (Option V)} {w : W} {D : Ends}
theorem endsS.grow (g : Ext H ms H' ms') {r : RS} (h : endsS T K ms H D Wx r) : endsS T K ms' H' D Wx r := by
  cases r with
  | no => exact h
  | mk f w =>
    cases f with
    | next i => exact fun σ H2 m2 g2 => h σ H2 m2 (g.trans g2)
    | brk i => exact fun σ H2 m2 g2 => h σ H2 m2 (g.trans g2)
    | cnt i => exact fun σ H2 m2 g2 => h σ H2 m2 (g.trans g2)
    | ret v => exact fun u H2 m2 g2 => h u H2 m2 (g.trans g2)
    | exc c x i => exact fun σ d v H2 m2 g2 => h σ d v H2 m2 (g.trans g2)
/-- a value, then the rest -/
theorem stepS {α β : Type} {rel : Rel α β} {r : R α} {f : α → W → RS} {Q : β → Hp → Prop} (s : Sim T K ms H iσ σ w) (h : endsS T K ms H D Wx (onE r iσ f))
    (k : ∀ (a : α) (w1 : W) (b : β) (H1 : Hp) (ms1 : List Addr), r = .ok a w1 → Ext H ms H1 ms1 → rel H ms1 H1 a b → Sim T K ms1 H1 iσ σ w1 → endsS T K ms1 H1 D Wx (f a w1) → Q b H1) :
    endsR T K ms H (fun c d H' => Wx c d σ H') rel Q r := by
  cases r with
  | no => exact h
  | exc c x w1 => exact fun d v H2 m2 g2 e f2 w2 => h σ d v H2 m2 g2 e f2 (s.grow g2 w2)
  | ok a w1 => exact fun b H1 m1 g1 r1 w1' => k a w1 b H1 m1 rfl g1 r1 (s.grow g1 w1') (endsS.grow g1 h)
/-- a test, then the rest -/
theorem stepT {r : R IV} {f : Bool → W → RS} {Q : V → Hp → Prop} (s : Sim T K ms H iσ σ w) (h : endsS T K ms H D Wx (onE (tst r fun k w => .ok k w) iσ f))
    (k : ∀ (a : Bool) (w1 : W) (H1 : Hp) (ms1 : List Addr), Ext H ms H1 ms1 → Sim T K ms1 H1 iσ σ w1 → endsS T K ms1 H1 D Wx (f a w1) → Q (.bl a) H1) :
    endsR T K ms H (fun c d H' => Wx c d σ H') (relI T K) Q r := by
  cases r with
  | no => exact h
  | exc c x w1 => exact fun d v H2 m2 g2 e f2 w2 => h σ d v H2 m2 g2 e f2 (s.grow g2 w2)
  | ok a w1 =>
    intro b H1 m1 g1 r1 w1'
    have h' : endsS T K ms H D Wx (onE (match toB a with
      | some b => R.ok b w1
      | none => .no) iσ f) := h
    cases hb : toB a with
    | none => rw [hb] at h'; exact h'.elim
    | some c =>
    rw [hb] at h'
    unfold toB at hb
    split at hb
    · cases hb
      cases (show Fz _ _ _ _ from r1)
      exact k c w1 H1 m1 g1 (s.grow g1 w1') (endsS.grow g1 h')
    · cases hb
end
section
variable {T : Tab} {X : Cx} {Wx : WX} {x y z tg : Expr} {pos p : Pos} {fe fo fx : Sl → W → R IV} {fa fb : Sl → W → RS} {fi : Sl → W → R Pv.It} {st : Stmt} {a b : List Stmt}
abbrev S_ (T : Tab) (X : Cx) (Wx : WX) (st : Stmt) (f : Sl → W → RS) : Prop := PS X st (tS T X.K Wx f)
abbrev B_ (T : Tab) (X : Cx) (Wx : WX) (st : List Stmt) (f : Sl → W → RS) : Prop := PSs X st (tS T X.K Wx f)
theorem sB_nil : B_ T X Wx [] fun σ w => .mk (.next σ) w := PSs.imp pss_nil fun D σ H ⟨ms, iσ, w, s, q⟩ => q σ H ms (Ext.refl _ _) s
theorem sB_cons (h1 : S_ T X Wx st fa) (h2 : B_ T X Wx b fb) : B_ T X Wx (st :: b) fun σ w => match fa σ w with
    | .mk (.next σ1) w1 => fb σ1 w1
    | o => o := by
  refine PSs.imp (pss_cons h1 h2) fun D σ H ⟨ms, iσ, w, s, q⟩ => ⟨ms, iσ, w, s, ?_⟩
  dsimp only at q
  cases hf : fa iσ w with
  | no => rw [hf] at q; exact q
  | mk f w1 =>
    rw [hf] at q
    cases f with
    | next i => exact fun σ H2 m2 g2 s2 => ⟨m2, i, w1, s2, endsS.grow g2 q⟩
    | brk i => exact q
    | cnt i => exact q
    | ret v => exact q
    | exc c x i => exact q
theorem sS_pass : S_ T X Wx (.Pass pos) fun σ w => .mk (.next σ) w := PS.imp ps_pass fun D σ H ⟨ms, iσ, w, s, q⟩ => q σ H ms (Ext.refl _ _) s
theorem sS_doc {c : Str} {j : Nat} : S_ T X Wx (.Expr (.Constant (.str c) j p) pos) fun σ w => .mk (.next σ) w := PS.imp ps_doc fun D σ H ⟨ms, iσ, w, s, q⟩ => q σ H ms (Ext.refl _ _) s
theorem sS_brk : S_ T X Wx (.Break pos) fun σ w => .mk (.brk σ) w := PS.imp ps_break fun D σ H ⟨ms, iσ, w, s, q⟩ => q σ H ms (Ext.refl _ _) s
theorem sS_cnt : S_ T X Wx (.Continue pos) fun σ w => .mk (.cnt σ) w := PS.imp ps_continue fun D σ H ⟨ms, iσ, w, s, q⟩ => q σ H ms (Ext.refl _ _) s
theorem sS_expr (he : I_ T X Wx x fe) (hs : swapsWith x none pos.line X.env = pure false) : S_ T X Wx (.Expr x pos) fun σ w => onE (fe σ w) σ fun _ w1 => .mk (.next σ) w1 :=
  PS.imp (ps_expr he hs) fun D σ H ⟨ms, iσ, w, s, q⟩ => ⟨ms, iσ, w, s, stepS s q fun a w1 b H1 m1 _ g1 r1 s1 q1 => q1 σ H1 m1 (Ext.refl _ _) s1⟩
theorem sS_ret (he : I_ T X Wx x fe) : S_ T X Wx (.Return (some x) pos) fun σ w => onE (fe σ w) σ fun v w1 => .mk (.ret v) w1 :=
  PS.imp (ps_ret he) fun D σ H ⟨ms, iσ, w, s, q⟩ => ⟨ms, iσ, w, s, stepS s q fun a w1 b H1 m1 _ g1 r1 s1 q1 => q1 b H1 m1 (Ext.refl _ _) r1 s1.w⟩
theorem sS_retN : S_ T X Wx (.Return none pos) fun _ w => .mk (.ret (.d .none)) w :=
  PS.imp ps_retN fun D σ H ⟨ms, iσ, w, s, q⟩ => q .non H ms (Ext.refl _ _) (show Fz _ _ _ _ from .non) s.w
theorem sS_stuck : S_ T X Wx st fun _ _ => .no := PS.imp ps_never fun D σ H ⟨ms, iσ, w, s, q⟩ => q
theorem sS_if (hc : T_ T X Wx x fe) (ha : B_ T X Wx a fa) (hb : B_ T X Wx b fb) : S_ T X Wx (.If x a b pos) fun σ w => onE (tst (fe σ w) fun k w => .ok k w) σ fun k w1 => if k then fa σ w1 else fb σ w1 := by
  refine PS.imp (ps_if hc ha hb) fun D σ H ⟨ms, iσ, w, s, q⟩ => ⟨ms, iσ, w, s, stepT s q fun k w1 H1 m1 g1 s1 q1 => ⟨k, rfl, ?_⟩⟩
  cases k with
  | true => exact ⟨m1, iσ, w1, s1, q1⟩
  | false => exact ⟨m1, iσ, w1, s1, q1⟩
/-- a name -/
theorem set_end {i : Nat} {v : IV} {u : V} {w1 : W} {D : Ends} {K : PySem.W.Frag} {ms : List Addr} {H : Hp} {iσ : Sl} {σ : List (Option V)} (s : Sim T K ms H iσ σ w1) (r : RelI T K ms H v u) (q : endsS T K ms H D Wx (.mk (.next (iσ.set i (some v))) w1)) : D.nx (σ.set i (some u)) H :=
  q _ H ms (Ext.refl _ _) (s.set r)
theorem sS_set {i : Nat} {n : Str} (hN : X.N.Nodup) (hi : X.N[i]? = some n) (hx : Loc X.env.scope n) (he : I_ T X Wx x fe) (hs : swapsWith x (some (.Name n p)) pos.line X.env = pure false) (hf : X.fn n = true ∨ X.env.scope.names.lookup n = some .local) :
    S_ T X Wx (.Assign [.Name n p] x pos) fun σ w => onE (fe σ w) σ fun v w1 => .mk (.next (σ.set i (some v))) w1 :=
  PS.imp (ps_set hN hi hx he hs hf) fun D σ H ⟨ms, iσ, w, s, q⟩ => ⟨ms, iσ, w, s, stepS s q fun a w1 b H1 m1 _ g1 r1 s1 q1 => set_end s1 r1 q1⟩
/-- names in a tuple -/
theorem sS_tup {t : Tg} (he : I_ T X Wx x fe) (hg : PG X tg (gI T X.K t)) (hs : swapsWithSole [tg] x pos.line X.env = pure false) (hw : swappedStores [tg] x X.env = pure none) (h1 : (assignEach [tg] X.env).map (·.2) = [assign tg X.env]) :
    S_ T X Wx (.Assign [tg] x pos) fun σ w => onE (fe σ w) σ fun v w1 => (match v with
      | .d x => ofS (asgT t x σ) w1
      | _ => .no) := by
  refine PS.imp (ps_asg he hg hs hw h1) fun D σ H ⟨ms, iσ, w, s, q⟩ => ⟨ms, iσ, w, s, stepS s q fun a w1 b H1 m1 _ g1 r1 s1 q1 => ?_⟩
  cases a with
  | ref _ => exact q1.elim
  | exc _ _ => exact q1.elim
  | d d =>
    have q2 : endsS T X.K m1 H1 D Wx (ofS (asgT t d iσ) w1) := q1
    cases ha : asgT t d iσ with
    | none => rw [ha] at q2; exact q2.elim
    | some σ1 =>
      rw [ha] at q2
      exact ⟨m1, iσ, w1, d, σ1, s1, r1, ha, fun σ' s' _ => q2 σ' H1 m1 (Ext.refl _ _) s'⟩
theorem sS_par2 {i j : Nat} {n n' : Str} {e e' : Expr} {fs : Sl → W → R (List IV)} {px py pt pt2 : Pos} {kt k2 : Nat} (hc : X.calm = true) (hN : X.N.Nodup) (hi : X.N[i]? = some n) (hj : X.N[j]? = some n') (hij : i ≠ j)
    (hx : X.env.scope.names.lookup n = some .local) (hy : X.env.scope.names.lookup n' = some .local) (ha : A_ T X Wx [e, e'] fs)
    (hw : swappedStores [.Tuple [.Name n px, .Name n' py] kt pt] (.Tuple [e, e'] k2 pt2) X.env = pure (some [n, n'])) :
    S_ T X Wx (.Assign [.Tuple [.Name n px, .Name n' py] kt pt] (.Tuple [e, e'] k2 pt2) pos) fun σ w => onE (fs σ w) σ fun vs w1 => ofS (setAll [i, j] vs σ) w1 := by
  refine PS.imp (ps_par hc hN hi hj hij hx hy ha hw) fun D σ H ⟨ms, iσ, w, s, q⟩ => ⟨ms, iσ, w, s, stepS s q fun vs w1 us H1 m1 _ g1 r1 s1 q1 => ?_⟩
  match vs, r1, q1 with
  | [], r1, q1 => exact q1.elim
  | [_], r1, q1 => exact q1.elim
  | [v, v'], .cons (b := u) ra (.cons (b := u') rb .nil), q1 => exact ⟨u, u', rfl, q1 _ H1 m1 (Ext.refl _ _) ((s1.set ra).set rb)⟩
  | _ :: _ :: _ :: _, r1, q1 => exact q1.elim
theorem sS_par3 {i j l : Nat} {n n' n'' : Str} {e e' e'' : Expr} {fs : Sl → W → R (List IV)} {px py pz pt pt2 : Pos} {kt k2 : Nat} (hc : X.calm = true) (hN : X.N.Nodup) (hi : X.N[i]? = some n) (hj : X.N[j]? = some n') (hl : X.N[l]? = some n'') (hij : i ≠ j) (hil : i ≠ l) (hjl : j ≠ l)
    (hx : X.env.scope.names.lookup n = some .local) (hy : X.env.scope.names.lookup n' = some .local) (hz : X.env.scope.names.lookup n'' = some .local) (ha : A_ T X Wx [e, e', e''] fs)
    (hw : swappedStores [.Tuple [.Name n px, .Name n' py, .Name n'' pz] kt pt] (.Tuple [e, e', e''] k2 pt2) X.env = pure (some [n, n', n''])) :
    S_ T X Wx (.Assign [.Tuple [.Name n px, .Name n' py, .Name n'' pz] kt pt] (.Tuple [e, e', e''] k2 pt2) pos) fun σ w => onE (fs σ w) σ fun vs w1 => ofS (setAll [i, j, l] vs σ) w1 := by
  refine PS.imp (ps_par3 hc hN hi hj hl hij hil hjl hx hy hz ha hw) fun D σ H ⟨ms, iσ, w, s, q⟩ => ⟨ms, iσ, w, s, stepS s q fun vs w1 us H1 m1 _ g1 r1 s1 q1 => ?_⟩
  match vs, r1, q1 with
  | [], r1, q1 => exact q1.elim
  | [_], r1, q1 => exact q1.elim
  | [_, _], r1, q1 => exact q1.elim
  | [v, v', v''], .cons (b := u) ra (.cons (b := u') rb (.cons (b := u'') rc .nil)), q1 => exact ⟨u, u', u'', rfl, q1 _ H1 m1 (Ext.refl _ _) (((s1.set ra).set rb).set rc)⟩
  | _ :: _ :: _ :: _ :: _, r1, q1 => exact q1.elim
/-- an item of a cell's list -/
theorem sS_stix (hx : I_ T X Wx x fe) (ho : I_ T X Wx y fo) (hi : I_ T X Wx z fx) (hn : notSlice z = true) (hs : swapsWithSole [.Subscript y z p] x pos.line X.env = pure false) (hw : swappedStores [.Subscript y z p] x X.env = pure none) :
    S_ T X Wx (.Assign [.Subscript y z p] x pos) fun σ w => onE (fe σ w) σ fun v w1 => onE (fo σ w1) σ fun u w2 => onE (fx σ w2) σ fun i w3 => (match u, i, v with
      | .ref n, .d ix, .d x => (match w3[n]? with
        | some (.lst xs) => (match stL xs ix x with
          | some ys => .mk (.next σ) (w3.set n (.lst ys))
          | none => .no)
        | _ => .no)
      | _, _, _ => .no) := by
  have hg : PG X (.Subscript y z p) (gSub (tI T X.K Wx fo) (tI T X.K Wx fx) rSetL) := pg_sub ho hi set_list (by cases z <;> first | (intro _; rfl) | exact no2 hn)
  refine PS.imp (ps_asg hx hg hs hw) fun D σ H ⟨ms, iσ, w, s, q⟩ => ⟨ms, iσ, w, s, stepS s q fun v w1 vx H1 m1 _ g1 r1 s1 q1 => ?_⟩
  refine ⟨m1, iσ, w1, s1, stepS s1 q1 fun u w2 ux H2 m2 _ g2 r2 s2 q2 => ?_⟩
  refine ⟨m2, iσ, w2, s2, stepS s2 q2 fun i w3 ix H3 m3 _ g3 r3 s3 q3 => ?_⟩
  have r1' := (r1.grow g2).grow g3
  have r2' := r2.grow g3
  match u, i, v, r1', r2', r3, q3 with
  | .d _, _, _, _, _, _, q3 => exact q3.elim
  | .exc _ _, _, _, _, _, _, q3 => exact q3.elim
  | .ref _, .ref _, _, _, _, _, q3 => exact q3.elim
  | .ref _, .exc _ _, _, _, _, _, q3 => exact q3.elim
  | .ref _, .d _, .ref _, _, _, _, q3 => exact q3.elim
  | .ref _, .d _, .exc _ _, _, _, _, q3 => exact q3.elim
  | .ref n, .d di, .d dv, r1', r2', r3, q3 =>
    have q4 : endsS T X.K m3 H3 D Wx (match w3[n]? with
        | some (.lst xs) => (match stL xs di dv with
          | some ys => .mk (.next iσ) (w3.set n (.lst ys))
          | none => .no)
        | _ => .no) := q3
    split at q4
    case h_2 => exact q4.elim
    rename_i ds hc
    obtain ⟨a, xs, rfl, hn, he, f⟩ := cell_lst r2' s3.w hc
    unfold stL at q4
    cases di with
    | int k =>
      dsimp only at q4
      cases hj : Pv.ixN ds.length k with
      | none => rw [hj] at q4; exact q4.elim
      | some j =>
        rw [hj] at q4
        cases (show Fz _ _ _ _ from r3)
        refine ⟨a, xs, k, j, rfl, rfl, he, by rw [f.length]; exact hj, ?_⟩
        have g : Ext H3 m3 (upd H3 a (.lst (xs.set j vx))) m3 := Ext.set he trivial (List.mem_of_getElem? hn)
        exact q4 σ _ m3 g (s3.grow g (s3.w.set hn he trivial ⟨_, upd_same, (FzAll.set (show Fz _ _ _ _ from r1') j f).grow g.toGrow⟩))
    | _ => exact q4.elim
/-- o[i], a list's -/
def rGetL (K : PySem.W.Frag) : V → V → Hp → VK → Prop := fun o i H Q => ∃ p xs k v, o = .ref p ∧ i = .int k ∧ SqL K H p xs ∧ atI xs k = some v ∧ Q v H
theorem get_list {X : Cx} : PGet X (rGetL X.K) := by
  intro pins s σ H o i ov iv Q I ro ri h
  obtain ⟨p, xs, k, v, rfl, rfl, hq, he, q⟩ := h
  cases ro
  obtain ⟨t, rfl⟩ := ri
  obtain ⟨its, r, pl, hz⟩ := I.list hq
  obtain ⟨j, h1, h2, h3, h4, h5⟩ := atI_get he
  obtain ⟨w, ew, rw'⟩ := r.get h2
  have hl := r.length
  have hn := line63
  have fin : EP X pins σ Q w s := ⟨v, H, I, rw', q⟩
  by_cases h0 : 0 ≤ k
  · have hj : k.toNat = j := by
      rw [seqIndex_of h0 h5] at h1
      exact Option.some.inj h1
    exact wpAny_getItem_list pl.isList h0 (by omega) (by rw [hj]; simpa using ew) fin
  · have hj : (k + (its.toArray.size : Int)).toNat = j := by
      rw [seqIndex_neg (by omega) h4] at h1
      rw [List.size_toArray, ← hl]
      exact Option.some.inj h1
    exact wpAny_getItem_list_neg pl.isList (by omega) (by rw [List.size_toArray] <;> omega) (by omega) (by rw [hj]; simpa using ew) fin
theorem sS_auix (ho : I_ T X Wx y fo) (hi : I_ T X Wx z fx) (hx : I_ T X Wx x fe) (hn : notSlice z = true) :
    S_ T X Wx (.AugAssign (.Subscript y z p) .Add x pos) fun σ w => onE (fo σ w) σ fun u w1 => onE (fx σ w1) σ fun i w2 => (match u, i with
    | .ref n, .d ix => (match (rdC w2[n]?).bind fun x => subD x ix with
      | some old => onE (fe σ w2) σ fun v w3 => (match v with
        | .d x => (match Operator.Add, old, x, w3[n]? with
          | .Add, .int a, .int b, some (.lst xs) => (match stL xs ix (.int (a + b)) with
            | some ys => .mk (.next σ) (w3.set n (.lst ys))
            | none => .no)
          | _, _, _, _ => .no)
        | _ => .no)
      | none => .no)
    | _, _ => .no) := by
  refine PS.imp (ps_augS ho hi get_list hx ip_add set_list (by cases z <;> first | (intros; rfl) | exact no2 hn)) fun D σ H ⟨ms, iσ, w, s, q⟩ => ⟨ms, iσ, w, s, stepS s q fun u w1 ux H1 m1 _ g1 r1 s1 q1 => ?_⟩
  refine ⟨m1, iσ, w1, s1, stepS s1 q1 fun i w2 ix H2 m2 _ g2 r2 s2 q2 => ?_⟩
  have r1' := r1.grow g2
  match u, i, r1', r2, q2 with
  | .d _, _, _, _, q2 => exact q2.elim
  | .exc _ _, _, _, _, q2 => exact q2.elim
  | .ref _, .ref _, _, _, q2 => exact q2.elim
  | .ref _, .exc _ _, _, _, q2 => exact q2.elim
  | .ref n, .d di, r1', r2, q2 =>
    have q3 : endsS T X.K m2 H2 D Wx (match (rdC w2[n]?).bind fun x => subD x di with
      | some old => onE (fe iσ w2) iσ fun v w3 => (match v with
        | .d x => (match Operator.Add, old, x, w3[n]? with
          | .Add, .int a, .int b, some (.lst xs) => (match stL xs di (.int (a + b)) with
            | some ys => .mk (.next iσ) (w3.set n (.lst ys))
            | none => .no)
          | _, _, _, _ => .no)
        | _ => .no)
      | none => .no) := q2
    cases hr : rdC w2[n]? with
    | none => rw [hr] at q3; exact q3.elim
    | some dx =>
    rw [hr] at q3
    obtain ⟨ds, hc⟩ : ∃ ds, w2[n]? = some (.lst ds) := by
      unfold rdC at hr
      split at hr
      · exact ⟨_, by assumption⟩
      · cases hr
    rw [hc] at hr
    cases hr
    cases di with
    | int k =>
      have q4 : endsS T X.K m2 H2 D Wx (match (Pv.ixN ds.length k).bind fun j => ds[j]? with
        | some old => onE (fe iσ w2) iσ fun v w3 => (match v with
          | .d x => (match Operator.Add, old, x, w3[n]? with
            | .Add, .int a, .int b, some (.lst xs) => (match stL xs (.int k) (.int (a + b)) with
              | some ys => .mk (.next iσ) (w3.set n (.lst ys))
              | none => .no)
            | _, _, _, _ => .no)
          | _ => .no)
        | none => .no) := q3
      obtain ⟨a, xs, rfl, hn', he, f⟩ := cell_lst r1' s2.w hc
      cases (show Fz _ _ _ _ from r2)
      cases hj : Pv.ixN ds.length k with
      | none => rw [hj] at q4; exact q4.elim
      | some j =>
      rw [hj, Option.bind_some] at q4
      cases ho : ds[j]? with
      | none => rw [ho] at q4; exact q4.elim
      | some old =>
      rw [ho] at q4
      obtain ⟨vo, hvo, fo'⟩ := f.get ho
      refine ⟨a, xs, k, vo, rfl, rfl, .of he, ?_, ⟨m2, iσ, w2, s2, stepS s2 q4 fun v w3 vx H3 m3 _ g3 r3 s3 q5 => ?_⟩⟩
      · unfold atI
        rw [f.length]
        show (Pv.ixN ds.length k).bind _ = _
        rw [hj]
        exact hvo
      · cases v with
        | ref _ => exact q5.elim
        | exc _ _ => exact q5.elim
        | d dv =>
        have q6 : endsS T X.K m3 H3 D Wx (match (generalizing := false) Operator.Add, old, dv, w3[n]? with
            | .Add, .int a, .int b, some (.lst xs) => (match stL xs (.int k) (.int (a + b)) with
              | some ys => .mk (.next iσ) (w3.set n (.lst ys))
              | none => .no)
            | _, _, _, _ => .no) := q5
        split at q6
        case h_2 => exact q6.elim
        rename_i ia ib ds' _ hc' _
        obtain ⟨a', xs', e', hn2, he', f'⟩ := cell_lst (r1'.grow g3) s3.w hc'
        have ea : a = a' := by cases e'; rfl
        subst ea
        cases fo'
        cases (show Fz _ _ _ _ from r3)
        refine ⟨ia, ib, rfl, rfl, ?_⟩
        unfold stL at q6
        dsimp only at q6
        cases hj' : Pv.ixN ds'.length k with
        | none => rw [hj'] at q6; exact q6.elim
        | some j' =>
          rw [hj'] at q6
          refine ⟨a, xs', k, j', rfl, rfl, he', by rw [f'.length]; exact hj', ?_⟩
          have g : Ext H3 m3 (upd H3 a (.lst (xs'.set j' (.int (ia + ib))))) m3 := Ext.set he' trivial (List.mem_of_getElem? hn2)
          exact q6 σ _ m3 g (s3.grow g (s3.w.set hn2 he' trivial ⟨_, upd_same, (FzAll.set (Fz.int _) j' f').grow g.toGrow⟩))
    | _ => exact q3.elim
/-- for over data -/
theorem for_dat {K : PySem.W.Frag} {t : Tg} {xs : List PyData} {J : L2.It} {D : Ends} {ms : List Addr} {H1 : Hp} {iσ : Sl} {σ : List (Option V)} {w : W} (s : Sim T K ms H1 iσ σ w) (hw : WalkD K H1 xs J)
    (h : endsS T K ms H1 D Wx (forL (fun x σ w => match asgT t x σ with
        | some σ1 => fb σ1 w
        | none => .no) xs iσ w)) :
    ∃ Wv : Nat → Nat → L2.St → Hp → Prop, (∃ m, Wv 0 m σ H1) ∧ ∀ i m σ H, Wv i m σ H → (J.stop i H ∧ D.nx σ H) ∨ (J.go i H ∧ ∃ N : L2.St → Hp → Prop, (∀ σ' H', N σ' H' → ∃ m', m' < m ∧ Wv (i + 1) m' σ' H') ∧ ∀ x H', J.yld i H x H' → gI T K t x σ H' fun σ2 H2 => tS T K Wx fb { D with nx := N, ct := N, bk := D.nx } σ2 H2) := by
  let F : PyData → Sl → W → RS := fun x σ w => match asgT t x σ with
        | some σ1 => fb σ1 w
        | none => .no
  let Wv : Nat → Nat → L2.St → Hp → Prop := fun i m σ H => m + i = xs.length ∧ Grow H1 H ∧ ∃ ms iσ w, Sim T K ms H iσ σ w ∧ endsS T K ms H D Wx (forL F (xs.drop i) iσ w)
  refine ⟨Wv, ⟨xs.length, rfl, Grow.refl _, ms, iσ, w, s, h⟩, ?_⟩
  rintro i m σ H ⟨hm, gr, ms, iσ, w, s, h⟩
  obtain ⟨w1, w2⟩ := hw H gr
  by_cases hlt : i < xs.length
  · obtain ⟨k1, k2⟩ := w1 i xs[i] (List.getElem?_eq_getElem hlt)
    refine .inr ⟨k1, fun σ' H' => Wv (i + 1) (m - 1) σ' H', fun σ' H' p => ⟨m - 1, by omega, p⟩, fun x H' y => ?_⟩
    obtain ⟨e1, e2, e3⟩ := k2 x H' y
    have dr : xs.drop i = xs[i] :: xs.drop (i + 1) := List.drop_eq_getElem_cons hlt
    rw [dr] at h
    have gx : Ext H ms H' ms := e1 ms
    have s1 : Sim T K ms H' iσ σ w := s.grow gx (s.w.move gx.toGrow fun a _ u q => e2 a u q)
    cases ha : asgT t xs[i] iσ with
    | none =>
      have e : F xs[i] iσ w = .no := by show (match asgT t xs[i] iσ with | some σ1 => fb σ1 w | none => RS.no) = _; rw [ha]
      unfold forL at h; rw [e] at h; exact h.elim
    | some σ1 =>
    refine ⟨ms, iσ, w, _, σ1, s1, e3, ha, fun σ' s' _ => ⟨ms, σ1, w, s', ?_⟩⟩
    have e : F xs[i] iσ w = fb σ1 w := by show (match asgT t xs[i] iσ with | some σ1 => fb σ1 w | none => RS.no) = _; rw [ha]
    unfold forL at h; rw [e] at h
    have go : ∀ σ2 w2, endsS T K ms H D Wx (forL F (xs.drop (i + 1)) σ2 w2) → ∀ σ'' H2 m2, Ext H' ms H2 m2 → Sim T K m2 H2 σ2 σ'' w2 → Wv (i + 1) (m - 1) σ'' H2 := fun σ2 w2 h2 σ'' H2 m2 g2 s2 =>
      ⟨by omega, gr.trans (gx.trans g2).toGrow, m2, σ2, w2, s2, h2.grow (gx.trans g2)⟩
    cases hr : fb σ1 w with
    | no => rw [hr] at h; exact h.elim
    | mk f w3 =>
      rw [hr] at h
      cases f with
      | next σ2 => exact go σ2 w3 h
      | cnt σ2 => exact go σ2 w3 h
      | brk σ2 => exact (endsS.grow gx h : endsS T K ms H' D Wx (.mk (.next σ2) w3))
      | ret v => exact (endsS.grow gx h : endsS T K ms H' D Wx (.mk (.ret v) w3))
      | exc c x σ2 => exact (endsS.grow gx h : endsS T K ms H' D Wx (.mk (.exc c x σ2) w3))
  · have dr : xs.drop i = [] := List.drop_eq_nil_of_le (by omega)
    rw [dr] at h
    exact .inl ⟨w2 i (by omega), h σ H ms (Ext.refl _ _) s⟩
theorem for_cel {K : PySem.W.Frag} {t : Tg} {n q0 : Nat} {a : Addr} {D : Ends} {ms : List Addr} {H1 : Hp} {iσ : Sl} {σ : List (Option V)} {w : W} (s : Sim T K ms H1 iσ σ w) (hn : ms[n]? = some a)
    (h : endsS T K ms H1 D Wx (forC (fun x σ w => match asgT t x σ with
        | some σ1 => fb σ1 w
        | none => .no) n q0 0 iσ w)) :
    ∃ Wv : Nat → Nat → L2.St → Hp → Prop, (∃ m, Wv 0 m σ H1) ∧ ∀ i m σ H, Wv i m σ H → ((Itl K a).stop i H ∧ D.nx σ H) ∨ ((Itl K a).go i H ∧ ∃ N : L2.St → Hp → Prop, (∀ σ' H', N σ' H' → ∃ m', m' < m ∧ Wv (i + 1) m' σ' H') ∧ ∀ x H', (Itl K a).yld i H x H' → gI T K t x σ H' fun σ2 H2 => tS T K Wx fb { D with nx := N, ct := N, bk := D.nx } σ2 H2) := by
  let F : PyData → Sl → W → RS := fun x σ w => match asgT t x σ with
        | some σ1 => fb σ1 w
        | none => .no
  let Wv : Nat → Nat → L2.St → Hp → Prop := fun i m σ H => ∃ ms iσ w, ms[n]? = some a ∧ Sim T K ms H iσ σ w ∧ endsS T K ms H D Wx (forC F n m i iσ w)
  refine ⟨Wv, ⟨q0, ms, iσ, w, hn, s, h⟩, ?_⟩
  rintro i m σ H ⟨ms, iσ, w, hn, s, h⟩
  cases m with
  | zero => exact h.elim
  | succ m =>
  unfold forC at h
  split at h
  case h_2 => exact h.elim
  rename_i xs hc
  obtain ⟨b, hb, us, hb2, fus⟩ : ∃ b, ms[n]? = some b ∧ ∃ us, H b = some (.lst us) ∧ FzAll K H us xs := by
    obtain ⟨b, h1, us, h2, h3⟩ := s.w.get hc
    exact ⟨b, h1, us, h2, h3⟩
  have eb : b = a := Option.some.inj (hb.symm.trans hn)
  subst eb
  cases hx : xs[i]? with
  | none =>
    rw [hx] at h
    exact .inl ⟨⟨us, .inl (.inl hb2), by rw [fus.length]; exact List.getElem?_eq_none_iff.mp hx⟩, h σ H ms (Ext.refl _ _) s⟩
  | some d =>
    rw [hx] at h
    obtain ⟨v, hv, fv⟩ := fus.get hx
    refine .inr ⟨⟨us, v, .inl (.inl hb2), hv⟩, fun σ' H' => Wv (i + 1) m σ' H', fun σ' H' p => ⟨m, by omega, p⟩, fun x H' y => ?_⟩
    obtain ⟨rfl, y⟩ := y
    have e : v = x := Option.some.inj (hv.symm.trans (y us (.inl (.inl hb2))))
    subst e
    dsimp only at h
    cases ha : asgT t d iσ with
    | none =>
      have e : F d iσ w = .no := by show (match asgT t d iσ with | some σ1 => fb σ1 w | none => RS.no) = _; rw [ha]
      rw [e] at h; exact h.elim
    | some σ1 =>
    refine ⟨ms, iσ, w, _, σ1, s, fv, ha, fun σ' s' _ => ⟨ms, σ1, w, s', ?_⟩⟩
    have e : F d iσ w = fb σ1 w := by show (match asgT t d iσ with | some σ1 => fb σ1 w | none => RS.no) = _; rw [ha]
    rw [e] at h
    have go : ∀ σ2 w2, endsS T K ms H' D Wx (forC F n m (i + 1) σ2 w2) → ∀ σ'' H2 m2, Ext H' ms H2 m2 → Sim T K m2 H2 σ2 σ'' w2 → Wv (i + 1) m σ'' H2 := fun σ2 w2 h2 σ'' H2 m2 g2 s2 =>
      ⟨m2, σ2, w2, g2.get hn, s2, h2.grow g2⟩
    cases hr : fb σ1 w with
    | no => rw [hr] at h; exact h.elim
    | mk f w3 =>
      rw [hr] at h
      cases f with
      | next σ2 => exact go σ2 w3 h
      | cnt σ2 => exact go σ2 w3 h
      | brk σ2 => exact (h : endsS T K ms H' D Wx (.mk (.next σ2) w3))
      | ret v => exact (h : endsS T K ms H' D Wx (.mk (.ret v) w3))
      | exc c x σ2 => exact (h : endsS T K ms H' D Wx (.mk (.exc c x σ2) w3))
theorem sS_for {t : Tg} {q0 : Nat} (hp : PassesOwn (model X.prog X.w) X.A X.env X.xe) (hc : X.calm = true) (hi : PI X tg x (tII T X.K Wx fi)) (hg : PG X tg (gI T X.K t)) (hb : B_ T X Wx b fb) (hs : ∀ v, foldedSetIterable x X.env v = pure v) :
    S_ T X Wx (.For tg x b [] pos) fun σ w => onE (fi σ w) σ fun J w1 => (match J with
      | .dat xs => if okL xs.length then forL (fun x σ w => match asgT t x σ with
          | some σ1 => fb σ1 w
          | none => .no) xs σ w1 else .no
      | .cel n => forC (fun x σ w => match asgT t x σ with
          | some σ1 => fb σ1 w
          | none => .no) n q0 0 σ w1) := by
  refine PS.imp (ps_for hp hc hi hg hb hs) fun D σ H ⟨ms, iσ, w, s, q⟩ => ⟨ms, iσ, w, s, stepS s q fun J w1 j H1 m1 _ g1 r1 s1 q1 => ?_⟩
  cases J with
  | dat xs =>
    have q2 : endsS T X.K m1 H1 D Wx (if okL xs.length then forL (fun x σ w => match asgT t x σ with
          | some σ1 => fb σ1 w
          | none => .no) xs iσ w1 else .no) := q1
    split at q2
    · exact for_dat s1 r1 q2
    · exact q2.elim
  | cel n =>
    obtain ⟨a, hn, rfl⟩ := r1
    exact for_cel s1 hn q1
theorem sS_whl {q0 : Nat} (hp : PassesOwn (model X.prog X.w) X.A X.env X.xe) (hc : T_ T X Wx x fe) (hb : B_ T X Wx b fb) :
    S_ T X Wx (.While x b [] pos) fun σ w => whlL (fun σ w => fe σ w) (fun σ w => fb σ w) q0 σ w := by
  refine PS.imp (ps_while hp hc hb) fun D σ H ⟨ms, iσ, w, s, q⟩ => ?_
  let Wv : Nat → L2.St → Hp → Prop := fun m σ H => ∃ ms iσ w, Sim T X.K ms H iσ σ w ∧ endsS T X.K ms H D Wx (whlL (fun σ w => fe σ w) (fun σ w => fb σ w) m iσ w)
  refine ⟨Wv, ⟨q0, ms, iσ, w, s, q⟩, ?_⟩
  rintro m σ H ⟨ms, iσ, w, s, h⟩
  cases m with
  | zero => exact h.elim
  | succ m =>
  unfold whlL at h
  refine ⟨ms, iσ, w, s, stepT s h fun k w1 H1 m1 g1 s1 q1 => ⟨k, rfl, ?_⟩⟩
  cases k with
  | false => exact q1 σ H1 m1 (Ext.refl _ _) s1
  | true =>
    have q2 : endsS T X.K m1 H1 D Wx (match fb iσ w1 with
      | .mk (.next σ1) w2 => whlL (fun σ w => fe σ w) (fun σ w => fb σ w) m σ1 w2
      | .mk (.cnt σ1) w2 => whlL (fun σ w => fe σ w) (fun σ w => fb σ w) m σ1 w2
      | .mk (.brk σ1) w2 => .mk (.next σ1) w2
      | o => o) := q1
    refine ⟨fun σ' H' => Wv m σ' H', fun σ' H' p => ⟨m, Nat.lt_succ_self m, p⟩, m1, iσ, w1, s1, ?_⟩
    have go : ∀ σ2 w2, endsS T X.K m1 H1 D Wx (whlL (fun σ w => fe σ w) (fun σ w => fb σ w) m σ2 w2) → ∀ σ'' H2 m2, Ext H1 m1 H2 m2 → Sim T X.K m2 H2 σ2 σ'' w2 → Wv m σ'' H2 := fun σ2 w2 h2 σ'' H2 m2 g2 s2 => ⟨m2, σ2, w2, s2, h2.grow g2⟩
    cases hr : fb iσ w1 with
    | no => rw [hr] at q2; exact q2.elim
    | mk f w3 =>
      rw [hr] at q2
      cases f with
      | next σ2 => exact go σ2 w3 q2
      | cnt σ2 => exact go σ2 w3 q2
      | brk σ2 => exact (q2 : endsS T X.K m1 H1 D Wx (.mk (.next σ2) w3))
      | ret v => exact (q2 : endsS T X.K m1 H1 D Wx (.mk (.ret v) w3))
      | exc c x σ2 => exact (q2 : endsS T X.K m1 H1 D Wx (.mk (.exc c x σ2) w3))
end
end Pv

/-! Part R: does a stretch of statements say what the small machine's says? -/
namespace Pv
open PySem PySem.Spec PyProof.Rows L2 RZ
def isComp : Expr → Bool
  | .ListComp _ _ _ _ => true
  | .SetComp _ _ _ _ => true
  | .DictComp _ _ _ _ _ => true
  | _ => false
def notTup : Expr → Bool
  | .Tuple _ _ _ => false
  | _ => true
/-- the names that a pair's stores from the right fill -/
def swN (ts vs : List Expr) (sc : Scope) : Option (Option (List Str)) :=
  if !(ts.length == 2 || ts.length == 3) || vs.length != ts.length then some none else
  if vs.any (fun | .Starred .. => true | _ => false) then some none else
  if (ts.filterMap fun
    | .Name id pos => if sc.names.lookup id == some .local && pos.line == (ts.head?.map (·.pos.line)).getD 0 then some id else none
    | _ => none).length != ts.length || (ts.filterMap fun
    | .Name id pos => if sc.names.lookup id == some .local && pos.line == (ts.head?.map (·.pos.line)).getD 0 then some id else none
    | _ => none).eraseDups.length != (ts.filterMap fun
    | .Name id pos => if sc.names.lookup id == some .local && pos.line == (ts.head?.map (·.pos.line)).getD 0 then some id else none
    | _ => none).length then some none else
  if vs.all (foldedForSure 8) then some none else
  if vs.all (constantsAlone 8) then none else some (some (ts.filterMap fun
    | .Name id pos => if sc.names.lookup id == some .local && pos.line == (ts.head?.map (·.pos.line)).getD 0 then some id else none
    | _ => none))
theorem block_fn {env : Env} (hk : env.scope.kind = .function) : env.blockKind = .function := by unfold Env.blockKind; rw [hk]; rfl
theorem swN_ok {ts vs : List Expr} {env : Env} {k k2 : Nat} {p p2 : Pos} {r : Option (List Str)} (hk : env.scope.kind = .function) (h : swN ts vs env.scope = some r) :
    swappedStores [.Tuple ts k p] (.Tuple vs k2 p2) env = pure r := by
  have hb := block_fn hk
  unfold swN at h
  unfold swappedStores
  dsimp only
  simp only [hb, Env.kindOf]
  split at h
  · cases h
    rename_i h1
    exact if_pos (by simpa using h1)
  · rename_i h1
    refine (if_neg (by simpa using h1)).trans ?_
    split at h
    · cases h
      rename_i h2
      exact if_pos h2
    · rename_i h2
      refine (if_neg h2).trans ?_
      split at h
      · cases h
        rename_i h3
        exact if_pos h3
      · rename_i h3
        refine (if_neg h3).trans ?_
        split at h
        · cases h
          rename_i h4
          exact if_pos h4
        · rename_i h4
          refine (if_neg h4).trans ?_
          split at h
          · cases h
          · cases h
            rename_i h5
            exact (if_neg h5).trans rfl
theorem sw_none {tg x : Expr} {env : Env} (h : notTup tg = true ∨ notTup x = true) (h2 : (match tg with | .List _ _ => false | _ => true) = true) : swappedStores [tg] x env = pure none := by
  rcases h with h | h
  · cases tg <;> first | exact no2 h | exact no2 h2 | (cases x <;> rfl)
  · cases x <;> first | exact no2 h | (cases tg <;> rfl)
/-- is a comprehension's list stored within it? -/
def swC (sc : Scope) (t : Str) (tp : Pos) (bs : Scope) (vp : Pos) : Bool := sc.names.lookup t == some .local && tp.line == vp.line && !(bs.names.any fun (n, k) => n == t && (k == .local || k == .cell))
theorem swC_ok {env : Env} {el : Expr} {gens : List Comprehension} {bs : Scope} {vp tp : Pos} {t : Str} {l : Nat} (hk : env.scope.kind = .function) : swapsWith (.ListComp el gens bs vp) (some (.Name t tp)) l env = pure (swC env.scope t tp bs vp) := by
  have hb := block_fn hk
  unfold swapsWith swC
  simp only [hb, Env.kindOf, Expr.pos]
  rfl
theorem sw_plain {x : Expr} {o : Option Expr} {l : Nat} {env : Env} (h : isComp x = false) : swapsWith x o l env = pure false := by
  cases x <;> first | rfl | cases h
theorem sw_other {x tg : Expr} {l : Nat} {env : Env} (h : (match tg with | .Name _ _ => false | _ => true) = true) : swapsWithSole [tg] x l env = pure false := by
  cases tg <;> first | exact no2 h | (cases x <;> rfl)
def slotsOf (N : List Str) : List Nat → List Expr → Bool
  | [], [] => true
  | i :: is, .Name x _ :: es => decide (N[i]? = some x) && slotsOf N is es
  | _, _ => false
def isTup : Tg → Bool
  | .tup _ => true
  | _ => false
def mPar (is : List Nat) (es : Ex) (c : Cc) : Stmt → Bool
  | .Assign [.Tuple [.Name n px, .Name n' py] kk p] (.Tuple [e, e'] k2 p2) _ => (match is with
    | [i, j] => decide (c.N[i]? = some n) && decide (c.N[j]? = some n') && decide (i ≠ j) && justL c.sc n && justL c.sc n' && decide (swN [.Name n px, .Name n' py] [e, e'] c.sc = some (some [n, n'])) && mA es c [e, e']
    | _ => false)
  | .Assign [.Tuple [.Name n px, .Name n' py, .Name n'' pz] kk p] (.Tuple [e, e', e''] k2 p2) _ => (match is with
    | [i, j, l] => decide (c.N[i]? = some n) && decide (c.N[j]? = some n') && decide (c.N[l]? = some n'') && decide (i ≠ j) && decide (i ≠ l) && decide (j ≠ l) && justL c.sc n && justL c.sc n' && justL c.sc n'' && decide (swN [.Name n px, .Name n' py, .Name n'' pz] [e, e', e''] c.sc = some (some [n, n', n''])) && mA es c [e, e', e'']
    | _ => false)
  | _ => false
def mStix (o ix e : Ex) (c : Cc) : Stmt → Bool
  | .Assign [.Subscript y z _] x _ => notSlice z && mE e c x && mE o c y && mE ix c z
  | _ => false
def mAuix (op : Operator) (o ix e : Ex) (c : Cc) : Stmt → Bool
  | .AugAssign (.Subscript y z _) .Add x _ => decide (op = .Add) && notSlice z && mE o c y && mE ix c z && mE e c x
  | _ => false
mutual
def mS : St → Cc → Stmt → Bool
  | .stuck, _, _ => true
  | .pass, _, .Pass _ => true
  | .pass, _, .Expr (.Constant (.str _) _ _) _ => true
  | .brk, _, .Break _ => true
  | .cnt, _, .Continue _ => true
  | .expr e, c, .Expr x _ => !isComp x && mE e c x
  | .ret e, c, .Return (some x) _ => mE e c x
  | .retN, _, .Return none _ => true
  | .asg (.nm i) e, c, .Assign [.Name n np] x _ => decide (c.N[i]? = some n) && locB c.sc n && mE e c x && (match x with
      | .ListComp _ _ bs vp => true
      | _ => !isComp x)
  | .asg (.tup ts) e, c, .Assign [.Tuple es kk p] x _ => mT c (.tup ts) (.Tuple es kk p) && mE e c x && (match x with
      | .Tuple vs _ _ => (match swN es vs c.sc with
        | some none => true
        | _ => false)
      | _ => true)
  | .par is es, c, st => mPar is es c st
  | .stix o ix e, c, st => mStix o ix e c st
  | .auix op o ix e, c, st => mAuix op o ix e c st
  | .ifs e a b, c, .If x xs ys _ => tOk e && mE e c x && mB a c xs && mB b c ys
  | .for_ t it b, c, .For tg x xs [] _ => notSet x && mI it c tg x && mT c t tg && mB b c xs
  | .whl e b, c, .While x xs [] _ => tOk e && mE e c x && mB b c xs
  | _, _, _ => false
def mB : St → Cc → List Stmt → Bool
  | .nil, _, [] => true
  | .cons s r, c, x :: xs => mS s c x && mB r c xs
  | _, _, _ => false
end
/-- where a def's statements stand -/
structure Gp (T : Tab) (c : Cc) (E : En) (X : Cx) (Wx : WX) (k : Nat) : Prop extends Gd T c E X Wx k where
  scE : X.env.scope = c.sc
  own : PassesOwn (model X.prog X.w) X.A X.env X.xe
structure OkS (T : Tab) (E : En) (k : Nat) (u : St) : Prop where
  s : ∀ c X Wx st, Gp T c E X Wx k → mS u c st = true → S_ T X Wx st (evS E u)
  b : ∀ c X Wx sts, Gp T c E X Wx k → mB u c sts = true → B_ T X Wx sts (evS E u)
theorem isE_b {u : St} {c : Cc} {xs : List Stmt} (hu : ∀ s r, u ≠ .cons s r) (hn : u ≠ .nil) (h : mB u c xs = true) : False := by
  cases u <;> first | exact absurd rfl (hu _ _) | exact absurd rfl hn | exact no2 h
theorem OkS.st {T : Tab} {E : En} {k : Nat} {u : St} (hu : ∀ s r, u ≠ .cons s r) (hn : u ≠ .nil) (hs : ∀ c X Wx st, Gp T c E X Wx k → mS u c st = true → S_ T X Wx st (evS E u)) : OkS T E k u :=
  ⟨hs, fun _ _ _ _ _ h => (isE_b hu hn h).elim⟩
theorem justL_of {sc : Scope} {x : Str} (h : justL sc x = true) : sc.names.lookup x = some .local := by
  unfold justL at h
  split at h
  · assumption
  · cases h
end Pv

/-! Part S: every stretch of statements that the checker takes says what the small machine says. -/
namespace Pv
open PySem PySem.Spec PyProof.Rows L2 RZ
section
variable {T : Tab} {E : En} {k : Nat}
/-- name = [..], on one line -/
theorem sS_setLc {c : Cc} {X : Cx} {Wx : WX} {i : Nat} {n : Str} {np pos spos : Pos} {own : List Nat} {t : Tg} {e it d : Ex} {el : Expr} {gens : List Comprehension} {scope : Scope} (g : Gp T c E X Wx k) (hi : c.N[i]? = some n) (hl : c.sc.names.lookup n = some .local)
    (h : mE (.comp own e t it d) c (.ListComp el gens scope pos) = true) (hsw : swapsWith (.ListComp el gens scope pos) (some (.Name n np)) spos.line X.env = pure true) :
    PS X (.Assign [.Name n np] (.ListComp el gens scope pos) spos) fun D σ H => tF T X.K Wx (ev E (.comp own e t it d)) σ H fun x H1 => D.nx (σ.set i (some x)) H1 := by
  obtain ⟨tg, iter, ifs, rfl, h1, h3, h4, h5, h6, h7, h8⟩ := comp_parts h
  have bo := blkOk_by h1
  have hk : scope.kind = .function := bo.kind
  have g' := g.toGd
  have ht : ∀ X', Gd T { c with sc := scope } E X' W0 k → PTs X' ifs (ttF T X'.K (isNil d) (ev E d)) := fun X' g' => ttF_pts (by
    rcases h8 with ⟨h8, rfl⟩ | ⟨h8, z, rfl, h9, h10⟩
    · exact .inl ⟨h8, rfl⟩
    · exact .inr ⟨h8, z, rfl, (oks d).t _ X' W0 _ g' h10 h9⟩)
  refine PS.imp (ps_setLc (i := i) (own := own.map fun i => ((c.N[i]?).getD "", i)) g.calm (by rw [g.N]; exact g.nd) (by rw [g.N]; exact hi) (g.sc.loc n hl) hsw ((oks it).i c X Wx tg iter g' h5) (by rw [g.N]; exact bo.rel g.sc) (g := gI T X.K t) (fun s H C cl fp => sG (T := T) (g'.blk hk s H C cl fp).gs t tg h6) (tt := ttF T X.K (isNil d) (ev E d)) (fun s H C cl fp => ht _ (g'.blk hk s H C cl fp)) (te := tI T X.K W0 (ev E e)) (fun s H C cl fp => (oks e).e _ _ W0 el (g'.blk hk s H C cl fp) h7) (nofold_of h3 X.env)) fun D σ H h => ?_
  rw [own_snd]
  exact lc_read (q0 := E.q) g.gk.q h4 h
theorem ok_asgN {i : Nat} {e : Ex} : OkS T E k (.asg (.nm i) e) := by
  refine .st (by intros; nofun) nofun fun c X Wx st g h => ?_
  cases st with
  | Assign ts x pos =>
    match ts, h with
    | [.Name n np], h =>
      obtain ⟨h1, h4⟩ := a2 (show (decide (c.N[i]? = some n) && locB c.sc n && mE e c x && (match (generalizing := false) x with
        | .ListComp _ _ bs vp => true
        | _ => !isComp x)) = true from h)
      obtain ⟨h1, h3⟩ := a2 h1
      obtain ⟨h1, h2⟩ := a2 h1
      have hi := of_decide_eq_true h1
      have hN : X.N.Nodup := by rw [g.N]; exact g.nd
      have hi' : X.N[i]? = some n := by rw [g.N]; exact hi
      have l := loc_of h2
      have l' : Loc X.env.scope n := by rw [g.scE]; exact l
      have lf : X.fn n = true ∨ X.env.scope.names.lookup n = some .local := by
        rcases l with l | l
        · exact .inr (by rw [g.scE]; exact l)
        · exact .inl (g.fn n l)
      have plain : swapsWith x (some (.Name n np)) pos.line X.env = pure false → S_ T X Wx (.Assign [.Name n np] x pos) (evS E (.asg (.nm i) e)) := fun hs =>
        PS.imp (sS_set hN hi' l' ((oks e).e c X Wx x g.toGd h3) hs lf) fun D σ H ⟨ms, iσ, w, s, q⟩ => ⟨ms, iσ, w, s, by
          refine cast (congrArg _ ?_) q
          rfl⟩
      cases x with
      | ListComp el gens bs vp =>
        have hk : X.env.scope.kind = .function := by rw [g.scE]; exact g.kind
        have hsw := swC_ok (el := el) (gens := gens) (bs := bs) (vp := vp) (tp := np) (t := n) (l := pos.line) hk
        rw [g.scE] at hsw
        cases hb : swC c.sc n np bs vp with
        | false =>
          rw [hb] at hsw
          exact plain hsw
        | true =>
          rw [hb] at hsw
          have hl : c.sc.names.lookup n = some .local := by
            unfold swC at hb
            simp only [Bool.and_eq_true] at hb
            exact eq_of_beq hb.1.1
          cases e with
          | comp own e t it d =>
            refine PS.imp (ps_fast (sS_setLc g hi hl h3 hsw)) fun D σ H ⟨ms, iσ, w, s, q⟩ => ⟨ms, iσ, w, s, ?_⟩
            have q0 : endsS T X.K ms H D Wx (onE (ev E (.comp own e t it d) iσ w) iσ fun v w1 => .mk (.next (iσ.set i (some v))) w1) := q
            refine stepS s q0 fun v w1 u H1 m1 ef g1 r1 s1 q1 => ?_
            rw [ef] at q0
            have q2 : endsS T X.K ms H D Wx (.mk (.next (iσ.set i (some v))) w1) := q0
            rcases RelF.cases r1 with ⟨ds, a, xs, rfl, rfl, h0, hn, he, fz⟩ | ⟨hn, r⟩
            · refine .inl ⟨a, xs, he, fun o => ?_⟩
              have gr : Grow H1 (upd H1 a (.frz o (.lst xs))) := Grow.set he trivial
              have gx : Ext H ms (upd H1 a (.frz o (.lst xs))) m1 := g1.later h0 he trivial
              exact q2 _ _ m1 gx ((s.grow gx (s1.w.keep he trivial hn)).set (v := .d (.list ds)) (show Fz _ _ _ _ from .lst ⟨o, upd_same⟩ (fz.grow gr)))
            · exact .inr (set_end s1 r q1)
          | new a =>
            obtain ⟨f1, f2⟩ := a2 (show (fresh a && mE a c (.ListComp el gens bs vp)) = true from h3)
            cases a with
            | comp own e t it d =>
              refine PS.imp (sS_setLc g hi hl f2 hsw) fun D σ H ⟨ms, iσ, w, s, q⟩ => ⟨ms, iσ, w, s, ?_⟩
              have q0 : endsS T X.K ms H D Wx (onE ((ev E (.comp own e t it d) iσ w).bind fun v w1 => newW w1 v) iσ fun v w1 => .mk (.next (iσ.set i (some v))) w1) := q
              cases hf : ev E (.comp own e t it d) iσ w with
              | no => rw [hf] at q0; exact q0
              | exc cc xx w1 => rw [hf] at q0; exact fun dd v H2 m2 g2 e f2 w2 => q0 σ dd v H2 m2 g2 e f2 (s.grow g2 w2)
              | ok v w1 =>
              rw [hf] at q0
              intro u H1 m1 g1 r1 w1'
              have q1 : endsS T X.K ms H D Wx (onE (newW w1 v) iσ fun v w1 => .mk (.next (iσ.set i (some v))) w1) := q0
              rcases RelF.cases r1 with ⟨ds, a, xs, rfl, rfl, h0, hn, he, fz⟩ | ⟨hn, r⟩
              · have gx : Ext H ms H1 (m1 ++ [a]) := g1.cell h0
                exact q1 _ H1 (m1 ++ [a]) gx ((s.grow gx (w1'.push (c := .lst ds) hn ⟨xs, he, fz⟩)).set (v := .ref w1.length) ⟨a, by rw [List.getElem?_append_right (by rw [w1'.len]; exact Nat.le_refl _), w1'.len]; simp, rfl⟩)
              · unfold newW at q1
                split at q1
                · exact absurd rfl (hn _)
                · exact q1.elim
            | _ => first | exact no2 f1 | exact no2 f2
          | mth m a es => cases a <;> exact no2 h3
          | _ => exact no2 h3
      | _ => first | exact plain (sw_plain (by simpa using h4)) | exact no2 h4
    | [], h => exact no2 h
    | .Name _ _ :: _ :: _, h => exact no2 h
    | [.BoolOp ..], h | [.NamedExpr ..], h | [.BinOp ..], h | [.UnaryOp ..], h | [.Lambda ..], h | [.IfExp ..], h | [.Dict ..], h | [.Set ..], h | [.ListComp ..], h | [.SetComp ..], h | [.DictComp ..], h | [.GeneratorExp ..], h | [.Await ..], h | [.Yield ..], h | [.YieldFrom ..], h | [.Compare ..], h | [.Call ..], h | [.FormattedValue ..], h | [.JoinedStr ..], h | [.Constant ..], h | [.Attribute ..], h | [.Subscript ..], h | [.Starred ..], h | [.List ..], h | [.Slice ..], h | [.Tuple ..], h => exact no2 h
    | .BoolOp .. :: _ :: _, h | .NamedExpr .. :: _ :: _, h | .BinOp .. :: _ :: _, h | .UnaryOp .. :: _ :: _, h | .Lambda .. :: _ :: _, h | .IfExp .. :: _ :: _, h | .Dict .. :: _ :: _, h | .Set .. :: _ :: _, h | .ListComp .. :: _ :: _, h | .SetComp .. :: _ :: _, h | .DictComp .. :: _ :: _, h | .GeneratorExp .. :: _ :: _, h | .Await .. :: _ :: _, h | .Yield .. :: _ :: _, h | .YieldFrom .. :: _ :: _, h | .Compare .. :: _ :: _, h | .Call .. :: _ :: _, h | .FormattedValue .. :: _ :: _, h | .JoinedStr .. :: _ :: _, h | .Constant .. :: _ :: _, h | .Attribute .. :: _ :: _, h | .Subscript .. :: _ :: _, h | .Starred .. :: _ :: _, h | .List .. :: _ :: _, h | .Slice .. :: _ :: _, h | .Tuple .. :: _ :: _, h => exact no2 h
  | _ => exact no2 h
theorem asgP {env : Env} {es : List Expr} {kk : Nat} {p : Pos} : (assignEach [.Tuple es kk p] env).map (·.2) = [assign (.Tuple es kk p) env] := rfl
theorem ok_asgT {ts : Tg} {e : Ex} : OkS T E k (.asg (.tup ts) e) := by
  refine .st (by intros; nofun) nofun fun c X Wx st g h => ?_
  cases st with
  | Assign tgs x pos =>
    match tgs, h with
    | [.Tuple es kk p], h =>
      obtain ⟨h1, h4⟩ := a2 (show (mT c (.tup ts) (.Tuple es kk p) && mE e c x && (match (generalizing := false) x with
        | .Tuple vs _ _ => (match swN es vs c.sc with
          | some none => true
          | _ => false)
        | _ => true)) = true from h)
      obtain ⟨h1, h2⟩ := a2 h1
      have hk : X.env.scope.kind = .function := by rw [g.scE]; exact g.kind
      have hw : swappedStores [.Tuple es kk p] x X.env = pure none := by
        cases x with
        | Tuple vs k2 p2 =>
          have h5 : (match swN es vs c.sc with
            | some none => true
            | _ => false) = true := h4
          refine swN_ok hk ?_
          rw [g.scE]
          split at h5
          · assumption
          · cases h5
        | _ => exact sw_none (.inr rfl) rfl
      have ee : evS E (.asg (.tup ts) e) = fun σ w => onE (ev E e σ w) σ fun v w1 => (match v with
        | .d x => ofS (asgT (.tup ts) x σ) w1
        | _ => .no) := by
        funext σ w
        show onE (ev E e σ w) σ _ = _
        congr 1
        funext v w1
        cases v <;> rfl
      rw [ee]
      exact sS_tup ((oks e).e c X Wx x g.toGd h2) (sG g.toGd.gs (.tup ts) _ h1) (sw_other rfl) hw asgP
    | [], h => exact no2 h
    | .Tuple .. :: _ :: _, h => exact no2 h
    | [.BoolOp ..], h | [.NamedExpr ..], h | [.BinOp ..], h | [.UnaryOp ..], h | [.Lambda ..], h | [.IfExp ..], h | [.Dict ..], h | [.Set ..], h | [.ListComp ..], h | [.SetComp ..], h | [.DictComp ..], h | [.GeneratorExp ..], h | [.Await ..], h | [.Yield ..], h | [.YieldFrom ..], h | [.Compare ..], h | [.Call ..], h | [.FormattedValue ..], h | [.JoinedStr ..], h | [.Constant ..], h | [.Attribute ..], h | [.Subscript ..], h | [.Starred ..], h | [.List ..], h | [.Slice ..], h | [.Name ..], h => exact no2 h
    | .BoolOp .. :: _ :: _, h | .NamedExpr .. :: _ :: _, h | .BinOp .. :: _ :: _, h | .UnaryOp .. :: _ :: _, h | .Lambda .. :: _ :: _, h | .IfExp .. :: _ :: _, h | .Dict .. :: _ :: _, h | .Set .. :: _ :: _, h | .ListComp .. :: _ :: _, h | .SetComp .. :: _ :: _, h | .DictComp .. :: _ :: _, h | .GeneratorExp .. :: _ :: _, h | .Await .. :: _ :: _, h | .Yield .. :: _ :: _, h | .YieldFrom .. :: _ :: _, h | .Compare .. :: _ :: _, h | .Call .. :: _ :: _, h | .FormattedValue .. :: _ :: _, h | .JoinedStr .. :: _ :: _, h | .Constant .. :: _ :: _, h | .Attribute .. :: _ :: _, h | .Subscript .. :: _ :: _, h | .Starred .. :: _ :: _, h | .List .. :: _ :: _, h | .Slice .. :: _ :: _, h | .Name .. :: _ :: _, h => exact no2 h
  | _ => exact no2 h
theorem ok_par {is : List Nat} {es : Ex} : OkS T E k (.par is es) := by
  refine .st (by intros; nofun) nofun fun c X Wx st g h => ?_
  have h' : mPar is es c st = true := h
  unfold mPar at h'
  have hN : X.N.Nodup := by rw [g.N]; exact g.nd
  have hk : X.env.scope.kind = .function := by rw [g.scE]; exact g.kind
  split at h'
  · rename_i n px n' py kk p e e' k2 p2 pos
    split at h'
    · rename_i i j
      obtain ⟨h1, h8⟩ := a2 h'
      obtain ⟨h1, h7⟩ := a2 h1
      obtain ⟨h1, h6⟩ := a2 h1
      obtain ⟨h1, h5⟩ := a2 h1
      obtain ⟨h1, h4⟩ := a2 h1
      obtain ⟨h1, h3⟩ := a2 h1
      exact sS_par2 g.calm hN (by rw [g.N]; exact of_decide_eq_true h1) (by rw [g.N]; exact of_decide_eq_true h3) (of_decide_eq_true h4) (by rw [g.scE]; exact justL_of h5) (by rw [g.scE]; exact justL_of h6) ((oks es).a c X Wx _ g.toGd h8) (swN_ok hk (by rw [g.scE]; exact of_decide_eq_true h7))
    · exact no2 h'
  · rename_i n px n' py n'' pz kk p e e' e'' k2 p2 pos
    split at h'
    · rename_i i j l
      obtain ⟨h1, h12⟩ := a2 h'
      obtain ⟨h1, h11⟩ := a2 h1
      obtain ⟨h1, h10⟩ := a2 h1
      obtain ⟨h1, h9⟩ := a2 h1
      obtain ⟨h1, h8⟩ := a2 h1
      obtain ⟨h1, h7⟩ := a2 h1
      obtain ⟨h1, h6⟩ := a2 h1
      obtain ⟨h1, h5⟩ := a2 h1
      obtain ⟨h1, h4⟩ := a2 h1
      obtain ⟨h1, h3⟩ := a2 h1
      exact sS_par3 g.calm hN (by rw [g.N]; exact of_decide_eq_true h1) (by rw [g.N]; exact of_decide_eq_true h3) (by rw [g.N]; exact of_decide_eq_true h4) (of_decide_eq_true h5) (of_decide_eq_true h6) (of_decide_eq_true h7) (by rw [g.scE]; exact justL_of h8) (by rw [g.scE]; exact justL_of h9) (by rw [g.scE]; exact justL_of h10) ((oks es).a c X Wx _ g.toGd h12) (swN_ok hk (by rw [g.scE]; exact of_decide_eq_true h11))
    · exact no2 h'
  · exact no2 h'
theorem ok_stix {o ix e : Ex} : OkS T E k (.stix o ix e) := by
  refine .st (by intros; nofun) nofun fun c X Wx st g h => ?_
  have h' : mStix o ix e c st = true := h
  unfold mStix at h'
  split at h'
  · rename_i y z p x pos
    obtain ⟨h1, h4⟩ := a2 h'
    obtain ⟨h1, h3⟩ := a2 h1
    obtain ⟨h1, h2⟩ := a2 h1
    exact sS_stix ((oks e).e c X Wx x g.toGd h2) ((oks o).e c X Wx y g.toGd h3) ((oks ix).e c X Wx z g.toGd h4) h1 (sw_other rfl) (sw_none (.inl rfl) rfl)
  · exact no2 h'
theorem ok_auix {op : Operator} {o ix e : Ex} : OkS T E k (.auix op o ix e) := by
  refine .st (by intros; nofun) nofun fun c X Wx st g h => ?_
  have h' : mAuix op o ix e c st = true := h
  unfold mAuix at h'
  split at h'
  · rename_i y z p x pos
    obtain ⟨h1, h5⟩ := a2 h'
    obtain ⟨h1, h4⟩ := a2 h1
    obtain ⟨h1, h3⟩ := a2 h1
    obtain ⟨h1, h2⟩ := a2 h1
    have eo := of_decide_eq_true h1
    rw [eo]
    exact sS_auix ((oks o).e c X Wx y g.toGd h3) ((oks ix).e c X Wx z g.toGd h4) ((oks e).e c X Wx x g.toGd h5) h2
  · exact no2 h'
theorem ok_expr {e : Ex} : OkS T E k (.expr e) := by
  refine .st (by intros; nofun) nofun fun c X Wx st g h => ?_
  cases st with
  | Expr x p =>
    obtain ⟨h1, h2⟩ := a2 (show (!isComp x && mE e c x) = true from h)
    exact sS_expr ((oks e).e c X Wx x g.toGd h2) (sw_plain (by simpa using h1))
  | _ => exact no2 h
theorem ok_ret {e : Ex} : OkS T E k (.ret e) := by
  refine .st (by intros; nofun) nofun fun c X Wx st g h => ?_
  cases st with
  | Return x p =>
    cases x with
    | none => exact no2 h
    | some x => exact sS_ret ((oks e).e c X Wx x g.toGd h)
  | _ => exact no2 h
theorem ok_ifs {e : Ex} {a b : St} (ha : OkS T E k a) (hb : OkS T E k b) : OkS T E k (.ifs e a b) := by
  refine .st (by intros; nofun) nofun fun c X Wx st g h => ?_
  cases st with
  | If x xs ys p =>
    obtain ⟨h1, h4⟩ := a2 (show (tOk e && mE e c x && mB a c xs && mB b c ys) = true from h)
    obtain ⟨h1, h3⟩ := a2 h1
    obtain ⟨h1, h2⟩ := a2 h1
    exact sS_if ((oks e).t c X Wx x g.toGd h2 h1) (ha.b c X Wx xs g h3) (hb.b c X Wx ys g h4)
  | _ => exact no2 h
theorem ok_for {t : Tg} {it : Ex} {b : St} (hb : OkS T E k b) : OkS T E k (.for_ t it b) := by
  refine .st (by intros; nofun) nofun fun c X Wx st g h => ?_
  cases st with
  | For tg x xs el p =>
    cases el with
    | cons _ _ => exact no2 h
    | nil =>
      obtain ⟨h1, h4⟩ := a2 (show (notSet x && mI it c tg x && mT c t tg && mB b c xs) = true from h)
      obtain ⟨h1, h3⟩ := a2 h1
      obtain ⟨h1, h2⟩ := a2 h1
      exact sS_for (q0 := E.q) g.own g.calm ((oks it).i c X Wx tg x g.toGd h2) (sG g.toGd.gs t tg h3) (hb.b c X Wx xs g h4) (nofold_of h1 X.env)
  | _ => exact no2 h
theorem ok_whl {e : Ex} {b : St} (hb : OkS T E k b) : OkS T E k (.whl e b) := by
  refine .st (by intros; nofun) nofun fun c X Wx st g h => ?_
  cases st with
  | While x xs el p =>
    cases el with
    | cons _ _ => exact no2 h
    | nil =>
      obtain ⟨h1, h4⟩ := a2 (show (tOk e && mE e c x && mB b c xs) = true from h)
      obtain ⟨h1, h2⟩ := a2 h1
      exact sS_whl (q0 := E.q) g.own ((oks e).t c X Wx x g.toGd h2 h1) (hb.b c X Wx xs g h4)
  | _ => exact no2 h
theorem ok_pass : OkS T E k .pass := by
  refine .st (by intros; nofun) nofun fun c X Wx st g h => ?_
  cases st with
  | Pass p => exact sS_pass
  | Expr x p =>
    cases x with
    | Constant v j q => cases v <;> first | exact sS_doc | exact no2 h
    | _ => exact no2 h
  | _ => exact no2 h
theorem ok_s {u : St} (hu : (∃ t e, u = .asg t e) ∨ u = .brk ∨ u = .cnt ∨ u = .retN ∨ u = .stuck ∨ (∃ a b, u = .rais a b) ∨ ∃ a b c d, u = .try_ a b c d) : OkS T E k u := by
  rcases hu with ⟨t, e, rfl⟩ | rfl | rfl | rfl | rfl | ⟨a, b, rfl⟩ | ⟨a, b, c, d, rfl⟩
  · cases t with
    | nm i => exact ok_asgN
    | tup ts => exact ok_asgT
    | nil => exact .st (by intros; nofun) nofun fun c X Wx st g h => by cases st <;> exact no2 h
    | cons _ _ => exact .st (by intros; nofun) nofun fun c X Wx st g h => by cases st <;> exact no2 h
  · exact .st (by intros; nofun) nofun fun c X Wx st g h => by cases st <;> first | exact sS_brk | exact no2 h
  · exact .st (by intros; nofun) nofun fun c X Wx st g h => by cases st <;> first | exact sS_cnt | exact no2 h
  · refine .st (by intros; nofun) nofun fun c X Wx st g h => ?_
    cases st with
    | Return x p => cases x <;> first | exact sS_retN | exact no2 h
    | _ => exact no2 h
  · exact .st (by intros; nofun) nofun fun c X Wx st g h => sS_stuck
  · exact .st (by intros; nofun) nofun fun c X Wx st g h => by cases st <;> exact no2 h
  · exact .st (by intros; nofun) nofun fun c X Wx st g h => by cases st <;> exact no2 h
theorem oksS : ∀ u : St, OkS T E k u
  | .nil => ⟨fun c X Wx st g h => by cases st <;> exact no2 h, fun c X Wx sts g h => by
    cases sts with
    | nil => exact sB_nil
    | cons _ _ => exact no2 h⟩
  | .cons s r => ⟨fun c X Wx st g h => by cases st <;> exact no2 h, fun c X Wx sts g h => by
    cases sts with
    | nil => exact no2 h
    | cons x xs =>
      obtain ⟨h1, h2⟩ := a2 (show (mS s c x && mB r c xs) = true from h)
      exact sB_cons ((oksS s).s c X Wx x g h1) ((oksS r).b c X Wx xs g h2)⟩
  | .stuck => ok_s (by simp)
  | .pass => ok_pass
  | .brk => ok_s (by simp)
  | .cnt => ok_s (by simp)
  | .expr _ => ok_expr
  | .ret _ => ok_ret
  | .retN => ok_s (by simp)
  | .asg _ _ => ok_s (by simp)
  | .par _ _ => ok_par
  | .stix _ _ _ => ok_stix
  | .auix _ _ _ _ => ok_auix
  | .ifs _ a b => ok_ifs (oksS a) (oksS b)
  | .for_ _ _ b => ok_for (oksS b)
  | .whl _ b => ok_whl (oksS b)
  | .rais _ _ => ok_s (by simp)
  | .try_ _ _ _ _ => ok_s (by simp)
end
end Pv

/-! Part T: defs that call one another. -/
namespace Pv
open PySem PySem.Spec PyProof.Rows L2 RZ
/-- a def's text, the names' slots, the small machine's function -/
structure Fs where
  name : Str
  params : Arguments
  body : List Stmt
  scope : Scope
  ps : List Str
  N : List Str
  fn : Fn
def fnScB (N P : List Str) (sc : Scope) : Bool := (match sc.kind with
  | .function => true
  | _ => false) && !sc.isCoroutine && !sc.isGenerator && decide N.Nodup && decide (N.take P.length = P) && P.all (fun x => locB sc x) && sc.names.all fun y => match y.2 with
  | .free => false
  | _ => true
theorem fnSc_of {N P : List Str} {sc : Scope} (h : fnScB N P sc = true) : FnScope N P sc := by
  obtain ⟨h, h7⟩ := a2 (show (_ && _) = true from h)
  obtain ⟨h, h6⟩ := a2 h
  obtain ⟨h, h5⟩ := a2 h
  obtain ⟨h, h4⟩ := a2 h
  obtain ⟨h, h3⟩ := a2 h
  obtain ⟨h, h2⟩ := a2 h
  refine ⟨?_, by simpa using h2, by simpa using h3, of_decide_eq_true h4, of_decide_eq_true h5, fun x hx => loc_of (List.all_eq_true.mp h6 x hx), fun y hy => ?_⟩
  · split at h
    · assumption
    · cases h
  · have q := List.all_eq_true.mp h7 y hy
    intro z
    rw [z] at q
    cases q
def Fs.chk (c : Cc) (f : Fs) : Bool := mB f.fn.body { c with N := f.N, sc := f.scope } f.body && decide (f.fn.ns = f.N.length) && decide (f.fn.np = f.ps.length) && fnScB f.N f.ps f.scope
/-- what the program holds of it -/
structure Fk (K : PySem.W.Frag) (mg : Str → Option Value) (c : Cc) (f : Fs) (i : Nat) : Prop where
  ex : ∃ (a : Addr) (fd : FuncData), mg f.name = some (.ref a) ∧ FunD K f.name f.name f.params f.body f.scope [] [] a fd ∧ Binds K fd f.ps [] ∧
    ∀ n kn perm, (i, n, kn, perm) ∈ c.kw → ∀ (s : Shared) (us ws us' : List Value), us.length = n → ws.length = kn.length → pickG (us ++ ws) perm = some us' → us'.length = f.ps.length ∧ BindsTo s fd ⟨us, kn.zip ws⟩ (f.ps.zip us')
/-- the cells that were there -/
theorem Ext.back {H H' : Hp} {ms ms' : List Addr} (g : Ext H ms H' ms') : Ext H ms H' ms := ⟨g.toGrow, g.keep, g.trk, [], by simp, fun _ h => nomatch h⟩
theorem Ext.take {H H' : Hp} {ms ms' : List Addr} (g : Ext H ms H' ms') : ms'.take ms.length = ms := by
  obtain ⟨t, rfl, _⟩ := g.px
  exact List.take_left
theorem fin_ok {T : Tab} {K : PySem.W.Frag} {ms : List Addr} {H : Hp} {E : XK} {Q : VK} {w : W} (rw0 : RelW K ms H w) {r : RS} (h : endsR T K ms H (fun c d H' => E c d H') (relI T K) Q (fin w.length r)) :
    endsS T K ms H { nx := fun _ H' => Q .non H', rt := Q } (fun c d _ H' => E c d H') r := by
  have tk : ∀ {H' ms' w1}, Ext H ms H' ms' → RelW K ms' H' w1 → RelW K ms H' (w1.take w.length) := fun {H' ms' w1} g r => by
    have q := r.take w.length
    rw [← rw0.len, g.take, rw0.len] at q
    exact q
  cases r with
  | no => exact h
  | mk f w1 =>
    cases f with
    | next i => exact fun σ H' ms' g s => h .non H' ms g.back (show Fz _ _ _ _ from .non) (tk g s.w)
    | brk i => exact h.elim
    | cnt i => exact h.elim
    | exc c x i => exact fun σ d v H' ms' g e f s => h d v H' ms g.back e f (tk g s.w)
    | ret v =>
      intro u H' ms' g r1 w1'
      cases v with
      | d x => exact h u H' ms g.back r1 (tk g w1')
      | ref n =>
        have h' : endsR T K ms H (fun c d H' => E c d H') (relI T K) Q (if n < w.length then .ok (.ref n) (w1.take w.length) else .no) := h
        split at h'
        · rename_i hn
          refine h' u H' ms g.back ?_ (tk g w1')
          obtain ⟨a, e, rfl⟩ := r1
          refine ⟨a, ?_, rfl⟩
          obtain ⟨t, rfl, _⟩ := g.px
          rw [List.getElem?_append_left (by rw [rw0.len]; exact hn)] at e
          exact e
        · exact h'.elim
      | exc c x => exact (show False from r1).elim
theorem slot_ge {σ : List (Option IV)} {n i : Nat} {v : IV} (h : slot (σ ++ List.replicate n none) i = some v) : ∃ o, σ[i]? = some o ∧ o = some v := by
  unfold slot at h
  by_cases hi : i < σ.length
  · rw [List.getElem?_append_left hi] at h
    cases q : σ[i]? with
    | none => rw [q] at h; cases h
    | some o => rw [q] at h; exact ⟨o, rfl, h⟩
  · rw [List.getElem?_append_right (by omega), List.getElem?_replicate] at h
    split at h <;> cases h
theorem paired_get {α β : Type} {R : α → β → Prop} : ∀ {as : List α} {bs : List β} {i : Nat} {a : α}, Paired R as bs → as[i]? = some a → ∃ b, bs[i]? = some b ∧ R a b
  | [], _, _, _, _, e => by simp at e
  | x :: as, _, 0, a, .cons r _, e => by
    cases (show some x = some a from e)
    exact ⟨_, rfl, r⟩
  | x :: as, _, i + 1, a, .cons _ r, e => paired_get (as := as) (i := i) r e
theorem sim_start {T : Tab} {K : PySem.W.Frag} {ms : List Addr} {H : Hp} {as : List IV} {vs : List V} {w : W} {N : List Str} {ns np : Nat} (ra : RelA T K ms H as vs) (rw' : RelW K ms H w) (h1 : ns = N.length) (h2 : as.length = np) :
    Sim T K ms H (as.map some ++ List.replicate (ns - np) none) (L2.start N vs) w := by
  have hl : as.length = vs.length := ra.len
  refine ⟨?_, fun i v e => ?_, rw'⟩
  · unfold L2.start
    rw [List.length_append, List.length_append, List.length_map, List.length_map, List.length_replicate, List.length_replicate]; omega
  · obtain ⟨o, e1, rfl⟩ := slot_ge e
    rw [List.getElem?_map] at e1
    cases q : as[i]? with
    | none => rw [q] at e1; cases e1
    | some a =>
      rw [q] at e1
      have ea : a = v := Option.some.inj (Option.some.inj e1)
      subst ea
      obtain ⟨b, hb, rb⟩ := paired_get ra q
      refine ⟨b, ?_, rb⟩
      have hi : i < vs.length := (List.getElem?_eq_some_iff.mp hb).1
      unfold L2.start
      rw [List.getElem?_append_left (by rw [List.length_map]; exact hi), List.getElem?_map, hb]
      rfl
section
variable {T : Tab} {c : Cc} {P : Program} {w : World} {K : PySem.W.Frag} {mg : Str → Option Value} {base : Heap} {fs : List Fs} {q : Nat} {G : Nat → Option D}
abbrev prog (fs : List Fs) : List Fn := fs.map Fs.fn
theorem callF_get {d i : Nat} {f : Fs} {as : List IV} {w : W} (h : fs[i]? = some f) : callF (prog fs) q G (d + 1) i as w = runF ⟨callF (prog fs) q G d, q, G⟩ f.fn as w := by
  have e : (prog fs)[i]? = some f.fn := by
    rw [List.getElem?_map, h]; rfl
  show (match (prog fs)[i]? with
    | none => R.no
    | some fn => runF ⟨callF (prog fs) q G d, q, G⟩ fn as w) = _
  rw [e]
theorem fn_step {d : Nat} (hcf : c.fs = fs.map fun f => (f.name, f.ps)) (hc : ∀ (i : Nat) (f : Fs), fs[i]? = some f → f.chk c = true)
    (gl : ∀ j x, c.gl[j]? = some x → ∃ u v d, mg x = some u ∧ RelV v u ∧ G j = some d ∧ ∀ H, Fz K H v d) (bl : ∀ f ∈ c.bs, BltG mg f) (hms : ∀ x ∈ c.ms, mg x = none) (hq : q ≤ 16777216)
    (ih : ∀ (i : Nat) (f : Fs), fs[i]? = some f → FnG T c ⟨callF (prog fs) q G d, q, G⟩ P w K mg base d i f.name f.ps) {i : Nat} {f : Fs} (hf : fs[i]? = some f) {a : Addr} {fd : FuncData} (F : FunD K f.name f.name f.params f.body f.scope [] [] a fd) :
    FnOk P w K mg base (L2.CX P w) (d + 1) a fd f.ps (spI T K f.ps.length (callF (prog fs) q G (d + 1) i)) := by
  obtain ⟨h1, h4⟩ := a2 (show (mB f.fn.body { c with N := f.N, sc := f.scope } f.body && decide (f.fn.ns = f.N.length) && decide (f.fn.np = f.ps.length) && fnScB f.N f.ps f.scope) = true from hc i f hf)
  obtain ⟨h1, h3⟩ := a2 h1
  obtain ⟨h1, h2⟩ := a2 h1
  have h2 := of_decide_eq_true h2
  have h3 := of_decide_eq_true h3
  have sc := fnSc_of h4
  refine F.ok sc (fun vs H Q E h => h.1) fun cdv A outer s H vs Q E hr h => ?_
  obtain ⟨hl, ms, w, as, ra, rw', he⟩ := h
  rw [callF_get hf] at he
  unfold runF at he
  have hal : as.length = f.fn.np := by rw [h3, ra.len, hl]
  rw [if_pos (by simpa using hal)] at he
  refine ⟨tS T K (fun cls d _ H' => E cls d H') (evS ⟨callF (prog fs) q G d, q, G⟩ f.fn.body), ?_, ms, _, w, sim_start ra rw' h2 hal, fin_ok rw' he⟩
  refine (oksS (T := T) (E := ⟨callF (prog fs) q G d, q, G⟩) (k := d) f.fn.body).b { c with N := f.N, sc := f.scope } _ _ f.body ?_ h1
  exact {
    gk := {
      fn := fun j x ps hj => by
        have hj' : c.fs[j]? = some (x, ps) := hj
        rw [hcf, List.getElem?_map] at hj'
        cases q : fs[j]? with
        | none => rw [q] at hj'; cases hj'
        | some g =>
          rw [q] at hj'
          cases hj'
          have z := ih j g q
          exact ⟨z.ar, z.ex⟩
      gl := gl
      bl := bl
      ms := hms
      q := hq }
    calm := rfl
    N := rfl
    nd := sc.nd
    sc := ScR.refl _
    kind := sc.kind
    fn := fun _ _ => rfl
    tk := takes_of rfl rfl rfl rfl
    room := hr
    scE := rfl
    own := passes_of rfl }
theorem tower (hcf : c.fs = fs.map fun f => (f.name, f.ps)) (hc : ∀ (i : Nat) (f : Fs), fs[i]? = some f → f.chk c = true) (hk : ∀ (i : Nat) (f : Fs), fs[i]? = some f → Fk K mg c f i)
    (gl : ∀ j x, c.gl[j]? = some x → ∃ u v d, mg x = some u ∧ RelV v u ∧ G j = some d ∧ ∀ H, Fz K H v d) (bl : ∀ f ∈ c.bs, BltG mg f) (hms : ∀ x ∈ c.ms, mg x = none) (hq : q ≤ 16777216) :
    ∀ (d i : Nat) (f : Fs), fs[i]? = some f → FnG T c ⟨callF (prog fs) q G d, q, G⟩ P w K mg base d i f.name f.ps := by
  intro d
  induction d with
  | zero =>
    intro i f hf
    obtain ⟨a, fd, e1, F, b, kw⟩ := (hk i f hf).ex
    exact ⟨fun us w _ => rfl, a, fd, e1, F.kp, b, ⟨fun vs H Q E h => h.1, fun A outer s H args us vs Q E _ _ _ _ h => by
      obtain ⟨_, ms, w, as, _, _, e⟩ := h
      exact e.elim⟩, kw⟩
  | succ d ih =>
    intro i f hf
    obtain ⟨a, fd, e1, F, b, kw⟩ := (hk i f hf).ex
    refine ⟨fun us w hl => ?_, a, fd, e1, F.kp, b, fn_step hcf hc gl bl hms hq ih hf F, kw⟩
    obtain ⟨h1, h4⟩ := a2 (show (mB f.fn.body { c with N := f.N, sc := f.scope } f.body && decide (f.fn.ns = f.N.length) && decide (f.fn.np = f.ps.length) && fnScB f.N f.ps f.scope) = true from hc i f hf)
    obtain ⟨h1, h3⟩ := a2 h1
    have h3 := of_decide_eq_true h3
    show callF (prog fs) q G (d + 1) i us w = .no
    rw [callF_get hf]
    unfold runF
    rw [if_neg (by rw [h3]; simpa using hl)]
end
end Pv

/-! Part U: what the top leaves, told of a law's defs; the law's end. -/
namespace Pv
open PySem PySem.Spec PyProof.Rows L2 RZ
def noL (o : Obj) : Bool := match o.cls with
  | .type c => !decide (c = "list")
  | _ => true
/-- what stands behind the top, no lists -/
def frV (g : Addr → Option Obj) (as : List Addr) : PySem.W.Frag := (He.frG g as).filter fun q => noL q.2
theorem frV_mem {g : Addr → Option Obj} {as : List Addr} {a : Addr} {o : Obj} (h : (frV g as).lookup a = some o) : g a = some o ∧ noL o = true := by
  obtain ⟨h1, h2⟩ := List.mem_filter.mp (He.lookup_mem h)
  exact ⟨He.frG_mem h1, h2⟩
theorem frV_in {as : List Addr} {h : Heap} : (frV h.get? as).In h := fun _ _ e => (frV_mem e).1
/-- a value that stands there is this data -/
def fzB (K : PySem.W.Frag) : Nat → Value → PyData → Bool
  | 0, _, _ => false
  | _ + 1, .none, .none => true
  | _ + 1, .bool a, .bool b => a == b
  | _ + 1, .int a _, .int b => decide (a = b)
  | _ + 1, .str a _, .str b => decide (a = b)
  | n + 1, .ref a, .tuple ds => (match K.lookup a with
    | some ⟨.type c, _, .seq its _, _⟩ => decide (c = "tuple") && (decide (its.size ≤ sizeLine) && (decide (its.toList.length = ds.length) && (its.toList.zip ds).all fun p => fzB K n p.1 p.2))
    | _ => false)
  | _ + 1, _, _ => false
theorem fzB_all {K : PySem.W.Frag} {n : Nat} (ih : ∀ v d, fzB K n v d = true → ∃ x, RelV x v ∧ ∀ H, Fz K H x d) : ∀ {vs : List Value} {ds : List PyData}, vs.length = ds.length → (vs.zip ds).all (fun p => fzB K n p.1 p.2) = true → ∃ xs, Vals xs vs ∧ ∀ H, FzAll K H xs ds
  | [], [], _, _ => ⟨[], .nil, fun _ => .nil⟩
  | v :: vs, d :: ds, hl, h => by
    rw [List.zip_cons_cons, List.all_cons] at h
    obtain ⟨h1, h2⟩ := a2 h
    obtain ⟨x, r1, f1⟩ := ih v d h1
    obtain ⟨xs, r2, f2⟩ := fzB_all ih (by simpa using hl) h2
    exact ⟨x :: xs, .cons r1 r2, fun H => .cons (f1 H) (f2 H)⟩
  | [], _ :: _, hl, _ => by cases hl
  | _ :: _, [], hl, _ => by cases hl
theorem fzB_ok {K : PySem.W.Frag} : ∀ {n : Nat} {v : Value} {d : PyData}, fzB K n v d = true → ∃ x, RelV x v ∧ ∀ H, Fz K H x d := by
  intro n
  induction n with
  | zero => intro v d h; cases h
  | succ n ih =>
    intro v d h
    unfold fzB at h
    split at h
    · rename_i e; cases e
    · exact ⟨.non, rfl, fun _ => .non⟩
    · have e := eq_of_beq h
      subst e
      exact ⟨.bl _, rfl, fun _ => .bl _⟩
    · have e := of_decide_eq_true h
      subst e
      exact ⟨.int _, ⟨_, rfl⟩, fun _ => .int _⟩
    · have e := of_decide_eq_true h
      subst e
      exact ⟨.str _, ⟨_, rfl⟩, fun _ => .str _⟩
    · rename_i n' a ds e
      cases e
      split at h
      · rename_i c od its m sl hk
        obtain ⟨h1, h2⟩ := a2 h
        obtain ⟨h2, h3⟩ := a2 h2
        obtain ⟨h3, h4⟩ := a2 h3
        obtain ⟨xs, r, f⟩ := fzB_all (fun v d h => ih h) (of_decide_eq_true h3) h4
        exact ⟨.ref a, rfl, fun H => .tup (.inr ⟨_, its, m, hk, congrArg Value.type (of_decide_eq_true h1), rfl, of_decide_eq_true h2, r⟩) (f H)⟩
      · cases h
    · cases h
/-- a law's defs, its data, its built-in functions -/
structure Lw where
  c : Cc
  fs : List Fs
  gd : List (Str × PyData)
  bi : List (Str × String)
def Lw.G (L : Lw) (j : Nat) : Option PyData := (L.gd[j]?).map (·.2)
def Fs.defD (f : Fs) : He.DefD := ⟨(f.name, none), f.name, f.name, f.params, f.body, f.scope, [], []⟩
def Lw.fr (L : Lw) : List Str := L.c.ms ++ ((L.c.bs.filter fun f => decide (f ≠ .gcd ∧ f ≠ .lcm ∧ f ≠ .isqrt)).map B.nm)
def Lw.fa (L : Lw) : List He.Fa := L.fs.map (fun f => .glo f.name) ++ L.fr.map .free
def Lw.fn (L : Lw) : List He.DefD := L.fs.map Fs.defD
def Lw.ex (L : Lw) (K : PySem.W.Frag) : Bool := (L.bi.all fun p => He.eqO (PySem.W.nsIn K mainGlobals p.1) (some (some (.builtin p.2)))) && L.gd.all fun p => match PySem.W.nsIn K mainGlobals p.1 with
  | some (some v) => fzB K 12 v p.2
  | _ => false
abbrev AlV : Type := He.AlD × Bool
def Lw.obs (L : Lw) (n : Nat) (g : Addr → Option Obj) : AlV := (He.obsD L.fa L.fn (frV g (He.asD g n)), L.ex (frV g (He.asD g n)))
def Lw.hook (L : Lw) (n : Nat) : PySem.W.Hook where
  α := AlV
  obs := fun s => L.obs n s.heap.get?
  val := fun _ => (He.valD L.fn, true)
  says := fun _ h => ∃ K : PySem.W.Frag, K.In h ∧ He.SaysD L.fa L.fn K ∧ L.ex K = true ∧ ∀ a o, K.lookup a = some o → noL o = true
  of := fun _ _ e => ⟨_, frV_in, congrArg (fun z : AlV => z.1) e, congrArg (fun z : AlV => z.2) e, fun _ _ h => (frV_mem h).2⟩
  keeps := fun _ _ _ ⟨K, hK, c⟩ k => ⟨K, PySem.W.Frag.In.keeps hK k, c⟩
def Lw.ob (L : Lw) (n : Nat) (s : PySem.W.SharedT) : AlV := L.obs n (HandSHeadRun.getT s)
theorem Lw.ob_eq (L : Lw) (n : Nat) (s : PySem.W.SharedT) : L.ob n s = (L.hook n).obs s.abs := by
  have e : HandSHeadRun.getT s = s.abs.heap.get? := funext (HandSHeadRun.getT_eq s)
  show L.obs n (HandSHeadRun.getT s) = L.obs n s.abs.heap.get?
  rw [e]
/-- what one looks up by hand of a law's text -/
structure Lw.Fine (L : Lw) (li : Nat) : Prop where
  cf : L.c.fs = L.fs.map fun f => (f.name, f.ps)
  ck : ∀ (i : Nat) (f : Fs), L.fs[i]? = some f → f.chk L.c = true
  gl : L.c.gl = L.gd.map (·.1)
  gcd : Pv.B.gcd ∈ L.c.bs → (("gcd" : Str), "math.gcd") ∈ L.bi
  lcm : Pv.B.lcm ∈ L.c.bs → (("lcm" : Str), "math.lcm") ∈ L.bi
  isq : Pv.B.isqrt ∈ L.c.bs → (("isqrt" : Str), "math.isqrt") ∈ L.bi
  law : ∃ f, L.fs[li]? = some f ∧ f.name = "law" ∧ f.ps = [("script" : Str)]
  bn : ∀ (i : Nat) (f : Fs), L.fs[i]? = some f → ∀ (kV doc pm : Value) (an : Option Addr) (cdv ct : Value) (us : List Value), us.length = f.ps.length → bindArgs (PySem.W.fnOf f.name f.name f.params f.body f.scope .none kV doc pm an cdv ct) ⟨us, []⟩ = pure (f.ps.zip us)
  kw : ∀ i n kn perm, (i, n, kn, perm) ∈ L.c.kw → ∀ f, L.fs[i]? = some f → ∀ (kV doc pm : Value) (an : Option Addr) (cdv ct : Value) (us ws us' : List Value), us.length = n → ws.length = kn.length → pickG (us ++ ws) perm = some us' →
    us'.length = f.ps.length ∧ bindArgs (PySem.W.fnOf f.name f.name f.params f.body f.scope .none kV doc pm an cdv ct) ⟨us, kn.zip ws⟩ = pure (f.ps.zip us')
def T0 : Tab := ⟨fun _ => 0⟩
def qq : Nat := 16777216
theorem SqL.noK {K : PySem.W.Frag} {H : Hp} {a : Addr} {xs : List V} (hK : ∀ a o, K.lookup a = some o → noL o = true) (hO : L2.Only H) (h : SqL K H a xs) : FzL K H a xs := by
  rcases h with h | ⟨o, its, n, hk, hc, _⟩
  · rcases h with h | h
    · rcases hO a with z | ⟨o, ys, z⟩
      · rw [h] at z; cases z
      · rw [h] at z; cases z
    · exact h
  · have q := hK a o hk
    unfold noL at q
    rw [hc] at q
    simp at q
theorem ints_fzAll {K : PySem.W.Frag} {H : Hp} : ∀ ns : List Int, FzAll K H (ns.map V.int) (ns.map PyData.int)
  | [] => .nil
  | n :: r => .cons (.int n) (ints_fzAll r)
theorem law_V {l : PySem.W.OpenLaw} {L : Lw} {li k n : Nat} {q : Program} {loose : List Str} {XP : (Str → Option Value) → Heap → Prop} {d : DefRec} (hn : l.most = some 63) (hdf : d.params.defaults = []) (hd : d.name = "law") (hr : Room (k + 1) callerA) (hF : L.Fine li)
    (pure_ : ∀ ns : List Int, ns.length ≤ 63 → (∀ z ∈ ns, Builtin.Int.intBits z ≤ 1048576) → ∃ w', callF (prog L.fs) qq L.G (k + 1) li [.d (.list (ns.map .int))] [] = .ok (.d (.bool true)) w') :
    PySem.W.WalkO q loose XP (L.hook n).says l.row.toRowW d [] (fun f vs => PySem.call f vs) := by
  refine Att.attach_callB hn hdf fun w s₀ s₁ mg mb fa o pm cd doc a vs ns GG Y ho hd' hcd hmg hobj hints hlen hbits hg => ?_
  obtain ⟨K, KX, cs, ce, cl⟩ := Y
  have hns := GG.T.g
  have hk : ∀ (i : Nat) (f : Fs), L.fs[i]? = some f → Fk K mg L.c f i := fun i f hf => by
    have mf : f ∈ L.fs := List.mem_of_getElem? hf
    obtain ⟨fd, F⟩ := cs.defs (d := f.defD) (List.mem_map.mpr ⟨f, mf, rfl⟩)
    have F : FunD K f.name f.name f.params f.body f.scope [] [] (He.ga K f.name) fd := F
    have g := He.glo_ok KX hns (cs.facts (f := .glo f.name) (List.mem_append.mpr (.inl (List.mem_map.mpr ⟨f, mf, rfl⟩))))
    refine ⟨_, fd, g, F, F.bindsN (hF.bn i f hf), fun n kn perm hm s us ws us' h1 h2 h3 => ?_⟩
    obtain ⟨oc, od, dV, kV, doc, pm, an, cdv, ct, osl, rfl, lk, hcd, hD, hK⟩ := F.ex
    rcases hD with ⟨_, rfl⟩ | ⟨e, _⟩
    · obtain ⟨q1, q2⟩ := hF.kw i n kn perm hm f hf kV doc pm an cdv ct us ws us' h1 h2 h3
      exact ⟨q1, .of_eq q2⟩
    · exact absurd rfl e
  obtain ⟨ce1, ce2⟩ := a2 (show (_ && _) = true from ce)
  have free : ∀ x ∈ L.fr, mg x = none := fun x hx => He.free_ok KX hns (cs.facts (f := .free x) (List.mem_append.mpr (.inr (List.mem_map.mpr ⟨x, hx, rfl⟩))))
  have biok : ∀ x id, (x, id) ∈ L.bi → mg x = some (.builtin id) := fun x id hx => by
    have := He.eqO_ok (List.all_eq_true.mp ce1 _ hx)
    exact PySem.W.mg_of KX hns this
  have bl : ∀ f ∈ L.c.bs, BltG mg f := fun f hf => by
    have fr : (f ≠ .gcd ∧ f ≠ .lcm ∧ f ≠ .isqrt) → mg f.nm = none := fun h => free _ (List.mem_append.mpr (.inr (List.mem_map.mpr ⟨f, List.mem_filter.mpr ⟨hf, decide_eq_true h⟩, rfl⟩)))
    cases f with
    | gcd => exact biok _ _ (hF.gcd hf)
    | lcm => exact biok _ _ (hF.lcm hf)
    | isqrt => exact biok _ _ (hF.isq hf)
    | _ => exact fr (by decide)
  have gl : ∀ j x, L.c.gl[j]? = some x → ∃ u v d, mg x = some u ∧ RelV v u ∧ L.G j = some d ∧ ∀ H, Fz K H v d := fun j x hj => by
    rw [hF.gl, List.getElem?_map] at hj
    cases q : L.gd[j]? with
    | none => rw [q] at hj; cases hj
    | some p =>
      rw [q] at hj
      have ex : p.1 = x := Option.some.inj hj
      have h1 := List.all_eq_true.mp ce2 p (List.mem_of_getElem? q)
      split at h1
      · rename_i v hv
        obtain ⟨y, r, f⟩ := fzB_ok h1
        refine ⟨v, y, p.2, ?_, r, ?_, f⟩
        · rw [← ex]
          exact PySem.W.mg_of KX hns hv
        · unfold Lw.G
          rw [q]; rfl
      · cases h1
  obtain ⟨f, hf, e1, e2⟩ := hF.law
  obtain ⟨a0, fd, g0, F0, _, _⟩ := (hk li f hf).ex
  have ea : a0 = fa := by
    have : mg "law" = some (.ref fa) := by rw [← hd]; exact hmg
    rw [e1, this] at g0
    cases g0
    rfl
  subst ea
  have hm : ∀ x ∈ L.c.ms, mg x = none := fun x hx => free x (List.mem_append.mpr (.inl hx))
  have go := fun base => fn_step (T := T0) (c := L.c) (P := l.prog) (w := w) (K := K) (mg := mg) (base := base) (q := qq) (G := L.G) hF.cf hF.ck gl bl hm (Nat.le_refl _) (tower (T := T0) (c := L.c) (P := l.prog) (w := w) (K := K) (mg := mg) (base := base) (q := qq) (G := L.G) hF.cf hF.ck hk gl bl hm (Nat.le_refl _) k) hf F0
  rw [e2] at go
  refine law_call (CX := L2.CX l.prog w) (sp := spI T0 K 1 (callF (prog L.fs) qq L.G (k + 1) li)) (fd := fd) (x := "script") (k := k + 1) KX hns GG.T.b GG.T.builtins GG.T.nolimit hg hobj hints (Nat.le_trans hlen (by decide)) hr (fun base _ _ => go base) (fun s u => ?_) (fun H hO hS => ?_) fun H e s' h => ?_
  · have := F0.bindsA (hF.bn li f hf) s [u] (by rw [e2]; rfl)
    rw [e2] at this
    exact this
  · have hz := SqL.noK cl hO hS
    obtain ⟨w', hw⟩ := pure_ ns hlen hbits
    refine ⟨rfl, [], [], [.d (.list (ns.map .int))], .cons (show Fz _ _ _ _ from .lst hz (ints_fzAll ns)) .nil, ⟨rfl, List.nodup_nil, fun n c a h => by simp at h⟩, ?_⟩
    rw [hw]
    intro v H' ms' _ r _
    cases (show Fz _ _ _ _ from r)
    rfl
  · obtain ⟨_, _, _, _, _, _, _, _, _, _, _, _, h⟩ := h
    exact h
end Pv

/-! Part V: what the small machine gives, by conditions. -/
namespace Pv
open PySem
def Ret {α : Type} (Q : α → W → Prop) (X : Nat → D → W → Prop) : R α → Prop
  | .ok a w => Q a w
  | .exc c x w => X c x w
  | .no => False
def RetS (K : Fl → W → Prop) : RS → Prop
  | .mk f w => K f w
  | .no => False
def OptP {α : Type} : Option α → (α → Prop) → Prop
  | some a, p => p a
  | none, _ => False
def BoolP : IV → (Bool → Prop) → Prop
  | .d (.bool b), p => p b
  | _, _ => False
def DatP : IV → (D → Prop) → Prop
  | .d x, p => p x
  | _, _ => False
def IntP : D → (Int → Prop) → Prop
  | .int i, p => p i
  | _, _ => False
def RefP : IV → (Nat → Prop) → Prop
  | .ref n, p => p n
  | _, _ => False
def CelP : Option Cell → (List D → Prop) → Prop
  | some (.lst xs), p => p xs
  | _, _ => False
/-- the flow goes on at k, or ends by K -/
def sq (k : Sl → W → Prop) (K : Fl → W → Prop) : Fl → W → Prop
  | .next σ, w => k σ w
  | f, w => K f w
def finK (n : Nat) (Q : IV → W → Prop) (X : Nat → D → W → Prop) : Fl → W → Prop
  | .ret v, w => (match v with
    | .ref k => k < n ∧ Q v (w.take n)
    | _ => Q v (w.take n))
  | .next _, w => Q (.d .none) (w.take n)
  | .exc c x _, w => X c x (w.take n)
  | _, _ => False
section
variable {α β : Type} {Q : α → W → Prop} {X : Nat → D → W → Prop} {K : Fl → W → Prop} {E : En} {σ : Sl} {w : W}
@[simp] theorem Ret_ok {a : α} : Ret Q X (.ok a w) = Q a w := rfl
@[simp] theorem Ret_no : Ret Q X (.no : R α) = False := rfl
@[simp] theorem Ret_exc {c : Nat} {x : D} : Ret Q X (.exc c x w : R α) = X c x w := rfl
@[simp] theorem Ret_bind {r : R β} {f : β → W → R α} : Ret Q X (r.bind f) = Ret (fun a w => Ret Q X (f a w)) X r := by cases r <;> rfl
theorem Ret.mono {Q' : α → W → Prop} {X' : Nat → D → W → Prop} {r : R α} (h : Ret Q X r) (q : ∀ a w, Q a w → Q' a w) (x : ∀ c d w, X c d w → X' c d w) : Ret Q' X' r := by
  cases r with
  | ok a w => exact q a w h
  | exc c d w => exact x c d w h
  | no => exact h
theorem Ret.imp {Q' : α → W → Prop} {r : R α} (h : Ret Q X r) (q : ∀ a w, Q a w → Q' a w) : Ret Q' X r := h.mono q fun _ _ _ h => h
@[simp] theorem OptP_some {a : α} {p : α → Prop} : OptP (some a) p = p a := rfl
@[simp] theorem OptP_none {p : α → Prop} : OptP none p = False := rfl
@[simp] theorem OptP_map {f : β → α} {o : Option β} {p : α → Prop} : OptP (o.map f) p = OptP o fun b => p (f b) := by cases o <;> rfl
@[simp] theorem OptP_bind {f : β → Option α} {o : Option β} {p : α → Prop} : OptP (o.bind f) p = OptP o fun b => OptP (f b) p := by cases o <;> rfl
@[simp] theorem OptP_if {c : Prop} [Decidable c] {a b : Option α} {p : α → Prop} : OptP (if c then a else b) p = if c then OptP a p else OptP b p := by by_cases h : c <;> simp [h]
@[simp] theorem Ret_ofO {o : Option α} : Ret Q X (ofO o w) = OptP o fun a => Q a w := by cases o <;> rfl
@[simp] theorem Ret_if {c : Prop} [Decidable c] {a b : R α} : Ret Q X (if c then a else b) = if c then Ret Q X a else Ret Q X b := by by_cases h : c <;> simp [h]
@[simp] theorem BoolP_b {b : Bool} {p : Bool → Prop} : BoolP (.d (.bool b)) p = p b := rfl
@[simp] theorem IntP_i {i : Int} {p : Int → Prop} : IntP (.int i) p = p i := rfl
@[simp] theorem RefP_r {n : Nat} {p : Nat → Prop} : RefP (.ref n) p = p n := rfl
@[simp] theorem CelP_l {xs : List D} {p : List D → Prop} : CelP (some (.lst xs)) p = p xs := rfl
@[simp] theorem DatP_d {x : D} {p : D → Prop} : DatP (.d x) p = p x := rfl
@[simp] theorem Ret_tst {r : R IV} {f : Bool → W → R α} : Ret Q X (tst r f) = Ret (fun v w => BoolP v fun b => Ret Q X (f b w)) X r := by
  unfold tst
  rw [Ret_bind]
  congr 1
  funext v w
  cases v with
  | d x => cases x <;> rfl
  | _ => rfl
end
section
variable {Q : IV → W → Prop} {X : Nat → D → W → Prop} {K : Fl → W → Prop} {E : En} {σ : Sl} {w : W} {a b c e : Ex} {s r : St}
@[simp] theorem ev_var {i : Nat} : ev E (.var i) σ w = ofO (slot σ i) w := rfl
@[simp] theorem ev_frz {i : Nat} : ev E (.frz i) σ w = (ofO (slot σ i) w).bind fun v w => frzW w v := rfl
@[simp] theorem ev_cst {x : D} : ev E (.cst x) σ w = .ok (.d x) w := rfl
@[simp] theorem ev_dct : ev E .dct σ w = .ok (.d (.dict [])) w := rfl
@[simp] theorem ev_glob {j : Nat} : ev E (.glob j) σ w = ofO ((E.G j).map IV.d) w := rfl
@[simp] theorem ev_new : ev E (.new a) σ w = (ev E a σ w).bind fun v w1 => newW w1 v := rfl
@[simp] theorem evA_nil : evA E .nil σ w = .ok [] w := rfl
@[simp] theorem evA_cons : evA E (.cons a b) σ w = (ev E a σ w).bind fun v w1 => (evA E b σ w1).bind fun vs w2 => .ok (v :: vs) w2 := rfl
@[simp] theorem ev_neg : Ret Q X (ev E (.neg a) σ w) = Ret (fun v w1 => DatP v fun x => match x with
    | .int i => Q (.d (.int (-i))) w1
    | _ => False) X (ev E a σ w) := by
  show Ret Q X ((ev E a σ w).bind _) = _
  rw [Ret_bind]
  congr 1
  funext v w1
  cases v with
  | d x => cases x <;> rfl
  | _ => rfl
@[simp] theorem ev_not : ev E (.not a) σ w = tst (ev E a σ w) fun b w1 => .ok (.d (.bool (!b))) w1 := rfl
@[simp] theorem ev_and : ev E (.and a b) σ w = tst (ev E a σ w) fun c w1 => if c then ev E b σ w1 else .ok (.d (.bool false)) w1 := rfl
@[simp] theorem ev_or : ev E (.or a b) σ w = tst (ev E a σ w) fun c w1 => if c then .ok (.d (.bool true)) w1 else ev E b σ w1 := rfl
@[simp] theorem ev_ite : ev E (.ite c a b) σ w = tst (ev E c σ w) fun k w1 => if k then ev E a σ w1 else ev E b σ w1 := rfl
@[simp] theorem ev_call {f : Nat} : ev E (.call f a) σ w = (evA E a σ w).bind fun vs w1 => E.Φ f vs w1 := rfl
@[simp] theorem ev_callk {f : Nat} {p : List Nat} : ev E (.callk f a b p) σ w = (evA E a σ w).bind fun vs w1 => (evA E b σ w1).bind fun zs w2 => match pick (vs ++ zs) p with
    | some us => E.Φ f us w2
    | none => .no := rfl
@[simp] theorem ev_isi {ts : List T} : ev E (.isi a ts) σ w = (ev E a σ w).bind fun v w1 => ofO ((isiV w1 ts v).map fun k => .d (.bool k)) w1 := rfl
@[simp] theorem Ret_bin {o : Operator} : Ret Q X (ev E (.bin o a b) σ w) = Ret (fun u w1 => Ret (fun v w2 => OptP (rd w2 u) fun x => OptP (rd w2 v) fun y => OptP (binD o x y) fun z => Q (.d z) w2) X (ev E b σ w1)) X (ev E a σ w) := by
  show Ret Q X ((ev E a σ w).bind _) = _
  rw [Ret_bind]
  congr 1
  funext u w1
  rw [Ret_bind]
  congr 1
  funext v w2
  cases rd w2 u with
  | none => rfl
  | some x => cases rd w2 v with
    | none => rfl
    | some y => simp
@[simp] theorem Ret_sub : Ret Q X (ev E (.sub a b) σ w) = Ret (fun u w1 => Ret (fun v w2 => OptP (rd w2 u) fun x => OptP (rd w2 v) fun y => OptP (subD x y) fun z => Q (.d z) w2) X (ev E b σ w1)) X (ev E a σ w) := by
  show Ret Q X ((ev E a σ w).bind _) = _
  rw [Ret_bind]
  congr 1
  funext u w1
  rw [Ret_bind]
  congr 1
  funext v w2
  cases rd w2 u with
  | none => rfl
  | some x => cases rd w2 v with
    | none => rfl
    | some y => simp
@[simp] theorem Ret_cmp {o : CmpOp} : Ret Q X (ev E (.cmp o a b) σ w) = Ret (fun u w1 => Ret (fun v w2 => OptP (cmpV o w2 u v) fun k => Q (.d (.bool k)) w2) X (ev E b σ w1)) X (ev E a σ w) := by
  show Ret Q X ((ev E a σ w).bind _) = _
  rw [Ret_bind]
  congr 1
  funext u w1
  rw [Ret_bind]
  congr 1
  funext v w2
  simp
@[simp] theorem Ret_blt {f : B} : Ret Q X (ev E (.blt f a) σ w) = Ret (fun vs w1 => OptP (rdAll w1 vs) fun xs => OptP (bltD f xs) fun z => Q (.d z) w1) X (evA E a σ w) := by
  show Ret Q X ((evA E a σ w).bind _) = _
  rw [Ret_bind]
  congr 1
  funext vs w1
  cases rdAll w1 vs with
  | none => rfl
  | some xs => simp
@[simp] theorem Ret_tup : Ret Q X (ev E (.tup a) σ w) = Ret (fun vs w1 => OptP (purs vs) fun xs => okL xs.length = true ∧ Q (.d (.tuple xs)) w1) X (evA E a σ w) := by
  show Ret Q X ((evA E a σ w).bind _) = _
  rw [Ret_bind]
  congr 1
  funext vs w1
  cases purs vs with
  | none => rfl
  | some xs => by_cases h : okL xs.length = true <;> simp [h]
@[simp] theorem Ret_lst : Ret Q X (ev E (.lst a) σ w) = Ret (fun vs w1 => OptP (purs vs) fun xs => okL xs.length = true ∧ Q (.d (.list xs)) w1) X (evA E a σ w) := by
  show Ret Q X ((evA E a σ w).bind _) = _
  rw [Ret_bind]
  congr 1
  funext vs w1
  cases purs vs with
  | none => rfl
  | some xs => by_cases h : okL xs.length = true <;> simp [h]
@[simp] theorem evP_nil : evP E .nil σ w = .ok none w := rfl
@[simp] theorem Ret_evP {Q : Option Int → W → Prop} : Ret Q X (evP E (.cons a b) σ w) = Ret (fun v w1 => DatP v fun x => match x with
    | .int i => Q (some i) w1
    | _ => False) X (ev E a σ w) := by
  show Ret Q X ((ev E a σ w).bind _) = _
  rw [Ret_bind]
  congr 1
  funext v w1
  cases v with
  | d x => cases x <;> rfl
  | _ => rfl
@[simp] theorem Ret_sl : Ret Q X (ev E (.sl a b c) σ w) = Ret (fun u w1 => Ret (fun l w2 => Ret (fun h w3 => OptP (rd w3 u) fun x => OptP (slD x l h) fun z => Q (.d z) w3) X (evP E c σ w2)) X (evP E b σ w1)) X (ev E a σ w) := by
  show Ret Q X ((ev E a σ w).bind _) = _
  rw [Ret_bind]
  congr 1
  funext u w1
  rw [Ret_bind]
  congr 1
  funext l w2
  rw [Ret_bind]
  congr 1
  funext h w3
  cases rd w3 u with
  | none => rfl
  | some x => simp
@[simp] theorem Ret_mth {m : M} : Ret Q X (ev E (.mth m a b) σ w) = Ret (fun u w1 => isLst (rd w1 u) = true ∧ Ret (fun vs w2 => OptP (purs vs) fun xs => Ret Q X (mthW m u xs w2)) X (evA E b σ w1)) X (ev E a σ w) := by
  show Ret Q X ((ev E a σ w).bind _) = _
  rw [Ret_bind]
  congr 1
  funext u w1
  by_cases h : isLst (rd w1 u) = true
  · simp only [h, if_true, Ret_bind, true_and]
    congr 1
    funext vs w2
    cases purs vs <;> rfl
  · simp [h]
theorem Ret_chain {o o' : CmpOp} : Ret Q X (ev E (.chain o o' a b c) σ w) = Ret (fun u w1 => Ret (fun v w2 => OptP (cmpV o w2 u v) fun k => if k = true then Ret (fun z w3 => OptP (cmpV o' w3 v z) fun k => Q (.d (.bool k)) w3) X (ev E c σ w2) else Q (.d (.bool false)) w2) X (ev E b σ w1)) X (ev E a σ w) := by
  show Ret Q X ((ev E a σ w).bind _) = _
  rw [Ret_bind]
  congr 1
  funext u w1
  rw [Ret_bind]
  congr 1
  funext v w2
  rw [Ret_bind, Ret_ofO]
  cases cmpV o w2 u v with
  | none => rfl
  | some k =>
    simp only [OptP_some, Ret_if, Ret_ok, Ret_bind, Ret_ofO, OptP_map]
/-! statements -/
@[simp] theorem RetS_mk {f : Fl} : RetS K (.mk f w) = K f w := rfl
@[simp] theorem RetS_no : RetS K .no = False := rfl
@[simp] theorem RetS_onE {α : Type} {r : R α} {f : α → W → RS} : RetS K (onE r σ f) = Ret (fun a w => RetS K (f a w)) (fun c x w => K (.exc c x σ) w) r := by cases r <;> rfl
@[simp] theorem RetS_if {c : Prop} [Decidable c] {a b : RS} : RetS K (if c then a else b) = if c then RetS K a else RetS K b := by by_cases h : c <;> simp [h]
@[simp] theorem RetS_ofS {o : Option Sl} : RetS K (ofS o w) = OptP o fun σ => K (.next σ) w := by cases o <;> rfl
theorem RetS.mono {K' : Fl → W → Prop} {r : RS} (h : RetS K r) (q : ∀ f w, K f w → K' f w) : RetS K' r := by
  cases r with
  | mk f w => exact q f w h
  | no => exact h
@[simp] theorem sq_next {k : Sl → W → Prop} : sq k K (.next σ) w = k σ w := rfl
@[simp] theorem sq_ret {k : Sl → W → Prop} {v : IV} : sq k K (.ret v) w = K (.ret v) w := rfl
@[simp] theorem sq_brk {k : Sl → W → Prop} : sq k K (.brk σ) w = K (.brk σ) w := rfl
@[simp] theorem sq_cnt {k : Sl → W → Prop} : sq k K (.cnt σ) w = K (.cnt σ) w := rfl
@[simp] theorem sq_exc {k : Sl → W → Prop} {c : Nat} {x : D} : sq k K (.exc c x σ) w = K (.exc c x σ) w := rfl
@[simp] theorem evS_nil : evS E .nil σ w = .mk (.next σ) w := rfl
@[simp] theorem RetS_cons : RetS K (evS E (.cons s r) σ w) = RetS (sq (fun σ w => RetS K (evS E r σ w)) K) (evS E s σ w) := by
  show RetS K (match evS E s σ w with
    | .mk (.next σ1) w1 => evS E r σ1 w1
    | o => o) = _
  cases evS E s σ w with
  | no => rfl
  | mk f w => cases f <;> rfl
@[simp] theorem evS_stuck : evS E .stuck σ w = .no := rfl
@[simp] theorem evS_pass : evS E .pass σ w = .mk (.next σ) w := rfl
@[simp] theorem evS_brk : evS E .brk σ w = .mk (.brk σ) w := rfl
@[simp] theorem evS_cnt : evS E .cnt σ w = .mk (.cnt σ) w := rfl
@[simp] theorem evS_expr : evS E (.expr e) σ w = onE (ev E e σ w) σ fun _ w1 => .mk (.next σ) w1 := rfl
@[simp] theorem evS_ret : evS E (.ret e) σ w = onE (ev E e σ w) σ fun v w1 => .mk (.ret v) w1 := rfl
@[simp] theorem evS_retN : evS E .retN σ w = .mk (.ret (.d .none)) w := rfl
@[simp] theorem evS_asgN {i : Nat} : evS E (.asg (.nm i) e) σ w = onE (ev E e σ w) σ fun v w1 => .mk (.next (σ.set i (some v))) w1 := rfl
@[simp] theorem RetS_asgT {ts : Tg} : RetS K (evS E (.asg (.tup ts) e) σ w) = Ret (fun v w1 => DatP v fun x => OptP (asgT (.tup ts) x σ) fun σ1 => K (.next σ1) w1) (fun c x w => K (.exc c x σ) w) (ev E e σ w) := by
  show RetS K (onE (ev E e σ w) σ _) = _
  rw [RetS_onE]
  congr 1
  funext v w1
  cases v with
  | d x => exact RetS_ofS
  | _ => rfl
@[simp] theorem evS_par {is : List Nat} : evS E (.par is e) σ w = onE (evA E e σ w) σ fun vs w1 => ofS (setAll is vs σ) w1 := rfl
@[simp] theorem RetS_ifs : RetS K (evS E (.ifs e s r) σ w) = Ret (fun v w => BoolP v fun k => if k = true then RetS K (evS E s σ w) else RetS K (evS E r σ w)) (fun c x w => K (.exc c x σ) w) (ev E e σ w) := by
  show RetS K (onE (tst (ev E e σ w) fun k w => .ok k w) σ fun k w1 => if k then evS E s σ w1 else evS E r σ w1) = _
  rw [RetS_onE, Ret_tst]
  congr 1
  funext v w
  congr 1
  funext k
  simp
@[simp] theorem RetS_stix : RetS K (evS E (.stix a b c) σ w) = Ret (fun v w1 => Ret (fun u w2 => Ret (fun i w3 => RefP u fun n => DatP i fun ix => DatP v fun x => CelP w3[n]? fun xs => OptP (stL xs ix x) fun ys => K (.next σ) (w3.set n (.lst ys)))
    (fun c x w => K (.exc c x σ) w) (ev E b σ w2)) (fun c x w => K (.exc c x σ) w) (ev E a σ w1)) (fun c x w => K (.exc c x σ) w) (ev E c σ w) := by
  show RetS K (onE (ev E c σ w) σ _) = _
  rw [RetS_onE]
  congr 1
  funext v w1
  rw [RetS_onE]
  congr 1
  funext u w2
  rw [RetS_onE]
  congr 1
  funext i w3
  cases u with
  | ref n =>
    cases i with
    | d ix =>
      cases v with
      | d x =>
        show RetS K (match w3[n]? with
          | some (.lst xs) => (match stL xs ix x with
            | some ys => .mk (.next σ) (w3.set n (.lst ys))
            | none => .no)
          | _ => .no) = CelP w3[n]? _
        cases w3[n]? with
        | none => rfl
        | some q =>
          cases q with
          | lst xs =>
            show RetS K (match stL xs ix x with
              | some ys => .mk (.next σ) (w3.set n (.lst ys))
              | none => .no) = OptP (stL xs ix x) _
            cases stL xs ix x <;> rfl
          | _ => rfl
      | _ => rfl
    | _ => rfl
  | _ => rfl
@[simp] theorem RetS_auix : RetS K (evS E (.auix .Add a b c) σ w) = Ret (fun u w1 => Ret (fun i w2 => RefP u fun n => DatP i fun ix => OptP (rdC w2[n]?) fun x => OptP (subD x ix) fun old => Ret (fun v w3 => DatP v fun x => IntP old fun a => IntP x fun b => CelP w3[n]? fun xs => OptP (stL xs ix (.int (a + b))) fun ys => K (.next σ) (w3.set n (.lst ys)))
    (fun c x w => K (.exc c x σ) w) (ev E c σ w2)) (fun c x w => K (.exc c x σ) w) (ev E b σ w1)) (fun c x w => K (.exc c x σ) w) (ev E a σ w) := by
  show RetS K (onE (ev E a σ w) σ _) = _
  rw [RetS_onE]
  congr 1
  funext u w1
  rw [RetS_onE]
  congr 1
  funext i w2
  cases u with
  | ref n =>
    cases i with
    | d ix =>
      show RetS K (match (rdC w2[n]?).bind fun x => subD x ix with
        | some old => _
        | none => .no) = OptP (rdC w2[n]?) _
      cases rdC w2[n]? with
      | none => rfl
      | some x =>
        show RetS K (match subD x ix with
          | some old => _
          | none => .no) = OptP (subD x ix) _
        cases subD x ix with
        | none => rfl
        | some old =>
          show RetS K (onE (ev E c σ w2) σ _) = _
          rw [RetS_onE]
          show Ret _ _ _ = Ret _ _ _
          congr 1
          funext v w3
          cases v with
          | d y =>
            cases old with
            | int i =>
              cases y with
              | int j =>
                show RetS K (match Operator.Add, PyData.int i, PyData.int j, w3[n]? with
                  | .Add, .int a, .int b, some (.lst xs) => (match stL xs ix (.int (a + b)) with
                    | some ys => .mk (.next σ) (w3.set n (.lst ys))
                    | none => .no)
                  | _, _, _, _ => .no) = CelP w3[n]? _
                cases w3[n]? with
                | none => rfl
                | some q =>
                  cases q with
                  | lst xs =>
                    show RetS K (match stL xs ix (.int (i + j)) with
                      | some ys => .mk (.next σ) (w3.set n (.lst ys))
                      | none => .no) = OptP (stL xs ix (.int (i + j))) _
                    cases stL xs ix (.int (i + j)) <;> rfl
                  | _ => rfl
              | _ => rfl
            | _ => rfl
          | _ => rfl
    | _ => rfl
  | _ => rfl
@[simp] theorem Ret_fin {n : Nat} {rs : RS} : Ret Q X (fin n rs) = RetS (finK n Q X) rs := by
  cases rs with
  | no => rfl
  | mk f w =>
    cases f with
    | ret v =>
      cases v with
      | ref k =>
        show Ret Q X (if k < n then .ok (.ref k) (w.take n) else .no) = (k < n ∧ Q (.ref k) (w.take n))
        by_cases h : k < n <;> simp [h]
      | _ => rfl
    | _ => rfl
@[simp] theorem finK_d {n : Nat} {x : D} : finK n Q X (.ret (.d x)) w = Q (.d x) (w.take n) := rfl
@[simp] theorem finK_next {n : Nat} : finK n Q X (.next σ) w = Q (.d .none) (w.take n) := rfl
@[simp] theorem finK_brk {n : Nat} : finK n Q X (.brk σ) w = False := rfl
@[simp] theorem finK_cnt {n : Nat} : finK n Q X (.cnt σ) w = False := rfl
@[simp] theorem finK_exc {n c : Nat} {x : D} : finK n Q X (.exc c x σ) w = X c x (w.take n) := rfl
end
end Pv

/-! Part W: loops, comprehensions, data, by conditions. -/
namespace Pv
open PySem
section
variable {Q : IV → W → Prop} {X : Nat → D → W → Prop} {K : Fl → W → Prop} {E : En} {σ : Sl} {w : W} {a b c e it : Ex} {s r : St} {t : Tg}
/-! what is walked -/
@[simp] theorem Ret_seq {Q : It → W → Prop} : Ret Q X (evI E (.seq a) σ w) = Ret (fun v w1 => OptP (toIt w1 v) fun J => Q J w1) X (ev E a σ w) := by
  show Ret Q X ((ev E a σ w).bind _) = _
  rw [Ret_bind]
  congr 1
  funext v w1
  exact Ret_ofO
@[simp] theorem Ret_rng {Q : It → W → Prop} : Ret Q X (evI E (.rng a) σ w) = Ret (fun vs w1 => OptP (purs vs) fun xs => OptP (rngD xs) fun ys => Q (.dat ys) w1) X (evA E a σ w) := by
  show Ret Q X ((evA E a σ w).bind _) = _
  rw [Ret_bind]
  congr 1
  funext vs w1
  cases purs vs with
  | none => rfl
  | some xs => simp
@[simp] theorem Ret_enm {Q : It → W → Prop} : Ret Q X (evI E (.enm a) σ w) = Ret (fun v w1 => DatP v fun x => OptP (itemsD x) fun ys => Q (.dat (enumD 0 ys)) w1) X (ev E a σ w) := by
  show Ret Q X ((ev E a σ w).bind _) = _
  rw [Ret_bind]
  congr 1
  funext v w1
  cases v with
  | d x => simp
  | _ => rfl
def ZipP : IV → IV → (List D → Prop) → Prop
  | .d (.tuple xs), .d (.tuple ys), p => p (zipD xs ys)
  | .d (.list xs), .d (.list ys), p => p (zipD xs ys)
  | _, _, _ => False
@[simp] theorem ZipP_t {xs ys : List D} {p : List D → Prop} : ZipP (.d (.tuple xs)) (.d (.tuple ys)) p = p (zipD xs ys) := rfl
@[simp] theorem ZipP_l {xs ys : List D} {p : List D → Prop} : ZipP (.d (.list xs)) (.d (.list ys)) p = p (zipD xs ys) := rfl
@[simp] theorem Ret_zp {Q : It → W → Prop} : Ret Q X (evI E (.zp a b) σ w) = Ret (fun u w1 => Ret (fun v w2 => ZipP u v fun zs => Q (.dat zs) w2) X (ev E b σ w1)) X (ev E a σ w) := by
  show Ret Q X ((ev E a σ w).bind _) = _
  rw [Ret_bind]
  congr 1
  funext u w1
  rw [Ret_bind]
  congr 1
  funext v w2
  cases u with
  | d x =>
    cases v with
    | d y => cases x <;> cases y <;> rfl
    | _ => cases x <;> rfl
  | _ => rfl
/-! comprehensions -/
theorem Ret_elT {fc fe : Sl → W → R IV} {x : D} {Q : Option D → W → Prop} : Ret Q X (elF true t fc fe σ x w) = OptP (asgT t x σ) fun σ1 => Ret (fun v w1 => DatP v fun y => Q (some y) w1) X (fe σ1 w) := by
  unfold elF
  cases asgT t x σ with
  | none => rfl
  | some σ1 =>
    show Ret Q X ((fe σ1 w).bind _) = _
    rw [Ret_bind, OptP_some]
    congr 1
    funext v w1
    cases v <;> rfl
theorem Ret_elF {fc fe : Sl → W → R IV} {x : D} {Q : Option D → W → Prop} : Ret Q X (elF false t fc fe σ x w) = OptP (asgT t x σ) fun σ1 => Ret (fun v w1 => BoolP v fun b => if b = true then Ret (fun v w2 => DatP v fun y => Q (some y) w2) X (fe σ1 w1) else Q none w1) X (fc σ1 w) := by
  unfold elF
  cases asgT t x σ with
  | none => rfl
  | some σ1 =>
    show Ret Q X (tst (fc σ1 w) _) = _
    rw [Ret_tst, OptP_some]
    congr 1
    funext v w1
    congr 1
    funext b
    rw [Ret_if]
    cases b with
    | false => rfl
    | true =>
      rw [if_pos rfl, if_pos rfl, Ret_bind]
      congr 1
      funext v w2
      cases v <;> rfl
def compP (E : En) (own : List Nat) (e : Ex) (t : Tg) (c : Ex) (σ : Sl) (Q : List D → W → Prop) (X : Nat → D → W → Prop) : It → W → Prop
  | .dat xs, w => okL xs.length = true ∧ Ret Q X (compL (elF (isNil c) t (ev E c) (ev E e) (wip σ own)) xs w)
  | .cel n, w => Ret Q X (compC (elF (isNil c) t (ev E c) (ev E e) (wip σ own)) n E.q 0 w)
@[simp] theorem compP_dat {own : List Nat} {Q : List D → W → Prop} {xs : List D} : compP E own e t c σ Q X (.dat xs) w = (okL xs.length = true ∧ Ret Q X (compL (elF (isNil c) t (ev E c) (ev E e) (wip σ own)) xs w)) := rfl
@[simp] theorem compP_cel {own : List Nat} {Q : List D → W → Prop} {n : Nat} : compP E own e t c σ Q X (.cel n) w = Ret Q X (compC (elF (isNil c) t (ev E c) (ev E e) (wip σ own)) n E.q 0 w) := rfl
@[simp] theorem Ret_comp {own : List Nat} : Ret Q X (ev E (.comp own e t it c) σ w) = Ret (fun J w1 => compP E own e t c σ (fun ys w2 => Q (.d (.list ys)) w2) X J w1) X (evI E it σ w) := by
  show Ret Q X ((evI E it σ w).bind fun J w1 => (match J with
        | .dat xs => if okL xs.length then compL (elF (isNil c) t (ev E c) (ev E e) (wip σ own)) xs w1 else .no
        | .cel n => compC (elF (isNil c) t (ev E c) (ev E e) (wip σ own)) n E.q 0 w1).bind fun ys w2 => .ok (.d (.list ys)) w2) = _
  rw [Ret_bind]
  congr 1
  funext J w1
  rw [Ret_bind]
  cases J with
  | dat xs =>
    show Ret _ X (if okL xs.length then _ else .no) = _
    by_cases h : okL xs.length = true
    · rw [if_pos h, compP_dat]; simp [h]
    · rw [if_neg h, compP_dat]; simp [h]
  | cel n => rfl
theorem compL_inv {f : D → W → R (Option D)} {xs : List D} {Q : List D → W → Prop} (I : Nat → List D → W → Prop) (h0 : I 0 [] w)
    (hs : ∀ k x ys w, xs[k]? = some x → I k ys w → Ret (fun o w' => I (k + 1) (ys ++ o.toList) w') (fun _ _ _ => False) (f x w)) (hd : ∀ ys w, I xs.length ys w → Q ys w) : Ret Q X (compL f xs w) := by
  have gen : ∀ (zs : List D) (k : Nat) (acc : List D) (w : W), k + zs.length = xs.length → (∀ j, zs[j]? = xs[k + j]?) → I k acc w → Ret (fun ys w' => Q (acc ++ ys) w') X (compL f zs w) := by
    intro zs
    induction zs with
    | nil =>
      intro k acc w hl _ hi
      rw [List.length_nil, Nat.add_zero] at hl
      subst hl
      show Q (acc ++ []) w
      rw [List.append_nil]
      exact hd _ _ hi
    | cons z zs ih =>
      intro k acc w hl hx hi
      have hz : xs[k]? = some z := by rw [show k = k + 0 from rfl, ← hx 0]; rfl
      have h1 := hs k z acc w hz hi
      show Ret _ X (match f z w with
        | .ok o w1 => (compL f zs w1).bind fun ys w2 => .ok (o.toList ++ ys) w2
        | _ => .no)
      cases hf : f z w with
      | no => rw [hf] at h1; exact h1
      | exc _ _ _ => rw [hf] at h1; exact h1.elim
      | ok o w1 =>
        rw [hf] at h1
        show Ret _ X ((compL f zs w1).bind _)
        rw [Ret_bind]
        refine Ret.imp (ih (k + 1) (acc ++ o.toList) w1 (by rw [List.length_cons] at hl; omega) (fun j => ?_) h1) fun ys w2 h => ?_
        · have := hx (j + 1)
          rw [show k + 1 + j = k + (j + 1) by omega, ← this]
          rfl
        · rw [List.append_assoc] at h
          exact h
  exact gen xs 0 [] w (by simp) (fun j => by simp) h0
/-- each turn gives one thing, nothing else changes -/
theorem compL_map {f : D → W → R (Option D)} {g : D → D} {xs : List D} (h : ∀ x ∈ xs, f x w = .ok (some (g x)) w) : compL f xs w = .ok (xs.map g) w := by
  induction xs with
  | nil => rfl
  | cons x xs ih =>
    show (match f x w with
      | .ok o w1 => (compL f xs w1).bind fun ys w2 => .ok (o.toList ++ ys) w2
      | _ => .no) = _
    rw [h x List.mem_cons_self]
    show (compL f xs w).bind _ = _
    rw [ih fun y hy => h y (List.mem_cons_of_mem _ hy)]
    rfl
/-! loops -/
def loopK (I : Sl → W → Prop) (K : Fl → W → Prop) : Fl → W → Prop
  | .next σ, w => I σ w
  | .cnt σ, w => I σ w
  | .brk σ, w => K (.next σ) w
  | f, w => K f w
section
variable {I : Sl → W → Prop}
@[simp] theorem loopK_next : loopK I K (.next σ) w = I σ w := rfl
@[simp] theorem loopK_cnt : loopK I K (.cnt σ) w = I σ w := rfl
@[simp] theorem loopK_brk : loopK I K (.brk σ) w = K (.next σ) w := rfl
@[simp] theorem loopK_ret {v : IV} : loopK I K (.ret v) w = K (.ret v) w := rfl
@[simp] theorem loopK_exc {c : Nat} {x : D} : loopK I K (.exc c x σ) w = K (.exc c x σ) w := rfl
end
def bodyF (E : En) (t : Tg) (b : St) : D → Sl → W → RS := fun x σ w => match asgT t x σ with
  | some σ1 => evS E b σ1 w
  | none => .no
@[simp] theorem RetS_body {x : D} : RetS K (bodyF E t s x σ w) = OptP (asgT t x σ) fun σ1 => RetS K (evS E s σ1 w) := by
  unfold bodyF
  cases asgT t x σ <;> rfl
def forP (E : En) (t : Tg) (b : St) (σ : Sl) (K : Fl → W → Prop) : It → W → Prop
  | .dat xs, w => okL xs.length = true ∧ RetS K (forL (bodyF E t b) xs σ w)
  | .cel n, w => RetS K (forC (bodyF E t b) n E.q 0 σ w)
@[simp] theorem forP_dat {xs : List D} : forP E t s σ K (.dat xs) w = (okL xs.length = true ∧ RetS K (forL (bodyF E t s) xs σ w)) := rfl
@[simp] theorem forP_cel {n : Nat} : forP E t s σ K (.cel n) w = RetS K (forC (bodyF E t s) n E.q 0 σ w) := rfl
@[simp] theorem RetS_for : RetS K (evS E (.for_ t it s) σ w) = Ret (fun J w1 => forP E t s σ K J w1) (fun c x w => K (.exc c x σ) w) (evI E it σ w) := by
  show RetS K (onE (evI E it σ w) σ fun J w1 => (match J with
    | .dat xs => if okL xs.length then forL (bodyF E t s) xs σ w1 else .no
    | .cel n => forC (bodyF E t s) n E.q 0 σ w1)) = _
  rw [RetS_onE]
  congr 1
  funext J w1
  cases J with
  | dat xs =>
    show RetS K (if okL xs.length then _ else .no) = _
    by_cases h : okL xs.length = true <;> simp [h]
  | cel n => rfl
theorem forL_inv {f : D → Sl → W → RS} {xs : List D} (I : Nat → Sl → W → Prop) (h0 : I 0 σ w) (hs : ∀ k x σ w, xs[k]? = some x → I k σ w → RetS (loopK (I (k + 1)) K) (f x σ w)) (hd : ∀ σ w, I xs.length σ w → K (.next σ) w) : RetS K (forL f xs σ w) := by
  have gen : ∀ (zs : List D) (k : Nat) (σ : Sl) (w : W), k + zs.length = xs.length → (∀ j, zs[j]? = xs[k + j]?) → I k σ w → RetS K (forL f zs σ w) := by
    intro zs
    induction zs with
    | nil =>
      intro k σ w hl _ hi
      rw [List.length_nil, Nat.add_zero] at hl
      subst hl
      exact hd _ _ hi
    | cons z zs ih =>
      intro k σ w hl hx hi
      have hz : xs[k]? = some z := by rw [show k = k + 0 from rfl, ← hx 0]; rfl
      have h1 := hs k z σ w hz hi
      have go : ∀ σ w, I (k + 1) σ w → RetS K (forL f zs σ w) := fun σ w h => ih (k + 1) σ w (by rw [List.length_cons] at hl; omega) (fun j => by
        have := hx (j + 1)
        rw [show k + 1 + j = k + (j + 1) by omega, ← this]
        rfl) h
      unfold forL
      cases hf : f z σ w with
      | no => rw [hf] at h1; exact h1
      | mk fl w1 =>
        rw [hf] at h1
        cases fl with
        | next σ1 => exact go σ1 w1 h1
        | cnt σ1 => exact go σ1 w1 h1
        | brk σ1 => exact h1
        | ret v => exact h1
        | exc c x σ1 => exact h1
  exact gen xs 0 σ w (by simp) (fun j => by simp) h0
theorem whlL_inv {c : Sl → W → R IV} {f : Sl → W → RS} {q : Nat} (I : Nat → Sl → W → Prop) {m : Nat} (hm : m < q) (h0 : I m σ w)
    (hs : ∀ m σ w, I m σ w → Ret (fun v w1 => BoolP v fun b => if b = true then ∃ m', m = m' + 1 ∧ RetS (loopK (I m') K) (f σ w1) else K (.next σ) w1) (fun c x w => K (.exc c x σ) w) (c σ w)) : RetS K (whlL c f q σ w) := by
  induction q generalizing m σ w with
  | zero => omega
  | succ q ih =>
    have h1 := hs m σ w h0
    unfold whlL
    rw [RetS_onE, Ret_tst]
    refine Ret.imp h1 fun v w1 h2 => ?_
    cases v with
    | d x =>
      cases x with
      | bool b =>
        rw [BoolP_b] at h2 ⊢
        rw [Ret_ok]
        cases b with
        | false => exact h2
        | true =>
          rw [if_pos rfl] at h2 ⊢
          obtain ⟨m', rfl, h3⟩ := h2
          cases hf : f σ w1 with
          | no => rw [hf] at h3; exact h3
          | mk fl w2 =>
            rw [hf] at h3
            cases fl with
            | next σ1 => exact ih (by omega) h3
            | cnt σ1 => exact ih (by omega) h3
            | brk σ1 => exact h3
            | ret v => exact h3
            | exc c x σ1 => exact h3
      | _ => exact h2
    | _ => exact h2
@[simp] theorem evS_whl : evS E (.whl e s) σ w = whlL (fun σ w => ev E e σ w) (fun σ w => evS E s σ w) E.q σ w := rfl
end
/-! data -/
section
variable {w : W} {x y : D} {i j : Int} {xs ys : List D}
@[simp] theorem rd_d : rd w (.d x) = some x := rfl
@[simp] theorem rdC_l : rdC (some (.lst xs)) = some (.list xs) := rfl
@[simp] theorem rd_ref {n : Nat} : rd w (.ref n) = rdC w[n]? := rfl
@[simp] theorem rdAll_nil : rdAll w [] = some [] := rfl
@[simp] theorem rdAll_cons {v : IV} {r : List IV} : rdAll w (v :: r) = (rd w v).bind fun x => (rdAll w r).map (x :: ·) := rfl
@[simp] theorem purs_nil : purs [] = some [] := rfl
@[simp] theorem purs_cons {r : List IV} : purs (.d x :: r) = (purs r).map (x :: ·) := rfl
@[simp] theorem slot_cons0 {v : Option IV} {σ : Sl} : slot (v :: σ) 0 = v := rfl
@[simp] theorem slot_cons {v : Option IV} {σ : Sl} {i : Nat} : slot (v :: σ) (i + 1) = slot σ i := rfl
@[simp] theorem add_ii : binD .Add (.int i) (.int j) = some (.int (i + j)) := rfl
@[simp] theorem sub_ii : binD .Sub (.int i) (.int j) = some (.int (i - j)) := rfl
@[simp] theorem mul_ii : binD .Mult (.int i) (.int j) = if okI i && okI j then some (.int (i * j)) else none := rfl
@[simp] theorem div_ii : binD .FloorDiv (.int i) (.int j) = if okDiv i j then some (.int (i.fdiv j)) else none := rfl
@[simp] theorem mod_ii : binD .Mod (.int i) (.int j) = if j != 0 then some (.int (i.fmod j)) else none := rfl
@[simp] theorem pow_ii : binD .Pow (.int i) (.int j) = if decide (0 ≤ j) && decide (j ≤ 1000000) && decide (i.natAbs < 2 ^ 64) then some (.int (i ^ j.toNat)) else none := rfl
@[simp] theorem add_tt : binD .Add (.tuple xs) (.tuple ys) = if okL (xs.length + ys.length) then some (.tuple (xs ++ ys)) else none := rfl
@[simp] theorem add_ll : binD .Add (.list xs) (.list ys) = if okL (xs.length + ys.length) then some (.list (xs ++ ys)) else none := rfl
@[simp] theorem mul_ti : binD .Mult (.tuple xs) (.int i) = if decide (xs.length ≤ 1000) && decide (i ≤ 1000) && decide (-1000 ≤ i) then some (.tuple (List.replicate i.toNat xs).flatten) else none := rfl
@[simp] theorem mul_li : binD .Mult (.list xs) (.int i) = if decide (xs.length ≤ 1000) && decide (i ≤ 1000) && decide (-1000 ≤ i) then some (.list (List.replicate i.toNat xs).flatten) else none := rfl
@[simp] theorem cmpV_dd {o : CmpOp} : cmpV o w (.d x) (.d y) = cmpD o x y := rfl
theorem cmpV_ref {o : CmpOp} {n : Nat} (h : w[n]? = some (.lst xs)) : cmpV o w (.ref n) (.d y) = cmpD o (.list xs) y := by
  unfold cmpV
  simp only [rd_ref, rd_d, h, rdC_l]
@[simp] theorem lt_ii : cmpD .Lt (.int i) (.int j) = some (decide (i < j)) := rfl
@[simp] theorem le_ii : cmpD .LtE (.int i) (.int j) = some (decide (i ≤ j)) := rfl
@[simp] theorem gt_ii : cmpD .Gt (.int i) (.int j) = some (decide (j < i)) := rfl
@[simp] theorem ge_ii : cmpD .GtE (.int i) (.int j) = some (decide (j ≤ i)) := rfl
@[simp] theorem is_n : cmpD .Is x .none = some (isNone x) := rfl
@[simp] theorem isNot_n : cmpD .IsNot x .none = some (!isNone x) := rfl
theorem okD_int : okD (.int i) = true := rfl
@[simp] theorem eq_ii : cmpD .Eq (.int i) (.int j) = some (decide (i = j)) := by
  show (if okD (.int i) && okD (.int j) then _ else none) = _
  rw [okD_int, okD_int]
  show some (PyData.eqv (.int i) (.int j)) = _
  simp only [PyData.eqv]
  rfl
@[simp] theorem ne_ii : cmpD .NotEq (.int i) (.int j) = some (!decide (i = j)) := by
  show (if okD (.int i) && okD (.int j) then _ else none) = _
  rw [okD_int, okD_int]
  show some (!PyData.eqv (.int i) (.int j)) = _
  simp only [PyData.eqv]
  rfl
@[simp] theorem isiV_d {ts : List T} : isiV w ts (.d x) = some (ts.any (tyB x)) := rfl
@[simp] theorem newW_l : newW w (.d (.list xs)) = .ok (.ref w.length) (w ++ [.lst xs]) := rfl
@[simp] theorem toIt_t : toIt w (.d (.tuple xs)) = some (.dat xs) := rfl
@[simp] theorem toIt_l : toIt w (.d (.list xs)) = some (.dat xs) := rfl
@[simp] theorem items_t : itemsD (.tuple xs) = some xs := rfl
@[simp] theorem items_l : itemsD (.list xs) = some xs := rfl
@[simp] theorem asg_nm {σ : Sl} {i : Nat} : asgT (.nm i) x σ = some (σ.set i (some (.d x))) := rfl
@[simp] theorem asg_tup {σ : Sl} {ts : Tg} : asgT (.tup ts) (.tuple xs) σ = asgTs ts xs σ := rfl
@[simp] theorem asgs_nil {σ : Sl} : asgTs .nil [] σ = some σ := rfl
@[simp] theorem asgs_cons {σ : Sl} {t r : Tg} : asgTs (.cons t r) (x :: xs) σ = (asgT t x σ).bind fun σ1 => asgTs r xs σ1 := rfl
@[simp] theorem setAll_nil {σ : Sl} : setAll [] [] σ = some σ := rfl
@[simp] theorem setAll_cons {σ : Sl} {i : Nat} {is : List Nat} {v : IV} {vs : List IV} : setAll (i :: is) (v :: vs) σ = setAll is vs (σ.set i (some v)) := rfl
@[simp] theorem okI_small {i : Int} (h : i.natAbs < 2 ^ 64) : okI i = true := by
  unfold okI
  have : i.natAbs.log2 < 64 := by
    by_cases h0 : i.natAbs = 0
    · rw [h0]; decide
    · exact (Nat.log2_lt h0).mpr h
  exact decide_eq_true (by omega)
end
end Pv

/-! Part Y: what many laws have in common: draws. -/
namespace Pv
open PySem
def Nx (M : Sl → W → Prop) : Fl → W → Prop
  | .next σ, w => M σ w
  | _, _ => False
section
variable {K : Fl → W → Prop} {M k : Sl → W → Prop} {σ : Sl} {w : W}
@[simp] theorem Nx_next : Nx M (.next σ) w = M σ w := rfl
@[simp] theorem Nx_ret {v : IV} : Nx M (.ret v) w = False := rfl
theorem RetS.nx {r : RS} (h : RetS (Nx M) r) (q : ∀ σ w, M σ w → k σ w) : RetS (sq k K) r := by
  refine h.mono fun f w h => ?_
  cases f with
  | next σ => exact q σ w h
  | _ => exact h.elim
theorem Ret.eq {α : Type} {r : R α} {a : α} {w : W} {X : Nat → D → W → Prop} (h : Ret (fun b w' => b = a ∧ w' = w) X r) (hx : ∀ c x w, ¬ X c x w) : r = .ok a w := by
  cases r with
  | ok b w' => obtain ⟨rfl, rfl⟩ := h; rfl
  | exc c x w' => exact (hx _ _ _ h).elim
  | no => exact h.elim
end
section
variable {a b c : D} {r : List D} {x : D}
theorem ixN_nat {n j : Nat} (h : j < n) : ixN n (j : Int) = some j := by
  unfold ixN
  rw [if_pos (by omega), if_pos (by omega)]
  simp
@[simp] theorem sub_0 : subD (.list (a :: r)) (.int 0) = some a := by
  show (ixN (a :: r).length ((0 : Nat) : Int)).bind _ = _
  rw [ixN_nat (by simp)]; rfl
@[simp] theorem sub_1 : subD (.list (a :: b :: r)) (.int 1) = some b := by
  show (ixN (a :: b :: r).length ((1 : Nat) : Int)).bind _ = _
  rw [ixN_nat (by simp)]; rfl
@[simp] theorem sub_2 : subD (.list (a :: b :: c :: r)) (.int 2) = some c := by
  show (ixN (a :: b :: c :: r).length ((2 : Nat) : Int)).bind _ = _
  rw [ixN_nat (by simp)]; rfl
@[simp] theorem tub_0 : subD (.tuple (a :: r)) (.int 0) = some a := by
  show (ixN (a :: r).length ((0 : Nat) : Int)).bind _ = _
  rw [ixN_nat (by simp)]; rfl
@[simp] theorem tub_1 : subD (.tuple (a :: b :: r)) (.int 1) = some b := by
  show (ixN (a :: b :: r).length ((1 : Nat) : Int)).bind _ = _
  rw [ixN_nat (by simp)]; rfl
@[simp] theorem st_0 : stL (a :: r) (.int 0) x = some (x :: r) := by
  show (ixN (a :: r).length ((0 : Nat) : Int)).map _ = _
  rw [ixN_nat (by simp)]; rfl
@[simp] theorem st_1 : stL (a :: b :: r) (.int 1) x = some (a :: x :: r) := by
  show (ixN (a :: b :: r).length ((1 : Nat) : Int)).map _ = _
  rw [ixN_nat (by simp)]; rfl
@[simp] theorem st_2 : stL (a :: b :: c :: r) (.int 2) x = some (a :: b :: x :: r) := by
  show (ixN (a :: b :: c :: r).length ((2 : Nat) : Int)).map _ = _
  rw [ixN_nat (by simp)]; rfl
theorem sub_nat {xs : List D} {j : Nat} {v : D} (h : xs[j]? = some v) : subD (.list xs) (.int (j : Int)) = some v := by
  show (ixN xs.length (j : Int)).bind _ = _
  rw [ixN_nat (List.getElem?_eq_some_iff.mp h).1]
  exact h
theorem tub_nat {xs : List D} {j : Nat} {v : D} (h : xs[j]? = some v) : subD (.tuple xs) (.int (j : Int)) = some v := by
  show (ixN xs.length (j : Int)).bind _ = _
  rw [ixN_nat (List.getElem?_eq_some_iff.mp h).1]
  exact h
theorem len_l {w : W} {xs : List D} : bltD .len [.list xs] = some (.int xs.length) := rfl
theorem okDiv_small {i j : Int} (h0 : 0 < j) (h : j.natAbs.log2 < 9000) : okDiv i j = true := by
  unfold okDiv
  simp only [Bool.and_eq_true, Bool.or_eq_true, decide_eq_true_eq]
  exact ⟨by simp; omega, .inl h⟩
end
/-! the script's pot -/
structure PotOk (xs : List D) : Prop where
  ex : ∃ (p0 p1 p2 : Int) (cs : List Int), xs = .int p0 :: .int p1 :: .int p2 :: cs.map .int ∧ 0 ≤ p0 ∧ 0 ≤ p1 ∧ p1 < 2147483648 ∧ 3 ≤ p2 ∧ p2 ≤ cs.length + 3 ∧ cs.length ≤ 63
def bTake1 : St := (.ifs (.and (.cmp .Eq (.sub (.var 0) (.cst (.int (0)))) (.cst (.int (0)))) (.cmp .Lt (.sub (.var 0) (.cst (.int (2)))) (.blt .len (.cons (.var 0) .nil)))) (.cons (.asg (.nm 2) (.sub (.var 0) (.sub (.var 0) (.cst (.int (2)))))) (.cons (.auix .Add (.var 0) (.cst (.int (2))) (.cst (.int (1)))) (.cons (.ifs (.cmp .GtE (.var 2) (.bin .Pow (.cst (.int (10))) (.cst (.int (18))))) (.cons (.stix (.var 0) (.cst (.int (0))) (.bin .Sub (.var 2) (.bin .Pow (.cst (.int (10))) (.cst (.int (18)))))) .nil) (.cons (.asg (.nm 4) (.bin .Mod (.blt .int (.cons (.var 2) .nil)) (.cst (.int (2147483647))))) (.cons (.asg (.nm 4) (.bin .Mod (.blt .int (.cons (.bin .Add (.bin .Add (.bin .Mult (.var 4) (.var 4)) (.bin .Mult (.cst (.int (69621))) (.var 4))) (.bin .Mult (.cst (.int (977))) (.sub (.var 0) (.cst (.int (2)))))) .nil)) (.cst (.int (2147483629))))) (.cons (.stix (.var 0) (.cst (.int (1))) (.bin .Mod (.blt .int (.cons (.bin .Add (.sub (.var 0) (.cst (.int (1)))) (.var 4)) .nil)) (.cst (.int (2147483629))))) .nil)))) .nil))) .nil)
def bTake2 : St := (.cons (.ifs (.cmp .Gt (.sub (.var 0) (.cst (.int (0)))) (.cst (.int (0)))) (.cons (.asg (.nm 3) (.bin .Mod (.blt .int (.cons (.sub (.var 0) (.cst (.int (0)))) .nil)) (.var 1))) (.cons (.stix (.var 0) (.cst (.int (0))) (.bin .FloorDiv (.sub (.var 0) (.cst (.int (0)))) (.var 1))) (.cons (.ret (.var 3)) .nil))) .nil) (.cons (.stix (.var 0) (.cst (.int (1))) (.bin .Mod (.blt .int (.cons (.bin .Add (.bin .Add (.bin .Mult (.sub (.var 0) (.cst (.int (1)))) (.cst (.int (48271)))) (.bin .Mult (.cst (.int (40692))) (.sub (.var 0) (.cst (.int (2)))))) (.cst (.int (11)))) .nil)) (.cst (.int (2147483647))))) (.cons (.stix (.var 0) (.cst (.int (1))) (.bin .Mod (.blt .int (.cons (.bin .Add (.bin .Mult (.sub (.var 0) (.cst (.int (1)))) (.sub (.var 0) (.cst (.int (1))))) (.cst (.int (7)))) .nil)) (.cst (.int (2147483629))))) (.cons (.ret (.bin .Mod (.blt .int (.cons (.bin .FloorDiv (.sub (.var 0) (.cst (.int (1)))) (.cst (.int (8)))) .nil)) (.var 1))) .nil))))
def bTake : St := .cons bTake1 bTake2
section
variable {E : En} {w : W} {n : Nat} {many : Int} {pot : List D} {X : Nat → D → W → Prop}
@[simp] theorem int_i {i : Int} : bltD .int [.int i] = some (.int i) := rfl
@[simp] theorem abs_i {i : Int} : bltD .abs [.int i] = some (.int (if i < 0 then -i else i)) := rfl
@[simp] theorem len_ll {xs : List D} : bltD .len [.list xs] = some (.int xs.length) := rfl
@[simp] theorem len_tt {xs : List D} : bltD .len [.tuple xs] = some (.int xs.length) := rfl
def St5 (n : Nat) (many : Int) (σ : Sl) : Prop := ∃ a b c, σ = [some (.ref n), some (.d (.int many)), a, b, c]
theorem take1 (hw : w[n]? = some (.lst pot)) (hp : PotOk pot) {a b c : Option IV} :
    RetS (Nx fun σ w' => ∃ pot', PotOk pot' ∧ w' = w.set n (.lst pot') ∧ St5 n many σ) (evS E bTake1 [some (.ref n), some (.d (.int many)), a, b, c] w) := by
  obtain ⟨p0, p1, p2, cs, rfl, h0, h1, h2, h3, h4, h5⟩ := hp.ex
  have hn : n < w.length := (List.getElem?_eq_some_iff.mp hw).1
  have hid : w.set n (.lst (.int p0 :: .int p1 :: .int p2 :: cs.map .int)) = w := by
    rw [List.getElem?_eq_some_iff] at hw
    obtain ⟨h, e⟩ := hw
    rw [← e, List.set_getElem_self]
  have back : ∀ q0 q1 q2 : Int, (w.set n (.lst (.int q0 :: .int q1 :: .int q2 :: cs.map .int)))[n]? = some (.lst (.int q0 :: .int q1 :: .int q2 :: cs.map .int)) := fun q0 q1 q2 => List.getElem?_set_self hn
  unfold bTake1
  simp [hw]
  split
  · rename_i e0
    split
    · rename_i hlt
      obtain ⟨j, rfl⟩ : ∃ j : Nat, p2 = (j : Int) + 3 := ⟨(p2 - 3).toNat, by omega⟩
      have hj : j < cs.length := by omega
      have hz : subD (.list (.int p0 :: .int p1 :: .int ((j : Int) + 3) :: cs.map .int)) (.int ((j : Int) + 3)) = some (.int cs[j]) := by
        have : ((j : Int) + 3) = ((j + 3 : Nat) : Int) := by omega
        rw [this]
        refine sub_nat ?_
        show (cs.map PyData.int)[j]? = _
        rw [List.getElem?_map, List.getElem?_eq_getElem hj]
        rfl
      simp only [hz, OptP_some, ge_ii, sub_ii, back, CelP_l, st_0, rdC_l, sub_2, sub_1, int_i]
      split
      · rename_i hc
        exact ⟨_, ⟨_, _, _, cs, rfl, by simpa using hc, h1, h2, by omega, by omega, h5⟩, rfl, _, _, _, rfl⟩
      · have o1 : ∀ i : Int, 0 ≤ i → i < 4294967296 → okI i = true := fun i a b => okI_small (by omega)
        have e1 : cs[j].fmod 2147483647 = cs[j] % 2147483647 := Int.fmod_eq_emod_of_nonneg _ (by decide)
        have m1 : 0 ≤ cs[j] % 2147483647 ∧ cs[j] % 2147483647 < 2147483647 := by omega
        simp only [mod_ii, e1]
        generalize cs[j] % 2147483647 = m at m1
        have fm : ∀ i : Int, i.fmod 2147483629 = i % 2147483629 := fun i => Int.fmod_eq_emod_of_nonneg _ (by decide)
        simp [o1 m m1.1 (by omega), o1 69621 (by decide) (by decide), o1 977 (by decide) (by decide), o1 ((j : Int) + 3 + 1) (by omega) (by omega), fm, List.set_set]
        refine ⟨_, ⟨_, _, _, cs, rfl, h0, ?_, ?_, by omega, by omega, h5⟩, rfl, _, _, _, rfl⟩
        · omega
        · omega
    · exact ⟨_, hp, hid.symm, _, _, _, rfl⟩
  · exact ⟨_, hp, hid.symm, _, _, _, rfl⟩
theorem take2 (hw : w[n]? = some (.lst pot)) (hp : PotOk pot) (hm : 0 < many) (hm2 : many.natAbs.log2 < 9000) {a b c : Option IV} {N : Nat} (hN : w.length = N) :
    RetS (finK N (fun v w' => ∃ r pot', v = .d (.int r) ∧ 0 ≤ r ∧ r < many ∧ PotOk pot' ∧ w' = w.set n (.lst pot')) X) (evS E bTake2 [some (.ref n), some (.d (.int many)), a, b, c] w) := by
  obtain ⟨p0, p1, p2, cs, rfl, h0, h1, h2, h3, h4, h5⟩ := hp.ex
  have hn : n < w.length := (List.getElem?_eq_some_iff.mp hw).1
  have back : ∀ q0 q1 q2 : Int, (w.set n (.lst (.int q0 :: .int q1 :: .int q2 :: cs.map .int)))[n]? = some (.lst (.int q0 :: .int q1 :: .int q2 :: cs.map .int)) := fun q0 q1 q2 => List.getElem?_set_self hn
  have tk : ∀ c, (w.set n c).take N = w.set n c := fun c => List.take_of_length_le (by rw [List.length_set]; omega)
  have o1 : ∀ i : Int, 0 ≤ i → i < 4294967296 → okI i = true := fun i a b => okI_small (by omega)
  have md : ∀ i : Int, 0 ≤ i.fmod many ∧ i.fmod many < many := fun i => by
    rw [Int.fmod_eq_emod_of_nonneg _ (by omega)]
    exact ⟨Int.emod_nonneg _ (by omega), Int.emod_lt_of_pos _ hm⟩
  have hne : ¬ many = 0 := by omega
  unfold bTake2
  simp [hw, hne, okDiv_small hm hm2, back, tk]
  split
  · rename_i hc
    refine ⟨(md _).1, (md _).2, _, ⟨_, _, _, cs, rfl, ?_, h1, h2, h3, h4, h5⟩, rfl⟩
    rw [Int.fdiv_eq_ediv_of_nonneg _ (by omega)]
    exact Int.ediv_nonneg h0 (by omega)
  · have fm : ∀ i : Int, i.fmod 2147483629 = i % 2147483629 := fun i => Int.fmod_eq_emod_of_nonneg _ (by decide)
    have fm2 : ∀ i : Int, i.fmod 2147483647 = i % 2147483647 := fun i => Int.fmod_eq_emod_of_nonneg _ (by decide)
    have m1 : ∀ i : Int, 0 ≤ i % 2147483647 ∧ i % 2147483647 < 2147483647 := fun i => by omega
    have m2 : ∀ i : Int, 0 ≤ i % 2147483629 ∧ i % 2147483629 < 2147483629 := fun i => by omega
    simp [o1 p1 h1 (by omega), o1 48271 (by decide) (by decide), o1 40692 (by decide) (by decide), o1 p2 (by omega) (by omega), fm, fm2, back, o1 _ (m1 _).1 (Int.lt_trans (m1 _).2 (by decide)), okDiv_small (j := 8) (by decide) (by decide), hne, List.set_set, tk]
    exact ⟨(md _).1, (md _).2, _, ⟨_, _, _, cs, rfl, h0, (m2 _).1, Int.lt_trans (m2 _).2 (by decide), h3, h4, h5⟩, rfl⟩
theorem take_ok (hw : w[n]? = some (.lst pot)) (hp : PotOk pot) (hm : 0 < many) (hm2 : many.natAbs.log2 < 9000) :
    Ret (fun v w' => ∃ r pot', v = .d (.int r) ∧ 0 ≤ r ∧ r < many ∧ PotOk pot' ∧ w' = w.set n (.lst pot')) X (fin w.length (evS E bTake [some (.ref n), some (.d (.int many)), none, none, none] w)) := by
  have hn : n < w.length := (List.getElem?_eq_some_iff.mp hw).1
  rw [Ret_fin]
  unfold bTake
  rw [RetS_cons]
  refine RetS.nx (take1 hw hp) fun σ w' ⟨pot', hp', e, a, b, c, es⟩ => ?_
  subst e es
  refine RetS.mono (take2 (X := X) (E := E) (List.getElem?_set_self hn) hp' hm hm2 (N := w.length) (by rw [List.length_set])) fun f w' h => ?_
  cases f with
  | ret v =>
    cases v with
    | d x =>
      obtain ⟨r, pot'', h1, h2, h3, h4, h5⟩ := h
      exact ⟨r, pot'', h1, h2, h3, h4, by rw [h5, List.set_set]⟩
    | ref k => obtain ⟨_, r, pot'', h1, _⟩ := h; cases h1
    | exc _ _ => obtain ⟨r, pot'', h1, _⟩ := h; cases h1
  | next _ => obtain ⟨r, pot'', h1, _⟩ := h; cases h1
  | brk _ => exact h
  | cnt _ => exact h
  | exc _ _ _ => exact h
end
end Pv

/-! Part Z: what many laws have in common: likeness, lowest terms, kinds. -/
namespace Pv
open PySem
theorem take_len {w : W} : w.take w.length = w := List.take_length
def bSame (i : Nat) : St := (.cons (.ifs (.cmp .Is (.var 1) (.cst (.none))) (.cons (.ret (.cmp .Is (.var 0) (.cst (.none)))) .nil) .nil) (.cons (.ifs (.isi (.var 1) [.bool, .str]) (.cons (.ret (.and (.cmp .Eq (.isi (.var 0) [.bool]) (.isi (.var 1) [.bool])) (.and (.isi (.var 0) [.bool, .str]) (.cmp .Eq (.var 0) (.var 1))))) .nil) .nil) (.cons (.ifs (.isi (.var 1) [.int]) (.cons (.ret (.and (.isi (.var 0) [.int]) (.and (.not (.isi (.var 0) [.bool])) (.cmp .Eq (.var 0) (.var 1))))) .nil) .nil) (.cons (.ifs (.or (.cmp .NotEq (.isi (.var 1) [.list]) (.isi (.var 0) [.list])) (.cmp .NotEq (.isi (.var 1) [.tuple]) (.isi (.var 0) [.tuple]))) (.cons (.ret (.cst (.bool false))) .nil) .nil) (.cons (.ret (.and (.cmp .Eq (.blt .len (.cons (.var 0) .nil)) (.blt .len (.cons (.var 1) .nil))) (.blt .all (.cons (.comp [2] (.call i (.cons (.sub (.var 0) (.var 2)) (.cons (.sub (.var 1) (.var 2)) .nil))) (.nm 2) (.rng (.cons (.blt .len (.cons (.var 1) .nil)) .nil)) .nil) .nil)))) .nil)))))
/-- what is compared part by part: kinds at each depth below n -/
inductive SameD : Nat → D → Prop
  | non {n : Nat} : SameD n .none
  | bl {n : Nat} (b : Bool) : SameD n (.bool b)
  | int {n : Nat} (i : Int) : SameD n (.int i)
  | str {n : Nat} (x : Str) : SameD n (.str x)
  | lst {n : Nat} {xs : List D} : xs.length ≤ 1000000 → (∀ y ∈ xs, SameD n y) → SameD (n + 1) (.list xs)
  | tup {n : Nat} {xs : List D} : xs.length ≤ 1000000 → (∀ y ∈ xs, SameD n y) → SameD (n + 1) (.tuple xs)
theorem bools_rep : ∀ n : Nat, bools? (List.replicate n (PyData.bool true)) = some (List.replicate n true)
  | 0 => rfl
  | n + 1 => by
    show (bools? (List.replicate n (PyData.bool true))).map (true :: ·) = _
    rw [bools_rep n]; rfl
@[simp] theorem eq_bb {a b : Bool} : cmpD .Eq (.bool a) (.bool b) = some (a == b) := by
  show (if okD (.bool a) && okD (.bool b) then _ else none) = _
  rfl
@[simp] theorem ne_bb {a b : Bool} : cmpD .NotEq (.bool a) (.bool b) = some (!(a == b)) := by
  show (if okD (.bool a) && okD (.bool b) then _ else none) = _
  rfl
theorem eq_str {x : Str} : cmpD .Eq (.str x) (.str x) = some true := by
  show (if okD (.str x) && okD (.str x) then some (PyData.eqv (.str x) (.str x)) else none) = _
  have h : okD (.str x) = true := rfl
  rw [h]
  simp [PyData.eqv]
theorem rng_nat {n : Nat} (h : n ≤ 16777216) : rngD [.int (n : Int)] = some ((List.range n).map fun (k : Nat) => .int k) := by
  show (if decide (-4611686018427387904 ≤ (n : Int)) && decide ((n : Int) ≤ 16777216) then _ else none) = _
  rw [decide_eq_true (by omega), decide_eq_true (by omega)]
  simp
section
variable {E : En} {w : W} {X : Nat → D → W → Prop} {i : Nat}
theorem same_list {x : D} {xs : List D} (hx : x = .list xs ∨ x = .tuple xs) (hl : xs.length ≤ 1000000) (ih : ∀ y ∈ xs, ∀ w, E.Φ i [.d y, .d y] w = .ok (.d (.bool true)) w) :
    Ret (fun b w' => b = .d (.bool true) ∧ w' = w) X (fin w.length (evS E (bSame i) [some (.d x), some (.d x), none] w)) := by
  have hsub : ∀ k : Nat, k < xs.length → ∃ y ∈ xs, subD x (.int (k : Int)) = some y := fun k hk => by
    refine ⟨xs[k], List.getElem_mem hk, ?_⟩
    rcases hx with rfl | rfl
    · exact sub_nat (List.getElem?_eq_getElem hk)
    · exact tub_nat (List.getElem?_eq_getElem hk)
  have comp : compL (elF (isNil .nil) (.nm 2) (ev E .nil) (ev E (.call i (.cons (.sub (.var 0) (.var 2)) (.cons (.sub (.var 1) (.var 2)) .nil)))) (wip [some (.d x), some (.d x), none] [2])) ((List.range xs.length).map fun (k : Nat) => .int k) w = .ok (((List.range xs.length).map fun (k : Nat) => PyData.int k).map fun _ => PyData.bool true) w := by
    refine compL_map fun z hz => ?_
    obtain ⟨k, hk, rfl⟩ := List.mem_map.mp hz
    obtain ⟨y, hy, e⟩ := hsub k (List.mem_range.mp hk)
    refine Ret.eq (X := fun _ _ _ => False) ?_ (fun _ _ _ h => h)
    show Ret _ _ (elF true _ _ _ _ _ _)
    rw [Ret_elT]
    simp [wip, e, ih y hy]
  have len : bltD .len [x] = some (.int xs.length) := by rcases hx with rfl | rfl <;> rfl
  have bl : bltD .all [.list (((List.range xs.length).map fun (k : Nat) => PyData.int k).map fun _ => PyData.bool true)] = some (.bool true) := by
    rw [List.map_map, show (List.map ((fun _ => PyData.bool true) ∘ fun (k : Nat) => PyData.int k) (List.range xs.length)) = List.replicate xs.length (PyData.bool true) by
      rw [List.eq_replicate_iff]; exact ⟨by simp, fun b hb => by obtain ⟨_, _, e⟩ := List.mem_map.mp hb; exact e.symm⟩]
    show (bools? (List.replicate xs.length (PyData.bool true))).map (fun bs => PyData.bool (bs.all id)) = _
    rw [bools_rep]
    show some (PyData.bool _) = _
    congr 2
    rw [List.all_eq_true]
    intro b hb
    exact (List.mem_replicate.mp hb).2
  rw [List.map_map] at bl
  have k0 : isNone x = false ∧ tyB x .bool = false ∧ tyB x .str = false ∧ tyB x .int = false := by rcases hx with rfl | rfl <;> exact ⟨rfl, rfl, rfl, rfl⟩
  obtain ⟨t0, t1, t2, t3⟩ := k0
  unfold bSame
  simp [len, t0, t1, t2, t3, rng_nat (n := xs.length) (by omega), comp, bl, okL]
  omega
theorem same_ok {n : Nat} {x : D} (hx : SameD n x) (ih : ∀ m y, n = m + 1 → SameD m y → ∀ w, E.Φ i [.d y, .d y] w = .ok (.d (.bool true)) w) :
    fin w.length (evS E (bSame i) [some (.d x), some (.d x), none] w) = .ok (.d (.bool true)) w := by
  refine Ret.eq (X := fun _ _ _ => False) ?_ (fun _ _ _ h => h)
  cases hx with
  | non => unfold bSame; simp [isNone]
  | bl b => unfold bSame; simp [isNone, tyB]
  | int j => unfold bSame; simp [isNone, tyB]
  | str z => unfold bSame; simp [isNone, tyB, eq_str]
  | lst hl h => exact same_list (.inl rfl) hl fun y hy => ih _ y rfl (h y hy)
  | tup hl h => exact same_list (.inr rfl) hl fun y hy => ih _ y rfl (h y hy)
/-! lowest terms -/
def bLowN (N : Int) : St := (.cons (.par [4, 5] (.cons (.blt .abs (.cons (.var 0) .nil)) (.cons (.blt .abs (.cons (.var 1) .nil)) .nil))) (.cons (.for_ (.nm 2) (.rng (.cons (.cst (.int N)) .nil)) (.cons (.ifs (.cmp .Eq (.var 5) (.cst (.int (0)))) (.cons .brk .nil) .nil) (.cons (.par [4, 5] (.cons (.var 5) (.cons (.bin .Mod (.blt .int (.cons (.var 4) .nil)) (.var 5)) .nil))) .nil))) (.cons (.asg (.nm 3) (.ite (.cmp .Gt (.var 1) (.cst (.int (0)))) (.cst (.int (1))) (.neg (.cst (.int (1)))))) (.cons (.ret (.tup (.cons (.bin .FloorDiv (.bin .Mult (.var 3) (.var 0)) (.var 4)) (.cons (.bin .FloorDiv (.bin .Mult (.var 3) (.var 1)) (.var 4)) .nil)))) .nil))))
def bLow : St := bLowN 100000
/-- the steps of two integers' common divisor, so far: a, b stand where a0, b0 stood -/
def Eu (a0 b0 : Nat) (k : Nat) (a b : Nat) : Prop := Nat.gcd a b = Nat.gcd a0 b0 ∧ (0 < a ∨ 0 < b) ∧ match k with
  | 0 => a = a0 ∧ b = b0
  | k + 1 => b < a ∧ a * b * 2 ^ k ≤ a0 * b0
theorem Eu.step {a0 b0 k a b : Nat} (h : Eu a0 b0 k a b) (hb : 0 < b) : Eu a0 b0 (k + 1) b (a % b) := by
  obtain ⟨h1, h2, h3⟩ := h
  have lt := Nat.mod_lt a hb
  refine ⟨?_, .inl hb, lt, ?_⟩
  · rw [← h1, Nat.gcd_comm b, ← Nat.gcd_rec, Nat.gcd_comm]
  · cases k with
    | zero =>
      obtain ⟨rfl, rfl⟩ := h3
      rw [Nat.pow_zero, Nat.mul_one, Nat.mul_comm]
      exact Nat.mul_le_mul_right _ (Nat.mod_le _ _)
    | succ k =>
      obtain ⟨h4, h5⟩ := h3
      refine Nat.le_trans ?_ h5
      have two : 2 * (a % b) ≤ a := by
        have e := Nat.div_add_mod a b
        have q : 1 ≤ a / b := (Nat.one_le_div_iff hb).mpr (Nat.le_of_lt h4)
        have : b ≤ b * (a / b) := Nat.le_mul_of_pos_right b q
        omega
      calc b * (a % b) * 2 ^ (k + 1) = b * (2 * (a % b)) * 2 ^ k := by rw [Nat.pow_succ]; ac_rfl
        _ ≤ b * a * 2 ^ k := Nat.mul_le_mul_right _ (Nat.mul_le_mul_left _ two)
        _ = a * b * 2 ^ k := by rw [Nat.mul_comm b a]
theorem Eu.done' {a0 b0 a b N : Nat} (h2 : 0 < a ∨ 0 < b) (h3 : b < a) (h4 : a * b * N ≤ a0 * b0) (hP : a0 * b0 < N) : b = 0 := by
  rcases Nat.eq_zero_or_pos b with h | h
  · exact h
  · have : 1 ≤ a * b := Nat.mul_pos (by omega) h
    exact absurd (Nat.le_trans (Nat.le_mul_of_pos_left N this) h4) (Nat.not_le.mpr hP)
theorem Eu.done {a0 b0 a b : Nat} (h : Eu a0 b0 (99999 + 1) a b) (hP : a0 * b0 < 2 ^ 99999) : b = 0 := Eu.done' h.2.1 h.2.2.1 h.2.2.2 hP
def lowT (t b : Int) : Int := ((if 0 < b then 1 else -1) * t).fdiv (Int.gcd t b)
def lowB (t b : Int) : Int := ((if 0 < b then 1 else -1) * b).fdiv (Int.gcd t b)
theorem low_gen {N : Nat} (hN : N = 100000) {t b : Int} (hb : b ≠ 0) (h1 : t.natAbs.log2 < 49000) (h2 : b.natAbs.log2 < 9000) :
    fin w.length (evS E (bLowN (N : Int)) [some (.d (.int t)), some (.d (.int b)), none, none, none, none] w) = .ok (.d (.tuple [.int (lowT t b), .int (lowB t b)])) w := by
  refine Ret.eq (X := fun _ _ _ => False) ?_ (fun _ _ _ h => h)
  have hP : t.natAbs * b.natAbs < 2 ^ 99999 := by
    have q1 : t.natAbs < 2 ^ 49000 := Nat.lt_of_lt_of_le Nat.lt_log2_self (Nat.pow_le_pow_right (by decide) h1)
    have q2 : b.natAbs < 2 ^ 9000 := Nat.lt_of_lt_of_le Nat.lt_log2_self (Nat.pow_le_pow_right (by decide) h2)
    calc t.natAbs * b.natAbs < 2 ^ 49000 * 2 ^ 9000 := Nat.mul_lt_mul'' q1 q2
      _ = 2 ^ 58000 := by rw [← Nat.pow_add]
      _ ≤ 2 ^ 99999 := Nat.pow_le_pow_right (by decide) (by decide)
  rw [Ret_fin]
  unfold bLowN
  rw [RetS_cons]
  have ab : ∀ i : Int, (if i < 0 then -i else i) = (i.natAbs : Int) := fun i => by split <;> omega
  have g0 : 0 < Nat.gcd t.natAbs b.natAbs := Nat.gcd_pos_of_pos_right _ (by omega)
  simp only [evS_par, RetS_onE, evA_cons, evA_nil, Ret_bind, Ret_blt, ev_var, Ret_ofO, slot_cons, slot_cons0, OptP_some, Ret_ok, rdAll_cons, rdAll_nil, rd_d, Option.bind_some, Option.map_some, abs_i, RetS_ofS, setAll_cons, setAll_nil, sq_next, ab]
  rw [RetS_cons]
  obtain ⟨M, hM⟩ : ∃ M : Sl → W → Prop, M = fun σ w' => ∃ x : Option IV, σ = [some (.d (.int t)), some (.d (.int b)), x, none, some (.d (.int (Nat.gcd t.natAbs b.natAbs : Nat))), some (.d (.int 0))] ∧ w' = w := ⟨_, rfl⟩
  refine RetS.nx (M := M) ?_ ?_
  · rw [hM, RetS_for, Ret_rng]
    simp only [evA_cons, evA_nil, ev_cst, Ret_bind, Ret_ok, purs_cons, purs_nil, Option.map_some, OptP_some]
    have hr : rngD [.int (N : Int)] = some ((List.range N).map fun (k : Nat) => .int k) := rng_nat (by omega)
    rw [hr, OptP_some, forP_dat]
    refine ⟨by rw [List.length_map, List.length_range, hN]; decide, ?_⟩
    refine forL_inv (fun k σ w' => w' = w ∧ ∃ (x : Option IV) (one other : Nat), σ = [some (.d (.int t)), some (.d (.int b)), x, none, some (.d (.int one)), some (.d (.int other))] ∧ Eu t.natAbs b.natAbs k one other) ⟨rfl, none, _, _, rfl, rfl, .inr (by omega), rfl, rfl⟩ ?_ ?_
    · rintro k z σ w' hz ⟨rfl, x, one, other, rfl, he⟩
      rw [RetS_body, asg_nm, OptP_some]
      simp
      by_cases h0 : other = 0
      · subst h0
        simp
        rw [← he.1, Nat.gcd_zero_right]
      · simp [h0]
        have e1 : (one : Int).fmod (other : Int) = ((one % other : Nat) : Int) := by
          rw [Int.fmod_eq_emod_of_nonneg _ (by omega)]; rfl
        rw [e1]
        exact ⟨_, _, _, ⟨rfl, rfl, rfl⟩, he.step (by omega)⟩
    · rintro σ w' ⟨rfl, x, one, other, rfl, he⟩
      rw [List.length_map, List.length_range, hN] at he
      have h0 := he.done hP
      subst h0
      exact ⟨x, by rw [← he.1, Nat.gcd_zero_right]; rfl, rfl⟩
  · rw [hM]
    rintro σ w' ⟨x, rfl, rfl⟩
    have gg : (Nat.gcd t.natAbs b.natAbs).log2 < 9000 := by
      have q := Nat.gcd_le_right t.natAbs (n := b.natAbs) (by omega)
      have q2 : b.natAbs < 2 ^ 9000 := Nat.lt_of_lt_of_le Nat.lt_log2_self (Nat.pow_le_pow_right (by decide) h2)
      exact (Nat.log2_lt (by omega)).mpr (Nat.lt_of_le_of_lt q q2)
    have od : ∀ i : Int, okDiv i ((Nat.gcd t.natAbs b.natAbs : Nat) : Int) = true := fun i => okDiv_small (by omega) (by simpa using gg)
    have ot : okI t = true := decide_eq_true (by omega)
    have ob : okI b = true := decide_eq_true (by omega)
    by_cases hp : 0 < b
    · simp [hp, od, ot, ob, okI_small (i := 1) (by decide), take_len, lowT, lowB, Int.gcd, okL]
    · simp [hp, od, ot, ob, okI_small (i := -1) (by decide), take_len, lowT, lowB, Int.gcd, okL]
theorem low_ok {t b : Int} (hb : b ≠ 0) (h1 : t.natAbs.log2 < 49000) (h2 : b.natAbs.log2 < 9000) :
    fin w.length (evS E bLow [some (.d (.int t)), some (.d (.int b)), none, none, none, none] w) = .ok (.d (.tuple [.int (lowT t b), .int (lowB t b)])) w := low_gen (N := 100000) rfl hb h1 h2
end
end Pv

/-! Part Za: what many laws have in common: kinds. -/
namespace Pv
open PySem
def isI : D → Bool
  | .int _ => true
  | _ => false
def bInt : St := (.cons (.ret (.and (.isi (.var 0) [.int]) (.not (.isi (.var 0) [.bool])))) .nil)
theorem int_ok {E : En} {w : W} (x : D) : fin w.length (evS E bInt [some (.d x)] w) = .ok (.d (.bool (isI x))) w := by
  refine Ret.eq (X := fun _ _ _ => False) ?_ (fun _ _ _ h => h)
  unfold bInt
  cases x <;> simp [tyB, isI, take_len]
theorem bools_map {g : D → Bool} : ∀ xs : List D, bools? (xs.map fun y => PyData.bool (g y)) = some (xs.map g)
  | [] => rfl
  | x :: xs => by
    show (bools? (xs.map fun y => PyData.bool (g y))).map (g x :: ·) = _
    rw [bools_map xs]; rfl
@[simp] theorem all_bools {g : D → Bool} {xs : List D} : bltD .all [.list (xs.map fun y => PyData.bool (g y))] = some (.bool (xs.all g)) := by
  show (bools? (xs.map fun y => PyData.bool (g y))).map (fun bs => PyData.bool (bs.all id)) = _
  rw [bools_map]
  show some (PyData.bool ((xs.map g).all id)) = _
  rw [List.all_map]
  rfl
section
variable {E : En} {w : W} {X : Nat → D → W → Prop} {Q : IV → W → Prop} {i : Nat} {xs : List D} {g : D → Bool} {o : Option IV}
/-- all([f(a) for a in told]) -/
theorem all_comp (hl : xs.length ≤ 16777216) (h : ∀ y ∈ xs, E.Φ i [.d y] w = .ok (.d (.bool (g y))) w) :
    Ret Q X (ev E (.blt .all (.cons (.comp [1] (.call i (.cons (.var 1) .nil)) (.nm 1) (.seq (.var 0)) .nil) .nil)) [some (.d (.tuple xs)), o] w) = Q (.d (.bool (xs.all g))) w := by
  have comp : compL (elF (isNil .nil) (.nm 1) (ev E .nil) (ev E (.call i (.cons (.var 1) .nil))) (wip [some (.d (.tuple xs)), o] [1])) xs w = .ok (xs.map fun y => PyData.bool (g y)) w := by
    refine compL_map fun z hz => ?_
    refine Ret.eq (X := fun _ _ _ => False) ?_ (fun _ _ _ h => h)
    show Ret _ _ (elF true _ _ _ _ _ _)
    rw [Ret_elT]
    simp [wip, h z hz]
  simp [comp, okL, hl]
end
theorem plain_ints : ∀ {xs : List D}, xs.all isI = true → PyData.plainAll xs = true
  | [], _ => rfl
  | x :: xs, h => by
    rw [List.all_cons, Bool.and_eq_true] at h
    rw [PyData.plainAll, plain_ints h.2]
    cases x <;> first | rfl | cases h.1
theorem depth_ints : ∀ {xs : List D}, xs.all isI = true → PyData.depthAll xs ≤ 1
  | [], _ => by simp [PyData.depthAll]
  | x :: xs, h => by
    rw [List.all_cons, Bool.and_eq_true] at h
    have := depth_ints h.2
    cases x <;> first | (cases h.1; done) | (simp [PyData.depthAll, PyData.depth]; omega)
def isPoly : D → Bool
  | .tuple xs => xs.all isI && (match xs with
    | .int i :: _ => i != 0
    | _ => true)
  | _ => false
/-- a polynomial's test, by the index of the integers' test; the end by len or by == () -/
def bPoly (i : Nat) : St := (.cons (.ifs (.or (.not (.isi (.var 0) [.tuple])) (.not (.blt .all (.cons (.comp [1] (.call i (.cons (.var 1) .nil)) (.nm 1) (.seq (.var 0)) .nil) .nil)))) (.cons (.ret (.cst (.bool false))) .nil) .nil) (.cons (.ret (.or (.cmp .Eq (.var 0) (.tup .nil)) (.cmp .NotEq (.sub (.var 0) (.cst (.int (0)))) (.cst (.int (0)))))) .nil))
def bPolyL (i : Nat) : St := (.cons (.ifs (.or (.not (.isi (.var 0) [.tuple])) (.not (.blt .all (.cons (.comp [1] (.call i (.cons (.var 1) .nil)) (.nm 1) (.seq (.var 0)) .nil) .nil)))) (.cons (.ret (.cst (.bool false))) .nil) .nil) (.cons (.ret (.or (.cmp .Eq (.blt .len (.cons (.var 0) .nil)) (.cst (.int (0)))) (.cmp .NotEq (.sub (.var 0) (.cst (.int (0)))) (.cst (.int (0)))))) .nil))
theorem tyT (x : D) : (∃ xs, x = .tuple xs) ∨ (∀ xs, x ≠ .tuple xs) ∧ tyB x .tuple = false := by
  cases x <;> first | exact .inl ⟨_, rfl⟩ | exact .inr ⟨by nofun, rfl⟩
section
variable {E : En} {w : W} {X : Nat → D → W → Prop} {Q : IV → W → Prop} {i : Nat} {x : D} {o : Option IV}
def small (x : D) : Prop := ∀ xs, x = .tuple xs → xs.length ≤ 16777216
theorem eq_unit {xs : List D} (h : okD (.tuple xs) = true) : cmpD .Eq (.tuple xs) (.tuple []) = some xs.isEmpty := by
  show (if okD (.tuple xs) && okD (.tuple []) then some (PyData.eqv (.tuple xs) (.tuple [])) else none) = _
  rw [h]
  cases xs <;> simp [PyData.eqv, PyData.eqvAll, okD, PyData.plain, PyData.plainAll, PyData.depth, PyData.depthAll]
theorem okD_ints {xs : List D} (h : xs.all isI = true) : okD (.tuple xs) = true := by
  unfold okD
  rw [Bool.and_eq_true]
  refine ⟨by rw [PyData.plain]; exact plain_ints h, decide_eq_true ?_⟩
  have := depth_ints h
  rw [PyData.depth]; omega
theorem poly_ok (hx : small x) (h : ∀ y w, E.Φ i [.d y] w = .ok (.d (.bool (isI y))) w) : fin w.length (evS E (bPoly i) [some (.d x), o] w) = .ok (.d (.bool (isPoly x))) w := by
  refine Ret.eq (X := fun _ _ _ => False) ?_ (fun _ _ _ h => h)
  rcases tyT x with ⟨xs, rfl⟩ | ⟨hn, ht⟩
  · unfold bPoly
    have e1 : tyB (.tuple xs) .tuple = true := rfl
    simp only [Ret_fin, RetS_cons, RetS_ifs, ev_or, Ret_tst, ev_not, ev_isi, Ret_bind, ev_var, Ret_ofO, slot_cons0, OptP_some, isiV_d, Option.map_some, List.any_cons, List.any_nil, Bool.or_false, e1, Ret_ok, BoolP_b, Bool.not_true, Bool.false_eq_true, if_false, all_comp (g := isI) (hx xs rfl) (fun y _ => h y w)]
    cases ha : xs.all isI with
    | false => simp [isPoly, ha, take_len]
    | true =>
      have eu := eq_unit (okD_ints ha)
      cases xs with
      | nil => simp [isPoly, take_len, eu, okL]
      | cons y ys =>
        rw [List.all_cons, Bool.and_eq_true] at ha
        cases y with
        | int j => simp [isPoly, isI, take_len, eu, okL, ha.2]; by_cases hj : j = 0 <;> simp [hj]
        | _ => cases ha.1
  · unfold bPoly
    simp [ht, take_len]
    cases x <;> first | rfl | exact (hn _ rfl).elim
theorem polyL_ok (hx : small x) (h : ∀ y w, E.Φ i [.d y] w = .ok (.d (.bool (isI y))) w) : fin w.length (evS E (bPolyL i) [some (.d x), o] w) = .ok (.d (.bool (isPoly x))) w := by
  refine Ret.eq (X := fun _ _ _ => False) ?_ (fun _ _ _ h => h)
  rcases tyT x with ⟨xs, rfl⟩ | ⟨hn, ht⟩
  · unfold bPolyL
    have e1 : tyB (.tuple xs) .tuple = true := rfl
    simp only [Ret_fin, RetS_cons, RetS_ifs, ev_or, Ret_tst, ev_not, ev_isi, Ret_bind, ev_var, Ret_ofO, slot_cons0, OptP_some, isiV_d, Option.map_some, List.any_cons, List.any_nil, Bool.or_false, e1, Ret_ok, BoolP_b, Bool.not_true, Bool.false_eq_true, if_false, all_comp (g := isI) (hx xs rfl) (fun y _ => h y w)]
    cases ha : xs.all isI with
    | false => simp [isPoly, ha, take_len]
    | true =>
      cases xs with
      | nil => simp [isPoly, take_len]
      | cons y ys =>
        rw [List.all_cons, Bool.and_eq_true] at ha
        cases y with
        | int j =>
          have : ¬ ((ys.length : Int) + 1 = 0) := by omega
          simp [isPoly, isI, take_len, ha.2, this]; by_cases hj : j = 0 <;> simp [hj]
        | _ => cases ha.1
  · unfold bPolyL
    simp [ht, take_len]
    cases x <;> first | rfl | exact (hn _ rfl).elim
end
end Pv

/-! Part Zb: what many laws have in common: numbers, rows of numbers. -/
namespace Pv
open PySem
def isNum : D → Bool
  | .tuple [.int a, .int b] => decide (0 < b) && decide (Int.gcd a b = 1)
  | _ => false
def bNum (i : Nat) : St := (.cons (.ifs (.or (.not (.isi (.var 0) [.tuple])) (.or (.cmp .NotEq (.blt .len (.cons (.var 0) .nil)) (.cst (.int (2)))) (.not (.blt .all (.cons (.comp [1] (.call i (.cons (.var 1) .nil)) (.nm 1) (.seq (.var 0)) .nil) .nil))))) (.cons (.ret (.cst (.bool false))) .nil) .nil) (.cons (.ret (.and (.cmp .Gt (.sub (.var 0) (.cst (.int (1)))) (.cst (.int (0)))) (.cmp .Eq (.blt .gcd (.cons (.sub (.var 0) (.cst (.int (0)))) (.cons (.sub (.var 0) (.cst (.int (1)))) .nil))) (.cst (.int (1)))))) .nil))
def bNumL (i l : Nat) : St := (.cons (.ifs (.or (.not (.isi (.var 0) [.tuple])) (.or (.cmp .NotEq (.blt .len (.cons (.var 0) .nil)) (.cst (.int (2)))) (.not (.blt .all (.cons (.comp [1] (.call i (.cons (.var 1) .nil)) (.nm 1) (.seq (.var 0)) .nil) .nil))))) (.cons (.ret (.cst (.bool false))) .nil) .nil) (.cons (.ret (.and (.cmp .Gt (.sub (.var 0) (.cst (.int (1)))) (.cst (.int (0)))) (.cmp .Eq (.call l (.cons (.sub (.var 0) (.cst (.int (0)))) (.cons (.sub (.var 0) (.cst (.int (1)))) .nil))) (.var 0)))) .nil))
def isBro : D → Bool
  | .tuple xs => xs.all isNum && (match xs with
    | .tuple [.int a, _] :: _ => a != 0
    | _ => true)
  | _ => false
def bBro (i g : Nat) : St := (.cons (.ifs (.or (.not (.isi (.var 0) [.tuple])) (.not (.blt .all (.cons (.comp [1] (.call i (.cons (.var 1) .nil)) (.nm 1) (.seq (.var 0)) .nil) .nil)))) (.cons (.ret (.cst (.bool false))) .nil) .nil) (.cons (.ret (.or (.cmp .Eq (.var 0) (.tup .nil)) (.cmp .NotEq (.sub (.var 0) (.cst (.int (0)))) (.glob g)))) .nil))
def bBroL (i : Nat) : St := (.cons (.ifs (.or (.not (.isi (.var 0) [.tuple])) (.not (.blt .all (.cons (.comp [1] (.call i (.cons (.var 1) .nil)) (.nm 1) (.seq (.var 0)) .nil) .nil)))) (.cons (.ret (.cst (.bool false))) .nil) .nil) (.cons (.ret (.or (.cmp .Eq (.blt .len (.cons (.var 0) .nil)) (.cst (.int (0)))) (.cmp .NotEq (.sub (.sub (.var 0) (.cst (.int (0)))) (.cst (.int (0)))) (.cst (.int (0)))))) .nil))
@[simp] theorem gcd_ii {a b : Int} : bltD .gcd [.int a, .int b] = some (.int (Int.gcd a b : Nat)) := rfl
theorem low_iff {a b : Int} (hb : 0 < b) : (lowT a b = a ∧ lowB a b = b) ↔ Int.gcd a b = 1 := by
  unfold lowT lowB
  rw [if_pos hb, Int.one_mul, Int.one_mul]
  have hg : 0 < Int.gcd a b := Int.gcd_pos_of_ne_zero_right _ (by omega)
  constructor
  · rintro ⟨_, h⟩
    rw [Int.fdiv_eq_ediv_of_nonneg _ (by omega)] at h
    have hd : ((Int.gcd a b : Nat) : Int) ∣ b := Int.gcd_dvd_right ..
    have e := Int.ediv_mul_cancel hd
    rw [h] at e
    have : ((Int.gcd a b : Nat) : Int) = 1 := by
      have h1 : b * (((Int.gcd a b : Nat) : Int) - 1) = 0 := by rw [Int.mul_sub, e]; omega
      rcases Int.mul_eq_zero.mp h1 with h2 | h2 <;> omega
    omega
  · intro h
    rw [h]
    simp
theorem eq_pair {a b c e : Int} : cmpD .Eq (.tuple [.int a, .int b]) (.tuple [.int c, .int e]) = some (decide (a = c ∧ b = e)) := by
  show (if okD (.tuple [.int a, .int b]) && okD (.tuple [.int c, .int e]) then some (PyData.eqv (.tuple [.int a, .int b]) (.tuple [.int c, .int e])) else none) = _
  rw [okD_ints (by rfl), okD_ints (by rfl)]
  simp only [Bool.and_self, if_true, PyData.eqv, PyData.eqvAll]
  congr 1
  by_cases h1 : a = c <;> by_cases h2 : b = e <;> simp [h1, h2]
theorem ne_pair {a b c e : Int} : cmpD .NotEq (.tuple [.int a, .int b]) (.tuple [.int c, .int e]) = some (!decide (a = c ∧ b = e)) := by
  show (if okD (.tuple [.int a, .int b]) && okD (.tuple [.int c, .int e]) then some (!PyData.eqv (.tuple [.int a, .int b]) (.tuple [.int c, .int e])) else none) = _
  rw [okD_ints (by rfl), okD_ints (by rfl)]
  simp only [Bool.and_self, if_true, PyData.eqv, PyData.eqvAll]
  congr 2
  by_cases h1 : a = c <;> by_cases h2 : b = e <;> simp [h1, h2]
/-- how great an integer within may be -/
def SmI : D → Prop
  | .int i => i.natAbs.log2 < 9000
  | _ => True
def SmE : D → Prop
  | .tuple ys => ys.length ≤ 1000 ∧ ∀ z ∈ ys, SmI z
  | _ => True
def SmD : D → Prop
  | .tuple xs => xs.length ≤ 1000 ∧ ∀ y ∈ xs, SmE y
  | _ => True
section
variable {E : En} {w : W} {X : Nat → D → W → Prop} {Q : IV → W → Prop} {i l : Nat} {x : D} {o : Option IV}
theorem num_ok (hx : small x) (h : ∀ y w, E.Φ i [.d y] w = .ok (.d (.bool (isI y))) w) : fin w.length (evS E (bNum i) [some (.d x), o] w) = .ok (.d (.bool (isNum x))) w := by
  refine Ret.eq (X := fun _ _ _ => False) ?_ (fun _ _ _ h => h)
  rcases tyT x with ⟨xs, rfl⟩ | ⟨hn, ht⟩
  · unfold bNum
    have e1 : tyB (.tuple xs) .tuple = true := rfl
    match xs, hx with
    | [], _ => simp [isNum, tyB, take_len]
    | [_], _ => simp [isNum, tyB, take_len]
    | a :: b :: c :: r, _ =>
      have : ¬ ((r.length : Int) + 1 + 1 + 1 = 2) := by omega
      simp [isNum, tyB, take_len, this]
    | [a, b], hx =>
      simp only [Ret_fin, RetS_cons, RetS_ifs, ev_or, Ret_tst, ev_not, ev_isi, Ret_bind, ev_var, Ret_ofO, slot_cons0, OptP_some, isiV_d, Option.map_some, List.any_cons, List.any_nil, Bool.or_false, e1, Ret_ok, BoolP_b, Bool.not_true, Bool.false_eq_true, if_false, Ret_if, Ret_cmp, Ret_blt (f := .len), evA_cons, evA_nil, rdAll_cons, rdAll_nil, rd_d, Option.bind_some, len_tt, ev_cst, cmpV_dd, ne_ii, List.length_cons, List.length_nil, decide_true, Nat.reduceAdd, Int.reduceEq, Int.cast_ofNat_Int, all_comp (g := isI) (hx _ rfl) (fun y _ => h y w)]
      cases a with
      | int a =>
        cases b with
        | int b =>
          simp [isNum, isI, take_len]
          by_cases hb : 0 < b <;> simp [hb, take_len]
          omega
        | _ => simp [isNum, isI, take_len]
      | _ => simp [isNum, isI, take_len]
  · unfold bNum
    simp [ht, take_len]
    cases x <;> first | rfl | exact (hn _ rfl).elim
theorem numL_ok (hx : SmE x) (h : ∀ y w, E.Φ i [.d y] w = .ok (.d (.bool (isI y))) w)
    (hl : ∀ t b w, b ≠ 0 → t.natAbs.log2 < 49000 → b.natAbs.log2 < 9000 → E.Φ l [.d (.int t), .d (.int b)] w = .ok (.d (.tuple [.int (lowT t b), .int (lowB t b)])) w) :
    fin w.length (evS E (bNumL i l) [some (.d x), o] w) = .ok (.d (.bool (isNum x))) w := by
  refine Ret.eq (X := fun _ _ _ => False) ?_ (fun _ _ _ h => h)
  rcases tyT x with ⟨xs, rfl⟩ | ⟨hn, ht⟩
  · unfold bNumL
    have e1 : tyB (.tuple xs) .tuple = true := rfl
    have hlen : xs.length ≤ 16777216 := Nat.le_trans hx.1 (by decide)
    match xs, hx, hlen with
    | [], _, _ => simp [isNum, tyB, take_len]
    | [_], _, _ => simp [isNum, tyB, take_len]
    | a :: b :: c :: r, _, _ =>
      have : ¬ ((r.length : Int) + 1 + 1 + 1 = 2) := by omega
      simp [isNum, tyB, take_len, this]
    | [a, b], hx, hlen =>
      simp only [Ret_fin, RetS_cons, RetS_ifs, ev_or, Ret_tst, ev_not, ev_isi, Ret_bind, ev_var, Ret_ofO, slot_cons0, OptP_some, isiV_d, Option.map_some, List.any_cons, List.any_nil, Bool.or_false, e1, Ret_ok, BoolP_b, Bool.not_true, Bool.false_eq_true, if_false, Ret_if, Ret_cmp, Ret_blt (f := .len), evA_cons, evA_nil, rdAll_cons, rdAll_nil, rd_d, Option.bind_some, len_tt, ev_cst, cmpV_dd, ne_ii, List.length_cons, List.length_nil, decide_true, Nat.reduceAdd, Int.reduceEq, Int.cast_ofNat_Int, all_comp (g := isI) hlen (fun y _ => h y w)]
      cases a with
      | int a =>
        cases b with
        | int b =>
          have s1 : a.natAbs.log2 < 9000 := hx.2 (.int a) (by simp)
          have s2 : b.natAbs.log2 < 9000 := hx.2 (.int b) (by simp)
          simp [isNum, isI, take_len]
          by_cases hb : 0 < b
          · simp [hb, take_len, hl a b w (by omega) (by omega) s2, eq_pair, low_iff hb]
          · simp [hb, take_len]
        | _ => simp [isNum, isI, take_len]
      | _ => simp [isNum, isI, take_len]
  · unfold bNumL
    simp [ht, take_len]
    cases x <;> first | rfl | exact (hn _ rfl).elim
theorem num_cases {x : D} (h : isNum x = true) : ∃ a b : Int, x = .tuple [.int a, .int b] ∧ 0 < b ∧ Int.gcd a b = 1 := by
  unfold isNum at h
  split at h
  · rw [Bool.and_eq_true, decide_eq_true_eq, decide_eq_true_eq] at h
    exact ⟨_, _, rfl, h.1, h.2⟩
  · cases h
theorem plain_nums : ∀ {xs : List D}, xs.all isNum = true → PyData.plainAll xs = true
  | [], _ => rfl
  | x :: xs, h => by
    rw [List.all_cons, Bool.and_eq_true] at h
    obtain ⟨a, b, rfl, _⟩ := num_cases h.1
    rw [PyData.plainAll, plain_nums h.2]
    rfl
theorem depth_nums : ∀ {xs : List D}, xs.all isNum = true → PyData.depthAll xs ≤ 3
  | [], _ => by simp [PyData.depthAll]
  | x :: xs, h => by
    rw [List.all_cons, Bool.and_eq_true] at h
    have := depth_nums h.2
    obtain ⟨a, b, rfl, _⟩ := num_cases h.1
    simp [PyData.depthAll, PyData.depth]; omega
theorem okD_nums {xs : List D} (h : xs.all isNum = true) : okD (.tuple xs) = true := by
  unfold okD
  rw [Bool.and_eq_true]
  refine ⟨by rw [PyData.plain]; exact plain_nums h, decide_eq_true ?_⟩
  have := depth_nums h
  rw [PyData.depth]; omega
theorem bro_ok {g : Nat} (hg : E.G g = some (.tuple [.int 0, .int 1])) (hx : small x) (h : ∀ xs y, x = .tuple xs → y ∈ xs → E.Φ i [.d y] w = .ok (.d (.bool (isNum y))) w) : fin w.length (evS E (bBro i g) [some (.d x), o] w) = .ok (.d (.bool (isBro x))) w := by
  refine Ret.eq (X := fun _ _ _ => False) ?_ (fun _ _ _ h => h)
  rcases tyT x with ⟨xs, rfl⟩ | ⟨hn, ht⟩
  · unfold bBro
    have e1 : tyB (.tuple xs) .tuple = true := rfl
    simp only [Ret_fin, RetS_cons, RetS_ifs, ev_or, Ret_tst, ev_not, ev_isi, Ret_bind, ev_var, Ret_ofO, slot_cons0, OptP_some, isiV_d, Option.map_some, List.any_cons, List.any_nil, Bool.or_false, e1, Ret_ok, BoolP_b, Bool.not_true, Bool.false_eq_true, if_false, all_comp (g := isNum) (hx xs rfl) (fun y hy => h xs y rfl hy)]
    cases ha : xs.all isNum with
    | false => simp [isBro, ha, take_len]
    | true =>
      have eu := eq_unit (okD_nums ha)
      cases xs with
      | nil => simp [isBro, take_len, eu, okL]
      | cons y ys =>
        have ha' := ha
        rw [List.all_cons, Bool.and_eq_true] at ha'
        obtain ⟨a, b, rfl, hb, hg1⟩ := num_cases ha'.1
        simp [isBro, take_len, eu, okL, ha, hg, ne_pair]
        by_cases h0 : a = 0
        · subst h0
          have : b = 1 := by
            rw [Int.gcd_zero_left] at hg1; omega
          simp [this]
        · simp [h0]
  · unfold bBro
    simp [ht, take_len]
    cases x <;> first | rfl | exact (hn _ rfl).elim
theorem broL_ok (hx : small x) (h : ∀ xs y, x = .tuple xs → y ∈ xs → E.Φ i [.d y] w = .ok (.d (.bool (isNum y))) w) : fin w.length (evS E (bBroL i) [some (.d x), o] w) = .ok (.d (.bool (isBro x))) w := by
  refine Ret.eq (X := fun _ _ _ => False) ?_ (fun _ _ _ h => h)
  rcases tyT x with ⟨xs, rfl⟩ | ⟨hn, ht⟩
  · unfold bBroL
    have e1 : tyB (.tuple xs) .tuple = true := rfl
    simp only [Ret_fin, RetS_cons, RetS_ifs, ev_or, Ret_tst, ev_not, ev_isi, Ret_bind, ev_var, Ret_ofO, slot_cons0, OptP_some, isiV_d, Option.map_some, List.any_cons, List.any_nil, Bool.or_false, e1, Ret_ok, BoolP_b, Bool.not_true, Bool.false_eq_true, if_false, all_comp (g := isNum) (hx xs rfl) (fun y hy => h xs y rfl hy)]
    cases ha : xs.all isNum with
    | false => simp [isBro, ha, take_len]
    | true =>
      cases xs with
      | nil => simp [isBro, take_len]
      | cons y ys =>
        have ha' := ha
        rw [List.all_cons, Bool.and_eq_true] at ha'
        obtain ⟨a, b, rfl, hb, hg1⟩ := num_cases ha'.1
        have hl : ¬ ((ys.length : Int) + 1 = 0) := by omega
        simp [isBro, take_len, ha, hl]
        by_cases h0 : a = 0 <;> simp [h0]
  · unfold bBroL
    simp [ht, take_len]
    cases x <;> first | rfl | exact (hn _ rfl).elim
end
end Pv

/-! Part Pa: fractions as the numbers of these programs. -/
namespace Pv
open PySem
/-- a number as data -/
def nD (r : Rat) : D := .tuple [.int r.num, .int (r.den : Int)]
theorem rat_parts {a b : Int} (hb : 0 < b) (hg : Int.gcd a b = 1) : ((a : Rat) / (b : Rat)).num = a ∧ (((a : Rat) / (b : Rat)).den : Int) = b := by
  have hg : a.natAbs.Coprime b.natAbs := hg
  have e : (⟨a, b.natAbs, by omega, hg⟩ : Rat) = (a : Rat) / (b : Rat) := by
    rw [Rat.mk_eq_divInt, show ((b.natAbs : Nat) : Int) = b by omega, Rat.divInt_eq_div]
  rw [← e]
  exact ⟨rfl, by show ((b.natAbs : Nat) : Int) = b; omega⟩
theorem nD_of {a b : Int} (hb : 0 < b) (hg : Int.gcd a b = 1) : (.tuple [.int a, .int b] : D) = nD ((a : Rat) / (b : Rat)) := by
  obtain ⟨h1, h2⟩ := rat_parts hb hg
  unfold nD
  rw [h1, h2]
theorem rat_eq {t b u v : Int} (hb : b ≠ 0) (hv : v ≠ 0) (h : t * v = u * b) : (t : Rat) / (b : Rat) = (u : Rat) / (v : Rat) := by
  rw [← Rat.divInt_eq_div, ← Rat.divInt_eq_div, Rat.divInt_eq_divInt_iff hb hv]
  exact h
theorem low_nD {t b : Int} (hb : b ≠ 0) : (.tuple [.int (lowT t b), .int (lowB t b)] : D) = nD ((t : Rat) / (b : Rat)) := by
  have hg : 0 < Int.gcd t b := Int.gcd_pos_of_ne_zero_right _ hb
  have d1 : ((Int.gcd t b : Nat) : Int) ∣ t := Int.gcd_dvd_left ..
  have d2 : ((Int.gcd t b : Nat) : Int) ∣ b := Int.gcd_dvd_right ..
  have hgc : Int.gcd (t / (Int.gcd t b : Nat)) (b / (Int.gcd t b : Nat)) = 1 := Int.gcd_ediv_gcd_ediv_gcd hg
  have m1 := Int.ediv_mul_cancel d1
  have m2 := Int.ediv_mul_cancel d2
  have gp : (1 : Int) ≤ (Int.gcd t b : Nat) := by omega
  by_cases hp : 0 < b
  · have e1 : lowT t b = t / (Int.gcd t b : Nat) := by
      unfold lowT
      rw [if_pos hp, Int.one_mul, Int.fdiv_eq_ediv_of_nonneg _ (by omega)]
    have e2 : lowB t b = b / (Int.gcd t b : Nat) := by
      unfold lowB
      rw [if_pos hp, Int.one_mul, Int.fdiv_eq_ediv_of_nonneg _ (by omega)]
    rw [e1, e2]
    generalize t / (Int.gcd t b : Nat) = u at *
    generalize b / (Int.gcd t b : Nat) = v at *
    generalize ((Int.gcd t b : Nat) : Int) = g at *
    have hv : 0 < v := by
      rcases Int.lt_or_le 0 v with h | h
      · exact h
      · have : v * g ≤ 0 := Int.mul_nonpos_of_nonpos_of_nonneg h (by omega)
        omega
    rw [nD_of hv hgc]
    exact congrArg nD (rat_eq (by omega) hb (by grind))
  · have e1 : lowT t b = -(t / (Int.gcd t b : Nat)) := by
      unfold lowT
      rw [if_neg hp, Int.fdiv_eq_ediv_of_nonneg _ (by omega), show (-1 : Int) * t = -t by omega, Int.neg_ediv_of_dvd d1]
    have e2 : lowB t b = -(b / (Int.gcd t b : Nat)) := by
      unfold lowB
      rw [if_neg hp, Int.fdiv_eq_ediv_of_nonneg _ (by omega), show (-1 : Int) * b = -b by omega, Int.neg_ediv_of_dvd d2]
    rw [e1, e2]
    generalize t / (Int.gcd t b : Nat) = u at *
    generalize b / (Int.gcd t b : Nat) = v at *
    generalize ((Int.gcd t b : Nat) : Int) = g at *
    have hv : 0 < -v := by
      rcases Int.lt_or_le v 0 with h | h
      · omega
      · have : 0 ≤ v * g := Int.mul_nonneg h (by omega)
        omega
    rw [nD_of hv (by rw [Int.neg_gcd, Int.gcd_neg]; exact hgc)]
    exact congrArg nD (rat_eq (by omega) hb (by grind))
theorem isNum_nD (r : Rat) : isNum (nD r) = true := by
  show (decide (0 < (r.den : Int)) && decide (Int.gcd r.num r.den = 1)) = true
  rw [decide_eq_true (by have := r.den_nz; omega), decide_eq_true (by exact r.reduced)]
  rfl
theorem num_nD {x : D} (h : isNum x = true) : ∃ r, x = nD r := by
  obtain ⟨a, b, rfl, hb, hg⟩ := num_cases h
  exact ⟨_, nD_of hb hg⟩
theorem nD_inj {r s : Rat} (h : nD r = nD s) : r = s := by
  unfold nD at h
  simp at h
  exact Rat.ext h.1 (by omega)
end Pv

/-! Part Pb: rows of numbers as polynomials: their values, sums, products. -/
namespace Pv
open PySem
/-- the value at x, the highest power first -/
def vl (f : List Rat) (x : Rat) : Rat := f.foldl (fun t a => t * x + a) 0
def toR (f : List Int) : List Rat := f.map fun (a : Int) => (a : Rat)
theorem fold_vl (x : Rat) : ∀ (f : List Rat) (t : Rat), f.foldl (fun t a => t * x + a) t = t * x ^ f.length + vl f x
  | [], t => by
    show t = t * x ^ 0 + 0
    grind
  | a :: f, t => by
    show f.foldl (fun t a => t * x + a) (t * x + a) = t * x ^ (f.length + 1) + f.foldl (fun t a => t * x + a) (0 * x + a)
    rw [fold_vl x f (t * x + a), fold_vl x f (0 * x + a)]
    grind
theorem vl_nil (x : Rat) : vl [] x = 0 := rfl
theorem vl_cons (a : Rat) (f : List Rat) (x : Rat) : vl (a :: f) x = a * x ^ f.length + vl f x := by
  show f.foldl (fun t a => t * x + a) (0 * x + a) = _
  rw [fold_vl x f (0 * x + a)]
  grind
theorem vl_snoc (f : List Rat) (a x : Rat) : vl (f ++ [a]) x = vl f x * x + a := by
  unfold vl
  rw [List.foldl_append]
  rfl
/-- noughts ahead -/
theorem vl_zero (f : List Rat) (x : Rat) : vl (0 :: f) x = vl f x := by rw [vl_cons]; grind
def strip : List Rat → List Rat
  | [] => []
  | a :: f => if a = 0 then strip f else a :: f
theorem vl_strip (x : Rat) : ∀ f : List Rat, vl (strip f) x = vl f x
  | [] => rfl
  | a :: f => by
    unfold strip
    split
    · rename_i h
      rw [h, vl_zero, vl_strip x f]
    · rfl
theorem vl_pad (x : Rat) (f : List Rat) : ∀ n : Nat, vl (List.replicate n 0 ++ f) x = vl f x
  | 0 => rfl
  | n + 1 => by
    show vl (0 :: (List.replicate n 0 ++ f)) x = _
    rw [vl_zero, vl_pad x f n]
theorem vl_add (x : Rat) : ∀ (f g : List Rat), f.length = g.length → vl (List.zipWith (· + ·) f g) x = vl f x + vl g x
  | [], [], _ => by show (0 : Rat) = 0 + 0; grind
  | a :: f, b :: g, h => by
    have h' : f.length = g.length := by simpa using h
    rw [List.zipWith_cons_cons, vl_cons, vl_cons, vl_cons, vl_add x f g h', List.length_zipWith, ← h', Nat.min_self]
    grind
  | [], _ :: _, h => by cases h
  | _ :: _, [], h => by cases h
theorem vl_scale (k x : Rat) : ∀ f : List Rat, vl (f.map (k * ·)) x = k * vl f x
  | [] => by show (0 : Rat) = k * 0; grind
  | a :: f => by rw [List.map_cons, vl_cons, vl_cons, vl_scale k x f, List.length_map]; grind
/-- one place is changed -/
theorem vl_set (x d : Rat) : ∀ (f : List Rat) (j : Nat) (a : Rat), f[j]? = some a → vl (f.set j (a + d)) x = vl f x + d * x ^ (f.length - 1 - j)
  | [], j, a, h => by simp at h
  | b :: f, 0, a, h => by
    have e : b = a := by simpa using h
    subst e
    rw [List.set_cons_zero, vl_cons, vl_cons, List.length_cons, show f.length + 1 - 1 - 0 = f.length by omega]
    grind
  | b :: f, j + 1, a, h => by
    have h' : f[j]? = some a := by simpa using h
    rw [List.set_cons_succ, vl_cons, vl_cons, vl_set x d f j a h', List.length_set, List.length_cons, show f.length + 1 - 1 - (j + 1) = f.length - 1 - j by omega]
    grind
/-! the value of whole rows at a fraction -/
def hgo (p q : Int) : List Int → Int → Int → Int × Int
  | [], t, b => (t, b)
  | a :: f, t, b => hgo p q f (t * p + a * (b * q)) (b * q)
theorem hgo_vl {p q : Int} (hq : q ≠ 0) : ∀ (f : List Int) (t b : Int), b ≠ 0 → (hgo p q f t b).2 ≠ 0 ∧ ((hgo p q f t b).1 : Rat) / ((hgo p q f t b).2 : Rat) = (toR f).foldl (fun u a => u * ((p : Rat) / (q : Rat)) + a) ((t : Rat) / (b : Rat))
  | [], t, b, hb => ⟨hb, rfl⟩
  | a :: f, t, b, hb => by
    have hbq : b * q ≠ 0 := Int.mul_ne_zero hb hq
    obtain ⟨h1, h2⟩ := hgo_vl hq f (t * p + a * (b * q)) (b * q) hbq
    refine ⟨h1, ?_⟩
    show ((hgo p q f (t * p + a * (b * q)) (b * q)).1 : Rat) / ((hgo p q f (t * p + a * (b * q)) (b * q)).2 : Rat) = _
    rw [h2]
    show List.foldl _ _ (toR f) = List.foldl _ ((t : Rat) / (b : Rat) * ((p : Rat) / (q : Rat)) + (a : Rat)) (toR f)
    congr 1
    have hb' : (b : Rat) ≠ 0 := by
      intro z; exact hb (by exact_mod_cast z)
    have hq' : (q : Rat) ≠ 0 := by
      intro z; exact hq (by exact_mod_cast z)
    rw [Rat.intCast_add, Rat.intCast_mul, Rat.intCast_mul, Rat.intCast_mul]
    grind
end Pv

/-! Part Qa: the texts of functions that many laws have (printed by gen.py lib). -/
namespace Pv
open PySem
/-- is_integer, slots value -/
def B_is_integer : St := (.cons (.ret (.and (.isi (.var 0) [.int]) (.not (.isi (.var 0) [.bool])))) .nil)
/-- lowest, slots top bottom common -/
def B_lowest : St := (.cons (.asg (.nm 2) (.blt .gcd (.cons (.var 0) (.cons (.var 1) .nil)))) (.cons (.ifs (.cmp .Lt (.var 1) (.cst (.int (0)))) (.cons (.asg (.nm 2) (.neg (.var 2))) .nil) .nil) (.cons (.ret (.tup (.cons (.bin .FloorDiv (.var 0) (.var 2)) (.cons (.bin .FloorDiv (.var 1) (.var 2)) .nil)))) .nil)))
/-- is_number, slots told a -/
def B_is_number (i_is_integer : Nat) : St := (.cons (.ifs (.or (.not (.isi (.var 0) [.tuple])) (.or (.cmp .NotEq (.blt .len (.cons (.var 0) .nil)) (.cst (.int (2)))) (.not (.blt .all (.cons (.comp [1] (.call i_is_integer (.cons (.var 1) .nil)) (.nm 1) (.seq (.var 0)) .nil) .nil))))) (.cons (.ret (.cst (.bool false))) .nil) .nil) (.cons (.ret (.and (.cmp .Gt (.sub (.var 0) (.cst (.int (1)))) (.cst (.int (0)))) (.cmp .Eq (.blt .gcd (.cons (.sub (.var 0) (.cst (.int (0)))) (.cons (.sub (.var 0) (.cst (.int (1)))) .nil))) (.cst (.int (1)))))) .nil))
/-- check_number, slots told -/
def B_check_number (i_is_number : Nat) : St := (.cons (.ifs (.not (.call i_is_number (.cons (.var 0) .nil))) (.cons .stuck .nil) .nil) .nil)
/-- check_integer, slots told least -/
def B_check_integer (i_is_integer : Nat) : St := (.cons (.ifs (.or (.not (.call i_is_integer (.cons (.var 0) .nil))) (.and (.cmp .IsNot (.var 1) (.cst (.none))) (.cmp .Lt (.var 0) (.var 1)))) (.cons .stuck .nil) .nil) .nil)
/-- is_polynomial, slots told a -/
def B_is_polynomial (i_is_integer : Nat) : St := (.cons (.ifs (.or (.not (.isi (.var 0) [.tuple])) (.not (.blt .all (.cons (.comp [1] (.call i_is_integer (.cons (.var 1) .nil)) (.nm 1) (.seq (.var 0)) .nil) .nil)))) (.cons (.ret (.cst (.bool false))) .nil) .nil) (.cons (.ret (.or (.cmp .Eq (.var 0) (.tup .nil)) (.cmp .NotEq (.sub (.var 0) (.cst (.int (0)))) (.cst (.int (0)))))) .nil))
/-- check_polynomial, slots f -/
def B_check_polynomial (i_is_polynomial : Nat) : St := (.cons (.ifs (.not (.call i_is_polynomial (.cons (.var 0) .nil))) (.cons .stuck .nil) .nil) .nil)
/-- stripped, slots row nought at -/
def B_stripped : St := (.cons (.asg (.nm 2) (.cst (.int (0)))) (.cons (.whl (.and (.cmp .Lt (.var 2) (.blt .len (.cons (.var 0) .nil))) (.cmp .Eq (.sub (.var 0) (.var 2)) (.var 1))) (.cons (.asg (.nm 2) (.bin .Add (.var 2) (.cst (.int (1))))) .nil)) (.cons (.ret (.blt .tuple (.cons (.sl (.var 0) (.cons (.var 2) .nil) .nil) .nil))) .nil)))
/-- value_of, slots f x total bottom at a -/
def B_value_of (i_lowest : Nat) : St := (.cons (.asg (.tup (.cons (.nm 2) (.cons (.nm 3) .nil))) (.tup (.cons (.cst (.int (0))) (.cons (.cst (.int (1))) .nil)))) (.cons (.for_ (.tup (.cons (.nm 4) (.cons (.nm 5) .nil))) (.enm (.var 0)) (.cons (.asg (.nm 3) (.ite (.cmp .Gt (.var 4) (.cst (.int (0)))) (.bin .Mult (.var 3) (.sub (.var 1) (.cst (.int (1))))) (.cst (.int (1))))) (.cons (.asg (.nm 2) (.bin .Add (.bin .Mult (.var 2) (.sub (.var 1) (.cst (.int (0))))) (.bin .Mult (.var 5) (.var 3)))) .nil))) (.cons (.ret (.call i_lowest (.cons (.var 2) (.cons (.var 3) .nil)))) .nil)))
/-- value, slots f x -/
def B_value (i_check_polynomial i_check_number i_value_of : Nat) : St := (.cons (.expr (.call i_check_polynomial (.cons (.var 0) .nil))) (.cons (.expr (.call i_check_number (.cons (.var 1) .nil))) (.cons (.ret (.call i_value_of (.cons (.var 0) (.cons (.var 1) .nil)))) .nil)))
/-- padded, slots row many nought -/
def B_padded : St := (.cons (.ret (.bin .Add (.bin .Mult (.tup (.cons (.var 2) .nil)) (.bin .Sub (.var 1) (.blt .len (.cons (.var 0) .nil)))) (.blt .tuple (.cons (.var 0) .nil)))) .nil)
/-- sum_of, slots f g many a b -/
def B_sum_of (i_stripped i_padded : Nat) : St := (.cons (.asg (.nm 2) (.blt .max (.cons (.blt .len (.cons (.var 0) .nil)) (.cons (.blt .len (.cons (.var 1) .nil)) .nil)))) (.cons (.ret (.call i_stripped (.cons (.comp [3, 4] (.bin .Add (.var 3) (.var 4)) (.tup (.cons (.nm 3) (.cons (.nm 4) .nil))) (.zp (.call i_padded (.cons (.var 0) (.cons (.var 2) (.cons (.cst (.int (0))) .nil)))) (.call i_padded (.cons (.var 1) (.cons (.var 2) (.cons (.cst (.int (0))) .nil))))) .nil) (.cons (.cst (.int (0))) .nil)))) .nil))
/-- times_of_two, slots f g found at a place b -/
def B_times_of_two : St := (.cons (.asg (.nm 2) (.new (.bin .Mult (.lst (.cons (.cst (.int (0))) .nil)) (.blt .max (.cons (.cst (.int (0))) (.cons (.bin .Sub (.bin .Add (.blt .len (.cons (.var 0) .nil)) (.blt .len (.cons (.var 1) .nil))) (.cst (.int (1)))) .nil)))))) (.cons (.for_ (.tup (.cons (.nm 3) (.cons (.nm 4) .nil))) (.enm (.var 0)) (.cons (.for_ (.tup (.cons (.nm 5) (.cons (.nm 6) .nil))) (.enm (.var 1)) (.cons (.stix (.var 2) (.bin .Add (.var 3) (.var 5)) (.bin .Add (.sub (.var 2) (.bin .Add (.var 3) (.var 5))) (.bin .Mult (.var 4) (.var 6)))) .nil)) .nil)) (.cons (.ret (.ite (.and (.cmp .NotEq (.var 0) (.tup .nil)) (.cmp .NotEq (.var 1) (.tup .nil))) (.blt .tuple (.cons (.var 2) .nil)) (.tup .nil))) .nil)))
/-- scaled_by, slots f k a -/
def B_scaled_by : St := (.cons (.ret (.ite (.cmp .NotEq (.var 1) (.cst (.int (0)))) (.blt .tuple (.cons (.comp [2] (.bin .Mult (.var 1) (.var 2)) (.nm 2) (.seq (.var 0)) .nil) .nil)) (.tup .nil))) .nil)
/-- plus, slots f g -/
def B_plus (i_check_polynomial i_sum_of : Nat) : St := (.cons (.expr (.call i_check_polynomial (.cons (.var 0) .nil))) (.cons (.expr (.call i_check_polynomial (.cons (.var 1) .nil))) (.cons (.ret (.call i_sum_of (.cons (.var 0) (.cons (.var 1) .nil)))) .nil)))
/-- times, slots f g -/
def B_times (i_check_polynomial i_times_of_two : Nat) : St := (.cons (.expr (.call i_check_polynomial (.cons (.var 0) .nil))) (.cons (.expr (.call i_check_polynomial (.cons (.var 1) .nil))) (.cons (.ret (.call i_times_of_two (.cons (.var 0) (.cons (.var 1) .nil)))) .nil)))
/-- scaled, slots f k -/
def B_scaled (i_check_polynomial i_check_integer i_scaled_by : Nat) : St := (.cons (.expr (.call i_check_polynomial (.cons (.var 0) .nil))) (.cons (.expr (.call i_check_integer (.cons (.var 1) (.cons (.cst (.none)) .nil)))) (.cons (.ret (.call i_scaled_by (.cons (.var 0) (.cons (.var 1) .nil)))) .nil)))
/-- power, slots f k found turn -/
def B_power (i_check_polynomial i_check_integer i_times_of_two : Nat) : St := (.cons (.expr (.call i_check_polynomial (.cons (.var 0) .nil))) (.cons (.expr (.call i_check_integer (.cons (.var 1) (.cons (.cst (.int (0))) .nil)))) (.cons (.ifs (.cmp .Gt (.var 1) (.cst (.int (6)))) (.cons .stuck .nil) .nil) (.cons (.asg (.nm 2) (.tup (.cons (.cst (.int (1))) .nil))) (.cons (.for_ (.nm 3) (.rng (.cons (.var 1) .nil)) (.cons (.asg (.nm 2) (.call i_times_of_two (.cons (.var 2) (.cons (.var 0) .nil)))) .nil)) (.cons (.ret (.var 2)) .nil))))))
/-- _law_take, slots pot many cell drawn_now mixed -/
def B_law_take : St := (.cons (.ifs (.and (.cmp .Eq (.sub (.var 0) (.cst (.int (0)))) (.cst (.int (0)))) (.cmp .Lt (.sub (.var 0) (.cst (.int (2)))) (.blt .len (.cons (.var 0) .nil)))) (.cons (.asg (.nm 2) (.sub (.var 0) (.sub (.var 0) (.cst (.int (2)))))) (.cons (.auix .Add (.var 0) (.cst (.int (2))) (.cst (.int (1)))) (.cons (.ifs (.cmp .GtE (.var 2) (.bin .Pow (.cst (.int (10))) (.cst (.int (18))))) (.cons (.stix (.var 0) (.cst (.int (0))) (.bin .Sub (.var 2) (.bin .Pow (.cst (.int (10))) (.cst (.int (18)))))) .nil) (.cons (.asg (.nm 4) (.bin .Mod (.blt .int (.cons (.var 2) .nil)) (.cst (.int (2147483647))))) (.cons (.asg (.nm 4) (.bin .Mod (.blt .int (.cons (.bin .Add (.bin .Add (.bin .Mult (.var 4) (.var 4)) (.bin .Mult (.cst (.int (69621))) (.var 4))) (.bin .Mult (.cst (.int (977))) (.sub (.var 0) (.cst (.int (2)))))) .nil)) (.cst (.int (2147483629))))) (.cons (.stix (.var 0) (.cst (.int (1))) (.bin .Mod (.blt .int (.cons (.bin .Add (.sub (.var 0) (.cst (.int (1)))) (.var 4)) .nil)) (.cst (.int (2147483629))))) .nil)))) .nil))) .nil) (.cons (.ifs (.cmp .Gt (.sub (.var 0) (.cst (.int (0)))) (.cst (.int (0)))) (.cons (.asg (.nm 3) (.bin .Mod (.blt .int (.cons (.sub (.var 0) (.cst (.int (0)))) .nil)) (.var 1))) (.cons (.stix (.var 0) (.cst (.int (0))) (.bin .FloorDiv (.sub (.var 0) (.cst (.int (0)))) (.var 1))) (.cons (.ret (.var 3)) .nil))) .nil) (.cons (.stix (.var 0) (.cst (.int (1))) (.bin .Mod (.blt .int (.cons (.bin .Add (.bin .Add (.bin .Mult (.sub (.var 0) (.cst (.int (1)))) (.cst (.int (48271)))) (.bin .Mult (.cst (.int (40692))) (.sub (.var 0) (.cst (.int (2)))))) (.cst (.int (11)))) .nil)) (.cst (.int (2147483647))))) (.cons (.stix (.var 0) (.cst (.int (1))) (.bin .Mod (.blt .int (.cons (.bin .Add (.bin .Mult (.sub (.var 0) (.cst (.int (1)))) (.sub (.var 0) (.cst (.int (1))))) (.cst (.int (7)))) .nil)) (.cst (.int (2147483629))))) (.cons (.ret (.bin .Mod (.blt .int (.cons (.bin .FloorDiv (.sub (.var 0) (.cst (.int (1)))) (.cst (.int (8)))) .nil)) (.var 1))) .nil)))))
/-- _law_same, slots got due k -/
def B_law_same (i__law_same : Nat) : St := (.cons (.ifs (.cmp .Is (.var 1) (.cst (.none))) (.cons (.ret (.cmp .Is (.var 0) (.cst (.none)))) .nil) .nil) (.cons (.ifs (.isi (.var 1) [.bool, .str]) (.cons (.ret (.and (.cmp .Eq (.isi (.var 0) [.bool]) (.isi (.var 1) [.bool])) (.and (.isi (.var 0) [.bool, .str]) (.cmp .Eq (.var 0) (.var 1))))) .nil) .nil) (.cons (.ifs (.isi (.var 1) [.int]) (.cons (.ret (.and (.isi (.var 0) [.int]) (.and (.not (.isi (.var 0) [.bool])) (.cmp .Eq (.var 0) (.var 1))))) .nil) .nil) (.cons (.ifs (.or (.cmp .NotEq (.isi (.var 1) [.list]) (.isi (.var 0) [.list])) (.cmp .NotEq (.isi (.var 1) [.tuple]) (.isi (.var 0) [.tuple]))) (.cons (.ret (.cst (.bool false))) .nil) .nil) (.cons (.ret (.and (.cmp .Eq (.blt .len (.cons (.var 0) .nil)) (.blt .len (.cons (.var 1) .nil))) (.blt .all (.cons (.comp [2] (.call i__law_same (.cons (.sub (.var 0) (.var 2)) (.cons (.sub (.var 1) (.var 2)) .nil))) (.nm 2) (.rng (.cons (.blt .len (.cons (.var 1) .nil)) .nil)) .nil) .nil)))) .nil)))))
/-- _law_low, slots top bottom turn sign one other -/
def B_law_low : St := (.cons (.par [4, 5] (.cons (.blt .abs (.cons (.var 0) .nil)) (.cons (.blt .abs (.cons (.var 1) .nil)) .nil))) (.cons (.for_ (.nm 2) (.rng (.cons (.cst (.int (100000))) .nil)) (.cons (.ifs (.cmp .Eq (.var 5) (.cst (.int (0)))) (.cons .brk .nil) .nil) (.cons (.par [4, 5] (.cons (.var 5) (.cons (.bin .Mod (.blt .int (.cons (.var 4) .nil)) (.var 5)) .nil))) .nil))) (.cons (.asg (.nm 3) (.ite (.cmp .Gt (.var 1) (.cst (.int (0)))) (.cst (.int (1))) (.neg (.cst (.int (1)))))) (.cons (.ret (.tup (.cons (.bin .FloorDiv (.bin .Mult (.var 3) (.var 0)) (.var 4)) (.cons (.bin .FloorDiv (.bin .Mult (.var 3) (.var 1)) (.var 4)) .nil)))) .nil))))
/-- _law_plus, slots a b -/
def B_law_plus (i__law_low : Nat) : St := (.cons (.ret (.call i__law_low (.cons (.bin .Add (.bin .Mult (.sub (.var 0) (.cst (.int (0)))) (.sub (.var 1) (.cst (.int (1))))) (.bin .Mult (.sub (.var 1) (.cst (.int (0)))) (.sub (.var 0) (.cst (.int (1)))))) (.cons (.bin .Mult (.sub (.var 0) (.cst (.int (1)))) (.sub (.var 1) (.cst (.int (1))))) .nil)))) .nil)
/-- _law_times, slots a b -/
def B_law_times (i__law_low : Nat) : St := (.cons (.ret (.call i__law_low (.cons (.bin .Mult (.sub (.var 0) (.cst (.int (0)))) (.sub (.var 1) (.cst (.int (0))))) (.cons (.bin .Mult (.sub (.var 0) (.cst (.int (1)))) (.sub (.var 1) (.cst (.int (1))))) .nil)))) .nil)
/-- _law_dot, slots one other total a b -/
def B_law_dot (i__law_plus i__law_times : Nat) : St := (.cons (.asg (.nm 2) (.tup (.cons (.cst (.int (0))) (.cons (.cst (.int (1))) .nil)))) (.cons (.for_ (.tup (.cons (.nm 3) (.cons (.nm 4) .nil))) (.zp (.var 0) (.var 1)) (.cons (.ifs (.and (.cmp .NotEq (.sub (.var 3) (.cst (.int (0)))) (.cst (.int (0)))) (.cmp .NotEq (.sub (.var 4) (.cst (.int (0)))) (.cst (.int (0))))) (.cons (.asg (.nm 2) (.call i__law_plus (.cons (.var 2) (.cons (.call i__law_times (.cons (.var 3) (.cons (.var 4) .nil))) .nil)))) .nil) .nil) .nil)) (.cons (.ret (.var 2)) .nil)))
/-- _law_trim, slots row at_now -/
def B_law_trim : St := (.cons (.asg (.nm 1) (.cst (.int (0)))) (.cons (.whl (.and (.cmp .Lt (.var 1) (.blt .len (.cons (.var 0) .nil))) (.cmp .In (.sub (.var 0) (.var 1)) (.tup (.cons (.cst (.int (0))) (.cons (.tup (.cons (.cst (.int (0))) (.cons (.cst (.int (1))) .nil))) .nil))))) (.cons (.asg (.nm 1) (.bin .Add (.var 1) (.cst (.int (1))))) .nil)) (.cons (.ret (.blt .tuple (.cons (.sl (.var 0) (.cons (.var 1) .nil) .nil) .nil))) .nil)))
/-- _law_sum, slots f g many one other a b -/
def B_law_sum (i__law_trim : Nat) : St := (.cons (.asg (.nm 2) (.blt .max (.cons (.blt .len (.cons (.var 0) .nil)) (.cons (.blt .len (.cons (.var 1) .nil)) .nil)))) (.cons (.par [3, 4] (.cons (.bin .Add (.bin .Mult (.lst (.cons (.cst (.int (0))) .nil)) (.bin .Sub (.var 2) (.blt .len (.cons (.var 0) .nil)))) (.blt .list (.cons (.var 0) .nil))) (.cons (.bin .Add (.bin .Mult (.lst (.cons (.cst (.int (0))) .nil)) (.bin .Sub (.var 2) (.blt .len (.cons (.var 1) .nil)))) (.blt .list (.cons (.var 1) .nil))) .nil))) (.cons (.ret (.call i__law_trim (.cons (.comp [5, 6] (.bin .Add (.var 5) (.var 6)) (.tup (.cons (.nm 5) (.cons (.nm 6) .nil))) (.zp (.var 3) (.var 4)) .nil) .nil))) .nil)))
/-- _law_product, slots f g found i j -/
def B_law_product : St := (.cons (.ifs (.or (.cmp .Eq (.var 0) (.tup .nil)) (.cmp .Eq (.var 1) (.tup .nil))) (.cons (.ret (.tup .nil)) .nil) .nil) (.cons (.asg (.nm 2) (.new (.bin .Mult (.lst (.cons (.cst (.int (0))) .nil)) (.bin .Sub (.bin .Add (.blt .len (.cons (.var 0) .nil)) (.blt .len (.cons (.var 1) .nil))) (.cst (.int (1))))))) (.cons (.for_ (.nm 3) (.rng (.cons (.blt .len (.cons (.var 0) .nil)) .nil)) (.cons (.for_ (.nm 4) (.rng (.cons (.blt .len (.cons (.var 1) .nil)) .nil)) (.cons (.stix (.var 2) (.bin .Add (.var 3) (.var 4)) (.bin .Add (.sub (.var 2) (.bin .Add (.var 3) (.var 4))) (.bin .Mult (.sub (.var 0) (.var 3)) (.sub (.var 1) (.var 4))))) .nil)) .nil)) (.cons (.ret (.blt .tuple (.cons (.var 2) .nil))) .nil))))
/-- _law_at, slots f x k under turn top bottom total n part -/
def B_law_at (i__law_low : Nat) : St := (.cons (.asg (.tup (.cons (.nm 5) (.cons (.nm 6) (.cons (.nm 7) (.cons (.nm 8) .nil))))) (.tup (.cons (.sub (.var 1) (.cst (.int (0)))) (.cons (.sub (.var 1) (.cst (.int (1)))) (.cons (.cst (.int (0))) (.cons (.bin .Sub (.blt .len (.cons (.var 0) .nil)) (.cst (.int (1)))) .nil)))))) (.cons (.for_ (.nm 2) (.rng (.cons (.blt .len (.cons (.var 0) .nil)) .nil)) (.cons (.asg (.nm 9) (.sub (.var 0) (.var 2))) (.cons (.for_ (.nm 4) (.rng (.cons (.bin .Sub (.var 8) (.var 2)) .nil)) (.cons (.asg (.nm 9) (.bin .Mult (.var 9) (.var 5))) .nil)) (.cons (.for_ (.nm 4) (.rng (.cons (.var 2) .nil)) (.cons (.asg (.nm 9) (.bin .Mult (.var 9) (.var 6))) .nil)) (.cons (.asg (.nm 7) (.bin .Add (.var 7) (.var 9))) .nil))))) (.cons (.asg (.nm 3) (.cst (.int (1)))) (.cons (.for_ (.nm 4) (.rng (.cons (.blt .max (.cons (.cst (.int (0))) (.cons (.var 8) .nil))) .nil)) (.cons (.asg (.nm 3) (.bin .Mult (.var 3) (.var 6))) .nil)) (.cons (.ret (.call i__law_low (.cons (.var 7) (.cons (.var 3) .nil)))) .nil)))))
/-- _law_polynomial, slots pot most far row k a -/
def B_law_polynomial (i__law_take i__law_trim : Nat) : St := (.cons (.ifs (.cmp .Eq (.call i__law_take (.cons (.var 0) (.cons (.cst (.int (14))) .nil))) (.cst (.int (0)))) (.cons (.ret (.tup .nil)) .nil) .nil) (.cons (.asg (.nm 3) (.comp [4] (.bin .Sub (.call i__law_take (.cons (.var 0) (.cons (.bin .Add (.bin .Mult (.cst (.int (2))) (.var 2)) (.cst (.int (1)))) .nil))) (.var 2)) (.nm 4) (.rng (.cons (.bin .Add (.cst (.int (1))) (.call i__law_take (.cons (.var 0) (.cons (.bin .Add (.var 1) (.cst (.int (1)))) .nil)))) .nil)) .nil)) (.cons (.asg (.nm 3) (.comp [5] (.ite (.cmp .Gt (.call i__law_take (.cons (.var 0) (.cons (.cst (.int (4))) .nil))) (.cst (.int (0)))) (.var 5) (.cst (.int (0)))) (.nm 5) (.seq (.var 3)) .nil)) (.cons (.ret (.ite (.cmp .NotEq (.call i__law_trim (.cons (.var 3) .nil)) (.tup .nil)) (.call i__law_trim (.cons (.var 3) .nil)) (.tup (.cons (.bin .Add (.cst (.int (1))) (.call i__law_take (.cons (.var 0) (.cons (.var 2) .nil)))) .nil)))) .nil))))
/-- _law_drawn, slots pot far -/
def B_law_drawn (i__law_low i__law_take : Nat) : St := (.cons (.ret (.call i__law_low (.cons (.bin .Sub (.call i__law_take (.cons (.var 0) (.cons (.bin .Add (.bin .Mult (.cst (.int (2))) (.var 1)) (.cst (.int (1)))) .nil))) (.var 1)) (.cons (.bin .Add (.cst (.int (1))) (.call i__law_take (.cons (.var 0) (.cons (.sub (.lst (.cons (.cst (.int (1))) (.cons (.cst (.int (4))) (.cons (.var 1) .nil)))) (.call i__law_take (.cons (.var 0) (.cons (.cst (.int (3))) .nil)))) .nil)))) .nil)))) .nil)
/-- _law_far, slots pot -/
def B_law_far (i__law_polynomial i__law_take : Nat) : St := (.cons (.ret (.call i__law_polynomial (.cons (.var 0) (.cons (.cst (.int (8))) (.cons (.sub (.lst (.cons (.cst (.int (3))) (.cons (.cst (.int (20))) (.cons (.bin .Pow (.cst (.int (10))) (.cst (.int (30)))) .nil)))) (.call i__law_take (.cons (.var 0) (.cons (.cst (.int (3))) .nil)))) .nil))))) .nil)
/-- _law_right, slots pot f g x due told found turn values both k many a -/
def B_law_right (i__law_take i__law_sum i__law_product i_plus i_times i_scaled i__law_same i_power i__law_at i_value i__law_plus i__law_times : Nat) : St := (.cons (.asg (.tup (.cons (.nm 10) (.cons (.nm 11) .nil))) (.tup (.cons (.bin .Sub (.call i__law_take (.cons (.var 0) (.cons (.cst (.int (41))) .nil))) (.cst (.int (20)))) (.cons (.call i__law_take (.cons (.var 0) (.cons (.ite (.cmp .Lt (.blt .len (.cons (.var 1) .nil)) (.cst (.int (4)))) (.cst (.int (7))) (.cst (.int (3)))) .nil))) .nil)))) (.cons (.asg (.nm 4) (.lst (.cons (.call i__law_sum (.cons (.var 1) (.cons (.var 2) .nil))) (.cons (.call i__law_product (.cons (.var 1) (.cons (.var 2) .nil))) (.cons (.ite (.cmp .NotEq (.var 10) (.cst (.int (0)))) (.blt .tuple (.cons (.comp [12] (.bin .Mult (.var 10) (.var 12)) (.nm 12) (.seq (.var 1)) .nil) .nil)) (.tup .nil)) .nil))))) (.cons (.asg (.nm 5) (.lst (.cons (.call i_plus (.cons (.var 1) (.cons (.var 2) .nil))) (.cons (.call i_times (.cons (.var 1) (.cons (.var 2) .nil))) (.cons (.call i_scaled (.cons (.var 1) (.cons (.var 10) .nil))) .nil))))) (.cons (.ifs (.or (.not (.call i__law_same (.cons (.var 5) (.cons (.var 4) .nil)))) (.not (.call i__law_same (.cons (.lst (.cons (.callk i_plus .nil (.cons (.var 2) (.cons (.var 1) .nil)) [1, 0]) (.cons (.callk i_times .nil (.cons (.var 2) (.cons (.var 1) .nil)) [1, 0]) (.cons (.callk i_scaled .nil (.cons (.var 10) (.cons (.var 1) .nil)) [1, 0]) .nil)))) (.cons (.var 4) .nil))))) (.cons (.ret (.cst (.bool false))) .nil) .nil) (.cons (.asg (.nm 6) (.tup (.cons (.cst (.int (1))) .nil))) (.cons (.for_ (.nm 7) (.rng (.cons (.var 11) .nil)) (.cons (.asg (.nm 6) (.call i__law_product (.cons (.var 6) (.cons (.var 1) .nil)))) .nil)) (.cons (.ifs (.not (.call i__law_same (.cons (.lst (.cons (.call i_power (.cons (.var 1) (.cons (.var 11) .nil))) (.cons (.callk i_power .nil (.cons (.var 11) (.cons (.var 1) .nil)) [1, 0]) .nil))) (.cons (.lst (.cons (.var 6) (.cons (.var 6) .nil))) .nil)))) (.cons (.ret (.cst (.bool false))) .nil) .nil) (.cons (.asg (.nm 8) (.lst (.cons (.call i__law_at (.cons (.var 1) (.cons (.var 3) .nil))) (.cons (.call i__law_at (.cons (.var 2) (.cons (.var 3) .nil))) .nil)))) (.cons (.ifs (.not (.call i__law_same (.cons (.lst (.cons (.call i_value (.cons (.var 1) (.cons (.var 3) .nil))) (.cons (.callk i_value .nil (.cons (.var 3) (.cons (.var 2) .nil)) [1, 0]) .nil))) (.cons (.var 8) .nil)))) (.cons (.ret (.cst (.bool false))) .nil) .nil) (.cons (.asg (.nm 9) (.lst (.cons (.call i__law_plus (.cons (.sub (.var 8) (.cst (.int (0)))) (.cons (.sub (.var 8) (.cst (.int (1)))) .nil))) (.cons (.call i__law_times (.cons (.sub (.var 8) (.cst (.int (0)))) (.cons (.sub (.var 8) (.cst (.int (1)))) .nil))) (.cons (.call i__law_times (.cons (.tup (.cons (.var 10) (.cons (.cst (.int (1))) .nil))) (.cons (.sub (.var 8) (.cst (.int (0)))) .nil))) .nil))))) (.cons (.ret (.call i__law_same (.cons (.lst (.cons (.call i_value (.cons (.sub (.var 5) (.cst (.int (0)))) (.cons (.var 3) .nil))) (.cons (.call i_value (.cons (.sub (.var 5) (.cst (.int (1)))) (.cons (.var 3) .nil))) (.cons (.call i_value (.cons (.sub (.var 5) (.cst (.int (2)))) (.cons (.var 3) .nil))) .nil)))) (.cons (.var 9) .nil)))) .nil)))))))))))
end Pv

/-! Part Qb: what these functions give: numbers, rows. -/
namespace Pv
open PySem
section
variable {E : En} {w : W} {o : Option IV}
theorem okDiv_abs {i j : Int} (h0 : j ≠ 0) (h : j.natAbs.log2 < 9000) : okDiv i j = true := by
  unfold okDiv
  simp only [Bool.and_eq_true, Bool.or_eq_true, decide_eq_true_eq]
  exact ⟨by simpa using h0, .inl h⟩
theorem gcd_log {t b : Int} (hb : b ≠ 0) (h2 : b.natAbs.log2 < 9000) : (Int.gcd t b).log2 < 9000 := by
  have hg : 0 < Int.gcd t b := Int.gcd_pos_of_ne_zero_right _ hb
  have q := Nat.gcd_le_right t.natAbs (n := b.natAbs) (by omega)
  have q2 : b.natAbs < 2 ^ 9000 := Nat.lt_of_lt_of_le Nat.lt_log2_self (Nat.pow_le_pow_right (by decide) h2)
  exact (Nat.log2_lt (by omega)).mpr (Nat.lt_of_le_of_lt q q2)
theorem fdiv_neg' {a b : Int} (h : b ∣ a) : a.fdiv (-b) = (-a).fdiv b := by
  rw [Int.fdiv_eq_ediv_of_dvd (Int.neg_dvd.mpr h), Int.fdiv_eq_ediv_of_dvd (Int.dvd_neg.mpr h), Int.ediv_neg, Int.neg_ediv_of_dvd h]
theorem cut_from {xs : List D} (j : Nat) : cut xs (some (j : Int)) none = xs.drop j := by
  have c : clip xs.length 0 (some (j : Int)) = min j xs.length := by
    show (if (j : Int) < 0 then (if (j : Int) + (xs.length : Int) < 0 then 0 else ((j : Int) + (xs.length : Int)).toNat) else (if (xs.length : Int) < (j : Int) then xs.length else (j : Int).toNat)) = _
    rw [if_neg (by omega)]
    split <;> omega
  unfold cut
  rw [c]
  show List.take (xs.length - min j xs.length) (List.drop (min j xs.length) xs) = _
  rw [List.take_of_length_le (by rw [List.length_drop]; omega)]
  by_cases h : j ≤ xs.length
  · rw [Nat.min_eq_left h]
  · rw [Nat.min_eq_right (by omega), List.drop_eq_nil_of_le (Nat.le_refl _), List.drop_eq_nil_of_le (by omega)]
theorem lowest_ok {t b : Int} (hb : b ≠ 0) (h2 : b.natAbs.log2 < 9000) : fin w.length (evS E B_lowest [some (.d (.int t)), some (.d (.int b)), none] w) = .ok (.d (nD ((t : Rat) / (b : Rat)))) w := by
  refine Ret.eq (X := fun _ _ _ => False) ?_ (fun _ _ _ h => h)
  rw [← low_nD hb]
  have hg : 0 < Int.gcd t b := Int.gcd_pos_of_ne_zero_right _ hb
  have lg := gcd_log (t := t) hb h2
  have o1 : ∀ i : Int, okDiv i ((Int.gcd t b : Nat) : Int) = true := fun i => okDiv_abs (by omega) (by simpa using lg)
  have o2 : ∀ i : Int, okDiv i (-((Int.gcd t b : Nat) : Int)) = true := fun i => okDiv_abs (by omega) (by simpa using lg)
  unfold B_lowest
  by_cases hp : b < 0
  · have hn : ¬ 0 < b := by omega
    simp [hp, o2, take_len, lowT, lowB, hn, okL]
    exact ⟨by rw [fdiv_neg' (Int.gcd_dvd_left ..)], by rw [fdiv_neg' (Int.gcd_dvd_right ..)]⟩
  · have hn : 0 < b := by omega
    simp [hp, o1, take_len, lowT, lowB, hn, okL]
/-- the first of a row that are no noughts -/
theorem stripped_ok {x nought : D} {xs : List D} {z : D → Bool} (hx : x = .list xs ∨ x = .tuple xs) (hl : xs.length < 16777216) (hq : E.q = 16777216) (hz : ∀ y ∈ xs, cmpD .Eq y nought = some (z y)) :
    fin w.length (evS E B_stripped [some (.d x), some (.d nought), o] w) = .ok (.d (.tuple (xs.dropWhile z))) w := by
  refine Ret.eq (X := fun _ _ _ => False) ?_ (fun _ _ _ h => h)
  have len : bltD .len [x] = some (.int xs.length) := by rcases hx with rfl | rfl <;> rfl
  have sub : ∀ (j : Nat) (y : D), xs[j]? = some y → subD x (.int (j : Int)) = some y := fun j y h => by
    rcases hx with rfl | rfl
    · exact sub_nat h
    · exact tub_nat h
  unfold B_stripped
  simp only [Ret_fin, RetS_cons, evS_asgN, RetS_onE, ev_cst, Ret_ok, RetS_mk, sq_next, evS_whl]
  refine RetS.nx (M := fun σ w' => w' = w ∧ ∃ at_ : Nat, σ = [some (.d x), some (.d nought), some (.d (.int (at_ : Int)))] ∧ xs.drop at_ = xs.dropWhile z) ?_ ?_
  · refine whlL_inv (fun m σ w' => w' = w ∧ ∃ at_ : Nat, m + at_ = xs.length ∧ σ = [some (.d x), some (.d nought), some (.d (.int (at_ : Int)))] ∧ (xs.drop at_).dropWhile z = xs.dropWhile z) (m := xs.length) (by omega) ⟨rfl, 0, rfl, rfl, rfl⟩ ?_
    rintro m σ w' ⟨rfl, at_, hm, rfl, hd⟩
    by_cases hlt : at_ < xs.length
    · have hy := List.getElem?_eq_getElem hlt
      have e := sub at_ _ hy
      have ez := hz xs[at_] (List.getElem_mem hlt)
      have dr : xs.drop at_ = xs[at_] :: xs.drop (at_ + 1) := List.drop_eq_getElem_cons hlt
      have hlt' : (at_ : Int) < (xs.length : Int) := by omega
      simp [len, e, ez, hlt']
      cases hzz : z xs[at_] with
      | false =>
        simp
        exact ⟨at_, rfl, by rw [← hd, dr, List.dropWhile_cons, hzz]; rfl⟩
      | true =>
        simp
        refine ⟨m - 1, by omega, at_ + 1, by omega, by simp, ?_⟩
        rw [← hd, dr, List.dropWhile_cons, hzz]
        simp
    · have hlt' : ¬ (at_ : Int) < (xs.length : Int) := by omega
      simp [len, hlt']
      exact ⟨at_, rfl, by rw [← hd, List.drop_eq_nil_of_le (by omega)]; rfl⟩
  · rintro σ w' ⟨rfl, at_, rfl, hd⟩
    have hc : slD x (some (at_ : Int)) none = some (match x with
      | .list _ => .list (xs.drop at_)
      | _ => .tuple (xs.drop at_)) := by
      have c : cut xs (some (at_ : Int)) none = xs.drop at_ := cut_from at_
      rcases hx with rfl | rfl <;> (show some _ = _; rw [c])
    rcases hx with rfl | rfl <;> (simp [hc, take_len]; rw [← hd]; rfl)
/-- noughts ahead up to so many -/
theorem padded_ok {x nought : D} {xs : List D} {many : Nat} (hx : x = .list xs ∨ x = .tuple xs) (h1 : xs.length ≤ many) (h2 : many ≤ 1000) :
    fin w.length (evS E B_padded [some (.d x), some (.d (.int (many : Int))), some (.d nought)] w) = .ok (.d (.tuple (List.replicate (many - xs.length) nought ++ xs))) w := by
  refine Ret.eq (X := fun _ _ _ => False) ?_ (fun _ _ _ h => h)
  have len : bltD .len [x] = some (.int xs.length) := by rcases hx with rfl | rfl <;> rfl
  have tt : bltD .tuple [x] = some (.tuple xs) := by rcases hx with rfl | rfl <;> rfl
  have fl : ∀ n : Nat, (List.replicate n [nought]).flatten = List.replicate n nought := fun n => by
    induction n with
    | zero => rfl
    | succ n ih => rw [List.replicate_succ, List.flatten_cons, ih]; rfl
  have e : ((many : Int) - xs.length).toNat = many - xs.length := by omega
  unfold B_padded
  simp [len, tt, fl, e, take_len, okL]
  omega
end
end Pv

/-! Part Qc: rows of integers: sums, products, values. -/
namespace Pv
open PySem
def iM (f : List Int) : List D := f.map .int
def iT (f : List Int) : D := .tuple (iM f)
@[simp] theorem iM_len {f : List Int} : (iM f).length = f.length := List.length_map ..
def is0 (a : Int) : Bool := a == 0
def stripI (f : List Int) : List Int := f.dropWhile is0
def padI (n : Nat) (f : List Int) : List Int := List.replicate (n - f.length) 0 ++ f
def addI (f g : List Int) : List Int := stripI (List.zipWith (· + ·) (padI (max f.length g.length) f) (padI (max f.length g.length) g))
def z0 : D → Bool
  | .int a => a == 0
  | _ => false
theorem drop_int : ∀ f : List Int, (iM f).dropWhile z0 = iM (stripI f)
  | [] => rfl
  | a :: f => by
    show (PyData.int a :: iM f).dropWhile z0 = iM ((a :: f).dropWhile is0)
    rw [List.dropWhile_cons, List.dropWhile_cons]
    show (if (a == 0) = true then _ else _) = iM (if (a == 0) = true then _ else _)
    cases a == 0 with
    | true => exact drop_int f
    | false => rfl
section
variable {E : En} {w : W} {o o1 o2 o3 : Option IV} {f g : List Int} {i j : Nat}
theorem stripped_int {x : D} (hx : x = .list (iM f) ∨ x = iT f) (hl : f.length < 16777216) (hq : E.q = 16777216) :
    fin w.length (evS E B_stripped [some (.d x), some (.d (.int 0)), o] w) = .ok (.d (iT (stripI f))) w := by
  have := stripped_ok (E := E) (w := w) (o := o) (x := x) (nought := .int 0) (xs := iM f) (z := z0) hx (by simpa using hl) hq (fun y hy => by
    obtain ⟨a, _, rfl⟩ := List.mem_map.mp hy
    rw [eq_ii]
    show some (decide (a = 0)) = some (a == 0)
    rfl)
  rw [this, drop_int]
  rfl
theorem padded_int {n : Nat} (h1 : f.length ≤ n) (h2 : n ≤ 1000) :
    fin w.length (evS E B_padded [some (.d (iT f)), some (.d (.int (n : Int))), some (.d (.int 0))] w) = .ok (.d (iT (padI n f))) w := by
  have := padded_ok (E := E) (w := w) (x := iT f) (nought := .int 0) (xs := iM f) (many := n) (.inr rfl) (by simpa using h1) h2
  rw [this]
  unfold iT iM padI
  rw [List.map_append, List.map_replicate, List.length_map]
theorem zip_int : ∀ f g : List Int, zipD (iM f) (iM g) = (List.zip f g).map fun p => .tuple [.int p.1, .int p.2]
  | [], _ => by simp [iM, zipD]
  | _ :: _, [] => by simp [iM, zipD]
  | a :: f, b :: g => by
    show PyData.tuple [.int a, .int b] :: zipD (iM f) (iM g) = _
    rw [zip_int f g]; rfl
/-- [a + b for a, b in zip(..)] -/
theorem sum_comp {x y : Nat} {σ : Sl} (hx : x < σ.length) (hy : y < σ.length) (hxy : x ≠ y) : compL (elF (isNil .nil) (.tup (.cons (.nm x) (.cons (.nm y) .nil))) (ev E .nil) (ev E (.bin .Add (.var x) (.var y))) σ) (zipD (iM f) (iM g)) w = .ok (iM (List.zipWith (· + ·) f g)) w := by
  have e := compL_map (f := elF (isNil .nil) (.tup (.cons (.nm x) (.cons (.nm y) .nil))) (ev E .nil) (ev E (.bin .Add (.var x) (.var y))) σ) (w := w) (xs := zipD (iM f) (iM g)) (g := fun d => match d with
    | .tuple [.int a, .int b] => .int (a + b)
    | _ => .none) (fun z hz => by
      rw [zip_int] at hz
      obtain ⟨p, _, rfl⟩ := List.mem_map.mp hz
      refine Ret.eq (X := fun _ _ _ => False) ?_ (fun _ _ _ h => h)
      show Ret _ _ (elF true _ _ _ _ _ _)
      rw [Ret_elT]
      simp [slot_set, hx, hy, hxy, hxy.symm])
  rw [e, zip_int, List.map_map]
  congr 1
  show List.map (fun p : Int × Int => PyData.int (p.1 + p.2)) (f.zip g) = List.map PyData.int _
  rw [← List.map_uncurry_zip_eq_zipWith, List.map_map]
  rfl
theorem sum_of_ok (hf : f.length ≤ 500) (hg : g.length ≤ 500)
    (hs : ∀ (h : List Int) (w : W), h.length ≤ 1000 → E.Φ i [.d (.list (iM h)), .d (.int 0)] w = .ok (.d (iT (stripI h))) w)
    (hp : ∀ (h : List Int) (n : Nat) (w : W), h.length ≤ n → n ≤ 1000 → E.Φ j [.d (iT h), .d (.int (n : Int)), .d (.int 0)] w = .ok (.d (iT (padI n h))) w) :
    fin w.length (evS E (B_sum_of i j) [some (.d (iT f)), some (.d (iT g)), o, o1, o2] w) = .ok (.d (iT (addI f g))) w := by
  refine Ret.eq (X := fun _ _ _ => False) ?_ (fun _ _ _ h => h)
  have mx : bltD .max [.int (f.length : Int), .int (g.length : Int)] = some (.int ((max f.length g.length : Nat) : Int)) := by
    show some (PyData.int (if (g.length : Int) > f.length then g.length else f.length)) = _
    congr 2
    split <;> omega
  have lf : bltD .len [iT f] = some (.int f.length) := by show some (PyData.int ((iM f).length : Int)) = _; rw [iM_len]
  have lg : bltD .len [iT g] = some (.int g.length) := by show some (PyData.int ((iM g).length : Int)) = _; rw [iM_len]
  have pf := fun w => hp f (max f.length g.length) w (by omega) (by omega)
  have pg := fun w => hp g (max f.length g.length) w (by omega) (by omega)
  have ln : ∀ h : List Int, h.length ≤ max f.length g.length → (padI (max f.length g.length) h).length = max f.length g.length := fun h hh => by
    unfold padI
    rw [List.length_append, List.length_replicate]; omega
  unfold B_sum_of
  have sc := sum_comp (E := E) (w := w) (f := padI (max f.length g.length) f) (g := padI (max f.length g.length) g) (x := 3) (y := 4) (σ := wip [some (.d (iT f)), some (.d (iT g)), some (.d (.int ((max f.length g.length : Nat) : Int))), o1, o2] [3, 4]) (by simp [wip]) (by simp [wip]) (by decide)
  have zl : okL (zipD (iM (padI (max f.length g.length) f)) (iM (padI (max f.length g.length) g))).length = true := by
    rw [zipD_len, iM_len, iM_len, ln f (by omega), ln g (by omega)]
    exact decide_eq_true (by omega)
  have st := hs (List.zipWith (· + ·) (padI (max f.length g.length) f) (padI (max f.length g.length) g)) w (by rw [List.length_zipWith, ln f (by omega), ln g (by omega)]; omega)
  have zp : ∀ p : List D → Prop, ZipP (.d (iT (padI (max f.length g.length) f))) (.d (iT (padI (max f.length g.length) g))) p = p (zipD (iM (padI (max f.length g.length) f)) (iM (padI (max f.length g.length) g))) := fun _ => rfl
  have ln' : ∀ h : List Int, bltD .len [iT h] = some (.int h.length) := fun h => by show some (PyData.int ((iM h).length : Int)) = _; rw [iM_len]
  simp [ln', mx, pf, pg, zp, sc, zl, st, take_len]
  rfl
end
end Pv

/-! Part Qd: products of rows of integers. -/
namespace Pv
open PySem
def innI (k : Nat) (a : Int) : List Int → Nat → List Int → List Int
  | [], _, acc => acc
  | b :: g, p, acc => innI k a g (p + 1) (acc.set (k + p) (acc.getD (k + p) 0 + a * b))
def outI (g : List Int) : List Int → Nat → List Int → List Int
  | [], _, acc => acc
  | a :: f, k, acc => outI g f (k + 1) (innI k a g 0 acc)
def mulI (f g : List Int) : List Int := if f.isEmpty || g.isEmpty then [] else outI g f 0 (List.replicate (f.length + g.length - 1) 0)
theorem innI_len (k : Nat) (a : Int) : ∀ (g : List Int) (p : Nat) (acc : List Int), (innI k a g p acc).length = acc.length
  | [], _, _ => rfl
  | b :: g, p, acc => by
    show (innI k a g (p + 1) _).length = _
    rw [innI_len k a g, List.length_set]
theorem outI_len (g : List Int) : ∀ (f : List Int) (k : Nat) (acc : List Int), (outI g f k acc).length = acc.length
  | [], _, _ => rfl
  | a :: f, k, acc => by
    show (outI g f (k + 1) _).length = _
    rw [outI_len g f, innI_len]
theorem mulI_len {f g : List Int} (hf : f ≠ []) (hg : g ≠ []) : (mulI f g).length = f.length + g.length - 1 := by
  unfold mulI
  have h1 : f.isEmpty = false := by cases f <;> first | rfl | exact absurd rfl hf
  have h2 : g.isEmpty = false := by cases g <;> first | rfl | exact absurd rfl hg
  rw [h1, h2, Bool.or_self, if_neg Bool.false_ne_true, outI_len, List.length_replicate]
theorem toR_len {f : List Int} : (toR f).length = f.length := List.length_map ..
theorem toR_set {f : List Int} {j : Nat} {a : Int} : toR (f.set j a) = (toR f).set j (a : Rat) := by
  unfold toR
  rw [List.map_set]
theorem innI_vl (k : Nat) (a : Int) (x : Rat) : ∀ (g : List Int) (p : Nat) (acc : List Int), k + p + g.length ≤ acc.length → vl (toR (innI k a g p acc)) x = vl (toR acc) x + (a : Rat) * vl (toR g) x * x ^ (acc.length - (k + p + g.length))
  | [], p, acc, _ => by
    show vl (toR acc) x = vl (toR acc) x + (a : Rat) * vl [] x * _
    rw [vl_nil]; grind
  | b :: g, p, acc, h => by
    rw [List.length_cons] at h
    have hk : k + p < acc.length := by omega
    show vl (toR (innI k a g (p + 1) (acc.set (k + p) (acc.getD (k + p) 0 + a * b)))) x = _
    rw [innI_vl k a x g (p + 1) _ (by rw [List.length_set]; omega), List.length_set, toR_set, Rat.intCast_add, Rat.intCast_mul]
    have hg : (toR acc)[k + p]? = some ((acc.getD (k + p) 0 : Int) : Rat) := by
      unfold toR
      rw [List.getElem?_map, List.getD_eq_getElem?_getD, List.getElem?_eq_getElem hk]
      rfl
    rw [vl_set x _ _ _ _ hg, toR_len]
    show _ = vl (toR acc) x + (a : Rat) * vl ((b : Rat) :: toR g) x * _
    rw [vl_cons, toR_len, List.length_cons, show acc.length - (k + (p + 1) + g.length) = acc.length - (k + p + (g.length + 1)) by omega,
      show acc.length - 1 - (k + p) = g.length + (acc.length - (k + p + (g.length + 1))) by omega]
    generalize acc.length - (k + p + (g.length + 1)) = m
    have e : x ^ (g.length + m) = x ^ g.length * x ^ m := by grind
    rw [e]
    grind
theorem outI_vl (g : List Int) (x : Rat) : ∀ (f : List Int) (k : Nat) (acc : List Int), f ≠ [] → acc.length = k + f.length + g.length - 1 → 1 ≤ g.length → vl (toR (outI g f k acc)) x = vl (toR acc) x + vl (toR f) x * vl (toR g) x
  | [], _, _, h, _, _ => absurd rfl h
  | [a], k, acc, _, hl, hg => by
    show vl (toR (innI k a g 0 acc)) x = _
    rw [List.length_singleton] at hl
    rw [innI_vl k a x g 0 acc (by omega), show acc.length - (k + 0 + g.length) = 0 by omega]
    show _ = _ + vl [(a : Rat)] x * _
    rw [vl_cons, vl_nil]
    show _ = _ + ((a : Rat) * x ^ 0 + 0) * _
    grind
  | a :: b :: f, k, acc, _, hl, hg => by
    rw [List.length_cons] at hl
    show vl (toR (outI g (b :: f) (k + 1) (innI k a g 0 acc))) x = _
    rw [outI_vl g x (b :: f) (k + 1) _ (by simp) (by rw [innI_len]; omega) hg, innI_vl k a x g 0 acc (by omega), show acc.length - (k + 0 + g.length) = (b :: f).length by omega]
    show _ = vl (toR acc) x + vl ((a : Rat) :: toR (b :: f)) x * _
    rw [vl_cons, toR_len]
    grind
theorem vl_zeros (x : Rat) : ∀ n : Nat, vl (toR (List.replicate n 0)) x = 0
  | 0 => rfl
  | n + 1 => by
    rw [List.replicate_succ]
    show vl (((0 : Int) : Rat) :: toR (List.replicate n 0)) x = 0
    rw [vl_cons, vl_zeros x n]
    grind
theorem mulI_vl (f g : List Int) (x : Rat) : vl (toR (mulI f g)) x = vl (toR f) x * vl (toR g) x := by
  unfold mulI
  cases f with
  | nil => show (0 : Rat) = vl [] x * _; rw [vl_nil]; grind
  | cons a f =>
    cases g with
    | nil => show (0 : Rat) = _ * vl [] x; rw [vl_nil]; grind
    | cons b g =>
      show vl (toR (outI (b :: g) (a :: f) 0 _)) x = _
      rw [outI_vl _ x _ 0 _ (by simp) (by rw [List.length_replicate]; omega) (by simp), vl_zeros]
      grind
theorem addI_vl (f g : List Int) (x : Rat) : vl (toR (addI f g)) x = vl (toR f) x + vl (toR g) x := by
  have st : ∀ h : List Int, vl (toR (stripI h)) x = vl (toR h) x := by
    intro h
    induction h with
    | nil => rfl
    | cons a h ih =>
      show vl (toR ((a :: h).dropWhile is0)) x = _
      rw [List.dropWhile_cons]
      cases e : is0 a with
      | true =>
        have : a = 0 := by simpa [is0] using e
        subst this
        show vl (toR (stripI h)) x = vl (((0 : Int) : Rat) :: toR h) x
        rw [ih]
        exact (vl_zero _ x).symm
      | false => rfl
  have pd : ∀ (n : Nat) (h : List Int), vl (toR (padI n h)) x = vl (toR h) x := fun n h => by
    unfold padI toR
    rw [List.map_append, List.map_replicate]
    exact vl_pad x _ _
  have zw : ∀ f g : List Int, toR (List.zipWith (· + ·) f g) = List.zipWith (· + ·) (toR f) (toR g) := by
    intro f
    induction f with
    | nil => intro g; simp [toR]
    | cons a f ih =>
      intro g
      cases g with
      | nil => simp [toR]
      | cons b g =>
        show ((a + b : Int) : Rat) :: toR (List.zipWith (· + ·) f g) = ((a : Rat) + (b : Rat)) :: List.zipWith (· + ·) (toR f) (toR g)
        rw [ih g, Rat.intCast_add]
  unfold addI
  rw [st, zw, vl_add, pd, pd]
  rw [toR_len, toR_len]
  unfold padI
  rw [List.length_append, List.length_append, List.length_replicate, List.length_replicate]
  omega
end Pv

/-! Part Qe: the products' loops. -/
namespace Pv
open PySem
section
variable {E : En} {w : W} {o o1 o2 o3 : Option IV} {f g : List Int} {K : Fl → W → Prop} {σ : Sl}
theorem iM_get {acc : List Int} {j : Nat} (h : j < acc.length) : (iM acc)[j]? = some (.int (acc.getD j 0)) := by
  unfold iM
  rw [List.getElem?_map, List.getD_eq_getElem?_getD, List.getElem?_eq_getElem h]
  rfl
theorem iM_set {acc : List Int} {j : Nat} {a : Int} : (iM acc).set j (.int a) = iM (acc.set j a) := by
  unfold iM
  rw [List.map_set]
theorem st_nat {xs : List D} {j : Nat} {v : D} (h : j < xs.length) : stL xs (.int (j : Int)) v = some (xs.set j v) := by
  show (ixN xs.length (j : Int)).map _ = _
  rw [ixN_nat h]; rfl
/-- found[i + j] = found[i + j] + e -/
theorem stix_add {m s2 s3 s5 k p : Nat} {c : Int} {acc : List Int} {e : Ex} (h2 : slot σ s2 = some (.ref m)) (h3 : slot σ s3 = some (.d (.int (k : Int)))) (h5 : slot σ s5 = some (.d (.int (p : Int)))) (hw : w[m]? = some (.lst (iM acc))) (hk : k + p < acc.length)
    (he : ev E e σ w = .ok (.d (.int c)) w) :
    RetS K (evS E (.stix (.var s2) (.bin .Add (.var s3) (.var s5)) (.bin .Add (.sub (.var s2) (.bin .Add (.var s3) (.var s5))) e)) σ w) = K (.next σ) (w.set m (.lst (iM (acc.set (k + p) (acc.getD (k + p) 0 + c))))) := by
  have hs : subD (.list (iM acc)) (.int ((k : Int) + (p : Int))) = some (.int (acc.getD (k + p) 0)) := by
    rw [← Int.natCast_add]
    exact sub_nat (iM_get hk)
  have ht : ∀ v : D, stL (iM acc) (.int ((k : Int) + (p : Int))) v = some ((iM acc).set (k + p) v) := fun v => by
    rw [← Int.natCast_add]
    exact st_nat (by simpa using hk)
  simp only [RetS_stix, Ret_bin, Ret_sub, ev_var, Ret_ofO, h2, h3, h5, OptP_some, rd_d, add_ii, rd_ref, hw, rdC_l, hs, he, Ret_ok, RefP_r, DatP_d, CelP_l, ht, iM_set]
end
/-! the machine's list at the end of the store -/
theorem last_get {w : W} {c : Cell} : (w ++ [c])[w.length]? = some c := by simp
theorem last_set {w : W} {c c' : Cell} : (w ++ [c]).set w.length c' = w ++ [c'] := by
  rw [List.set_append_right _ _ (Nat.le_refl _), Nat.sub_self]; rfl
def Sm (B : Nat) (f : List Int) : Prop := ∀ a ∈ f, a.natAbs < 2 ^ B
theorem okI_of {B : Nat} {f : List Int} {a : Int} (h : Sm B f) (hB : B ≤ 8000) (ha : a ∈ f) : okI a = true := by
  have := h a ha
  unfold okI
  refine decide_eq_true ?_
  by_cases z : a.natAbs = 0
  · rw [z]; decide
  · have q := (Nat.log2_lt z).mpr this
    omega
section
variable {E : En} {w : W} {o o1 o2 o3 o4 : Option IV} {f g : List Int}
theorem enum_get {f : List Int} {k : Nat} {z : D} (h : (enumD 0 (iM f))[k]? = some z) : ∃ a, f[k]? = some a ∧ z = .tuple [.int (k : Int), .int a] := by
  obtain ⟨e, h1, h2⟩ := enumD_get h
  unfold iM at h1
  rw [List.getElem?_map] at h1
  cases q : f[k]? with
  | none => rw [q] at h1; cases h1
  | some a =>
    rw [q] at h1
    cases h1
    exact ⟨a, rfl, by rw [h2, Nat.zero_add]⟩
theorem rep_zero {n : Nat} : (List.replicate n [PyData.int 0]).flatten = iM (List.replicate n 0) := by
  unfold iM
  rw [List.map_replicate]
  induction n with
  | zero => rfl
  | succ n ih => rw [List.replicate_succ, List.flatten_cons, ih]; rfl
theorem all_ints (f : List Int) : (iM f).all isI = true := List.all_eq_true.mpr fun y hy => by
  obtain ⟨a, _, rfl⟩ := List.mem_map.mp hy
  rfl
theorem ne_unitI {f : List Int} : cmpD .NotEq (iT f) (.tuple []) = some (!f.isEmpty) := by
  show (if okD (.tuple (iM f)) && okD (.tuple []) then some (!PyData.eqv (.tuple (iM f)) (.tuple [])) else none) = _
  rw [okD_ints (all_ints f)]
  cases f <;> simp [iM, PyData.eqv, PyData.eqvAll, okD, PyData.plain, PyData.plainAll, PyData.depth, PyData.depthAll]
theorem eq_unitI {f : List Int} : cmpD .Eq (iT f) (.tuple []) = some f.isEmpty := by
  have := eq_unit (okD_ints (all_ints f))
  rw [show iT f = .tuple (iM f) from rfl, this]
  cases f <;> rfl
theorem times_ok {B C : Nat} (hf : Sm B f) (hg : Sm C g) (hB : B ≤ 8000) (hC : C ≤ 8000) (lf : f.length ≤ 400) (lg : g.length ≤ 400) :
    fin w.length (evS E B_times_of_two [some (.d (iT f)), some (.d (iT g)), o, o1, o2, o3, o4] w) = .ok (.d (iT (mulI f g))) w := by
  refine Ret.eq (X := fun _ _ _ => False) ?_ (fun _ _ _ h => h)
  have ln' : ∀ h : List Int, bltD .len [iT h] = some (.int h.length) := fun h => by show some (PyData.int ((iM h).length : Int)) = _; rw [iM_len]
  have mx : bltD .max [.int 0, .int ((f.length : Int) + g.length - 1)] = some (.int ((f.length + g.length - 1 : Nat) : Int)) := by
    show some (PyData.int (if (f.length : Int) + g.length - 1 > 0 then _ else _)) = _
    congr 2
    split <;> omega
  unfold B_times_of_two
  have okl : ∀ k : Nat, k ≤ 1000 → okL k = true := fun k h => decide_eq_true (by omega)
  simp only [Ret_fin, RetS_cons, evS_asgN, RetS_onE, ev_new, Ret_bind, Ret_bin, Ret_lst, Ret_blt, evA_cons, evA_nil, ev_cst, ev_var, Ret_ok, Ret_ofO, slot_cons0, slot_cons, purs_cons, purs_nil, Option.map_some, OptP_some, List.length_cons, List.length_nil, okl (0 + 1) (by omega), true_and, rdAll_cons, rdAll_nil, rd_d, Option.bind_some, ln', add_ii, sub_ii, mx, mul_li, OptP_if]
  rw [if_pos (by simp; omega)]
  have tn : ((f.length + g.length - 1 : Nat) : Int).toNat = f.length + g.length - 1 := by omega
  simp only [Ret_ok, newW_l, RetS_mk, sq_next, tn, rep_zero]
  obtain ⟨zs, hzs⟩ : ∃ zs : List Int, zs = List.replicate (f.length + g.length - 1) 0 := ⟨_, rfl⟩
  have zl : zs.length = f.length + g.length - 1 := by rw [hzs, List.length_replicate]
  rw [← hzs]
  refine RetS.nx (M := fun σ w' => ∃ x3 x4 x5 x6, w' = w ++ [.lst (iM (outI g f 0 zs))] ∧ σ = [some (.d (iT f)), some (.d (iT g)), some (.ref w.length), x3, x4, x5, x6]) ?_ ?_
  · rw [RetS_for, Ret_enm]
    simp only [ev_var, Ret_ofO, List.set_cons_succ, List.set_cons_zero, slot_cons0, OptP_some, DatP_d, show itemsD (iT f) = some (iM f) from rfl, forP_dat]
    refine ⟨by rw [enumD_len, iM_len]; exact okl _ (by omega), ?_⟩
    refine forL_inv (fun k σ w' => ∃ acc x3 x4 x5 x6, w' = w ++ [.lst (iM acc)] ∧ acc.length = f.length + g.length - 1 ∧ outI g (f.drop k) k acc = outI g f 0 zs ∧ σ = [some (.d (iT f)), some (.d (iT g)), some (.ref w.length), x3, x4, x5, x6]) ⟨zs, _, _, _, _, rfl, zl, rfl, rfl⟩ ?_ ?_
    · rintro k z σ w' hz ⟨acc, x3, x4, x5, x6, rfl, al, he, rfl⟩
      obtain ⟨a, ha, rfl⟩ := enum_get hz
      have hkf : k < f.length := (List.getElem?_eq_some_iff.mp ha).1
      have dr : f.drop k = a :: f.drop (k + 1) := by
        rw [List.drop_eq_getElem_cons hkf]
        congr 1
        rw [List.getElem?_eq_getElem hkf] at ha
        exact Option.some.inj ha
      rw [RetS_body]
      simp only [asg_tup, asgs_cons, asg_nm, asgs_nil, Option.bind_some, OptP_some, List.set_cons_succ, List.set_cons_zero]
      rw [RetS_cons]
      refine RetS.nx (M := fun σ w' => ∃ x5 x6, w' = w ++ [.lst (iM (innI k a g 0 acc))] ∧ σ = [some (.d (iT f)), some (.d (iT g)), some (.ref w.length), some (.d (.int (k : Int))), some (.d (.int a)), x5, x6]) ?_ ?_
      · rw [RetS_for, Ret_enm]
        simp only [ev_var, Ret_ofO, slot_cons0, slot_cons, OptP_some, DatP_d, show itemsD (iT g) = some (iM g) from rfl, forP_dat]
        refine ⟨by rw [enumD_len, iM_len]; exact okl _ (by omega), ?_⟩
        refine forL_inv (fun p σ w' => ∃ ac x5 x6, w' = w ++ [.lst (iM ac)] ∧ ac.length = f.length + g.length - 1 ∧ innI k a (g.drop p) p ac = innI k a g 0 acc ∧ σ = [some (.d (iT f)), some (.d (iT g)), some (.ref w.length), some (.d (.int (k : Int))), some (.d (.int a)), x5, x6]) ⟨acc, _, _, rfl, al, rfl, rfl⟩ ?_ ?_
        · rintro p z σ w' hz ⟨ac, x5, x6, rfl, acl, hi, rfl⟩
          obtain ⟨b, hb, rfl⟩ := enum_get hz
          have hpg : p < g.length := (List.getElem?_eq_some_iff.mp hb).1
          have dg : g.drop p = b :: g.drop (p + 1) := by
            rw [List.drop_eq_getElem_cons hpg]
            congr 1
            rw [List.getElem?_eq_getElem hpg] at hb
            exact Option.some.inj hb
          rw [RetS_body]
          simp only [asg_tup, asgs_cons, asg_nm, asgs_nil, Option.bind_some, OptP_some, List.set_cons_succ, List.set_cons_zero, RetS_cons]
          have oa : okI a = true := okI_of hf hB (List.mem_of_getElem? ha)
          have ob : okI b = true := okI_of hg hC (List.mem_of_getElem? hb)
          rw [stix_add (m := w.length) (k := k) (p := p) (c := a * b) (acc := ac) rfl rfl rfl last_get (by omega) (by
            refine Ret.eq (X := fun _ _ _ => False) ?_ (fun _ _ _ h => h)
            simp [oa, ob]), last_set]
          simp only [sq_next, evS_nil, RetS_mk, loopK_next]
          exact ⟨_, _, _, rfl, by rw [List.length_set]; exact acl, by rw [← hi, dg]; rfl, rfl⟩
        · rintro σ w' ⟨ac, x5, x6, rfl, acl, hi, rfl⟩
          rw [enumD_len, iM_len, List.drop_length] at hi
          exact ⟨x5, x6, by rw [← hi]; rfl, rfl⟩
      · rintro σ w' ⟨x5, x6, rfl, rfl⟩
        exact ⟨_, _, _, _, _, rfl, by rw [innI_len]; exact al, by rw [← he, dr]; rfl, rfl⟩
    · rintro σ w' ⟨acc, x3, x4, x5, x6, rfl, al, he, rfl⟩
      rw [enumD_len, iM_len, List.drop_length] at he
      exact ⟨x3, x4, x5, x6, by rw [← he]; rfl, rfl⟩
  · rintro σ w' ⟨x3, x4, x5, x6, rfl, rfl⟩
    have tt : ∀ h : List Int, bltD .tuple [.list (iM h)] = some (iT h) := fun _ => rfl
    have tk : ∀ c : Cell, (w ++ [c]).take w.length = w := fun c => by rw [List.take_append_of_le_length (Nat.le_refl _), List.take_length]
    have el : okL 0 = true := rfl
    simp [ne_unitI, tt, tk, el]
    unfold mulI
    cases hfe : f.isEmpty with
    | true =>
      have : f = [] := by simpa using hfe
      simp [this]; rfl
    | false =>
      have : f ≠ [] := by intro z; rw [z] at hfe; cases hfe
      simp [this]
      cases hge : g.isEmpty with
      | true =>
        have : g = [] := by simpa using hge
        simp [this]; rfl
      | false =>
        have : g ≠ [] := by intro z; rw [z] at hge; cases hge
        simp [this, hzs]
end
end Pv

/-! Part Qf: the products' loops by index; trims, sums by the law; multiples. -/
namespace Pv
open PySem
section
variable {E : En} {w : W} {o o1 o2 o3 o4 : Option IV} {f g : List Int}
theorem range_get {n k : Nat} {z : D} (h : ((List.range n).map fun (k : Nat) => PyData.int k)[k]? = some z) : k < n ∧ z = .int (k : Int) := by
  have hk : k < n := by
    have := (List.getElem?_eq_some_iff.mp h).1
    simpa using this
  rw [List.getElem?_map, List.getElem?_range hk] at h
  cases h
  exact ⟨hk, rfl⟩
theorem drop_get {f : List Int} {k : Nat} (h : k < f.length) : f.drop k = f.getD k 0 :: f.drop (k + 1) := by
  rw [List.drop_eq_getElem_cons h, List.getD_eq_getElem?_getD, List.getElem?_eq_getElem h]
  rfl
theorem iT_sub {f : List Int} {k : Nat} (h : k < f.length) : subD (iT f) (.int (k : Int)) = some (.int (f.getD k 0)) := tub_nat (iM_get h)
theorem getD_mem {f : List Int} {k : Nat} (h : k < f.length) : f.getD k 0 ∈ f := by
  rw [List.getD_eq_getElem?_getD, List.getElem?_eq_getElem h]
  exact List.getElem_mem h
theorem len_iT {f : List Int} : bltD .len [iT f] = some (.int f.length) := by show some (PyData.int ((iM f).length : Int)) = _; rw [iM_len]
theorem product_ok {B C : Nat} (hf : Sm B f) (hg : Sm C g) (hB : B ≤ 8000) (hC : C ≤ 8000) (lf : f.length ≤ 400) (lg : g.length ≤ 400) :
    fin w.length (evS E B_law_product [some (.d (iT f)), some (.d (iT g)), o, o1, o2] w) = .ok (.d (iT (mulI f g))) w := by
  refine Ret.eq (X := fun _ _ _ => False) ?_ (fun _ _ _ h => h)
  have tt : ∀ h : List Int, bltD .tuple [.list (iM h)] = some (iT h) := fun _ => rfl
  have tk : ∀ c : Cell, (w ++ [c]).take w.length = w := fun c => by rw [List.take_append_of_le_length (Nat.le_refl _), List.take_length]
  have el : okL 0 = true := rfl
  have okl : ∀ k : Nat, k ≤ 1000 → okL k = true := fun k h => decide_eq_true (by omega)
  unfold B_law_product
  cases hfe : f.isEmpty with
  | true =>
    have : mulI f g = [] := by unfold mulI; rw [hfe]; rfl
    simp [eq_unitI, hfe, el, take_len, this]; rfl
  | false =>
  cases hge : g.isEmpty with
  | true =>
    have : mulI f g = [] := by unfold mulI; rw [hge, Bool.or_true]; rfl
    simp [eq_unitI, hfe, hge, el, take_len, this]; rfl
  | false =>
  have nf : f ≠ [] := by intro z; rw [z] at hfe; cases hfe
  have ng : g ≠ [] := by intro z; rw [z] at hge; cases hge
  have pf : 0 < f.length := List.length_pos_iff.mpr nf
  have pg : 0 < g.length := List.length_pos_iff.mpr ng
  have mi : mulI f g = outI g f 0 (List.replicate (f.length + g.length - 1) 0) := by unfold mulI; rw [hfe, hge]; rfl
  rw [mi]
  have m1 : (decide (0 + 1 ≤ 1000) && decide ((f.length : Int) + g.length - 1 ≤ 1000) && decide (-1000 ≤ (f.length : Int) + g.length - 1)) = true := by
    simp only [Bool.and_eq_true, decide_eq_true_eq]
    omega
  simp only [Ret_fin, RetS_cons, RetS_ifs, ev_or, Ret_tst, Ret_cmp, Ret_tup, evA_nil, ev_var, Ret_ofO, slot_cons0, slot_cons, OptP_some, Ret_ok, purs_nil, List.length_nil, el, true_and, cmpV_dd, eq_unitI, hfe, hge, BoolP_b, Bool.false_eq_true, if_false, Ret_if, evS_nil, RetS_mk, sq_next,
    evS_asgN, RetS_onE, ev_new, Ret_bind, Ret_bin, Ret_lst, Ret_blt, evA_cons, ev_cst, purs_cons, Option.map_some, List.length_cons, okl (0 + 1) (by omega), rdAll_cons, rdAll_nil, rd_d, Option.bind_some, len_iT, add_ii, sub_ii, mul_li, OptP_if, m1, if_true]
  have tn : ((f.length : Int) + g.length - 1).toNat = f.length + g.length - 1 := by omega
  simp only [Ret_ok, newW_l, RetS_mk, sq_next, tn, rep_zero]
  obtain ⟨zs, hzs⟩ : ∃ zs : List Int, zs = List.replicate (f.length + g.length - 1) 0 := ⟨_, rfl⟩
  have zl : zs.length = f.length + g.length - 1 := by rw [hzs, List.length_replicate]
  rw [← hzs]
  refine RetS.nx (M := fun σ w' => ∃ x3 x4, w' = w ++ [.lst (iM (outI g f 0 zs))] ∧ σ = [some (.d (iT f)), some (.d (iT g)), some (.ref w.length), x3, x4]) ?_ ?_
  · rw [RetS_for, Ret_rng]
    simp only [evA_cons, evA_nil, Ret_bind, Ret_blt, ev_var, Ret_ofO, List.set_cons_succ, List.set_cons_zero, slot_cons0, OptP_some, Ret_ok, rdAll_cons, rdAll_nil, rd_d, Option.bind_some, Option.map_some, len_iT, purs_cons, purs_nil, rng_nat (n := f.length) (by omega), forP_dat]
    refine ⟨by rw [List.length_map, List.length_range]; exact okl _ (by omega), ?_⟩
    refine forL_inv (fun k σ w' => ∃ acc x3 x4, w' = w ++ [.lst (iM acc)] ∧ acc.length = f.length + g.length - 1 ∧ outI g (f.drop k) k acc = outI g f 0 zs ∧ σ = [some (.d (iT f)), some (.d (iT g)), some (.ref w.length), x3, x4]) ⟨zs, _, _, rfl, zl, rfl, rfl⟩ ?_ ?_
    · rintro k z σ w' hz ⟨acc, x3, x4, rfl, al, he, rfl⟩
      obtain ⟨hkf, rfl⟩ := range_get hz
      rw [RetS_body]
      simp only [asg_nm, OptP_some, List.set_cons_succ, List.set_cons_zero]
      rw [RetS_cons]
      refine RetS.nx (M := fun σ w' => ∃ x4, w' = w ++ [.lst (iM (innI k (f.getD k 0) g 0 acc))] ∧ σ = [some (.d (iT f)), some (.d (iT g)), some (.ref w.length), some (.d (.int (k : Int))), x4]) ?_ ?_
      · rw [RetS_for, Ret_rng]
        simp only [evA_cons, evA_nil, Ret_bind, Ret_blt, ev_var, Ret_ofO, slot_cons0, slot_cons, OptP_some, Ret_ok, rdAll_cons, rdAll_nil, rd_d, Option.bind_some, Option.map_some, len_iT, purs_cons, purs_nil, rng_nat (n := g.length) (by omega), forP_dat]
        refine ⟨by rw [List.length_map, List.length_range]; exact okl _ (by omega), ?_⟩
        refine forL_inv (fun p σ w' => ∃ ac x4, w' = w ++ [.lst (iM ac)] ∧ ac.length = f.length + g.length - 1 ∧ innI k (f.getD k 0) (g.drop p) p ac = innI k (f.getD k 0) g 0 acc ∧ σ = [some (.d (iT f)), some (.d (iT g)), some (.ref w.length), some (.d (.int (k : Int))), x4]) ⟨acc, _, rfl, al, rfl, rfl⟩ ?_ ?_
        · rintro p z σ w' hz ⟨ac, x4, rfl, acl, hi, rfl⟩
          obtain ⟨hpg, rfl⟩ := range_get hz
          rw [RetS_body]
          simp only [asg_nm, OptP_some, List.set_cons_succ, List.set_cons_zero, RetS_cons]
          have oa : okI (f.getD k 0) = true := okI_of hf hB (getD_mem hkf)
          have ob : okI (g.getD p 0) = true := okI_of hg hC (getD_mem hpg)
          rw [stix_add (m := w.length) (k := k) (p := p) (c := f.getD k 0 * g.getD p 0) (acc := ac) rfl rfl rfl last_get (by omega) (by
            refine Ret.eq (X := fun _ _ _ => False) ?_ (fun _ _ _ h => h)
            simp only [Ret_bin, Ret_sub, ev_var, Ret_ofO, slot_cons0, slot_cons, OptP_some, rd_d, iT_sub hkf, iT_sub hpg, mul_ii, oa, ob, Bool.and_self, if_true, and_self]), last_set]
          simp only [sq_next, evS_nil, RetS_mk, loopK_next]
          exact ⟨_, _, rfl, by rw [List.length_set]; exact acl, by rw [← hi, drop_get hpg]; rfl, rfl⟩
        · rintro σ w' ⟨ac, x4, rfl, acl, hi, rfl⟩
          rw [List.length_map, List.length_range, List.drop_length] at hi
          exact ⟨x4, by rw [← hi]; rfl, rfl⟩
      · rintro σ w' ⟨x4, rfl, rfl⟩
        exact ⟨_, _, _, rfl, by rw [innI_len]; exact al, by rw [← he, drop_get hkf]; rfl, rfl⟩
    · rintro σ w' ⟨acc, x3, x4, rfl, al, he, rfl⟩
      rw [List.length_map, List.length_range, List.drop_length] at he
      exact ⟨x3, x4, by rw [← he]; rfl, rfl⟩
  · rintro σ w' ⟨x3, x4, rfl, rfl⟩
    simp [tt, tk]
end
end Pv

/-! Part Qg: multiples, trims, the law's sums. -/
namespace Pv
open PySem
def sclI (k : Int) (f : List Int) : List Int := if k = 0 then [] else f.map (k * ·)
section
variable {E : En} {w : W} {o o1 o2 o3 o4 : Option IV} {f g : List Int}
theorem map_int {f : List Int} {h : Int → Int} {F : D → W → R (Option D)} (hF : ∀ a ∈ f, F (.int a) w = .ok (some (.int (h a))) w) : compL F (iM f) w = .ok (iM (f.map h)) w := by
  have e := compL_map (f := F) (w := w) (xs := iM f) (g := fun d => match d with
    | .int a => .int (h a)
    | _ => .none) (fun z hz => by
      obtain ⟨a, ha, rfl⟩ := List.mem_map.mp hz
      exact hF a ha)
  rw [e]
  congr 1
  unfold iM
  rw [List.map_map, List.map_map]
  rfl
theorem scaled_by_ok {B : Nat} {k : Int} (hf : Sm B f) (hB : B ≤ 8000) (hk : okI k = true) (lf : f.length ≤ 1000) :
    fin w.length (evS E B_scaled_by [some (.d (iT f)), some (.d (.int k)), o] w) = .ok (.d (iT (sclI k f))) w := by
  refine Ret.eq (X := fun _ _ _ => False) ?_ (fun _ _ _ h => h)
  have cp : compL (elF (isNil .nil) (.nm 2) (ev E .nil) (ev E (.bin .Mult (.var 1) (.var 2))) (wip [some (.d (iT f)), some (.d (.int k)), o] [2])) (iM f) w = .ok (iM (f.map (k * ·))) w := by
    refine map_int fun a ha => ?_
    refine Ret.eq (X := fun _ _ _ => False) ?_ (fun _ _ _ h => h)
    show Ret _ _ (elF true _ _ _ _ _ _)
    rw [Ret_elT]
    simp [wip, hk, okI_of hf hB ha]
  have it : ∀ w, toIt w (.d (iT f)) = some (.dat (iM f)) := fun _ => rfl
  have tt : ∀ h : List Int, bltD .tuple [.list (iM h)] = some (iT h) := fun _ => rfl
  have okl : okL f.length = true := decide_eq_true (by omega)
  unfold B_scaled_by sclI
  by_cases h0 : k = 0
  · simp [h0, take_len, okL]; rfl
  · simp [h0, it, cp, tt, okl, take_len]
theorem in_zero {a : Int} : cmpD .In (.int a) (.tuple [.int 0, .tuple [.int 0, .int 1]]) = some (a == 0) := by
  show (if okD (.int a) && okD (.tuple [.int 0, .tuple [.int 0, .int 1]]) then some (isIn (.int a) [.int 0, .tuple [.int 0, .int 1]]) else none) = _
  have h : okD (.tuple [.int 0, .tuple [.int 0, .int 1]]) = true := by decide
  rw [okD_int, h]
  have e1 : PyData.eqv (.int 0) (.int a) = (a == 0) := by
    have : PyData.eqv (.int 0) (.int a) = ((0 : Int) == a) := by simp only [PyData.eqv]
    rw [this]
    by_cases e : a = 0
    · rw [e]
    · rw [beq_eq_false_iff_ne.mpr e, beq_eq_false_iff_ne.mpr (Ne.symm e)]
  have e2 : PyData.eqv (.tuple [.int 0, .int 1]) (.int a) = false := by simp [PyData.eqv]
  show some (PyData.eqv (.int 0) (.int a) || (PyData.eqv (.tuple [.int 0, .int 1]) (.int a) || false)) = _
  rw [e1, e2, Bool.or_false, Bool.or_false]
theorem trim_ok {x : D} {xs : List D} {z : D → Bool} (hx : x = .list xs ∨ x = .tuple xs) (hl : xs.length < 16777216) (hq : E.q = 16777216) (hz : ∀ y ∈ xs, cmpD .In y (.tuple [.int 0, .tuple [.int 0, .int 1]]) = some (z y)) :
    fin w.length (evS E B_law_trim [some (.d x), o] w) = .ok (.d (.tuple (xs.dropWhile z))) w := by
  refine Ret.eq (X := fun _ _ _ => False) ?_ (fun _ _ _ h => h)
  have len : bltD .len [x] = some (.int xs.length) := by rcases hx with rfl | rfl <;> rfl
  have sub : ∀ (j : Nat) (y : D), xs[j]? = some y → subD x (.int (j : Int)) = some y := fun j y h => by
    rcases hx with rfl | rfl
    · exact sub_nat h
    · exact tub_nat h
  have ok2 : okL 2 = true := rfl
  unfold B_law_trim
  simp only [Ret_fin, RetS_cons, evS_asgN, RetS_onE, ev_cst, Ret_ok, RetS_mk, sq_next, evS_whl]
  refine RetS.nx (M := fun σ w' => w' = w ∧ ∃ at_ : Nat, σ = [some (.d x), some (.d (.int (at_ : Int)))] ∧ xs.drop at_ = xs.dropWhile z) ?_ ?_
  · refine whlL_inv (fun m σ w' => w' = w ∧ ∃ at_ : Nat, m + at_ = xs.length ∧ σ = [some (.d x), some (.d (.int (at_ : Int)))] ∧ (xs.drop at_).dropWhile z = xs.dropWhile z) (m := xs.length) (by omega) ⟨rfl, 0, rfl, rfl, rfl⟩ ?_
    rintro m σ w' ⟨rfl, at_, hm, rfl, hd⟩
    by_cases hlt : at_ < xs.length
    · have hy := List.getElem?_eq_getElem hlt
      have e := sub at_ _ hy
      have ez := hz xs[at_] (List.getElem_mem hlt)
      have dr : xs.drop at_ = xs[at_] :: xs.drop (at_ + 1) := List.drop_eq_getElem_cons hlt
      have hlt' : (at_ : Int) < (xs.length : Int) := by omega
      simp [len, e, ez, hlt', ok2]
      cases hzz : z xs[at_] with
      | false =>
        simp
        exact ⟨at_, rfl, by rw [← hd, dr, List.dropWhile_cons, hzz]; rfl⟩
      | true =>
        simp
        refine ⟨m - 1, by omega, at_ + 1, by omega, by simp, ?_⟩
        rw [← hd, dr, List.dropWhile_cons, hzz]
        simp
    · have hlt' : ¬ (at_ : Int) < (xs.length : Int) := by omega
      simp [len, hlt']
      exact ⟨at_, rfl, by rw [← hd, List.drop_eq_nil_of_le (by omega)]; rfl⟩
  · rintro σ w' ⟨rfl, at_, rfl, hd⟩
    have hc : slD x (some (at_ : Int)) none = some (match x with
      | .list _ => .list (xs.drop at_)
      | _ => .tuple (xs.drop at_)) := by
      have c : cut xs (some (at_ : Int)) none = xs.drop at_ := cut_from at_
      rcases hx with rfl | rfl <;> (show some _ = _; rw [c])
    rcases hx with rfl | rfl <;> (simp [hc, take_len]; rw [← hd]; rfl)
theorem trim_int {x : D} (hx : x = .list (iM f) ∨ x = iT f) (hl : f.length < 16777216) (hq : E.q = 16777216) :
    fin w.length (evS E B_law_trim [some (.d x), o] w) = .ok (.d (iT (stripI f))) w := by
  have := trim_ok (E := E) (w := w) (o := o) (x := x) (xs := iM f) (z := z0) hx (by simpa using hl) hq (fun y hy => by
    obtain ⟨a, _, rfl⟩ := List.mem_map.mp hy
    rw [in_zero]
    rfl)
  rw [this, drop_int]
  rfl
theorem law_sum_ok {i : Nat} (hf : f.length ≤ 500) (hg : g.length ≤ 500)
    (hs : ∀ (h : List Int) (w : W), h.length ≤ 1000 → E.Φ i [.d (.list (iM h))] w = .ok (.d (iT (stripI h))) w) :
    fin w.length (evS E (B_law_sum i) [some (.d (iT f)), some (.d (iT g)), o, o1, o2, o3, o4] w) = .ok (.d (iT (addI f g))) w := by
  refine Ret.eq (X := fun _ _ _ => False) ?_ (fun _ _ _ h => h)
  have mx : bltD .max [.int (f.length : Int), .int (g.length : Int)] = some (.int ((max f.length g.length : Nat) : Int)) := by
    show some (PyData.int (if (g.length : Int) > f.length then g.length else f.length)) = _
    congr 2
    split <;> omega
  have ll : ∀ h : List Int, bltD .list [iT h] = some (.list (iM h)) := fun _ => rfl
  have ln : ∀ h : List Int, h.length ≤ max f.length g.length → (padI (max f.length g.length) h).length = max f.length g.length := fun h hh => by
    unfold padI
    rw [List.length_append, List.length_replicate]; omega
  have pd : ∀ h : List Int, h.length ≤ max f.length g.length → iM (List.replicate (((max f.length g.length : Nat) : Int) - h.length).toNat 0) ++ iM h = iM (padI (max f.length g.length) h) := fun h hh => by
    have : (((max f.length g.length : Nat) : Int) - h.length).toNat = max f.length g.length - h.length := by omega
    rw [this]
    unfold padI iM
    rw [List.map_append]
  have pf := pd f (by omega)
  have pg := pd g (by omega)
  have sc := sum_comp (E := E) (w := w) (f := padI (max f.length g.length) f) (g := padI (max f.length g.length) g) (x := 5) (y := 6) (σ := wip [some (.d (iT f)), some (.d (iT g)), some (.d (.int ((max f.length g.length : Nat) : Int))), some (.d (.list (iM (padI (max f.length g.length) f)))), some (.d (.list (iM (padI (max f.length g.length) g)))), o3, o4] [5, 6]) (by simp [wip]) (by simp [wip]) (by decide)
  have zl : okL (zipD (iM (padI (max f.length g.length) f)) (iM (padI (max f.length g.length) g))).length = true := by
    rw [zipD_len, iM_len, iM_len, ln f (by omega), ln g (by omega)]
    exact decide_eq_true (by omega)
  have st := hs (List.zipWith (· + ·) (padI (max f.length g.length) f) (padI (max f.length g.length) g)) w (by rw [List.length_zipWith, ln f (by omega), ln g (by omega)]; omega)
  have ok1 : okL 1 = true := rfl
  have c1 : ∀ h : List Int, h.length ≤ max f.length g.length → (decide (1 ≤ 1000) && decide ((((max f.length g.length : Nat) : Int) - h.length) ≤ 1000) && decide (-1000 ≤ (((max f.length g.length : Nat) : Int) - h.length))) = true := fun h hh => by
    simp only [Bool.and_eq_true, decide_eq_true_eq]
    omega
  have okl : ∀ h : List Int, h.length ≤ max f.length g.length → okL ((List.replicate (((max f.length g.length : Nat) : Int) - h.length).toNat (0 : Int)).length + h.length) = true := fun h hh => decide_eq_true (by rw [List.length_replicate]; omega)
  unfold B_law_sum
  simp only [Ret_fin, RetS_cons, evS_asgN, RetS_onE, Ret_blt, evA_cons, evA_nil, Ret_bind, ev_var, Ret_ofO, slot_cons0, slot_cons, OptP_some, rdAll_cons, rdAll_nil, rd_d, Option.bind_some, Option.map_some, len_iT, mx, Ret_ok, RetS_mk, sq_next, evS_par, Ret_bin, Ret_lst, ev_cst, purs_cons, purs_nil, List.length_cons, List.length_nil, Nat.zero_add, ok1, true_and, List.set_cons_succ, List.set_cons_zero, sub_ii, mul_li, c1 f (by omega), c1 g (by omega), if_true, rep_zero, ll, add_ll, iM_len, okl f (by omega), okl g (by omega), pf, pg, RetS_ofS, setAll_cons, setAll_nil, evS_ret, ev_call, Ret_comp, Ret_zp, ZipP_l, compP_dat, zl, sc, st, sq_ret, finK_d, take_len, and_self, and_true]
  rfl
end
end Pv

/-! Part Qh: values of rows of integers at fractions. -/
namespace Pv
open PySem
theorem rat_step {t b a p q : Int} {u : Rat} (hb : 0 < b) (hq : 0 < q) (h : (t : Rat) / (b : Rat) = u) : ((t * p + a * (b * q) : Int) : Rat) / ((b * q : Int) : Rat) = u * ((p : Rat) / (q : Rat)) + (a : Rat) := by
  have hb' : (b : Rat) ≠ 0 := by
    intro z; have : b = 0 := by exact_mod_cast z
    omega
  have hq' : (q : Rat) ≠ 0 := by
    intro z; have : q = 0 := by exact_mod_cast z
    omega
  rw [← h, Rat.intCast_add, Rat.intCast_mul, Rat.intCast_mul, Rat.intCast_mul]
  grind
theorem okI_pow {a : Int} {m : Nat} (h : a.natAbs < 2 ^ m) (hm : m ≤ 50000000) : okI a = true := by
  unfold okI
  refine decide_eq_true ?_
  by_cases z : a.natAbs = 0
  · rw [z]; decide
  · have q := (Nat.log2_lt z).mpr h
    omega
theorem log_pow {n m : Nat} (h : n < 2 ^ m) (hm : 0 < m) : n.log2 < m := by
  by_cases z : n = 0
  · rw [z]; exact hm
  · exact (Nat.log2_lt z).mpr h
theorem toR_snoc {f : List Int} {a : Int} : toR (f ++ [a]) = toR f ++ [(a : Rat)] := by
  unfold toR
  rw [List.map_append]
  rfl
theorem take_snoc {f : List Int} {k : Nat} {a : Int} (h : f[k]? = some a) : f.take (k + 1) = f.take k ++ [a] := by
  rw [List.take_add_one, h]
  rfl
/-- the sizes that a value's steps have -/
theorem size_step {t b a p q : Int} {B C k : Nat} (ht : t.natAbs ≤ k * 2 ^ (B + C * k)) (hb : b.natAbs ≤ 2 ^ (C * k)) (ha : a.natAbs < 2 ^ B) (hp : p.natAbs < 2 ^ C) (hq : q.natAbs < 2 ^ C) :
    (t * p + a * (b * q)).natAbs ≤ (k + 1) * 2 ^ (B + C * (k + 1)) ∧ (b * q).natAbs ≤ 2 ^ (C * (k + 1)) := by
  have h2 : (b * q).natAbs ≤ 2 ^ (C * (k + 1)) := by
    rw [Int.natAbs_mul, Nat.mul_add, Nat.mul_one, Nat.pow_add]
    exact Nat.mul_le_mul hb (Nat.le_of_lt hq)
  refine ⟨?_, h2⟩
  have h1 : (t * p).natAbs ≤ k * 2 ^ (B + C * (k + 1)) := by
    rw [Int.natAbs_mul, Nat.mul_add, Nat.mul_one, ← Nat.add_assoc, Nat.pow_add _ (B + C * k) C, ← Nat.mul_assoc]
    exact Nat.mul_le_mul ht (Nat.le_of_lt hp)
  have h3 : (a * (b * q)).natAbs ≤ 2 ^ (B + C * (k + 1)) := by
    rw [Int.natAbs_mul, Nat.pow_add]
    exact Nat.mul_le_mul (Nat.le_of_lt ha) h2
  have := Int.natAbs_add_le (t * p) (a * (b * q))
  rw [Nat.add_mul, Nat.one_mul]
  omega
section
variable {E : En} {w : W} {o o1 o2 o3 o4 : Option IV} {f g : List Int}
theorem value_of_ok {B C i : Nat} {r : Rat} (hf : Sm B f) (hp : r.num.natAbs < 2 ^ C) (hq : r.den < 2 ^ C) (lf : f.length ≤ 400) (hB : B ≤ 8000) (hC : C ≤ 8000) (hCl : C * 400 ≤ 1000000)
    (hs : ∀ (t b : Int) (w : W), 0 < b → b.natAbs < 2 ^ (C * f.length + 1) → t.natAbs < 2 ^ (B + C * f.length + 10) → E.Φ i [.d (.int t), .d (.int b)] w = .ok (.d (nD ((t : Rat) / (b : Rat)))) w) :
    fin w.length (evS E (B_value_of i) [some (.d (iT f)), some (.d (nD r)), o, o1, o2, o3] w) = .ok (.d (nD (vl (toR f) r))) w := by
  refine Ret.eq (X := fun _ _ _ => False) ?_ (fun _ _ _ h => h)
  have ok2 : okL 2 = true := rfl
  have hden : 0 < (r.den : Int) := by have := r.den_nz; omega
  have hr : ((r.num : Rat) / ((r.den : Int) : Rat)) = r := by
    rw [← Rat.divInt_eq_div, Rat.num_divInt_den]
  have x0 : subD (nD r) (.int 0) = some (.int r.num) := tub_0
  have x1 : subD (nD r) (.int 1) = some (.int (r.den : Int)) := tub_1
  unfold B_value_of
  simp only [Ret_fin, RetS_cons, RetS_asgT, Ret_tup, evA_cons, evA_nil, ev_cst, Ret_bind, Ret_ok, purs_cons, purs_nil, Option.map_some, OptP_some, List.length_cons, List.length_nil, Nat.zero_add, Nat.reduceAdd, ok2, true_and, DatP_d, asg_tup, asgs_cons, asg_nm, asgs_nil, Option.bind_some, sq_next, List.set_cons_succ, List.set_cons_zero]
  refine RetS.nx (M := fun σ w' => w' = w ∧ ∃ (t b : Int) (x4 x5 : Option IV), σ = [some (.d (iT f)), some (.d (nD r)), some (.d (.int t)), some (.d (.int b)), x4, x5] ∧ 0 < b ∧ (t : Rat) / (b : Rat) = vl (toR f) r ∧ t.natAbs ≤ f.length * 2 ^ (B + C * f.length) ∧ b.natAbs ≤ 2 ^ (C * f.length)) ?_ ?_
  · rw [RetS_for, Ret_enm]
    simp only [ev_var, Ret_ofO, slot_cons0, OptP_some, DatP_d, show itemsD (iT f) = some (iM f) from rfl, forP_dat]
    refine ⟨by rw [enumD_len, iM_len]; exact decide_eq_true (by omega), ?_⟩
    refine forL_inv (fun k σ w' => w' = w ∧ ∃ (t b : Int) (x4 x5 : Option IV), σ = [some (.d (iT f)), some (.d (nD r)), some (.d (.int t)), some (.d (.int b)), x4, x5] ∧ 0 < b ∧ (t : Rat) / (b : Rat) = vl (toR (f.take k)) r ∧ t.natAbs ≤ k * 2 ^ (B + C * k) ∧ b.natAbs ≤ 2 ^ (C * k))
      ⟨rfl, 0, 1, _, _, rfl, by decide, by show ((0 : Int) : Rat) / ((1 : Int) : Rat) = 0; grind, by simp, by simp⟩ ?_ ?_
    · rintro k z σ w' hz ⟨rfl, t, b, x4, x5, rfl, hb0, he, ht, hb⟩
      obtain ⟨a, ha, rfl⟩ := enum_get hz
      have hkf : k < f.length := (List.getElem?_eq_some_iff.mp ha).1
      have ham : a.natAbs < 2 ^ B := hf a (List.mem_of_getElem? ha)
      have hdn : ((r.den : Nat) : Int).natAbs < 2 ^ C := hq
      have hmono : C * k ≤ 1000000 := Nat.le_trans (Nat.mul_le_mul_left C (by omega : k ≤ 400)) hCl
      have oa : okI a = true := okI_pow ham (by omega)
      have op : okI r.num = true := okI_pow hp (by omega)
      have oq : okI (r.den : Int) = true := okI_pow hdn (by omega)
      have ob : okI b = true := okI_pow (m := C * k + 1) (Nat.lt_of_le_of_lt hb (Nat.pow_lt_pow_right (by decide) (Nat.lt_succ_self _))) (by omega)
      have ot : okI t = true := okI_pow (m := B + C * k + 10) (by
        refine Nat.lt_of_le_of_lt ht ?_
        rw [Nat.pow_add _ (B + C * k) 10, Nat.mul_comm]
        exact (Nat.mul_lt_mul_left (Nat.two_pow_pos _)).mpr (by omega)) (by omega)
      rw [RetS_body]
      simp only [asg_tup, asgs_cons, asg_nm, asgs_nil, Option.bind_some, OptP_some, List.set_cons_succ, List.set_cons_zero]
      rw [take_snoc ha, toR_snoc, vl_snoc]
      rcases Nat.eq_zero_or_pos k with k0 | k0
      · subst k0
        have t0 : t = 0 := by
          rw [Nat.zero_mul] at ht; omega
        subst t0
        have z0 : vl (toR (f.take 0)) r = 0 := rfl
        simp [x0, ot, op, oa, okI_small (i := 1) (by decide)]
        refine ⟨_, _, ⟨rfl, rfl⟩, by decide, ?_, ?_, ?_⟩
        · rw [show vl (toR []) r = 0 from rfl]; grind
        · rw [Nat.pow_add]
          have := Nat.mul_le_mul (Nat.le_of_lt ham) (Nat.one_le_two_pow (n := C))
          omega
        · exact Nat.one_le_two_pow
      · have kp : 0 < (k : Int) := by omega
        have s1 := size_step (k := k) ht hb ham hp hdn
        have obq : okI (b * (r.den : Int)) = true := okI_pow (m := C * (k + 1) + 1) (Nat.lt_of_le_of_lt s1.2 (Nat.pow_lt_pow_right (by decide) (Nat.lt_succ_self _))) (by rw [Nat.mul_add]; omega)
        have e2 := rat_step (a := a) (p := r.num) hb0 hden he
        rw [hr] at e2
        simp [kp, k0, x0, x1, ot, op, oa, ob, oq, obq]
        exact ⟨_, _, ⟨rfl, rfl⟩, Int.mul_pos hb0 hden, e2, s1.1, s1.2⟩
    · rintro σ w' ⟨rfl, t, b, x4, x5, rfl, hb0, he, ht, hb⟩
      rw [enumD_len, iM_len] at he ht hb
      rw [List.take_length] at he
      exact ⟨rfl, t, b, x4, x5, rfl, hb0, he, ht, hb⟩
  · rintro σ w' ⟨rfl, t, b, x4, x5, rfl, hb0, he, ht, hb⟩
    have b1 : b.natAbs < 2 ^ (C * f.length + 1) := Nat.lt_of_le_of_lt hb (Nat.pow_lt_pow_right (by decide) (Nat.lt_succ_self _))
    have t1 : t.natAbs < 2 ^ (B + C * f.length + 10) := by
      refine Nat.lt_of_le_of_lt ht ?_
      rw [Nat.pow_add _ (B + C * f.length) 10, Nat.mul_comm]
      exact (Nat.mul_lt_mul_left (Nat.two_pow_pos _)).mpr (by omega)
    simp [hs t b _ hb0 b1 t1, he, take_len]
end
end Pv

/-! Part Qi: the law's own value of a polynomial; sums and products of numbers. -/
namespace Pv
open PySem
theorem pow_abs {p : Int} {C : Nat} (h : p.natAbs < 2 ^ C) (k : Nat) : (p ^ k).natAbs ≤ 2 ^ (C * k) := by
  rw [Int.natAbs_pow, Nat.pow_mul]
  exact Nat.pow_le_pow_left (Nat.le_of_lt h) k
theorem mul_abs {a b : Int} {A B : Nat} (h : a.natAbs ≤ 2 ^ A) (g : b.natAbs ≤ 2 ^ B) : (a * b).natAbs ≤ 2 ^ (A + B) := by
  rw [Int.natAbs_mul, Nat.pow_add]
  exact Nat.mul_le_mul h g
theorem okI_le {a : Int} {m : Nat} (h : a.natAbs ≤ 2 ^ m) (hm : m < 50000000) : okI a = true :=
  okI_pow (m := m + 1) (Nat.lt_of_le_of_lt h (Nat.pow_lt_pow_right (by decide) (Nat.lt_succ_self _))) hm
theorem rq_pow_ne {q : Rat} (h : q ≠ 0) : ∀ n : Nat, q ^ n ≠ 0
  | 0 => by rw [Rat.pow_zero]; decide
  | n + 1 => by
    rw [Rat.pow_succ]
    intro z
    rcases Rat.mul_eq_zero.mp z with y | y
    · exact rq_pow_ne h n y
    · exact h y
theorem rq_pow_add (q : Rat) (m : Nat) : ∀ n : Nat, q ^ (m + n) = q ^ m * q ^ n
  | 0 => by rw [Rat.pow_zero, Nat.add_zero, Rat.mul_one]
  | n + 1 => by rw [← Nat.add_assoc, Rat.pow_succ, rq_pow_add q m n, Rat.pow_succ, Rat.mul_assoc]
theorem rq_mul_pow (a b : Rat) : ∀ n : Nat, (a * b) ^ n = a ^ n * b ^ n
  | 0 => by simp only [Rat.pow_zero, Rat.mul_one]
  | n + 1 => by rw [Rat.pow_succ, rq_mul_pow a b n, Rat.pow_succ, Rat.pow_succ]; grind
/-- the law's sum of the first k parts -/
def atS (f : List Int) (p q : Int) (n : Nat) : Nat → Int
  | 0 => 0
  | k + 1 => atS f p q n k + f.getD k 0 * p ^ (n - k) * q ^ k
theorem atS_abs {f : List Int} {p q : Int} {B C n : Nat} (hf : Sm B f) (hp : p.natAbs < 2 ^ C) (hq : q.natAbs < 2 ^ C) : ∀ k : Nat, k ≤ f.length → k ≤ n + 1 → (atS f p q n k).natAbs ≤ k * 2 ^ (B + C * n)
  | 0, _, _ => by simp [atS]
  | k + 1, hk, hn => by
    have ih := atS_abs (n := n) hf hp hq k (by omega) (by omega)
    have ha : (f.getD k 0).natAbs ≤ 2 ^ B := Nat.le_of_lt (hf _ (getD_mem (by omega)))
    have h1 := mul_abs (mul_abs ha (pow_abs hp (n - k))) (pow_abs hq k)
    have e : B + C * (n - k) + C * k = B + C * n := by rw [Nat.add_assoc, ← Nat.mul_add]; congr 2; omega
    rw [e] at h1
    unfold atS
    have := Int.natAbs_add_le (atS f p q n k) (f.getD k 0 * p ^ (n - k) * q ^ k)
    rw [Nat.add_mul, Nat.one_mul]
    omega
theorem atS_vl {f : List Int} {p q : Int} {n : Nat} (hq : q ≠ 0) (hn : n + 1 = f.length) : ∀ k : Nat, k ≤ f.length → (atS f p q n k : Rat) / (q : Rat) ^ n = vl (toR (f.take k)) ((p : Rat) / (q : Rat)) * ((p : Rat) / (q : Rat)) ^ (f.length - k)
  | 0, _ => by
    show ((0 : Int) : Rat) / _ = (0 : Rat) * _
    grind
  | k + 1, hk => by
    have ih := atS_vl (p := p) hq hn k (by omega)
    have hq' : (q : Rat) ≠ 0 := by
      intro z; have : q = 0 := by exact_mod_cast z
      omega
    have hg : f[k]? = some (f.getD k 0) := by
      rw [List.getD_eq_getElem?_getD, List.getElem?_eq_getElem (by omega)]; rfl
    rw [take_snoc hg, toR_snoc, vl_snoc]
    unfold atS
    rw [Rat.intCast_add, Rat.intCast_mul, Rat.intCast_mul, Rat.intCast_pow, Rat.intCast_pow]
    have e1 : f.length - k = f.length - (k + 1) + 1 := by omega
    have e2 : n - k = f.length - (k + 1) := by omega
    have e3 : n = f.length - (k + 1) + k := by omega
    rw [e1] at ih
    obtain ⟨m, hm⟩ : ∃ m, m = f.length - (k + 1) := ⟨_, rfl⟩
    rw [← hm] at ih e2 e3 ⊢
    rw [e2]
    have hqm : (q : Rat) ^ m ≠ 0 := rq_pow_ne hq' m
    have hqk : (q : Rat) ^ k ≠ 0 := rq_pow_ne hq' k
    have x2 : (q : Rat) ^ n = (q : Rat) ^ m * (q : Rat) ^ k := by rw [e3, rq_pow_add]
    obtain ⟨u, hu⟩ : ∃ u, u = (p : Rat) / (q : Rat) := ⟨_, rfl⟩
    have hp : (p : Rat) = u * q := by rw [hu]; grind
    rw [← hu] at ih ⊢
    rw [hp, rq_mul_pow, x2]
    rw [x2, rq_pow_add, Rat.pow_succ, Rat.pow_zero] at ih
    grind

section
variable {E : En} {w : W} {o o1 o2 o3 o4 o5 o6 o7 : Option IV} {f g : List Int}
theorem slot_set_ne {σ : Sl} {i j : Nat} {x : Option IV} (h : i ≠ j) : slot (σ.set i x) j = slot σ j := by rw [slot_set, if_neg h]
theorem slot_set_eq {σ : Sl} {i : Nat} {x : Option IV} (h : i < σ.length) : slot (σ.set i x) i = x := by rw [slot_set, if_pos rfl, if_pos h]
/-- for it in range(m): a = a * p -/
theorem mul_loop {σ : Sl} {K : Fl → W → Prop} {it ia ip m : Nat} {a p M : Int} {e : Ex} (n1 : ia ≠ it) (n2 : it ≠ ip) (n3 : ia ≠ ip) (l1 : it < σ.length) (l2 : ia < σ.length) (ha : slot σ ia = some (.d (.int a))) (hp : slot σ ip = some (.d (.int p)))
    (he : ev E e σ w = .ok (.d (.int M)) w) (hM : M = (m : Int)) (hm : m ≤ 1000) (op : okI p = true) (oa : ∀ k, k < m → okI (a * p ^ k) = true)
    (hK : ∀ x, K (.next ((σ.set it x).set ia (some (.d (.int (a * p ^ m)))))) w) :
    RetS K (evS E (.for_ (.nm it) (.rng (.cons e .nil)) (.cons (.asg (.nm ia) (.bin .Mult (.var ia) (.var ip))) .nil)) σ w) := by
  subst hM
  rw [RetS_for, Ret_rng]
  simp only [evA_cons, evA_nil, Ret_bind, he, Ret_ok, purs_cons, purs_nil, Option.map_some, OptP_some, rng_nat (n := m) (by omega), forP_dat]
  refine ⟨by rw [List.length_map, List.length_range]; exact decide_eq_true (by omega), ?_⟩
  refine forL_inv (fun k σ' w' => w' = w ∧ ∃ x, σ' = (σ.set it x).set ia (some (.d (.int (a * p ^ k))))) ⟨rfl, slot σ it, ?_⟩ ?_ ?_
  · rw [show a * p ^ 0 = a by rw [Int.pow_zero, Int.mul_one]]
    unfold slot at ha ⊢
    rw [List.getElem?_eq_getElem l1, List.getElem?_eq_getElem l2] at *
    have ha' : σ[ia] = some (.d (.int a)) := ha
    show σ = (σ.set it σ[it]).set ia _
    rw [List.set_getElem_self, ← ha', List.set_getElem_self]
  · rintro k z σ' w' hz ⟨rfl, x, rfl⟩
    obtain ⟨hkf, rfl⟩ := range_get hz
    rw [RetS_body]
    simp only [asg_nm, OptP_some]
    rw [List.set_comm _ _ n1, List.set_set]
    have s1 : slot ((σ.set it (some (.d (.int (k : Int))))).set ia (some (.d (.int (a * p ^ k))))) ia = some (.d (.int (a * p ^ k))) := slot_set_eq (by rw [List.length_set]; exact l2)
    have s2 : slot ((σ.set it (some (.d (.int (k : Int))))).set ia (some (.d (.int (a * p ^ k))))) ip = some (.d (.int p)) := by rw [slot_set_ne n3, slot_set_ne n2, hp]
    simp only [RetS_cons, evS_asgN, RetS_onE, Ret_bin, ev_var, Ret_ofO, s1, s2, OptP_some, rd_d, mul_ii, oa k hkf, op, Bool.and_self, if_true, Ret_ok, RetS_mk, sq_next, evS_nil, List.set_set]
    exact ⟨rfl, _, by rw [Int.pow_succ, Int.mul_assoc]⟩
  · rintro σ' w' ⟨rfl, x, rfl⟩
    rw [List.length_map, List.length_range]
    exact hK x
theorem law_at_ok {B C i : Nat} {r : Rat} (hf : Sm B f) (hp : r.num.natAbs < 2 ^ C) (hq : r.den < 2 ^ C) (lf : f.length ≤ 400) (hB : B ≤ 8000) (hC : C ≤ 8000) (hCl : C * 400 ≤ 1000000)
    (hs : ∀ (t b : Int) (w : W), 0 < b → b.natAbs < 2 ^ (C * f.length + 1) → t.natAbs < 2 ^ (B + C * f.length + 10) → E.Φ i [.d (.int t), .d (.int b)] w = .ok (.d (nD ((t : Rat) / (b : Rat)))) w) :
    fin w.length (evS E (B_law_at i) [some (.d (iT f)), some (.d (nD r)), o, o1, o2, o3, o4, o5, o6, o7] w) = .ok (.d (nD (vl (toR f) r))) w := by
  refine Ret.eq (X := fun _ _ _ => False) ?_ (fun _ _ _ h => h)
  obtain ⟨p, ep⟩ : ∃ p, p = r.num := ⟨_, rfl⟩
  obtain ⟨q, eq⟩ : ∃ q : Int, q = r.den := ⟨_, rfl⟩
  have q0 : 0 < q := by have := r.den_nz; omega
  have hr : ((p : Rat) / (q : Rat)) = r := by
    rw [ep, eq, ← Rat.divInt_eq_div, Rat.num_divInt_den]
  have x0 : subD (nD r) (.int 0) = some (.int p) := by rw [ep]; exact tub_0
  have x1 : subD (nD r) (.int 1) = some (.int q) := by rw [eq]; exact tub_1
  have hp : p.natAbs < 2 ^ C := by rw [ep]; exact hp
  have hq : q.natAbs < 2 ^ C := by rw [eq]; exact hq
  have okl : ∀ k : Nat, k ≤ 1000 → okL k = true := fun k h => decide_eq_true (by omega)
  obtain ⟨n, en⟩ : ∃ n, n = f.length - 1 := ⟨_, rfl⟩
  have hmono : ∀ k : Nat, k ≤ 400 → C * k ≤ 1000000 := fun k hk => Nat.le_trans (Nat.mul_le_mul_left C hk) hCl
  have op : okI p = true := okI_pow hp (by omega)
  have oq : okI q = true := okI_pow hq (by omega)
  unfold B_law_at
  have mxx : bltD .max [.int 0, .int ((f.length : Int) - 1)] = some (.int ((f.length - 1 : Nat) : Int)) := by
    show some (PyData.int (if ((f.length : Int) - 1) > 0 then ((f.length : Int) - 1) else 0)) = _
    congr 2
    split <;> omega
  simp only [Ret_fin, RetS_cons, RetS_asgT, Ret_tup, evA_cons, evA_nil, ev_cst, ev_var, Ret_sub, Ret_bin, Ret_blt, Ret_ofO, slot_cons, slot_cons0, Ret_bind, Ret_ok, purs_cons, purs_nil, Option.map_some, Option.bind_some, rdAll_cons, rdAll_nil, rd_d, len_iT, x0, x1, sub_ii, OptP_some, List.length_cons, List.length_nil, Nat.zero_add, Nat.reduceAdd, okl 4 (by omega), true_and, DatP_d, asg_tup, asgs_cons, asg_nm, asgs_nil, sq_next, List.set_cons_succ, List.set_cons_zero]
  refine RetS.nx (M := fun σ w' => w' = w ∧ ∃ y2 y4 y9, σ = [some (.d (iT f)), some (.d (nD r)), y2, o1, y4, some (.d (.int p)), some (.d (.int q)), some (.d (.int (atS f p q n f.length))), some (.d (.int ((f.length : Int) - 1))), y9]) ?_ ?_
  · rw [RetS_for, Ret_rng]
    simp only [evA_cons, evA_nil, Ret_bind, Ret_blt, ev_var, Ret_ofO, slot_cons0, OptP_some, Ret_ok, rdAll_cons, rdAll_nil, rd_d, Option.bind_some, Option.map_some, len_iT, purs_cons, purs_nil, rng_nat (n := f.length) (by omega), forP_dat]
    refine ⟨by rw [List.length_map, List.length_range]; exact okl _ (by omega), ?_⟩
    refine forL_inv (fun k σ w' => w' = w ∧ ∃ y2 y4 y9, σ = [some (.d (iT f)), some (.d (nD r)), y2, o1, y4, some (.d (.int p)), some (.d (.int q)), some (.d (.int (atS f p q n k))), some (.d (.int ((f.length : Int) - 1))), y9]) ⟨rfl, _, _, _, rfl⟩ ?_ ?_
    · rintro k z σ w' hz ⟨rfl, y2, y4, y9, rfl⟩
      obtain ⟨hkf, rfl⟩ := range_get hz
      have ha : (f.getD k 0).natAbs ≤ 2 ^ B := Nat.le_of_lt (hf _ (getD_mem hkf))
      have m1 := hmono (n - k) (by omega)
      rw [RetS_body]
      simp only [asg_nm, OptP_some, List.set_cons_succ, List.set_cons_zero, RetS_cons, evS_asgN, RetS_onE, Ret_sub, ev_var, Ret_ofO, slot_cons, slot_cons0, rd_d, iT_sub hkf, Ret_ok, RetS_mk, sq_next]
      refine mul_loop (m := n - k) (a := f.getD k 0) (p := p) (M := ((f.length : Int) - 1) - k) (by decide) (by decide) (by decide) (by simp) (by simp) (by simp) (by simp) ?_ (by omega) (by omega) op ?_ ?_
      · refine Ret.eq (X := fun _ _ _ => False) ?_ (fun _ _ _ h => h)
        simp only [Ret_bin, ev_var, Ret_ofO, slot_cons, slot_cons0, OptP_some, rd_d, sub_ii, Ret_ok, and_self]
      · intro j hj
        exact okI_le (mul_abs ha (pow_abs hp j)) (by have := hmono j (by omega); omega)
      intro x
      simp only [sq_next, RetS_cons, List.set_cons_succ, List.set_cons_zero]
      refine mul_loop (m := k) (a := f.getD k 0 * p ^ (n - k)) (p := q) (M := k) (by decide) (by decide) (by decide) (by simp) (by simp) (by simp) (by simp) ?_ rfl (by omega) oq ?_ ?_
      · rfl
      · intro j hj
        refine okI_le (mul_abs (mul_abs ha (pow_abs hp (n - k))) (pow_abs hq j)) ?_
        have := hmono j (by omega); omega
      intro x'
      simp only [sq_next, RetS_cons, evS_asgN, RetS_onE, Ret_bin, ev_var, Ret_ofO, slot_cons, slot_cons0, OptP_some, rd_d, add_ii, Ret_ok, RetS_mk, evS_nil, List.set_cons_succ, List.set_cons_zero]
      exact ⟨rfl, _, _, _, rfl⟩
    · rintro σ w' ⟨rfl, y2, y4, y9, rfl⟩
      rw [List.length_map, List.length_range]
      exact ⟨rfl, _, _, _, rfl⟩
  · rintro σ w' ⟨rfl, y2, y4, y9, rfl⟩
    simp only [evS_asgN, RetS_onE, ev_cst, Ret_ok, RetS_mk, sq_next, List.set_cons_succ, List.set_cons_zero]
    refine mul_loop (m := n) (a := 1) (p := q) (M := ((f.length - 1 : Nat) : Int)) (by decide) (by decide) (by decide) (by simp) (by simp) (by simp) (by simp) ?_ (by rw [en]) (by omega) oq ?_ ?_
    · refine Ret.eq (X := fun _ _ _ => False) ?_ (fun _ _ _ h => h)
      simp only [Ret_blt, evA_cons, evA_nil, ev_cst, ev_var, Ret_bind, Ret_ofO, Ret_ok, slot_cons, slot_cons0, OptP_some, rdAll_cons, rdAll_nil, rd_d, Option.bind_some, Option.map_some, mxx, and_self]
    · intro j hj
      rw [Int.one_mul]
      exact okI_le (pow_abs hq j) (by have := hmono j (by omega); omega)
    intro x
    have qn : 0 < 1 * q ^ n := by rw [Int.one_mul]; exact Int.pow_pos q0
    have hb : (1 * q ^ n).natAbs < 2 ^ (C * f.length + 1) := by
      rw [Int.one_mul]
      refine Nat.lt_of_le_of_lt (pow_abs hq n) (Nat.pow_lt_pow_right (by decide) ?_)
      have := Nat.mul_le_mul_left C (by omega : n ≤ f.length)
      omega
    have ht : (atS f p q n f.length).natAbs < 2 ^ (B + C * f.length + 10) := by
      refine Nat.lt_of_le_of_lt (atS_abs hf hp hq f.length (Nat.le_refl _) (by omega)) ?_
      have h1 : 2 ^ (B + C * n) ≤ 2 ^ (B + C * f.length) := Nat.pow_le_pow_right (by decide) (by have := Nat.mul_le_mul_left C (by omega : n ≤ f.length); omega)
      rw [Nat.pow_add _ _ 10]
      have h2 := Nat.mul_le_mul (by omega : f.length ≤ 400) h1
      have := Nat.two_pow_pos (B + C * f.length)
      omega
    have hv : ((atS f p q n f.length : Int) : Rat) / ((1 * q ^ n : Int) : Rat) = vl (toR f) r := by
      rw [Int.one_mul, Rat.intCast_pow]
      cases f with
      | nil =>
        have : n = 0 := by rw [en]; rfl
        subst this
        show ((0 : Int) : Rat) / _ = (0 : Rat)
        grind
      | cons c f =>
        rw [atS_vl (by omega) (by rw [en]; simp) _ (Nat.le_refl _), hr, List.take_length, Nat.sub_self, Rat.pow_zero, Rat.mul_one]
    simp only [sq_next, RetS_cons, List.set_cons_succ, List.set_cons_zero, evS_ret, RetS_onE, ev_call, Ret_bind, evA_cons, evA_nil, ev_var, Ret_ofO, slot_cons, slot_cons0, OptP_some, Ret_ok, hs _ _ _ qn hb ht, hv, RetS_mk, sq_ret, finK_d, take_len, and_self]
end
end Pv

/-! Part Qj: sizes, lengths and first integers of sums, products, multiples, powers. -/
namespace Pv
open PySem
def HdI (f : List Int) : Prop := ∀ a, f.head? = some a → a ≠ 0
theorem isPoly_iT {f : List Int} (h : HdI f) : isPoly (iT f) = true := by
  unfold isPoly iT
  show ((iM f).all isI && _) = true
  rw [all_ints, Bool.true_and]
  cases f with
  | nil => rfl
  | cons a r =>
    have : a ≠ 0 := h a rfl
    simpa [iM] using this
theorem HdI_strip (f : List Int) : HdI (stripI f) := by
  unfold stripI
  induction f with
  | nil => intro a h; cases h
  | cons b f ih =>
    rw [List.dropWhile_cons]
    cases hb : is0 b with
    | true => exact ih
    | false =>
      intro a h
      cases h
      intro z; subst z; cases hb
theorem HdI_add (f g : List Int) : HdI (addI f g) := HdI_strip _
theorem HdI_scl {k : Int} {f : List Int} (h : HdI f) : HdI (sclI k f) := by
  unfold sclI
  by_cases z : k = 0
  · rw [if_pos z]; intro a h; cases h
  · rw [if_neg z]
    intro a ha
    cases f with
    | nil => cases ha
    | cons b f =>
      cases ha
      exact Int.mul_ne_zero z (h b rfl)
theorem getD_set {l : List Int} {i j : Nat} {a : Int} : (l.set i a).getD j 0 = if i = j ∧ j < l.length then a else l.getD j 0 := by
  rw [List.getD_eq_getElem?_getD, List.getElem?_set, List.getD_eq_getElem?_getD]
  by_cases h : i = j
  · subst h
    by_cases l1 : i < l.length
    · simp [l1]
    · simp [l1, List.getElem?_eq_none (by omega : l.length ≤ i)]
  · simp [h]
theorem innI_low (k : Nat) (a : Int) : ∀ (g : List Int) (p : Nat) (acc : List Int) (j : Nat), j < k + p → (innI k a g p acc).getD j 0 = acc.getD j 0
  | [], _, _, _, _ => rfl
  | b :: g, p, acc, j, h => by
    show (innI k a g (p + 1) _).getD j 0 = _
    rw [innI_low k a g (p + 1) _ j (by omega), getD_set, if_neg (by omega)]
theorem outI_low (g : List Int) : ∀ (f : List Int) (k : Nat) (acc : List Int) (j : Nat), j < k → (outI g f k acc).getD j 0 = acc.getD j 0
  | [], _, _, _, _ => rfl
  | a :: f, k, acc, j, h => by
    show (outI g f (k + 1) _).getD j 0 = _
    rw [outI_low g f (k + 1) _ j (by omega), innI_low k a g 0 acc j (by omega)]
theorem HdI_mul {f g : List Int} (hf : HdI f) (hg : HdI g) : HdI (mulI f g) := by
  cases f with
  | nil => intro a h; cases h
  | cons x f =>
    cases g with
    | nil => intro a h; cases h
    | cons y g =>
      have e : (mulI (x :: f) (y :: g)).getD 0 0 = x * y := by
        have : mulI (x :: f) (y :: g) = outI (y :: g) f 1 (innI 0 x g 1 ((List.replicate (f.length + 1 + (g.length + 1) - 1) (0 : Int)).set 0 ((List.replicate (f.length + 1 + (g.length + 1) - 1) (0 : Int)).getD 0 0 + x * y))) := rfl
        rw [this, outI_low _ f 1 _ 0 (by omega), innI_low 0 x g 1 _ 0 (by omega), getD_set, if_pos ⟨rfl, by rw [List.length_replicate]; omega⟩]
        rw [show f.length + 1 + (g.length + 1) - 1 = (f.length + g.length) + 1 by omega, List.replicate_succ]
        show (0 : Int) + x * y = x * y
        omega
      intro a h
      have l : mulI (x :: f) (y :: g) = a :: (mulI (x :: f) (y :: g)).tail := by
        cases hm : mulI (x :: f) (y :: g) with
        | nil => rw [hm] at h; cases h
        | cons b r => rw [hm] at h; cases h; rfl
      rw [l] at e
      have e' : a = x * y := e
      rw [e']
      exact Int.mul_ne_zero (hf x rfl) (hg y rfl)
theorem Sm.mono {B C : Nat} {f : List Int} (h : Sm B f) (hBC : B ≤ C) : Sm C f := fun a ha => Nat.lt_of_lt_of_le (h a ha) (Nat.pow_le_pow_right (by decide) hBC)
theorem Sm_strip {B : Nat} {f : List Int} (h : Sm B f) : Sm B (stripI f) := fun a ha => h a (List.Sublist.mem ha (List.dropWhile_sublist _))
theorem Sm_pad {B n : Nat} {f : List Int} (h : Sm B f) : Sm B (padI n f) := fun a ha => by
  unfold padI at ha
  rcases List.mem_append.mp ha with q | q
  · rw [(List.mem_replicate.mp q).2]
    exact Nat.two_pow_pos B
  · exact h a q
theorem Sm_add {B : Nat} {f g : List Int} (hf : Sm B f) (hg : Sm B g) : Sm (B + 1) (addI f g) := by
  refine Sm_strip fun a ha => ?_
  rw [← List.map_uncurry_zip_eq_zipWith] at ha
  obtain ⟨⟨x, y⟩, hxy, rfl⟩ := List.mem_map.mp ha
  have hx := Sm_pad (n := max f.length g.length) hf x (List.of_mem_zip hxy).1
  have hy := Sm_pad (n := max f.length g.length) hg y (List.of_mem_zip hxy).2
  show (x + y).natAbs < _
  rw [Nat.pow_succ]
  omega
theorem strip_len (f : List Int) : (stripI f).length ≤ f.length := (List.dropWhile_sublist _).length_le
theorem add_len (f g : List Int) : (addI f g).length ≤ max f.length g.length := by
  refine Nat.le_trans (strip_len _) ?_
  rw [List.length_zipWith]
  unfold padI
  rw [List.length_append, List.length_append, List.length_replicate, List.length_replicate]
  omega
theorem Sm_scl {B C : Nat} {k : Int} {f : List Int} (hk : k.natAbs < 2 ^ C) (hf : Sm B f) : Sm (C + B) (sclI k f) := by
  unfold sclI
  by_cases z : k = 0
  · rw [if_pos z]; intro a h; cases h
  · rw [if_neg z]
    intro a ha
    obtain ⟨b, hb, rfl⟩ := List.mem_map.mp ha
    rw [Int.natAbs_mul, Nat.pow_add]
    exact Nat.mul_lt_mul'' hk (hf b hb)
theorem scl_len (k : Int) (f : List Int) : (sclI k f).length ≤ f.length := by
  unfold sclI
  split <;> simp
theorem innI_abs {k m P : Nat} {a : Int} : ∀ (g : List Int) (p : Nat) (acc : List Int), (∀ b ∈ g, (a * b).natAbs ≤ P) → (∀ j, (acc.getD j 0).natAbs ≤ m + P) → (∀ j, k + p ≤ j → (acc.getD j 0).natAbs ≤ m) → ∀ j, ((innI k a g p acc).getD j 0).natAbs ≤ m + P
  | [], _, _, _, h1, _, j => h1 j
  | b :: g, p, acc, hg, h1, h2, j => by
    show ((innI k a g (p + 1) _).getD j 0).natAbs ≤ _
    refine innI_abs g (p + 1) _ (fun c hc => hg c (List.mem_cons_of_mem _ hc)) ?_ ?_ j
    · intro j
      rw [getD_set]
      split
      · have := h2 (k + p) (Nat.le_refl _)
        have := hg b List.mem_cons_self
        omega
      · exact h1 j
    · intro j hj
      rw [getD_set, if_neg (by omega)]
      exact h2 j (by omega)
theorem outI_abs {P : Nat} {g : List Int} : ∀ (f : List Int) (k m : Nat) (acc : List Int), (∀ a ∈ f, ∀ b ∈ g, (a * b).natAbs ≤ P) → (∀ j, (acc.getD j 0).natAbs ≤ m) → ∀ j, ((outI g f k acc).getD j 0).natAbs ≤ m + f.length * P
  | [], _, m, _, _, h, j => by
    rw [List.length_nil, Nat.zero_mul, Nat.add_zero]
    exact h j
  | a :: f, k, m, acc, hg, h, j => by
    show ((outI g f (k + 1) _).getD j 0).natAbs ≤ _
    have := outI_abs f (k + 1) (m + P) (innI k a g 0 acc) (fun c hc => hg c (List.mem_cons_of_mem _ hc)) (innI_abs g 0 acc (hg a List.mem_cons_self) (fun j => Nat.le_trans (h j) (Nat.le_add_right _ _)) (fun j _ => h j)) j
    rw [List.length_cons, Nat.add_mul, Nat.one_mul]
    omega
theorem Sm_mul {B C : Nat} {f g : List Int} (hf : Sm B f) (hg : Sm C g) (lf : f.length ≤ 400) : Sm (B + C + 9) (mulI f g) := by
  unfold mulI
  split
  · intro a h; cases h
  · intro a ha
    obtain ⟨j, hj, rfl⟩ := List.getElem_of_mem ha
    have q := outI_abs (P := 2 ^ (B + C)) (g := g) f 0 0 (List.replicate (f.length + g.length - 1) 0) (fun a ha b hb => by
      rw [Int.natAbs_mul, Nat.pow_add]
      exact Nat.mul_le_mul (Nat.le_of_lt (hf a ha)) (Nat.le_of_lt (hg b hb))) (fun j => by
      rw [List.getD_eq_getElem?_getD, List.getElem?_replicate]
      split <;> simp) j
    rw [List.getD_eq_getElem?_getD, List.getElem?_eq_getElem hj] at q
    have q' : (outI g f 0 (List.replicate (f.length + g.length - 1) 0))[j].natAbs ≤ 0 + f.length * 2 ^ (B + C) := q
    have := Nat.mul_le_mul_right (2 ^ (B + C)) lf
    have p := Nat.two_pow_pos (B + C)
    rw [Nat.pow_add _ _ 9]
    omega
theorem mul_len (f g : List Int) : (mulI f g).length ≤ f.length + g.length - 1 := by
  unfold mulI
  split
  · exact Nat.zero_le _
  · rw [outI_len, List.length_replicate]; exact Nat.le_refl _
def powI (f : List Int) : Nat → List Int
  | 0 => [1]
  | n + 1 => mulI (powI f n) f
theorem pow_len (f : List Int) : ∀ n : Nat, (powI f n).length ≤ 1 + n * f.length
  | 0 => by simp [powI]
  | n + 1 => by
    have := pow_len f n
    have := mul_len (powI f n) f
    show (mulI (powI f n) f).length ≤ _
    rw [Nat.add_mul, Nat.one_mul]
    omega
theorem Sm_pow {B : Nat} {f : List Int} (hf : Sm B f) : ∀ n : Nat, 1 + n * f.length ≤ 400 → Sm (1 + n * (B + 9)) (powI f n)
  | 0, _ => fun a h => by
    have : a = 1 := List.mem_singleton.mp h
    subst this
    rw [Nat.zero_mul]
    decide
  | n + 1, h => by
    have h' : 1 + n * f.length ≤ 400 := by rw [Nat.add_mul] at h; omega
    refine (Sm_mul (Sm_pow hf n h') hf (Nat.le_trans (pow_len f n) h')).mono ?_
    rw [Nat.add_mul]; omega
theorem sclI_vl (k : Int) (f : List Int) (x : Rat) : vl (toR (sclI k f)) x = (k : Rat) * vl (toR f) x := by
  unfold sclI
  by_cases z : k = 0
  · subst z
    rw [if_pos rfl]
    show (0 : Rat) = ((0 : Int) : Rat) * _
    grind
  · rw [if_neg z, ← vl_scale]
    congr 1
    unfold toR
    rw [List.map_map, List.map_map]
    congr 1
    funext a
    exact Rat.intCast_mul k a
end Pv

/-! Part Qk: sums and products of numbers; the checks; plus, times, scaled, power, value. -/
namespace Pv
open PySem
/-- a number of at most A bits -/
def Bd (A : Nat) (r : Rat) : Prop := r.num.natAbs < 2 ^ A ∧ r.den < 2 ^ A
theorem lt_mul {a b : Int} {A B : Nat} (h : a.natAbs < 2 ^ A) (g : b.natAbs < 2 ^ B) : (a * b).natAbs < 2 ^ (A + B) := by
  rw [Int.natAbs_mul, Nat.pow_add]
  exact Nat.mul_lt_mul'' h g
theorem den_pos (r : Rat) : 0 < (r.den : Int) := by have := r.den_nz; omega
theorem rat_nd (r : Rat) : r = (r.num : Rat) / ((r.den : Int) : Rat) := by
  rw [← Rat.divInt_eq_div, Rat.num_divInt_den]
theorem rat_plus (r s : Rat) : ((r.num * (s.den : Int) + s.num * (r.den : Int) : Int) : Rat) / (((r.den : Int) * (s.den : Int) : Int) : Rat) = r + s := by
  have h1 : ((r.den : Int) : Rat) ≠ 0 := by
    intro z; have : (r.den : Int) = 0 := by exact_mod_cast z
    have := den_pos r; omega
  have h2 : ((s.den : Int) : Rat) ≠ 0 := by
    intro z; have : (s.den : Int) = 0 := by exact_mod_cast z
    have := den_pos s; omega
  have e1 := rat_nd r
  have e2 := rat_nd s
  rw [Rat.intCast_add, Rat.intCast_mul, Rat.intCast_mul, Rat.intCast_mul]
  generalize ((r.den : Int) : Rat) = p at *
  generalize ((s.den : Int) : Rat) = q at *
  generalize (r.num : Rat) = a at *
  generalize (s.num : Rat) = b at *
  subst e1 e2
  grind
theorem rat_times (r s : Rat) : ((r.num * s.num : Int) : Rat) / (((r.den : Int) * (s.den : Int) : Int) : Rat) = r * s := by
  have h1 : ((r.den : Int) : Rat) ≠ 0 := by
    intro z; have : (r.den : Int) = 0 := by exact_mod_cast z
    have := den_pos r; omega
  have h2 : ((s.den : Int) : Rat) ≠ 0 := by
    intro z; have : (s.den : Int) = 0 := by exact_mod_cast z
    have := den_pos s; omega
  have e1 := rat_nd r
  have e2 := rat_nd s
  rw [Rat.intCast_mul, Rat.intCast_mul]
  generalize ((r.den : Int) : Rat) = p at *
  generalize ((s.den : Int) : Rat) = q at *
  generalize (r.num : Rat) = a at *
  generalize (s.num : Rat) = b at *
  subst e1 e2
  grind
section
variable {E : En} {w : W} {o o1 o2 o3 o4 : Option IV} {f g : List Int} {i j k : Nat}
theorem law_plus_ok {A B : Nat} {r s : Rat} (hr : Bd A r) (hs : Bd B s) (hA : A ≤ 1000000) (hB : B ≤ 1000000)
    (hl : ∀ (t b : Int) (w : W), 0 < b → b.natAbs < 2 ^ (A + B) → t.natAbs < 2 ^ (A + B + 1) → E.Φ i [.d (.int t), .d (.int b)] w = .ok (.d (nD ((t : Rat) / (b : Rat)))) w) :
    fin w.length (evS E (B_law_plus i) [some (.d (nD r)), some (.d (nD s))] w) = .ok (.d (nD (r + s))) w := by
  refine Ret.eq (X := fun _ _ _ => False) ?_ (fun _ _ _ h => h)
  have x0 : ∀ r : Rat, subD (nD r) (.int 0) = some (.int r.num) := fun _ => tub_0
  have x1 : ∀ r : Rat, subD (nD r) (.int 1) = some (.int (r.den : Int)) := fun _ => tub_1
  have o1 : okI r.num = true := okI_pow hr.1 (by omega)
  have o2 : okI s.num = true := okI_pow hs.1 (by omega)
  have o3 : okI (r.den : Int) = true := okI_pow (m := A) hr.2 (by omega)
  have o4 : okI (s.den : Int) = true := okI_pow (m := B) hs.2 (by omega)
  have h1 := lt_mul (b := (s.den : Int)) hr.1 (B := B) hs.2
  have h2 := lt_mul (b := (r.den : Int)) hs.1 (B := A) hr.2
  have h3 := lt_mul (a := (r.den : Int)) (b := (s.den : Int)) (A := A) (B := B) hr.2 hs.2
  rw [Nat.add_comm B A] at h2
  have e := hl (r.num * (s.den : Int) + s.num * (r.den : Int)) ((r.den : Int) * (s.den : Int)) w (Int.mul_pos (den_pos r) (den_pos s)) h3 (by
    have := Int.natAbs_add_le (r.num * (s.den : Int)) (s.num * (r.den : Int))
    rw [Nat.pow_succ]; omega)
  rw [rat_plus] at e
  unfold B_law_plus
  simp [x0, x1, o1, o2, o3, o4, e, take_len]
theorem law_times_ok {A B : Nat} {r s : Rat} (hr : Bd A r) (hs : Bd B s) (hA : A ≤ 1000000) (hB : B ≤ 1000000)
    (hl : ∀ (t b : Int) (w : W), 0 < b → b.natAbs < 2 ^ (A + B) → t.natAbs < 2 ^ (A + B + 1) → E.Φ i [.d (.int t), .d (.int b)] w = .ok (.d (nD ((t : Rat) / (b : Rat)))) w) :
    fin w.length (evS E (B_law_times i) [some (.d (nD r)), some (.d (nD s))] w) = .ok (.d (nD (r * s))) w := by
  refine Ret.eq (X := fun _ _ _ => False) ?_ (fun _ _ _ h => h)
  have x0 : ∀ r : Rat, subD (nD r) (.int 0) = some (.int r.num) := fun _ => tub_0
  have x1 : ∀ r : Rat, subD (nD r) (.int 1) = some (.int (r.den : Int)) := fun _ => tub_1
  have o1 : okI r.num = true := okI_pow hr.1 (by omega)
  have o2 : okI s.num = true := okI_pow hs.1 (by omega)
  have o3 : okI (r.den : Int) = true := okI_pow (m := A) hr.2 (by omega)
  have o4 : okI (s.den : Int) = true := okI_pow (m := B) hs.2 (by omega)
  have h1 := lt_mul hr.1 hs.1
  have h3 := lt_mul (a := (r.den : Int)) (b := (s.den : Int)) (A := A) (B := B) hr.2 hs.2
  have e := hl (r.num * s.num) ((r.den : Int) * (s.den : Int)) w (Int.mul_pos (den_pos r) (den_pos s)) h3 (by
    rw [Nat.pow_succ]; omega)
  rw [rat_times] at e
  unfold B_law_times
  simp [x0, x1, o1, o2, o3, o4, e, take_len]
theorem check_one_ok {x : D} (h : E.Φ i [.d x] w = .ok (.d (.bool true)) w) : fin w.length (evS E (B_check_polynomial i) [some (.d x)] w) = .ok (.d .none) w := by
  refine Ret.eq (X := fun _ _ _ => False) ?_ (fun _ _ _ h => h)
  unfold B_check_polynomial
  simp [h, take_len]
theorem check_number_ok {x : D} (h : E.Φ i [.d x] w = .ok (.d (.bool true)) w) : fin w.length (evS E (B_check_number i) [some (.d x)] w) = .ok (.d .none) w := by
  refine Ret.eq (X := fun _ _ _ => False) ?_ (fun _ _ _ h => h)
  unfold B_check_number
  simp [h, take_len]
theorem check_integer_ok {a : Int} {x : D} (hx : x = .none ∨ ∃ l : Int, x = .int l ∧ l ≤ a) (h : E.Φ i [.d (.int a)] w = .ok (.d (.bool true)) w) : fin w.length (evS E (B_check_integer i) [some (.d (.int a)), some (.d x)] w) = .ok (.d .none) w := by
  refine Ret.eq (X := fun _ _ _ => False) ?_ (fun _ _ _ h => h)
  unfold B_check_integer
  rcases hx with rfl | ⟨l, rfl, hl⟩
  · have nn : isNone PyData.none = true := rfl
    simp [h, take_len, nn]
  · have : ¬ a < l := by omega
    simp [h, this, take_len]
theorem value_ok {x y v : D} (h1 : E.Φ i [.d x] w = .ok (.d .none) w) (h2 : E.Φ j [.d y] w = .ok (.d .none) w) (h3 : E.Φ k [.d x, .d y] w = .ok (.d v) w) : fin w.length (evS E (B_value i j k) [some (.d x), some (.d y)] w) = .ok (.d v) w := by
  refine Ret.eq (X := fun _ _ _ => False) ?_ (fun _ _ _ h => h)
  unfold B_value
  simp [h1, h2, h3, take_len]
theorem plus_ok {x y v : D} (h1 : E.Φ i [.d x] w = .ok (.d .none) w) (h2 : E.Φ i [.d y] w = .ok (.d .none) w) (h3 : E.Φ k [.d x, .d y] w = .ok (.d v) w) : fin w.length (evS E (B_plus i k) [some (.d x), some (.d y)] w) = .ok (.d v) w := by
  refine Ret.eq (X := fun _ _ _ => False) ?_ (fun _ _ _ h => h)
  unfold B_plus
  simp [h1, h2, h3, take_len]
theorem timesP_ok {x y v : D} (h1 : E.Φ i [.d x] w = .ok (.d .none) w) (h2 : E.Φ i [.d y] w = .ok (.d .none) w) (h3 : E.Φ k [.d x, .d y] w = .ok (.d v) w) : fin w.length (evS E (B_times i k) [some (.d x), some (.d y)] w) = .ok (.d v) w := by
  refine Ret.eq (X := fun _ _ _ => False) ?_ (fun _ _ _ h => h)
  unfold B_times
  simp [h1, h2, h3, take_len]
theorem scaled_ok {x y v : D} (h1 : E.Φ i [.d x] w = .ok (.d .none) w) (h2 : E.Φ j [.d y, .d .none] w = .ok (.d .none) w) (h3 : E.Φ k [.d x, .d y] w = .ok (.d v) w) : fin w.length (evS E (B_scaled i j k) [some (.d x), some (.d y)] w) = .ok (.d v) w := by
  refine Ret.eq (X := fun _ _ _ => False) ?_ (fun _ _ _ h => h)
  unfold B_scaled
  simp [h1, h2, h3, take_len]
theorem power_ok {n : Nat} (hn : n ≤ 6) (h1 : E.Φ i [.d (iT f)] w = .ok (.d .none) w) (h2 : E.Φ j [.d (.int (n : Int)), .d (.int 0)] w = .ok (.d .none) w)
    (h3 : ∀ m, m < n → E.Φ k [.d (iT (powI f m)), .d (iT f)] w = .ok (.d (iT (powI f (m + 1)))) w) : fin w.length (evS E (B_power i j k) [some (.d (iT f)), some (.d (.int (n : Int))), o, o1] w) = .ok (.d (iT (powI f n))) w := by
  refine Ret.eq (X := fun _ _ _ => False) ?_ (fun _ _ _ h => h)
  have c1 : ¬ (6 : Int) < (n : Int) := by omega
  have ok1 : okL 1 = true := rfl
  unfold B_power
  simp [h1, h2, c1, ok1, rng_nat (n := n) (by omega)]
  refine ⟨decide_eq_true (by omega), ?_⟩
  refine RetS.nx (M := fun σ w' => w' = w ∧ slot σ 2 = some (.d (iT (powI f n)))) ?_ ?_
  · refine forL_inv (fun m σ w' => w' = w ∧ ∃ x, σ = [some (.d (iT f)), some (.d (.int (n : Int))), some (.d (iT (powI f m))), x]) ⟨rfl, _, rfl⟩ ?_ ?_
    · rintro m z σ w' hz ⟨rfl, x, rfl⟩
      obtain ⟨hm, rfl⟩ := range_get hz
      simp [h3 m hm]
    · rintro σ w' ⟨rfl, x, rfl⟩
      rw [List.length_map, List.length_range]
      exact ⟨rfl, rfl⟩
  · rintro σ w' ⟨rfl, e⟩
    simp [e, take_len]
end
end Pv

/-! Part Ql: the law's draws. -/
namespace Pv
open PySem
/-- call i is the law's draw -/
def TakeP (E : En) (i : Nat) : Prop := ∀ {w : W} {n : Nat} {pot : List D} {many : Int} {X : Nat → D → W → Prop}, w[n]? = some (.lst pot) → PotOk pot → 0 < many → many.natAbs.log2 < 9000 →
  Ret (fun v w' => ∃ r pot', v = .d (.int r) ∧ 0 ≤ r ∧ r < many ∧ PotOk pot' ∧ w' = w.set n (.lst pot')) X (E.Φ i [.ref n, .d (.int many)] w)
theorem log_small {i : Int} {k : Nat} (h : i.natAbs < 2 ^ k) (hk : k ≤ 9000) (h0 : 0 < k) : i.natAbs.log2 < 9000 := Nat.lt_of_lt_of_le (log_pow h h0) hk
theorem set_get {w : W} {n : Nat} {c : Cell} {p : List D} (hw : w[n]? = some (.lst p)) : (w.set n c)[n]? = some c := List.getElem?_set_self (List.getElem?_eq_some_iff.mp hw).1
theorem set_take {w : W} {n : Nat} {c : Cell} : (w.set n c).take w.length = w.set n c := List.take_of_length_le (by simp)
section
variable {E : En} {w : W} {X : Nat → D → W → Prop} {o o1 o2 o3 o4 : Option IV} {f g : List Int} {i j k n : Nat} {pot : List D}
theorem law_drawn_ok {far : Int} (hf : 1 ≤ far) (hf2 : far < 2 ^ 1000) (hw : w[n]? = some (.lst pot)) (hp : PotOk pot) (ht : TakeP E j)
    (hl : ∀ (t b : Int) (w : W), 0 < b → b.natAbs < 2 ^ 1001 → t.natAbs < 2 ^ 1001 → E.Φ i [.d (.int t), .d (.int b)] w = .ok (.d (nD ((t : Rat) / (b : Rat)))) w) :
    Ret (fun v w' => ∃ (t b : Int) (pot' : List D), v = .d (nD ((t : Rat) / (b : Rat))) ∧ 0 < b ∧ (b ≤ far ∨ b ≤ 4) ∧ t.natAbs ≤ far ∧ PotOk pot' ∧ w' = w.set n (.lst pot')) X (fin w.length (evS E (B_law_drawn i j) [some (.ref n), some (.d (.int far))] w)) := by
  have of : okI far = true := okI_pow (m := 1000) (by omega) (by decide)
  have o2 : okI 2 = true := okI_small (by decide)
  unfold B_law_drawn
  simp [of, o2]
  refine Ret.imp (ht hw hp (by omega) (log_small (k := 1002) (by omega) (by decide) (by decide))) ?_
  rintro v w1 ⟨r, pot1, rfl, r0, r1, hp1, rfl⟩
  have hw1 := set_get (c := Cell.lst pot1) hw
  simp
  refine ⟨rfl, Ret.imp (ht hw1 hp1 (by decide) (by decide)) ?_⟩
  rintro v w2 ⟨q, pot2, rfl, q0, q1, hp2, rfl⟩
  rw [List.set_set]
  have hw2 := set_get (c := Cell.lst pot2) hw
  have go : ∀ m : Int, 1 ≤ m → (m ≤ far ∨ m ≤ 4) → Ret (fun v w2 => OptP (rd w2 v) fun y => OptP (binD Operator.Add (PyData.int 1) y) fun z => Ret (fun a w_1 => finK (List.length w) (fun v w' => ∃ t b : Int, v = IV.d (nD ((t : Rat) / (b : Rat))) ∧ 0 < b ∧ (b ≤ far ∨ b ≤ 4) ∧ ↑t.natAbs ≤ far ∧ ∃ x, PotOk x ∧ w' = List.set w n (Cell.lst x)) X (Fl.ret a) w_1)
      (fun c x w_1 => X c x (List.take (List.length w) w_1)) (E.Φ i [IV.d (PyData.int (r - far)), IV.d z] w2)) (fun c x w_1 => X c x (List.take (List.length w) w_1)) (E.Φ j [IV.ref n, IV.d (.int m)] (w.set n (.lst pot2))) := by
    intro m m1 m2
    have mb : m.natAbs < 2 ^ 1000 := by rcases m2 with h | h <;> omega
    refine Ret.imp (ht hw2 hp2 (by omega) (log_small (k := 1002) (by omega) (by decide) (by decide))) ?_
    rintro v w3 ⟨u, pot3, rfl, u0, u1, hp3, rfl⟩
    rw [List.set_set]
    have e := hl (r - far) (1 + u) (w.set n (.lst pot3)) (by omega) (by omega) (by omega)
    simp [e, set_take]
    exact ⟨r - far, 1 + u, by rw [Rat.intCast_sub, Rat.intCast_add]; rfl, by omega, by rcases m2 with h | h <;> omega, by omega, _, hp3, rfl⟩
  have : q = 0 ∨ q = 1 ∨ q = 2 := by omega
  rcases this with rfl | rfl | rfl
  · exact go 1 (by decide) (.inr (by decide))
  · exact go 4 (by decide) (.inr (by decide))
  · exact go far hf (.inl (Int.le_refl _))
theorem law_polynomial_ok {most far : Int} (hm : 0 ≤ most) (hm2 : most ≤ 300) (hf : 1 ≤ far) (hf2 : far < 2 ^ 1000) (hw : w[n]? = some (.lst pot)) (hp : PotOk pot) (ht : TakeP E i)
    (hl : ∀ (h : List Int) (w : W), h.length ≤ 1000 → E.Φ j [.d (.list (iM h))] w = .ok (.d (iT (stripI h))) w) :
    Ret (fun v w' => ∃ (f : List Int) (pot' : List D), v = .d (iT f) ∧ (f.length : Int) ≤ most + 1 ∧ (∀ a ∈ f, (a.natAbs : Int) ≤ far) ∧ HdI f ∧ PotOk pot' ∧ w' = w.set n (.lst pot')) X (fin w.length (evS E (B_law_polynomial i j) [some (.ref n), some (.d (.int most)), some (.d (.int far)), o, o1, o2] w)) := by
  have of : okI far = true := okI_pow (m := 1000) (by omega) (by decide)
  have o2' : okI 2 = true := okI_small (by decide)
  unfold B_law_polynomial
  simp
  refine Ret.imp (ht hw hp (by decide) (by decide)) ?_
  rintro v w1 ⟨r, pot1, rfl, r0, r1, hp1, rfl⟩
  have hw1 := set_get (c := Cell.lst pot1) hw
  simp
  by_cases z : r = 0
  · have ok0 : okL 0 = true := rfl
    simp [z, ok0, set_take]
    exact ⟨[], rfl, by simp; omega, by simp, by nofun, _, hp1, rfl⟩
  simp [z]
  refine Ret.imp (ht hw1 hp1 (by omega) (log_small (k := 100) (by omega) (by decide) (by decide))) ?_
  rintro v w2 ⟨m, pot2, rfl, m0, m1, hp2, rfl⟩
  rw [List.set_set]
  obtain ⟨M, hM⟩ : ∃ M : Nat, 1 + m = (M : Int) := ⟨(1 + m).toNat, by omega⟩
  simp [hM, rng_nat (n := M) (by omega)]
  have okl : ∀ k : Nat, k ≤ 1000 → okL k = true := fun k h => decide_eq_true (by omega)
  refine ⟨okl _ (by omega), ?_⟩
  refine compL_inv (fun k ys w' => ∃ f pot', ys = iM f ∧ f.length = k ∧ (∀ a ∈ f, (a.natAbs : Int) ≤ far) ∧ PotOk pot' ∧ w' = w.set n (.lst pot')) ⟨[], pot2, rfl, rfl, by simp, hp2, rfl⟩ ?_ ?_
  · rintro k z ys w' hz ⟨f, pot', rfl, hk, hf', hp', rfl⟩
    have hw' := set_get (c := Cell.lst pot') hw
    show Ret _ _ (elF true _ _ _ _ _ _)
    rw [Ret_elT]
    simp [wip, of, o2']
    refine Ret.imp (ht hw' hp' (by omega) (log_small (k := 1002) (by omega) (by decide) (by decide))) ?_
    rintro v w3 ⟨u, pot3, rfl, u0, u1, hp3, rfl⟩
    simp
    exact ⟨f ++ [u - far], by simp [iM], by simp [hk], fun a ha => by
      rcases List.mem_append.mp ha with q | q
      · exact hf' a q
      · rw [List.mem_singleton.mp q]; omega, _, hp3, rfl⟩
  rintro ys w' ⟨f, pot', rfl, hk, hf', hp', rfl⟩
  rw [List.length_map, List.length_range] at hk
  refine ⟨okl _ (by rw [iM_len]; omega), ?_⟩
  refine compL_inv (fun k ys w' => ∃ g pot', ys = iM g ∧ g.length = k ∧ (∀ a ∈ g, (a.natAbs : Int) ≤ far) ∧ PotOk pot' ∧ w' = w.set n (.lst pot')) ⟨[], pot', rfl, rfl, by simp, hp', rfl⟩ ?_ ?_
  · rintro k z ys w' hz ⟨g, pot', rfl, hk, hg', hp', rfl⟩
    have hw' := set_get (c := Cell.lst pot') hw
    obtain ⟨b, hb, rfl⟩ : ∃ b, b ∈ f ∧ z = .int b := by
      obtain ⟨b, hb, e⟩ := List.mem_map.mp (List.mem_of_getElem? hz)
      exact ⟨b, hb, e.symm⟩
    show Ret _ _ (elF true _ _ _ _ _ _)
    rw [Ret_elT]
    simp [wip]
    refine Ret.imp (ht hw' hp' (by decide) (by decide)) ?_
    rintro v w3 ⟨u, pot3, rfl, u0, u1, hp3, rfl⟩
    have app : ∀ c : Int, (c.natAbs : Int) ≤ far → ∃ f, iM g ++ [PyData.int c] = iM f ∧ f.length = k + 1 ∧ (∀ a ∈ f, (a.natAbs : Int) ≤ far) ∧ ∃ x, PotOk x ∧ w.set n (.lst pot3) = w.set n (.lst x) := fun c hc =>
      ⟨g ++ [c], by simp [iM], by simp [hk], fun a ha => by
        rcases List.mem_append.mp ha with q | q
        · exact hg' a q
        · rw [List.mem_singleton.mp q]; exact hc, _, hp3, rfl⟩
    by_cases u0 : 0 < u
    · simp [u0]
      exact app b (hf' b hb)
    · simp [u0]
      exact app 0 (by simp; omega)
  rintro ys w' ⟨g, pot4, rfl, hg, hg', hp4, rfl⟩
  rw [iM_len] at hg
  have hw4 := set_get (c := Cell.lst pot4) hw
  have e1 := hl g (w.set n (.lst pot4)) (by omega)
  simp [e1, okl, eq_unitI, ne_unitI]
  by_cases he : stripI g = []
  · simp [he]
    refine Ret.imp (ht hw4 hp4 (by omega) (log_small (k := 1001) (by omega) (by decide) (by decide))) ?_
    rintro v w3 ⟨u, pot5, rfl, u0, u1, hp5, rfl⟩
    rw [List.set_set]
    simp [set_take]
    exact ⟨[1 + u], rfl, by simp; omega, by simp; omega, by intro a ha; cases ha; omega, _, hp5, rfl⟩
  · simp [he, set_take]
    refine ⟨_, rfl, ?_, fun a ha => hg' a (List.Sublist.mem ha (List.dropWhile_sublist _)), HdI_strip g, _, hp4, rfl⟩
    have := strip_len g
    omega
theorem law_far_ok (hw : w[n]? = some (.lst pot)) (hp : PotOk pot) (ht : TakeP E j)
    (hl : ∀ (far : Int) (w : W) (pot : List D) (X : Nat → D → W → Prop), w[n]? = some (.lst pot) → PotOk pot → 1 ≤ far → far ≤ 10 ^ 30 → Ret (fun v w' => ∃ (f : List Int) (pot' : List D), v = .d (iT f) ∧ (f.length : Int) ≤ 8 + 1 ∧ (∀ a ∈ f, (a.natAbs : Int) ≤ far) ∧ HdI f ∧ PotOk pot' ∧ w' = w.set n (.lst pot')) X (E.Φ i [.ref n, .d (.int 8), .d (.int far)] w)) :
    Ret (fun v w' => ∃ (f : List Int) (pot' : List D), v = .d (iT f) ∧ f.length ≤ 9 ∧ Sm 100 f ∧ HdI f ∧ PotOk pot' ∧ w' = w.set n (.lst pot')) X (fin w.length (evS E (B_law_far i j) [some (.ref n)] w)) := by
  unfold B_law_far
  simp
  refine ⟨rfl, Ret.imp (ht hw hp (by decide) (by decide)) ?_⟩
  rintro v w1 ⟨r, pot1, rfl, r0, r1, hp1, rfl⟩
  have hw1 := set_get (c := Cell.lst pot1) hw
  have go : ∀ far : Int, 1 ≤ far → far ≤ 10 ^ 30 → Ret (fun a w_1 => finK (List.length w) (fun v w' => ∃ f, v = IV.d (iT f) ∧ f.length ≤ 9 ∧ Sm 100 f ∧ HdI f ∧ ∃ x, PotOk x ∧ w' = List.set w n (Cell.lst x)) X (Fl.ret a) w_1)
      (fun c x w_1 => X c x (List.take (List.length w) w_1)) (E.Φ i [IV.ref n, IV.d (PyData.int 8), IV.d (.int far)] (w.set n (.lst pot1))) := by
    intro far f1 f2
    refine Ret.imp (hl far _ pot1 _ hw1 hp1 f1 f2) ?_
    rintro v w2 ⟨f, pot2, rfl, l, h, hd, hp2, rfl⟩
    rw [List.set_set]
    simp [set_take]
    exact ⟨f, rfl, by omega, fun a ha => by have := h a ha; omega, hd, _, hp2, rfl⟩
  have : r = 0 ∨ r = 1 ∨ r = 2 := by omega
  rcases this with rfl | rfl | rfl
  · exact go 3 (by decide) (by decide)
  · exact go 20 (by decide) (by decide)
  · exact go (10 ^ 30) (by decide) (by decide)
end
end Pv

/-! Part Qm: bits of quotients and of values. -/
namespace Pv
open PySem
theorem Bd_div {A : Nat} {t b : Int} (hb : 0 < b) (ht : t.natAbs < 2 ^ A) (hb2 : b.natAbs < 2 ^ A) : Bd A ((t : Rat) / (b : Rat)) := by
  have hg : 0 < Int.gcd t b := Int.gcd_pos_of_ne_zero_right _ (by omega)
  have e := low_nD (t := t) (b := b) (by omega)
  unfold nD at e
  injection e with e
  injection e with e1 e2
  injection e2 with e2 _
  injection e1 with e1
  injection e2 with e2
  unfold Bd
  rw [← e1]
  have d1 : (lowT t b).natAbs ≤ t.natAbs := by
    unfold lowT
    rw [if_pos hb, Int.one_mul, Int.fdiv_eq_ediv_of_nonneg _ (by omega)]
    exact Int.natAbs_ediv_le_natAbs _ _
  have d2 : (lowB t b).natAbs ≤ b.natAbs := by
    unfold lowB
    rw [if_pos hb, Int.one_mul, Int.fdiv_eq_ediv_of_nonneg _ (by omega)]
    exact Int.natAbs_ediv_le_natAbs _ _
  rw [e2] at d2
  exact ⟨by omega, by omega⟩
theorem Bd_vl {B C : Nat} {f : List Int} {r : Rat} (hf : Sm B f) (hr : Bd C r) (lf : f.length ≤ 400) : Bd (B + C * f.length + 10) (vl (toR f) r) := by
  cases f with
  | nil =>
    refine ⟨?_, ?_⟩
    · show (0 : Rat).num.natAbs < _
      exact Nat.two_pow_pos _
    · show (1 : Nat) < _
      exact Nat.one_lt_two_pow (by omega)
  | cons c f =>
    obtain ⟨n, hn⟩ : ∃ n, n + 1 = (c :: f).length := ⟨f.length, rfl⟩
    have e := atS_vl (f := c :: f) (p := r.num) (q := (r.den : Int)) (n := n) (by have := den_pos r; omega) hn _ (Nat.le_refl _)
    rw [← rat_nd, List.take_length, Nat.sub_self, Rat.pow_zero, Rat.mul_one, ← Rat.intCast_pow] at e
    rw [← e]
    have hq : ((r.den : Nat) : Int).natAbs < 2 ^ C := hr.2
    have hC : C * n ≤ C * (c :: f).length := Nat.mul_le_mul_left C (by omega)
    refine Bd_div (Int.pow_pos (den_pos r)) ?_ ?_
    · refine Nat.lt_of_le_of_lt (atS_abs hf hr.1 hq _ (Nat.le_refl _) (by omega)) ?_
      have h1 : 2 ^ (B + C * n) ≤ 2 ^ (B + C * (c :: f).length) := Nat.pow_le_pow_right (by decide) (by omega)
      rw [Nat.pow_add _ _ 10]
      have h2 := Nat.mul_le_mul lf h1
      have := Nat.two_pow_pos (B + C * (c :: f).length)
      omega
    · exact Nat.lt_of_le_of_lt (pow_abs hq n) (Nat.pow_lt_pow_right (by decide) (by omega))
end Pv

/-! Part Ra: rows of numbers: a row is known by its values; products, divisions. -/
namespace Pv
open PySem
/-! synthetic division -/
def sqt (r : Rat) : List Rat → Rat → List Rat
  | [], _ => []
  | a :: f, t => t :: sqt r f (t * r + a)
theorem sqt_len (r : Rat) : ∀ (f : List Rat) (t : Rat), (sqt r f t).length = f.length
  | [], _ => rfl
  | a :: f, t => by show (sqt r f _).length + 1 = _; rw [sqt_len r f, List.length_cons]
theorem sqt_vl (r x : Rat) : ∀ (f : List Rat) (t : Rat), vl (t :: f) x = (x - r) * vl (sqt r f t) x + vl (t :: f) r
  | [], t => by
    show vl [t] x = (x - r) * vl [] x + vl [t] r
    rw [vl_cons, vl_cons, vl_nil, vl_nil]
    show t * x ^ 0 + 0 = _ + (t * r ^ 0 + 0)
    rw [Rat.pow_zero, Rat.pow_zero]; grind
  | a :: f, t => by
    have ih := sqt_vl r x f (t * r + a)
    show _ = (x - r) * vl (t :: sqt r f (t * r + a)) x + _
    rw [vl_cons _ (sqt r f (t * r + a)), sqt_len]
    have e1 : ∀ y : Rat, vl (t :: a :: f) y = t * y * y ^ f.length + (a * y ^ f.length + vl f y) := fun y => by
      rw [vl_cons, vl_cons, List.length_cons, Rat.pow_succ]; grind
    rw [vl_cons, vl_cons] at ih
    rw [e1 x, e1 r]
    have : ∀ u v y z : Rat, u = y + v → u = y + v := fun _ _ _ _ h => h
    grind
theorem sqt_zero (r : Rat) : ∀ (f : List Rat) (t : Rat), (∀ a ∈ sqt r f t, a = 0) → vl (t :: f) r = 0 → ∀ a ∈ t :: f, a = 0
  | [], t, _, h, a, ha => by
    have : a = t := List.mem_singleton.mp ha
    rw [vl_cons, vl_nil] at h
    have h' : t * r ^ 0 + 0 = 0 := h
    rw [Rat.pow_zero] at h'
    subst this; grind
  | b :: f, t, hs, h, a, ha => by
    have ht : t = 0 := hs t List.mem_cons_self
    have hr : vl ((t * r + b) :: f) r = 0 := by
      rw [← h, vl_cons, vl_cons, vl_cons, List.length_cons, Rat.pow_succ]; grind
    have ih := sqt_zero r f (t * r + b) (fun c hc => hs c (List.mem_cons_of_mem _ hc)) hr
    rcases List.mem_cons.mp ha with h1 | h1
    · rw [h1, ht]
    rcases List.mem_cons.mp h1 with h2 | h2
    · have := ih _ List.mem_cons_self
      rw [ht] at this
      rw [h2]; grind
    · exact ih a (List.mem_cons_of_mem _ h2)
theorem vl_zero_all : ∀ (n : Nat) (f : List Rat), f.length ≤ n → (∀ k : Nat, k < n → vl f (k : Rat) = 0) → ∀ a ∈ f, a = 0
  | _, [], _, _ => fun a h => by cases h
  | n + 1, t :: f, hl, h => by
    refine sqt_zero (n : Rat) f t ?_ (h n (by omega))
    refine vl_zero_all n _ (by rw [sqt_len]; simpa using hl) fun k hk => ?_
    have e := sqt_vl (n : Rat) (k : Rat) f t
    rw [h k (by omega), h n (by omega)] at e
    have hne : (k : Rat) - (n : Rat) ≠ 0 := by
      intro z
      have : (k : Rat) = (n : Rat) := by grind
      have : k = n := by exact_mod_cast this
      omega
    have : ((k : Rat) - (n : Rat)) * vl (sqt (n : Rat) f t) (k : Rat) = 0 := by grind
    rcases Rat.mul_eq_zero.mp this with z | z
    · exact absurd z hne
    · exact z
def HdR (f : List Rat) : Prop := ∀ a, f.head? = some a → a ≠ 0
theorem HdR_strip : ∀ f : List Rat, HdR (strip f)
  | [] => fun a h => by cases h
  | b :: f => by
    unfold strip
    split
    · exact HdR_strip f
    · rename_i h
      intro a ha
      cases ha
      exact h
theorem strip_HdR {f : List Rat} (h : HdR f) : strip f = f := by
  cases f with
  | nil => rfl
  | cons a f =>
    unfold strip
    rw [if_neg (h a rfl)]
theorem strip_pad (f : List Rat) : ∀ n : Nat, strip (List.replicate n 0 ++ f) = strip f
  | 0 => rfl
  | n + 1 => by
    rw [List.replicate_succ, List.cons_append, strip, if_pos rfl, strip_pad f n]
theorem zip_zero : ∀ f g : List Rat, f.length = g.length → (∀ a ∈ List.zipWith (· + ·) f (g.map ((-1) * ·)), a = 0) → f = g
  | [], [], _, _ => rfl
  | a :: f, b :: g, hl, h => by
    have h1 : a + (-1) * b = 0 := h _ List.mem_cons_self
    rw [zip_zero f g (by simpa using hl) fun c hc => h c (List.mem_cons_of_mem _ hc)]
    congr 1
    grind
  | [], _ :: _, hl, _ => by cases hl
  | _ :: _, [], hl, _ => by cases hl
theorem vl_inj {f g : List Rat} (h : ∀ x, vl f x = vl g x) : strip f = strip g := by
  obtain ⟨n, hf, hg⟩ : ∃ n : Nat, f.length ≤ n ∧ g.length ≤ n := ⟨max f.length g.length, by omega, by omega⟩
  rw [← strip_pad f (n - f.length), ← strip_pad g (n - g.length)]
  congr 1
  have l1 : (List.replicate (n - f.length) (0 : Rat) ++ f).length = n := by rw [List.length_append, List.length_replicate]; omega
  have l2 : (List.replicate (n - g.length) (0 : Rat) ++ g).length = n := by rw [List.length_append, List.length_replicate]; omega
  have v1 : ∀ x, vl (List.replicate (n - f.length) (0 : Rat) ++ f) x = vl (List.replicate (n - g.length) (0 : Rat) ++ g) x := fun x => by rw [vl_pad, vl_pad, h]
  generalize List.replicate (n - f.length) (0 : Rat) ++ f = F at *
  generalize List.replicate (n - g.length) (0 : Rat) ++ g = G at *
  refine zip_zero F G (by omega) ?_
  refine vl_zero_all n _ (by rw [List.length_zipWith, List.length_map]; omega) fun k _ => ?_
  rw [vl_add _ _ _ (by rw [List.length_map]; omega), vl_scale, v1]
  grind
theorem vl_eq {f g : List Rat} (hf : HdR f) (hg : HdR g) (h : ∀ x, vl f x = vl g x) : f = g := by
  have := vl_inj h
  rwa [strip_HdR hf, strip_HdR hg] at this
/-! products -/
def innR (k : Nat) (a : Rat) : List Rat → Nat → List Rat → List Rat
  | [], _, acc => acc
  | b :: g, p, acc => innR k a g (p + 1) (acc.set (k + p) (acc.getD (k + p) 0 + a * b))
def outR (g : List Rat) : List Rat → Nat → List Rat → List Rat
  | [], _, acc => acc
  | a :: f, k, acc => outR g f (k + 1) (innR k a g 0 acc)
def mulR (f g : List Rat) : List Rat := if f.isEmpty || g.isEmpty then [] else outR g f 0 (List.replicate (f.length + g.length - 1) 0)
theorem innR_len (k : Nat) (a : Rat) : ∀ (g : List Rat) (p : Nat) (acc : List Rat), (innR k a g p acc).length = acc.length
  | [], _, _ => rfl
  | b :: g, p, acc => by
    show (innR k a g (p + 1) _).length = _
    rw [innR_len k a g, List.length_set]
theorem outR_len (g : List Rat) : ∀ (f : List Rat) (k : Nat) (acc : List Rat), (outR g f k acc).length = acc.length
  | [], _, _ => rfl
  | a :: f, k, acc => by
    show (outR g f (k + 1) _).length = _
    rw [outR_len g f, innR_len]
theorem mulR_len {f g : List Rat} (hf : f ≠ []) (hg : g ≠ []) : (mulR f g).length = f.length + g.length - 1 := by
  unfold mulR
  have h1 : f.isEmpty = false := by cases f <;> first | rfl | exact absurd rfl hf
  have h2 : g.isEmpty = false := by cases g <;> first | rfl | exact absurd rfl hg
  rw [h1, h2, Bool.or_self, if_neg Bool.false_ne_true, outR_len, List.length_replicate]
theorem getD_some {f : List Rat} {j : Nat} (h : j < f.length) : f[j]? = some (f.getD j 0) := by
  rw [List.getD_eq_getElem?_getD, List.getElem?_eq_getElem h]; rfl
theorem innR_vl (k : Nat) (a : Rat) (x : Rat) : ∀ (g : List Rat) (p : Nat) (acc : List Rat), k + p + g.length ≤ acc.length → vl (innR k a g p acc) x = vl acc x + a * vl g x * x ^ (acc.length - (k + p + g.length))
  | [], p, acc, _ => by
    show vl acc x = vl acc x + a * vl [] x * _
    rw [vl_nil]; grind
  | b :: g, p, acc, h => by
    rw [List.length_cons] at h
    have hk : k + p < acc.length := by omega
    show vl (innR k a g (p + 1) (acc.set (k + p) (acc.getD (k + p) 0 + a * b))) x = _
    rw [innR_vl k a x g (p + 1) _ (by rw [List.length_set]; omega), List.length_set]
    rw [vl_set x _ _ _ _ (getD_some hk)]
    rw [vl_cons, List.length_cons, show acc.length - (k + (p + 1) + g.length) = acc.length - (k + p + (g.length + 1)) by omega,
      show acc.length - 1 - (k + p) = g.length + (acc.length - (k + p + (g.length + 1))) by omega]
    generalize acc.length - (k + p + (g.length + 1)) = m
    have e : x ^ (g.length + m) = x ^ g.length * x ^ m := by grind
    rw [e]
    grind
theorem outR_vl (g : List Rat) (x : Rat) : ∀ (f : List Rat) (k : Nat) (acc : List Rat), f ≠ [] → acc.length = k + f.length + g.length - 1 → 1 ≤ g.length → vl (outR g f k acc) x = vl acc x + vl f x * vl g x
  | [], _, _, h, _, _ => absurd rfl h
  | [a], k, acc, _, hl, hg => by
    show vl (innR k a g 0 acc) x = _
    rw [List.length_singleton] at hl
    rw [innR_vl k a x g 0 acc (by omega), show acc.length - (k + 0 + g.length) = 0 by omega]
    rw [vl_cons, vl_nil]
    show _ = _ + (a * x ^ 0 + 0) * _
    grind
  | a :: b :: f, k, acc, _, hl, hg => by
    rw [List.length_cons] at hl
    show vl (outR g (b :: f) (k + 1) (innR k a g 0 acc)) x = _
    rw [outR_vl g x (b :: f) (k + 1) _ (by simp) (by rw [innR_len]; omega) hg, innR_vl k a x g 0 acc (by omega), show acc.length - (k + 0 + g.length) = (b :: f).length by omega]
    rw [vl_cons _ (b :: f)]
    grind
theorem vlR_zeros (x : Rat) (n : Nat) : vl (List.replicate n 0) x = 0 := by
  have := vl_pad x [] n
  rwa [List.append_nil] at this
theorem mulR_vl (f g : List Rat) (x : Rat) : vl (mulR f g) x = vl f x * vl g x := by
  unfold mulR
  cases f with
  | nil => show (0 : Rat) = vl [] x * _; rw [vl_nil]; grind
  | cons a f =>
    cases g with
    | nil => show (0 : Rat) = _ * vl [] x; rw [vl_nil]; grind
    | cons b g =>
      show vl (outR (b :: g) (a :: f) 0 _) x = _
      rw [outR_vl _ x _ 0 _ (by simp) (by rw [List.length_replicate]; omega) (by simp), vlR_zeros]
      grind
theorem getD_setR {l : List Rat} {i j : Nat} {a : Rat} : (l.set i a).getD j 0 = if i = j ∧ j < l.length then a else l.getD j 0 := by
  rw [List.getD_eq_getElem?_getD, List.getElem?_set, List.getD_eq_getElem?_getD]
  by_cases h : i = j
  · subst h
    by_cases hl : i < l.length
    · simp [hl]
    · simp [hl]
  · simp [h]
theorem innR_low (k : Nat) (a : Rat) : ∀ (g : List Rat) (p : Nat) (acc : List Rat) (j : Nat), j < k + p → (innR k a g p acc).getD j 0 = acc.getD j 0
  | [], _, _, _, _ => rfl
  | b :: g, p, acc, j, h => by
    show (innR k a g (p + 1) _).getD j 0 = _
    rw [innR_low k a g (p + 1) _ j (by omega), getD_setR, if_neg (by omega)]
theorem innR_at (k : Nat) (a b : Rat) (g : List Rat) (acc : List Rat) (h : k < acc.length) : (innR k a (b :: g) 0 acc).getD k 0 = acc.getD k 0 + a * b := by
  show (innR k a g 1 (acc.set (k + 0) (acc.getD (k + 0) 0 + a * b))).getD k 0 = _
  rw [innR_low k a g 1 _ k (by omega), getD_setR, if_pos ⟨rfl, h⟩]
  rfl
theorem outR_low (g : List Rat) : ∀ (f : List Rat) (k : Nat) (acc : List Rat) (j : Nat), j < k → (outR g f k acc).getD j 0 = acc.getD j 0
  | [], _, _, _, _ => rfl
  | a :: f, k, acc, j, h => by
    show (outR g f (k + 1) _).getD j 0 = _
    rw [outR_low g f (k + 1) _ j (by omega), innR_low k a g 0 acc j (by omega)]
theorem HdR_mul {f g : List Rat} (hf : HdR f) (hg : HdR g) : HdR (mulR f g) := by
  cases f with
  | nil => intro a h; cases h
  | cons a f =>
    cases g with
    | nil => intro a h; cases h
    | cons b g =>
      intro c hc
      have hl := mulR_len (f := a :: f) (g := b :: g) (by simp) (by simp)
      have h0 : (mulR (a :: f) (b :: g)).getD 0 0 = a * b := by
        show (outR (b :: g) f 1 (innR 0 a (b :: g) 0 (List.replicate ((a :: f).length + (b :: g).length - 1) 0))).getD 0 0 = _
        rw [outR_low _ _ _ _ 0 (by omega), innR_at _ _ _ _ _ (by rw [List.length_replicate, List.length_cons, List.length_cons]; omega)]
        rw [List.length_cons, List.length_cons, show f.length + 1 + (g.length + 1) - 1 = (f.length + g.length) + 1 by omega, List.replicate_succ]
        show (0 : Rat) + a * b = a * b
        grind
      have h1 : c = a * b := by
        rw [← h0]
        cases hm : mulR (a :: f) (b :: g) with
        | nil => rw [hm] at hc; cases hc
        | cons u v => rw [hm] at hc; cases hc; rfl
      rw [h1]
      intro z
      rcases Rat.mul_eq_zero.mp z with z | z
      · exact hf a rfl z
      · exact hg b rfl z
/-! sums -/
def padR (n : Nat) (f : List Rat) : List Rat := List.replicate (n - f.length) 0 ++ f
def addR (f g : List Rat) : List Rat := strip (List.zipWith (· + ·) (padR (max f.length g.length) f) (padR (max f.length g.length) g))
theorem padR_len {n : Nat} {f : List Rat} (h : f.length ≤ n) : (padR n f).length = n := by
  unfold padR
  rw [List.length_append, List.length_replicate]; omega
theorem addR_vl (f g : List Rat) (x : Rat) : vl (addR f g) x = vl f x + vl g x := by
  unfold addR
  rw [vl_strip, vl_add _ _ _ (by rw [padR_len (by omega), padR_len (by omega)])]
  unfold padR
  rw [vl_pad, vl_pad]
/-! divisions -/
def dvL (q left : List Rat) : Nat → List Rat
  | 0 => left
  | k + 1 => innR k (-((dvL q left k).getD k 0 / q.headD 0)) q 0 (dvL q left k)
def dvF (q left : List Rat) : Nat → List Rat
  | 0 => []
  | k + 1 => dvF q left k ++ [(dvL q left k).getD k 0 / q.headD 0]
theorem dvL_len (q left : List Rat) : ∀ k, (dvL q left k).length = left.length
  | 0 => rfl
  | k + 1 => by rw [dvL, innR_len, dvL_len q left k]
theorem dvF_len (q left : List Rat) : ∀ k, (dvF q left k).length = k
  | 0 => rfl
  | k + 1 => by rw [dvF, List.length_append, dvF_len q left k]; rfl
theorem dv_vl (q left : List Rat) (x : Rat) {n : Nat} (hn : n + q.length = left.length + 1) (hq : 0 < q.length) : ∀ k, k ≤ n → vl left x = vl (dvF q left k) x * vl q x * x ^ (n - k) + vl (dvL q left k) x
  | 0, _ => by show vl left x = vl [] x * _ * _ + vl left x; rw [vl_nil]; grind
  | k + 1, hk => by
    rw [dv_vl q left x hn hq k (by omega), dvL, dvF, vl_snoc, innR_vl _ _ _ _ _ _ (by rw [dvL_len]; omega), dvL_len, show left.length - (k + 0 + q.length) = n - (k + 1) by omega, show n - k = n - (k + 1) + 1 by omega, Rat.pow_succ]
    grind
theorem dvL_zero (left : List Rat) {b : Rat} {q : List Rat} (hb : b ≠ 0) : ∀ k, k ≤ left.length → ∀ j, j < k → (dvL (b :: q) left k).getD j 0 = 0
  | 0, _, j, h => by omega
  | k + 1, hk, j, h => by
    rw [dvL]
    by_cases hj : j = k
    · rw [hj, innR_at _ _ _ _ _ (by rw [dvL_len]; omega)]
      show _ + -(_ / b) * b = 0
      generalize (dvL (b :: q) left k).getD k 0 = u
      grind
    · rw [innR_low _ _ _ _ _ _ (by omega)]
      exact dvL_zero left hb k (by omega) j (by omega)
theorem strip_zeros : ∀ (n : Nat) (l : List Rat), (∀ j, j < n → l.getD j 0 = 0) → (strip l).length ≤ l.length - n
  | 0, l, _ => by
    induction l with
    | nil => simp [strip]
    | cons a l ih =>
      unfold strip
      have := ih (by intro j h; omega)
      split
      · simp at *; omega
      · simp
  | n + 1, [], _ => by simp [strip]
  | n + 1, a :: l, h => by
    have h0 : a = 0 := h 0 (by omega)
    unfold strip
    rw [if_pos h0]
    have := strip_zeros n l fun j hj => h (j + 1) (by omega)
    rw [List.length_cons]; omega
theorem addR_len (f g : List Rat) : (addR f g).length ≤ max f.length g.length := by
  unfold addR
  have := strip_zeros 0 (List.zipWith (· + ·) (padR (max f.length g.length) f) (padR (max f.length g.length) g)) (by intro j hj; omega)
  rw [List.length_zipWith, padR_len (by omega), padR_len (by omega)] at this
  omega
/-- the remainder of a division is unique -/
theorem div_uniq {q f1 r1 f2 r2 : List Rat} (hq : HdR q) (h1 : HdR f1) (h2 : HdR f2) (g1 : HdR r1) (g2 : HdR r2) (l1 : r1.length < q.length) (l2 : r2.length < q.length)
    (h : ∀ x, vl f1 x * vl q x + vl r1 x = vl f2 x * vl q x + vl r2 x) : f1 = f2 ∧ r1 = r2 := by
  have qn : q ≠ [] := by intro z; rw [z] at l1; simp at l1
  obtain ⟨d, hd⟩ : ∃ d, d = addR f1 (f2.map ((-1) * ·)) := ⟨_, rfl⟩
  obtain ⟨e, he⟩ : ∃ e, e = addR r2 (r1.map ((-1) * ·)) := ⟨_, rfl⟩
  have dv : ∀ x, vl d x = vl f1 x - vl f2 x := fun x => by rw [hd, addR_vl, vl_scale]; grind
  have ev : ∀ x, vl e x = vl r2 x - vl r1 x := fun x => by rw [he, addR_vl, vl_scale]; grind
  have dh : HdR d := by rw [hd]; exact HdR_strip _
  have eh : HdR e := by rw [he]; exact HdR_strip _
  have el : e.length < q.length := by
    rw [he]
    have := addR_len r2 (r1.map ((-1) * ·))
    rw [List.length_map] at this
    omega
  have m : mulR d q = e := vl_eq (HdR_mul dh hq) eh fun x => by
    rw [mulR_vl, dv, ev]
    have := h x
    grind
  have dn : d = [] := by
    by_cases z : d = []
    · exact z
    · have := mulR_len z qn
      rw [m] at this
      have := List.length_pos_iff.mpr z
      omega
  have en : e = [] := by rw [← m, dn]; rfl
  refine ⟨vl_eq h1 h2 fun x => ?_, vl_eq g1 g2 fun x => ?_⟩
  · have := dv x
    rw [dn, vl_nil] at this; grind
  · have := ev x
    rw [en, vl_nil] at this; grind
end Pv

/-! Part Rb: sizes of numbers over one bottom. -/
namespace Pv
open PySem
/-- r is an integer of at most M over Q -/
def isN (Q : Int) (M : Nat) (r : Rat) : Prop := ∃ N : Int, r * (Q : Rat) = (N : Rat) ∧ N.natAbs ≤ M
section
variable {Q : Int} {M P : Nat} {r s : Rat}
theorem isN.mono (h : isN Q M r) (hm : M ≤ P) : isN Q P r := by
  obtain ⟨N, h1, h2⟩ := h
  exact ⟨N, h1, Nat.le_trans h2 hm⟩
theorem isN.add (h : isN Q M r) (g : isN Q P s) : isN Q (M + P) (r + s) := by
  obtain ⟨N, h1, h2⟩ := h
  obtain ⟨K, g1, g2⟩ := g
  refine ⟨N + K, ?_, ?_⟩
  · rw [Rat.intCast_add, ← h1, ← g1]; grind
  · have := Int.natAbs_add_le N K; omega
theorem isN.neg (h : isN Q M r) : isN Q M (-r) := by
  obtain ⟨N, h1, h2⟩ := h
  refine ⟨-N, ?_, by rw [Int.natAbs_neg]; exact h2⟩
  rw [Rat.intCast_neg, ← h1]; grind
theorem isN.mulI (h : isN Q M r) (b : Int) (hb : b.natAbs ≤ P) : isN Q (M * P) (r * (b : Rat)) := by
  obtain ⟨N, h1, h2⟩ := h
  refine ⟨N * b, ?_, ?_⟩
  · rw [Rat.intCast_mul, ← h1]; grind
  · rw [Int.natAbs_mul]; exact Nat.mul_le_mul h2 hb
theorem isN.lift (h : isN Q M r) (b : Int) (hb : b.natAbs ≤ P) : isN (Q * b) (M * P) r := by
  obtain ⟨N, h1, h2⟩ := h
  refine ⟨N * b, ?_, ?_⟩
  · rw [Rat.intCast_mul, Rat.intCast_mul, ← h1]; grind
  · rw [Int.natAbs_mul]; exact Nat.mul_le_mul h2 hb
theorem isN.div (h : isN Q M r) {b : Int} (hb : b ≠ 0) : isN (Q * b) M (r / (b : Rat)) := by
  obtain ⟨N, h1, h2⟩ := h
  have : (b : Rat) ≠ 0 := by intro z; exact hb (by exact_mod_cast z)
  refine ⟨N, ?_, h2⟩
  rw [Rat.intCast_mul, ← h1]; grind
theorem isN_int (a : Int) (h : a.natAbs ≤ M) : isN 1 M (a : Rat) := ⟨a, by rw [show ((1 : Int) : Rat) = 1 from rfl]; grind, h⟩
theorem isN_zero : isN Q M 0 := ⟨0, by rw [show ((0 : Int) : Rat) = 0 from rfl]; grind, Nat.zero_le _⟩
theorem isN.bd {A : Nat} (h : isN Q M r) (hQ : Q ≠ 0) (hM : M < 2 ^ A) (hA : Q.natAbs < 2 ^ A) : Bd A r := by
  obtain ⟨N, h1, h2⟩ := h
  have hq : (Q : Rat) ≠ 0 := by intro z; exact hQ (by exact_mod_cast z)
  by_cases hp : 0 < Q
  · have e : r = (N : Rat) / (Q : Rat) := by rw [← h1]; grind
    rw [e]
    exact Bd_div hp (by omega) hA
  · have e : r = ((-N : Int) : Rat) / ((-Q : Int) : Rat) := by
      rw [Rat.intCast_neg, Rat.intCast_neg, ← h1]; grind
    rw [e]
    exact Bd_div (by omega) (by omega) (by omega)
end
/-- all of a row -/
def aN (Q : Int) (M : Nat) (f : List Rat) : Prop := ∀ j, isN Q M (f.getD j 0)
theorem aN.mono {Q : Int} {M P : Nat} {f : List Rat} (h : aN Q M f) (hm : M ≤ P) : aN Q P f := fun j => (h j).mono hm
theorem aN_mem {Q : Int} {M : Nat} {f : List Rat} : aN Q M f ↔ ∀ r ∈ f, isN Q M r := by
  constructor
  · intro h r hr
    obtain ⟨j, hj⟩ := List.mem_iff_getElem?.mp hr
    have := h j
    rw [List.getD_eq_getElem?_getD, hj] at this
    exact this
  · intro h j
    rw [List.getD_eq_getElem?_getD]
    cases e : f[j]? with
    | none => exact isN_zero
    | some r => exact h r (List.mem_of_getElem? e)
theorem aN_toR {M : Nat} {f : List Int} (h : ∀ a ∈ f, a.natAbs ≤ M) : aN 1 M (toR f) := aN_mem.mpr fun r hr => by
  obtain ⟨a, ha, rfl⟩ := List.mem_map.mp hr
  exact isN_int a (h a ha)
theorem aN_strip {Q : Int} {M : Nat} {f : List Rat} (h : aN Q M f) : aN Q M (strip f) := aN_mem.mpr fun r hr => by
  refine aN_mem.mp h r ?_
  clear h
  induction f with
  | nil => exact hr
  | cons a f ih =>
    unfold strip at hr
    split at hr
    · exact List.mem_cons_of_mem _ (ih hr)
    · exact hr
/-- one place of an inner loop -/
theorem aN_set {Q : Int} {m P : Nat} {acc : List Rat} {j : Nat} {c : Rat} (h1 : aN Q (m + P) acc) (h2 : ∀ i, j ≤ i → isN Q m (acc.getD i 0)) (hc : isN Q P c) :
    aN Q (m + P) (acc.set j (acc.getD j 0 + c)) ∧ ∀ i, j + 1 ≤ i → isN Q m ((acc.set j (acc.getD j 0 + c)).getD i 0) := by
  refine ⟨fun i => ?_, fun i hi => ?_⟩
  · rw [getD_setR]
    split
    · exact (h2 j (Nat.le_refl _)).add hc
    · exact h1 i
  · rw [getD_setR, if_neg (by omega)]
    exact h2 i (by omega)
theorem innR_N {Q : Int} {m P k : Nat} {a : Rat} : ∀ (g : List Rat) (p : Nat) (acc : List Rat), (∀ b ∈ g, isN Q P (a * b)) → aN Q (m + P) acc → (∀ i, k + p ≤ i → isN Q m (acc.getD i 0)) → aN Q (m + P) (innR k a g p acc)
  | [], _, _, _, h, _ => h
  | b :: g, p, acc, hg, h1, h2 => by
    obtain ⟨s1, s2⟩ := aN_set h1 h2 (hg b List.mem_cons_self)
    exact innR_N g (p + 1) _ (fun c hc => hg c (List.mem_cons_of_mem _ hc)) s1 s2
theorem outR_N {Q : Int} {P : Nat} {g : List Rat} : ∀ (f : List Rat) (k m : Nat) (acc : List Rat), (∀ a ∈ f, ∀ b ∈ g, isN Q P (a * b)) → aN Q m acc → aN Q (m + f.length * P) (outR g f k acc)
  | [], _, m, _, _, h => by rw [List.length_nil, Nat.zero_mul]; exact h
  | a :: f, k, m, acc, hg, h => by
    have := outR_N f (k + 1) (m + P) (innR k a g 0 acc) (fun c hc => hg c (List.mem_cons_of_mem _ hc)) (innR_N g 0 acc (hg a List.mem_cons_self) (h.mono (by omega)) (fun i _ => h i))
    rw [List.length_cons, show m + (f.length + 1) * P = m + P + f.length * P by rw [Nat.add_mul]; omega]
    exact this
theorem mulR_N {Q : Int} {P : Nat} {f g : List Rat} (h : ∀ a ∈ f, ∀ b ∈ g, isN Q P (a * b)) : aN Q (f.length * P) (mulR f g) := by
  unfold mulR
  split
  · exact aN_mem.mpr fun r hr => by cases hr
  · have := outR_N (Q := Q) f 0 0 (List.replicate (f.length + g.length - 1) 0) h (aN_mem.mpr fun r hr => by
      rw [List.eq_of_mem_replicate hr]; exact isN_zero)
    rwa [Nat.zero_add] at this
/-! divisions -/
theorem dv_N {A B : Nat} {left : List Rat} {b : Int} {g : List Int} (hb : b ≠ 0) (hg : Sm B (b :: g)) (hl : aN 1 A left) : ∀ k, aN (b ^ k) (A * (2 * 2 ^ B) ^ k) (dvL (toR (b :: g)) left k)
  | 0 => by
    rw [Int.pow_zero, Nat.pow_zero, Nat.mul_one]; exact hl
  | k + 1 => by
    have ih := dv_N hb hg hl k
    rw [dvL]
    have hb0 : b.natAbs ≤ 2 ^ B := Nat.le_of_lt (hg b List.mem_cons_self)
    have e : A * (2 * 2 ^ B) ^ (k + 1) = A * (2 * 2 ^ B) ^ k * 2 ^ B + A * (2 * 2 ^ B) ^ k * 2 ^ B := by
      rw [Nat.pow_succ, ← Nat.mul_assoc]
      generalize A * (2 * 2 ^ B) ^ k = x
      rw [← Nat.mul_assoc, Nat.mul_comm x 2, Nat.mul_assoc]; omega
    rw [e, Int.pow_succ]
    generalize A * (2 * 2 ^ B) ^ k = M at *
    refine innR_N _ 0 _ ?_ ?_ ?_
    · intro r hr
      obtain ⟨c, hc, rfl⟩ := List.mem_map.mp hr
      exact (((ih k).div hb).neg).mulI c (Nat.le_of_lt (hg c hc))
    · exact aN.mono (fun j => (ih j).lift b hb0) (by omega)
    · exact fun i _ => (ih i).lift b hb0
theorem dvF_N {A B : Nat} {left : List Rat} {b : Int} {g : List Int} (hb : b ≠ 0) (hg : Sm B (b :: g)) (hl : aN 1 A left) {n : Nat} : ∀ k, k ≤ n → aN (b ^ n) (A * (2 * 2 ^ B) ^ n) (dvF (toR (b :: g)) left k)
  | 0, _ => aN_mem.mpr fun r hr => by cases hr
  | k + 1, hk => by
    rw [dvF]
    refine aN_mem.mpr fun r hr => ?_
    rcases List.mem_append.mp hr with h | h
    · exact aN_mem.mp (dvF_N hb hg hl k (by omega)) r h
    · rw [List.mem_singleton.mp h]
      have h1 := (dv_N hb hg hl k k).div hb
      rw [← Int.pow_succ] at h1
      have hb0 : b.natAbs ≤ 2 ^ B := Nat.le_of_lt (hg b List.mem_cons_self)
      obtain ⟨d, rfl⟩ : ∃ d, n = k + 1 + d := ⟨n - (k + 1), by omega⟩
      have hp : (b ^ d).natAbs ≤ (2 * 2 ^ B) ^ d := by
        rw [Int.natAbs_pow]
        exact Nat.pow_le_pow_left (by omega) d
      have h2 := h1.lift (b ^ d) hp
      rw [← Int.pow_add] at h2
      refine h2.mono ?_
      rw [Nat.pow_add, Nat.pow_succ, ← Nat.mul_assoc, ← Nat.mul_assoc]
      refine Nat.mul_le_mul_right _ ?_
      exact Nat.le_mul_of_pos_right _ (by have := Nat.two_pow_pos B; omega)
end Pv

/-! Part Rc: the texts of functions about rows of numbers (printed by gen.py lib); numbers' sums and products. -/
namespace Pv
open PySem
/-- added, slots a b -/
def B_added (i_lowest : Nat) : St := (.cons (.ret (.call i_lowest (.cons (.bin .Add (.bin .Mult (.sub (.var 0) (.cst (.int (0)))) (.sub (.var 1) (.cst (.int (1))))) (.bin .Mult (.sub (.var 1) (.cst (.int (0)))) (.sub (.var 0) (.cst (.int (1)))))) (.cons (.bin .Mult (.sub (.var 0) (.cst (.int (1)))) (.sub (.var 1) (.cst (.int (1))))) .nil)))) .nil)
/-- opposite, slots a -/
def B_opposite : St := (.cons (.ret (.tup (.cons (.neg (.sub (.var 0) (.cst (.int (0))))) (.cons (.sub (.var 0) (.cst (.int (1)))) .nil)))) .nil)
/-- product, slots a b -/
def B_product (i_lowest : Nat) : St := (.cons (.ret (.call i_lowest (.cons (.bin .Mult (.sub (.var 0) (.cst (.int (0)))) (.sub (.var 1) (.cst (.int (0))))) (.cons (.bin .Mult (.sub (.var 0) (.cst (.int (1)))) (.sub (.var 1) (.cst (.int (1))))) .nil)))) .nil)
/-- quotient, slots a b -/
def B_quotient (i_lowest : Nat) : St := (.cons (.ret (.call i_lowest (.cons (.bin .Mult (.sub (.var 0) (.cst (.int (0)))) (.sub (.var 1) (.cst (.int (1))))) (.cons (.bin .Mult (.sub (.var 0) (.cst (.int (1)))) (.sub (.var 1) (.cst (.int (0))))) .nil)))) .nil)
/-- broken, slots f a -/
def B_broken : St := (.cons (.ret (.blt .tuple (.cons (.comp [1] (.tup (.cons (.var 1) (.cons (.cst (.int (1))) .nil))) (.nm 1) (.seq (.var 0)) .nil) .nil))) .nil)
/-- broken_divided, slots p q at left found by place b -/
def B_broken_divided (i_quotient i_added i_opposite i_product i_stripped g_ZERO : Nat) : St := (.cons (.par [3, 4] (.cons (.new (.blt .list (.cons (.var 0) .nil))) (.cons (.new (.lst .nil)) .nil))) (.cons (.for_ (.nm 2) (.rng (.cons (.bin .Add (.bin .Sub (.blt .len (.cons (.var 0) .nil)) (.blt .len (.cons (.var 1) .nil))) (.cst (.int (1)))) .nil)) (.cons (.asg (.nm 5) (.call i_quotient (.cons (.sub (.var 3) (.var 2)) (.cons (.sub (.var 1) (.cst (.int (0)))) .nil)))) (.cons (.expr (.mth .append (.var 4) (.cons (.var 5) .nil))) (.cons (.for_ (.tup (.cons (.nm 6) (.cons (.nm 7) .nil))) (.enm (.var 1)) (.cons (.stix (.var 3) (.bin .Add (.var 2) (.var 6)) (.call i_added (.cons (.sub (.var 3) (.bin .Add (.var 2) (.var 6))) (.cons (.call i_opposite (.cons (.call i_product (.cons (.var 5) (.cons (.var 7) .nil))) .nil)) .nil)))) .nil)) .nil)))) (.cons (.ret (.tup (.cons (.call i_stripped (.cons (.var 4) (.cons (.glob g_ZERO) .nil))) (.cons (.call i_stripped (.cons (.var 3) (.cons (.glob g_ZERO) .nil))) .nil)))) .nil)))
/-- check_degree, slots f least -/
def B_check_degree (i_check_polynomial : Nat) : St := (.cons (.expr (.call i_check_polynomial (.cons (.var 0) .nil))) (.cons (.ifs (.cmp .Lt (.bin .Sub (.blt .len (.cons (.var 0) .nil)) (.cst (.int (1)))) (.var 1)) (.cons .stuck .nil) .nil) .nil))
/-- divided, slots f g -/
def B_divided (i_check_polynomial i_check_degree i_broken_divided i_broken : Nat) : St := (.cons (.expr (.call i_check_polynomial (.cons (.var 0) .nil))) (.cons (.expr (.call i_check_degree (.cons (.var 1) (.cons (.cst (.int (0))) .nil)))) (.cons (.ret (.call i_broken_divided (.cons (.call i_broken (.cons (.var 0) .nil)) (.cons (.call i_broken (.cons (.var 1) .nil)) .nil)))) .nil)))
/-- _law_broken_sum, slots p q many one other a b -/
def B_law_broken_sum (i__law_trim i__law_plus : Nat) : St := (.cons (.asg (.nm 2) (.blt .max (.cons (.blt .len (.cons (.var 0) .nil)) (.cons (.blt .len (.cons (.var 1) .nil)) .nil)))) (.cons (.par [3, 4] (.cons (.bin .Add (.bin .Mult (.lst (.cons (.tup (.cons (.cst (.int (0))) (.cons (.cst (.int (1))) .nil))) .nil)) (.bin .Sub (.var 2) (.blt .len (.cons (.var 0) .nil)))) (.blt .list (.cons (.var 0) .nil))) (.cons (.bin .Add (.bin .Mult (.lst (.cons (.tup (.cons (.cst (.int (0))) (.cons (.cst (.int (1))) .nil))) .nil)) (.bin .Sub (.var 2) (.blt .len (.cons (.var 1) .nil)))) (.blt .list (.cons (.var 1) .nil))) .nil))) (.cons (.ret (.call i__law_trim (.cons (.comp [5, 6] (.call i__law_plus (.cons (.var 5) (.cons (.var 6) .nil))) (.tup (.cons (.nm 5) (.cons (.nm 6) .nil))) (.zp (.var 3) (.var 4)) .nil) .nil))) .nil)))
/-- _law_broken_product, slots p q found i j -/
def B_law_broken_product (i__law_plus i__law_times : Nat) : St := (.cons (.ifs (.or (.cmp .Eq (.blt .len (.cons (.var 0) .nil)) (.cst (.int (0)))) (.cmp .Eq (.blt .len (.cons (.var 1) .nil)) (.cst (.int (0))))) (.cons (.ret (.tup .nil)) .nil) .nil) (.cons (.asg (.nm 2) (.new (.bin .Mult (.lst (.cons (.tup (.cons (.cst (.int (0))) (.cons (.cst (.int (1))) .nil))) .nil)) (.bin .Sub (.bin .Add (.blt .len (.cons (.var 0) .nil)) (.blt .len (.cons (.var 1) .nil))) (.cst (.int (1))))))) (.cons (.for_ (.nm 3) (.rng (.cons (.blt .len (.cons (.var 0) .nil)) .nil)) (.cons (.for_ (.nm 4) (.rng (.cons (.blt .len (.cons (.var 1) .nil)) .nil)) (.cons (.stix (.var 2) (.bin .Add (.var 3) (.var 4)) (.call i__law_plus (.cons (.sub (.var 2) (.bin .Add (.var 3) (.var 4))) (.cons (.call i__law_times (.cons (.sub (.var 0) (.var 3)) (.cons (.sub (.var 1) (.var 4)) .nil))) .nil)))) .nil)) .nil)) (.cons (.ret (.blt .tuple (.cons (.var 2) .nil))) .nil))))
/-- _law_is_broken, slots told a b -/
def B_law_is_broken (i__law_low : Nat) : St := (.cons (.ifs (.not (.isi (.var 0) [.tuple])) (.cons (.ret (.cst (.bool false))) .nil) .nil) (.cons (.for_ (.nm 1) (.seq (.var 0)) (.cons (.ifs (.or (.not (.isi (.var 1) [.tuple])) (.cmp .NotEq (.blt .len (.cons (.var 1) .nil)) (.cst (.int (2))))) (.cons (.ret (.cst (.bool false))) .nil) .nil) (.cons (.ifs (.not (.blt .all (.cons (.comp [2] (.and (.isi (.var 2) [.int]) (.not (.isi (.var 2) [.bool]))) (.nm 2) (.seq (.var 1)) .nil) .nil))) (.cons (.ret (.cst (.bool false))) .nil) .nil) (.cons (.ifs (.or (.cmp .Lt (.sub (.var 1) (.cst (.int (1)))) (.cst (.int (1)))) (.cmp .NotEq (.call i__law_low (.cons (.sub (.var 1) (.cst (.int (0)))) (.cons (.sub (.var 1) (.cst (.int (1)))) .nil))) (.var 1))) (.cons (.ret (.cst (.bool false))) .nil) .nil) .nil)))) (.cons (.ret (.or (.cmp .Eq (.blt .len (.cons (.var 0) .nil)) (.cst (.int (0)))) (.cmp .NotEq (.sub (.sub (.var 0) (.cst (.int (0)))) (.cst (.int (0)))) (.cst (.int (0)))))) .nil)))
theorem nD_int (a : Int) : nD (a : Rat) = .tuple [.int a, .int 1] := by
  unfold nD
  rw [Rat.num_intCast, Rat.den_intCast]
  rfl
theorem nD_zero : nD 0 = .tuple [.int 0, .int 1] := nD_int 0
def rM (f : List Rat) : List D := f.map nD
def rT (f : List Rat) : D := .tuple (rM f)
@[simp] theorem rM_len {f : List Rat} : (rM f).length = f.length := List.length_map ..
theorem rM_get {acc : List Rat} {j : Nat} (h : j < acc.length) : (rM acc)[j]? = some (nD (acc.getD j 0)) := by
  unfold rM
  rw [List.getElem?_map, List.getD_eq_getElem?_getD, List.getElem?_eq_getElem h]
  rfl
theorem rM_set {acc : List Rat} {j : Nat} {a : Rat} : (rM acc).set j (nD a) = rM (acc.set j a) := by
  unfold rM
  rw [List.map_set]
theorem rT_sub {f : List Rat} {k : Nat} (h : k < f.length) : subD (rT f) (.int (k : Int)) = some (nD (f.getD k 0)) := tub_nat (rM_get h)
theorem rL_sub {f : List Rat} {k : Nat} (h : k < f.length) : subD (.list (rM f)) (.int (k : Int)) = some (nD (f.getD k 0)) := sub_nat (rM_get h)
theorem len_rT {f : List Rat} : bltD .len [rT f] = some (.int f.length) := by show some (PyData.int ((rM f).length : Int)) = _; rw [rM_len]
theorem rM_snoc {f : List Rat} {a : Rat} : rM f ++ [nD a] = rM (f ++ [a]) := by
  unfold rM
  rw [List.map_append]; rfl
theorem repR_zero {n : Nat} : (List.replicate n [PyData.tuple [.int 0, .int 1]]).flatten = rM (List.replicate n 0) := by
  unfold rM
  rw [List.map_replicate, nD_zero]
  induction n with
  | zero => rfl
  | succ n ih => rw [List.replicate_succ, List.flatten_cons, ih]; rfl
theorem all_nums (f : List Rat) : (rM f).all isNum = true := List.all_eq_true.mpr fun y hy => by
  obtain ⟨a, _, rfl⟩ := List.mem_map.mp hy
  exact isNum_nD a
def zP : D → Bool
  | .tuple [.int a, .int b] => decide (a = 0 ∧ b = 1)
  | _ => false
theorem zP_nD (r : Rat) : zP (nD r) = decide (r = 0) := by
  show decide (r.num = 0 ∧ (r.den : Int) = 1) = _
  by_cases h : r = 0
  · rw [h]; rfl
  · have : r.num ≠ 0 := fun z => h (Rat.num_eq_zero.mp z)
    rw [decide_eq_false h, decide_eq_false fun q => this q.1]
theorem eq_nD (r : Rat) : cmpD .Eq (nD r) (.tuple [.int 0, .int 1]) = some (zP (nD r)) := eq_pair
theorem drop_num : ∀ f : List Rat, (rM f).dropWhile zP = rM (strip f)
  | [] => rfl
  | a :: f => by
    show (nD a :: rM f).dropWhile zP = rM (strip (a :: f))
    rw [List.dropWhile_cons, zP_nD, strip]
    by_cases h : a = 0
    · rw [if_pos h, if_pos (decide_eq_true h)]; exact drop_num f
    · rw [if_neg h, if_neg (by rw [decide_eq_false h]; decide)]; rfl
theorem in_nD (r : Rat) : cmpD .In (nD r) (.tuple [.int 0, .tuple [.int 0, .int 1]]) = some (zP (nD r)) := by
  show (if okD (nD r) && okD (.tuple [.int 0, .tuple [.int 0, .int 1]]) then some (isIn (nD r) [.int 0, .tuple [.int 0, .int 1]]) else none) = _
  have h : okD (.tuple [.int 0, .tuple [.int 0, .int 1]]) = true := by decide
  have h1 : okD (nD r) = true := okD_ints (by rfl)
  rw [h, h1]
  show some (PyData.eqv (.int 0) (nD r) || (PyData.eqv (.tuple [.int 0, .int 1]) (nD r) || false)) = _
  unfold nD
  simp only [PyData.eqv, PyData.eqvAll, Bool.false_or, Bool.or_false, Bool.and_true]
  congr 1
  show _ = decide (r.num = 0 ∧ (r.den : Int) = 1)
  by_cases h1 : r.num = 0 <;> by_cases h2 : (r.den : Int) = 1 <;> simp [h1, h2] <;> omega
section
variable {E : En} {w : W} {o o1 o2 o3 o4 : Option IV} {f g : List Rat} {i j k : Nat}
theorem stripped_num {x : D} (hx : x = .list (rM f) ∨ x = rT f) (hl : f.length < 16777216) (hq : E.q = 16777216) :
    fin w.length (evS E B_stripped [some (.d x), some (.d (.tuple [.int 0, .int 1])), o] w) = .ok (.d (rT (strip f))) w := by
  rw [stripped_ok hx (by rw [rM_len]; exact hl) hq (z := zP) (fun y hy => by
    obtain ⟨a, _, rfl⟩ := List.mem_map.mp hy
    exact eq_nD a), drop_num]
  rfl
/-- the same of a list of the store -/
theorem stripped_ref {nought : D} {xs : List D} {z : D → Bool} {m : Nat} (hx : w[m]? = some (.lst xs)) (hl : xs.length < 16777216) (hq : E.q = 16777216) (hz : ∀ y ∈ xs, cmpD .Eq y nought = some (z y)) :
    fin w.length (evS E B_stripped [some (.ref m), some (.d nought), o] w) = .ok (.d (.tuple (xs.dropWhile z))) w := by
  refine Ret.eq (X := fun _ _ _ => False) ?_ (fun _ _ _ h => h)
  unfold B_stripped
  simp only [Ret_fin, RetS_cons, evS_asgN, RetS_onE, ev_cst, Ret_ok, RetS_mk, sq_next, evS_whl]
  refine RetS.nx (M := fun σ w' => w' = w ∧ ∃ at_ : Nat, σ = [some (.ref m), some (.d nought), some (.d (.int (at_ : Int)))] ∧ xs.drop at_ = xs.dropWhile z) ?_ ?_
  · refine whlL_inv (fun k σ w' => w' = w ∧ ∃ at_ : Nat, k + at_ = xs.length ∧ σ = [some (.ref m), some (.d nought), some (.d (.int (at_ : Int)))] ∧ (xs.drop at_).dropWhile z = xs.dropWhile z) (m := xs.length) (by omega) ⟨rfl, 0, rfl, rfl, rfl⟩ ?_
    rintro k σ w' ⟨rfl, at_, hm, rfl, hd⟩
    by_cases hlt : at_ < xs.length
    · have hy := List.getElem?_eq_getElem hlt
      have e : subD (.list xs) (.int (at_ : Int)) = some xs[at_] := sub_nat hy
      have ez := hz xs[at_] (List.getElem_mem hlt)
      have dr : xs.drop at_ = xs[at_] :: xs.drop (at_ + 1) := List.drop_eq_getElem_cons hlt
      have hlt' : (at_ : Int) < (xs.length : Int) := by omega
      simp [hx, e, ez, hlt']
      cases hzz : z xs[at_] with
      | false =>
        simp
        exact ⟨at_, rfl, by rw [← hd, dr, List.dropWhile_cons, hzz]; rfl⟩
      | true =>
        simp
        refine ⟨k - 1, by omega, at_ + 1, by omega, by simp, ?_⟩
        rw [← hd, dr, List.dropWhile_cons, hzz]
        simp
    · have hlt' : ¬ (at_ : Int) < (xs.length : Int) := by omega
      simp [hx, hlt']
      exact ⟨at_, rfl, by rw [← hd, List.drop_eq_nil_of_le (by omega)]; rfl⟩
  · rintro σ w' ⟨rfl, at_, rfl, hd⟩
    have hc : slD (.list xs) (some (at_ : Int)) none = some (.list (xs.drop at_)) := by
      have c : cut xs (some (at_ : Int)) none = xs.drop at_ := cut_from at_
      show some _ = _
      rw [c]
    simp [hx, hc, take_len]
    rw [← hd]; rfl
theorem stripped_nref {m : Nat} (hx : w[m]? = some (.lst (rM f))) (hl : f.length < 16777216) (hq : E.q = 16777216) :
    fin w.length (evS E B_stripped [some (.ref m), some (.d (.tuple [.int 0, .int 1])), o] w) = .ok (.d (rT (strip f))) w := by
  rw [stripped_ref hx (by rw [rM_len]; exact hl) hq (z := zP) (fun y hy => by
    obtain ⟨a, _, rfl⟩ := List.mem_map.mp hy
    exact eq_nD a), drop_num]
  rfl
theorem trim_num {x : D} (hx : x = .list (rM f) ∨ x = rT f) (hl : f.length < 16777216) (hq : E.q = 16777216) :
    fin w.length (evS E B_law_trim [some (.d x), o] w) = .ok (.d (rT (strip f))) w := by
  rw [trim_ok hx (by rw [rM_len]; exact hl) hq (z := zP) (fun y hy => by
    obtain ⟨a, _, rfl⟩ := List.mem_map.mp hy
    exact in_nD a), drop_num]
  rfl
theorem opposite_ok {r : Rat} : fin w.length (evS E B_opposite [some (.d (nD r))] w) = .ok (.d (nD (-r))) w := by
  refine Ret.eq (X := fun _ _ _ => False) ?_ (fun _ _ _ h => h)
  have x0 : ∀ r : Rat, subD (nD r) (.int 0) = some (.int r.num) := fun _ => tub_0
  have x1 : ∀ r : Rat, subD (nD r) (.int 1) = some (.int (r.den : Int)) := fun _ => tub_1
  have : nD (-r) = .tuple [.int (-r.num), .int (r.den : Int)] := rfl
  unfold B_opposite
  simp [x0, x1, take_len, this, okL]
theorem added_ok {A B : Nat} {r s : Rat} (hr : Bd A r) (hs : Bd B s) (hA : A ≤ 1000000) (hB : B ≤ 1000000)
    (hl : ∀ (t b : Int) (w : W), 0 < b → b.natAbs < 2 ^ (A + B) → t.natAbs < 2 ^ (A + B + 1) → E.Φ i [.d (.int t), .d (.int b)] w = .ok (.d (nD ((t : Rat) / (b : Rat)))) w) :
    fin w.length (evS E (B_added i) [some (.d (nD r)), some (.d (nD s))] w) = .ok (.d (nD (r + s))) w := law_plus_ok hr hs hA hB hl
theorem prodN_ok {A B : Nat} {r s : Rat} (hr : Bd A r) (hs : Bd B s) (hA : A ≤ 1000000) (hB : B ≤ 1000000)
    (hl : ∀ (t b : Int) (w : W), 0 < b → b.natAbs < 2 ^ (A + B) → t.natAbs < 2 ^ (A + B + 1) → E.Φ i [.d (.int t), .d (.int b)] w = .ok (.d (nD ((t : Rat) / (b : Rat)))) w) :
    fin w.length (evS E (B_product i) [some (.d (nD r)), some (.d (nD s))] w) = .ok (.d (nD (r * s))) w := law_times_ok hr hs hA hB hl
theorem rat_quot (r s : Rat) (h : s ≠ 0) : ((r.num * (s.den : Int) : Int) : Rat) / (((r.den : Int) * s.num : Int) : Rat) = r / s := by
  have h1 : ((r.den : Int) : Rat) ≠ 0 := by
    intro z; have : (r.den : Int) = 0 := by exact_mod_cast z
    have := den_pos r; omega
  have h2 : ((s.den : Int) : Rat) ≠ 0 := by
    intro z; have : (s.den : Int) = 0 := by exact_mod_cast z
    have := den_pos s; omega
  have h3 : (s.num : Rat) ≠ 0 := by
    intro z; have : s.num = 0 := by exact_mod_cast z
    exact h (Rat.num_eq_zero.mp this)
  have e1 := rat_nd r
  have e2 := rat_nd s
  rw [Rat.intCast_mul, Rat.intCast_mul]
  generalize ((r.den : Int) : Rat) = p at *
  generalize ((s.den : Int) : Rat) = q at *
  generalize (r.num : Rat) = a at *
  generalize (s.num : Rat) = b at *
  subst e1 e2
  grind
theorem quotient_ok {A B : Nat} {r s : Rat} (hr : Bd A r) (hs : Bd B s) (h0 : s ≠ 0) (hA : A ≤ 1000000) (hB : B ≤ 1000000)
    (hl : ∀ (t b : Int) (w : W), b ≠ 0 → b.natAbs < 2 ^ (A + B) → E.Φ i [.d (.int t), .d (.int b)] w = .ok (.d (nD ((t : Rat) / (b : Rat)))) w) :
    fin w.length (evS E (B_quotient i) [some (.d (nD r)), some (.d (nD s))] w) = .ok (.d (nD (r / s))) w := by
  refine Ret.eq (X := fun _ _ _ => False) ?_ (fun _ _ _ h => h)
  have x0 : ∀ r : Rat, subD (nD r) (.int 0) = some (.int r.num) := fun _ => tub_0
  have x1 : ∀ r : Rat, subD (nD r) (.int 1) = some (.int (r.den : Int)) := fun _ => tub_1
  have o1 : okI r.num = true := okI_pow hr.1 (by omega)
  have o2 : okI s.num = true := okI_pow hs.1 (by omega)
  have o3 : okI (r.den : Int) = true := okI_pow (m := A) hr.2 (by omega)
  have o4 : okI (s.den : Int) = true := okI_pow (m := B) hs.2 (by omega)
  have h3 := lt_mul (a := (r.den : Int)) (b := s.num) (A := A) (B := B) hr.2 hs.1
  have hn : s.num ≠ 0 := fun z => h0 (Rat.num_eq_zero.mp z)
  have e := hl (r.num * (s.den : Int)) ((r.den : Int) * s.num) w (Int.mul_ne_zero (by have := den_pos r; omega) hn) h3
  rw [rat_quot r s h0] at e
  unfold B_quotient
  simp [x0, x1, o1, o2, o3, o4, e, take_len]
theorem toR_iM {f : List Int} : (iM f).map (fun y => PyData.tuple [y, .int 1]) = rM (toR f) := by
  unfold iM rM toR
  rw [List.map_map, List.map_map]
  exact List.map_congr_left fun a _ => (nD_int a).symm
/-- [(a, 1) for a in f] -/
theorem ones_comp {F : D → W → R (Option D)} {f : List Int} (hF : ∀ a : Int, F (.int a) w = .ok (some (.tuple [.int a, .int 1])) w) : compL F (iM f) w = .ok (rM (toR f)) w := by
  rw [← toR_iM]
  refine compL_map fun x hx => ?_
  obtain ⟨a, _, rfl⟩ := List.mem_map.mp hx
  exact hF a
theorem broken_ok {f : List Int} (lf : f.length ≤ 1000) : fin w.length (evS E B_broken [some (.d (iT f)), o] w) = .ok (.d (rT (toR f))) w := by
  refine Ret.eq (X := fun _ _ _ => False) ?_ (fun _ _ _ h => h)
  have okl : ∀ k : Nat, k ≤ 1000 → okL k = true := fun k h => decide_eq_true (by omega)
  unfold B_broken
  have e : compL (elF (isNil .nil) (.nm 1) (ev E .nil) (ev E (.tup (.cons (.var 1) (.cons (.cst (.int 1)) .nil)))) (wip [some (.d (iT f)), o] [1])) (iM f) w = .ok (rM (toR f)) w := by
    refine ones_comp fun a => ?_
    refine Ret.eq (X := fun _ _ _ => False) ?_ (fun _ _ _ h => h)
    rw [show isNil .nil = true from rfl, Ret_elT]
    simp [wip, okL]
  simp [show toIt w (.d (iT f)) = some (.dat (iM f)) from rfl, okl _ lf, e, take_len]
  rfl
end
end Pv

/-! Part Rd: divisions of rows of numbers. -/
namespace Pv
open PySem
section
variable {w : W} {a b c : Cell}
theorem two_get0 : (w ++ [a, b])[w.length]? = some a := by simp
theorem two_get1 : (w ++ [a, b])[w.length + 1]? = some b := by simp
theorem two_set0 : (w ++ [a, b]).set w.length c = w ++ [c, b] := by
  rw [List.set_append_right _ _ (Nat.le_refl _), Nat.sub_self]; rfl
theorem two_set1 : (w ++ [a, b]).set (w.length + 1) c = w ++ [a, c] := by
  rw [List.set_append_right _ _ (by omega), show w.length + 1 - w.length = 1 by omega]; rfl
theorem two_take : (w ++ [a, b]).take w.length = w := by
  rw [List.take_append_of_le_length (Nat.le_refl _), List.take_length]
end
theorem enumR_get {f : List Rat} {k : Nat} {z : D} (h : (enumD 0 (rM f))[k]? = some z) : k < f.length ∧ z = .tuple [.int (k : Int), nD (f.getD k 0)] := by
  obtain ⟨e, h1, h2⟩ := enumD_get h
  have hk : k < f.length := by
    have := (List.getElem?_eq_some_iff.mp h1).1
    simpa using this
  rw [rM_get hk] at h1
  cases h1
  exact ⟨hk, by rw [h2, Nat.zero_add]⟩
theorem dropR_get {f : List Rat} {k : Nat} (h : k < f.length) : f.drop k = f.getD k 0 :: f.drop (k + 1) := by
  rw [List.drop_eq_getElem_cons h, List.getD_eq_getElem?_getD, List.getElem?_eq_getElem h]
  rfl
theorem toR_getD {f : List Int} {k : Nat} : (toR f).getD k 0 = ((f.getD k 0 : Int) : Rat) := by
  unfold toR
  rw [List.getD_eq_getElem?_getD, List.getElem?_map, List.getD_eq_getElem?_getD]
  cases f[k]? <;> rfl
theorem rng_toNat {z : Int} (h0 : -1000000 ≤ z) (h : z ≤ 16777216) : rngD [.int z] = some ((List.range z.toNat).map fun (k : Nat) => PyData.int k) := by
  show (if _ then _ else _) = _
  rw [if_pos]
  simp only [Bool.and_eq_true, decide_eq_true_eq]
  omega
section
variable {E : En} {w : W} {o o1 o2 o3 o4 o5 : Option IV} {σ : Sl} {K : Fl → W → Prop}
/-- found[i + j] = e -/
theorem stix_any {m s2 s3 s5 k p : Nat} {v : D} {acc : List D} {e : Ex} (h2 : slot σ s2 = some (.ref m)) (h3 : slot σ s3 = some (.d (.int (k : Int)))) (h5 : slot σ s5 = some (.d (.int (p : Int)))) (hw : w[m]? = some (.lst acc)) (hk : k + p < acc.length)
    (he : ev E e σ w = .ok (.d v) w) :
    RetS K (evS E (.stix (.var s2) (.bin .Add (.var s3) (.var s5)) e) σ w) = K (.next σ) (w.set m (.lst (acc.set (k + p) v))) := by
  have ht : ∀ v : D, stL acc (.int ((k : Int) + (p : Int))) v = some (acc.set (k + p) v) := fun v => by
    rw [← Int.natCast_add]
    exact st_nat hk
  simp only [RetS_stix, Ret_bin, Ret_sub, ev_var, Ret_ofO, h2, h3, h5, OptP_some, rd_d, add_ii, rd_ref, hw, rdC_l, he, Ret_ok, RefP_r, DatP_d, CelP_l, ht]
theorem broken_divided_ok {A B iq ia io ip is z n : Nat} {left : List Rat} {b : Int} {g : List Int} (hb : b ≠ 0) (hg : Sm B (b :: g)) (hl : aN 1 A left) (hA : 1 ≤ A) (ll : left.length ≤ 400) (lg : g.length + 1 ≤ 400) (hn : n = left.length - g.length)
    (hsz : A * (2 * 2 ^ B) ^ n < 2 ^ 4000) (hB : 2 ^ B < 2 ^ 4000)
    (hz : E.G z = some (.tuple [.int 0, .int 1]))
    (hq : ∀ (r s : Rat) (w : W), Bd 4000 r → Bd 4000 s → s ≠ 0 → E.Φ iq [.d (nD r), .d (nD s)] w = .ok (.d (nD (r / s))) w)
    (ha : ∀ (r s : Rat) (w : W), Bd 4000 r → Bd 4000 s → E.Φ ia [.d (nD r), .d (nD s)] w = .ok (.d (nD (r + s))) w)
    (ho : ∀ (r : Rat) (w : W), E.Φ io [.d (nD r)] w = .ok (.d (nD (-r))) w)
    (hp : ∀ (r s : Rat) (w : W), Bd 4000 r → Bd 4000 s → E.Φ ip [.d (nD r), .d (nD s)] w = .ok (.d (nD (r * s))) w)
    (hs : ∀ (f : List Rat) (m : Nat) (w : W), w[m]? = some (.lst (rM f)) → f.length ≤ 1000 → E.Φ is [.ref m, .d (.tuple [.int 0, .int 1])] w = .ok (.d (rT (strip f))) w) :
    fin w.length (evS E (B_broken_divided iq ia io ip is z) [some (.d (rT left)), some (.d (rT (toR (b :: g)))), o, o1, o2, o3, o4, o5] w) = .ok (.d (.tuple [rT (strip (dvF (toR (b :: g)) left n)), rT (strip (dvL (toR (b :: g)) left n))])) w := by
  refine Ret.eq (X := fun _ _ _ => False) ?_ (fun _ _ _ h => h)
  obtain ⟨q, hqd⟩ : ∃ q, q = toR (b :: g) := ⟨_, rfl⟩
  have ql : q.length = g.length + 1 := by rw [hqd, toR_len]; rfl
  have qh : q.headD 0 = (b : Rat) := by rw [hqd]; rfl
  have q0 : q.getD 0 0 = (b : Rat) := by rw [hqd]; rfl
  have hb' : (b : Rat) ≠ 0 := by intro y; exact hb (by exact_mod_cast y)
  have hb0 : b.natAbs ≤ 2 ^ B := Nat.le_of_lt (hg b List.mem_cons_self)
  have hN := fun k => dv_N (A := A) (B := B) (left := left) hb hg hl k
  rw [← hqd] at hN ⊢
  have okl : ∀ k : Nat, k ≤ 1000 → okL k = true := fun k h => decide_eq_true (by omega)
  have mono : ∀ k, k ≤ n → A * (2 * 2 ^ B) ^ k < 2 ^ 4000 := fun k hk => Nat.lt_of_le_of_lt (Nat.mul_le_mul_left A (Nat.pow_le_pow_right (by have := Nat.two_pow_pos B; omega) hk)) hsz
  have bots : ∀ k, k ≤ n → (b ^ k).natAbs < 2 ^ 4000 := fun k hk => by
    refine Nat.lt_of_le_of_lt ?_ (mono k hk)
    rw [Int.natAbs_pow]
    have := Nat.pow_le_pow_left (show b.natAbs ≤ 2 * 2 ^ B by omega) k
    exact Nat.le_trans this (Nat.le_mul_of_pos_left _ (by omega))
  have cB : ∀ p, p < q.length → ∃ c : Int, q.getD p 0 = (c : Rat) ∧ c.natAbs ≤ 2 ^ B := fun p hp => by
    refine ⟨(b :: g).getD p 0, by rw [hqd]; exact toR_getD, ?_⟩
    exact Nat.le_of_lt (hg _ (getD_mem (by rw [hqd, toR_len] at hp; exact hp)))
  have cbd : ∀ c : Int, c.natAbs ≤ 2 ^ B → Bd 4000 (c : Rat) := fun c hc => (isN_int c hc).bd (by decide) hB (by exact Nat.one_lt_two_pow (by decide))
  have li : bltD .list [rT left] = some (.list (rM left)) := rfl
  unfold B_broken_divided
  rw [Ret_fin, RetS_cons]
  simp only [evS_par, RetS_onE, evA_cons, evA_nil, ev_new, Ret_bind, Ret_blt, ev_var, Ret_ofO, slot_cons0, OptP_some, Ret_ok, rdAll_cons, rdAll_nil, rd_d, Option.bind_some, Option.map_some, li, newW_l, Ret_lst, purs_nil, List.length_nil, okl 0 (by omega), true_and,
    RetS_ofS, setAll_cons, setAll_nil, List.set_cons_succ, List.set_cons_zero, sq_next, List.length_append, List.length_singleton, List.append_assoc, List.cons_append, List.nil_append]
  rw [RetS_cons]
  refine RetS.nx (M := fun σ w' => ∃ x2 x5 x6 x7, w' = w ++ [.lst (rM (dvL q left n)), .lst (rM (dvF q left n))] ∧ σ = [some (.d (rT left)), some (.d (rT q)), x2, some (.ref w.length), some (.ref (w.length + 1)), x5, x6, x7]) ?_ ?_
  · rw [RetS_for, Ret_rng]
    simp only [evA_cons, evA_nil, Ret_bind, Ret_bin, Ret_blt, ev_cst, ev_var, Ret_ofO, slot_cons0, slot_cons, OptP_some, Ret_ok, rdAll_cons, rdAll_nil, rd_d, Option.bind_some, Option.map_some, len_rT, sub_ii, add_ii, purs_cons, purs_nil]
    rw [rng_toNat (by omega) (by omega), show ((left.length : Int) - (q.length : Int) + 1).toNat = n by omega]
    simp only [OptP_some, forP_dat]
    refine ⟨by rw [List.length_map, List.length_range]; exact okl _ (by omega), ?_⟩
    refine forL_inv (fun k σ w' => ∃ x2 x5 x6 x7, w' = w ++ [.lst (rM (dvL q left k)), .lst (rM (dvF q left k))] ∧ σ = [some (.d (rT left)), some (.d (rT q)), x2, some (.ref w.length), some (.ref (w.length + 1)), x5, x6, x7]) ⟨_, _, _, _, rfl, rfl⟩ ?_ ?_
    · rintro k y σ w' hy ⟨x2, x5, x6, x7, rfl, rfl⟩
      obtain ⟨hk, rfl⟩ := range_get hy
      have hkl : k < (dvL q left k).length := by rw [dvL_len]; omega
      have ih := hN k
      have m0 := mono k (by omega)
      have m1 := mono (k + 1) (by omega)
      have b1 := bots (k + 1) (by omega)
      have b0 := bots k (by omega)
      have e : A * (2 * 2 ^ B) ^ (k + 1) = A * (2 * 2 ^ B) ^ k * 2 ^ B + A * (2 * 2 ^ B) ^ k * 2 ^ B := by
        rw [Nat.pow_succ, ← Nat.mul_assoc]
        generalize A * (2 * 2 ^ B) ^ k = x
        rw [← Nat.mul_assoc, Nat.mul_comm x 2, Nat.mul_assoc]; omega
      rw [e] at m1
      have bk : b ^ k ≠ 0 := Int.pow_ne_zero hb
      have bk1 : b ^ (k + 1) ≠ 0 := Int.pow_ne_zero hb
      have byN : isN (b ^ (k + 1)) (A * (2 * 2 ^ B) ^ k) ((dvL q left k).getD k 0 / (b : Rat)) := by
        have := (ih k).div hb
        rwa [← Int.pow_succ] at this
      have lkB := (ih k).bd bk m0 b0
      have hlift : ∀ i, isN (b ^ (k + 1)) (A * (2 * 2 ^ B) ^ k * 2 ^ B) ((dvL q left k).getD i 0) := fun i => by
        have := (ih i).lift b hb0
        rwa [← Int.pow_succ] at this
      have dF : dvF q left (k + 1) = dvF q left k ++ [(dvL q left k).getD k 0 / (b : Rat)] := by rw [dvF, qh]
      have dL : dvL q left (k + 1) = innR k (-((dvL q left k).getD k 0 / (b : Rat))) q 0 (dvL q left k) := by rw [dvL, qh]
      have lkl : (dvL q left k).length = left.length := dvL_len ..
      have fkl : (dvF q left k).length = k := dvF_len ..
      rw [dF, dL]
      have byP : ∀ (c : Int), c.natAbs ≤ 2 ^ B → isN (b ^ (k + 1)) (A * (2 * 2 ^ B) ^ k * 2 ^ B) (-((dvL q left k).getD k 0 / (b : Rat)) * (c : Rat)) := fun c hc => byN.neg.mulI c hc
      have byB : Bd 4000 ((dvL q left k).getD k 0 / (b : Rat)) := byN.bd bk1 m0 b1
      generalize A * (2 * 2 ^ B) ^ k = M at *
      have r1 := rL_sub (f := dvL q left k) hkl
      have r2 := rT_sub (f := q) (k := 0) (by omega)
      rw [q0] at r2
      have hqk := fun w => hq ((dvL q left k).getD k 0) (b : Rat) w lkB (cbd b hb0) hb'
      generalize dvL q left k = L at *
      generalize dvF q left k = F at *
      generalize hbyd : L.getD k 0 / (b : Rat) = by' at *
      rw [RetS_body]
      simp only [asg_nm, OptP_some, List.set_cons_succ, List.set_cons_zero]
      rw [RetS_cons]
      simp only [evS_asgN, RetS_onE, ev_call, Ret_bind, evA_cons, evA_nil, Ret_sub, ev_var, ev_cst, Ret_ofO, slot_cons0, slot_cons, OptP_some, rd_d, rd_ref, two_get0, rdC_l, r1, Ret_ok, r2]
      rw [show ((0 : Nat) : Int) = 0 from rfl] at r2
      simp only [r2, OptP_some, Ret_ok, hqk, RetS_mk, sq_next, List.set_cons_succ, List.set_cons_zero]
      rw [RetS_cons]
      have fs : decide ((rM F).length < 16777216) = true := by rw [rM_len, fkl]; exact decide_eq_true (by omega)
      simp only [evS_expr, RetS_onE, Ret_mth, ev_var, Ret_ofO, slot_cons0, slot_cons, OptP_some, rd_ref, two_get1, rdC_l, isLst, true_and, evA_cons, evA_nil, Ret_bind, Ret_ok, purs_cons, purs_nil, Option.map_some, mthW, fs, if_true, RetS_mk, sq_next, two_set1, rM_snoc]
      rw [RetS_cons]
      refine RetS.nx (M := fun σ w' => ∃ x6 x7, w' = w ++ [.lst (rM (innR k (-by') q 0 L)), .lst (rM (F ++ [by']))] ∧ σ = [some (.d (rT left)), some (.d (rT q)), some (.d (.int (k : Int))), some (.ref w.length), some (.ref (w.length + 1)), some (.d (nD by')), x6, x7]) ?_ ?_
      · rw [RetS_for, Ret_enm]
        simp only [ev_var, Ret_ofO, slot_cons0, slot_cons, OptP_some, DatP_d, show itemsD (rT q) = some (rM q) from rfl, forP_dat]
        refine ⟨by rw [enumD_len, rM_len]; exact okl _ (by omega), ?_⟩
        refine forL_inv (fun p σ w' => ∃ ac x6 x7, w' = w ++ [.lst (rM ac), .lst (rM (F ++ [by']))] ∧ ac.length = left.length ∧ innR k (-by') (q.drop p) p ac = innR k (-by') q 0 L ∧ aN (b ^ (k + 1)) (M * 2 ^ B + M * 2 ^ B) ac ∧ (∀ i, k + p ≤ i → isN (b ^ (k + 1)) (M * 2 ^ B) (ac.getD i 0)) ∧ σ = [some (.d (rT left)), some (.d (rT q)), some (.d (.int (k : Int))), some (.ref w.length), some (.ref (w.length + 1)), some (.d (nD by')), x6, x7])
          ⟨L, _, _, rfl, lkl, rfl, aN.mono hlift (by omega), fun i _ => hlift i, rfl⟩ ?_ ?_
        · rintro p y σ w' hy ⟨ac, x6, x7, rfl, acl, hi, s1, s2, rfl⟩
          obtain ⟨hpq, rfl⟩ := enumR_get hy
          obtain ⟨c, hc, cb⟩ := cB p hpq
          rw [RetS_body]
          simp only [asg_tup, asgs_cons, asg_nm, asgs_nil, Option.bind_some, OptP_some, List.set_cons_succ, List.set_cons_zero, RetS_cons]
          have kp : k + p < ac.length := by omega
          have pB : Bd 4000 (-(by' * q.getD p 0)) := by
            rw [← Rat.neg_mul, hc]
            exact (byP c cb).bd bk1 (by omega) b1
          have eB : Bd 4000 (ac.getD (k + p) 0) := (s1 (k + p)).bd bk1 m1 b1
          have qB : Bd 4000 (q.getD p 0) := by rw [hc]; exact cbd c cb
          have su := rL_sub (f := ac) kp
          rw [Int.natCast_add] at su
          rw [stix_any (m := w.length) (k := k) (p := p) (v := nD (ac.getD (k + p) 0 + -(by' * q.getD p 0))) (acc := rM ac) rfl rfl rfl two_get0 (by rw [rM_len]; exact kp) (by
            refine Ret.eq (X := fun _ _ _ => False) ?_ (fun _ _ _ h => h)
            generalize ac.getD (k + p) 0 = u at su eB ⊢
            generalize q.getD p 0 = c' at qB pB ⊢
            simp [two_get0, su, hp _ _ _ byB qB, ho, ha _ _ _ eB pB]), two_set0, rM_set]
          simp only [sq_next, evS_nil, RetS_mk, loopK_next]
          obtain ⟨t1, t2⟩ := aN_set s1 (j := k + p) s2 (c := -(by' * q.getD p 0)) (by rw [← Rat.neg_mul, hc]; exact byP c cb)
          refine ⟨_, _, _, rfl, by rw [List.length_set]; exact acl, ?_, t1, fun i hi => t2 i (by omega), rfl⟩
          rw [← hi, dropR_get hpq]
          show _ = innR k (-by') (q.drop (p + 1)) (p + 1) (ac.set (k + p) (ac.getD (k + p) 0 + -by' * q.getD p 0))
          rw [Rat.neg_mul]
        · rintro σ w' ⟨ac, x6, x7, rfl, acl, hi, s1, s2, rfl⟩
          rw [enumD_len, rM_len, List.drop_length] at hi
          exact ⟨x6, x7, by rw [← hi]; rfl, rfl⟩
      · rintro σ w' ⟨x6, x7, rfl, rfl⟩
        exact ⟨_, _, _, _, rfl, rfl⟩
    · rintro σ w' ⟨x2, x5, x6, x7, rfl, rfl⟩
      rw [List.length_map, List.length_range]
      exact ⟨x2, x5, x6, x7, rfl, rfl⟩
  · rintro σ w' ⟨x2, x5, x6, x7, rfl, rfl⟩
    have s1 := hs (dvF q left n) (w.length + 1) (w ++ [.lst (rM (dvL q left n)), .lst (rM (dvF q left n))]) two_get1 (by rw [dvF_len]; omega)
    have s2 := hs (dvL q left n) w.length (w ++ [.lst (rM (dvL q left n)), .lst (rM (dvF q left n))]) two_get0 (by rw [dvL_len]; omega)
    simp [hz, s1, s2, okL, two_take]
end
end Pv

/-! Part Re: the law's own sums and products of rows of numbers; what is broken; divided. -/
namespace Pv
open PySem
def bR (f : List Rat) : Prop := ∀ r ∈ f, Bd 4000 r
theorem bd_zero {A : Nat} (h : 0 < A) : Bd A 0 := ⟨Nat.two_pow_pos A, by exact Nat.one_lt_two_pow (by omega)⟩
theorem bR_pad {n : Nat} {f : List Rat} (h : bR f) : bR (padR n f) := fun r hr => by
  rcases List.mem_append.mp hr with q | q
  · rw [List.eq_of_mem_replicate q]; exact bd_zero (by decide)
  · exact h r q
theorem bR_aN {Q : Int} {M : Nat} {f : List Rat} (h : aN Q M f) (hQ : Q ≠ 0) (hM : M < 2 ^ 4000) (hA : Q.natAbs < 2 ^ 4000) : bR f := fun r hr => (aN_mem.mp h r hr).bd hQ hM hA
theorem bR_toR {f : List Int} (h : ∀ a ∈ f, a.natAbs < 2 ^ 4000) : bR (toR f) := fun r hr => by
  obtain ⟨a, ha, rfl⟩ := List.mem_map.mp hr
  exact (isN_int a (Nat.le_refl _)).bd (by decide) (h a ha) (by exact Nat.one_lt_two_pow (by decide))
theorem bR_strip {f : List Rat} (h : bR f) : bR (strip f) := by
  induction f with
  | nil => exact h
  | cons a f ih =>
    unfold strip
    split
    · exact ih fun r hr => h r (List.mem_cons_of_mem _ hr)
    · exact h
theorem compL_of {α : Type} {f : D → W → R (Option D)} {h k : α → D} {w : W} : ∀ {xs : List α}, (∀ a ∈ xs, f (h a) w = .ok (some (k a)) w) → compL f (xs.map h) w = .ok (xs.map k) w
  | [], _ => rfl
  | a :: xs, e => by
    show (match f (h a) w with
      | .ok o w1 => (compL f (xs.map h) w1).bind fun ys w2 => .ok (o.toList ++ ys) w2
      | _ => .no) = _
    rw [e a List.mem_cons_self]
    show (compL f (xs.map h) w).bind _ = _
    rw [compL_of fun y hy => e y (List.mem_cons_of_mem _ hy)]
    rfl
theorem zip_num : ∀ f g : List Rat, zipD (rM f) (rM g) = (List.zip f g).map fun p => .tuple [nD p.1, nD p.2]
  | [], _ => by simp [rM, zipD]
  | _ :: _, [] => by simp [rM, zipD]
  | a :: f, b :: g => by
    show PyData.tuple [nD a, nD b] :: zipD (rM f) (rM g) = _
    rw [zip_num f g]; rfl
section
variable {E : En} {w : W} {o o1 o2 o3 o4 o5 : Option IV} {f g : List Rat} {i j k : Nat}
theorem sumR_comp {x y ip : Nat} {σ : Sl} (hx : x < σ.length) (hy : y < σ.length) (hxy : x ≠ y) (hf : bR f) (hg : bR g)
    (ha : ∀ (r s : Rat) (w : W), Bd 4000 r → Bd 4000 s → E.Φ ip [.d (nD r), .d (nD s)] w = .ok (.d (nD (r + s))) w) :
    compL (elF (isNil .nil) (.tup (.cons (.nm x) (.cons (.nm y) .nil))) (ev E .nil) (ev E (.call ip (.cons (.var x) (.cons (.var y) .nil)))) σ) (zipD (rM f) (rM g)) w = .ok (rM (List.zipWith (· + ·) f g)) w := by
  rw [zip_num, compL_of (k := fun p : Rat × Rat => nD (p.1 + p.2))]
  · congr 1
    unfold rM
    rw [← List.map_uncurry_zip_eq_zipWith, List.map_map]
    rfl
  · intro p hp
    have h1 := List.of_mem_zip (a := p.1) (b := p.2) hp
    refine Ret.eq (X := fun _ _ _ => False) ?_ (fun _ _ _ h => h)
    show Ret _ _ (elF true _ _ _ _ _ _)
    rw [Ret_elT]
    simp [slot_set, hx, hy, hxy, hxy.symm, ha _ _ _ (hf _ h1.1) (hg _ h1.2)]
theorem law_broken_sum_ok (lf : f.length ≤ 400) (lg : g.length ≤ 400) (hf : bR f) (hg : bR g)
    (ha : ∀ (r s : Rat) (w : W), Bd 4000 r → Bd 4000 s → E.Φ j [.d (nD r), .d (nD s)] w = .ok (.d (nD (r + s))) w)
    (hs : ∀ (h : List Rat) (w : W), h.length ≤ 1000 → E.Φ i [.d (.list (rM h))] w = .ok (.d (rT (strip h))) w) :
    fin w.length (evS E (B_law_broken_sum i j) [some (.d (rT f)), some (.d (rT g)), o, o1, o2, o3, o4] w) = .ok (.d (rT (addR f g))) w := by
  refine Ret.eq (X := fun _ _ _ => False) ?_ (fun _ _ _ h => h)
  have mx : bltD .max [.int (f.length : Int), .int (g.length : Int)] = some (.int ((max f.length g.length : Nat) : Int)) := by
    show some (PyData.int (if (g.length : Int) > f.length then g.length else f.length)) = _
    congr 2
    split <;> omega
  have ll : ∀ h : List Rat, bltD .list [rT h] = some (.list (rM h)) := fun _ => rfl
  have ln : ∀ h : List Rat, h.length ≤ max f.length g.length → (padR (max f.length g.length) h).length = max f.length g.length := fun h hh => padR_len hh
  have pd : ∀ h : List Rat, h.length ≤ max f.length g.length → rM (List.replicate (((max f.length g.length : Nat) : Int) - h.length).toNat 0) ++ rM h = rM (padR (max f.length g.length) h) := fun h hh => by
    have : (((max f.length g.length : Nat) : Int) - h.length).toNat = max f.length g.length - h.length := by omega
    rw [this]
    unfold padR rM
    rw [List.map_append]
  have pf := pd f (by omega)
  have pg := pd g (by omega)
  have sc := sumR_comp (E := E) (w := w) (f := padR (max f.length g.length) f) (g := padR (max f.length g.length) g) (x := 5) (y := 6) (ip := j) (σ := wip [some (.d (rT f)), some (.d (rT g)), some (.d (.int ((max f.length g.length : Nat) : Int))), some (.d (.list (rM (padR (max f.length g.length) f)))), some (.d (.list (rM (padR (max f.length g.length) g)))), o3, o4] [5, 6]) (by simp [wip]) (by simp [wip]) (by decide) (bR_pad hf) (bR_pad hg) ha
  have zl : okL (zipD (rM (padR (max f.length g.length) f)) (rM (padR (max f.length g.length) g))).length = true := by
    rw [zipD_len, rM_len, rM_len, ln f (by omega), ln g (by omega)]
    exact decide_eq_true (by omega)
  have st := hs (List.zipWith (· + ·) (padR (max f.length g.length) f) (padR (max f.length g.length) g)) w (by rw [List.length_zipWith, ln f (by omega), ln g (by omega)]; omega)
  have ok1 : okL 1 = true := rfl
  have ok2 : okL 2 = true := rfl
  have c1 : ∀ h : List Rat, h.length ≤ max f.length g.length → (decide (1 ≤ 1000) && decide ((((max f.length g.length : Nat) : Int) - h.length) ≤ 1000) && decide (-1000 ≤ (((max f.length g.length : Nat) : Int) - h.length))) = true := fun h hh => by
    simp only [Bool.and_eq_true, decide_eq_true_eq]
    omega
  have okl : ∀ h : List Rat, h.length ≤ max f.length g.length → okL ((List.replicate (((max f.length g.length : Nat) : Int) - h.length).toNat (0 : Rat)).length + h.length) = true := fun h hh => decide_eq_true (by rw [List.length_replicate]; omega)
  unfold B_law_broken_sum
  simp only [Ret_fin, RetS_cons, evS_asgN, RetS_onE, Ret_blt, evA_cons, evA_nil, Ret_bind, ev_var, Ret_ofO, slot_cons0, slot_cons, OptP_some, rdAll_cons, rdAll_nil, rd_d, Option.bind_some, Option.map_some, len_rT, mx, Ret_ok, RetS_mk, sq_next, evS_par, Ret_bin, Ret_lst, Ret_tup, ev_cst, purs_cons, purs_nil, List.length_cons, List.length_nil, Nat.zero_add, Nat.reduceAdd, ok1, ok2, true_and, List.set_cons_succ, List.set_cons_zero, sub_ii, mul_li, c1 f (by omega), c1 g (by omega), if_true, repR_zero, ll, add_ll, rM_len, okl f (by omega), okl g (by omega), pf, pg, RetS_ofS, setAll_cons, setAll_nil, evS_ret, ev_call, Ret_comp, Ret_zp, ZipP_l, compP_dat, zl, sc, st, sq_ret, finK_d, take_len, and_self, and_true]
  rfl
theorem law_broken_product_ok {Q : Int} {P : Nat} (hQ : Q ≠ 0) (hQ2 : Q.natAbs < 2 ^ 4000) (hP : ∀ a ∈ f, ∀ b ∈ g, isN Q P (a * b)) (hPs : f.length * P < 2 ^ 4000) (hf : bR f) (hg : bR g) (lf : f.length ≤ 400) (lg : g.length ≤ 400)
    (ha : ∀ (r s : Rat) (w : W), Bd 4000 r → Bd 4000 s → E.Φ i [.d (nD r), .d (nD s)] w = .ok (.d (nD (r + s))) w)
    (hm : ∀ (r s : Rat) (w : W), Bd 4000 r → Bd 4000 s → E.Φ j [.d (nD r), .d (nD s)] w = .ok (.d (nD (r * s))) w) :
    fin w.length (evS E (B_law_broken_product i j) [some (.d (rT f)), some (.d (rT g)), o, o1, o2] w) = .ok (.d (rT (mulR f g))) w := by
  refine Ret.eq (X := fun _ _ _ => False) ?_ (fun _ _ _ h => h)
  have tt : ∀ h : List Rat, bltD .tuple [.list (rM h)] = some (rT h) := fun _ => rfl
  have tk : ∀ c : Cell, (w ++ [c]).take w.length = w := fun c => by rw [List.take_append_of_le_length (Nat.le_refl _), List.take_length]
  have el : okL 0 = true := rfl
  have okl : ∀ k : Nat, k ≤ 1000 → okL k = true := fun k h => decide_eq_true (by omega)
  unfold B_law_broken_product
  by_cases hfe : f = []
  · have : mulR f g = [] := by rw [hfe]; rfl
    simp [len_rT, hfe, el, take_len]; rfl
  by_cases hge : g = []
  · have : mulR f g = [] := by unfold mulR; rw [hge]; simp
    simp [len_rT, hfe, hge, el, take_len, this]
    rw [hge] at this
    rw [this]; rfl
  have pf : 0 < f.length := List.length_pos_iff.mpr hfe
  have pg : 0 < g.length := List.length_pos_iff.mpr hge
  have mi : mulR f g = outR g f 0 (List.replicate (f.length + g.length - 1) 0) := by
    unfold mulR
    cases f with
    | nil => exact absurd rfl hfe
    | cons => cases g with
      | nil => exact absurd rfl hge
      | cons => rfl
  rw [mi]
  have d1 : decide ((f.length : Int) = 0) = false := decide_eq_false (by omega)
  have d2 : decide ((g.length : Int) = 0) = false := decide_eq_false (by omega)
  have m1 : (decide (0 + 1 ≤ 1000) && decide ((f.length : Int) + g.length - 1 ≤ 1000) && decide (-1000 ≤ (f.length : Int) + g.length - 1)) = true := by
    simp only [Bool.and_eq_true, decide_eq_true_eq]
    omega
  simp only [Ret_fin, RetS_cons, RetS_ifs, ev_or, Ret_tst, Ret_cmp, Ret_tup, evA_nil, ev_var, Ret_ofO, slot_cons0, slot_cons, OptP_some, Ret_ok, purs_nil, List.length_nil, el, true_and, cmpV_dd, eq_ii, d1, d2, BoolP_b, Bool.false_eq_true, if_false, Ret_if, evS_nil, RetS_mk, sq_next,
    evS_asgN, RetS_onE, ev_new, Ret_bind, Ret_bin, Ret_lst, Ret_blt, evA_cons, ev_cst, purs_cons, Option.map_some, List.length_cons, okl (0 + 1) (by omega), okl (0 + 1 + 1) (by omega), rdAll_cons, rdAll_nil, rd_d, Option.bind_some, len_rT, add_ii, sub_ii, mul_li, OptP_if, m1, if_true]
  have tn : ((f.length : Int) + g.length - 1).toNat = f.length + g.length - 1 := by omega
  simp only [Ret_ok, newW_l, RetS_mk, sq_next, tn, repR_zero]
  obtain ⟨zs, hzs⟩ : ∃ zs : List Rat, zs = List.replicate (f.length + g.length - 1) 0 := ⟨_, rfl⟩
  have zl : zs.length = f.length + g.length - 1 := by rw [hzs, List.length_replicate]
  have zN : aN Q (0 * P) zs := aN_mem.mpr fun r hr => by
    rw [hzs] at hr
    rw [List.eq_of_mem_replicate hr]; exact isN_zero
  rw [← hzs]
  have PB : ∀ a ∈ f, ∀ b ∈ g, Bd 4000 (a * b) := fun a h1 b h2 => (hP a h1 b h2).bd hQ (Nat.lt_of_le_of_lt (Nat.le_mul_of_pos_left P pf) hPs) hQ2
  have kB : ∀ k, k < f.length → k * P + P < 2 ^ 4000 := fun k hk => by
    refine Nat.lt_of_le_of_lt ?_ hPs
    rw [← Nat.succ_mul]
    exact Nat.mul_le_mul_right P hk
  have mem : ∀ {l : List Rat} {k : Nat}, k < l.length → l.getD k 0 ∈ l := fun {l k} h => by
    rw [List.getD_eq_getElem?_getD, List.getElem?_eq_getElem h]
    exact List.getElem_mem h
  refine RetS.nx (M := fun σ w' => ∃ x3 x4, w' = w ++ [.lst (rM (outR g f 0 zs))] ∧ σ = [some (.d (rT f)), some (.d (rT g)), some (.ref w.length), x3, x4]) ?_ ?_
  · rw [RetS_for, Ret_rng]
    simp only [evA_cons, evA_nil, Ret_bind, Ret_blt, ev_var, Ret_ofO, List.set_cons_succ, List.set_cons_zero, slot_cons0, OptP_some, Ret_ok, rdAll_cons, rdAll_nil, rd_d, Option.bind_some, Option.map_some, len_rT, purs_cons, purs_nil, rng_nat (n := f.length) (by omega), forP_dat]
    refine ⟨by rw [List.length_map, List.length_range]; exact okl _ (by omega), ?_⟩
    refine forL_inv (fun k σ w' => ∃ acc x3 x4, w' = w ++ [.lst (rM acc)] ∧ acc.length = f.length + g.length - 1 ∧ outR g (f.drop k) k acc = outR g f 0 zs ∧ aN Q (k * P) acc ∧ σ = [some (.d (rT f)), some (.d (rT g)), some (.ref w.length), x3, x4]) ⟨zs, _, _, rfl, zl, rfl, zN, rfl⟩ ?_ ?_
    · rintro k z σ w' hz ⟨acc, x3, x4, rfl, al, he, hN, rfl⟩
      obtain ⟨hkf, rfl⟩ := range_get hz
      have kb := kB k hkf
      rw [RetS_body]
      simp only [asg_nm, OptP_some, List.set_cons_succ, List.set_cons_zero]
      rw [RetS_cons]
      refine RetS.nx (M := fun σ w' => ∃ x4, w' = w ++ [.lst (rM (innR k (f.getD k 0) g 0 acc))] ∧ σ = [some (.d (rT f)), some (.d (rT g)), some (.ref w.length), some (.d (.int (k : Int))), x4]) ?_ ?_
      · rw [RetS_for, Ret_rng]
        simp only [evA_cons, evA_nil, Ret_bind, Ret_blt, ev_var, Ret_ofO, slot_cons0, slot_cons, OptP_some, Ret_ok, rdAll_cons, rdAll_nil, rd_d, Option.bind_some, Option.map_some, len_rT, purs_cons, purs_nil, rng_nat (n := g.length) (by omega), forP_dat]
        refine ⟨by rw [List.length_map, List.length_range]; exact okl _ (by omega), ?_⟩
        refine forL_inv (fun p σ w' => ∃ ac x4, w' = w ++ [.lst (rM ac)] ∧ ac.length = f.length + g.length - 1 ∧ innR k (f.getD k 0) (g.drop p) p ac = innR k (f.getD k 0) g 0 acc ∧ aN Q (k * P + P) ac ∧ (∀ i, k + p ≤ i → isN Q (k * P) (ac.getD i 0)) ∧ σ = [some (.d (rT f)), some (.d (rT g)), some (.ref w.length), some (.d (.int (k : Int))), x4])
          ⟨acc, _, rfl, al, rfl, hN.mono (by omega), fun i _ => hN i, rfl⟩ ?_ ?_
        · rintro p z σ w' hz ⟨ac, x4, rfl, acl, hi, s1, s2, rfl⟩
          obtain ⟨hpg, rfl⟩ := range_get hz
          rw [RetS_body]
          simp only [asg_nm, OptP_some, List.set_cons_succ, List.set_cons_zero, RetS_cons]
          have kp : k + p < ac.length := by omega
          have su := rL_sub (f := ac) kp
          rw [Int.natCast_add] at su
          have mf := mem hkf
          have mg := mem hpg
          have uf := rT_sub (f := f) hkf
          have ug := rT_sub (f := g) hpg
          have eB : Bd 4000 (ac.getD (k + p) 0) := (s1 (k + p)).bd hQ kb hQ2
          have pN := hP _ mf _ mg
          have pB := PB _ mf _ mg
          have fB := hf _ mf
          have gB := hg _ mg
          rw [stix_any (m := w.length) (k := k) (p := p) (v := nD (ac.getD (k + p) 0 + f.getD k 0 * g.getD p 0)) (acc := rM ac) rfl rfl rfl last_get (by rw [rM_len]; exact kp) (by
            refine Ret.eq (X := fun _ _ _ => False) ?_ (fun _ _ _ h => h)
            generalize ac.getD (k + p) 0 = u at su eB ⊢
            generalize f.getD k 0 = a at uf fB pB ⊢
            generalize g.getD p 0 = b at ug gB pB ⊢
            simp [su, uf, ug, hm _ _ _ fB gB, ha _ _ _ eB pB]), last_set, rM_set]
          simp only [sq_next, evS_nil, RetS_mk, loopK_next]
          obtain ⟨t1, t2⟩ := aN_set s1 (j := k + p) s2 pN
          exact ⟨_, _, rfl, by rw [List.length_set]; exact acl, by rw [← hi, dropR_get hpg]; rfl, t1, fun i hi => t2 i (by omega), rfl⟩
        · rintro σ w' ⟨ac, x4, rfl, acl, hi, s1, s2, rfl⟩
          rw [List.length_map, List.length_range, List.drop_length] at hi
          exact ⟨x4, by rw [← hi]; rfl, rfl⟩
      · rintro σ w' ⟨x4, rfl, rfl⟩
        refine ⟨_, _, _, rfl, by rw [innR_len]; exact al, by rw [← he, dropR_get hkf]; rfl, ?_, rfl⟩
        rw [Nat.succ_mul]
        exact innR_N g 0 acc (hP _ (mem hkf)) (hN.mono (by omega)) (fun i _ => hN i)
    · rintro σ w' ⟨acc, x3, x4, rfl, al, he, hN, rfl⟩
      rw [List.length_map, List.length_range, List.drop_length] at he
      exact ⟨x3, x4, by rw [← he]; rfl, rfl⟩
  · rintro σ w' ⟨x3, x4, rfl, rfl⟩
    simp [tt, tk]
theorem law_is_broken_ok (hf : bR f) (hh : HdR f) (lf : f.length ≤ 1000)
    (hl : ∀ (r : Rat) (w : W), Bd 4000 r → E.Φ i [.d (.int r.num), .d (.int (r.den : Int))] w = .ok (.d (nD r)) w) :
    fin w.length (evS E (B_law_is_broken i) [some (.d (rT f)), o, o1] w) = .ok (.d (.bool true)) w := by
  refine Ret.eq (X := fun _ _ _ => False) ?_ (fun _ _ _ h => h)
  have okl : ∀ k : Nat, k ≤ 1000 → okL k = true := fun k h => decide_eq_true (by omega)
  have x0 : ∀ r : Rat, subD (nD r) (.int 0) = some (.int r.num) := fun _ => tub_0
  have x1 : ∀ r : Rat, subD (nD r) (.int 1) = some (.int (r.den : Int)) := fun _ => tub_1
  have ty : ∀ r : Rat, tyB (nD r) .tuple = true := fun _ => rfl
  have tT : tyB (rT f) .tuple = true := rfl
  have l2 : ∀ r : Rat, bltD .len [nD r] = some (.int 2) := fun _ => rfl
  have it : ∀ r : Rat, toIt w (.d (nD r)) = some (.dat [.int r.num, .int (r.den : Int)]) := fun _ => rfl
  unfold B_law_is_broken
  rw [Ret_fin, RetS_cons]
  simp only [RetS_ifs, ev_not, Ret_tst, ev_isi, Ret_bind, ev_var, Ret_ofO, slot_cons0, OptP_some, Ret_ok, isiV_d, List.any_cons, List.any_nil, tT, Option.map_some, BoolP_b, Bool.true_or, Bool.not_true, Bool.false_eq_true, if_false, evS_nil, RetS_mk, sq_next]
  rw [RetS_cons]
  refine RetS.nx (M := fun σ w' => w' = w ∧ ∃ x1 x2, σ = [some (.d (rT f)), x1, x2]) ?_ ?_
  · simp [show toIt w (.d (rT f)) = some (.dat (rM f)) from rfl]
    refine ⟨okl _ lf, ?_⟩
    refine forL_inv (fun k σ w' => w' = w ∧ ∃ x1 x2, σ = [some (.d (rT f)), x1, x2]) ⟨rfl, _, _, rfl⟩ ?_ ?_
    · rintro k z σ w' hz ⟨rfl, y1, y2, rfl⟩
      obtain ⟨r, hr, rfl⟩ := List.mem_map.mp (List.mem_of_getElem? hz)
      have e : compL (elF (isNil .nil) (.nm 2) (ev E .nil) (ev E (.and (.isi (.var 2) [.int]) (.not (.isi (.var 2) [.bool])))) (wip [some (.d (rT f)), some (.d (nD r)), y2] [2])) [.int r.num, .int (r.den : Int)] w' = .ok [.bool true, .bool true] w' :=
        compL_map (g := fun _ => .bool true) fun x hx => by
          refine Ret.eq (X := fun _ _ _ => False) ?_ (fun _ _ _ h => h)
          rw [show isNil .nil = true from rfl, Ret_elT]
          simp at hx
          rcases hx with rfl | rfl <;> simp [wip, tyB]
      have al : bltD .all [.list [.bool true, .bool true]] = some (.bool true) := rfl
      have dp := den_pos r
      have ne : cmpD .NotEq (nD r) (nD r) = some false := by
        rw [show nD r = .tuple [.int r.num, .int (r.den : Int)] from rfl, ne_pair]; simp
      have dl : decide ((r.den : Int) < 1) = false := decide_eq_false (by omega)
      simp [ty, l2, it, okl 2 (by omega), e, al, x0, x1, dl, hl r w' (hf r hr), ne]
    · rintro σ w' ⟨rfl, h⟩
      exact ⟨rfl, h⟩
  · rintro σ w' ⟨rfl, x1, x2, rfl⟩
    cases f with
    | nil => simp [len_rT, take_len]
    | cons a f =>
      have s0 : subD (rT (a :: f)) (.int 0) = some (nD a) := tub_0
      have ha := hh a rfl
      have : a.num ≠ 0 := fun z => ha (Rat.num_eq_zero.mp z)
      have ln : decide (((a :: f).length : Int) = 0) = false := decide_eq_false (by rw [List.length_cons]; omega)
      simp only [RetS_cons, evS_ret, RetS_onE, ev_or, Ret_tst, Ret_cmp, Ret_blt, Ret_sub, evA_cons, evA_nil, Ret_bind, ev_var, ev_cst, Ret_ofO, slot_cons0, OptP_some, Ret_ok, rdAll_cons, rdAll_nil, rd_d, Option.bind_some, Option.map_some, len_rT, cmpV_dd, eq_ii, ln, BoolP_b, Bool.false_eq_true, if_false, Ret_if, s0, x0, ne_ii, this, decide_false, Bool.not_false, RetS_mk, sq_ret, finK_d, take_len, and_self]
theorem check_degree_ok {f : List Int} {least : Int} (h : E.Φ i [.d (iT f)] w = .ok (.d .none) w) (hl : least + 1 ≤ f.length) :
    fin w.length (evS E (B_check_degree i) [some (.d (iT f)), some (.d (.int least))] w) = .ok (.d .none) w := by
  refine Ret.eq (X := fun _ _ _ => False) ?_ (fun _ _ _ h => h)
  have d : decide ((f.length : Int) - 1 < least) = false := decide_eq_false (by omega)
  unfold B_check_degree
  simp [h, len_iT, d, take_len]
theorem divided_ok {i1 i2 i3 i4 : Nat} {f g : List Int} {v : D} (h1 : E.Φ i1 [.d (iT f)] w = .ok (.d .none) w) (h2 : E.Φ i2 [.d (iT g), .d (.int 0)] w = .ok (.d .none) w)
    (h3 : ∀ h : List Int, h = f ∨ h = g → E.Φ i4 [.d (iT h)] w = .ok (.d (rT (toR h))) w) (h4 : E.Φ i3 [.d (rT (toR f)), .d (rT (toR g))] w = .ok (.d v) w) :
    fin w.length (evS E (B_divided i1 i2 i3 i4) [some (.d (iT f)), some (.d (iT g))] w) = .ok (.d v) w := by
  refine Ret.eq (X := fun _ _ _ => False) ?_ (fun _ _ _ h => h)
  unfold B_divided
  simp [h1, h2, h3 f (.inl rfl), h3 g (.inr rfl), h4, take_len]
end
end Pv

/-! Part Rf: rows of numbers as they are compared; divisions as a whole; slices from the end. -/
namespace Pv
open PySem
theorem strip_len_le (f : List Rat) : (strip f).length ≤ f.length := by
  have := strip_zeros 0 f (by intro j hj; omega)
  omega
theorem mulR_len_le (f g : List Rat) : (mulR f g).length ≤ f.length + g.length := by
  by_cases hf : f = []
  · rw [hf]; simp [mulR]
  by_cases hg : g = []
  · rw [hg]; simp [mulR]
  rw [mulR_len hf hg]; omega
theorem HdR_toR {f : List Int} (h : HdI f) : HdR (toR f) := by
  cases f with
  | nil => intro a q; cases q
  | cons b f =>
    intro a q
    cases q
    intro z
    have z' : (b : Rat) = 0 := z
    exact h b rfl (by exact_mod_cast z')
theorem toR_strip : ∀ f : List Int, toR (stripI f) = strip (toR f)
  | [] => rfl
  | a :: f => by
    show toR ((a :: f).dropWhile is0) = strip ((a : Rat) :: toR f)
    rw [List.dropWhile_cons, strip]
    by_cases h : a = 0
    · subst h
      rw [if_pos (by rfl), if_pos (by rfl)]
      exact toR_strip f
    · rw [if_neg (by simpa [is0] using h), if_neg (by intro z; have z' : (a : Rat) = 0 := z; exact h (by exact_mod_cast z'))]
      rfl
theorem toR_inj {f g : List Int} (h : toR f = toR g) : f = g := by
  induction f generalizing g with
  | nil => cases g with
    | nil => rfl
    | cons => cases h
  | cons a f ih => cases g with
    | nil => cases h
    | cons b g =>
      have h1 : (a : Rat) = (b : Rat) := (List.cons.inj h).1
      rw [ih (List.cons.inj h).2, show a = b by exact_mod_cast h1]
theorem eqv_nD (r : Rat) : PyData.eqv (nD r) (nD r) = true := by
  unfold nD
  simp [PyData.eqv, PyData.eqvAll]
theorem eqvAll_rM : ∀ f : List Rat, PyData.eqvAll (rM f) (rM f) = true
  | [] => by simp [rM, PyData.eqvAll]
  | a :: f => by
    show PyData.eqvAll (nD a :: rM f) (nD a :: rM f) = true
    rw [PyData.eqvAll, eqv_nD, eqvAll_rM f]; rfl
theorem eqR (f : List Rat) : cmpD .Eq (rT f) (rT f) = some true := by
  show (if okD (.tuple (rM f)) && okD (.tuple (rM f)) then some (PyData.eqv (.tuple (rM f)) (.tuple (rM f))) else none) = _
  rw [okD_nums (all_nums f), PyData.eqv, eqvAll_rM]; rfl
theorem eqvAll_iM : ∀ f : List Int, PyData.eqvAll (iM f) (iM f) = true
  | [] => by simp [iM, PyData.eqvAll]
  | a :: f => by
    show PyData.eqvAll (PyData.int a :: iM f) (PyData.int a :: iM f) = true
    rw [PyData.eqvAll, eqvAll_iM f]; simp [PyData.eqv]
theorem eqI (f : List Int) : cmpD .Eq (iT f) (iT f) = some true := by
  show (if okD (.tuple (iM f)) && okD (.tuple (iM f)) then some (PyData.eqv (.tuple (iM f)) (.tuple (iM f))) else none) = _
  rw [okD_ints (all_ints f), PyData.eqv, eqvAll_iM]; rfl
theorem eq_nn (r : Rat) : cmpD .Eq (nD r) (nD r) = some true := by
  rw [show nD r = .tuple [.int r.num, .int (r.den : Int)] from rfl, eq_pair]; simp
theorem ne_nn (r : Rat) : cmpD .NotEq (nD r) (nD r) = some false := by
  rw [show nD r = .tuple [.int r.num, .int (r.den : Int)] from rfl, ne_pair]; simp
/-! divisions -/
section
variable {left g : List Rat} {b : Rat} {n : Nat}
theorem div_vl (hn : n = left.length - g.length) (x : Rat) : vl left x = vl (dvF (b :: g) left n) x * vl (b :: g) x + vl (dvL (b :: g) left n) x := by
  by_cases h : g.length ≤ left.length
  · have := dv_vl (b :: g) left x (n := n) (by rw [List.length_cons]; omega) (by simp) n (Nat.le_refl _)
    rw [Nat.sub_self, Rat.pow_zero, Rat.mul_one] at this
    exact this
  · have : n = 0 := by omega
    subst this
    show vl left x = vl [] x * _ + vl left x
    rw [vl_nil]; grind
theorem div_len (hn : n = left.length - g.length) (hb : b ≠ 0) : (strip (dvL (b :: g) left n)).length < (b :: g).length := by
  have := strip_zeros n (dvL (b :: g) left n) fun j hj => dvL_zero left hb n (by omega) j hj
  rw [dvL_len] at this
  rw [List.length_cons]
  by_cases h : g.length ≤ left.length <;> omega
/-- what a quotient and a remainder are -/
theorem div_is {q r : List Rat} (hn : n = left.length - g.length) (hb : b ≠ 0) (hq : HdR q) (hr : HdR r) (hl : r.length < (b :: g).length) (h : ∀ x, vl left x = vl q x * vl (b :: g) x + vl r x) :
    strip (dvF (b :: g) left n) = q ∧ strip (dvL (b :: g) left n) = r :=
  div_uniq (q := b :: g) (fun a h => by cases h; exact hb) (HdR_strip _) hq (HdR_strip _) hr (div_len hn hb) hl fun x => by
    rw [vl_strip, vl_strip, ← div_vl hn x, h x]
end
theorem cut_neg {xs : List D} {m : Nat} (h : 0 < m) : cut xs (some (-(m : Int))) none = xs.drop (xs.length - m) := by
  have c : clip xs.length 0 (some (-(m : Int))) = xs.length - m := by
    show (if -(m : Int) < 0 then (if -(m : Int) + (xs.length : Int) < 0 then 0 else (-(m : Int) + (xs.length : Int)).toNat) else (if (xs.length : Int) < -(m : Int) then xs.length else (-(m : Int)).toNat)) = _
    rw [if_pos (by omega)]
    split <;> omega
  unfold cut
  rw [c]
  show List.take (xs.length - (xs.length - m)) (List.drop (xs.length - m) xs) = _
  rw [List.take_of_length_le (by rw [List.length_drop]; omega)]
theorem sl_neg {f : List Int} {m : Nat} (h : 0 < m) : slD (iT f) (some (-(m : Int))) none = some (iT (f.drop (f.length - m))) := by
  show some (PyData.tuple (cut (iM f) (some (-(m : Int))) none)) = _
  rw [cut_neg h, iM_len]
  unfold iT iM
  rw [List.map_drop]
theorem tupl_iT {f : List Int} : bltD .tuple [.list (iM f)] = some (iT f) := rfl
theorem tupl_rT {f : List Rat} : bltD .tuple [.list (rM f)] = some (rT f) := rfl
theorem list_iT {f : List Int} : bltD .list [iT f] = some (.list (iM f)) := rfl
theorem list_rT {f : List Rat} : bltD .list [rT f] = some (.list (rM f)) := rfl
theorem toIt_iT {w : W} {f : List Int} : toIt w (.d (iT f)) = some (.dat (iM f)) := rfl
theorem toIt_rT {w : W} {f : List Rat} : toIt w (.d (rT f)) = some (.dat (rM f)) := rfl
end Pv

/-! Part Sa: slopes. -/
namespace Pv
open PySem
/-- check_factor, slots told -/
def B_check_factor (i_is_number g_ZERO : Nat) : St := (.cons (.ifs (.or (.not (.call i_is_number (.cons (.var 0) .nil))) (.cmp .Eq (.var 0) (.glob g_ZERO))) (.cons .stuck .nil) .nil) .nil)
/-- slope_of, slots f at a -/
def B_slope_of : St := (.cons (.ret (.blt .tuple (.cons (.comp [1, 2] (.bin .Mult (.var 2) (.bin .Sub (.bin .Sub (.blt .len (.cons (.var 0) .nil)) (.cst (.int (1)))) (.var 1))) (.tup (.cons (.nm 1) (.cons (.nm 2) .nil))) (.enm (.sl (.var 0) .nil (.cons (.neg (.cst (.int (1)))) .nil))) .nil) .nil))) .nil)
/-- slope, slots f -/
def B_slope (i_check_polynomial i_slope_of : Nat) : St := (.cons (.expr (.call i_check_polynomial (.cons (.var 0) .nil))) (.cons (.ret (.call i_slope_of (.cons (.var 0) .nil))) .nil))
/-- inside, slots f g found a -/
def B_inside (i_check_polynomial i_sum_of i_times_of_two : Nat) : St := (.cons (.expr (.call i_check_polynomial (.cons (.var 0) .nil))) (.cons (.expr (.call i_check_polynomial (.cons (.var 1) .nil))) (.cons (.asg (.nm 2) (.tup .nil)) (.cons (.for_ (.nm 3) (.seq (.var 0)) (.cons (.asg (.nm 2) (.call i_sum_of (.cons (.call i_times_of_two (.cons (.var 2) (.cons (.var 1) .nil))) (.cons (.ite (.cmp .NotEq (.var 3) (.cst (.int (0)))) (.tup (.cons (.var 3) .nil)) (.tup .nil)) .nil)))) .nil)) (.cons (.ret (.var 2)) .nil)))))
/-- broken_plus, slots p q many a b -/
def B_broken_plus (i_stripped i_padded g_ZERO i_added : Nat) : St := (.cons (.asg (.nm 2) (.blt .max (.cons (.blt .len (.cons (.var 0) .nil)) (.cons (.blt .len (.cons (.var 1) .nil)) .nil)))) (.cons (.ret (.call i_stripped (.cons (.comp [3, 4] (.call i_added (.cons (.var 3) (.cons (.var 4) .nil))) (.tup (.cons (.nm 3) (.cons (.nm 4) .nil))) (.zp (.call i_padded (.cons (.var 0) (.cons (.var 2) (.cons (.glob g_ZERO) .nil)))) (.call i_padded (.cons (.var 1) (.cons (.var 2) (.cons (.glob g_ZERO) .nil))))) .nil) (.cons (.glob g_ZERO) .nil)))) .nil))
/-- broken_times, slots p q found at a place b -/
def B_broken_times (g_ZERO i_added i_product : Nat) : St := (.cons (.asg (.nm 2) (.new (.bin .Mult (.lst (.cons (.glob g_ZERO) .nil)) (.blt .max (.cons (.cst (.int (0))) (.cons (.bin .Sub (.bin .Add (.blt .len (.cons (.var 0) .nil)) (.blt .len (.cons (.var 1) .nil))) (.cst (.int (1)))) .nil)))))) (.cons (.for_ (.tup (.cons (.nm 3) (.cons (.nm 4) .nil))) (.enm (.var 0)) (.cons (.for_ (.tup (.cons (.nm 5) (.cons (.nm 6) .nil))) (.enm (.var 1)) (.cons (.stix (.var 2) (.bin .Add (.var 3) (.var 5)) (.call i_added (.cons (.sub (.var 2) (.bin .Add (.var 3) (.var 5))) (.cons (.call i_product (.cons (.var 4) (.cons (.var 6) .nil))) .nil)))) .nil)) .nil)) (.cons (.ret (.ite (.and (.cmp .NotEq (.var 0) (.tup .nil)) (.cmp .NotEq (.var 1) (.tup .nil))) (.blt .tuple (.cons (.var 2) .nil)) (.tup .nil))) .nil)))
/-- whole_of, slots p k a -/
def B_whole_of : St := (.cons (.asg (.nm 1) (.cst (.int (1)))) (.cons (.for_ (.nm 2) (.seq (.var 0)) (.cons (.asg (.nm 1) (.blt .lcm (.cons (.var 1) (.cons (.sub (.var 2) (.cst (.int (1)))) .nil)))) .nil)) (.cons (.ret (.tup (.cons (.blt .tuple (.cons (.comp [2] (.bin .Mult (.sub (.var 2) (.cst (.int (0)))) (.bin .FloorDiv (.var 1) (.sub (.var 2) (.cst (.int (1)))))) (.nm 2) (.seq (.var 0)) .nil) .nil)) (.cons (.var 1) .nil)))) .nil)))
/-- moved_by, slots f p q a found by -/
def B_moved_by (i_broken_plus i_broken_times : Nat) : St := (.cons (.par [4, 5] (.cons (.tup .nil) (.cons (.tup (.cons (.var 1) (.cons (.var 2) .nil))) .nil))) (.cons (.for_ (.nm 3) (.seq (.var 0)) (.cons (.asg (.nm 4) (.call i_broken_plus (.cons (.call i_broken_times (.cons (.var 4) (.cons (.var 5) .nil))) (.cons (.ite (.cmp .NotEq (.var 3) (.cst (.int (0)))) (.tup (.cons (.tup (.cons (.var 3) (.cons (.cst (.int (1))) .nil))) .nil)) (.tup .nil)) .nil)))) .nil)) (.cons (.ret (.var 4)) .nil)))
/-- moved, slots f p q -/
def B_moved (i_check_polynomial i_check_factor i_check_number i_whole_of i_moved_by : Nat) : St := (.cons (.expr (.call i_check_polynomial (.cons (.var 0) .nil))) (.cons (.expr (.call i_check_factor (.cons (.var 1) .nil))) (.cons (.expr (.call i_check_number (.cons (.var 2) .nil))) (.cons (.ret (.sub (.call i_whole_of (.cons (.call i_moved_by (.cons (.var 0) (.cons (.var 1) (.cons (.var 2) .nil)))) .nil)) (.cst (.int (0))))) .nil))))
/-- _law_slope, slots f n k -/
def B_law_slope : St := (.cons (.asg (.nm 1) (.bin .Sub (.blt .len (.cons (.var 0) .nil)) (.cst (.int (1))))) (.cons (.ret (.ite (.cmp .Gt (.var 1) (.cst (.int (0)))) (.blt .tuple (.cons (.comp [2] (.bin .Mult (.sub (.var 0) (.var 2)) (.bin .Sub (.var 1) (.var 2))) (.nm 2) (.rng (.cons (.var 1) .nil)) .nil) .nil)) (.tup .nil))) .nil))
/-- _law_moved, slots f p q k under total power_now n a longer j top bottom one other -/
def B_law_moved (i__law_plus i__law_times i__law_low i__law_trim : Nat) : St := (.cons (.par [5, 6, 7] (.cons (.lst .nil) (.cons (.lst (.cons (.tup (.cons (.cst (.int (1))) (.cons (.cst (.int (1))) .nil))) .nil)) (.cons (.bin .Sub (.blt .len (.cons (.var 0) .nil)) (.cst (.int (1)))) .nil)))) (.cons (.for_ (.nm 3) (.rng (.cons (.bin .Add (.var 7) (.cst (.int (1)))) .nil)) (.cons (.asg (.nm 8) (.tup (.cons (.sub (.var 0) (.bin .Sub (.var 7) (.var 3))) (.cons (.cst (.int (1))) .nil)))) (.cons (.asg (.nm 5) (.bin .Add (.bin .Mult (.lst (.cons (.tup (.cons (.cst (.int (0))) (.cons (.cst (.int (1))) .nil))) .nil)) (.bin .Sub (.blt .len (.cons (.var 6) .nil)) (.blt .len (.cons (.var 5) .nil)))) (.var 5))) (.cons (.asg (.nm 5) (.comp [13, 14] (.call i__law_plus (.cons (.var 13) (.cons (.call i__law_times (.cons (.var 8) (.cons (.var 14) .nil))) .nil))) (.tup (.cons (.nm 13) (.cons (.nm 14) .nil))) (.zp (.var 5) (.var 6)) .nil)) (.cons (.asg (.nm 9) (.new (.bin .Add (.comp [13] (.call i__law_times (.cons (.var 1) (.cons (.var 13) .nil))) (.nm 13) (.seq (.var 6)) .nil) (.lst (.cons (.tup (.cons (.cst (.int (0))) (.cons (.cst (.int (1))) .nil))) .nil))))) (.cons (.for_ (.nm 10) (.rng (.cons (.blt .len (.cons (.var 6) .nil)) .nil)) (.cons (.stix (.var 9) (.bin .Add (.var 10) (.cst (.int (1)))) (.call i__law_plus (.cons (.sub (.var 9) (.bin .Add (.var 10) (.cst (.int (1))))) (.cons (.call i__law_times (.cons (.var 2) (.cons (.sub (.var 6) (.var 10)) .nil))) .nil)))) .nil)) (.cons (.asg (.nm 6) (.frz 9)) .nil))))))) (.cons (.asg (.nm 4) (.cst (.int (1)))) (.cons (.for_ (.tup (.cons (.nm 11) (.cons (.nm 12) .nil))) (.seq (.var 5)) (.cons (.asg (.nm 4) (.bin .Mult (.var 4) (.sub (.call i__law_low (.cons (.var 4) (.cons (.var 12) .nil))) (.cst (.int (1)))))) .nil)) (.cons (.ret (.call i__law_trim (.cons (.comp [11, 12] (.bin .Mult (.var 11) (.bin .FloorDiv (.var 4) (.var 12))) (.tup (.cons (.nm 11) (.cons (.nm 12) .nil))) (.seq (.var 5)) .nil) .nil))) .nil)))))
/-- _law_is_multiple, slots f g j -/
def B_law_is_multiple : St := (.cons (.ifs (.cmp .NotEq (.blt .len (.cons (.var 0) .nil)) (.blt .len (.cons (.var 1) .nil))) (.cons (.ret (.cst (.bool false))) .nil) .nil) (.cons (.ret (.blt .all (.cons (.comp [2] (.cmp .Eq (.bin .Mult (.sub (.var 0) (.cst (.int (0)))) (.sub (.var 1) (.var 2))) (.bin .Mult (.sub (.var 0) (.var 2)) (.sub (.var 1) (.cst (.int (0)))))) (.nm 2) (.rng (.cons (.blt .len (.cons (.var 0) .nil)) .nil)) .nil) .nil))) .nil))
/-! slopes -/
def slR : List Rat → List Rat
  | [] => []
  | [_] => []
  | a :: b :: f => a * ((b :: f).length : Rat) :: slR (b :: f)
theorem slR_len : ∀ f : List Rat, (slR f).length = f.length - 1
  | [] => rfl
  | [_] => rfl
  | a :: b :: f => by
    have ih := slR_len (b :: f)
    simp [slR] at ih ⊢
    exact ih
theorem slR_vl (a : Rat) (f : List Rat) (x : Rat) : vl (slR (a :: f)) x = a * (f.length : Rat) * x ^ (f.length - 1) + vl (slR f) x := by
  cases f with
  | nil => show (0 : Rat) = a * ((0 : Nat) : Rat) * _ + 0; rw [show ((0 : Nat) : Rat) = 0 from rfl]; grind
  | cons b f =>
    rw [slR, vl_cons, slR_len]
theorem sqt_slope (r : Rat) : ∀ (f : List Rat) (t : Rat), vl (sqt r f t) r = vl (slR (t :: f)) r
  | [], t => rfl
  | a :: f, t => by
    show vl (t :: sqt r f (t * r + a)) r = _
    rw [vl_cons, sqt_len, sqt_slope r f (t * r + a), slR_vl, slR_vl, slR_vl, List.length_cons, Nat.add_sub_cancel]
    cases f with
    | nil =>
      show _ + ((t * r + a) * ((0 : Nat) : Rat) * _ + _) = t * ((0 + 1 : Nat) : Rat) * _ + (a * ((0 : Nat) : Rat) * _ + _)
      rw [show ((0 : Nat) : Rat) = 0 from rfl, show ((0 + 1 : Nat) : Rat) = 1 from rfl]
      show t * r ^ 0 + _ = t * 1 * r ^ 0 + _
      grind
    | cons b f =>
      rw [List.length_cons, Nat.add_sub_cancel, show ((f.length + 1 + 1 : Nat) : Rat) = ((f.length + 1 : Nat) : Rat) + 1 from by rw [Rat.natCast_add]; rfl, Rat.pow_succ]
      generalize ((f.length + 1 : Nat) : Rat) = n
      generalize r ^ f.length = y
      generalize vl (slR (b :: f)) r = z
      grind
/-- a row's differences -/
theorem diff_of (f : List Rat) (r : Rat) : ∃ s : List Rat, (∀ x, vl f x = (x - r) * vl s x + vl f r) ∧ vl s r = vl (slR f) r := by
  cases f with
  | nil => exact ⟨[], fun x => by simp only [vl_nil]; grind, rfl⟩
  | cons a f => exact ⟨sqt r f a, fun x => sqt_vl r x f a, sqt_slope r f a⟩
/-- what is the same beside one number -/
theorem vl_cancel {f g : List Rat} {r : Rat} (h : ∀ x, (x - r) * vl f x = (x - r) * vl g x) (x : Rat) : vl f x = vl g x := by
  obtain ⟨d, hd⟩ : ∃ d, d = addR f (g.map ((-1) * ·)) := ⟨_, rfl⟩
  have dv : ∀ x, vl d x = vl f x - vl g x := fun x => by rw [hd, addR_vl, vl_scale]; grind
  have dh : HdR d := by rw [hd]; exact HdR_strip _
  have m : mulR [1, -r] d = [] := vl_eq (HdR_mul (fun a h => by cases h; decide) dh) (fun a h => by cases h) fun x => by
    rw [mulR_vl, dv, vl_nil, vl_cons, vl_cons, vl_nil]
    have := h x
    show (1 * x ^ 1 + (-r * x ^ 0 + 0)) * _ = 0
    rw [Rat.pow_zero, show x ^ 1 = x by rw [Rat.pow_succ, Rat.pow_zero, Rat.one_mul]]
    grind
  have dn : d = [] := by
    by_cases z : d = []
    · exact z
    · have := mulR_len (f := [1, -r]) (by simp) z
      have h2 := List.length_pos_iff.mpr z
      rw [m, List.length_nil, List.length_cons, List.length_singleton] at this
      omega
  have := dv x
  rw [dn, vl_nil] at this
  grind
/-- a product's slope -/
theorem slope_mul {f g h : List Rat} (e : ∀ x, vl h x = vl f x * vl g x) (r : Rat) : vl (slR h) r = vl (slR f) r * vl g r + vl f r * vl (slR g) r := by
  obtain ⟨s, s1, s2⟩ := diff_of f r
  obtain ⟨t, t1, t2⟩ := diff_of g r
  obtain ⟨u, u1, u2⟩ := diff_of h r
  have := vl_cancel (f := u) (g := addR (mulR s g) (t.map (vl f r * ·))) (r := r) (fun x => by
    rw [addR_vl, mulR_vl, vl_scale]
    have a1 := u1 x
    have a2 := s1 x
    have a3 := t1 x
    rw [e x, e r] at a1
    grind) r
  rw [addR_vl, mulR_vl, vl_scale, s2, t2, u2] at this
  exact this
def slI (f : List Int) : List Int := (List.range (f.length - 1)).map fun (k : Nat) => f.getD k 0 * ((f.length : Int) - 1 - (k : Int))
theorem slI_cons (a b : Int) (f : List Int) : slI (a :: b :: f) = a * ((b :: f).length : Int) :: slI (b :: f) := by
  unfold slI
  rw [show (a :: b :: f).length - 1 = ((b :: f).length - 1) + 1 by simp, List.range_succ_eq_map, List.map_cons, List.map_map]
  congr 1
  · show a * _ = _
    congr 1
    rw [List.length_cons]; omega
  · refine List.map_congr_left fun k _ => ?_
    show (b :: f).getD k 0 * (((a :: b :: f).length : Int) - 1 - ((k + 1 : Nat) : Int)) = _
    congr 1
    rw [List.length_cons]; omega
theorem toR_slI : ∀ f : List Int, toR (slI f) = slR (toR f)
  | [] => rfl
  | [_] => rfl
  | a :: b :: f => by
    rw [slI_cons]
    show ((a * ((b :: f).length : Int) : Int) : Rat) :: toR (slI (b :: f)) = (a : Rat) * ((toR (b :: f)).length : Rat) :: slR (toR (b :: f))
    rw [toR_slI (b :: f), Rat.intCast_mul, toR_len]
    rfl
theorem slI_len (f : List Int) : (slI f).length = f.length - 1 := by
  unfold slI
  rw [List.length_map, List.length_range]
theorem HdI_sl {f : List Int} (h : HdI f) : HdI (slI f) := by
  cases f with
  | nil => intro a h; cases h
  | cons a f =>
    cases f with
    | nil => intro a h; cases h
    | cons b f =>
      rw [slI_cons]
      intro c hc
      cases hc
      exact Int.mul_ne_zero (h a rfl) (by rw [List.length_cons]; omega)
theorem Sm_sl {B : Nat} {f : List Int} (h : Sm B f) (lf : f.length ≤ 500) : Sm (B + 9) (slI f) := by
  intro a ha
  obtain ⟨k, hk, rfl⟩ := List.mem_map.mp ha
  rw [List.mem_range] at hk
  have h1 := h _ (getD_mem (f := f) (k := k) (by omega))
  exact lt_mul h1 (by omega)
theorem slope_mulI {f g : List Int} (hf : HdI f) (hg : HdI g) : slI (mulI f g) = addI (mulI (slI f) g) (mulI f (slI g)) := by
  refine toR_inj (vl_eq (HdR_toR (HdI_sl (HdI_mul hf hg))) (HdR_toR (HdI_add _ _)) fun x => ?_)
  rw [toR_slI, addI_vl, mulI_vl, mulI_vl, toR_slI, toR_slI]
  exact slope_mul (fun x => mulI_vl f g x) x
section
variable {E : En} {w : W} {o o1 o2 : Option IV} {f g : List Int} {i j k : Nat}
theorem enum_iM (l : List Int) : enumD 0 (iM l) = (List.range l.length).map fun (k : Nat) => .tuple [.int (k : Int), .int (l.getD k 0)] := by
  refine List.ext_getElem? fun k => ?_
  by_cases h : k < l.length
  · rw [List.getElem?_map, List.getElem?_range h]
    have : ∃ z, (enumD 0 (iM l))[k]? = some z := ⟨_, List.getElem?_eq_getElem (by rw [enumD_len, iM_len]; exact h)⟩
    obtain ⟨z, hz⟩ := this
    rw [hz]
    obtain ⟨a, ha, rfl⟩ := enum_get hz
    show some (PyData.tuple [.int (k : Int), .int a]) = some (.tuple [.int (k : Int), .int (l.getD k 0)])
    rw [List.getD_eq_getElem?_getD, ha]
    rfl
  · rw [List.getElem?_eq_none (by rw [enumD_len, iM_len]; omega), List.getElem?_eq_none (by rw [List.length_map, List.length_range]; omega)]
theorem sl_init {f : List Int} : slD (iT f) none (some (-1)) = some (iT f.dropLast) := by
  show some (PyData.tuple (cut (iM f) none (some (-1)))) = _
  have c : clip (iM f).length (iM f).length (some (-1)) = f.length - 1 := by
    rw [iM_len]
    show (if (-1 : Int) < 0 then (if -1 + (f.length : Int) < 0 then 0 else (-1 + (f.length : Int)).toNat) else (if (f.length : Int) < -1 then f.length else (-1 : Int).toNat)) = _
    rw [if_pos (by decide)]
    split <;> omega
  unfold cut
  rw [c]
  show some (PyData.tuple ((iM f).take (f.length - 1 - 0))) = some (.tuple (iM f.dropLast))
  unfold iM
  rw [← List.map_take, List.dropLast_eq_take]
  rfl
theorem slope_of_ok {B : Nat} (hf : Sm B f) (hB : B ≤ 8000) (lf : f.length ≤ 400) : fin w.length (evS E B_slope_of [some (.d (iT f)), o, o1] w) = .ok (.d (iT (slI f))) w := by
  refine Ret.eq (X := fun _ _ _ => False) ?_ (fun _ _ _ h => h)
  have e : compL (elF (isNil .nil) (.tup (.cons (.nm 1) (.cons (.nm 2) .nil))) (ev E .nil) (ev E (.bin .Mult (.var 2) (.bin .Sub (.bin .Sub (.blt .len (.cons (.var 0) .nil)) (.cst (.int (1)))) (.var 1)))) (wip [some (.d (iT f)), o, o1] [1, 2])) (enumD 0 (iM f.dropLast)) w = .ok (iM (slI f)) w := by
    rw [enum_iM, compL_of (k := fun k => PyData.int (f.getD k 0 * ((f.length : Int) - 1 - (k : Int))))]
    · unfold slI iM
      rw [List.map_map, List.length_dropLast]; rfl
    · intro k hk
      rw [List.mem_range, List.length_dropLast] at hk
      have : f.dropLast.getD k 0 = f.getD k 0 := by
        rw [List.getD_eq_getElem?_getD, List.getElem?_dropLast, if_pos hk, List.getD_eq_getElem?_getD]
      rw [this]
      have o1 : okI (f.getD k 0) = true := okI_of hf hB (getD_mem (by omega))
      have o2 : okI ((f.length : Int) - 1 - (k : Int)) = true := okI_pow (m := 10) (by omega) (by decide)
      refine Ret.eq (X := fun _ _ _ => False) ?_ (fun _ _ _ h => h)
      rw [show isNil .nil = true from rfl, Ret_elT]
      generalize f.getD k 0 = a at o1 ⊢
      simp [wip, len_iT, o1, o2]
  have okl : okL (enumD 0 (iM f.dropLast)).length = true := by
    rw [enumD_len, iM_len, List.length_dropLast]
    exact decide_eq_true (by omega)
  unfold B_slope_of
  simp [sl_init, show itemsD (iT f.dropLast) = some (iM f.dropLast) from rfl, okl, e, tupl_iT, take_len]
theorem slope_ok (h1 : E.Φ i [.d (iT f)] w = .ok (.d .none) w) (h2 : E.Φ j [.d (iT f)] w = .ok (.d (iT g)) w) : fin w.length (evS E (B_slope i j) [some (.d (iT f))] w) = .ok (.d (iT g)) w := by
  refine Ret.eq (X := fun _ _ _ => False) ?_ (fun _ _ _ h => h)
  unfold B_slope
  simp [h1, h2, take_len]
theorem law_slope_ok {B : Nat} (hf : Sm B f) (hB : B ≤ 8000) (lf : f.length ≤ 400) : fin w.length (evS E B_law_slope [some (.d (iT f)), o, o1] w) = .ok (.d (iT (slI f))) w := by
  refine Ret.eq (X := fun _ _ _ => False) ?_ (fun _ _ _ h => h)
  unfold B_law_slope
  rw [Ret_fin, RetS_cons]
  refine RetS.nx (M := fun σ w' => w' = w ∧ σ = [some (.d (iT f)), some (.d (.int ((f.length : Int) - 1))), o1]) ?_ ?_
  · simp [len_iT]
  rintro σ w' ⟨rfl, rfl⟩
  by_cases h : 1 < f.length
  · have e : compL (elF (isNil .nil) (.nm 2) (ev E .nil) (ev E (.bin .Mult (.sub (.var 0) (.var 2)) (.bin .Sub (.var 1) (.var 2)))) (wip [some (.d (iT f)), some (.d (.int ((f.length : Int) - 1))), o1] [2])) ((List.range (f.length - 1)).map fun (k : Nat) => .int (k : Int)) w' = .ok (iM (slI f)) w' := by
      rw [compL_of (k := fun k => PyData.int (f.getD k 0 * ((f.length : Int) - 1 - (k : Int))))]
      · unfold slI iM
        rw [List.map_map]; rfl
      · intro k hk
        rw [List.mem_range] at hk
        have o1 : okI (f.getD k 0) = true := okI_of hf hB (getD_mem (by omega))
        have o2 : okI ((f.length : Int) - 1 - (k : Int)) = true := okI_pow (m := 10) (by omega) (by decide)
        have sb := iT_sub (f := f) (k := k) (by omega)
        refine Ret.eq (X := fun _ _ _ => False) ?_ (fun _ _ _ h => h)
        rw [show isNil .nil = true from rfl, Ret_elT]
        generalize f.getD k 0 = a at o1 sb ⊢
        simp [wip, len_iT, o1, o2, sb]
    have r := rng_nat (n := f.length - 1) (by omega)
    rw [show ((f.length - 1 : Nat) : Int) = (f.length : Int) - 1 by omega] at r
    have okl : okL (f.length - 1) = true := decide_eq_true (by omega)
    have g1 : (1 : Int) < (f.length : Int) := by omega
    simp [g1, r, okl, e, tupl_iT, take_len]
  · have : slI f = [] := List.eq_nil_of_length_eq_zero (by rw [slI_len]; omega)
    rw [this]
    have g1 : ¬ (1 : Int) < (f.length : Int) := by omega
    have okl : okL 0 = true := rfl
    simp [g1, okl, take_len]
    first | rfl | (refine ⟨?_, ?_⟩ <;> first | rfl | omega)
end
end Pv

/-! Part Sb: one polynomial inside another; sums and products of rows of numbers by the program; rows moved. -/
namespace Pv
open PySem
/-! inside -/
def one_ (a : Int) : List Int := if a = 0 then [] else [a]
def insI (g : List Int) : List Int → List Int → List Int
  | [], acc => acc
  | a :: f, acc => insI g f (addI (mulI acc g) (one_ a))
theorem one_vl (a : Int) (x : Rat) : vl (toR (one_ a)) x = (a : Rat) := by
  unfold one_
  split
  · rename_i h
    subst h
    rfl
  · show vl [(a : Rat)] x = _
    rw [vl_cons, vl_nil]
    show (a : Rat) * x ^ 0 + 0 = _
    rw [Rat.pow_zero]; grind
theorem one_len (a : Int) : (one_ a).length ≤ 1 := by
  unfold one_
  split <;> simp
theorem one_Sm {B : Nat} {a : Int} (h : a.natAbs < 2 ^ B) : Sm B (one_ a) := by
  unfold one_
  split
  · intro b hb; cases hb
  · intro b hb
    rw [List.mem_singleton.mp hb]; exact h
theorem one_Hd (a : Int) : HdI (one_ a) := by
  unfold one_
  split
  · intro b h; cases h
  · rename_i h
    intro b hb
    cases hb
    exact h
theorem insI_vl (g : List Int) (x : Rat) : ∀ (f acc : List Int), vl (toR (insI g f acc)) x = vl (toR acc) x * vl (toR g) x ^ f.length + vl (toR f) (vl (toR g) x)
  | [], acc => by
    show vl (toR acc) x = _ * _ ^ 0 + vl [] _
    rw [Rat.pow_zero, vl_nil]; grind
  | a :: f, acc => by
    rw [insI, insI_vl g x f, addI_vl, mulI_vl, one_vl]
    show _ = _ * _ ^ (f.length + 1) + vl ((a : Rat) :: toR f) _
    rw [vl_cons, toR_len, Rat.pow_succ]; grind
theorem HdI_ins (g : List Int) : ∀ (f acc : List Int), HdI acc → HdI (insI g f acc)
  | [], _, h => h
  | _ :: f, _, _ => HdI_ins g f _ (HdI_add _ _)
theorem ins_step {B C k : Nat} {g acc : List Int} {a : Int} (hg : Sm C g) (ha : a.natAbs < 2 ^ B) (h : Sm (B + k * (C + 10)) acc) (hl : acc.length ≤ 1 + k * g.length) (l4 : acc.length ≤ 400) :
    Sm (B + (k + 1) * (C + 10)) (addI (mulI acc g) (one_ a)) ∧ (addI (mulI acc g) (one_ a)).length ≤ 1 + (k + 1) * g.length := by
  constructor
  · have h1 := Sm_mul h hg l4
    have h2 := one_Sm ha
    have h3 := Sm_add h1 (h2.mono (show B ≤ B + k * (C + 10) + C + 9 by omega))
    refine h3.mono ?_
    rw [Nat.add_mul]; omega
  · have := add_len (mulI acc g) (one_ a)
    have := mul_len acc g
    have := one_len a
    rw [Nat.add_mul]; omega
section
variable {E : En} {w : W} {o o1 o2 o3 o4 : Option IV} {f g : List Int} {i j k : Nat}
theorem ite_one {σ : Sl} {s : Nat} {a : Int} (hs : slot σ s = some (.d (.int a))) : ev E (.ite (.cmp .NotEq (.var s) (.cst (.int (0)))) (.tup (.cons (.var s) .nil)) (.tup .nil)) σ w = .ok (.d (iT (one_ a))) w := by
  refine Ret.eq (X := fun _ _ _ => False) ?_ (fun _ _ _ h => h)
  unfold one_
  by_cases h : a = 0 <;> simp [hs, h, okL] <;> rfl
theorem inside_ok {B C : Nat} (hf : Sm B f) (hg : Sm C g) (lf : f.length ≤ 20) (lg : g.length ≤ 10) (hB : B ≤ 500) (hC : C ≤ 300)
    (h1 : E.Φ i [.d (iT f)] w = .ok (.d .none) w) (h2 : E.Φ i [.d (iT g)] w = .ok (.d .none) w)
    (hs : ∀ (a b : List Int) (w : W), a.length ≤ 500 → b.length ≤ 500 → E.Φ j [.d (iT a), .d (iT b)] w = .ok (.d (iT (addI a b))) w)
    (ht : ∀ (a : List Int) (w : W), Sm 8000 a → a.length ≤ 400 → E.Φ k [.d (iT a), .d (iT g)] w = .ok (.d (iT (mulI a g))) w) :
    fin w.length (evS E (B_inside i j k) [some (.d (iT f)), some (.d (iT g)), o, o1] w) = .ok (.d (iT (insI g f []))) w ∧ Sm (B + f.length * (C + 10)) (insI g f []) ∧ (insI g f []).length ≤ 1 + f.length * g.length := by
  suffices q : Ret (fun v w' => (v = .d (iT (insI g f [])) ∧ w' = w) ∧ Sm (B + f.length * (C + 10)) (insI g f []) ∧ (insI g f []).length ≤ 1 + f.length * g.length) (fun _ _ _ => False) (fin w.length (evS E (B_inside i j k) [some (.d (iT f)), some (.d (iT g)), o, o1] w)) by
    cases hr : fin w.length (evS E (B_inside i j k) [some (.d (iT f)), some (.d (iT g)), o, o1] w) with
    | ok v w1 =>
      rw [hr] at q
      obtain ⟨⟨rfl, rfl⟩, q2⟩ := q
      exact ⟨rfl, q2⟩
    | exc _ _ _ => rw [hr] at q; exact q.elim
    | no => rw [hr] at q; exact q.elim
  unfold B_inside
  rw [Ret_fin, RetS_cons]
  refine RetS.nx (M := fun σ w' => w' = w ∧ σ = [some (.d (iT f)), some (.d (iT g)), o, o1]) ?_ ?_
  · simp [h1]
  rintro σ w' ⟨rfl, rfl⟩
  rw [RetS_cons]
  refine RetS.nx (M := fun σ w => w = w' ∧ σ = [some (.d (iT f)), some (.d (iT g)), o, o1]) ?_ ?_
  · simp [h2]
  rintro σ w ⟨rfl, rfl⟩
  rw [RetS_cons]
  refine RetS.nx (M := fun σ w' => w' = w ∧ σ = [some (.d (iT f)), some (.d (iT g)), some (.d (iT [])), o1]) ?_ ?_
  · simp [okL]; rfl
  rintro σ w' ⟨rfl, rfl⟩
  rw [RetS_cons]
  refine RetS.nx (M := fun σ w => w = w' ∧ (Sm (B + f.length * (C + 10)) (insI g f []) ∧ (insI g f []).length ≤ 1 + f.length * g.length) ∧ ∃ x, σ = [some (.d (iT f)), some (.d (iT g)), some (.d (iT (insI g f []))), x]) ?_ ?_
  · rw [RetS_for, Ret_seq]
    simp only [ev_var, Ret_ofO, slot_cons0, OptP_some, toIt_iT, forP_dat]
    refine ⟨decide_eq_true (by rw [iM_len]; omega), ?_⟩
    refine forL_inv (fun k σ w => w = w' ∧ ∃ acc x, insI g (f.drop k) acc = insI g f [] ∧ Sm (B + k * (C + 10)) acc ∧ acc.length ≤ 1 + k * g.length ∧ σ = [some (.d (iT f)), some (.d (iT g)), some (.d (iT acc)), x]) ⟨rfl, [], _, rfl, (fun a h => by cases h), by simp, rfl⟩ ?_ ?_
    · rintro k z σ w hz ⟨rfl, acc, x, he, hS, hl, rfl⟩
      obtain ⟨a, ha, rfl⟩ := List.mem_map.mp (List.mem_of_getElem? hz)
      have hk : k < f.length := by
        have := (List.getElem?_eq_some_iff.mp hz).1
        simpa using this
      have ea : f.getD k 0 = a := by
        rw [iM_get hk] at hz
        cases hz; rfl
      have kl : k * g.length ≤ 20 * 10 := Nat.mul_le_mul (by omega) lg
      have kc : k * (C + 10) ≤ 20 * 310 := Nat.mul_le_mul (by omega) (by omega)
      obtain ⟨s1, s2⟩ := ins_step hg (hf a ha) hS hl (by omega)
      have c1 := ht acc w (hS.mono (by omega)) (by omega)
      have l1 := mul_len acc g
      have l2 := one_len a
      have c2 := hs (mulI acc g) (one_ a) w (by omega) (by omega)
      rw [RetS_body]
      simp only [asg_nm, OptP_some, List.set_cons_succ, List.set_cons_zero, RetS_cons, evS_asgN, RetS_onE, ev_call, Ret_bind, evA_cons, evA_nil, ev_var, Ret_ofO, slot_cons0, slot_cons, Ret_ok, c1]
      rw [ite_one (a := a) rfl]
      simp only [Ret_ok, c2, RetS_mk, sq_next, evS_nil, loopK_next, List.set_cons_succ, List.set_cons_zero]
      refine ⟨trivial, _, _, ?_, s1, s2, rfl⟩
      rw [← he, drop_get hk, ea]; rfl
    · rintro σ w ⟨rfl, acc, x, he, hS, hl, rfl⟩
      rw [iM_len] at he hS hl
      rw [List.drop_length] at he
      rw [← he]
      exact ⟨rfl, ⟨hS, hl⟩, x, rfl⟩
  rintro σ w ⟨rfl, h, x, rfl⟩
  simp [take_len]
  exact h
end
/-! sums and products -/
section
variable {E : En} {w : W} {o o1 o2 o3 o4 : Option IV} {f g : List Rat} {i j k z : Nat}
theorem ne_unitR {f : List Rat} : cmpD .NotEq (rT f) (.tuple []) = some (!f.isEmpty) := by
  show (if okD (.tuple (rM f)) && okD (.tuple []) then some (!PyData.eqv (.tuple (rM f)) (.tuple [])) else none) = _
  rw [okD_nums (all_nums f)]
  cases f <;> simp [rM, PyData.eqv, PyData.eqvAll, okD, PyData.plain, PyData.plainAll, PyData.depth, PyData.depthAll]
theorem padded_num {n : Nat} (h1 : f.length ≤ n) (h2 : n ≤ 1000) : fin w.length (evS E B_padded [some (.d (rT f)), some (.d (.int (n : Int))), some (.d (.tuple [.int 0, .int 1]))] w) = .ok (.d (rT (padR n f))) w := by
  show fin w.length (evS E B_padded [some (.d (.tuple (rM f))), some (.d (.int (n : Int))), some (.d (.tuple [.int 0, .int 1]))] w) = _
  rw [padded_ok (xs := rM f) (.inr rfl) (by rw [rM_len]; exact h1) h2]
  unfold padR rT
  congr 3
  unfold rM
  rw [List.map_append, List.map_replicate, List.length_map, nD_zero]
theorem broken_plus_ok (lf : f.length ≤ 400) (lg : g.length ≤ 400) (hf : bR f) (hg : bR g) (hz : E.G z = some (.tuple [.int 0, .int 1]))
    (hs : ∀ (h : List Rat) (w : W), h.length ≤ 1000 → E.Φ i [.d (.list (rM h)), .d (.tuple [.int 0, .int 1])] w = .ok (.d (rT (strip h))) w)
    (hp : ∀ (h : List Rat) (n : Nat) (w : W), h.length ≤ n → n ≤ 1000 → E.Φ j [.d (rT h), .d (.int (n : Int)), .d (.tuple [.int 0, .int 1])] w = .ok (.d (rT (padR n h))) w)
    (ha : ∀ (r s : Rat) (w : W), Bd 4000 r → Bd 4000 s → E.Φ k [.d (nD r), .d (nD s)] w = .ok (.d (nD (r + s))) w) :
    fin w.length (evS E (B_broken_plus i j z k) [some (.d (rT f)), some (.d (rT g)), o, o1, o2] w) = .ok (.d (rT (addR f g))) w := by
  refine Ret.eq (X := fun _ _ _ => False) ?_ (fun _ _ _ h => h)
  have mx : bltD .max [.int (f.length : Int), .int (g.length : Int)] = some (.int ((max f.length g.length : Nat) : Int)) := by
    show some (PyData.int (if (g.length : Int) > f.length then g.length else f.length)) = _
    congr 2
    split <;> omega
  have pf := hp f (max f.length g.length) w (by omega) (by omega)
  have pg := hp g (max f.length g.length) w (by omega) (by omega)
  have sc := sumR_comp (E := E) (w := w) (f := padR (max f.length g.length) f) (g := padR (max f.length g.length) g) (x := 3) (y := 4) (ip := k) (σ := wip [some (.d (rT f)), some (.d (rT g)), some (.d (.int ((max f.length g.length : Nat) : Int))), o1, o2] [3, 4]) (by simp [wip]) (by simp [wip]) (by decide) (bR_pad hf) (bR_pad hg) ha
  have zl : okL (zipD (rM (padR (max f.length g.length) f)) (rM (padR (max f.length g.length) g))).length = true := by
    rw [zipD_len, rM_len, rM_len, padR_len (by omega), padR_len (by omega)]
    exact decide_eq_true (by omega)
  have st := hs (List.zipWith (· + ·) (padR (max f.length g.length) f) (padR (max f.length g.length) g)) w (by rw [List.length_zipWith, padR_len (by omega), padR_len (by omega)]; omega)
  have zp : ∀ {a b : List Rat} {p : List D → Prop}, ZipP (.d (rT a)) (.d (rT b)) p = p (zipD (rM a) (rM b)) := rfl
  unfold B_broken_plus
  simp only [Ret_fin, RetS_cons, evS_asgN, RetS_onE, Ret_blt, evA_cons, evA_nil, Ret_bind, ev_var, ev_glob, hz, Option.map_some, Ret_ofO, slot_cons0, slot_cons, OptP_some, rdAll_cons, rdAll_nil, rd_d, Option.bind_some, len_rT, mx, Ret_ok, RetS_mk, sq_next, List.set_cons_succ, List.set_cons_zero, evS_ret, ev_call, Ret_comp, Ret_zp, pf, pg, zp, compP_dat, zl, true_and, sc, st, sq_ret, finK_d, take_len, and_self, and_true]
  rfl
theorem broken_times_ok {Q : Int} {P : Nat} (hQ : Q ≠ 0) (hQ2 : Q.natAbs < 2 ^ 4000) (hP : ∀ a ∈ f, ∀ b ∈ g, isN Q P (a * b)) (hPs : f.length * P < 2 ^ 4000) (hf : bR f) (hg : bR g) (lf : f.length ≤ 400) (lg : g.length ≤ 400) (hz : E.G z = some (.tuple [.int 0, .int 1]))
    (ha : ∀ (r s : Rat) (w : W), Bd 4000 r → Bd 4000 s → E.Φ i [.d (nD r), .d (nD s)] w = .ok (.d (nD (r + s))) w)
    (hm : ∀ (r s : Rat) (w : W), Bd 4000 r → Bd 4000 s → E.Φ j [.d (nD r), .d (nD s)] w = .ok (.d (nD (r * s))) w) :
    fin w.length (evS E (B_broken_times z i j) [some (.d (rT f)), some (.d (rT g)), o, o1, o2, o3, o4] w) = .ok (.d (rT (mulR f g))) w := by
  refine Ret.eq (X := fun _ _ _ => False) ?_ (fun _ _ _ h => h)
  have mx : bltD .max [.int 0, .int ((f.length : Int) + g.length - 1)] = some (.int ((f.length + g.length - 1 : Nat) : Int)) := by
    show some (PyData.int (if (f.length : Int) + g.length - 1 > 0 then _ else _)) = _
    congr 2
    split <;> omega
  have okl : ∀ k : Nat, k ≤ 1000 → okL k = true := fun k h => decide_eq_true (by omega)
  have tk : ∀ c : Cell, (w ++ [c]).take w.length = w := fun c => by rw [List.take_append_of_le_length (Nat.le_refl _), List.take_length]
  unfold B_broken_times
  simp only [Ret_fin, RetS_cons, evS_asgN, RetS_onE, ev_new, Ret_bind, Ret_bin, Ret_lst, Ret_blt, evA_cons, evA_nil, ev_cst, ev_var, ev_glob, hz, Option.map_some, Ret_ok, Ret_ofO, slot_cons0, slot_cons, purs_cons, purs_nil, OptP_some, List.length_cons, List.length_nil, okl (0 + 1) (by omega), true_and, rdAll_cons, rdAll_nil, rd_d, Option.bind_some, len_rT, add_ii, sub_ii, mx, mul_li, OptP_if]
  rw [if_pos (by simp; omega)]
  have tn : ((f.length + g.length - 1 : Nat) : Int).toNat = f.length + g.length - 1 := by omega
  simp only [Ret_ok, newW_l, RetS_mk, sq_next, tn, repR_zero]
  obtain ⟨zs, hzs⟩ : ∃ zs : List Rat, zs = List.replicate (f.length + g.length - 1) 0 := ⟨_, rfl⟩
  have zl : zs.length = f.length + g.length - 1 := by rw [hzs, List.length_replicate]
  have zN : aN Q (0 * P) zs := aN_mem.mpr fun r hr => by
    rw [hzs] at hr
    rw [List.eq_of_mem_replicate hr]; exact isN_zero
  rw [← hzs]
  have PB : ∀ a ∈ f, ∀ b ∈ g, Bd 4000 (a * b) := fun a h1 b h2 => (hP a h1 b h2).bd hQ (Nat.lt_of_le_of_lt (Nat.le_mul_of_pos_left P (List.length_pos_of_mem h1)) hPs) hQ2
  have kB : ∀ k, k < f.length → k * P + P < 2 ^ 4000 := fun k hk => by
    refine Nat.lt_of_le_of_lt ?_ hPs
    rw [← Nat.succ_mul]
    exact Nat.mul_le_mul_right P hk
  have mem : ∀ {l : List Rat} {k : Nat}, k < l.length → l.getD k 0 ∈ l := fun {l k} h => by
    rw [List.getD_eq_getElem?_getD, List.getElem?_eq_getElem h]
    exact List.getElem_mem h
  refine RetS.nx (M := fun σ w' => ∃ x3 x4 x5 x6, w' = w ++ [.lst (rM (outR g f 0 zs))] ∧ σ = [some (.d (rT f)), some (.d (rT g)), some (.ref w.length), x3, x4, x5, x6]) ?_ ?_
  · rw [RetS_for, Ret_enm]
    simp only [ev_var, Ret_ofO, List.set_cons_succ, List.set_cons_zero, slot_cons0, OptP_some, DatP_d, show itemsD (rT f) = some (rM f) from rfl, forP_dat]
    refine ⟨by rw [enumD_len, rM_len]; exact okl _ (by omega), ?_⟩
    refine forL_inv (fun k σ w' => ∃ acc x3 x4 x5 x6, w' = w ++ [.lst (rM acc)] ∧ acc.length = f.length + g.length - 1 ∧ outR g (f.drop k) k acc = outR g f 0 zs ∧ aN Q (k * P) acc ∧ σ = [some (.d (rT f)), some (.d (rT g)), some (.ref w.length), x3, x4, x5, x6]) ⟨zs, _, _, _, _, rfl, zl, rfl, zN, rfl⟩ ?_ ?_
    · rintro k z σ w' hz ⟨acc, x3, x4, x5, x6, rfl, al, he, hN, rfl⟩
      obtain ⟨hkf, rfl⟩ := enumR_get hz
      have kb := kB k hkf
      rw [RetS_body]
      simp only [asg_tup, asgs_cons, asg_nm, asgs_nil, Option.bind_some, OptP_some, List.set_cons_succ, List.set_cons_zero]
      rw [RetS_cons]
      refine RetS.nx (M := fun σ w' => ∃ x5 x6, w' = w ++ [.lst (rM (innR k (f.getD k 0) g 0 acc))] ∧ σ = [some (.d (rT f)), some (.d (rT g)), some (.ref w.length), some (.d (.int (k : Int))), some (.d (nD (f.getD k 0))), x5, x6]) ?_ ?_
      · rw [RetS_for, Ret_enm]
        simp only [ev_var, Ret_ofO, slot_cons0, slot_cons, OptP_some, DatP_d, show itemsD (rT g) = some (rM g) from rfl, forP_dat]
        refine ⟨by rw [enumD_len, rM_len]; exact okl _ (by omega), ?_⟩
        refine forL_inv (fun p σ w' => ∃ ac x5 x6, w' = w ++ [.lst (rM ac)] ∧ ac.length = f.length + g.length - 1 ∧ innR k (f.getD k 0) (g.drop p) p ac = innR k (f.getD k 0) g 0 acc ∧ aN Q (k * P + P) ac ∧ (∀ i, k + p ≤ i → isN Q (k * P) (ac.getD i 0)) ∧ σ = [some (.d (rT f)), some (.d (rT g)), some (.ref w.length), some (.d (.int (k : Int))), some (.d (nD (f.getD k 0))), x5, x6])
          ⟨acc, _, _, rfl, al, rfl, hN.mono (by omega), fun i _ => hN i, rfl⟩ ?_ ?_
        · rintro p z σ w' hz ⟨ac, x5, x6, rfl, acl, hi, s1, s2, rfl⟩
          obtain ⟨hpg, rfl⟩ := enumR_get hz
          rw [RetS_body]
          simp only [asg_tup, asgs_cons, asg_nm, asgs_nil, Option.bind_some, OptP_some, List.set_cons_succ, List.set_cons_zero, RetS_cons]
          have kp : k + p < ac.length := by omega
          have su := rL_sub (f := ac) kp
          rw [Int.natCast_add] at su
          have mf := mem hkf
          have mg := mem hpg
          have eB : Bd 4000 (ac.getD (k + p) 0) := (s1 (k + p)).bd hQ kb hQ2
          have pN := hP _ mf _ mg
          have pB := PB _ mf _ mg
          have fB := hf _ mf
          have gB := hg _ mg
          rw [stix_any (m := w.length) (k := k) (p := p) (v := nD (ac.getD (k + p) 0 + f.getD k 0 * g.getD p 0)) (acc := rM ac) rfl rfl rfl last_get (by rw [rM_len]; exact kp) (by
            refine Ret.eq (X := fun _ _ _ => False) ?_ (fun _ _ _ h => h)
            generalize ac.getD (k + p) 0 = u at su eB ⊢
            generalize f.getD k 0 = a at fB pB ⊢
            generalize g.getD p 0 = b at gB pB ⊢
            simp [su, hm _ _ _ fB gB, ha _ _ _ eB pB]), last_set, rM_set]
          simp only [sq_next, evS_nil, RetS_mk, loopK_next]
          obtain ⟨t1, t2⟩ := aN_set s1 (j := k + p) s2 pN
          exact ⟨_, _, _, rfl, by rw [List.length_set]; exact acl, by rw [← hi, dropR_get hpg]; rfl, t1, fun i hi => t2 i (by omega), rfl⟩
        · rintro σ w' ⟨ac, x5, x6, rfl, acl, hi, s1, s2, rfl⟩
          rw [enumD_len, rM_len, List.drop_length] at hi
          exact ⟨x5, x6, by rw [← hi]; rfl, rfl⟩
      · rintro σ w' ⟨x5, x6, rfl, rfl⟩
        refine ⟨_, _, _, _, _, rfl, by rw [innR_len]; exact al, by rw [← he, dropR_get hkf]; rfl, ?_, rfl⟩
        rw [Nat.succ_mul]
        exact innR_N g 0 acc (hP _ (mem hkf)) (hN.mono (by omega)) (fun i _ => hN i)
    · rintro σ w' ⟨acc, x3, x4, x5, x6, rfl, al, he, hN, rfl⟩
      rw [enumD_len, rM_len, List.drop_length] at he
      exact ⟨x3, x4, x5, x6, by rw [← he]; rfl, rfl⟩
  · rintro σ w' ⟨x3, x4, x5, x6, rfl, rfl⟩
    have el : okL 0 = true := rfl
    by_cases hfe : f = []
    · have : mulR f g = [] := by rw [hfe]; rfl
      rw [this]
      simp [ne_unitR, hfe, el, tk]; rfl
    by_cases hge : g = []
    · have : mulR f g = [] := by unfold mulR; rw [hge]; simp
      rw [this]
      simp [ne_unitR, hfe, hge, el, tk]; rfl
    · have m : mulR f g = outR g f 0 zs := by
        rw [hzs]
        cases f with
        | nil => exact absurd rfl hfe
        | cons => cases g with
          | nil => exact absurd rfl hge
          | cons => rfl
      rw [m]
      simp [ne_unitR, hfe, hge, el, tk, tupl_rT]
end
end Pv

/-! Part Sc: rows moved by the program; rows made whole. -/
namespace Pv
open PySem
theorem isN.mul {Q R : Int} {M P : Nat} {r s : Rat} (h : isN Q M r) (g : isN R P s) : isN (Q * R) (M * P) (r * s) := by
  obtain ⟨N, h1, h2⟩ := h
  obtain ⟨K, g1, g2⟩ := g
  refine ⟨N * K, ?_, ?_⟩
  · rw [Rat.intCast_mul, Rat.intCast_mul, ← h1, ← g1]; grind
  · rw [Int.natAbs_mul]; exact Nat.mul_le_mul h2 g2
theorem addR_N {Q : Int} {M P : Nat} {f g : List Rat} (hf : aN Q M f) (hg : aN Q P g) : aN Q (M + P) (addR f g) := by
  unfold addR
  refine aN_strip (aN_mem.mpr fun r hr => ?_)
  have pad : ∀ {n M} {h : List Rat}, aN Q M h → aN Q M (padR n h) := fun {n M h} hh => aN_mem.mpr fun s hs => by
    rcases List.mem_append.mp hs with q | q
    · rw [List.eq_of_mem_replicate q]; exact isN_zero
    · exact aN_mem.mp hh s q
  obtain ⟨j, hj⟩ := List.mem_iff_getElem?.mp hr
  rw [List.getElem?_zipWith] at hj
  have h1 := (pad (n := max f.length g.length) hf) j
  have h2 := (pad (n := max f.length g.length) hg) j
  rw [List.getD_eq_getElem?_getD] at h1 h2
  cases e1 : (padR (max f.length g.length) f)[j]? with
  | none => rw [e1] at hj; cases hj
  | some a =>
    cases e2 : (padR (max f.length g.length) g)[j]? with
    | none => rw [e1, e2] at hj; cases hj
    | some b =>
      rw [e1, e2] at hj
      cases hj
      rw [e1] at h1
      rw [e2] at h2
      exact h1.add h2
theorem mulR_len_sub (f g : List Rat) : (mulR f g).length ≤ f.length + g.length - 1 := by
  by_cases hf : f = []
  · rw [hf]; simp [mulR]
  by_cases hg : g = []
  · rw [hg]; simp [mulR]
  rw [mulR_len hf hg]; omega
def oneR (a : Int) : List Rat := if a = 0 then [] else [(a : Rat)]
theorem oneR_vl (a : Int) (x : Rat) : vl (oneR a) x = (a : Rat) := by
  unfold oneR
  split
  · rename_i h
    subst h
    rfl
  · rw [vl_cons, vl_nil]
    show (a : Rat) * x ^ 0 + 0 = _
    rw [Rat.pow_zero]; grind
theorem oneR_len (a : Int) : (oneR a).length ≤ 1 := by
  unfold oneR
  split <;> simp
theorem oneR_N {M : Nat} {a : Int} (h : a.natAbs ≤ M) : aN 1 M (oneR a) := by
  refine aN_mem.mpr fun r hr => ?_
  unfold oneR at hr
  split at hr
  · cases hr
  · rw [List.mem_singleton.mp hr]; exact isN_int a h
def mvR (b : List Rat) : List Int → List Rat → List Rat
  | [], acc => acc
  | a :: f, acc => mvR b f (addR (mulR acc b) (oneR a))
theorem mvR_vl (b : List Rat) (x : Rat) : ∀ (f : List Int) (acc : List Rat), vl (mvR b f acc) x = vl acc x * vl b x ^ f.length + vl (toR f) (vl b x)
  | [], acc => by
    show vl acc x = _ * _ ^ 0 + vl [] _
    rw [Rat.pow_zero, vl_nil]; grind
  | a :: f, acc => by
    rw [mvR, mvR_vl b x f, addR_vl, mulR_vl, oneR_vl]
    show _ = _ * _ ^ (f.length + 1) + vl ((a : Rat) :: toR f) _
    rw [vl_cons, toR_len, Rat.pow_succ]; grind
theorem HdR_mv (b : List Rat) : ∀ (f : List Int) (acc : List Rat), HdR acc → HdR (mvR b f acc)
  | [], _, h => h
  | _ :: f, _, _ => HdR_mv b f _ (HdR_strip _)
theorem mv_step {A t k : Nat} {C : Int} {p q : Rat} {acc : List Rat} {a : Int} (hp : isN C (2 ^ t) p) (hq : isN C (2 ^ t) q) (hC : C.natAbs ≤ 2 ^ t) (ha : a.natAbs ≤ 2 ^ A) (h : aN (C ^ k) (2 ^ (A + k * (t + 6))) acc) (hl : acc.length ≤ k) (hk : k ≤ 20) :
    (∀ x ∈ acc, ∀ y ∈ [p, q], isN (C ^ (k + 1)) (2 ^ (A + k * (t + 6) + t)) (x * y)) ∧ aN (C ^ (k + 1)) (2 ^ (A + k * (t + 6) + t + 5)) (mulR acc [p, q]) ∧
    aN (C ^ (k + 1)) (2 ^ (A + (k + 1) * (t + 6))) (addR (mulR acc [p, q]) (oneR a)) ∧ (addR (mulR acc [p, q]) (oneR a)).length ≤ k + 1 := by
  have h1 : ∀ x ∈ acc, ∀ y ∈ [p, q], isN (C ^ (k + 1)) (2 ^ (A + k * (t + 6) + t)) (x * y) := fun x hx y hy => by
    rw [Int.pow_succ, Nat.pow_add 2 (A + k * (t + 6)) t]
    refine (aN_mem.mp h x hx).mul ?_
    simp only [List.mem_cons, List.not_mem_nil, or_false] at hy
    rcases hy with rfl | rfl <;> assumption
  have h2 : aN (C ^ (k + 1)) (2 ^ (A + k * (t + 6) + t + 5)) (mulR acc [p, q]) := by
    refine (mulR_N h1).mono ?_
    rw [Nat.pow_add 2 (A + k * (t + 6) + t) 5, Nat.mul_comm]
    exact Nat.mul_le_mul_left _ (by omega)
  refine ⟨h1, h2, ?_, ?_⟩
  · have h3 : aN (C ^ (k + 1)) (2 ^ (A + t * (k + 1))) (oneR a) := fun j => by
      have := (oneR_N ha j).lift (C ^ (k + 1)) (P := 2 ^ (t * (k + 1))) (by
        rw [Int.natAbs_pow, Nat.pow_mul]
        exact Nat.pow_le_pow_left hC _)
      rw [Int.one_mul] at this
      rw [Nat.pow_add]
      exact this
    refine (addR_N h2 h3).mono ?_
    have e : A + (k + 1) * (t + 6) = A + k * (t + 6) + t + 5 + 1 := by rw [Nat.add_mul]; omega
    rw [e, Nat.pow_succ _ (A + k * (t + 6) + t + 5)]
    have : 2 ^ (A + t * (k + 1)) ≤ 2 ^ (A + k * (t + 6) + t + 5) := Nat.pow_le_pow_right (by decide) (by
      rw [Nat.mul_add, Nat.mul_add, Nat.mul_comm k t]; omega)
    omega
  · have := addR_len (mulR acc [p, q]) (oneR a)
    have := mulR_len_sub acc [p, q]
    have := oneR_len a
    simp only [List.length_cons, List.length_nil] at *
    omega
section
variable {E : En} {w : W} {o o1 o2 o3 : Option IV} {i j : Nat}
theorem ite_oneR {σ : Sl} {s : Nat} {a : Int} (hs : slot σ s = some (.d (.int a))) : ev E (.ite (.cmp .NotEq (.var s) (.cst (.int (0)))) (.tup (.cons (.tup (.cons (.var s) (.cons (.cst (.int (1))) .nil))) .nil)) (.tup .nil)) σ w = .ok (.d (rT (oneR a))) w := by
  refine Ret.eq (X := fun _ _ _ => False) ?_ (fun _ _ _ h => h)
  unfold oneR
  by_cases h : a = 0
  · simp [hs, h, okL]; rfl
  · simp [hs, h, okL, rT, rM, nD_int]
/-- sizes of what is moved -/
structure MvOk (f : List Int) (p q : Rat) (A t : Nat) (C : Int) : Prop where
  hf : ∀ a ∈ f, a.natAbs ≤ 2 ^ A
  hp : isN C (2 ^ t) p
  hq : isN C (2 ^ t) q
  c0 : C ≠ 0
  hC : C.natAbs ≤ 2 ^ t
  lf : f.length ≤ 20
  hA : A ≤ 1000
  ht : t ≤ 100
theorem two_lt {n : Nat} (h : n < 4000) : 2 ^ n < 2 ^ 4000 := Nat.pow_lt_pow_right (by decide) h
theorem pow_le {C : Int} {t k n : Nat} (hC : C.natAbs ≤ 2 ^ t) (h : t * k < n) : (C ^ k).natAbs < 2 ^ n := by
  rw [Int.natAbs_pow]
  refine Nat.lt_of_le_of_lt (Nat.pow_le_pow_left hC k) ?_
  rw [← Nat.pow_mul]
  exact Nat.pow_lt_pow_right (by decide) h
theorem moved_by_ok {A t : Nat} {C : Int} {f : List Int} {p q : Rat} (H : MvOk f p q A t C)
    (hs : ∀ (a b : List Rat) (w : W), a.length ≤ 400 → b.length ≤ 400 → bR a → bR b → E.Φ i [.d (rT a), .d (rT b)] w = .ok (.d (rT (addR a b))) w)
    (hm : ∀ (a b : List Rat) (Q : Int) (P : Nat) (w : W), Q ≠ 0 → Q.natAbs < 2 ^ 4000 → (∀ x ∈ a, ∀ y ∈ b, isN Q P (x * y)) → a.length * P < 2 ^ 4000 → bR a → bR b → a.length ≤ 400 → b.length ≤ 400 → E.Φ j [.d (rT a), .d (rT b)] w = .ok (.d (rT (mulR a b))) w) :
    fin w.length (evS E (B_moved_by i j) [some (.d (iT f)), some (.d (nD p)), some (.d (nD q)), o, o1, o2] w) = .ok (.d (rT (mvR [p, q] f []))) w ∧ aN (C ^ f.length) (2 ^ (A + f.length * (t + 6))) (mvR [p, q] f []) ∧ (mvR [p, q] f []).length ≤ f.length := by
  suffices g : Ret (fun v w' => (v = .d (rT (mvR [p, q] f [])) ∧ w' = w) ∧ aN (C ^ f.length) (2 ^ (A + f.length * (t + 6))) (mvR [p, q] f []) ∧ (mvR [p, q] f []).length ≤ f.length) (fun _ _ _ => False) (fin w.length (evS E (B_moved_by i j) [some (.d (iT f)), some (.d (nD p)), some (.d (nD q)), o, o1, o2] w)) by
    cases hr : fin w.length (evS E (B_moved_by i j) [some (.d (iT f)), some (.d (nD p)), some (.d (nD q)), o, o1, o2] w) with
    | ok v w1 =>
      rw [hr] at g
      obtain ⟨⟨rfl, rfl⟩, q2⟩ := g
      exact ⟨rfl, q2⟩
    | exc _ _ _ => rw [hr] at g; exact g.elim
    | no => rw [hr] at g; exact g.elim
  obtain ⟨hf, hp, hq, c0, hC, lf, hA, ht⟩ := H
  have bpq : bR [p, q] := fun r hr => by
    simp only [List.mem_cons, List.not_mem_nil, or_false] at hr
    have t4 : 2 ^ t < 2 ^ 4000 := two_lt (by omega)
    rcases hr with rfl | rfl
    · exact hp.bd c0 t4 (Nat.lt_of_le_of_lt hC t4)
    · exact hq.bd c0 t4 (Nat.lt_of_le_of_lt hC t4)
  unfold B_moved_by
  rw [Ret_fin, RetS_cons]
  refine RetS.nx (M := fun σ w' => w' = w ∧ σ = [some (.d (iT f)), some (.d (nD p)), some (.d (nD q)), o, some (.d (rT [])), some (.d (rT [p, q]))]) ?_ ?_
  · simp [okL]
    exact ⟨rfl, rfl⟩
  rintro σ w' ⟨rfl, rfl⟩
  rw [RetS_cons]
  refine RetS.nx (M := fun σ w => w = w' ∧ (aN (C ^ f.length) (2 ^ (A + f.length * (t + 6))) (mvR [p, q] f []) ∧ (mvR [p, q] f []).length ≤ f.length) ∧ ∃ x, σ = [some (.d (iT f)), some (.d (nD p)), some (.d (nD q)), x, some (.d (rT (mvR [p, q] f []))), some (.d (rT [p, q]))]) ?_ ?_
  · rw [RetS_for, Ret_seq]
    simp only [ev_var, Ret_ofO, slot_cons0, OptP_some, toIt_iT, forP_dat]
    refine ⟨decide_eq_true (by rw [iM_len]; omega), ?_⟩
    refine forL_inv (fun k σ w => w = w' ∧ ∃ acc x, mvR [p, q] (f.drop k) acc = mvR [p, q] f [] ∧ aN (C ^ k) (2 ^ (A + k * (t + 6))) acc ∧ acc.length ≤ k ∧ σ = [some (.d (iT f)), some (.d (nD p)), some (.d (nD q)), x, some (.d (rT acc)), some (.d (rT [p, q]))])
      ⟨rfl, [], _, rfl, aN_mem.mpr (fun r h => by cases h), by simp, rfl⟩ ?_ ?_
    · rintro k z σ w hz ⟨rfl, acc, x, he, hS, hl, rfl⟩
      obtain ⟨a, ha, rfl⟩ := List.mem_map.mp (List.mem_of_getElem? hz)
      have hk : k < f.length := by
        have := (List.getElem?_eq_some_iff.mp hz).1
        simpa using this
      have ea : f.getD k 0 = a := by
        rw [iM_get hk] at hz
        cases hz; rfl
      obtain ⟨s0, s1, s2, s3⟩ := mv_step hp hq hC (hf a ha) hS hl (by omega)
      have kt : k * (t + 6) ≤ 20 * 106 := Nat.mul_le_mul (by omega) (by omega)
      have kt2 : t * (k + 1) ≤ 100 * 20 := Nat.mul_le_mul (by omega) (by omega)
      have kt3 : t * k ≤ 100 * 20 := Nat.mul_le_mul (by omega) (by omega)
      have Q0 : C ^ (k + 1) ≠ 0 := Int.pow_ne_zero c0
      have Q1 : (C ^ (k + 1)).natAbs < 2 ^ 4000 := pow_le hC (by omega)
      have ba : bR acc := bR_aN hS (Int.pow_ne_zero c0) (two_lt (by omega)) (pow_le hC (by omega))
      have bm : bR (mulR acc [p, q]) := bR_aN s1 Q0 (two_lt (by omega)) Q1
      have bo : bR (oneR a) := bR_aN (oneR_N (hf a ha)) (by decide) (two_lt (by omega)) (by exact Nat.one_lt_two_pow (by decide))
      have sz : acc.length * 2 ^ (A + k * (t + 6) + t) < 2 ^ 4000 := by
        refine Nat.lt_of_le_of_lt (Nat.mul_le_mul_right _ (show acc.length ≤ 2 ^ 5 by omega)) ?_
        rw [← Nat.pow_add]
        exact two_lt (by omega)
      have c1 := hm acc [p, q] _ _ w Q0 Q1 s0 sz ba bpq (by omega) (by simp)
      have l1 := mulR_len_sub acc [p, q]
      have l2 := oneR_len a
      simp only [List.length_cons, List.length_nil] at l1
      have c2 := hs (mulR acc [p, q]) (oneR a) w (by omega) (by omega) bm bo
      rw [RetS_body]
      simp only [asg_nm, OptP_some, List.set_cons_succ, List.set_cons_zero, RetS_cons, evS_asgN, RetS_onE, ev_call, Ret_bind, evA_cons, evA_nil, ev_var, Ret_ofO, slot_cons0, slot_cons, Ret_ok, c1]
      rw [ite_oneR (a := a) rfl]
      simp only [Ret_ok, c2, RetS_mk, sq_next, evS_nil, loopK_next, List.set_cons_succ, List.set_cons_zero]
      refine ⟨trivial, _, _, ?_, s2, s3, rfl⟩
      rw [← he, drop_get hk, ea]; rfl
    · rintro σ w ⟨rfl, acc, x, he, hS, hl, rfl⟩
      rw [iM_len] at he hS hl
      rw [List.drop_length] at he
      rw [← he]
      exact ⟨rfl, ⟨hS, hl⟩, x, rfl⟩
  rintro σ w ⟨rfl, h, x, rfl⟩
  simp [take_len]
  exact h
end
/-! rows made whole -/
def lcmR (f : List Rat) : Nat := f.foldl (fun k r => Nat.lcm k r.den) 1
def whI (k : Nat) (f : List Rat) : List Int := f.map fun r => r.num * (k : Int).fdiv (r.den : Int)
theorem den_dvd {Q : Int} {M : Nat} {r : Rat} (h : isN Q M r) : r.den ∣ Q.natAbs := by
  obtain ⟨N, h1, _⟩ := h
  have hd : ((r.den : Int) : Rat) ≠ 0 := by
    intro z; have : (r.den : Int) = 0 := by exact_mod_cast z
    have := den_pos r; omega
  have e : r.num * Q = N * (r.den : Int) := by
    have h2 := rat_nd r
    have : ((r.num * Q : Int) : Rat) = ((N * (r.den : Int) : Int) : Rat) := by
      rw [Rat.intCast_mul, Rat.intCast_mul, ← h1]
      have h3 : r * ((r.den : Int) : Rat) = (r.num : Rat) := by
        have := Rat.mul_comm r ((r.den : Int) : Rat)
        rw [this]
        have h4 : ((r.den : Int) : Rat) * ((r.num : Rat) / ((r.den : Int) : Rat)) = (r.num : Rat) := by grind
        rwa [← h2] at h4
      rw [← h3]; grind
    exact_mod_cast this
  have e2 : r.num.natAbs * Q.natAbs = N.natAbs * r.den := by
    have := congrArg Int.natAbs e
    rwa [Int.natAbs_mul, Int.natAbs_mul, Int.natAbs_natCast] at this
  have hdv : r.den ∣ r.num.natAbs * Q.natAbs := ⟨N.natAbs, by rw [e2, Nat.mul_comm]⟩
  exact Nat.Coprime.dvd_of_dvd_mul_left (Nat.Coprime.symm r.reduced) hdv
theorem lcm_fold : ∀ (f : List Rat) (k : Nat), k ∣ f.foldl (fun k r => Nat.lcm k r.den) k ∧ (∀ r ∈ f, r.den ∣ f.foldl (fun k r => Nat.lcm k r.den) k) ∧ ∀ Q, k ∣ Q → (∀ r ∈ f, r.den ∣ Q) → f.foldl (fun k r => Nat.lcm k r.den) k ∣ Q
  | [], k => ⟨Nat.dvd_refl k, (fun r h => by cases h), fun Q h _ => h⟩
  | a :: f, k => by
    obtain ⟨h1, h2, h3⟩ := lcm_fold f (Nat.lcm k a.den)
    refine ⟨Nat.dvd_trans (Nat.dvd_lcm_left ..) h1, fun r hr => ?_, fun Q hk hQ => ?_⟩
    · rcases List.mem_cons.mp hr with rfl | hr
      · exact Nat.dvd_trans (Nat.dvd_lcm_right ..) h1
      · exact h2 r hr
    · exact h3 Q (Nat.lcm_dvd hk (hQ a List.mem_cons_self)) fun r hr => hQ r (List.mem_cons_of_mem _ hr)
theorem lcmR_den {f : List Rat} {r : Rat} (h : r ∈ f) : r.den ∣ lcmR f := (lcm_fold f 1).2.1 r h
theorem lcmR_dvd {f : List Rat} {Q : Int} {M : Nat} (h : aN Q M f) : lcmR f ∣ Q.natAbs := (lcm_fold f 1).2.2 _ (Nat.one_dvd _) fun r hr => den_dvd (aN_mem.mp h r hr)
theorem lcmR_pos {f : List Rat} : 0 < lcmR f := by
  have : ∀ (f : List Rat) (k : Nat), 0 < k → 0 < f.foldl (fun k r => Nat.lcm k r.den) k := by
    intro f
    induction f with
    | nil => exact fun k h => h
    | cons a f ih => exact fun k h => ih _ (Nat.lcm_pos h a.den_pos)
  exact this f 1 (by decide)
theorem whI_one {k : Nat} {r : Rat} (h : r.den ∣ k) : ((r.num * (k : Int).fdiv (r.den : Int) : Int) : Rat) = (k : Rat) * r := by
  obtain ⟨c, rfl⟩ := h
  have hd : ((r.den : Int) : Rat) ≠ 0 := by
    intro z; have : (r.den : Int) = 0 := by exact_mod_cast z
    have := den_pos r; omega
  have e : ((r.den * c : Nat) : Int).fdiv (r.den : Int) = (c : Int) := by
    rw [Int.natCast_mul, Int.fdiv_eq_ediv_of_nonneg _ (by have := den_pos r; omega), Int.mul_ediv_cancel_left _ (by have := den_pos r; omega)]
  rw [e, Rat.intCast_mul]
  have h2 := rat_nd r
  have h3 : ((r.den * c : Nat) : Rat) = ((r.den : Int) : Rat) * ((c : Int) : Rat) := by
    rw [← Rat.intCast_mul, ← Int.natCast_mul]; rfl
  rw [h3]
  have h4 : ((r.den : Int) : Rat) * ((r.num : Rat) / ((r.den : Int) : Rat)) = (r.num : Rat) := by grind
  rw [← h2] at h4
  rw [← h4]; grind
theorem toR_wh {k : Nat} {f : List Rat} (h : ∀ r ∈ f, r.den ∣ k) : toR (whI k f) = f.map ((k : Rat) * ·) := by
  unfold toR whI
  rw [List.map_map]
  exact List.map_congr_left fun r hr => whI_one (h r hr)
theorem wh_abs {k : Nat} {Q : Int} {M : Nat} {r : Rat} (hk : k ∣ Q.natAbs) (hQ : Q ≠ 0) (hr : r.den ∣ k) (h : isN Q M r) : (r.num * (k : Int).fdiv (r.den : Int)).natAbs ≤ M := by
  obtain ⟨N, h1, h2⟩ := h
  obtain ⟨c, hc⟩ := hk
  have e := whI_one hr
  have hc0 : 0 < c := by
    rcases Nat.eq_zero_or_pos c with z | z
    · rw [z, Nat.mul_zero] at hc; omega
    · exact z
  generalize r.num * (k : Int).fdiv (r.den : Int) = u at *
  have : ((u * (c : Int)).natAbs : Nat) = N.natAbs := by
    have h3 : ((Q.natAbs : Int) : Rat) = (k : Rat) * ((c : Int) : Rat) := by
      rw [hc, Int.natCast_mul, Rat.intCast_mul]; rfl
    rcases Int.natAbs_eq Q with q | q
    · have : ((u * (c : Int) : Int) : Rat) = (N : Rat) := by
        rw [Rat.intCast_mul, e, ← h1]
        rw [q, h3]; grind
      have : u * (c : Int) = N := by exact_mod_cast this
      rw [this]
    · have : ((u * (c : Int) : Int) : Rat) = ((-N : Int) : Rat) := by
        rw [Rat.intCast_mul, e, Rat.intCast_neg, ← h1]
        rw [q, Rat.intCast_neg, h3]; grind
      have : u * (c : Int) = -N := by exact_mod_cast this
      rw [this, Int.natAbs_neg]
  rw [Int.natAbs_mul, Int.natAbs_natCast] at this
  have := Nat.le_mul_of_pos_right u.natAbs hc0
  omega
theorem lcmR_strip : ∀ f : List Rat, lcmR (strip f) = lcmR f
  | [] => rfl
  | a :: f => by
    unfold strip
    split
    · rename_i h
      subst h
      rw [lcmR_strip f]
      show _ = f.foldl (fun k r => Nat.lcm k r.den) (Nat.lcm 1 1)
      rfl
    · rfl
theorem wh_strip {k : Nat} (hk : 0 < k) : ∀ f : List Rat, (∀ r ∈ f, r.den ∣ k) → stripI (whI k f) = whI k (strip f)
  | [], _ => rfl
  | a :: f, h => by
    have e := whI_one (h a List.mem_cons_self)
    show ((a.num * (k : Int).fdiv (a.den : Int)) :: whI k f).dropWhile is0 = _
    rw [List.dropWhile_cons, strip]
    have k0 : (k : Rat) ≠ 0 := by
      intro z; have : k = 0 := by exact_mod_cast z
      omega
    by_cases ha : a = 0
    · rw [if_pos ha, if_pos (by subst ha; show (((0 : Rat).num * _ : Int) == 0) = true; rw [show (0 : Rat).num = 0 from rfl, Int.zero_mul]; rfl)]
      exact wh_strip hk f fun r hr => h r (List.mem_cons_of_mem _ hr)
    · rw [if_neg ha, if_neg]
      · rfl
      · intro z
        have z' : a.num * (k : Int).fdiv (a.den : Int) = 0 := by simpa [is0] using z
        rw [z'] at e
        have : (k : Rat) * a = 0 := by rw [← e]; rfl
        rcases Rat.mul_eq_zero.mp this with y | y
        · exact k0 y
        · exact ha y
theorem HdI_wh {k : Nat} {f : List Rat} (hk : 0 < k) (hf : HdR f) (h : ∀ r ∈ f, r.den ∣ k) : HdI (whI k f) := by
  rw [← strip_HdR hf, ← wh_strip hk f h]
  exact HdI_strip _
end Pv

/-! Part Sd: rows made whole, moved: the walks. -/
namespace Pv
open PySem
theorem log_lt {n k : Nat} (h : n < 2 ^ k) (hk : 0 < k) (h9 : k ≤ 9000) : n.log2 < 9000 := Nat.lt_of_lt_of_le (log_pow h hk) h9
section
variable {E : En} {w : W} {o o1 o2 o3 o4 o5 o6 o7 o8 o9 o10 : Option IV} {i j k l : Nat}
theorem lcmR_lt {f : List Rat} {Q : Int} {M : Nat} (h : aN Q M f) (hQ : Q ≠ 0) (hQ2 : Q.natAbs < 2 ^ 4000) : lcmR f < 2 ^ 4000 :=
  Nat.lt_of_le_of_lt (Nat.le_of_dvd (by omega) (lcmR_dvd h)) hQ2
theorem den_lt {Q : Int} {M : Nat} {r : Rat} (h : isN Q M r) (hQ : Q ≠ 0) (hQ2 : Q.natAbs < 2 ^ 4000) : r.den < 2 ^ 4000 :=
  Nat.lt_of_le_of_lt (Nat.le_of_dvd (by omega) (den_dvd h)) hQ2
/-- [top * (under // bottom) ..] for one number -/
theorem wh_calc {Q : Int} {M K : Nat} {r : Rat} (h : isN Q M r) (hQ : Q ≠ 0) (hQ2 : Q.natAbs < 2 ^ 4000) (hM : M < 2 ^ 4000) (hK : K < 2 ^ 4000) : okDiv (K : Int) (r.den : Int) = true ∧ okI r.num = true ∧ okI ((K : Int).fdiv (r.den : Int)) = true := by
  have hb := h.bd hQ hM hQ2
  refine ⟨?_, okI_pow hb.1 (by decide), ?_⟩
  · unfold okDiv
    have d0 : (r.den : Int) ≠ 0 := by have := den_pos r; omega
    have : decide ((r.den : Int).natAbs.log2 < 9000) = true := decide_eq_true (log_lt (n := (r.den : Int).natAbs) hb.2 (by decide) (by decide))
    rw [this, bne_iff_ne.mpr d0]; rfl
  · rw [Int.fdiv_eq_ediv_of_nonneg _ (by have := den_pos r; omega)]
    have := Int.natAbs_ediv_le_natAbs (K : Int) (r.den : Int)
    exact okI_pow (m := 4000) (Nat.lt_of_le_of_lt this hK) (by decide)
theorem whole_of_ok {Q : Int} {M : Nat} {f : List Rat} (h : aN Q M f) (hQ : Q ≠ 0) (hQ2 : Q.natAbs < 2 ^ 4000) (hM : M < 2 ^ 4000) (lf : f.length ≤ 400) :
    fin w.length (evS E B_whole_of [some (.d (rT f)), o, o1] w) = .ok (.d (.tuple [iT (whI (lcmR f) f), .int (lcmR f : Int)])) w := by
  refine Ret.eq (X := fun _ _ _ => False) ?_ (fun _ _ _ h => h)
  have okl : ∀ k : Nat, k ≤ 1000 → okL k = true := fun k h => decide_eq_true (by omega)
  have x0 : ∀ r : Rat, subD (nD r) (.int 0) = some (.int r.num) := fun _ => tub_0
  have x1 : ∀ r : Rat, subD (nD r) (.int 1) = some (.int (r.den : Int)) := fun _ => tub_1
  have dq : ∀ r ∈ f, r.den ∣ Q.natAbs := fun r hr => den_dvd (aN_mem.mp h r hr)
  unfold B_whole_of
  rw [Ret_fin, RetS_cons]
  refine RetS.nx (M := fun σ w' => w' = w ∧ σ = [some (.d (rT f)), some (.d (.int ((1 : Nat) : Int))), o1]) ?_ ?_
  · simp
  rintro σ w' ⟨rfl, rfl⟩
  rw [RetS_cons]
  refine RetS.nx (M := fun σ w => w = w' ∧ ∃ x, σ = [some (.d (rT f)), some (.d (.int (lcmR f : Int))), x]) ?_ ?_
  · rw [RetS_for, Ret_seq]
    simp only [ev_var, Ret_ofO, slot_cons0, OptP_some, toIt_rT, forP_dat]
    refine ⟨by rw [rM_len]; exact okl _ (by omega), ?_⟩
    refine forL_inv (fun k σ w => w = w' ∧ ∃ (u : Nat) (x : Option IV), (f.drop k).foldl (fun k r => Nat.lcm k r.den) u = lcmR f ∧ u ∣ Q.natAbs ∧ σ = [some (.d (rT f)), some (.d (.int (u : Int))), x])
      ⟨rfl, 1, _, rfl, Nat.one_dvd _, rfl⟩ ?_ ?_
    · rintro k z σ w hz ⟨rfl, u, x, he, hu, rfl⟩
      have hk : k < f.length := by
        have := (List.getElem?_eq_some_iff.mp hz).1
        simpa using this
      rw [rM_get hk] at hz
      cases hz
      have hm : f.getD k 0 ∈ f := by
        rw [List.getD_eq_getElem?_getD, List.getElem?_eq_getElem hk]
        exact List.getElem_mem hk
      have dr := dq _ hm
      have he' := he
      rw [dropR_get hk] at he'
      generalize f.getD k 0 = r at *
      have u1 : decide (u.log2 < 9000) = true := decide_eq_true (log_lt (k := 4000) (Nat.lt_of_le_of_lt (Nat.le_of_dvd (by omega) hu) hQ2) (by decide) (by decide))
      have u2 : decide (r.den.log2 < 9000) = true := decide_eq_true (log_lt (k := 4000) (Nat.lt_of_le_of_lt (Nat.le_of_dvd (by omega) dr) hQ2) (by decide) (by decide))
      have lc : bltD .lcm [.int (u : Int), .int (r.den : Int)] = some (.int ((Nat.lcm u r.den : Nat) : Int)) := by
        show (if decide ((u : Int).natAbs.log2 < 9000) && decide ((r.den : Int).natAbs.log2 < 9000) then some (PyData.int ((Nat.lcm (u : Int).natAbs (r.den : Int).natAbs : Nat) : Int)) else none) = _
        rw [Int.natAbs_natCast, Int.natAbs_natCast, u1, u2]
        rfl
      simp [x1, lc]
      exact ⟨_, he', Nat.lcm_dvd hu dr, rfl⟩
    · rintro σ w ⟨rfl, u, x, he, hu, rfl⟩
      rw [rM_len, List.drop_length] at he
      have he' : u = lcmR f := he
      rw [← he']
      exact ⟨rfl, x, rfl⟩
  rintro σ w ⟨rfl, x, rfl⟩
  have hK := lcmR_lt h hQ hQ2
  have e : compL (elF (isNil .nil) (.nm 2) (ev E .nil) (ev E (.bin .Mult (.sub (.var 2) (.cst (.int (0)))) (.bin .FloorDiv (.var 1) (.sub (.var 2) (.cst (.int (1))))))) (wip [some (.d (rT f)), some (.d (.int (lcmR f : Int))), x] [2])) (rM f) w = .ok (iM (whI (lcmR f) f)) w := by
    show compL _ (f.map nD) w = _
    rw [compL_of (k := fun r => PyData.int (r.num * (lcmR f : Int).fdiv (r.den : Int)))]
    · unfold whI iM
      rw [List.map_map]; rfl
    · intro r hr
      obtain ⟨c1, c2, c3⟩ := wh_calc (aN_mem.mp h r hr) hQ hQ2 hM hK
      refine Ret.eq (X := fun _ _ _ => False) ?_ (fun _ _ _ h => h)
      rw [show isNil .nil = true from rfl, Ret_elT]
      simp [wip, x0, x1, c1, c2, c3]
  have lr : (rM f).length = f.length := rM_len
  simp only [RetS_cons, evS_ret, RetS_onE, Ret_tup, Ret_blt, evA_cons, evA_nil, Ret_bind, Ret_comp, Ret_seq, ev_var, Ret_ofO, slot_cons0, slot_cons, OptP_some, toIt_rT, compP_dat, lr, okl _ (show f.length ≤ 1000 by omega), true_and, e, Ret_ok, rdAll_cons, rdAll_nil, rd_d, Option.bind_some, Option.map_some, tupl_iT, purs_cons, purs_nil, List.length_cons, List.length_nil, okl (0 + 1 + 1) (by omega), RetS_mk, sq_ret, finK_d, take_len, and_self]
theorem moved_ok {i1 i2 i3 i4 i5 : Nat} {f g : List Int} {p q : Rat} {r : List Rat} {x : D} (h1 : E.Φ i1 [.d (iT f)] w = .ok (.d .none) w) (h2 : E.Φ i2 [.d (nD p)] w = .ok (.d .none) w) (h3 : E.Φ i3 [.d (nD q)] w = .ok (.d .none) w)
    (h4 : E.Φ i5 [.d (iT f), .d (nD p), .d (nD q)] w = .ok (.d (rT r)) w) (h5 : E.Φ i4 [.d (rT r)] w = .ok (.d (.tuple [iT g, x])) w) :
    fin w.length (evS E (B_moved i1 i2 i3 i4 i5) [some (.d (iT f)), some (.d (nD p)), some (.d (nD q))] w) = .ok (.d (iT g)) w := by
  refine Ret.eq (X := fun _ _ _ => False) ?_ (fun _ _ _ h => h)
  unfold B_moved
  simp [h1, h2, h3, h4, h5, take_len]
theorem check_factor_ok {z : Nat} {p : Rat} (hp : p ≠ 0) (hz : E.G z = some (.tuple [.int 0, .int 1])) (h : E.Φ i [.d (nD p)] w = .ok (.d (.bool true)) w) :
    fin w.length (evS E (B_check_factor i z) [some (.d (nD p))] w) = .ok (.d .none) w := by
  refine Ret.eq (X := fun _ _ _ => False) ?_ (fun _ _ _ h => h)
  have e : cmpD .Eq (nD p) (.tuple [.int 0, .int 1]) = some false := by
    rw [eq_nD, zP_nD, decide_eq_false hp]
  unfold B_check_factor
  simp [h, hz, e, take_len]
/-- two rows of which one is a multiple of the other -/
theorem law_is_multiple_ok {B C : Nat} {f g : List Int} {c : Rat} (hf : Sm B f) (hg : Sm C g) (hB : B ≤ 4000) (hC : C ≤ 4000) (lf : f.length ≤ 400) (h : toR f = (toR g).map (c * ·)) :
    fin w.length (evS E B_law_is_multiple [some (.d (iT f)), some (.d (iT g)), o] w) = .ok (.d (.bool true)) w := by
  refine Ret.eq (X := fun _ _ _ => False) ?_ (fun _ _ _ h => h)
  have lfg : f.length = g.length := by
    have := congrArg List.length h
    rwa [toR_len, List.length_map, toR_len] at this
  have ev1 : ∀ k, ((f.getD k 0 : Int) : Rat) = c * ((g.getD k 0 : Int) : Rat) := fun k => by
    rw [← toR_getD, ← toR_getD, h, List.getD_eq_getElem?_getD, List.getElem?_map, List.getD_eq_getElem?_getD]
    cases (toR g)[k]? with
    | none => show (0 : Rat) = c * 0; grind
    | some a => rfl
  have eq1 : ∀ k, f.getD 0 0 * g.getD k 0 = f.getD k 0 * g.getD 0 0 := fun k => by
    have : ((f.getD 0 0 * g.getD k 0 : Int) : Rat) = ((f.getD k 0 * g.getD 0 0 : Int) : Rat) := by
      rw [Rat.intCast_mul, Rat.intCast_mul, ev1 0, ev1 k]; grind
    exact_mod_cast this
  have okl : ∀ k : Nat, k ≤ 1000 → okL k = true := fun k h => decide_eq_true (by omega)
  have e : compL (elF (isNil .nil) (.nm 2) (ev E .nil) (ev E (.cmp .Eq (.bin .Mult (.sub (.var 0) (.cst (.int (0)))) (.sub (.var 1) (.var 2))) (.bin .Mult (.sub (.var 0) (.var 2)) (.sub (.var 1) (.cst (.int (0))))))) (wip [some (.d (iT f)), some (.d (iT g)), o] [2])) ((List.range g.length).map fun (k : Nat) => .int (k : Int)) w = .ok ((List.range g.length).map fun _ => .bool true) w := by
    rw [compL_of (k := fun _ => PyData.bool true)]
    intro k hk
    rw [List.mem_range] at hk
    have f0 := iT_sub (f := f) (k := 0) (by omega)
    have g0 := iT_sub (f := g) (k := 0) (by omega)
    have fk := iT_sub (f := f) (k := k) (by omega)
    have gk := iT_sub (f := g) (k := k) (by omega)
    have o1 := okI_of hf (by omega) (getD_mem (f := f) (k := 0) (by omega))
    have o2 := okI_of hg (by omega) (getD_mem (f := g) (k := 0) (by omega))
    have o3 := okI_of hf (by omega) (getD_mem (f := f) (k := k) (by omega))
    have o4 := okI_of hg (by omega) (getD_mem (f := g) (k := k) (by omega))
    have q := eq1 k
    refine Ret.eq (X := fun _ _ _ => False) ?_ (fun _ _ _ h => h)
    rw [show isNil .nil = true from rfl, Ret_elT]
    rw [show ((0 : Nat) : Int) = 0 from rfl] at f0 g0
    generalize f.getD 0 0 = a at *
    generalize g.getD 0 0 = b at *
    generalize f.getD k 0 = c at *
    generalize g.getD k 0 = d at *
    simp [wip, f0, g0, fk, gk, o1, o2, o3, o4, q]
  have al : bltD .all [.list ((List.range g.length).map fun _ => PyData.bool true)] = some (.bool true) := by
    have := all_bools (g := fun _ => true) (xs := (List.range g.length).map fun (k : Nat) => PyData.int (k : Int))
    rw [List.map_map] at this
    rw [show ((List.range g.length).map fun _ => PyData.bool true) = (List.range g.length).map ((fun y => PyData.bool true) ∘ fun (k : Nat) => PyData.int (k : Int)) from rfl, this]
    simp
  unfold B_law_is_multiple
  rw [← lfg] at e al
  simp [len_iT, ← lfg, rng_nat (n := f.length) (by omega), okl f.length (by omega), e, al, take_len]
end
end Pv

/-! Part Se: the law's own multiplying out of what is moved. -/
namespace Pv
open PySem
def pwR (p q : Rat) : Nat → List Rat
  | 0 => [1]
  | k + 1 => innR 1 q (pwR p q k) 0 ((pwR p q k).map (p * ·) ++ [0])
def ttR (p q : Rat) (f : List Int) : Nat → List Rat
  | 0 => []
  | k + 1 => List.zipWith (fun t b => t + ((f.getD (f.length - 1 - k) 0 : Int) : Rat) * b) (padR (k + 1) (ttR p q f k)) (pwR p q k)
theorem pw_len (p q : Rat) : ∀ k, (pwR p q k).length = k + 1
  | 0 => rfl
  | k + 1 => by rw [pwR, innR_len, List.length_append, List.length_map, pw_len p q k]; rfl
theorem tt_len (p q : Rat) (f : List Int) : ∀ k, (ttR p q f k).length = k
  | 0 => rfl
  | k + 1 => by rw [ttR, List.length_zipWith, padR_len (by rw [tt_len p q f k]; omega), pw_len]; omega
theorem pw_vl (p q x : Rat) : ∀ k, vl (pwR p q k) x = (p * x + q) ^ k
  | 0 => by
    show vl [1] x = _
    rw [vl_cons, vl_nil, Rat.pow_zero]
    show 1 * x ^ 0 + 0 = 1
    rw [Rat.pow_zero]; grind
  | k + 1 => by
    rw [pwR, innR_vl _ _ _ _ _ _ (by rw [List.length_append, List.length_map]; simp; omega), vl_snoc, vl_scale, pw_vl p q x k, List.length_append, List.length_map, show (pwR p q k).length + [(0 : Rat)].length - (1 + 0 + (pwR p q k).length) = 0 by simp; omega, Rat.pow_zero, Rat.pow_succ]
    grind
theorem zip_fuse (c : Rat) : ∀ (f g : List Rat), List.zipWith (fun t b => t + c * b) f g = List.zipWith (· + ·) f (g.map (c * ·))
  | [], _ => by simp
  | _ :: _, [] => by simp
  | a :: f, b :: g => by
    show (a + c * b) :: List.zipWith (fun t b => t + c * b) f g = (a + c * b) :: List.zipWith (· + ·) f (g.map (c * ·))
    rw [zip_fuse c f g]
theorem tt_vl (p q x : Rat) (f : List Int) : ∀ k, k ≤ f.length → vl (ttR p q f k) x = vl (toR (f.drop (f.length - k))) (p * x + q)
  | 0, _ => by rw [Nat.sub_zero, List.drop_length]; rfl
  | k + 1, hk => by
    rw [ttR, zip_fuse, vl_add _ _ _ (by rw [padR_len (by rw [tt_len]; omega), List.length_map, pw_len]), vl_scale, pw_vl]
    unfold padR
    rw [vl_pad, tt_vl p q x f k (by omega)]
    have e : f.drop (f.length - (k + 1)) = f.getD (f.length - 1 - k) 0 :: f.drop (f.length - k) := by
      have := drop_get (f := f) (k := f.length - (k + 1)) (by omega)
      rw [show f.length - (k + 1) + 1 = f.length - k by omega, show f.length - (k + 1) = f.length - 1 - k by omega] at this
      rw [show f.length - (k + 1) = f.length - 1 - k by omega]
      exact this
    rw [e]
    show _ = vl (((f.getD (f.length - 1 - k) 0 : Int) : Rat) :: toR (f.drop (f.length - k))) _
    rw [vl_cons, toR_len, List.length_drop, show f.length - (f.length - k) = k by omega]
    grind
section
variable {A t : Nat} {C : Int} {f : List Int} {p q : Rat}
theorem pw_N (hp : isN C (2 ^ t) p) (hq : isN C (2 ^ t) q) : ∀ k, aN (C ^ k) (2 ^ (k * (t + 1))) (pwR p q k)
  | 0 => aN_mem.mpr fun r hr => by
    rw [List.mem_singleton.mp hr, Int.pow_zero, Nat.zero_mul]
    exact isN_int 1 (by decide)
  | k + 1 => by
    have ih := pw_N hp hq k
    have e : 2 ^ ((k + 1) * (t + 1)) = 2 ^ (k * (t + 1)) * 2 ^ t + 2 ^ (k * (t + 1)) * 2 ^ t := by
      rw [Nat.succ_mul, Nat.pow_add, ← Nat.mul_two, Nat.mul_assoc, ← Nat.pow_succ]
    rw [pwR, e, Int.pow_succ]
    have a0 : aN (C ^ k * C) (2 ^ (k * (t + 1)) * 2 ^ t) ((pwR p q k).map (p * ·) ++ [0]) := aN_mem.mpr fun r hr => by
      rcases List.mem_append.mp hr with h | h
      · obtain ⟨b, hb, rfl⟩ := List.mem_map.mp h
        rw [Rat.mul_comm]
        exact (aN_mem.mp ih b hb).mul hp
      · rw [List.mem_singleton.mp h]; exact isN_zero
    refine innR_N _ 0 _ (fun b hb => ?_) (a0.mono (by omega)) (fun i _ => a0 i)
    rw [Rat.mul_comm]
    exact (aN_mem.mp ih b hb).mul hq
theorem pw_start (hp : isN C (2 ^ t) p) (hq : isN C (2 ^ t) q) (k : Nat) : aN (C ^ (k + 1)) (2 ^ (k * (t + 1)) * 2 ^ t) ((pwR p q k).map (p * ·) ++ [0]) ∧ (∀ b ∈ pwR p q k, isN (C ^ (k + 1)) (2 ^ (k * (t + 1)) * 2 ^ t) (p * b)) ∧ (∀ b ∈ pwR p q k, isN (C ^ (k + 1)) (2 ^ (k * (t + 1)) * 2 ^ t) (q * b)) := by
  have ih := pw_N hp hq k
  rw [Int.pow_succ]
  have h1 : ∀ b ∈ pwR p q k, isN (C ^ k * C) (2 ^ (k * (t + 1)) * 2 ^ t) (p * b) := fun b hb => by
    rw [Rat.mul_comm]
    exact (aN_mem.mp ih b hb).mul hp
  refine ⟨aN_mem.mpr fun r hr => ?_, h1, fun b hb => ?_⟩
  · rcases List.mem_append.mp hr with h | h
    · obtain ⟨b, hb, rfl⟩ := List.mem_map.mp h
      exact h1 b hb
    · rw [List.mem_singleton.mp h]; exact isN_zero
  · rw [Rat.mul_comm]
    exact (aN_mem.mp ih b hb).mul hq
theorem pad_N {Q : Int} {M n : Nat} {h : List Rat} (hh : aN Q M h) : aN Q M (padR n h) := aN_mem.mpr fun s hs => by
  rcases List.mem_append.mp hs with q | q
  · rw [List.eq_of_mem_replicate q]; exact isN_zero
  · exact aN_mem.mp hh s q
theorem tt_N (hf : ∀ a ∈ f, a.natAbs ≤ 2 ^ A) (hp : isN C (2 ^ t) p) (hq : isN C (2 ^ t) q) (hC : C.natAbs ≤ 2 ^ t) : ∀ k, k ≤ f.length → aN (C ^ k) (2 ^ (A + k * (t + 2))) (ttR p q f k)
  | 0, _ => aN_mem.mpr fun r hr => by cases hr
  | k + 1, hk => by
    have ih := pad_N (n := k + 1) (tt_N hf hp hq hC k (by omega))
    have pw := pw_N hp hq k
    have ha : (f.getD (f.length - 1 - k) 0).natAbs ≤ 2 ^ A := hf _ (getD_mem (by omega))
    rw [ttR]
    refine aN_mem.mpr fun r hr => ?_
    obtain ⟨j, hj⟩ := List.mem_iff_getElem?.mp hr
    rw [List.getElem?_zipWith] at hj
    have h1 := ih j
    have h2 := pw j
    rw [List.getD_eq_getElem?_getD] at h1 h2
    cases e1 : (padR (k + 1) (ttR p q f k))[j]? with
    | none => rw [e1] at hj; cases hj
    | some a =>
      cases e2 : (pwR p q k)[j]? with
      | none => rw [e1, e2] at hj; cases hj
      | some b =>
        rw [e1, e2] at hj
        cases hj
        rw [e1] at h1
        rw [e2] at h2
        have h3 := h1.add (h2.mulI _ ha)
        have h4 := h3.lift C hC
        rw [← Int.pow_succ] at h4
        rw [Rat.mul_comm]
        refine h4.mono ?_
        rw [← Nat.pow_add]
        have e : A + (k + 1) * (t + 2) = (A + k * (t + 2)) + 1 + t + 1 := by rw [Nat.add_mul]; omega
        have e2 : 2 ^ (k * (t + 1) + A) ≤ 2 ^ (A + k * (t + 2)) := Nat.pow_le_pow_right (by decide) (by
          have := Nat.mul_le_mul_left k (show t + 1 ≤ t + 2 by omega)
          omega)
        rw [e, Nat.pow_succ _ (A + k * (t + 2) + 1 + t), Nat.pow_add _ (A + k * (t + 2) + 1) t, Nat.pow_succ _ (A + k * (t + 2))]
        generalize 2 ^ (A + k * (t + 2)) = X at *
        have : (X + 2 ^ (k * (t + 1) + A)) * 2 ^ t ≤ X * 2 * 2 ^ t := Nat.mul_le_mul_right _ (by omega)
        omega
end
theorem lcm_low {u d : Nat} (hd : 0 < d) : (u : Int) * (((((u : Int) : Rat) / ((d : Int) : Rat)).den : Nat) : Int) = ((Nat.lcm u d : Nat) : Int) := by
  have e := low_nD (t := (u : Int)) (b := (d : Int)) (by omega)
  unfold nD at e
  injection e with e
  injection e with _ e2
  injection e2 with e2 _
  injection e2 with e2
  rw [← e2]
  unfold lowB
  rw [if_pos (by omega), Int.one_mul, Int.gcd_natCast_natCast, Int.fdiv_eq_ediv_of_nonneg _ (by omega), ← Int.natCast_ediv, ← Int.natCast_mul]
  congr 1
  rw [← Nat.mul_div_assoc _ (Nat.gcd_dvd_right u d)]
  rfl
theorem stix_val {E : En} {σ : Sl} {w : W} {K : Fl → W → Prop} {m s2 j : Nat} {v : D} {acc : List D} {ix e : Ex} (h2 : slot σ s2 = some (.ref m)) (hi : ev E ix σ w = .ok (.d (.int (j : Int))) w) (hw : w[m]? = some (.lst acc)) (hk : j < acc.length)
    (he : ev E e σ w = .ok (.d v) w) :
    RetS K (evS E (.stix (.var s2) ix e) σ w) = K (.next σ) (w.set m (.lst (acc.set j v))) := by
  simp only [RetS_stix, ev_var, Ret_ofO, h2, hi, OptP_some, he, Ret_ok, RefP_r, DatP_d, hw, CelP_l, st_nat hk]
section
variable {E : En} {w : W} {i j l m : Nat}
def lmN (f : List Int) (p q : Rat) (x3 x4 x5 x6 x7 x8 x9 x10 x11 x12 x13 x14 : Option IV) : Sl := [some (.d (iT f)), some (.d (nD p)), some (.d (nD q)), x3, x4, x5, x6, x7, x8, x9, x10, x11, x12, x13, x14]
theorem law_moved_ok {A t : Nat} {C : Int} {f : List Int} {p q : Rat} (H : MvOk f p q A t C)
    (ha : ∀ (r s : Rat) (w : W), Bd 4000 r → Bd 4000 s → E.Φ i [.d (nD r), .d (nD s)] w = .ok (.d (nD (r + s))) w)
    (hm : ∀ (r s : Rat) (w : W), Bd 4000 r → Bd 4000 s → E.Φ j [.d (nD r), .d (nD s)] w = .ok (.d (nD (r * s))) w)
    (hl : ∀ (t b : Int) (w : W), 0 < b → b.natAbs < 2 ^ 4000 → t.natAbs < 2 ^ 4000 → E.Φ l [.d (.int t), .d (.int b)] w = .ok (.d (nD ((t : Rat) / (b : Rat)))) w)
    (ht : ∀ (h : List Int) (w : W), h.length ≤ 1000 → E.Φ m [.d (.list (iM h))] w = .ok (.d (iT (stripI h))) w) :
    fin w.length (evS E (B_law_moved i j l m) (lmN f p q none none none none none none none none none none none none) w) = .ok (.d (iT (stripI (whI (lcmR (ttR p q f f.length)) (ttR p q f f.length))))) w := by
  refine Ret.eq (X := fun _ _ _ => False) ?_ (fun _ _ _ h => h)
  obtain ⟨hf, hp, hq, c0, hC, lf, hA, htt⟩ := H
  have okl : ∀ k : Nat, k ≤ 1000 → okL k = true := fun k h => decide_eq_true (by omega)
  have t4 : 2 ^ t < 2 ^ 4000 := two_lt (by omega)
  have bp : Bd 4000 p := hp.bd c0 t4 (Nat.lt_of_le_of_lt hC t4)
  have bq : Bd 4000 q := hq.bd c0 t4 (Nat.lt_of_le_of_lt hC t4)
  unfold B_law_moved lmN
  rw [Ret_fin, RetS_cons]
  refine RetS.nx (M := fun σ w' => w' = w ∧ σ = [some (.d (iT f)), some (.d (nD p)), some (.d (nD q)), none, none, some (.d (.list (rM (ttR p q f 0)))), some (.d (.list (rM (pwR p q 0)))), some (.d (.int ((f.length : Int) - 1))), none, none, none, none, none, none, none]) ?_ ?_
  · have e1 : rM (ttR p q f 0) = [] := by rw [ttR]; rfl
    have e2 : rM (pwR p q 0) = [.tuple [.int 1, .int 1]] := by
      rw [pwR]
      show [nD ((1 : Int) : Rat)] = _
      rw [nD_int]
    simp [okL, len_iT, e1, e2]
  rintro σ w' ⟨rfl, rfl⟩
  rw [RetS_cons]
  refine RetS.nx (M := fun σ w => ∃ (js : W) (x3 x6 x8 x9 x10 x13 x14 : Option IV), w = w' ++ js ∧ σ = [some (.d (iT f)), some (.d (nD p)), some (.d (nD q)), x3, none, some (.d (.list (rM (ttR p q f f.length)))), x6, some (.d (.int ((f.length : Int) - 1))), x8, x9, x10, none, none, x13, x14]) ?_ ?_
  · rw [RetS_for, Ret_rng]
    simp only [evA_cons, evA_nil, Ret_bind, Ret_bin, ev_cst, ev_var, Ret_ofO, slot_cons0, slot_cons, OptP_some, Ret_ok, rd_d, add_ii, purs_cons, purs_nil, Option.map_some]
    rw [rng_toNat (by omega) (by omega), show ((f.length : Int) - 1 + 1).toNat = f.length by omega]
    simp only [OptP_some, forP_dat]
    refine ⟨by rw [List.length_map, List.length_range]; exact okl _ (by omega), ?_⟩
    refine forL_inv (fun k σ w => ∃ (js : W) (x3 x8 x9 x10 x13 x14 : Option IV), w = w' ++ js ∧ σ = [some (.d (iT f)), some (.d (nD p)), some (.d (nD q)), x3, none, some (.d (.list (rM (ttR p q f k)))), some (.d (.list (rM (pwR p q k)))), some (.d (.int ((f.length : Int) - 1))), x8, x9, x10, none, none, x13, x14])
      ⟨[], _, _, _, _, _, _, by rw [List.append_nil], rfl⟩ ?_ ?_
    · rintro k z σ w hz ⟨js, x3, x8, x9, x10, x13, x14, rfl, rfl⟩
      obtain ⟨hk, rfl⟩ := range_get hz
      obtain ⟨wj, hwj⟩ : ∃ wj, wj = w' ++ js := ⟨_, rfl⟩
      rw [← hwj]
      have kt1 : k * (t + 1) ≤ 20 * 101 := Nat.mul_le_mul (by omega) (by omega)
      have kt2 : k * (t + 2) ≤ 20 * 102 := Nat.mul_le_mul (by omega) (by omega)
      have kt3 : t * k ≤ 100 * 20 := Nat.mul_le_mul (by omega) (by omega)
      have kt4 : t * (k + 1) ≤ 100 * 20 := Nat.mul_le_mul (by omega) (by omega)
      have tN := pad_N (n := k + 1) (tt_N hf hp hq hC k (by omega))
      have pN := pw_N hp hq k
      obtain ⟨p0, p1, p2⟩ := pw_start hp hq k
      have Q0 : C ^ k ≠ 0 := Int.pow_ne_zero c0
      have Q1 : (C ^ k).natAbs < 2 ^ 4000 := pow_le hC (by omega)
      have R0 : C ^ (k + 1) ≠ 0 := Int.pow_ne_zero c0
      have R1 : (C ^ (k + 1)).natAbs < 2 ^ 4000 := pow_le hC (by omega)
      have pl : (pwR p q k).length = k + 1 := pw_len p q k
      have tl : (ttR p q f k).length = k := tt_len p q f k
      have ha' : (f.getD (f.length - 1 - k) 0).natAbs ≤ 2 ^ A := hf _ (getD_mem (by omega))
      have sa := iT_sub (f := f) (k := f.length - 1 - k) (by omega)
      rw [show ((f.length - 1 - k : Nat) : Int) = (f.length : Int) - 1 - (k : Int) by omega] at sa
      have sT : ttR p q f (k + 1) = List.zipWith (fun t b => t + ((f.getD (f.length - 1 - k) 0 : Int) : Rat) * b) (padR (k + 1) (ttR p q f k)) (pwR p q k) := by rw [ttR]
      have sP : pwR p q (k + 1) = innR 1 q (pwR p q k) 0 ((pwR p q k).map (p * ·) ++ [0]) := by rw [pwR]
      rw [sT, sP]
      generalize f.getD (f.length - 1 - k) 0 = a at *
      have bA : Bd 4000 (a : Rat) := (isN_int a ha').bd (by decide) (two_lt (by omega)) (by exact Nat.one_lt_two_pow (by decide))
      have bP : bR (pwR p q k) := bR_aN pN Q0 (two_lt (by omega)) Q1
      have bT : bR (padR (k + 1) (ttR p q f k)) := bR_aN tN Q0 (two_lt (by omega)) Q1
      have baP : ∀ b ∈ pwR p q k, Bd 4000 ((a : Rat) * b) := fun b hb => by
        rw [Rat.mul_comm]
        refine ((aN_mem.mp pN b hb).mulI a ha').bd Q0 ?_ Q1
        rw [← Nat.pow_add]
        exact two_lt (by omega)
      have two : 2 ^ (k * (t + 1)) * 2 ^ t + 2 ^ (k * (t + 1)) * 2 ^ t < 2 ^ 4000 := by
        have : 2 ^ (k * (t + 1)) * 2 ^ t + 2 ^ (k * (t + 1)) * 2 ^ t = 2 ^ (k * (t + 1) + t + 1) := by
          rw [Nat.pow_succ, Nat.pow_add]; omega
        rw [this]
        exact two_lt (by omega)
      have pd : rM (List.replicate (((pwR p q k).length : Int) - (ttR p q f k).length).toNat 0) ++ rM (ttR p q f k) = rM (padR (k + 1) (ttR p q f k)) := by
        rw [pl, tl, show (((k + 1 : Nat) : Int) - (k : Int)).toNat = k + 1 - (ttR p q f k).length by omega]
        unfold padR rM
        rw [List.map_append]
      rw [RetS_body]
      simp only [asg_nm, OptP_some, List.set_cons_succ, List.set_cons_zero]
      rw [RetS_cons]
      refine RetS.nx (M := fun σ w => w = wj ∧ σ = [some (.d (iT f)), some (.d (nD p)), some (.d (nD q)), some (.d (.int (k : Int))), none, some (.d (.list (rM (ttR p q f k)))), some (.d (.list (rM (pwR p q k)))), some (.d (.int ((f.length : Int) - 1))), some (.d (nD (a : Rat))), x9, x10, none, none, x13, x14]) ?_ ?_
      · rw [nD_int]
        simp [sa, okL]
      rintro σ w ⟨rfl, rfl⟩
      rw [RetS_cons]
      refine RetS.nx (M := fun σ w1 => w1 = w ∧ σ = [some (.d (iT f)), some (.d (nD p)), some (.d (nD q)), some (.d (.int (k : Int))), none, some (.d (.list (rM (padR (k + 1) (ttR p q f k))))), some (.d (.list (rM (pwR p q k)))), some (.d (.int ((f.length : Int) - 1))), some (.d (nD (a : Rat))), x9, x10, none, none, x13, x14]) ?_ ?_
      · have c1 : (decide (0 + 1 ≤ 1000) && decide (((pwR p q k).length : Int) - (ttR p q f k).length ≤ 1000) && decide (-1000 ≤ ((pwR p q k).length : Int) - (ttR p q f k).length)) = true := by
          simp only [Bool.and_eq_true, decide_eq_true_eq]
          omega
        have ol : okL ((rM (List.replicate (((pwR p q k).length : Int) - (ttR p q f k).length).toNat 0)).length + (rM (ttR p q f k)).length) = true := okl _ (by rw [rM_len, rM_len, List.length_replicate]; omega)
        have ln : ∀ h : List Rat, bltD .len [.list (rM h)] = some (.int h.length) := fun h => by show some (PyData.int ((rM h).length : Int)) = _; rw [rM_len]
        simp only [evS_asgN, RetS_onE, Ret_bin, Ret_lst, Ret_tup, Ret_blt, evA_cons, evA_nil, ev_cst, ev_var, Ret_bind, Ret_ok, Ret_ofO, slot_cons0, slot_cons, OptP_some, purs_cons, purs_nil, Option.map_some, Option.bind_some, rdAll_cons, rdAll_nil, rd_d, List.length_cons, List.length_nil, okl (0 + 1) (by omega), okl (0 + 1 + 1) (by omega), true_and, ln, sub_ii, mul_li, c1, if_true, repR_zero, add_ll, ol, pd, RetS_mk, Nx_next, List.set_cons_succ, List.set_cons_zero, and_self]
      rintro σ w1 ⟨rfl, rfl⟩
      rw [RetS_cons]
      refine RetS.nx (M := fun σ w => w = w1 ∧ σ = [some (.d (iT f)), some (.d (nD p)), some (.d (nD q)), some (.d (.int (k : Int))), none, some (.d (.list (rM (List.zipWith (fun t b => t + (a : Rat) * b) (padR (k + 1) (ttR p q f k)) (pwR p q k))))), some (.d (.list (rM (pwR p q k)))), some (.d (.int ((f.length : Int) - 1))), some (.d (nD (a : Rat))), x9, x10, none, none, x13, x14]) ?_ ?_
      · have e : compL (elF (isNil .nil) (.tup (.cons (.nm 13) (.cons (.nm 14) .nil))) (ev E .nil) (ev E (.call i (.cons (.var 13) (.cons (.call j (.cons (.var 8) (.cons (.var 14) .nil))) .nil)))) (wip [some (.d (iT f)), some (.d (nD p)), some (.d (nD q)), some (.d (.int (k : Int))), none, some (.d (.list (rM (padR (k + 1) (ttR p q f k))))), some (.d (.list (rM (pwR p q k)))), some (.d (.int ((f.length : Int) - 1))), some (.d (nD (a : Rat))), x9, x10, none, none, x13, x14] [13, 14])) (zipD (rM (padR (k + 1) (ttR p q f k))) (rM (pwR p q k))) w1 = .ok (rM (List.zipWith (fun t b => t + (a : Rat) * b) (padR (k + 1) (ttR p q f k)) (pwR p q k))) w1 := by
          rw [zip_num, compL_of (k := fun u : Rat × Rat => nD (u.1 + (a : Rat) * u.2))]
          · congr 1
            unfold rM
            rw [← List.map_uncurry_zip_eq_zipWith, List.map_map]
            rfl
          · intro u hu
            have h1 := List.of_mem_zip (a := u.1) (b := u.2) hu
            refine Ret.eq (X := fun _ _ _ => False) ?_ (fun _ _ _ h => h)
            show Ret _ _ (elF true _ _ _ _ _ _)
            rw [Ret_elT]
            simp [wip, hm _ _ _ bA (bP _ h1.2), ha _ _ _ (bT _ h1.1) (baP _ h1.2)]
        have zl : okL (zipD (rM (padR (k + 1) (ttR p q f k))) (rM (pwR p q k))).length = true := by
          rw [zipD_len, rM_len, rM_len]
          exact okl _ (by omega)
        simp only [evS_asgN, RetS_onE, Ret_comp, Ret_zp, ev_var, Ret_ofO, slot_cons0, slot_cons, OptP_some, ZipP_l, compP_dat, zl, true_and, e, Ret_ok, RetS_mk, Nx_next, List.set_cons_succ, List.set_cons_zero, and_self]
      rintro σ w ⟨rfl, rfl⟩
      rw [RetS_cons]
      refine RetS.nx (M := fun σ w1 => w1 = w ++ [.lst (rM ((pwR p q k).map (p * ·) ++ [0]))] ∧ σ = [some (.d (iT f)), some (.d (nD p)), some (.d (nD q)), some (.d (.int (k : Int))), none, some (.d (.list (rM (List.zipWith (fun t b => t + (a : Rat) * b) (padR (k + 1) (ttR p q f k)) (pwR p q k))))), some (.d (.list (rM (pwR p q k)))), some (.d (.int ((f.length : Int) - 1))), some (.d (nD (a : Rat))), some (.ref w.length), x10, none, none, x13, x14]) ?_ ?_
      · have e : compL (elF (isNil .nil) (.nm 13) (ev E .nil) (ev E (.call j (.cons (.var 1) (.cons (.var 13) .nil)))) (wip [some (.d (iT f)), some (.d (nD p)), some (.d (nD q)), some (.d (.int (k : Int))), none, some (.d (.list (rM (List.zipWith (fun t b => t + (a : Rat) * b) (padR (k + 1) (ttR p q f k)) (pwR p q k))))), some (.d (.list (rM (pwR p q k)))), some (.d (.int ((f.length : Int) - 1))), some (.d (nD (a : Rat))), x9, x10, none, none, x13, x14] [13])) (rM (pwR p q k)) w = .ok (rM ((pwR p q k).map (p * ·))) w := by
          show compL _ ((pwR p q k).map nD) w = _
          rw [compL_of (k := fun b => nD (p * b))]
          · unfold rM
            rw [List.map_map]; rfl
          · intro b hb
            refine Ret.eq (X := fun _ _ _ => False) ?_ (fun _ _ _ h => h)
            rw [show isNil .nil = true from rfl, Ret_elT]
            simp [wip, hm _ _ _ bp (bP _ hb)]
        have zl : okL (rM (pwR p q k)).length = true := by
          rw [rM_len]
          exact okl _ (by omega)
        have z2 : okL ((rM ((pwR p q k).map (p * ·))).length + (0 + 1)) = true := by
          rw [rM_len, List.length_map]
          exact okl _ (by omega)
        have sn : rM ((pwR p q k).map (p * ·)) ++ [.tuple [.int 0, .int 1]] = rM ((pwR p q k).map (p * ·) ++ [0]) := by
          rw [← rM_snoc, nD_zero]
        simp only [evS_asgN, RetS_onE, ev_new, Ret_bind, Ret_bin, Ret_comp, Ret_seq, ev_var, Ret_ofO, slot_cons0, slot_cons, OptP_some, toIt_l, compP_dat, zl, true_and, e, Ret_ok, Ret_lst, Ret_tup, evA_cons, evA_nil, ev_cst, purs_cons, purs_nil, Option.map_some, List.length_cons, List.length_nil, okl (0 + 1) (by omega), okl (0 + 1 + 1) (by omega), rd_d, add_ll, z2, if_true, sn, newW_l, RetS_mk, Nx_next, List.set_cons_succ, List.set_cons_zero, and_self]
      rintro σ w1 ⟨rfl, rfl⟩
      rw [RetS_cons]
      refine RetS.nx (M := fun σ w1 => ∃ x10, w1 = w ++ [.lst (rM (innR 1 q (pwR p q k) 0 ((pwR p q k).map (p * ·) ++ [0])))] ∧ σ = [some (.d (iT f)), some (.d (nD p)), some (.d (nD q)), some (.d (.int (k : Int))), none, some (.d (.list (rM (List.zipWith (fun t b => t + (a : Rat) * b) (padR (k + 1) (ttR p q f k)) (pwR p q k))))), some (.d (.list (rM (pwR p q k)))), some (.d (.int ((f.length : Int) - 1))), some (.d (nD (a : Rat))), some (.ref w.length), x10, none, none, x13, x14]) ?_ ?_
      · obtain ⟨n, hn⟩ : ∃ n : Nat, n = k + 1 := ⟨_, rfl⟩
        obtain ⟨PP, hPP⟩ : ∃ PP : List Rat, PP = pwR p q k := ⟨_, rfl⟩
        rw [← hPP] at pl bP p0 p2 ⊢
        rw [← hn] at pl
        have ln : bltD .len [.list (rM PP)] = some (.int (n : Int)) := by show some (PyData.int ((rM PP).length : Int)) = _; rw [rM_len, pl]
        rw [RetS_for, Ret_rng]
        simp only [evA_cons, evA_nil, Ret_bind, Ret_blt, ev_var, Ret_ofO, slot_cons0, slot_cons, OptP_some, Ret_ok, rdAll_cons, rdAll_nil, rd_d, Option.bind_some, Option.map_some, ln, purs_cons, purs_nil, rng_nat (n := n) (by omega), forP_dat]
        refine ⟨by rw [List.length_map, List.length_range]; exact okl _ (by omega), ?_⟩
        refine forL_inv (fun u σ w1 => ∃ ac x10, w1 = w ++ [.lst (rM ac)] ∧ ac.length = k + 2 ∧ innR 1 q ((PP).drop u) u ac = innR 1 q (PP) 0 ((PP).map (p * ·) ++ [0]) ∧ aN (C ^ (k + 1)) (2 ^ (k * (t + 1)) * 2 ^ t + 2 ^ (k * (t + 1)) * 2 ^ t) ac ∧ (∀ i, 1 + u ≤ i → isN (C ^ (k + 1)) (2 ^ (k * (t + 1)) * 2 ^ t) (ac.getD i 0)) ∧ σ = [some (.d (iT f)), some (.d (nD p)), some (.d (nD q)), some (.d (.int (k : Int))), none, some (.d (.list (rM (List.zipWith (fun t b => t + (a : Rat) * b) (padR (k + 1) (ttR p q f k)) (PP))))), some (.d (.list (rM (PP)))), some (.d (.int ((f.length : Int) - 1))), some (.d (nD (a : Rat))), some (.ref w.length), x10, none, none, x13, x14])
          ⟨_, _, rfl, by rw [List.length_append, List.length_map, pl, hn]; rfl, rfl, p0.mono (by omega), fun i _ => p0 i, rfl⟩ ?_ ?_
        · rintro u z σ w1 hz ⟨ac, x10, rfl, acl, hi, s1, s2, rfl⟩
          obtain ⟨hu, rfl⟩ := range_get hz
          have hup : u < (PP).length := by omega
          rw [RetS_body]
          simp only [asg_nm, OptP_some, List.set_cons_succ, List.set_cons_zero, RetS_cons]
          have su := rL_sub (f := ac) (k := 1 + u) (by omega)
          rw [show ((1 + u : Nat) : Int) = (u : Int) + 1 by omega] at su
          have uP := rL_sub (f := PP) hup
          have mP : (PP).getD u 0 ∈ PP := by
            rw [List.getD_eq_getElem?_getD, List.getElem?_eq_getElem hup]
            exact List.getElem_mem hup
          have eB : Bd 4000 (ac.getD (1 + u) 0) := (s1 (1 + u)).bd R0 two R1
          have qN := p2 _ mP
          have qB : Bd 4000 (q * (PP).getD u 0) := qN.bd R0 (Nat.lt_of_le_of_lt (Nat.le_add_right _ _) two) R1
          have b1 := bP _ mP
          rw [stix_val (m := w.length) (j := 1 + u) (v := nD (ac.getD (1 + u) 0 + q * (PP).getD u 0)) (acc := rM ac) rfl (by
            refine Ret.eq (X := fun _ _ _ => False) ?_ (fun _ _ _ h => h)
            simp
            omega) last_get (by rw [rM_len]; omega) (by
            refine Ret.eq (X := fun _ _ _ => False) ?_ (fun _ _ _ h => h)
            generalize ac.getD (1 + u) 0 = y at su eB ⊢
            generalize (PP).getD u 0 = b at uP b1 qB ⊢
            simp [su, uP, hm _ _ _ bq b1, ha _ _ _ eB qB]), last_set, rM_set]
          simp only [sq_next, evS_nil, RetS_mk, loopK_next]
          obtain ⟨t1, t2⟩ := aN_set s1 (j := 1 + u) s2 qN
          exact ⟨_, _, rfl, by rw [List.length_set]; exact acl, by rw [← hi, dropR_get hup]; rfl, t1, fun i hi => t2 i (by omega), rfl⟩
        · rintro σ w1 ⟨ac, x10, rfl, acl, hi, s1, s2, rfl⟩
          rw [List.length_map, List.length_range, ← pl, List.drop_length] at hi
          exact ⟨x10, by rw [← hi]; rfl, rfl⟩
      rintro σ w1 ⟨x10', rfl, rfl⟩
      simp only [RetS_cons, evS_asgN, RetS_onE, ev_frz, Ret_bind, Ret_ofO, slot_cons0, slot_cons, OptP_some, frzW, last_get, Ret_ok, last_set, RetS_mk, sq_next, evS_nil, loopK_next, List.set_cons_succ, List.set_cons_zero]
      exact ⟨js ++ [.dead], _, _, _, _, _, _, by rw [hwj, List.append_assoc], rfl⟩
    · rintro σ w ⟨js, x3, x8, x9, x10, x13, x14, rfl, rfl⟩
      rw [List.length_map, List.length_range]
      exact ⟨js, _, _, _, _, _, _, _, rfl, rfl⟩
  rintro σ w ⟨js, x3, x6, x8, x9, x10, x13, x14, rfl, rfl⟩
  have kt2 : f.length * (t + 2) ≤ 20 * 102 := Nat.mul_le_mul (by omega) (by omega)
  have kt3 : t * f.length ≤ 100 * 20 := Nat.mul_le_mul (by omega) (by omega)
  have tN := tt_N hf hp hq hC f.length (Nat.le_refl _)
  have tl : (ttR p q f f.length).length = f.length := tt_len p q f f.length
  have Q0 : C ^ f.length ≠ 0 := Int.pow_ne_zero c0
  have Q1 : (C ^ f.length).natAbs < 2 ^ 4000 := pow_le hC (by omega)
  have M1 : 2 ^ (A + f.length * (t + 2)) < 2 ^ 4000 := two_lt (by omega)
  generalize 2 ^ (A + f.length * (t + 2)) = M at *
  generalize C ^ f.length = Q at *
  generalize ttR p q f f.length = T at *
  have dq : ∀ r ∈ T, r.den ∣ Q.natAbs := fun r hr => den_dvd (aN_mem.mp tN r hr)
  have lr : (rM T).length = T.length := rM_len
  obtain ⟨wj, hwj⟩ : ∃ wj, wj = w' ++ js := ⟨_, rfl⟩
  rw [← hwj]
  rw [RetS_cons]
  refine RetS.nx (M := fun σ w => w = wj ∧ σ = [some (.d (iT f)), some (.d (nD p)), some (.d (nD q)), x3, some (.d (.int ((1 : Nat) : Int))), some (.d (.list (rM T))), x6, some (.d (.int ((f.length : Int) - 1))), x8, x9, x10, none, none, x13, x14]) ?_ ?_
  · simp
  rintro σ w ⟨rfl, rfl⟩
  rw [RetS_cons]
  refine RetS.nx (M := fun σ w1 => w1 = w ∧ ∃ x11 x12, σ = [some (.d (iT f)), some (.d (nD p)), some (.d (nD q)), x3, some (.d (.int (lcmR T : Int))), some (.d (.list (rM T))), x6, some (.d (.int ((f.length : Int) - 1))), x8, x9, x10, x11, x12, x13, x14]) ?_ ?_
  · rw [RetS_for, Ret_seq]
    simp only [ev_var, Ret_ofO, slot_cons0, slot_cons, OptP_some, toIt_l, forP_dat]
    refine ⟨by rw [rM_len]; exact okl _ (by omega), ?_⟩
    refine forL_inv (fun k σ w1 => w1 = w ∧ ∃ (u : Nat) (x11 x12 : Option IV), (T.drop k).foldl (fun k r => Nat.lcm k r.den) u = lcmR T ∧ u ∣ Q.natAbs ∧ σ = [some (.d (iT f)), some (.d (nD p)), some (.d (nD q)), x3, some (.d (.int (u : Int))), some (.d (.list (rM T))), x6, some (.d (.int ((f.length : Int) - 1))), x8, x9, x10, x11, x12, x13, x14])
      ⟨rfl, 1, _, _, rfl, Nat.one_dvd _, rfl⟩ ?_ ?_
    · rintro k z σ w1 hz ⟨rfl, u, x11, x12, he, hu, rfl⟩
      have hk : k < T.length := by
        have := (List.getElem?_eq_some_iff.mp hz).1
        simpa using this
      rw [rM_get hk] at hz
      cases hz
      have hm : T.getD k 0 ∈ T := by
        rw [List.getD_eq_getElem?_getD, List.getElem?_eq_getElem hk]
        exact List.getElem_mem hk
      have dr := dq _ hm
      have he' := he
      rw [dropR_get hk] at he'
      generalize T.getD k 0 = r at *
      have dp := den_pos r
      have u1 : u < 2 ^ 4000 := Nat.lt_of_le_of_lt (Nat.le_of_dvd (by omega) hu) Q1
      have u2 : r.den < 2 ^ 4000 := Nat.lt_of_le_of_lt (Nat.le_of_dvd (by omega) dr) Q1
      have c1 := hl (u : Int) (r.den : Int) w1 dp u2 u1
      have x1 : ∀ r : Rat, subD (nD r) (.int 1) = some (.int (r.den : Int)) := fun _ => tub_1
      have ll := lcm_low (u := u) (d := r.den) (by omega)
      have ul : Nat.lcm u r.den ∣ Q.natAbs := Nat.lcm_dvd hu dr
      have bd : ((((u : Int) : Rat) / ((r.den : Int) : Rat)).den) < 2 ^ 4000 := by
        have h1 := Bd_div (A := 4000) (t := (u : Int)) (b := (r.den : Int)) dp u1 u2
        exact h1.2
      have o1 : okI (u : Int) = true := okI_pow (m := 4000) u1 (by decide)
      have o2 : okI (((((u : Int) : Rat) / ((r.den : Int) : Rat)).den : Nat) : Int) = true := okI_pow (m := 4000) bd (by decide)
      generalize ((u : Int) : Rat) / ((r.den : Int) : Rat) = v at *
      rw [RetS_body]
      rw [show nD r = .tuple [.int r.num, .int (r.den : Int)] from rfl]
      simp [c1, x1, o1, o2, ll]
      exact ⟨_, he', ul, rfl⟩
    · rintro σ w1 ⟨rfl, u, x11, x12, he, hu, rfl⟩
      rw [rM_len, List.drop_length] at he
      have he' : u = lcmR T := he
      rw [← he']
      exact ⟨rfl, x11, x12, rfl⟩
  rintro σ w1 ⟨rfl, x11, x12, rfl⟩
  have hK := lcmR_lt tN Q0 Q1
  have e : compL (elF (isNil .nil) (.tup (.cons (.nm 11) (.cons (.nm 12) .nil))) (ev E .nil) (ev E (.bin .Mult (.var 11) (.bin .FloorDiv (.var 4) (.var 12)))) (wip [some (.d (iT f)), some (.d (nD p)), some (.d (nD q)), x3, some (.d (.int (lcmR T : Int))), some (.d (.list (rM T))), x6, some (.d (.int ((f.length : Int) - 1))), x8, x9, x10, x11, x12, x13, x14] [11, 12])) (rM T) w1 = .ok (iM (whI (lcmR T) T)) w1 := by
    show compL _ (T.map nD) w1 = _
    rw [compL_of (k := fun r => PyData.int (r.num * (lcmR T : Int).fdiv (r.den : Int)))]
    · unfold whI iM
      rw [List.map_map]; rfl
    · intro r hr
      obtain ⟨c1, c2, c3⟩ := wh_calc (aN_mem.mp tN r hr) Q0 Q1 M1 hK
      refine Ret.eq (X := fun _ _ _ => False) ?_ (fun _ _ _ h => h)
      rw [show isNil .nil = true from rfl, Ret_elT]
      rw [show nD r = .tuple [.int r.num, .int (r.den : Int)] from rfl]
      simp [wip, c1, c2, c3]
  have st := ht (whI (lcmR T) T) w1 (by unfold whI; rw [List.length_map]; omega)
  simp only [RetS_cons, evS_ret, RetS_onE, ev_call, Ret_bind, evA_cons, evA_nil, Ret_comp, Ret_seq, ev_var, Ret_ofO, slot_cons0, slot_cons, OptP_some, toIt_l, compP_dat, lr, okl _ (show T.length ≤ 1000 by omega), true_and, e, Ret_ok, st, RetS_mk, sq_ret, finK_d]
  rw [hwj, List.take_append_of_le_length (Nat.le_refl _), List.take_length]
end
end Pv

/-! Part Sf: what is moved, there and back. -/
namespace Pv
open PySem
theorem Bd_mul {A B : Nat} {r s : Rat} (hr : Bd A r) (hs : Bd B s) : Bd (A + B) (r * s) := by
  rw [← rat_times]
  refine Bd_div (Int.mul_pos (den_pos r) (den_pos s)) (lt_mul hr.1 hs.1) ?_
  exact lt_mul (a := (r.den : Int)) (b := (s.den : Int)) hr.2 hs.2
theorem Bd.mono {A B : Nat} {r : Rat} (h : Bd A r) (hAB : A ≤ B) : Bd B r := ⟨Nat.lt_of_lt_of_le h.1 (Nat.pow_le_pow_right (by decide) hAB), Nat.lt_of_lt_of_le h.2 (Nat.pow_le_pow_right (by decide) hAB)⟩
theorem Bd_neg {A : Nat} {r : Rat} (h : Bd A r) : Bd A (-r) := by
  refine ⟨?_, h.2⟩
  show (-r.num).natAbs < _
  rw [Int.natAbs_neg]; exact h.1
theorem num_ne {r : Rat} (h : r ≠ 0) : r.num ≠ 0 := fun z => h (Rat.num_eq_zero.mp z)
/-- 1 over a number, as the law makes it -/
theorem inv_nD {r : Rat} (h : r ≠ 0) : (if 0 < r.num then (.tuple [.int (r.den : Int), .int r.num] : D) else .tuple [.int (-(r.den : Int)), .int (-r.num)]) = nD (1 / r) := by
  have hn := num_ne h
  have hd := den_pos r
  have e := rat_nd r
  have hd' : ((r.den : Int) : Rat) ≠ 0 := by
    intro z; have : (r.den : Int) = 0 := by exact_mod_cast z
    omega
  have hn' : (r.num : Rat) ≠ 0 := by
    intro z; exact hn (by exact_mod_cast z)
  have co : Int.gcd (r.den : Int) r.num = 1 := by
    have := r.reduced
    unfold Nat.Coprime at this
    rw [Int.gcd, Int.natAbs_natCast, Nat.gcd_comm]
    exact this
  split
  · rename_i hp
    rw [nD_of hp co]
    congr 1
    generalize ((r.den : Int) : Rat) = y at *
    generalize (r.num : Rat) = x at *
    subst e
    grind
  · rename_i hp
    rw [nD_of (by omega) (by rw [Int.gcd_neg, Int.neg_gcd]; exact co), Rat.intCast_neg, Rat.intCast_neg]
    congr 1
    generalize ((r.den : Int) : Rat) = y at *
    generalize (r.num : Rat) = x at *
    subst e
    grind
theorem Bd_inv {A : Nat} {r : Rat} (h : Bd A r) (h0 : r ≠ 0) : Bd A (1 / r) := by
  have hn := num_ne h0
  have hd := den_pos r
  have e := inv_nD h0
  unfold Bd at *
  split at e
  · unfold nD at e
    injection e with e
    injection e with e1 e2
    injection e2 with e2 _
    injection e1 with e1
    injection e2 with e2
    rw [← e1]
    refine ⟨?_, ?_⟩
    · rw [Int.natAbs_natCast]; exact h.2
    · have : (1 / r).den = r.num.natAbs := by omega
      rw [this]; exact h.1
  · unfold nD at e
    injection e with e
    injection e with e1 e2
    injection e2 with e2 _
    injection e1 with e1
    injection e2 with e2
    rw [← e1]
    refine ⟨?_, ?_⟩
    · rw [Int.natAbs_neg, Int.natAbs_natCast]; exact h.2
    · have : (1 / r).den = r.num.natAbs := by omega
      rw [this]; exact h.1
theorem nD_neg (r : Rat) : (.tuple [.int (-r.num), .int (r.den : Int)] : D) = nD (-r) := rfl
theorem isN_den {A : Nat} {r : Rat} (h : Bd A r) (c : Nat) (B : Nat) (hc : c < 2 ^ B) : isN ((r.den : Int) * (c : Int)) (2 ^ (A + B)) r := by
  refine ⟨r.num * (c : Int), ?_, ?_⟩
  · have e := rat_nd r
    have hd' : ((r.den : Int) : Rat) ≠ 0 := by
      intro z; have : (r.den : Int) = 0 := by exact_mod_cast z
      have := den_pos r
      omega
    rw [Rat.intCast_mul, Rat.intCast_mul]
    have h3 : r * ((r.den : Int) : Rat) = (r.num : Rat) := by
      have h4 : ((r.num : Rat) / ((r.den : Int) : Rat)) * ((r.den : Int) : Rat) = (r.num : Rat) := by grind
      rwa [← e] at h4
    rw [← h3]; grind
  · exact Nat.le_of_lt (lt_mul h.1 (by rw [Int.natAbs_natCast]; exact hc))
theorem MvOk_of {A B t : Nat} {f : List Int} {p q : Rat} (hf : Sm A f) (hp : Bd B p) (hq : Bd B q) (lf : f.length ≤ 20) (hA : A ≤ 1000) (ht : t = B + B) (ht1 : t ≤ 100) : MvOk f p q A t ((p.den : Int) * (q.den : Int)) := by
  subst ht
  refine ⟨fun a ha => Nat.le_of_lt (hf a ha), isN_den hp q.den B hq.2, ?_, ?_, ?_, lf, hA, ht1⟩
  · rw [Int.mul_comm]
    exact isN_den hq p.den B hp.2
  · exact Int.mul_ne_zero (by have := den_pos p; omega) (by have := den_pos q; omega)
  · exact Nat.le_of_lt (lt_mul (a := (p.den : Int)) (b := (q.den : Int)) hp.2 hq.2)
/-- what moved tells -/
def mvI (p q : Rat) (f : List Int) : List Int := whI (lcmR (mvR [p, q] f [])) (mvR [p, q] f [])
section
variable {A t : Nat} {C : Int} {f : List Int} {p q : Rat}
theorem vl_two (p q x : Rat) : vl [p, q] x = p * x + q := by
  rw [vl_cons, vl_cons, vl_nil]
  show p * x ^ 1 + (q * x ^ 0 + 0) = _
  rw [Rat.pow_zero, show x ^ 1 = x by rw [Rat.pow_succ, Rat.pow_zero, Rat.one_mul]]
  grind
theorem mv_val (x : Rat) : vl (mvR [p, q] f []) x = vl (toR f) (p * x + q) := by
  rw [mvR_vl, vl_two, vl_nil]; grind
theorem mv_Hd : HdR (mvR [p, q] f []) := HdR_mv _ _ _ fun a h => by cases h
theorem moved_same : stripI (whI (lcmR (ttR p q f f.length)) (ttR p q f f.length)) = mvI p q f := by
  have e : strip (ttR p q f f.length) = mvR [p, q] f [] := by
    rw [← strip_HdR (mv_Hd (p := p) (q := q) (f := f))]
    refine vl_inj fun x => ?_
    rw [tt_vl p q x f f.length (Nat.le_refl _), Nat.sub_self, mv_val]
    rfl
  rw [wh_strip lcmR_pos _ fun r hr => lcmR_den hr, ← lcmR_strip, e]
  rfl
theorem mvI_Hd : HdI (mvI p q f) := HdI_wh lcmR_pos mv_Hd fun r hr => lcmR_den hr
theorem mvI_val (x : Rat) : vl (toR (mvI p q f)) x = (lcmR (mvR [p, q] f []) : Rat) * vl (toR f) (p * x + q) := by
  unfold mvI
  rw [toR_wh fun r hr => lcmR_den hr, vl_scale, mv_val]
theorem mvI_Sm (hN : aN (C ^ f.length) (2 ^ (A + f.length * (t + 6))) (mvR [p, q] f [])) (c0 : C ≠ 0) : Sm (A + f.length * (t + 6) + 1) (mvI p q f) := by
  intro a ha
  obtain ⟨r, hr, rfl⟩ := List.mem_map.mp ha
  have := wh_abs (lcmR_dvd hN) (Int.pow_ne_zero c0) (lcmR_den hr) (aN_mem.mp hN r hr)
  rw [Nat.pow_succ]
  have h2 := Nat.two_pow_pos (A + f.length * (t + 6))
  omega
theorem mvI_len (h : (mvR [p, q] f []).length ≤ f.length) : (mvI p q f).length ≤ f.length := by
  unfold mvI whI
  rw [List.length_map]; exact h
/-- there and back -/
theorem moved_back (df : HdI f) (p0 : p ≠ 0) : ∃ c : Rat, toR (mvI (1 / p) (-(1 / p * q)) (mvI p q f)) = (toR f).map (c * ·) := by
  obtain ⟨k, hk, hk0⟩ : ∃ k : Nat, k = lcmR (mvR [p, q] f []) ∧ 0 < k := ⟨_, rfl, lcmR_pos⟩
  obtain ⟨l, hl, hl0⟩ : ∃ l : Nat, l = lcmR (mvR [1 / p, -(1 / p * q)] (mvI p q f) []) ∧ 0 < l := ⟨_, rfl, lcmR_pos⟩
  refine ⟨(l : Rat) * (k : Rat), vl_eq (HdR_toR mvI_Hd) ?_ fun x => ?_⟩
  · have c0 : (l : Rat) * (k : Rat) ≠ 0 := by
      intro z
      rcases Rat.mul_eq_zero.mp z with z | z
      · have : l = 0 := by exact_mod_cast z
        omega
      · have : k = 0 := by exact_mod_cast z
        omega
    have hh := HdR_toR df
    cases hf : toR f with
    | nil => intro a h; cases h
    | cons b g =>
      intro a h
      cases h
      intro z
      rcases Rat.mul_eq_zero.mp z with z | z
      · exact c0 z
      · rw [hf] at hh
        exact hh b rfl z
  · rw [mvI_val, mvI_val, vl_scale, ← hk, ← hl]
    have : p * (1 / p * x + -(1 / p * q)) + q = x := by grind
    rw [this]; grind
end
end Pv

/-! Part Ta: contents of rows of integers; the lemma of Gauss. -/
namespace Pv
open PySem
def cont (f : List Int) : Nat := f.foldl (fun c a => Nat.gcd c a.natAbs) 0
theorem cont_fold : ∀ (f : List Int) (k : Nat), (∀ a ∈ f, f.foldl (fun c a => Nat.gcd c a.natAbs) k ∣ a.natAbs) ∧ f.foldl (fun c a => Nat.gcd c a.natAbs) k ∣ k ∧ ∀ d, d ∣ k → (∀ a ∈ f, d ∣ a.natAbs) → d ∣ f.foldl (fun c a => Nat.gcd c a.natAbs) k
  | [], k => ⟨(fun a h => by cases h), Nat.dvd_refl k, fun d h _ => h⟩
  | a :: f, k => by
    obtain ⟨h1, h2, h3⟩ := cont_fold f (Nat.gcd k a.natAbs)
    refine ⟨fun b hb => ?_, Nat.dvd_trans h2 (Nat.gcd_dvd_left ..), fun d hk hd => ?_⟩
    · rcases List.mem_cons.mp hb with rfl | hb
      · exact Nat.dvd_trans h2 (Nat.gcd_dvd_right ..)
      · exact h1 b hb
    · exact h3 d (Nat.dvd_gcd hk (hd a List.mem_cons_self)) fun b hb => hd b (List.mem_cons_of_mem _ hb)
theorem cont_dvd {f : List Int} {a : Int} (h : a ∈ f) : (cont f : Int) ∣ a := Int.ofNat_dvd_left.mpr ((cont_fold f 0).1 a h)
theorem dvd_cont {f : List Int} {d : Nat} (h : ∀ a ∈ f, (d : Int) ∣ a) : d ∣ cont f := (cont_fold f 0).2.2 d (Nat.dvd_zero d) fun a ha => Int.ofNat_dvd_left.mp (h a ha)
theorem cont_scl (k : Int) (f : List Int) : cont (f.map (k * ·)) = k.natAbs * cont f := by
  have : ∀ (f : List Int) (c : Nat), (f.map (k * ·)).foldl (fun c a => Nat.gcd c a.natAbs) (k.natAbs * c) = k.natAbs * f.foldl (fun c a => Nat.gcd c a.natAbs) c := by
    intro f
    induction f with
    | nil => exact fun _ => rfl
    | cons a f ih =>
      intro c
      show (f.map (k * ·)).foldl _ (Nat.gcd (k.natAbs * c) (k * a).natAbs) = _
      rw [Int.natAbs_mul, Nat.gcd_mul_left, ih]
      rfl
  have := this f 0
  rwa [Nat.mul_zero] at this
theorem cont_pos {f : List Int} (h : HdI f) (hn : f ≠ []) : 0 < cont f := by
  cases f with
  | nil => exact absurd rfl hn
  | cons a f =>
    have h1 := cont_dvd (f := a :: f) List.mem_cons_self
    rcases Nat.eq_zero_or_pos (cont (a :: f)) with z | z
    · rw [z] at h1
      exact absurd (Int.zero_dvd.mp h1) (h a rfl)
    · exact z
def prim (f : List Int) : List Int := f.map fun a => a.fdiv (cont f : Int)
theorem prim_len (f : List Int) : (prim f).length = f.length := List.length_map ..
theorem fdiv_mul' {a c : Int} (h : c ∣ a) : c * a.fdiv c = a := Int.mul_fdiv_cancel' h
theorem prim_eq (f : List Int) : (prim f).map ((cont f : Int) * ·) = f := by
  unfold prim
  rw [List.map_map]
  conv => rhs; rw [← List.map_id f]
  exact List.map_congr_left fun a ha => fdiv_mul' (cont_dvd ha)
theorem cont_prim {f : List Int} (h : HdI f) (hn : f ≠ []) : cont (prim f) = 1 := by
  have h1 := cont_scl (cont f : Int) (prim f)
  rw [prim_eq, Int.natAbs_natCast] at h1
  have h2 := cont_pos h hn
  exact Nat.eq_of_mul_eq_mul_left h2 (by rw [← h1, Nat.mul_one])
theorem toR_scl (k : Int) (f : List Int) : toR (f.map (k * ·)) = (toR f).map ((k : Rat) * ·) := by
  unfold toR
  rw [List.map_map, List.map_map]
  exact List.map_congr_left fun a _ => Rat.intCast_mul k a
theorem prim_vl (f : List Int) (x : Rat) : vl (toR f) x = (cont f : Rat) * vl (toR (prim f)) x := by
  conv => lhs; rw [← prim_eq f, toR_scl, vl_scale]
  rfl
theorem HdI_prim {f : List Int} (h : HdI f) : HdI (prim f) := by
  cases f with
  | nil => intro a q; cases q
  | cons b f =>
    intro a q
    cases q
    intro z
    have z' : b.fdiv (cont (b :: f) : Int) = 0 := z
    have := fdiv_mul' (cont_dvd (f := b :: f) (List.mem_cons_self))
    rw [z', Int.mul_zero] at this
    exact h b rfl this.symm
theorem Sm_prim {B : Nat} {f : List Int} (h : Sm B f) : Sm B (prim f) := fun a ha => by
  obtain ⟨b, hb, rfl⟩ := List.mem_map.mp ha
  have h1 := h b hb
  rw [Int.fdiv_eq_ediv_of_nonneg _ (Int.natCast_nonneg _)]
  exact Nat.lt_of_le_of_lt (Int.natAbs_ediv_le_natAbs ..) h1
/-- two rows without a divisor of which one is a positive multiple of the other are the same -/
theorem prim_uniq {a b : List Int} (ha : HdI a) (hb : HdI b) (ca : cont a = 1) (cb : cont b = 1) {c : Rat} (hc : 0 < c) (h : ∀ x, vl (toR a) x = c * vl (toR b) x) : a = b := by
  have cn : c ≠ 0 := fun z => by rw [z] at hc; exact absurd hc (by decide)
  have e : toR a = (toR b).map (c * ·) := vl_eq (HdR_toR ha) (by
    have hh := HdR_toR hb
    cases hf : toR b with
    | nil => intro a h; cases h
    | cons b g =>
      intro a h
      cases h
      intro z
      rw [hf] at hh
      rcases Rat.mul_eq_zero.mp z with z | z
      · exact cn z
      · exact hh b rfl z) fun x => by rw [h, vl_scale]
  have dp := den_pos c
  have hd : ((c.den : Int) : Rat) ≠ 0 := by
    intro z; have : (c.den : Int) = 0 := by exact_mod_cast z
    omega
  have hcd : ((c.den : Int) : Rat) * c = (c.num : Rat) := by
    have e := rat_nd c
    have h4 : ((c.den : Int) : Rat) * ((c.num : Rat) / ((c.den : Int) : Rat)) = (c.num : Rat) := by grind
    rwa [← e] at h4
  have e2 : a.map ((c.den : Int) * ·) = b.map (c.num * ·) := toR_inj (by
    rw [toR_scl, toR_scl, e, List.map_map]
    refine List.map_congr_left fun y _ => ?_
    show ((c.den : Int) : Rat) * (c * y) = (c.num : Rat) * y
    rw [← hcd]; grind)
  have e3 : c.den = c.num.natAbs := by
    have := congrArg cont e2
    rw [cont_scl, cont_scl, ca, cb, Int.natAbs_natCast, Nat.mul_one, Nat.mul_one] at this
    exact this
  have np : 0 < c.num := by
    have h1 := Rat.num_nonneg.mpr (Rat.le_of_lt hc)
    have h2 := num_ne cn
    omega
  have e4 : c.num = (c.den : Int) := by omega
  have e5 : c = 1 := by
    have e6 := rat_nd c
    rw [e4] at e6
    rw [e6]; grind
  refine toR_inj ?_
  rw [e, e5]
  conv => rhs; rw [← List.map_id (toR b)]
  exact List.map_congr_left fun y _ => Rat.one_mul y
/-! the lemma of Gauss -/
def dvdI (p : Nat) (f : List Int) : Prop := ∃ k : List Int, ∀ x, vl (toR f) x = (p : Rat) * vl (toR k) x
theorem mem_strip {f : List Int} {a : Int} (h : a ∈ f) : a = 0 ∨ a ∈ stripI f := by
  induction f with
  | nil => cases h
  | cons b f ih =>
    show _ ∨ a ∈ (b :: f).dropWhile is0
    rw [List.dropWhile_cons]
    split
    · rename_i hb
      have hb' : b = 0 := by simpa [is0] using hb
      rcases List.mem_cons.mp h with rfl | h
      · exact .inl hb'
      · exact ih h
    · exact .inr h
theorem dvd_all {p : Nat} {f : List Int} (h : dvdI p f) {a : Int} (ha : a ∈ f) : (p : Int) ∣ a := by
  obtain ⟨k, hk⟩ := h
  have e : stripI f = stripI (k.map ((p : Int) * ·)) := toR_inj (by
    rw [toR_strip, toR_strip]
    refine vl_inj fun x => ?_
    rw [hk, toR_scl, vl_scale]
    rfl)
  rcases mem_strip ha with rfl | h
  · exact Int.dvd_zero _
  · rw [e] at h
    obtain ⟨b, _, rfl⟩ := List.mem_map.mp (List.Sublist.mem h (List.dropWhile_sublist _))
    exact Int.dvd_mul_right ..
theorem mulI_head (a b : Int) (f g : List Int) : (mulI (a :: f) (b :: g)).getD 0 0 = a * b := by
  show (outI (b :: g) f 1 (innI 0 a (b :: g) 0 (List.replicate ((a :: f).length + (b :: g).length - 1) 0))).getD 0 0 = _
  rw [outI_low _ _ _ _ 0 (by omega)]
  show (innI 0 a g 1 ((List.replicate _ (0 : Int)).set (0 + 0) ((List.replicate _ (0 : Int)).getD (0 + 0) 0 + a * b))).getD 0 0 = _
  rw [innI_low _ _ _ _ _ 0 (by omega), getD_set, if_pos ⟨rfl, by rw [List.length_replicate, List.length_cons, List.length_cons]; omega⟩]
  rw [List.length_cons, List.length_cons, show f.length + 1 + (g.length + 1) - 1 = (f.length + g.length) + 1 by omega, List.replicate_succ]
  show (0 : Int) + a * b = a * b
  omega
theorem vl_mono (a : Int) (n : Nat) (x : Rat) : vl (toR (a :: List.replicate n 0)) x = (a : Rat) * x ^ n := by
  show vl ((a : Rat) :: toR (List.replicate n 0)) x = _
  rw [vl_cons, vl_zeros, toR_len, List.length_replicate]; grind
theorem dvdI_tail {p : Nat} {a : Int} {f g : List Int} (ha : (p : Int) ∣ a) (h : dvdI p (mulI (a :: f) g)) : dvdI p (mulI f g) := by
  obtain ⟨c, rfl⟩ := ha
  obtain ⟨k, hk⟩ := h
  refine ⟨addI k (mulI ((-c) :: List.replicate f.length 0) g), fun x => ?_⟩
  have := hk x
  rw [mulI_vl] at this
  rw [mulI_vl, addI_vl, mulI_vl, vl_mono]
  have e : vl (toR (((p : Int) * c) :: f)) x = ((p : Int) : Rat) * (c : Rat) * x ^ f.length + vl (toR f) x := by
    show vl ((((p : Int) * c : Int) : Rat) :: toR f) x = _
    rw [vl_cons, toR_len, Rat.intCast_mul]
  rw [e] at this
  rw [Rat.intCast_neg]
  have pc : ((p : Int) : Rat) = (p : Rat) := rfl
  rw [pc] at this
  grind
theorem mulI_comm {f g : List Int} (hf : HdI f) (hg : HdI g) : mulI f g = mulI g f :=
  toR_inj (vl_eq (HdR_toR (HdI_mul hf hg)) (HdR_toR (HdI_mul hg hf)) fun x => by rw [mulI_vl, mulI_vl, Rat.mul_comm])
theorem dvdI_comm {p : Nat} {f g : List Int} (h : dvdI p (mulI f g)) : dvdI p (mulI g f) := by
  obtain ⟨k, hk⟩ := h
  exact ⟨k, fun x => by rw [← hk x, mulI_vl, mulI_vl, Rat.mul_comm]⟩
theorem gauss {p : Nat} (hp : ∀ a b : Int, (p : Int) ∣ a * b → (p : Int) ∣ a ∨ (p : Int) ∣ b) : ∀ (n : Nat) (f g : List Int), f.length + g.length ≤ n → dvdI p (mulI f g) → (∀ a ∈ f, (p : Int) ∣ a) ∨ (∀ b ∈ g, (p : Int) ∣ b)
  | _, [], _, _, _ => .inl fun a h => by cases h
  | _, _ :: _, [], _, _ => .inr fun a h => by cases h
  | 0, a :: f, b :: g, hn, _ => by simp at hn
  | n + 1, a :: f, b :: g, hn, h => by
    rw [List.length_cons, List.length_cons] at hn
    have hm : (mulI (a :: f) (b :: g)).getD 0 0 ∈ mulI (a :: f) (b :: g) := getD_mem (by rw [mulI_len (by simp) (by simp), List.length_cons, List.length_cons]; omega)
    have h1 := dvd_all h hm
    rw [mulI_head] at h1
    rcases hp a b h1 with ha | hb
    · rcases gauss hp n f (b :: g) (by rw [List.length_cons]; omega) (dvdI_tail ha h) with q | q
      · refine .inl fun c hc => ?_
        rcases List.mem_cons.mp hc with rfl | hc
        · exact ha
        · exact q c hc
      · exact .inr q
    · rcases gauss hp n (a :: f) g (by rw [List.length_cons]; omega) (dvdI_comm (dvdI_tail hb (dvdI_comm h))) with q | q
      · exact .inl q
      · refine .inr fun c hc => ?_
        rcases List.mem_cons.mp hc with rfl | hc
        · exact hb
        · exact q c hc
theorem prime_div {n : Nat} (h : n ≠ 1) : ∃ p : Nat, 1 < p ∧ p ∣ n ∧ ∀ a b : Int, (p : Int) ∣ a * b → (p : Int) ∣ a ∨ (p : Int) ∣ b := by
  have ex : ∃ d, 1 < d ∧ d ∣ n := by
    by_cases z : n = 0
    · exact ⟨2, by decide, by rw [z]; exact Nat.dvd_zero 2⟩
    · exact ⟨n, by omega, Nat.dvd_refl n⟩
  have mn : ∀ m d : Nat, d ≤ m → 1 < d → d ∣ n → ∃ p : Nat, 1 < p ∧ p ∣ n ∧ ∀ e, 1 < e → e ∣ n → p ≤ e := by
    intro m
    induction m with
    | zero => intro d h1 h2 _; omega
    | succ m ih =>
      intro d h1 h2 h3
      by_cases q : ∃ e, 1 < e ∧ e ∣ n ∧ e < d
      · obtain ⟨e, e1, e2, e3⟩ := q
        exact ih e (by omega) e1 e2
      · refine ⟨d, h2, h3, fun e e1 e2 => ?_⟩
        by_cases z : d ≤ e
        · exact z
        · exact absurd ⟨e, e1, e2, by omega⟩ q
  obtain ⟨d, d1, d2⟩ := ex
  obtain ⟨p, p1, p2, p3⟩ := mn d d (Nat.le_refl d) d1 d2
  refine ⟨p, p1, p2, fun a b hab => ?_⟩
  by_cases ha : (p : Int) ∣ a
  · exact .inl ha
  · right
    have g1 : Nat.gcd p a.natAbs = 1 := by
      by_cases z : 1 < Nat.gcd p a.natAbs
      · have := p3 _ z (Nat.dvd_trans (Nat.gcd_dvd_left ..) p2)
        have g2 : Nat.gcd p a.natAbs = p := Nat.le_antisymm (Nat.le_of_dvd (by omega) (Nat.gcd_dvd_left ..)) this
        have g3 := Nat.gcd_dvd_right p a.natAbs
        rw [g2] at g3
        exact absurd (Int.ofNat_dvd_left.mpr g3) ha
      · have := Nat.gcd_pos_of_pos_left a.natAbs (show 0 < p by omega)
        omega
    have h2 : p ∣ a.natAbs * b.natAbs := by
      rw [← Int.natAbs_mul]
      exact Int.ofNat_dvd_left.mp hab
    exact Int.ofNat_dvd_left.mpr (Nat.Coprime.dvd_of_dvd_mul_left g1 h2)
theorem cont_mul {f g : List Int} (hf : cont f = 1) (hg : cont g = 1) : cont (mulI f g) = 1 := by
  by_cases h : cont (mulI f g) = 1
  · exact h
  · obtain ⟨p, p1, p2, p3⟩ := prime_div h
    have hd : dvdI p (mulI f g) := by
      obtain ⟨c, hc⟩ := p2
      refine ⟨(prim (mulI f g)).map ((c : Int) * ·), fun x => ?_⟩
      rw [prim_vl, hc, toR_scl, vl_scale, Rat.natCast_mul]
      show (p : Rat) * (c : Rat) * _ = (p : Rat) * ((c : Rat) * _)
      grind
    rcases gauss p3 _ f g (Nat.le_refl _) hd with q | q
    · have := dvd_cont q
      rw [hf] at this
      have := Nat.le_of_dvd (by decide) this
      omega
    · have := dvd_cont q
      rw [hg] at this
      have := Nat.le_of_dvd (by decide) this
      omega
/-- the primitive row of a product -/
theorem prim_mul {e r L : List Int} {c : Rat} (hc : 0 < c) (he : cont e = 1) (de : HdI e) (dr : HdI r) (nr : r ≠ []) (dL : HdI L) (nL : L ≠ []) (h : ∀ x, vl (toR L) x = c * (vl (toR e) x * vl (toR r) x)) : prim L = mulI e (prim r) := by
  have c1 := cont_pos dr nr
  have c2 := cont_pos dL nL
  have k1 : (0 : Rat) < (cont r : Rat) := by exact_mod_cast c1
  have k2 : (0 : Rat) < (cont L : Rat) := by exact_mod_cast c2
  refine prim_uniq (HdI_prim dL) (HdI_mul de (HdI_prim dr)) (cont_prim dL nL) (cont_mul he (cont_prim dr nr)) (c := c * (cont r : Rat) / (cont L : Rat)) (by rw [Rat.div_def]; exact Rat.mul_pos (Rat.mul_pos hc k1) (Rat.inv_pos.mpr k2)) fun x => ?_
  have h1 := h x
  rw [prim_vl L, prim_vl r] at h1
  rw [mulI_vl]
  have k3 : (cont L : Rat) ≠ 0 := fun z => by rw [z] at k2; exact absurd k2 (by decide)
  generalize (cont L : Rat) = l at *
  generalize (cont r : Rat) = m at *
  grind
end Pv

/-! Part Tb: divisors of rows, greatest ones; rows without a common one; bare rows. -/
namespace Pv
open PySem
def Dv (d f : List Rat) : Prop := ∃ h, ∀ x, vl f x = vl d x * vl h x
def IsG (f g d : List Rat) : Prop := Dv d f ∧ Dv d g ∧ ∃ u v, ∀ x, vl d x = vl u x * vl f x + vl v x * vl g x
theorem vl_c (c x : Rat) : vl [c] x = c := by
  rw [vl_cons, vl_nil]
  show c * x ^ 0 + 0 = c
  rw [Rat.pow_zero]; grind
theorem IsG.comm {f g d : List Rat} (h : IsG f g d) : IsG g f d := by
  obtain ⟨h1, h2, u, v, h3⟩ := h
  exact ⟨h2, h1, v, u, fun x => by rw [h3 x]; grind⟩
theorem IsG_nil (f : List Rat) : IsG f [] f := ⟨⟨[1], fun x => by rw [vl_c]; grind⟩, ⟨[], fun x => by rw [vl_nil]; grind⟩, [1], [], fun x => by rw [vl_c, vl_nil]; grind⟩
theorem IsG.step {f g r q d : List Rat} {s : Rat} (hs : s ≠ 0) (h : ∀ x, vl f x = vl q x * vl g x + s * vl r x) (hd : IsG g r d) : IsG f g d := by
  obtain ⟨⟨a, h1⟩, ⟨b, h2⟩, u, v, h3⟩ := hd
  refine ⟨⟨addR (mulR q a) (b.map (s * ·)), fun x => ?_⟩, ⟨a, h1⟩, v.map ((1 / s) * ·), addR u ((mulR v q).map ((-(1 / s)) * ·)), fun x => ?_⟩
  · rw [addR_vl, mulR_vl, vl_scale, h x, h1 x, h2 x]; grind
  · rw [addR_vl, vl_scale, vl_scale, mulR_vl, h3 x, h x]; grind
theorem IsG.val {f g d f' g' d' : List Rat} (h : IsG f g d) (hf : ∀ x, vl f' x = vl f x) (hg : ∀ x, vl g' x = vl g x) {c : Rat} (hc : c ≠ 0) (hd : ∀ x, vl d' x = c * vl d x) : IsG f' g' d' := by
  obtain ⟨⟨a, h1⟩, ⟨b, h2⟩, u, v, h3⟩ := h
  refine ⟨⟨a.map ((1 / c) * ·), fun x => ?_⟩, ⟨b.map ((1 / c) * ·), fun x => ?_⟩, u.map (c * ·), v.map (c * ·), fun x => ?_⟩
  · rw [vl_scale, hf, hd, h1 x]; grind
  · rw [vl_scale, hg, hd, h2 x]; grind
  · rw [vl_scale, vl_scale, hf, hg, hd, h3 x]; grind
/-- what both are multiplied by -/
theorem IsG.mul {f g d f' g' d' : List Rat} (e : List Rat) (h : IsG f g d) (hf : ∀ x, vl f' x = vl e x * vl f x) (hg : ∀ x, vl g' x = vl e x * vl g x) (hd : ∀ x, vl d' x = vl e x * vl d x) : IsG f' g' d' := by
  obtain ⟨⟨a, h1⟩, ⟨b, h2⟩, u, v, h3⟩ := h
  refine ⟨⟨a, fun x => ?_⟩, ⟨b, fun x => ?_⟩, u, v, fun x => ?_⟩
  · rw [hf, hd, h1 x]; grind
  · rw [hg, hd, h2 x]; grind
  · rw [hf, hg, hd, h3 x]; grind
theorem HdR_one {c : Rat} (h : c ≠ 0) : HdR [c] := fun a q => by cases q; exact h
/-- two greatest divisors are multiples of one another -/
theorem IsG_assoc {f g d e : List Rat} (h : IsG f g d) (k : IsG f g e) (dd : HdR d) (nd : d ≠ []) : ∃ c : Rat, c ≠ 0 ∧ ∀ x, vl e x = c * vl d x := by
  obtain ⟨⟨a, h1⟩, ⟨b, h2⟩, u, v, h3⟩ := h
  obtain ⟨⟨a', k1⟩, ⟨b', k2⟩, u', v', k3⟩ := k
  obtain ⟨p, hp⟩ : ∃ p, p = addR (mulR u' a) (mulR v' b) := ⟨_, rfl⟩
  obtain ⟨q, hq⟩ : ∃ q, q = addR (mulR u a') (mulR v b') := ⟨_, rfl⟩
  have pd : HdR p := by rw [hp]; exact HdR_strip _
  have qd : HdR q := by rw [hq]; exact HdR_strip _
  have e1 : ∀ x, vl e x = vl d x * vl p x := fun x => by rw [hp, addR_vl, mulR_vl, mulR_vl, k3 x, h1 x, h2 x]; grind
  have e2 : ∀ x, vl d x = vl e x * vl q x := fun x => by rw [hq, addR_vl, mulR_vl, mulR_vl, h3 x, k1 x, k2 x]; grind
  have e3 : mulR d (mulR p q) = d := vl_eq (HdR_mul dd (HdR_mul pd qd)) dd fun x => by rw [mulR_vl, mulR_vl, ← Rat.mul_assoc, ← e1, ← e2]
  have pn : p ≠ [] := fun z => by
    rw [z, show mulR [] q = [] from rfl, show mulR d [] = [] by unfold mulR; simp] at e3
    exact nd e3.symm
  have qn : q ≠ [] := fun z => by
    rw [z, show mulR p [] = [] by unfold mulR; simp, show mulR d [] = [] by unfold mulR; simp] at e3
    exact nd e3.symm
  have l1 := mulR_len pn qn
  have p0 := List.length_pos_iff.mpr pn
  have q0 := List.length_pos_iff.mpr qn
  have l2 := mulR_len nd (g := mulR p q) (fun z => by rw [z] at l1; simp at l1; omega)
  rw [e3] at l2
  have d0 := List.length_pos_iff.mpr nd
  have p1 : p.length = 1 := by omega
  match p, p1 with
  | [c], _ =>
    refine ⟨c, pd c rfl, fun x => ?_⟩
    rw [e1 x, vl_c, Rat.mul_comm]
theorem rat_pos {a c : Rat} {b : Int} {a' : Int} (h : (b : Rat) = c * (a' : Rat)) (hb : 0 < b) (ha : 0 < a') : 0 < c := by
  have h1 : (0 : Rat) < (b : Rat) := by exact_mod_cast hb
  have h2 : (0 : Rat) < (a' : Rat) := by exact_mod_cast ha
  by_cases z : 0 < c
  · exact z
  · have z' : c ≤ 0 := Rat.not_lt.mp z
    have : c * (a' : Rat) ≤ 0 := by
      have h3 : 0 ≤ (-c) * (a' : Rat) := Rat.mul_nonneg (by grind) (Rat.le_of_lt h2)
      grind
    grind
/-- the greatest divisor without a divisor, its first integer above 0, is one -/
theorem IsG_uniq {f g : List Rat} {a b : List Int} (ha : IsG f g (toR a)) (hb : IsG f g (toR b)) (da : HdI a) (db : HdI b) (ca : cont a = 1) (cb : cont b = 1) (pa : 0 < a.headD 0) (pb : 0 < b.headD 0) : a = b := by
  cases a with
  | nil => simp at pa
  | cons a0 a =>
  cases b with
  | nil => simp at pb
  | cons b0 b =>
  obtain ⟨c, c0, hc⟩ := IsG_assoc ha hb (HdR_toR da) (by simp [toR])
  have e : toR (b0 :: b) = (toR (a0 :: a)).map (c * ·) := vl_eq (HdR_toR db) (by
    intro y h
    cases h
    intro z
    rcases Rat.mul_eq_zero.mp z with z | z
    · exact c0 z
    · exact HdR_toR da _ rfl z) fun x => by rw [hc, vl_scale]
  have e0 : (b0 : Rat) = c * (a0 : Rat) := (List.cons.inj e).1
  exact (prim_uniq db da cb ca (rat_pos (a := 0) e0 pb pa) hc).symm
/-! rows that have nothing in common -/
def Cop (f g : List Rat) : Prop := ∃ u v, ∀ x, vl u x * vl f x + vl v x * vl g x = 1
theorem Cop.comm {f g : List Rat} (h : Cop f g) : Cop g f := by
  obtain ⟨u, v, h⟩ := h
  exact ⟨v, u, fun x => by rw [← h x]; grind⟩
theorem Cop.isG {f g : List Rat} (h : Cop f g) : IsG f g [1] := by
  obtain ⟨u, v, h⟩ := h
  exact ⟨⟨f, fun x => by rw [vl_c]; grind⟩, ⟨g, fun x => by rw [vl_c]; grind⟩, u, v, fun x => by rw [vl_c, h x]⟩
theorem Cop_const {c : Rat} (hc : c ≠ 0) {f g : List Rat} (h : ∀ x, vl f x = c) : Cop f g := ⟨[1 / c], [], fun x => by rw [vl_c, vl_nil, h x]; grind⟩
theorem Cop.mul {f1 f2 g f : List Rat} (h1 : Cop f1 g) (h2 : Cop f2 g) (hf : ∀ x, vl f x = vl f1 x * vl f2 x) : Cop f g := by
  obtain ⟨u, v, h1⟩ := h1
  obtain ⟨s, t, h2⟩ := h2
  refine ⟨mulR u s, addR (mulR (mulR u f1) t) v, fun x => ?_⟩
  rw [mulR_vl, addR_vl, mulR_vl, mulR_vl, hf x]
  have a := h1 x
  have b := h2 x
  generalize vl u x = u' at *
  generalize vl v x = v' at *
  generalize vl s x = s' at *
  generalize vl t x = t' at *
  generalize vl f1 x = a' at *
  generalize vl f2 x = b' at *
  generalize vl g x = g' at *
  have : u' * s' * (a' * b') + (u' * a' * t' + v') * g' = u' * a' * (s' * b' + t' * g') + v' * g' := by grind
  rw [this, b]; grind
/-! bare rows -/
def bareI (f : List Int) : List Int := if 0 < f.headD 0 then prim f else prim (f.map ((-1) * ·))
theorem cont_neg (f : List Int) : cont (f.map ((-1) * ·)) = cont f := by
  rw [cont_scl]
  show 1 * _ = _
  rw [Nat.one_mul]
theorem HdI_neg {f : List Int} (h : HdI f) : HdI (f.map ((-1) * ·)) := by
  cases f with
  | nil => exact h
  | cons a f =>
    intro b hb
    cases hb
    have := h a rfl
    show -1 * a ≠ 0
    omega
theorem bare_props {f : List Int} (h : HdI f) (hn : f ≠ []) : HdI (bareI f) ∧ cont (bareI f) = 1 ∧ 0 < (bareI f).headD 0 ∧ ∃ c : Rat, c ≠ 0 ∧ ∀ x, vl (toR (bareI f)) x = c * vl (toR f) x := by
  have cp : (0 : Rat) < (cont f : Rat) := by exact_mod_cast cont_pos h hn
  have cn : (cont f : Rat) ≠ 0 := fun z => by rw [z] at cp; exact absurd cp (by decide)
  have nn : f.map ((-1) * ·) ≠ [] := by simpa using hn
  unfold bareI
  split
  · rename_i hp
    refine ⟨HdI_prim h, cont_prim h hn, ?_, 1 / (cont f : Rat), by grind, fun x => by rw [prim_vl f]; grind⟩
    cases f with
    | nil => exact absurd rfl hn
    | cons a f =>
      show 0 < a.fdiv (cont (a :: f) : Int)
      have e := fdiv_mul' (cont_dvd (f := a :: f) (List.mem_cons_self))
      have hp' : 0 < a := hp
      have c0 := cont_pos h hn
      have e' : (cont (a :: f) : Int) * a.fdiv (cont (a :: f) : Int) > 0 := by rw [e]; exact hp'
      exact Int.pos_of_mul_pos_right e' (by omega)
  · rename_i hp
    refine ⟨HdI_prim (HdI_neg h), cont_prim (HdI_neg h) nn, ?_, -(1 / (cont f : Rat)), by grind, fun x => ?_⟩
    · cases f with
      | nil => exact absurd rfl hn
      | cons a f =>
        show 0 < (-1 * a).fdiv (cont ((a :: f).map ((-1) * ·)) : Int)
        have e := fdiv_mul' (cont_dvd (f := (a :: f).map ((-1) * ·)) (a := -1 * a) (List.mem_cons_self))
        have hp' : ¬ 0 < a := hp
        have a0 := h a rfl
        have c0 := cont_pos (HdI_neg h) nn
        have e' : (cont ((a :: f).map ((-1) * ·)) : Int) * (-1 * a).fdiv (cont ((a :: f).map ((-1) * ·)) : Int) > 0 := by rw [e]; omega
        exact Int.pos_of_mul_pos_right e' (by omega)
    · have e := prim_vl (f.map ((-1) * ·)) x
      rw [toR_scl, vl_scale, cont_neg] at e
      rw [show ((-1 : Int) : Rat) = -1 from rfl] at e
      generalize vl (toR (prim (f.map ((-1) * ·)))) x = y at *
      generalize vl (toR f) x = z at *
      generalize (cont f : Rat) = k at *
      grind
end Pv

/-! Part Tc: bare rows, remainders: the walks. -/
namespace Pv
open PySem
/-- bare, slots f common_part a -/
def B_bare : St := (.cons (.asg (.nm 1) (.cst (.int (0)))) (.cons (.for_ (.nm 2) (.seq (.var 0)) (.cons (.asg (.nm 1) (.blt .gcd (.cons (.var 1) (.cons (.var 2) .nil)))) .nil)) (.cons (.ifs (.cmp .Eq (.var 0) (.tup .nil)) (.cons (.ret (.tup .nil)) .nil) .nil) (.cons (.ret (.blt .tuple (.cons (.comp [2] (.bin .FloorDiv (.var 2) (.ite (.cmp .Gt (.sub (.var 0) (.cst (.int (0)))) (.cst (.int (0)))) (.var 1) (.neg (.var 1)))) (.nm 2) (.seq (.var 0)) .nil) .nil))) .nil))))
/-- lean, slots f found -/
def B_lean (i_bare i_scaled_by : Nat) : St := (.cons (.asg (.nm 1) (.call i_bare (.cons (.var 0) .nil))) (.cons (.ret (.ite (.or (.cmp .Eq (.var 0) (.tup .nil)) (.cmp .Gt (.sub (.var 0) (.cst (.int (0)))) (.cst (.int (0))))) (.var 1) (.call i_scaled_by (.cons (.var 1) (.cons (.neg (.cst (.int (1)))) .nil))))) .nil))
/-- remainder_of, slots f g left row by less place b a -/
def B_remainder_of (i_lean i_stripped : Nat) : St := (.cons (.asg (.nm 2) (.var 0)) (.cons (.whl (.cmp .GtE (.blt .len (.cons (.var 2) .nil)) (.blt .len (.cons (.var 1) .nil))) (.cons (.asg (.tup (.cons (.nm 4) (.cons (.nm 5) .nil))) (.tup (.cons (.blt .abs (.cons (.sub (.var 1) (.cst (.int (0)))) .nil)) (.cons (.ite (.cmp .Gt (.sub (.var 1) (.cst (.int (0)))) (.cst (.int (0)))) (.sub (.var 2) (.cst (.int (0)))) (.neg (.sub (.var 2) (.cst (.int (0)))))) .nil)))) (.cons (.asg (.nm 3) (.new (.comp [8] (.bin .Mult (.var 4) (.var 8)) (.nm 8) (.seq (.var 2)) .nil))) (.cons (.for_ (.tup (.cons (.nm 6) (.cons (.nm 7) .nil))) (.enm (.var 1)) (.cons (.stix (.var 3) (.var 6) (.bin .Sub (.sub (.var 3) (.var 6)) (.bin .Mult (.var 5) (.var 7)))) .nil)) (.cons (.asg (.nm 2) (.call i_lean (.cons (.call i_stripped (.cons (.var 3) (.cons (.cst (.int (0))) .nil))) .nil))) .nil))))) (.cons (.ret (.var 2)) .nil)))
/-- common_of, slots f g -/
def B_common_of (i_remainder_of i_bare : Nat) : St := (.cons (.whl (.cmp .NotEq (.var 1) (.tup .nil)) (.cons (.par [0, 1] (.cons (.var 1) (.cons (.call i_remainder_of (.cons (.var 0) (.cons (.var 1) .nil))) .nil))) .nil)) (.cons (.ret (.call i_bare (.cons (.var 0) .nil))) .nil))
/-- common, slots f g -/
def B_common (i_check_polynomial i_common_of : Nat) : St := (.cons (.expr (.call i_check_polynomial (.cons (.var 0) .nil))) (.cons (.expr (.call i_check_polynomial (.cons (.var 1) .nil))) (.cons (.ret (.call i_common_of (.cons (.var 0) (.cons (.var 1) .nil)))) .nil)))
/-- _law_factor, slots pot way none real top bottom -/
def B_law_factor (i__law_take i__law_low : Nat) : St := (.cons (.asg (.nm 1) (.call i__law_take (.cons (.var 0) (.cons (.cst (.int (6))) .nil)))) (.cons (.ifs (.cmp .Lt (.var 1) (.cst (.int (3)))) (.cons (.asg (.tup (.cons (.nm 4) (.cons (.nm 5) .nil))) (.call i__law_low (.cons (.bin .Sub (.call i__law_take (.cons (.var 0) (.cons (.cst (.int (9))) .nil))) (.cst (.int (4)))) (.cons (.bin .Add (.cst (.int (1))) (.call i__law_take (.cons (.var 0) (.cons (.cst (.int (3))) .nil)))) .nil)))) (.cons (.ret (.tup (.cons (.var 5) (.cons (.neg (.var 4)) .nil)))) .nil)) .nil) (.cons (.ifs (.cmp .Lt (.var 1) (.cst (.int (5)))) (.cons (.asg (.nm 3) (.lst (.cons (.tup (.cons (.cst (.int (1))) (.cons (.cst (.int (0))) (.cons (.neg (.cst (.int (2)))) .nil)))) (.cons (.tup (.cons (.cst (.int (1))) (.cons (.cst (.int (0))) (.cons (.neg (.cst (.int (3)))) .nil)))) (.cons (.tup (.cons (.cst (.int (1))) (.cons (.cst (.int (0))) (.cons (.neg (.cst (.int (5)))) .nil)))) (.cons (.tup (.cons (.cst (.int (1))) (.cons (.neg (.cst (.int (1)))) (.cons (.neg (.cst (.int (1)))) .nil)))) (.cons (.tup (.cons (.cst (.int (1))) (.cons (.cst (.int (1))) (.cons (.neg (.cst (.int (1)))) .nil)))) (.cons (.tup (.cons (.cst (.int (1))) (.cons (.neg (.cst (.int (2)))) (.cons (.neg (.cst (.int (1)))) .nil)))) (.cons (.tup (.cons (.cst (.int (2))) (.cons (.neg (.cst (.int (2)))) (.cons (.neg (.cst (.int (1)))) .nil)))) (.cons (.tup (.cons (.cst (.int (1))) (.cons (.neg (.cst (.int (3)))) (.cons (.cst (.int (1))) .nil)))) .nil)))))))))) (.cons (.ret (.sub (.bin .Add (.var 3) (.lst (.cons (.tup (.cons (.cst (.int (1))) (.cons (.cst (.int (2))) (.cons (.neg (.cst (.int (2)))) .nil)))) (.cons (.tup (.cons (.cst (.int (2))) (.cons (.cst (.int (0))) (.cons (.neg (.cst (.int (1)))) .nil)))) (.cons (.tup (.cons (.cst (.int (1))) (.cons (.cst (.int (4))) (.cons (.cst (.int (2))) .nil)))) (.cons (.tup (.cons (.cst (.int (2))) (.cons (.cst (.int (1))) (.cons (.neg (.cst (.int (2)))) .nil)))) .nil)))))) (.call i__law_take (.cons (.var 0) (.cons (.cst (.int (12))) .nil))))) .nil)) .nil) (.cons (.asg (.nm 2) (.lst (.cons (.tup (.cons (.cst (.int (1))) (.cons (.cst (.int (0))) (.cons (.cst (.int (1))) .nil)))) (.cons (.tup (.cons (.cst (.int (1))) (.cons (.cst (.int (1))) (.cons (.cst (.int (1))) .nil)))) (.cons (.tup (.cons (.cst (.int (1))) (.cons (.neg (.cst (.int (1)))) (.cons (.cst (.int (1))) .nil)))) (.cons (.tup (.cons (.cst (.int (1))) (.cons (.cst (.int (0))) (.cons (.cst (.int (2))) .nil)))) (.cons (.tup (.cons (.cst (.int (2))) (.cons (.cst (.int (2))) (.cons (.cst (.int (1))) .nil)))) (.cons (.tup (.cons (.cst (.int (1))) (.cons (.neg (.cst (.int (2)))) (.cons (.cst (.int (2))) .nil)))) (.cons (.tup (.cons (.cst (.int (1))) (.cons (.cst (.int (2))) (.cons (.cst (.int (3))) .nil)))) (.cons (.tup (.cons (.cst (.int (2))) (.cons (.neg (.cst (.int (1)))) (.cons (.cst (.int (1))) .nil)))) (.cons (.tup (.cons (.cst (.int (1))) (.cons (.cst (.int (1))) (.cons (.cst (.int (2))) .nil)))) .nil))))))))))) (.cons (.ret (.sub (.bin .Add (.var 2) (.lst (.cons (.tup (.cons (.cst (.int (2))) (.cons (.cst (.int (0))) (.cons (.cst (.int (1))) .nil)))) .nil))) (.call i__law_take (.cons (.var 0) (.cons (.cst (.int (10))) .nil))))) .nil)))))
/-- _law_planted, slots pot most turn k f parts_now made again g times_now a part many -/
def B_law_planted (i__law_take i__law_factor i__law_product : Nat) : St := (.cons (.par [4, 5] (.cons (.tup (.cons (.cst (.int (1))) .nil)) (.cons (.new (.lst .nil)) .nil))) (.cons (.for_ (.nm 2) (.rng (.cons (.bin .Add (.cst (.int (1))) (.call i__law_take (.cons (.var 0) (.cons (.cst (.int (5))) .nil)))) .nil)) (.cons (.par [8, 9] (.cons (.call i__law_factor (.cons (.var 0) .nil)) (.cons (.sub (.lst (.cons (.cst (.int (1))) (.cons (.cst (.int (1))) (.cons (.cst (.int (1))) (.cons (.cst (.int (1))) (.cons (.cst (.int (2))) (.cons (.cst (.int (2))) (.cons (.cst (.int (3))) .nil)))))))) (.call i__law_take (.cons (.var 0) (.cons (.cst (.int (7))) .nil)))) .nil))) (.cons (.asg (.nm 6) (.var 4)) (.cons (.for_ (.nm 7) (.rng (.cons (.var 9) .nil)) (.cons (.asg (.nm 6) (.call i__law_product (.cons (.var 6) (.cons (.var 8) .nil)))) .nil)) (.cons (.ifs (.and (.cmp .NotIn (.var 8) (.comp [11, 12] (.var 11) (.tup (.cons (.nm 11) (.cons (.nm 12) .nil))) (.seq (.var 5)) .nil)) (.and (.cmp .LtE (.bin .Sub (.blt .len (.cons (.var 6) .nil)) (.cst (.int (1)))) (.var 1)) (.cmp .Lt (.blt .max (.cons (.comp [10] (.blt .abs (.cons (.var 10) .nil)) (.nm 10) (.seq (.var 6)) .nil) .nil)) (.cst (.int (21)))))) (.cons (.asg (.nm 4) (.var 6)) (.cons (.expr (.mth .append (.var 5) (.cons (.tup (.cons (.var 8) (.cons (.var 9) .nil))) .nil))) .nil)) .nil) .nil))))) (.cons (.asg (.nm 3) (.sub (.lst (.cons (.cst (.int (1))) (.cons (.cst (.int (1))) (.cons (.neg (.cst (.int (1)))) (.cons (.cst (.int (2))) (.cons (.neg (.cst (.int (3)))) .nil)))))) (.call i__law_take (.cons (.var 0) (.cons (.cst (.int (5))) .nil))))) (.cons (.ret (.tup (.cons (.ite (.cmp .Lt (.blt .max (.cons (.comp [10] (.blt .abs (.cons (.bin .Mult (.var 3) (.var 10)) .nil)) (.nm 10) (.seq (.var 4)) .nil) .nil)) (.cst (.int (21)))) (.blt .tuple (.cons (.comp [10] (.bin .Mult (.var 3) (.var 10)) (.nm 10) (.seq (.var 4)) .nil) .nil)) (.var 4)) (.cons (.frz 5) .nil)))) .nil))))
/-- _law_surds, slots g far -/
def B_law_surds : St := (.cons (.ifs (.cmp .Eq (.blt .len (.cons (.var 0) .nil)) (.cst (.int (2)))) (.cons (.ret (.lst (.cons (.tup (.cons (.neg (.sub (.var 0) (.cst (.int (1))))) (.cons (.sub (.var 0) (.cst (.int (0)))) (.cons (.cst (.int (0))) (.cons (.cst (.int (0))) .nil))))) .nil))) .nil) .nil) (.cons (.asg (.nm 1) (.bin .Sub (.bin .Mult (.sub (.var 0) (.cst (.int (1)))) (.sub (.var 0) (.cst (.int (1))))) (.bin .Mult (.bin .Mult (.cst (.int (4))) (.sub (.var 0) (.cst (.int (0))))) (.sub (.var 0) (.cst (.int (2))))))) (.cons (.ret (.ite (.cmp .Gt (.var 1) (.cst (.int (0)))) (.lst (.cons (.tup (.cons (.neg (.sub (.var 0) (.cst (.int (1))))) (.cons (.bin .Mult (.cst (.int (2))) (.sub (.var 0) (.cst (.int (0))))) (.cons (.neg (.cst (.int (1)))) (.cons (.var 1) .nil))))) (.cons (.tup (.cons (.neg (.sub (.var 0) (.cst (.int (1))))) (.cons (.bin .Mult (.cst (.int (2))) (.sub (.var 0) (.cst (.int (0))))) (.cons (.cst (.int (1))) (.cons (.var 1) .nil))))) .nil))) (.lst .nil))) .nil)))
/-- _law_sign, slots a -/
def B_law_sign : St := (.cons (.ret (.bin .Sub (.blt .int (.cons (.cmp .Gt (.var 0) (.cst (.int (0)))) .nil)) (.blt .int (.cons (.cmp .Lt (.var 0) (.cst (.int (0)))) .nil)))) .nil)
/-- _law_sign_of_two, slots a b d -/
def B_law_sign_of_two (i__law_sign : Nat) : St := (.cons (.ifs (.or (.cmp .Eq (.var 1) (.cst (.int (0)))) (.cmp .Eq (.var 2) (.cst (.int (0))))) (.cons (.ret (.call i__law_sign (.cons (.var 0) .nil))) .nil) .nil) (.cons (.ifs (.or (.cmp .Eq (.var 0) (.cst (.int (0)))) (.cmp .Eq (.call i__law_sign (.cons (.var 0) .nil)) (.call i__law_sign (.cons (.var 1) .nil)))) (.cons (.ret (.call i__law_sign (.cons (.var 1) .nil))) .nil) .nil) (.cons (.ret (.bin .Mult (.call i__law_sign (.cons (.var 0) .nil)) (.call i__law_sign (.cons (.bin .Sub (.bin .Mult (.var 0) (.var 0)) (.bin .Mult (.bin .Mult (.var 1) (.var 1)) (.var 2))) .nil)))) .nil)))
/-- _law_order, slots one other a b d c e first last -/
def B_law_order (i__law_sign_of_two i__law_sign : Nat) : St := (.cons (.par [2, 3, 4] (.cons (.bin .Sub (.bin .Mult (.sub (.var 0) (.cst (.int (0)))) (.sub (.var 1) (.cst (.int (1))))) (.bin .Mult (.sub (.var 1) (.cst (.int (0)))) (.sub (.var 0) (.cst (.int (1)))))) (.cons (.bin .Mult (.sub (.var 0) (.cst (.int (2)))) (.sub (.var 1) (.cst (.int (1))))) (.cons (.sub (.var 0) (.cst (.int (3)))) .nil)))) (.cons (.par [5, 6] (.cons (.bin .Mult (.neg (.sub (.var 1) (.cst (.int (2))))) (.sub (.var 0) (.cst (.int (1))))) (.cons (.sub (.var 1) (.cst (.int (3)))) .nil))) (.cons (.par [7, 8] (.cons (.call i__law_sign_of_two (.cons (.var 2) (.cons (.var 3) (.cons (.var 4) .nil)))) (.cons (.bin .Mult (.call i__law_sign (.cons (.var 5) .nil)) (.blt .int (.cons (.cmp .Gt (.var 6) (.cst (.int (0)))) .nil))) .nil))) (.cons (.ifs (.or (.cmp .Eq (.var 7) (.cst (.int (0)))) (.or (.cmp .Eq (.var 8) (.cst (.int (0)))) (.cmp .Eq (.var 7) (.var 8)))) (.cons (.ret (.ite (.cmp .NotEq (.var 7) (.cst (.int (0)))) (.var 7) (.var 8))) .nil) .nil) (.cons (.ret (.bin .Mult (.var 7) (.call i__law_sign_of_two (.cons (.bin .Sub (.bin .Add (.bin .Mult (.var 2) (.var 2)) (.bin .Mult (.bin .Mult (.var 3) (.var 3)) (.var 4))) (.bin .Mult (.bin .Mult (.var 5) (.var 5)) (.var 6))) (.cons (.bin .Mult (.bin .Mult (.cst (.int (2))) (.var 2)) (.var 3)) (.cons (.var 4) .nil)))))) .nil)))))
/-- _law_sorted, slots surds_now found one place other -/
def B_law_sorted (i__law_order : Nat) : St := (.cons (.asg (.nm 1) (.new (.lst .nil))) (.cons (.for_ (.nm 2) (.seq (.var 0)) (.cons (.asg (.nm 3) (.blt .len (.cons (.comp [4] (.var 4) (.nm 4) (.seq (.var 1)) (.cmp .Lt (.call i__law_order (.cons (.var 4) (.cons (.var 2) .nil))) (.cst (.int (0))))) .nil))) (.cons (.ifs (.or (.cmp .Eq (.var 3) (.blt .len (.cons (.var 1) .nil))) (.cmp .NotEq (.call i__law_order (.cons (.sub (.var 1) (.var 3)) (.cons (.var 2) .nil))) (.cst (.int (0))))) (.cons (.expr (.mth .insert (.var 1) (.cons (.var 3) (.cons (.var 2) .nil)))) .nil) .nil) .nil))) (.cons (.ret (.frz 1)) .nil)))
/-- _law_all_surds, slots parts_now found g many -/
def B_law_all_surds (i__law_surds i__law_sorted : Nat) : St := (.cons (.asg (.nm 1) (.lst .nil)) (.cons (.for_ (.tup (.cons (.nm 2) (.cons (.nm 3) .nil))) (.seq (.var 0)) (.cons (.asg (.nm 1) (.bin .Add (.var 1) (.call i__law_surds (.cons (.var 2) .nil)))) .nil)) (.cons (.ret (.call i__law_sorted (.cons (.var 1) .nil))) .nil)))
/-- _law_sign_at, slots f surd number a b s d u v under -/
def B_law_sign_at (i__law_sign_of_two : Nat) : St := (.cons (.asg (.tup (.cons (.nm 3) (.cons (.nm 4) (.cons (.nm 5) (.cons (.nm 6) .nil))))) (.var 1)) (.cons (.asg (.tup (.cons (.nm 7) (.cons (.nm 8) (.cons (.nm 9) .nil)))) (.tup (.cons (.cst (.int (0))) (.cons (.cst (.int (0))) (.cons (.cst (.int (1))) .nil))))) (.cons (.for_ (.nm 2) (.seq (.var 0)) (.cons (.par [7, 8, 9] (.cons (.bin .Add (.bin .Mult (.var 7) (.var 3)) (.bin .Mult (.bin .Mult (.var 8) (.var 5)) (.var 6))) (.cons (.bin .Add (.bin .Mult (.var 7) (.var 5)) (.bin .Mult (.var 8) (.var 3))) (.cons (.bin .Mult (.var 9) (.var 4)) .nil)))) (.cons (.asg (.nm 7) (.bin .Add (.var 7) (.bin .Mult (.var 2) (.var 9)))) .nil))) (.cons (.ret (.call i__law_sign_of_two (.cons (.var 7) (.cons (.var 8) (.cons (.var 6) .nil))))) .nil))))
/-- _law_bare, slots row far a one other -/
def B_law_bare : St := (.cons (.asg (.nm 1) (.cst (.int (0)))) (.cons (.for_ (.nm 2) (.seq (.var 0)) (.cons (.par [3, 4] (.cons (.blt .abs (.cons (.var 2) .nil)) (.cons (.var 1) .nil))) (.cons (.whl (.cmp .NotEq (.var 4) (.cst (.int (0)))) (.cons (.par [3, 4] (.cons (.var 4) (.cons (.bin .Mod (.blt .int (.cons (.var 3) .nil)) (.var 4)) .nil))) .nil)) (.cons (.asg (.nm 1) (.var 3)) .nil)))) (.cons (.ret (.ite (.cmp .NotEq (.var 0) (.tup .nil)) (.blt .tuple (.cons (.comp [2] (.bin .FloorDiv (.var 2) (.ite (.cmp .Gt (.sub (.var 0) (.cst (.int (0)))) (.cst (.int (0)))) (.var 1) (.neg (.var 1)))) (.nm 2) (.seq (.var 0)) .nil) .nil)) (.tup .nil))) .nil)))
/-- _law_common, slots f g turn under one other left top bottom by less a b -/
def B_law_common (i__law_times i__law_broken_sum i__law_low i__law_bare : Nat) : St := (.cons (.par [4, 5] (.cons (.blt .tuple (.cons (.comp [11] (.tup (.cons (.var 11) (.cons (.cst (.int (1))) .nil))) (.nm 11) (.seq (.var 0)) .nil) .nil)) (.cons (.blt .tuple (.cons (.comp [11] (.tup (.cons (.var 11) (.cons (.cst (.int (1))) .nil))) (.nm 11) (.seq (.var 1)) .nil) .nil)) .nil))) (.cons (.for_ (.nm 2) (.rng (.cons (.cst (.int (40))) .nil)) (.cons (.ifs (.cmp .Eq (.var 5) (.tup .nil)) (.cons .brk .nil) .nil) (.cons (.asg (.nm 6) (.var 4)) (.cons (.whl (.cmp .GtE (.blt .len (.cons (.var 6) .nil)) (.blt .len (.cons (.var 5) .nil))) (.cons (.asg (.nm 9) (.call i__law_times (.cons (.sub (.var 6) (.cst (.int (0)))) (.cons (.ite (.cmp .Gt (.sub (.sub (.var 5) (.cst (.int (0)))) (.cst (.int (0)))) (.cst (.int (0)))) (.tup (.cons (.sub (.sub (.var 5) (.cst (.int (0)))) (.cst (.int (1)))) (.cons (.sub (.sub (.var 5) (.cst (.int (0)))) (.cst (.int (0)))) .nil))) (.tup (.cons (.neg (.sub (.sub (.var 5) (.cst (.int (0)))) (.cst (.int (1))))) (.cons (.neg (.sub (.sub (.var 5) (.cst (.int (0)))) (.cst (.int (0))))) .nil)))) .nil)))) (.cons (.asg (.nm 10) (.bin .Add (.comp [12] (.call i__law_times (.cons (.tup (.cons (.neg (.sub (.var 9) (.cst (.int (0))))) (.cons (.sub (.var 9) (.cst (.int (1)))) .nil))) (.cons (.var 12) .nil))) (.nm 12) (.seq (.var 5)) .nil) (.bin .Mult (.lst (.cons (.tup (.cons (.cst (.int (0))) (.cons (.cst (.int (1))) .nil))) .nil)) (.bin .Sub (.blt .len (.cons (.var 6) .nil)) (.blt .len (.cons (.var 5) .nil)))))) (.cons (.asg (.nm 6) (.call i__law_broken_sum (.cons (.var 6) (.cons (.blt .tuple (.cons (.var 10) .nil)) .nil)))) .nil)))) (.cons (.par [4, 5] (.cons (.var 5) (.cons (.var 6) .nil))) .nil))))) (.cons (.asg (.nm 3) (.cst (.int (1)))) (.cons (.for_ (.tup (.cons (.nm 7) (.cons (.nm 8) .nil))) (.seq (.var 4)) (.cons (.asg (.nm 3) (.bin .Mult (.var 3) (.sub (.call i__law_low (.cons (.var 3) (.cons (.var 8) .nil))) (.cst (.int (1)))))) .nil)) (.cons (.ret (.call i__law_bare (.cons (.blt .tuple (.cons (.comp [7, 8] (.bin .Mult (.var 7) (.bin .FloorDiv (.var 3) (.var 8))) (.tup (.cons (.nm 7) (.cons (.nm 8) .nil))) (.seq (.var 4)) .nil) .nil)) .nil))) .nil)))))
/-- _law_pair, slots pot used turn f g due part again many other -/
def B_law_pair (i__law_take i__law_factor i__law_product : Nat) : St := (.cons (.par [3, 4, 5] (.cons (.tup (.cons (.sub (.lst (.cons (.neg (.cst (.int (2)))) (.cons (.neg (.cst (.int (1)))) (.cons (.cst (.int (3))) (.cons (.cst (.int (1))) .nil))))) (.call i__law_take (.cons (.var 0) (.cons (.cst (.int (4))) .nil)))) .nil)) (.cons (.tup (.cons (.sub (.lst (.cons (.neg (.cst (.int (3)))) (.cons (.cst (.int (2))) (.cons (.cst (.int (1))) (.cons (.cst (.int (4))) .nil))))) (.call i__law_take (.cons (.var 0) (.cons (.cst (.int (4))) .nil)))) .nil)) (.cons (.tup (.cons (.cst (.int (1))) .nil)) .nil)))) (.cons (.asg (.nm 1) (.new (.lst .nil))) (.cons (.for_ (.nm 2) (.rng (.cons (.cst (.int (3))) .nil)) (.cons (.asg (.nm 6) (.call i__law_factor (.cons (.var 0) .nil))) (.cons (.ifs (.cmp .NotIn (.var 6) (.var 1)) (.cons (.expr (.mth .append (.var 1) (.cons (.var 6) .nil))) (.cons (.par [8, 9] (.cons (.call i__law_take (.cons (.var 0) (.cons (.cst (.int (3))) .nil))) (.cons (.call i__law_take (.cons (.var 0) (.cons (.cst (.int (3))) .nil))) .nil))) (.cons (.for_ (.nm 7) (.rng (.cons (.cst (.int (2))) .nil)) (.cons (.asg (.nm 3) (.ite (.cmp .Lt (.var 7) (.var 8)) (.call i__law_product (.cons (.var 3) (.cons (.var 6) .nil))) (.var 3))) (.cons (.asg (.nm 4) (.ite (.cmp .Lt (.var 7) (.var 9)) (.call i__law_product (.cons (.var 4) (.cons (.var 6) .nil))) (.var 4))) (.cons (.asg (.nm 5) (.ite (.cmp .Lt (.var 7) (.blt .min (.cons (.var 8) (.cons (.var 9) .nil)))) (.call i__law_product (.cons (.var 5) (.cons (.var 6) .nil))) (.var 5))) .nil)))) .nil))) .nil) .nil))) (.cons (.ret (.tup (.cons (.var 3) (.cons (.var 4) (.cons (.var 5) .nil))))) .nil))))
theorem bareI_map (f : List Int) : bareI f = f.map fun a => a.fdiv (if 0 < f.headD 0 then (cont f : Int) else -(cont f : Int)) := by
  unfold bareI
  split
  · rfl
  · unfold prim
    rw [cont_neg, List.map_map]
    refine List.map_congr_left fun a ha => ?_
    show (-1 * a).fdiv (cont f : Int) = a.fdiv (-(cont f : Int))
    rw [fdiv_neg' (cont_dvd ha), Int.neg_mul, Int.one_mul]
theorem bare_neg {f : List Int} (h : ¬ 0 < f.headD 0) : (bareI f).map ((-1) * ·) = prim f := by
  unfold bareI
  rw [if_neg h]
  unfold prim
  rw [cont_neg, List.map_map, List.map_map]
  refine List.map_congr_left fun a ha => ?_
  show -1 * (-1 * a).fdiv (cont f : Int) = a.fdiv (cont f : Int)
  obtain ⟨c, hc⟩ := cont_dvd ha
  by_cases z : (cont f : Int) = 0
  · rw [z, Int.fdiv_zero, Int.fdiv_zero]; rfl
  · rw [hc, show -1 * ((cont f : Int) * c) = (cont f : Int) * (-c) by rw [Int.mul_neg]; omega, Int.mul_fdiv_cancel_left _ z, Int.mul_fdiv_cancel_left _ z]; omega
theorem cont_log {B : Nat} {f : List Int} (hf : Sm B f) (h : HdI f) (hn : f ≠ []) : cont f < 2 ^ B := by
  cases f with
  | nil => exact absurd rfl hn
  | cons a f =>
    have h1 := hf a List.mem_cons_self
    have h2 := Nat.le_of_dvd (by have := h a rfl; omega) (Int.ofNat_dvd_left.mp (cont_dvd (f := a :: f) (List.mem_cons_self)))
    omega
section
variable {E : En} {w : W} {o o1 o2 o3 o4 o5 o6 : Option IV} {f g : List Int} {i j k : Nat}
theorem bare_ok (hf : Sm 7950 f) (h : HdI f) (lf : f.length ≤ 400) : fin w.length (evS E B_bare [some (.d (iT f)), o, o1] w) = .ok (.d (iT (bareI f))) w := by
  refine Ret.eq (X := fun _ _ _ => False) ?_ (fun _ _ _ h => h)
  have okl : ∀ k : Nat, k ≤ 1000 → okL k = true := fun k h => decide_eq_true (by omega)
  unfold B_bare
  rw [Ret_fin, RetS_cons]
  refine RetS.nx (M := fun σ w' => w' = w ∧ σ = [some (.d (iT f)), some (.d (.int ((0 : Nat) : Int))), o1]) ?_ ?_
  · simp
  rintro σ w' ⟨rfl, rfl⟩
  rw [RetS_cons]
  refine RetS.nx (M := fun σ w => w = w' ∧ ∃ x, σ = [some (.d (iT f)), some (.d (.int (cont f : Int))), x]) ?_ ?_
  · rw [RetS_for, Ret_seq]
    simp only [ev_var, Ret_ofO, slot_cons0, OptP_some, toIt_iT, forP_dat]
    refine ⟨by rw [iM_len]; exact okl _ (by omega), ?_⟩
    refine forL_inv (fun k σ w => w = w' ∧ ∃ (u : Nat) (x : Option IV), (f.drop k).foldl (fun c a => Nat.gcd c a.natAbs) u = cont f ∧ σ = [some (.d (iT f)), some (.d (.int (u : Int))), x])
      ⟨rfl, 0, _, rfl, rfl⟩ ?_ ?_
    · rintro k z σ w hz ⟨rfl, u, x, he, rfl⟩
      have hk : k < f.length := by
        have := (List.getElem?_eq_some_iff.mp hz).1
        simpa using this
      rw [iM_get hk] at hz
      cases hz
      rw [drop_get hk] at he
      generalize f.getD k 0 = a at *
      have e : ((Int.gcd (u : Int) a : Nat) : Int) = ((Nat.gcd u a.natAbs : Nat) : Int) := rfl
      simp [e]
      exact ⟨_, he, rfl⟩
    · rintro σ w ⟨rfl, u, x, he, rfl⟩
      rw [iM_len, List.drop_length] at he
      have he' : u = cont f := he
      rw [← he']
      exact ⟨rfl, x, rfl⟩
  rintro σ w ⟨rfl, x, rfl⟩
  rw [RetS_cons]
  cases f with
  | nil => simp [eq_unitI, okL, take_len]; rfl
  | cons a0 f =>
    have c0 := cont_pos h (by simp)
    have c1 := cont_log hf h (by simp)
    refine RetS.nx (M := fun σ w' => w' = w ∧ σ = [some (.d (iT (a0 :: f))), some (.d (.int (cont (a0 :: f) : Int))), x]) ?_ ?_
    · simp [eq_unitI, okL]
    rintro σ w' ⟨rfl, rfl⟩
    have sb : subD (iT (a0 :: f)) (.int 0) = some (.int a0) := tub_0
    have e : compL (elF (isNil .nil) (.nm 2) (ev E .nil) (ev E (.bin .FloorDiv (.var 2) (.ite (.cmp .Gt (.sub (.var 0) (.cst (.int (0)))) (.cst (.int (0)))) (.var 1) (.neg (.var 1))))) (wip [some (.d (iT (a0 :: f))), some (.d (.int (cont (a0 :: f) : Int))), x] [2])) (iM (a0 :: f)) w' = .ok (iM (bareI (a0 :: f))) w' := by
      rw [bareI_map]
      refine map_int fun a ha => ?_
      have od : okDiv a (cont (a0 :: f) : Int) = true := okDiv_abs (by omega) (by rw [Int.natAbs_natCast]; exact log_lt (k := 7950) c1 (by decide) (by decide))
      have od2 : okDiv a (-(cont (a0 :: f) : Int)) = true := okDiv_abs (by omega) (by rw [Int.natAbs_neg, Int.natAbs_natCast]; exact log_lt (k := 7950) c1 (by decide) (by decide))
      generalize (cont (a0 :: f) : Int) = c at *
      refine Ret.eq (X := fun _ _ _ => False) ?_ (fun _ _ _ h => h)
      rw [show isNil .nil = true from rfl, Ret_elT]
      by_cases h0 : 0 < a0
      · simp [wip, sb, h0, od]
      · simp [wip, sb, h0, od2]
    simp only [RetS_cons, evS_ret, RetS_onE, Ret_blt, evA_cons, evA_nil, Ret_bind, Ret_comp, Ret_seq, ev_var, Ret_ofO, slot_cons0, OptP_some, toIt_iT, compP_dat, iM_len, okl _ (show (a0 :: f).length ≤ 1000 by omega), true_and, e, Ret_ok, rdAll_cons, rdAll_nil, rd_d, Option.bind_some, Option.map_some, tupl_iT, RetS_mk, sq_ret, finK_d, take_len, and_self]
theorem lean_ok (hb : E.Φ i [.d (iT f)] w = .ok (.d (iT (bareI f))) w) (hs : ∀ (h : List Int) (w : W), h = bareI f → E.Φ j [.d (iT h), .d (.int (-1))] w = .ok (.d (iT (sclI (-1) h))) w) :
    fin w.length (evS E (B_lean i j) [some (.d (iT f)), o] w) = .ok (.d (iT (prim f))) w := by
  refine Ret.eq (X := fun _ _ _ => False) ?_ (fun _ _ _ h => h)
  have s1 := hs _ w rfl
  unfold B_lean
  cases f with
  | nil =>
    have e : bareI [] = [] := rfl
    rw [e] at hb
    simp [hb, eq_unitI, okL, take_len]; rfl
  | cons a0 f =>
    have sb : subD (iT (a0 :: f)) (.int 0) = some (.int a0) := tub_0
    by_cases h0 : 0 < a0
    · have e : bareI (a0 :: f) = prim (a0 :: f) := if_pos h0
      rw [e] at hb
      simp [hb, eq_unitI, okL, take_len, sb, h0]
    · have e : sclI (-1) (bareI (a0 :: f)) = prim (a0 :: f) := by
        unfold sclI
        rw [if_neg (by decide)]
        exact bare_neg h0
      rw [e] at s1
      simp [hb, s1, eq_unitI, okL, take_len, sb, h0]
theorem stripped_iref {m : Nat} (hx : w[m]? = some (.lst (iM f))) (hl : f.length < 16777216) (hq : E.q = 16777216) :
    fin w.length (evS E B_stripped [some (.ref m), some (.d (.int 0)), o] w) = .ok (.d (iT (stripI f))) w := by
  rw [stripped_ref hx (by rw [iM_len]; exact hl) hq (z := z0) (fun y hy => by
    obtain ⟨a, _, rfl⟩ := List.mem_map.mp hy
    rw [eq_ii]
    show some (decide (a = 0)) = some (a == 0)
    rfl), drop_int]
  rfl
end
/-! one step of a remainder -/
def lessI (l g : List Int) : Int := if 0 < g.headD 0 then l.headD 0 else -(l.headD 0)
def remRow (l g : List Int) : List Int := innI 0 (-(lessI l g)) g 0 (l.map (((g.headD 0).natAbs : Int) * ·))
theorem remRow_len (l g : List Int) : (remRow l g).length = l.length := by
  unfold remRow
  rw [innI_len, List.length_map]
theorem remRow_vl {l g : List Int} (h : g.length ≤ l.length) (x : Rat) : vl (toR (remRow l g)) x = ((g.headD 0).natAbs : Rat) * vl (toR l) x - (lessI l g : Rat) * vl (toR g) x * x ^ (l.length - g.length) := by
  unfold remRow
  rw [innI_vl _ _ _ _ _ _ (by rw [List.length_map]; omega), toR_scl, vl_scale, List.length_map, show (0 + 0 + g.length) = g.length by omega, Rat.intCast_neg]
  show (((g.headD 0).natAbs : Int) : Rat) * _ + _ = _
  rw [show (((g.headD 0).natAbs : Int) : Rat) = ((g.headD 0).natAbs : Rat) from rfl]
  grind
theorem remRow_head {l g : List Int} (hg : g ≠ []) : (remRow l g).getD 0 0 = 0 := by
  cases g with
  | nil => exact absurd rfl hg
  | cons b g =>
    cases l with
    | nil =>
      have : remRow [] (b :: g) = [] := List.eq_nil_of_length_eq_zero (remRow_len [] _)
      rw [this]; rfl
    | cons a l =>
      show (innI 0 (-(lessI (a :: l) (b :: g))) g 1 (((a :: l).map ((b.natAbs : Int) * ·)).set (0 + 0) (((a :: l).map ((b.natAbs : Int) * ·)).getD (0 + 0) 0 + -(lessI (a :: l) (b :: g)) * b))).getD 0 0 = 0
      rw [innI_low _ _ _ _ _ 0 (by omega), getD_set, if_pos ⟨rfl, by simp⟩]
      show (b.natAbs : Int) * a + -(lessI (a :: l) (b :: g)) * b = 0
      unfold lessI
      show (b.natAbs : Int) * a + -(if 0 < b then a else -a) * b = 0
      split
      · rename_i hb
        rw [show (b.natAbs : Int) = b by omega, Int.neg_mul, Int.mul_comm]; omega
      · rename_i hb
        rw [show (b.natAbs : Int) = -b by omega, Int.neg_neg, Int.neg_mul, Int.mul_comm]; omega
theorem strip_lt {f : List Int} (h : f.getD 0 0 = 0) (hn : f ≠ []) : (stripI f).length < f.length := by
  cases f with
  | nil => exact absurd rfl hn
  | cons a f =>
    have ha : a = 0 := h
    show ((a :: f).dropWhile is0).length < _
    rw [List.dropWhile_cons, if_pos (by rw [ha]; rfl), List.length_cons]
    have := strip_len f
    show (stripI f).length < _
    omega
theorem remRow_Sm {A B : Nat} {l g : List Int} (hl : Sm A l) (hg : Sm B g) (nl : l ≠ []) (ng : g ≠ []) : Sm (A + B + 1) (remRow l g) := by
  have hb : (g.headD 0).natAbs < 2 ^ B := by
    cases g with
    | nil => exact absurd rfl ng
    | cons b g => exact hg b List.mem_cons_self
  have ha : (lessI l g).natAbs < 2 ^ A := by
    cases l with
    | nil => exact absurd rfl nl
    | cons a l =>
      have := hl a List.mem_cons_self
      unfold lessI
      show (if 0 < g.headD 0 then a else -a).natAbs < _
      split <;> omega
  have l0 : ∀ j, ((l.map (((g.headD 0).natAbs : Int) * ·)).getD j 0).natAbs ≤ 2 ^ (A + B) := fun j => by
    rw [List.getD_eq_getElem?_getD, List.getElem?_map]
    cases e : l[j]? with
    | none => exact Nat.zero_le _
    | some a =>
      show (((g.headD 0).natAbs : Int) * a).natAbs ≤ _
      rw [Int.mul_comm]
      exact Nat.le_of_lt (lt_mul (hl a (List.mem_of_getElem? e)) (by rw [Int.natAbs_natCast]; exact hb))
  have q := innI_abs (k := 0) (m := 2 ^ (A + B)) (P := 2 ^ (A + B) - 1) (a := -(lessI l g)) g 0 (l.map (((g.headD 0).natAbs : Int) * ·)) (fun b hb => by
    have := lt_mul (a := -(lessI l g)) (b := b) (A := A) (B := B) (by rw [Int.natAbs_neg]; exact ha) (hg b hb)
    omega) (fun j => Nat.le_trans (l0 j) (Nat.le_add_right _ _)) (fun j _ => l0 j)
  intro a ha'
  obtain ⟨j, hj⟩ := List.mem_iff_getElem?.mp ha'
  have := q j
  unfold remRow at hj
  rw [List.getD_eq_getElem?_getD, hj] at this
  have e : 2 ^ (A + B + 1) = 2 ^ (A + B) + 2 ^ (A + B) := by rw [Nat.pow_succ]; omega
  rw [e]
  have p := Nat.two_pow_pos (A + B)
  have this' : a.natAbs ≤ 2 ^ (A + B) + (2 ^ (A + B) - 1) := this
  omega
theorem headD_mul {e f : List Int} (he : e ≠ []) (hf : f ≠ []) : (mulI e f).headD 0 = e.headD 0 * f.headD 0 := by
  cases e with
  | nil => exact absurd rfl he
  | cons a e =>
    cases f with
    | nil => exact absurd rfl hf
    | cons b f =>
      have := mulI_head a b e f
      cases hm : mulI (a :: e) (b :: f) with
      | nil =>
        have := mulI_len (f := a :: e) (g := b :: f) (by simp) (by simp)
        rw [hm] at this
        simp only [List.length_cons, List.length_nil] at this
        omega
      | cons c r => rw [hm] at this; exact this
theorem remRow_mul {e l g : List Int} (he : 0 < e.headD 0) (nl : l ≠ []) (ng : g ≠ []) (h : g.length ≤ l.length) (x : Rat) : vl (toR (remRow (mulI e l) (mulI e g))) x = ((e.headD 0 : Int) : Rat) * (vl (toR e) x * vl (toR (remRow l g)) x) := by
  have ne : e ≠ [] := fun z => by rw [z] at he; simp at he
  have l1 := mulI_len ne nl
  have l2 := mulI_len ne ng
  have g0 : 0 < g.length := List.length_pos_iff.mpr ng
  rw [remRow_vl (by omega), remRow_vl h, mulI_vl, mulI_vl, show (mulI e l).length - (mulI e g).length = l.length - g.length by omega]
  unfold lessI
  rw [headD_mul ne nl, headD_mul ne ng]
  have k1 : ((e.headD 0 * g.headD 0).natAbs : Rat) = ((e.headD 0 : Int) : Rat) * ((g.headD 0).natAbs : Rat) := by
    have : ((e.headD 0 * g.headD 0).natAbs : Int) = e.headD 0 * ((g.headD 0).natAbs : Int) := by
      rw [Int.natAbs_mul, Int.natCast_mul, Int.natAbs_of_nonneg (by omega)]
    have h2 : (((e.headD 0 * g.headD 0).natAbs : Int) : Rat) = ((e.headD 0 * ((g.headD 0).natAbs : Int) : Int) : Rat) := by rw [this]
    rw [Rat.intCast_mul] at h2
    exact h2
  rw [k1]
  have k2 : (0 < e.headD 0 * g.headD 0) ↔ 0 < g.headD 0 := ⟨fun q => Int.pos_of_mul_pos_right q (by omega), fun q => Int.mul_pos he q⟩
  by_cases hg : 0 < g.headD 0
  · rw [if_pos (k2.mpr hg), if_pos hg, Rat.intCast_mul]; grind
  · rw [if_neg (fun q => hg (k2.mp q)), if_neg hg, Rat.intCast_neg, Rat.intCast_neg, Rat.intCast_mul]; grind
theorem mulI_nil (e : List Int) : mulI e [] = [] := by unfold mulI; simp
theorem vl_nil_I {f : List Int} (h : HdI f) (hz : ∀ x, vl (toR f) x = 0) : f = [] := toR_inj (vl_eq (HdR_toR h) (fun a q => by cases q) fun x => by rw [hz]; rfl)
/-- the step's row, made bare, as a product -/
theorem rem_step {e l g : List Int} (ce : cont e = 1) (de : HdI e) (he : 0 < e.headD 0) (nl : l ≠ []) (ng : g ≠ []) (h : g.length ≤ l.length) : prim (stripI (remRow (mulI e l) (mulI e g))) = mulI e (prim (stripI (remRow l g))) := by
  have ne : e ≠ [] := fun z => by rw [z] at he; simp at he
  have st : ∀ (f : List Int) (x : Rat), vl (toR (stripI f)) x = vl (toR f) x := fun f x => by rw [toR_strip, vl_strip]
  have e0 : (0 : Rat) < ((e.headD 0 : Int) : Rat) := by exact_mod_cast he
  have v : ∀ x, vl (toR (stripI (remRow (mulI e l) (mulI e g)))) x = ((e.headD 0 : Int) : Rat) * (vl (toR e) x * vl (toR (stripI (remRow l g))) x) := fun x => by rw [st, st, remRow_mul he nl ng h]
  by_cases z : stripI (remRow l g) = []
  · have : stripI (remRow (mulI e l) (mulI e g)) = [] := vl_nil_I (HdI_strip _) fun x => by
      rw [v, z]
      show _ * (_ * vl [] x) = 0
      rw [vl_nil]; grind
    rw [z, this]
    show [] = mulI e []
    rw [mulI_nil]
  · refine prim_mul e0 ce de (HdI_strip _) z (HdI_strip _) (fun y => ?_) v
    have m0 : mulI e (stripI (remRow l g)) = [] := vl_nil_I (HdI_mul de (HdI_strip _)) fun x => by
      rw [mulI_vl]
      have := v x
      rw [y] at this
      have h1 : vl (toR []) x = 0 := rfl
      rw [h1] at this
      rcases Rat.mul_eq_zero.mp this.symm with q | q
      · rw [q] at e0; exact absurd e0 (by decide)
      · exact q
    have := mulI_len ne z
    have := List.length_pos_iff.mpr ne
    have := List.length_pos_iff.mpr z
    rw [m0] at *
    simp only [List.length_nil] at *
    omega
theorem vl_monoR (c : Rat) (n : Nat) (x : Rat) : vl (c :: List.replicate n 0) x = c * x ^ n := by
  rw [vl_cons, vlR_zeros, List.length_replicate]; grind
/-- what a step keeps -/
theorem rem_rel {l g : List Int} (dg : HdI g) (ng : g ≠ []) (h : g.length ≤ l.length) : ∃ (q : List Rat) (s : Rat), s ≠ 0 ∧ ∀ x, vl (toR l) x = vl q x * vl (toR g) x + s * vl (toR (prim (stripI (remRow l g)))) x := by
  have st : ∀ (f : List Int) (x : Rat), vl (toR (stripI f)) x = vl (toR f) x := fun f x => by rw [toR_strip, vl_strip]
  have gn : ((g.headD 0).natAbs : Rat) ≠ 0 := by
    cases g with
    | nil => exact absurd rfl ng
    | cons b g =>
      have := dg b rfl
      intro z
      have z' : b.natAbs = 0 := by exact_mod_cast z
      omega
  have rv := fun x => remRow_vl h x
  by_cases z : stripI (remRow l g) = []
  · refine ⟨((lessI l g : Rat) / ((g.headD 0).natAbs : Rat)) :: List.replicate (l.length - g.length) 0, 1, by decide, fun x => ?_⟩
    have h1 := rv x
    rw [← st, z] at h1
    rw [z, vl_monoR]
    show _ = _ + 1 * vl [] x
    have h1' : vl [] x = _ := h1
    rw [vl_nil] at h1' ⊢
    generalize ((g.headD 0).natAbs : Rat) = k at *
    generalize (lessI l g : Rat) = m at *
    generalize vl (toR l) x = a at *
    generalize vl (toR g) x = b at *
    generalize x ^ (l.length - g.length) = y at *
    grind
  · have cp : (0 : Rat) < (cont (stripI (remRow l g)) : Rat) := by exact_mod_cast cont_pos (HdI_strip _) z
    have cn : (cont (stripI (remRow l g)) : Rat) ≠ 0 := fun z => by rw [z] at cp; exact absurd cp (by decide)
    refine ⟨((lessI l g : Rat) / ((g.headD 0).natAbs : Rat)) :: List.replicate (l.length - g.length) 0, (cont (stripI (remRow l g)) : Rat) / ((g.headD 0).natAbs : Rat), by grind, fun x => ?_⟩
    have h1 := rv x
    rw [← st, prim_vl] at h1
    rw [vl_monoR]
    generalize ((g.headD 0).natAbs : Rat) = k at *
    generalize (lessI l g : Rat) = m at *
    generalize vl (toR l) x = a at *
    generalize vl (toR g) x = b at *
    generalize x ^ (l.length - g.length) = y at *
    generalize (cont (stripI (remRow l g)) : Rat) = c at *
    generalize vl (toR (prim (stripI (remRow l g)))) x = v at *
    grind
end Pv

/-! Part Td: remainders and greatest divisors: the walks. -/
namespace Pv
open PySem
section
variable {E : En} {w : W} {o o1 o2 o3 o4 o5 o6 : Option IV} {i j k : Nat}
/-- what stands before a remainder: both rows are e times something small -/
structure RemIn (e f g : List Int) (Eb a b : Nat) : Prop where
  ce : cont e = 1
  de : HdI e
  he : 0 < e.headD 0
  se : Sm Eb e
  df : HdI f
  dg : HdI g
  ng : g ≠ []
  sf : Sm a f
  sg : Sm b g
  le : e.length ≤ 100
  lf : f.length ≤ 100
  lg : g.length ≤ 100
  bd : 2 * Eb + a + (f.length + 1 - g.length) * (b + 1) + b + 20 ≤ 7900
theorem rem_ok {e f g : List Int} {Eb a b : Nat} {X : Nat → D → W → Prop} (hq : E.q = 16777216) (H : RemIn e f g Eb a b)
    (hl : ∀ (L : List Int) (w : W), HdI L → Sm 7950 L → L.length ≤ 400 → E.Φ i [.d (iT L)] w = .ok (.d (iT (prim L))) w)
    (hs : ∀ (r : List Int) (m : Nat) (w : W), w[m]? = some (.lst (iM r)) → r.length ≤ 1000 → E.Φ j [.ref m, .d (.int 0)] w = .ok (.d (iT (stripI r))) w) :
    Ret (fun v w' => w' = w ∧ ∃ r : List Int, v = .d (iT (mulI e r)) ∧ HdI r ∧ r.length < g.length ∧ r.length ≤ f.length ∧ Sm (a + (f.length + 1 - g.length) * (b + 1)) r ∧ (r = f ∨ (r ≠ [] → cont r = 1)) ∧ ∃ (q : List Rat) (s : Rat), s ≠ 0 ∧ ∀ x, vl (toR f) x = vl q x * vl (toR g) x + s * vl (toR r) x)
      X (fin w.length (evS E (B_remainder_of i j) [some (.d (iT (mulI e f))), some (.d (iT (mulI e g))), o, o1, o2, o3, o4, o5, o6] w)) := by
  obtain ⟨ce, de, he, se, df, dg, ng, sf, sg, le, lf, lg, bd⟩ := H
  have ne : e ≠ [] := fun z => by rw [z] at he; simp at he
  have g0 : 0 < g.length := List.length_pos_iff.mpr ng
  have e0 : 0 < e.length := List.length_pos_iff.mpr ne
  have okl : ∀ k : Nat, k ≤ 1000 → okL k = true := fun k h => decide_eq_true (by omega)
  have lmg := mulI_len ne ng
  have ngE : mulI e g ≠ [] := List.length_pos_iff.mp (by omega)
  have sgE : Sm (Eb + b + 9) (mulI e g) := Sm_mul se sg (by omega)
  unfold B_remainder_of
  rw [Ret_fin, RetS_cons]
  refine RetS.nx (M := fun σ w' => w' = w ∧ σ = [some (.d (iT (mulI e f))), some (.d (iT (mulI e g))), some (.d (iT (mulI e f))), o1, o2, o3, o4, o5, o6]) ?_ ?_
  · simp
  rintro σ w' ⟨rfl, rfl⟩
  rw [RetS_cons]
  refine RetS.nx (M := fun σ w => ∃ (r : List Int) (js : W) (x3 x4 x5 x6 x7 x8 : Option IV), w = w' ++ js ∧ HdI r ∧ r.length < g.length ∧ r.length ≤ f.length ∧ Sm (a + (f.length + 1 - g.length) * (b + 1)) r ∧ (r = f ∨ (r ≠ [] → cont r = 1)) ∧ (∃ (q : List Rat) (s : Rat), s ≠ 0 ∧ ∀ x, vl (toR f) x = vl q x * vl (toR g) x + s * vl (toR r) x) ∧ σ = [some (.d (iT (mulI e f))), some (.d (iT (mulI e g))), some (.d (iT (mulI e r))), x3, x4, x5, x6, x7, x8]) ?_ ?_
  · rw [evS_whl, hq]
    refine whlL_inv (fun m σ w => ∃ (r : List Int) (js : W) (x3 x4 x5 x6 x7 x8 : Option IV), r.length ≤ m ∧ w = w' ++ js ∧ HdI r ∧ r.length ≤ f.length ∧ Sm (a + (f.length - max r.length (g.length - 1)) * (b + 1)) r ∧ (r = f ∨ (r ≠ [] → cont r = 1)) ∧ (∃ (q : List Rat) (s : Rat), s ≠ 0 ∧ ∀ x, vl (toR f) x = vl q x * vl (toR g) x + s * vl (toR r) x) ∧ σ = [some (.d (iT (mulI e f))), some (.d (iT (mulI e g))), some (.d (iT (mulI e r))), x3, x4, x5, x6, x7, x8]) (m := f.length) (by omega)
      ⟨f, [], _, _, _, _, _, _, Nat.le_refl _, by rw [List.append_nil], df, Nat.le_refl _, sf.mono (by omega), .inl rfl, ⟨[], 1, by decide, fun x => by rw [vl_nil]; grind⟩, rfl⟩ ?_
    rintro m σ w ⟨r, js, x3, x4, x5, x6, x7, x8, hm, rfl, dr, lr, sr, hr, ⟨q, s, s0, hv⟩, rfl⟩
    have rest : ∀ K : Prop, (r.length < g.length → K) → r.length < g.length → K := fun _ h => h
    simp only [Ret_cmp, Ret_blt, evA_cons, evA_nil, ev_var, Ret_ofO, slot_cons0, slot_cons, OptP_some, Ret_bind, Ret_ok, rdAll_cons, rdAll_nil, rd_d, Option.bind_some, Option.map_some, len_iT, cmpV_dd, ge_ii, BoolP_b]
    by_cases hlt : r.length < g.length
    · have hc : ¬ ((mulI e g).length : Int) ≤ ((mulI e r).length : Int) := by
        have := mul_len e r
        by_cases z : r = []
        · rw [z, mulI_nil, List.length_nil]; omega
        · have := mulI_len ne z
          have := List.length_pos_iff.mpr z
          omega
      rw [decide_eq_false hc, if_neg (by decide)]
      refine ⟨r, js, _, _, _, _, _, _, rfl, dr, hlt, lr, sr.mono ?_, hr, ⟨q, s, s0, hv⟩, rfl⟩
      have := Nat.mul_le_mul_right (b + 1) (show f.length - max r.length (g.length - 1) ≤ f.length + 1 - g.length by omega)
      omega
    · have nr : r ≠ [] := fun z => by rw [z, List.length_nil] at hlt; omega
      have lmr := mulI_len ne nr
      have hc : ((mulI e g).length : Int) ≤ ((mulI e r).length : Int) := by omega
      rw [decide_eq_true hc, if_pos rfl]
      have r0 : 0 < r.length := List.length_pos_iff.mpr nr
      obtain ⟨m', hm'⟩ : ∃ m', m = m' + 1 := ⟨m - 1, by omega⟩
      obtain ⟨A, hA⟩ : ∃ A, A = a + (f.length - max r.length (g.length - 1)) * (b + 1) := ⟨_, rfl⟩
      rw [← hA] at sr
      have hmax : max r.length (g.length - 1) = r.length := by omega
      have hA2 : A + (b + 1) ≤ a + (f.length + 1 - g.length) * (b + 1) := by
        have e1 : f.length + 1 - g.length = (f.length - r.length) + 1 + (r.length - g.length) := by omega
        rw [hA, hmax, e1, Nat.add_mul, Nat.add_mul]
        omega
      have srE : Sm (Eb + A + 9) (mulI e r) := Sm_mul se sr (by omega)
      obtain ⟨rw0, hrw⟩ : ∃ rw0, rw0 = remRow (mulI e r) (mulI e g) := ⟨_, rfl⟩
      have nrE : mulI e r ≠ [] := List.length_pos_iff.mp (by omega)
      have srow : Sm (Eb + A + 9 + (Eb + b + 9) + 1) rw0 := by rw [hrw]; exact remRow_Sm srE sgE nrE ngE
      have step := rem_step ce de he nr ng (show g.length ≤ r.length by omega)
      rw [← hrw] at step
      obtain ⟨q2, s2, s20, hv2⟩ := rem_rel (l := r) dg ng (by omega)
      obtain ⟨r2, hr2⟩ : ∃ r2, r2 = prim (stripI (remRow r g)) := ⟨_, rfl⟩
      rw [← hr2] at step hv2
      have d2 : HdI r2 := by rw [hr2]; exact HdI_prim (HdI_strip _)
      have l2 : r2.length < r.length := by
        rw [hr2, prim_len]
        have := strip_lt (remRow_head (l := r) ng) (List.length_pos_iff.mp (by rw [remRow_len]; omega))
        rwa [remRow_len] at this
      have sm2 : Sm (A + b + 1) r2 := by rw [hr2]; exact Sm_prim (Sm_strip (remRow_Sm sr sg nr ng))
      have c2 : r2 ≠ [] → cont r2 = 1 := fun z => by
        rw [hr2]
        refine cont_prim (HdI_strip _) fun y => z ?_
        rw [hr2, y]; rfl
      have lrow : rw0.length = (mulI e r).length := by rw [hrw, remRow_len]
      have cl := hl (stripI rw0)
      rw [step] at cl
      have l1 := strip_len rw0
      have cl' := fun w => cl w (HdI_strip _) ((Sm_strip srow).mono (by omega)) (by omega)
      have gE0 : subD (iT (mulI e g)) (.int 0) = some (.int ((mulI e g).headD 0)) := by
        cases hm : mulI e g with
        | nil => exact absurd hm ngE
        | cons => exact tub_0
      have rE0 : subD (iT (mulI e r)) (.int 0) = some (.int ((mulI e r).headD 0)) := by
        cases hm : mulI e r with
        | nil => exact absurd hm nrE
        | cons => exact tub_0
      have hrw' : rw0 = innI 0 (-(lessI (mulI e r) (mulI e g))) (mulI e g) 0 ((mulI e r).map ((((mulI e g).headD 0).natAbs : Int) * ·)) := hrw
      have oby : okI ((((mulI e g).headD 0).natAbs : Int)) = true := by
        cases hm : mulI e g with
        | nil => exact absurd hm ngE
        | cons c0 cs =>
          rw [hm] at sgE
          exact okI_pow (m := Eb + b + 9) (by rw [Int.natAbs_natCast]; exact sgE c0 List.mem_cons_self) (by omega)
      have ols : okI (lessI (mulI e r) (mulI e g)) = true := by
        cases hm : mulI e r with
        | nil => exact absurd hm nrE
        | cons c0 cs =>
          rw [hm] at srE
          have := srE c0 List.mem_cons_self
          refine okI_pow (m := Eb + A + 9) ?_ (by omega)
          unfold lessI
          show (if 0 < (mulI e g).headD 0 then c0 else -c0).natAbs < _
          split <;> omega
      refine ⟨m', hm', ?_⟩
      generalize hG : mulI e g = G at *
      generalize hR : mulI e r = R at *
      obtain ⟨wj, hwj⟩ : ∃ wj, wj = w' ++ js := ⟨_, rfl⟩
      rw [← hwj]
      rw [RetS_cons]
      refine RetS.nx (M := fun σ w => w = wj ∧ σ = [some (.d (iT (mulI e f))), some (.d (iT G)), some (.d (iT R)), x3, some (.d (.int ((G.headD 0).natAbs : Int))), some (.d (.int (lessI R G))), x6, x7, x8]) ?_ ?_
      · have ab : (if G.headD 0 < 0 then -(G.headD 0) else G.headD 0) = ((G.headD 0).natAbs : Int) := by split <;> omega
        have ls : lessI R G = if 0 < G.headD 0 then R.headD 0 else -(R.headD 0) := rfl
        rw [RetS_asgT, ls]
        by_cases h0 : 0 < G.headD 0
        · rw [if_pos h0]
          simp [-List.headD_eq_head?_getD, gE0, rE0, ab, h0, okL]
        · rw [if_neg h0]
          simp [-List.headD_eq_head?_getD, gE0, rE0, ab, h0, okL]
      rintro σ w ⟨rfl, rfl⟩
      rw [RetS_cons]
      refine RetS.nx (M := fun σ w1 => w1 = w ++ [.lst (iM (R.map (((G.headD 0).natAbs : Int) * ·)))] ∧ σ = [some (.d (iT (mulI e f))), some (.d (iT G)), some (.d (iT R)), some (.ref w.length), some (.d (.int ((G.headD 0).natAbs : Int))), some (.d (.int (lessI R G))), x6, x7, x8]) ?_ ?_
      · have ec : compL (elF (isNil .nil) (.nm 8) (ev E .nil) (ev E (.bin .Mult (.var 4) (.var 8))) (wip [some (.d (iT (mulI e f))), some (.d (iT G)), some (.d (iT R)), x3, some (.d (.int ((G.headD 0).natAbs : Int))), some (.d (.int (lessI R G))), x6, x7, x8] [8])) (iM R) w = .ok (iM (R.map (((G.headD 0).natAbs : Int) * ·))) w := by
          refine map_int fun c hc => ?_
          have oc : okI c = true := okI_pow (m := Eb + A + 9) (srE c hc) (by omega)
          refine Ret.eq (X := fun _ _ _ => False) ?_ (fun _ _ _ h => h)
          rw [show isNil .nil = true from rfl, Ret_elT]
          simp [-List.headD_eq_head?_getD, wip, oby, oc]
        simp only [evS_asgN, RetS_onE, ev_new, Ret_bind, Ret_comp, Ret_seq, ev_var, Ret_ofO, slot_cons0, slot_cons, OptP_some, toIt_iT, compP_dat, iM_len, okl _ (show R.length ≤ 1000 by omega), true_and, ec, newW_l, Ret_ok, RetS_mk, Nx_next, List.set_cons_succ, List.set_cons_zero, and_self]
      rintro σ w1 ⟨rfl, rfl⟩
      rw [RetS_cons]
      refine RetS.nx (M := fun σ w1 => ∃ x6 x7, w1 = w ++ [.lst (iM rw0)] ∧ σ = [some (.d (iT (mulI e f))), some (.d (iT G)), some (.d (iT R)), some (.ref w.length), some (.d (.int ((G.headD 0).natAbs : Int))), some (.d (.int (lessI R G))), x6, x7, x8]) ?_ ?_
      · rw [RetS_for, Ret_enm]
        simp only [ev_var, Ret_ofO, slot_cons0, slot_cons, OptP_some, DatP_d, show itemsD (iT G) = some (iM G) from rfl, forP_dat]
        refine ⟨by rw [enumD_len, iM_len]; exact okl _ (by omega), ?_⟩
        refine forL_inv (fun p σ w1 => ∃ ac x6 x7, w1 = w ++ [.lst (iM ac)] ∧ ac.length = R.length ∧ innI 0 (-(lessI R G)) (G.drop p) p ac = rw0 ∧ σ = [some (.d (iT (mulI e f))), some (.d (iT G)), some (.d (iT R)), some (.ref w.length), some (.d (.int ((G.headD 0).natAbs : Int))), some (.d (.int (lessI R G))), x6, x7, x8])
          ⟨_, _, _, rfl, List.length_map .., by rw [List.drop_zero]; exact hrw'.symm, rfl⟩ ?_ ?_
        · rintro p z σ w1 hz ⟨ac, x6, x7, rfl, acl, hi, rfl⟩
          obtain ⟨c, hc, rfl⟩ := enum_get hz
          have hpg : p < G.length := (List.getElem?_eq_some_iff.mp hc).1
          have dG : G.drop p = c :: G.drop (p + 1) := by
            rw [List.drop_eq_getElem_cons hpg]
            congr 1
            rw [List.getElem?_eq_getElem hpg] at hc
            exact Option.some.inj hc
          have oc : okI c = true := okI_pow (m := Eb + b + 9) (sgE c (List.mem_of_getElem? hc)) (by omega)
          have hpa : p < ac.length := by omega
          have su : subD (.list (iM ac)) (.int (p : Int)) = some (.int (ac.getD p 0)) := sub_nat (iM_get hpa)
          rw [RetS_body]
          simp only [asg_tup, asgs_cons, asg_nm, asgs_nil, Option.bind_some, OptP_some, List.set_cons_succ, List.set_cons_zero, RetS_cons]
          rw [stix_val (m := w.length) (j := p) (v := .int (ac.getD p 0 - lessI R G * c)) (acc := iM ac) rfl rfl last_get (by rw [iM_len]; exact hpa) (by
            refine Ret.eq (X := fun _ _ _ => False) ?_ (fun _ _ _ h => h)
            generalize ac.getD p 0 = y at su ⊢
            simp [su, ols, oc]), last_set, iM_set]
          simp only [sq_next, evS_nil, RetS_mk, loopK_next]
          refine ⟨_, _, _, rfl, by rw [List.length_set]; exact acl, ?_, rfl⟩
          rw [← hi, dG]
          show _ = innI 0 (-(lessI R G)) (G.drop (p + 1)) (p + 1) (ac.set (0 + p) (ac.getD (0 + p) 0 + -(lessI R G) * c))
          rw [Nat.zero_add, Int.neg_mul, ← Int.sub_eq_add_neg]
        · rintro σ w1 ⟨ac, x6, x7, rfl, acl, hi, rfl⟩
          rw [enumD_len, iM_len, List.drop_length] at hi
          have hi' : ac = rw0 := hi
          exact ⟨x6, x7, by rw [← hi'], rfl⟩
      rintro σ w1 ⟨x6', x7', rfl, rfl⟩
      have cs := hs rw0 w.length (w ++ [.lst (iM rw0)]) last_get (by omega)
      simp only [RetS_cons, evS_asgN, RetS_onE, ev_call, Ret_bind, evA_cons, evA_nil, ev_var, ev_cst, Ret_ofO, slot_cons0, slot_cons, OptP_some, Ret_ok, cs, cl', RetS_mk, sq_next, evS_nil, loopK_next, List.set_cons_succ, List.set_cons_zero]
      refine ⟨r2, js ++ [.lst (iM rw0)], _, _, _, _, _, _, by omega, by rw [hwj, List.append_assoc], d2, by omega, sm2.mono ?_, .inr c2, ⟨addR q (q2.map (s * ·)), s * s2, ?_, fun x => ?_⟩, rfl⟩
      · have e1 := Nat.mul_le_mul_right (b + 1) (show f.length - r.length + 1 ≤ f.length - max r2.length (g.length - 1) by omega)
        rw [Nat.add_mul, Nat.one_mul] at e1
        rw [hA, hmax]
        omega
      · intro z
        rcases Rat.mul_eq_zero.mp z with z | z
        · exact s0 z
        · exact s20 z
      · rw [addR_vl, vl_scale, hv x, hv2 x]
        grind
  · rintro σ w ⟨r, js, x3, x4, x5, x6, x7, x8, rfl, dr, hlt, lr, sr, hr, hv, rfl⟩
    simp only [RetS_cons, evS_ret, RetS_onE, ev_var, Ret_ofO, slot_cons0, slot_cons, OptP_some, RetS_mk, sq_ret, finK_d]
    exact ⟨by rw [List.take_append_of_le_length (Nat.le_refl _), List.take_length], r, rfl, dr, hlt, lr, sr, hr, hv⟩
end
end Pv

/-! Part Te: greatest divisors: the walk. -/
namespace Pv
open PySem
/-- sizes of all rows of remainders that may come -/
def okC (Eb Z : Nat) : Nat → Nat → Nat → Nat → Nat → Bool
  | 0, _, _, _, _ => false
  | n + 1, p, q, a, b => if q = 0 then decide (Eb + a + 9 ≤ Z) else
    decide (2 * Eb + a + (p + 1 - q) * (b + 1) + b + 20 ≤ 7900) && (List.range (min q (p + 1))).all fun r => okC Eb Z n q r b (if p < q then a else if r = 1 then 1 else a + (p + 1 - q) * (b + 1))
theorem okC_step {Eb Z n p q a b : Nat} (h : okC Eb Z (n + 1) p q a b = true) (hq : q ≠ 0) : 2 * Eb + a + (p + 1 - q) * (b + 1) + b + 20 ≤ 7900 ∧ ∀ r, r < q → r ≤ p → okC Eb Z n q r b (if p < q then a else if r = 1 then 1 else a + (p + 1 - q) * (b + 1)) = true := by
  rw [okC, if_neg hq, Bool.and_eq_true, List.all_eq_true] at h
  exact ⟨of_decide_eq_true h.1, fun r hr hp => h.2 r (List.mem_range.mpr (by omega))⟩
theorem okC_end {Eb Z n p a b : Nat} (h : okC Eb Z (n + 1) p 0 a b = true) : Eb + a + 9 ≤ Z := by
  rw [okC, if_pos rfl] at h
  exact of_decide_eq_true h
theorem okC_pos {Eb Z n p q a b : Nat} (h : okC Eb Z n p q a b = true) : ∃ m, n = m + 1 := by
  cases n with
  | zero => cases h
  | succ m => exact ⟨m, rfl⟩
theorem Sm_unit {r : List Int} (h : cont r = 1) (hl : r.length = 1) : Sm 1 r := by
  match r, hl with
  | [c], _ =>
    intro a ha
    rw [List.mem_singleton.mp ha]
    have : Nat.gcd 0 c.natAbs = 1 := h
    rw [Nat.gcd_zero_left] at this
    omega
section
variable {E : En} {w : W} {i j k : Nat}
def RemPost (e f g : List Int) (a b : Nat) (w : W) : IV → W → Prop := fun v w' => w' = w ∧ ∃ r : List Int, v = .d (iT (mulI e r)) ∧ HdI r ∧ r.length < g.length ∧ r.length ≤ f.length ∧ Sm (a + (f.length + 1 - g.length) * (b + 1)) r ∧ (r = f ∨ (r ≠ [] → cont r = 1)) ∧ ∃ (q : List Rat) (s : Rat), s ≠ 0 ∧ ∀ x, vl (toR f) x = vl q x * vl (toR g) x + s * vl (toR r) x
theorem common_of_ok {e f g : List Int} {Eb Z a b n : Nat} {X : Nat → D → W → Prop} (hZ : Z ≤ 7900) (hq : E.q = 16777216) (ce : cont e = 1) (de : HdI e) (he : 0 < e.headD 0) (se : Sm Eb e) (le : e.length ≤ 100)
    (df : HdI f) (dg : HdI g) (sf : Sm a f) (sg : Sm b g) (lf : f.length ≤ 100) (lg : g.length ≤ 100) (hn : okC Eb Z n f.length g.length a b = true)
    (hrem : ∀ (f g : List Int) (a b : Nat) (w : W) (X : Nat → D → W → Prop), RemIn e f g Eb a b → Ret (RemPost e f g a b w) X (E.Φ i [.d (iT (mulI e f)), .d (iT (mulI e g))] w))
    (hb : ∀ (L : List Int) (w : W), HdI L → Sm 7950 L → L.length ≤ 400 → E.Φ k [.d (iT L)] w = .ok (.d (iT (bareI L))) w) :
    Ret (fun v w' => w' = w ∧ ∃ d : List Int, v = .d (iT (bareI (mulI e d))) ∧ HdI d ∧ Sm Z (mulI e d) ∧ (f ≠ [] ∨ g ≠ [] → d ≠ []) ∧ IsG (toR f) (toR g) (toR d)) X (fin w.length (evS E (B_common_of i k) [some (.d (iT (mulI e f))), some (.d (iT (mulI e g)))] w)) := by
  have ne : e ≠ [] := fun z => by rw [z] at he; simp at he
  have e0 : 0 < e.length := List.length_pos_iff.mpr ne
  have el : okL 0 = true := rfl
  have emp : ∀ g : List Int, (mulI e g).isEmpty = g.isEmpty := fun g => by
    cases g with
    | nil => rw [mulI_nil]
    | cons b g =>
      have := mulI_len ne (g := b :: g) (by simp)
      cases hm : mulI e (b :: g) with
      | nil => rw [hm, List.length_nil, List.length_cons] at this; omega
      | cons => rfl
  unfold B_common_of
  rw [Ret_fin, RetS_cons]
  refine RetS.nx (M := fun σ w' => w' = w ∧ ∃ (d : List Int) (a : Nat), HdI d ∧ Sm a d ∧ Eb + a + 9 ≤ Z ∧ d.length ≤ 100 ∧ (f ≠ [] ∨ g ≠ [] → d ≠ []) ∧ IsG (toR f) (toR g) (toR d) ∧ σ = [some (.d (iT (mulI e d))), some (.d (iT []))]) ?_ ?_
  · rw [evS_whl, hq]
    refine whlL_inv (fun m σ w' => w' = w ∧ ∃ (f' g' : List Int) (a b n : Nat), g'.length ≤ m ∧ okC Eb Z n f'.length g'.length a b = true ∧ HdI f' ∧ HdI g' ∧ Sm a f' ∧ Sm b g' ∧ f'.length ≤ 100 ∧ g'.length ≤ 100 ∧ (f ≠ [] ∨ g ≠ [] → f' ≠ [] ∨ g' ≠ []) ∧ (∀ d, IsG (toR f') (toR g') d → IsG (toR f) (toR g) d) ∧ σ = [some (.d (iT (mulI e f'))), some (.d (iT (mulI e g')))]) (m := g.length) (by omega)
      ⟨rfl, f, g, a, b, n, Nat.le_refl _, hn, df, dg, sf, sg, lf, lg, id, fun d h => h, rfl⟩ ?_
    rintro m σ w' ⟨rfl, f', g', a', b', n', hm, hok, df', dg', sf', sg', lf', lg', nn, hG, rfl⟩
    obtain ⟨n1, rfl⟩ := okC_pos hok
    simp only [Ret_cmp, ev_var, Ret_ofO, slot_cons0, slot_cons, OptP_some, Ret_tup, evA_nil, Ret_ok, purs_nil, List.length_nil, el, true_and, cmpV_dd, ne_unitI, emp, BoolP_b]
    cases hg' : g' with
    | nil =>
      rw [hg'] at hok hG nn
      rw [mulI_nil]
      refine ⟨rfl, f', a', df', sf', okC_end hok, lf', fun z => ?_, hG _ (IsG_nil _), rfl⟩
      rcases nn z with q | q
      · exact q
      · exact absurd rfl q
    | cons b0 gs =>
      rw [← hg']
      have ng : g' ≠ [] := by rw [hg']; simp
      have g0 : 0 < g'.length := List.length_pos_iff.mpr ng
      obtain ⟨o1, o2⟩ := okC_step hok (by omega)
      have nb : (!g'.isEmpty) = true := by rw [hg']; rfl
      rw [if_pos nb]
      refine ⟨m - 1, by omega, ?_⟩
      have RI : RemIn e f' g' Eb a' b' := ⟨ce, de, he, se, df', dg', ng, sf', sg', le, lf', lg', o1⟩
      simp only [RetS_cons, evS_par, RetS_onE, evA_cons, evA_nil, ev_var, ev_call, Ret_bind, Ret_ofO, slot_cons0, slot_cons, OptP_some, Ret_ok]
      refine Ret.imp (hrem f' g' a' b' w' _ RI) ?_
      rintro v w1 ⟨rfl, r, rfl, dr, l1, l2, sr, hr, q, s, s0, hv⟩
      simp only [RetS_ofS, setAll_cons, setAll_nil, OptP_some, List.set_cons_succ, List.set_cons_zero, sq_next, evS_nil, RetS_mk, loopK_next]
      refine ⟨trivial, g', r, b', _, n1, by omega, o2 r.length l1 l2, dg', dr, sg', ?_, lg', by omega, fun _ => .inl ng, fun d hd => hG d (IsG.step s0 hv hd), rfl⟩
      split
      · rename_i hp
        rw [show f'.length + 1 - g'.length = 0 by omega, Nat.zero_mul, Nat.add_zero] at sr
        exact sr
      · rename_i hp
        split
        · rename_i h1
          refine Sm_unit ?_ h1
          rcases hr with rfl | hr
          · omega
          · exact hr (List.length_pos_iff.mp (by omega))
        · exact sr
  rintro σ w' ⟨rfl, d, a', dd, sd, hd, ld, nd, hG, rfl⟩
  have smZ : Sm Z (mulI e d) := (Sm_mul se sd (by omega)).mono (by omega)
  have sm : Sm 7950 (mulI e d) := smZ.mono (by omega)
  have lm := mul_len e d
  have c := hb (mulI e d) w' (HdI_mul de dd) sm (by omega)
  simp only [RetS_cons, evS_ret, RetS_onE, ev_call, Ret_bind, evA_cons, evA_nil, ev_var, Ret_ofO, slot_cons0, OptP_some, Ret_ok, c, RetS_mk, sq_ret, finK_d, take_len, true_and]
  exact ⟨d, rfl, dd, smZ, nd, hG⟩
theorem common_ok {f g : D} {P : IV → W → Prop} {X : Nat → D → W → Prop} (h1 : E.Φ i [.d f] w = .ok (.d .none) w) (h2 : E.Φ i [.d g] w = .ok (.d .none) w)
    (h3 : Ret (fun v w' => w' = w ∧ ∃ x, v = .d x ∧ P v w) (fun _ _ _ => False) (E.Φ j [.d f, .d g] w)) :
    Ret (fun v w' => w' = w ∧ P v w) X (fin w.length (evS E (B_common i j) [some (.d f), some (.d g)] w)) := by
  unfold B_common
  rw [Ret_fin, RetS_cons]
  refine RetS.nx (M := fun σ w' => w' = w ∧ σ = [some (.d f), some (.d g)]) ?_ ?_
  · simp [h1]
  rintro σ w' ⟨rfl, rfl⟩
  rw [RetS_cons]
  refine RetS.nx (M := fun σ w => w = w' ∧ σ = [some (.d f), some (.d g)]) ?_ ?_
  · simp [h2]
  rintro σ w ⟨rfl, rfl⟩
  simp only [RetS_cons, evS_ret, RetS_onE, ev_call, Ret_bind, evA_cons, evA_nil, ev_var, Ret_ofO, slot_cons0, slot_cons, OptP_some, Ret_ok]
  refine Ret.mono h3 ?_ ?_
  · rintro v w1 ⟨rfl, x, rfl, hp⟩
    simp only [RetS_mk, sq_ret, finK_d, take_len]
    first | exact ⟨trivial, hp⟩ | exact ⟨rfl, hp⟩ | exact hp
  · exact fun c x w1 h => h.elim
end
end Pv

/-! Part Tf: the law's own bare rows. -/
namespace Pv
open PySem
theorem Sm_bare {B : Nat} {f : List Int} (h : Sm B f) : Sm B (bareI f) := by
  unfold bareI
  split
  · exact Sm_prim h
  · refine Sm_prim fun a ha => ?_
    obtain ⟨b, hb, rfl⟩ := List.mem_map.mp ha
    show (-1 * b).natAbs < _
    rw [Int.natAbs_mul]
    show 1 * b.natAbs < _
    rw [Nat.one_mul]
    exact h b hb
/-- where a search of a greatest divisor stands -/
def EuW (G m a b : Nat) : Prop := Nat.gcd a b = G ∧ ((b ≤ a ∧ a * b < 2 ^ m) ∨ (a < b ∧ 2 * (a * b) + 1 < 2 ^ m))
theorem EuW.step {G m a b : Nat} (h : EuW G m a b) (hb : b ≠ 0) : ∃ m', m = m' + 1 ∧ EuW G m' b (a % b) := by
  obtain ⟨h1, h2⟩ := h
  have hg : Nat.gcd b (a % b) = G := by rw [Nat.gcd_comm, ← Nat.gcd_rec, Nat.gcd_comm, h1]
  have ml := Nat.mod_lt a (show 0 < b by omega)
  rcases h2 with ⟨h3, h4⟩ | ⟨h3, h4⟩
  · have ab : 1 ≤ a * b := Nat.mul_pos (by omega) (by omega)
    cases m with
    | zero => simp at h4; omega
    | succ m =>
      refine ⟨m, rfl, hg, .inl ⟨by omega, ?_⟩⟩
      have e := Nat.div_add_mod a b
      have d1 : 1 ≤ a / b := Nat.div_pos h3 (by omega)
      have : b * 1 ≤ b * (a / b) := Nat.mul_le_mul_left b d1
      have q : 2 * (a % b) ≤ a := by omega
      have := Nat.mul_le_mul_left b q
      rw [Nat.pow_succ] at h4
      rw [Nat.mul_comm a b] at h4
      have r : b * (2 * (a % b)) = 2 * (b * (a % b)) := by rw [Nat.mul_left_comm]
      omega
  · cases m with
    | zero => simp at h4
    | succ m =>
      refine ⟨m, rfl, hg, .inl ⟨by omega, ?_⟩⟩
      rw [Nat.mod_eq_of_lt h3, Nat.mul_comm b a]
      rw [Nat.pow_succ] at h4
      omega
section
variable {E : En} {w : W} {o o1 o2 o3 : Option IV} {f g : List Int}
theorem law_bare_ok (hq : E.q = 16777216) (hf : Sm 8000 f) (h : HdI f) (lf : f.length ≤ 400) : fin w.length (evS E B_law_bare [some (.d (iT f)), o, o1, o2, o3] w) = .ok (.d (iT (bareI f))) w := by
  refine Ret.eq (X := fun _ _ _ => False) ?_ (fun _ _ _ h => h)
  have okl : ∀ k : Nat, k ≤ 1000 → okL k = true := fun k h => decide_eq_true (by omega)
  unfold B_law_bare
  rw [Ret_fin, RetS_cons]
  refine RetS.nx (M := fun σ w' => w' = w ∧ σ = [some (.d (iT f)), some (.d (.int ((0 : Nat) : Int))), o1, o2, o3]) ?_ ?_
  · simp
  rintro σ w' ⟨rfl, rfl⟩
  rw [RetS_cons]
  refine RetS.nx (M := fun σ w => w = w' ∧ ∃ x y z, σ = [some (.d (iT f)), some (.d (.int (cont f : Int))), x, y, z]) ?_ ?_
  · rw [RetS_for, Ret_seq]
    simp only [ev_var, Ret_ofO, slot_cons0, OptP_some, toIt_iT, forP_dat]
    refine ⟨by rw [iM_len]; exact okl _ (by omega), ?_⟩
    refine forL_inv (fun k σ w => w = w' ∧ ∃ (u : Nat) (x y z : Option IV), (f.drop k).foldl (fun c a => Nat.gcd c a.natAbs) u = cont f ∧ u < 2 ^ 8000 ∧ σ = [some (.d (iT f)), some (.d (.int (u : Int))), x, y, z])
      ⟨rfl, 0, _, _, _, rfl, Nat.two_pow_pos _, rfl⟩ ?_ ?_
    · rintro k z σ w hz ⟨rfl, u, x, y, z', he, hu, rfl⟩
      have hk : k < f.length := by
        have := (List.getElem?_eq_some_iff.mp hz).1
        simpa using this
      have hm := hf _ (getD_mem hk)
      rw [iM_get hk] at hz
      cases hz
      rw [drop_get hk] at he
      generalize f.getD k 0 = a at *
      rw [RetS_body]
      simp only [asg_nm, OptP_some, List.set_cons_succ, List.set_cons_zero]
      have ab : (if a < 0 then -a else a) = (a.natAbs : Int) := by split <;> omega
      rw [RetS_cons]
      refine RetS.nx (M := fun σ w1 => w1 = w ∧ σ = [some (.d (iT f)), some (.d (.int (u : Int))), some (.d (.int a)), some (.d (.int (a.natAbs : Int))), some (.d (.int (u : Int)))]) ?_ ?_
      · simp [ab]
      rintro σ w1 ⟨rfl, rfl⟩
      rw [RetS_cons]
      refine RetS.nx (M := fun σ w => w = w1 ∧ ∃ z, σ = [some (.d (iT f)), some (.d (.int (u : Int))), some (.d (.int a)), some (.d (.int ((Nat.gcd a.natAbs u : Nat) : Int))), z]) ?_ ?_
      · rw [evS_whl, hq]
        have st : EuW (Nat.gcd a.natAbs u) 16002 a.natAbs u := by
          refine ⟨rfl, ?_⟩
          have pr : a.natAbs * u < 2 ^ 16000 := by
            have := Nat.mul_lt_mul'' hm hu
            rwa [← Nat.pow_add] at this
          have e : 2 ^ 16002 = 4 * 2 ^ 16000 := by rw [show (16002 : Nat) = 16000 + 2 by decide, Nat.pow_add, Nat.mul_comm]
          rw [e]
          generalize 2 ^ 16000 = Y at *
          generalize a.natAbs * u = Z at *
          by_cases q : u ≤ a.natAbs
          · exact .inl ⟨q, by omega⟩
          · exact .inr ⟨by omega, by omega⟩
        refine whlL_inv (fun m σ w => w = w1 ∧ ∃ c d : Nat, EuW (Nat.gcd a.natAbs u) m c d ∧ σ = [some (.d (iT f)), some (.d (.int (u : Int))), some (.d (.int a)), some (.d (.int (c : Int))), some (.d (.int (d : Int)))]) (m := 16002) (by decide) ⟨rfl, _, _, st, rfl⟩ ?_
        rintro m σ w ⟨rfl, c, d, hE, rfl⟩
        by_cases hd : d = 0
        · subst hd
          simp
          have := hE.1
          rw [Nat.gcd_zero_right] at this
          rw [this]
        · obtain ⟨m', rfl, hE'⟩ := hE.step hd
          have dz : (d : Int) ≠ 0 := by omega
          have md : (c : Int).fmod (d : Int) = ((c % d : Nat) : Int) := by
            rw [Int.fmod_eq_emod_of_nonneg _ (by omega)]; rfl
          simp [hd, md]
          exact ⟨d, c % d, hE', rfl, rfl⟩
      rintro σ w ⟨rfl, z2, rfl⟩
      simp
      have l1 : Nat.gcd a.natAbs u < 2 ^ 8000 := by
        by_cases ha : a.natAbs = 0
        · rw [ha, Nat.gcd_zero_left]; exact hu
        · exact Nat.lt_of_le_of_lt (Nat.le_of_dvd (by omega) (Nat.gcd_dvd_left ..)) hm
      refine ⟨Nat.gcd a.natAbs u, ?_, l1, rfl⟩
      rw [Nat.gcd_comm]; exact he
    · rintro σ w ⟨rfl, u, x, y, z, he, hu, rfl⟩
      rw [iM_len, List.drop_length] at he
      have he' : u = cont f := he
      rw [← he']
      exact ⟨rfl, x, y, z, rfl⟩
  rintro σ w ⟨rfl, x, y, z, rfl⟩
  cases f with
  | nil => simp [ne_unitI, okL, take_len]; rfl
  | cons a0 f =>
    have c0 := cont_pos h (by simp)
    have c1 := cont_log hf h (by simp)
    have sb : subD (iT (a0 :: f)) (.int 0) = some (.int a0) := tub_0
    have e : compL (elF (isNil .nil) (.nm 2) (ev E .nil) (ev E (.bin .FloorDiv (.var 2) (.ite (.cmp .Gt (.sub (.var 0) (.cst (.int (0)))) (.cst (.int (0)))) (.var 1) (.neg (.var 1))))) (wip [some (.d (iT (a0 :: f))), some (.d (.int (cont (a0 :: f) : Int))), x, y, z] [2])) (iM (a0 :: f)) w = .ok (iM (bareI (a0 :: f))) w := by
      rw [bareI_map]
      refine map_int fun a ha => ?_
      have od : okDiv a (cont (a0 :: f) : Int) = true := okDiv_abs (by omega) (by rw [Int.natAbs_natCast]; exact log_lt (k := 8000) c1 (by decide) (by decide))
      have od2 : okDiv a (-(cont (a0 :: f) : Int)) = true := okDiv_abs (by omega) (by rw [Int.natAbs_neg, Int.natAbs_natCast]; exact log_lt (k := 8000) c1 (by decide) (by decide))
      generalize (cont (a0 :: f) : Int) = c at *
      refine Ret.eq (X := fun _ _ _ => False) ?_ (fun _ _ _ h => h)
      rw [show isNil .nil = true from rfl, Ret_elT]
      by_cases h0 : 0 < a0
      · simp [wip, sb, h0, od]
      · simp [wip, sb, h0, od2]
    have l1 : okL (a0 :: f).length = true := okl _ (by omega)
    have el : okL 0 = true := rfl
    have nu : cmpD .NotEq (iT (a0 :: f)) (.tuple []) = some true := ne_unitI
    simp only [RetS_cons, evS_ret, RetS_onE, ev_ite, Ret_tst, Ret_cmp, ev_var, Ret_ofO, slot_cons0, OptP_some, Ret_tup, evA_nil, Ret_ok, purs_nil, List.length_nil, el, true_and, cmpV_dd, nu, BoolP_b, Ret_if, if_true, Ret_blt, evA_cons, Ret_bind, Ret_comp, Ret_seq, toIt_iT, compP_dat, iM_len, l1, e, rdAll_cons, rdAll_nil, rd_d, Option.bind_some, Option.map_some, tupl_iT, RetS_mk, sq_ret, finK_d, take_len, and_self]
end
end Pv

/-! Part Tg: the law's own greatest divisors: rows of numbers as multiples of rows of integers. -/
namespace Pv
open PySem
/-- a row of numbers as c times a row of integers -/
structure Rp (R : List Rat) (F : List Int) (c : Rat) (a s : Nat) : Prop where
  e : R = (toR F).map (c * ·)
  c0 : c ≠ 0
  hc : Bd s c
  dF : HdI F
  sF : Sm a F
  a1 : 1 ≤ a
def okR : Nat → Nat → Nat → Nat → Nat → Nat → Nat → Bool
  | 0, _, _, _, _, _, _ => false
  | n + 1, p, q, a, s, b, t => if q = 0 then decide (a + s ≤ 3990) else
    decide (a + (p + 1 - q) * (b + 1) + s + (p + 1 - q) * b + b + t + 10 ≤ 3990) && (List.range q).all fun r =>
      okR n q r b t (if p < q then a else if r = 1 then 1 else a + (p + 1 - q) * (b + 1)) (if p < q then s else if r = 1 then a + (p + 1 - q) * (b + 1) + (s + (p + 1 - q) * b) else s + (p + 1 - q) * b)
theorem okR_step {n p q a s b t : Nat} (h : okR (n + 1) p q a s b t = true) (hq : q ≠ 0) : a + (p + 1 - q) * (b + 1) + s + (p + 1 - q) * b + b + t + 10 ≤ 3990 ∧ ∀ r, r < q →
      okR n q r b t (if p < q then a else if r = 1 then 1 else a + (p + 1 - q) * (b + 1)) (if p < q then s else if r = 1 then a + (p + 1 - q) * (b + 1) + (s + (p + 1 - q) * b) else s + (p + 1 - q) * b) = true := by
  rw [okR, if_neg hq, Bool.and_eq_true, List.all_eq_true] at h
  exact ⟨of_decide_eq_true h.1, fun r hr => h.2 r (List.mem_range.mpr hr)⟩
theorem okR_end {n p a s b t : Nat} (h : okR (n + 1) p 0 a s b t = true) : a + s ≤ 3990 := by
  rw [okR, if_pos rfl] at h
  exact of_decide_eq_true h
theorem okR_pos {n p q a s b t : Nat} (h : okR n p q a s b t = true) : ∃ m, n = m + 1 := by
  cases n with
  | zero => cases h
  | succ m => exact ⟨m, rfl⟩
section
variable {R : List Rat} {F G : List Int} {c d : Rat} {a s b t : Nat}
theorem Rp.len (h : Rp R F c a s) : R.length = F.length := by rw [h.e, List.length_map, toR_len]
theorem Rp.vl (h : Rp R F c a s) (x : Rat) : Pv.vl R x = c * Pv.vl (toR F) x := by rw [h.e, vl_scale]
theorem HdR_map {F : List Int} {c : Rat} (h : HdI F) (c0 : c ≠ 0) : HdR ((toR F).map (c * ·)) := by
  have hh := HdR_toR h
  cases hf : toR F with
  | nil => intro a h; cases h
  | cons b g =>
    intro a h
    cases h
    intro z
    rw [hf] at hh
    rcases Rat.mul_eq_zero.mp z with z | z
    · exact c0 z
    · exact hh b rfl z
theorem Rp.hd (h : Rp R F c a s) : HdR R := by rw [h.e]; exact HdR_map h.dF h.c0
theorem Bd_int {A : Nat} {u : Int} (h : u.natAbs < 2 ^ A) (h1 : 1 ≤ A) : Bd A (u : Rat) := by
  refine ⟨?_, ?_⟩
  · rw [Rat.num_intCast]; exact h
  · rw [Rat.den_intCast]; exact Nat.one_lt_two_pow (by omega)
theorem Rp.bd (h : Rp R F c a s) : ∀ r ∈ R, Bd (s + a) r := fun r hr => by
  rw [h.e] at hr
  obtain ⟨y, hy, rfl⟩ := List.mem_map.mp hr
  obtain ⟨u, hu, rfl⟩ := List.mem_map.mp hy
  exact Bd_mul h.hc (Bd_int (h.sF u hu) h.a1)
theorem Rp.bR (h : Rp R F c a s) (hs : s + a ≤ 4000) : bR R := fun r hr => (h.bd r hr).mono hs
theorem Rp.head (h : Rp R F c a s) : R.getD 0 0 = c * ((F.headD 0 : Int) : Rat) := by
  rw [h.e]
  cases F with
  | nil => show (0 : Rat) = c * ((0 : Int) : Rat); rw [show ((0 : Int) : Rat) = 0 from rfl]; grind
  | cons u F => rfl
theorem Rp.mono {a' s' : Nat} (h : Rp R F c a s) (ha : a ≤ a') (hs : s ≤ s') : Rp R F c a' s' := ⟨h.e, h.c0, h.hc.mono hs, h.dF, h.sF.mono ha, by have := h.a1; omega⟩
/-- a row of one number -/
theorem Rp.unit (h : Rp R F c a s) (h1 : F.length = 1) : ∃ F' c', Rp R F' c' 1 (a + s) ∧ F'.length = 1 ∧ ∃ k : Rat, k ≠ 0 ∧ ∀ x, Pv.vl (toR F) x = k * Pv.vl (toR F') x := by
  have nF : F ≠ [] := List.length_pos_iff.mp (by omega)
  have cp := cont_pos h.dF nF
  have cn : (cont F : Rat) ≠ 0 := by
    intro z; have : cont F = 0 := by exact_mod_cast z
    omega
  refine ⟨prim F, c * (cont F : Rat), ⟨?_, ?_, ?_, HdI_prim h.dF, ?_, Nat.le_refl 1⟩, by rw [prim_len, h1], (cont F : Rat), cn, fun x => prim_vl F x⟩
  · rw [h.e]
    conv => lhs; rw [← prim_eq F, toR_scl, List.map_map]
    refine List.map_congr_left fun y _ => ?_
    show c * (((cont F : Int) : Rat) * y) = c * (cont F : Rat) * y
    rw [show ((cont F : Int) : Rat) = (cont F : Rat) from rfl]; grind
  · intro z
    rcases Rat.mul_eq_zero.mp z with z | z
    · exact h.c0 z
    · exact cn z
  · have := Bd_mul h.hc (Bd_int (u := (cont F : Int)) (A := a) (by rw [Int.natAbs_natCast]; exact cont_log h.sF h.dF nF) h.a1)
    rw [Nat.add_comm a s]
    exact this
  · exact Sm_unit (cont_prim h.dF nF) (by rw [prim_len, h1])
/-- one step of the law's division -/
theorem Rp.step {R S : List Rat} (h : Rp R F c a s) (k : Rp S G d b t) (nF : F ≠ []) (nG : G ≠ []) (hl : G.length ≤ F.length) :
    Rp (addR R ((S.map (-(R.getD 0 0 * (1 / S.getD 0 0)) * ·)) ++ List.replicate (F.length - G.length) 0)) (stripI (remRow F G)) (c * (1 / ((G.headD 0).natAbs : Rat))) (a + b + 1) (s + b) ∧
    (∀ y ∈ (S.map (-(R.getD 0 0 * (1 / S.getD 0 0)) * ·)) ++ List.replicate (F.length - G.length) 0, Bd (s + b + a + b) y) := by
  have g0 : G.headD 0 ≠ 0 := by
    cases G with
    | nil => exact absurd rfl nG
    | cons u G => exact k.dF u rfl
  have gb : (G.headD 0).natAbs < 2 ^ b := by
    cases G with
    | nil => exact absurd rfl nG
    | cons u G => exact k.sF u List.mem_cons_self
  have lb : (F.headD 0).natAbs < 2 ^ a := by
    cases F with
    | nil => exact absurd rfl nF
    | cons u F => exact h.sF u List.mem_cons_self
  have gr : ((G.headD 0 : Int) : Rat) ≠ 0 := by intro z; exact g0 (by exact_mod_cast z)
  have gn : ((G.headD 0).natAbs : Rat) ≠ 0 := by
    intro z; have : (G.headD 0).natAbs = 0 := by exact_mod_cast z
    omega
  have c2 : c * (1 / ((G.headD 0).natAbs : Rat)) ≠ 0 := by
    intro z
    have : c = c * (1 / ((G.headD 0).natAbs : Rat)) * ((G.headD 0).natAbs : Rat) := by grind
    rw [z] at this
    exact h.c0 (by rw [this]; grind)
  have inv : Bd b (1 / ((G.headD 0).natAbs : Rat)) := Bd_inv (Bd_int (u := ((G.headD 0).natAbs : Int)) (by rw [Int.natAbs_natCast]; exact gb) k.a1) gn
  have d0 := k.c0
  have by0 : -(R.getD 0 0 * (1 / S.getD 0 0)) * d = -(c * ((F.headD 0 : Int) : Rat) * (1 / ((G.headD 0 : Int) : Rat))) := by
    rw [h.head, k.head]
    generalize ((G.headD 0 : Int) : Rat) = y at *
    generalize ((F.headD 0 : Int) : Rat) = z at *
    grind
  have ab : ((G.headD 0).natAbs : Rat) = ((G.headD 0 : Int) : Rat) ∨ ((G.headD 0).natAbs : Rat) = -((G.headD 0 : Int) : Rat) := by
    rcases Int.natAbs_eq (G.headD 0) with q | q
    · left
      have : (((G.headD 0).natAbs : Int) : Rat) = ((G.headD 0 : Int) : Rat) := by rw [← q]
      exact this
    · right
      have : (((G.headD 0).natAbs : Int) : Rat) = ((-(G.headD 0) : Int) : Rat) := by congr 1; omega
      rw [Rat.intCast_neg] at this
      exact this
  refine ⟨⟨vl_eq (HdR_strip _) (HdR_map (HdI_strip _) c2) fun x => ?_, c2, Bd_mul h.hc inv, HdI_strip _, Sm_strip (remRow_Sm h.sF k.sF nF nG), by omega⟩, fun y hy => ?_⟩
  · rw [addR_vl, vl_scale, toR_strip, vl_strip, remRow_vl hl]
    have e1 : Pv.vl ((S.map (-(R.getD 0 0 * (1 / S.getD 0 0)) * ·)) ++ List.replicate (F.length - G.length) 0) x = -(R.getD 0 0 * (1 / S.getD 0 0)) * (d * Pv.vl (toR G) x) * x ^ (F.length - G.length) := by
      have app : ∀ (f : List Rat) (n : Nat), Pv.vl (f ++ List.replicate n 0) x = Pv.vl f x * x ^ n := by
        intro f n
        induction n with
        | zero => rw [List.replicate_zero, List.append_nil, Rat.pow_zero]; grind
        | succ n ih => rw [List.replicate_succ', ← List.append_assoc, vl_snoc, ih, Rat.pow_succ]; grind
      rw [app, vl_scale, k.vl x]
    rw [e1, h.vl x, ← Rat.mul_assoc (-(R.getD 0 0 * (1 / S.getD 0 0))), by0]
    have ls : (lessI F G : Rat) = if 0 < G.headD 0 then ((F.headD 0 : Int) : Rat) else -((F.headD 0 : Int) : Rat) := by
      unfold lessI
      split
      · rfl
      · exact Rat.intCast_neg _
    have sg : (lessI F G : Rat) * (1 / ((G.headD 0).natAbs : Rat)) = ((F.headD 0 : Int) : Rat) * (1 / ((G.headD 0 : Int) : Rat)) := by
      rw [ls]
      by_cases hp : 0 < G.headD 0
      · rw [if_pos hp]
        have : ((G.headD 0).natAbs : Rat) = ((G.headD 0 : Int) : Rat) := by
          have : (((G.headD 0).natAbs : Int) : Rat) = ((G.headD 0 : Int) : Rat) := by congr 1; omega
          exact this
        rw [this]
      · rw [if_neg hp]
        have : ((G.headD 0).natAbs : Rat) = -((G.headD 0 : Int) : Rat) := by
          have : (((G.headD 0).natAbs : Int) : Rat) = ((-(G.headD 0) : Int) : Rat) := by congr 1; omega
          rw [Rat.intCast_neg] at this
          exact this
        rw [this]
        generalize ((G.headD 0 : Int) : Rat) = y at *
        grind
    generalize ((G.headD 0).natAbs : Rat) = n at *
    generalize (lessI F G : Rat) = m at *
    generalize ((G.headD 0 : Int) : Rat) = y at *
    generalize ((F.headD 0 : Int) : Rat) = z at *
    generalize Pv.vl (toR F) x = u at *
    generalize Pv.vl (toR G) x = v at *
    generalize x ^ (F.length - G.length) = p at *
    have e2 : c * (1 / n) * (n * u - m * v * p) = c * u - c * (m * (1 / n)) * v * p := by grind
    rw [e2, sg]; grind
  · rcases List.mem_append.mp hy with q | q
    · obtain ⟨r, hr, rfl⟩ := List.mem_map.mp q
      rw [k.e] at hr
      obtain ⟨y, hy2, rfl⟩ := List.mem_map.mp hr
      obtain ⟨u, hu, rfl⟩ := List.mem_map.mp hy2
      have e : -(R.getD 0 0 * (1 / S.getD 0 0)) * (d * (u : Rat)) = -(c * (1 / ((G.headD 0 : Int) : Rat)) * ((F.headD 0 : Int) : Rat) * (u : Rat)) := by
        rw [← Rat.mul_assoc, by0]; grind
      show Bd _ (-(R.getD 0 0 * (1 / S.getD 0 0)) * (d * (u : Rat)))
      rw [e]
      refine Bd_neg (Bd_mul (Bd_mul (Bd_mul h.hc (Bd_inv (Bd_int gb k.a1) gr)) (Bd_int lb h.a1)) (Bd_int (k.sF u hu) k.a1))
    · rw [List.eq_of_mem_replicate q]
      exact bd_zero (by have := h.a1; omega)
end
end Pv

/-! Part Th: the law's own greatest divisors: the walk. -/
namespace Pv
open PySem
def lcBody (i1 i2 : Nat) : St := (.cons (.asg (.nm 9) (.call i1 (.cons (.sub (.var 6) (.cst (.int (0)))) (.cons (.ite (.cmp .Gt (.sub (.sub (.var 5) (.cst (.int (0)))) (.cst (.int (0)))) (.cst (.int (0)))) (.tup (.cons (.sub (.sub (.var 5) (.cst (.int (0)))) (.cst (.int (1)))) (.cons (.sub (.sub (.var 5) (.cst (.int (0)))) (.cst (.int (0)))) .nil))) (.tup (.cons (.neg (.sub (.sub (.var 5) (.cst (.int (0)))) (.cst (.int (1))))) (.cons (.neg (.sub (.sub (.var 5) (.cst (.int (0)))) (.cst (.int (0))))) .nil)))) .nil)))) (.cons (.asg (.nm 10) (.bin .Add (.comp [12] (.call i1 (.cons (.tup (.cons (.neg (.sub (.var 9) (.cst (.int (0))))) (.cons (.sub (.var 9) (.cst (.int (1)))) .nil))) (.cons (.var 12) .nil))) (.nm 12) (.seq (.var 5)) .nil) (.bin .Mult (.lst (.cons (.tup (.cons (.cst (.int (0))) (.cons (.cst (.int (1))) .nil))) .nil)) (.bin .Sub (.blt .len (.cons (.var 6) .nil)) (.blt .len (.cons (.var 5) .nil)))))) (.cons (.asg (.nm 6) (.call i2 (.cons (.var 6) (.cons (.blt .tuple (.cons (.var 10) .nil)) .nil)))) .nil)))
def lcWhl (i1 i2 : Nat) : St := (.whl (.cmp .GtE (.blt .len (.cons (.var 6) .nil)) (.blt .len (.cons (.var 5) .nil))) (lcBody i1 i2))
theorem rem_rel2 {l g : List Int} (dg : HdI g) (ng : g ≠ []) (h : g.length ≤ l.length) : ∃ (q : List Rat) (s : Rat), s ≠ 0 ∧ ∀ x, vl (toR l) x = vl q x * vl (toR g) x + s * vl (toR (stripI (remRow l g))) x := by
  have gn : ((g.headD 0).natAbs : Rat) ≠ 0 := by
    cases g with
    | nil => exact absurd rfl ng
    | cons b g =>
      have := dg b rfl
      intro z
      have z' : b.natAbs = 0 := by exact_mod_cast z
      omega
  refine ⟨((lessI l g : Rat) / ((g.headD 0).natAbs : Rat)) :: List.replicate (l.length - g.length) 0, 1 / ((g.headD 0).natAbs : Rat), by grind, fun x => ?_⟩
  rw [toR_strip, vl_strip, remRow_vl h x, vl_monoR]
  generalize ((g.headD 0).natAbs : Rat) = k at *
  grind
section
variable {E : En} {w : W} {i1 i2 i3 i4 : Nat}
theorem lc_whl {L S : List Rat} {F G : List Int} {c d : Rat} {a s b t : Nat} {x0 x1 x2 x3 x4 x7 x8 x9 x10 x11 x12 : Option IV} (hq : E.q = 16777216) (hL : Rp L F c a s) (hS : Rp S G d b t) (nG : G ≠ []) (lF : F.length ≤ 100) (lG : G.length ≤ 100)
    (hb : a + (F.length + 1 - G.length) * (b + 1) + s + (F.length + 1 - G.length) * b + b + t + 10 ≤ 3990)
    (hm : ∀ (r s : Rat) (w : W), Bd 4000 r → Bd 4000 s → E.Φ i1 [.d (nD r), .d (nD s)] w = .ok (.d (nD (r * s))) w)
    (hs : ∀ (f g : List Rat) (w : W), f.length ≤ 400 → g.length ≤ 400 → bR f → bR g → E.Φ i2 [.d (rT f), .d (rT g)] w = .ok (.d (rT (addR f g))) w) :
    RetS (Nx fun σ w' => w' = w ∧ ∃ (L2 : List Rat) (F2 : List Int) (c2 : Rat) (x9 x10 : Option IV), Rp L2 F2 c2 (a + (F.length + 1 - G.length) * (b + 1)) (s + (F.length + 1 - G.length) * b) ∧ F2.length < G.length ∧ F2.length ≤ F.length ∧
      (∃ (q : List Rat) (k : Rat), k ≠ 0 ∧ ∀ x, vl (toR F) x = vl q x * vl (toR G) x + k * vl (toR F2) x) ∧ σ = [x0, x1, x2, x3, x4, some (.d (rT S)), some (.d (rT L2)), x7, x8, x9, x10, x11, x12])
      (evS E (lcWhl i1 i2) [x0, x1, x2, x3, x4, some (.d (rT S)), some (.d (rT L)), x7, x8, x9, x10, x11, x12] w) := by
  have okl : ∀ k : Nat, k ≤ 1000 → okL k = true := fun k h => decide_eq_true (by omega)
  have g0 : 0 < G.length := List.length_pos_iff.mpr nG
  have xs0 : ∀ r : Rat, subD (nD r) (.int 0) = some (.int r.num) := fun _ => tub_0
  have xs1 : ∀ r : Rat, subD (nD r) (.int 1) = some (.int (r.den : Int)) := fun _ => tub_1
  have lS := hS.len
  have S0n : S.getD 0 0 ≠ 0 := by
    rw [hS.head]
    cases G with
    | nil => exact absurd rfl nG
    | cons u G =>
      intro z
      rcases Rat.mul_eq_zero.mp z with z | z
      · exact hS.c0 z
      · exact hS.dF u rfl (by exact_mod_cast z)
  have memS : S.getD 0 0 ∈ S := by
    rw [List.getD_eq_getElem?_getD, List.getElem?_eq_getElem (show 0 < S.length by omega)]
    exact List.getElem_mem _
  have bS0 := hS.bd _ memS
  have bS := hS.bR (show t + b ≤ 4000 by omega)
  have sS : subD (rT S) (.int 0) = some (nD (S.getD 0 0)) := rT_sub (f := S) (k := 0) (by omega)
  unfold lcWhl
  rw [evS_whl, hq]
  refine whlL_inv (fun m σ w' => w' = w ∧ ∃ (L2 : List Rat) (F2 : List Int) (c2 : Rat) (x9 x10 : Option IV), F2.length ≤ m ∧ Rp L2 F2 c2 (a + (F.length - max F2.length (G.length - 1)) * (b + 1)) (s + (F.length - max F2.length (G.length - 1)) * b) ∧ F2.length ≤ F.length ∧
      (∃ (q : List Rat) (k : Rat), k ≠ 0 ∧ ∀ x, vl (toR F) x = vl q x * vl (toR G) x + k * vl (toR F2) x) ∧ σ = [x0, x1, x2, x3, x4, some (.d (rT S)), some (.d (rT L2)), x7, x8, x9, x10, x11, x12]) (m := F.length) (by omega)
    ⟨rfl, L, F, c, _, _, Nat.le_refl _, hL.mono (by omega) (by omega), Nat.le_refl _, ⟨[], 1, by decide, fun x => by rw [vl_nil]; grind⟩, rfl⟩ ?_
  rintro m σ w' ⟨rfl, L2, F2, c2, x9, x10, hmm, h2, l2, ⟨q, k, k0, hv⟩, rfl⟩
  have lL := h2.len
  simp only [Ret_cmp, Ret_blt, evA_cons, evA_nil, ev_var, Ret_ofO, slot_cons0, slot_cons, OptP_some, Ret_bind, Ret_ok, rdAll_cons, rdAll_nil, rd_d, Option.bind_some, Option.map_some, len_rT, cmpV_dd, ge_ii, BoolP_b]
  by_cases hlt : F2.length < G.length
  · have hc : ¬ (S.length : Int) ≤ (L2.length : Int) := by omega
    rw [decide_eq_false hc, if_neg (by decide)]
    refine ⟨rfl, L2, F2, c2, _, _, h2.mono ?_ ?_, hlt, l2, ⟨q, k, k0, hv⟩, rfl⟩
    · have := Nat.mul_le_mul_right (b + 1) (show F.length - max F2.length (G.length - 1) ≤ F.length + 1 - G.length by omega)
      omega
    · have := Nat.mul_le_mul_right b (show F.length - max F2.length (G.length - 1) ≤ F.length + 1 - G.length by omega)
      omega
  · have hc : (S.length : Int) ≤ (L2.length : Int) := by omega
    rw [decide_eq_true hc, if_pos rfl]
    have nF2 : F2 ≠ [] := List.length_pos_iff.mp (by omega)
    have hmax : max F2.length (G.length - 1) = F2.length := by omega
    rw [hmax] at h2
    have e1 : F.length + 1 - G.length = (F.length - F2.length) + 1 + (F2.length - G.length) := by omega
    obtain ⟨A, hA⟩ : ∃ A, A = a + (F.length - F2.length) * (b + 1) := ⟨_, rfl⟩
    obtain ⟨B, hB⟩ : ∃ B, B = s + (F.length - F2.length) * b := ⟨_, rfl⟩
    rw [← hA, ← hB] at h2
    have hA2 : A + (b + 1) ≤ a + (F.length + 1 - G.length) * (b + 1) := by
      rw [hA, e1, Nat.add_mul, Nat.add_mul]; omega
    have hB2 : B + b ≤ s + (F.length + 1 - G.length) * b := by
      rw [hB, e1, Nat.add_mul, Nat.add_mul]; omega
    obtain ⟨stp, bl⟩ := h2.step hS nF2 nG (by omega)
    have memL : L2.getD 0 0 ∈ L2 := by
      rw [List.getD_eq_getElem?_getD, List.getElem?_eq_getElem (show 0 < L2.length by omega)]
      exact List.getElem_mem _
    have bL0 := h2.bd _ memL
    have bL := h2.bR (show B + A ≤ 4000 by omega)
    have sL : subD (rT L2) (.int 0) = some (nD (L2.getD 0 0)) := rT_sub (f := L2) (k := 0) (by omega)
    obtain ⟨q2, k2, k20, hv2⟩ := rem_rel2 (l := F2) hS.dF nG (by omega)
    have l3 : (stripI (remRow F2 G)).length < F2.length := by
      have := strip_lt (remRow_head (l := F2) nG) (List.length_pos_iff.mp (by rw [remRow_len]; omega))
      rwa [remRow_len] at this
    have inv := inv_nD S0n
    have bi := Bd_inv bS0 S0n
    have bB := Bd_mul bL0 bi
    have c1 := fun w => hm (L2.getD 0 0) (1 / S.getD 0 0) w (bL0.mono (by omega)) (bi.mono (by omega))
    have bB4 : Bd 4000 (L2.getD 0 0 * (1 / S.getD 0 0)) := bB.mono (by omega)
    obtain ⟨Z, hZ⟩ : ∃ Z, Z = L2.getD 0 0 * (1 / S.getD 0 0) := ⟨_, rfl⟩
    rw [← hZ] at bB4 c1 stp bl
    obtain ⟨m', hm'⟩ : ∃ m', m = m' + 1 := ⟨m - 1, by omega⟩
    refine ⟨m', hm', ?_⟩
    have fl : F2.length - G.length = L2.length - S.length := by omega
    rw [fl] at stp bl
    have cS := hs L2 ((S.map (-Z * ·)) ++ List.replicate (L2.length - S.length) 0) w' (by omega) (by rw [List.length_append, List.length_map, List.length_replicate]; omega) bL (fun y hy => (bl y hy).mono (by omega))
    unfold lcBody
    rw [RetS_cons]
    refine RetS.nx (M := fun σ w => w = w' ∧ σ = [x0, x1, x2, x3, x4, some (.d (rT S)), some (.d (rT L2)), x7, x8, some (.d (nD Z)), x10, x11, x12]) ?_ ?_
    · generalize S.getD 0 0 = u at *
      generalize L2.getD 0 0 = v at *
      by_cases h0 : 0 < u.num
      · rw [if_pos h0] at inv
        simp [sL, sS, xs0, xs1, h0, okL, inv, c1]
      · rw [if_neg h0] at inv
        simp [sL, sS, xs0, xs1, h0, okL, inv, c1]
    rintro σ w ⟨rfl, rfl⟩
    rw [RetS_cons]
    refine RetS.nx (M := fun σ w' => w' = w ∧ σ = [x0, x1, x2, x3, x4, some (.d (rT S)), some (.d (rT L2)), x7, x8, some (.d (nD Z)), some (.d (.list (rM ((S.map (-Z * ·)) ++ List.replicate (L2.length - S.length) 0)))), x11, x12]) ?_ ?_
    · have e : compL (elF (isNil .nil) (.nm 12) (ev E .nil) (ev E (.call i1 (.cons (.tup (.cons (.neg (.sub (.var 9) (.cst (.int (0))))) (.cons (.sub (.var 9) (.cst (.int (1)))) .nil))) (.cons (.var 12) .nil)))) (wip [x0, x1, x2, x3, x4, some (.d (rT S)), some (.d (rT L2)), x7, x8, some (.d (nD Z)), x10, x11, x12] [12])) (rM S) w = .ok (rM (S.map (-Z * ·))) w := by
        show compL _ (S.map nD) w = _
        rw [compL_of (k := fun y => nD (-Z * y))]
        · unfold rM
          rw [List.map_map]; rfl
        · intro y hy
          have ng : (.tuple [.int (-Z.num), .int (Z.den : Int)] : D) = nD (-Z) := rfl
          refine Ret.eq (X := fun _ _ _ => False) ?_ (fun _ _ _ h => h)
          rw [show isNil .nil = true from rfl, Ret_elT]
          simp [wip, xs0, xs1, okL, ng, hm _ _ _ (Bd_neg bB4) (bS y hy)]
      have tn : ((L2.length : Int) - (S.length : Int)).toNat = L2.length - S.length := by omega
      have c1' : (decide (0 + 1 ≤ 1000) && decide ((L2.length : Int) - (S.length : Int) ≤ 1000) && decide (-1000 ≤ (L2.length : Int) - (S.length : Int))) = true := by
        simp only [Bool.and_eq_true, decide_eq_true_eq]
        omega
      have ol : okL ((rM (S.map (-Z * ·))).length + (rM (List.replicate (L2.length - S.length) 0)).length) = true := okl _ (by rw [rM_len, rM_len, List.length_map, List.length_replicate]; omega)
      have ap : rM (S.map (-Z * ·)) ++ rM (List.replicate (L2.length - S.length) 0) = rM ((S.map (-Z * ·)) ++ List.replicate (L2.length - S.length) 0) := by
        unfold rM
        rw [List.map_append]
      have lr : okL (rM S).length = true := okl _ (by rw [rM_len]; omega)
      simp only [evS_asgN, RetS_onE, Ret_bin, Ret_comp, Ret_seq, Ret_lst, Ret_tup, Ret_blt, evA_cons, evA_nil, ev_cst, ev_var, Ret_bind, Ret_ok, Ret_ofO, slot_cons0, slot_cons, OptP_some, toIt_rT, compP_dat, lr, true_and, e, purs_cons, purs_nil, Option.map_some, Option.bind_some, rdAll_cons, rdAll_nil, rd_d, List.length_cons, List.length_nil, okl (0 + 1) (by omega), okl (0 + 1 + 1) (by omega), len_rT, sub_ii, mul_li, c1', if_true, tn, repR_zero, add_ll, ol, ap, RetS_mk, Nx_next, List.set_cons_succ, List.set_cons_zero, and_self]
    rintro σ w' ⟨rfl, rfl⟩
    simp only [RetS_cons, evS_asgN, RetS_onE, ev_call, Ret_bind, evA_cons, evA_nil, ev_var, Ret_ofO, slot_cons0, slot_cons, OptP_some, Ret_ok, Ret_blt, rdAll_cons, rdAll_nil, rd_d, Option.bind_some, Option.map_some, tupl_rT, cS, RetS_mk, sq_next, evS_nil, loopK_next, List.set_cons_succ, List.set_cons_zero]
    refine ⟨trivial, _, stripI (remRow F2 G), _, _, _, by omega, stp.mono ?_ ?_, by omega, ⟨addR q (q2.map (k * ·)), k * k2, ?_, fun x => ?_⟩, rfl⟩
    · have e2 := Nat.mul_le_mul_right (b + 1) (show F.length - F2.length + 1 ≤ F.length - max (stripI (remRow F2 G)).length (G.length - 1) by omega)
      rw [Nat.add_mul, Nat.one_mul] at e2
      rw [hA]
      omega
    · have e2 := Nat.mul_le_mul_right b (show F.length - F2.length + 1 ≤ F.length - max (stripI (remRow F2 G)).length (G.length - 1) by omega)
      rw [Nat.add_mul, Nat.one_mul] at e2
      rw [hB]
      omega
    · intro z
      rcases Rat.mul_eq_zero.mp z with z | z
      · exact k0 z
      · exact k20 z
    · rw [addR_vl, vl_scale, hv x, hv2 x]
      grind
/-- the whole of it, and what is told -/
theorem law_common_ok {f g : List Int} {n a s b t : Nat} {X : Nat → D → W → Prop} {o2 o3 o4 o5 o6 o7 o8 o9 o10 o11 o12 : Option IV} (hq : E.q = 16777216) (df : HdI f) (dg : HdI g) (sf : Sm a f) (sg : Sm b g) (a1 : 1 ≤ a) (b1 : 1 ≤ b) (s1 : 1 ≤ s) (t1 : 1 ≤ t) (lf : f.length ≤ 39) (lg : g.length ≤ 39)
    (hn : okR n f.length g.length a s b t = true)
    (hm : ∀ (r s : Rat) (w : W), Bd 4000 r → Bd 4000 s → E.Φ i1 [.d (nD r), .d (nD s)] w = .ok (.d (nD (r * s))) w)
    (hs : ∀ (f g : List Rat) (w : W), f.length ≤ 400 → g.length ≤ 400 → bR f → bR g → E.Φ i2 [.d (rT f), .d (rT g)] w = .ok (.d (rT (addR f g))) w)
    (hl : ∀ (t b : Int) (w : W), 0 < b → b.natAbs < 2 ^ 4000 → t.natAbs < 2 ^ 4000 → E.Φ i3 [.d (.int t), .d (.int b)] w = .ok (.d (nD ((t : Rat) / (b : Rat)))) w)
    (hb : ∀ (L : List Int) (w : W), HdI L → Sm 8000 L → L.length ≤ 400 → E.Φ i4 [.d (iT L)] w = .ok (.d (iT (bareI L))) w) :
    Ret (fun v w' => w' = w ∧ ∃ d : List Int, v = .d (iT (bareI d)) ∧ HdI d ∧ (f ≠ [] ∨ g ≠ [] → d ≠ []) ∧ IsG (toR f) (toR g) (toR d)) X (fin w.length (evS E (B_law_common i1 i2 i3 i4) [some (.d (iT f)), some (.d (iT g)), o2, o3, o4, o5, o6, o7, o8, o9, o10, o11, o12] w)) := by
  have okl : ∀ k : Nat, k ≤ 1000 → okL k = true := fun k h => decide_eq_true (by omega)
  have el : okL 0 = true := rfl
  have one : ∀ {h : List Int} {A S : Nat}, HdI h → Sm A h → 1 ≤ A → 1 ≤ S → Rp (toR h) h 1 A S := fun {h A S} dh sh h1 h2 => ⟨by
    conv => lhs; rw [← List.map_id (toR h)]
    exact List.map_congr_left fun y _ => (Rat.one_mul y).symm, by decide, ⟨by exact Nat.one_lt_two_pow (by omega), by exact Nat.one_lt_two_pow (by omega)⟩, dh, sh, h1⟩
  have ones : ∀ (σ : Sl) (x : Nat) (h : List Int) (w : W), x < σ.length → compL (elF (isNil .nil) (.nm x) (ev E .nil) (ev E (.tup (.cons (.var x) (.cons (.cst (.int 1)) .nil)))) σ) (iM h) w = .ok (rM (toR h)) w := fun σ x h w hx => by
    refine ones_comp fun a => ?_
    refine Ret.eq (X := fun _ _ _ => False) ?_ (fun _ _ _ h => h)
    rw [show isNil .nil = true from rfl, Ret_elT]
    simp [slot_set, hx, okL]
  unfold B_law_common
  rw [Ret_fin, RetS_cons]
  refine RetS.nx (M := fun σ w' => w' = w ∧ σ = [some (.d (iT f)), some (.d (iT g)), o2, o3, some (.d (rT (toR f))), some (.d (rT (toR g))), o6, o7, o8, o9, o10, o11, o12]) ?_ ?_
  · have c1 := ones (wip [some (.d (iT f)), some (.d (iT g)), o2, o3, o4, o5, o6, o7, o8, o9, o10, o11, o12] [11]) 11 f w (by simp [wip])
    have c2 := ones (wip [some (.d (iT f)), some (.d (iT g)), o2, o3, o4, o5, o6, o7, o8, o9, o10, o11, o12] [11]) 11 g w (by simp [wip])
    simp only [evS_par, RetS_onE, Ret_blt, evA_cons, evA_nil, Ret_bind, Ret_comp, Ret_seq, ev_var, Ret_ofO, slot_cons0, slot_cons, OptP_some, toIt_iT, compP_dat, iM_len, okl _ (show f.length ≤ 1000 by omega), okl _ (show g.length ≤ 1000 by omega), true_and, c1, c2, Ret_ok, rdAll_cons, rdAll_nil, rd_d, Option.bind_some, Option.map_some, tupl_rT, RetS_ofS, setAll_cons, setAll_nil, Nx_next, List.set_cons_succ, List.set_cons_zero, and_self]
  rintro σ w' ⟨rfl, rfl⟩
  rw [RetS_cons]
  refine RetS.nx (M := fun σ w => w = w' ∧ ∃ (R : List Rat) (F : List Int) (c : Rat) (A S : Nat) (x2 x6 x9 x10 : Option IV), Rp R F c A S ∧ A + S ≤ 3990 ∧ F.length ≤ 39 ∧ (f ≠ [] ∨ g ≠ [] → F ≠ []) ∧ IsG (toR f) (toR g) (toR F) ∧ σ = [some (.d (iT f)), some (.d (iT g)), x2, o3, some (.d (rT R)), some (.d (rT [])), x6, o7, o8, x9, x10, o11, o12]) ?_ ?_
  · have r40 : rngD [.int 40] = some ((List.range 40).map fun (k : Nat) => .int k) := rng_nat (n := 40) (by omega)
    simp only [RetS_for, Ret_rng, evA_cons, evA_nil, ev_cst, Ret_bind, Ret_ok, purs_cons, purs_nil, Option.map_some, OptP_some, r40, forP_dat]
    refine ⟨okl _ (by simp), ?_⟩
    refine forL_inv (fun k σ w => w = w' ∧ ∃ (R Q : List Rat) (F G : List Int) (c d : Rat) (A S B T n : Nat) (x2 x6 x9 x10 : Option IV), Rp R F c A S ∧ Rp Q G d B T ∧ okR n F.length G.length A S B T = true ∧ F.length ≤ 39 ∧ G.length ≤ 39 - k ∧ (f ≠ [] ∨ g ≠ [] → F ≠ [] ∨ G ≠ []) ∧ (∀ h, IsG (toR F) (toR G) h → IsG (toR f) (toR g) h) ∧ σ = [some (.d (iT f)), some (.d (iT g)), x2, o3, some (.d (rT R)), some (.d (rT Q)), x6, o7, o8, x9, x10, o11, o12])
      ⟨rfl, _, _, f, g, 1, 1, a, s, b, t, n, _, _, _, _, one df sf a1 s1, one dg sg b1 t1, hn, lf, by omega, id, fun h q => q, rfl⟩ ?_ ?_
    · rintro k z σ w hz ⟨rfl, R, Q, F, G, c, d, A, S, B, T, n', x2, x6, x9, x10, hR, hQ, hok, lF, lG, nn, hG, rfl⟩
      obtain ⟨n1, rfl⟩ := okR_pos hok
      rw [RetS_body]
      simp only [asg_nm, OptP_some, List.set_cons_succ, List.set_cons_zero]
      rw [RetS_cons]
      by_cases hQ0 : G = []
      · subst hQ0
        have q0 : Q = [] := List.eq_nil_of_length_eq_zero hQ.len
        subst q0
        have eu : cmpD .Eq (rT []) (.tuple []) = some true := rfl
        have e2 := okR_end hok
        simp only [RetS_ifs, Ret_cmp, ev_var, Ret_ofO, slot_cons0, slot_cons, OptP_some, Ret_tup, evA_nil, Ret_ok, purs_nil, List.length_nil, el, true_and, cmpV_dd, eu, BoolP_b, if_true, RetS_cons, evS_brk, RetS_mk, sq_brk, loopK_brk]
        refine ⟨by trivial, R, F, c, A, S, _, _, _, _, hR, e2, lF, fun z => ?_, hG _ (IsG_nil _), rfl⟩
        rcases nn z with y | y
        · exact y
        · exact absurd rfl y
      · have lQ := hQ.len
        have gp : 0 < G.length := List.length_pos_iff.mpr hQ0
        have eu : cmpD .Eq (rT Q) (.tuple []) = some false := by
          rw [show rT Q = .tuple (rM Q) from rfl, eq_unit (okD_nums (all_nums Q))]
          cases Q with
          | nil => rw [List.length_nil] at lQ; omega
          | cons => rfl
        obtain ⟨o1, o2⟩ := okR_step hok (by omega)
        simp only [RetS_ifs, Ret_cmp, ev_var, Ret_ofO, slot_cons0, slot_cons, OptP_some, Ret_tup, evA_nil, Ret_ok, purs_nil, List.length_nil, el, true_and, cmpV_dd, eu, BoolP_b, Bool.false_eq_true, if_false, evS_nil, RetS_mk, sq_next]
        rw [RetS_cons]
        refine RetS.nx (M := fun σ w1 => w1 = w ∧ σ = [some (.d (iT f)), some (.d (iT g)), some (.d z), o3, some (.d (rT R)), some (.d (rT Q)), some (.d (rT R)), o7, o8, x9, x10, o11, o12]) ?_ ?_
        · simp
        rintro σ w1 ⟨rfl, rfl⟩
        rw [RetS_cons]
        refine RetS.nx (lc_whl (i1 := i1) (i2 := i2) hq hR hQ hQ0 (by omega) (by omega) o1 hm hs) ?_
        rintro σ w ⟨rfl, L2, F2, c2, y9, y10, h2, l2, l3, ⟨q, k', k0, hv⟩, rfl⟩
        have fin3 : ∃ (F3 : List Int) (c3 : Rat) (A3 S3 : Nat), Rp L2 F3 c3 A3 S3 ∧ F3.length = F2.length ∧ okR n1 G.length F3.length B T A3 S3 = true ∧ ∃ k3 : Rat, k3 ≠ 0 ∧ ∀ x, vl (toR F) x = vl q x * vl (toR G) x + k3 * vl (toR F3) x := by
          have o3 := o2 F2.length l2
          by_cases p1 : F.length < G.length
          · rw [if_pos p1, if_pos p1] at o3
            rw [show F.length + 1 - G.length = 0 by omega, Nat.zero_mul, Nat.zero_mul, Nat.add_zero, Nat.add_zero] at h2
            exact ⟨F2, c2, A, S, h2, rfl, o3, k', k0, hv⟩
          · rw [if_neg p1, if_neg p1] at o3
            by_cases p2 : F2.length = 1
            · rw [if_pos p2, if_pos p2] at o3
              obtain ⟨F3, c3, h3, l4, k4, k40, hv4⟩ := h2.unit p2
              refine ⟨F3, c3, 1, _, h3, by omega, ?_, k' * k4, ?_, fun x => ?_⟩
              · rw [p2] at o3
                rw [l4]; exact o3
              · intro z
                rcases Rat.mul_eq_zero.mp z with z | z
                · exact k0 z
                · exact k40 z
              · rw [hv x, hv4 x]; grind
            · rw [if_neg p2, if_neg p2] at o3
              exact ⟨F2, c2, _, _, h2, rfl, o3, k', k0, hv⟩
        obtain ⟨F3, c3, A3, S3, h3, l4, ok3, k3, k30, hv3⟩ := fin3
        simp only [RetS_cons, evS_par, RetS_onE, evA_cons, evA_nil, ev_var, Ret_bind, Ret_ofO, slot_cons0, slot_cons, OptP_some, Ret_ok, RetS_ofS, setAll_cons, setAll_nil, List.set_cons_succ, List.set_cons_zero, sq_next, evS_nil, RetS_mk, loopK_next]
        exact ⟨by trivial, Q, L2, G, F3, d, c3, B, T, A3, S3, n1, _, _, _, _, hQ, h3, ok3, by omega, by omega, fun _ => .inl hQ0, fun h hh => hG h (IsG.step k30 hv3 hh), rfl⟩
    · rintro σ w ⟨rfl, R, Q, F, G, c, d, A, S, B, T, n', x2, x6, x9, x10, hR, hQ, hok, lF, lG, nn, hG, rfl⟩
      rw [List.length_map, List.length_range] at lG
      have g0 : G = [] := List.eq_nil_of_length_eq_zero (by omega)
      subst g0
      have q0 : Q = [] := List.eq_nil_of_length_eq_zero hQ.len
      subst q0
      obtain ⟨n1, rfl⟩ := okR_pos hok
      refine ⟨rfl, R, F, c, A, S, _, _, _, _, hR, okR_end hok, lF, fun z => ?_, hG _ (IsG_nil _), rfl⟩
      rcases nn z with y | y
      · exact y
      · exact absurd rfl y
  rintro σ w ⟨rfl, R, F, c, A, S, x2, x6, x9, x10, hR, hAS, lF, nn, hG, rfl⟩
  have lR := hR.len
  have tN : aN (c.den : Int) (2 ^ (S + A)) R := aN_mem.mpr fun r hr => by
    rw [hR.e] at hr
    obtain ⟨y, hy, rfl⟩ := List.mem_map.mp hr
    obtain ⟨u, hu, rfl⟩ := List.mem_map.mp hy
    refine ⟨c.num * u, ?_, Nat.le_of_lt (lt_mul hR.hc.1 (hR.sF u hu))⟩
    have e := rat_nd c
    have hd' : ((c.den : Int) : Rat) ≠ 0 := by
      intro z; have : (c.den : Int) = 0 := by exact_mod_cast z
      have := den_pos c
      omega
    have h3 : c * ((c.den : Int) : Rat) = (c.num : Rat) := by
      have h4 : ((c.num : Rat) / ((c.den : Int) : Rat)) * ((c.den : Int) : Rat) = (c.num : Rat) := by grind
      rwa [← e] at h4
    rw [Rat.intCast_mul, ← h3]; grind
  have Q0 : (c.den : Int) ≠ 0 := by have := den_pos c; omega
  have Q1 : (c.den : Int).natAbs < 2 ^ 4000 := Nat.lt_of_lt_of_le hR.hc.2 (Nat.pow_le_pow_right (by decide) (by omega))
  have M1 : 2 ^ (S + A) < 2 ^ 4000 := two_lt (by omega)
  have M8 : ∀ x : Nat, x ≤ 2 ^ (S + A) → x < 2 ^ 8000 := fun x hx => Nat.lt_of_le_of_lt hx (Nat.pow_lt_pow_right (by decide) (by omega))
  have dvQ := lcmR_dvd tN
  generalize 2 ^ (S + A) = M at *
  generalize hQd : (c.den : Int) = Q at *
  have dq : ∀ r ∈ R, r.den ∣ Q.natAbs := fun r hr => den_dvd (aN_mem.mp tN r hr)
  have lr : (rM R).length = R.length := rM_len
  have hK := lcmR_lt tN Q0 Q1
  obtain ⟨dd, hdd⟩ : ∃ dd, dd = whI (lcmR R) R := ⟨_, rfl⟩
  have ddH : HdI dd := by rw [hdd]; exact HdI_wh lcmR_pos hR.hd fun r hr => lcmR_den hr
  have ddS : Sm 8000 dd := fun x hx => by
    rw [hdd] at hx
    obtain ⟨r, hr, rfl⟩ := List.mem_map.mp hx
    exact M8 _ (wh_abs dvQ Q0 (lcmR_den hr) (aN_mem.mp tN r hr))
  have ddL : dd.length = F.length := by rw [hdd]; unfold whI; rw [List.length_map, lR]
  have cb := fun w => hb dd w ddH ddS (by omega)
  have ddG : IsG (toR f) (toR g) (toR dd) := by
    have kp : (lcmR R : Rat) * c ≠ 0 := by
      intro z
      rcases Rat.mul_eq_zero.mp z with z | z
      · have : lcmR R = 0 := by exact_mod_cast z
        have := lcmR_pos (f := R)
        omega
      · exact hR.c0 z
    refine IsG.val hG (fun _ => rfl) (fun _ => rfl) kp fun x => ?_
    rw [hdd, toR_wh fun r hr => lcmR_den hr, vl_scale, hR.vl]
    grind
  rw [RetS_cons]
  refine RetS.nx (M := fun σ w1 => w1 = w ∧ σ = [some (.d (iT f)), some (.d (iT g)), x2, some (.d (.int ((1 : Nat) : Int))), some (.d (rT R)), some (.d (rT [])), x6, o7, o8, x9, x10, o11, o12]) ?_ ?_
  · simp
  rintro σ w1 ⟨rfl, rfl⟩
  rw [RetS_cons]
  refine RetS.nx (M := fun σ w => w = w1 ∧ ∃ x7 x8, σ = [some (.d (iT f)), some (.d (iT g)), x2, some (.d (.int (lcmR R : Int))), some (.d (rT R)), some (.d (rT [])), x6, x7, x8, x9, x10, o11, o12]) ?_ ?_
  · rw [RetS_for, Ret_seq]
    simp only [ev_var, Ret_ofO, slot_cons0, slot_cons, OptP_some, toIt_rT, forP_dat]
    refine ⟨by rw [rM_len]; exact okl _ (by omega), ?_⟩
    refine forL_inv (fun k σ w => w = w1 ∧ ∃ (u : Nat) (x7 x8 : Option IV), (R.drop k).foldl (fun k r => Nat.lcm k r.den) u = lcmR R ∧ u ∣ Q.natAbs ∧ σ = [some (.d (iT f)), some (.d (iT g)), x2, some (.d (.int (u : Int))), some (.d (rT R)), some (.d (rT [])), x6, x7, x8, x9, x10, o11, o12])
      ⟨rfl, 1, _, _, rfl, Nat.one_dvd _, rfl⟩ ?_ ?_
    · rintro k z σ w hz ⟨rfl, u, x7, x8, he, hu, rfl⟩
      have hk : k < R.length := by
        have := (List.getElem?_eq_some_iff.mp hz).1
        simpa using this
      rw [rM_get hk] at hz
      cases hz
      have hmm : R.getD k 0 ∈ R := by
        rw [List.getD_eq_getElem?_getD, List.getElem?_eq_getElem hk]
        exact List.getElem_mem hk
      have dr := dq _ hmm
      have he' := he
      rw [dropR_get hk] at he'
      generalize R.getD k 0 = r at *
      have dp := den_pos r
      have u1 : u < 2 ^ 4000 := Nat.lt_of_le_of_lt (Nat.le_of_dvd (by omega) hu) Q1
      have u2 : r.den < 2 ^ 4000 := Nat.lt_of_le_of_lt (Nat.le_of_dvd (by omega) dr) Q1
      have c1 := hl (u : Int) (r.den : Int) w dp u2 u1
      have xx1 : ∀ r : Rat, subD (nD r) (.int 1) = some (.int (r.den : Int)) := fun _ => tub_1
      have ll := lcm_low (u := u) (d := r.den) (by omega)
      have ul : Nat.lcm u r.den ∣ Q.natAbs := Nat.lcm_dvd hu dr
      have bd : ((((u : Int) : Rat) / ((r.den : Int) : Rat)).den) < 2 ^ 4000 := by
        have h1 := Bd_div (A := 4000) (t := (u : Int)) (b := (r.den : Int)) dp u1 u2
        exact h1.2
      have o1 : okI (u : Int) = true := okI_pow (m := 4000) u1 (by decide)
      have o2 : okI (((((u : Int) : Rat) / ((r.den : Int) : Rat)).den : Nat) : Int) = true := okI_pow (m := 4000) bd (by decide)
      generalize ((u : Int) : Rat) / ((r.den : Int) : Rat) = v at *
      rw [RetS_body]
      rw [show nD r = .tuple [.int r.num, .int (r.den : Int)] from rfl]
      simp [c1, xx1, o1, o2, ll]
      exact ⟨_, he', ul, rfl⟩
    · rintro σ w ⟨rfl, u, x7, x8, he, hu, rfl⟩
      rw [rM_len, List.drop_length] at he
      have he' : u = lcmR R := he
      rw [← he']
      exact ⟨rfl, x7, x8, rfl⟩
  rintro σ w ⟨rfl, x7, x8, rfl⟩
  have e : compL (elF (isNil .nil) (.tup (.cons (.nm 7) (.cons (.nm 8) .nil))) (ev E .nil) (ev E (.bin .Mult (.var 7) (.bin .FloorDiv (.var 3) (.var 8)))) (wip [some (.d (iT f)), some (.d (iT g)), x2, some (.d (.int (lcmR R : Int))), some (.d (rT R)), some (.d (rT [])), x6, x7, x8, x9, x10, o11, o12] [7, 8])) (rM R) w = .ok (iM dd) w := by
    rw [hdd]
    show compL _ (R.map nD) w = _
    rw [compL_of (k := fun r => PyData.int (r.num * (lcmR R : Int).fdiv (r.den : Int)))]
    · unfold whI iM
      rw [List.map_map]; rfl
    · intro r hr
      obtain ⟨c1, c2, c3⟩ := wh_calc (aN_mem.mp tN r hr) Q0 Q1 M1 hK
      refine Ret.eq (X := fun _ _ _ => False) ?_ (fun _ _ _ h => h)
      rw [show isNil .nil = true from rfl, Ret_elT]
      rw [show nD r = .tuple [.int r.num, .int (r.den : Int)] from rfl]
      simp [wip, c1, c2, c3]
  simp only [RetS_cons, evS_ret, RetS_onE, ev_call, Ret_bind, evA_cons, evA_nil, Ret_blt, Ret_comp, Ret_seq, ev_var, Ret_ofO, slot_cons0, slot_cons, OptP_some, toIt_rT, compP_dat, lr, okl _ (show R.length ≤ 1000 by omega), true_and, e, Ret_ok, rdAll_cons, rdAll_nil, rd_d, Option.bind_some, Option.map_some, tupl_iT, cb, RetS_mk, sq_ret, finK_d, take_len]
  refine ⟨dd, rfl, ddH, fun z => ?_, ddG⟩
  have := List.length_pos_iff.mpr (nn z)
  exact List.length_pos_iff.mp (by omega)
end
end Pv

/-! Part Ti: the law's factors: no two of them have anything in common. -/
namespace Pv
open PySem
def eu : Nat → List Int → List Int → List Int
  | 0, _, _ => []
  | n + 1, f, g => if g = [] then f else if f.length < g.length then eu n g f else eu n (stripI (remRow f g)) g
theorem eu_ok : ∀ (n : Nat) (f g : List Int), HdI f → HdI g → (eu n f g).length = 1 → Cop (toR f) (toR g)
  | 0, _, _, _, _, h => by simp [eu] at h
  | n + 1, f, g, df, dg, h => by
    rw [eu] at h
    split at h
    · match f, h with
      | [c], _ =>
        have hc : (c : Rat) ≠ 0 := by intro z; exact df c rfl (by exact_mod_cast z)
        exact Cop_const hc fun x => vl_c (c : Rat) x
    · rename_i ng
      split at h
      · exact (eu_ok n g f dg df h).comm
      · rename_i hl
        obtain ⟨u, v, huv⟩ := eu_ok n _ g (HdI_strip _) dg h
        obtain ⟨q, s, s0, hv⟩ := rem_rel2 (l := f) dg ng (by omega)
        refine ⟨u.map ((1 / s) * ·), addR v ((mulR u q).map ((-(1 / s)) * ·)), fun x => ?_⟩
        have h1 := huv x
        have h2 := hv x
        rw [addR_vl, vl_scale, vl_scale, mulR_vl]
        generalize vl (toR (stripI (remRow f g))) x = r at *
        generalize vl (toR f) x = f' at *
        generalize vl (toR g) x = g' at *
        generalize vl u x = u' at *
        generalize vl v x = v' at *
        generalize vl q x = q' at *
        subst h2
        rw [← h1]; grind
def facL : List (List Int) := [[1, 4], [1, 3], [1, 2], [1, 1], [1, 0], [1, -1], [1, -2], [1, -3], [1, -4], [2, 3], [2, 1], [2, -1], [2, -3], [3, 4], [3, 2], [3, 1], [3, -1], [3, -2], [3, -4],
  [1, 0, -2], [1, 0, -3], [1, 0, -5], [1, -1, -1], [1, 1, -1], [1, -2, -1], [2, -2, -1], [1, -3, 1], [1, 2, -2], [2, 0, -1], [1, 4, 2], [2, 1, -2],
  [1, 0, 1], [1, 1, 1], [1, -1, 1], [1, 0, 2], [2, 2, 1], [1, -2, 2], [1, 2, 3], [2, -1, 1], [1, 1, 2], [2, 0, 1]]
theorem fac_lin : ∀ i : Fin 9, ∀ j : Fin 3, ([(((((((i.val : Int) - 4 : Int) : Rat) / ((1 + (j.val : Int) : Int) : Rat)).den : Nat) : Int)), -((((i.val : Int) - 4 : Int) : Rat) / ((1 + (j.val : Int) : Int) : Rat)).num] : List Int) ∈ facL := by decide +kernel
theorem fac_lin' {t b : Int} (h1 : -4 ≤ t) (h2 : t ≤ 4) (h3 : 1 ≤ b) (h4 : b ≤ 3) : ([((((t : Rat) / (b : Rat)).den : Nat) : Int), -((t : Rat) / (b : Rat)).num] : List Int) ∈ facL := by
  have := fac_lin ⟨(t + 4).toNat, by omega⟩ ⟨(b - 1).toNat, by omega⟩
  rw [show (((t + 4).toNat : Nat) : Int) - 4 = t by omega, show 1 + (((b - 1).toNat : Nat) : Int) = b by omega] at this
  exact this
theorem fac_cop : (facL.all fun p => facL.all fun q => p == q || (eu 12 p q).length == 1) = true := by decide +kernel
theorem fac_all : (facL.all fun p => decide (cont p = 1) && decide (0 < p.headD 0) && decide (2 ≤ p.length) && decide (p.length ≤ 3) && p.all fun a => decide (a.natAbs < 8)) = true := by decide +kernel
theorem fac_props {p : List Int} (h : p ∈ facL) : cont p = 1 ∧ HdI p ∧ 0 < p.headD 0 ∧ 2 ≤ p.length ∧ p.length ≤ 3 ∧ Sm 3 p := by
  have := List.all_eq_true.mp fac_all p h
  simp only [Bool.and_eq_true, decide_eq_true_eq, List.all_eq_true] at this
  obtain ⟨⟨⟨⟨h1, h2⟩, h3⟩, h4⟩, h5⟩ := this
  refine ⟨h1, fun a ha => ?_, h2, h3, h4, fun a ha => h5 a ha⟩
  cases p with
  | nil => cases ha
  | cons b p =>
    cases ha
    have h2' : 0 < a := h2
    omega
theorem fac_coprime {p q : List Int} (hp : p ∈ facL) (hq : q ∈ facL) (h : p ≠ q) : Cop (toR p) (toR q) := by
  have := List.all_eq_true.mp (List.all_eq_true.mp fac_cop p hp) q hq
  rw [Bool.or_eq_true] at this
  rcases this with e | e
  · exact absurd (by simpa using e) h
  · exact eu_ok 12 p q (fac_props hp).2.1 (fac_props hq).2.1 (by simpa using e)
theorem Sm_mul3 {B C : Nat} {f g : List Int} (df : HdI f) (dg : HdI g) (hf : Sm B f) (hg : Sm C g) (lg : g.length ≤ 3) : Sm (B + C + 2) (mulI f g) := by
  rw [mulI_comm df dg]
  intro a ha
  have hp : ∀ x ∈ g, ∀ y ∈ f, (x * y).natAbs ≤ 2 ^ (B + C) - 1 := fun x hx y hy => by
    have := lt_mul (hg x hx) (hf y hy)
    rw [Nat.add_comm C B] at this
    omega
  have q := outI_abs (P := 2 ^ (B + C) - 1) (g := f) g 0 0 (List.replicate (g.length + f.length - 1) 0) hp (fun j => by
    rw [List.getD_eq_getElem?_getD]
    cases e : (List.replicate (g.length + f.length - 1) (0 : Int))[j]? with
    | none => exact Nat.le_refl 0
    | some b =>
      have := List.eq_of_mem_replicate (List.mem_of_getElem? e)
      rw [this]; exact Nat.le_refl 0)
  unfold mulI at ha
  split at ha
  · cases ha
  · obtain ⟨j, hj⟩ := List.mem_iff_getElem?.mp ha
    have h1 := q j
    rw [List.getD_eq_getElem?_getD, hj] at h1
    have h1' : a.natAbs ≤ 0 + g.length * (2 ^ (B + C) - 1) := h1
    have h2 := Nat.mul_le_mul_right (2 ^ (B + C) - 1) lg
    have p := Nat.two_pow_pos (B + C)
    have e : 2 ^ (B + C + 2) = 4 * 2 ^ (B + C) := by rw [Nat.pow_add, Nat.mul_comm]
    rw [e]
    omega
def q12 : List (List Int) := [[1, 0, -2], [1, 0, -3], [1, 0, -5], [1, -1, -1], [1, 1, -1], [1, -2, -1], [2, -2, -1], [1, -3, 1], [1, 2, -2], [2, 0, -1], [1, 4, 2], [2, 1, -2]]
def q10 : List (List Int) := [[1, 0, 1], [1, 1, 1], [1, -1, 1], [1, 0, 2], [2, 2, 1], [1, -2, 2], [1, 2, 3], [2, -1, 1], [1, 1, 2], [2, 0, 1]]
theorem q12_mem : ∀ k : Fin 12, q12.getD k.val [] ∈ facL := by decide
theorem q10_mem : ∀ k : Fin 10, q10.getD k.val [] ∈ facL := by decide
theorem at_list (q : List (List Int)) (k : Nat) (h : k < q.length) : subD (.list (q.map iT)) (.int (k : Int)) = some (iT (q.getD k [])) := by
  refine sub_nat ?_
  rw [List.getElem?_map, List.getD_eq_getElem?_getD, List.getElem?_eq_getElem h]
  rfl
section
variable {E : En} {w : W} {o o1 o2 o3 o4 o5 : Option IV} {i j : Nat}
theorem law_factor_ok {n : Nat} {pot : List D} {X : Nat → D → W → Prop} (hw : w[n]? = some (.lst pot)) (hp : PotOk pot) (ht : TakeP E i)
    (hl : ∀ (t b : Int) (w : W), 0 < b → b.natAbs < 2 ^ 100 → t.natAbs < 2 ^ 100 → E.Φ j [.d (.int t), .d (.int b)] w = .ok (.d (nD ((t : Rat) / (b : Rat)))) w) :
    Ret (fun v w' => ∃ (p : List Int) (pot' : List D), v = .d (iT p) ∧ p ∈ facL ∧ PotOk pot' ∧ w' = w.set n (.lst pot')) X (fin w.length (evS E (B_law_factor i j) [some (.ref n), o, o1, o2, o3, o4] w)) := by
  have okl : ∀ k : Nat, k ≤ 1000 → okL k = true := fun k h => decide_eq_true (by omega)
  unfold B_law_factor
  rw [Ret_fin, RetS_cons]
  refine RetS.nx (M := fun σ w' => ∃ (way : Int) (pot1 : List D), 0 ≤ way ∧ way < 6 ∧ PotOk pot1 ∧ w' = w.set n (.lst pot1) ∧ σ = [some (.ref n), some (.d (.int way)), o1, o2, o3, o4]) ?_ ?_
  · simp
    refine Ret.imp (ht hw hp (by decide) (by decide)) ?_
    rintro v w1 ⟨r, p1, rfl, r0, r1, hp1, rfl⟩
    exact ⟨r, r0, r1, p1, hp1, rfl, rfl⟩
  rintro σ w1 ⟨way, pot1, y0, y1, hp1, rfl, rfl⟩
  have hw1 := set_get (c := Cell.lst pot1) hw
  have lst : ∀ {c : Cell}, (w.set n c).take w.length = w.set n c := set_take
  by_cases h3 : way < 3
  · simp [h3]
    refine Ret.imp (ht hw1 hp1 (by decide) (by decide)) ?_
    rintro v w2 ⟨r, p2, rfl, r0, r1, hp2, rfl⟩
    have hw2 := set_get (c := Cell.lst p2) hw
    simp
    refine Ret.imp (ht hw2 hp2 (by decide) (by decide)) ?_
    rintro v w3 ⟨r', p3, rfl, r0', r1', hp3, rfl⟩
    have c := fun w => hl (r - 4) (1 + r') w (by omega) (by omega) (by omega)
    have fm := fac_lin' (t := r - 4) (b := 1 + r') (by omega) (by omega) (by omega) (by omega)
    generalize ((r - 4 : Int) : Rat) / ((1 + r' : Int) : Rat) = u at c fm
    simp [c, show nD u = .tuple [.int u.num, .int (u.den : Int)] from rfl, okl]
    exact ⟨_, rfl, fm, p3, hp3, lst⟩
  · simp [h3]
    by_cases h5 : way < 5
    · simp [h5, okl]
      refine Ret.imp (ht hw1 hp1 (by decide) (by decide)) ?_
      rintro v w2 ⟨r, p2, rfl, r0, r1, hp2, rfl⟩
      obtain ⟨k, hk, rfl⟩ : ∃ k : Nat, k < 12 ∧ r = (k : Int) := ⟨r.toNat, by omega, by omega⟩
      have e := at_list q12 k hk
      have fm := q12_mem ⟨k, hk⟩
      rw [rd_d, OptP_some]
      change OptP (subD (.list (q12.map iT)) (.int (k : Int))) _
      rw [e, OptP_some]
      exact ⟨_, rfl, fm, p2, hp2, by rw [List.set_set, lst]⟩
    · simp [h5, okl]
      refine Ret.imp (ht hw1 hp1 (by decide) (by decide)) ?_
      rintro v w2 ⟨r, p2, rfl, r0, r1, hp2, rfl⟩
      obtain ⟨k, hk, rfl⟩ : ∃ k : Nat, k < 10 ∧ r = (k : Int) := ⟨r.toNat, by omega, by omega⟩
      have e := at_list q10 k hk
      have fm := q10_mem ⟨k, hk⟩
      rw [rd_d, OptP_some]
      change OptP (subD (.list (q10.map iT)) (.int (k : Int))) _
      rw [e, OptP_some]
      exact ⟨_, rfl, fm, p2, hp2, by rw [List.set_set, lst]⟩
end
end Pv

/-! Part Tj: the law's pairs of products. -/
namespace Pv
open PySem
theorem eqvAll_iM' : ∀ a b : List Int, PyData.eqvAll (iM a) (iM b) = decide (a = b)
  | [], [] => by simp [iM, PyData.eqvAll]
  | [], _ :: _ => by simp [iM, PyData.eqvAll]
  | _ :: _, [] => by simp [iM, PyData.eqvAll]
  | x :: a, y :: b => by
    show PyData.eqvAll (PyData.int x :: iM a) (PyData.int y :: iM b) = _
    rw [PyData.eqvAll, eqvAll_iM' a b]
    simp only [PyData.eqv]
    by_cases h1 : x = y <;> by_cases h2 : a = b <;> simp [h1, h2]
theorem eqv_iT (a b : List Int) : PyData.eqv (iT a) (iT b) = decide (a = b) := by
  unfold iT
  rw [PyData.eqv, eqvAll_iM']
theorem plain_rows : ∀ U : List (List Int), PyData.plainAll (U.map iT) = true
  | [] => by simp [PyData.plainAll]
  | u :: U => by
    show PyData.plainAll (.tuple (iM u) :: U.map iT) = true
    rw [PyData.plainAll, plain_rows U, PyData.plain, plain_ints (all_ints u)]; rfl
theorem depth_rows : ∀ U : List (List Int), PyData.depthAll (U.map iT) ≤ 2
  | [] => by simp [PyData.depthAll]
  | u :: U => by
    show PyData.depthAll (.tuple (iM u) :: U.map iT) ≤ 2
    have h1 := depth_rows U
    have h2 := depth_ints (all_ints u)
    rw [PyData.depthAll, PyData.depth]
    omega
theorem okD_rows (U : List (List Int)) : okD (.list (U.map iT)) = true := by
  unfold okD
  rw [Bool.and_eq_true]
  refine ⟨by rw [PyData.plain]; exact plain_rows U, decide_eq_true ?_⟩
  have := depth_rows U
  rw [PyData.depth]; omega
theorem notIn_rows (p : List Int) (U : List (List Int)) : cmpD .NotIn (iT p) (.list (U.map iT)) = some (!decide (p ∈ U)) := by
  show (if okD (iT p) && okD (.list (U.map iT)) then some (!isIn (iT p) (U.map iT)) else none) = _
  rw [show okD (iT p) = true from okD_ints (all_ints p), okD_rows]
  simp only [Bool.and_self, if_true]
  congr 2
  unfold isIn
  rw [List.any_map]
  induction U with
  | nil => simp
  | cons u U ih =>
    rw [List.any_cons, ih]
    show (PyData.eqv (iT u) (iT p) || _) = _
    rw [eqv_iT]
    by_cases h1 : u = p
    · simp [h1]
    · have : ¬ p = u := fun z => h1 z.symm
      simp [h1, this]
theorem cmpV_dref {o : CmpOp} {w : W} {m : Nat} {x : D} {xs : List D} (h : w[m]? = some (.lst xs)) : cmpV o w (.d x) (.ref m) = cmpD o x (.list xs) := by
  unfold cmpV
  rw [rd_d, rd_ref, h]
  rfl
structure PO (U : List (List Int)) (e F G : List Int) (nE nF nG : Nat) : Prop where
  ce : cont e = 1
  de : HdI e
  he : 0 < e.headD 0
  se : Sm (1 + 5 * nE) e
  le : e.length ≤ 1 + 2 * nE
  dF : HdI F
  f0 : F ≠ []
  sF : Sm (3 + 5 * nF) F
  lF : F.length ≤ 1 + 2 * nF
  dG : HdI G
  g0 : G ≠ []
  sG : Sm (3 + 5 * nG) G
  lG : G.length ≤ 1 + 2 * nG
  cop : Cop (toR F) (toR G)
  cF : ∀ q ∈ facL, q ∉ U → Cop (toR F) (toR q)
  cG : ∀ q ∈ facL, q ∉ U → Cop (toR G) (toR q)
theorem mul_swap {e F p : List Int} (de : HdI e) (dF : HdI F) (dp : HdI p) : mulI (mulI e F) p = mulI (mulI e p) F :=
  toR_inj (vl_eq (HdR_toR (HdI_mul (HdI_mul de dF) dp)) (HdR_toR (HdI_mul (HdI_mul de dp) dF)) fun x => by rw [mulI_vl, mulI_vl, mulI_vl, mulI_vl]; grind)
theorem mul_assoc' {e F p : List Int} (de : HdI e) (dF : HdI F) (dp : HdI p) : mulI (mulI e F) p = mulI e (mulI F p) :=
  toR_inj (vl_eq (HdR_toR (HdI_mul (HdI_mul de dF) dp)) (HdR_toR (HdI_mul de (HdI_mul dF dp))) fun x => by rw [mulI_vl, mulI_vl, mulI_vl, mulI_vl]; grind)
theorem mul_ne {F p : List Int} (hF : F ≠ []) (hp : p ≠ []) : mulI F p ≠ [] := fun z => by
  have := mulI_len hF hp
  rw [z, List.length_nil] at this
  have := List.length_pos_iff.mpr hF
  have := List.length_pos_iff.mpr hp
  omega
theorem PO.turn {U : List (List Int)} {e F G p : List Int} {nE nF nG : Nat} {x y : Bool} (h : PO U e F G nE nF nG) (hp : p ∈ facL) (hU : p ∈ U) (hx : x = true → Cop (toR G) (toR p)) (hy : y = true → Cop (toR F) (toR p)) :
    ∃ (e' F' G' : List Int) (nE' nF' nG' : Nat), PO U e' F' G' nE' nF' nG' ∧ nE' + nF' + nG' ≤ nE + nF + nG + 1 ∧ (if x = true then mulI (mulI e F) p else mulI e F) = mulI e' F' ∧ (if y = true then mulI (mulI e G) p else mulI e G) = mulI e' G' ∧ (if (x && y) = true then mulI e p else e) = e' ∧
      (x = true → Cop (toR G') (toR p)) ∧ (y = true → Cop (toR F') (toR p)) := by
  obtain ⟨ce, de, he, se, le, dF, f0, sF, lF, dG, g0, sG, lG, cop, cF, cG⟩ := h
  obtain ⟨pc, pd, ph, pl, pl3, ps⟩ := fac_props hp
  have pn : p ≠ [] := List.length_pos_iff.mp (by omega)
  have en : e ≠ [] := fun z => by rw [z] at he; simp at he
  have qq : ∀ q ∈ facL, q ∉ U → Cop (toR p) (toR q) := fun q hq hn => fac_coprime hp hq fun z => hn (by rw [← z]; exact hU)
  cases x with
  | true =>
    cases y with
    | true =>
      refine ⟨mulI e p, F, G, nE + 1, nF, nG, ⟨cont_mul ce pc, HdI_mul de pd, ?_, (Sm_mul3 de pd se ps pl3).mono (by omega), ?_, dF, f0, sF, lF, dG, g0, sG, lG, cop, cF, cG⟩, by omega, mul_swap de dF pd, mul_swap de dG pd, rfl, hx, hy⟩
      · rw [headD_mul en pn]; exact Int.mul_pos he ph
      · have := mul_len e p; omega
    | false =>
      refine ⟨e, mulI F p, G, nE, nF + 1, nG, ⟨ce, de, he, se, le, HdI_mul dF pd, mul_ne f0 pn, (Sm_mul3 dF pd sF ps pl3).mono (by omega), ?_, dG, g0, sG, lG, ?_, fun q hq hn => (cF q hq hn).mul (qq q hq hn) fun x => mulI_vl _ _ x, cG⟩, by omega, mul_assoc' de dF pd, rfl, rfl, hx, fun z => by cases z⟩
      · have := mul_len F p; omega
      · exact cop.mul (hx rfl).comm fun x => mulI_vl _ _ x
  | false =>
    cases y with
    | true =>
      refine ⟨e, F, mulI G p, nE, nF, nG + 1, ⟨ce, de, he, se, le, dF, f0, sF, lF, HdI_mul dG pd, mul_ne g0 pn, (Sm_mul3 dG pd sG ps pl3).mono (by omega), ?_, ?_, cF, fun q hq hn => (cG q hq hn).mul (qq q hq hn) fun x => mulI_vl _ _ x⟩, by omega, rfl, mul_assoc' de dG pd, rfl, (fun z => by cases z), hy⟩
      · have := mul_len G p; omega
      · exact (cop.comm.mul (hy rfl).comm fun x => mulI_vl _ _ x).comm
    | false =>
      exact ⟨e, F, G, nE, nF, nG, ⟨ce, de, he, se, le, dF, f0, sF, lF, dG, g0, sG, lG, cop, cF, cG⟩, by omega, rfl, rfl, rfl, (fun z => by cases z), (fun z => by cases z)⟩
theorem PO.start {c d : Int} (hc : c ≠ 0) (hd : d ≠ 0) (c8 : c.natAbs < 8) (d8 : d.natAbs < 8) : PO [] [1] [c] [d] 0 0 0 := by
  have r : ∀ {u : Int}, u ≠ 0 → (u : Rat) ≠ 0 := fun h z => h (by exact_mod_cast z)
  have one : ∀ {u : Int}, u ≠ 0 → HdI [u] := fun h a q => by cases q; exact h
  have sm : ∀ {u : Int}, u.natAbs < 8 → Sm (3 + 5 * 0) [u] := fun h a q => by rw [List.mem_singleton.mp q]; exact h
  refine ⟨rfl, one (by decide), by decide, fun a q => by rw [List.mem_singleton.mp q]; decide, Nat.le_refl _, one hc, by simp, sm c8, Nat.le_refl _, one hd, by simp, sm d8, Nat.le_refl _, ?_, fun q _ _ => ?_, fun q _ _ => ?_⟩
  · exact Cop_const (r hc) fun x => vl_c (c : Rat) x
  · exact Cop_const (r hc) fun x => vl_c (c : Rat) x
  · exact Cop_const (r hd) fun x => vl_c (d : Rat) x
theorem PO.more {U : List (List Int)} {e F G p : List Int} {nE nF nG : Nat} (h : PO U e F G nE nF nG) : PO (U ++ [p]) e F G nE nF nG :=
  ⟨h.ce, h.de, h.he, h.se, h.le, h.dF, h.f0, h.sF, h.lF, h.dG, h.g0, h.sG, h.lG, h.cop, fun q hq hn => h.cF q hq fun z => hn (List.mem_append_left _ z), fun q hq hn => h.cG q hq fun z => hn (List.mem_append_left _ z)⟩
end Pv

/-! Part Tk: the law's pairs of products: the walk. -/
namespace Pv
open PySem
section
variable {E : En} {w : W} {i j k : Nat}
theorem ext_get {n : Nat} {c : Cell} {p : List D} (hw : w[n]? = some (.lst p)) : (w ++ [c])[n]? = some (.lst p) := by
  rw [List.getElem?_append_left (List.getElem?_eq_some_iff.mp hw).1]; exact hw
theorem ext_set {n : Nat} {c x : Cell} {p : List D} (hw : w[n]? = some (.lst p)) : (w ++ [c]).set n x = w.set n x ++ [c] :=
  List.set_append_left _ _ (List.getElem?_eq_some_iff.mp hw).1
theorem ext_last {c c' : Cell} {m : Nat} (h : m = w.length) : (w ++ [c]).set m c' = w ++ [c'] := by rw [h]; exact last_set
theorem law_pair_ok {n : Nat} {pot : List D} {X : Nat → D → W → Prop} {o1 o2 o3 o4 o5 o6 o7 o8 o9 : Option IV} (hw : w[n]? = some (.lst pot)) (hp : PotOk pot) (ht : TakeP E i)
    (hf : ∀ (pot : List D) (w : W) (X : Nat → D → W → Prop), w[n]? = some (.lst pot) → PotOk pot → Ret (fun v w' => ∃ (p : List Int) (pot' : List D), v = .d (iT p) ∧ p ∈ facL ∧ PotOk pot' ∧ w' = w.set n (.lst pot')) X (E.Φ j [.ref n] w))
    (hm : ∀ (f g : List Int) (w : W), Sm 1000 f → Sm 1000 g → f.length ≤ 400 → g.length ≤ 400 → E.Φ k [.d (iT f), .d (iT g)] w = .ok (.d (iT (mulI f g))) w) :
    Ret (fun v w' => ∃ (U : List (List Int)) (e F G : List Int) (nE nF nG : Nat) (pot' : List D), v = .d (.tuple [iT (mulI e F), iT (mulI e G), iT e]) ∧ PO U e F G nE nF nG ∧ nE + nF + nG ≤ 6 ∧ PotOk pot' ∧ w' = w.set n (.lst pot')) X
      (fin w.length (evS E (B_law_pair i j k) [some (.ref n), o1, o2, o3, o4, o5, o6, o7, o8, o9] w)) := by
  have okl : ∀ k : Nat, k ≤ 1000 → okL k = true := fun k h => decide_eq_true (by omega)
  unfold B_law_pair
  rw [Ret_fin, RetS_cons]
  refine RetS.nx (M := fun σ w' => ∃ (c d : Int) (pot1 : List D), c ≠ 0 ∧ d ≠ 0 ∧ c.natAbs < 8 ∧ d.natAbs < 8 ∧ PotOk pot1 ∧ w' = w.set n (.lst pot1) ∧ σ = [some (.ref n), o1, o2, some (.d (iT [c])), some (.d (iT [d])), some (.d (iT [1])), o6, o7, o8, o9]) ?_ ?_
  · simp [okl]
    refine Ret.imp (ht hw hp (by decide) (by decide)) ?_
    rintro v w1 ⟨r, p1, rfl, r0, r1, hp1, rfl⟩
    have hw1 := set_get (c := Cell.lst p1) hw
    have e1 : ∃ c : Int, c ≠ 0 ∧ c.natAbs < 8 ∧ subD (.list [.int (-2), .int (-1), .int 3, .int 1]) (.int r) = some (.int c) := by
      have : r = 0 ∨ r = 1 ∨ r = 2 ∨ r = 3 := by omega
      rcases this with rfl | rfl | rfl | rfl
      · exact ⟨-2, by decide, by decide, rfl⟩
      · exact ⟨-1, by decide, by decide, rfl⟩
      · exact ⟨3, by decide, by decide, rfl⟩
      · exact ⟨1, by decide, by decide, rfl⟩
    obtain ⟨c, c0, c8, e1⟩ := e1
    simp [e1, okl]
    refine Ret.imp (ht hw1 hp1 (by decide) (by decide)) ?_
    rintro v w2 ⟨r', p2, rfl, r0', r1', hp2, rfl⟩
    have e2 : ∃ c : Int, c ≠ 0 ∧ c.natAbs < 8 ∧ subD (.list [.int (-3), .int 2, .int 1, .int 4]) (.int r') = some (.int c) := by
      have : r' = 0 ∨ r' = 1 ∨ r' = 2 ∨ r' = 3 := by omega
      rcases this with rfl | rfl | rfl | rfl
      · exact ⟨-3, by decide, by decide, rfl⟩
      · exact ⟨2, by decide, by decide, rfl⟩
      · exact ⟨1, by decide, by decide, rfl⟩
      · exact ⟨4, by decide, by decide, rfl⟩
    obtain ⟨d, d0, d8, e2⟩ := e2
    simp [e2, okl]
    exact ⟨c, c0, d, d0, c8, d8, p2, hp2, rfl, rfl, rfl, rfl⟩
  rintro σ w1 ⟨c, d, pot1, c0, d0, c8, d8, hp1, rfl, rfl⟩
  rw [RetS_cons]
  refine RetS.nx (M := fun σ w' => w' = w.set n (.lst pot1) ++ [.lst (([] : List (List Int)).map iT)] ∧ σ = [some (.ref n), some (.ref w.length), o2, some (.d (iT [c])), some (.d (iT [d])), some (.d (iT [1])), o6, o7, o8, o9]) ?_ ?_
  · simp [okL]
  rintro σ w1 ⟨rfl, rfl⟩
  have idm : ∀ {u : Int}, u ≠ 0 → mulI [1] [u] = [u] := fun {u} h => by
    show [0 + 1 * u] = [u]
    rw [Int.zero_add, Int.one_mul]
  rw [RetS_cons]
  refine RetS.nx (M := fun σ w' => ∃ (U : List (List Int)) (e F G : List Int) (nE nF nG : Nat) (pot' : List D) (x2 x6 x7 x8 x9 : Option IV), PO U e F G nE nF nG ∧ nE + nF + nG ≤ 6 ∧ PotOk pot' ∧ w' = w.set n (.lst pot') ++ [.lst (U.map iT)] ∧ σ = [some (.ref n), some (.ref w.length), x2, some (.d (iT (mulI e F))), some (.d (iT (mulI e G))), some (.d (iT e)), x6, x7, x8, x9]) ?_ ?_
  · have r3 : rngD [.int 3] = some ((List.range 3).map fun (k : Nat) => .int k) := rng_nat (n := 3) (by omega)
    simp only [RetS_for, Ret_rng, evA_cons, evA_nil, ev_cst, Ret_bind, Ret_ok, purs_cons, purs_nil, Option.map_some, OptP_some, r3, forP_dat]
    refine ⟨okl _ (by simp), ?_⟩
    refine forL_inv (fun t σ w' => ∃ (U : List (List Int)) (e F G : List Int) (nE nF nG : Nat) (pot' : List D) (x2 x6 x7 x8 x9 : Option IV), PO U e F G nE nF nG ∧ nE + nF + nG ≤ 2 * t ∧ U.length ≤ t ∧ PotOk pot' ∧ w' = w.set n (.lst pot') ++ [.lst (U.map iT)] ∧ σ = [some (.ref n), some (.ref w.length), x2, some (.d (iT (mulI e F))), some (.d (iT (mulI e G))), some (.d (iT e)), x6, x7, x8, x9])
      ⟨[], [1], [c], [d], 0, 0, 0, pot1, _, _, _, _, _, PO.start c0 d0 c8 d8, by omega, Nat.le_refl _, hp1, rfl, by rw [idm c0, idm d0]⟩ ?_ ?_
    · rintro t z σ w1 hz ⟨U, e, F, G, nE, nF, nG, pot2, x2, x6, x7, x8, x9, hPO, hT, hUl, hp2, rfl, rfl⟩
      have ht3 : t < 3 := by
        have := (List.getElem?_eq_some_iff.mp hz).1
        simpa using this
      have hw2 := set_get (c := Cell.lst pot2) hw
      have hwl : (w.set n (Cell.lst pot2)).length = w.length := List.length_set ..
      rw [RetS_body, asg_nm, OptP_some, RetS_cons]
      simp only [List.set_cons_succ, List.set_cons_zero]
      refine RetS.nx (M := fun σ w' => ∃ (p : List Int) (pot3 : List D), p ∈ facL ∧ PotOk pot3 ∧ w' = w.set n (.lst pot3) ++ [.lst (U.map iT)] ∧ σ = [some (.ref n), some (.ref w.length), some (.d z), some (.d (iT (mulI e F))), some (.d (iT (mulI e G))), some (.d (iT e)), some (.d (iT p)), x7, x8, x9]) ?_ ?_
      · simp
        refine Ret.imp (hf pot2 (w.set n (.lst pot2) ++ [.lst (U.map iT)]) _ (ext_get hw2) hp2) ?_
        rintro v w2 ⟨p, p3, rfl, hpf, hp3, rfl⟩
        exact ⟨p, hpf, p3, hp3, by rw [ext_set hw2, List.set_set], rfl⟩
      rintro σ w1 ⟨p, pot3, hpf, hp3, rfl, rfl⟩
      have hw3 := set_get (c := Cell.lst pot3) hw
      have hwl3 : (w.set n (Cell.lst pot3)).length = w.length := List.length_set ..
      have gl : (w.set n (Cell.lst pot3) ++ [Cell.lst (U.map iT)])[w.length]? = some (.lst (U.map iT)) := by rw [← hwl3]; exact last_get
      by_cases hU : p ∈ U
      · have nn := notIn_rows p U
        rw [decide_eq_true hU] at nn
        simp only [RetS_cons, RetS_ifs, Ret_cmp, ev_var, Ret_ofO, slot_cons0, slot_cons, OptP_some, cmpV_dref gl, nn, BoolP_b, Bool.not_true, Bool.false_eq_true, if_false, evS_nil, RetS_mk, sq_next, loopK_next]
        exact ⟨U, e, F, G, nE, nF, nG, pot3, _, _, _, _, _, hPO, by omega, by omega, hp3, rfl, rfl⟩
      · have nn := notIn_rows p U
        rw [decide_eq_false hU] at nn
        have ul : decide ((U.map iT).length < 16777216) = true := by
          rw [List.length_map]
          exact decide_eq_true (by omega)
        have ap : U.map iT ++ [iT p] = (U ++ [p]).map iT := by rw [List.map_append]; rfl
        rw [RetS_cons]
        simp only [RetS_ifs, Ret_cmp, ev_var, Ret_ofO, slot_cons0, slot_cons, OptP_some, cmpV_dref gl, nn, BoolP_b, Bool.not_false, if_true]
        rw [RetS_cons]
        refine RetS.nx (M := fun σ w' => w' = w.set n (.lst pot3) ++ [.lst ((U ++ [p]).map iT)] ∧ σ = [some (.ref n), some (.ref w.length), some (.d z), some (.d (iT (mulI e F))), some (.d (iT (mulI e G))), some (.d (iT e)), some (.d (iT p)), x7, x8, x9]) ?_ ?_
        · simp only [evS_expr, RetS_onE, Ret_mth, ev_var, Ret_ofO, slot_cons0, slot_cons, OptP_some, rd_ref, gl, rdC_l, isLst, true_and, evA_cons, evA_nil, Ret_bind, Ret_ok, purs_cons, purs_nil, Option.map_some, mthW, ul, if_true, RetS_mk, Nx_next, ap]
          exact ⟨ext_last hwl3.symm, trivial⟩
        rintro σ w1 ⟨rfl, rfl⟩
        rw [RetS_cons]
        refine RetS.nx (M := fun σ w' => ∃ (m o : Nat) (pot4 : List D), m ≤ 2 ∧ o ≤ 2 ∧ PotOk pot4 ∧ w' = w.set n (.lst pot4) ++ [.lst ((U ++ [p]).map iT)] ∧ σ = [some (.ref n), some (.ref w.length), some (.d z), some (.d (iT (mulI e F))), some (.d (iT (mulI e G))), some (.d (iT e)), some (.d (iT p)), x7, some (.d (.int (m : Int))), some (.d (.int (o : Int)))]) ?_ ?_
        · simp
          refine Ret.imp (ht (ext_get hw3) hp3 (by decide) (by decide)) ?_
          rintro v w2 ⟨r, p4, rfl, r0, r1, hp4, rfl⟩
          rw [ext_set hw3, List.set_set]
          have hw4 := set_get (c := Cell.lst p4) hw
          refine Ret.imp (ht (ext_get hw4) hp4 (by decide) (by decide)) ?_
          rintro v w2 ⟨r', p5, rfl, r0', r1', hp5, rfl⟩
          rw [ext_set hw4, List.set_set]
          simp
          exact ⟨r.toNat, by omega, r'.toNat, by omega, p5, hp5, rfl, by omega, by omega⟩
        rintro σ w1 ⟨m, o, pot4, hm2, ho2, hp4, rfl, rfl⟩
        have cGp := hPO.cG p hpf hU
        have cFp := hPO.cF p hpf hU
        have hPO2 := hPO.more (p := p)
        have pU : p ∈ U ++ [p] := List.mem_append_right _ List.mem_cons_self
        obtain ⟨pc, pd, ph, pl, pl3, ps⟩ := fac_props hpf
        simp only [RetS_cons]
        refine RetS.nx (M := fun σ w' => ∃ (e F G : List Int) (nE nF nG : Nat) (x7 : Option IV), PO (U ++ [p]) e F G nE nF nG ∧ nE + nF + nG ≤ 2 * t + 2 ∧ w' = w.set n (.lst pot4) ++ [.lst ((U ++ [p]).map iT)] ∧ σ = [some (.ref n), some (.ref w.length), some (.d z), some (.d (iT (mulI e F))), some (.d (iT (mulI e G))), some (.d (iT e)), some (.d (iT p)), x7, some (.d (.int (m : Int))), some (.d (.int (o : Int)))]) ?_ ?_
        · have r2 : rngD [.int 2] = some ((List.range 2).map fun (k : Nat) => .int k) := rng_nat (n := 2) (by omega)
          simp only [RetS_for, Ret_rng, evA_cons, evA_nil, ev_cst, Ret_bind, Ret_ok, purs_cons, purs_nil, Option.map_some, OptP_some, r2, forP_dat]
          refine ⟨okl _ (by simp), ?_⟩
          refine forL_inv (fun q σ w' => ∃ (e F G : List Int) (nE nF nG : Nat) (x7 : Option IV), PO (U ++ [p]) e F G nE nF nG ∧ nE + nF + nG ≤ 2 * t + q ∧ (q < m → Cop (toR G) (toR p)) ∧ (q < o → Cop (toR F) (toR p)) ∧ w' = w.set n (.lst pot4) ++ [.lst ((U ++ [p]).map iT)] ∧ σ = [some (.ref n), some (.ref w.length), some (.d z), some (.d (iT (mulI e F))), some (.d (iT (mulI e G))), some (.d (iT e)), some (.d (iT p)), x7, some (.d (.int (m : Int))), some (.d (.int (o : Int)))])
            ⟨e, F, G, nE, nF, nG, _, hPO2, by omega, fun _ => cGp, fun _ => cFp, rfl, rfl⟩ ?_ ?_
          · rintro q zq σ w1 hzq ⟨e, F, G, nE, nF, nG, x7, hPO, hT, hG, hF, rfl, rfl⟩
            obtain ⟨hq2, rfl⟩ := range_get hzq
            obtain ⟨e', F', G', nE', nF', nG', hPO', hT', e1, e2, e3, g1, g2⟩ := hPO.turn (x := decide (q < m)) (y := decide (q < o)) hpf pU (fun h => hG (of_decide_eq_true h)) (fun h => hF (of_decide_eq_true h))
            have sF := hPO.sF
            have sG := hPO.sG
            have se := hPO.se
            have lF := hPO.lF
            have lG := hPO.lG
            have le := hPO.le
            have l1 := mul_len e F
            have l2 := mul_len e G
            have c1 := fun w => hm (mulI e F) p w ((Sm_mul se sF (by omega)).mono (by omega)) (ps.mono (by decide)) (by omega) (by omega)
            have c2 := fun w => hm (mulI e G) p w ((Sm_mul se sG (by omega)).mono (by omega)) (ps.mono (by decide)) (by omega) (by omega)
            have c3 := fun w => hm e p w (se.mono (by omega)) (ps.mono (by decide)) (by omega) (by omega)
            have mn : bltD .min [.int (m : Int), .int (o : Int)] = some (.int ((min m o : Nat) : Int)) := by
              show some (PyData.int (if (o : Int) < (m : Int) then (o : Int) else (m : Int))) = _
              congr 2
              split <;> omega
            have q1 : ((q : Int) < (m : Int)) ↔ q < m := by omega
            have q2 : ((q : Int) < (o : Int)) ↔ q < o := by omega
            have q3 : ((q : Int) < ((min m o : Nat) : Int)) ↔ (q < m ∧ q < o) := by omega
            have d3 : decide ((q : Int) < ((min m o : Nat) : Int)) = (decide (q < m) && decide (q < o)) := by
              rw [decide_eq_decide.mpr q3, Bool.decide_and]
            have d1 : decide ((q : Int) < (m : Int)) = decide (q < m) := decide_eq_decide.mpr q1
            have d2 : decide ((q : Int) < (o : Int)) = decide (q < o) := decide_eq_decide.mpr q2
            rw [RetS_body]
            simp only [asg_nm, OptP_some, List.set_cons_succ, List.set_cons_zero]
            rw [RetS_cons]
            refine RetS.nx (M := fun σ w' => w' = w.set n (.lst pot4) ++ [.lst ((U ++ [p]).map iT)] ∧ σ = [some (.ref n), some (.ref w.length), some (.d z), some (.d (iT (mulI e' F'))), some (.d (iT (mulI e G))), some (.d (iT e)), some (.d (iT p)), some (.d (.int (q : Int))), some (.d (.int (m : Int))), some (.d (.int (o : Int)))]) ?_ ?_
            · rw [← e1]
              by_cases h1 : q < m
              · simp [h1, c1]
              · simp [h1]
            rintro σ w1 ⟨rfl, rfl⟩
            rw [RetS_cons]
            refine RetS.nx (M := fun σ w' => w' = w.set n (.lst pot4) ++ [.lst ((U ++ [p]).map iT)] ∧ σ = [some (.ref n), some (.ref w.length), some (.d z), some (.d (iT (mulI e' F'))), some (.d (iT (mulI e' G'))), some (.d (iT e)), some (.d (iT p)), some (.d (.int (q : Int))), some (.d (.int (m : Int))), some (.d (.int (o : Int)))]) ?_ ?_
            · rw [← e2]
              by_cases h1 : q < o
              · simp [h1, c2]
              · simp [h1]
            rintro σ w1 ⟨rfl, rfl⟩
            rw [RetS_cons]
            refine RetS.nx (M := fun σ w' => w' = w.set n (.lst pot4) ++ [.lst ((U ++ [p]).map iT)] ∧ σ = [some (.ref n), some (.ref w.length), some (.d z), some (.d (iT (mulI e' F'))), some (.d (iT (mulI e' G'))), some (.d (iT e')), some (.d (iT p)), some (.d (.int (q : Int))), some (.d (.int (m : Int))), some (.d (.int (o : Int)))]) ?_ ?_
            · have e3' : iT e' = if (decide (q < m) && decide (q < o)) = true then iT (mulI e p) else iT e := by
                rw [← e3]
                split <;> rfl
              rw [e3']
              simp only [evS_asgN, RetS_onE, ev_ite, Ret_tst, Ret_cmp, ev_var, Ret_ofO, slot_cons0, slot_cons, OptP_some, Ret_blt, evA_cons, evA_nil, Ret_bind, Ret_ok, rdAll_cons, rdAll_nil, rd_d, Option.bind_some, Option.map_some, mn, cmpV_dd, lt_ii, d3, BoolP_b, Ret_if, ev_call, c3, RetS_mk, Nx_next, List.set_cons_succ, List.set_cons_zero]
              cases (decide (q < m) && decide (q < o)) <;> simp
            rintro σ w1 ⟨rfl, rfl⟩
            simp only [evS_nil, RetS_mk, loopK_next]
            exact ⟨e', F', G', nE', nF', nG', _, hPO', by omega, fun h => g1 (decide_eq_true (by omega)), fun h => g2 (decide_eq_true (by omega)), by trivial, rfl⟩
          · rintro σ w1 ⟨e, F, G, nE, nF, nG, x7, hPO, hT, hG, hF, rfl, rfl⟩
            rw [List.length_map, List.length_range] at hT
            exact ⟨e, F, G, nE, nF, nG, _, hPO, hT, rfl, rfl⟩
        rintro σ w1 ⟨e2, F2, G2, nE2, nF2, nG2, y7, hPO3, hT3, rfl, rfl⟩
        simp only [evS_nil, RetS_mk, sq_next, loopK_next]
        exact ⟨U ++ [p], e2, F2, G2, nE2, nF2, nG2, pot4, _, _, _, _, _, hPO3, by omega, by rw [List.length_append]; simp; omega, hp4, by trivial, rfl⟩
    · rintro σ w1 ⟨U, e, F, G, nE, nF, nG, pot2, x2, x6, x7, x8, x9, hPO, hT, hUl, hp2, rfl, rfl⟩
      rw [List.length_map, List.length_range] at hT
      exact ⟨U, e, F, G, nE, nF, nG, pot2, _, _, _, _, _, hPO, by omega, hp2, rfl, rfl⟩
  rintro σ w1 ⟨U, e, F, G, nE, nF, nG, pot2, x2, x6, x7, x8, x9, hPO, hT, hp2, rfl, rfl⟩
  have hwl : (w.set n (Cell.lst pot2)).length = w.length := List.length_set ..
  have tk : List.take w.length (w.set n (Cell.lst pot2) ++ [Cell.lst (U.map iT)]) = w.set n (.lst pot2) := by
    rw [List.take_append_of_le_length (by omega), ← hwl, List.take_length]
  simp [okL, tk]
  exact ⟨U, e, F, G, ⟨rfl, rfl, rfl⟩, nE, nF, nG, hPO, hT, pot2, hp2, rfl⟩
end
end Pv

/-! a law's defs, as the small machine has them (printed by gen.py) -/
namespace Pv.k05
open PySem PySem.Spec PyProof.Rows L2
abbrev P0 : Program := PySem.Challenge.pw_wholesigns_k05_whole_common_polynomials
def top (i : Nat) : Stmt := P0.main.body.getD i (.Pass ⟨0, 0, 0, 0⟩)
def sPar : Stmt → Arguments
  | .FunctionDef _ a _ _ _ _ _ _ _ _ => a
  | _ => ⟨[], [], none, [], [], none, []⟩
def sBody : Stmt → List Stmt
  | .FunctionDef _ _ b _ _ _ _ _ _ _ => b
  | _ => []
def sScope : Stmt → Scope
  | .FunctionDef _ _ _ _ _ _ s _ _ _ => s
  | _ => ⟨.function, [], false, false, []⟩
def b0 : St := B_is_integer
/-- is_integer -/
def f0 : Fs := ⟨"is_integer", sPar (top 7), sBody (top 7), sScope (top 7), [("value" : Str)], [("value" : Str)], ⟨1, 1, b0⟩⟩
def b1 : St := B_lowest
/-- lowest -/
def f1 : Fs := ⟨"lowest", sPar (top 8), sBody (top 8), sScope (top 8), [("top" : Str), ("bottom" : Str)], [("top" : Str), ("bottom" : Str), ("common" : Str)], ⟨2, 3, b1⟩⟩
def b2 : St := B_added 1
/-- added -/
def f2 : Fs := ⟨"added", sPar (top 9), sBody (top 9), sScope (top 9), [("a" : Str), ("b" : Str)], [("a" : Str), ("b" : Str)], ⟨2, 2, b2⟩⟩
def b3 : St := B_opposite
/-- opposite -/
def f3 : Fs := ⟨"opposite", sPar (top 10), sBody (top 10), sScope (top 10), [("a" : Str)], [("a" : Str)], ⟨1, 1, b3⟩⟩
def b4 : St := B_product 1
/-- product -/
def f4 : Fs := ⟨"product", sPar (top 11), sBody (top 11), sScope (top 11), [("a" : Str), ("b" : Str)], [("a" : Str), ("b" : Str)], ⟨2, 2, b4⟩⟩
def b5 : St := B_quotient 1
/-- quotient -/
def f5 : Fs := ⟨"quotient", sPar (top 12), sBody (top 12), sScope (top 12), [("a" : Str), ("b" : Str)], [("a" : Str), ("b" : Str)], ⟨2, 2, b5⟩⟩
def b6 : St := B_is_polynomial 0
/-- is_polynomial -/
def f6 : Fs := ⟨"is_polynomial", sPar (top 14), sBody (top 14), sScope (top 14), [("told" : Str)], [("told" : Str), ("a" : Str)], ⟨1, 2, b6⟩⟩
def b7 : St := B_check_polynomial 6
/-- check_polynomial -/
def f7 : Fs := ⟨"check_polynomial", sPar (top 15), sBody (top 15), sScope (top 15), [("f" : Str)], [("f" : Str)], ⟨1, 1, b7⟩⟩
def b8 : St := B_check_degree 7
/-- check_degree -/
def f8 : Fs := ⟨"check_degree", sPar (top 16), sBody (top 16), sScope (top 16), [("f" : Str), ("least" : Str)], [("f" : Str), ("least" : Str)], ⟨2, 2, b8⟩⟩
def b9 : St := B_stripped
/-- stripped -/
def f9 : Fs := ⟨"stripped", sPar (top 17), sBody (top 17), sScope (top 17), [("row" : Str), ("nought" : Str)], [("row" : Str), ("nought" : Str), ("at" : Str)], ⟨2, 3, b9⟩⟩
def b10 : St := B_scaled_by
/-- scaled_by -/
def f10 : Fs := ⟨"scaled_by", sPar (top 18), sBody (top 18), sScope (top 18), [("f" : Str), ("k" : Str)], [("f" : Str), ("k" : Str), ("a" : Str)], ⟨2, 3, b10⟩⟩
def b11 : St := B_broken
/-- broken -/
def f11 : Fs := ⟨"broken", sPar (top 19), sBody (top 19), sScope (top 19), [("f" : Str)], [("f" : Str), ("a" : Str)], ⟨1, 2, b11⟩⟩
def b12 : St := B_broken_divided 5 2 3 4 9 0
/-- broken_divided -/
def f12 : Fs := ⟨"broken_divided", sPar (top 20), sBody (top 20), sScope (top 20), [("p" : Str), ("q" : Str)], [("p" : Str), ("q" : Str), ("at" : Str), ("left" : Str), ("found" : Str), ("by" : Str), ("place" : Str), ("b" : Str)], ⟨2, 8, b12⟩⟩
def b13 : St := B_bare
/-- bare -/
def f13 : Fs := ⟨"bare", sPar (top 21), sBody (top 21), sScope (top 21), [("f" : Str)], [("f" : Str), ("common_part" : Str), ("a" : Str)], ⟨1, 3, b13⟩⟩
def b14 : St := B_lean 13 10
/-- lean -/
def f14 : Fs := ⟨"lean", sPar (top 22), sBody (top 22), sScope (top 22), [("f" : Str)], [("f" : Str), ("found" : Str)], ⟨1, 2, b14⟩⟩
def b15 : St := B_remainder_of 14 9
/-- remainder_of -/
def f15 : Fs := ⟨"remainder_of", sPar (top 23), sBody (top 23), sScope (top 23), [("f" : Str), ("g" : Str)], [("f" : Str), ("g" : Str), ("left" : Str), ("row" : Str), ("by" : Str), ("less" : Str), ("place" : Str), ("b" : Str), ("a" : Str)], ⟨2, 9, b15⟩⟩
def b16 : St := B_common_of 15 13
/-- common_of -/
def f16 : Fs := ⟨"common_of", sPar (top 24), sBody (top 24), sScope (top 24), [("f" : Str), ("g" : Str)], [("f" : Str), ("g" : Str)], ⟨2, 2, b16⟩⟩
def b17 : St := B_divided 7 8 12 11
/-- divided -/
def f17 : Fs := ⟨"divided", sPar (top 25), sBody (top 25), sScope (top 25), [("f" : Str), ("g" : Str)], [("f" : Str), ("g" : Str)], ⟨2, 2, b17⟩⟩
def b18 : St := B_common 7 16
/-- common -/
def f18 : Fs := ⟨"common", sPar (top 26), sBody (top 26), sScope (top 26), [("f" : Str), ("g" : Str)], [("f" : Str), ("g" : Str)], ⟨2, 2, b18⟩⟩
def b19 : St := B_law_take
/-- _law_take -/
def f19 : Fs := ⟨"_law_take", sPar (top 28), sBody (top 28), sScope (top 28), [("pot" : Str), ("many" : Str)], [("pot" : Str), ("many" : Str), ("cell" : Str), ("drawn_now" : Str), ("mixed" : Str)], ⟨2, 5, b19⟩⟩
def b20 : St := B_law_same 20
/-- _law_same -/
def f20 : Fs := ⟨"_law_same", sPar (top 29), sBody (top 29), sScope (top 29), [("got" : Str), ("due" : Str)], [("got" : Str), ("due" : Str), ("k" : Str)], ⟨2, 3, b20⟩⟩
def b21 : St := B_law_low
/-- _law_low -/
def f21 : Fs := ⟨"_law_low", sPar (top 30), sBody (top 30), sScope (top 30), [("top" : Str), ("bottom" : Str)], [("top" : Str), ("bottom" : Str), ("turn" : Str), ("sign" : Str), ("one" : Str), ("other" : Str)], ⟨2, 6, b21⟩⟩
def b22 : St := B_law_plus 21
/-- _law_plus -/
def f22 : Fs := ⟨"_law_plus", sPar (top 31), sBody (top 31), sScope (top 31), [("a" : Str), ("b" : Str)], [("a" : Str), ("b" : Str)], ⟨2, 2, b22⟩⟩
def b23 : St := B_law_times 21
/-- _law_times -/
def f23 : Fs := ⟨"_law_times", sPar (top 32), sBody (top 32), sScope (top 32), [("a" : Str), ("b" : Str)], [("a" : Str), ("b" : Str)], ⟨2, 2, b23⟩⟩
def b24 : St := B_law_dot 22 23
/-- _law_dot -/
def f24 : Fs := ⟨"_law_dot", sPar (top 33), sBody (top 33), sScope (top 33), [("one" : Str), ("other" : Str)], [("one" : Str), ("other" : Str), ("total" : Str), ("a" : Str), ("b" : Str)], ⟨2, 5, b24⟩⟩
def b25 : St := B_law_trim
/-- _law_trim -/
def f25 : Fs := ⟨"_law_trim", sPar (top 34), sBody (top 34), sScope (top 34), [("row" : Str)], [("row" : Str), ("at_now" : Str)], ⟨1, 2, b25⟩⟩
def b26 : St := B_law_sum 25
/-- _law_sum -/
def f26 : Fs := ⟨"_law_sum", sPar (top 35), sBody (top 35), sScope (top 35), [("f" : Str), ("g" : Str)], [("f" : Str), ("g" : Str), ("many" : Str), ("one" : Str), ("other" : Str), ("a" : Str), ("b" : Str)], ⟨2, 7, b26⟩⟩
def b27 : St := B_law_product
/-- _law_product -/
def f27 : Fs := ⟨"_law_product", sPar (top 36), sBody (top 36), sScope (top 36), [("f" : Str), ("g" : Str)], [("f" : Str), ("g" : Str), ("found" : Str), ("i" : Str), ("j" : Str)], ⟨2, 5, b27⟩⟩
def b28 : St := B_law_at 21
/-- _law_at -/
def f28 : Fs := ⟨"_law_at", sPar (top 37), sBody (top 37), sScope (top 37), [("f" : Str), ("x" : Str)], [("f" : Str), ("x" : Str), ("k" : Str), ("under" : Str), ("turn" : Str), ("top" : Str), ("bottom" : Str), ("total" : Str), ("n" : Str), ("part" : Str)], ⟨2, 10, b28⟩⟩
def b29 : St := B_law_polynomial 19 25
/-- _law_polynomial -/
def f29 : Fs := ⟨"_law_polynomial", sPar (top 38), sBody (top 38), sScope (top 38), [("pot" : Str), ("most" : Str), ("far" : Str)], [("pot" : Str), ("most" : Str), ("far" : Str), ("row" : Str), ("k" : Str), ("a" : Str)], ⟨3, 6, b29⟩⟩
def b30 : St := B_law_drawn 21 19
/-- _law_drawn -/
def f30 : Fs := ⟨"_law_drawn", sPar (top 39), sBody (top 39), sScope (top 39), [("pot" : Str), ("far" : Str)], [("pot" : Str), ("far" : Str)], ⟨2, 2, b30⟩⟩
def b31 : St := B_law_factor 19 21
/-- _law_factor -/
def f31 : Fs := ⟨"_law_factor", sPar (top 40), sBody (top 40), sScope (top 40), [("pot" : Str)], [("pot" : Str), ("way" : Str), ("none" : Str), ("real" : Str), ("top" : Str), ("bottom" : Str)], ⟨1, 6, b31⟩⟩
def b32 : St := B_law_planted 19 31 27
/-- _law_planted -/
def f32 : Fs := ⟨"_law_planted", sPar (top 41), sBody (top 41), sScope (top 41), [("pot" : Str), ("most" : Str)], [("pot" : Str), ("most" : Str), ("turn" : Str), ("k" : Str), ("f" : Str), ("parts_now" : Str), ("made" : Str), ("again" : Str), ("g" : Str), ("times_now" : Str), ("a" : Str), ("part" : Str), ("many" : Str)], ⟨2, 13, b32⟩⟩
def b33 : St := B_law_surds
/-- _law_surds -/
def f33 : Fs := ⟨"_law_surds", sPar (top 42), sBody (top 42), sScope (top 42), [("g" : Str)], [("g" : Str), ("far" : Str)], ⟨1, 2, b33⟩⟩
def b34 : St := B_law_sign
/-- _law_sign -/
def f34 : Fs := ⟨"_law_sign", sPar (top 43), sBody (top 43), sScope (top 43), [("a" : Str)], [("a" : Str)], ⟨1, 1, b34⟩⟩
def b35 : St := B_law_sign_of_two 34
/-- _law_sign_of_two -/
def f35 : Fs := ⟨"_law_sign_of_two", sPar (top 44), sBody (top 44), sScope (top 44), [("a" : Str), ("b" : Str), ("d" : Str)], [("a" : Str), ("b" : Str), ("d" : Str)], ⟨3, 3, b35⟩⟩
def b36 : St := B_law_order 35 34
/-- _law_order -/
def f36 : Fs := ⟨"_law_order", sPar (top 45), sBody (top 45), sScope (top 45), [("one" : Str), ("other" : Str)], [("one" : Str), ("other" : Str), ("a" : Str), ("b" : Str), ("d" : Str), ("c" : Str), ("e" : Str), ("first" : Str), ("last" : Str)], ⟨2, 9, b36⟩⟩
def b37 : St := B_law_sorted 36
/-- _law_sorted -/
def f37 : Fs := ⟨"_law_sorted", sPar (top 46), sBody (top 46), sScope (top 46), [("surds_now" : Str)], [("surds_now" : Str), ("found" : Str), ("one" : Str), ("place" : Str), ("other" : Str)], ⟨1, 5, b37⟩⟩
def b38 : St := B_law_all_surds 33 37
/-- _law_all_surds -/
def f38 : Fs := ⟨"_law_all_surds", sPar (top 47), sBody (top 47), sScope (top 47), [("parts_now" : Str)], [("parts_now" : Str), ("found" : Str), ("g" : Str), ("many" : Str)], ⟨1, 4, b38⟩⟩
def b39 : St := B_law_sign_at 35
/-- _law_sign_at -/
def f39 : Fs := ⟨"_law_sign_at", sPar (top 48), sBody (top 48), sScope (top 48), [("f" : Str), ("surd" : Str)], [("f" : Str), ("surd" : Str), ("number" : Str), ("a" : Str), ("b" : Str), ("s" : Str), ("d" : Str), ("u" : Str), ("v" : Str), ("under" : Str)], ⟨2, 10, b39⟩⟩
def b40 : St := B_law_broken_sum 25 22
/-- _law_broken_sum -/
def f40 : Fs := ⟨"_law_broken_sum", sPar (top 49), sBody (top 49), sScope (top 49), [("p" : Str), ("q" : Str)], [("p" : Str), ("q" : Str), ("many" : Str), ("one" : Str), ("other" : Str), ("a" : Str), ("b" : Str)], ⟨2, 7, b40⟩⟩
def b41 : St := B_law_broken_product 22 23
/-- _law_broken_product -/
def f41 : Fs := ⟨"_law_broken_product", sPar (top 50), sBody (top 50), sScope (top 50), [("p" : Str), ("q" : Str)], [("p" : Str), ("q" : Str), ("found" : Str), ("i" : Str), ("j" : Str)], ⟨2, 5, b41⟩⟩
def b42 : St := B_law_is_broken 21
/-- _law_is_broken -/
def f42 : Fs := ⟨"_law_is_broken", sPar (top 51), sBody (top 51), sScope (top 51), [("told" : Str)], [("told" : Str), ("a" : Str), ("b" : Str)], ⟨1, 3, b42⟩⟩
def b43 : St := B_law_bare
/-- _law_bare -/
def f43 : Fs := ⟨"_law_bare", sPar (top 52), sBody (top 52), sScope (top 52), [("row" : Str)], [("row" : Str), ("far" : Str), ("a" : Str), ("one" : Str), ("other" : Str)], ⟨1, 5, b43⟩⟩
def b44 : St := B_law_common 23 40 21 43
/-- _law_common -/
def f44 : Fs := ⟨"_law_common", sPar (top 53), sBody (top 53), sScope (top 53), [("f" : Str), ("g" : Str)], [("f" : Str), ("g" : Str), ("turn" : Str), ("under" : Str), ("one" : Str), ("other" : Str), ("left" : Str), ("top" : Str), ("bottom" : Str), ("by" : Str), ("less" : Str), ("a" : Str), ("b" : Str)], ⟨2, 13, b44⟩⟩
def b45 : St := B_law_pair 19 31 27
/-- _law_pair -/
def f45 : Fs := ⟨"_law_pair", sPar (top 54), sBody (top 54), sScope (top 54), [("pot" : Str)], [("pot" : Str), ("used" : Str), ("turn" : Str), ("f" : Str), ("g" : Str), ("due" : Str), ("part" : Str), ("again" : Str), ("many" : Str), ("other" : Str)], ⟨1, 10, b45⟩⟩
def b46 : St := (.cons (.asg (.nm 1) (.new (.bin .Add (.lst (.cons (.cst (.int (0))) (.cons (.cst (.int (7))) (.cons (.cst (.int (3))) .nil)))) (.blt .list (.cons (.var 0) .nil))))) (.cons (.for_ (.nm 2) (.rng (.cons (.cst (.int (6))) .nil)) (.cons (.asg (.tup (.cons (.nm 5) (.cons (.nm 6) (.cons (.nm 3) .nil)))) (.call 45 (.cons (.var 1) .nil))) (.cons (.ifs (.not (.call 20 (.cons (.lst (.cons (.call 18 (.cons (.var 5) (.cons (.var 6) .nil))) (.cons (.callk 18 .nil (.cons (.var 6) (.cons (.var 5) .nil)) [1, 0]) (.cons (.call 18 (.cons (.var 6) (.cons (.var 5) .nil))) .nil)))) (.cons (.bin .Mult (.lst (.cons (.var 3) .nil)) (.cst (.int (3)))) .nil)))) (.cons (.ret (.cst (.bool false))) .nil) .nil) (.cons (.par [5, 6] (.cons (.call 29 (.cons (.var 1) (.cons (.cst (.int (6))) (.cons (.cst (.int (20))) .nil)))) (.cons (.call 29 (.cons (.var 1) (.cons (.cst (.int (6))) (.cons (.sub (.lst (.cons (.cst (.int (2))) (.cons (.cst (.int (20))) .nil))) (.call 19 (.cons (.var 1) (.cons (.cst (.int (2))) .nil)))) .nil)))) .nil))) (.cons (.asg (.nm 3) (.call 44 (.cons (.var 5) (.cons (.var 6) .nil)))) (.cons (.ifs (.not (.call 20 (.cons (.lst (.cons (.call 18 (.cons (.var 5) (.cons (.var 6) .nil))) (.cons (.call 18 (.cons (.var 6) (.cons (.var 5) .nil))) .nil))) (.cons (.lst (.cons (.var 3) (.cons (.var 3) .nil))) .nil)))) (.cons (.ret (.cst (.bool false))) .nil) .nil) (.cons (.for_ (.nm 4) (.seq (.lst (.cons (.var 5) (.cons (.var 6) .nil)))) (.cons (.ifs (.and (.cmp .NotEq (.var 3) (.tup .nil)) (.not (.call 20 (.cons (.sub (.call 17 (.cons (.var 4) (.cons (.var 3) .nil))) (.cst (.int (1)))) (.cons (.tup .nil) .nil))))) (.cons (.ret (.cst (.bool false))) .nil) .nil) .nil)) .nil))))))) (.cons (.ret (.call 20 (.cons (.call 18 (.cons (.tup .nil) (.cons (.tup .nil) .nil))) (.cons (.tup .nil) .nil)))) .nil)))
/-- law -/
def f46 : Fs := ⟨"law", sPar (top 55), sBody (top 55), sScope (top 55), [("script" : Str)], [("script" : Str), ("pot" : Str), ("turn" : Str), ("due" : Str), ("one" : Str), ("f" : Str), ("g" : Str)], ⟨1, 7, b46⟩⟩
def fs : List Fs := [f0, f1, f2, f3, f4, f5, f6, f7, f8, f9, f10, f11, f12, f13, f14, f15, f16, f17, f18, f19, f20, f21, f22, f23, f24, f25, f26, f27, f28, f29, f30, f31, f32, f33, f34, f35, f36, f37, f38, f39, f40, f41, f42, f43, f44, f45, f46]
def c0 : Cc where
  N := []
  sc := ⟨.function, [], false, false, []⟩
  fs := [(("is_integer" : Str), [("value" : Str)]), (("lowest" : Str), [("top" : Str), ("bottom" : Str)]), (("added" : Str), [("a" : Str), ("b" : Str)]), (("opposite" : Str), [("a" : Str)]), (("product" : Str), [("a" : Str), ("b" : Str)]), (("quotient" : Str), [("a" : Str), ("b" : Str)]), (("is_polynomial" : Str), [("told" : Str)]), (("check_polynomial" : Str), [("f" : Str)]), (("check_degree" : Str), [("f" : Str), ("least" : Str)]), (("stripped" : Str), [("row" : Str), ("nought" : Str)]), (("scaled_by" : Str), [("f" : Str), ("k" : Str)]), (("broken" : Str), [("f" : Str)]), (("broken_divided" : Str), [("p" : Str), ("q" : Str)]), (("bare" : Str), [("f" : Str)]), (("lean" : Str), [("f" : Str)]), (("remainder_of" : Str), [("f" : Str), ("g" : Str)]), (("common_of" : Str), [("f" : Str), ("g" : Str)]), (("divided" : Str), [("f" : Str), ("g" : Str)]), (("common" : Str), [("f" : Str), ("g" : Str)]), (("_law_take" : Str), [("pot" : Str), ("many" : Str)]), (("_law_same" : Str), [("got" : Str), ("due" : Str)]), (("_law_low" : Str), [("top" : Str), ("bottom" : Str)]), (("_law_plus" : Str), [("a" : Str), ("b" : Str)]), (("_law_times" : Str), [("a" : Str), ("b" : Str)]), (("_law_dot" : Str), [("one" : Str), ("other" : Str)]), (("_law_trim" : Str), [("row" : Str)]), (("_law_sum" : Str), [("f" : Str), ("g" : Str)]), (("_law_product" : Str), [("f" : Str), ("g" : Str)]), (("_law_at" : Str), [("f" : Str), ("x" : Str)]), (("_law_polynomial" : Str), [("pot" : Str), ("most" : Str), ("far" : Str)]), (("_law_drawn" : Str), [("pot" : Str), ("far" : Str)]), (("_law_factor" : Str), [("pot" : Str)]), (("_law_planted" : Str), [("pot" : Str), ("most" : Str)]), (("_law_surds" : Str), [("g" : Str)]), (("_law_sign" : Str), [("a" : Str)]), (("_law_sign_of_two" : Str), [("a" : Str), ("b" : Str), ("d" : Str)]), (("_law_order" : Str), [("one" : Str), ("other" : Str)]), (("_law_sorted" : Str), [("surds_now" : Str)]), (("_law_all_surds" : Str), [("parts_now" : Str)]), (("_law_sign_at" : Str), [("f" : Str), ("surd" : Str)]), (("_law_broken_sum" : Str), [("p" : Str), ("q" : Str)]), (("_law_broken_product" : Str), [("p" : Str), ("q" : Str)]), (("_law_is_broken" : Str), [("told" : Str)]), (("_law_bare" : Str), [("row" : Str)]), (("_law_common" : Str), [("f" : Str), ("g" : Str)]), (("_law_pair" : Str), [("pot" : Str)]), (("law" : Str), [("script" : Str)])]
  gl := [("ZERO" : Str)]
  bs := [.gcd, .all, .len, .tuple, .list, .abs, .int, .max, .min]
  ms := [("isinstance" : Str), ("int" : Str), ("bool" : Str), ("tuple" : Str), ("range" : Str), ("enumerate" : Str), ("str" : Str), ("list" : Str), ("zip" : Str)]
  kw := [(18, 0, [("g" : Str), ("f" : Str)], [1, 0])]
  cl := []
def L : Lw := ⟨c0, fs, [(("ZERO" : Str), .tuple [.int (0), .int (1)])], [(("gcd" : Str), "math.gcd")]⟩
def li : Nat := 46
/-! the checks -/
theorem k0 : f0.chk c0 = true := by decide +kernel
theorem k1 : f1.chk c0 = true := by decide +kernel
theorem k2 : f2.chk c0 = true := by decide +kernel
theorem k3 : f3.chk c0 = true := by decide +kernel
theorem k4 : f4.chk c0 = true := by decide +kernel
theorem k5 : f5.chk c0 = true := by decide +kernel
theorem k6 : f6.chk c0 = true := by decide +kernel
theorem k7 : f7.chk c0 = true := by decide +kernel
theorem k8 : f8.chk c0 = true := by decide +kernel
theorem k9 : f9.chk c0 = true := by decide +kernel
theorem k10 : f10.chk c0 = true := by decide +kernel
theorem k11 : f11.chk c0 = true := by decide +kernel
theorem k12 : f12.chk c0 = true := by decide +kernel
theorem k13 : f13.chk c0 = true := by decide +kernel
theorem k14 : f14.chk c0 = true := by decide +kernel
theorem k15 : f15.chk c0 = true := by decide +kernel
theorem k16 : f16.chk c0 = true := by decide +kernel
theorem k17 : f17.chk c0 = true := by decide +kernel
theorem k18 : f18.chk c0 = true := by decide +kernel
theorem k19 : f19.chk c0 = true := by decide +kernel
theorem k20 : f20.chk c0 = true := by decide +kernel
theorem k21 : f21.chk c0 = true := by decide +kernel
theorem k22 : f22.chk c0 = true := by decide +kernel
theorem k23 : f23.chk c0 = true := by decide +kernel
theorem k24 : f24.chk c0 = true := by decide +kernel
theorem k25 : f25.chk c0 = true := by decide +kernel
theorem k26 : f26.chk c0 = true := by decide +kernel
theorem k27 : f27.chk c0 = true := by decide +kernel
theorem k28 : f28.chk c0 = true := by decide +kernel
theorem k29 : f29.chk c0 = true := by decide +kernel
theorem k30 : f30.chk c0 = true := by decide +kernel
theorem k31 : f31.chk c0 = true := by decide +kernel
theorem k32 : f32.chk c0 = true := by decide +kernel
theorem k33 : f33.chk c0 = true := by decide +kernel
theorem k34 : f34.chk c0 = true := by decide +kernel
theorem k35 : f35.chk c0 = true := by decide +kernel
theorem k36 : f36.chk c0 = true := by decide +kernel
theorem k37 : f37.chk c0 = true := by decide +kernel
theorem k38 : f38.chk c0 = true := by decide +kernel
theorem k39 : f39.chk c0 = true := by decide +kernel
theorem k40 : f40.chk c0 = true := by decide +kernel
theorem k41 : f41.chk c0 = true := by decide +kernel
theorem k42 : f42.chk c0 = true := by decide +kernel
theorem k43 : f43.chk c0 = true := by decide +kernel
theorem k44 : f44.chk c0 = true := by decide +kernel
theorem k45 : f45.chk c0 = true := by decide +kernel
theorem k46 : f46.chk c0 = true := by decide +kernel
theorem cks : ∀ (i : Nat) (f : Fs), fs[i]? = some f → f.chk c0 = true
  | 0, _, h => by cases h; exact k0
  | 1, _, h => by cases h; exact k1
  | 2, _, h => by cases h; exact k2
  | 3, _, h => by cases h; exact k3
  | 4, _, h => by cases h; exact k4
  | 5, _, h => by cases h; exact k5
  | 6, _, h => by cases h; exact k6
  | 7, _, h => by cases h; exact k7
  | 8, _, h => by cases h; exact k8
  | 9, _, h => by cases h; exact k9
  | 10, _, h => by cases h; exact k10
  | 11, _, h => by cases h; exact k11
  | 12, _, h => by cases h; exact k12
  | 13, _, h => by cases h; exact k13
  | 14, _, h => by cases h; exact k14
  | 15, _, h => by cases h; exact k15
  | 16, _, h => by cases h; exact k16
  | 17, _, h => by cases h; exact k17
  | 18, _, h => by cases h; exact k18
  | 19, _, h => by cases h; exact k19
  | 20, _, h => by cases h; exact k20
  | 21, _, h => by cases h; exact k21
  | 22, _, h => by cases h; exact k22
  | 23, _, h => by cases h; exact k23
  | 24, _, h => by cases h; exact k24
  | 25, _, h => by cases h; exact k25
  | 26, _, h => by cases h; exact k26
  | 27, _, h => by cases h; exact k27
  | 28, _, h => by cases h; exact k28
  | 29, _, h => by cases h; exact k29
  | 30, _, h => by cases h; exact k30
  | 31, _, h => by cases h; exact k31
  | 32, _, h => by cases h; exact k32
  | 33, _, h => by cases h; exact k33
  | 34, _, h => by cases h; exact k34
  | 35, _, h => by cases h; exact k35
  | 36, _, h => by cases h; exact k36
  | 37, _, h => by cases h; exact k37
  | 38, _, h => by cases h; exact k38
  | 39, _, h => by cases h; exact k39
  | 40, _, h => by cases h; exact k40
  | 41, _, h => by cases h; exact k41
  | 42, _, h => by cases h; exact k42
  | 43, _, h => by cases h; exact k43
  | 44, _, h => by cases h; exact k44
  | 45, _, h => by cases h; exact k45
  | 46, _, h => by cases h; exact k46
  | _ + 47, _, h => by cases h
theorem bns : ∀ (i : Nat) (f : Fs), fs[i]? = some f → ∀ (kV doc pm : Value) (an : Option Addr) (cdv ct : Value) (us : List Value), us.length = f.ps.length → bindArgs (PySem.W.fnOf f.name f.name f.params f.body f.scope .none kV doc pm an cdv ct) ⟨us, []⟩ = pure (f.ps.zip us)
  | 0, _, h, _, _, _, _, _, _, us, hl => by cases h; exact (match us, hl with | [_], _ => rfl)
  | 1, _, h, _, _, _, _, _, _, us, hl => by cases h; exact (match us, hl with | [_, _], _ => rfl)
  | 2, _, h, _, _, _, _, _, _, us, hl => by cases h; exact (match us, hl with | [_, _], _ => rfl)
  | 3, _, h, _, _, _, _, _, _, us, hl => by cases h; exact (match us, hl with | [_], _ => rfl)
  | 4, _, h, _, _, _, _, _, _, us, hl => by cases h; exact (match us, hl with | [_, _], _ => rfl)
  | 5, _, h, _, _, _, _, _, _, us, hl => by cases h; exact (match us, hl with | [_, _], _ => rfl)
  | 6, _, h, _, _, _, _, _, _, us, hl => by cases h; exact (match us, hl with | [_], _ => rfl)
  | 7, _, h, _, _, _, _, _, _, us, hl => by cases h; exact (match us, hl with | [_], _ => rfl)
  | 8, _, h, _, _, _, _, _, _, us, hl => by cases h; exact (match us, hl with | [_, _], _ => rfl)
  | 9, _, h, _, _, _, _, _, _, us, hl => by cases h; exact (match us, hl with | [_, _], _ => rfl)
  | 10, _, h, _, _, _, _, _, _, us, hl => by cases h; exact (match us, hl with | [_, _], _ => rfl)
  | 11, _, h, _, _, _, _, _, _, us, hl => by cases h; exact (match us, hl with | [_], _ => rfl)
  | 12, _, h, _, _, _, _, _, _, us, hl => by cases h; exact (match us, hl with | [_, _], _ => rfl)
  | 13, _, h, _, _, _, _, _, _, us, hl => by cases h; exact (match us, hl with | [_], _ => rfl)
  | 14, _, h, _, _, _, _, _, _, us, hl => by cases h; exact (match us, hl with | [_], _ => rfl)
  | 15, _, h, _, _, _, _, _, _, us, hl => by cases h; exact (match us, hl with | [_, _], _ => rfl)
  | 16, _, h, _, _, _, _, _, _, us, hl => by cases h; exact (match us, hl with | [_, _], _ => rfl)
  | 17, _, h, _, _, _, _, _, _, us, hl => by cases h; exact (match us, hl with | [_, _], _ => rfl)
  | 18, _, h, _, _, _, _, _, _, us, hl => by cases h; exact (match us, hl with | [_, _], _ => rfl)
  | 19, _, h, _, _, _, _, _, _, us, hl => by cases h; exact (match us, hl with | [_, _], _ => rfl)
  | 20, _, h, _, _, _, _, _, _, us, hl => by cases h; exact (match us, hl with | [_, _], _ => rfl)
  | 21, _, h, _, _, _, _, _, _, us, hl => by cases h; exact (match us, hl with | [_, _], _ => rfl)
  | 22, _, h, _, _, _, _, _, _, us, hl => by cases h; exact (match us, hl with | [_, _], _ => rfl)
  | 23, _, h, _, _, _, _, _, _, us, hl => by cases h; exact (match us, hl with | [_, _], _ => rfl)
  | 24, _, h, _, _, _, _, _, _, us, hl => by cases h; exact (match us, hl with | [_, _], _ => rfl)
  | 25, _, h, _, _, _, _, _, _, us, hl => by cases h; exact (match us, hl with | [_], _ => rfl)
  | 26, _, h, _, _, _, _, _, _, us, hl => by cases h; exact (match us, hl with | [_, _], _ => rfl)
  | 27, _, h, _, _, _, _, _, _, us, hl => by cases h; exact (match us, hl with | [_, _], _ => rfl)
  | 28, _, h, _, _, _, _, _, _, us, hl => by cases h; exact (match us, hl with | [_, _], _ => rfl)
  | 29, _, h, _, _, _, _, _, _, us, hl => by cases h; exact (match us, hl with | [_, _, _], _ => rfl)
  | 30, _, h, _, _, _, _, _, _, us, hl => by cases h; exact (match us, hl with | [_, _], _ => rfl)
  | 31, _, h, _, _, _, _, _, _, us, hl => by cases h; exact (match us, hl with | [_], _ => rfl)
  | 32, _, h, _, _, _, _, _, _, us, hl => by cases h; exact (match us, hl with | [_, _], _ => rfl)
  | 33, _, h, _, _, _, _, _, _, us, hl => by cases h; exact (match us, hl with | [_], _ => rfl)
  | 34, _, h, _, _, _, _, _, _, us, hl => by cases h; exact (match us, hl with | [_], _ => rfl)
  | 35, _, h, _, _, _, _, _, _, us, hl => by cases h; exact (match us, hl with | [_, _, _], _ => rfl)
  | 36, _, h, _, _, _, _, _, _, us, hl => by cases h; exact (match us, hl with | [_, _], _ => rfl)
  | 37, _, h, _, _, _, _, _, _, us, hl => by cases h; exact (match us, hl with | [_], _ => rfl)
  | 38, _, h, _, _, _, _, _, _, us, hl => by cases h; exact (match us, hl with | [_], _ => rfl)
  | 39, _, h, _, _, _, _, _, _, us, hl => by cases h; exact (match us, hl with | [_, _], _ => rfl)
  | 40, _, h, _, _, _, _, _, _, us, hl => by cases h; exact (match us, hl with | [_, _], _ => rfl)
  | 41, _, h, _, _, _, _, _, _, us, hl => by cases h; exact (match us, hl with | [_, _], _ => rfl)
  | 42, _, h, _, _, _, _, _, _, us, hl => by cases h; exact (match us, hl with | [_], _ => rfl)
  | 43, _, h, _, _, _, _, _, _, us, hl => by cases h; exact (match us, hl with | [_], _ => rfl)
  | 44, _, h, _, _, _, _, _, _, us, hl => by cases h; exact (match us, hl with | [_, _], _ => rfl)
  | 45, _, h, _, _, _, _, _, _, us, hl => by cases h; exact (match us, hl with | [_], _ => rfl)
  | 46, _, h, _, _, _, _, _, _, us, hl => by cases h; exact (match us, hl with | [_], _ => rfl)
  | _ + 47, _, h, _, _, _, _, _, _, _, _ => by cases h
theorem kws : ∀ i n kn perm, (i, n, kn, perm) ∈ c0.kw → ∀ f, fs[i]? = some f → ∀ (kV doc pm : Value) (an : Option Addr) (cdv ct : Value) (us ws us' : List Value), us.length = n → ws.length = kn.length → pickG (us ++ ws) perm = some us' →
    us'.length = f.ps.length ∧ bindArgs (PySem.W.fnOf f.name f.name f.params f.body f.scope .none kV doc pm an cdv ct) ⟨us, kn.zip ws⟩ = pure (f.ps.zip us') := by
  intro i n kn perm h f hf kV doc pm an cdv ct us ws us' h1 h2 h3
  simp only [c0, List.mem_cons, List.not_mem_nil, or_false, Prod.mk.injEq] at h
  rcases h with ⟨rfl, rfl, rfl, rfl⟩
  · cases hf
    exact (match us, ws, h1, h2, h3 with | [], [_, _], _, _, h3 => by cases h3; exact ⟨rfl, rfl⟩)
theorem fine : L.Fine li where
  cf := rfl
  ck := cks
  gl := rfl
  gcd := by decide
  lcm := fun h => absurd h (by decide)
  isq := fun h => absurd h (by decide)
  law := ⟨f46, rfl, rfl, rfl⟩
  bn := bns
  kw := kws
/-! a call -/
@[irreducible] def cal : Nat → Nat → List IV → W → R IV := callF (prog L.fs) qq L.G
theorem cal_eq : cal = callF (prog L.fs) qq L.G := by unfold cal; rfl
abbrev En0 (d : Nat) : En := ⟨cal d, qq, L.G⟩
@[simp] theorem En0_Φ {d : Nat} : (En0 d).Φ = cal d := rfl
theorem e0 {d : Nat} {a0 : IV} {w : W} : cal (d + 1) 0 [a0] w = fin w.length (evS (En0 d) b0 [some a0] w) := by unfold En0; rw [cal_eq]; exact (callF_get (f := f0) rfl).trans rfl
theorem e1 {d : Nat} {a0 a1 : IV} {w : W} : cal (d + 1) 1 [a0, a1] w = fin w.length (evS (En0 d) b1 [some a0, some a1, none] w) := by unfold En0; rw [cal_eq]; exact (callF_get (f := f1) rfl).trans rfl
theorem e2 {d : Nat} {a0 a1 : IV} {w : W} : cal (d + 1) 2 [a0, a1] w = fin w.length (evS (En0 d) b2 [some a0, some a1] w) := by unfold En0; rw [cal_eq]; exact (callF_get (f := f2) rfl).trans rfl
theorem e3 {d : Nat} {a0 : IV} {w : W} : cal (d + 1) 3 [a0] w = fin w.length (evS (En0 d) b3 [some a0] w) := by unfold En0; rw [cal_eq]; exact (callF_get (f := f3) rfl).trans rfl
theorem e4 {d : Nat} {a0 a1 : IV} {w : W} : cal (d + 1) 4 [a0, a1] w = fin w.length (evS (En0 d) b4 [some a0, some a1] w) := by unfold En0; rw [cal_eq]; exact (callF_get (f := f4) rfl).trans rfl
theorem e5 {d : Nat} {a0 a1 : IV} {w : W} : cal (d + 1) 5 [a0, a1] w = fin w.length (evS (En0 d) b5 [some a0, some a1] w) := by unfold En0; rw [cal_eq]; exact (callF_get (f := f5) rfl).trans rfl
theorem e6 {d : Nat} {a0 : IV} {w : W} : cal (d + 1) 6 [a0] w = fin w.length (evS (En0 d) b6 [some a0, none] w) := by unfold En0; rw [cal_eq]; exact (callF_get (f := f6) rfl).trans rfl
theorem e7 {d : Nat} {a0 : IV} {w : W} : cal (d + 1) 7 [a0] w = fin w.length (evS (En0 d) b7 [some a0] w) := by unfold En0; rw [cal_eq]; exact (callF_get (f := f7) rfl).trans rfl
theorem e8 {d : Nat} {a0 a1 : IV} {w : W} : cal (d + 1) 8 [a0, a1] w = fin w.length (evS (En0 d) b8 [some a0, some a1] w) := by unfold En0; rw [cal_eq]; exact (callF_get (f := f8) rfl).trans rfl
theorem e9 {d : Nat} {a0 a1 : IV} {w : W} : cal (d + 1) 9 [a0, a1] w = fin w.length (evS (En0 d) b9 [some a0, some a1, none] w) := by unfold En0; rw [cal_eq]; exact (callF_get (f := f9) rfl).trans rfl
theorem e10 {d : Nat} {a0 a1 : IV} {w : W} : cal (d + 1) 10 [a0, a1] w = fin w.length (evS (En0 d) b10 [some a0, some a1, none] w) := by unfold En0; rw [cal_eq]; exact (callF_get (f := f10) rfl).trans rfl
theorem e11 {d : Nat} {a0 : IV} {w : W} : cal (d + 1) 11 [a0] w = fin w.length (evS (En0 d) b11 [some a0, none] w) := by unfold En0; rw [cal_eq]; exact (callF_get (f := f11) rfl).trans rfl
theorem e12 {d : Nat} {a0 a1 : IV} {w : W} : cal (d + 1) 12 [a0, a1] w = fin w.length (evS (En0 d) b12 [some a0, some a1, none, none, none, none, none, none] w) := by unfold En0; rw [cal_eq]; exact (callF_get (f := f12) rfl).trans rfl
theorem e13 {d : Nat} {a0 : IV} {w : W} : cal (d + 1) 13 [a0] w = fin w.length (evS (En0 d) b13 [some a0, none, none] w) := by unfold En0; rw [cal_eq]; exact (callF_get (f := f13) rfl).trans rfl
theorem e14 {d : Nat} {a0 : IV} {w : W} : cal (d + 1) 14 [a0] w = fin w.length (evS (En0 d) b14 [some a0, none] w) := by unfold En0; rw [cal_eq]; exact (callF_get (f := f14) rfl).trans rfl
theorem e15 {d : Nat} {a0 a1 : IV} {w : W} : cal (d + 1) 15 [a0, a1] w = fin w.length (evS (En0 d) b15 [some a0, some a1, none, none, none, none, none, none, none] w) := by unfold En0; rw [cal_eq]; exact (callF_get (f := f15) rfl).trans rfl
theorem e16 {d : Nat} {a0 a1 : IV} {w : W} : cal (d + 1) 16 [a0, a1] w = fin w.length (evS (En0 d) b16 [some a0, some a1] w) := by unfold En0; rw [cal_eq]; exact (callF_get (f := f16) rfl).trans rfl
theorem e17 {d : Nat} {a0 a1 : IV} {w : W} : cal (d + 1) 17 [a0, a1] w = fin w.length (evS (En0 d) b17 [some a0, some a1] w) := by unfold En0; rw [cal_eq]; exact (callF_get (f := f17) rfl).trans rfl
theorem e18 {d : Nat} {a0 a1 : IV} {w : W} : cal (d + 1) 18 [a0, a1] w = fin w.length (evS (En0 d) b18 [some a0, some a1] w) := by unfold En0; rw [cal_eq]; exact (callF_get (f := f18) rfl).trans rfl
theorem e19 {d : Nat} {a0 a1 : IV} {w : W} : cal (d + 1) 19 [a0, a1] w = fin w.length (evS (En0 d) b19 [some a0, some a1, none, none, none] w) := by unfold En0; rw [cal_eq]; exact (callF_get (f := f19) rfl).trans rfl
theorem e20 {d : Nat} {a0 a1 : IV} {w : W} : cal (d + 1) 20 [a0, a1] w = fin w.length (evS (En0 d) b20 [some a0, some a1, none] w) := by unfold En0; rw [cal_eq]; exact (callF_get (f := f20) rfl).trans rfl
theorem e21 {d : Nat} {a0 a1 : IV} {w : W} : cal (d + 1) 21 [a0, a1] w = fin w.length (evS (En0 d) b21 [some a0, some a1, none, none, none, none] w) := by unfold En0; rw [cal_eq]; exact (callF_get (f := f21) rfl).trans rfl
theorem e22 {d : Nat} {a0 a1 : IV} {w : W} : cal (d + 1) 22 [a0, a1] w = fin w.length (evS (En0 d) b22 [some a0, some a1] w) := by unfold En0; rw [cal_eq]; exact (callF_get (f := f22) rfl).trans rfl
theorem e23 {d : Nat} {a0 a1 : IV} {w : W} : cal (d + 1) 23 [a0, a1] w = fin w.length (evS (En0 d) b23 [some a0, some a1] w) := by unfold En0; rw [cal_eq]; exact (callF_get (f := f23) rfl).trans rfl
theorem e24 {d : Nat} {a0 a1 : IV} {w : W} : cal (d + 1) 24 [a0, a1] w = fin w.length (evS (En0 d) b24 [some a0, some a1, none, none, none] w) := by unfold En0; rw [cal_eq]; exact (callF_get (f := f24) rfl).trans rfl
theorem e25 {d : Nat} {a0 : IV} {w : W} : cal (d + 1) 25 [a0] w = fin w.length (evS (En0 d) b25 [some a0, none] w) := by unfold En0; rw [cal_eq]; exact (callF_get (f := f25) rfl).trans rfl
theorem e26 {d : Nat} {a0 a1 : IV} {w : W} : cal (d + 1) 26 [a0, a1] w = fin w.length (evS (En0 d) b26 [some a0, some a1, none, none, none, none, none] w) := by unfold En0; rw [cal_eq]; exact (callF_get (f := f26) rfl).trans rfl
theorem e27 {d : Nat} {a0 a1 : IV} {w : W} : cal (d + 1) 27 [a0, a1] w = fin w.length (evS (En0 d) b27 [some a0, some a1, none, none, none] w) := by unfold En0; rw [cal_eq]; exact (callF_get (f := f27) rfl).trans rfl
theorem e28 {d : Nat} {a0 a1 : IV} {w : W} : cal (d + 1) 28 [a0, a1] w = fin w.length (evS (En0 d) b28 [some a0, some a1, none, none, none, none, none, none, none, none] w) := by unfold En0; rw [cal_eq]; exact (callF_get (f := f28) rfl).trans rfl
theorem e29 {d : Nat} {a0 a1 a2 : IV} {w : W} : cal (d + 1) 29 [a0, a1, a2] w = fin w.length (evS (En0 d) b29 [some a0, some a1, some a2, none, none, none] w) := by unfold En0; rw [cal_eq]; exact (callF_get (f := f29) rfl).trans rfl
theorem e30 {d : Nat} {a0 a1 : IV} {w : W} : cal (d + 1) 30 [a0, a1] w = fin w.length (evS (En0 d) b30 [some a0, some a1] w) := by unfold En0; rw [cal_eq]; exact (callF_get (f := f30) rfl).trans rfl
theorem e31 {d : Nat} {a0 : IV} {w : W} : cal (d + 1) 31 [a0] w = fin w.length (evS (En0 d) b31 [some a0, none, none, none, none, none] w) := by unfold En0; rw [cal_eq]; exact (callF_get (f := f31) rfl).trans rfl
theorem e32 {d : Nat} {a0 a1 : IV} {w : W} : cal (d + 1) 32 [a0, a1] w = fin w.length (evS (En0 d) b32 [some a0, some a1, none, none, none, none, none, none, none, none, none, none, none] w) := by unfold En0; rw [cal_eq]; exact (callF_get (f := f32) rfl).trans rfl
theorem e33 {d : Nat} {a0 : IV} {w : W} : cal (d + 1) 33 [a0] w = fin w.length (evS (En0 d) b33 [some a0, none] w) := by unfold En0; rw [cal_eq]; exact (callF_get (f := f33) rfl).trans rfl
theorem e34 {d : Nat} {a0 : IV} {w : W} : cal (d + 1) 34 [a0] w = fin w.length (evS (En0 d) b34 [some a0] w) := by unfold En0; rw [cal_eq]; exact (callF_get (f := f34) rfl).trans rfl
theorem e35 {d : Nat} {a0 a1 a2 : IV} {w : W} : cal (d + 1) 35 [a0, a1, a2] w = fin w.length (evS (En0 d) b35 [some a0, some a1, some a2] w) := by unfold En0; rw [cal_eq]; exact (callF_get (f := f35) rfl).trans rfl
theorem e36 {d : Nat} {a0 a1 : IV} {w : W} : cal (d + 1) 36 [a0, a1] w = fin w.length (evS (En0 d) b36 [some a0, some a1, none, none, none, none, none, none, none] w) := by unfold En0; rw [cal_eq]; exact (callF_get (f := f36) rfl).trans rfl
theorem e37 {d : Nat} {a0 : IV} {w : W} : cal (d + 1) 37 [a0] w = fin w.length (evS (En0 d) b37 [some a0, none, none, none, none] w) := by unfold En0; rw [cal_eq]; exact (callF_get (f := f37) rfl).trans rfl
theorem e38 {d : Nat} {a0 : IV} {w : W} : cal (d + 1) 38 [a0] w = fin w.length (evS (En0 d) b38 [some a0, none, none, none] w) := by unfold En0; rw [cal_eq]; exact (callF_get (f := f38) rfl).trans rfl
theorem e39 {d : Nat} {a0 a1 : IV} {w : W} : cal (d + 1) 39 [a0, a1] w = fin w.length (evS (En0 d) b39 [some a0, some a1, none, none, none, none, none, none, none, none] w) := by unfold En0; rw [cal_eq]; exact (callF_get (f := f39) rfl).trans rfl
theorem e40 {d : Nat} {a0 a1 : IV} {w : W} : cal (d + 1) 40 [a0, a1] w = fin w.length (evS (En0 d) b40 [some a0, some a1, none, none, none, none, none] w) := by unfold En0; rw [cal_eq]; exact (callF_get (f := f40) rfl).trans rfl
theorem e41 {d : Nat} {a0 a1 : IV} {w : W} : cal (d + 1) 41 [a0, a1] w = fin w.length (evS (En0 d) b41 [some a0, some a1, none, none, none] w) := by unfold En0; rw [cal_eq]; exact (callF_get (f := f41) rfl).trans rfl
theorem e42 {d : Nat} {a0 : IV} {w : W} : cal (d + 1) 42 [a0] w = fin w.length (evS (En0 d) b42 [some a0, none, none] w) := by unfold En0; rw [cal_eq]; exact (callF_get (f := f42) rfl).trans rfl
theorem e43 {d : Nat} {a0 : IV} {w : W} : cal (d + 1) 43 [a0] w = fin w.length (evS (En0 d) b43 [some a0, none, none, none, none] w) := by unfold En0; rw [cal_eq]; exact (callF_get (f := f43) rfl).trans rfl
theorem e44 {d : Nat} {a0 a1 : IV} {w : W} : cal (d + 1) 44 [a0, a1] w = fin w.length (evS (En0 d) b44 [some a0, some a1, none, none, none, none, none, none, none, none, none, none, none] w) := by unfold En0; rw [cal_eq]; exact (callF_get (f := f44) rfl).trans rfl
theorem e45 {d : Nat} {a0 : IV} {w : W} : cal (d + 1) 45 [a0] w = fin w.length (evS (En0 d) b45 [some a0, none, none, none, none, none, none, none, none, none] w) := by unfold En0; rw [cal_eq]; exact (callF_get (f := f45) rfl).trans rfl
theorem e46 {d : Nat} {a0 : IV} {w : W} : cal (d + 1) 46 [a0] w = fin w.length (evS (En0 d) b46 [some a0, none, none, none, none, none, none] w) := by unfold En0; rw [cal_eq]; exact (callF_get (f := f46) rfl).trans rfl
end Pv.k05

namespace Pv.k05
open PySem
variable {D : Nat} {w : W} {X : Nat → PyData → W → Prop} {f g : List Int}
theorem up {k D : Nat} (h : k ≤ D) : ∃ d, D = d + k := ⟨D - k, by omega⟩
theorem small_of {xs : List PyData} (h : xs.length ≤ 1000) : small (.tuple xs) := fun ys e => by cases e; exact Nat.le_trans h (by decide)
theorem log_le {n m k : Nat} (h : n < 2 ^ m) (hm : 0 < m) (hk : m ≤ k) : n.log2 < k := Nat.lt_of_lt_of_le (log_pow h hm) hk
theorem s0 (hD : 1 ≤ D) (x : PyData) (w : W) : cal D 0 [.d x] w = .ok (.d (.bool (isI x))) w := by
  obtain ⟨d, rfl⟩ := up hD
  rw [e0]; exact int_ok x
theorem s1 (hD : 1 ≤ D) {t b : Int} (hb : b ≠ 0) (h2 : b.natAbs.log2 < 9000) (w : W) : cal D 1 [.d (.int t), .d (.int b)] w = .ok (.d (nD ((t : Rat) / (b : Rat)))) w := by
  obtain ⟨d, rfl⟩ := up hD
  rw [e1]; exact lowest_ok hb h2
theorem s2 (hD : 2 ≤ D) {A B : Nat} {r s : Rat} (hr : Bd A r) (hs : Bd B s) (h0 : 0 < A + B) (hA : A + B ≤ 9000) (w : W) : cal D 2 [.d (nD r), .d (nD s)] w = .ok (.d (nD (r + s))) w := by
  obtain ⟨d, rfl⟩ := up hD
  rw [e2]; exact added_ok hr hs (by omega) (by omega) fun t b w b0 bl tl => s1 (by omega) (by omega) (log_le bl h0 hA) w
theorem s3 (hD : 1 ≤ D) (r : Rat) (w : W) : cal D 3 [.d (nD r)] w = .ok (.d (nD (-r))) w := by
  obtain ⟨d, rfl⟩ := up hD
  rw [e3]; exact opposite_ok
theorem s4 (hD : 2 ≤ D) {A B : Nat} {r s : Rat} (hr : Bd A r) (hs : Bd B s) (h0 : 0 < A + B) (hA : A + B ≤ 9000) (w : W) : cal D 4 [.d (nD r), .d (nD s)] w = .ok (.d (nD (r * s))) w := by
  obtain ⟨d, rfl⟩ := up hD
  rw [e4]; exact prodN_ok hr hs (by omega) (by omega) fun t b w b0 bl tl => s1 (by omega) (by omega) (log_le bl h0 hA) w
theorem s5 (hD : 2 ≤ D) {A B : Nat} {r s : Rat} (hr : Bd A r) (hs : Bd B s) (hz : s ≠ 0) (h0 : 0 < A + B) (hA : A + B ≤ 9000) (w : W) : cal D 5 [.d (nD r), .d (nD s)] w = .ok (.d (nD (r / s))) w := by
  obtain ⟨d, rfl⟩ := up hD
  rw [e5]; exact quotient_ok hr hs hz (by omega) (by omega) fun t b w b0 bl => s1 (by omega) b0 (log_le bl h0 hA) w
theorem s6 (hD : 2 ≤ D) (hl : f.length ≤ 1000) (hd : HdI f) (w : W) : cal D 6 [.d (iT f)] w = .ok (.d (.bool true)) w := by
  obtain ⟨d, rfl⟩ := up hD
  rw [e6, ← isPoly_iT hd]; exact poly_ok (small_of (by rw [iM_len]; exact hl)) fun y w => s0 (by omega) y w
theorem s7 (hD : 3 ≤ D) (hl : f.length ≤ 1000) (hd : HdI f) (w : W) : cal D 7 [.d (iT f)] w = .ok (.d .none) w := by
  obtain ⟨d, rfl⟩ := up hD
  rw [e7]; exact check_one_ok (s6 (by omega) hl hd w)
theorem s8 (hD : 4 ≤ D) {least : Int} (hl : f.length ≤ 1000) (hd : HdI f) (h : least + 1 ≤ f.length) (w : W) : cal D 8 [.d (iT f), .d (.int least)] w = .ok (.d .none) w := by
  obtain ⟨d, rfl⟩ := up hD
  rw [e8]; exact check_degree_ok (s7 (by omega) hl hd w) h
theorem s9 (hD : 1 ≤ D) (hl : f.length ≤ 1000) (w : W) : cal D 9 [.d (.list (iM f)), .d (.int 0)] w = .ok (.d (iT (stripI f))) w := by
  obtain ⟨d, rfl⟩ := up hD
  rw [e9]; exact stripped_int (.inl rfl) (by omega) rfl
theorem s9r (hD : 1 ≤ D) {f : List Rat} {m : Nat} (hw : w[m]? = some (.lst (rM f))) (hl : f.length ≤ 1000) : cal D 9 [.ref m, .d (.tuple [.int 0, .int 1])] w = .ok (.d (rT (strip f))) w := by
  obtain ⟨d, rfl⟩ := up hD
  rw [e9]; exact stripped_nref hw (by omega) rfl
theorem s9i (hD : 1 ≤ D) {m : Nat} (hw : w[m]? = some (.lst (iM f))) (hl : f.length ≤ 1000) : cal D 9 [.ref m, .d (.int 0)] w = .ok (.d (iT (stripI f))) w := by
  obtain ⟨d, rfl⟩ := up hD
  rw [e9]; exact stripped_iref hw (by omega) rfl
theorem s9n (hD : 1 ≤ D) {f : List Rat} (hl : f.length ≤ 1000) (w : W) : cal D 9 [.d (.list (rM f)), .d (.tuple [.int 0, .int 1])] w = .ok (.d (rT (strip f))) w := by
  obtain ⟨d, rfl⟩ := up hD
  rw [e9]; exact stripped_num (.inl rfl) (by omega) rfl
theorem s10 (hD : 1 ≤ D) {B : Nat} {k : Int} (hf : Sm B f) (hB : B ≤ 8000) (hk : okI k = true) (lf : f.length ≤ 1000) (w : W) : cal D 10 [.d (iT f), .d (.int k)] w = .ok (.d (iT (sclI k f))) w := by
  obtain ⟨d, rfl⟩ := up hD
  rw [e10]; exact scaled_by_ok hf hB hk lf
theorem s11 (hD : 1 ≤ D) (lf : f.length ≤ 1000) (w : W) : cal D 11 [.d (iT f)] w = .ok (.d (rT (toR f))) w := by
  obtain ⟨d, rfl⟩ := up hD
  rw [e11]; exact broken_ok lf
theorem s12 (hD : 3 ≤ D) {A B n : Nat} {left : List Rat} {b : Int} {g : List Int} (hb : b ≠ 0) (hg : Sm B (b :: g)) (hl : aN 1 A left) (hA : 1 ≤ A) (ll : left.length ≤ 400) (lg : g.length + 1 ≤ 400) (hn : n = left.length - g.length)
    (hsz : A * (2 * 2 ^ B) ^ n < 2 ^ 4000) (hB : 2 ^ B < 2 ^ 4000) (w : W) : cal D 12 [.d (rT left), .d (rT (toR (b :: g)))] w = .ok (.d (.tuple [rT (strip (dvF (toR (b :: g)) left n)), rT (strip (dvL (toR (b :: g)) left n))])) w := by
  obtain ⟨d, rfl⟩ := up hD
  rw [e12]
  exact broken_divided_ok hb hg hl hA ll lg hn hsz hB rfl (fun r s w h1 h2 h0 => s5 (by omega) h1 h2 h0 (by decide) (by decide) w) (fun r s w h1 h2 => s2 (by omega) h1 h2 (by decide) (by decide) w) (fun r w => s3 (by omega) r w) (fun r s w h1 h2 => s4 (by omega) h1 h2 (by decide) (by decide) w) (fun f m w hw hl => s9r (by omega) hw hl)
theorem s13 (hD : 1 ≤ D) (hf : Sm 7950 f) (h : HdI f) (lf : f.length ≤ 400) (w : W) : cal D 13 [.d (iT f)] w = .ok (.d (iT (bareI f))) w := by
  obtain ⟨d, rfl⟩ := up hD
  rw [e13]; exact bare_ok hf h lf
theorem s14 (hD : 2 ≤ D) (h : HdI f) (hf : Sm 7950 f) (lf : f.length ≤ 400) (w : W) : cal D 14 [.d (iT f)] w = .ok (.d (iT (prim f))) w := by
  obtain ⟨d, rfl⟩ := up hD
  rw [e14]
  refine lean_ok (s13 (by omega) hf h lf w) fun g w hg => ?_
  have l : (bareI f).length ≤ 400 := by
    unfold bareI
    split
    · rw [prim_len]; exact lf
    · rw [prim_len, List.length_map]; exact lf
  rw [hg]
  exact s10 (by omega) (Sm_bare hf) (by decide) (by decide) (by omega) w
theorem s15 (hD : 3 ≤ D) {e f g : List Int} {Eb a b : Nat} (H : RemIn e f g Eb a b) (w : W) (X : Nat → PyData → W → Prop) : Ret (RemPost e f g a b w) X (cal D 15 [.d (iT (mulI e f)), .d (iT (mulI e g))] w) := by
  obtain ⟨d, rfl⟩ := up hD
  rw [e15]
  exact rem_ok rfl H (fun L w h1 h2 h3 => s14 (by omega) h1 h2 h3 w) (fun r m w h1 h2 => s9i (by omega) h1 h2)
theorem s16 (hD : 4 ≤ D) {e f g : List Int} {Eb Z a b n : Nat} (hZ : Z ≤ 7900) (ce : cont e = 1) (de : HdI e) (he : 0 < e.headD 0) (se : Sm Eb e) (le : e.length ≤ 100)
    (df : HdI f) (dg : HdI g) (sf : Sm a f) (sg : Sm b g) (lf : f.length ≤ 100) (lg : g.length ≤ 100) (hn : okC Eb Z n f.length g.length a b = true) (w : W) (X : Nat → PyData → W → Prop) :
    Ret (fun v w' => w' = w ∧ ∃ d : List Int, v = .d (iT (bareI (mulI e d))) ∧ HdI d ∧ Sm Z (mulI e d) ∧ (f ≠ [] ∨ g ≠ [] → d ≠ []) ∧ IsG (toR f) (toR g) (toR d)) X (cal D 16 [.d (iT (mulI e f)), .d (iT (mulI e g))] w) := by
  obtain ⟨d, rfl⟩ := up hD
  rw [e16]
  exact common_of_ok hZ rfl ce de he se le df dg sf sg lf lg hn (fun f g a b w X H => s15 (by omega) H w X) (fun L w h1 h2 h3 => s13 (by omega) h2 h1 h3 w)
theorem s17 (hD : 5 ≤ D) {A B n : Nat} {b : Int} (hb : b ≠ 0) (df : HdI f) (hg : Sm B (b :: g)) (hf : ∀ a ∈ f, a.natAbs ≤ A) (hA : 1 ≤ A) (lf : f.length ≤ 400) (lg : g.length + 1 ≤ 400) (hn : n = f.length - g.length)
    (hsz : A * (2 * 2 ^ B) ^ n < 2 ^ 4000) (hB : 2 ^ B < 2 ^ 4000) (w : W) : cal D 17 [.d (iT f), .d (iT (b :: g))] w = .ok (.d (.tuple [rT (strip (dvF (toR (b :: g)) (toR f) n)), rT (strip (dvL (toR (b :: g)) (toR f) n))])) w := by
  obtain ⟨d, rfl⟩ := up hD
  rw [e17]
  refine divided_ok (s7 (by omega) (by omega) df w) (s8 (by omega) (by rw [List.length_cons]; omega) (fun a h => by cases h; exact hb) (by rw [List.length_cons]; omega) w) ?_ ?_
  · rintro h (rfl | rfl)
    · exact s11 (by omega) (by omega) w
    · exact s11 (by omega) (by rw [List.length_cons]; omega) w
  · exact s12 (by omega) hb hg (aN_toR hf) hA (by rw [toR_len]; exact lf) lg (by rw [toR_len]; exact hn) hsz hB w
theorem s18 (hD : 5 ≤ D) {e f g : List Int} {Eb Z a b n : Nat} (hZ : Z ≤ 7900) (ce : cont e = 1) (de : HdI e) (he : 0 < e.headD 0) (se : Sm Eb e) (le : e.length ≤ 100)
    (df : HdI f) (dg : HdI g) (sf : Sm a f) (sg : Sm b g) (lf : f.length ≤ 100) (lg : g.length ≤ 100) (hn : okC Eb Z n f.length g.length a b = true) (w : W) (X : Nat → PyData → W → Prop) :
    Ret (fun v w' => w' = w ∧ ∃ d : List Int, v = .d (iT (bareI (mulI e d))) ∧ HdI d ∧ Sm Z (mulI e d) ∧ (f ≠ [] ∨ g ≠ [] → d ≠ []) ∧ IsG (toR f) (toR g) (toR d)) X (cal D 18 [.d (iT (mulI e f)), .d (iT (mulI e g))] w) := by
  obtain ⟨d, rfl⟩ := up hD
  rw [e18]
  have l1 := mul_len e f
  have l2 := mul_len e g
  refine common_ok (P := fun v _ => ∃ d : List Int, v = .d (iT (bareI (mulI e d))) ∧ HdI d ∧ Sm Z (mulI e d) ∧ (f ≠ [] ∨ g ≠ [] → d ≠ []) ∧ IsG (toR f) (toR g) (toR d)) (s7 (by omega) (by omega) (HdI_mul de df) w) (s7 (by omega) (by omega) (HdI_mul de dg) w) ?_
  refine Ret.imp (s16 (by omega) hZ ce de he se le df dg sf sg lf lg hn w _) ?_
  rintro v w1 ⟨rfl, d, rfl, h⟩
  exact ⟨rfl, _, rfl, d, rfl, h⟩
theorem s19 (hD : 1 ≤ D) {n : Nat} {pot : List PyData} {many : Int} (hw : w[n]? = some (.lst pot)) (hp : PotOk pot) (hm : 0 < many) (hm2 : many.natAbs.log2 < 9000) :
    Ret (fun v w' => ∃ r pot', v = .d (.int r) ∧ 0 ≤ r ∧ r < many ∧ PotOk pot' ∧ w' = w.set n (.lst pot')) X (cal D 19 [.ref n, .d (.int many)] w) := by
  obtain ⟨d, rfl⟩ := up hD
  rw [e19]; exact take_ok hw hp hm hm2
theorem take19 (hD : 1 ≤ D) : TakeP (En0 D) 19 := fun hw hp hm h2 => s19 hD hw hp hm h2
theorem s20 : ∀ {n D : Nat} (hD : n + 1 ≤ D) {x : PyData} (hx : SameD n x) (w : W), cal D 20 [.d x, .d x] w = .ok (.d (.bool true)) w := by
  intro n
  induction n with
  | zero =>
    intro D hD x hx w
    obtain ⟨d, rfl⟩ := up hD
    rw [e20]; exact same_ok hx fun m y e => by omega
  | succ n ih =>
    intro D hD x hx w
    obtain ⟨d, rfl⟩ := up hD
    rw [show d + (n + 1 + 1) = (d + (n + 1)) + 1 by omega, e20]
    exact same_ok hx fun m y e hy w => ih (by omega) (by have : m = n := by omega
                                                         subst this; exact hy) w
theorem s21 (hD : 1 ≤ D) {t b : Int} (hb : b ≠ 0) (h1 : t.natAbs.log2 < 49000) (h2 : b.natAbs.log2 < 9000) (w : W) : cal D 21 [.d (.int t), .d (.int b)] w = .ok (.d (nD ((t : Rat) / (b : Rat)))) w := by
  obtain ⟨d, rfl⟩ := up hD
  rw [e21, ← low_nD hb]; exact low_ok hb h1 h2
theorem s21n (hD : 1 ≤ D) {A : Nat} {r : Rat} (hr : Bd A r) (h0 : 0 < A) (hA : A ≤ 9000) (w : W) : cal D 21 [.d (.int r.num), .d (.int (r.den : Int))] w = .ok (.d (nD r)) w := by
  rw [s21 hD (by have := den_pos r; omega) (log_le hr.1 h0 (by omega)) (log_le (n := ((r.den : Nat) : Int).natAbs) hr.2 h0 hA) w, ← rat_nd]
theorem s22 (hD : 2 ≤ D) {A B : Nat} {r s : Rat} (hr : Bd A r) (hs : Bd B s) (h0 : 0 < A + B) (hA : A + B ≤ 9000) (w : W) : cal D 22 [.d (nD r), .d (nD s)] w = .ok (.d (nD (r + s))) w := by
  obtain ⟨d, rfl⟩ := up hD
  rw [e22]; exact law_plus_ok hr hs (by omega) (by omega) fun t b w b0 bl tl => s21 (by omega) (by omega) (log_le tl (by omega) (by omega)) (log_le bl h0 hA) w
theorem s23 (hD : 2 ≤ D) {A B : Nat} {r s : Rat} (hr : Bd A r) (hs : Bd B s) (h0 : 0 < A + B) (hA : A + B ≤ 9000) (w : W) : cal D 23 [.d (nD r), .d (nD s)] w = .ok (.d (nD (r * s))) w := by
  obtain ⟨d, rfl⟩ := up hD
  rw [e23]; exact law_times_ok hr hs (by omega) (by omega) fun t b w b0 bl tl => s21 (by omega) (by omega) (log_le tl (by omega) (by omega)) (log_le bl h0 hA) w
theorem s25 (hD : 1 ≤ D) {x : PyData} (hx : x = .list (iM f) ∨ x = iT f) (hl : f.length ≤ 1000) (w : W) : cal D 25 [.d x] w = .ok (.d (iT (stripI f))) w := by
  obtain ⟨d, rfl⟩ := up hD
  rw [e25]; exact trim_int hx (by omega) rfl
theorem s25n (hD : 1 ≤ D) {f : List Rat} {x : PyData} (hx : x = .list (rM f) ∨ x = rT f) (hl : f.length ≤ 1000) (w : W) : cal D 25 [.d x] w = .ok (.d (rT (strip f))) w := by
  obtain ⟨d, rfl⟩ := up hD
  rw [e25]; exact trim_num hx (by omega) rfl
theorem s26 (hD : 2 ≤ D) (hf : f.length ≤ 500) (hg : g.length ≤ 500) (w : W) : cal D 26 [.d (iT f), .d (iT g)] w = .ok (.d (iT (addI f g))) w := by
  obtain ⟨d, rfl⟩ := up hD
  rw [e26]; exact law_sum_ok hf hg fun h w hl => s25 (by omega) (.inl rfl) hl w
theorem s27 (hD : 1 ≤ D) {B C : Nat} (hf : Sm B f) (hg : Sm C g) (hB : B ≤ 8000) (hC : C ≤ 8000) (lf : f.length ≤ 400) (lg : g.length ≤ 400) (w : W) : cal D 27 [.d (iT f), .d (iT g)] w = .ok (.d (iT (mulI f g))) w := by
  obtain ⟨d, rfl⟩ := up hD
  rw [e27]; exact product_ok hf hg hB hC lf lg
theorem s28 (hD : 2 ≤ D) {B C : Nat} {r : Rat} (hf : Sm B f) (hr : Bd C r) (lf : f.length ≤ 400) (hB : B ≤ 8000) (hC : C ≤ 1000) (h1 : C * f.length + 1 ≤ 9000) (w : W) : cal D 28 [.d (iT f), .d (nD r)] w = .ok (.d (nD (vl (toR f) r))) w := by
  obtain ⟨d, rfl⟩ := up hD
  rw [e28]
  exact law_at_ok hf hr.1 hr.2 lf hB (by omega) (by omega) fun t b w b0 bl tl => s21 (by omega) (by omega) (log_le tl (by omega) (by omega)) (log_small bl h1 (by omega)) w
theorem s29 (hD : 2 ≤ D) {n : Nat} {pot : List PyData} {most far : Int} (hm : 0 ≤ most) (hm2 : most ≤ 300) (hf : 1 ≤ far) (hf2 : far < 2 ^ 1000) (hw : w[n]? = some (.lst pot)) (hp : PotOk pot) :
    Ret (fun v w' => ∃ (f : List Int) (pot' : List PyData), v = .d (iT f) ∧ (f.length : Int) ≤ most + 1 ∧ (∀ a ∈ f, (a.natAbs : Int) ≤ far) ∧ HdI f ∧ PotOk pot' ∧ w' = w.set n (.lst pot')) X (cal D 29 [.ref n, .d (.int most), .d (.int far)] w) := by
  obtain ⟨d, rfl⟩ := up hD
  rw [e29]
  exact law_polynomial_ok hm hm2 hf hf2 hw hp (take19 (by omega)) fun h w hl => s25 (by omega) (.inl rfl) hl w
theorem s30 (hD : 2 ≤ D) {n : Nat} {pot : List PyData} {far : Int} (hf : 1 ≤ far) (hf2 : far < 2 ^ 1000) (hw : w[n]? = some (.lst pot)) (hp : PotOk pot) :
    Ret (fun v w' => ∃ (t b : Int) (pot' : List PyData), v = .d (nD ((t : Rat) / (b : Rat))) ∧ 0 < b ∧ (b ≤ far ∨ b ≤ 4) ∧ t.natAbs ≤ far ∧ PotOk pot' ∧ w' = w.set n (.lst pot')) X (cal D 30 [.ref n, .d (.int far)] w) := by
  obtain ⟨d, rfl⟩ := up hD
  rw [e30]
  exact law_drawn_ok hf hf2 hw hp (take19 (by omega)) fun t b w b0 bl tl => s21 (by omega) (by omega) (log_le tl (by decide) (by decide)) (log_le bl (by decide) (by decide)) w
theorem s31 (hD : 2 ≤ D) {n : Nat} {pot : List PyData} (hw : w[n]? = some (.lst pot)) (hp : PotOk pot) :
    Ret (fun v w' => ∃ (p : List Int) (pot' : List PyData), v = .d (iT p) ∧ p ∈ facL ∧ PotOk pot' ∧ w' = w.set n (.lst pot')) X (cal D 31 [.ref n] w) := by
  obtain ⟨d, rfl⟩ := up hD
  rw [e31]
  exact law_factor_ok hw hp (take19 (by omega)) (fun t b w b0 bl tl => s21 (by omega) (by omega) (log_le tl (by decide) (by decide)) (log_le bl (by decide) (by decide)) w)
theorem s40 (hD : 3 ≤ D) {f g : List Rat} (lf : f.length ≤ 400) (lg : g.length ≤ 400) (hf : bR f) (hg : bR g) (w : W) : cal D 40 [.d (rT f), .d (rT g)] w = .ok (.d (rT (addR f g))) w := by
  obtain ⟨d, rfl⟩ := up hD
  rw [e40]
  exact law_broken_sum_ok lf lg hf hg (fun r s w h1 h2 => s22 (by omega) h1 h2 (by decide) (by decide) w) (fun h w hl => s25n (by omega) (.inl rfl) hl w)
theorem s41 (hD : 3 ≤ D) {f g : List Rat} {Q : Int} {P : Nat} (hQ : Q ≠ 0) (hQ2 : Q.natAbs < 2 ^ 4000) (hP : ∀ a ∈ f, ∀ b ∈ g, isN Q P (a * b)) (hPs : f.length * P < 2 ^ 4000) (hf : bR f) (hg : bR g) (lf : f.length ≤ 400) (lg : g.length ≤ 400) (w : W) : cal D 41 [.d (rT f), .d (rT g)] w = .ok (.d (rT (mulR f g))) w := by
  obtain ⟨d, rfl⟩ := up hD
  rw [e41]
  exact law_broken_product_ok hQ hQ2 hP hPs hf hg lf lg (fun r s w h1 h2 => s22 (by omega) h1 h2 (by decide) (by decide) w) (fun r s w h1 h2 => s23 (by omega) h1 h2 (by decide) (by decide) w)
theorem s42 (hD : 2 ≤ D) {f : List Rat} (hf : bR f) (hh : HdR f) (lf : f.length ≤ 1000) (w : W) : cal D 42 [.d (rT f)] w = .ok (.d (.bool true)) w := by
  obtain ⟨d, rfl⟩ := up hD
  rw [e42]
  exact law_is_broken_ok hf hh lf fun r w h => s21n (by omega) h (by decide) (by decide) w
theorem s43 (hD : 1 ≤ D) (h : HdI f) (hf : Sm 8000 f) (lf : f.length ≤ 400) (w : W) : cal D 43 [.d (iT f)] w = .ok (.d (iT (bareI f))) w := by
  obtain ⟨d, rfl⟩ := up hD
  rw [e43]; exact law_bare_ok rfl hf h lf
theorem s44 (hD : 4 ≤ D) {n a s b t : Nat} (df : HdI f) (dg : HdI g) (sf : Sm a f) (sg : Sm b g) (a1 : 1 ≤ a) (b1 : 1 ≤ b) (s1 : 1 ≤ s) (t1 : 1 ≤ t) (lf : f.length ≤ 39) (lg : g.length ≤ 39) (hn : okR n f.length g.length a s b t = true) (w : W) :
    Ret (fun v w' => w' = w ∧ ∃ d : List Int, v = .d (iT (bareI d)) ∧ HdI d ∧ (f ≠ [] ∨ g ≠ [] → d ≠ []) ∧ IsG (toR f) (toR g) (toR d)) X (cal D 44 [.d (iT f), .d (iT g)] w) := by
  obtain ⟨d, rfl⟩ := up hD
  rw [e44]
  exact law_common_ok rfl df dg sf sg a1 b1 s1 t1 lf lg hn (fun r s w h1 h2 => s23 (by omega) h1 h2 (by decide) (by decide) w) (fun f g w h1 h2 h3 h4 => s40 (by omega) h1 h2 h3 h4 w) (fun t b w b0 bl tl => s21 (by omega) (by omega) (log_le tl (by decide) (by decide)) (log_le bl (by decide) (by decide)) w) (fun L w h1 h2 h3 => s43 (by omega) h1 h2 h3 w)
theorem s45 (hD : 3 ≤ D) {n : Nat} {pot : List PyData} (hw : w[n]? = some (.lst pot)) (hp : PotOk pot) :
    Ret (fun v w' => ∃ (U : List (List Int)) (e F G : List Int) (nE nF nG : Nat) (pot' : List PyData), v = .d (.tuple [iT (mulI e F), iT (mulI e G), iT e]) ∧ PO U e F G nE nF nG ∧ nE + nF + nG ≤ 6 ∧ PotOk pot' ∧ w' = w.set n (.lst pot')) X (cal D 45 [.ref n] w) := by
  obtain ⟨d, rfl⟩ := up hD
  rw [e45]
  exact law_pair_ok hw hp (take19 (by omega)) (fun pot w X h1 h2 => s31 (by omega) h1 h2) (fun f g w h1 h2 h3 h4 => s27 (by omega) h1 h2 (by decide) (by decide) h3 h4 w)
theorem sameI {h : List Int} (hl : h.length ≤ 1000000) : SameD 1 (iT h) := .tup (by rw [iM_len]; exact hl) fun y hy => by
  obtain ⟨a, _, rfl⟩ := List.mem_map.mp hy
  exact .int a
theorem sameN (r : Rat) : SameD 1 (nD r) := .tup (by simp) fun y hy => by
  simp only [List.mem_cons, List.not_mem_nil, or_false] at hy
  rcases hy with rfl | rfl <;> exact .int _
theorem sameR {h : List Rat} (hl : h.length ≤ 1000000) : SameD 2 (rT h) := .tup (by rw [rM_len]; exact hl) fun y hy => by
  obtain ⟨a, _, rfl⟩ := List.mem_map.mp hy
  exact sameN a
end Pv.k05

namespace Pv.k05
open PySem
variable {D : Nat} {w : W} {X : Nat → PyData → W → Prop} {f g : List Int}
theorem okC_all : ((List.range 7).all fun x => (List.range (7 - x)).all fun y => (List.range (2 * x + 2)).all fun p => (List.range (2 * y + 2)).all fun q => okC 31 7900 16 p q (3 + 5 * x) (3 + 5 * y)) = true := by decide +kernel
theorem okC_pair {x y p q : Nat} (h : x + y ≤ 6) (hp : p ≤ 1 + 2 * x) (hq : q ≤ 1 + 2 * y) : okC 31 7900 16 p q (3 + 5 * x) (3 + 5 * y) = true := by
  have h1 := List.all_eq_true.mp okC_all x (List.mem_range.mpr (by omega))
  have h2 := List.all_eq_true.mp h1 y (List.mem_range.mpr (by omega))
  have h3 := List.all_eq_true.mp h2 p (List.mem_range.mpr (by omega))
  exact List.all_eq_true.mp h3 q (List.mem_range.mpr (by omega))
theorem okC_small : ((List.range 8).all fun p => (List.range 8).all fun q => okC 1 450 12 p q 5 5 && okR 12 p q 5 1 5 1) = true := by decide +kernel
theorem okC_draw {p q : Nat} (hp : p ≤ 7) (hq : q ≤ 7) : okC 1 450 12 p q 5 5 = true ∧ okR 12 p q 5 1 5 1 = true := by
  have h1 := List.all_eq_true.mp okC_small p (List.mem_range.mpr (by omega))
  have h2 := List.all_eq_true.mp h1 q (List.mem_range.mpr (by omega))
  rw [Bool.and_eq_true] at h2
  exact h2
theorem same_l {xs : List PyData} (hD : 3 ≤ D) (hl : xs.length ≤ 1000000) (h : ∀ y ∈ xs, SameD 1 y) (w : W) : cal D 20 [.d (.list xs), .d (.list xs)] w = .ok (.d (.bool true)) w := s20 (n := 2) hD (.lst hl h) w
/-- a drawn pair's greatest divisor -/
theorem pair_eq (hD : 5 ≤ D) {U : List (List Int)} {e F G : List Int} {nE nF nG : Nat} (h : PO U e F G nE nF nG) (hT : nE + nF + nG ≤ 6) (w : W) : cal D 18 [.d (iT (mulI e F)), .d (iT (mulI e G))] w = .ok (.d (iT e)) w := by
  have le := h.le
  have lF := h.lF
  have lG := h.lG
  have en : e ≠ [] := fun z => by have := h.he; rw [z] at this; simp at this
  refine Ret.eq (X := fun _ _ _ => False) (Ret.imp (s18 hD (Z := 7900) (by decide) h.ce h.de h.he (h.se.mono (show 1 + 5 * nE ≤ 31 by omega)) (by omega) h.dF h.dG h.sF h.sG (by omega) (by omega) (okC_pair (by omega) lF lG) w _) ?_) (fun _ _ _ h => h)
  rintro v w1 ⟨rfl, d, rfl, dd, -, nd, hG⟩
  refine ⟨?_, rfl⟩
  have dn := nd (.inl h.f0)
  have mn : mulI e d ≠ [] := mul_ne en dn
  obtain ⟨b1, b2, b3, c, c0, hc⟩ := bare_props (HdI_mul h.de dd) mn
  have g1 : IsG (toR (mulI e F)) (toR (mulI e G)) (toR (mulI e d)) := hG.mul (toR e) (fun x => mulI_vl _ _ x) (fun x => mulI_vl _ _ x) (fun x => mulI_vl _ _ x)
  have g2 : IsG (toR (mulI e F)) (toR (mulI e G)) (toR (bareI (mulI e d))) := g1.val (fun _ => rfl) (fun _ => rfl) c0 hc
  have g3 : IsG (toR (mulI e F)) (toR (mulI e G)) (toR e) := h.cop.isG.mul (toR e) (fun x => mulI_vl _ _ x) (fun x => mulI_vl _ _ x) (fun x => by rw [vl_c]; grind)
  rw [IsG_uniq g2 g3 b1 h.de b2 h.ce b3 h.he]
theorem PO.symm {U : List (List Int)} {e F G : List Int} {nE nF nG : Nat} (h : PO U e F G nE nF nG) : PO U e G F nE nG nF :=
  ⟨h.ce, h.de, h.he, h.se, h.le, h.dG, h.g0, h.sG, h.lG, h.dF, h.f0, h.sF, h.lF, h.cop.comm, h.cG, h.cF⟩
theorem mul_one' {f : List Int} (h : HdI f) : mulI [1] f = f := toR_inj (vl_eq (HdR_toR (HdI_mul (fun a q => by cases q; decide) h)) (HdR_toR h) fun x => by
  rw [mulI_vl]
  show vl [((1 : Int) : Rat)] x * _ = _
  rw [vl_c, show ((1 : Int) : Rat) = 1 from rfl]; grind)
theorem Dv_len {d f : List Rat} (h : Dv d f) (hd : HdR d) (hf : HdR f) (nf : f ≠ []) : d.length ≤ f.length := by
  obtain ⟨k, hk⟩ := h
  have e : mulR d (strip k) = f := vl_eq (HdR_mul hd (HdR_strip k)) hf fun x => by rw [mulR_vl, vl_strip, hk]
  by_cases z : d = []
  · rw [z]; exact Nat.zero_le _
  by_cases y : strip k = []
  · rw [y, show mulR d [] = [] by unfold mulR; simp] at e
    exact absurd e.symm nf
  have := mulR_len z y
  have := List.length_pos_iff.mpr y
  rw [e] at *
  omega
/-- drawn ones' greatest divisor, by the program and by the law -/
theorem draw_eq (hD : 6 ≤ D) (df : HdI f) (dg : HdI g) (sf : Sm 5 f) (sg : Sm 5 g) (lf : f.length ≤ 7) (lg : g.length ≤ 7) :
    ∃ due : List Int, (∀ w, cal D 44 [.d (iT f), .d (iT g)] w = .ok (.d (iT due)) w) ∧ (∀ w, cal D 18 [.d (iT f), .d (iT g)] w = .ok (.d (iT due)) w) ∧ (∀ w, cal D 18 [.d (iT g), .d (iT f)] w = .ok (.d (iT due)) w) ∧
      HdI due ∧ Sm 450 due ∧ due.length ≤ 7 ∧ (due = [] → f = [] ∧ g = []) ∧ Dv (toR due) (toR f) ∧ Dv (toR due) (toR g) := by
  have o1 : HdI [1] := fun a q => by cases q; decide
  have oS : Sm 1 [1] := fun a q => by rw [List.mem_singleton.mp q]; decide
  have c44 := fun w => s44 (D := D) (by omega) (X := fun _ _ _ => False) df dg sf sg (by decide) (by decide) (by decide) (by decide) (by omega) (by omega) (okC_draw lf lg).2 w
  have cfg := fun w => s18 (D := D) (by omega) (e := [1]) (Z := 450) (by decide) rfl o1 (by decide) oS (by decide) df dg sf sg (by omega) (by omega) (okC_draw lf lg).1 w (fun _ _ _ => False)
  have cgf := fun w => s18 (D := D) (by omega) (e := [1]) (Z := 450) (by decide) rfl o1 (by decide) oS (by decide) dg df sg sf (by omega) (by omega) (okC_draw lg lf).1 w (fun _ _ _ => False)
  rw [mul_one' df, mul_one' dg] at cfg cgf
  have zero : ∀ {d : List Int}, HdI d → IsG [] [] (toR d) → d = [] := fun hd h => by
    obtain ⟨-, -, u, v, h⟩ := h
    exact vl_nil_I hd fun x => by rw [h x, vl_nil]; grind
  by_cases hz : f = [] ∧ g = []
  · obtain ⟨rfl, rfl⟩ := hz
    refine ⟨[], fun w => Ret.eq (X := fun _ _ _ => False) (Ret.imp (c44 w) ?_) (fun _ _ _ h => h), fun w => Ret.eq (X := fun _ _ _ => False) (Ret.imp (cfg w) ?_) (fun _ _ _ h => h), fun w => Ret.eq (X := fun _ _ _ => False) (Ret.imp (cgf w) ?_) (fun _ _ _ h => h), df, (fun a h => by cases h), by simp, fun _ => ⟨rfl, rfl⟩, ⟨[], fun x => by show vl [] x = vl [] x * vl [] x; rw [vl_nil]; grind⟩, ⟨[], fun x => by show vl [] x = vl [] x * vl [] x; rw [vl_nil]; grind⟩⟩
    · rintro v w1 ⟨rfl, d, rfl, dd, -, h⟩
      rw [zero dd h]
      exact ⟨rfl, rfl⟩
    · rintro v w1 ⟨rfl, d, rfl, dd, -, -, h⟩
      rw [zero dd h]
      exact ⟨rfl, rfl⟩
    · rintro v w1 ⟨rfl, d, rfl, dd, -, -, h⟩
      rw [zero dd h]
      exact ⟨rfl, rfl⟩
  · have hz' : f ≠ [] ∨ g ≠ [] := by
      by_cases a : f = []
      · exact .inr fun b => hz ⟨a, b⟩
      · exact .inl a
    -- the one that the program tells
    obtain ⟨d0, dd0, S0, n0, G0⟩ : ∃ d : List Int, HdI d ∧ Sm 450 d ∧ d ≠ [] ∧ IsG (toR f) (toR g) (toR d) := by
      have := cfg []
      cases hr : cal D 18 [.d (iT f), .d (iT g)] [] with
      | ok v w1 =>
        rw [hr] at this
        obtain ⟨-, d, -, dd, S, n, G⟩ := this
        rw [mul_one' dd] at S
        exact ⟨d, dd, S, n hz', G⟩
      | exc _ _ _ => rw [hr] at this; exact this.elim
      | no => rw [hr] at this; exact this.elim
    obtain ⟨b1, b2, b3, c, c0, hc⟩ := bare_props dd0 n0
    have GB : IsG (toR f) (toR g) (toR (bareI d0)) := G0.val (fun _ => rfl) (fun _ => rfl) c0 hc
    have same : ∀ {d : List Int}, HdI d → d ≠ [] → IsG (toR f) (toR g) (toR d) → bareI d = bareI d0 := fun dd n G => by
      obtain ⟨a1, a2, a3, c', c0', hc'⟩ := bare_props dd n
      exact IsG_uniq (G.val (fun _ => rfl) (fun _ => rfl) c0' hc') GB a1 b1 a2 b2 a3 b3
    have bn : bareI d0 ≠ [] := fun z => by rw [z] at b3; simp at b3
    refine ⟨bareI d0, fun w => Ret.eq (X := fun _ _ _ => False) (Ret.imp (c44 w) ?_) (fun _ _ _ h => h), fun w => Ret.eq (X := fun _ _ _ => False) (Ret.imp (cfg w) ?_) (fun _ _ _ h => h), fun w => Ret.eq (X := fun _ _ _ => False) (Ret.imp (cgf w) ?_) (fun _ _ _ h => h), b1, Sm_bare S0, ?_, fun z => absurd z bn, GB.1, GB.2.1⟩
    · rintro v w1 ⟨rfl, d, rfl, dd, n, h⟩
      rw [same dd (n hz') h]
      exact ⟨rfl, rfl⟩
    · rintro v w1 ⟨rfl, d, rfl, dd, -, n, h⟩
      rw [mul_one' dd, same dd (n hz') h]
      exact ⟨rfl, rfl⟩
    · rintro v w1 ⟨rfl, d, rfl, dd, -, n, h⟩
      rw [mul_one' dd, same dd (n hz'.symm) h.comm]
      exact ⟨rfl, rfl⟩
    · have tl : ∀ {h : List Int}, h ≠ [] → toR h ≠ [] := fun n z => n (toR_inj (z.trans rfl))
      rcases hz' with n | n
      · have := Dv_len GB.1 (HdR_toR b1) (HdR_toR df) (tl n)
        rw [toR_len, toR_len] at this
        omega
      · have := Dv_len GB.2.1 (HdR_toR b1) (HdR_toR dg) (tl n)
        rw [toR_len, toR_len] at this
        omega
/-- what is left of a multiple -/
theorem left_eq (hD : 6 ≤ D) {due : List Int} (df : HdI f) (sf : Sm 5 f) (lf : f.length ≤ 7) (dd : HdI due) (sd : Sm 450 due) (ld : due.length ≤ 7) (nd : due ≠ []) (h : Dv (toR due) (toR f)) :
    ∃ q : List Rat, ∀ w, cal D 17 [.d (iT f), .d (iT due)] w = .ok (.d (.tuple [rT q, rT []])) w := by
  cases due with
  | nil => exact absurd rfl nd
  | cons b g =>
    rw [List.length_cons] at ld
    have hb : b ≠ 0 := dd b rfl
    have hb' : (b : Rat) ≠ 0 := by intro y; exact hb (by exact_mod_cast y)
    obtain ⟨n, hn⟩ : ∃ n, n = f.length - g.length := ⟨_, rfl⟩
    have sz : 2 ^ 5 * (2 * 2 ^ 450) ^ n < 2 ^ 4000 := Nat.lt_of_le_of_lt (Nat.mul_le_mul_left _ (Nat.pow_le_pow_right (by decide) (show n ≤ 7 by omega))) (by decide +kernel)
    have c := fun w => s17 (D := D) (by omega) hb df sd (A := 2 ^ 5) (fun a ha => Nat.le_of_lt (sf a ha)) (by decide) (by omega) (by omega) hn sz (two_lt (by decide)) w
    obtain ⟨k, hk⟩ := h
    have hn' : n = (toR f).length - (toR g).length := by rw [toR_len, toR_len]; exact hn
    obtain ⟨e1, e2⟩ := div_is (left := toR f) (g := toR g) (b := (b : Rat)) (q := strip k) (r := []) hn' hb' (HdR_strip k) (fun a h => by cases h) (by simp) (fun x => by
      rw [vl_strip, vl_nil, hk x]
      show vl ((b : Rat) :: toR g) x * _ = _
      grind)
    have tR : toR (b :: g) = (b : Rat) :: toR g := rfl
    rw [tR] at c
    rw [e1, e2] at c
    exact ⟨strip k, c⟩
end Pv.k05

namespace Pv.k05
open PySem
theorem same_n {L : List (List Int)} {D : Nat} (hD : 3 ≤ D) (hl : L.length ≤ 10) (h : ∀ f ∈ L, f.length ≤ 1000) (w : W) : cal D 20 [.d (.list (L.map iT)), .d (.list (L.map iT))] w = .ok (.d (.bool true)) w :=
  same_l hD (by rw [List.length_map]; omega) (fun y hy => by
    obtain ⟨f, hf, rfl⟩ := List.mem_map.mp hy
    exact sameI (by have := h f hf; omega)) w
theorem nil_eq {D : Nat} (hD : 6 ≤ D) (w : W) : cal D 18 [.d (iT []), .d (iT [])] w = .ok (.d (iT [])) w := by
  have o1 : HdI [1] := fun a q => by cases q; decide
  have oS : Sm 1 [1] := fun a q => by rw [List.mem_singleton.mp q]; decide
  have n1 : HdI [] := fun a q => by cases q
  have n2 : Sm 5 [] := fun a q => by cases q
  have c := s18 (D := D) (by omega) (e := [1]) (f := []) (g := []) (Z := 450) (by decide) rfl o1 (by decide) oS (by decide) n1 n1 n2 n2 (by decide) (by decide) (okC_draw (by decide) (by decide)).1 w (fun _ _ _ => False)
  refine Ret.eq (X := fun _ _ _ => False) (Ret.imp c ?_) (fun _ _ _ h => h)
  rintro v w1 ⟨rfl, d, rfl, dd, -, -, -, -, u, v, h⟩
  have : d = [] := vl_nil_I dd fun x => by
    rw [h x]
    show _ * vl [] x + _ * vl [] x = 0
    rw [vl_nil]; grind
  rw [this]
  exact ⟨rfl, rfl⟩
theorem pure_law (ns : List Int) (h : ns.length ≤ 63) : ∃ w', cal (40 + 1) 46 [.d (.list (ns.map .int))] [] = .ok (.d (.bool true)) w' := by
  suffices q : Ret (fun v _ => v = .d (.bool true)) (fun _ _ _ => False) (cal (40 + 1) 46 [.d (.list (ns.map .int))] []) by
    cases hr : cal (40 + 1) 46 [.d (.list (ns.map .int))] [] with
    | ok v w => rw [hr] at q; exact ⟨w, by rw [show v = _ from q]⟩
    | exc _ _ _ => rw [hr] at q; exact q.elim
    | no => rw [hr] at q; exact q.elim
  have okl : ∀ k : Nat, k ≤ 1000 → okL k = true := fun k h => decide_eq_true (by omega)
  have lst : bltD .list [.list (ns.map PyData.int)] = some (.list (ns.map PyData.int)) := rfl
  rw [e46]
  unfold b46
  have r6 : rngD [.int 6] = some ((List.range 6).map fun (k : Nat) => .int k) := rng_nat (n := 6) (by omega)
  simp only [Ret_fin, RetS_cons, evS_asgN, RetS_onE, ev_new, Ret_bind, Ret_bin, Ret_lst, evA_cons, evA_nil, ev_cst, Ret_ok, purs_cons, purs_nil, Option.map_some, OptP_some, List.length_cons, List.length_nil, okl 3 (by omega), true_and, Ret_blt, ev_var, Ret_ofO, slot_cons0, rdAll_cons, rdAll_nil, rd_d, Option.bind_some, lst, add_ll, OptP_if, okl ((0 + 1 + 1 + 1) + (ns.map PyData.int).length) (by rw [List.length_map]; omega), newW_l, RetS_mk, sq_next]
  rw [if_pos trivial]
  refine RetS.nx (M := fun _ _ => True) ?_ (fun σ w _ => ?_)
  · simp only [RetS_for, Ret_rng, evA_cons, evA_nil, ev_cst, Ret_bind, Ret_ok, purs_cons, purs_nil, Option.map_some, OptP_some, r6, forP_dat]
    refine ⟨okl _ (by simp), ?_⟩
    refine forL_inv (fun k σ w => ∃ pot x0 x2 x3 x4 x5 x6, PotOk pot ∧ w = [Cell.lst pot] ∧ σ = [x0, some (.ref 0), x2, x3, x4, x5, x6])
      ⟨_, _, _, _, _, _, _, ⟨0, 7, 3, ns, rfl, by decide, by decide, by decide, by decide, by omega, h⟩, rfl, rfl⟩ ?_ (fun _ _ _ => trivial)
    rintro k z σ w hz ⟨pot, x0, x2, x3, x4, x5, x6, hp, rfl, rfl⟩
    rw [RetS_body, asg_nm, OptP_some, RetS_cons]
    refine RetS.nx (M := fun σ w => ∃ (U : List (List Int)) (e F G : List Int) (nE nF nG : Nat) (pot : List PyData), PO U e F G nE nF nG ∧ nE + nF + nG ≤ 6 ∧ PotOk pot ∧ w = [Cell.lst pot] ∧ σ = [x0, some (.ref 0), some (.d z), some (.d (iT e)), x4, some (.d (iT (mulI e F))), some (.d (iT (mulI e G)))]) ?_ ?_
    · rw [RetS_asgT]
      simp
      refine Ret.imp (s45 (by omega) (n := 0) rfl hp) ?_
      rintro v w1 ⟨U, e, F, G, nE, nF, nG, p1, rfl, hPO, hT, hp1, rfl⟩
      simp
      exact ⟨U, e, F, G, nE, nF, nG, hPO, hT, p1, hp1, rfl, rfl, rfl, rfl⟩
    rintro σ w ⟨U, e, F, G, nE, nF, nG, p1, hPO, hT, hp1, rfl, rfl⟩
    have c1 := fun w => pair_eq (D := 40) (by omega) hPO hT w
    have c2 := fun w => pair_eq (D := 40) (by omega) (PO.symm hPO) (by omega) w
    have le := hPO.le
    have s3 := fun w => same_n (D := 40) (L := [e, e, e]) (by omega) (by simp) (fun f hf => by
      simp only [List.mem_cons, List.not_mem_nil, or_false] at hf
      rcases hf with rfl | rfl | rfl <;> omega) w
    have s3' : ∀ w, cal 40 20 [.d (.list [iT e, iT e, iT e]), .d (.list [iT e, iT e, iT e])] w = .ok (.d (.bool true)) w := s3
    rw [RetS_cons]
    refine RetS.nx (M := fun σ w => w = [Cell.lst p1] ∧ σ = [x0, some (.ref 0), some (.d z), some (.d (iT e)), x4, some (.d (iT (mulI e F))), some (.d (iT (mulI e G)))]) ?_ ?_
    · have fl : (List.replicate (3 : Int).toNat [iT e]).flatten = [iT e, iT e, iT e] := rfl
      simp [c1, c2, okl, pick, pickG, s3']
    rintro σ w ⟨rfl, rfl⟩
    rw [RetS_cons]
    refine RetS.nx (M := fun σ w => ∃ (f g : List Int) (pot : List PyData), f.length ≤ 7 ∧ g.length ≤ 7 ∧ Sm 5 f ∧ Sm 5 g ∧ HdI f ∧ HdI g ∧ PotOk pot ∧ w = [Cell.lst pot] ∧ σ = [x0, some (.ref 0), some (.d z), some (.d (iT e)), x4, some (.d (iT f)), some (.d (iT g))]) ?_ ?_
    · simp [okl]
      refine Ret.imp (s29 (by omega) (n := 0) (by decide) (by decide) (by decide) (by decide) rfl hp1) ?_
      rintro v w1 ⟨f, p2, rfl, lf, sf, df, hp2, rfl⟩
      refine Ret.imp (s19 (by omega) (n := 0) rfl hp2 (by decide) (by decide)) ?_
      rintro v w1 ⟨q, p3, rfl, q0, q1, hp3, rfl⟩
      have hq : ∃ far : Int, 1 ≤ far ∧ far ≤ 20 ∧ subD (.list [.int 2, .int 20]) (.int q) = some (.int far) := by
        have : q = 0 ∨ q = 1 := by omega
        rcases this with rfl | rfl
        · exact ⟨2, by decide, by decide, rfl⟩
        · exact ⟨20, by decide, by decide, rfl⟩
      obtain ⟨far, f1, f2, e1⟩ := hq
      simp [e1]
      have far3 : far < 2 ^ 1000 := Int.lt_of_le_of_lt f2 (by decide +kernel)
      refine Ret.imp (s29 (by omega) (n := 0) (by decide) (by decide) f1 far3 rfl hp3) ?_
      rintro v w1 ⟨g, p4, rfl, lg, sg, dg, hp4, rfl⟩
      simp
      exact ⟨f, by omega, g, by omega, fun a ha => by have := sf a ha; omega, fun a ha => by have := sg a ha; omega, df, dg, p4, hp4, rfl, rfl, rfl⟩
    rintro σ w ⟨f, g, p2, lf, lg, sf, sg, df, dg, hp2, rfl, rfl⟩
    obtain ⟨due, c44, cfg, cgf, dd, sd, ld, zd, dvf, dvg⟩ := draw_eq (D := 40) (by omega) df dg sf sg lf lg
    rw [RetS_cons]
    refine RetS.nx (M := fun σ w => w = [Cell.lst p2] ∧ σ = [x0, some (.ref 0), some (.d z), some (.d (iT due)), x4, some (.d (iT f)), some (.d (iT g))]) ?_ ?_
    · simp [c44]
    rintro σ w ⟨rfl, rfl⟩
    have s2 : ∀ w, cal 40 20 [.d (.list [iT due, iT due]), .d (.list [iT due, iT due])] w = .ok (.d (.bool true)) w := fun w => same_n (D := 40) (L := [due, due]) (by omega) (by simp) (fun f hf => by
      simp only [List.mem_cons, List.not_mem_nil, or_false] at hf
      rcases hf with rfl | rfl <;> omega) w
    rw [RetS_cons]
    refine RetS.nx (M := fun σ w => w = [Cell.lst p2] ∧ σ = [x0, some (.ref 0), some (.d z), some (.d (iT due)), x4, some (.d (iT f)), some (.d (iT g))]) ?_ ?_
    · simp [cfg, cgf, okl, s2]
    rintro σ w ⟨rfl, rfl⟩
    simp only [RetS_cons]
    refine RetS.nx (M := fun σ w => w = [Cell.lst p2] ∧ ∃ x4, σ = [x0, some (.ref 0), some (.d z), some (.d (iT due)), x4, some (.d (iT f)), some (.d (iT g))]) ?_ ?_
    · simp only [RetS_for, Ret_seq, Ret_lst, evA_cons, evA_nil, ev_var, Ret_bind, Ret_ofO, slot_cons0, slot_cons, OptP_some, Ret_ok, purs_cons, purs_nil, Option.map_some, List.length_cons, List.length_nil, okl (0 + 1 + 1) (by omega), true_and, toIt_l, forP_dat]
      refine forL_inv (fun k σ w => w = [Cell.lst p2] ∧ ∃ x4, σ = [x0, some (.ref 0), some (.d z), some (.d (iT due)), x4, some (.d (iT f)), some (.d (iT g))]) ⟨rfl, _, rfl⟩ ?_ (fun _ _ h => h)
      rintro k y σ w hy ⟨rfl, x4, rfl⟩
      have fin : ∀ h : List Int, HdI h → Sm 5 h → h.length ≤ 7 → Dv (toR due) (toR h) → y = iT h → RetS (loopK (fun σ w => w = [Cell.lst p2] ∧ ∃ x4, σ = [x0, some (.ref 0), some (.d z), some (.d (iT due)), x4, some (.d (iT f)), some (.d (iT g))]) (Nx fun σ w => w = [Cell.lst p2] ∧ ∃ x4, σ = [x0, some (.ref 0), some (.d z), some (.d (iT due)), x4, some (.d (iT f)), some (.d (iT g))])) (bodyF (En0 40) (.nm 4) (.cons (.ifs (.and (.cmp .NotEq (.var 3) (.tup .nil)) (.not (.call 20 (.cons (.sub (.call 17 (.cons (.var 4) (.cons (.var 3) .nil))) (.cst (.int (1)))) (.cons (.tup .nil) .nil))))) (.cons (.ret (.cst (.bool false))) .nil) .nil) .nil) y [x0, some (.ref 0), some (.d z), some (.d (iT due)), x4, some (.d (iT f)), some (.d (iT g))] [Cell.lst p2]) := by
        rintro h dh sh lh dv rfl
        by_cases nd : due = []
        · simp [ne_unitI, nd, okl]
        · obtain ⟨q, c17⟩ := left_eq (D := 40) (by omega) dh sh lh dd sd ld nd dv
          have c2 : ∀ w, cal 40 20 [.d (rT []), .d (.tuple [])] w = .ok (.d (.bool true)) w := fun w => s20 (n := 1) (by omega) (sameI (h := []) (by simp)) w
          have t1 : ∀ a b : PyData, subD (.tuple [a, b]) (.int 1) = some b := fun _ _ => rfl
          simp [ne_unitI, nd, okl, c17, t1, c2]
      have hk : k < 2 := by
        have := (List.getElem?_eq_some_iff.mp hy).1
        simpa using this
      have : k = 0 ∨ k = 1 := by omega
      rcases this with rfl | rfl
      · exact fin f df sf lf dvf (by cases hy; rfl)
      · exact fin g dg sg lg dvg (by cases hy; rfl)
    rintro σ w ⟨rfl, x4', rfl⟩
    simp only [evS_nil, RetS_mk, sq_next, loopK_next]
    exact ⟨p2, _, _, _, _, _, _, hp2, by trivial, rfl⟩
  · have c1 := fun w => nil_eq (D := 40) (by omega) w
    have c1' : ∀ w, cal 40 18 [.d (.tuple []), .d (.tuple [])] w = .ok (.d (iT [])) w := c1
    have c2 : ∀ w, cal 40 20 [.d (iT []), .d (.tuple [])] w = .ok (.d (.bool true)) w := fun w => s20 (n := 1) (by omega) (sameI (by simp)) w
    simp [okl, c1', c2]
end Pv.k05

namespace Pv.k05
open PySem PySem.W PySem.Calls PyProof.Rows PySem.Spec
abbrev R : OpenRow := OpenLaw.row PySem.Challenge.rw_wholesigns_k05_whole_common_polynomials
abbrev q0 : Program := view R.prog [0, 55]
def loose : List PySem.Str := [("__name__" : PySem.Str), ("SignError" : PySem.Str), ("InvalidPolynomial" : PySem.Str), ("InvalidDegree" : PySem.Str), ("ZERO" : PySem.Str), ("is_integer" : PySem.Str), ("lowest" : PySem.Str), ("added" : PySem.Str), ("opposite" : PySem.Str), ("product" : PySem.Str), ("quotient" : PySem.Str), ("is_polynomial" : PySem.Str), ("check_polynomial" : PySem.Str), ("check_degree" : PySem.Str), ("stripped" : PySem.Str), ("scaled_by" : PySem.Str), ("broken" : PySem.Str), ("broken_divided" : PySem.Str), ("bare" : PySem.Str), ("lean" : PySem.Str), ("remainder_of" : PySem.Str), ("common_of" : PySem.Str), ("divided" : PySem.Str), ("common" : PySem.Str), ("_law_take" : PySem.Str), ("_law_same" : PySem.Str), ("_law_low" : PySem.Str), ("_law_plus" : PySem.Str), ("_law_times" : PySem.Str), ("_law_dot" : PySem.Str), ("_law_trim" : PySem.Str), ("_law_sum" : PySem.Str), ("_law_product" : PySem.Str), ("_law_at" : PySem.Str), ("_law_polynomial" : PySem.Str), ("_law_drawn" : PySem.Str), ("_law_factor" : PySem.Str), ("_law_planted" : PySem.Str), ("_law_surds" : PySem.Str), ("_law_sign" : PySem.Str), ("_law_sign_of_two" : PySem.Str), ("_law_order" : PySem.Str), ("_law_sorted" : PySem.Str), ("_law_all_surds" : PySem.Str), ("_law_sign_at" : PySem.Str), ("_law_broken_sum" : PySem.Str), ("_law_broken_product" : PySem.Str), ("_law_is_broken" : PySem.Str), ("_law_bare" : PySem.Str), ("_law_common" : PySem.Str), ("_law_pair" : PySem.Str)]
set_option maxRecDepth 1000000 in
theorem run (w : World) : HandSHeadRun.RunEqI R q0 (L.hook 4) (L.ob 4) 20000 loose w := by
  unfold HandSHeadRun.RunEqI
  kernel_rfl
end Pv.k05

namespace Pv.k05
theorem pure_all (ns : List Int) (h : ns.length ≤ 63) (_ : ∀ z ∈ ns, PySem.Builtin.Int.intBits z ≤ 1048576) : ∃ w', callF (prog L.fs) qq L.G (40 + 1) li [.d (.list (ns.map .int))] [] = .ok (.d (.bool true)) w' := by
  rw [← cal_eq]
  exact pure_law ns h
end Pv.k05
open PySem PySem.W PySem.Calls PyProof.Rows in
set_option maxRecDepth 100000 in
set_option maxHeartbeats 0 in
theorem PySem.Challenge.cw_wholesigns_k05_whole_common_polynomials_holds : PySem.Challenge.rw_wholesigns_k05_whole_common_polynomials.Holds := by
  w_on; o_law
  refine HandSHeadRun.head_imp (r := Pv.k05.R) (q := Pv.k05.q0) (H := Pv.k05.L.hook 4) (ob := Pv.k05.L.ob 4) (M := 20000) (loose := Pv.k05.loose) (d := HandSHeadRun.topDef Pv.k05.R.prog 55) (kwd := []) (Pv.k05.L.ob_eq 4) Pv.k05.run (by kernel_rfl) (by kernel_rfl) (by kernel_rfl) (by rfl) (by first | assumption | decide +kernel) (by decide +kernel) ⟨rfl, rfl, rfl, rfl, rfl, by decide +kernel⟩ ?hw ?hc
  case hw => w_witness2
  case hc => exact Pv.law_V (l := PySem.Challenge.rw_wholesigns_k05_whole_common_polynomials) (L := Pv.k05.L) (li := Pv.k05.li) (k := 40) rfl (by kernel_rfl) (by kernel_rfl) ⟨rfl, by decide, by decide⟩ Pv.k05.fine Pv.k05.pure_all
